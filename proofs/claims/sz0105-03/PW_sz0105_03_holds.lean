import PyProof.Rows.All
import Wide.All
import OpenK.AllK
import Wide.FinOn
import Lean
import PySem.Challenge.RW_sz0105_03
set_option Elab.async false
set_option autoImplicit false
set_option maxRecDepth 100000
set_option maxHeartbeats 8000000
set_option linter.all false
set_option tactic.hygienic false

section
namespace Mini
open PySem

inductive V where
  | none | bool (b : Bool) | int (i : Int) | str (s : Str) | tup (vs : List V) | loc (n : Nat) | rng (a b : Int) | scr (ns : List Int)
  deriving Inhabited

inductive MObj where
  | list (vs : List V)
  | dict (es : List (V × V))
  deriving Inhabited

noncomputable abbrev Store := List MObj

mutual
noncomputable def V.beq : V → V → Bool
  | .none, v => match v with | .none => true | _ => false
  | .bool a, v => match v with | .bool b => a == b | _ => false
  | .int a, v => match v with | .int b => decide (a = b) | _ => false
  | .str a, v => match v with | .str b => decide (a = b) | _ => false
  | .tup a, v => match v with | .tup b => V.beqs a b | _ => false
  | .loc a, v => match v with | .loc b => decide (a = b) | _ => false
  | .rng a b, v => match v with | .rng c d => decide (a = c) && decide (b = d) | _ => false
  | .scr a, v => match v with | .scr b => decide (a = b) | _ => false
noncomputable def V.beqs : List V → List V → Bool
  | [], l => match l with | [] => true | _ :: _ => false
  | a :: as, l => match l with | b :: bs => V.beq a b && V.beqs as bs | [] => false
end

mutual
theorem V.beq_iff : ∀ (a b : V), V.beq a b = true ↔ a = b
  | .none, b => by cases b <;> simp [V.beq]
  | .bool a, b => by cases b <;> simp [V.beq]
  | .int a, b => by cases b <;> simp [V.beq]
  | .str a, b => by cases b <;> simp [V.beq]
  | .loc a, b => by cases b <;> simp [V.beq]
  | .rng _ _, b => by cases b <;> simp [V.beq]
  | .scr a, b => by cases b <;> simp [V.beq]
  | .tup a, b => by
    cases b with
    | tup b => simp only [V.beq, V.tup.injEq]; exact V.beqs_iff a b
    | _ => simp [V.beq]
theorem V.beqs_iff : ∀ (a b : List V), V.beqs a b = true ↔ a = b
  | [], b => by cases b <;> simp [V.beqs]
  | a :: as, b => by
    cases b with
    | nil => simp [V.beqs]
    | cons b bs => simp only [V.beqs, Bool.and_eq_true, List.cons.injEq, V.beq_iff a b, V.beqs_iff as bs]
end

noncomputable def V.flat : Nat → V → Bool
  | _, .none => true
  | _, .int _ => true
  | _, .str _ => true
  | n + 1, .tup vs => vs.all (V.flat n)
  | _, _ => false

noncomputable def V.key : Nat → V → Bool
  | _, .int _ => true
  | n + 1, .tup vs => vs.all (V.key n)
  | _, _ => false

mutual
noncomputable def hashV : V → Int
  | .int i => hashInt i
  | .tup vs => reduceHash (Builtin.Tuple.tupleHashOf (hashVs vs))
  | _ => 0
noncomputable def hashVs : List V → List Int
  | [] => []
  | v :: vs => hashV v :: hashVs vs
end

theorem V.flat_of_key : ∀ {n : Nat} {v : V}, V.key n v = true → V.flat n v = true
  | _, .int _, _ => by simp [V.flat]
  | n + 1, .tup vs, h => by
    simp only [V.key, V.flat, List.all_eq_true] at h ⊢
    exact fun x hx => V.flat_of_key (h x hx)
  | 0, .tup vs, h => by simp [V.key] at h
  | _, .none, h => by simp [V.key] at h
  | _, .bool _, h => by simp [V.key] at h
  | _, .str _, h => by simp [V.key] at h
  | _, .loc _, h => by simp [V.key] at h
  | _, .rng _ _, h => by simp [V.key] at h
  | _, .scr _, h => by simp [V.key] at h

noncomputable abbrev LIM : Nat := 1000000

structure GG where
  prog : Program
  w : World
  base : Heap
  mg : Str → Option Value
  mb : Str → Option Value

noncomputable def TupAt (h : Heap) (a : Addr) (us : List Value) : Prop := ∃ n, IsT h a (List.toArray us) n
theorem TupAt.is {h : Heap} {a : Addr} {us : List Value} (t : TupAt h a us) : h.IsTuple a (List.toArray us) := by
  obtain ⟨n, ho⟩ := t; exact ⟨_, ho, rfl, n, rfl⟩

inductive TupR (h : Heap) (R : List Value → Prop) (u : Value) : Prop
  | mk (a : Addr) (us : List Value) (e : u = .ref a) (t : TupAt h a us) (r : R us) : TupR h R u
inductive ConsR (R₁ : Value → Prop) (R₂ : List Value → Prop) (us : List Value) : Prop
  | mk (u : Value) (us' : List Value) (e : us = u :: us') (r₁ : R₁ u) (r₂ : R₂ us') : ConsR R₁ R₂ us
inductive EntR (i : Int) (R₁ R₂ : Value → Prop) (R₃ : List DictEntry → Prop) (es : List DictEntry) : Prop
  | mk (e : DictEntry) (es' : List DictEntry) (q : es = e :: es') (hh : e.hash = i) (r₁ : R₁ e.key) (r₂ : R₂ e.val) (r₃ : R₃ es') : EntR i R₁ R₂ R₃ es
mutual
noncomputable def RepV (g : GG) (ρ : List Addr) (h : Heap) : V → Value → Prop
  | .none, u => u = .none
  | .bool b, u => u = .bool b
  | .int i, u => ∃ t, u = .int i t
  | .str x, u => ∃ t, u = .str x t
  | .tup vs, u => TupR h (RepVs g ρ h vs) u
  | .loc l, u => ∃ a, u = .ref a ∧ ρ[l]? = some a
  | .rng a b, u => ∃ r t t' t'', u = .ref r ∧ IsRange h r a b 1 t t' t''
  | .scr ns, u => ∃ a us, u = .ref a ∧ g.base.IsList a (List.toArray us) ∧ PyProof.Rows.IntsAre us ns
noncomputable def RepVs (g : GG) (ρ : List Addr) (h : Heap) : List V → List Value → Prop
  | [], us => us = []
  | v :: vs, us => ConsR (RepV g ρ h v) (RepVs g ρ h vs) us
end

noncomputable def RepEs (g : GG) (ρ : List Addr) (h : Heap) : List (V × V) → List DictEntry → Prop
  | [], es => es = []
  | (k, v) :: r, es => EntR (hashV k) (RepV g ρ h k) (RepV g ρ h v) (RepEs g ρ h r) es

noncomputable def keyOk (es : List (V × V)) : Prop := (es.map (·.1)).Nodup ∧ ∀ p ∈ es, V.key 6 p.1 = true

inductive ListR (g : GG) (ρ : List Addr) (h : Heap) (a : Addr) (vs : List V) : Prop
  | mk (l : vs.length ≤ LIM) (us : List Value) (n : Nat) (o : h.get? a = some { cls := .type "list", data := .seq (List.toArray us) n }) (r : RepVs g ρ h vs us) : ListR g ρ h a vs
inductive DictR (g : GG) (ρ : List Addr) (h : Heap) (a : Addr) (es : List (V × V)) : Prop
  | mk (l : es.length ≤ LIM) (k : keyOk es) (ents : List DictEntry) (o : h.get? a = some { cls := .type "dict", data := .dict (List.toArray ents) es.length }) (r : RepEs g ρ h es ents) : DictR g ρ h a es
noncomputable def ObjRep (g : GG) (ρ : List Addr) (h : Heap) (a : Addr) : MObj → Prop
  | .list vs => ListR g ρ h a vs
  | .dict es => DictR g ρ h a es

structure Sim (g : GG) (ρ : List Addr) (σ : Store) (h : Heap) : Prop where
  base : ∀ b o, g.base.get? b = some o → h.get? b = some o
  above : ∀ a ∈ ρ, g.base.get? a = none ∧ 1 < a
  low : ∃ o, g.base.get? cStatics = some o
  len : ρ.length = σ.length
  nodup : ρ.Nodup
  objs : ∀ (l : Nat) (o : MObj) (a : Addr), σ[l]? = some o → ρ[l]? = some a → ObjRep g ρ h a o

noncomputable def isImm (o : Obj) : Prop := (o.cls = .type "tuple" ∧ ∃ xs n, o.data = .seq xs n) ∨ (o.cls = .type "range" ∧ ∃ f, o.data = .fields f)

structure Step (g : GG) (X : Addr → Prop) (ρ : List Addr) (s s' : Shared) (ρ' : List Addr) : Prop where
  same : ∃ h' tk, s' = { s with heap := h', toks := tk }
  pre : ∃ t, ρ' = ρ ++ t
  new : ∀ a ∈ ρ', a ∈ ρ ∨ s.heap.get? a = none
  live : ∀ b o, s.heap.get? b = some o → ∃ o', s'.heap.get? b = some o'
  keep : ∀ b o, s.heap.get? b = some o → b ∉ ρ → ¬ X b → s'.heap.get? b = some o
  imm : ∀ b o, s.heap.get? b = some o → (isImm o ∨ ∃ o', g.base.get? b = some o') → s'.heap.get? b = some o

noncomputable def noX : Addr → Prop := fun _ => False

section
variable {g : GG} {X Y : Addr → Prop} {ρ ρ₁ ρ₂ : List Addr} {s s₁ s₂ : Shared} {h h' : Heap}

theorem Step.refl (g : GG) (X : Addr → Prop) (ρ : List Addr) (s : Shared) : Step g X ρ s s ρ :=
  ⟨⟨s.heap, s.toks, rfl⟩, ⟨[], by simp⟩, fun a ha => .inl ha, fun b o e => ⟨o, e⟩, fun b o e _ _ => e, fun b o e _ => e⟩

theorem Step.mono (S : Step g X ρ s s₁ ρ₁) (hXY : ∀ a, X a → Y a) : Step g Y ρ s s₁ ρ₁ :=
  ⟨S.same, S.pre, S.new, S.live, fun b o e h1 h2 => S.keep b o e h1 fun hx => h2 (hXY b hx), S.imm⟩

theorem Step.trans (S : Step g X ρ s s₁ ρ₁) (T : Step g X ρ₁ s₁ s₂ ρ₂) : Step g X ρ s s₂ ρ₂ := by
  refine ⟨?_, ?_, fun a ha => ?_, fun b o e => ?_, fun b o e h1 h2 => ?_, fun b o e hi => T.imm b o (S.imm b o e hi) hi⟩
  · obtain ⟨h1, t1, rfl⟩ := S.same
    obtain ⟨h2, t2, rfl⟩ := T.same
    exact ⟨h2, t2, rfl⟩
  · obtain ⟨t1, rfl⟩ := S.pre
    obtain ⟨t2, rfl⟩ := T.pre
    exact ⟨t1 ++ t2, by simp⟩
  · rcases T.new a ha with h1 | h1
    · exact S.new a h1
    · right
      cases hq : s.heap.get? a with
      | none => rfl
      | some o =>
        obtain ⟨o', e'⟩ := S.live a o hq
        rw [h1] at e'; cases e'
  · obtain ⟨o', e'⟩ := S.live b o e
    exact T.live b o' e'
  · refine T.keep b o (S.keep b o e h1 h2) (fun hb => ?_) h2
    rcases S.new b hb with h3 | h3
    · exact h1 h3
    · rw [e] at h3; cases h3

theorem Step.trans' (S : Step g X ρ s s₁ ρ₁) (T : Step g noX ρ₁ s₁ s₂ ρ₂) : Step g X ρ s s₂ ρ₂ := S.trans (T.mono fun _ h => h.elim)

theorem Step.drop (S : Step g X ρ s s₁ ρ₁) (h : ∀ a, X a → Y a ∨ s.heap.get? a = none) : Step g Y ρ s s₁ ρ₁ :=
  ⟨S.same, S.pre, S.new, S.live, fun b o e h1 h2 => S.keep b o e h1 fun hx => (h b hx).elim h2 fun hn => (by rw [e] at hn; cases hn), S.imm⟩

theorem pre_get {α : Type} {l t : List α} {i : Nat} {a : α} (h : l[i]? = some a) : (l ++ t)[i]? = some a := by
  rw [List.getElem?_append_left (List.getElem?_eq_some_iff.mp h).1]; exact h

noncomputable def Grow (g : GG) (h h' : Heap) : Prop := ∀ b o, h.get? b = some o → (isImm o ∨ ∃ o', g.base.get? b = some o') → h'.get? b = some o

mutual
theorem RepV.grow {ρ t : List Addr} {h h' : Heap} (H : Grow g h h') : ∀ {v : V} {u : Value}, RepV g ρ h v u → RepV g (ρ ++ t) h' v u
  | .none, _, e => e
  | .bool _, _, e => e
  | .int _, _, e => e
  | .str _, _, e => e
  | .tup vs, _, e => by
    obtain ⟨a, us, rfl, ⟨n, ho⟩, hr⟩ := e
    exact ⟨a, us, rfl, ⟨n, H a _ ho (.inl (.inl ⟨rfl, _, n, rfl⟩))⟩, RepVs.grow H hr⟩
  | .loc l, _, e => by
    obtain ⟨a, rfl, ha⟩ := e
    exact ⟨a, rfl, pre_get ha⟩
  | .rng _ _, _, e => by
    obtain ⟨r, t1, t2, t3, rfl, hr⟩ := e
    exact ⟨r, t1, t2, t3, rfl, H r _ hr (.inl (.inr ⟨rfl, _, rfl⟩))⟩
  | .scr _, _, e => e
theorem RepVs.grow {ρ t : List Addr} {h h' : Heap} (H : Grow g h h') : ∀ {vs : List V} {us : List Value}, RepVs g ρ h vs us → RepVs g (ρ ++ t) h' vs us
  | [], _, e => e
  | _ :: _, _, e => by
    obtain ⟨u, us', rfl, hv, hr⟩ := e
    exact ⟨u, us', rfl, RepV.grow H hv, RepVs.grow H hr⟩
end

theorem RepEs.grow {ρ t : List Addr} {h h' : Heap} (H : Grow g h h') : ∀ {es : List (V × V)} {ents : List DictEntry}, RepEs g ρ h es ents → RepEs g (ρ ++ t) h' es ents
  | [], _, e => e
  | (_, _) :: _, _, e => by
    obtain ⟨u, us', rfl, h1, h2, h3, hr⟩ := e
    exact ⟨u, us', rfl, h1, RepV.grow H h2, RepV.grow H h3, RepEs.grow H hr⟩

theorem RepV.step (S : Step g X ρ s s₁ ρ₁) {v : V} {u : Value} (h : RepV g ρ s.heap v u) : RepV g ρ₁ s₁.heap v u := by
  obtain ⟨t, rfl⟩ := S.pre; exact RepV.grow S.imm h
theorem RepVs.step (S : Step g X ρ s s₁ ρ₁) {v : List V} {u : List Value} (h : RepVs g ρ s.heap v u) : RepVs g ρ₁ s₁.heap v u := by
  obtain ⟨t, rfl⟩ := S.pre; exact RepVs.grow S.imm h
theorem RepEs.step (S : Step g X ρ s s₁ ρ₁) {v : List (V × V)} {u : List DictEntry} (h : RepEs g ρ s.heap v u) : RepEs g ρ₁ s₁.heap v u := by
  obtain ⟨t, rfl⟩ := S.pre; exact RepEs.grow S.imm h

theorem RepVs.length : ∀ {vs : List V} {us : List Value}, RepVs g ρ h vs us → us.length = vs.length
  | [], _, e => by subst e; rfl
  | _ :: _, _, e => by obtain ⟨u, us', rfl, _, hr⟩ := e; simp [RepVs.length hr]
theorem RepEs.length : ∀ {vs : List (V × V)} {us : List DictEntry}, RepEs g ρ h vs us → us.length = vs.length
  | [], _, e => by subst e; rfl
  | (_, _) :: _, _, e => by obtain ⟨u, us', rfl, _, _, _, hr⟩ := e; simp [RepEs.length hr]
theorem RepVs.get : ∀ {vs : List V} {us : List Value}, RepVs g ρ h vs us → ∀ {i : Nat} {v : V}, vs[i]? = some v → ∃ u, us[i]? = some u ∧ RepV g ρ h v u
  | [], _, _, i, v, hi => by simp at hi
  | _ :: _, _, e, i, v, hi => by
    obtain ⟨u, us', rfl, hv, hr⟩ := e
    cases i with
    | zero => simp at hi; subst hi; exact ⟨u, by simp, hv⟩
    | succ i => simp at hi; obtain ⟨u', h1, h2⟩ := hr.get hi; exact ⟨u', by simpa using h1, h2⟩
theorem RepVs.get' : ∀ {vs : List V} {us : List Value}, RepVs g ρ h vs us → ∀ {i : Nat} {u : Value}, us[i]? = some u → ∃ v, vs[i]? = some v ∧ RepV g ρ h v u
  | [], _, e, i, v, hi => by subst e; simp at hi
  | v :: _, _, e, i, u, hi => by
    obtain ⟨u, us', rfl, hv, hr⟩ := e
    cases i with
    | zero => simp at hi; subst hi; exact ⟨v, by simp, hv⟩
    | succ i => simp at hi; obtain ⟨u', h1, h2⟩ := hr.get' hi; exact ⟨u', by simpa using h1, h2⟩
theorem RepVs.append : ∀ {vs vs' : List V} {us us' : List Value}, RepVs g ρ h vs us → RepVs g ρ h vs' us' → RepVs g ρ h (vs ++ vs') (us ++ us')
  | [], _, _, _, e, f => by subst e; simpa using f
  | _ :: _, _, _, _, e, f => by obtain ⟨u, us', rfl, hv, hr⟩ := e; exact ⟨u, us' ++ _, rfl, hv, hr.append f⟩
theorem RepVs.single {v : V} {u : Value} (h1 : RepV g ρ h v u) : RepVs g ρ h [v] [u] := ⟨u, [], rfl, h1, rfl⟩
theorem RepVs.take : ∀ {vs : List V} {us : List Value} (n : Nat), RepVs g ρ h vs us → RepVs g ρ h (vs.take n) (us.take n)
  | _, _, 0, _ => by simp [RepVs]
  | [], _, n + 1, e => by subst e; simp [RepVs]
  | _ :: _, _, n + 1, e => by obtain ⟨u, us', rfl, hv, hr⟩ := e; exact ⟨u, us'.take n, by simp, hv, hr.take n⟩
theorem RepVs.drop : ∀ {vs : List V} {us : List Value} (n : Nat), RepVs g ρ h vs us → RepVs g ρ h (vs.drop n) (us.drop n)
  | _, _, 0, e => by simpa using e
  | [], _, n + 1, e => by subst e; simp [RepVs]
  | _ :: _, _, n + 1, e => by obtain ⟨u, us', rfl, hv, hr⟩ := e; simpa using hr.drop n
theorem RepVs.mem' {vs : List V} {us : List Value} (r : RepVs g ρ h vs us) {u : Value} (hu : u ∈ us) : ∃ v ∈ vs, RepV g ρ h v u := by
  obtain ⟨i, hi⟩ := List.mem_iff_getElem?.mp hu
  obtain ⟨v, h1, h2⟩ := r.get' hi
  exact ⟨v, List.mem_of_getElem? h1, h2⟩

theorem RepEs.get : ∀ {vs : List (V × V)} {us : List DictEntry}, RepEs g ρ h vs us → ∀ {i : Nat} {p : V × V}, vs[i]? = some p → ∃ e, us[i]? = some e ∧ e.hash = hashV p.1 ∧ RepV g ρ h p.1 e.key ∧ RepV g ρ h p.2 e.val
  | [], _, _, i, v, hi => by simp at hi
  | (_, _) :: _, _, e, i, v, hi => by
    obtain ⟨u, us', rfl, h1, h2, h3, hr⟩ := e
    cases i with
    | zero => simp at hi; subst hi; exact ⟨u, by simp, h1, h2, h3⟩
    | succ i => simp at hi; obtain ⟨u', h1, h2⟩ := hr.get hi; exact ⟨u', by simpa using h1, h2⟩
theorem RepEs.append : ∀ {vs vs' : List (V × V)} {us us' : List DictEntry}, RepEs g ρ h vs us → RepEs g ρ h vs' us' → RepEs g ρ h (vs ++ vs') (us ++ us')
  | [], _, _, _, e, f => by subst e; simpa using f
  | (_, _) :: _, _, _, _, e, f => by obtain ⟨u, us', rfl, h1, h2, h3, hr⟩ := e; exact ⟨u, us' ++ _, rfl, h1, h2, h3, hr.append f⟩

theorem ObjRep.grow {t : List Addr} (H : Grow g h h') {a : Addr} {m : MObj} (e : ObjRep g ρ h a m) (ha : h'.get? a = h.get? a) : ObjRep g (ρ ++ t) h' a m := by
  cases m with
  | list vs => obtain ⟨l, us, n, ho, hr⟩ := e; exact ⟨l, us, n, ha.trans ho, RepVs.grow H hr⟩
  | dict es => obtain ⟨l, k, us, ho, hr⟩ := e; exact ⟨l, k, us, ha.trans ho, RepEs.grow H hr⟩

theorem ObjRep.obj {a : Addr} {m : MObj} (e : ObjRep g ρ h a m) : ∃ o, h.get? a = some o ∧ ¬ isImm o := by
  cases m with
  | list vs => obtain ⟨l, us, n, ho, hr⟩ := e; exact ⟨_, ho, by simp [isImm]⟩
  | dict es => obtain ⟨l, k, us, ho, hr⟩ := e; exact ⟨_, ho, by simp [isImm]⟩

theorem Sim.get {σ : Store} (S : Sim g ρ σ h) {l : Nat} {a : Addr} (ha : ρ[l]? = some a) : ∃ o, σ[l]? = some o ∧ ObjRep g ρ h a o := by
  have hl : l < ρ.length := (List.getElem?_eq_some_iff.mp ha).1
  have hl' : l < σ.length := S.len ▸ hl
  exact ⟨σ[l], List.getElem?_eq_getElem hl', S.objs l _ a (List.getElem?_eq_getElem hl') ha⟩

theorem Sim.mem {σ : Store} (S : Sim g ρ σ h) {a : Addr} (ha : a ∈ ρ) : ∃ o, h.get? a = some o ∧ ¬ isImm o ∧ g.base.get? a = none := by
  obtain ⟨l, hl⟩ := List.mem_iff_getElem?.mp ha
  obtain ⟨o, _, ho⟩ := S.get hl
  obtain ⟨ob, h1, h2⟩ := ho.obj
  exact ⟨ob, h1, h2, (S.above a ha).1⟩

theorem Sim.big {σ : Store} (S : Sim g ρ σ h) : 1 < h.objs.size := by
  obtain ⟨o, e⟩ := S.low
  exact Nat.lt_trans (by decide) (Heap.lt_size (S.base _ _ e))

theorem Sim.notModules {σ : Store} (S : Sim g ρ σ h) {l : Nat} {a : Addr} (ha : ρ[l]? = some a) : (a == sysModules) = false := by
  have := (S.above a (List.mem_of_getElem? ha)).2
  have e : sysModules = 1 := rfl
  rw [e]; exact beq_eq_false_iff_ne.mpr (Nat.ne_of_gt this)

theorem noNew (h : Heap) : h.get? h.objs.size = none := by
  cases hq : h.get? h.objs.size with
  | none => rfl
  | some o => exact absurd (Heap.lt_size hq) (Nat.lt_irrefl _)

theorem Step.ext {tk : Nat} (hk : ∀ b o, s.heap.get? b = some o → h'.get? b = some o) : Step g X ρ s { s with heap := h', toks := tk } ρ :=
  ⟨⟨h', tk, rfl⟩, ⟨[], by simp⟩, fun a ha => .inl ha, fun b o e => ⟨o, hk b o e⟩, fun b o e _ _ => hk b o e, fun b o e _ => hk b o e⟩
theorem Step.ext' (hk : ∀ b o, s.heap.get? b = some o → h'.get? b = some o) : Step g X ρ s { s with heap := h' } ρ := Step.ext (tk := s.toks) hk
theorem Step.toks (tk : Nat) : Step g X ρ s { s with toks := tk } ρ := Step.ext (h' := s.heap) fun _ _ e => e

theorem Sim.ext {σ : Store} (S : Sim g ρ σ h) (hk : ∀ b o, h.get? b = some o → h'.get? b = some o) : Sim g ρ σ h' := by
  refine ⟨fun b o e => hk b o (S.base b o e), S.above, S.low, S.len, S.nodup, fun l o a h1 h2 => ?_⟩
  have H : Grow g h h' := fun b o e _ => hk b o e
  have e := S.objs l o a h1 h2
  obtain ⟨ob, ho, _⟩ := e.obj
  simpa using ObjRep.grow (t := []) H e ((hk a ob ho).trans ho.symm)

theorem Step.but {x : Addr} {tk : Nat} {ox ox' : Obj} (hx : s.heap.get? x = some ox) (hx' : h'.get? x = some ox') (hi : ¬ isImm ox) (hb : g.base.get? x = none) (hX : X x) (hk : ∀ b o, b ≠ x → s.heap.get? b = some o → h'.get? b = some o) :
    Step g X ρ s { s with heap := h', toks := tk } ρ := by
  refine ⟨⟨h', tk, rfl⟩, ⟨[], by simp⟩, fun a ha => .inl ha, fun b o e => ?_, fun b o e _ h2 => hk b o (fun q => h2 (q ▸ hX)) e, fun b o e hi' => ?_⟩
  · by_cases q : b = x
    · subst q; exact ⟨ox', hx'⟩
    · exact ⟨o, hk b o q e⟩
  · refine hk b o (fun q => ?_) e
    subst q
    rw [hx] at e; cases e
    rcases hi' with h1 | ⟨o', h1⟩
    · exact hi h1
    · rw [hb] at h1; cases h1

theorem Sim.but {σ : Store} (S : Sim g ρ σ h) {x : Addr} (hx : x ∉ ρ) {ox : Obj} (ho : h.get? x = some ox) (hi : ¬ isImm ox) (hb : g.base.get? x = none) (hk : ∀ b o, b ≠ x → h.get? b = some o → h'.get? b = some o) : Sim g ρ σ h' := by
  have H : Grow g h h' := fun b o e hi' => hk b o (fun q => by
    subst q
    rw [ho] at e; cases e
    rcases hi' with h1 | ⟨o', h1⟩
    · exact hi h1
    · rw [hb] at h1; cases h1) e
  refine ⟨fun b o e => H b o (S.base b o e) (.inr ⟨o, e⟩), S.above, S.low, S.len, S.nodup, fun l o a h1 h2 => ?_⟩
  have e := S.objs l o a h1 h2
  obtain ⟨ob, ho', _⟩ := e.obj
  have hne : a ≠ x := fun q => hx (q ▸ List.mem_of_getElem? h2)
  simpa using ObjRep.grow (t := []) H e ((hk a ob hne ho').trans ho'.symm)

theorem Sim.alloc {σ : Store} (S : Sim g ρ σ h) {a : Addr} {m : MObj} (ha : h.get? a = none) (h1a : 1 < a) (hk : ∀ b o, h.get? b = some o → h'.get? b = some o) (hr : ObjRep g (ρ ++ [a]) h' a m) : Sim g (ρ ++ [a]) (σ ++ [m]) h' := by
  have H : Grow g h h' := fun b o e _ => hk b o e
  refine ⟨fun b o e => hk b o (S.base b o e), fun x hx => ?_, S.low, by simp [S.len], ?_, fun l o x h1 h2 => ?_⟩
  · rcases List.mem_append.mp hx with h1 | h1
    · exact S.above x h1
    · simp at h1; subst h1
      refine ⟨?_, h1a⟩
      cases hq : g.base.get? x with
      | none => rfl
      | some o => rw [S.base x o hq] at ha; cases ha
  · rw [List.nodup_append]
    refine ⟨S.nodup, by simp, fun x hx y hy => ?_⟩
    simp at hy; subst hy
    intro q; subst q
    obtain ⟨o, ho, _⟩ := S.mem hx
    rw [ho] at ha; cases ha
  · by_cases hl : l < σ.length
    · rw [List.getElem?_append_left hl] at h1
      rw [List.getElem?_append_left (S.len ▸ hl)] at h2
      have e := S.objs l o x h1 h2
      obtain ⟨ob, ho', _⟩ := e.obj
      exact ObjRep.grow H e ((hk x ob ho').trans ho'.symm)
    · rw [List.getElem?_append_right (by lia)] at h1
      rw [List.getElem?_append_right (by rw [S.len]; lia)] at h2
      rw [S.len] at h2
      have hz : l - σ.length = 0 := by
        rcases Nat.lt_or_ge (l - σ.length) 1 with h3 | h3
        · lia
        · rw [List.getElem?_eq_none (by simpa using h3)] at h1; cases h1
      rw [hz] at h1 h2
      simp at h1 h2
      subst h1 h2
      exact hr

theorem Step.alloc {a : Addr} {tk : Nat} (ha : s.heap.get? a = none) (hk : ∀ b o, s.heap.get? b = some o → h'.get? b = some o) : Step g X ρ s { s with heap := h', toks := tk } (ρ ++ [a]) :=
  ⟨⟨h', tk, rfl⟩, ⟨[a], rfl⟩, fun x hx => (List.mem_append.mp hx).imp id fun h1 => by simp at h1; subst h1; exact ha, fun b o e => ⟨o, hk b o e⟩, fun b o e _ _ => hk b o e, fun b o e _ => hk b o e⟩

theorem Sim.set {σ : Store} (S : Sim g ρ σ h) {l : Nat} {a : Addr} {m : MObj} (ha : ρ[l]? = some a) (hk : ∀ b o, b ≠ a → h.get? b = some o → h'.get? b = some o) (hr : ObjRep g ρ h' a m) : Sim g ρ (σ.set l m) h' := by
  have hmem : a ∈ ρ := List.mem_of_getElem? ha
  obtain ⟨oa, hoa, hia, hba⟩ := S.mem hmem
  have H : Grow g h h' := fun b o e hi' => hk b o (fun q => by
    subst q
    rw [hoa] at e; cases e
    rcases hi' with h1 | ⟨o', h1⟩
    · exact hia h1
    · rw [hba] at h1; cases h1) e
  refine ⟨fun b o e => H b o (S.base b o e) (.inr ⟨o, e⟩), S.above, S.low, by simp [S.len], S.nodup, fun l' o x h1 h2 => ?_⟩
  by_cases hl : l' = l
  · subst hl
    rw [ha] at h2; cases h2
    have : l' < σ.length := by
      rcases Nat.lt_or_ge l' σ.length with h3 | h3
      · exact h3
      · rw [List.getElem?_eq_none (by simpa using h3)] at h1; cases h1
    rw [List.getElem?_set_self this] at h1; cases h1
    exact hr
  · rw [List.getElem?_set_ne (fun q => hl q.symm)] at h1
    have e := S.objs l' o x h1 h2
    obtain ⟨ob, ho', _⟩ := e.obj
    have hne : x ≠ a := fun q => by
      subst q
      exact hl ((List.getElem?_inj (List.getElem?_eq_some_iff.mp h2).1 S.nodup).mp (h2.trans ha.symm))
    simpa using ObjRep.grow (t := []) H e ((hk x ob hne ho').trans ho'.symm)

theorem Step.set {σ : Store} (S : Sim g ρ σ s.heap) {l : Nat} {a : Addr} {tk : Nat} {oa' : Obj} (ha : ρ[l]? = some a) (ha' : h'.get? a = some oa') (hk : ∀ b o, b ≠ a → s.heap.get? b = some o → h'.get? b = some o) :
    Step g X ρ s { s with heap := h', toks := tk } ρ := by
  have hmem : a ∈ ρ := List.mem_of_getElem? ha
  obtain ⟨oa, hoa, hia, hba⟩ := S.mem hmem
  refine ⟨⟨h', tk, rfl⟩, ⟨[], by simp⟩, fun a ha => .inl ha, fun b o e => ?_, fun b o e h1 _ => hk b o (fun q => h1 (q ▸ hmem)) e, fun b o e hi' => ?_⟩
  · by_cases q : b = a
    · subst q; exact ⟨oa', ha'⟩
    · exact ⟨o, hk b o q e⟩
  · refine hk b o (fun q => ?_) e
    subst q
    rw [hoa] at e; cases e
    rcases hi' with h1 | ⟨o', h1⟩
    · exact hia h1
    · rw [hba] at h1; cases h1
end

end Mini
end

section
namespace Mini
open PySem PySem.SeqAt

structure Room (k : Nat) (A : Around) : Prop where
  hh : A.handled = none
  depth : A.depth + k < 600
  units : A.units + 20 * k < 8000

theorem Room.lt {k : Nat} {A : Around} (r : Room k A) (n : Nat) (h : n ≤ 1800 := by lia) : A.units + n < cLine := by
  have := r.units; have : cLine = 9900 := rfl; lia
section
variable {g : GG} {ρ : List Addr} {s : Shared} {A : Around}

theorem getD_at {α : Type} (l : List α) (j : Nat) (d : α) (h : j < l.length) : l.getD j d = l[j] := by simp [List.getD, h]

mutual
theorem RepV.inj {h : Heap} : ∀ {n m : Nat} {a b : V} {u : Value}, V.flat n a = true → V.flat m b = true → RepV g ρ h a u → RepV g ρ h b u → a = b
  | _, _, .none, b, _, _, hb, ra, rb => by cases ra; cases b <;> first | (obtain ⟨_, _, e, _, _⟩ := rb; cases e; done) | simp_all [RepV, V.flat]
  | _, _, .int i, b, _, _, hb, ra, rb => by obtain ⟨t, rfl⟩ := ra; cases b <;> first | (obtain ⟨_, _, e, _, _⟩ := rb; cases e; done) | simp_all [RepV, V.flat]
  | _, _, .str i, b, _, _, hb, ra, rb => by obtain ⟨t, rfl⟩ := ra; cases b <;> first | (obtain ⟨_, _, e, _, _⟩ := rb; cases e; done) | simp_all [RepV, V.flat]
  | n, m, .tup vs, b, _, ha, hb, ra, rb => by
    obtain ⟨l, us, rfl, ⟨q, ho⟩, hr⟩ := ra
    cases b with
    | tup ws =>
      obtain ⟨l', us', e, ⟨q', ho'⟩, hr'⟩ := rb
      cases e
      have hoo : some _ = some _ := ho.symm.trans ho'
      injection hoo with hoo
      injection hoo with _ _ hoo _
      injection hoo with hoo _
      have hoo := congrArg Array.toList hoo
      simp only at hoo
      subst hoo
      cases n with
      | zero => simp [V.flat] at ha
      | succ n =>
        cases m with
        | zero => simp [V.flat] at hb
        | succ m =>
          simp only [V.flat, List.all_eq_true] at ha hb
          rw [RepVs.inj ha hb hr hr']
    | none => cases rb
    | int j => obtain ⟨t, e⟩ := rb; cases e
    | str j => obtain ⟨t, e⟩ := rb; cases e
    | bool j => cases rb
    | loc j => cases m <;> simp [V.flat] at hb
    | rng j k => cases m <;> simp [V.flat] at hb
    | scr j => cases m <;> simp [V.flat] at hb
  | n, _, .bool b, _, _, ha, _, _, _ => by cases n <;> simp [V.flat] at ha
  | n, _, .loc b, _, _, ha, _, _, _ => by cases n <;> simp [V.flat] at ha
  | n, _, .rng b _, _, _, ha, _, _, _ => by cases n <;> simp [V.flat] at ha
  | n, _, .scr b, _, _, ha, _, _, _ => by cases n <;> simp [V.flat] at ha
theorem RepVs.inj {h : Heap} : ∀ {n m : Nat} {as bs : List V} {us : List Value}, (∀ v ∈ as, V.flat n v = true) → (∀ v ∈ bs, V.flat m v = true) → RepVs g ρ h as us → RepVs g ρ h bs us → as = bs
  | _, _, [], [], _, _, _, _, _ => rfl
  | _, _, [], _ :: _, _, _, _, ra, rb => by cases ra; obtain ⟨_, _, e, _⟩ := rb; cases e
  | _, _, _ :: _, [], _, _, _, ra, rb => by cases rb; obtain ⟨_, _, e, _⟩ := ra; cases e
  | _, _, a :: as, b :: bs, _, ha, hb, ra, rb => by
    obtain ⟨u, us, rfl, h1, h2⟩ := ra
    obtain ⟨u', us', e, h1', h2'⟩ := rb
    cases e
    rw [RepV.inj (ha a (by simp)) (hb b (by simp)) h1 h1', RepVs.inj (fun v hv => ha v (by simp [hv])) (fun v hv => hb v (by simp [hv])) h2 h2']
end

theorem beqs_range : ∀ (as bs : List V) (e : Nat → Bool), (∀ j (h1 : j < as.length) (h2 : j < bs.length), e j = V.beq as[j] bs[j]) →
    ((List.range (min as.length bs.length)).all e && as.length == bs.length) = V.beqs as bs
  | [], [], _, _ => rfl
  | [], _ :: _, _, _ => by simp [V.beqs]
  | _ :: _, [], _, _ => by simp [V.beqs]
  | a :: as, b :: bs, e, h => by
    have h0 : e 0 = V.beq a b := h 0 (by simp) (by simp)
    have ih := beqs_range as bs (fun j => e (j + 1)) fun j h1 h2 => by
      have := h (j + 1) (by simpa using h1) (by simpa using h2)
      simpa using this
    rw [V.beqs, ← ih]
    simp only [List.length_cons, Nat.add_min_add_right, List.range_succ_eq_map, List.all_cons, List.all_map, Function.comp_def, h0]
    rw [show (as.length + 1 == bs.length + 1) = (as.length == bs.length) from by simp, Bool.and_assoc]

theorem eqAt_V : ∀ (n : Nat) {a b : V} {u v : Value} {A : Around}, V.flat n a = true → V.flat n b = true → RepV g ρ s.heap a u → RepV g ρ s.heap b v → A.units + n < cLine →
    EqAt A s u v (V.beq a b) := by
  intro n
  induction n with
  | zero =>
    intro a b u v A ha hb ra rb hu
    cases a with
    | none =>
      cases b with
      | none => cases ra; cases rb; simp only [V.beq]; exact EqAt.same _
      | int i => cases ra; obtain ⟨t, rfl⟩ := rb; simp only [V.beq]; exact EqAt.none_int _ _
      | str x => cases ra; obtain ⟨t, rfl⟩ := rb; simp only [V.beq]; exact EqAt.none_str _ _
      | _ => simp [V.flat] at hb
    | int i =>
      obtain ⟨t, rfl⟩ := ra
      cases b with
      | none => cases rb; simp only [V.beq]; exact EqAt.int_none _ _
      | int j => obtain ⟨t', rfl⟩ := rb; simp only [V.beq]; exact EqAt.int_int i t j t'
      | str x => obtain ⟨t', rfl⟩ := rb; simp only [V.beq]; exact EqAt.int_str _ _ _ _
      | _ => simp [V.flat] at hb
    | str x =>
      obtain ⟨t, rfl⟩ := ra
      cases b with
      | none => cases rb; simp only [V.beq]; exact EqAt.str_none _ _
      | int j => obtain ⟨t', rfl⟩ := rb; simp only [V.beq]; exact EqAt.str_int _ _ _ _
      | str y => obtain ⟨t', rfl⟩ := rb; simp only [V.beq]; exact EqAt.str_str x t y t'
      | _ => simp [V.flat] at hb
    | _ => simp [V.flat] at ha
  | succ n ih =>
    intro a b u v A ha hb ra rb hu
    cases a with
    | none =>
      cases b with
      | none => cases ra; cases rb; simp only [V.beq]; exact EqAt.same _
      | int i => cases ra; obtain ⟨t, rfl⟩ := rb; simp only [V.beq]; exact EqAt.none_int _ _
      | str x => cases ra; obtain ⟨t, rfl⟩ := rb; simp only [V.beq]; exact EqAt.none_str _ _
      | tup vs => cases ra; obtain ⟨l, us, rfl, hl, hr⟩ := rb; simp only [V.beq]; exact EqAt.none_tuple hl.is (by lia)
      | _ => simp [V.flat] at hb
    | int i =>
      obtain ⟨t, rfl⟩ := ra
      cases b with
      | none => cases rb; simp only [V.beq]; exact EqAt.int_none _ _
      | int j => obtain ⟨t', rfl⟩ := rb; simp only [V.beq]; exact EqAt.int_int i t j t'
      | str x => obtain ⟨t', rfl⟩ := rb; simp only [V.beq]; exact EqAt.int_str _ _ _ _
      | tup vs => obtain ⟨l, us, rfl, hl, hr⟩ := rb; simp only [V.beq]; exact EqAt.int_tuple i t hl.is (by lia)
      | _ => simp [V.flat] at hb
    | str x =>
      obtain ⟨t, rfl⟩ := ra
      cases b with
      | none => cases rb; simp only [V.beq]; exact EqAt.str_none _ _
      | int j => obtain ⟨t', rfl⟩ := rb; simp only [V.beq]; exact EqAt.str_int _ _ _ _
      | str y => obtain ⟨t', rfl⟩ := rb; simp only [V.beq]; exact EqAt.str_str x t y t'
      | tup vs => obtain ⟨l, us, rfl, hl, hr⟩ := rb; simp only [V.beq]; exact EqAt.str_tuple x t hl.is (by lia)
      | _ => simp [V.flat] at hb
    | tup vs =>
      obtain ⟨l, us, rfl, hl, hr⟩ := ra
      cases b with
      | none => cases rb; simp only [V.beq]; exact EqAt.tuple_none hl.is (by lia)
      | int j => obtain ⟨t', rfl⟩ := rb; simp only [V.beq]; exact EqAt.tuple_int j t' hl.is (by lia)
      | str y => obtain ⟨t', rfl⟩ := rb; simp only [V.beq]; exact EqAt.tuple_str y t' hl.is (by lia)
      | tup ws =>
        obtain ⟨l', us', rfl, hl', hr'⟩ := rb
        have rc : RcAt A s (.ref l) (.ref l') (V.beqs vs ws) := by
          have hlen := hr.length
          have hlen' := hr'.length
          have items : ∀ j (h1 : j < us.toArray.size) (h2 : j < us'.toArray.size), EqAt A.in1 s us.toArray[j] us'.toArray[j] (V.beq (vs.getD j .none) (ws.getD j .none)) := fun j h1 h2 => by
            have h1' : j < vs.length := by simpa [hlen] using h1
            have h2' : j < ws.length := by simpa [hlen'] using h2
            obtain ⟨x, hx, hxr⟩ := hr.get (List.getElem?_eq_getElem h1')
            obtain ⟨y, hy, hyr⟩ := hr'.get (List.getElem?_eq_getElem h2')
            have ex : us.toArray[j] = x := by
              have := List.getElem?_eq_some_iff.mp hx; obtain ⟨q, e⟩ := this; simpa using e
            have ey : us'.toArray[j] = y := by
              have := List.getElem?_eq_some_iff.mp hy; obtain ⟨q, e⟩ := this; simpa using e
            rw [ex, ey, getD_at _ _ _ h1', getD_at _ _ _ h2']
            simp only [V.flat, List.all_eq_true] at ha hb
            exact ih (ha _ (List.getElem_mem h1')) (hb _ (List.getElem_mem h2')) hxr hyr (by show A.units + 1 + n < cLine; lia)
          have := RcAt.tuples (e := fun j => V.beq (vs.getD j .none) (ws.getD j .none)) hl.is hl'.is (by lia) items
          simp only [List.size_toArray, hlen, hlen'] at this
          rwa [beqs_range vs ws _ fun j h1 h2 => by rw [getD_at _ _ _ h1, getD_at _ _ _ h2]] at this
        show EqAt A s _ _ (V.beqs vs ws)
        by_cases q : l = l'
        · subst q
          have e : V.tup vs = V.tup ws := RepV.inj ha hb ⟨l, us, rfl, hl, hr⟩ ⟨l, us', rfl, hl', hr'⟩
          cases e
          rw [(V.beqs_iff vs vs).mpr rfl]
          exact EqAt.same _
        · exact EqAt.of_refs q rc
      | _ => simp [V.flat] at hb
    | _ => simp [V.flat] at ha
end
end Mini
end

section
namespace Mini
open PySem PySem.SeqAt

mutual
noncomputable def V.lt : V → V → Option Bool
  | .int a, v => match v with | .int b => some (decide (a < b)) | _ => Option.none
  | .tup a, v => match v with | .tup b => V.lts a b | _ => Option.none
  | _, _ => Option.none
noncomputable def V.lts : List V → List V → Option Bool
  | [], l => match l with | [] => some false | _ :: _ => some true
  | a :: as, l => match l with | [] => some false | b :: bs => if V.beq a b then V.lts as bs else V.lt a b
end

noncomputable def LtAt (A : Around) (s : Shared) (y x : Value) (b : Bool) : Prop :=
  ∀ (prog : Program) (w : World) (E : Value → Shared → Prop) (Q : Value → Shared → Prop), Q (.bool b) s → wpAny (model prog w) A (richCompare .Lt y x) Q E s

section
variable {g : GG} {ρ : List Addr} {s : Shared} {A : Around}

theorem ltAt_int (a : Int) (t : Tok) (b : Int) (u : Tok) : LtAt A s (.int a t) (.int b u) (decide (a < b)) := fun prog w E Q h => by
  have : wpAny (model prog w) A (compareOp .Lt (.int a t) (.int b u)) Q E s := PyProof.Rows.lt_int h
  exact this

theorem ltAt_V : ∀ (n : Nat) {a b : V} {u v : Value} {r : Bool} {A : Around}, V.flat n a = true → V.flat n b = true → RepV g ρ s.heap a u → RepV g ρ s.heap b v → V.lt a b = some r → A.units + n < cLine →
    LtAt A s u v r := by
  intro n
  induction n with
  | zero =>
    intro a b u v r A ha hb ra rb hl hu
    cases a <;> cases b <;> simp [V.lt, V.flat] at hl ha hb
    obtain ⟨t, rfl⟩ := ra
    obtain ⟨t', rfl⟩ := rb
    subst hl
    exact ltAt_int _ _ _ _
  | succ n ih =>
    intro a b u v r A ha hb ra rb hl hu
    cases a with
    | int i =>
      cases b <;> simp [V.lt, V.flat] at hl hb
      obtain ⟨t, rfl⟩ := ra
      obtain ⟨t', rfl⟩ := rb
      subst hl
      exact ltAt_int _ _ _ _
    | tup as =>
      cases b with
      | tup bs =>
        obtain ⟨l, us, rfl, hL, hr⟩ := ra
        obtain ⟨l', vs, rfl, hL', hr'⟩ := rb
        intro prog w E Q hq
        obtain ⟨o, ho, hc, m, hd⟩ := hL.is
        obtain ⟨o', ho', hc', m', hd'⟩ := hL'.is
        have hT : s.TypeIs (.ref l) "tuple" := ⟨o, ho, hc⟩
        have hT' : s.TypeIs (.ref l') "tuple" := ⟨o', ho', hc'⟩
        refine wpAny_richCompare_same_room (op := .Lt) hT hT' F.slot_tuple_lt (wpAny_call_entry F.slot_tuple_lt hT F.entry_tuple_lt ?_ (F.args_tuple_lt_2 _ _)) (by lia)
        show wpAny _ _ (isInstance (.ref l') (.type "tuple") >>= _) _ _ s
        refine wpAny_bind (wpAny_isInstance hT' isSubtype_tuple_tuple ?_)
        simp only [Bool.not_true, Bool.false_eq_true, if_false]
        refine wpAny_bind (wpAny_tupleItemsOf ho hd ?_)
        refine wpAny_bind (wpAny_tupleItemsOf ho' hd' ?_)
        refine wpAny_bind ?_
        simp only [V.flat, List.all_eq_true] at ha hb
        have hlen := hr.length
        have hlen' := hr'.length
        refine wpAny_forIn_list _
          (fun rest b s' => b = (none, ()) ∧ s' = s ∧ ∃ as' bs' us' vs', rest = us'.zip vs' ∧ RepVs g ρ s.heap as' us' ∧ RepVs g ρ s.heap bs' vs' ∧ (∀ v ∈ as', V.flat n v = true) ∧ (∀ v ∈ bs', V.flat n v = true) ∧
            V.lts as' bs' = some r ∧ (as'.length < bs'.length ↔ as.length < bs.length)) _ ?_ ?_ _ _ ⟨rfl, rfl, as, bs, us, vs, rfl, hr, hr', ha, hb, by simpa [V.lt] using hl, Iff.rfl⟩
        · rintro ⟨x, y⟩ rest b s' ⟨rfl, rfl, as', bs', us', vs', hz, h1, h2, h3, h4, h5, h6⟩
          cases as' with
          | nil => cases h1; simp at hz
          | cons a1 as1 =>
            obtain ⟨u1, us1, rfl, r1, r1'⟩ := h1
            cases bs' with
            | nil => cases h2; simp at hz
            | cons b1 bs1 =>
              obtain ⟨v1, vs1, rfl, r2, r2'⟩ := h2
              simp only [List.zip_cons_cons, List.cons.injEq, Prod.mk.injEq] at hz
              obtain ⟨⟨rfl, rfl⟩, rfl⟩ := hz
              have f1 := h3 a1 (by simp)
              have f2 := h4 b1 (by simp)
              refine wpAny_bind (eqAt_V n f1 f2 r1 r2 (by show A.units + 1 + n < cLine; lia) prog w _ _ ?_)
              cases he : V.beq a1 b1 with
              | true =>
                simp only [Bool.not_true, Bool.false_eq_true, if_false]
                refine wpAny_pure ⟨rfl, rfl, as1, bs1, us1, vs1, rfl, r1', r2', fun v hv => h3 v (by simp [hv]), fun v hv => h4 v (by simp [hv]), ?_, by simpa using h6⟩
                rw [V.lts, he] at h5; simpa using h5
              | false =>
                simp only [Bool.not_false, if_true]
                rw [V.lts, he] at h5
                simp only [Bool.false_eq_true, if_false] at h5
                refine wpAny_bind (wpAny_rule ?_)
                refine wpAny_bind (ih f1 f2 r1 r2 h5 (by show A.units + 1 + n < cLine; lia) prog w _ _ ?_)
                refine wpAny_bind (wpAny_pure (wpAny_pure (wpAny_pure ?_)))
                exact ⟨_, rfl, by simp, hq⟩
        · rintro b s' ⟨rfl, rfl, as', bs', us', vs', hz, h1, h2, h3, h4, h5, h6⟩
          refine wpAny_pure ⟨_, rfl, ?_, ?_⟩
          · simp [Builtin.Tuple.tupleCompareSizes]
          · have hz' : r = decide (as.length < bs.length) := by
              cases as' with
              | nil =>
                cases bs' with
                | nil => simp [V.lts] at h5 h6; subst h5; simp; lia
                | cons _ _ => simp [V.lts] at h5 h6; subst h5; simp; lia
              | cons a1 as1 =>
                cases bs' with
                | nil => simp [V.lts] at h5 h6; subst h5; simp; lia
                | cons _ _ =>
                  obtain ⟨_, _, rfl, _⟩ := h1
                  obtain ⟨_, _, rfl, _⟩ := h2
                  simp at hz
            have : Builtin.Tuple.tupleCompareSizes .Lt us.toArray.size vs.toArray.size = Value.bool r := by
              simp [Builtin.Tuple.tupleCompareSizes, hlen, hlen', hz']
            rw [this]; exact hq
      | _ => simp [V.lt] at hl
    | _ => simp [V.lt] at hl
end
end Mini
end

section
namespace Mini
open PySem PySem.SeqAt

section
variable {g : GG} {ρ : List Addr} {s : Shared} {A : Around}

theorem pyHash_V : ∀ (n : Nat) {k : V} {u : Value} {A : Around} {E : Value → Shared → Prop} {s : Shared} {Q : Int → Shared → Prop}, V.key n k = true → RepV g ρ s.heap k u → A.units + n < cLine →
    (∀ tk, Q (hashV k) { s with toks := tk }) → wpAny (model g.prog g.w) A (pyHash u) Q E s := by
  intro n
  induction n with
  | zero =>
    intro k u A E s Q hk hr hu hq
    cases k <;> simp [V.key] at hk
    obtain ⟨t, rfl⟩ := hr
    exact wpAny_pyHash_int (hq _)
  | succ n ih =>
    intro k u A E s Q hk hr hu hq
    cases k with
    | int i => obtain ⟨t, rfl⟩ := hr; exact wpAny_pyHash_int (hq _)
    | tup vs =>
      obtain ⟨a, us, rfl, hTT, hrs⟩ := hr
      obtain ⟨o, ho, hc, m, hd⟩ := hTT.is
      have hT : s.TypeIs (.ref a) "tuple" := ⟨o, ho, hc⟩
      unfold pyHash
      unfold pyHashByItsType
      refine wpAny_bind (wpAny_cRoomFor_or (.inr (by lia)) ?_)
      refine wpAny_bind (wpAny_specialOf hT F.slot_tuple_hash.lookup ?_)
      show wpAny _ _ (if (some (Value.builtin "tuple.__hash__") == some Value.none) = true then _ else _) Q E s
      rw [if_neg (by rw [beq_builtin_none]; exact Bool.false_ne_true)]
      refine wpAny_bind (wpAny_specialOf hT F.slot_tuple_hash.lookup ?_)
      show wpAny _ _ (callSpecialIfBoundUnlessNone? (.ref a) "__hash__" _ >>= _) Q E s
      refine wpAny_bind (wpAny_callSpecialIfBoundUnlessNone?_slot hT F.slot_tuple_hash (wpAny_call_entry F.slot_tuple_hash hT F.entry_tuple_hash ?_ (F.args_tuple_hash_1 _)))
      show wpAny _ _ (Builtin.Tuple.tupleItemsOf (.ref a) >>= _) _ _ s
      refine wpAny_bind (wpAny_tupleItemsOf ho hd ?_)
      refine wpAny_bind ?_
      rw [← Array.forIn_toList]
      simp only [V.key, List.all_eq_true] at hk
      refine wpAny_forIn_list _
        (fun rest (b : Array Int) s' => ∃ done left tk, vs = done ++ left ∧ RepVs g ρ s.heap left rest ∧ (∀ v ∈ left, V.key n v = true) ∧ b.toList = hashVs done ∧ s' = { s with toks := tk })
        _ ?_ ?_ _ _ ⟨[], vs, s.toks, rfl, hrs, hk, rfl, rfl⟩
      · rintro x rest b s' ⟨done, left, tk, rfl, hl, hkl, hb, rfl⟩
        cases left with
        | nil => cases hl
        | cons v left =>
          obtain ⟨u', us', e, h1, hl'⟩ := hl
          cases e
          refine wpAny_bind (ih (s := { s with toks := tk }) (hkl v (by simp)) h1 (by show A.units + 1 + n < cLine; lia) fun tk' => ?_)
          have hsnoc : ∀ l : List V, hashVs (l ++ [v]) = hashVs l ++ [hashV v] := fun l => by
            induction l with
            | nil => rfl
            | cons a l ih => simp [hashVs, ih]
          first
            | exact wpAny_pure ⟨done ++ [v], left, tk', by simp, hl', fun w hw => hkl w (by simp [hw]), by simp [hb, hsnoc], rfl⟩
            | exact wpAny_bind (wpAny_pure (wpAny_pure ⟨done ++ [v], left, tk', by simp, hl', fun w hw => hkl w (by simp [hw]), by simp [hb, hsnoc], rfl⟩))
      · rintro b s' ⟨done, left, tk, rfl, hl, hkl, hb, rfl⟩
        cases left with
        | cons v left => obtain ⟨u', us', e, _⟩ := hl; cases e
        | nil =>
          rw [List.append_nil] at hq
          show wpAny _ _ (retInt (Builtin.Tuple.tupleHashOf b.toList)) _ _ _
          rw [hb]
          refine wpAny_ret_mkInt ?_
          show wpAny _ _ (if (decide (-(2 : Int) ^ 63 ≤ Builtin.Tuple.tupleHashOf (hashVs done)) && decide (Builtin.Tuple.tupleHashOf (hashVs done) < 2 ^ 63)) = true then _ else _) Q E _
          have hq' : ∀ tk, Q (reduceHash (Builtin.Tuple.tupleHashOf (hashVs done))) { s with toks := tk } := hq
          unfold reduceHash at hq'
          by_cases hr : (decide (-(2 : Int) ^ 63 ≤ Builtin.Tuple.tupleHashOf (hashVs done)) && decide (Builtin.Tuple.tupleHashOf (hashVs done) < 2 ^ 63)) = true
          · rw [if_pos hr]
            rw [if_pos hr] at hq'
            exact wpAny_pure (hq' _)
          · rw [if_neg hr]
            rw [if_neg hr] at hq'
            exact wpAny_bind (wpAny_rule (wpAny_pure (hq' _)))
    | _ => simp [V.key] at hk

theorem quiet_V : ∀ (n d : Nat) {k : V} {u : Value} {E : Value → Shared → Prop} {Q : Bool → Shared → Prop}, n ≤ d → V.key n k = true → RepV g ρ s.heap k u → Q true s → wpAny (model g.prog g.w) A (eqIsQuiet d u) Q E s := by
  intro n
  induction n with
  | zero =>
    intro d k u E Q _ hk hr hq
    cases k <;> simp [V.key] at hk
    obtain ⟨t, rfl⟩ := hr
    rw [eqIsQuiet_byValue _ rfl]; exact wpAny_pure hq
  | succ n ih =>
    intro d k u E Q hn hk hr hq
    cases k with
    | int i => obtain ⟨t, rfl⟩ := hr; rw [eqIsQuiet_byValue _ rfl]; exact wpAny_pure hq
    | tup vs =>
      obtain ⟨a, us, rfl, hTT, hrs⟩ := hr
      obtain ⟨o, ho, hc, m, hd⟩ := hTT.is
      have hT : s.TypeIs (.ref a) "tuple" := ⟨o, ho, hc⟩
      cases d with
      | zero => lia
      | succ d =>
        unfold eqIsQuiet
        refine wpAny_bind (wpAny_specialOf hT F.slot_tuple_eq.lookup ?_)
        show wpAny _ _ (isInstance (.ref a) (.type "tuple") >>= _) _ _ s
        refine wpAny_bind (wpAny_isInstance hT isSubtype_tuple_tuple ?_)
        simp only [Bool.not_true, Bool.false_eq_true, if_false]
        refine wpAny_bind (wpAny_seqItems ho hd ?_)
        refine wpAny_bind ?_
        show wpAny _ _ (forIn (List.toArray us) _ _) _ _ s
        rw [← Array.forIn_toList]
        simp only [V.key, List.all_eq_true] at hk
        refine wpAny_forIn_list _ (fun rest r s' => r.1 = none ∧ s' = s ∧ ∃ left, RepVs g ρ s.heap left rest ∧ ∀ v ∈ left, V.key n v = true) _ ?_ ?_ _ _ ⟨rfl, rfl, vs, hrs, hk⟩
        · rintro v rest r s' ⟨hr, rfl, left, hl, hall⟩
          cases left with
          | nil => cases hl
          | cons v' left =>
            obtain ⟨u', us', e, h1, hl'⟩ := hl
            cases e
            refine wpAny_bind (ih d (by lia) (hall v' (by simp)) h1 ?_)
            simp only [Bool.not_true, Bool.false_eq_true, if_false]
            exact wpAny_pure ⟨rfl, rfl, left, hl', fun w hw => hall w (by simp [hw])⟩
        · rintro ⟨r1, r2⟩ s' ⟨hr, rfl, _⟩
          simp only at hr
          subst hr
          exact wpAny_pure hq
    | _ => simp [V.key] at hk

noncomputable abbrev dFind (es : List (V × V)) (k : V) : Option Nat := es.findIdx? fun p => V.beq p.1 k

theorem dFind_some {es : List (V × V)} (hn : (es.map (·.1)).Nodup) {j : Nat} {p : V × V} {k : V} (hj : es[j]? = some p) (hk : p.1 = k) : dFind es k = some j := by
  obtain ⟨hlt, e⟩ := List.getElem?_eq_some_iff.mp hj
  refine List.findIdx?_eq_some_iff_getElem.mpr ⟨hlt, by rw [e]; exact (V.beq_iff _ _).mpr hk, fun i hi hb => ?_⟩
  have hb' := (V.beq_iff _ _).mp hb
  have : i = j := by
    refine (List.getElem?_inj (l := es.map (·.1)) (by simp; grind) hn).mp ?_
    rw [List.getElem?_map, List.getElem?_map, List.getElem?_eq_getElem (by grind), hj]
    simp [hb', hk]
  grind
theorem dFind_none {es : List (V × V)} {k : V} (h : ∀ (j : Nat) (p : V × V), es[j]? = some p → p.1 ≠ k) : dFind es k = none := by
  rw [List.findIdx?_eq_none_iff]
  intro x hx
  obtain ⟨j, hj⟩ := List.mem_iff_getElem?.mp hx
  have := h j x hj
  cases hb : V.beq x.1 k with
  | false => rfl
  | true => exact absurd ((V.beq_iff _ _).mp hb) this

theorem key_not_str {n : Nat} {k : V} {u : Value} {h : Heap} (hk : V.key n k = true) (hr : RepV g ρ h k u) : (∃ i t, u = .int i t ∧ k = .int i) ∨ ∃ a, u = .ref a := by
  cases k with
  | int i => obtain ⟨t, rfl⟩ := hr; exact .inl ⟨i, t, rfl, rfl⟩
  | tup vs => obtain ⟨a, us, rfl, _⟩ := hr; exact .inr ⟨a, rfl⟩
  | _ => cases n <;> simp [V.key] at hk

theorem dictFind_V {d : Addr} {o : Obj} {ents : List DictEntry} {ep : Nat} {es : List (V × V)} {k : V} {u : Value} {E : Value → Shared → Prop} {Q : Option Nat → Shared → Prop} (hu : A.units + 10 < cLine)
    (ho : s.heap.get? d = some o) (hd : o.data = .dict (List.toArray ents) ep) (hr : RepEs g ρ s.heap es ents) (hk : keyOk es) (hkk : V.key 6 k = true) (hku : RepV g ρ s.heap k u)
    (h : Q (dFind es k) s) : wpAny (model g.prog g.w) A (dictFind d u (hashV k)) Q E s := by
  have hsz : (List.toArray ents).size = es.length := by simp [hr.length]
  have hn := hk.1

  have hent : ∀ (i : Nat) (p : V × V), es[i]? = some p → ∃ e, (List.toArray ents)[i]? = some e ∧ e.hash = hashV p.1 ∧ RepV g ρ s.heap p.1 e.key ∧ V.key 6 p.1 = true := fun i p hi => by
    obtain ⟨e, h1, h2, h3, _⟩ := hr.get hi
    exact ⟨e, by simpa using h1, h2, h3, hk.2 p (List.mem_of_getElem? hi)⟩
  have hpl : ∀ x, x ∈ placesWithHash (List.toArray ents).size (fun i => (List.toArray ents)[i]?.map (·.hash)) (hashV k) → x < es.length := fun x hx => by
    rw [placesWithHash, List.mem_filter, List.mem_range, hsz] at hx; exact hx.1
  have hplN : (placesWithHash (List.toArray ents).size (fun i => (List.toArray ents)[i]?.map (·.hash)) (hashV k)).Nodup := List.nodup_range.filter _
  have hall : ∀ (j : Nat) (p : V × V), es[j]? = some p → p.1 = k → j ∈ placesWithHash (List.toArray ents).size (fun i => (List.toArray ents)[i]?.map (·.hash)) (hashV k) := fun j p hj hp => by
    obtain ⟨e, h1, h2, _⟩ := hent j p hj
    rw [placesWithHash, List.mem_filter, List.mem_range, hsz]
    refine ⟨(List.getElem?_eq_some_iff.mp hj).1, ?_⟩
    rw [h1]; simp [h2, hp]
  have huniq : ∀ {i j : Nat} {p q : V × V}, es[i]? = some p → es[j]? = some q → p.1 = k → q.1 = k → i = j := fun {i j p q} hi hj hp hq => by
    refine (List.getElem?_inj (l := es.map (·.1)) (by simp; exact (List.getElem?_eq_some_iff.mp hi).1) hn).mp ?_
    rw [List.getElem?_map, List.getElem?_map, hi, hj]; simp [hp, hq]
  have heq : ∀ {p : V × V} {e : DictEntry}, V.key 6 p.1 = true → RepV g ρ s.heap p.1 e.key → EqAt A s e.key u (V.beq p.1 k) := fun hp he =>
    eqAt_V 6 (V.flat_of_key hp) (V.flat_of_key hkk) he hku (by lia)
  generalize hP : placesWithHash (List.toArray ents).size (fun i => (List.toArray ents)[i]?.map (·.hash)) (hashV k) = P at hpl hplN hall
  unfold dictFind
  try with_reducible refine wpAny_holding ?_
  refine wpAny_bind (wpAny_dictEntries ho hd ?_)
  have main : wpAny (model g.prog g.w) A (do
      let places := placesWithHash (List.toArray ents).size (fun i => (List.toArray ents)[i]?.map (·.hash)) (hashV k)
      let stored := places.filterMap fun i => (List.toArray ents)[i]?.map (·.key)
      if (u :: stored).all carriedByValue then return ← dictWalkPlain d u (hashV k) (List.toArray ents) places
      if let .ref _ := u then
        if (List.toArray ents).any fun e => e.key == u && e.hash != (hashV k) then unsupported "dict.find:a-stored-key-whose-hash-has-changed"
      let tells ← if stored == [u] then pure false else tableMayTell u stored
      if tells && stored.length ≥ 2 then unsupported "dict.find:order-among-keys-of-one-hash"
      let mut hit : Option Nat := none
      for i in places do
        if let some e := (List.toArray ents)[i]? then
          if e.hash == (hashV k) then
            let before ← dictEpoch d (keyPart u)
            let same ← eqBool e.key u
            if (← dictEpoch d (keyPart u)) != before then unsupported "dict.changed-during-lookup"
            if same then
              if hit.isSome then unsupported "dict.find:order-among-keys-of-one-hash"
              rule "dict.find.hit"
              if stored.length < 2 then return some i
              hit := some i
            else
              rule "dict.find.same-hash-other-key"
              if tells && !(0 ≤ (hashV k) && (hashV k) < 32) then unsupported "dict.find:asked-again-or-not-hangs-on-the-table"
      return hit) Q E s := by
    rw [hP]
    dsimp only
    have walk1 : wpAny (model g.prog g.w) A (dictWalkPlain d u (hashV k) (List.toArray ents) P) Q E s := by
      unfold dictWalkPlain
      refine wpAny_bind ?_
      refine wpAny_forIn_list _ (fun rest b s' => s' = s ∧ b = (none, ()) ∧ (∀ x ∈ rest, x < es.length) ∧ ∀ (j : Nat) (p : V × V), es[j]? = some p → p.1 = k → j ∈ rest) _ ?_ ?_ _ _ ⟨rfl, rfl, hpl, hall⟩
      · rintro x rest b s' ⟨rfl, rfl, hb, hm⟩
        obtain ⟨p, hp⟩ : ∃ p, es[x]? = some p := ⟨_, List.getElem?_eq_getElem (hb x (by simp))⟩
        obtain ⟨e, h1, h2, h3, h4⟩ := hent x p hp
        rw [h1]
        dsimp only
        have hskip : p.1 ≠ k → ∀ (j : Nat) (q : V × V), es[j]? = some q → q.1 = k → j ∈ rest := fun hne j q hj hq => by
          rcases List.mem_cons.mp (hm j q hj hq) with h5 | h5
          · subst h5; rw [hp] at hj; cases hj; exact absurd hq hne
          · exact h5
        have hb' : ∀ y ∈ rest, y < es.length := fun y hy => hb y (by simp [hy])
        by_cases hh : (e.hash == hashV k) = true
        · rw [if_pos hh]
          refine wpAny_bind (wpAny_dictEpoch ho hd (wpAny_bind (heq h4 h3 _ _ _ _ (wpAny_bind (wpAny_dictEpoch ho hd ?_)))))
          rw [if_neg (by simp)]
          cases hbq : V.beq p.1 k with
          | true =>
            have hpk := (V.beq_iff _ _).mp hbq
            rw [if_pos rfl]
            refine wpAny_bind (wpAny_rule (wpAny_pure (wpAny_pure ?_)))
            rw [dFind_some hn hp hpk] at h
            exact h
          | false =>
            rw [if_neg (by simp)]
            exact wpAny_bind (wpAny_rule (wpAny_pure ⟨rfl, rfl, hb', hskip fun q => by rw [(V.beq_iff _ _).mpr q] at hbq; cases hbq⟩))
        · rw [if_neg hh]
          exact wpAny_pure ⟨rfl, rfl, hb', hskip fun q => hh (by rw [h2, q]; simp)⟩
      · rintro b s' ⟨rfl, rfl, hb, hm⟩
        rw [dFind_none fun j p hj hp => by simpa using hm j p hj hp] at h
        exact wpAny_pure h
    by_cases hc : ((u :: P.filterMap fun i => (List.toArray ents)[i]?.map (·.key)).all carriedByValue) = true
    · rw [if_pos hc]
      exact walk1
    · rw [if_neg hc]

      have hrest : wpAny (model g.prog g.w) A (do
          let tells ← if (P.filterMap fun i => (List.toArray ents)[i]?.map (·.key)) == [u] then pure false else tableMayTell u (P.filterMap fun i => (List.toArray ents)[i]?.map (·.key))
          if tells && (P.filterMap fun i => (List.toArray ents)[i]?.map (·.key)).length ≥ 2 then unsupported "dict.find:order-among-keys-of-one-hash"
          let mut hit : Option Nat := none
          for i in P do
            if let some e := (List.toArray ents)[i]? then
              if e.hash == (hashV k) then
                let before ← dictEpoch d (keyPart u)
                let same ← eqBool e.key u
                if (← dictEpoch d (keyPart u)) != before then unsupported "dict.changed-during-lookup"
                if same then
                  if hit.isSome then unsupported "dict.find:order-among-keys-of-one-hash"
                  rule "dict.find.hit"
                  if (P.filterMap fun i => (List.toArray ents)[i]?.map (·.key)).length < 2 then return some i
                  hit := some i
                else
                  rule "dict.find.same-hash-other-key"
                  if tells && !(0 ≤ (hashV k) && (hashV k) < 32) then unsupported "dict.find:asked-again-or-not-hangs-on-the-table"
          return hit) Q E s := by
        generalize hS : (P.filterMap fun i => (List.toArray ents)[i]?.map (·.key)) = stored
        have hstored : ∀ v ∈ stored, ∃ q, V.key 6 q = true ∧ RepV g ρ s.heap q v := fun v hv => by
          rw [← hS] at hv
          obtain ⟨i, hi, hv⟩ := List.mem_filterMap.mp hv
          obtain ⟨p, hp⟩ : ∃ p, es[i]? = some p := ⟨_, List.getElem?_eq_getElem (hpl i hi)⟩
          obtain ⟨e, h1, h2, h3, h4⟩ := hent i p hp
          rw [h1] at hv; cases hv
          exact ⟨p.1, h4, h3⟩
        have quiet : ∀ {Q' : Bool → Shared → Prop}, Q' false s → wpAny (model g.prog g.w) A (tableMayTell u stored) Q' E s := fun {Q'} hq => by
          unfold tableMayTell
          split
          · exact wpAny_pure hq
          · refine wpAny_bind (quiet_V 6 8 (by lia) hkk hku ?_)
            simp only [Bool.not_true, Bool.false_eq_true, if_false]
            refine wpAny_bind ?_
            refine wpAny_forIn_list _ (fun rest r s' => s' = s ∧ r = (none, ()) ∧ ∀ v ∈ rest, ∃ q, V.key 6 q = true ∧ RepV g ρ s.heap q v) _ ?_ ?_ _ _ ⟨rfl, rfl, hstored⟩
            · rintro x rest r s' ⟨rfl, rfl, hr⟩
              obtain ⟨q, h1, h2⟩ := hr x (by simp)
              refine wpAny_bind (quiet_V 6 8 (by lia) h1 h2 ?_)
              simp only [Bool.not_true, Bool.false_eq_true, if_false]
              exact wpAny_pure ⟨rfl, rfl, fun v hv => hr v (by simp [hv])⟩
            · rintro r s' ⟨rfl, rfl, _⟩
              exact wpAny_pure hq
        have both : ∀ {c : Bool} {jp : Bool → Sem (Option Nat)}, wpAny (model g.prog g.w) A (jp false) Q E s → wpAny (model g.prog g.w) A (if c = true then (pure false >>= jp) else (tableMayTell u stored >>= jp)) Q E s := fun {c jp} hq => by
          split
          · exact wpAny_bind (wpAny_pure hq)
          · exact wpAny_bind (quiet hq)
        refine both ?_
        dsimp only
        rw [if_neg (by simp)]
        refine wpAny_bind ?_
        refine wpAny_forIn_list _ (fun rest b s' => s' = s ∧ (∀ x ∈ rest, x < es.length) ∧ rest.Nodup ∧ ∃ hit, b = (none, hit) ∧
          ((hit = none ∧ ∀ (j : Nat) (p : V × V), es[j]? = some p → p.1 = k → j ∈ rest) ∨ ∃ j p, hit = some j ∧ es[j]? = some p ∧ p.1 = k ∧ j ∉ rest)) _ ?_ ?_ _ _ ⟨rfl, hpl, hplN, none, rfl, .inl ⟨rfl, hall⟩⟩
        · rintro x rest b s' ⟨rfl, hb, hnd, hit, rfl, hH⟩
          obtain ⟨p, hp⟩ : ∃ p, es[x]? = some p := ⟨_, List.getElem?_eq_getElem (hb x (by simp))⟩
          obtain ⟨e, h1, h2, h3, h4⟩ := hent x p hp
          rw [h1]
          dsimp only
          have hb' : ∀ y ∈ rest, y < es.length := fun y hy => hb y (by simp [hy])
          have hnd' := (List.nodup_cons.mp hnd).2
          have hskip : p.1 ≠ k → ((hit = none ∧ ∀ (j : Nat) (p : V × V), es[j]? = some p → p.1 = k → j ∈ rest) ∨ ∃ j p, hit = some j ∧ es[j]? = some p ∧ p.1 = k ∧ j ∉ rest) := fun hne => by
            rcases hH with ⟨h5, h6⟩ | ⟨j, q, h5, h6, h7, h8⟩
            · refine .inl ⟨h5, fun j q hj hq => ?_⟩
              rcases List.mem_cons.mp (h6 j q hj hq) with h9 | h9
              · subst h9; rw [hp] at hj; cases hj; exact absurd hq hne
              · exact h9
            · exact .inr ⟨j, q, h5, h6, h7, fun h9 => h8 (List.mem_cons_of_mem _ h9)⟩
          by_cases hh : (e.hash == hashV k) = true
          · rw [if_pos hh]
            refine wpAny_bind (wpAny_dictEpoch ho hd (wpAny_bind (heq h4 h3 _ _ _ _ (wpAny_bind (wpAny_dictEpoch ho hd ?_)))))
            rw [if_neg (by simp)]
            cases hbq : V.beq p.1 k with
            | true =>
              have hpk := (V.beq_iff _ _).mp hbq
              rw [if_pos rfl]
              rcases hH with ⟨rfl, h6⟩ | ⟨j, q, rfl, h6, h7, h8⟩
              · rw [if_neg (by simp)]
                refine wpAny_bind (wpAny_rule ?_)
                split
                · refine wpAny_pure (wpAny_pure ?_)
                  rw [dFind_some hn hp hpk] at h
                  exact h
                · exact wpAny_pure ⟨rfl, hb', hnd', some x, rfl, .inr ⟨x, p, rfl, hp, hpk, (List.nodup_cons.mp hnd).1⟩⟩
              · exact absurd (huniq h6 hp h7 hpk) fun h9 => h8 (by rw [h9]; simp)
            | false =>
              rw [if_neg (by simp)]
              refine wpAny_bind (wpAny_rule ?_)
              rw [if_neg (by simp)]
              exact wpAny_pure ⟨rfl, hb', hnd', hit, rfl, hskip fun q => by rw [(V.beq_iff _ _).mpr q] at hbq; cases hbq⟩
          · rw [if_neg hh]
            exact wpAny_pure ⟨rfl, hb', hnd', hit, rfl, hskip fun q => hh (by rw [h2, q]; simp)⟩
        · rintro b s' ⟨rfl, hb, hnd, hit, rfl, hH⟩
          refine wpAny_pure ?_
          rcases hH with ⟨rfl, h6⟩ | ⟨j, q, rfl, h6, h7, h8⟩
          · rw [dFind_none fun j p hj hp => by simpa using h6 j p hj hp] at h
            exact h
          · rw [dFind_some hn h6 h7] at h
            exact h
      rcases key_not_str hkk hku with ⟨i, t, rfl, rfl⟩ | ⟨a, rfl⟩
      · exact hrest
      · dsimp only
        rw [if_neg]
        · exact hrest
        · rw [← Array.any_toList, List.any_eq_true]
          rintro ⟨e, hin, hcd⟩
          simp only [Bool.and_eq_true, beq_iff_eq, bne_iff_ne, ne_eq] at hcd
          obtain ⟨i, hi⟩ := List.mem_iff_getElem?.mp hin
          have hil : i < es.length := by
            have := (List.getElem?_eq_some_iff.mp hi).1
            simpa [hr.length] using this
          obtain ⟨p, hp⟩ : ∃ p, es[i]? = some p := ⟨_, List.getElem?_eq_getElem hil⟩
          obtain ⟨e', h1, h2, h3, h4⟩ := hent i p hp
          have : e' = e := by
            have hi' : (List.toArray ents)[i]? = some e := by simpa using hi
            rw [h1] at hi'; exact Option.some.inj hi'
          subst this
          rw [hcd.1] at h3
          exact hcd.2 (by rw [h2, RepV.inj (V.flat_of_key h4) (V.flat_of_key hkk) h3 hku])
  rcases key_not_str hkk hku with ⟨i, t, rfl, rfl⟩ | ⟨a, rfl⟩
  · exact main
  · exact main
end
end Mini
end

section
namespace Mini
open PySem PySem.SeqAt

noncomputable def dGet : List (V × V) → V → Option V
  | [], _ => none
  | (k', v) :: r, k => if V.beq k' k then some v else dGet r k
noncomputable def dSet : List (V × V) → V → V → List (V × V)
  | [], k, v => [(k, v)]
  | (k', v') :: r, k, v => if V.beq k' k then (k', v) :: r else (k', v') :: dSet r k v

theorem dGet_of_none : ∀ {es : List (V × V)} {k : V}, dFind es k = none → dGet es k = none
  | [], _, _ => rfl
  | (k', v) :: r, k, h => by
    rw [dFind, List.findIdx?_cons] at h
    cases hb : V.beq k' k with
    | true => simp [hb] at h
    | false => simp only [hb] at h; simp at h; rw [dGet, hb]; simpa using dGet_of_none (es := r) (k := k) (by simpa [dFind] using h)
theorem dGet_of_some : ∀ {es : List (V × V)} {k : V} {i : Nat}, dFind es k = some i → dGet es k = (es[i]?).map (·.2) ∧ i < es.length
  | [], _, _, h => by simp [dFind] at h
  | (k', v) :: r, k, i, h => by
    rw [dFind, List.findIdx?_cons] at h
    cases hb : V.beq k' k with
    | true => simp [hb] at h; subst h; simp [dGet, hb]
    | false =>
      simp only [hb] at h
      simp at h
      obtain ⟨j, hj, rfl⟩ := h
      obtain ⟨h1, h2⟩ := dGet_of_some (es := r) (k := k) (i := j) hj
      rw [dGet, hb]; simp [h1, h2]
theorem dSet_of_none : ∀ {es : List (V × V)} {k v : V}, dFind es k = none → dSet es k v = es ++ [(k, v)]
  | [], _, _, _ => rfl
  | (k', v') :: r, k, v, h => by
    rw [dFind, List.findIdx?_cons] at h
    cases hb : V.beq k' k with
    | true => simp [hb] at h
    | false => simp only [hb] at h; simp at h; rw [dSet, hb]; simpa using dSet_of_none (es := r) (k := k) (v := v) (by simpa [dFind] using h)
theorem dSet_of_some : ∀ {es : List (V × V)} {k v : V} {i : Nat}, dFind es k = some i → dSet es k v = es.modify i fun p => (p.1, v)
  | [], _, _, _, h => by simp [dFind] at h
  | (k', v') :: r, k, v, i, h => by
    rw [dFind, List.findIdx?_cons] at h
    cases hb : V.beq k' k with
    | true => simp [hb] at h; subst h; simp [dSet, hb]
    | false =>
      simp only [hb] at h
      simp at h
      obtain ⟨j, hj, rfl⟩ := h
      rw [dSet, hb]; simp [dSet_of_some (es := r) (k := k) (v := v) (i := j) hj]

theorem dSet_keys_some {es : List (V × V)} {k v : V} {i : Nat} (h : dFind es k = some i) : (dSet es k v).map (·.1) = es.map (·.1) := by
  rw [dSet_of_some h]
  apply List.ext_getElem?
  intro j
  simp only [List.getElem?_map, List.getElem?_modify]
  cases es[j]? with
  | none => rfl
  | some p => by_cases hj : i = j <;> simp [hj]

theorem keyOk.set {es : List (V × V)} {k : V} (v : V) (h : keyOk es) (hk : V.key 6 k = true) : keyOk (dSet es k v) := by
  cases hf : dFind es k with
  | some i =>
    have e := dSet_keys_some (v := v) hf
    refine ⟨by rw [e]; exact h.1, fun p hp => ?_⟩
    have : p.1 ∈ (dSet es k v).map (·.1) := List.mem_map_of_mem hp
    rw [e] at this
    obtain ⟨q, hq, e'⟩ := List.mem_map.mp this
    rw [← e']; exact h.2 q hq
  | none =>
    rw [dSet_of_none hf]
    refine ⟨?_, fun p hp => ?_⟩
    · rw [List.map_append, List.nodup_append]
      refine ⟨h.1, by simp, fun x hx y hy => ?_⟩
      simp at hy; subst hy
      intro q; subst q
      obtain ⟨p, hp, e⟩ := List.mem_map.mp hx
      rw [List.findIdx?_eq_none_iff] at hf
      have := hf p hp
      rw [(V.beq_iff _ _).mpr e] at this; cases this
    · rcases List.mem_append.mp hp with h1 | h1
      · exact h.2 p h1
      · simp at h1; subst h1; exact hk
theorem dSet_length_le (es : List (V × V)) (k v : V) : (dSet es k v).length ≤ es.length + 1 := by
  cases hf : dFind es k with
  | some i => rw [dSet_of_some hf]; simp
  | none => rw [dSet_of_none hf]; simp

section
variable {g : GG} {ρ : List Addr} {σ : Store} {s : Shared} {A : Around} {h : Heap}

theorem RepEs.modify : ∀ {es : List (V × V)} {ents : List DictEntry} {v : V} {u : Value}, RepEs g ρ h es ents → RepV g ρ h v u → ∀ i, RepEs g ρ h (es.modify i fun p => (p.1, v)) (ents.modify i fun e => { e with val := u })
  | [], _, _, _, e, _, i => by subst e; cases i <;> simp [RepEs]
  | (k, v') :: r, _, v, u, e, hu, i => by
    obtain ⟨e, es', rfl, h1, h2, h3, hr⟩ := e
    cases i with
    | zero => simp only [List.modify_zero_cons]; exact ⟨_, es', rfl, h1, h2, hu, hr⟩
    | succ i => simp only [List.modify_succ_cons]; exact ⟨_, _, rfl, h1, h2, h3, hr.modify hu i⟩

noncomputable abbrev IsD (h : Heap) (a : Addr) (ents : List DictEntry) (n : Nat) : Prop := h.get? a = some { cls := .type "dict", data := .dict (List.toArray ents) n }

theorem IsD.typeIs {a : Addr} {ents : List DictEntry} {n : Nat} (x : IsD s.heap a ents n) : s.TypeIs (.ref a) "dict" := ⟨_, x, rfl⟩

theorem Sim.dict {l : Nat} {a : Addr} {es : List (V × V)} (S : Sim g ρ σ h) (hl : σ[l]? = some (.dict es)) (ha : ρ[l]? = some a) : DictR g ρ h a es := S.objs l _ a hl ha
theorem Sim.list {l : Nat} {a : Addr} {vs : List V} (S : Sim g ρ σ h) (hl : σ[l]? = some (.list vs)) (ha : ρ[l]? = some a) : ListR g ρ h a vs := S.objs l _ a hl ha

theorem dictGet_V {l : Nat} {a : Addr} {es : List (V × V)} {k : V} {u : Value} {E : Value → Shared → Prop} {Q : Option Value → Shared → Prop} (hu : A.units + 30 < cLine) (S : Sim g ρ σ s.heap)
    (hl : σ[l]? = some (.dict es)) (ha : ρ[l]? = some a) (hk : V.key 6 k = true) (hku : RepV g ρ s.heap k u)
    (hn : dGet es k = none → ∀ tk, Q none { s with toks := tk }) (hs : ∀ v w, dGet es k = some v → RepV g ρ s.heap v w → ∀ tk, Q (some w) { s with toks := tk }) :
    wpAny (model g.prog g.w) A (dictGet a u) Q E s := by
  obtain ⟨_, hko, ents, ho, hr⟩ := S.dict hl ha
  unfold dictGet
  try with_reducible refine wpAny_holding ?_
  refine wpAny_bind (pyHash_V 6 hk hku (by lia) fun tk => ?_)
  refine wpAny_bind (dictFind_V (s := { s with toks := tk }) (by lia) ho rfl hr hko hk hku ?_)
  cases hf : dFind es k with
  | none => exact wpAny_pure (hn (dGet_of_none hf) tk)
  | some i =>
    refine wpAny_bind (wpAny_dictEntries (s := { s with toks := tk }) ho rfl ?_)
    obtain ⟨h1, h2⟩ := dGet_of_some hf
    obtain ⟨p, hp⟩ : ∃ p, es[i]? = some p := ⟨_, List.getElem?_eq_getElem h2⟩
    obtain ⟨e, he, _, _, hv⟩ := hr.get hp
    have : (List.toArray ents)[i]? = some e := by simpa using he
    rw [this]
    exact wpAny_pure (hs p.2 e.val (by rw [h1, hp]; rfl) hv tk)

theorem IsD.mapKeys {a : Addr} {ents : List DictEntry} {n : Nat} (x : IsD h a ents n) (f : Array DictEntry → Array DictEntry) (ents' : List DictEntry) (e : f (List.toArray ents) = List.toArray ents') : IsD (h.update a (Obj.mapDictKeys f)) a ents' (n + 1) := by
  refine (Heap.get?_update_self _ x rfl).trans ?_
  simp only [Obj.mapDictKeys, e]
theorem IsD.mapD {a : Addr} {ents : List DictEntry} {n : Nat} (x : IsD h a ents n) (f : Array DictEntry → Array DictEntry) (ents' : List DictEntry) (e : f (List.toArray ents) = List.toArray ents') : IsD (h.update a (Obj.mapDict f)) a ents' n := by
  refine (Heap.get?_update_self _ x rfl).trans ?_
  simp only [Obj.mapDict, e]

theorem update_other (h : Heap) {a : Addr} {f : Obj → Obj} : ∀ b o, b ≠ a → h.get? b = some o → (h.update a f).get? b = some o := fun _ _ hb e => (Heap.get?_update_other h f (Ne.symm hb)).trans e

theorem Grow.update {l : Nat} {a : Addr} (S : Sim g ρ σ h) (ha : ρ[l]? = some a) (f : Obj → Obj) : Grow g h (h.update a f) := fun b o e hi => by
  refine update_other h b o (fun q => ?_) e
  subst q
  obtain ⟨ob, h1, h2, h3⟩ := S.mem (List.mem_of_getElem? ha)
  rw [h1] at e; cases e
  rcases hi with h4 | ⟨o', h4⟩
  · exact h2 h4
  · rw [h3] at h4; cases h4

theorem dictSet_V {l : Nat} {a : Addr} {es : List (V × V)} {k v : V} {u x : Value} {E : Value → Shared → Prop} {Q : Unit → Shared → Prop} (hu : A.units + 30 < cLine) (S : Sim g ρ σ s.heap)
    (hl : σ[l]? = some (.dict es)) (ha : ρ[l]? = some a) (hk : V.key 6 k = true) (hku : RepV g ρ s.heap k u) (hvx : RepV g ρ s.heap v x) (hsz : es.length < LIM)
    (hQ : ∀ h' tk oa, h'.get? a = some oa → (∀ b o, b ≠ a → s.heap.get? b = some o → h'.get? b = some o) → Sim g ρ (σ.set l (.dict (dSet es k v))) h' → Q () { s with heap := h', toks := tk }) :
    wpAny (model g.prog g.w) A (dictSet a u x) Q E s := by
  obtain ⟨_, hko, ents, ho, hr⟩ := S.dict hl ha
  have hlen := hr.length
  have hsl : (sizeLine : Nat) = 16777216 := by decide
  have hlim : LIM = 1000000 := rfl
  unfold dictSet
  try with_reducible refine wpAny_holding ?_
  refine wpAny_bind (pyHash_V 6 hk hku (by lia) fun tk => ?_)
  unfold dictSetHashed
  try with_reducible refine wpAny_holding ?_
  refine wpAny_bind (dictFind_V (s := { s with toks := tk }) (by lia) ho rfl hr hko hk hku ?_)
  cases hf : dFind es k with
  | none =>
    have e : (fun es : Array DictEntry => es.push ⟨hashV k, u, x⟩) (List.toArray ents) = List.toArray (ents ++ [⟨hashV k, u, x⟩]) := by simp
    have h2 := IsD.mapKeys ho (·.push ⟨hashV k, u, x⟩) _ e
    refine wpAny_bind (wpAny_rule (wpAny_updateDictKeys (s := { s with toks := tk }) ho rfl (hQ _ tk _ h2 (update_other _) ?_) (by simp [hlen, hsl]; lia)))
    refine S.set ha (update_other _) ?_
    have G := Grow.update S ha (Obj.mapDictKeys (·.push ⟨hashV k, u, x⟩))
    refine ⟨by have := dSet_length_le es k v; lia, hko.set v hk, _, by rw [dSet_of_none hf]; simpa using h2, ?_⟩
    rw [dSet_of_none hf]
    refine RepEs.append (by simpa using RepEs.grow (t := []) G hr) ⟨_, [], rfl, rfl, by simpa using RepV.grow (t := []) G hku, by simpa using RepV.grow (t := []) G hvx, rfl⟩
  | some i =>
    have e : (fun es : Array DictEntry => es.modify i fun e => { e with val := x }) (List.toArray ents) = List.toArray (ents.modify i fun e => { e with val := x }) := by simp
    have h2 := IsD.mapD ho (·.modify i fun e => { e with val := x }) _ e
    refine wpAny_bind (wpAny_rule (wpAny_bind (wpAny_updateDict (s := { s with toks := tk }) ho rfl (wpAny_point (hQ _ tk _ h2 (update_other _) ?_)) (by simp))))
    refine S.set ha (update_other _) ?_
    have G := Grow.update S ha (Obj.mapDict (·.modify i fun e => { e with val := x }))
    refine ⟨by have := dSet_length_le es k v; lia, hko.set v hk, _, by rw [dSet_of_some hf]; simpa using h2, ?_⟩
    rw [dSet_of_some hf]
    exact RepEs.modify (by simpa using RepEs.grow (t := []) G hr) (by simpa using RepV.grow (t := []) G hvx) i

theorem getItem_dict_V {l : Nat} {a : Addr} {es : List (V × V)} {k v : V} {u : Value} {E : Value → Shared → Prop} {Q : Value → Shared → Prop} (hu : A.units + 40 < cLine) (S : Sim g ρ σ s.heap)
    (hl : σ[l]? = some (.dict es)) (ha : ρ[l]? = some a) (hk : V.key 6 k = true) (hku : RepV g ρ s.heap k u) (hg : dGet es k = some v)
    (hs : ∀ w tk, RepV g ρ s.heap v w → Q w { s with toks := tk }) : wpAny (model g.prog g.w) A (getItem (.ref a) u) Q E s := by
  obtain ⟨_, hko, ents, ho, hr⟩ := S.dict hl ha
  have hT := IsD.typeIs ho
  unfold getItem
  try with_reducible refine wpAny_holding ?_
  refine wpAny_bind (wpAny_sequenceKey hT (by decide) ?_)
  refine wpAny_bind (wpAny_callSpecial?_slot (name := Str.ofString "__getitem__") hT slot_dict_getitem
    (wpAny_call_entry slot_dict_getitem hT entry_dict_getitem ?_ (args_dict_getitem _ _)))
  show wpAny _ _ (dictGet a u >>= _) _ _ s
  refine wpAny_bind (dictGet_V (A := A.in1) (by show A.units + 1 + 30 < cLine; lia) S hl ha hk hku (fun hn => by rw [hg] at hn; cases hn) fun v' w hv hr tk => ?_)
  rw [hg] at hv; cases hv
  exact wpAny_pure ⟨w, rfl, wpAny_pure (hs w tk hr)⟩

theorem in_dict_V {l : Nat} {a : Addr} {es : List (V × V)} {k : V} {u : Value} {E : Value → Shared → Prop} {Q : Bool → Shared → Prop} (hu : A.units + 40 < cLine) (S : Sim g ρ σ s.heap)
    (hl : σ[l]? = some (.dict es)) (ha : ρ[l]? = some a) (hk : V.key 6 k = true) (hku : RepV g ρ s.heap k u)
    (hs : ∀ tk, Q (dGet es k).isSome { s with toks := tk }) : wpAny (model g.prog g.w) A (contains (.ref a) u) Q E s := by
  obtain ⟨_, hko, ents, ho, hr⟩ := S.dict hl ha
  have hT := IsD.typeIs ho
  have hd := S.notModules ha
  unfold contains
  try with_reducible refine wpAny_holding ?_
  refine wpAny_bind (wpAny_specialOf hT slot_dict_contains.lookup ?_)
  show wpAny _ _ (if (some (Value.builtin "dict.__contains__") == some Value.none) = true then _ else _) _ E s
  rw [if_neg (by rw [beq_builtin_none]; exact Bool.false_ne_true)]
  refine wpAny_bind (wpAny_callSpecialUnlessNone?_slot (name := Str.ofString "__contains__") hT slot_dict_contains
    (wpAny_call_entry slot_dict_contains hT entry_dict_contains ?_ (args_dict_contains _ _)))
  show wpAny _ _ (dictGet a u >>= _) _ _ s
  refine wpAny_bind (dictGet_V (A := A.in1) (by show A.units + 1 + 30 < cLine; lia) S hl ha hk hku (fun hn tk => ?_) fun v' w hv hr tk => ?_)
  · show wpAny _ _ (Builtin.Dict.pendingKey? a u >>= _) _ _ _
    have := hs tk
    rw [hn] at this
    exact wpAny_bind (wpAny_pendingKey_other hd (wpAny_pure ⟨_, rfl, wpAny_truthy_bool this⟩))
  · have := hs tk
    rw [hv] at this
    exact wpAny_pure ⟨_, rfl, wpAny_truthy_bool this⟩

theorem setItem_dict_V {l : Nat} {a : Addr} {es : List (V × V)} {k v : V} {u x : Value} {E : Value → Shared → Prop} {Q : Unit → Shared → Prop} (hu : A.units + 40 < cLine) (S : Sim g ρ σ s.heap)
    (hl : σ[l]? = some (.dict es)) (ha : ρ[l]? = some a) (hk : V.key 6 k = true) (hku : RepV g ρ s.heap k u) (hvx : RepV g ρ s.heap v x) (hsz : es.length < LIM)
    (hQ : ∀ h' tk oa, h'.get? a = some oa → (∀ b o, b ≠ a → s.heap.get? b = some o → h'.get? b = some o) → Sim g ρ (σ.set l (.dict (dSet es k v))) h' → Q () { s with heap := h', toks := tk }) :
    wpAny (model g.prog g.w) A (setItem (.ref a) u x) Q E s := by
  obtain ⟨_, hko, ents, ho, hr⟩ := S.dict hl ha
  have hT := IsD.typeIs ho
  unfold setItem
  try with_reducible refine wpAny_holding ?_
  refine wpAny_bind (wpAny_sequenceKey hT (by decide) ?_)
  refine wpAny_bind (wpAny_callSpecial?_slot (name := Str.ofString "__setitem__") hT slot_dict_setitem
    (wpAny_call_entry slot_dict_setitem hT entry_dict_setitem ?_ (args_dict_setitem _ _ _)))
  show wpAny _ _ (Builtin.Dict.notOrdered "__setitem__" ⟨[.ref a, u, x], []⟩ >>= _) _ _ s
  refine wpAny_bind (wpAny_notOrdered_dict hT ?_)
  show wpAny _ _ (dictSet a u x >>= _) _ _ s
  exact wpAny_bind (dictSet_V (A := A.in1) (by show A.units + 1 + 30 < cLine; lia) S hl ha hk hku hvx hsz fun h' tk oa h1 h2 h3 => wpAny_pure ⟨.none, rfl, wpAny_pure (hQ h' tk oa h1 h2 h3)⟩)
end
end Mini
end

section
namespace Mini
open PySem PySem.SeqAt

noncomputable abbrev LV := List (Option V)
noncomputable def lvGet (lv : LV) (i : Nat) : Option V := lv.getD i none

noncomputable def RepO (g : GG) (ρ : List Addr) (h : Heap) : Option V → Option Value → Prop
  | none, none => True
  | some v, some u => RepV g ρ h v u
  | _, _ => False

noncomputable def plainName (x : Str) : Bool := !(x == ("__debug__" : Str)) && !(x == ("__classdict__" : Str))

structure EnvOk (g : GG) (names : List (Str × NameKind)) (env : Env) (ρ : List Addr) (lv : LV) (h : Heap) : Prop where
  hnames : env.scope.names = names
  kind : env.scope.kind = .function
  globals : env.globals = mainGlobals
  builtins : env.builtins = builtinsNs
  nodup : (names.map (·.1)).Nodup
  plain : ∀ x ∈ names, plainName x.1 = true
  len : lv.length = names.length
  fresh : g.base.get? env.locals = none ∧ env.locals ∉ ρ
  ns : ∃ m, h.Ns env.locals m ∧ ∀ (i : Nat) (x : Str), names[i]? = some (x, .local) → RepO g ρ h (lvGet lv i) (m x)
  cellAt : ∀ (i : Nat) (x : Str) (k : NameKind), names[i]? = some (x, k) → (k = .cell ∨ k = .free) → ∃ c ov, env.cells.lookup x = some c ∧ h.IsCell c ov ∧ RepO g ρ h (lvGet lv i) ov
  cellsOk : ∀ x c, env.cells.lookup x = some c → g.base.get? c = none ∧ c ∉ ρ ∧ c ≠ env.locals ∧ ∃ ov, h.IsCell c ov
  apart : ∀ x y c, env.cells.lookup x = some c → env.cells.lookup y = some c → x = y

noncomputable abbrev Den := LV → Store → Option (V × Store)
noncomputable abbrev CDen := LV → Store → Option (Bool × Store)
noncomputable abbrev LDen := LV → Store → Option (List V × Store)

noncomputable def noE : Value → Shared → Prop := fun _ _ => False

inductive Post (g : GG) (ρ : List Addr) (s : Shared) (σ' : Store) (v : V) (u : Value) (s' : Shared) : Prop
  | mk (ρ' : List Addr) (T : Step g noX ρ s s' ρ') (S : Sim g ρ' σ' s'.heap) (r : RepV g ρ' s'.heap v u) : Post g ρ s σ' v u s'
inductive CPost (g : GG) (ρ : List Addr) (s : Shared) (σ' : Store) (b : Bool) (c : Bool) (s' : Shared) : Prop
  | mk (e : c = b) (ρ' : List Addr) (T : Step g noX ρ s s' ρ') (S : Sim g ρ' σ' s'.heap) : CPost g ρ s σ' b c s'
inductive LPost (g : GG) (ρ : List Addr) (s : Shared) (σ' : Store) (vs : List V) (us : List Value) (s' : Shared) : Prop
  | mk (ρ' : List Addr) (T : Step g noX ρ s s' ρ') (S : Sim g ρ' σ' s'.heap) (r : RepVs g ρ' s'.heap vs us) : LPost g ρ s σ' vs us s'

noncomputable def SE (g : GG) (names : List (Str × NameKind)) (k : Nat) (e : Expr) (m : Den) : Prop :=
  ∀ (A : Around) (env : Env) (ρ : List Addr) (lv : LV) (σ : Store) (s : Shared) (v : V) (σ' : Store), Room k A → EnvOk g names env ρ lv s.heap → Sim g ρ σ s.heap → m lv σ = some (v, σ') →
    wpAny (model g.prog g.w) A (eval e env) (Post g ρ s σ' v) noE s
noncomputable def CE (g : GG) (names : List (Str × NameKind)) (k : Nat) (e : Expr) (m : CDen) : Prop :=
  ∀ (A : Around) (env : Env) (ρ : List Addr) (lv : LV) (σ : Store) (s : Shared) (v : Bool) (σ' : Store), Room k A → EnvOk g names env ρ lv s.heap → Sim g ρ σ s.heap → m lv σ = some (v, σ') →
    wpAny (model g.prog g.w) A (isTrue e env (eval e env)) (CPost g ρ s σ' v) noE s

noncomputable def SL (g : GG) (names : List (Str × NameKind)) (k : Nat) (es : List Expr) (m : LDen) : Prop :=
  ∀ (A : Around) (env : Env) (pos : Pos) (ρ : List Addr) (lv : LV) (σ : Store) (s : Shared) (vs : List V) (σ' : Store), Room k A → EnvOk g names env ρ lv s.heap → Sim g ρ σ s.heap → m lv σ = some (vs, σ') →
    wpAny (model g.prog g.w) A (spliced (backTo pos (starEach es env))) (LPost g ρ s σ' vs) noE s

section
variable {g : GG} {X : Addr → Prop} {ρ ρ₁ : List Addr} {σ : Store} {s s₁ : Shared} {A : Around} {h : Heap} {names : List (Str × NameKind)} {k : Nat} {env : Env} {lv : LV}

theorem RepO.step (S : Step g X ρ s s₁ ρ₁) {v : Option V} {u : Option Value} (h : RepO g ρ s.heap v u) : RepO g ρ₁ s₁.heap v u := by
  cases v <;> cases u <;> first | exact h | exact RepV.step S h

theorem Step.Ns {m : Str → Option Value} (S : Step g X ρ s s₁ ρ₁) {L : Addr} (hL : L ∉ ρ) (hX : ¬ X L) (h : s.heap.Ns L m) : s₁.heap.Ns L m := by
  obtain ⟨o, es, ep, ho, r⟩ := h
  exact ⟨o, es, ep, S.keep _ _ ho hL hX, r⟩
theorem Step.isCell (S : Step g X ρ s s₁ ρ₁) {c : Addr} {ov : Option Value} (hL : c ∉ ρ) (hX : ¬ X c) (h : s.heap.IsCell c ov) : s₁.heap.IsCell c ov := by
  obtain ⟨o, ho, r⟩ := h
  exact ⟨o, S.keep _ _ ho hL hX, r⟩

theorem Step.notIn (S : Step g X ρ s s₁ ρ₁) {b : Addr} {o : Obj} (hb : s.heap.get? b = some o) (hn : b ∉ ρ) : b ∉ ρ₁ := fun hi => by
  rcases S.new b hi with h1 | h1
  · exact hn h1
  · rw [hb] at h1; cases h1

theorem EnvOk.step (e : EnvOk g names env ρ lv s.heap) (S : Step g X ρ s s₁ ρ₁) (hL : ¬ X env.locals) (hC : ∀ x c, env.cells.lookup x = some c → ¬ X c) : EnvOk g names env ρ₁ lv s₁.heap := by
  obtain ⟨m, hm, hv⟩ := e.ns
  obtain ⟨oL, _, _, hoL, _⟩ := id hm
  refine ⟨e.hnames, e.kind, e.globals, e.builtins, e.nodup, e.plain, e.len, ⟨e.fresh.1, S.notIn hoL e.fresh.2⟩, ⟨m, S.Ns e.fresh.2 hL hm, fun i x hi => (hv i x hi).step S⟩, fun i x k hi hk => ?_, fun x c hc => ?_, e.apart⟩
  · obtain ⟨c, ov, h1, h2, h3⟩ := e.cellAt i x k hi hk
    exact ⟨c, ov, h1, S.isCell (e.cellsOk x c h1).2.1 (hC x c h1) h2, h3.step S⟩
  · obtain ⟨h1, h2, h3, ov, h4⟩ := e.cellsOk x c hc
    obtain ⟨o, ho, _⟩ := id h4
    exact ⟨h1, S.notIn ho h2, h3, ov, S.isCell h2 (hC x c hc) h4⟩
theorem EnvOk.step' (e : EnvOk g names env ρ lv s.heap) (S : Step g noX ρ s s₁ ρ₁) : EnvOk g names env ρ₁ lv s₁.heap := e.step S (fun h => h) fun _ _ _ h => h

theorem lookup_of_get {names : List (Str × NameKind)} (hn : (names.map (·.1)).Nodup) : ∀ {i : Nat} {x : Str} {k : NameKind}, names[i]? = some (x, k) → names.lookup x = some k := by
  induction names with
  | nil => intro i x k h; simp at h
  | cons p r ih =>
    intro i x k h
    obtain ⟨y, ky⟩ := p
    rw [List.map_cons, List.nodup_cons] at hn
    cases i with
    | zero => simp at h; obtain ⟨rfl, rfl⟩ := h; simp [List.lookup_cons]
    | succ i =>
      simp at h
      have hm : x ∈ r.map (·.1) := List.mem_map.mpr ⟨(x, k), List.mem_of_getElem? h, rfl⟩
      have hne : x ≠ y := fun q => hn.1 (q ▸ hm)
      rw [List.lookup_cons, beq_eq_false_iff_ne.mpr hne]
      exact ih hn.2 h

theorem EnvOk.kindOf (e : EnvOk g names env ρ lv h) {i : Nat} {x : Str} {k : NameKind} (hi : names[i]? = some (x, k)) : env.kindOf x = some k := by
  unfold Env.kindOf; rw [e.hnames]; exact lookup_of_get e.nodup hi
theorem EnvOk.notDebug (e : EnvOk g names env ρ lv h) {i : Nat} {x : Str} {k : NameKind} (hi : names[i]? = some (x, k)) : (x == ("__debug__" : Str)) = false ∧ (x == ("__classdict__" : Str)) = false := by
  have := e.plain _ (List.mem_of_getElem? hi)
  simpa [plainName] using this

noncomputable def E.var (i : Nat) : Den := fun lv σ => (lvGet lv i).map fun v => (v, σ)
noncomputable def E.const (v : V) : Den := fun _ σ => some (v, σ)

theorem SE.var {i : Nat} {x : Str} {kd : NameKind} {pos : Pos} (hi : names[i]? = some (x, kd)) (hk : kd = .local ∨ kd = .cell ∨ kd = .free) : SE g names k (.Name x pos) (E.var i) := by
  intro A env ρ lv σ s v σ' R e S hm
  obtain ⟨v', hv, e2⟩ := Option.map_eq_some_iff.mp hm
  cases e2
  obtain ⟨hd, hc⟩ := e.notDebug hi
  have hko := e.kindOf hi
  have fin : ∀ u, RepV g ρ s.heap v u → Post g ρ s σ v u s := fun u hu => ⟨ρ, Step.refl .., S, hu⟩
  rcases hk with rfl | hk
  · obtain ⟨m, hm, hr⟩ := e.ns
    have := hr i x hi
    rw [hv] at this
    cases hmx : m x with
    | none => rw [hmx] at this; exact this.elim
    | some u =>
      rw [hmx] at this
      exact wpAny_Name (wpAny_loadName_local e.kind hko hm hmx (fin u this)) hd
  · obtain ⟨c, ov, h1, h2, h3⟩ := e.cellAt i x kd hi hk
    rw [hv] at h3
    cases ov with
    | none => exact h3.elim
    | some u =>
      rcases hk with rfl | rfl
      · exact wpAny_Name (wpAny_loadName_cell e.kind hko h1 h2 (fin u h3)) hd
      · exact wpAny_Name (wpAny_loadName_free e.kind hko h1 h2 (fin u h3) hc) hd

theorem SE.cInt {i : Int} {c : Nat} {pos : Pos} : SE g names k (.Constant (.int i) c pos) (E.const (.int i)) := by
  intro A env ρ lv σ s v σ' R e S hm
  cases hm
  exact wpAny_Constant_int ⟨ρ, Step.toks _, S.ext fun _ _ e => e, ⟨_, rfl⟩⟩
theorem SE.cStr {x : Str} {c : Nat} {pos : Pos} : SE g names k (.Constant (.str x) c pos) (E.const (.str x)) := by
  intro A env ρ lv σ s v σ' R e S hm
  cases hm
  exact PySem.Calls.Constant_str ⟨ρ, Step.toks _, S.ext fun _ _ e => e, ⟨_, rfl⟩⟩
theorem SE.cNone {c : Nat} {pos : Pos} : SE g names k (.Constant .none c pos) (E.const .none) := by
  intro A env ρ lv σ s v σ' R e S hm
  cases hm
  exact wpAny_pure ⟨ρ, Step.refl .., S, rfl⟩
theorem SE.cBool {b : Bool} {c : Nat} {pos : Pos} : SE g names k (.Constant (.bool b) c pos) (E.const (.bool b)) := by
  intro A env ρ lv σ s v σ' R e S hm
  cases hm
  exact wpAny_pure ⟨ρ, Step.refl .., S, rfl⟩

structure GlobIs (g : GG) (x : Str) (v : V) : Prop where
  ns : g.base.Ns mainGlobals g.mg
  val : ∃ u, g.mg x = some u ∧ ∀ ρ h, RepV g ρ h v u

theorem baseNs {m : Str → Option Value} {a : Addr} (S : Sim g ρ σ h) (hn : g.base.Ns a m) : h.Ns a m := by
  obtain ⟨o, es, ep, ho, r⟩ := hn; exact ⟨o, es, ep, S.base _ _ ho, r⟩

theorem SE.glob {i : Nat} {x : Str} {v : V} {pos : Pos} (hi : names[i]? = some (x, .globalImplicit)) (G : GlobIs g x v) : SE g names k (.Name x pos) (E.const v) := by
  intro A env ρ lv σ s v' σ' R e S hm
  cases hm
  obtain ⟨hd, hc⟩ := e.notDebug hi
  obtain ⟨u, hu, hr⟩ := G.val
  exact PySem.Calls.Name_function_global e.kind (e.kindOf hi) (PySem.Calls.loadGlobal_global (by rw [e.globals]; exact baseNs S G.ns) hu ⟨ρ, Step.refl .., S, hr _ _⟩) hd

noncomputable def BinS (g : GG) (op : Operator) (f : V → V → Store → Option (V × Store)) : Prop :=
  ∀ (A : Around) (ρ : List Addr) (σ : Store) (s : Shared) (x y : V) (u w : Value) (r : V) (σ' : Store), Room 0 A → Sim g ρ σ s.heap → RepV g ρ s.heap x u → RepV g ρ s.heap y w → f x y σ = some (r, σ') →
    wpAny (model g.prog g.w) A (binaryOp op u w) (Post g ρ s σ' r) noE s

noncomputable def E.bin (f : V → V → Store → Option (V × Store)) (a b : Den) : Den := fun lv σ =>
  match a lv σ with
  | none => none
  | some (x, σ₁) => match b lv σ₁ with
    | none => none
    | some (y, σ₂) => f x y σ₂

theorem Room.le {k j : Nat} {A : Around} (r : Room k A) (h : j ≤ k) : Room j A := ⟨r.hh, by have := r.depth; lia, by have := r.units; lia⟩
theorem Room.zero {k : Nat} {A : Around} (r : Room k A) : Room 0 A := r.le (Nat.zero_le _)

theorem Post.trans {σ₂ : Store} {v : V} {u : Value} {s₂ : Shared} (S : Step g noX ρ s s₁ ρ₁) (P : Post g ρ₁ s₁ σ₂ v u s₂) : Post g ρ s σ₂ v u s₂ := by
  obtain ⟨ρ', h1, h2, h3⟩ := P; exact ⟨ρ', S.trans h1, h2, h3⟩
theorem CPost.trans {σ₂ : Store} {b c : Bool} {s₂ : Shared} (S : Step g noX ρ s s₁ ρ₁) (P : CPost g ρ₁ s₁ σ₂ b c s₂) : CPost g ρ s σ₂ b c s₂ := by
  obtain ⟨h0, ρ', h1, h2⟩ := P; exact ⟨h0, ρ', S.trans h1, h2⟩

theorem noE_mono {E : Value → Shared → Prop} : ∀ e s, noE e s → E e s := fun _ _ h => h.elim

theorem SE.bin {op : Operator} {f : V → V → Store → Option (V × Store)} {a b : Expr} {ma mb : Den} {pos : Pos} (ha : SE g names k a ma) (hb : SE g names k b mb) (hf : BinS g op f) : SE g names k (.BinOp a op b pos) (E.bin f ma mb) := by
  intro A env ρ lv σ s v σ' R e S hm
  unfold E.bin at hm
  cases h1 : ma lv σ with
  | none => rw [h1] at hm; cases hm
  | some p1 =>
    obtain ⟨x, σ₁⟩ := p1
    rw [h1] at hm; simp only at hm
    cases h2 : mb lv σ₁ with
    | none => rw [h2] at hm; cases hm
    | some p2 =>
      obtain ⟨y, σ₂⟩ := p2
      rw [h2] at hm; simp only at hm
      refine wpAny_BinOp (wpAny_mono (ha A env ρ lv σ s x σ₁ R e S h1) (fun u s₁ P => ?_) noE_mono)
      obtain ⟨ρ₁, T1, S1, r1⟩ := P
      refine wpAny_mono (hb A env ρ₁ lv σ₁ s₁ y σ₂ R (e.step' T1) S1 h2) (fun w s₂ P => ?_) noE_mono
      obtain ⟨ρ₂, T2, S2, r2⟩ := P
      refine wpAny_mono (hf A ρ₂ σ₂ s₂ x y u w v σ' R.zero S2 (r1.step T2) r2 hm) (fun r s₃ P => ?_) noE_mono
      exact (P.trans T2).trans T1

theorem postInt {i : Int} {tk : Nat} {t : Tok} (S : Sim g ρ σ s.heap) : Post g ρ s σ (.int i) (.int i t) { s with toks := tk } := ⟨ρ, Step.toks _, S, ⟨_, rfl⟩⟩

noncomputable def CmpS (g : GG) (op : CmpOp) (f : V → V → Store → Option Bool) : Prop :=
  ∀ (A : Around) (ρ : List Addr) (σ : Store) (s : Shared) (x y : V) (u w : Value) (r : Bool), Room 0 A → Sim g ρ σ s.heap → RepV g ρ s.heap x u → RepV g ρ s.heap y w → f x y σ = some r →
    wpAny (model g.prog g.w) A (compareOp op u w) (fun c s' => c = .bool r ∧ ∃ tk, s' = { s with toks := tk }) noE s

noncomputable def E.cmp (f : V → V → Store → Option Bool) (a b : Den) : Den := fun lv σ =>
  match a lv σ with
  | none => none
  | some (x, σ₁) => match b lv σ₁ with
    | none => none
    | some (y, σ₂) => (f x y σ₂).map fun r => (.bool r, σ₂)
noncomputable def C.cmp (f : V → V → Store → Option Bool) (a b : Den) : CDen := fun lv σ =>
  match a lv σ with
  | none => none
  | some (x, σ₁) => match b lv σ₁ with
    | none => none
    | some (y, σ₂) => (f x y σ₂).map fun r => (r, σ₂)

theorem SE.cmp {op : CmpOp} {f : V → V → Store → Option Bool} {a b : Expr} {ma mb : Den} {pos : Pos} (ha : SE g names k a ma) (hb : SE g names k b mb) (hf : CmpS g op f) (hm : behindInMarks op b = false := by with_unfolding_all rfl) :
    SE g names k (.Compare a [op] [b] pos) (E.cmp f ma mb) := by
  intro A env ρ lv σ s v σ' R e S hmm
  unfold E.cmp at hmm
  cases h1 : ma lv σ with
  | none => rw [h1] at hmm; cases hmm
  | some p1 =>
    obtain ⟨x, σ₁⟩ := p1
    rw [h1] at hmm; simp only at hmm
    cases h2 : mb lv σ₁ with
    | none => rw [h2] at hmm; cases hmm
    | some p2 =>
      obtain ⟨y, σ₂⟩ := p2
      rw [h2] at hmm; simp only at hmm
      obtain ⟨r, hr, e2⟩ := Option.map_eq_some_iff.mp hmm
      cases e2
      refine wpAny_Compare1 (hm := hm) (wpAny_mono (ha A env ρ lv σ s x σ₁ R e S h1) (fun u s₁ P => ?_) noE_mono)
      obtain ⟨ρ₁, T1, S1, r1⟩ := P
      refine wpAny_mono (hb A env ρ₁ lv σ₁ s₁ y σ' R (e.step' T1) S1 h2) (fun w s₂ P => ?_) noE_mono
      obtain ⟨ρ₂, T2, S2, r2⟩ := P
      refine wpAny_mono (hf A ρ₂ σ' s₂ x y u w r R.zero S2 (r1.step T2) r2 hr) (fun c s₃ P => ?_) noE_mono
      obtain ⟨rfl, tk, rfl⟩ := P
      exact ⟨ρ₂, (T1.trans T2).trans (Step.toks tk), S2, rfl⟩

theorem CE.cmp {op : CmpOp} {f : V → V → Store → Option Bool} {a b : Expr} {ma mb : Den} {pos : Pos} (ha : SE g names k a ma) (hb : SE g names k b mb) (hf : CmpS g op f) (hm : behindInMarks op b = false := by with_unfolding_all rfl) :
    CE g names k (.Compare a [op] [b] pos) (C.cmp f ma mb) := by
  intro A env ρ lv σ s v σ' R e S hmm
  unfold C.cmp at hmm
  cases h1 : ma lv σ with
  | none => rw [h1] at hmm; cases hmm
  | some p1 =>
    obtain ⟨x, σ₁⟩ := p1
    rw [h1] at hmm; simp only at hmm
    cases h2 : mb lv σ₁ with
    | none => rw [h2] at hmm; cases hmm
    | some p2 =>
      obtain ⟨y, σ₂⟩ := p2
      rw [h2] at hmm; simp only at hmm
      obtain ⟨r, hr, e2⟩ := Option.map_eq_some_iff.mp hmm
      cases e2
      refine wpAny_isTrue_Compare1 (hm := hm) (wpAny_mono (ha A env ρ lv σ s x σ₁ R e S h1) (fun u s₁ P => ?_) noE_mono)
      obtain ⟨ρ₁, T1, S1, r1⟩ := P
      refine wpAny_mono (hb A env ρ₁ lv σ₁ s₁ y σ' R (e.step' T1) S1 h2) (fun w s₂ P => ?_) noE_mono
      obtain ⟨ρ₂, T2, S2, r2⟩ := P
      refine wpAny_mono (hf A ρ₂ σ' s₂ x y u w v R.zero S2 (r1.step T2) r2 hr) (fun c s₃ P => ?_) noE_mono
      obtain ⟨rfl, tk, rfl⟩ := P
      exact wpAny_truthy_bool ⟨rfl, ρ₂, (T1.trans T2).trans (Step.toks tk), S2⟩

noncomputable def C.not (a : CDen) : CDen := fun lv σ => (a lv σ).map fun p => (!p.1, p.2)
noncomputable def C.and (a b : CDen) : CDen := fun lv σ => match a lv σ with
  | none => none
  | some (true, σ₁) => b lv σ₁
  | some (false, σ₁) => some (false, σ₁)
noncomputable def C.or (a b : CDen) : CDen := fun lv σ => match a lv σ with
  | none => none
  | some (true, σ₁) => some (true, σ₁)
  | some (false, σ₁) => b lv σ₁

noncomputable def truthV : V → Store → Option Bool
  | .bool b, _ => some b
  | .int i, _ => some (!decide (i = 0))
  | _, _ => none
noncomputable def C.val (a : Den) : CDen := fun lv σ => match a lv σ with
  | none => none
  | some (x, σ₁) => (truthV x σ₁).map fun b => (b, σ₁)

theorem CE.and {a b : Expr} {ma mb : CDen} {pos : Pos} (ha : CE g names k a ma) (hb : CE g names k b mb) : CE g names k (.BoolOp .And [a, b] pos) (C.and ma mb) := by
  intro A env ρ lv σ s v σ' R e S hmm
  unfold C.and at hmm
  refine wpAny_isTrue_BoolOp (wpAny_allTrue_And_cons ?_)
  cases h1 : ma lv σ with
  | none => rw [h1] at hmm; cases hmm
  | some p1 =>
    obtain ⟨c, σ₁⟩ := p1
    rw [h1] at hmm
    refine wpAny_mono (ha A env ρ lv σ s c σ₁ R e S h1) (fun c' s₁ P => ?_) noE_mono
    obtain ⟨rfl, ρ₁, T1, S1⟩ := P
    cases c' with
    | false =>
      simp only at hmm; cases hmm
      rw [if_neg (by simp)]; exact ⟨rfl, ρ₁, T1, S1⟩
    | true =>
      simp only at hmm
      rw [if_pos rfl]
      refine wpAny_allTrue_And_cons (wpAny_mono (hb A env ρ₁ lv σ₁ s₁ v σ' R (e.step' T1) S1 hmm) (fun c s₂ P => ?_) noE_mono)
      have P' := P.trans T1
      cases c with
      | false => rw [if_neg (by simp)]; exact P'
      | true => rw [if_pos rfl]; exact wpAny_allTrue_And_nil P'

theorem CE.or {a b : Expr} {ma mb : CDen} {pos : Pos} (ha : CE g names k a ma) (hb : CE g names k b mb) : CE g names k (.BoolOp .Or [a, b] pos) (C.or ma mb) := by
  intro A env ρ lv σ s v σ' R e S hmm
  unfold C.or at hmm
  refine wpAny_isTrue_BoolOp (wpAny_allTrue_Or_cons ?_)
  cases h1 : ma lv σ with
  | none => rw [h1] at hmm; cases hmm
  | some p1 =>
    obtain ⟨c, σ₁⟩ := p1
    rw [h1] at hmm
    refine wpAny_mono (ha A env ρ lv σ s c σ₁ R e S h1) (fun c' s₁ P => ?_) noE_mono
    obtain ⟨rfl, ρ₁, T1, S1⟩ := P
    cases c' with
    | true =>
      simp only at hmm; cases hmm
      rw [if_pos rfl]; exact ⟨rfl, ρ₁, T1, S1⟩
    | false =>
      simp only at hmm
      rw [if_neg (by simp)]
      refine wpAny_allTrue_Or_cons (wpAny_mono (hb A env ρ₁ lv σ₁ s₁ v σ' R (e.step' T1) S1 hmm) (fun c s₂ P => ?_) noE_mono)
      have P' := P.trans T1
      cases c with
      | true => rw [if_pos rfl]; exact P'
      | false => rw [if_neg (by simp)]; exact wpAny_allTrue_Or_nil P'

theorem CE.or3 {a b c : Expr} {ma mb mc : CDen} {pos : Pos} (ha : CE g names k a ma) (hb : CE g names k b mb) (hc : CE g names k c mc) : CE g names k (.BoolOp .Or [a, b, c] pos) (C.or ma (C.or mb mc)) := by
  intro A env ρ lv σ s v σ' R e S hmm
  unfold C.or at hmm
  refine wpAny_isTrue_BoolOp (wpAny_allTrue_Or_cons ?_)
  cases h1 : ma lv σ with
  | none => rw [h1] at hmm; cases hmm
  | some p1 =>
    obtain ⟨c1, σ₁⟩ := p1
    rw [h1] at hmm
    refine wpAny_mono (ha A env ρ lv σ s c1 σ₁ R e S h1) (fun c' s₁ P => ?_) noE_mono
    obtain ⟨rfl, ρ₁, T1, S1⟩ := P
    cases c' with
    | true =>
      simp only at hmm; cases hmm
      rw [if_pos rfl]; exact ⟨rfl, ρ₁, T1, S1⟩
    | false =>
      rw [if_neg (by simp)]
      have := CE.or (pos := pos) hb hc A env ρ₁ lv σ₁ s₁ v σ' R (e.step' T1) S1 (by simpa [C.or] using hmm)
      rw [show isTrue (.BoolOp .Or [b, c] pos) env (eval (.BoolOp .Or [b, c] pos) env) = allTrue .Or [b, c] env from rfl] at this
      exact wpAny_mono this (fun c s₂ P => P.trans T1) noE_mono

noncomputable def E.ite (c : CDen) (a b : Den) : Den := fun lv σ => match c lv σ with
  | none => none
  | some (true, σ₁) => a lv σ₁
  | some (false, σ₁) => b lv σ₁
theorem SE.ite {t a b : Expr} {mt : CDen} {ma mb : Den} {pos : Pos} (ht : CE g names k t mt) (ha : SE g names k a ma) (hb : SE g names k b mb) : SE g names k (.IfExp t a b pos) (E.ite mt ma mb) := by
  intro A env ρ lv σ s v σ' R e S hmm
  unfold E.ite at hmm
  refine wpAny_IfExp ?_
  cases h1 : mt lv σ with
  | none => rw [h1] at hmm; cases hmm
  | some p1 =>
    obtain ⟨c, σ₁⟩ := p1
    rw [h1] at hmm
    refine wpAny_mono (ht A env ρ lv σ s c σ₁ R e S h1) (fun c' s₁ P => ?_) noE_mono
    obtain ⟨rfl, ρ₁, T1, S1⟩ := P
    cases c' with
    | true =>
      rw [if_pos rfl]
      exact wpAny_mono (ha A env ρ₁ lv σ₁ s₁ v σ' R (e.step' T1) S1 hmm) (fun _ _ P => P.trans T1) noE_mono
    | false =>
      rw [if_neg (by simp)]
      exact wpAny_mono (hb A env ρ₁ lv σ₁ s₁ v σ' R (e.step' T1) S1 hmm) (fun _ _ P => P.trans T1) noE_mono

noncomputable def L.nil : LDen := fun _ σ => some ([], σ)
noncomputable def L.cons (a : Den) (r : LDen) : LDen := fun lv σ => match a lv σ with
  | none => none
  | some (x, σ₁) => match r lv σ₁ with
    | none => none
    | some (xs, σ₂) => some (x :: xs, σ₂)
theorem SL.nil : SL g names k [] L.nil := by
  intro A env pos ρ lv σ s vs σ' R e S hmm
  cases hmm
  exact PySem.Calls.spliced_nil ⟨ρ, Step.refl .., S, rfl⟩
noncomputable def notStar : Expr → Bool
  | .Starred .. => false
  | _ => true
theorem starEach_plain {a : Expr} {r : List Expr} (h : notStar a = true) : starEach (a :: r) env = (false, eval a env) :: starEach r env := by
  cases a <;> first | rfl | cases h
theorem SL.cons {a : Expr} {r : List Expr} {ma : Den} {mr : LDen} (ha : SE g names k a ma) (hr : SL g names k r mr) (hs : notStar a = true := by rfl) : SL g names k (a :: r) (L.cons ma mr) := by
  intro A env pos ρ lv σ s vs σ' R e S hmm
  unfold L.cons at hmm
  rw [starEach_plain hs]
  cases h1 : ma lv σ with
  | none => rw [h1] at hmm; cases hmm
  | some p1 =>
    obtain ⟨x, σ₁⟩ := p1
    rw [h1] at hmm; simp only at hmm
    cases h2 : mr lv σ₁ with
    | none => rw [h2] at hmm; cases hmm
    | some p2 =>
      obtain ⟨xs, σ₂⟩ := p2
      rw [h2] at hmm; simp only at hmm
      cases hmm
      refine PySem.Calls.spliced_cons (wpAny_mono (ha A env ρ lv σ s x σ₁ R e S h1) (fun u s₁ P => ?_) noE_mono)
      obtain ⟨ρ₁, T1, S1, r1⟩ := P
      refine wpAny_mono (hr A env pos ρ₁ lv σ₁ s₁ xs σ' R (e.step' T1) S1 h2) (fun us s₂ P => ?_) noE_mono
      obtain ⟨ρ₂, T2, S2, r2⟩ := P
      exact ⟨ρ₂, T1.trans T2, S2, u, us, rfl, r1.step T2, r2⟩

noncomputable def E.tup (m : LDen) : Den := fun lv σ => match m lv σ with
  | none => none
  | some (xs, σ₁) => if xs.length ≤ LIM then some (.tup xs, σ₁) else none
noncomputable def E.list (m : LDen) : Den := fun lv σ => match m lv σ with
  | none => none
  | some (xs, σ₁) => if xs.length ≤ LIM then some (.loc σ₁.length, σ₁ ++ [.list xs]) else none

theorem limLine : LIM + 1 ≤ sizeLine := by decide

theorem post_tuple {vs : List V} {us : List Value} (S : Sim g ρ σ s.heap) (r : RepVs g ρ s.heap vs us) : Post g ρ s σ (.tup vs) (.ref s.heap.objs.size) { s with heap := s.heap.push { cls := .type "tuple", data := .seq (List.toArray us) } } := by
  have hk : ∀ b o, s.heap.get? b = some o → (s.heap.push { cls := .type "tuple", data := .seq (List.toArray us) }).get? b = some o := fun b o e => Heap.get?_push_of_some _ e
  exact ⟨ρ, Step.ext' hk, S.ext hk, _, us, rfl, ⟨0, Heap.get?_push_size _ rfl⟩, by simpa using RepVs.grow (t := []) (fun b o e _ => hk b o e) r⟩

theorem wp_newTuple {vs : List V} {us : List Value} {E : Value → Shared → Prop} (S : Sim g ρ σ s.heap) (r : RepVs g ρ s.heap vs us) (hl : vs.length ≤ LIM) : wpAny (model g.prog g.w) A (newTuple us) (Post g ρ s σ (.tup vs)) E s := by
  refine wpAny_newObj_type (post_tuple S r) ?_
  show (List.toArray us).size ≤ sizeLine
  have := limLine
  simp [r.length]; lia

theorem post_list {vs : List V} {us : List Value} (S : Sim g ρ σ s.heap) (r : RepVs g ρ s.heap vs us) (hl : vs.length ≤ LIM) : Post g ρ s (σ ++ [.list vs]) (.loc σ.length) (.ref s.heap.objs.size) { s with heap := s.heap.push { cls := .type "list", data := .seq (List.toArray us) } } := by
  have hk : ∀ b o, s.heap.get? b = some o → (s.heap.push { cls := .type "list", data := .seq (List.toArray us) }).get? b = some o := fun b o e => Heap.get?_push_of_some _ e
  have hn := noNew s.heap
  refine ⟨ρ ++ [s.heap.objs.size], Step.alloc (tk := s.toks) hn hk, S.alloc hn S.big hk ⟨hl, us, 0, Heap.get?_push_size _ rfl, RepVs.grow (fun b o e _ => hk b o e) r⟩, _, rfl, ?_⟩
  rw [← S.len]; simp

theorem wp_newList {vs : List V} {us : List Value} {E : Value → Shared → Prop} (S : Sim g ρ σ s.heap) (r : RepVs g ρ s.heap vs us) (hl : vs.length ≤ LIM) : wpAny (model g.prog g.w) A (newList us) (Post g ρ s (σ ++ [.list vs]) (.loc σ.length)) E s := by
  refine wpAny_newObj_type (post_list S r hl) ?_
  show (List.toArray us).size ≤ sizeLine
  have := limLine
  simp [r.length]; lia

set_option tactic.hygienic true in
theorem SE.tup {es : List Expr} {m : LDen} {c : Nat} {pos : Pos} (he : SL g names k es m) : SE g names k (.Tuple es c pos) (E.tup m) := by
  intro A env ρ lv σ s v σ' R e S hmm
  unfold E.tup at hmm
  cases h1 : m lv σ with
  | none => rw [h1] at hmm; cases hmm
  | some p1 =>
    obtain ⟨xs, σ₁⟩ := p1
    rw [h1] at hmm; simp only at hmm
    split at hmm
    · rename_i hl
      cases hmm
      refine PyProof.Rows.Tuple_ (wpAny_mono (he A env pos ρ lv σ s xs σ' R e S h1) (fun us s₁ P => ?_) noE_mono)
      obtain ⟨ρ₁, T1, S1, r1⟩ := P
      exact wpAny_mono (wp_newTuple (E := noE) S1 r1 hl) (fun _ _ P => P.trans T1) noE_mono
    · cases hmm
set_option tactic.hygienic true in
theorem SE.list {es : List Expr} {m : LDen} {pos : Pos} (he : SL g names k es m) : SE g names k (.List es pos) (E.list m) := by
  intro A env ρ lv σ s v σ' R e S hmm
  unfold E.list at hmm
  cases h1 : m lv σ with
  | none => rw [h1] at hmm; cases hmm
  | some p1 =>
    obtain ⟨xs, σ₁⟩ := p1
    rw [h1] at hmm; simp only at hmm
    split at hmm
    · rename_i hl
      cases hmm
      refine PyProof.Rows.List_ (wpAny_mono (he A env pos ρ lv σ s xs σ₁ R e S h1) (fun us s₁ P => ?_) noE_mono)
      obtain ⟨ρ₁, T1, S1, r1⟩ := P
      exact wpAny_mono (wp_newList (E := noE) S1 r1 hl) (fun _ _ P => P.trans T1) noE_mono
    · cases hmm
end
end Mini
end

section
namespace Mini
open PySem PySem.SeqAt

noncomputable def flats (vs : List V) : Bool := vs.all (V.flat 6)
noncomputable def flatD (es : List (V × V)) : Bool := es.all fun p => V.flat 6 p.2
noncomputable def dictHits (fs : List (V × V)) : List (V × V) → Bool
  | [] => true
  | (k, v) :: r => match dGet fs k with
    | none => false
    | some y => V.beq v y && dictHits fs r

noncomputable def eqS : V → V → Store → Option Bool
  | .bool a, .bool b, _ => some (a == b)
  | .loc a, .loc b, σ => match σ[a]?, σ[b]? with
    | some (.list xs), some (.list ys) => if flats xs && flats ys then some (V.beqs xs ys) else none
    | some (.dict es), some (.dict fs) => if flatD es && flatD fs then some (es.length == fs.length && dictHits fs es) else none
    | _, _ => none
  | x, y, _ => if V.flat 6 x && V.flat 6 y then some (V.beq x y) else none
noncomputable def neS (x y : V) (σ : Store) : Option Bool := (eqS x y σ).map (!·)

theorem V.flat_mono : ∀ {n : Nat} {v : V}, V.flat n v = true → V.flat (n + 1) v = true
  | _, .none, _ => by simp [V.flat]
  | _, .int _, _ => by simp [V.flat]
  | _, .str _, _ => by simp [V.flat]
  | n + 1, .tup vs, h => by
    rw [V.flat, List.all_eq_true] at h ⊢
    exact fun x hx => V.flat_mono (h x hx)
  | 0, .tup vs, h => by simp [V.flat] at h
  | 0, .bool _, h => by simp [V.flat] at h
  | 0, .loc _, h => by simp [V.flat] at h
  | 0, .rng _ _, h => by simp [V.flat] at h
  | 0, .scr _, h => by simp [V.flat] at h
  | _ + 1, .bool _, h => by simp [V.flat] at h
  | _ + 1, .loc _, h => by simp [V.flat] at h
  | _ + 1, .rng _ _, h => by simp [V.flat] at h
  | _ + 1, .scr _, h => by simp [V.flat] at h

section
variable {g : GG} {ρ : List Addr} {σ : Store} {s : Shared} {A : Around} {h : Heap}

theorem samePairs_V {nm : String} {la lb : Nat} {a b : Addr} {es fs : List (V × V)} {E : Value → Shared → Prop} {Q : Bool → Shared → Prop} (hu : A.units + 40 < cLine) (S : Sim g ρ σ s.heap)
    (hla : σ[la]? = some (.dict es)) (ha : ρ[la]? = some a) (hlb : σ[lb]? = some (.dict fs)) (hb : ρ[lb]? = some b) (fa : flatD es = true) (fb : flatD fs = true)
    (h : Q (es.length == fs.length && dictHits fs es) s) : wpAny (model g.prog g.w) A (Builtin.Dict.samePairs nm a b) Q E s := by
  obtain ⟨_, koa, ents, hoa, ra⟩ := S.dict hla ha
  obtain ⟨_, kob, fnts, hob, rb⟩ := S.dict hlb hb
  have hza : (List.toArray ents).size = es.length := by simp [ra.length]
  have hzb : (List.toArray fnts).size = fs.length := by simp [rb.length]
  unfold Builtin.Dict.samePairs Builtin.Dict.showsAll
  rw [if_neg (show ¬ (a == sysModules) = true by rw [S.notModules ha]; exact Bool.false_ne_true), if_neg (show ¬ (b == sysModules) = true by rw [S.notModules hb]; exact Bool.false_ne_true)]
  refine wpAny_bind (wpAny_pure (wpAny_bind (wpAny_pure ?_)))
  refine wpAny_bind (wpAny_dictEntries hoa rfl ?_)
  dsimp only
  refine wpAny_bind (wpAny_dictEntries hob rfl ?_)
  rw [hza, hzb]
  by_cases hsz : es.length = fs.length
  case neg =>
    rw [if_pos (by simpa using hsz)]
    have hbf : (es.length == fs.length) = false := by simpa using hsz
    rw [hbf, Bool.false_and] at h
    exact wpAny_bind (wpAny_rule (wpAny_pure h))
  case pos =>
    have h' : Q (dictHits fs es) s := by simpa [hsz] using h
    rw [if_neg (by rw [hsz]; simp)]
    refine wpAny_bind (wpAny_dictEpoch hoa rfl ?_)
    refine wpAny_bind ?_
    rw [Std.Legacy.Range.forIn_eq_forIn_range']
    simp only [Std.Legacy.Range.size, Nat.sub_zero, Nat.add_sub_cancel, Nat.div_one]
    refine wpAny_forIn_list _
      (fun rest q s' => s' = s ∧ q = (none, ()) ∧ ∃ i, rest = List.range' i (es.length - i) ∧ i ≤ es.length ∧ dictHits fs (es.drop i) = dictHits fs es)
      _ ?_ ?_ _ _ ⟨rfl, rfl, 0, by simp, Nat.zero_le _, by simp⟩
    · rintro x rest q s' ⟨rfl, rfl, i, hr, hi, hpre⟩
      have hlt : i < es.length := by
        rcases Nat.lt_or_ge i es.length with h | h
        · exact h
        · rw [Nat.sub_eq_zero_of_le h] at hr; simp at hr
      obtain ⟨rfl, hrest⟩ : x = i ∧ rest = List.range' (i + 1) (es.length - (i + 1)) := by
        have e : es.length - i = (es.length - (i + 1)) + 1 := by lia
        rw [e, List.range'_succ] at hr
        injection hr with h1 h2
        exact ⟨h1, h2⟩
      refine wpAny_bind (wpAny_dictEntries hoa rfl ?_)
      obtain ⟨p, hp⟩ : ∃ p, es[x]? = some p := ⟨_, List.getElem?_eq_getElem hlt⟩
      obtain ⟨⟨hh, kk, vv⟩, he, h1, h2, h3⟩ := ra.get hp
      obtain ⟨pk, pv⟩ := p
      have hdrop : es.drop x = (pk, pv) :: es.drop (x + 1) := by
        rw [List.drop_eq_getElem_cons hlt]; congr 1
        rw [List.getElem?_eq_getElem hlt] at hp; exact Option.some.inj hp
      have hmem := List.mem_of_getElem? hp
      have hkp := koa.2 _ hmem
      have hfp : V.flat 6 pv = true := (List.all_eq_true.mp fa) _ hmem
      simp only at h1 h2 h3 hkp
      subst h1
      rw [show (List.toArray ents)[x]? = some ⟨hashV pk, kk, vv⟩ by simpa using he]
      show wpAny _ _ (holding [kk, vv] _ >>= _) _ _ _
      refine wpAny_bind (wpAny_holding (wpAny_bind (dictFind_V (by lia) hob rfl rb kob hkp h2 ?_)))
      rw [hdrop, dictHits] at hpre
      cases hj : dFind fs pk with
      | none =>
        rw [dGet_of_none hj] at hpre
        rw [← hpre] at h'
        refine wpAny_pure ?_
        show wpAny _ _ (if (!false) = true then _ else _) _ _ _
        rw [if_pos (by decide)]
        exact wpAny_pure (wpAny_pure h')
      | some j =>
        obtain ⟨e1, e2⟩ := dGet_of_some hj
        obtain ⟨q, hq⟩ : ∃ q, fs[j]? = some q := ⟨_, List.getElem?_eq_getElem e2⟩
        rw [e1, hq] at hpre
        simp only [Option.map_some] at hpre
        obtain ⟨f, hf, _, _, hfv⟩ := rb.get hq
        have hfq : V.flat 6 q.2 = true := (List.all_eq_true.mp fb) _ (List.mem_of_getElem? hq)
        refine wpAny_bind (wpAny_dictEntries hob rfl ?_)
        rw [show (List.toArray fnts)[j]? = some f by simpa using hf]
        refine wpAny_holding (eqAt_V 6 hfp hfq h3 hfv (by lia) g.prog g.w _ _ ?_)
        cases hb : V.beq pv q.2 with
        | false =>
          rw [hb, Bool.false_and] at hpre
          rw [← hpre] at h'
          show wpAny _ _ (if (!false) = true then _ else _) _ _ _
          rw [if_pos (by decide)]
          exact wpAny_pure (wpAny_pure h')
        | true =>
          rw [hb, Bool.true_and] at hpre
          show wpAny _ _ (if (!true) = true then _ else _) _ _ _
          rw [if_neg (by decide)]
          refine wpAny_bind (wpAny_dictEpoch hoa rfl ?_)
          rw [if_neg (by simp)]
          exact wpAny_pure ⟨rfl, rfl, x + 1, hrest, hlt, hpre⟩
    · rintro q s' ⟨rfl, rfl, i, hr, hi, hpre⟩
      have hin : i = es.length := by
        rcases Nat.lt_or_ge i es.length with h | h
        · have e : es.length - i = (es.length - (i + 1)) + 1 := by lia
          rw [e, List.range'_succ] at hr; exact nomatch hr
        · exact Nat.le_antisymm hi h
      refine wpAny_pure ?_
      rw [hin, List.drop_length] at hpre
      rw [← hpre] at h'
      exact h'

theorem isList_of {a : Addr} {us : List Value} {n : Nat} (ho : h.get? a = some { cls := .type "list", data := .seq (List.toArray us) n }) : h.IsList a (List.toArray us) := ⟨_, ho, rfl, n, rfl⟩

theorem dict_eq_V {op : CmpOp} {la lb : Nat} {a b : Addr} {es fs : List (V × V)} {E : Value → Shared → Prop} {Q : Value → Shared → Prop} (hop : op = .Eq ∨ op = .NotEq) (hu : A.units + 50 < cLine) (S : Sim g ρ σ s.heap)
    (hla : σ[la]? = some (.dict es)) (ha : ρ[la]? = some a) (hlb : σ[lb]? = some (.dict fs)) (hb : ρ[lb]? = some b) (fa : flatD es = true) (fb : flatD fs = true)
    (h : Q (.bool ((es.length == fs.length && dictHits fs es) == (op == .Eq))) s) : wpAny (model g.prog g.w) A (richCompare op (.ref a) (.ref b)) Q E s := by
  obtain ⟨_, _, _, hoa, _⟩ := S.dict hla ha
  obtain ⟨_, _, _, hob, _⟩ := S.dict hlb hb
  have hTa := IsD.typeIs hoa
  have hTb := IsD.typeIs hob
  rcases hop with rfl | rfl
  · refine wpAny_richCompare_same_room (op := .Eq) hTa hTb F.slot_dict_eq (wpAny_call_entry F.slot_dict_eq hTa F.entry_dict_eq ?_ (F.args_dict_eq_2 _ _)) (by lia)
    show wpAny _ _ (Builtin.Dict.dictSlotArgs "__eq__" ⟨[.ref a, .ref b], []⟩ >>= _) _ _ s
    refine wpAny_bind ?_
    unfold Builtin.Dict.dictSlotArgs
    refine wpAny_bind (wpAny_notOrdered_dict hTa ?_)
    show wpAny _ _ (pure (Value.ref a, Value.ref b)) _ _ s
    refine wpAny_pure ?_
    refine wpAny_bind (wpAny_isInstance (T := "dict") hTb F.sub_dict_dict ?_)
    simp only [Bool.not_true, Bool.false_eq_true, if_false]
    refine wpAny_bind (wpAny_pure (wpAny_bind (wpAny_pure ?_)))
    refine wpAny_bind (samePairs_V (A := A.in1) (by show A.units + 1 + 40 < cLine; lia) S hla ha hlb hb fa fb ?_)
    exact wpAny_pure ⟨_, rfl, by simp, h⟩
  · refine wpAny_richCompare_same_room (op := .NotEq) hTa hTb F.slot_dict_ne (wpAny_call_entry F.slot_dict_ne hTa F.entry_dict_ne ?_ (F.args_dict_ne_2 _ _)) (by lia)
    show wpAny _ _ (Builtin.Dict.dictSlotArgs "__ne__" ⟨[.ref a, .ref b], []⟩ >>= _) _ _ s
    refine wpAny_bind ?_
    unfold Builtin.Dict.dictSlotArgs
    refine wpAny_bind (wpAny_notOrdered_dict hTa ?_)
    show wpAny _ _ (pure (Value.ref a, Value.ref b)) _ _ s
    refine wpAny_pure ?_
    refine wpAny_bind (wpAny_isInstance (T := "dict") hTb F.sub_dict_dict ?_)
    simp only [Bool.not_true, Bool.false_eq_true, if_false]
    refine wpAny_bind (wpAny_pure (wpAny_bind (wpAny_pure ?_)))
    refine wpAny_bind (samePairs_V (A := A.in1) (by show A.units + 1 + 40 < cLine; lia) S hla ha hlb hb fa fb ?_)
    exact wpAny_pure ⟨_, rfl, by simp, h⟩

theorem beqs_all : ∀ (as bs : List V) (e : Nat → Bool), as.length = bs.length → (∀ j (h1 : j < as.length) (h2 : j < bs.length), e j = V.beq as[j] bs[j]) →
    (List.range as.length).all e = V.beqs as bs := fun as bs e hl h => by
  have := beqs_range as bs e h
  rw [← this, ← hl]; simp

theorem beqs_len : ∀ (as bs : List V), as.length ≠ bs.length → V.beqs as bs = false
  | [], [], h => absurd rfl h
  | [], _ :: _, _ => rfl
  | _ :: _, [], _ => rfl
  | a :: as, b :: bs, h => by rw [V.beqs, beqs_len as bs (by simpa using h), Bool.and_false]

theorem list_items {xs ys : List V} {us vs : List Value} {A : Around} (fx : flats xs = true) (fy : flats ys = true) (rx : RepVs g ρ s.heap xs us) (ry : RepVs g ρ s.heap ys vs) (hu : A.units + 6 < cLine) :
    ∀ j (h1 : j < (List.toArray us).size) (h2 : j < (List.toArray vs).size), EqAt A s (List.toArray us)[j] (List.toArray vs)[j] (V.beq (xs.getD j .none) (ys.getD j .none)) := fun j h1 h2 => by
  have hlen := rx.length
  have hlen' := ry.length
  have h1' : j < xs.length := by simpa [hlen] using h1
  have h2' : j < ys.length := by simpa [hlen'] using h2
  obtain ⟨x, hx, hxr⟩ := rx.get (List.getElem?_eq_getElem h1')
  obtain ⟨y, hy, hyr⟩ := ry.get (List.getElem?_eq_getElem h2')
  have ex : (List.toArray us)[j] = x := by
    obtain ⟨q, e⟩ := List.getElem?_eq_some_iff.mp hx; simpa using e
  have ey : (List.toArray vs)[j] = y := by
    obtain ⟨q, e⟩ := List.getElem?_eq_some_iff.mp hy; simpa using e
  rw [ex, ey, getD_at _ _ _ h1', getD_at _ _ _ h2']
  exact eqAt_V 6 ((List.all_eq_true.mp fx) _ (List.getElem_mem h1')) ((List.all_eq_true.mp fy) _ (List.getElem_mem h2')) hxr hyr hu

theorem list_eq_V {la lb : Nat} {a b : Addr} {xs ys : List V} (hu : A.units + 50 < cLine) (S : Sim g ρ σ s.heap)
    (hla : σ[la]? = some (.list xs)) (ha : ρ[la]? = some a) (hlb : σ[lb]? = some (.list ys)) (hb : ρ[lb]? = some b) (fa : flats xs = true) (fb : flats ys = true) :
    RcAt A s (.ref a) (.ref b) (V.beqs xs ys) := by
  obtain ⟨_, us, n, hoa, ra⟩ := S.list hla ha
  obtain ⟨_, vs, m, hob, rb⟩ := S.list hlb hb
  have hza : (List.toArray us).size = xs.length := by simp [ra.length]
  have hzb : (List.toArray vs).size = ys.length := by simp [rb.length]
  by_cases hsz : xs.length = ys.length
  · have := RcAt.lists (A := A) (isList_of hoa) (isList_of hob) (by rw [hza, hzb, hsz]) (by lia) (list_items (A := A.in1) fa fb ra rb (by show A.units + 1 + 6 < cLine; lia))
    rw [hza, beqs_all xs ys _ hsz fun j h1 h2 => by rw [getD_at _ _ _ h1, getD_at _ _ _ h2]] at this
    exact this
  · rw [beqs_len _ _ hsz]
    exact RcAt.lists_lengths (isList_of hoa) (isList_of hob) (by rw [hza, hzb]; simpa using hsz) (by lia)
theorem list_ne_V {la lb : Nat} {a b : Addr} {xs ys : List V} (hu : A.units + 50 < cLine) (S : Sim g ρ σ s.heap)
    (hla : σ[la]? = some (.list xs)) (ha : ρ[la]? = some a) (hlb : σ[lb]? = some (.list ys)) (hb : ρ[lb]? = some b) (fa : flats xs = true) (fb : flats ys = true) :
    RcNeAt A s (.ref a) (.ref b) (!V.beqs xs ys) := by
  obtain ⟨_, us, n, hoa, ra⟩ := S.list hla ha
  obtain ⟨_, vs, m, hob, rb⟩ := S.list hlb hb
  have hza : (List.toArray us).size = xs.length := by simp [ra.length]
  have hzb : (List.toArray vs).size = ys.length := by simp [rb.length]
  by_cases hsz : xs.length = ys.length
  · have := RcNeAt.lists (A := A) (isList_of hoa) (isList_of hob) (by rw [hza, hzb, hsz]) (by lia) (list_items (A := A.in1) fa fb ra rb (by show A.units + 1 + 6 < cLine; lia))
    rw [hza, beqs_all xs ys _ hsz fun j h1 h2 => by rw [getD_at _ _ _ h1, getD_at _ _ _ h2]] at this
    exact this
  · rw [beqs_len _ _ hsz]
    exact RcNeAt.lists_lengths (isList_of hoa) (isList_of hob) (by rw [hza, hzb]; simpa using hsz) (by lia)

theorem rcAt_V {a b : V} {u v : Value} {A : Around} (ha : V.flat 6 a = true) (hb : V.flat 6 b = true) (ra : RepV g ρ s.heap a u) (rb : RepV g ρ s.heap b v) (hu : A.units + 20 < cLine) : RcAt A s u v (V.beq a b) := by
  cases a with
  | none =>
    cases b with
    | none => cases ra; cases rb; exact RcAt.none_none
    | int i => cases ra; obtain ⟨t, rfl⟩ := rb; simp only [V.beq]; exact RcAt.none_int _ _
    | str x => cases ra; obtain ⟨t, rfl⟩ := rb; simp only [V.beq]; exact RcAt.none_str _ _
    | tup vs => cases ra; obtain ⟨l, us, rfl, hl, hr⟩ := rb; simp only [V.beq]; exact RcAt.none_tuple hl.is (by grind)
    | _ => simp [V.flat] at hb
  | int i =>
    obtain ⟨t, rfl⟩ := ra
    cases b with
    | none => cases rb; simp only [V.beq]; exact RcAt.int_none _ _
    | int j => obtain ⟨t', rfl⟩ := rb; simp only [V.beq]; exact RcAt.int_int i t j t'
    | str x => obtain ⟨t', rfl⟩ := rb; simp only [V.beq]; exact RcAt.int_str _ _ _ _
    | tup vs => obtain ⟨l, us, rfl, hl, hr⟩ := rb; simp only [V.beq]; exact RcAt.int_tuple i t hl.is (by grind)
    | _ => simp [V.flat] at hb
  | str x =>
    obtain ⟨t, rfl⟩ := ra
    cases b with
    | none => cases rb; simp only [V.beq]; exact RcAt.str_none _ _
    | int j => obtain ⟨t', rfl⟩ := rb; simp only [V.beq]; exact RcAt.str_int _ _ _ _
    | str y => obtain ⟨t', rfl⟩ := rb; simp only [V.beq]; exact RcAt.str_str x t y t'
    | tup vs => obtain ⟨l, us, rfl, hl, hr⟩ := rb; simp only [V.beq]; exact RcAt.str_tuple x t hl.is (by grind)
    | _ => simp [V.flat] at hb
  | tup vs =>
    obtain ⟨l, us, rfl, hl, hr⟩ := ra
    cases b with
    | none => cases rb; simp only [V.beq]; exact RcAt.tuple_none hl.is (by grind)
    | int j => obtain ⟨t', rfl⟩ := rb; simp only [V.beq]; exact RcAt.tuple_int j t' hl.is (by grind)
    | str y => obtain ⟨t', rfl⟩ := rb; simp only [V.beq]; exact RcAt.tuple_str y t' hl.is (by grind)
    | tup ws =>
      obtain ⟨l', us', rfl, hl', hr'⟩ := rb
      have fa : flats vs = true := by simp only [V.flat, List.all_eq_true] at ha; exact List.all_eq_true.mpr fun x hx => V.flat_mono (ha x hx)
      have fb : flats ws = true := by simp only [V.flat, List.all_eq_true] at hb; exact List.all_eq_true.mpr fun x hx => V.flat_mono (hb x hx)
      have := RcAt.tuples (A := A) hl.is hl'.is (by grind) (list_items (A := A.in1) fa fb hr hr' (by show A.units + 1 + 6 < cLine; grind))
      simp only [List.size_toArray, hr.length, hr'.length] at this
      rw [beqs_range vs ws _ fun j h1 h2 => by rw [getD_at _ _ _ h1, getD_at _ _ _ h2]] at this
      exact this
    | _ => simp [V.flat] at hb
  | _ => simp [V.flat] at ha
theorem rcNeAt_V {a b : V} {u v : Value} {A : Around} (ha : V.flat 6 a = true) (hb : V.flat 6 b = true) (ra : RepV g ρ s.heap a u) (rb : RepV g ρ s.heap b v) (hu : A.units + 20 < cLine) : RcNeAt A s u v (!V.beq a b) := by
  cases a with
  | none =>
    cases b with
    | none => cases ra; cases rb; exact RcNeAt.none_none
    | int i => cases ra; obtain ⟨t, rfl⟩ := rb; simp only [V.beq]; exact RcNeAt.none_int _ _
    | str x => cases ra; obtain ⟨t, rfl⟩ := rb; simp only [V.beq]; exact RcNeAt.none_str _ _
    | tup vs => cases ra; obtain ⟨l, us, rfl, hl, hr⟩ := rb; simp only [V.beq]; exact RcNeAt.none_tuple hl.is (by lia)
    | _ => simp [V.flat] at hb
  | int i =>
    obtain ⟨t, rfl⟩ := ra
    cases b with
    | none => cases rb; simp only [V.beq]; exact RcNeAt.int_none _ _
    | int j => obtain ⟨t', rfl⟩ := rb; simp only [V.beq]; exact RcNeAt.int_int i t j t'
    | str x => obtain ⟨t', rfl⟩ := rb; simp only [V.beq]; exact RcNeAt.int_str _ _ _ _
    | tup vs => obtain ⟨l, us, rfl, hl, hr⟩ := rb; simp only [V.beq]; exact RcNeAt.int_tuple i t hl.is (by lia)
    | _ => simp [V.flat] at hb
  | str x =>
    obtain ⟨t, rfl⟩ := ra
    cases b with
    | none => cases rb; simp only [V.beq]; exact RcNeAt.str_none _ _
    | int j => obtain ⟨t', rfl⟩ := rb; simp only [V.beq]; exact RcNeAt.str_int _ _ _ _
    | str y => obtain ⟨t', rfl⟩ := rb; simp only [V.beq]; exact RcNeAt.str_str x t y t'
    | tup vs => obtain ⟨l, us, rfl, hl, hr⟩ := rb; simp only [V.beq]; exact RcNeAt.str_tuple x t hl.is (by lia)
    | _ => simp [V.flat] at hb
  | tup vs =>
    obtain ⟨l, us, rfl, hl, hr⟩ := ra
    cases b with
    | none => cases rb; simp only [V.beq]; exact RcNeAt.tuple_none hl.is (by lia)
    | int j => obtain ⟨t', rfl⟩ := rb; simp only [V.beq]; exact RcNeAt.tuple_int j t' hl.is (by lia)
    | str y => obtain ⟨t', rfl⟩ := rb; simp only [V.beq]; exact RcNeAt.tuple_str y t' hl.is (by lia)
    | tup ws =>
      obtain ⟨l', us', rfl, hl', hr'⟩ := rb
      have fa : flats vs = true := by simp only [V.flat, List.all_eq_true] at ha; exact List.all_eq_true.mpr fun x hx => V.flat_mono (ha x hx)
      have fb : flats ws = true := by simp only [V.flat, List.all_eq_true] at hb; exact List.all_eq_true.mpr fun x hx => V.flat_mono (hb x hx)
      have := RcNeAt.tuples (A := A) hl.is hl'.is (by lia) (list_items (A := A.in1) fa fb hr hr' (by show A.units + 1 + 6 < cLine; lia))
      simp only [List.size_toArray, hr.length, hr'.length] at this
      rw [beqs_range vs ws _ fun j h1 h2 => by rw [getD_at _ _ _ h1, getD_at _ _ _ h2]] at this
      exact this
    | _ => simp [V.flat] at hb
  | _ => simp [V.flat] at ha
end
end Mini
end

section
namespace Mini
open PySem PySem.SeqAt

theorem unitsLine : cLine = 9900 := rfl
theorem Room.small {k : Nat} {A : Around} (r : Room k A) : A.units + 100 < cLine := by
  have := r.units; have := unitsLine; grind

section
variable {g : GG} {ρ : List Addr} {σ : Store} {s : Shared} {A : Around} {h : Heap}

theorem toksId (s : Shared) : ∃ tk, s = { s with toks := tk } := ⟨s.toks, rfl⟩

set_option tactic.hygienic true in
theorem CmpS.eq : CmpS g .Eq eqS := by
  intro A ρ σ s x y u w r R S rx ry hf
  have hu := R.small
  have fin : ∀ b, b = r → (fun (c : Value) (s' : Shared) => c = .bool r ∧ ∃ tk, s' = { s with toks := tk }) (.bool b) s := fun b e => ⟨by rw [e], toksId s⟩
  have flat : V.flat 6 x = true → V.flat 6 y = true → V.beq x y = r → wpAny (model g.prog g.w) A (compareOp .Eq u w) (fun c s' => c = .bool r ∧ ∃ tk, s' = { s with toks := tk }) noE s := fun fx fy e =>
    rcAt_V fx fy rx ry (by grind) g.prog g.w _ _ (fin _ e)
  have flat' : (if (V.flat 6 x && V.flat 6 y) = true then some (V.beq x y) else none) = some r → wpAny (model g.prog g.w) A (compareOp .Eq u w) (fun c s' => c = .bool r ∧ ∃ tk, s' = { s with toks := tk }) noE s := fun e => by
    split at e
    · rename_i hc; rw [Bool.and_eq_true] at hc; exact flat hc.1 hc.2 (Option.some.inj e)
    · cases e
  unfold eqS at hf
  split at hf
  · cases rx; cases ry
    exact RcAt.bool_bool _ _ g.prog g.w _ _ (fin _ (Option.some.inj hf))
  · obtain ⟨ax, rfl, hax⟩ := rx
    obtain ⟨ay, rfl, hay⟩ := ry
    split at hf
    · rename_i xs ys h1 h2
      split at hf
      · rename_i hc; rw [Bool.and_eq_true] at hc
        exact list_eq_V (by grind) S h1 hax h2 hay hc.1 hc.2 g.prog g.w _ _ (fin _ (Option.some.inj hf))
      · cases hf
    · rename_i es fs h1 h2
      split at hf
      · rename_i hc; rw [Bool.and_eq_true] at hc
        exact dict_eq_V (op := .Eq) (.inl rfl) (by grind) S h1 hax h2 hay hc.1 hc.2 (fin _ (by rw [← Option.some.inj hf]; simp))
      · cases hf
    · cases hf
  · exact flat' hf

set_option tactic.hygienic true in
theorem CmpS.ne : CmpS g .NotEq neS := by
  intro A ρ σ s x y u w r R S rx ry hf
  have hu := R.small
  obtain ⟨b, hb, e⟩ := Option.map_eq_some_iff.mp hf
  subst e
  have fin : ∀ c, c = b → (fun (c : Value) (s' : Shared) => c = .bool (!b) ∧ ∃ tk, s' = { s with toks := tk }) (.bool (!c)) s := fun c e => ⟨by rw [e], toksId s⟩
  have flat' : (if (V.flat 6 x && V.flat 6 y) = true then some (V.beq x y) else none) = some b → wpAny (model g.prog g.w) A (compareOp .NotEq u w) (fun c s' => c = .bool (!b) ∧ ∃ tk, s' = { s with toks := tk }) noE s := fun e => by
    split at e
    · rename_i hc; rw [Bool.and_eq_true] at hc
      exact rcNeAt_V hc.1 hc.2 rx ry (by grind) g.prog g.w _ _ (fin _ (Option.some.inj e))
    · cases e
  unfold eqS at hb
  split at hb
  · cases rx; cases ry
    exact RcNeAt.bool_bool _ _ g.prog g.w _ _ (fin _ (Option.some.inj hb))
  · obtain ⟨ax, rfl, hax⟩ := rx
    obtain ⟨ay, rfl, hay⟩ := ry
    split at hb
    · rename_i xs ys h1 h2
      split at hb
      · rename_i hc; rw [Bool.and_eq_true] at hc
        exact list_ne_V (by grind) S h1 hax h2 hay hc.1 hc.2 g.prog g.w _ _ (fin _ (Option.some.inj hb))
      · cases hb
    · rename_i es fs h1 h2
      split at hb
      · rename_i hc; rw [Bool.and_eq_true] at hc
        refine dict_eq_V (op := .NotEq) (.inr rfl) (by grind) S h1 hax h2 hay hc.1 hc.2 ⟨?_, toksId s⟩
        rw [Option.some.inj hb]; cases b <;> rfl
      · cases hb
    · cases hb
  · exact flat' hb

noncomputable def ltS : V → V → Store → Option Bool
  | .int a, .int b, _ => some (decide (a < b))
  | x, y, _ => if V.flat 6 x && V.flat 6 y then V.lt x y else none
noncomputable def intRel (r : Int → Int → Bool) : V → V → Store → Option Bool
  | .int a, .int b, _ => some (r a b)
  | _, _, _ => none

set_option tactic.hygienic true in
theorem CmpS.lt : CmpS g .Lt ltS := by
  intro A ρ σ s x y u w r R S rx ry hf
  have hu := R.small
  have flat' : (if (V.flat 6 x && V.flat 6 y) = true then V.lt x y else none) = some r → wpAny (model g.prog g.w) A (compareOp .Lt u w) (fun c s' => c = .bool r ∧ ∃ tk, s' = { s with toks := tk }) noE s := fun e => by
    split at e
    · rename_i hc; rw [Bool.and_eq_true] at hc
      exact ltAt_V 6 hc.1 hc.2 rx ry e (by lia) g.prog g.w _ _ ⟨rfl, toksId s⟩
    · cases e
  unfold ltS at hf
  split at hf
  · obtain ⟨t, rfl⟩ := rx
    obtain ⟨t', rfl⟩ := ry
    cases hf
    exact PyProof.Rows.lt_int ⟨rfl, toksId s⟩
  · exact flat' hf

theorem intRel_some {r : Int → Int → Bool} {x y : V} {b : Bool} (h : intRel r x y σ = some b) : ∃ i j, x = .int i ∧ y = .int j ∧ b = r i j := by
  unfold intRel at h
  split at h
  · exact ⟨_, _, rfl, rfl, (Option.some.inj h).symm⟩
  · cases h

theorem CmpS.ge : CmpS g .GtE (intRel fun a b => decide (b ≤ a)) := by
  intro A ρ σ s x y u w r R S rx ry hf
  obtain ⟨i, j, rfl, rfl, rfl⟩ := intRel_some hf
  obtain ⟨t, rfl⟩ := rx
  obtain ⟨t', rfl⟩ := ry
  exact PyProof.Rows.ge_int ⟨rfl, toksId s⟩
theorem CmpS.gt : CmpS g .Gt (intRel fun a b => decide (b < a)) := by
  intro A ρ σ s x y u w r R S rx ry hf
  obtain ⟨i, j, rfl, rfl, rfl⟩ := intRel_some hf
  obtain ⟨t, rfl⟩ := rx
  obtain ⟨t', rfl⟩ := ry
  exact PyProof.Rows.gt_int ⟨rfl, toksId s⟩

noncomputable def isNone : V → Bool
  | .none => true
  | _ => false
noncomputable def isS : V → V → Store → Option Bool
  | x, .none, _ => some (isNone x)
  | _, _, _ => none
noncomputable def isNotS (x y : V) (σ : Store) : Option Bool := (isS x y σ).map (!·)

theorem isSame_none {x : V} {u : Value} {Q : Bool → Shared → Prop} {E : Value → Shared → Prop} (rx : RepV g ρ s.heap x u) (hq : Q (isNone x) s) : wpAny (model g.prog g.w) A (isSame u .none) Q E s := by
  have key : ∀ {v : Value}, plainIs v .none = true → (v == Value.none) = isNone x → u = v → wpAny (model g.prog g.w) A (isSame u .none) Q E s := fun hp hb e => by
    subst e; exact wpAny_isSame_plain hp (by rw [hb]; exact hq)
  cases x with
  | none => exact key rfl rfl rx
  | bool b => exact key rfl rfl rx
  | int i => obtain ⟨t, rfl⟩ := rx; exact key rfl rfl rfl
  | str x => obtain ⟨t, rfl⟩ := rx; exact key rfl rfl rfl
  | tup vs => obtain ⟨a, us, rfl, _⟩ := rx; exact key rfl rfl rfl
  | loc l => obtain ⟨a, rfl, _⟩ := rx; exact key rfl rfl rfl
  | rng a b => obtain ⟨a, _, _, _, rfl, _⟩ := rx; exact key rfl rfl rfl
  | scr ns => obtain ⟨a, _, rfl, _⟩ := rx; exact key rfl rfl rfl

theorem isS_some {x y : V} {b : Bool} (h : isS x y σ = some b) : y = .none ∧ b = isNone x := by
  unfold isS at h
  split at h
  · exact ⟨rfl, (Option.some.inj h).symm⟩
  · cases h
theorem CmpS.is : CmpS g .Is isS := by
  intro A ρ σ s x y u w r R S rx ry hf
  obtain ⟨rfl, rfl⟩ := isS_some hf
  cases ry
  show wpAny _ _ (do return Value.bool (← isSame u .none)) _ _ s
  exact wpAny_bind (isSame_none rx (wpAny_pure ⟨rfl, toksId s⟩))
theorem CmpS.isNot : CmpS g .IsNot isNotS := by
  intro A ρ σ s x y u w r R S rx ry hf
  obtain ⟨b, hb, e⟩ := Option.map_eq_some_iff.mp hf
  obtain ⟨rfl, rfl⟩ := isS_some hb
  cases ry; subst e
  show wpAny _ _ (do return Value.bool (!(← isSame u .none))) _ _ s
  exact wpAny_bind (isSame_none rx (wpAny_pure ⟨rfl, toksId s⟩))

noncomputable def inS : V → V → Store → Option Bool
  | x, .loc l, σ => match σ[l]? with
    | some (.dict es) => if V.key 6 x then some (dGet es x).isSome else none
    | some (.list vs) => if V.flat 6 x && flats vs then some (vs.any fun y => V.beq y x) else none
    | none => none
  | x, .tup vs, _ => if V.flat 6 x && flats vs then some (vs.any fun y => V.beq y x) else none
  | _, _, _ => none
noncomputable def notInS (x y : V) (σ : Store) : Option Bool := (inS x y σ).map (!·)

theorem any_rep {vs : List V} {us : List Value} {x : V} {u : Value} {A : Around} (fx : V.flat 6 x = true) (fv : flats vs = true) (rv : RepVs g ρ s.heap vs us) (rx : RepV g ρ s.heap x u) (hu : A.units + 20 < cLine) :
    ∃ e : Value → Bool, (∀ y, y ∈ List.toArray us → EqAt A s y u (e y)) ∧ (List.toArray us).any e = vs.any (fun y => V.beq y x) ∧ (us.countP e = vs.countP fun y => V.beq y x) := by
  classical
  have huniq : ∀ y v v', V.flat 6 v = true → V.flat 6 v' = true → RepV g ρ s.heap v y → RepV g ρ s.heap v' y → v = v' := fun y v v' h1 h2 h3 h4 => RepV.inj h1 h2 h3 h4
  let e : Value → Bool := fun y => if hh : ∃ v, V.flat 6 v = true ∧ RepV g ρ s.heap v y then V.beq hh.choose x else false
  have he : ∀ y v, V.flat 6 v = true → RepV g ρ s.heap v y → e y = V.beq v x := fun y v h1 h2 => by
    have hh : ∃ v, V.flat 6 v = true ∧ RepV g ρ s.heap v y := ⟨v, h1, h2⟩
    have e1 : e y = V.beq hh.choose x := dif_pos hh
    rw [e1, huniq y _ _ hh.choose_spec.1 h1 hh.choose_spec.2 h2]
  refine ⟨e, fun y hy => ?_, ?_, ?_⟩
  · obtain ⟨v, hv, hr⟩ := rv.mem' (by simpa using hy)
    have hf := (List.all_eq_true.mp fv) v hv
    rw [he y v hf hr]
    exact eqAt_V 6 hf fx hr rx (by lia)
  · rw [List.any_toArray]
    clear hu
    induction vs generalizing us with
    | nil => cases rv; rfl
    | cons v vs ih =>
      obtain ⟨u', us', rfl, h1, h2⟩ := rv
      simp only [flats, List.all_cons, Bool.and_eq_true] at fv
      rw [List.any_cons, List.any_cons, he u' v fv.1 h1, ih fv.2 h2]
  · clear hu
    induction vs generalizing us with
    | nil => cases rv; rfl
    | cons v vs ih =>
      obtain ⟨u', us', rfl, h1, h2⟩ := rv
      simp only [flats, List.all_cons, Bool.and_eq_true] at fv
      rw [List.countP_cons, List.countP_cons, he u' v fv.1 h1, ih fv.2 h2]

set_option tactic.hygienic true in
theorem contains_V {x y : V} {u w : Value} {b : Bool} {Q : Value → Shared → Prop} (neg : Bool) (hu : A.units + 60 < cLine) (S : Sim g ρ σ s.heap) (rx : RepV g ρ s.heap x u) (ry : RepV g ρ s.heap y w) (hf : inS x y σ = some b)
    (hq : ∀ tk, Q (.bool (b != neg)) { s with toks := tk }) : wpAny (model g.prog g.w) A (compareOp (if neg then .NotIn else .In) u w) Q noE s := by
  unfold inS at hf
  split at hf
  · obtain ⟨a, rfl, ha⟩ := ry
    split at hf
    · rename_i es hl
      split at hf
      · rename_i hk
        cases hf
        cases neg
        · show wpAny _ _ (do return Value.bool (← contains (.ref a) u)) _ _ s
          exact wpAny_bind (in_dict_V (by lia) S hl ha hk rx fun tk => wpAny_pure (by simpa using hq tk))
        · show wpAny _ _ (do return Value.bool (!(← contains (.ref a) u))) _ _ s
          exact wpAny_bind (in_dict_V (by lia) S hl ha hk rx fun tk => wpAny_pure (by simpa using hq tk))
      · cases hf
    · rename_i vs hl
      split at hf
      · rename_i hc; rw [Bool.and_eq_true] at hc
        cases hf
        obtain ⟨_, us, n, ho, hr⟩ := S.list hl ha
        obtain ⟨e, h1, h2, _⟩ := any_rep (A := A.in1) hc.1 hc.2 hr rx (by show A.units + 1 + 20 < cLine; lia)
        have := hq s.toks
        rw [← h2] at this
        cases neg
        · exact in_listAt e (isList_of ho) h1 (by simpa using this)
        · exact notIn_listAt e (isList_of ho) h1 (by simpa using this)
      · cases hf
    · cases hf
  · obtain ⟨a, us, rfl, ht, hr⟩ := ry
    split at hf
    · rename_i hc; rw [Bool.and_eq_true] at hc
      cases hf
      obtain ⟨e, h1, h2, _⟩ := any_rep (A := A.in1) hc.1 hc.2 hr rx (by show A.units + 1 + 20 < cLine; lia)
      have := hq s.toks
      rw [← h2] at this
      cases neg
      · exact in_tupleAt e ht.is h1 (by simpa using this)
      · exact notIn_tupleAt e ht.is h1 (by simpa using this)
    · cases hf
  · cases hf
theorem CmpS.in : CmpS g .In inS := by
  intro A ρ σ s x y u w r R S rx ry hf
  exact contains_V false (by have := R.small; grind) S rx ry hf fun tk => ⟨by simp, tk, rfl⟩
theorem CmpS.notIn : CmpS g .NotIn notInS := by
  intro A ρ σ s x y u w r R S rx ry hf
  obtain ⟨b, hb, e⟩ := Option.map_eq_some_iff.mp hf
  subst e
  exact contains_V true (by have := R.small; lia) S rx ry hb fun tk => ⟨by simp, tk, rfl⟩

noncomputable def addS : V → V → Store → Option (V × Store)
  | .int a, .int b, σ => some (.int (a + b), σ)
  | .tup xs, .tup ys, σ => if xs.length ≤ 100 && ys.length ≤ 100 && !xs.isEmpty && !ys.isEmpty then some (.tup (xs ++ ys), σ) else none
  | .loc a, .loc b, σ => match σ[a]?, σ[b]? with
    | some (.list xs), some (.list ys) => if xs.length + ys.length ≤ LIM then some (.loc σ.length, σ ++ [.list (xs ++ ys)]) else none
    | _, _ => none
  | _, _, _ => none
noncomputable def intOp (r : Int → Int → Option Int) : V → V → Store → Option (V × Store)
  | .int a, .int b, σ => (r a b).map fun c => (.int c, σ)
  | _, _, _ => none
noncomputable def subI (a b : Int) : Option Int := some (a - b)
noncomputable def mulI (a b : Int) : Option Int := if -1000000 < a ∧ a < 1000000 then some (a * b) else none
noncomputable def divI (a b : Int) : Option Int := if 0 < b ∧ b < 1000000 then some (a / b) else none
noncomputable def modI (a b : Int) : Option Int := if 0 < b then some (a % b) else none
noncomputable def powI (a b : Int) : Option Int := if 2 ≤ a ∧ a ≤ 10 ∧ 0 ≤ b ∧ b ≤ 20 then some (a ^ b.toNat) else none
noncomputable def shrI (a b : Int) : Option Int := if 0 ≤ a ∧ 0 ≤ b then some (a / 2 ^ b.toNat) else none
noncomputable def andI (a b : Int) : Option Int := if 0 ≤ a ∧ b = 1 then some (a % 2) else none

theorem RepVs.nonempty {vs : List V} {us : List Value} (r : RepVs g ρ h vs us) (hv : vs.isEmpty = false) : ¬ (List.toArray us).isEmpty = true := by
  cases vs with
  | nil => simp at hv
  | cons _ _ => obtain ⟨_, _, rfl, _⟩ := r; simp

set_option tactic.hygienic true in
theorem BinS.add : BinS g .Add addS := by
  intro A ρ σ s x y u w r σ' R S rx ry hf
  unfold addS at hf
  split at hf
  · obtain ⟨t, rfl⟩ := rx
    obtain ⟨t', rfl⟩ := ry
    cases hf
    exact PyProof.Rows.add_int (postInt S)
  · split at hf
    · rename_i hc
      cases hf
      simp only [Bool.and_eq_true, decide_eq_true_eq, Bool.not_eq_true'] at hc
      obtain ⟨a, us, rfl, ⟨n, ht⟩, hr⟩ := rx
      obtain ⟨b, vs, rfl, ⟨m, ht'⟩, hr'⟩ := ry
      have e1 := hr.nonempty hc.1.2
      have e2 := hr'.nonempty hc.2
      have hsl : (sizeLine : Nat) = 16777216 := by decide
      refine P.add_tuple ht ht' e1 e2 ?_ (by simp [hr.length, hr'.length, hsl]; grind)
      have := post_tuple S (hr.append hr')
      simpa using this
    · cases hf
  · split at hf
    · rename_i xs ys h1 h2
      split at hf
      · rename_i hc
        cases hf
        obtain ⟨a, rfl, ha⟩ := rx
        obtain ⟨b, rfl, hb⟩ := ry
        obtain ⟨_, us, n, ho, hr⟩ := S.list h1 ha
        obtain ⟨_, vs, m, ho', hr'⟩ := S.list h2 hb
        have hll := limLine
        refine P.add_list ho ho' ?_ (by simp [hr.length, hr'.length]; grind)
        have := post_list S (hr.append hr') (by simpa using hc)
        simpa using this
      · cases hf
    · cases hf
  · cases hf

theorem intOp_some {r : Int → Int → Option Int} {x y v : V} {σ' : Store} (h : intOp r x y σ = some (v, σ')) : ∃ i j c, x = .int i ∧ y = .int j ∧ r i j = some c ∧ v = .int c ∧ σ' = σ := by
  unfold intOp at h
  split at h
  · obtain ⟨c, hc, e⟩ := Option.map_eq_some_iff.mp h
    cases e
    exact ⟨_, _, c, rfl, rfl, hc, rfl, rfl⟩
  · cases h

set_option tactic.hygienic true in
theorem bits_small {a : Int} {n : Nat} (h : a.natAbs < 2 ^ n) : Builtin.Int.intBits a ≤ n := by
  unfold Builtin.Int.intBits
  split
  · lia
  · rename_i hz
    have h0 : a.natAbs ≠ 0 := by intro q; apply hz; simp; lia
    have := (Nat.log2_lt h0).mpr h
    lia

theorem BinS.sub : BinS g .Sub (intOp subI) := by
  intro A ρ σ s x y u w r σ' R S rx ry hf
  obtain ⟨i, j, c, rfl, rfl, hc, rfl, rfl⟩ := intOp_some hf
  obtain ⟨t, rfl⟩ := rx
  obtain ⟨t', rfl⟩ := ry
  cases hc
  exact PyProof.Rows.sub_int (postInt S)
theorem BinS.mul : BinS g .Mult (intOp mulI) := by
  intro A ρ σ s x y u w r σ' R S rx ry hf
  obtain ⟨i, j, c, rfl, rfl, hc, rfl, rfl⟩ := intOp_some hf
  obtain ⟨t, rfl⟩ := rx
  obtain ⟨t', rfl⟩ := ry
  unfold mulI at hc
  split at hc
  · cases hc
    exact PyProof.Rows.mul_int (postInt S) (IntMulOk.of_left (Nat.le_trans (bits_small (n := 20) (by omega)) (by omega)))
  · cases hc
theorem BinS.mod : BinS g .Mod (intOp modI) := by
  intro A ρ σ s x y u w r σ' R S rx ry hf
  obtain ⟨i, j, c, rfl, rfl, hc, rfl, rfl⟩ := intOp_some hf
  obtain ⟨t, rfl⟩ := rx
  obtain ⟨t', rfl⟩ := ry
  unfold modI at hc
  split at hc
  · cases hc
    rw [← Int.fmod_eq_emod_of_nonneg i (by omega : 0 ≤ j)]
    exact PyProof.Rows.mod_int' (by omega) (postInt S)
  · cases hc
set_option tactic.hygienic true in
theorem BinS.pow : BinS g .Pow (intOp powI) := by
  intro A ρ σ s x y u w r σ' R S rx ry hf
  obtain ⟨i, j, c, rfl, rfl, hc, rfl, rfl⟩ := intOp_some hf
  obtain ⟨t, rfl⟩ := rx
  obtain ⟨t', rfl⟩ := ry
  unfold powI at hc
  split at hc
  · rename_i hj
    cases hc
    by_cases h0 : j = 0
    · subst h0
      have e0 : i ^ Int.toNat 0 = 1 := by simp
      rw [e0]
      exact AutoIntOps.pow_0 (by grind) (by decide) (postInt S)
    · have hb : Builtin.Int.intBits i ≤ 4 := bits_small (by grind)
      refine AutoIntOps.pow_4 (by grind) (by simpa using h0) (by simp; grind) (by simp; grind) ?_ (postInt S)
      have hl : bitsLine = 134217728 := by decide
      unfold Builtin.Int.intTooBig
      rw [hl, decide_eq_true_eq]
      have : ((Builtin.Int.intBits i : Nat) : Int) * j ≤ 4 * 20 := Int.mul_le_mul (by grind) (by grind) (by grind) (by grind)
      grind
  · cases hc
theorem UnS_neg {x : V} {i : Int} {u : Value} (S : Sim g ρ σ s.heap) (hx : x = .int i) (rx : RepV g ρ s.heap x u) : wpAny (model g.prog g.w) A (unaryOp .USub u) (Post g ρ s σ (.int (-i))) noE s := by
  subst hx
  obtain ⟨t, rfl⟩ := rx
  exact PyProof.Rows.neg_int (postInt S)
noncomputable def E.neg (a : Den) : Den := fun lv σ => match a lv σ with
  | some (.int i, σ₁) => some (.int (-i), σ₁)
  | _ => none
set_option tactic.hygienic true in
theorem SE.neg {names : List (Str × NameKind)} {k : Nat} {a : Expr} {ma : Den} {pos : Pos} (ha : SE g names k a ma) : SE g names k (.UnaryOp .USub a pos) (E.neg ma) := by
  intro A env ρ lv σ s v σ' R e S hm
  unfold E.neg at hm
  split at hm
  · rename_i i σ₁ h1
    cases hm
    refine wpAny_UnaryOp (wpAny_mono (ha A env ρ lv σ s _ σ' R e S h1) (fun u s₁ P => ?_) noE_mono)
    obtain ⟨ρ₁, T1, S1, r1⟩ := P
    exact wpAny_mono (UnS_neg (A := A) S1 rfl r1) (fun _ _ P => P.trans T1) noE_mono
  · cases hm
end
end Mini
end

section
namespace Mini
open PySem PySem.SeqAt PyProof.Rows

theorem pick_range (us : List Value) (a n : Nat) : ((List.range n).map fun k => a + k).filterMap (fun i => (List.toArray us)[i]?) = (us.drop a).take n := by
  induction n with
  | zero => simp
  | succ n ih =>
    rw [List.range_succ, List.map_append, List.filterMap_append, ih]
    rw [List.take_add_one]
    congr 1
    simp only [List.map_cons, List.map_nil, List.filterMap_cons, List.filterMap_nil, List.getElem?_toArray, List.getElem?_drop]
    cases us[a + n]? <;> rfl

theorem slicePick_to (us : List Value) (c : Int) (h : 0 ≤ c) : slicePick (List.toArray us) none (some c) none = List.toArray (us.take c.toNat) := by
  unfold slicePick sliceBounds sliceRange
  simp only [Option.getD_none, List.size_toArray]
  have h1 : ¬ c < 0 := by lia
  have hp : (1 : Int) > 0 := by lia
  simp only [h1, hp, if_true, if_false]
  have e : (if (0 : Int) < max 0 (min c (us.length : Int)) then (max 0 (min c (us.length : Int)) - 0 + 1 - 1) / 1 else 0).toNat = min c.toNat us.length := by
    split <;> simp <;> lia
  rw [e]
  have := pick_range us 0 (min c.toNat us.length)
  congr 1
  simp only [List.drop_zero] at this
  have e2 : (fun (k : Nat) => ((0 : Int) + 1 * (k : Int)).toNat) = fun k => 0 + k := by funext k; lia
  rw [e2, this]
  rw [List.take_eq_take_iff]
  simp

noncomputable def notSlice : Expr → Bool
  | .Slice .. => false
  | _ => true
theorem subscripted_plain {slice : Expr} (h : notSlice slice = true) (o i : Value) : subscripted slice false o i = operate [o, i] (getItem o i) := by
  cases slice <;> first | rfl | cases h

noncomputable def subS : V → V → Store → Option V
  | .tup vs, .int i, _ => if 0 ≤ i ∧ i < 1000000 then vs[i.toNat]? else none
  | .loc l, k, σ => match σ[l]? with
    | some (.list vs) => match k with
      | .int i => if 0 ≤ i ∧ i < 1000000 then vs[i.toNat]? else none
      | _ => none
    | some (.dict es) => if V.key 6 k then dGet es k else none
    | none => none
  | _, _, _ => none
noncomputable def E.sub (a b : Den) : Den := fun lv σ =>
  match a lv σ with
  | none => none
  | some (x, σ₁) => match b lv σ₁ with
    | none => none
    | some (y, σ₂) => (subS x y σ₂).map fun r => (r, σ₂)

section
variable {g : GG} {ρ : List Addr} {σ : Store} {s : Shared} {A : Around} {h : Heap} {names : List (Str × NameKind)} {k : Nat}

set_option tactic.hygienic true in
theorem sub_V {value slice : Expr} {x y r : V} {u w : Value} (hs : notSlice slice = true) (hu : A.units + 60 < cLine) (S : Sim g ρ σ s.heap) (rx : RepV g ρ s.heap x u) (ry : RepV g ρ s.heap y w) (hf : subS x y σ = some r) :
    wpAny (model g.prog g.w) A (subscriptTail value slice u w) (Post g ρ s σ r) noE s := by
  unfold subS at hf
  split at hf
  · obtain ⟨a, us, rfl, ⟨n, ht⟩, hr⟩ := rx
    obtain ⟨t, rfl⟩ := ry
    split at hf
    · rename_i vs i hi
      obtain ⟨v, hv, hvr⟩ := hr.get hf
      have hlt : i.toNat < us.length := (List.getElem?_eq_some_iff.mp hv).1
      refine tail_any ⟨_, ht, rfl⟩ F.slot_tuple_getitem.lookup (P.getItem_tuple ht (by lia) (by lia) (k := i.toNat) ?_ (by simpa using hv) ⟨ρ, Step.refl .., S, hvr⟩) (subscripted_plain hs _ _)
      unfold seqIndex?
      have h1 : ¬ i < 0 := by lia
      simp only [h1, if_false]
      have h2 : ¬ (i < 0 ∨ i ≥ ((List.toArray us).size : Int)) := by simp; lia
      simp [h1]
      lia
    · cases hf
  · obtain ⟨a, rfl, ha⟩ := rx
    split at hf
    · rename_i vs hl
      split at hf
      · rename_i i
        split at hf
        · rename_i hi
          obtain ⟨t, rfl⟩ := ry
          obtain ⟨_, us, n, ho, hr⟩ := S.list hl ha
          obtain ⟨v, hv, hvr⟩ := hr.get hf
          exact tail_any ⟨_, ho, rfl⟩ F.slot_list_getitem.lookup (wpAny_getItem_list (isList_of ho) (by lia) (by lia) (by simpa using hv) ⟨ρ, Step.refl .., S, hvr⟩) (subscripted_plain hs _ _)
        · cases hf
      · cases hf
    · rename_i es hl
      split at hf
      · rename_i hk
        obtain ⟨_, _, ents, ho, _⟩ := S.dict hl ha
        exact tail_any (IsD.typeIs ho) slot_dict_getitem.lookup (getItem_dict_V (by lia) S hl ha hk ry hf fun w tk hw => ⟨ρ, Step.toks tk, S, hw⟩) (subscripted_plain hs _ _)
      · cases hf
    · cases hf
  · cases hf

theorem SE.sub {a b : Expr} {ma mb : Den} {pos : Pos} (ha : SE g names k a ma) (hb : SE g names k b mb) (hs : notSlice b = true := by rfl) : SE g names k (.Subscript a b pos) (E.sub ma mb) := by
  intro A env ρ lv σ s v σ' R e S hmm
  unfold E.sub at hmm
  cases h1 : ma lv σ with
  | none => rw [h1] at hmm; cases hmm
  | some p1 =>
    obtain ⟨x, σ₁⟩ := p1
    rw [h1] at hmm; simp only at hmm
    cases h2 : mb lv σ₁ with
    | none => rw [h2] at hmm; cases hmm
    | some p2 =>
      obtain ⟨y, σ₂⟩ := p2
      rw [h2] at hmm; simp only at hmm
      obtain ⟨r, hr, e2⟩ := Option.map_eq_some_iff.mp hmm
      cases e2
      refine Subscript_ (wpAny_mono (ha A env ρ lv σ s x σ₁ R e S h1) (fun u s₁ P => ?_) noE_mono)
      obtain ⟨ρ₁, T1, S1, r1⟩ := P
      refine wpAny_mono (hb A env ρ₁ lv σ₁ s₁ y σ' R (e.step' T1) S1 h2) (fun w s₂ P => ?_) noE_mono
      obtain ⟨ρ₂, T2, S2, r2⟩ := P
      exact wpAny_mono (sub_V hs (by have := R.small; lia) S2 (r1.step T2) r2 hr) (fun _ _ P => (P.trans T2).trans T1) noE_mono

noncomputable def slTo : V → Int → Store → Option (V × Store)
  | .loc l, c, σ => match σ[l]? with
    | some (.list vs) => some (.loc σ.length, σ ++ [.list (vs.take c.toNat)])
    | _ => none
  | .scr ns, c, σ => if ns.length ≤ LIM then some (.loc σ.length, σ ++ [.list ((ns.take c.toNat).map V.int)]) else none
  | .tup vs, c, σ => if c.toNat < vs.length ∧ vs.length ≤ LIM then some (.tup (vs.take c.toNat), σ) else none
  | _, _, _ => none
noncomputable def slFrom : V → Int → Store → Option (V × Store)
  | .loc l, c, σ => match σ[l]? with
    | some (.list vs) => some (.loc σ.length, σ ++ [.list (vs.drop c.toNat)])
    | _ => none
  | _, _, _ => none
noncomputable def E.slTo (a b : Den) : Den := fun lv σ =>
  match a lv σ with
  | none => none
  | some (x, σ₁) => match b lv σ₁ with
    | some (.int c, σ₂) => if 0 ≤ c then Mini.slTo x c σ₂ else none
    | _ => none
noncomputable def E.slFrom (a b : Den) : Den := fun lv σ =>
  match a lv σ with
  | none => none
  | some (x, σ₁) => match b lv σ₁ with
    | some (.int c, σ₂) => if 0 ≤ c then Mini.slFrom x c σ₂ else none
    | _ => none

theorem adjust_to (c n : Nat) : Builtin.Slice.sliceAdjust none (some (c : Int)) 1 (n : Int) = (0, ((min c n : Nat) : Int)) := by
  unfold Builtin.Slice.sliceAdjust
  have h1 : ¬ ((1 : Int) < 0) := by omega
  have h2 : ¬ ((c : Int) < 0) := by omega
  simp only [h1, h2, if_false]
  congr 1
  omega
theorem places_to (n : Nat) : Builtin.Slice.slicePlaces 0 (n : Int) 1 = n := by
  unfold Builtin.Slice.slicePlaces
  have h1 : (1 : Int) > 0 := by grind
  simp only [h1, if_true, Int.ediv_one]
  split <;> grind

theorem sliceApplied_to {M : Model} {E : Value → Shared → Prop} {sl : Addr} {c n : Nat} {u : Tok} {Q : Int × Int × Nat → Shared → Prop} (hs : s.heap.IsSliceOf sl .none (.int c u) .none) (hc : c ≤ n) (h : Q (0, 1, c) s) :
    wpAny (model g.prog g.w) A (Builtin.Slice.sliceApplied (.ref sl) (pure (n : Int))) Q E s := by
  obtain ⟨os, hos, hcs, hds⟩ := id hs
  unfold Builtin.Slice.sliceApplied Builtin.Slice.sliceFields
  refine wpAny_bind (wpAny_bind (wpAny_field hos hds (x := .none) rfl (wpAny_bind (wpAny_field hos hds (x := .int c u) rfl (wpAny_bind (wpAny_field hos hds (x := .none) rfl (wpAny_pure ?_)))))))
  refine wpAny_bind (slicePart_none ?_)
  show wpAny _ _ (if ((1 : Int) == 0) = true then _ else _) _ _ s
  rw [if_neg (by decide)]
  refine wpAny_bind (slicePart_none (wpAny_bind (slicePart_int (wpAny_bind (wpAny_pure ?_)))))
  show wpAny _ _ (match Builtin.Slice.sliceAdjust none (some (c : Int)) 1 (n : Int) with | (lo, hi) => pure (lo, (1 : Int), Builtin.Slice.slicePlaces lo hi 1)) _ _ s
  rw [adjust_to c n, Nat.min_eq_left hc]
  show wpAny _ _ (pure ((0 : Int), (1 : Int), Builtin.Slice.slicePlaces 0 (c : Int) 1)) _ _ s
  rw [places_to c]
  exact wpAny_pure h

theorem getItem_tuple_to {E : Value → Shared → Prop} {t sl : Addr} {us : List Value} {m c : Nat} {u : Tok} {Q : Value → Shared → Prop} (ht : IsT s.heap t (List.toArray us) m) (hs : s.heap.IsSliceOf sl .none (.int c u) .none) (hc : c < us.length) (hl : us.length ≤ LIM)
    (h : Q (.ref s.heap.objs.size) { s with heap := s.heap.push { cls := .type "tuple", data := .seq (List.toArray (us.take c)) } }) : wpAny (model g.prog g.w) A (getItem (.ref t) (.ref sl)) Q E s := by
  have hT : s.TypeIs (.ref t) "tuple" := ⟨_, ht, rfl⟩
  have htake : sizeOk (.seq (List.toArray (us.take c))) := by
    show (List.toArray (us.take c)).size ≤ sizeLine
    have := limLine
    simp; lia
  obtain ⟨os, hos, hcs, hds⟩ := id hs
  have hTs : s.TypeIs (.ref sl) "slice" := ⟨os, hos, hcs⟩
  unfold getItem
  try with_reducible refine wpAny_holding ?_
  refine wpAny_bind (wpAny_sequenceKey hT (by decide) ?_)
  refine wpAny_bind (wpAny_callSpecial?_slot (name := Str.ofString "__getitem__") hT slot_tuple_getitem
    (wpAny_call_entry slot_tuple_getitem hT entry_tuple_getitem ?_ (args_tuple_getitem _ _)))
  show wpAny _ _ (Builtin.Tuple.tupleItemsOf (.ref t) >>= _) _ _ s
  refine wpAny_bind (wpAny_tupleItemsOf ht rfl ?_)
  refine wpAny_bind (wpAny_typeOf hTs ?_)
  rw [if_pos (by decide)]
  refine wpAny_bind (sliceApplied_to (M := model g.prog g.w) hs (n := (List.toArray us).size) (by simp; lia) ?_)
  show wpAny _ _ (if ((0 : Int) == 0 && (1 : Int) == 1 && c == (List.toArray us).size) = true then _ else _) _ _ s
  rw [if_neg (by simp; lia)]
  have e : ((List.range c).filterMap fun (k : Nat) => (List.toArray us)[((0 : Int) + (k : Int) * 1).toNat]?) = us.take c := by
    have := pick_range us 0 c
    rw [List.filterMap_map] at this
    simp only [List.drop_zero] at this
    rw [← this]
    congr 1
    funext k
    simp
  rw [e]
  exact wpAny_bind (m := Builtin.Tuple.tupleExact _) (wpAny_newObj_type (wpAny_pure ⟨_, rfl, wpAny_pure h⟩) htake)
end
end Mini
end

section
namespace Mini
open PySem PySem.SeqAt PyProof.Rows

section
variable {g : GG} {ρ : List Addr} {σ : Store} {s : Shared} {A : Around} {h : Heap} {names : List (Str × NameKind)} {k : Nat}

theorem scr_vals : ∀ {us : List Value} {ns : List Int}, PyProof.Rows.IntsAre us ns → RepVs g ρ h (ns.map V.int) us := by
  intro us ns hi
  induction hi with
  | nil => rfl
  | cons => exact ⟨_, _, rfl, ⟨_, rfl⟩, by assumption⟩

set_option tactic.hygienic true in
theorem slTo_V {value : Expr} {p : Pos} {b : Expr} {x r : V} {c : Int} {u : Value} {t : Tok} {σ' : Store} (hu : A.units + 60 < cLine) (S : Sim g ρ σ s.heap) (rx : RepV g ρ s.heap x u) (hc : 0 ≤ c) (hf : slTo x c σ = some (r, σ')) :
    wpAny (model g.prog g.w) A (subscriptTail value (.Slice none (some b) none p) u (.ref s.heap.objs.size)) (Post g ρ s σ' r) noE { s with heap := s.heap.push { cls := .type "slice", data := .fields #[.none, .int c t, .none] } } := by
  have hk : ∀ b o, s.heap.get? b = some o → (s.heap.push { cls := .type "slice", data := .fields #[.none, .int c t, .none] }).get? b = some o := fun b o e => Heap.get?_push_of_some _ e
  have T1 : Step g noX ρ s { s with heap := s.heap.push { cls := .type "slice", data := .fields #[.none, .int c t, .none] } } ρ := Step.ext' hk
  have S1 := S.ext hk
  have rx1 := rx.step T1
  have hsl := Heap.IsSliceOf.new s.heap .none (.int c t) .none
  have hll := limLine
  generalize hs1 : ({ s with heap := s.heap.push { cls := .type "slice", data := .fields #[.none, .int c t, .none] } } : Shared) = s1 at T1 rx1 ⊢
  have hsl1 : s1.heap.IsSliceOf s.heap.objs.size .none (.int c t) .none := by rw [← hs1]; exact hsl
  have S1' : Sim g ρ σ s1.heap := by rw [← hs1]; exact S1
  unfold slTo at hf
  split at hf
  · obtain ⟨a, rfl, ha⟩ := rx1
    split at hf
    · rename_i vs hl
      cases hf
      obtain ⟨hlim, us, n, ho, hr⟩ := S1'.list hl ha
      refine tail_any ⟨_, ho, rfl⟩ F.slot_list_getitem.lookup (wpAny_getItem_list_slice (isList_of ho) hsl1 .none (.int c t) .none (by simp) ?_ (by simp [hr.length]; lia)) rfl
      rw [slicePick_to us c hc]
      exact (post_list S1' (hr.take c.toNat) (by simp; lia)).trans T1
    · cases hf
  · split at hf
    · rename_i ns hlim
      cases hf
      obtain ⟨a, us, rfl, hb, hi⟩ := rx1
      obtain ⟨o, ho, hcl, n, hd⟩ := hb
      have hL : s1.heap.IsList a (List.toArray us) := ⟨o, S1'.base _ _ ho, hcl, n, hd⟩
      have hr : RepVs g ρ s1.heap (ns.map V.int) us := scr_vals hi
      refine tail_any ⟨_, S1'.base _ _ ho, hcl⟩ F.slot_list_getitem.lookup (wpAny_getItem_list_slice hL hsl1 .none (.int c t) .none (by simp) ?_ (by simp [hr.length]; lia)) rfl
      rw [slicePick_to us c hc, List.map_take]
      exact (post_list S1' (hr.take c.toNat) (by simp; lia)).trans T1
    · cases hf
  · split at hf
    · rename_i vs _ hlim
      cases hf
      obtain ⟨a, us, rfl, ⟨n, ht⟩, hr⟩ := rx1
      obtain ⟨cn, rfl⟩ : ∃ cn : Nat, c = cn := ⟨c.toNat, by lia⟩
      refine tail_any ⟨_, ht, rfl⟩ F.slot_tuple_getitem.lookup (getItem_tuple_to ht hsl1 (by rw [hr.length]; simpa using hlim.1) (by rw [hr.length]; exact hlim.2) ?_) rfl
      exact (post_tuple S1' (by simpa using hr.take cn)).trans T1
    · cases hf
  · cases hf

set_option tactic.hygienic true in
theorem SE.slTo {a b : Expr} {ma mb : Den} {p pos : Pos} (ha : SE g names k a ma) (hb : SE g names k b mb) : SE g names k (.Subscript a (.Slice none (some b) none p) pos) (E.slTo ma mb) := by
  intro A env ρ lv σ s v σ' R e S hmm
  unfold E.slTo at hmm
  cases h1 : ma lv σ with
  | none => rw [h1] at hmm; cases hmm
  | some p1 =>
    obtain ⟨x, σ₁⟩ := p1
    rw [h1] at hmm; simp only at hmm
    split at hmm
    · rename_i c σ₂ h2
      split at hmm
      · rename_i hc
        refine Subscript_ (wpAny_mono (ha A env ρ lv σ s x σ₁ R e S h1) (fun u s₁ P => ?_) noE_mono)
        obtain ⟨ρ₁, T1, S1, r1⟩ := P
        refine wpAny_Slice ?_
        rw [evalPart_none, evalPart_some]
        refine wpAny_pure (wpAny_mono (hb A env ρ₁ lv σ₁ s₁ _ σ₂ R (e.step' T1) S1 h2) (fun w s₂ P => ?_) noE_mono)
        obtain ⟨ρ₂, T2, S2, t, rfl⟩ := P
        exact wpAny_pure (wpAny_mono (slTo_V (A := A) (by have := R.small; lia) S2 (r1.step T2) hc hmm) (fun _ _ P => (P.trans T2).trans T1) noE_mono)
      · cases hmm
    · cases hmm
end
end Mini
end

section
namespace Mini
open PySem PySem.SeqAt PyProof.Rows

noncomputable abbrev FDen := List V → Store → Option (V × Store)

noncomputable def CallS (g : GG) (k : Nat) (f : Value) (d : FDen) : Prop :=
  ∀ (A : Around) (ρ : List Addr) (σ : Store) (s : Shared) (vs : List V) (us : List Value) (r : V) (σ' : Store), Room k A → Sim g ρ σ s.heap → RepVs g ρ s.heap vs us → d vs σ = some (r, σ') →
    wpAny (model g.prog g.w) A (call f us) (Post g ρ s σ' r) noE s

structure FnIs (g : GG) (x : Str) (k : Nat) (d : FDen) : Prop where
  ns : g.base.Ns mainGlobals g.mg
  fn : ∃ a o fd, g.mg x = some (.ref a) ∧ g.base.get? a = some o ∧ o.data = .func fd ∧ CallS g k (.ref a) d

structure BltIs (g : GG) (x : Str) (f : Value) : Prop where
  ns : g.base.Ns mainGlobals g.mg
  bs : g.base.Ns builtinsNs g.mb
  no : g.mg x = none
  is : g.mb x = some f

noncomputable def E.call (d : FDen) (m : LDen) : Den := fun lv σ => match m lv σ with
  | none => none
  | some (vs, σ₁) => d vs σ₁

section
variable {g : GG} {ρ : List Addr} {σ : Store} {s : Shared} {A : Around} {h : Heap} {names : List (Str × NameKind)} {k : Nat} {env : Env}

theorem evalArgs_SL {f : Value} {es : List Expr} {pos : Pos} {Q : List Value → Shared → Prop} (hes : es.all notStar = true)
    (h : wpAny (model g.prog g.w) A (spliced (backTo pos (starEach es env))) Q noE s) :
    wpAny (model g.prog g.w) A (evalArgs f true (backTo pos (starEach es env)) []) (fun a s' => ∃ us, a = ⟨us, []⟩ ∧ Q us s') noE s := by
  cases es with
  | nil =>
    have h' : wpAny (model g.prog g.w) A (spliced []) Q noE s := h
    show wpAny (model g.prog g.w) A (evalArgs f true [] []) _ _ s
    unfold evalArgs
    show wpAny _ A (spliced [] >>= _) _ noE s
    refine wpAny_bind (wpAny_mono h' (fun vs s' h1 => ?_) noE_mono)
    refine wpAny_bind (wpAny_pure ?_)
    refine wpAny_holding ?_
    exact wpAny_bind (wpAny_pure (wpAny_bind (wpAny_pure (wpAny_pure ⟨vs, rfl, h1⟩))))
  | cons e r =>
    simp only [List.all_cons, Bool.and_eq_true] at hes
    rw [starEach_plain hes.1] at h ⊢
    exact PySem.Calls.evalArgs_plain (wpAny_mono h (fun us s' h' => ⟨us, rfl, h'⟩) noE_mono)

theorem backTo_plain {es : List Expr} {pos : Pos} (hes : es.all notStar = true) : (backTo pos (starEach es env)).any (·.1) = false := by
  induction es with
  | nil => rfl
  | cons e r ih =>
    simp only [List.all_cons, Bool.and_eq_true] at hes
    rw [starEach_plain hes.1]
    have := ih hes.2
    simp only [backTo, List.map_cons, List.any_cons, Bool.false_or] at this ⊢
    exact this

theorem SE.call {i : Nat} {f : Str} {d : FDen} {es : List Expr} {m : LDen} {p pos : Pos} {j : Nat} (hi : names[i]? = some (f, .globalImplicit)) (F : FnIs g f j d) (he : SL g names k es m) (hj : j ≤ k) (hes : es.all notStar = true := by rfl) :
    SE g names k (.Call (.Name f p) es [] pos) (E.call d m) := by
  intro A env ρ lv σ s v σ' R e S hmm
  unfold E.call at hmm
  cases h1 : m lv σ with
  | none => rw [h1] at hmm; cases hmm
  | some p1 =>
    obtain ⟨vs, σ₁⟩ := p1
    rw [h1] at hmm; simp only at hmm
    obtain ⟨a, o, fd, hg, ho, hd, hc⟩ := F.fn
    refine wpAny_Call_Name_kw (PySem.Calls.Name_function_global e.kind (e.kindOf hi) (PySem.Calls.loadGlobal_global (by rw [e.globals]; exact baseNs S F.ns) hg ?_) (e.notDebug hi).1)
    refine PySem.Calls.callWith_function (o := o) (fd := fd) ?_
    refine wpAny_mono (evalArgs_SL hes (he A env pos ρ lv σ s vs σ₁ R e S h1)) (fun a s₁ P => ?_) noE_mono
    obtain ⟨us, rfl, ρ₁, T1, S1, r1⟩ := P
    refine ⟨⟨S1.base _ _ ho, hd⟩, ?_⟩
    exact wpAny_mono (hc A ρ₁ σ₁ s₁ vs us v σ' (R.le hj) S1 r1 hmm) (fun _ _ P => P.trans T1) noE_mono

theorem SE.bcall {i j : Nat} {f : Str} {id : String} {d : FDen} {es : List Expr} {m : LDen} {p pos : Pos} (hi : names[i]? = some (f, .globalImplicit)) (F : BltIs g f (.builtin id)) (hc : CallS g j (.builtin id) d) (he : SL g names k es m) (hj : j ≤ k) (hes : es.all notStar = true := by rfl) :
    SE g names k (.Call (.Name f p) es [] pos) (E.call d m) := by
  intro A env ρ lv σ s v σ' R e S hmm
  unfold E.call at hmm
  cases h1 : m lv σ with
  | none => rw [h1] at hmm; cases hmm
  | some p1 =>
    obtain ⟨vs, σ₁⟩ := p1
    rw [h1] at hmm; simp only at hmm
    refine wpAny_Call_Name_kw (PySem.Calls.Name_function_global e.kind (e.kindOf hi) (PySem.Calls.loadGlobal_builtin (by rw [e.globals]; exact baseNs S F.ns) F.no (by rw [e.builtins]; exact baseNs S F.bs) F.is ?_) (e.notDebug hi).1)
    refine PySem.Calls.callWith_builtin (backTo_plain hes) ?_
    refine wpAny_mono (evalArgs_SL hes (he A env pos ρ lv σ s vs σ₁ R e S h1)) (fun a s₁ P => ?_) noE_mono
    obtain ⟨us, rfl, ρ₁, T1, S1, r1⟩ := P
    exact wpAny_mono (hc A ρ₁ σ₁ s₁ vs us v σ' (R.le hj) S1 r1 hmm) (fun _ _ P => P.trans T1) noE_mono

theorem SE.tcall {i j : Nat} {f : Str} {T : String} {d : FDen} {es : List Expr} {m : LDen} {p pos : Pos} (hi : names[i]? = some (f, .globalImplicit)) (F : BltIs g f (.type T)) (hc : CallS g j (.type T) d) (he : SL g names k es m) (hj : j ≤ k) (hes : es.all notStar = true := by rfl) :
    SE g names k (.Call (.Name f p) es [] pos) (E.call d m) := by
  intro A env ρ lv σ s v σ' R e S hmm
  unfold E.call at hmm
  cases h1 : m lv σ with
  | none => rw [h1] at hmm; cases hmm
  | some p1 =>
    obtain ⟨vs, σ₁⟩ := p1
    rw [h1] at hmm; simp only at hmm
    refine wpAny_Call_Name_kw (PySem.Calls.Name_function_global e.kind (e.kindOf hi) (PySem.Calls.loadGlobal_builtin (by rw [e.globals]; exact baseNs S F.ns) F.no (by rw [e.builtins]; exact baseNs S F.bs) F.is ?_) (e.notDebug hi).1)
    refine PySem.callWith_type (backTo_plain hes) ?_
    refine wpAny_mono (evalArgs_SL hes (he A env pos ρ lv σ s vs σ₁ R e S h1)) (fun a s₁ P => ?_) noE_mono
    obtain ⟨us, rfl, ρ₁, T1, S1, r1⟩ := P
    exact wpAny_mono (hc A ρ₁ σ₁ s₁ vs us v σ' (R.le hj) S1 r1 hmm) (fun _ _ P => P.trans T1) noE_mono

inductive KindOf where | list | dict
noncomputable def KindOf.name : KindOf → String
  | .list => "list"
  | .dict => "dict"
noncomputable def KindOf.is : KindOf → Option MObj → Bool
  | .list, o => match o with | some o => (match o with | .list _ => true | .dict _ => false) | none => false
  | .dict, o => match o with | some o => (match o with | .list _ => false | .dict _ => true) | none => false

theorem kind_type {T : KindOf} {l : Nat} {a : Addr} (S : Sim g ρ σ s.heap) (ha : ρ[l]? = some a) (hT : T.is σ[l]? = true) : s.TypeIs (.ref a) T.name ∧ ∃ ob, s.heap.get? a = some ob ∧ ob.dict = none := by
  cases hl : σ[l]? with
  | none => rw [hl] at hT; cases T <;> cases hT
  | some o =>
    rw [hl] at hT
    cases o with
    | list vs =>
      cases T with
      | dict => cases hT
      | list => obtain ⟨_, us, n, ho, _⟩ := S.list hl ha; exact ⟨⟨_, ho, rfl⟩, _, ho, rfl⟩
    | dict es =>
      cases T with
      | list => cases hT
      | dict => obtain ⟨_, _, us, ho, _⟩ := S.dict hl ha; exact ⟨⟨_, ho, rfl⟩, _, ho, rfl⟩

noncomputable abbrev MDen := Nat → List V → Store → Option (V × Store)
noncomputable def MethS (g : GG) (id : String) (d : MDen) : Prop :=
  ∀ (A : Around) (ρ : List Addr) (σ : Store) (s : Shared) (l : Nat) (a : Addr) (vs : List V) (us : List Value) (r : V) (σ' : Store), Room 0 A → Sim g ρ σ s.heap → ρ[l]? = some a → RepVs g ρ s.heap vs us → d l vs σ = some (r, σ') →
    wpAny (model g.prog g.w) A (call (.builtin id) (.ref a :: us)) (Post g ρ s σ' r) noE s

noncomputable def E.meth (T : KindOf) (d : MDen) (a : Den) (m : LDen) : Den := fun lv σ => match a lv σ with
  | some (.loc l, σ₁) => if T.is σ₁[l]? then (match m lv σ₁ with
      | some (vs, σ₂) => d l vs σ₂
      | none => none) else none
  | _ => none

set_option tactic.hygienic true in
theorem SE.meth {T : KindOf} {id : String} {name : Str} {d : MDen} {o : Expr} {es : List Expr} {mo : Den} {m : LDen} {apos pos : Pos} (pa : PlainAttrs T.name) (slot : Slot T.name name id) (hty : typeOf (.builtin id) = pure (.type "method_descriptor"))
    (hd : MethS g id d) (ho : SE g names k o mo) (he : SL g names k es m) (hes : es.all notStar = true := by rfl) (hline : (apos.endLine == pos.line) = true := by rfl) (hlen : es.length < 30 := by decide) (hbase : ∀ env, attributeBase o name env (eval o env) = eval o env := by intro _; rfl) :
    SE g names k (.Call (.Attribute o name apos) es [] pos) (E.meth T d mo m) := by
  intro A env ρ lv σ s v σ' R e S hmm
  unfold E.meth at hmm
  have hfew : ((backTo pos (starEach es env)).all (fun x => !x.1) && (backToKw pos (keywordEach [] env)).all (fun x => x.1.isSome)
      && decide (es.length + ([] : List Keyword).length + (if ([] : List Keyword).isEmpty then 0 else 1) < 30)) = true := by
    have h1 := backTo_plain (env := env) (pos := pos) hes
    have h2 : (backTo pos (starEach es env)).all (fun x => !x.1) = true := by
      rw [List.all_eq_true]
      intro x hx
      rw [List.any_eq_false] at h1
      simpa using h1 x hx
    rw [h2]
    simp [backToKw, keywordEach]
    omega
  split at hmm
  · rename_i l σ₁ h1
    split at hmm
    · rename_i hT
      split at hmm
      · rename_i vs σ₂ h2
        refine wpAny_Call_method (hbase env) hfew hline pa slot hty (wpAny_mono (ho A env ρ lv σ s _ σ₁ R e S h1) (fun u s₁ P => ?_) noE_mono)
        obtain ⟨ρ₁, T1, S1, a, rfl, ha⟩ := P
        obtain ⟨t1, t2⟩ := kind_type S1 ha hT
        refine ⟨t1, fun a' e => by cases e; exact t2, ?_⟩
        refine PySem.Calls.callWith_builtin (backTo_plain hes) ?_
        refine wpAny_mono (evalArgs_SL hes (he A env pos ρ₁ lv σ₁ s₁ vs σ₂ R (e.step' T1) S1 h2)) (fun x s₂ P => ?_) noE_mono
        obtain ⟨us, rfl, ρ₂, T2, S2, r2⟩ := P
        have ha2 : ρ₂[l]? = some a := by obtain ⟨t, rfl⟩ := T2.pre; exact pre_get ha
        exact wpAny_mono (hd A ρ₂ σ₂ s₂ l a vs us v σ' R.zero S2 ha2 r2 hmm) (fun _ _ P => (P.trans T2).trans T1) noE_mono
      · cases hmm
    · cases hmm
  · cases hmm

noncomputable def appendM : MDen
  | l, [v], σ => match σ[l]? with
    | some (.list vs) => if vs.length < LIM then some (.none, σ.set l (.list (vs ++ [v]))) else none
    | _ => none
  | _, _, _ => none
noncomputable def countM : MDen
  | l, [v], σ => match σ[l]? with
    | some (.list vs) => if V.flat 6 v && flats vs then some (.int (vs.countP fun y => V.beq y v), σ) else none
    | _ => none
  | _, _, _ => none
noncomputable def getM : MDen
  | l, [k], σ => match σ[l]? with
    | some (.dict es) => if V.key 6 k then some ((dGet es k).getD .none, σ) else none
    | _ => none
  | l, [k, d], σ => match σ[l]? with
    | some (.dict es) => if V.key 6 k then some ((dGet es k).getD d, σ) else none
    | _ => none
  | _, _, _ => none

set_option tactic.hygienic true in
theorem MethS.append : MethS g "list.append" appendM := by
  intro A ρ σ s l a vs us r σ' R S ha rv hf
  unfold appendM at hf
  split at hf
  · obtain ⟨u, us', rfl, ru, hn⟩ := rv
    cases hn
    split at hf
    · rename_i _ v _ _ ws hl
      split at hf
      · rename_i hlim
        cases hf
        obtain ⟨_, xs, n, ho, hr⟩ := S.list hl ha
        have hll := limLine
        have hlen := hr.length
        refine call_meets F.slot_list_append ⟨_, ho, rfl⟩ F.entry_list_append (F.args_list_append_2 _ _) (list_append a (List.toArray xs) n u (by simp [hlen]; lia)) ⟨ho, ?_⟩
        have hnew : (s.heap.update a (Obj.mapSeq fun x => x.push u)).get? a = some { cls := .type "list", data := .seq (List.toArray (xs ++ [u])) (n + 1) } := by
          refine (Heap.get?_update_self _ ho rfl).trans ?_
          simp [Obj.mapSeq]
        have G := Grow.update S ha (Obj.mapSeq fun x => x.push u)
        refine ⟨ρ, Step.set (tk := s.toks) S ha hnew (update_other _), S.set ha (update_other _) ⟨by simp; lia, _, _, hnew, ?_⟩, rfl⟩
        exact RepVs.append (by simpa using RepVs.grow (t := []) G hr) (RepVs.single (by simpa using RepV.grow (t := []) G ru))
      · cases hf
    · cases hf
  · cases hf

set_option tactic.hygienic true in
theorem MethS.count : MethS g "list.count" countM := by
  intro A ρ σ s l a vs us r σ' R S ha rv hf
  have hu := R.small
  unfold countM at hf
  split at hf
  · obtain ⟨u, us', rfl, ru, hn⟩ := rv
    cases hn
    split at hf
    · rename_i ws hl
      split at hf
      · rename_i hc; rw [Bool.and_eq_true] at hc
        cases hf
        obtain ⟨_, xs, n, ho, hr⟩ := S.list hl ha
        obtain ⟨e, h1, _, h3⟩ := any_rep (A := A.in1) hc.1 hc.2 hr ru (by show A.units + 1 + 20 < cLine; grind)
        refine call_meets F.slot_list_count ⟨_, ho, rfl⟩ F.entry_list_count (F.args_list_count_2 _ _) (list_countAt a (List.toArray xs) n none #[] u e) ⟨ho, h1, ?_⟩
        show Post g ρ s σ _ (.int ((List.toArray xs).toList.countP e : Nat) s.toks) { s with toks := s.toks + 1 }
        rw [show (List.toArray xs).toList = xs from rfl, h3]
        exact postInt S
      · cases hf
    · cases hf
  · cases hf

set_option tactic.hygienic true in
theorem MethS.get : MethS g "dict.get" getM := by
  intro A ρ σ s l a vs us r σ' R S ha rv hf
  have hu := R.small
  have hd := S.notModules ha
  unfold getM at hf
  split at hf
  · obtain ⟨u, us', rfl, ru, hn⟩ := rv
    cases hn
    split at hf
    · rename_i es hl
      split at hf
      · rename_i hk
        cases hf
        obtain ⟨_, _, ents, ho, _⟩ := S.dict hl ha
        refine wpAny_call_entry F.slot_dict_get (IsD.typeIs ho) F.entry_dict_get ?_ (F.args_dict_get_2 _ _)
        show wpAny _ _ (dictGet a u >>= _) _ _ s
        refine wpAny_bind (dictGet_V (A := A.in1) (by show A.units + 1 + 30 < cLine; lia) S hl ha hk ru (fun hn tk => ?_) fun v' w hv hr tk => ?_)
        · show wpAny _ _ (Builtin.Dict.missed a u >>= _) _ _ _
          refine wpAny_bind (wpAny_missed_other hd (wpAny_pure ⟨_, rfl, ?_⟩))
          rw [hn]
          exact ⟨ρ, Step.toks tk, S, rfl⟩
        · refine wpAny_pure ⟨_, rfl, ?_⟩
          rw [hv]
          exact ⟨ρ, Step.toks tk, S, hr⟩
      · cases hf
    · cases hf
  · obtain ⟨u, us', rfl, ru, x, us'', rfl, rx, hn⟩ := rv
    cases hn
    split at hf
    · rename_i es hl
      split at hf
      · rename_i hk
        cases hf
        obtain ⟨_, _, ents, ho, _⟩ := S.dict hl ha
        refine wpAny_call_entry F.slot_dict_get (IsD.typeIs ho) F.entry_dict_get ?_ (F.args_dict_get_3 _ _ _)
        show wpAny _ _ (dictGet a u >>= _) _ _ s
        refine wpAny_bind (dictGet_V (A := A.in1) (by show A.units + 1 + 30 < cLine; lia) S hl ha hk ru (fun hn tk => ?_) fun v' w hv hr tk => ?_)
        · show wpAny _ _ (Builtin.Dict.missed a u >>= _) _ _ _
          refine wpAny_bind (wpAny_missed_other hd (wpAny_pure ⟨_, rfl, ?_⟩))
          rw [hn]
          exact ⟨ρ, Step.toks tk, S, rx⟩
        · refine wpAny_pure ⟨_, rfl, ?_⟩
          rw [hv]
          exact ⟨ρ, Step.toks tk, S, hr⟩
      · cases hf
    · cases hf
  · cases hf
end
end Mini
end

section
namespace Mini
open PySem PySem.SeqAt PyProof.Rows

section
variable {g : GG} {A : Around} {E : Value → Shared → Prop} {s : Shared}

theorem keys_item {it d : Addr} {i ep : Nat} {ents : List DictEntry} {e : DictEntry} {Q : Option Value → Shared → Prop} (hit : s.heap.IsKeyIter it d i ents.length ep)
    (hD : IsD s.heap d ents ep) (hx : ents[i]? = some e)
    (hQ : ∀ h', h'.IsKeyIter it d (i + 1) ents.length ep → Heap.SameBut it s.heap h' → Q (some e.key) { s with heap := h' }) :
    wpAny (model g.prog g.w) A (pyNext (.ref it)) Q E s := by
  obtain ⟨o, ho, hc, hd⟩ := id hit
  unfold pyNext
  refine wpAny_bind (wpAny_attempt (wpAny_callSpecial?_slot (name := Str.ofString "__next__") hit.typeIs F.slot_dict_keyiterator_next
    (wpAny_call_entry F.slot_dict_keyiterator_next hit.typeIs F.entry_dict_keyiterator_next ?_ (F.args_dict_keyiterator_next_1 _))))
  refine wpAny_bind (wpAny_pure ?_)
  refine wpAny_bind ?_
  refine wpAny_bind ?_
  first | refine wpAny_bind (wpAny_typeNameOfWhole_keyiter hit.typeIs (wpAny_pure ?_)) | refine wpAny_bind (wpAny_typeNameOf_keyiter hit.typeIs (wpAny_pure ?_))
  refine wpAny_bind (wpAny_fieldsOf ho hd ?_)
  have hown : Builtin.Dict_items.ownsTuple "dict_keyiterator" = false := by decide
  simp only [hown, Bool.false_eq_true, if_false]
  show wpAny _ _ (if (Value.ref d == Value.none) = true then _ else _) _ _ s
  rw [if_neg (show ¬ ((Value.ref d == Value.none) = true) from Bool.false_ne_true)]
  refine wpAny_bind (wpAny_pure ?_)
  refine wpAny_bind (wpAny_dictEntries hD rfl ?_)
  rw [if_neg (by simp)]
  refine wpAny_bind (wpAny_pure ?_)
  refine wpAny_bind (wpAny_dictEpoch hD rfl ?_)
  rw [if_neg (by simp)]
  refine wpAny_pure ?_
  have hx' : (List.toArray ents)[i]? = some e := by simpa using hx
  simp only [show ¬ ((i : Int) < 0) from by omega, if_false, Int.toNat_natCast, hx']
  refine wpAny_bind ?_
  first | refine wpAny_bind (wpAny_typeNameOfWhole_keyiter hit.typeIs (wpAny_pure ?_)) | refine wpAny_bind (wpAny_typeNameOf_keyiter hit.typeIs (wpAny_pure ?_))
  refine wpAny_bind (wpAny_isOneOf_keyiter hit.typeIs ?_)
  show wpAny _ _ (setField (.ref it) 1 (rawInt ((i : Int) + 1)) >>= _) _ _ s
  refine wpAny_bind (wpAny_setField ho hd (by simp) ?_)
  have hit' : (s.heap.update it (Obj.mapFields (·.setIfInBounds 1 (rawInt ((i : Int) + 1))))).IsKeyIter it d (i + 1) ents.length ep :=
    ⟨_, Heap.get?_update_self _ ho (Obj.isFreed_of_fields (Obj.data_mapFields hd _)), (Obj.cls_mapFields ..).trans hc, by rw [Obj.data_mapFields hd]; simp [rawInt]⟩
  refine wpAny_bind (wpAny_holding ?_)
  refine wpAny_bind (wpAny_isOneOf_keyiter (s := { s with heap := s.heap.update it (Obj.mapFields (·.setIfInBounds 1 (rawInt ((i : Int) + 1)))) }) hit'.typeIs ?_)
  show wpAny _ _ (pure e.key) _ _ _
  exact wpAny_pure (wpAny_pure ⟨_, rfl, wpAny_pure (hQ _ hit' (Heap.SameBut.update ..))⟩)

theorem keys_end {it d : Addr} {i ep : Nat} {ents : List DictEntry} {Q : Option Value → Shared → Prop} (hh : A.handled = none) (hit : s.heap.IsKeyIter it d i ents.length ep)
    (hD : IsD s.heap d ents ep) (hx : ents[i]? = none)
    (hQ : ∀ h', Heap.ExtBut it s.heap h' → Q none { s with heap := h' }) : wpAny (model g.prog g.w) A (pyNext (.ref it)) Q E s := by
  obtain ⟨o, ho, hc, hd⟩ := id hit
  unfold pyNext
  refine wpAny_bind (wpAny_attempt (wpAny_callSpecial?_slot (name := Str.ofString "__next__") hit.typeIs F.slot_dict_keyiterator_next
    (wpAny_call_entry F.slot_dict_keyiterator_next hit.typeIs F.entry_dict_keyiterator_next ?_ (F.args_dict_keyiterator_next_1 _))))
  refine wpAny_bind (wpAny_pure ?_)
  refine wpAny_bind ?_
  refine wpAny_bind ?_
  first | refine wpAny_bind (wpAny_typeNameOfWhole_keyiter hit.typeIs (wpAny_pure ?_)) | refine wpAny_bind (wpAny_typeNameOf_keyiter hit.typeIs (wpAny_pure ?_))
  refine wpAny_bind (wpAny_fieldsOf ho hd ?_)
  have hown : Builtin.Dict_items.ownsTuple "dict_keyiterator" = false := by decide
  simp only [hown, Bool.false_eq_true, if_false]
  show wpAny _ _ (if (Value.ref d == Value.none) = true then _ else _) _ _ s
  rw [if_neg (show ¬ ((Value.ref d == Value.none) = true) from Bool.false_ne_true)]
  refine wpAny_bind (wpAny_pure ?_)
  refine wpAny_bind (wpAny_dictEntries hD rfl ?_)
  rw [if_neg (by simp)]
  refine wpAny_bind (wpAny_pure ?_)
  refine wpAny_bind (wpAny_dictEpoch hD rfl ?_)
  rw [if_neg (by simp)]
  refine wpAny_pure ?_
  have hx' : (List.toArray ents)[i]? = none := by simpa using hx
  simp only [show ¬ ((i : Int) < 0) from by omega, if_false, Int.toNat_natCast, hx']
  refine wpAny_bind ?_
  first | refine wpAny_bind (wpAny_typeNameOfWhole_keyiter hit.typeIs (wpAny_pure ?_)) | refine wpAny_bind (wpAny_typeNameOf_keyiter hit.typeIs (wpAny_pure ?_))
  show wpAny _ _ (setField (.ref it) 0 .none >>= _) _ _ s
  refine wpAny_bind (wpAny_setField ho hd (by simp) ?_)
  show wpAny _ _ (newExc (.type "StopIteration") [] >>= _) _ _ _
  refine wpAny_bind ?_
  simp only [newExc, newTuple]
  refine wpAny_bind (wpAny_newObj_type ?_ (by size_fits))
  refine wpAny_bind (m := firstArgMember _ _) (wpAny_of_eq (a := Value.none) (by first | rfl | (simp only [firstArgMember]; rfl)) ?_)
  refine wpAny_newObj_type ?_ (by size_fits)
  simp only [raiseNew]
  refine wpAny_bind (wpAny_handled ?_)
  rw [show A.in1.handled = none from hh]
  refine wpAny_bind (wpAny_pure (wpAny_throw ?_))
  refine wpAny_bind (wpAny_isInstance (T := "StopIteration") (b := true) ⟨_, Heap.get?_push_size _ rfl, rfl⟩ isSubtype_stop ?_)
  exact wpAny_pure (hQ _ (((Heap.SameBut.update ..).extBut.push _).push _))

theorem items_item {it d : Addr} {i ep : Nat} {ents : List DictEntry} {e : DictEntry} {ok ov : Value} {Q : Option Value → Shared → Prop} (hit : IsItemIter s.heap it d i ents.length ep ok ov)
    (hD : IsD s.heap d ents ep) (hx : ents[i]? = some e)
    (hQ : ∀ h', IsItemIterOut h' it d (i + 1) ents.length ep e.key e.val s.heap.objs.size →
      h'.get? s.heap.objs.size = some { cls := .type "tuple", data := .seq #[e.key, e.val] } →
      (∀ b o, b ≠ it → s.heap.get? b = some o → h'.get? b = some o) → Q (some (.ref s.heap.objs.size)) { s with heap := h' }) :
    wpAny (model g.prog g.w) A (pyNext (.ref it)) Q E s := by
  obtain ⟨hp, gg, dr, tk, os⟩ := s
  have hT : Shared.TypeIs ⟨hp, gg, dr, tk, os⟩ (.ref it) "dict_itemiterator" := ⟨_, hit, rfl⟩
  unfold pyNext
  refine wpAny_bind (wpAny_attempt (wpAny_callSpecial?_slot (name := Str.ofString "__next__") hT F.slot_dict_itemiterator_next
    (wpAny_call_entry F.slot_dict_itemiterator_next hT F.entry_dict_itemiterator_next ?_ (F.args_dict_itemiterator_next_1 _))))
  refine wpAny_bind (wpAny_pure ?_)
  refine wpAny_bind ?_
  refine wpAny_bind ?_
  first | refine wpAny_bind (wpAny_typeNameOfWhole_itemiter hT (wpAny_pure ?_)) | refine wpAny_bind (wpAny_typeNameOf_itemiter hT (wpAny_pure ?_))
  refine wpAny_bind (wpAny_fieldsOf hit rfl ?_)
  have hown : Builtin.Dict_items.ownsTuple "dict_itemiterator" = true := by decide
  simp only [hown, if_true]
  show wpAny _ _ (if (Value.ref d == Value.none) = true then _ else _) _ _ _
  rw [if_neg (show ¬ ((Value.ref d == Value.none) = true) from Bool.false_ne_true)]
  refine wpAny_bind (wpAny_pure ?_)
  refine wpAny_bind (wpAny_dictEntries hD rfl ?_)
  rw [if_neg (by simp)]
  refine wpAny_bind (wpAny_pure ?_)
  refine wpAny_bind (wpAny_dictEpoch hD rfl ?_)
  rw [if_neg (by simp)]
  refine wpAny_pure ?_
  have hx' : (List.toArray ents)[i]? = some e := by simpa using hx
  simp only [show ¬ ((i : Int) < 0) from by grind, if_false, Int.toNat_natCast, hx']
  refine wpAny_bind ?_
  first | refine wpAny_bind (wpAny_typeNameOfWhole_itemiter hT (wpAny_pure ?_)) | refine wpAny_bind (wpAny_typeNameOf_itemiter hT (wpAny_pure ?_))
  refine wpAny_bind (wpAny_isOneOf_itemiter hT ?_)
  show wpAny _ _ (setField (.ref it) 3 (rawInt ((i : Int) + 1)) >>= _) _ _ ⟨hp, gg, dr, tk, os⟩
  refine wpAny_bind (wpAny_setField_rec hit (by simp) fun h₁ he₁ hs₁ => ?_)
  replace hs₁ : Heap.SameBut it hp h₁ := hs₁
  replace he₁ : IsItemIter h₁ it d (i + 1) ents.length ep ok ov := by
    have e : ((i + 1 : Nat) : Int) = (i : Int) + 1 := by grind
    unfold IsItemIter; rw [e]; simpa [rawInt] using he₁
  have hT₁ : Shared.TypeIs ⟨h₁, gg, dr, tk, os⟩ (.ref it) "dict_itemiterator" := ⟨_, he₁, rfl⟩
  refine wpAny_bind (wpAny_holding ?_)
  refine wpAny_bind (wpAny_isOneOf_itemiter hT₁ ?_)
  refine wpAny_bind (wpAny_isOneOf_itemiter hT₁ ?_)
  show wpAny _ _ (Builtin.Dict_items.pairFromOwner (.ref it) 6 e.key e.val) _ _ ⟨h₁, gg, dr, tk, os⟩
  unfold Builtin.Dict_items.pairFromOwner
  refine wpAny_bind (wpAny_newTuple ?_)
  have he₂ : IsItemIter (h₁.push { cls := .type "tuple", data := .seq #[e.key, e.val] }) it d (i + 1) ents.length ep ok ov := Heap.get?_push_of_some _ he₁
  generalize hh₂ : h₁.push { cls := .type "tuple", data := .seq #[e.key, e.val] } = h₂ at he₂
  have hz₁ : h₁.objs.size = hp.objs.size := hs₁.1
  have hil : it < hp.objs.size := Heap.lt_size hit
  have ht₂ : h₂.get? hp.objs.size = some { cls := .type "tuple", data := .seq #[e.key, e.val] } := by rw [← hh₂, ← hz₁]; exact Heap.get?_push_size _ rfl
  have hk₂ : ∀ b o, b ≠ it → hp.get? b = some o → h₂.get? b = some o := fun b o hb e => by rw [← hh₂]; exact Heap.get?_push_of_some _ (hs₁.extBut b o hb e)
  show wpAny _ _ (Builtin.Dict_items.ownedTupleIsFree (.ref it) >>= _) _ _ ⟨h₂, gg, dr, tk, os⟩
  rw [hz₁]
  clear hh₂ he₁ hs₁ hT₁ hz₁ h₁
  refine wpAny_bind ?_
  unfold Builtin.Dict_items.ownedTupleIsFree
  refine wpAny_bind (wpAny_field he₂ rfl (x := .none) rfl (wpAny_pure ?_))
  simp only [if_true]
  refine wpAny_bind (wpAny_field he₂ rfl (x := ok) rfl ?_)
  refine wpAny_bind (wpAny_field he₂ rfl (x := ov) rfl ?_)
  refine wpAny_bind (wpAny_setField_rec he₂ (by simp) fun h₃ he₃ hs₃ => ?_)
  replace hs₃ : Heap.SameBut it h₂ h₃ := hs₃
  replace he₃ : IsItemIter h₃ it d (i + 1) ents.length ep e.key ov := he₃
  refine wpAny_bind (wpAny_setField_rec he₃ (by simp) fun h₄ he₄ hs₄ => ?_)
  replace hs₄ : Heap.SameBut it h₃ h₄ := hs₄
  replace he₄ : IsItemIter h₄ it d (i + 1) ents.length ep e.key e.val := he₄
  refine wpAny_bind (wpAny_setField_rec he₄ (by simp) fun h₅ he₅ hs₅ => ?_)
  replace hs₅ : Heap.SameBut it h₄ h₅ := hs₅
  replace he₅ : IsItemIterOut h₅ it d (i + 1) ents.length ep e.key e.val hp.objs.size := he₅
  refine wpAny_bind (wpAny_setField_rec he₅ (by simp) fun h₆ he₆ hs₆ => ?_)
  replace hs₆ : Heap.SameBut it h₅ h₆ := hs₆
  replace he₆ : IsItemIterOut h₆ it d (i + 1) ents.length ep e.key e.val hp.objs.size := he₆
  refine wpAny_bind (wpAny_letGo (wpAny_pure (wpAny_pure ⟨_, rfl, wpAny_pure (hQ h₆ he₆ ?_ ?_)⟩)))
  · exact hs₆.extBut _ _ (Nat.ne_of_gt hil) (hs₅.extBut _ _ (Nat.ne_of_gt hil) (hs₄.extBut _ _ (Nat.ne_of_gt hil) (hs₃.extBut _ _ (Nat.ne_of_gt hil) ht₂)))
  · exact fun b o hb e => hs₆.extBut b o hb (hs₅.extBut b o hb (hs₄.extBut b o hb (hs₃.extBut b o hb (hk₂ b o hb e))))

theorem items_end {it d : Addr} {i ep : Nat} {ents : List DictEntry} {ok ov : Value} {Q : Option Value → Shared → Prop} (hh : A.handled = none) (hit : IsItemIter s.heap it d i ents.length ep ok ov)
    (hD : IsD s.heap d ents ep) (hx : ents[i]? = none)
    (hQ : ∀ h', Heap.ExtBut it s.heap h' → Q none { s with heap := h' }) : wpAny (model g.prog g.w) A (pyNext (.ref it)) Q E s := by
  have hT : s.TypeIs (.ref it) "dict_itemiterator" := ⟨_, hit, rfl⟩
  unfold pyNext
  refine wpAny_bind (wpAny_attempt (wpAny_callSpecial?_slot (name := Str.ofString "__next__") hT F.slot_dict_itemiterator_next
    (wpAny_call_entry F.slot_dict_itemiterator_next hT F.entry_dict_itemiterator_next ?_ (F.args_dict_itemiterator_next_1 _))))
  refine wpAny_bind (wpAny_pure ?_)
  refine wpAny_bind ?_
  refine wpAny_bind ?_
  first | refine wpAny_bind (wpAny_typeNameOfWhole_itemiter hT (wpAny_pure ?_)) | refine wpAny_bind (wpAny_typeNameOf_itemiter hT (wpAny_pure ?_))
  refine wpAny_bind (wpAny_fieldsOf hit rfl ?_)
  have hown : Builtin.Dict_items.ownsTuple "dict_itemiterator" = true := by decide
  simp only [hown, if_true]
  show wpAny _ _ (if (Value.ref d == Value.none) = true then _ else _) _ _ s
  rw [if_neg (show ¬ ((Value.ref d == Value.none) = true) from Bool.false_ne_true)]
  refine wpAny_bind (wpAny_pure ?_)
  refine wpAny_bind (wpAny_dictEntries hD rfl ?_)
  rw [if_neg (by simp)]
  refine wpAny_bind (wpAny_pure ?_)
  refine wpAny_bind (wpAny_dictEpoch hD rfl ?_)
  rw [if_neg (by simp)]
  refine wpAny_pure ?_
  have hx' : (List.toArray ents)[i]? = none := by simpa using hx
  simp only [show ¬ ((i : Int) < 0) from by omega, if_false, Int.toNat_natCast, hx']
  refine wpAny_bind ?_
  first | refine wpAny_bind (wpAny_typeNameOfWhole_itemiter hT (wpAny_pure ?_)) | refine wpAny_bind (wpAny_typeNameOf_itemiter hT (wpAny_pure ?_))
  show wpAny _ _ (setField (.ref it) 2 .none >>= _) _ _ s
  refine wpAny_bind (wpAny_setField hit rfl (by simp) ?_)
  show wpAny _ _ (newExc (.type "StopIteration") [] >>= _) _ _ _
  refine wpAny_bind ?_
  simp only [newExc, newTuple]
  refine wpAny_bind (wpAny_newObj_type ?_ (by size_fits))
  refine wpAny_bind (m := firstArgMember _ _) (wpAny_of_eq (a := Value.none) (by first | rfl | (simp only [firstArgMember]; rfl)) ?_)
  refine wpAny_newObj_type ?_ (by size_fits)
  simp only [raiseNew]
  refine wpAny_bind (wpAny_handled ?_)
  rw [show A.in1.handled = none from hh]
  refine wpAny_bind (wpAny_pure (wpAny_throw ?_))
  refine wpAny_bind (wpAny_isInstance (T := "StopIteration") (b := true) ⟨_, Heap.get?_push_size _ rfl, rfl⟩ isSubtype_stop ?_)
  exact wpAny_pure (hQ _ (((Heap.SameBut.update ..).extBut.push _).push _))

theorem pyIter_keys {d : Addr} {ents : List DictEntry} {ep : Nat} {Q : Value → Shared → Prop} (hd : (d == sysModules) = false) (hD : IsD s.heap d ents ep)
    (hQ : Q (.ref s.heap.objs.size) { s with heap := s.heap.push { cls := .type "dict_keyiterator", data := .fields #[.ref d, .int 0 0, .int ents.length 0, .int ep 0] } }) :
    wpAny (model g.prog g.w) A (pyIter (.ref d)) Q E s := by
  have hT := IsD.typeIs hD
  refine wpAny_pyIter_slot hT F.slot_dict_iter (wpAny_call_entry F.slot_dict_iter hT F.entry_dict_iter ?_ (F.args_dict_iter_1 _))
  unfold Builtin.«dict.__iter__»
  refine wpAny_bind ?_
  unfold Builtin.Dict.dictSlotNone
  refine wpAny_bind (wpAny_notOrdered_dict hT ?_)
  show wpAny _ _ (pure (Value.ref d)) _ _ s
  refine wpAny_pure ?_
  show wpAny _ _ (Builtin.Dict.showsAll d >>= _) _ _ s
  unfold Builtin.Dict.showsAll
  rw [if_neg (by rw [hd]; exact Bool.false_ne_true)]
  refine wpAny_bind (wpAny_pure ?_)
  refine wpAny_bind (wpAny_dictEntries hD rfl ?_)
  refine wpAny_bind (wpAny_dictEpoch hD rfl ?_)
  refine wpAny_bind (wpAny_newObj_type (wpAny_pure ⟨_, rfl, "dict_keyiterator", _, ⟨_, Heap.get?_push_size _ rfl, rfl⟩, F.slot_dict_keyiterator_next.lookup, ?_⟩))
  simpa [rawInt] using hQ

theorem call_items {d : Addr} {ents : List DictEntry} {ep : Nat} {Q : Value → Shared → Prop} (hd : (d == sysModules) = false) (hD : IsD s.heap d ents ep)
    (hQ : Q (.ref s.heap.objs.size) { s with heap := s.heap.push { cls := .type "dict_items", data := .fields #[.ref d] } }) :
    wpAny (model g.prog g.w) A (call (.builtin "dict.items") [.ref d]) Q E s := by
  have hT := IsD.typeIs hD
  refine wpAny_call_entry F.slot_dict_items hT F.entry_dict_items ?_ (F.args_dict_items_1 _)
  unfold Builtin.«dict.items»
  refine wpAny_bind ?_
  unfold Builtin.Dict.noArgs
  refine wpAny_bind (wpAny_notOrdered_dict hT ?_)
  show wpAny _ _ (pure d) _ _ s
  refine wpAny_pure ?_
  show wpAny _ _ (Builtin.Dict.showsAll d >>= _) _ _ s
  unfold Builtin.Dict.showsAll
  rw [if_neg (by rw [hd]; exact Bool.false_ne_true)]
  refine wpAny_bind (wpAny_pure ?_)
  exact wpAny_bind (wpAny_newObj_type (wpAny_pure ⟨_, rfl, hQ⟩))

theorem pyIter_items {v d : Addr} {ents : List DictEntry} {ep : Nat} {Q : Value → Shared → Prop} (hv : s.heap.IsItemsView v d) (hD : IsD s.heap d ents ep)
    (hQ : Q (.ref s.heap.objs.size) { s with heap := s.heap.push { cls := .type "dict_itemiterator", data := .fields #[.none, .bool false, .ref d, .int 0 0, .int ents.length 0, .int ep 0, .none, .none] } }) :
    wpAny (model g.prog g.w) A (pyIter (.ref v)) Q E s := by
  obtain ⟨ov, hov, hcv, hdv⟩ := id hv
  refine wpAny_pyIter_slot hv.typeIs F.slot_dict_items_iter (wpAny_call_entry F.slot_dict_items_iter hv.typeIs F.entry_dict_items_iter ?_ (F.args_dict_items_iter_1 _))
  unfold Builtin.«dict_items.__iter__»
  refine wpAny_bind (wpAny_pure ?_)
  refine wpAny_bind ?_
  unfold Builtin.Dict_items.dictOf
  refine wpAny_bind (wpAny_field hov hdv (x := .ref d) rfl (wpAny_pure ?_))
  refine wpAny_bind ?_
  unfold Builtin.Dict_items.newIterator
  refine wpAny_bind (wpAny_dictEntries hD rfl ?_)
  refine wpAny_bind (wpAny_dictEpoch hD rfl ?_)
  have hown : Builtin.Dict_items.ownsTuple "dict_itemiterator" = true := by decide
  simp only [hown, if_true]
  refine wpAny_newObj_type (wpAny_pure ⟨_, rfl, "dict_itemiterator", _, ⟨_, Heap.get?_push_size _ rfl, rfl⟩, F.slot_dict_itemiterator_next.lookup, ?_⟩)
    (by simp only [sizeOk, Builtin.Dict_items.ownedTupleFields, List.size_toArray, List.length_append, List.length_cons, List.length_nil, sizeLine_eq]; grind)
  simpa [rawInt, Builtin.Dict_items.ownedTupleFields] using hQ
end
end Mini
end

section
namespace Mini
open PySem PySem.SeqAt PyProof.Rows

noncomputable def Apart (g : GG) (own : Addr → Prop) (ρ : List Addr) (h : Heap) : Prop := ∀ b, own b → b ∉ ρ ∧ g.base.get? b = none ∧ ∀ o, h.get? b = some o → ¬ isImm o

section
variable {g : GG} {X own : Addr → Prop} {ρ ρ₁ : List Addr} {σ : Store} {s s₁ : Shared} {A : Around} {h h' : Heap}

theorem Apart.grow (a : Apart g own ρ h) (hk : ∀ b o, h.get? b = some o → ¬ own b → h'.get? b = some o) : Grow g h h' := fun b o e hi => hk b o e fun q => by
  obtain ⟨_, h2, h3⟩ := a b q
  rcases hi with h4 | ⟨o', h4⟩
  · exact h3 o e h4
  · rw [h2] at h4; cases h4

theorem Sim.keepBut (S : Sim g ρ σ h) (a : Apart g own ρ h) (hk : ∀ b o, h.get? b = some o → ¬ own b → h'.get? b = some o) : Sim g ρ σ h' := by
  have H := a.grow hk
  refine ⟨fun b o e => H b o (S.base b o e) (.inr ⟨o, e⟩), S.above, S.low, S.len, S.nodup, fun l o x h1 h2 => ?_⟩
  have e := S.objs l o x h1 h2
  obtain ⟨ob, ho', _⟩ := e.obj
  simpa using ObjRep.grow (t := []) H e ((hk x ob ho' fun q => (a x q).1 (List.mem_of_getElem? h2)).trans ho'.symm)

theorem Step.keepBut {tk : Nat} (a : Apart g own ρ s.heap) (hk : ∀ b o, s.heap.get? b = some o → ¬ own b → h'.get? b = some o) (hl : ∀ b, own b → ∀ o, s.heap.get? b = some o → ∃ o', h'.get? b = some o') : Step g own ρ s { s with heap := h', toks := tk } ρ := by
  refine ⟨⟨h', tk, rfl⟩, ⟨[], by simp⟩, fun a ha => .inl ha, fun b o e => ?_, fun b o e _ h2 => hk b o e h2, a.grow hk⟩
  by_cases q : own b
  · exact hl b q o e
  · exact ⟨o, hk b o e q⟩

structure EndStep (g : GG) (own : Addr → Prop) (s s' : Shared) : Prop where
  same : ∃ h' tk, s' = { s with heap := h', toks := tk }
  keep : ∀ b o, s.heap.get? b = some o → ¬ own b → s'.heap.get? b = some o

theorem Step.andEnd {s' : Shared} {Y : Addr → Prop} (S : Step g Y ρ s s₁ ρ₁) (T : EndStep g own s₁ s') (hf : ∀ b, own b → s.heap.get? b = none) (hY : ∀ b, Y b → X b ∨ s.heap.get? b = none) : Step g X ρ s s' ρ₁ := by
  have nown : ∀ b o, s.heap.get? b = some o → ¬ own b := fun b o e q => by rw [hf b q] at e; cases e
  refine ⟨?_, S.pre, S.new, fun b o e => ?_, fun b o e h1 h2 => T.keep b o (S.keep b o e h1 fun q => ?_) (nown b o e), fun b o e hi => T.keep b o (S.imm b o e hi) (nown b o e)⟩
  · obtain ⟨h1, t1, rfl⟩ := S.same
    obtain ⟨h2, t2, rfl⟩ := T.same
    exact ⟨h2, t2, rfl⟩
  · obtain ⟨o', e'⟩ := S.live b o e
    exact ⟨o', T.keep b o' e' (nown b o e)⟩
  · rcases hY b q with h3 | h3
    · exact h2 h3
    · rw [e] at h3; cases h3

noncomputable def isTup : Expr → Bool
  | .Tuple .. => true
  | _ => false
noncomputable def isTgt : Expr → Bool
  | .Tuple .. => true
  | .Name .. => true
  | _ => false

inductive NextQ (g : GG) (own : Addr → Prop) (P : List V → List Addr → Heap → Prop) (ρ : List Addr) (σ : Store) (s : Shared) (v : V) (u : Value) (rest : List V) (s' : Shared) : Prop
  | mk (T : Step g own ρ s s' ρ) (S : Sim g ρ σ s'.heap) (r : RepV g ρ s'.heap v u) (hP : P rest ρ s'.heap) : NextQ g own P ρ σ s v u rest s'
structure IsIt (g : GG) (it : Value) (own : Addr → Prop) (src : Store → Prop) (tupT : Bool) (P : List V → List Addr → Heap → Prop) : Prop where
  apart : ∀ rest ρ h, P rest ρ h → Apart g own ρ h
  live : ∀ rest ρ h, P rest ρ h → ∀ b, own b → ∃ o, h.get? b = some o
  self : ∀ (A : Around) rest ρ (s : Shared) (Q : Value → Shared → Prop), P rest ρ s.heap → Q it s → wpAny (model g.prog g.w) A (pyIter it) Q noE s
  keep : ∀ (X : Addr → Prop) ρ s s' ρ' rest, P rest ρ s.heap → Step g X ρ s s' ρ' → (∀ b, own b → ¬ X b) → P rest ρ' s'.heap
  next : ∀ (A : Around) ρ σ s v rest tgt, Room 0 A → Sim g ρ σ s.heap → src σ → P (v :: rest) ρ s.heap → isTgt tgt = true → (tupT = true → isTup tgt = true) →
    wpAny (model g.prog g.w) A (pyNext it) (fun r s1 => ∃ u, r = some u ∧ wpAny (model g.prog g.w) A (letOwnedTupleGo tgt it u) (fun _ => NextQ g own P ρ σ s v u rest) noE s1) noE s
  done : ∀ (A : Around) ρ σ s, Room 0 A → Sim g ρ σ s.heap → src σ → P [] ρ s.heap → wpAny (model g.prog g.w) A (pyNext it) (fun r s' => r = none ∧ EndStep g own s s' ∧ Sim g ρ σ s'.heap) noE s

theorem letGo_name {tgt : Expr} {it u : Value} {Q : Unit → Shared → Prop} (h1 : isTgt tgt = true) (h2 : isTup tgt = false) (h : Q () s) : wpAny (model g.prog g.w) A (letOwnedTupleGo tgt it u) Q noE s := by
  cases tgt <;> first | exact wpAny_pure h | (cases h2; done) | (cases h1; done)

set_option tactic.hygienic true in
theorem letGo_other {tgt : Expr} {it : Addr} {u : Value} {T : String} {o : Obj} {Q : Unit → Shared → Prop} (ho : s.heap.get? it = some o) (hc : o.cls = .type T)
    (hn : (["enumerate", "zip", "dict_itemiterator", "dict_reverseitemiterator", "odict_iterator", "itertools.zip_longest", "itertools.pairwise"].contains T) = false) (h1 : isTgt tgt = true) (h : Q () s) :
    wpAny (model g.prog g.w) A (letOwnedTupleGo tgt (.ref it) u) Q noE s := by
  cases ht : isTup tgt with
  | false => exact letGo_name h1 ht h
  | true =>
    cases tgt with
    | Tuple elts k pos =>
      unfold letOwnedTupleGo
      cases u with
      | ref a =>
        refine wpAny_bind (wpAny_load ho ?_)
        rw [hc]
        split
        · rename_i n vs e1 _
          cases e1
          rw [if_neg (by rw [hn, Bool.false_and]; exact Bool.false_ne_true)]
          exact wpAny_pure h
        · exact wpAny_pure h
      | _ => exact wpAny_pure h
    | _ => cases ht

theorem extBut_end {it : Addr} (hk : Heap.ExtBut it s.heap h') : EndStep g (fun b => b = it) s { s with heap := h' } := ⟨⟨h', s.toks, rfl⟩, fun b o e hn => hk b o hn e⟩

inductive ItList (g : GG) (l : Nat) (it : Addr) (vs : List V) (rest : List V) (ρ : List Addr) (h : Heap) : Prop
  | mk (h1 : it ∉ ρ) (h2 : g.base.get? it = none) (a : Addr) (i : Nat) (h3 : ρ[l]? = some a) (h4 : h.IsListIter it a i) (h5 : rest = vs.drop i) : ItList g l it vs rest ρ h

theorem drop_cons {α : Type} {vs rest : List α} {v : α} {i : Nat} (h : v :: rest = vs.drop i) : vs[i]? = some v ∧ rest = vs.drop (i + 1) := by
  have hl : i < vs.length := by
    rcases Nat.lt_or_ge i vs.length with h1 | h1
    · exact h1
    · rw [List.drop_eq_nil_of_le h1] at h; cases h
  rw [List.drop_eq_getElem_cons hl] at h
  injection h with h1 h2
  exact ⟨by rw [h1]; exact List.getElem?_eq_getElem hl, h2⟩
theorem drop_nil {α : Type} {vs : List α} {i : Nat} (h : [] = vs.drop i) : vs[i]? = none := by
  rw [List.getElem?_eq_none]
  rcases Nat.lt_or_ge i vs.length with h1 | h1
  · rw [List.drop_eq_getElem_cons h1] at h; cases h
  · exact h1

theorem own1 {it : Addr} {o : Obj} (h1 : it ∉ ρ) (h2 : g.base.get? it = none) (h3 : h.get? it = some o) (h4 : ¬ isImm o) : Apart g (fun b => b = it) ρ h := fun b e => by
  subst e; exact ⟨h1, h2, fun o' e => by rw [h3] at e; cases e; exact h4⟩

theorem same_end {it : Addr} {tk : Nat} {o : Obj} (a : Apart g (fun b => b = it) ρ s.heap) (hs : Heap.SameBut it s.heap h') (hit : h'.get? it = some o) : Step g (fun b => b = it) ρ s { s with heap := h', toks := tk } ρ :=
  Step.keepBut a (fun b o e hn => (hs.2 b hn).trans e) fun b e _ _ => ⟨o, by rw [e]; exact hit⟩

theorem IsIt.list (l : Nat) (it : Addr) (vs : List V) : IsIt g (.ref it) (fun b => b = it) (fun σ => σ[l]? = some (.list vs)) false (ItList g l it vs) where
  apart := fun rest ρ h ⟨h1, h2, a, i, h3, ⟨o, ho, hc, hd⟩, h5⟩ => own1 h1 h2 ho (by simp [isImm, hc, hd])
  live := fun rest ρ h ⟨_, _, a, i, _, ⟨o, ho, _⟩, _⟩ b hb => ⟨o, hb ▸ ho⟩
  self := fun A rest ρ s Q ⟨_, _, a, i, _, h4, _⟩ hq => wpAny_pyIter_listiter h4 hq
  keep := fun X ρ s s' ρ' rest ⟨h1, h2, a, i, h3, ⟨o, ho, hc, hd⟩, h5⟩ S hX =>
    ⟨S.notIn ho h1, h2, a, i, by obtain ⟨t, rfl⟩ := S.pre; exact pre_get h3, ⟨o, S.keep _ _ ho h1 (hX it rfl), hc, hd⟩, h5⟩
  next := fun A ρ σ s v rest tgt R S hsrc ⟨h1, h2, a, i, h3, h4, h5⟩ ht _ => by
    obtain ⟨o, ho, hc, hd⟩ := id h4
    obtain ⟨_, us, n, hl, hr⟩ := S.list hsrc h3
    obtain ⟨hv, hrest⟩ := drop_cons h5
    obtain ⟨u, hu, hru⟩ := hr.get hv
    have ap := own1 (ρ := ρ) (h := s.heap) h1 h2 ho (by simp [isImm, hc, hd])
    refine wpAny_pyNext_list_item h4 (isList_of hl) (x := u) (by simpa using hu) fun h' hit hs => ⟨u, rfl, ?_⟩
    obtain ⟨o', ho', hc', hd'⟩ := id hit
    have T := same_end (tk := s.toks) ap hs ho'
    refine letGo_other (s := { s with heap := h' }) ho' hc' (by decide) ht ⟨T, S.keepBut ap fun b o e hn => (hs.2 b hn).trans e, hru.step T, h1, h2, a, i + 1, h3, hit, hrest⟩
  done := fun A ρ σ s R S hsrc ⟨h1, h2, a, i, h3, h4, h5⟩ => by
    obtain ⟨o, ho, hc, hd⟩ := id h4
    obtain ⟨_, us, n, hl, hr⟩ := S.list hsrc h3
    have hn := drop_nil h5
    have ap := own1 (ρ := ρ) (h := s.heap) h1 h2 ho (by simp [isImm, hc, hd])
    refine wpAny_pyNext_list_end R.hh h4 (isList_of hl) (by rw [List.getElem?_eq_none_iff] at hn; simp [hr.length]; exact hn) fun h' hk => ⟨rfl, extBut_end hk, S.keepBut ap fun b o e hn => hk b o hn e⟩

inductive ItTup (g : GG) (it : Addr) (vs : List V) (rest : List V) (ρ : List Addr) (h : Heap) : Prop
  | mk (h1 : it ∉ ρ) (h2 : g.base.get? it = none) (a : Addr) (us : List Value) (i : Nat) (h3 : TupAt h a us) (h4 : RepVs g ρ h vs us) (h5 : h.IsTupleIter it a i) (h6 : rest = vs.drop i) : ItTup g it vs rest ρ h

theorem TupAt.grow {a : Addr} {us : List Value} (H : Grow g h h') (t : TupAt h a us) : TupAt h' a us := by
  obtain ⟨n, ho⟩ := t; exact ⟨n, H a _ ho (.inl (.inl ⟨rfl, _, n, rfl⟩))⟩

theorem IsIt.tup (it : Addr) (vs : List V) : IsIt g (.ref it) (fun b => b = it) (fun _ => True) false (ItTup g it vs) where
  apart := fun rest ρ h ⟨h1, h2, a, us, i, h3, h3', ⟨o, ho, hc, hd⟩, h5⟩ => own1 h1 h2 ho (by simp [isImm, hc, hd])
  live := fun rest ρ h ⟨_, _, a, us, i, _, _, ⟨o, ho, _⟩, _⟩ b hb => ⟨o, hb ▸ ho⟩
  self := fun A rest ρ s Q ⟨_, _, a, us, i, _, _, h4, _⟩ hq => wpAny_pyIter_tupleiter h4 hq
  keep := fun X ρ s s' ρ' rest ⟨h1, h2, a, us, i, h3, h3', ⟨o, ho, hc, hd⟩, h5⟩ S hX =>
    ⟨S.notIn ho h1, h2, a, us, i, h3.grow S.imm, h3'.step S, ⟨o, S.keep _ _ ho h1 (hX it rfl), hc, hd⟩, h5⟩
  next := fun A ρ σ s v rest tgt R S hsrc ⟨h1, h2, a, us, i, h3, h3', h4, h5⟩ ht _ => by
    obtain ⟨o, ho, hc, hd⟩ := id h4
    obtain ⟨hv, hrest⟩ := drop_cons h5
    obtain ⟨u, hu, hru⟩ := h3'.get hv
    have ap := own1 (ρ := ρ) (h := s.heap) h1 h2 ho (by simp [isImm, hc, hd])
    refine wpAny_pyNext_tuple_item h4 h3.is (x := u) (by simpa using hu) fun h' hit hs => ⟨u, rfl, ?_⟩
    obtain ⟨o', ho', hc', hd'⟩ := id hit
    have T := same_end (tk := s.toks) ap hs ho'
    exact letGo_other (s := { s with heap := h' }) ho' hc' (by decide) ht ⟨T, S.keepBut ap fun b o e hn => (hs.2 b hn).trans e, hru.step T, h1, h2, a, us, i + 1, h3.grow T.imm, h3'.step T, hit, hrest⟩
  done := fun A ρ σ s R S hsrc ⟨h1, h2, a, us, i, h3, h3', h4, h5⟩ => by
    obtain ⟨o, ho, hc, hd⟩ := id h4
    have hn := drop_nil h5
    have ap := own1 (ρ := ρ) (h := s.heap) h1 h2 ho (by simp [isImm, hc, hd])
    refine wpAny_pyNext_tuple_end R.hh h4 h3.is (by rw [List.getElem?_eq_none_iff] at hn; simp [h3'.length]; exact hn) fun h' hk => ⟨rfl, extBut_end hk, S.keepBut ap fun b o e hn => hk b o hn e⟩

noncomputable def rngL (a : Int) : Nat → List V
  | 0 => []
  | n + 1 => .int a :: rngL (a + 1) n
inductive ItRng (g : GG) (it : Addr) (rest : List V) (ρ : List Addr) (h : Heap) : Prop
  | mk (h1 : it ∉ ρ) (h2 : g.base.get? it = none) (x : Int) (n : Nat) (h3 : IsRangeIter h it x n 1) (h4 : rest = rngL x n) : ItRng g it rest ρ h

theorem IsIt.rng (it : Addr) : IsIt g (.ref it) (fun b => b = it) (fun _ => True) false (ItRng g it) where
  apart := fun rest ρ h ⟨h1, h2, x, n, ho, h5⟩ => own1 h1 h2 ho (by simp [isImm])
  live := fun rest ρ h ⟨_, _, x, n, ho, _⟩ b hb => ⟨_, hb ▸ ho⟩
  self := fun A rest ρ s Q ⟨_, _, x, n, h4, _⟩ hq => wpAny_pyIter_rangeiter h4 hq
  keep := fun X ρ s s' ρ' rest ⟨h1, h2, x, n, ho, h5⟩ S hX => ⟨S.notIn ho h1, h2, x, n, S.keep _ _ ho h1 (hX it rfl), h5⟩
  next := fun A ρ σ s v rest tgt R S hsrc ⟨h1, h2, x, n, ho, h5⟩ ht _ => by
    cases n with
    | zero => cases h5
    | succ n =>
      injection h5 with h5 h6
      subst h5
      have ap := own1 (ρ := ρ) (h := s.heap) h1 h2 ho (by simp [isImm])
      refine wpAny_pyNext_range_item ho (by lia) fun h' hit hs => ⟨_, rfl, ?_⟩
      have T := same_end (tk := s.toks + 1) ap hs hit
      refine letGo_other (s := { s with heap := h', toks := s.toks + 1 }) hit rfl (by decide) ht ⟨T, S.keepBut ap fun b o e hn => (hs.2 b hn).trans e, ⟨_, rfl⟩, h1, h2, x + 1, n, ?_, h6⟩
      have e : ((n + 1 : Nat) : Int) - 1 = n := by lia
      rw [e] at hit; exact hit
  done := fun A ρ σ s R S hsrc ⟨h1, h2, x, n, ho, h5⟩ => by
    cases n with
    | succ n => cases h5
    | zero =>
      have ap := own1 (ρ := ρ) (h := s.heap) h1 h2 ho (by simp [isImm])
      exact wpAny_pyNext_range_end R.hh ho (by lia) fun h' hk => ⟨rfl, extBut_end hk, S.keepBut ap fun b o e hn => hk b o hn e⟩

inductive ItKeys (g : GG) (l : Nat) (it : Addr) (es : List (V × V)) (rest : List V) (ρ : List Addr) (h : Heap) : Prop
  | mk (h1 : it ∉ ρ) (h2 : g.base.get? it = none) (a : Addr) (i : Nat) (h3 : ρ[l]? = some a) (h4 : h.IsKeyIter it a i es.length es.length) (h5 : rest = (es.map (·.1)).drop i) : ItKeys g l it es rest ρ h

theorem IsIt.keys (l : Nat) (it : Addr) (es : List (V × V)) : IsIt g (.ref it) (fun b => b = it) (fun σ => σ[l]? = some (.dict es)) false (ItKeys g l it es) where
  apart := fun rest ρ h ⟨h1, h2, a, i, h3, ⟨o, ho, hc, hd⟩, h5⟩ => own1 h1 h2 ho (by simp [isImm, hc, hd])
  live := fun rest ρ h ⟨_, _, a, i, _, ⟨o, ho, _⟩, _⟩ b hb => ⟨o, hb ▸ ho⟩
  self := fun A rest ρ s Q ⟨_, _, a, i, _, h4, _⟩ hq => wpAny_pyIter_keyiter h4 hq
  keep := fun X ρ s s' ρ' rest ⟨h1, h2, a, i, h3, ⟨o, ho, hc, hd⟩, h5⟩ S hX =>
    ⟨S.notIn ho h1, h2, a, i, by obtain ⟨t, rfl⟩ := S.pre; exact pre_get h3, ⟨o, S.keep _ _ ho h1 (hX it rfl), hc, hd⟩, h5⟩
  next := fun A ρ σ s v rest tgt R S hsrc ⟨h1, h2, a, i, h3, h4, h5⟩ ht _ => by
    obtain ⟨o, ho, hc, hd⟩ := id h4
    obtain ⟨_, _, ents, hD, hr⟩ := S.dict hsrc h3
    obtain ⟨hv, hrest⟩ := drop_cons h5
    rw [List.getElem?_map] at hv
    obtain ⟨p, hp, rfl⟩ := Option.map_eq_some_iff.mp hv
    obtain ⟨e, he, _, hk, _⟩ := hr.get hp
    have ap := own1 (ρ := ρ) (h := s.heap) h1 h2 ho (by simp [isImm, hc, hd])
    have h4' : s.heap.IsKeyIter it a i ents.length es.length := by rw [hr.length]; exact h4
    refine keys_item h4' hD he fun h' hit hs => ⟨e.key, rfl, ?_⟩
    rw [hr.length] at hit
    obtain ⟨o', ho', hc', hd'⟩ := id hit
    have T := same_end (tk := s.toks) ap hs ho'
    exact letGo_other (s := { s with heap := h' }) ho' hc' (by decide) ht ⟨T, S.keepBut ap fun b o e hn => (hs.2 b hn).trans e, hk.step T, h1, h2, a, i + 1, h3, hit, hrest⟩
  done := fun A ρ σ s R S hsrc ⟨h1, h2, a, i, h3, h4, h5⟩ => by
    obtain ⟨o, ho, hc, hd⟩ := id h4
    obtain ⟨_, _, ents, hD, hr⟩ := S.dict hsrc h3
    have hn := drop_nil h5
    have ap := own1 (ρ := ρ) (h := s.heap) h1 h2 ho (by simp [isImm, hc, hd])
    have h4' : s.heap.IsKeyIter it a i ents.length es.length := by rw [hr.length]; exact h4
    exact keys_end R.hh h4' hD (by rw [List.getElem?_eq_none_iff] at hn ⊢; simpa [hr.length] using hn) fun h' hk => ⟨rfl, extBut_end hk, S.keepBut ap fun b o e hn => hk b o hn e⟩

theorem entry_itemiter_iter : entryFor table "dict_itemiterator.__iter__" = some Builtin.«dict_keyiterator.__iter__» :=
  entryFor_alias (id' := "dict_keyiterator.__iter__") (by kernel_rfl) (by first | rfl | decide +kernel | (unfold String.splitOn; simp +decide [String.splitOnAux])) (by decide +kernel) (by kernel_rfl)
theorem pyIter_itemiter {it d : Addr} {i n ep : Nat} {ok ov : Value} {Q : Value → Shared → Prop} (hit : IsItemIter s.heap it d i n ep ok ov) (h : Q (.ref it) s) : wpAny (model g.prog g.w) A (pyIter (.ref it)) Q noE s := by
  have hT : s.TypeIs (.ref it) "dict_itemiterator" := ⟨_, hit, rfl⟩
  refine wpAny_pyIter_slot hT F.slot_dict_itemiterator_iter (wpAny_call_entry F.slot_dict_itemiterator_iter hT entry_itemiter_iter ?_ (F.args_dict_itemiterator_iter_1 _))
  show wpAny _ _ (ret (.ref it)) _ _ s
  exact wpAny_pure ⟨_, rfl, "dict_itemiterator", _, hT, F.slot_dict_itemiterator_next.lookup, h⟩
noncomputable def pairV (p : V × V) : V := .tup [p.1, p.2]
inductive ItItems (g : GG) (l : Nat) (it : Addr) (es : List (V × V)) (rest : List V) (ρ : List Addr) (h : Heap) : Prop
  | mk (h1 : it ∉ ρ) (h2 : g.base.get? it = none) (a : Addr) (i : Nat) (ok ov : Value) (h3 : ρ[l]? = some a) (h4 : IsItemIter h it a i es.length es.length ok ov) (h5 : rest = (es.map pairV).drop i) : ItItems g l it es rest ρ h

theorem IsIt.items (l : Nat) (it : Addr) (es : List (V × V)) : IsIt g (.ref it) (fun b => b = it) (fun σ => σ[l]? = some (.dict es)) true (ItItems g l it es) where
  apart := fun rest ρ h ⟨h1, h2, a, i, ok, ov, h3, ho, h5⟩ => own1 h1 h2 ho (by simp [isImm])
  live := fun rest ρ h ⟨_, _, a, i, ok, ov, _, ho, _⟩ b hb => ⟨_, hb ▸ ho⟩
  self := fun A rest ρ s Q ⟨_, _, a, i, ok, ov, _, h4, _⟩ hq => pyIter_itemiter h4 hq
  keep := fun X ρ s s' ρ' rest ⟨h1, h2, a, i, ok, ov, h3, ho, h5⟩ S hX =>
    ⟨S.notIn ho h1, h2, a, i, ok, ov, by obtain ⟨t, rfl⟩ := S.pre; exact pre_get h3, S.keep _ _ ho h1 (hX it rfl), h5⟩
  next := fun A ρ σ s v rest tgt R S hsrc ⟨h1, h2, a, i, ok, ov, h3, h4, h5⟩ ht htt => by
    obtain ⟨_, _, ents, hD, hr⟩ := S.dict hsrc h3
    obtain ⟨hv, hrest⟩ := drop_cons h5
    rw [List.getElem?_map] at hv
    obtain ⟨p, hp, rfl⟩ := Option.map_eq_some_iff.mp hv
    obtain ⟨e, he, _, hk, hvv⟩ := hr.get hp
    have ap := own1 (ρ := ρ) (h := s.heap) h1 h2 h4 (by simp [isImm])
    have h4' : IsItemIter s.heap it a i ents.length es.length ok ov := by rw [hr.length]; exact h4
    have hilt : it < s.heap.objs.size := Heap.lt_size h4
    refine items_item h4' hD he fun h' hit htup hkeep => ⟨_, rfl, ?_⟩
    rw [hr.length] at hit
    have tt := htt rfl
    cases tgt with
    | Tuple elts x1 pos =>
      refine wpAny_letOwnedTupleGo_items (s := { s with heap := h' }) hit fun h'' hit' hs' => ?_
      have T : Step g (fun b => b = it) ρ s { s with heap := h'', toks := s.toks } ρ := Step.keepBut ap (fun b o e hn => (hs'.2 b hn).trans (hkeep b o hn e)) fun b e _ _ => ⟨_, (congrArg h''.get? e).trans hit'⟩
      refine ⟨T, S.keepBut ap fun b o e hn => (hs'.2 b hn).trans (hkeep b o hn e), ?_, h1, h2, a, i + 1, _, _, h3, hit', hrest⟩
      refine ⟨_, [e.key, e.val], rfl, ⟨0, (hs'.2 _ (Nat.ne_of_gt hilt)).trans htup⟩, _, _, rfl, hk.step T, _, _, rfl, hvv.step T, rfl⟩
    | _ => cases tt
  done := fun A ρ σ s R S hsrc ⟨h1, h2, a, i, ok, ov, h3, h4, h5⟩ => by
    obtain ⟨_, _, ents, hD, hr⟩ := S.dict hsrc h3
    have hn := drop_nil h5
    have ap := own1 (ρ := ρ) (h := s.heap) h1 h2 h4 (by simp [isImm])
    have h4' : IsItemIter s.heap it a i ents.length es.length ok ov := by rw [hr.length]; exact h4
    exact items_end R.hh h4' hD (by rw [List.getElem?_eq_none_iff] at hn ⊢; simpa [hr.length] using hn) fun h' hk => ⟨rfl, extBut_end hk, S.keepBut ap fun b o e hn => hk b o hn e⟩

noncomputable def enumL (i : Nat) : List V → List V
  | [] => []
  | v :: r => .tup [.int i, v] :: enumL (i + 1) r
inductive ItEnum (g : GG) (l : Nat) (e it : Addr) (vs : List V) (rest : List V) (ρ : List Addr) (h : Heap) : Prop
  | mk (h1 : it ∉ ρ ∧ g.base.get? it = none) (h2 : e ∉ ρ ∧ g.base.get? e = none) (hne : e ≠ it) (a : Addr) (i : Nat) (old : Value) (h3 : ρ[l]? = some a) (h4 : h.IsListIter it a i) (he : IsEnum h e it (i : Int) old) (h5 : rest = enumL i (vs.drop i)) : ItEnum g l e it vs rest ρ h

theorem own2 {e it : Addr} {o o' : Obj} (h1 : it ∉ ρ ∧ g.base.get? it = none) (h2 : e ∉ ρ ∧ g.base.get? e = none) (h3 : h.get? it = some o) (h4 : ¬ isImm o) (h5 : h.get? e = some o') (h6 : ¬ isImm o') : Apart g (fun b => b = e ∨ b = it) ρ h := fun b q => by
  rcases q with rfl | rfl
  · exact ⟨h2.1, h2.2, fun o' e => by rw [h5] at e; cases e; exact h6⟩
  · exact ⟨h1.1, h1.2, fun o' e => by rw [h3] at e; cases e; exact h4⟩

theorem IsIt.enum (l : Nat) (e it : Addr) (vs : List V) : IsIt g (.ref e) (fun b => b = e ∨ b = it) (fun σ => σ[l]? = some (.list vs)) true (ItEnum g l e it vs) where
  apart := fun rest ρ h ⟨h1, h2, hne, a, i, old, h3, ⟨o, ho, hc, hd⟩, he, h5⟩ => own2 h1 h2 ho (by simp [isImm, hc, hd]) he (by simp [isImm])
  live := fun rest ρ h ⟨_, _, _, a, i, old, _, ⟨o, ho, _⟩, he, _⟩ b hb => by rcases hb with rfl | rfl <;> first | exact ⟨_, he⟩ | exact ⟨_, ho⟩
  self := fun A rest ρ s Q ⟨_, _, _, a, i, old, _, _, he, _⟩ hq => wpAny_pyIter_enum he hq
  keep := fun X ρ s s' ρ' rest ⟨h1, h2, hne, a, i, old, h3, ⟨o, ho, hc, hd⟩, he, h5⟩ S hX =>
    ⟨⟨S.notIn ho h1.1, h1.2⟩, ⟨S.notIn he h2.1, h2.2⟩, hne, a, i, old, by obtain ⟨t, rfl⟩ := S.pre; exact pre_get h3, ⟨o, S.keep _ _ ho h1.1 (hX it (.inr rfl)), hc, hd⟩, S.keep _ _ he h2.1 (hX e (.inl rfl)), h5⟩
  next := fun A ρ σ s v rest tgt R S hsrc ⟨h1, h2, hne, a, i, old, h3, h4, he, h5⟩ ht htt => by
    obtain ⟨o, ho, hc, hd⟩ := id h4
    obtain ⟨_, us, n, hl, hr⟩ := S.list hsrc h3
    have hi : ∃ w r, vs.drop i = w :: r := by
      cases hdr : vs.drop i with
      | nil => rw [hdr] at h5; cases h5
      | cons w r => exact ⟨w, r, rfl⟩
    obtain ⟨w, r, hdr⟩ := hi
    obtain ⟨hv, hrest⟩ := drop_cons hdr.symm
    rw [hdr] at h5
    injection h5 with h5 h6
    subst h5
    obtain ⟨u, hu, hru⟩ := hr.get hv
    have ap := own2 (ρ := ρ) (h := s.heap) h1 h2 ho (by simp [isImm, hc, hd]) he (by simp [isImm])
    have hil : it < s.heap.objs.size := Heap.lt_size ho
    have hel : e < s.heap.objs.size := Heap.lt_size he
    refine wpAny_pyNext_enum_item he h4 (isList_of hl) (x := u) (by simpa using hu) hne fun h' heo hit htup _ hkeep => ⟨_, rfl, ?_⟩
    have tt := htt rfl
    cases tgt with
    | Tuple elts x1 pos =>
      refine wpAny_letOwnedTupleGo_enum (s := { s with heap := h', toks := s.toks + 1 }) heo fun h'' heo' hs' => ?_
      have hkk : ∀ b o, s.heap.get? b = some o → ¬ (b = e ∨ b = it) → h''.get? b = some o := fun b o eo hn => (hs'.2 b fun q => hn (.inl q)).trans (hkeep b o (fun q => hn (.inl q)) (fun q => hn (.inr q)) eo)
      have hit' : h''.IsListIter it a (i + 1) := by
        obtain ⟨o', ho', r'⟩ := hit
        exact ⟨o', (hs'.2 it (Ne.symm hne)).trans ho', r'⟩
      have T : Step g (fun b => b = e ∨ b = it) ρ s { s with heap := h'', toks := s.toks + 1 } ρ := Step.keepBut ap hkk fun b q _ _ => by
        rcases q with rfl | rfl
        · exact ⟨_, heo'⟩
        · obtain ⟨o', ho', _⟩ := hit'; exact ⟨o', ho'⟩
      refine ⟨T, S.keepBut ap hkk, ?_, h1, h2, hne, a, i + 1, _, h3, hit', by exact_mod_cast heo', ?_⟩
      · exact ⟨_, [.int i s.toks, u], rfl, ⟨0, (hs'.2 _ (Nat.ne_of_gt hel)).trans htup⟩, _, _, rfl, ⟨_, rfl⟩, _, _, rfl, hru.step T, rfl⟩
      · rw [h6, hrest]
    | _ => cases tt
  done := fun A ρ σ s R S hsrc ⟨h1, h2, hne, a, i, old, h3, h4, he, h5⟩ => by
    obtain ⟨o, ho, hc, hd⟩ := id h4
    obtain ⟨_, us, n, hl, hr⟩ := S.list hsrc h3
    have hn : vs[i]? = none := by
      cases hdr : vs.drop i with
      | nil => exact drop_nil hdr.symm
      | cons w r => rw [hdr] at h5; cases h5
    have ap := own2 (ρ := ρ) (h := s.heap) h1 h2 ho (by simp [isImm, hc, hd]) he (by simp [isImm])
    refine wpAny_pyNext_enum_end R.hh he h4 (isList_of hl) (by rw [List.getElem?_eq_none_iff] at hn; simp [hr.length]; exact hn) fun h' hk => ⟨rfl, ⟨⟨h', s.toks, rfl⟩, fun b o e' hn' => hk b o (fun q => hn' (.inr q)) e'⟩, S.keepBut ap fun b o e' hn' => hk b o (fun q => hn' (.inr q)) e'⟩
end
end Mini
end

section
namespace Mini
open PySem PySem.SeqAt PyProof.Rows
open AutoSeq1 (wpAny_loadPart')

section
variable {g : GG} {X own : Addr → Prop} {ρ ρ₁ : List Addr} {σ : Store} {s s₁ : Shared} {A : Around} {h h' : Heap}

set_option tactic.hygienic true in
theorem meets_enum_tuple (l : Addr) (items : Array Value) (n : Nat) :
    Meets (Builtin.«enumerate.__new__» ⟨[.type "enumerate", .ref l], []⟩) (fun _ R s => s.heap.get? l = some { cls := .type "tuple", data := .seq items n } ∧
      R (.ok (.ret (.ref (s.heap.push { cls := .type "tuple_iterator", data := .fields #[.ref l, .int 0 0] }).objs.size)))
        { s with heap := (s.heap.push { cls := .type "tuple_iterator", data := .fields #[.ref l, .int 0 0] }).push { cls := .type "enumerate", data := .fields #[.none, .bool false, .ref s.heap.objs.size, rawInt 0, .none, .none] } }) :=
  .of_wp fun prog w A R s hh => by
    obtain ⟨hp, gs, dr, tk, os⟩ := s
    obtain ⟨hl, hr⟩ := hh
    have hsub := sub_enumerate
    have hT : Heap.IsTuple (Shared.heap ⟨hp, gs, dr, tk, os⟩) l items := ⟨_, hl, rfl, n, rfl⟩
    wp_walk using wpAny_loadPart' hl
    refine wpAny_stack_any fun st => wpAny_pure ?_
    split
    · rename_i c _ _ _ _ _
      cases (c == Value.type "enumerate")
      · wp_walk using wpAny_loadPart' hl, wpAny_pyIter_tuple hT
        exact ⟨_, rfl, hr⟩
      · wp_walk using wpAny_loadPart' hl, wpAny_pyIter_tuple hT
        exact ⟨_, rfl, hr⟩
    · wp_walk using wpAny_loadPart' hl, wpAny_pyIter_tuple hT
      exact ⟨_, rfl, hr⟩

theorem call_enum_tuple {l : Addr} {items : Array Value} {n : Nat} {Q : Value → Shared → Prop} {E : Value → Shared → Prop} (hl : s.heap.get? l = some { cls := .type "tuple", data := .seq items n })
    (hq : ∀ h', IsEnum h' (s.heap.objs.size + 1) s.heap.objs.size 0 .none → h'.IsTupleIter s.heap.objs.size l 0 →
      (∀ b o, s.heap.get? b = some o → h'.get? b = some o) → Q (.ref (s.heap.objs.size + 1)) { s with heap := h' }) :
    wpAny (model g.prog g.w) A (call (.type "enumerate") [.ref l]) Q E s := by
  refine callType_new F.called_enumerate (by decide) (F.typeCall_enumerate_1 _) (F.newCall_enumerate_1 _) (fun obj => F.args_object_init_2 obj _) F.entry_enumerate_new
    (meets_enum_tuple l items n) ⟨hl, ?_⟩
  generalize hH : s.heap.push { cls := .type "tuple_iterator", data := .fields #[.ref l, .int 0 0] } = H
  have hz : H.objs.size = s.heap.objs.size + 1 := by rw [← hH]; exact Heap.size_push ..
  have h1 : (H.push { cls := .type "enumerate", data := .fields #[.none, .bool false, .ref s.heap.objs.size, rawInt 0, .none, .none] }).get? H.objs.size = some { cls := .type "enumerate", data := .fields #[.none, .bool false, .ref s.heap.objs.size, rawInt 0, .none, .none] } := Heap.get?_push_size _ rfl
  rw [hz] at h1
  refine ⟨⟨_, by rw [hz]; exact h1, rfl⟩, ?_⟩
  rw [hz]
  exact hq _ h1 ⟨_, Heap.get?_push_of_some _ (hH ▸ Heap.get?_push_size _ rfl), rfl, rfl⟩ fun b o x => Heap.get?_push_of_some _ (hH ▸ Heap.get?_push_of_some _ x)

theorem nextOf_tuple_item {it t : Addr} {i : Nat} {items : Array Value} {x : Value} {Q E : Value → Shared → Prop} (hit : s.heap.IsTupleIter it t i)
    (ht : s.heap.IsTuple t items) (hx : items[i]? = some x) (hQ : ∀ h', h'.IsTupleIter it t (i + 1) → Heap.SameBut it s.heap h' → Q x { s with heap := h' }) :
    wpAny (model g.prog g.w) A (Builtin.SmallTypes.nextOf (.ref it)) Q E s := by
  obtain ⟨o, ho, hc, hd⟩ := id hit
  obtain ⟨ol, hol, _, nl, hdl⟩ := ht
  unfold Builtin.SmallTypes.nextOf
  refine wpAny_bind (wpAny_callSpecial?_slot (name := Str.ofString "__next__") hit.typeIs F.slot_tuple_iterator_next
    (wpAny_call_entry F.slot_tuple_iterator_next hit.typeIs F.entry_tuple_iterator_next ?_ (F.args_tuple_iterator_next_1 _)))
  show wpAny _ _ (field (.ref it) 0 >>= _) _ _ s
  refine wpAny_bind (wpAny_field ho hd (x := .ref t) rfl ?_)
  show wpAny _ _ (if (Value.ref t == Value.none) = true then _ else _) _ _ s
  rw [if_neg (show ¬ ((Value.ref t == Value.none) = true) from Bool.false_ne_true)]
  show wpAny _ _ (field (.ref it) 1 >>= _) _ _ s
  refine wpAny_bind (wpAny_field ho hd (x := .int i 0) rfl ?_)
  show wpAny _ _ (seqItems? (.ref t) >>= _) _ _ s
  refine wpAny_bind (wpAny_seqItems hol hdl ?_)
  simp only [Int.toNat_natCast, hx]
  refine wpAny_bind (wpAny_setField ho hd (by simp) (wpAny_pure ⟨x, rfl, wpAny_pure (hQ _ ?_ (Heap.SameBut.update ..))⟩))
  exact ⟨_, Heap.get?_update_self _ ho (Obj.isFreed_of_fields (Obj.data_mapFields hd _)), (Obj.cls_mapFields ..).trans hc, by
    rw [Obj.data_mapFields hd]; simp [rawInt]⟩

theorem nextOf_tuple_end {it t : Addr} {i : Nat} {items : Array Value} {Q E : Value → Shared → Prop} (hh : A.handled = none)
    (hit : s.heap.IsTupleIter it t i) (ht : s.heap.IsTuple t items) (hx : items[i]? = none)
    (hE : ∀ h' e, Heap.ExtBut it s.heap h' → (∃ o, h'.get? e = some o ∧ o.cls = .type "StopIteration") → E (.ref e) { s with heap := h' }) :
    wpAny (model g.prog g.w) A (Builtin.SmallTypes.nextOf (.ref it)) Q E s := by
  obtain ⟨o, ho, hc, hd⟩ := id hit
  obtain ⟨ol, hol, _, nl, hdl⟩ := ht
  unfold Builtin.SmallTypes.nextOf
  refine wpAny_bind (wpAny_callSpecial?_slot (name := Str.ofString "__next__") hit.typeIs F.slot_tuple_iterator_next
    (wpAny_call_entry F.slot_tuple_iterator_next hit.typeIs F.entry_tuple_iterator_next ?_ (F.args_tuple_iterator_next_1 _)))
  show wpAny _ _ (field (.ref it) 0 >>= _) _ _ s
  refine wpAny_bind (wpAny_field ho hd (x := .ref t) rfl ?_)
  show wpAny _ _ (if (Value.ref t == Value.none) = true then _ else _) _ _ s
  rw [if_neg (show ¬ ((Value.ref t == Value.none) = true) from Bool.false_ne_true)]
  show wpAny _ _ (field (.ref it) 1 >>= _) _ _ s
  refine wpAny_bind (wpAny_field ho hd (x := .int i 0) rfl ?_)
  show wpAny _ _ (seqItems? (.ref t) >>= _) _ _ s
  refine wpAny_bind (wpAny_seqItems hol hdl ?_)
  simp only [Int.toNat_natCast, hx]
  refine wpAny_bind (wpAny_rule (wpAny_bind (wpAny_setField ho hd (by simp) ?_)))
  show wpAny _ _ (newExc (.type "StopIteration") [] >>= _) _ _ _
  refine wpAny_bind ?_
  simp only [newExc, newTuple]
  refine wpAny_bind (wpAny_newObj_type ?_ (by size_fits))
  refine wpAny_bind (m := firstArgMember _ _) (wpAny_of_eq (a := Value.none) (by first | rfl | (simp only [firstArgMember]; rfl)) ?_)
  refine wpAny_newObj_type ?_ (by size_fits)
  simp only [raiseNew]
  refine wpAny_bind (wpAny_handled ?_)
  first | rw [show A.in1.handled = none from hh] | rw [hh]
  refine wpAny_bind (wpAny_pure (wpAny_throw ?_))
  exact hE _ _ (((Heap.SameBut.update ..).extBut.push _).push _) ⟨_, Heap.get?_push_size _ rfl, rfl⟩

theorem enumT_item {e it l : Addr} {i : Nat} {items : Array Value} {x old : Value} {Q : Option Value → Shared → Prop} {E : Value → Shared → Prop}
    (he : IsEnum s.heap e it i old) (hit : s.heap.IsTupleIter it l i) (hl : s.heap.IsTuple l items) (hx : items[i]? = some x) (hne : e ≠ it)
    (hQ : ∀ h', IsEnumOut h' e it ((i : Int) + 1) x s.heap.objs.size → h'.IsTupleIter it l (i + 1) →
      h'.get? s.heap.objs.size = some { cls := .type "tuple", data := .seq #[.int i s.toks, x] } →
      (∀ b o, b ≠ e → b ≠ it → s.heap.get? b = some o → h'.get? b = some o) → Q (some (.ref s.heap.objs.size)) { s with heap := h', toks := s.toks + 1 }) :
    wpAny (model g.prog g.w) A (pyNext (.ref e)) Q E s := by
  have hT : s.TypeIs (.ref e) "enumerate" := ⟨_, he, rfl⟩
  unfold pyNext
  refine wpAny_bind (wpAny_attempt (wpAny_callSpecial?_slot (name := Str.ofString "__next__") hT F.slot_enumerate_next
    (wpAny_call_entry F.slot_enumerate_next hT F.entry_enumerate_next ?_ (F.args_enumerate_next_1 _))))
  obtain ⟨hp, gs, d, tk, os⟩ := s
  show wpAny _ _ (field (.ref e) 2 >>= _) _ _ _
  refine wpAny_bind (wpAny_field he rfl (x := .ref it) rfl ?_)
  refine wpAny_bind (nextOf_tuple_item hit hl hx fun h₁ hit₁ hs₁ => ?_)
  replace hs₁ : Heap.SameBut it hp h₁ := hs₁
  have he₁ : IsEnum h₁ e it i old := (hs₁.2 e hne).trans he
  show wpAny _ _ (field (.ref e) 3 >>= _) _ _ ⟨h₁, gs, d, tk, os⟩
  refine wpAny_bind (wpAny_field he₁ rfl (x := rawInt i) rfl ?_)
  show wpAny _ _ (field (.ref e) 4 >>= _) _ _ ⟨h₁, gs, d, tk, os⟩
  refine wpAny_bind (wpAny_field he₁ rfl (x := .none) rfl ?_)
  show wpAny _ _ (mkInt i >>= _) _ _ ⟨h₁, gs, d, tk, os⟩
  refine wpAny_bind (wpAny_mkInt ?_)
  show wpAny _ _ (setField (.ref e) 3 (rawInt ((i : Int) + 1)) >>= _) _ _ ⟨h₁, gs, d, tk + 1, os⟩
  refine wpAny_bind (wpAny_setField_rec he₁ (by simp) fun h₂ he₂ hs₂ => ?_)
  replace hs₂ : Heap.SameBut e h₁ h₂ := hs₂
  replace he₂ : IsEnum h₂ e it ((i : Int) + 1) old := he₂
  show wpAny _ _ (setField (.ref e) 4 .none >>= _) _ _ ⟨h₂, gs, d, tk + 1, os⟩
  refine wpAny_bind (wpAny_setField_rec he₂ (by simp) fun h₃ he₃ hs₃ => ?_)
  replace hs₃ : Heap.SameBut e h₂ h₃ := hs₃
  replace he₃ : IsEnum h₃ e it ((i : Int) + 1) old := he₃
  show wpAny _ _ (newTuple [.int i tk, x] >>= _) _ _ ⟨h₃, gs, d, tk + 1, os⟩
  refine wpAny_bind (wpAny_newTuple ?_)
  have he₄ : IsEnum (h₃.push { cls := .type "tuple", data := .seq #[.int i tk, x] }) e it ((i : Int) + 1) old := Heap.get?_push_of_some _ he₃
  generalize hh₄ : h₃.push { cls := .type "tuple", data := .seq #[.int i tk, x] } = h₄ at he₄
  have hsz : h₃.objs.size = hp.objs.size := by rw [hs₃.1, hs₂.1, hs₁.1]
  have hel : e < hp.objs.size := Heap.lt_size he
  have ht₄ : h₄.get? hp.objs.size = some { cls := .type "tuple", data := .seq #[.int i tk, x] } := by rw [← hh₄, ← hsz]; exact Heap.get?_push_size _ rfl
  have hk₄ : ∀ b o, b ≠ e → h₁.get? b = some o → h₄.get? b = some o := fun b o hbe hb => by
    rw [← hh₄]; exact Heap.get?_push_of_some _ (hs₃.extBut b o hbe (hs₂.extBut b o hbe hb))
  show wpAny _ _ (Builtin.SmallTypes.ownedTupleIsFree (.ref e) >>= _) _ _ ⟨h₄, gs, d, tk + 1, os⟩
  rw [hsz]
  clear hh₄ he₃ hs₃ he₂ hs₂ hsz h₃ h₂
  refine wpAny_bind ?_
  unfold Builtin.SmallTypes.ownedTupleIsFree
  refine wpAny_bind (wpAny_field he₄ rfl (x := .none) rfl (wpAny_pure ?_))
  simp only [if_true]
  refine wpAny_bind (wpAny_rule ?_)
  refine wpAny_bind (wpAny_field he₄ rfl (x := old) rfl ?_)
  refine wpAny_bind (wpAny_setField_rec he₄ (by simp) fun h₅ he₅ hs₅ => ?_)
  replace hs₅ : Heap.SameBut e h₄ h₅ := hs₅
  replace he₅ : IsEnum h₅ e it ((i : Int) + 1) x := he₅
  show wpAny _ _ (Builtin.SmallTypes.ownedTupleHandOut (.ref e) (.ref hp.objs.size) >>= _) _ _ ⟨h₅, gs, d, tk + 1, os⟩
  refine wpAny_bind ?_
  unfold Builtin.SmallTypes.ownedTupleHandOut
  refine wpAny_bind (wpAny_setField_rec he₅ (by simp) fun h₆ he₆ hs₆ => ?_)
  replace hs₆ : Heap.SameBut e h₅ h₆ := hs₆
  replace he₆ : IsEnumOut h₆ e it ((i : Int) + 1) x hp.objs.size := he₆
  refine wpAny_setField_rec he₆ (by simp) fun h₇ he₇ hs₇ => ?_
  replace hs₇ : Heap.SameBut e h₆ h₇ := hs₇
  replace he₇ : IsEnumOut h₇ e it ((i : Int) + 1) x hp.objs.size := he₇
  have hk₇ : ∀ b o, b ≠ e → h₄.get? b = some o → h₇.get? b = some o := fun b o hbe hb => hs₇.extBut b o hbe (hs₆.extBut b o hbe (hs₅.extBut b o hbe hb))
  obtain ⟨o, ho, hr⟩ := hit₁
  exact wpAny_bind (wpAny_letGo (wpAny_pure ⟨_, rfl, wpAny_pure (hQ h₇ he₇ ⟨o, hk₇ _ _ (Ne.symm hne) (hk₄ _ _ (Ne.symm hne) ho), hr⟩ (hk₇ _ _ (Nat.ne_of_gt hel) ht₄)
    fun b o hbe hbi hb => hk₇ b o hbe (hk₄ b o hbe (hs₁.extBut b o hbi hb)))⟩))

theorem enumT_end {e it l : Addr} {i : Nat} {items : Array Value} {old : Value} {Q : Option Value → Shared → Prop} {E : Value → Shared → Prop} (hh : A.handled = none)
    (he : IsEnum s.heap e it i old) (hit : s.heap.IsTupleIter it l i) (hl : s.heap.IsTuple l items) (hx : items[i]? = none)
    (hQ : ∀ h', Heap.ExtBut it s.heap h' → Q none { s with heap := h' }) : wpAny (model g.prog g.w) A (pyNext (.ref e)) Q E s := by
  have hT : s.TypeIs (.ref e) "enumerate" := ⟨_, he, rfl⟩
  unfold pyNext
  refine wpAny_bind (wpAny_attempt (wpAny_callSpecial?_slot (name := Str.ofString "__next__") hT F.slot_enumerate_next
    (wpAny_call_entry F.slot_enumerate_next hT F.entry_enumerate_next ?_ (F.args_enumerate_next_1 _))))
  show wpAny _ _ (field (.ref e) 2 >>= _) _ _ _
  refine wpAny_bind (wpAny_field he rfl (x := .ref it) rfl ?_)
  refine wpAny_bind (nextOf_tuple_end hh hit hl hx fun h' x he' hx' => ?_)
  obtain ⟨o, ho, hc⟩ := hx'
  refine wpAny_bind (wpAny_isInstance (T := "StopIteration") (b := true) ⟨o, ho, hc⟩ isSubtype_stop ?_)
  exact wpAny_pure (hQ _ he')

inductive ItEnumT (g : GG) (e it : Addr) (vs : List V) (rest : List V) (ρ : List Addr) (h : Heap) : Prop
  | mk (h1 : it ∉ ρ ∧ g.base.get? it = none) (h2 : e ∉ ρ ∧ g.base.get? e = none) (hne : e ≠ it) (a : Addr) (us : List Value) (i : Nat) (old : Value) (h3 : TupAt h a us) (h4 : RepVs g ρ h vs us) (h5 : h.IsTupleIter it a i) (he : IsEnum h e it (i : Int) old) (h6 : rest = enumL i (vs.drop i)) : ItEnumT g e it vs rest ρ h

theorem IsIt.enumT (e it : Addr) (vs : List V) : IsIt g (.ref e) (fun b => b = e ∨ b = it) (fun _ => True) true (ItEnumT g e it vs) where
  apart := fun rest ρ h ⟨h1, h2, hne, a, us, i, old, _, _, ⟨o, ho, hc, hd⟩, he, h5⟩ => own2 h1 h2 ho (by simp [isImm, hc, hd]) he (by simp [isImm])
  live := fun rest ρ h ⟨_, _, _, a, us, i, old, _, _, ⟨o, ho, _⟩, he, _⟩ b hb => by rcases hb with rfl | rfl <;> first | exact ⟨_, he⟩ | exact ⟨_, ho⟩
  self := fun A rest ρ s Q ⟨_, _, _, a, us, i, old, _, _, _, he, _⟩ hq => wpAny_pyIter_enum he hq
  keep := fun X ρ s s' ρ' rest ⟨h1, h2, hne, a, us, i, old, h3, h3', ⟨o, ho, hc, hd⟩, he, h5⟩ S hX =>
    ⟨⟨S.notIn ho h1.1, h1.2⟩, ⟨S.notIn he h2.1, h2.2⟩, hne, a, us, i, old, h3.grow S.imm, h3'.step S, ⟨o, S.keep _ _ ho h1.1 (hX it (.inr rfl)), hc, hd⟩, S.keep _ _ he h2.1 (hX e (.inl rfl)), h5⟩
  next := fun A ρ σ s v rest tgt R S hsrc ⟨h1, h2, hne, a, us, i, old, h3, h3', h4, he, h5⟩ ht htt => by
    obtain ⟨o, ho, hc, hd⟩ := id h4
    have hi : ∃ w r, vs.drop i = w :: r := by
      cases hdr : vs.drop i with
      | nil => rw [hdr] at h5; cases h5
      | cons w r => exact ⟨w, r, rfl⟩
    obtain ⟨w, r, hdr⟩ := hi
    obtain ⟨hv, hrest⟩ := drop_cons hdr.symm
    rw [hdr] at h5
    injection h5 with h5 h6
    subst h5
    obtain ⟨u, hu, hru⟩ := h3'.get hv
    have ap := own2 (ρ := ρ) (h := s.heap) h1 h2 ho (by simp [isImm, hc, hd]) he (by simp [isImm])
    have hil : it < s.heap.objs.size := Heap.lt_size ho
    have hel : e < s.heap.objs.size := Heap.lt_size he
    refine enumT_item he h4 h3.is (x := u) (by simpa using hu) hne fun h' heo hit htup hkeep => ⟨_, rfl, ?_⟩
    have tt := htt rfl
    cases tgt with
    | Tuple elts x1 pos =>
      refine wpAny_letOwnedTupleGo_enum (s := { s with heap := h', toks := s.toks + 1 }) heo fun h'' heo' hs' => ?_
      have hkk : ∀ b o, s.heap.get? b = some o → ¬ (b = e ∨ b = it) → h''.get? b = some o := fun b o eo hn => (hs'.2 b fun q => hn (.inl q)).trans (hkeep b o (fun q => hn (.inl q)) (fun q => hn (.inr q)) eo)
      have hit' : h''.IsTupleIter it a (i + 1) := by
        obtain ⟨o', ho', r'⟩ := hit
        exact ⟨o', (hs'.2 it (Ne.symm hne)).trans ho', r'⟩
      have T : Step g (fun b => b = e ∨ b = it) ρ s { s with heap := h'', toks := s.toks + 1 } ρ := Step.keepBut ap hkk fun b q _ _ => by
        rcases q with rfl | rfl
        · exact ⟨_, heo'⟩
        · obtain ⟨o', ho', _⟩ := hit'; exact ⟨o', ho'⟩
      refine ⟨T, S.keepBut ap hkk, ?_, h1, h2, hne, a, us, i + 1, _, h3.grow T.imm, h3'.step T, hit', by exact_mod_cast heo', ?_⟩
      · exact ⟨_, [.int i s.toks, u], rfl, ⟨0, (hs'.2 _ (Nat.ne_of_gt hel)).trans htup⟩, _, _, rfl, ⟨_, rfl⟩, _, _, rfl, hru.step T, rfl⟩
      · rw [h6, hrest]
    | _ => cases tt
  done := fun A ρ σ s R S hsrc ⟨h1, h2, hne, a, us, i, old, h3, h3', h4, he, h5⟩ => by
    obtain ⟨o, ho, hc, hd⟩ := id h4
    have hn : vs[i]? = none := by
      cases hdr : vs.drop i with
      | nil => exact drop_nil hdr.symm
      | cons w r => rw [hdr] at h5; cases h5
    have ap := own2 (ρ := ρ) (h := s.heap) h1 h2 ho (by simp [isImm, hc, hd]) he (by simp [isImm])
    refine enumT_end R.hh he h4 h3.is (by rw [List.getElem?_eq_none_iff] at hn; simp [h3'.length]; exact hn) fun h' hk => ⟨rfl, ⟨⟨h', s.toks, rfl⟩, fun b o e' hn' => hk b o (fun q => hn' (.inr q)) e'⟩, S.keepBut ap fun b o e' hn' => hk b o (fun q => hn' (.inr q)) e'⟩
end
end Mini
end

section
namespace Mini
open PySem PySem.SeqAt PyProof.Rows

theorem Room.small' {k : Nat} {A : Around} (r : Room k A) : A.units + 60 < cLine := by have := r.small; lia

noncomputable def Xenv (names : List (Str × NameKind)) (env : Env) : Addr → Prop := fun b => b = env.locals ∨ ∃ x, (x, NameKind.cell) ∈ names ∧ env.cells.lookup x = some b

noncomputable def lvSet (lv : LV) (i : Nat) (v : V) : LV := lv.set i (some v)
noncomputable abbrev TDen := V → LV → Store → Option (LV × Store)

noncomputable def Xloc (env : Env) : Addr → Prop := fun b => b = env.locals
inductive EPost (X : Addr → Prop) (g : GG) (names : List (Str × NameKind)) (env : Env) (ρ : List Addr) (s : Shared) (lv' : LV) (σ' : Store) (s' : Shared) : Prop
  | mk (ρ' : List Addr) (T : Step g X ρ s s' ρ') (S : Sim g ρ' σ' s'.heap) (e : EnvOk g names env ρ' lv' s'.heap) : EPost X g names env ρ s lv' σ' s'

noncomputable def TE (Xf : Env → Addr → Prop) (g : GG) (names : List (Str × NameKind)) (k : Nat) (t : Expr) (m : TDen) : Prop :=
  ∀ (A : Around) (env : Env) (ρ : List Addr) (lv : LV) (σ : Store) (s : Shared) (v : V) (u : Value) (lv' : LV) (σ' : Store), Room k A → EnvOk g names env ρ lv s.heap → Sim g ρ σ s.heap → RepV g ρ s.heap v u → m v lv σ = some (lv', σ') →
    wpAny (model g.prog g.w) A (assign t env u) (fun _ => EPost (Xf env) g names env ρ s lv' σ') noE s

section
variable {Xf : Env → Addr → Prop} {g : GG} {X : Addr → Prop} {ρ ρ₁ : List Addr} {σ σ₁ : Store} {s s₁ s₂ : Shared} {A : Around} {h h' : Heap} {names : List (Str × NameKind)} {k : Nat} {env : Env} {lv lv₁ : LV}

theorem EPost.of (S : Step g noX ρ s s₁ ρ₁) (P : Sim g ρ₁ σ₁ s₁.heap) (e : EnvOk g names env ρ lv s.heap) : EPost X g names env ρ s lv σ₁ s₁ :=
  ⟨ρ₁, S.mono fun _ h => h.elim, P, e.step' S⟩
theorem EPost.mono {Y : Addr → Prop} (P : EPost Y g names env ρ s lv σ s₁) (h : ∀ b, Y b → X b) : EPost X g names env ρ s lv σ s₁ := by
  obtain ⟨ρ', S', P', E'⟩ := P; exact ⟨ρ', S'.mono h, P', E'⟩
theorem EPost.trans (S : Step g X ρ s s₁ ρ₁) (P : EPost X g names env ρ₁ s₁ lv σ s₂) : EPost X g names env ρ s lv σ s₂ := by
  obtain ⟨ρ', S', P', E'⟩ := P; exact ⟨ρ', S.trans S', P', E'⟩
theorem EPost.trans' (S : Step g noX ρ s s₁ ρ₁) (P : EPost X g names env ρ₁ s₁ lv σ s₂) : EPost X g names env ρ s lv σ s₂ := P.trans (S.mono fun _ h => h.elim)

theorem lvGet_set {i j : Nat} {v : V} (hi : i < lv.length) : lvGet (lvSet lv i v) j = if i = j then some v else lvGet lv j := by
  unfold lvGet lvSet
  rw [List.getD_eq_getElem?_getD, List.getD_eq_getElem?_getD, List.getElem?_set]
  by_cases q : i = j
  · subst q; simp [hi]
  · simp [q]

theorem name_inj {names : List (Str × NameKind)} (hn : (names.map (·.1)).Nodup) {i j : Nat} {x : Str} {k k' : NameKind} (hi : names[i]? = some (x, k)) (hj : names[j]? = some (x, k')) : i = j := by
  have h1 : (names.map (·.1))[i]? = some x := by rw [List.getElem?_map, hi]; rfl
  have h2 : (names.map (·.1))[j]? = some x := by rw [List.getElem?_map, hj]; rfl
  have hl : i < (names.map (·.1)).length := (List.getElem?_eq_some_iff.mp h1).1
  exact (List.getElem?_inj hl hn).mp (h1.trans h2.symm)

theorem notImm_ns {L : Addr} {m : Str → Option Value} (h1 : h.Ns L m) : ∃ o, h.get? L = some o ∧ ¬ isImm o := by
  obtain ⟨o, es, ep, ho, hd, hr⟩ := h1
  refine ⟨o, ho, ?_⟩
  rintro (⟨_, _, _, q⟩ | ⟨_, _, q⟩) <;> simp_all
theorem notImm_cell {c : Addr} {ov : Option Value} (h1 : h.IsCell c ov) : ∃ o, h.get? c = some o ∧ ¬ isImm o := by
  obtain ⟨o, ho, hd⟩ := h1
  refine ⟨o, ho, ?_⟩
  rintro (⟨_, _, _, q⟩ | ⟨_, _, q⟩) <;> simp_all

theorem EnvOk.setLocal (e : EnvOk g names env ρ lv s.heap) (S : Sim g ρ σ s.heap) {m : Str → Option Value} (hm : s.heap.Ns env.locals m) (hv : ∀ (i : Nat) (x : Str), names[i]? = some (x, .local) → RepO g ρ s.heap (lvGet lv i) (m x))
    {i : Nat} {x : Str} {v : V} {u : Value} {tk : Nat} (hi : names[i]? = some (x, .local)) (hr : RepV g ρ s.heap v u) (hns : h'.Ns env.locals (fun y => if y = x then some u else m y)) (hs : Heap.SameBut env.locals s.heap h') :
    EPost (Xloc env) g names env ρ s (lvSet lv i v) σ { s with heap := h', toks := tk } := by
  obtain ⟨oL, hoL, hiL⟩ := notImm_ns hm
  obtain ⟨oL', hoL', _⟩ := notImm_ns hns
  have keep : ∀ b o, b ≠ env.locals → s.heap.get? b = some o → h'.get? b = some o := fun b o hn e => (hs.2 b hn).trans e
  have T : Step g (fun b => b = env.locals) ρ s { s with heap := h', toks := tk } ρ := Step.but hoL hoL' hiL e.fresh.1 rfl keep
  have S' : Sim g ρ σ h' := S.but e.fresh.2 hoL hiL e.fresh.1 keep
  have hil : i < lv.length := by rw [e.len]; exact (List.getElem?_eq_some_iff.mp hi).1
  refine ⟨ρ, T, S', ⟨e.hnames, e.kind, e.globals, e.builtins, e.nodup, e.plain, by simp [lvSet, e.len], e.fresh, ⟨_, hns, fun j y hj => ?_⟩, fun j y kd hj hk => ?_, fun y c hc => ?_, e.apart⟩⟩
  · rw [lvGet_set hil]
    by_cases q : y = x
    · subst q
      rw [name_inj e.nodup hi hj, if_pos rfl, if_pos rfl]
      exact hr.step T
    · rw [if_neg q, if_neg (by rintro rfl; rw [hi] at hj; cases hj; exact q rfl)]
      exact (hv j y hj).step T
  · rw [lvGet_set hil, if_neg (by rintro rfl; rw [hi] at hj; cases hj; rcases hk with h | h <;> cases h)]
    obtain ⟨c, ov, h1, h2, h3⟩ := e.cellAt j y kd hj hk
    have := e.cellsOk y c h1
    exact ⟨c, ov, h1, T.isCell this.2.1 this.2.2.1 h2, h3.step T⟩
  · obtain ⟨h1, h2, h3, ov, h4⟩ := e.cellsOk y c hc
    exact ⟨h1, h2, h3, ov, T.isCell h2 h3 h4⟩

theorem EnvOk.setCell (e : EnvOk g names env ρ lv s.heap) (S : Sim g ρ σ s.heap) {i : Nat} {x : Str} {v : V} {u : Value} {tk : Nat} {c : Addr} {ov : Option Value} (hi : names[i]? = some (x, .cell)) (hc : env.cells.lookup x = some c) (hov : s.heap.IsCell c ov) (hr : RepV g ρ s.heap v u)
    (hns : h'.IsCell c (some u)) (hs : Heap.SameBut c s.heap h') :
    EPost (Xenv names env) g names env ρ s (lvSet lv i v) σ { s with heap := h', toks := tk } := by
  obtain ⟨oL, hoL, hiL⟩ := notImm_cell hov
  obtain ⟨oL', hoL', _⟩ := notImm_cell hns
  obtain ⟨hb, hρ, hne, _⟩ := e.cellsOk x c hc
  have keep : ∀ b o, b ≠ c → s.heap.get? b = some o → h'.get? b = some o := fun b o hn e => (hs.2 b hn).trans e
  have T : Step g (fun b => b = c) ρ s { s with heap := h', toks := tk } ρ := Step.but hoL hoL' hiL hb rfl keep
  have S' : Sim g ρ σ h' := S.but hρ hoL hiL hb keep
  have hil : i < lv.length := by rw [e.len]; exact (List.getElem?_eq_some_iff.mp hi).1
  obtain ⟨m, hm, hv⟩ := e.ns
  refine ⟨ρ, T.mono fun b hb => .inr ⟨x, List.mem_of_getElem? hi, by rw [hb]; exact hc⟩, S', ⟨e.hnames, e.kind, e.globals, e.builtins, e.nodup, e.plain, by simp [lvSet, e.len], e.fresh, ⟨m, T.Ns e.fresh.2 (Ne.symm hne) hm, fun j y hj => ?_⟩, fun j y kd hj hk => ?_, fun y c' hc' => ?_, e.apart⟩⟩
  · rw [lvGet_set hil, if_neg (by rintro rfl; rw [hi] at hj; cases hj)]
    exact (hv j y hj).step T
  · rw [lvGet_set hil]
    by_cases q : i = j
    · subst q
      rw [hi] at hj; cases hj
      rw [if_pos rfl]
      exact ⟨c, some u, hc, hns, hr.step T⟩
    · rw [if_neg q]
      obtain ⟨c', ov', h1, h2, h3⟩ := e.cellAt j y kd hj hk
      have hne' : c' ≠ c := by
        rintro rfl
        have := e.apart _ _ _ h1 hc
        subst this
        exact q (name_inj e.nodup hi hj)
      exact ⟨c', ov', h1, T.isCell (e.cellsOk y c' h1).2.1 hne' h2, h3.step T⟩
  · obtain ⟨h1, h2, h3, ov', h4⟩ := e.cellsOk y c' hc'
    by_cases q : c' = c
    · subst q; exact ⟨h1, h2, h3, _, hns⟩
    · exact ⟨h1, h2, h3, ov', T.isCell h2 q h4⟩

noncomputable def T.var (i : Nat) : TDen := fun v lv σ => some (lvSet lv i v, σ)

theorem bindName_loc {i : Nat} {x : Str} {v : V} {u : Value} (hi : names[i]? = some (x, .local)) (e : EnvOk g names env ρ lv s.heap) (S : Sim g ρ σ s.heap) (hr : RepV g ρ s.heap v u) :
    wpAny (model g.prog g.w) A (bindName env x u) (fun _ => EPost (Xloc env) g names env ρ s (lvSet lv i v) σ) noE s := by
  refine wpAny_bindName ?_
  obtain ⟨m, hm, hv⟩ := e.ns
  refine wpAny_storeName_local (e.kindOf hi) hm (fun h' hns hs => e.setLocal S hm hv hi hr hns hs) ?_
  rw [e.kind]; rfl

theorem bindName_V {i : Nat} {x : Str} {kd : NameKind} {v : V} {u : Value} (hi : names[i]? = some (x, kd)) (hk : kd = .local ∨ kd = .cell) (e : EnvOk g names env ρ lv s.heap) (S : Sim g ρ σ s.heap) (hr : RepV g ρ s.heap v u) :
    wpAny (model g.prog g.w) A (bindName env x u) (fun _ => EPost (Xenv names env) g names env ρ s (lvSet lv i v) σ) noE s := by
  rcases hk with rfl | rfl
  · exact wpAny_mono (bindName_loc hi e S hr) (fun _ _ P => P.mono fun b hb => .inl hb) noE_mono
  · refine wpAny_bindName ?_
    obtain ⟨c, ov, h1, h2, h3⟩ := e.cellAt i x _ hi (.inl rfl)
    exact wpAny_storeName_cell e.kind (e.kindOf hi) h1 h2 fun h' hns hs => e.setCell (tk := s.toks) S hi h1 h2 hr hns hs

theorem TE.var {i : Nat} {x : Str} {kd : NameKind} {pos : Pos} (hi : names[i]? = some (x, kd)) (hk : kd = .local ∨ kd = .cell) : TE (Xenv names) g names k (.Name x pos) (T.var i) := by
  intro A env ρ lv σ s v u lv' σ' R e S hr hm
  cases hm
  show wpAny _ A (do standAt pos; bindName env x u) _ noE s
  exact wpAny_bind (wpAny_standAt (bindName_V hi hk e S hr))

theorem TE.loc {i : Nat} {x : Str} {pos : Pos} (hi : names[i]? = some (x, .local)) : TE Xloc g names k (.Name x pos) (T.var i) := by
  intro A env ρ lv σ s v u lv' σ' R e S hr hm
  cases hm
  show wpAny _ A (do standAt pos; bindName env x u) _ noE s
  exact wpAny_bind (wpAny_standAt (bindName_loc hi e S hr))

noncomputable abbrev TsDen := List V → LV → Store → Option (LV × Store)
noncomputable def TsE (Xf : Env → Addr → Prop) (g : GG) (names : List (Str × NameKind)) (k : Nat) (ts : List Expr) (m : TsDen) : Prop :=
  ∀ (A : Around) (env : Env) (ρ : List Addr) (lv : LV) (σ : Store) (s : Shared) (vs : List V) (us : List Value) (lv' : LV) (σ' : Store), Room k A → EnvOk g names env ρ lv s.heap → Sim g ρ σ s.heap → RepVs g ρ s.heap vs us → m vs lv σ = some (lv', σ') →
    wpAny (model g.prog g.w) A (assignInOrder ((assignEach ts env).map (·.2)) us) (fun _ => EPost (Xf env) g names env ρ s lv' σ') noE s
noncomputable def Ts.nil : TsDen := fun vs lv σ => match vs with | [] => some (lv, σ) | _ => none
noncomputable def Ts.cons (t : TDen) (r : TsDen) : TsDen := fun vs lv σ => match vs with
  | v :: vs => match t v lv σ with
    | some (lv₁, σ₁) => r vs lv₁ σ₁
    | none => none
  | [] => none

theorem TsE.nil : TsE Xf g names k [] Ts.nil := by
  intro A env ρ lv σ s vs us lv' σ' R e S hr hm
  unfold Ts.nil at hm
  split at hm
  · cases hm; cases hr
    exact wpAny_pure (EPost.of (Step.refl ..) S e)
  · cases hm
theorem assignEach_plain {t : Expr} {r : List Expr} (h : notStar t = true) : assignEach (t :: r) env = (false, assign t env) :: assignEach r env := by
  cases t <;> first | rfl | (cases h; done)
theorem assignEach_len : ∀ ts : List Expr, (assignEach ts env).length = ts.length
  | [] => rfl
  | t :: r => by cases t <;> exact congrArg (· + 1) (assignEach_len r)
theorem assignEach_star : ∀ {ts : List Expr}, ts.all notStar = true → (assignEach ts env).findIdx? (·.1) = none
  | [], _ => rfl
  | t :: r, h => by
    rw [List.all_cons, Bool.and_eq_true] at h
    rw [assignEach_plain h.1, List.findIdx?_cons, assignEach_star h.2]
    rfl
set_option tactic.hygienic true in
theorem TsE.cons {t : Expr} {r : List Expr} {mt : TDen} {mr : TsDen} (ht : TE Xf g names k t mt) (hr : TsE Xf g names k r mr) (hs : notStar t = true := by rfl) : TsE Xf g names k (t :: r) (Ts.cons mt mr) := by
  intro A env ρ lv σ s vs us lv' σ' R e S hrep hm
  unfold Ts.cons at hm
  split at hm
  · rename_i v vs
    split at hm
    · rename_i lv₁ σ₁ h1
      obtain ⟨u, us', rfl, hu, hus⟩ := hrep
      rw [assignEach_plain hs]
      show wpAny _ _ (do holding us' (assign t env u); assignInOrder ((assignEach r env).map (·.2)) us') _ _ _
      have h1' := ht A env ρ lv σ s v u lv₁ σ₁ R e S hu h1
      refine wpAny_bind (wpAny_holding (wpAny_mono h1' (fun _ s₁ P => ?_) noE_mono))
      obtain ⟨ρ₁, S₁, P₁, e₁⟩ := P
      exact wpAny_mono (hr A env ρ₁ lv₁ σ₁ s₁ vs us' lv' σ' R e₁ P₁ (hus.step S₁) hm) (fun _ _ P => P.trans S₁) noE_mono
    · cases hm
  · cases hm

noncomputable def T.tup (n : Nat) (m : TsDen) : TDen := fun v lv σ => match v with
  | .tup vs => if vs.length = n then m vs lv σ else none
  | _ => none

theorem extBut_step (hk : Heap.ExtBut s.heap.objs.size s.heap h') {tk : Nat} : Step g X ρ s { s with heap := h', toks := tk } ρ ∧ ∀ b o, s.heap.get? b = some o → h'.get? b = some o := by
  have : ∀ b o, s.heap.get? b = some o → h'.get? b = some o := fun b o e => hk b o (Nat.ne_of_lt (Heap.lt_size e)) e
  exact ⟨Step.ext this, this⟩

set_option tactic.hygienic true in
theorem TE.tup {ts : List Expr} {m : TsDen} {c : Nat} {pos : Pos} (hts : TsE Xf g names k ts m) (hst : ts.all notStar = true := by rfl) : TE Xf g names k (.Tuple ts c pos) (T.tup ts.length m) := by
  intro A env ρ lv σ s v u lv' σ' R e S hr hm
  unfold T.tup at hm
  split at hm
  · split at hm
    · rename_i vs hlen
      obtain ⟨a, us, rfl, ht, hrep⟩ := hr
      refine wpAny_assign_Tuple R.hh ht.is (by rw [assignEach_len]; simp [hrep.length, hlen]) (assignEach_star hst) fun h' hk => ?_
      obtain ⟨T, hk'⟩ := extBut_step (g := g) (X := noX) (ρ := ρ) (tk := s.toks) hk
      exact wpAny_mono (hts A env ρ lv σ { s with heap := h' } vs us lv' σ' R (e.step' T) (S.ext hk') (hrep.step T) hm) (fun _ _ P => P.trans' T) noE_mono
    · cases hm
  · cases hm

noncomputable def storeItem (l : Nat) (k v : V) (σ : Store) : Option Store := match σ[l]? with
  | some (.dict es) => if V.key 6 k && decide (es.length < LIM) then some (σ.set l (.dict (dSet es k v))) else none
  | some (.list vs) => match k with
    | .int i => if 0 ≤ i ∧ i.toNat < vs.length then some (σ.set l (.list (vs.set i.toNat v))) else none
    | _ => none
  | none => none

theorem RepVs.set : ∀ {vs : List V} {us : List Value} {i : Nat} {v : V} {u : Value}, RepVs g ρ h vs us → RepV g ρ h v u → RepVs g ρ h (vs.set i v) (us.set i u)
  | [], _, _, _, _, e, _ => by subst e; simp [RepVs]
  | _ :: _, _, 0, _, _, e, hv => by obtain ⟨u', us', rfl, _, hr⟩ := e; exact ⟨_, _, rfl, hv, hr⟩
  | _ :: _, _, i + 1, _, _, e, hv => by obtain ⟨u', us', rfl, h1, hr⟩ := e; exact ⟨_, _, rfl, h1, hr.set hv⟩

set_option tactic.hygienic true in
theorem storeItem_V {l : Nat} {a : Addr} {k v : V} {u x : Value} {σ' : Store} (hu : A.units + 60 < cLine) (S : Sim g ρ σ s.heap) (ha : ρ[l]? = some a) (hku : RepV g ρ s.heap k u) (hvx : RepV g ρ s.heap v x) (hm : storeItem l k v σ = some σ') :
    wpAny (model g.prog g.w) A (setItem (.ref a) u x) (fun _ s' => Step g noX ρ s s' ρ ∧ Sim g ρ σ' s'.heap) noE s := by
  unfold storeItem at hm
  split at hm
  · rename_i es hl
    split at hm
    · rename_i hc
      rw [Bool.and_eq_true, decide_eq_true_iff] at hc
      cases hm
      exact setItem_dict_V (by lia) S hl ha hc.1 hku hvx hc.2 fun h' tk oa h1 h2 h3 => ⟨Step.set S ha h1 h2, h3⟩
    · cases hm
  · rename_i vs hl
    split at hm
    · rename_i i
      split at hm
      · rename_i hc
        cases hm
        obtain ⟨t, rfl⟩ := hku
        obtain ⟨hlim, us, n, ho, hr⟩ := S.list hl ha
        have hlen := hr.length
        have hfit := fitsIndex_of hc.1 (k := i) (by have : LIM = 1000000 := rfl; have := hc.2; lia)
        have hL : s.heap.IsList a (List.toArray us) := isList_of ho
        unfold setItem
        try with_reducible refine wpAny_holding ?_
        refine wpAny_bind (wpAny_sequenceKey hL.typeIs (by decide) ?_)
        refine wpAny_bind (wpAny_callSpecial?_slot (name := Str.ofString "__setitem__") hL.typeIs slot_list_setitem
          (wpAny_call_entry slot_list_setitem hL.typeIs entry_list_setitem ?_ (args_list_setitem _ _ _)))
        show wpAny _ _ (Builtin.List.listSubscript? (.int i t) >>= _) _ _ s
        refine wpAny_bind (wpAny_listSubscript_int hfit ?_)
        clear hfit
        obtain ⟨j, rfl⟩ := Int.eq_ofNat_of_zero_le hc.1
        have hj : j < us.length := by have := hc.2; simp at this; lia
        have hx' : (List.toArray us)[j]? = some us[j] := by simp [hj]
        show wpAny _ _ ((seqItemAt a j >>= fun r => pure (r.map (j, ·))) >>= _) _ _ s
        refine wpAny_bind (wpAny_bind (wpAny_seqItemAt ho rfl (wpAny_pure ?_)))
        rw [hx']
        show wpAny _ _ (setSeqItemAt a j x >>= _) _ _ s
        refine wpAny_bind (wpAny_setSeqItemAt ho rfl ?_)
        have hnew : (s.heap.update a (Obj.mapSeq (·.setIfInBounds j x))).get? a = some { cls := .type "list", data := .seq (List.toArray (us.set j x)) n } := by
          refine (Heap.get?_update_self _ ho rfl).trans ?_
          simp [Obj.mapSeq]
        have G := Grow.update S ha (Obj.mapSeq (·.setIfInBounds j x))
        have fin : Step g noX ρ s { s with heap := s.heap.update a (Obj.mapSeq (·.setIfInBounds j x)) } ρ ∧ Sim g ρ (σ.set l (.list (vs.set j v))) (s.heap.update a (Obj.mapSeq (·.setIfInBounds j x))) :=
          ⟨Step.set (tk := s.toks) S ha hnew (update_other _), S.set ha (update_other _) ⟨by simpa using hlim, _, _, hnew, RepVs.set (by simpa using RepVs.grow (t := []) G hr) (by simpa using RepV.grow (t := []) G hvx)⟩⟩
        exact wpAny_pure ⟨.none, rfl, wpAny_pure fin⟩
      · cases hm
    · cases hm
  · cases hm

noncomputable def T.sub (mo mi : Den) : TDen := fun v lv σ => match mo lv σ with
  | some (.loc l, σ₁) => match mi lv σ₁ with
    | some (kv, σ₂) => (storeItem l kv v σ₂).map fun σ₃ => (lv, σ₃)
    | none => none
  | _ => none

set_option tactic.hygienic true in
theorem TE.sub {o i : Expr} {mo mi : Den} {pos : Pos} (ho : SE g names k o mo) (hi : SE g names k i mi) : TE Xf g names k (.Subscript o i pos) (T.sub mo mi) := by
  intro A env ρ lv σ s v u lv' σ' R e S hr hm
  unfold T.sub at hm
  split at hm
  · rename_i l σ₁ h1
    split at hm
    · rename_i kv σ₂ h2
      obtain ⟨σ₃, h3, h4⟩ := Option.map_eq_some_iff.mp hm
      cases h4
      rw [assign_Subscript]
      refine wpAny_bind (wpAny_holding (wpAny_mono (ho A env ρ lv σ s _ σ₁ R e S h1) (fun uo s₁ P => ?_) noE_mono))
      obtain ⟨ρ₁, T1, S1, a, rfl, ha⟩ := P
      refine wpAny_bind (wpAny_holding (wpAny_mono (hi A env ρ₁ lv σ₁ s₁ _ σ₂ R (e.step' T1) S1 h2) (fun ui s₂ P => ?_) noE_mono))
      obtain ⟨ρ₂, T2, S2, rk⟩ := P
      have ha2 : ρ₂[l]? = some a := by obtain ⟨t, rfl⟩ := T2.pre; exact pre_get ha
      refine wpAny_bind (wpAny_standAt (wpAny_bind (wpAny_holding (wpAny_mono (storeItem_V R.small' S2 ha2 rk ((hr.step T1).step T2) h3) (fun _ s₃ P => wpAny_release ?_) noE_mono))))
      exact EPost.of ((T1.trans T2).trans P.1) P.2 e
    · cases hm
  · cases hm
end
end Mini
end

section
namespace Mini
open PySem PySem.SeqAt PyProof.Rows

noncomputable def esBeq : List (V × V) → List (V × V) → Bool
  | [], l => match l with | [] => true | _ :: _ => false
  | p :: r, l => match l with | t :: q => V.beq p.1 t.1 && V.beq p.2 t.2 && esBeq r q | [] => false
theorem esBeq_iff : ∀ a b : List (V × V), esBeq a b = true ↔ a = b
  | [], b => by cases b <;> simp [esBeq]
  | (a, b) :: r, q => by
    cases q with
    | nil => simp [esBeq]
    | cons p q => obtain ⟨c, d⟩ := p; simp [esBeq, V.beq_iff, esBeq_iff r q]
noncomputable def MObj.beq : MObj → MObj → Bool
  | .list a, o => match o with | .list b => V.beqs a b | .dict _ => false
  | .dict a, o => match o with | .dict b => esBeq a b | .list _ => false
theorem MObj.beq_iff : ∀ a b : MObj, MObj.beq a b = true ↔ a = b
  | .list a, b => by cases b <;> simp [MObj.beq, V.beqs_iff]
  | .dict a, b => by cases b <;> simp [MObj.beq, esBeq_iff]
noncomputable abbrev Src := Option (Nat × MObj)
noncomputable def srcOk : Src → Store → Bool
  | none, _ => true
  | some (l, o), σ => match σ[l]? with
    | some o' => MObj.beq o' o
    | none => false
theorem srcOk_iff {l : Nat} {o : MObj} {σ : Store} : srcOk (some (l, o)) σ = true ↔ σ[l]? = some o := by
  show (match σ[l]? with | some o' => MObj.beq o' o | none => false) = true ↔ _
  cases h : σ[l]? with
  | none => simp
  | some o' => show MObj.beq o' o = true ↔ _; rw [MObj.beq_iff]; simp

noncomputable abbrev ItDen := LV → Store → Option ((Src × List V) × Store)
inductive ItP (g : GG) (tt : Bool) (ρ : List Addr) (s : Shared) (src : Src) (vs : List V) (σ' : Store) (it : Value) (s₂ : Shared) : Prop
  | mk (ρ₂ : List Addr) (own : Addr → Prop) (P : List V → List Addr → Heap → Prop) (T : Step g noX ρ s s₂ ρ₂) (S : Sim g ρ₂ σ' s₂.heap) (I : IsIt g it own (fun σ => srcOk src σ = true) tt P) (hP : P vs ρ₂ s₂.heap) (n : ∀ b, own b → s.heap.get? b = none) : ItP g tt ρ s src vs σ' it s₂
noncomputable def ItE (g : GG) (names : List (Str × NameKind)) (k : Nat) (tt : Bool) (e : Expr) (m : ItDen) : Prop :=
  ∀ (A : Around) (env : Env) (ρ : List Addr) (lv : LV) (σ : Store) (s : Shared) (src : Src) (vs : List V) (σ' : Store), Room k A → EnvOk g names env ρ lv s.heap → Sim g ρ σ s.heap → m lv σ = some ((src, vs), σ') →
    wpAny (model g.prog g.w) A (eval e env) (fun x s₁ => wpAny (model g.prog g.w) A (pyIter x) (ItP g tt ρ s src vs σ') noE s₁) noE s

section
variable {Xf : Env → Addr → Prop} {g : GG} {X own : Addr → Prop} {ρ ρ₁ : List Addr} {σ σ₁ : Store} {s s₁ s₂ : Shared} {A : Around} {h h' : Heap} {names : List (Str × NameKind)} {k : Nat} {env : Env} {lv lv₁ : LV}

theorem IsIt.mono {it : Value} {own : Addr → Prop} {src src' : Store → Prop} {tt tt' : Bool} {P : List V → List Addr → Heap → Prop} (I : IsIt g it own src tt P) (h : ∀ σ, src' σ → src σ) (ht : tt = true → tt' = true) : IsIt g it own src' tt' P :=
  ⟨I.apart, I.live, I.self, I.keep, fun A ρ σ s v rest tgt R S hs hP h1 h2 => I.next A ρ σ s v rest tgt R S (h σ hs) hP h1 fun q => h2 (ht q), fun A ρ σ s R S hs hP => I.done A ρ σ s R S (h σ hs) hP⟩

theorem Step.notLive (S : Step g X ρ s s₁ ρ₁) {b : Addr} (hb : s₁.heap.get? b = none) : s.heap.get? b = none := by
  cases q : s.heap.get? b with
  | none => rfl
  | some o => obtain ⟨o', e⟩ := S.live b o q; rw [hb] at e; cases e

theorem Sim.newNotIn (S : Sim g ρ σ h) {b : Addr} (hb : h.get? b = none) : b ∉ ρ ∧ g.base.get? b = none := by
  refine ⟨fun hi => ?_, ?_⟩
  · obtain ⟨o, ho, _⟩ := S.mem hi; rw [hb] at ho; cases ho
  · cases q : g.base.get? b with
    | none => rfl
    | some o => have := S.base b o q; rw [hb] at this; cases this

noncomputable def walkV (v : V) (σ : Store) : Option (Src × List V) := match v with
  | .loc l => match σ[l]? with
    | some (.list vs) => some (some (l, .list vs), vs)
    | some (.dict es) => some (some (l, .dict es), es.map (·.1))
    | none => none
  | .tup vs => some (none, vs)
  | .rng a b => if -1000000 < a ∧ a < 1000000 ∧ -1000000 < b ∧ b < 1000000 then some (none, rngL a (b - a).toNat) else none
  | _ => none
noncomputable def It.val (m : Den) : ItDen := fun lv σ => match m lv σ with
  | some (v, σ₁) => (walkV v σ₁).map fun p => (p, σ₁)
  | none => none

theorem rangeSize1 (a b : Int) : Builtin.Range.rangeSize a b 1 = ((b - a).toNat : Int) := by
  unfold Builtin.Range.rangeSize
  simp
  split <;> omega

set_option tactic.hygienic true in
theorem ItE.val {e : Expr} {m : Den} (he : SE g names k e m) : ItE g names k false e (It.val m) := by
  intro A env ρ lv σ s src vs σ' R en S hm
  unfold It.val at hm
  split at hm
  · rename_i v σ₁ h1
    obtain ⟨p, hp, e2⟩ := Option.map_eq_some_iff.mp hm
    cases e2
    refine wpAny_mono (he A env ρ lv σ s v σ' R en S h1) (fun u s₁ P => ?_) noE_mono
    obtain ⟨ρ₁, T, S₁, ru⟩ := P
    have hnew := noNew s₁.heap
    have hfresh : ∀ b, b = s₁.heap.objs.size → s.heap.get? b = none := fun b hb => T.notLive (hb ▸ hnew)
    obtain ⟨hn1, hn2⟩ := S₁.newNotIn hnew
    have mk : ∀ o : Obj, Step g noX ρ s { s₁ with heap := s₁.heap.push o } ρ₁ ∧ Sim g ρ₁ σ' (s₁.heap.push o) := fun o =>
      ⟨T.trans (Step.ext' fun _ _ e => Heap.get?_push_of_some _ e), S₁.ext fun _ _ e => Heap.get?_push_of_some _ e⟩
    unfold walkV at hp
    split at hp
    · rename_i l
      obtain ⟨a, rfl, ha⟩ := ru
      split at hp
      · rename_i ws hl
        cases hp
        obtain ⟨_, us, n, ho, hr⟩ := S₁.list hl ha
        refine wpAny_pyIter_list (isList_of ho) ⟨ρ₁, _, _, (mk _).1, (mk _).2, (IsIt.list l _ _).mono (fun σ => srcOk_iff.mp) id, ⟨hn1, hn2, a, 0, ha, ⟨_, Heap.get?_push_size _ rfl, rfl, rfl⟩, rfl⟩, hfresh⟩
      · rename_i es hl
        cases hp
        obtain ⟨_, _, ents, hD, hr⟩ := S₁.dict hl ha
        refine pyIter_keys (S₁.notModules ha) hD ⟨ρ₁, _, _, (mk _).1, (mk _).2, (IsIt.keys l _ es).mono (fun σ => srcOk_iff.mp) id, ⟨hn1, hn2, a, 0, ha, ⟨_, Heap.get?_push_size _ rfl, rfl, by rw [hr.length]; rfl⟩, rfl⟩, hfresh⟩
      · cases hp
    · rename_i ws
      cases hp
      obtain ⟨a, us, rfl, ht, hr⟩ := ru
      refine wpAny_pyIter_tuple ht.is ⟨ρ₁, _, _, (mk _).1, (mk _).2, (IsIt.tup _ _).mono (fun σ _ => trivial) id, ⟨hn1, hn2, a, us, 0, ht.grow (g := g) (fun b o e _ => Heap.get?_push_of_some _ e), hr.step (X := noX) (Step.ext' fun _ _ e => Heap.get?_push_of_some _ e), ⟨_, Heap.get?_push_size _ rfl, rfl, rfl⟩, rfl⟩, hfresh⟩
    · rename_i a b
      split at hp
      · rename_i hab
        cases hp
        obtain ⟨r, t, t', t'', rfl, hr⟩ := ru
        refine wpAny_pyIter_range hr ?_ ⟨ρ₁, _, _, (mk _).1, (mk _).2, (IsIt.rng _).mono (fun σ _ => trivial) id, ⟨hn1, hn2, a, (b - a).toNat, ?_, rfl⟩, hfresh⟩
        · unfold Builtin.Range.small
          rw [rangeSize1]
          have h1 : (a : Int) < 2 ^ 63 ∨ True := .inr trivial
          by_cases hlt : a < b
          · have : ((b - a).toNat : Int) = b - a := by grind
            rw [this]
            simp [Builtin.Range.rangeFitsLong]
            refine ⟨?_, ?_⟩ <;> grind
          · have : ((b - a).toNat : Int) = 0 := by grind
            rw [this]
            simp [Builtin.Range.rangeFitsLong]
            grind
        · rw [rangeSize1]; exact Heap.get?_push_size _ rfl
      · cases hp
    · cases hp
  · cases hm
end
end Mini
end

section
namespace Mini
open PySem PySem.SeqAt PyProof.Rows

section
variable {Xf : Env → Addr → Prop} {g : GG} {X own : Addr → Prop} {ρ ρ₁ : List Addr} {σ σ₁ : Store} {s s₁ s₂ : Shared} {A : Around} {h h' : Heap} {names : List (Str × NameKind)} {k : Nat} {env : Env} {lv lv₁ : LV}

noncomputable def walkE (v : V) (σ : Store) : Option (Src × List V) := match v with
  | .loc l => match σ[l]? with
    | some (.list vs) => some (some (l, .list vs), enumL 0 vs)
    | _ => none
  | .tup vs => some (none, enumL 0 vs)
  | _ => none
noncomputable def It.enum (m : Den) : ItDen := fun lv σ => match m lv σ with
  | some (v, σ₁) => (walkE v σ₁).map fun p => (p, σ₁)
  | none => none

set_option tactic.hygienic true in
theorem ItE.enum {i : Nat} {e : Expr} {m : Den} {p pos : Pos} (hi : names[i]? = some ((Str.ofString "enumerate"), .globalImplicit)) (F : BltIs g (Str.ofString "enumerate") (.type "enumerate")) (he : SE g names k e m) (hes : notStar e = true := by rfl) :
    ItE g names k true (.Call (.Name (Str.ofString "enumerate") p) [e] [] pos) (It.enum m) := by
  intro A env ρ lv σ s src vs σ' R en S hm
  unfold It.enum at hm
  split at hm
  · rename_i v σ₁ h1
    obtain ⟨q, hp, e2⟩ := Option.map_eq_some_iff.mp hm
    cases e2
    have hL : L.cons m L.nil lv σ = some ([v], σ') := by simp only [L.cons, h1, L.nil]
    have hes' : [e].all notStar = true := by simp [hes]
    refine wpAny_Call_Name_kw (PySem.Calls.Name_function_global en.kind (en.kindOf hi) (PySem.Calls.loadGlobal_builtin (by rw [en.globals]; exact baseNs S F.ns) F.no (by rw [en.builtins]; exact baseNs S F.bs) F.is ?_) (en.notDebug hi).1)
    refine PySem.callWith_type (backTo_plain hes') ?_
    refine wpAny_mono (evalArgs_SL hes' (SL.cons he SL.nil hes A env pos ρ lv σ s _ _ R en S hL)) (fun a s₁ P => ?_) noE_mono
    obtain ⟨us, rfl, ρ₁, T, S₁, r1⟩ := P
    obtain ⟨u, us', rfl, ru, hn⟩ := r1
    cases hn
    unfold walkE at hp
    split at hp
    · rename_i l
      obtain ⟨a, rfl, ha⟩ := ru
      split at hp
      · rename_i ws hl
        cases hp
        obtain ⟨_, us, n, ho, hr⟩ := S₁.list hl ha
        refine call_enumerate_list (isList_of ho) fun h' he' hit hsz hk => ?_
        have hne : s₁.heap.objs.size + 1 ≠ s₁.heap.objs.size := by grind
        have T' : Step g noX ρ s { s₁ with heap := h' } ρ₁ := T.trans (Step.ext' hk)
        have n1 := noNew s₁.heap
        have n2 : s₁.heap.get? (s₁.heap.objs.size + 1) = none := by
          cases q : s₁.heap.get? (s₁.heap.objs.size + 1) with
          | none => rfl
          | some o => exact absurd (Nat.lt_of_succ_lt (Heap.lt_size q)) (Nat.lt_irrefl _)
        refine wpAny_pyIter_enum (s := { s₁ with heap := h' }) he' ⟨ρ₁, _, _, T', S₁.ext hk, (IsIt.enum l _ s₁.heap.objs.size _).mono (fun σ => srcOk_iff.mp) id, ⟨S₁.newNotIn n1, S₁.newNotIn n2, hne, a, 0, .none, ha, hit, he', by simp⟩, ?_⟩
        rintro b (rfl | rfl)
        · exact T.notLive n2
        · exact T.notLive n1
      · cases hp
    · cases hp
      obtain ⟨a, us, rfl, ht, hr⟩ := ru
      obtain ⟨n, ho⟩ := ht
      refine call_enum_tuple ho fun h' he' hit hk => ?_
      have hne : s₁.heap.objs.size + 1 ≠ s₁.heap.objs.size := by grind
      have T1 : Step g noX ρ₁ s₁ { s₁ with heap := h' } ρ₁ := Step.ext' hk
      have n1 := noNew s₁.heap
      have n2 : s₁.heap.get? (s₁.heap.objs.size + 1) = none := by
        cases q : s₁.heap.get? (s₁.heap.objs.size + 1) with
        | none => rfl
        | some o => exact absurd (Nat.lt_of_succ_lt (Heap.lt_size q)) (Nat.lt_irrefl _)
      refine wpAny_pyIter_enum (s := { s₁ with heap := h' }) he' ⟨ρ₁, _, _, T.trans T1, S₁.ext hk, (IsIt.enumT _ s₁.heap.objs.size _).mono (fun σ _ => trivial) id, ⟨S₁.newNotIn n1, S₁.newNotIn n2, hne, a, us, 0, .none, ⟨n, hk _ _ ho⟩, hr.step T1, hit, he', by simp⟩, ?_⟩
      rintro b (rfl | rfl)
      · exact T.notLive n2
      · exact T.notLive n1
    · cases hp
  · cases hm

noncomputable def It.items (m : Den) : ItDen := fun lv σ => match m lv σ with
  | some (.loc l, σ₁) => match σ₁[l]? with
    | some (.dict es) => some ((some (l, .dict es), es.map pairV), σ₁)
    | _ => none
  | _ => none

set_option tactic.hygienic true in
theorem ItE.items {e : Expr} {m : Den} {apos pos : Pos} (he : SE g names k e m) (hline : (apos.endLine == pos.line) = true := by rfl) (hbase : ∀ env, attributeBase e (Str.ofString "items") env (eval e env) = eval e env := by intro _; rfl) :
    ItE g names k true (.Call (.Attribute e (Str.ofString "items") apos) [] [] pos) (It.items m) := by
  intro A env ρ lv σ s src vs σ' R en S hm
  unfold It.items at hm
  split at hm
  · rename_i l σ₁ h1
    split at hm
    · rename_i es hl
      cases hm
      refine wpAny_Call_method (args := []) (hbase env) (by rfl) hline F.plainAttrs_dict F.slot_dict_items (by rfl) (wpAny_mono (he A env ρ lv σ s _ _ R en S h1) (fun u s₁ P => ?_) noE_mono)
      obtain ⟨ρ₁, T, S₁, a, rfl, ha⟩ := P
      obtain ⟨t1, t2⟩ := kind_type (T := .dict) S₁ ha (by rw [hl]; rfl)
      refine ⟨t1, fun a' e => by cases e; exact t2, ?_⟩
      refine PySem.Calls.callWith_builtin (backTo_plain (es := []) rfl) ?_
      refine wpAny_mono (evalArgs_SL (es := []) (pos := pos) rfl (SL.nil A env pos ρ₁ lv σ' s₁ _ _ R (en.step' T) S₁ rfl)) (fun x s₂ P => ?_) noE_mono
      obtain ⟨us, rfl, ρ₂, T2, S₂, r2⟩ := P
      cases r2
      have ha2 : ρ₂[l]? = some a := by obtain ⟨t, rfl⟩ := T2.pre; exact pre_get ha
      obtain ⟨_, _, ents, hD, hr⟩ := S₂.dict hl ha2
      refine call_items (S₂.notModules ha2) hD ?_
      have hk1 : ∀ b o, s₂.heap.get? b = some o → (s₂.heap.push { cls := .type "dict_items", data := .fields #[.ref a] }).get? b = some o := fun b o e => Heap.get?_push_of_some _ e
      generalize hH : s₂.heap.push { cls := .type "dict_items", data := .fields #[.ref a] } = H at hk1 ⊢
      have hv : H.IsItemsView s₂.heap.objs.size a := ⟨_, hH ▸ Heap.get?_push_size _ rfl, rfl, rfl⟩
      have T3 : Step g noX ρ s { s₂ with heap := H } ρ₂ := (T.trans T2).trans (Step.ext' hk1)
      have S₃ : Sim g ρ₂ σ' H := S₂.ext hk1
      refine pyIter_items (s := { s₂ with heap := H }) hv (hk1 _ _ hD) ?_
      have hnew := noNew H
      obtain ⟨hn1, hn2⟩ := S₃.newNotIn hnew
      refine ⟨ρ₂, _, _, T3.trans (Step.ext' fun _ _ e => Heap.get?_push_of_some _ e), S₃.ext fun _ _ e => Heap.get?_push_of_some _ e, (IsIt.items l H.objs.size es).mono (fun σ => srcOk_iff.mp) id, ⟨hn1, hn2, a, 0, .none, .none, ha2, ?_, rfl⟩, fun b hb => T3.notLive (hb ▸ hnew)⟩
      rw [hr.length]; exact Heap.get?_push_size _ rfl
    · cases hm
  · cases hm
end
end Mini
end

section
namespace Mini
open PySem PySem.SeqAt PyProof.Rows

inductive F | nx | ct | rt (v : V)
noncomputable abbrev SDen := LV → Store → Option (F × LV × Store)

noncomputable def FlowIs (g : GG) (ρ : List Addr) (h : Heap) : F → Flow → Prop
  | .nx, fl => fl = .next
  | .ct, fl => fl = .cont
  | .rt v, fl => ∃ u, fl = .ret u ∧ RepV g ρ h v u

inductive SPost (g : GG) (names : List (Str × NameKind)) (env : Env) (ρ : List Addr) (s : Shared) (f : F) (lv' : LV) (σ' : Store) (fl : Flow) (s' : Shared) : Prop
  | mk (ρ' : List Addr) (T : Step g (Xenv names env) ρ s s' ρ') (S : Sim g ρ' σ' s'.heap) (e : EnvOk g names env ρ' lv' s'.heap) (h : FlowIs g ρ' s'.heap f fl) : SPost g names env ρ s f lv' σ' fl s'

noncomputable def S1 (g : GG) (names : List (Str × NameKind)) (k : Nat) (st : Stmt) (m : SDen) : Prop :=
  ∀ (A : Around) (env : Env) (ρ : List Addr) (lv : LV) (σ : Store) (s : Shared) (f : F) (lv' : LV) (σ' : Store), Room k A → EnvOk g names env ρ lv s.heap → Sim g ρ σ s.heap → m lv σ = some (f, lv', σ') →
    wpAny (model g.prog g.w) A (exec st env) (SPost g names env ρ s f lv' σ') noE s
noncomputable def SS (g : GG) (names : List (Str × NameKind)) (k : Nat) (st : List Stmt) (m : SDen) : Prop :=
  ∀ (A : Around) (env : Env) (ρ : List Addr) (lv : LV) (σ : Store) (s : Shared) (f : F) (lv' : LV) (σ' : Store), Room k A → EnvOk g names env ρ lv s.heap → Sim g ρ σ s.heap → m lv σ = some (f, lv', σ') →
    wpAny (model g.prog g.w) A (execs st env) (SPost g names env ρ s f lv' σ') noE s

section
variable {Xf : Env → Addr → Prop} {g : GG} {X own : Addr → Prop} {ρ ρ₁ : List Addr} {σ σ₁ : Store} {s s₁ s₂ : Shared} {A : Around} {h h' : Heap} {names : List (Str × NameKind)} {k : Nat} {env : Env} {lv lv₁ : LV}

theorem SPost.trans {f : F} {fl : Flow} (S : Step g (Xenv names env) ρ s s₁ ρ₁) (P : SPost g names env ρ₁ s₁ f lv σ fl s₂) : SPost g names env ρ s f lv σ fl s₂ := by
  obtain ⟨ρ', S', P', E', H'⟩ := P; exact ⟨ρ', S.trans S', P', E', H'⟩
theorem SPost.trans' {f : F} {fl : Flow} (S : Step g noX ρ s s₁ ρ₁) (P : SPost g names env ρ₁ s₁ f lv σ fl s₂) : SPost g names env ρ s f lv σ fl s₂ := P.trans (S.mono fun _ h => h.elim)
theorem SPost.ofE (P : EPost (Xenv names env) g names env ρ s lv σ s₁) : SPost g names env ρ s .nx lv σ .next s₁ := by
  obtain ⟨ρ', h1, h2, h3⟩ := P; exact ⟨ρ', h1, h2, h3, rfl⟩

noncomputable def D.nil : SDen := fun lv σ => some (.nx, lv, σ)
noncomputable def D.seq (f : Option (F × LV × Store)) (b : SDen) : Option (F × LV × Store) := match f with
  | some (.nx, lv₁, σ₁) => b lv₁ σ₁
  | r => r
noncomputable def D.cons (a b : SDen) : SDen := fun lv σ => D.seq (a lv σ) b

theorem SS.nil : SS g names k [] D.nil := by
  intro A env ρ lv σ s f lv' σ' R e S hm
  cases hm
  exact wpAny_execs_nil ⟨ρ, Step.refl .., S, e, rfl⟩
set_option tactic.hygienic true in
theorem SS.cons {st : Stmt} {r : List Stmt} {a b : SDen} (ha : S1 g names k st a) (hb : SS g names k r b) : SS g names k (st :: r) (D.cons a b) := by
  intro A env ρ lv σ s f lv' σ' R e S hm
  unfold D.cons D.seq at hm
  refine wpAny_execs_cons ?_
  split at hm
  · rename_i lv₁ σ₁ h1
    refine wpAny_mono (ha A env ρ lv σ s _ lv₁ σ₁ R e S h1) (fun fl s₁ P => ?_) noE_mono
    obtain ⟨ρ₁, T, S₁, e₁, hf⟩ := P
    cases hf
    exact wpAny_mono (hb A env ρ₁ lv₁ σ₁ s₁ f lv' σ' R e₁ S₁ hm) (fun _ _ P => P.trans T) noE_mono
  · rename_i hne
    refine wpAny_mono (ha A env ρ lv σ s f lv' σ' R e S hm) (fun fl s₁ P => ?_) noE_mono
    obtain ⟨ρ₁, T, S₁, e₁, hf⟩ := id P
    cases f with
    | nx => exact absurd hm (hne _ _)
    | ct => cases hf; exact P
    | rt v => obtain ⟨u, rfl, _⟩ := hf; exact P

noncomputable def D.expr (m : Den) : SDen := fun lv σ => match m lv σ with
  | some (.none, σ₁) => some (.nx, lv, σ₁)
  | _ => none
noncomputable def notComp : Expr → Bool
  | .ListComp .. => false
  | .SetComp .. => false
  | .DictComp .. => false
  | _ => true
theorem swapsWith_plain {e : Expr} {t : Option Expr} {l : Nat} (h : notComp e = true) : swapsWith e t l env = pure false := by
  cases e <;> first | rfl | (cases h; done)
theorem interactive_no (e : EnvOk g names env ρ lv h) : interactive env = false := by
  unfold interactive; simp [e.kind]
set_option tactic.hygienic true in
theorem S1.expr {e : Expr} {m : Den} {pos : Pos} (he : SE g names k e m) (hc : notComp e = true := by rfl) : S1 g names k (.Expr e pos) (D.expr m) := by
  intro A env ρ lv σ s f lv' σ' R en S hm
  unfold D.expr at hm
  split at hm
  · rename_i σ₁ h1
    cases hm
    refine wpAny_Expr (wpAny_mono (he A env ρ lv σ s _ _ R en S h1) (fun u s₁ P => ?_) noE_mono) (interactive_no en) (swapsWith_plain hc)
    obtain ⟨ρ₁, T, S₁, hu⟩ := P
    cases hu
    exact ⟨ρ₁, T.mono fun _ h => h.elim, S₁, en.step' T, rfl⟩
  · cases hm

noncomputable def D.ret (m : Den) : SDen := fun lv σ => match m lv σ with
  | some (v, σ₁) => some (.rt v, lv, σ₁)
  | none => none
set_option tactic.hygienic true in
theorem S1.ret {e : Expr} {m : Den} {pos : Pos} (he : SE g names k e m) : S1 g names k (.Return (some e) pos) (D.ret m) := by
  intro A env ρ lv σ s f lv' σ' R en S hm
  unfold D.ret at hm
  split at hm
  · rename_i v σ₁ h1
    cases hm
    refine wpAny_Return_some (wpAny_mono (he A env ρ lv σ s _ _ R en S h1) (fun u s₁ P => ?_) noE_mono)
    obtain ⟨ρ₁, T, S₁, hu⟩ := P
    exact ⟨ρ₁, T.mono fun _ h => h.elim, S₁, en.step' T, u, rfl, hu⟩
  · cases hm

noncomputable def D.cont : SDen := fun lv σ => some (.ct, lv, σ)
theorem S1.cont {pos : Pos} : S1 g names k (.Continue pos) D.cont := by
  intro A env ρ lv σ s f lv' σ' R en S hm
  cases hm
  exact wpAny_Continue ⟨ρ, Step.refl .., S, en, rfl⟩

noncomputable def D.ite (c : CDen) (a b : SDen) : SDen := fun lv σ => match c lv σ with
  | some (true, σ₁) => a lv σ₁
  | some (false, σ₁) => b lv σ₁
  | none => none
set_option tactic.hygienic true in
theorem S1.ite {t : Expr} {a b : List Stmt} {mt : CDen} {ma mb : SDen} {pos : Pos} (ht : CE g names k t mt) (ha : SS g names k a ma) (hb : SS g names k b mb) : S1 g names k (.If t a b pos) (D.ite mt ma mb) := by
  intro A env ρ lv σ s f lv' σ' R en S hm
  unfold D.ite at hm
  refine wpAny_If ?_
  split at hm
  · rename_i σ₁ h1
    refine wpAny_mono (ht A env ρ lv σ s _ _ R en S h1) (fun c s₁ P => ?_) noE_mono
    obtain ⟨rfl, ρ₁, T, S₁⟩ := P
    exact wpAny_mono (ha A env ρ₁ lv σ₁ s₁ f lv' σ' R (en.step' T) S₁ hm) (fun _ _ P => P.trans' T) noE_mono
  · rename_i σ₁ h1
    refine wpAny_mono (ht A env ρ lv σ s _ _ R en S h1) (fun c s₁ P => ?_) noE_mono
    obtain ⟨rfl, ρ₁, T, S₁⟩ := P
    exact wpAny_mono (hb A env ρ₁ lv σ₁ s₁ f lv' σ' R (en.step' T) S₁ hm) (fun _ _ P => P.trans' T) noE_mono
  · cases hm

noncomputable def swB (names : List (Str × NameKind)) : Expr → Expr → Bool
  | .Name t pos, value => match (match value with
      | .ListComp _ _ sc _ | .SetComp _ _ sc _ | .DictComp _ _ _ sc _ => some sc
      | _ => none) with
    | some sc => names.lookup t == some .local && pos.line == value.pos.line && !(sc.names.any fun (n, k) => n == t && (k == .local || k == .cell))
    | none => false
  | _, _ => false
noncomputable def scOf (value : Expr) : Option Scope := match value with
  | .ListComp _ _ s _ | .SetComp _ _ s _ | .DictComp _ _ _ s _ => some s
  | _ => none
theorem swB_name {id : Str} {p : Pos} {value : Expr} : swB names (.Name id p) value = ((scOf value).elim false fun sc => names.lookup id == some .local && p.line == value.pos.line && !(sc.names.any fun (n, k) => n == id && (k == .local || k == .cell))) := by
  show (match scOf value with | some sc => _ | none => false) = _
  cases scOf value <;> rfl
theorem swapsWith_eq {t value : Expr} {l : Nat} (hn : env.scope.names = names) (hk : env.scope.kind = .function) : swapsWith value (some t) l env = pure (swB names t value) := by
  have hb : env.blockKind = .function := by unfold Env.blockKind; rw [hk]; rfl
  have hk1 : ∀ id, env.kindOf id = names.lookup id := fun id => by unfold Env.kindOf; rw [hn]
  cases t with
  | Name id p =>
    rw [swB_name]
    show (match scOf value with | some sc => (pure (env.blockKind == ScopeKind.function && env.kindOf id == some NameKind.local && p.line == value.pos.line && !(sc.names.any fun (n, k) => n == id && (k == NameKind.local || k == NameKind.cell))) : Sem Bool) | _ => pure false) = _
    rw [hb, hk1]
    cases scOf value <;> rfl
  | _ =>
    show (match scOf value with | some sc => (pure false : Sem Bool) | _ => pure false) = pure false
    cases scOf value <;> rfl

noncomputable def env0 (names : List (Str × NameKind)) : Env := { scope := { kind := .function, names := names, isGenerator := false, isCoroutine := false, more := [] }, locals := 0, globals := 0, cells := [], qual := "", func := none, code := .none, frame := none, builtins := 0 }
theorem swapped_eq {targets : List Expr} {value : Expr} {r : Option (List Str)} (hn : env.scope.names = names) (hk : env.scope.kind = .function) (h : swappedStores targets value (env0 names) = pure r) : swappedStores targets value env = pure r := by
  rw [← h]
  have hb : env.blockKind = (env0 names).blockKind := by unfold Env.blockKind; rw [hk]; rfl
  have hkf : env.kindOf = (env0 names).kindOf := funext fun id => by unfold Env.kindOf; rw [hn]; rfl
  unfold swappedStores
  rw [hb, hkf]
end
end Mini
end

section
namespace Mini
open PySem PySem.SeqAt PyProof.Rows

section
variable {Xf : Env → Addr → Prop} {g : GG} {X Y own : Addr → Prop} {ρ ρ₁ : List Addr} {σ σ₁ : Store} {s s₁ s₂ : Shared} {A : Around} {h h' : Heap} {names : List (Str × NameKind)} {k : Nat} {env : Env} {lv lv₁ : LV}

noncomputable def D.assign (mt : TDen) (m : Den) : SDen := fun lv σ => match m lv σ with
  | some (v, σ₁) => (mt v lv σ₁).map fun p => (.nx, p.1, p.2)
  | none => none

set_option tactic.hygienic true in
theorem S1.assign {t value : Expr} {mt : TDen} {m : Den} {pos : Pos} (ht : TE (Xenv names) g names k t mt) (hv : SE g names k value m) (hs : swB names t value = false := by rfl) (hw : swappedStores [t] value (env0 names) = pure none := by rfl) (hst : notStar t = true := by rfl) :
    S1 g names k (.Assign [t] value pos) (D.assign mt m) := by
  intro A env ρ lv σ s f lv' σ' R en S hm
  unfold D.assign at hm
  split at hm
  · rename_i v σ₁ h1
    obtain ⟨⟨lv₁, σ₂⟩, h2, h3⟩ := Option.map_eq_some_iff.mp hm
    cases h3
    refine wpAny_Assign_stores (wpAny_mono (hv A env ρ lv σ s _ _ R en S h1) (fun u s₁ P => ?_) noE_mono) ?_ (swapped_eq en.hnames en.kind hw)
    · obtain ⟨ρ₁, T, S₁, ru⟩ := P
      rw [assignEach_plain hst]
      show wpAny _ _ (PySem.assign t env u) _ _ _
      refine wpAny_mono (ht A env ρ₁ lv σ₁ s₁ v u _ _ R (en.step' T) S₁ ru h2) (fun _ s₂ P => ?_) noE_mono
      exact SPost.ofE (P.trans' T)
    · show swapsWith value (some t) pos.line env = pure false
      rw [swapsWith_eq en.hnames en.kind, hs]
  · cases hm

noncomputable def lvSets : List Nat → List V → LV → LV
  | i :: is, v :: vs, lv => lvSets is vs (lvSet lv i v)
  | _, _, lv => lv
theorem binds_V : ∀ {is : List Nat} {xs : List Str} {vs : List V} {us : List Value} {ρ : List Addr} {s : Shared} {lv : LV}, (∀ (j i : Nat) (x : Str), is[j]? = some i → xs[j]? = some x → names[i]? = some (x, NameKind.local)) → is.length = xs.length → vs.length = xs.length → EnvOk g names env ρ lv s.heap → Sim g ρ σ s.heap → RepVs g ρ s.heap vs us →
    wpAny (model g.prog g.w) A (assignInOrder (xs.map fun n => bindName env n) us) (fun _ => EPost (Xloc env) g names env ρ s (lvSets is vs lv) σ) noE s
  | [], [], [], us, ρ, s, lv, _, _, _, e, S, hr => by
    cases hr
    exact wpAny_pure (EPost.of (Step.refl ..) S e)
  | i :: is, x :: xs, v :: vs, us, ρ, s, lv, hi, h1, h2, e, S, hr => by
    obtain ⟨u, us', rfl, hu, hus⟩ := hr
    show wpAny _ _ (do holding us' (bindName env x u); assignInOrder (xs.map fun n => bindName env n) us') _ _ _
    refine wpAny_bind (wpAny_holding (wpAny_mono (bindName_loc (hi 0 i x rfl rfl) e S hu) (fun _ s₁ P => ?_) noE_mono))
    obtain ⟨ρ₁, T, S₁, e₁⟩ := P
    exact wpAny_mono (binds_V (is := is) (fun j i' x' a b => hi (j + 1) i' x' a b) (by simpa using h1) (by simpa using h2) e₁ S₁ (hus.step T)) (fun _ _ P => P.trans T) noE_mono
  | [], _ :: _, _, _, _, _, _, _, h1, _, _, _, _ => by simp at h1
  | _ :: _, [], _, _, _, _, _, _, h1, _, _, _, _ => by simp at h1
  | _, _ :: _, [], _, _, _, _, _, _, h2, _, _, _ => by simp at h2
  | _, [], _ :: _, _, _, _, _, _, _, h2, _, _, _ => by simp at h2

noncomputable def D.swap (is : List Nat) (m : Den) : SDen := fun lv σ => match m lv σ with
  | some (.tup vs, σ₁) => if vs.length = is.length then some (.nx, lvSets is vs.reverse lv, σ₁) else none
  | _ => none

theorem RepVs.reverse : ∀ {vs : List V} {us : List Value}, RepVs g ρ h vs us → RepVs g ρ h vs.reverse us.reverse
  | [], _, e => by subst e; exact rfl
  | _ :: _, _, e => by obtain ⟨u, us', rfl, hv, hr⟩ := e; simpa using RepVs.append hr.reverse (RepVs.single hv)

set_option tactic.hygienic true in
theorem S1.swap {elts : List Expr} {c : Nat} {tpos : Pos} {value : Expr} {xs : List Str} {is : List Nat} {m : Den} {pos : Pos} (hv : SE g names k value m) (hw : swappedStores [.Tuple elts c tpos] value (env0 names) = pure (some xs)) (hl : is.length = xs.length)
    (hi : ∀ (j i : Nat) (x : Str), is[j]? = some i → xs.reverse[j]? = some x → names[i]? = some (x, NameKind.local)) :
    S1 g names k (.Assign [.Tuple elts c tpos] value pos) (D.swap is m) := by
  intro A env ρ lv σ s f lv' σ' R en S hm
  unfold D.swap at hm
  split at hm
  · rename_i vs σ₁ h1
    split at hm
    · rename_i hlen
      cases hm
      refine Assign_Tuple_swapped (wpAny_mono (hv A env ρ lv σ s _ _ R en S h1) (fun u s₁ P => ?_) noE_mono) ?_ (swapped_eq en.hnames en.kind hw)
      · obtain ⟨ρ₁, T, S₁, a, us, rfl, ht, hr⟩ := P
        have hsz : xs.length = (List.toArray us).size := by simp [hr.length]; grind
        rw [hsz]
        refine wpAny_unpackItems_tuple R.hh ht.is fun h' hk => ?_
        obtain ⟨T2, hk'⟩ := extBut_step (g := g) (X := noX) (ρ := ρ₁) (tk := s₁.toks) hk
        refine wpAny_mono (binds_V (σ := σ') (is := is) (vs := vs.reverse) (ρ := ρ₁) (s := { s₁ with heap := h' }) (lv := lv) hi (by simpa using hl) (by simp; grind) ((en.step' T).step' T2) (S₁.ext hk') (RepVs.reverse (hr.step T2))) (fun _ s₂ P => ?_) noE_mono
        exact SPost.ofE (EPost.trans' T (EPost.trans' T2 (P.mono fun b hb => .inl hb)))
      · show swapsWith value (some (.Tuple elts c tpos)) pos.line env = pure false
        cases value <;> rfl
    · cases hm
  · cases hm

noncomputable def forD (mt : TDen) (mb : SDen) (src : Src) : List V → SDen
  | [], lv, σ => if srcOk src σ then some (.nx, lv, σ) else none
  | v :: r, lv, σ => if srcOk src σ then match mt v lv σ with
      | some (lv₁, σ₁) => match mb lv₁ σ₁ with
        | some (.rt w, lv₂, σ₂) => some (.rt w, lv₂, σ₂)
        | some (_, lv₂, σ₂) => forD mt mb src r lv₂ σ₂
        | none => none
      | none => none
    else none
noncomputable def D.for (mi : ItDen) (mt : TDen) (mb : SDen) : SDen := fun lv σ => match mi lv σ with
  | some ((src, vs), σ₁) => forD mt mb src vs lv σ₁
  | none => none

theorem EnvOk.keepBut (e : EnvOk g names env ρ lv h) (a : Apart g own ρ h) (hk : ∀ b o, h.get? b = some o → ¬ own b → h'.get? b = some o) (hL : ¬ own env.locals) (hC : ∀ x c, env.cells.lookup x = some c → ¬ own c) : EnvOk g names env ρ lv h' := by
  have G := a.grow hk
  have hO : ∀ {v : Option V} {u : Option Value}, RepO g ρ h v u → RepO g ρ h' v u := fun {v u} q => by
    cases v <;> cases u <;> first | exact q | exact (show RepV g ρ h' _ _ by simpa using RepV.grow (t := []) G (show RepV g ρ h _ _ from q))
  obtain ⟨m, hm, hv⟩ := e.ns
  refine ⟨e.hnames, e.kind, e.globals, e.builtins, e.nodup, e.plain, e.len, e.fresh, ⟨m, ?_, fun i x hi => hO (hv i x hi)⟩, fun i x kd hi hkd => ?_, fun x c hc => ?_, e.apart⟩
  · obtain ⟨o, es, ep, ho, r⟩ := hm
    exact ⟨o, es, ep, hk _ _ ho hL, r⟩
  · obtain ⟨c, ov, h1, ⟨o, ho, r⟩, h3⟩ := e.cellAt i x kd hi hkd
    exact ⟨c, ov, h1, ⟨o, hk _ _ ho (hC x c h1), r⟩, hO h3⟩
  · obtain ⟨h1, h2, h3, ov, o, ho, r⟩ := e.cellsOk x c hc
    exact ⟨h1, h2, h3, ov, o, hk _ _ ho (hC x c hc), r⟩

theorem EnvOk.notOwn (e : EnvOk g names env ρ lv s.heap) (hf : ∀ b, own b → s.heap.get? b = none) : ¬ own env.locals ∧ (∀ x c, env.cells.lookup x = some c → ¬ own c) ∧ ∀ b, own b → ¬ Xenv names env b := by
  have h1 : ¬ own env.locals := fun q => by
    obtain ⟨m, hm, _⟩ := e.ns
    obtain ⟨o, ho, _⟩ := notImm_ns hm
    rw [hf _ q] at ho; cases ho
  have h2 : ∀ x c, env.cells.lookup x = some c → ¬ own c := fun x c hc q => by
    obtain ⟨_, _, _, ov, h4⟩ := e.cellsOk x c hc
    obtain ⟨o, ho, _⟩ := notImm_cell h4
    rw [hf _ q] at ho; cases ho
  refine ⟨h1, h2, fun b hb hx => ?_⟩
  rcases hx with rfl | ⟨x, _, hx⟩
  · exact h1 hb
  · exact h2 x b hx hb

set_option tactic.hygienic true in
theorem forD_nil {mt : TDen} {mb : SDen} {src : Src} {lv : LV} {σ : Store} {r : F × LV × Store} (h : forD mt mb src [] lv σ = some r) : srcOk src σ = true ∧ r = (.nx, lv, σ) := by
  unfold forD at h
  split at h
  · rename_i hs; cases h; exact ⟨hs, rfl⟩
  · cases h
inductive ForC (mt : TDen) (mb : SDen) (src : Src) (v : V) (rest : List V) (lv : LV) (σ : Store) (r : F × LV × Store) : Prop
  | ret (hs : srcOk src σ = true) (lv₁ : LV) (σ₁ : Store) (h1 : mt v lv σ = some (lv₁, σ₁)) (w : V) (lv₂ : LV) (σ₂ : Store) (h2 : mb lv₁ σ₁ = some (.rt w, lv₂, σ₂)) (e : r = (.rt w, lv₂, σ₂)) : ForC mt mb src v rest lv σ r
  | go (hs : srcOk src σ = true) (lv₁ : LV) (σ₁ : Store) (h1 : mt v lv σ = some (lv₁, σ₁)) (f : F) (lv₂ : LV) (σ₂ : Store) (hf : f = .nx ∨ f = .ct) (h2 : mb lv₁ σ₁ = some (f, lv₂, σ₂)) (h3 : forD mt mb src rest lv₂ σ₂ = some r) : ForC mt mb src v rest lv σ r
set_option tactic.hygienic true in
theorem forD_cons {mt : TDen} {mb : SDen} {src : Src} {v : V} {rest : List V} {lv : LV} {σ : Store} {r : F × LV × Store} (h : forD mt mb src (v :: rest) lv σ = some r) : ForC mt mb src v rest lv σ r := by
  unfold forD at h
  split at h
  · rename_i hs
    split at h
    · rename_i h1
      split at h
      · rename_i h2; cases h; exact .ret hs _ _ h1 _ _ _ h2 rfl
      · rename_i f _ _ hne h2
        refine .go hs _ _ h1 f _ _ ?_ h2 h
        cases f with
        | nx => exact .inl rfl
        | ct => exact .inr rfl
        | rt w => exact absurd rfl (hne w)
      · cases h
    · cases h
  · cases h
inductive ForI (g : GG) (names : List (Str × NameKind)) (env : Env) (own : Addr → Prop) (P : List V → List Addr → Heap → Prop) (mt : TDen) (mb : SDen) (src : Src) (ρ : List Addr) (s : Shared) (r : Option (F × LV × Store)) (n : Nat) (s' : Shared) : Prop
  | mk (ρ' : List Addr) (lvc : LV) (σc : Store) (rest : List V) (hn : n = rest.length) (T : Step g (fun b => Xenv names env b ∨ own b) ρ s s' ρ') (S : Sim g ρ' σc s'.heap) (e : EnvOk g names env ρ' lvc s'.heap) (hP : P rest ρ' s'.heap) (hd : forD mt mb src rest lvc σc = r) : ForI g names env own P mt mb src ρ s r n s'
set_option tactic.hygienic true in
theorem S1.for {tgt iter : Expr} {body : List Stmt} {tt : Bool} {mi : ItDen} {mt : TDen} {mb : SDen} {pos : Pos} (hi : ItE g names k tt iter mi) (ht : TE (Xenv names) g names k tgt mt) (hb : SS g names k body mb) (h1 : isTgt tgt = true := by rfl) (h2 : tt = true → isTup tgt = true := by intro h; first | rfl | cases h)
    (hf : ∀ env x, foldedSetIterable iter env x = pure x := by intro _ _; rfl) : S1 g names k (.For tgt iter body [] pos) (D.for mi mt mb) := by
  intro A env ρ lv σ s f lv' σ' R en S hm
  unfold D.for at hm
  split at hm
  · rename_i src vs σ₁ hmi
    refine wpAny_For (wpAny_mono (hi A env ρ lv σ s src vs σ₁ R en S hmi) (fun x s₁ P => wpAny_mono P (fun it s₂ P => ?_) noE_mono) noE_mono) (hf env)
    obtain ⟨ρ₂, own, P, T, S₂, I, hP, hown⟩ := P
    obtain ⟨n1, n2, n3⟩ := en.notOwn hown
    have hX : ∀ b, Xenv names env b ∨ own b → Xenv names env b ∨ s.heap.get? b = none := fun b hb => hb.imp id (hown b)
    refine codeAny_forLoop_any (fun n s' => ForI g names env own P mt mb src ρ s (some (f, lv', σ')) n s') ?_ vs.length
      ⟨ρ₂, lv, σ₁, vs, rfl, T.mono fun _ h => h.elim, S₂, en.step' T, hP, hm⟩
    rintro n s' ⟨ρ', lvc, σc, rest, rfl, T', S', e', hP', hd⟩
    cases rest with
    | nil =>
      obtain ⟨hsrc, e1⟩ := forD_nil hd
      cases e1
      refine wpAny_mono (I.done A ρ' _ s' R.zero S' hsrc hP') (fun r s'' P => ?_) noE_mono
      obtain ⟨rfl, E', S''⟩ := P
      refine wpAny_execs_nil ?_
      exact ⟨ρ', T'.andEnd E' hown hX, S'', e'.keepBut (I.apart _ _ _ hP') E'.keep n1 n2, rfl⟩
    | cons v rest =>
      have hc1 := forD_cons hd
      have hs1 : srcOk src σc = true := by cases hc1 <;> assumption
      refine wpAny_mono (I.next A ρ' σc s' v rest tgt R.zero S' hs1 hP' h1 h2) (fun r s₃ P => ?_) noE_mono
      obtain ⟨u, rfl, hu⟩ := P
      refine wpAny_mono hu (fun _ s₄ P => ?_) noE_mono
      obtain ⟨T4, S4, ru, hP4⟩ := P
      have e4 : EnvOk g names env ρ' lvc s₄.heap := e'.step T4 n1 n2
      cases hc1 with
      | ret hs lv₁ σ₃ hmt w lv₂ σ₄ hmb e1 =>
        refine wpAny_mono (ht A env ρ' lvc σc s₄ v u lv₁ σ₃ R e4 S4 ru hmt) (fun _ s₅ P => ?_) noE_mono
        obtain ⟨ρ₅, T5, S5, e5⟩ := P
        cases e1
        refine wpAny_mono (hb A env ρ₅ lv₁ σ₃ s₅ _ _ _ R e5 S5 hmb) (fun fl s₆ P => ?_) noE_mono
        obtain ⟨ρ₆, T6, S6, e6, u', rfl, hw⟩ := P
        exact ⟨ρ₆, (((T'.trans (T4.mono fun _ h => .inr h)).trans (T5.mono fun _ h => .inl h)).trans (T6.mono fun _ h => .inl h)).drop hX, S6, e6, u', rfl, hw⟩
      | go hs lv₁ σ₃ hmt f' lv₂ σ₄ hf hmb hd =>
        refine wpAny_mono (ht A env ρ' lvc σc s₄ v u lv₁ σ₃ R e4 S4 ru hmt) (fun _ s₅ P => ?_) noE_mono
        obtain ⟨ρ₅, T5, S5, e5⟩ := P
        refine wpAny_mono (hb A env ρ₅ lv₁ σ₃ s₅ _ _ _ R e5 S5 hmb) (fun fl s₆ P => ?_) noE_mono
        obtain ⟨ρ₆, T6, S6, e6, hfl⟩ := P
        have fin : ∃ m, m < (v :: rest).length ∧ ForI g names env own P mt mb src ρ s (some (f, lv', σ')) m s₆ :=
          ⟨rest.length, by simp, ρ₆, lv₂, σ₄, rest, rfl, ((T'.trans (T4.mono fun _ h => .inr h)).trans (T5.mono fun _ h => .inl h)).trans (T6.mono fun _ h => .inl h), S6, e6, I.keep (Xenv names env) ρ₅ s₅ s₆ ρ₆ rest (I.keep (Xenv names env) ρ' s₄ s₅ ρ₅ rest hP4 T5 n3) T6 n3, hd⟩
        rcases hf with rfl | rfl
        · cases hfl; exact fin
        · cases hfl; exact fin
  · cases hm

noncomputable def whileD (c : CDen) (mb : SDen) : Nat → SDen
  | 0, _, _ => none
  | n + 1, lv, σ => match c lv σ with
    | some (true, σ₁) => match mb lv σ₁ with
      | some (.rt w, lv₂, σ₂) => some (.rt w, lv₂, σ₂)
      | some (_, lv₂, σ₂) => whileD c mb n lv₂ σ₂
      | none => none
    | some (false, σ₁) => some (.nx, lv, σ₁)
    | none => none

inductive WhI (g : GG) (names : List (Str × NameKind)) (env : Env) (mt : CDen) (mb : SDen) (ρ : List Addr) (s : Shared) (r : Option (F × LV × Store)) (n : Nat) (s' : Shared) : Prop
  | mk (ρ' : List Addr) (lvc : LV) (σc : Store) (T : Step g (Xenv names env) ρ s s' ρ') (S : Sim g ρ' σc s'.heap) (e : EnvOk g names env ρ' lvc s'.heap) (hd : whileD mt mb n lvc σc = r) : WhI g names env mt mb ρ s r n s'
set_option tactic.hygienic true in
theorem S1.while {t : Expr} {body : List Stmt} {mt : CDen} {mb : SDen} {pos : Pos} {n : Nat} (ht : CE g names k t mt) (hb : SS g names k body mb) : S1 g names k (.While t body [] pos) (whileD mt mb n) := by
  intro A env ρ lv σ s f lv' σ' R en S hm
  refine wpAny_While ?_
  refine codeAny_whileLoop (fun n s' => WhI g names env mt mb ρ s (some (f, lv', σ')) n s') ?_ n
    ⟨ρ, lv, σ, Step.refl .., S, en, hm⟩
  rintro n s' ⟨ρ', lvc, σc, T', S', e', hd⟩
  cases n with
  | zero => cases hd
  | succ n =>
    unfold whileD at hd
    split at hd
    · rename_i σ₁ h1
      refine wpAny_mono (ht A env ρ' lvc σc s' _ _ R e' S' h1) (fun c s₁ P => ?_) noE_mono
      obtain ⟨rfl, ρ₁, T1, S1⟩ := P
      have T01 : Step g (Xenv names env) ρ s s₁ ρ₁ := T'.trans' T1
      split at hd
      · rename_i w lv₂ σ₄ hmb
        cases hd
        refine wpAny_mono (hb A env ρ₁ lvc σ₁ s₁ _ _ _ R (e'.step' T1) S1 hmb) (fun fl s₆ P => ?_) noE_mono
        obtain ⟨ρ₆, T6, S6, e6, u', rfl, hw⟩ := P
        exact ⟨ρ₆, T01.trans T6, S6, e6, u', rfl, hw⟩
      · rename_i f' lv₂ σ₄ hne hmb
        refine wpAny_mono (hb A env ρ₁ lvc σ₁ s₁ _ _ _ R (e'.step' T1) S1 hmb) (fun fl s₆ P => ?_) noE_mono
        obtain ⟨ρ₆, T6, S6, e6, hfl⟩ := P
        have fin : ∃ m, m < n + 1 ∧ WhI g names env mt mb ρ s (some (f, lv', σ')) m s₆ :=
          ⟨n, by omega, ρ₆, lv₂, σ₄, T01.trans T6, S6, e6, hd⟩
        cases f' with
        | nx => cases hfl; exact fin
        | ct => cases hfl; exact fin
        | rt w => exact absurd rfl (hne w)
      · cases hd
    · rename_i σ₁ h1
      cases hd
      refine wpAny_mono (ht A env ρ' lv' σc s' _ _ R e' S' h1) (fun c s₁ P => ?_) noE_mono
      obtain ⟨rfl, ρ₁, T1, S1⟩ := P
      exact wpAny_execs_nil ⟨ρ₁, T'.trans' T1, S1, e'.step' T1, rfl⟩
    · cases hd
end
end Mini
end

section
namespace Mini
open PySem PySem.SeqAt PyProof.Rows

noncomputable def ifsOf (ifs : List Expr) (env : Env) : Sem Bool :=
  forIn ifs true fun c r => if r = true then do let ok ← isTrue c env (eval c env); pure (ForInStep.yield ok) else pure (ForInStep.yield r)

noncomputable abbrev TR := Around → Env → Addr → (Shared → Prop) → Shared → Prop

structure TurnShape (g : GG) (e : Expr) (d : Nat) (target iter : Expr) (ifs : List Expr) (T : TR) : Prop where
  turn : ∀ (A : Around) (it : Value) (a : Addr) (env : Env) (Q : Fin → Shared → Prop) (s : Shared),
    wpAny (model g.prog g.w) A (pyNext it) (fun r s₁ => match r with
      | none => Q (.done .next) s₁
      | some v => wpAny (model g.prog g.w) A (letOwnedTupleGo target it v) (fun _ s₂ => wpAny (model g.prog g.w) A (assign target env v) (fun _ s₃ =>
          wpAny (model g.prog g.w) A (ifsOf ifs env) (fun ok s₄ => if ok = true then T A env a (fun s₅ => Q (.again (.compLoop e d it (.ref a) env)) s₅) s₄ else Q (.again (.compLoop e d it (.ref a) env)) s₄) noE s₃) noE s₂) noE s₁) noE s →
    wpAny (model g.prog g.w) A (compTurn e d it (.ref a) env) Q noE s
  quiet : ∀ it acc env, (Code.compLoop e d it acc env).quiet = true
  den : ∀ (A : Around) (it : Value) (a : Addr) (env : Env) (Q : Fin → Shared → Prop) (E : Value → Shared → Prop) (s : Shared), wpAny (model g.prog g.w) A (compTurn e d it (.ref a) env) Q noE s →
    wpAny (model g.prog g.w) (A.under (.compLoop e d it (.ref a) env)) ((model g.prog g.w).den (.compLoop e d it (.ref a) env)) Q E s
  start : ∀ (A : Around) (it : Value) (a : Addr) (env : Env) (R : Result → Shared → Prop) (s : Shared), codeAny (model g.prog g.w) A (.compLoop e d it (.ref a) env) R s →
    wpAny (model g.prog g.w) A (pyIter it) (fun it' s' => codeAny (model g.prog g.w) A (.compLoop e d it' (.ref a) env) R s') noE s → codeAny (model g.prog g.w) A (.compStart e d it (.ref a) env) R s

noncomputable def CI (g : GG) (names : List (Str × NameKind)) (k : Nat) (ifs : List Expr) (m : CDen) : Prop :=
  ∀ (A : Around) (env : Env) (ρ : List Addr) (lv : LV) (σ : Store) (s : Shared) (b : Bool) (σ' : Store), Room k A → EnvOk g names env ρ lv s.heap → Sim g ρ σ s.heap → m lv σ = some (b, σ') →
    wpAny (model g.prog g.w) A (ifsOf ifs env) (CPost g ρ s σ' b) noE s
noncomputable def C.true : CDen := fun _ σ => some (Bool.true, σ)

noncomputable abbrev BDen := Nat → LV → Store → Option (LV × Store)
noncomputable def EMS (g : GG) (names : List (Str × NameKind)) (k : Nat) (T : TR) (m : BDen) : Prop :=
  ∀ (A : Around) (env : Env) (ρ : List Addr) (lv : LV) (σ : Store) (s : Shared) (l : Nat) (a : Addr) (lv' : LV) (σ' : Store) (Q : Shared → Prop), Room k A → EnvOk g names env ρ lv s.heap → Sim g ρ σ s.heap → ρ[l]? = some a → m l lv σ = some (lv', σ') →
    (∀ s', EPost (Xloc env) g names env ρ s lv' σ' s' → Q s') → T A env a Q s

noncomputable def compD (mt : TDen) (mc : CDen) (mb : BDen) (src : Src) : List V → BDen
  | [], _, lv, σ => if srcOk src σ then some (lv, σ) else none
  | v :: r, l, lv, σ => if srcOk src σ then match mt v lv σ with
      | some (lv₁, σ₁) => match mc lv₁ σ₁ with
        | some (true, σ₂) => match mb l lv₁ σ₂ with
          | some (lv₃, σ₃) => compD mt mc mb src r l lv₃ σ₃
          | none => none
        | some (false, σ₂) => compD mt mc mb src r l lv₁ σ₂
        | none => none
      | none => none
    else none

section
variable {Xf : Env → Addr → Prop} {g : GG} {X Y own : Addr → Prop} {ρ ρ₁ : List Addr} {σ σ₁ : Store} {s s₁ s₂ : Shared} {A : Around} {h h' : Heap} {names : List (Str × NameKind)} {k : Nat} {env : Env} {lv lv₁ : LV}

theorem CI.nil : CI g names k [] C.true := by
  intro A env ρ lv σ s b σ' R e S hm
  cases hm
  exact wpAny_pure ⟨rfl, ρ, Step.refl .., S⟩
theorem CI.one {c : Expr} {m : CDen} (hc : CE g names k c m) : CI g names k [c] m := by
  intro A env ρ lv σ s b σ' R e S hm
  unfold ifsOf
  rw [List.forIn_cons]
  rw [if_pos rfl]
  refine wpAny_bind (wpAny_bind (wpAny_mono (hc A env ρ lv σ s b σ' R e S hm) (fun c s₁ P => ?_) noE_mono))
  refine wpAny_pure ?_
  show wpAny _ _ (forIn [] c _) _ _ _
  rw [List.forIn_nil]
  exact wpAny_pure P

theorem Step.loc {g : GG} {X : Addr → Prop} {ρ ρ' : List Addr} {s s' : Shared} (T : Step g X ρ s s' ρ') {l : Nat} {a : Addr} (h : ρ[l]? = some a) : ρ'[l]? = some a := by obtain ⟨t, rfl⟩ := T.pre; exact pre_get h
set_option tactic.hygienic true in
theorem compD_nil {mt : TDen} {mc : CDen} {mb : BDen} {src : Src} {l : Nat} {lv lv' : LV} {σ σ' : Store} (h : compD mt mc mb src [] l lv σ = some (lv', σ')) : srcOk src σ = true ∧ lv = lv' ∧ σ = σ' := by
  unfold compD at h
  split at h
  · rename_i hs; cases h; exact ⟨hs, rfl, rfl⟩
  · cases h
inductive CompC (mt : TDen) (mc : CDen) (mb : BDen) (src : Src) (v : V) (rest : List V) (l : Nat) (lv : LV) (σ : Store) (r : Option (LV × Store)) : Prop
  | yes (hs : srcOk src σ = true) (lv₁ : LV) (σ₁ : Store) (h1 : mt v lv σ = some (lv₁, σ₁)) (σ₂ : Store) (h2 : mc lv₁ σ₁ = some (true, σ₂)) (lv₃ : LV) (σ₃ : Store) (h3 : mb l lv₁ σ₂ = some (lv₃, σ₃)) (h4 : compD mt mc mb src rest l lv₃ σ₃ = r) : CompC mt mc mb src v rest l lv σ r
  | no (hs : srcOk src σ = true) (lv₁ : LV) (σ₁ : Store) (h1 : mt v lv σ = some (lv₁, σ₁)) (σ₂ : Store) (h2 : mc lv₁ σ₁ = some (false, σ₂)) (h4 : compD mt mc mb src rest l lv₁ σ₂ = r) : CompC mt mc mb src v rest l lv σ r
set_option tactic.hygienic true in
theorem compD_cons {mt : TDen} {mc : CDen} {mb : BDen} {src : Src} {v : V} {rest : List V} {l : Nat} {lv : LV} {σ : Store} {q : LV × Store} (h : compD mt mc mb src (v :: rest) l lv σ = some q) : CompC mt mc mb src v rest l lv σ (some q) := by
  unfold compD at h
  split at h
  · rename_i hs
    split at h
    · rename_i h1
      split at h
      · rename_i h2
        split at h
        · rename_i h3; exact .yes hs _ _ h1 _ h2 _ _ h3 h
        · cases h
      · rename_i h2; exact .no hs _ _ h1 _ h2 h
      · cases h
    · cases h
  · cases h
inductive CpI (g : GG) (names : List (Str × NameKind)) (env : Env) (X own : Addr → Prop) (P : List V → List Addr → Heap → Prop) (mt : TDen) (mc : CDen) (mb : BDen) (src : Src) (l : Nat) (a : Addr) (ρ₀ : List Addr) (s₀ : Shared) (r : Option (LV × Store)) (n : Nat) (s' : Shared) : Prop
  | mk (ρ' : List Addr) (lvc : LV) (σc : Store) (rest : List V) (hn : n = rest.length) (T : Step g (fun b => (X b ∨ b = env.locals) ∨ own b) ρ₀ s₀ s' ρ') (S : Sim g ρ' σc s'.heap) (e : EnvOk g names env ρ' lvc s'.heap) (hP : P rest ρ' s'.heap) (ha : ρ'[l]? = some a) (hd : compD mt mc mb src rest l lvc σc = r) : CpI g names env X own P mt mc mb src l a ρ₀ s₀ r n s'
theorem compLoop_V {e target iter : Expr} {d : Nat} {ifs : List Expr} {T : TR} {mt : TDen} {mc : CDen} {mb : BDen} {tt : Bool} {it : Value} {P : List V → List Addr → Heap → Prop} {src : Src} {vs : List V} {l : Nat} {a : Addr} {lv' : LV} {σ' : Store} {R : Result → Shared → Prop} {s₀ : Shared} {ρ₀ : List Addr}
    (sh : TurnShape g e d target iter ifs T) (ht : TE Xloc g names k target mt) (hc : CI g names k ifs mc) (hb : EMS g names k T mb) (h1 : isTgt target = true) (h2 : tt = true → isTup target = true)
    (Rm : Room k A) (en : EnvOk g names env ρ lv s.heap) (S : Sim g ρ σ s.heap) (I : IsIt g it own (fun σ => srcOk src σ = true) tt P) (hP : P vs ρ s.heap) (n1 : ¬ own env.locals) (n2 : ∀ x c, env.cells.lookup x = some c → ¬ own c)
    (T0 : Step g X ρ₀ s₀ s ρ) (hown : ∀ b, own b → s₀.heap.get? b = none) (ha : ρ[l]? = some a) (hm : compD mt mc mb src vs l lv σ = some (lv', σ'))
    (hR : ∀ ρ' s', Step g (fun b => X b ∨ b = env.locals) ρ₀ s₀ s' ρ' → Sim g ρ' σ' s'.heap → EnvOk g names env ρ' lv' s'.heap → ρ'[l]? = some a → R (.ok .next) s') :
    codeAny (model g.prog g.w) A (.compLoop e d it (.ref a) env) R s := by
  have n3 : ∀ b, own b → ¬ Xloc env b := fun b hb hx => n1 (hx ▸ hb)
  refine codeAny_loop (sh.quiet _ _ _) (fun n s' => CpI g names env X own P mt mc mb src l a ρ₀ s₀ (some (lv', σ')) n s') ?_ vs.length
    ⟨ρ, lv, σ, vs, rfl, T0.mono fun _ h => .inl (.inl h), S, en, hP, ha, hm⟩
  rintro n s' ⟨ρ', lvc, σc, rest, rfl, T', S', e', hP', ha', hd⟩
  refine sh.den _ _ _ _ _ _ _ (sh.turn _ _ _ _ _ _ ?_)
  cases rest with
  | nil =>
    obtain ⟨hsrc, rfl, rfl⟩ := compD_nil hd
    refine wpAny_mono (I.done A ρ' _ s' Rm.zero S' hsrc hP') (fun r s'' P => ?_) noE_mono
    obtain ⟨rfl, E', S''⟩ := P
    exact hR ρ' s'' (T'.andEnd E' hown fun b hb => hb.imp id (hown b)) S'' (e'.keepBut (I.apart _ _ _ hP') E'.keep n1 n2) ha'
  | cons v rest =>
    have hc1 := compD_cons hd
    have hs1 : srcOk src σc = true := by cases hc1 <;> assumption
    refine wpAny_mono (I.next A ρ' σc s' v rest target Rm.zero S' hs1 hP' h1 h2) (fun r s₃ P => ?_) noE_mono
    obtain ⟨u, rfl, hu⟩ := P
    refine wpAny_mono hu (fun _ s₄ P => ?_) noE_mono
    obtain ⟨T4, S4, ru, hP4⟩ := P
    have e4 := e'.step T4 n1 n2
    cases hc1 with
    | yes hs lv₁ σ₃ hmt σ₆ hmc lv₇ σ₇ hmb hd =>
      refine wpAny_mono (ht A env ρ' lvc σc s₄ v u lv₁ σ₃ Rm e4 S4 ru hmt) (fun _ s₅ P => ?_) noE_mono
      obtain ⟨ρ₅, T5, S5, e5⟩ := P
      have hP5 := I.keep (Xloc env) ρ' s₄ s₅ ρ₅ rest hP4 T5 n3
      refine wpAny_mono (hc A env ρ₅ lv₁ σ₃ s₅ _ _ Rm e5 S5 hmc) (fun ok s₆ P => ?_) noE_mono
      obtain ⟨rfl, ρ₆, T6, S6⟩ := P
      have ha6 := T6.loc (T5.loc ha')
      have hP6 := I.keep noX ρ₅ s₅ s₆ ρ₆ rest hP5 T6 fun _ _ h => h
      rw [if_pos rfl]
      refine hb A env ρ₆ lv₁ σ₆ s₆ l a lv₇ σ₇ _ Rm (e5.step' T6) S6 ha6 hmb fun s₇ P => ?_
      obtain ⟨ρ₇, T7, S7, e7⟩ := P
      exact ⟨rfl, rest.length, by simp, ρ₇, lv₇, σ₇, rest, rfl, (((T'.trans (T4.mono fun _ h => .inr h)).trans (T5.mono fun _ h => .inl (.inr h))).trans' T6).trans (T7.mono fun _ h => .inl (.inr h)), S7, e7, I.keep (Xloc env) ρ₆ s₆ s₇ ρ₇ rest hP6 T7 n3, T7.loc ha6, hd⟩
    | no hs lv₁ σ₃ hmt σ₆ hmc hd =>
      refine wpAny_mono (ht A env ρ' lvc σc s₄ v u lv₁ σ₃ Rm e4 S4 ru hmt) (fun _ s₅ P => ?_) noE_mono
      obtain ⟨ρ₅, T5, S5, e5⟩ := P
      have hP5 := I.keep (Xloc env) ρ' s₄ s₅ ρ₅ rest hP4 T5 n3
      refine wpAny_mono (hc A env ρ₅ lv₁ σ₃ s₅ _ _ Rm e5 S5 hmc) (fun ok s₆ P => ?_) noE_mono
      obtain ⟨rfl, ρ₆, T6, S6⟩ := P
      rw [if_neg (by decide)]
      exact ⟨rfl, rest.length, by simp, ρ₆, lv₁, σ₆, rest, rfl, ((T'.trans (T4.mono fun _ h => .inr h)).trans (T5.mono fun _ h => .inl (.inr h))).trans' T6, S6, e5.step' T6, I.keep noX ρ₅ s₅ s₆ ρ₆ rest hP5 T6 fun _ _ h => h, T6.loc (T5.loc ha'), hd⟩

theorem shape_list {elt target iter : Expr} {ifs : List Expr} {sc : Scope} {pos : Pos} : TurnShape g (.ListComp elt [⟨target, iter, ifs, 0⟩] sc pos) 0 target iter ifs
    (fun A env a Q s => wpAny (model g.prog g.w) A (eval elt env) (fun x s₁ => wpAny (model g.prog g.w) A (call (.builtin "list.append") [.ref a, x]) (fun _ s₂ => Q s₂) noE s₁) noE s) where
  quiet := fun _ _ _ => rfl
  den := fun A it a env Q E s h => by
    show wpAny _ A ((compTurn (.ListComp elt [⟨target, iter, ifs, 0⟩] sc pos) 0 it (.ref a) env).onRaise (fun x => do noteFrame x env; theTreesLotGoes x)) _ _ s
    exact wpAny_noted (wpAny_mono h (fun _ _ q => q) noE_mono)
  start := fun A it a env R s h0 h => codeAny_compStart_list h0 (wpAny_mono h (fun _ _ q => q) noE_mono)
  turn := fun A it a env Q s h => by
    rw [compTurn_list]
    refine wpAny_bind (wpAny_standAt (wpAny_bind (wpAny_mono h (fun r s₁ h₁ => ?_) noE_mono)))
    cases r with
    | none => exact wpAny_pure h₁
    | some v =>
      refine wpAny_bind (wpAny_mono h₁ (fun _ s₂ h₂ => wpAny_bind (wpAny_mono h₂ (fun _ s₃ h₃ => wpAny_bind (wpAny_mono h₃ (fun ok s₄ h₄ => ?_) noE_mono)) noE_mono)) noE_mono)
      cases ok with
      | false => exact wpAny_pure h₄
      | true => exact wpAny_bind (wpAny_bind (wpAny_mono h₄ (fun x s₅ h₅ => wpAny_bind (wpAny_mono h₅ (fun _ s₆ h₆ => wpAny_pure (wpAny_pure h₆)) noE_mono)) noE_mono))

theorem shape_dict {kx vx target iter : Expr} {ifs : List Expr} {sc : Scope} {pos : Pos} : TurnShape g (.DictComp kx vx [⟨target, iter, ifs, 0⟩] sc pos) 0 target iter ifs
    (fun A env a Q s => wpAny (model g.prog g.w) A (eval kx env) (fun x s₁ => wpAny (model g.prog g.w) A (eval vx env) (fun y s₂ => wpAny (model g.prog g.w) A (dictSet a x y) (fun _ s₃ => Q s₃) noE s₂) noE s₁) noE s) where
  quiet := fun _ _ _ => rfl
  den := fun A it a env Q E s h => by
    show wpAny _ A ((compTurn (.DictComp kx vx [⟨target, iter, ifs, 0⟩] sc pos) 0 it (.ref a) env).onRaise (fun x => do noteFrame x env; theTreesLotGoes x)) _ _ s
    exact wpAny_noted (wpAny_mono h (fun _ _ q => q) noE_mono)
  start := fun A it a env R s h0 h => codeAny_compStart_dict h0 (wpAny_mono h (fun _ _ q => q) noE_mono)
  turn := fun A it a env Q s h => by
    rw [compTurn_dict]
    refine wpAny_bind (wpAny_standAt (wpAny_bind (wpAny_mono h (fun r s₁ h₁ => ?_) noE_mono)))
    cases r with
    | none => exact wpAny_pure h₁
    | some v =>
      refine wpAny_bind (wpAny_mono h₁ (fun _ s₂ h₂ => wpAny_bind (wpAny_mono h₂ (fun _ s₃ h₃ => wpAny_bind (wpAny_mono h₃ (fun ok s₄ h₄ => ?_) noE_mono)) noE_mono)) noE_mono)
      cases ok with
      | false => exact wpAny_pure h₄
      | true =>
        exact wpAny_bind (wpAny_bind (wpAny_mono h₄ (fun kv s₅ h₅ => wpAny_bind (wpAny_holding (wpAny_mono h₅ (fun vv s₆ h₆ => wpAny_bind (wpAny_standAt (wpAny_holding (wpAny_mono h₆ (fun _ s₇ h₇ => wpAny_pure h₇) noE_mono)))) noE_mono))) noE_mono))

noncomputable def B.app (m : Den) : BDen := fun l lv σ => match m lv σ with
  | some (v, σ₁) => (appendM l [v] σ₁).map fun p => (lv, p.2)
  | none => none
set_option tactic.hygienic true in
theorem EMS.app {elt : Expr} {m : Den} (he : SE g names k elt m) : EMS g names k (fun A env a Q s => wpAny (model g.prog g.w) A (eval elt env) (fun x s₁ => wpAny (model g.prog g.w) A (call (.builtin "list.append") [.ref a, x]) (fun _ s₂ => Q s₂) noE s₁) noE s) (B.app m) := by
  intro A env ρ lv σ s l a lv' σ' Q R en S ha hm hQ
  unfold B.app at hm
  split at hm
  · rename_i v σ₁ h1
    obtain ⟨⟨r, σ₂⟩, h2, h3⟩ := Option.map_eq_some_iff.mp hm
    cases h3
    refine wpAny_mono (he A env ρ lv σ s v σ₁ R en S h1) (fun u s₁ P => ?_) noE_mono
    obtain ⟨ρ₁, T, S₁, ru⟩ := P
    have ha1 : ρ₁[l]? = some a := by obtain ⟨t, rfl⟩ := T.pre; exact pre_get ha
    refine wpAny_mono (MethS.append A ρ₁ σ₁ s₁ l a [v] [u] r σ₂ R.zero S₁ ha1 (RepVs.single ru) h2) (fun _ s₂ P => ?_) noE_mono
    obtain ⟨ρ₂, T2, S₂, _⟩ := P
    exact hQ s₂ (EPost.of (T.trans T2) S₂ en)
  · cases hm

noncomputable def B.put (mk mv : Den) : BDen := fun l lv σ => match mk lv σ with
  | some (x, σ₁) => match mv lv σ₁ with
    | some (y, σ₂) => match σ₂[l]? with
      | some (.dict es) => if V.key 6 x && decide (es.length < LIM) then some (lv, σ₂.set l (.dict (dSet es x y))) else none
      | _ => none
    | none => none
  | none => none
set_option tactic.hygienic true in
theorem EMS.put {kx vx : Expr} {mk mv : Den} (hk : SE g names k kx mk) (hv : SE g names k vx mv) : EMS g names k (fun A env a Q s => wpAny (model g.prog g.w) A (eval kx env) (fun x s₁ => wpAny (model g.prog g.w) A (eval vx env) (fun y s₂ => wpAny (model g.prog g.w) A (dictSet a x y) (fun _ s₃ => Q s₃) noE s₂) noE s₁) noE s) (B.put mk mv) := by
  intro A env ρ lv σ s l a lv' σ' Q R en S ha hm hQ
  unfold B.put at hm
  split at hm
  · rename_i x σ₁ h1
    split at hm
    · rename_i y σ₂ h2
      split at hm
      · rename_i es hl
        split at hm
        · rename_i hc
          rw [Bool.and_eq_true, decide_eq_true_iff] at hc
          cases hm
          refine wpAny_mono (hk A env ρ lv σ s x σ₁ R en S h1) (fun u s₁ P => ?_) noE_mono
          obtain ⟨ρ₁, T, S₁, ru⟩ := P
          refine wpAny_mono (hv A env ρ₁ lv σ₁ s₁ y σ₂ R (en.step' T) S₁ h2) (fun w s₂ P => ?_) noE_mono
          obtain ⟨ρ₂, T2, S₂, rw'⟩ := P
          have ha2 : ρ₂[l]? = some a := by obtain ⟨t, rfl⟩ := (T.trans T2).pre; exact pre_get ha
          have hu := R.small
          exact dictSet_V (by lia) S₂ hl ha2 hc.1 (ru.step T2) rw' hc.2 fun h' tk oa g1 g2 g3 => hQ _ (EPost.of ((T.trans T2).trans (Step.set S₂ ha2 g1 g2)) g3 en)
        · cases hm
      · cases hm
    · cases hm
  · cases hm
end
end Mini
end

section
namespace Mini
open PySem PySem.SeqAt PyProof.Rows

noncomputable def closC (env : Env) : List (Str × NameKind) → List (Str × Addr) → List (Str × Addr)
  | [], acc => acc
  | (n, k) :: r, acc => closC env r (if k == .free then (n, (env.cells.lookup n).getD 0) :: acc else acc)

theorem closureFor_eq {env : Env} {sc : Scope} (h : ∀ n, (n, NameKind.free) ∈ sc.names → ∃ c, env.cells.lookup n = some c) : closureFor sc env = pure (closC env sc.names []) := by
  have key : ∀ (l : List (Str × NameKind)) (acc : List (Str × Addr)), (∀ n, (n, NameKind.free) ∈ l → ∃ c, env.cells.lookup n = some c) →
      (forIn l acc fun (x : Str × NameKind) r => (do
        if (x.2 == NameKind.free) = true then
          let y ← cellOf env x.1
          pure (ForInStep.yield ((x.1, y) :: r))
        else pure (ForInStep.yield r) : Sem _)) = pure (closC env l acc) := by
    intro l
    induction l with
    | nil => intro acc _; rfl
    | cons p r ih =>
      intro acc hl
      obtain ⟨n, k⟩ := p
      rw [List.forIn_cons]
      by_cases hk : k = .free
      · subst hk
        obtain ⟨c, hc⟩ := hl n (.head _)
        have hcell : cellOf env n = pure c := by unfold cellOf; rw [hc]
        simp only [hcell]
        have e : (closC env ((n, NameKind.free) :: r) acc) = closC env r ((n, c) :: acc) := by
          show closC env r (if (NameKind.free == NameKind.free) = true then (n, (env.cells.lookup n).getD 0) :: acc else acc) = _
          rw [hc]; rfl
        rw [e]
        exact ih ((n, c) :: acc) fun n' hn' => hl n' (.tail _ hn')
      · have hb : (k == NameKind.free) = false := by simpa using hk
        have e : (closC env ((n, k) :: r) acc) = closC env r acc := by
          show closC env r (if (k == NameKind.free) = true then (n, (env.cells.lookup n).getD 0) :: acc else acc) = _
          rw [hb]; rfl
        rw [e]
        simp only [hb]
        exact ih acc fun n' hn' => hl n' (.tail _ hn')
  have e2 : closureFor sc env = ((forIn sc.names [] fun (x : Str × NameKind) r => (do
        if (x.2 == NameKind.free) = true then
          let y ← cellOf env x.1
          pure (ForInStep.yield ((x.1, y) :: r))
        else pure (ForInStep.yield r) : Sem _)) >>= fun cs => pure cs) := rfl
  rw [e2, key sc.names [] h]; rfl

section
variable {env : Env}
theorem closC_sub : ∀ (l : List (Str × NameKind)) (acc : List (Str × Addr)), (∀ n, (n, NameKind.free) ∈ l → ∃ c, env.cells.lookup n = some c) → (∀ x c, acc.lookup x = some c → env.cells.lookup x = some c) →
    ∀ x c, (closC env l acc).lookup x = some c → env.cells.lookup x = some c
  | [], acc, _, ha => ha
  | (n, k) :: r, acc, hl, ha => by
    refine closC_sub r _ (fun n' hn' => hl n' (.tail _ hn')) fun x c hx => ?_
    by_cases hk : (k == NameKind.free) = true
    · rw [if_pos hk] at hx
      have hk' : k = .free := by simpa using hk
      subst hk'
      obtain ⟨c', hc'⟩ := hl n (.head _)
      rw [List.lookup_cons] at hx
      by_cases q : x = n
      · subst q; simp [hc'] at hx; rw [hc', hx]
      · rw [beq_eq_false_iff_ne.mpr q] at hx; exact ha x c hx
    · rw [if_neg hk] at hx; exact ha x c hx
theorem closC_has : ∀ (l : List (Str × NameKind)) (acc : List (Str × Addr)) (x : Str), ((x, NameKind.free) ∈ l ∨ ∃ c, acc.lookup x = some c) → ∃ c, (closC env l acc).lookup x = some c
  | [], acc, x, h => by
    rcases h with h | h
    · cases h
    · exact h
  | (n, k) :: r, acc, x, h => by
    refine closC_has r _ x ?_
    rcases h with h | ⟨c, hc⟩
    · rcases List.mem_cons.mp h with h | h
      · cases h
        right
        rw [show (NameKind.free == NameKind.free) = true from rfl, if_pos rfl, List.lookup_cons]
        simp
      · exact .inl h
    · right
      by_cases hk : (k == NameKind.free) = true
      · rw [if_pos hk, List.lookup_cons]
        by_cases q : x = n
        · subst q; simp
        · rw [beq_eq_false_iff_ne.mpr q]; exact ⟨c, hc⟩
      · rw [if_neg hk]; exact ⟨c, hc⟩
end

noncomputable def crel (pn : List (Str × NameKind)) (cn : List (Str × NameKind)) : List (Str × NameKind) := cn.map fun (n, k) => if (k == .free && pn.lookup n == some .cell) then (n, .cell) else (n, k)
noncomputable def capOk (pn : List (Str × NameKind)) : List (Str × NameKind) → List (Option Nat) → Bool
  | [], [] => true
  | (x, k) :: r, o :: q => (match k, o with
    | .cell, some j => decide (pn[j]? = some (x, .cell))
    | .local, none => true
    | .globalImplicit, none => true
    | _, _ => false) && capOk pn r q
  | _, _ => false
noncomputable def capLV (cap : List (Option Nat)) (lv : LV) : LV := cap.map fun o => o.bind (lvGet lv)

theorem capOk_len {pn : List (Str × NameKind)} : ∀ {cn : List (Str × NameKind)} {cap : List (Option Nat)}, capOk pn cn cap = true → cap.length = cn.length
  | [], [], _ => rfl
  | (x, k) :: r, o :: q, h => by
    unfold capOk at h; rw [Bool.and_eq_true] at h
    simp [capOk_len h.2]
  | [], _ :: _, h => by simp [capOk] at h
  | (_, _) :: _, [], h => by simp [capOk] at h
theorem capOk_at {pn : List (Str × NameKind)} : ∀ {cn : List (Str × NameKind)} {cap : List (Option Nat)} {i : Nat} {x : Str} {k : NameKind}, capOk pn cn cap = true → cn[i]? = some (x, k) →
    (k = .cell ∧ ∃ j, cap[i]? = some (some j) ∧ pn[j]? = some (x, .cell)) ∨ ((k = .local ∨ k = .globalImplicit) ∧ cap[i]? = some none)
  | [], _, i, x, k, _, hi => by simp at hi
  | (y, ky) :: r, [], i, x, k, h, hi => by simp [capOk] at h
  | (y, ky) :: r, o :: q, 0, x, k, h, hi => by
    simp at hi; obtain ⟨rfl, rfl⟩ := hi
    unfold capOk at h; rw [Bool.and_eq_true] at h
    cases ky <;> cases o <;> simp at h ⊢
    exact h.1
  | (y, ky) :: r, o :: q, i + 1, x, k, h, hi => by
    unfold capOk at h; rw [Bool.and_eq_true] at h
    simpa using capOk_at h.2 (by simpa using hi)
theorem capLV_get {cap : List (Option Nat)} {lv : LV} {i : Nat} {o : Option Nat} (h : cap[i]? = some o) : lvGet (capLV cap lv) i = o.bind (lvGet lv) := by
  unfold lvGet capLV
  rw [List.getD_eq_getElem?_getD, List.getElem?_map, h]
  rfl

noncomputable def E.comp (mi : ItDen) (cap : List (Option Nat)) (o : MObj) (mt : TDen) (mc : CDen) (mb : BDen) : Den := fun lv σ => match mi lv σ with
  | some ((src, vs), σ₁) => match compD mt mc mb src vs σ₁.length (capLV cap lv) (σ₁ ++ [o]) with
    | some (_, σ₂) => some (.loc σ₁.length, σ₂)
    | none => none
  | none => none

noncomputable def NewAcc (g : GG) (newAcc : Sem Value) (o : MObj) : Prop := ∀ (A : Around) (ρ : List Addr) (σ : Store) (s : Shared) (Q : Value → Shared → Prop), Sim g ρ σ s.heap →
  (∀ ob, ObjRep g (ρ ++ [s.heap.objs.size]) (s.heap.push ob) s.heap.objs.size o → Q (.ref s.heap.objs.size) { s with heap := s.heap.push ob }) → wpAny (model g.prog g.w) A newAcc Q noE s

section
variable {Xf : Env → Addr → Prop} {g : GG} {X Y own : Addr → Prop} {ρ ρ₁ : List Addr} {σ σ₁ : Store} {s s₁ s₂ : Shared} {A : Around} {h h' : Heap} {names cn : List (Str × NameKind)} {k : Nat} {env : Env} {lv lv₁ : LV}

theorem NewAcc.list : NewAcc g (newList []) (.list []) := by
  intro A ρ σ s Q S hQ
  exact wpAny_newObj_type (hQ _ ⟨Nat.zero_le _, [], 0, Heap.get?_push_size _ rfl, rfl⟩)
theorem NewAcc.dict : NewAcc g newDict (.dict []) := by
  intro A ρ σ s Q S hQ
  exact wpAny_newObj_type (hQ _ ⟨Nat.zero_le _, ⟨List.nodup_nil, fun p hp => by cases hp⟩, [], Heap.get?_push_size _ rfl, rfl⟩)

theorem EnvOk.comp {sc : Scope} {cap : List (Option Nat)} {C : Addr} (e : EnvOk g names env ρ lv h) (hk : sc.kind = .function) (hcn : crel names sc.names = cn) (hnd : (cn.map (·.1)).Nodup) (hpl : ∀ x ∈ cn, plainName x.1 = true)
    (hcell : ∀ x ∈ sc.names, x.2 ≠ .cell) (hcap : capOk names cn cap = true) (hC1 : g.base.get? C = none ∧ C ∉ ρ) (hC2 : h'.Ns C (fun _ => none)) (hC3 : h.get? C = none) (hkeep : ∀ b o, h.get? b = some o → h'.get? b = some o) :
    (∀ n, (n, NameKind.free) ∈ sc.names → ∃ c, env.cells.lookup n = some c) ∧
    EnvOk g cn { (newEnv sc C env.globals (closC env sc.names []) env.qual none .none (some env) builtinsNs) with scope := relabel sc env } ρ (capLV cap lv) h' := by
  have hfree : ∀ n, (n, NameKind.free) ∈ sc.names → ∃ c, env.cells.lookup n = some c := fun n hn => by
    obtain ⟨i, hi⟩ := List.mem_iff_getElem?.mp hn
    have h1 : cn[i]? = some (if (NameKind.free == NameKind.free && names.lookup n == some .cell) = true then (n, NameKind.cell) else (n, .free)) := by
      rw [← hcn]; unfold crel; rw [List.getElem?_map, hi]; rfl
    by_cases q : (NameKind.free == NameKind.free && names.lookup n == some .cell) = true
    · rw [if_pos q] at h1
      rcases capOk_at hcap h1 with ⟨_, j, _, hj⟩ | ⟨hh, _⟩
      · obtain ⟨c, ov, hc, _⟩ := e.cellAt j n _ hj (.inl rfl)
        exact ⟨c, hc⟩
      · rcases hh with hh | hh <;> cases hh
    · rw [if_neg q] at h1
      rcases capOk_at hcap h1 with ⟨hh, _⟩ | ⟨hh, _⟩
      · cases hh
      · rcases hh with hh | hh <;> cases hh
  have hcells : ∀ x c, (closC env sc.names []).lookup x = some c → env.cells.lookup x = some c := closC_sub sc.names [] hfree (fun x c hx => by cases hx)
  have hfromCell : ∀ (i : Nat) (x : Str), cn[i]? = some (x, NameKind.cell) → (x, NameKind.free) ∈ sc.names := fun i x hi => by
    rw [← hcn] at hi
    unfold crel at hi
    rw [List.getElem?_map] at hi
    obtain ⟨p, hp, hq⟩ := Option.map_eq_some_iff.mp hi
    obtain ⟨n, kd⟩ := p
    have hm := List.mem_of_getElem? hp
    by_cases q : (kd == NameKind.free && names.lookup n == some .cell) = true
    · simp only [q, if_true] at hq
      cases hq
      rw [Bool.and_eq_true] at q
      have : kd = .free := by simpa using q.1
      subst this; exact hm
    · simp only [q] at hq
      have hq' : (n, kd) = (x, NameKind.cell) := by simpa using hq
      cases hq'
      exact absurd rfl (hcell _ hm)
  refine ⟨hfree, ⟨?_, hk, e.globals, e.builtins, hnd, hpl, ?_, ⟨hC1.1, hC1.2⟩, ⟨_, hC2, fun i x hi => ?_⟩, fun i x kd hi hkd => ?_, fun x c hc => ?_, fun x y c hx hy => e.apart x y c (hcells x c hx) (hcells y c hy)⟩⟩
  · rw [← hcn]
    show sc.names.map _ = _
    unfold crel
    refine List.map_congr_left fun p _ => ?_
    obtain ⟨n, kd⟩ := p
    have hkd : env.kindOf n = names.lookup n := by unfold Env.kindOf; rw [e.hnames]
    simp [e.kind, hkd]
  · show (cap.map _).length = _
    simp [capOk_len hcap]
  · rcases capOk_at hcap hi with ⟨hh, _⟩ | ⟨_, hh⟩
    · cases hh
    · rw [capLV_get hh]; exact trivial
  · rcases hkd with rfl | rfl
    · rcases capOk_at hcap hi with ⟨_, j, h1, h2⟩ | ⟨hh, _⟩
      · obtain ⟨c, ov, h3, h4, h5⟩ := e.cellAt j x _ h2 (.inl rfl)
        obtain ⟨c', hc'⟩ := closC_has (env := env) sc.names [] x (.inl (hfromCell i x hi))
        have := hcells x c' hc'
        rw [h3] at this; cases this
        refine ⟨c, ov, hc', ?_, ?_⟩
        · obtain ⟨o, ho, hr⟩ := h4; exact ⟨o, hkeep _ _ ho, hr⟩
        · rw [capLV_get h1]
          show RepO g ρ h' (lvGet lv j) ov
          revert h5
          cases lvGet lv j <;> cases ov <;> intro q <;> first | exact q | exact (show RepV g ρ h' _ _ by simpa using RepV.grow (t := []) (g := g) (h := h) (fun b o e _ => hkeep b o e) (show RepV g ρ h _ _ from q))
      · rcases hh with hh | hh <;> cases hh
    · rcases capOk_at hcap hi with ⟨hh, _⟩ | ⟨hh, _⟩
      · cases hh
      · rcases hh with hh | hh <;> cases hh
  · obtain ⟨h1, h2, h3, ov, o, ho, hr⟩ := e.cellsOk x c (hcells x c hc)
    refine ⟨h1, h2, ?_, ov, o, hkeep _ _ ho, hr⟩
    show c ≠ C
    rintro rfl
    rw [hC3] at ho; cases ho
end
end Mini
end

section
namespace Mini
open PySem PySem.SeqAt PyProof.Rows

section
variable {Xf : Env → Addr → Prop} {g : GG} {X Y own : Addr → Prop} {ρ ρ₁ : List Addr} {σ σ₁ : Store} {s s₁ s₂ : Shared} {A : Around} {h h' : Heap} {names cn : List (Str × NameKind)} {k : Nat} {env : Env} {lv lv₁ : LV}

structure ScOk (names : List (Str × NameKind)) (sc : Scope) (cn : List (Str × NameKind)) (cap : List (Option Nat)) : Prop where
  kind : sc.kind = .function
  rel : crel names sc.names = cn
  nd : (cn.map (·.1)).Nodup
  pl : ∀ x ∈ cn, plainName x.1 = true
  nocell : ∀ x ∈ sc.names, x.2 ≠ .cell
  look : ∀ x ∈ sc.names, x.2 = .local → sc.names.lookup x.1 = some .local
  cap : capOk names cn cap = true

set_option tactic.hygienic true in
theorem comp_V {e target iter : Expr} {ifs : List Expr} {T : TR} {mi : ItDen} {mt : TDen} {mc : CDen} {mb : BDen} {tt : Bool} {cap : List (Option Nat)} {sc : Scope} {pos : Pos} {newAcc : Sem Value} {o : MObj} {v : V} {σ' : Store} {use : Option (Value → Sem Unit)} {Q : Value → Shared → Prop}
    (hcl : clausesOf e = [⟨target, iter, ifs, 0⟩]) (sh : TurnShape g e 0 target iter ifs T) (so : ScOk names sc cn cap) (hn : NewAcc g newAcc o)
    (hi : ItE g names k tt iter mi) (ht : TE Xloc g cn k target mt) (hc : CI g cn k ifs mc) (hb : EMS g cn k T mb) (h1 : isTgt target = true) (h2 : tt = true → isTup target = true) (hf : ∀ env x, foldedSetIterable iter env x = pure x)
    (R : Room k A) (en : EnvOk g names env ρ lv s.heap) (S : Sim g ρ σ s.heap) (hm : E.comp mi cap o mt mc mb lv σ = some (v, σ'))
    (hQ : ∀ C ρ' acc s', Step g noX ρ s s' ρ' → Sim g ρ' σ' s'.heap → RepV g ρ' s'.heap v acc → s.heap.get? C = none → C ∉ ρ' → g.base.get? C = none → (∃ m, s'.heap.Ns C m) → compPost (model g.prog g.w) A noE use Q acc C (.ok .next) s') :
    wpAny (model g.prog g.w) A (comprehension e sc env pos newAcc false (eval iter env) use) Q noE s := by
  unfold E.comp at hm
  split at hm
  · rename_i src vs σ₁ hmi
    split at hm
    · rename_i lv₂ σ₂ hd
      cases hm
      have hfree : ∀ n, (n, NameKind.free) ∈ sc.names → ∃ c, env.cells.lookup n = some c := fun n hn' => by
        obtain ⟨i, hi⟩ := List.mem_iff_getElem?.mp hn'
        have h1 : cn[i]? = some (if (NameKind.free == NameKind.free && names.lookup n == some NameKind.cell) = true then (n, NameKind.cell) else (n, .free)) := by
          rw [← so.rel]; unfold crel; rw [List.getElem?_map, hi]; rfl
        by_cases q : (NameKind.free == NameKind.free && names.lookup n == some NameKind.cell) = true
        · rw [if_pos q] at h1
          rcases capOk_at so.cap h1 with ⟨_, j, _, hj⟩ | ⟨hh, _⟩
          · obtain ⟨c, ov, hc, _⟩ := en.cellAt j n _ hj (.inl rfl)
            exact ⟨c, hc⟩
          · rcases hh with hh | hh <;> cases hh
        · rw [if_neg q] at h1
          rcases capOk_at so.cap h1 with ⟨hh, _⟩ | ⟨hh, _⟩
          · cases hh
          · rcases hh with hh | hh <;> cases hh
      have hclos : closureFor sc env = pure (closC env sc.names []) := closureFor_eq hfree
      refine wpAny_comprehension_free (cl := closC env sc.names []) hcl (hf env) hclos so.kind so.look (wpAny_mono (hi A env ρ lv σ s src vs σ₁ R en S hmi) (fun x s₁ P => wpAny_mono P (fun it s₂ P => ?_) noE_mono) noE_mono)
      obtain ⟨ρ₂, own, P, T2, S2, I, hP, hown⟩ := P
      refine hn A ρ₂ σ₁ s₂ _ S2 fun ob hob => ?_

      have hk3 : ∀ b o, s₂.heap.get? b = some o → (s₂.heap.push ob).get? b = some o := fun b o e => Heap.get?_push_of_some _ e
      have hnew := noNew s₂.heap
      have T3 : Step g noX ρ₂ s₂ { s₂ with heap := s₂.heap.push ob } (ρ₂ ++ [s₂.heap.objs.size]) := Step.alloc (tk := s₂.toks) hnew hk3
      have S3 : Sim g (ρ₂ ++ [s₂.heap.objs.size]) (σ₁ ++ [o]) (s₂.heap.push ob) := S2.alloc hnew S2.big hk3 hob
      have hP3 := I.keep noX ρ₂ s₂ { s₂ with heap := s₂.heap.push ob } (ρ₂ ++ [s₂.heap.objs.size]) vs hP T3 fun _ _ h => h
      have hl : (ρ₂ ++ [s₂.heap.objs.size])[σ₁.length]? = some s₂.heap.objs.size := by rw [← S2.len]; simp
      generalize s₂.heap.objs.size = a at hob hnew T3 S3 hP3 hl ⊢
      generalize hH : s₂.heap.push ob = H at hob hk3 T3 S3 hP3 ⊢
      generalize hρ : ρ₂ ++ [a] = ρ₃ at hob T3 S3 hP3 hl ⊢

      refine wpAny_newFunctionEnv (s := { s₂ with heap := H }) so.nocell (by intro y hy; simp at hy) (fun h₄ hns₄ hsb₄ => ?_) so.kind
      have hnewC : H.get? H.objs.size = none := noNew H
      obtain ⟨hC1, hC2⟩ := S3.newNotIn hnewC
      have hk4 : ∀ b o, H.get? b = some o → h₄.get? b = some o := fun b o e => hsb₄.extBut b o (Nat.ne_of_lt (Heap.lt_size e)) (Heap.get?_push_of_some _ e)
      have T4 : Step g noX ρ₃ { s₂ with heap := H } { s₂ with heap := h₄, toks := s₂.toks + ([] : List (Str × Value)).length } ρ₃ := Step.ext hk4
      have T24 : Step g noX ρ s { s₂ with heap := h₄, toks := s₂.toks + ([] : List (Str × Value)).length } ρ₃ := (T2.trans T3).trans T4
      have S4 : Sim g ρ₃ (σ₁ ++ [o]) h₄ := S3.ext hk4
      have e3 : EnvOk g names env ρ₃ lv H := (en.step' T2).step' T3
      obtain ⟨_, e4⟩ := e3.comp (h' := h₄) (C := H.objs.size) so.kind so.rel so.nd so.pl so.nocell so.cap ⟨hC2, hC1⟩ (by simpa using hns₄) hnewC hk4
      have hCs : s.heap.get? H.objs.size = none := (T2.trans T3).notLive hnewC
      have hP4 := I.keep noX ρ₃ { s₂ with heap := H } { s₂ with heap := h₄, toks := s₂.toks + ([] : List (Str × Value)).length } ρ₃ vs hP3 T4 fun _ _ h => h
      have hbi : env.builtins = builtinsNs := en.builtins

      have n1 : ¬ own H.objs.size := fun q => by
        obtain ⟨o', ho'⟩ := I.live _ _ _ hP3 _ q
        exact Nat.lt_irrefl _ (Heap.lt_size ho')
      have n2 : ∀ x c, (closC env sc.names []).lookup x = some c → ¬ own c := fun x c hc q => by
        have hc' := closC_sub sc.names [] hfree (fun x c hx => by cases hx) x c hc
        obtain ⟨_, _, _, ov, h4⟩ := en.cellsOk x c hc'
        obtain ⟨o', ho', _⟩ := notImm_cell h4
        rw [hown _ q] at ho'; cases ho'
      have loop : codeAny (model g.prog g.w) A (.compLoop e 0 it (.ref a) { (newEnv sc H.objs.size env.globals (closC env sc.names []) env.qual none .none (some env) builtinsNs) with scope := relabel sc env })
          (compPost (model g.prog g.w) A noE use Q (.ref a) H.objs.size) { s₂ with heap := h₄, toks := s₂.toks + ([] : List (Str × Value)).length } := by
        refine compLoop_V (X := noX) (own := own) sh ht hc hb h1 h2 R e4 S4 I hP4 n1 n2 T24 hown hl hd fun ρ' s' T5 S5 e5 ha5 => ?_
        obtain ⟨m5, hm5, _⟩ := e5.ns
        exact hQ H.objs.size ρ' (.ref a) s' (T5.drop fun b hb => .inr (by
          rcases hb with hb | rfl
          · exact hb.elim
          · exact hCs)) S5 ⟨a, rfl, ha5⟩ hCs e5.fresh.2 e5.fresh.1 ⟨m5, hm5⟩
      exact sh.start A it a _ _ _ loop (I.self A vs ρ₃ _ _ hP4 loop)
    · cases hm
  · cases hm
end
end Mini
end

section
namespace Mini
open PySem PySem.SeqAt PyProof.Rows

section
variable {Xf : Env → Addr → Prop} {g : GG} {X Y own : Addr → Prop} {ρ ρ₁ : List Addr} {σ σ₁ : Store} {s s₁ s₂ : Shared} {A : Around} {h h' : Heap} {names cn : List (Str × NameKind)} {k : Nat} {env : Env} {lv lv₁ : LV}

theorem frame_goes {C : Addr} {m : Str → Option Value} (T : Step g Y ρ s s₁ ρ₁) (hns : s₁.heap.Ns C m) (hs : Heap.SameBut C s₁.heap h') (hCρ : C ∉ ρ₁) (hCb : g.base.get? C = none) (hCs : s.heap.get? C = none) (S : Sim g ρ₁ σ s₁.heap) :
    Step g Y ρ s { s₁ with heap := h' } ρ₁ ∧ Sim g ρ₁ σ h' ∧ Apart g (fun b => b = C) ρ₁ s₁.heap ∧ (∀ b o, s₁.heap.get? b = some o → ¬ (b = C) → h'.get? b = some o) := by
  obtain ⟨o, ho, hi⟩ := notImm_ns hns
  have keep : ∀ b o, s₁.heap.get? b = some o → ¬ (b = C) → h'.get? b = some o := fun b o e hn => (hs.2 b hn).trans e
  have a : Apart g (fun b => b = C) ρ₁ s₁.heap := own1 hCρ hCb ho hi
  exact ⟨T.andEnd ⟨⟨h', s₁.toks, rfl⟩, keep⟩ (fun b hb => hb ▸ hCs) fun b hb => .inl hb, S.keepBut a keep, a, keep⟩

theorem SE.comp {e target iter : Expr} {ifs : List Expr} {T : TR} {mi : ItDen} {mt : TDen} {mc : CDen} {mb : BDen} {tt : Bool} {cap : List (Option Nat)} {sc : Scope} {pos : Pos} {newAcc : Sem Value} {o : MObj}
    (hev : ∀ env, eval e env = comprehension e sc env pos newAcc false (eval iter env) none)
    (hcl : clausesOf e = [⟨target, iter, ifs, 0⟩]) (sh : TurnShape g e 0 target iter ifs T) (so : ScOk names sc cn cap) (hn : NewAcc g newAcc o)
    (hi : ItE g names k tt iter mi) (ht : TE Xloc g cn k target mt) (hc : CI g cn k ifs mc) (hb : EMS g cn k T mb) (h1 : isTgt target = true) (h2 : tt = true → isTup target = true) (hf : ∀ env x, foldedSetIterable iter env x = pure x) :
    SE g names k e (E.comp mi cap o mt mc mb) := by
  intro A env ρ lv σ s v σ' R en S hm
  rw [hev]
  refine comp_V hcl sh so hn hi ht hc hb h1 h2 hf R en S hm fun C ρ' acc s' T' S' ra hCs hCρ hCb hm' => ?_
  obtain ⟨m, hm'⟩ := hm'
  refine ⟨m, hm', fun h' hs => ?_⟩
  obtain ⟨T2, S2, a, keep⟩ := frame_goes T' hm' hs hCρ hCb hCs S'
  exact ⟨ρ', T2, S2, by simpa using RepV.grow (t := []) (a.grow keep) ra⟩

theorem SE.listComp {elt target iter : Expr} {ifs : List Expr} {mi : ItDen} {mt : TDen} {mc : CDen} {m : Den} {tt : Bool} {cap : List (Option Nat)} {sc : Scope} {pos : Pos} (so : ScOk names sc cn cap)
    (hi : ItE g names k tt iter mi) (ht : TE Xloc g cn k target mt) (hc : CI g cn k ifs mc) (he : SE g cn k elt m) (h1 : isTgt target = true := by rfl) (h2 : tt = true → isTup target = true := by intro h; first | rfl | cases h)
    (hf : ∀ env x, foldedSetIterable iter env x = pure x := by intro _ _; rfl) : SE g names k (.ListComp elt [⟨target, iter, ifs, 0⟩] sc pos) (E.comp mi cap (.list []) mt mc (B.app m)) :=
  SE.comp (fun _ => rfl) rfl shape_list so NewAcc.list hi ht hc (EMS.app he) h1 h2 hf

theorem SE.dictComp {kx vx target iter : Expr} {ifs : List Expr} {mi : ItDen} {mt : TDen} {mc : CDen} {mk mv : Den} {tt : Bool} {cap : List (Option Nat)} {sc : Scope} {pos : Pos} (so : ScOk names sc cn cap)
    (hi : ItE g names k tt iter mi) (ht : TE Xloc g cn k target mt) (hc : CI g cn k ifs mc) (hk : SE g cn k kx mk) (hv : SE g cn k vx mv) (h1 : isTgt target = true := by rfl) (h2 : tt = true → isTup target = true := by intro h; first | rfl | cases h)
    (hf : ∀ env x, foldedSetIterable iter env x = pure x := by intro _ _; rfl) : SE g names k (.DictComp kx vx [⟨target, iter, ifs, 0⟩] sc pos) (E.comp mi cap (.dict []) mt mc (B.put mk mv)) :=
  SE.comp (fun _ => rfl) rfl shape_dict so NewAcc.dict hi ht hc (EMS.put hk hv) h1 h2 hf

set_option tactic.hygienic true in
theorem S1.compUse {e target iter : Expr} {ifs : List Expr} {T : TR} {mi : ItDen} {mt : TDen} {mc : CDen} {mb : BDen} {tt : Bool} {cap : List (Option Nat)} {sc : Scope} {pos spos py : Pos} {newAcc : Sem Value} {o : MObj} {i : Nat} {y : Str}
    (hev : ∀ env use, evalThenUse e env use = (comprehension e sc env pos newAcc false (eval iter env) (some use) >>= fun _ => pure ()))
    (hcl : clausesOf e = [⟨target, iter, ifs, 0⟩]) (sh : TurnShape g e 0 target iter ifs T) (so : ScOk names sc cn cap) (hn : NewAcc g newAcc o)
    (hi : ItE g names k tt iter mi) (ht : TE Xloc g cn k target mt) (hc : CI g cn k ifs mc) (hb : EMS g cn k T mb) (h1 : isTgt target = true) (h2 : tt = true → isTup target = true) (hf : ∀ env x, foldedSetIterable iter env x = pure x)
    (hy : names[i]? = some (y, .local)) (hs : swB names (.Name y py) e = true) :
    S1 g names k (.Assign [.Name y py] e spos) (D.assign (Mini.T.var i) (E.comp mi cap o mt mc mb)) := by
  intro A env ρ lv σ s f lv' σ' R en S hm
  unfold D.assign at hm
  split at hm
  · rename_i v σ₁ hv
    obtain ⟨⟨lv₁, σ₂⟩, h3, h4⟩ := Option.map_eq_some_iff.mp hm
    cases h4
    cases h3
    rw [exec_Assign_Name_used _ _ _ _ (by rw [swapsWith_eq en.hnames en.kind, hs])]
    refine wpAny_bind (wpAny_standAt (wpAny_bind ?_))
    rw [hev]
    refine wpAny_bind (wpAny_mono (comp_V (Q := fun _ s' => SPost g names env ρ s .nx (lvSet lv i v) σ₁ .next s') hcl sh so hn hi ht hc hb h1 h2 hf R en S hv fun C ρ' acc s' T' S' ra hCs hCρ hCb hm' => ?_) (fun _ s'' P => wpAny_pure (wpAny_pure P)) noE_mono)
    obtain ⟨m, hm'⟩ := hm'
    show wpAny _ _ (PySem.assign (.Name y py) env acc) _ _ _
    refine wpAny_mono (TE.loc (k := k) hy A env ρ' lv σ₁ s' v acc _ _ R (en.step' T') S' ra rfl) (fun _ s'' P => ?_) noE_mono
    obtain ⟨ρ₂, T2, S2, e2⟩ := P
    have hCL : C ≠ env.locals := by
      rintro rfl
      obtain ⟨m0, hm0, _⟩ := en.ns
      obtain ⟨o0, ho0, _⟩ := notImm_ns hm0
      rw [hCs] at ho0; cases ho0
    have hm2 : s''.heap.Ns C m := T2.Ns hCρ (fun q => hCL q) hm'
    obtain ⟨oC, hoC, _⟩ := notImm_ns hm'
    have hCρ2 : C ∉ ρ₂ := T2.notIn hoC hCρ
    refine ⟨m, hm2, fun h' hsb => ?_⟩
    have T02 : Step g (Xenv names env) ρ s s'' ρ₂ := (T'.mono fun _ h => h.elim).trans (T2.mono fun b hb => .inl hb)
    obtain ⟨T3, S3, a, keep⟩ := frame_goes T02 hm2 hsb hCρ2 hCb hCs S2
    obtain ⟨n1, n2, _⟩ := en.notOwn (own := fun b => b = C) fun b hb => hb ▸ hCs
    exact ⟨ρ₂, T3, S3, e2.keepBut a keep n1 n2, rfl⟩
  · cases hm

theorem S1.listUse {elt target iter : Expr} {ifs : List Expr} {mi : ItDen} {mt : TDen} {mc : CDen} {m : Den} {tt : Bool} {cap : List (Option Nat)} {sc : Scope} {pos spos py : Pos} {i : Nat} {y : Str} (so : ScOk names sc cn cap)
    (hi : ItE g names k tt iter mi) (ht : TE Xloc g cn k target mt) (hc : CI g cn k ifs mc) (he : SE g cn k elt m) (hy : names[i]? = some (y, .local)) (hs : swB names (.Name y py) (.ListComp elt [⟨target, iter, ifs, 0⟩] sc pos) = true)
    (h1 : isTgt target = true := by rfl) (h2 : tt = true → isTup target = true := by intro h; first | rfl | cases h) (hf : ∀ env x, foldedSetIterable iter env x = pure x := by intro _ _; rfl) :
    S1 g names k (.Assign [.Name y py] (.ListComp elt [⟨target, iter, ifs, 0⟩] sc pos) spos) (D.assign (Mini.T.var i) (E.comp mi cap (.list []) mt mc (B.app m))) :=
  S1.compUse (fun _ _ => rfl) rfl shape_list so NewAcc.list hi ht hc (EMS.app he) h1 h2 hf hy hs
end
end Mini
end

section
namespace Mini
open PySem PySem.SeqAt PyProof.Rows

noncomputable def pidxOk (ps : List Str) : List (Str × NameKind) → List (Option Nat) → Bool
  | [], [] => true
  | (x, k) :: r, o :: q => (match o with
    | some j => decide (ps[j]? = some x) && (k == .local || k == .cell)
    | none => !ps.contains x) && pidxOk ps r q
  | _, _ => false
noncomputable def lv0 (pidx : List (Option Nat)) (vs : List V) : LV := pidx.map fun o => o.bind fun j => vs[j]?

noncomputable def F.den (n : Nat) (pidx : List (Option Nat)) (mb : SDen) : FDen := fun vs σ => if vs.length = n then
    match mb (lv0 pidx vs) σ with
    | some (.rt v, _, σ') => some (v, σ')
    | some (.nx, _, σ') => some (.none, σ')
    | _ => none
  else none

theorem lenZ {P : List Value → Prop} (h : P []) (us : List Value) (e : us.length = 0) : P us := by
  rw [List.eq_nil_of_length_eq_zero e]; exact h
theorem lenS {n : Nat} {P : List Value → Prop} (h : ∀ (a : Value) (t : List Value), t.length = n → P (a :: t)) (us : List Value) (e : us.length = n + 1) : P us := by
  obtain ⟨a, t, rfl⟩ := List.exists_cons_of_length_eq_add_one e
  exact h a t (Nat.succ.inj e)

structure DefOk (name : Str) (params : Arguments) (body : List Stmt) (sc : Scope) (ps : List Str) (pidx : List (Option Nat)) : Prop where
  bind : ∀ (pm cd doc : Value) (us : List Value), us.length = ps.length → bindArgs (Calls.docDef name params body sc pm cd doc) ⟨us, []⟩ = pure (ps.zip us)
  ndp : ps.Nodup
  kindP : ∀ x ∈ ps, sc.names.lookup x = some .local ∨ sc.names.lookup x = some .cell
  pidx : pidxOk ps sc.names pidx = true
  nd : (sc.names.map (·.1)).Nodup
  pl : ∀ x ∈ sc.names, plainName x.1 = true
  nofree : ∀ x ∈ sc.names, x.2 ≠ .free
  kind : sc.kind = .function
  co : sc.isCoroutine = false
  gen : sc.isGenerator = false

section
variable {g : GG} {X Y own : Addr → Prop} {ρ ρ₁ : List Addr} {σ σ₁ : Store} {s s₁ s₂ : Shared} {A : Around} {h h' : Heap} {names cn : List (Str × NameKind)} {k : Nat} {env : Env} {lv lv₁ : LV}

theorem pidxOk_len {ps : List Str} : ∀ {ns : List (Str × NameKind)} {pidx : List (Option Nat)}, pidxOk ps ns pidx = true → pidx.length = ns.length
  | [], [], _ => rfl
  | (x, k) :: r, o :: q, h => by
    unfold pidxOk at h; rw [Bool.and_eq_true] at h
    simp [pidxOk_len h.2]
  | [], _ :: _, h => by simp [pidxOk] at h
  | (_, _) :: _, [], h => by simp [pidxOk] at h
theorem pidxOk_at {ps : List Str} : ∀ {ns : List (Str × NameKind)} {pidx : List (Option Nat)} {i : Nat} {x : Str} {k : NameKind}, pidxOk ps ns pidx = true → ns[i]? = some (x, k) →
    (∃ j, pidx[i]? = some (some j) ∧ ps[j]? = some x ∧ (k = .local ∨ k = .cell)) ∨ (pidx[i]? = some none ∧ x ∉ ps)
  | [], _, i, x, k, _, hi => by simp at hi
  | (y, ky) :: r, [], i, x, k, h, hi => by simp [pidxOk] at h
  | (y, ky) :: r, o :: q, 0, x, k, h, hi => by
    simp at hi; obtain ⟨rfl, rfl⟩ := hi
    unfold pidxOk at h; rw [Bool.and_eq_true] at h
    cases o with
    | none => right; simpa using h.1
    | some j => left; exact ⟨j, rfl, by simpa using h.1⟩
  | (y, ky) :: r, o :: q, i + 1, x, k, h, hi => by
    unfold pidxOk at h; rw [Bool.and_eq_true] at h
    simpa using pidxOk_at h.2 (by simpa using hi)
theorem lv0_get {pidx : List (Option Nat)} {vs : List V} {i : Nat} {o : Option Nat} (h : pidx[i]? = some o) : lvGet (lv0 pidx vs) i = o.bind fun j => vs[j]? := by
  unfold lvGet lv0
  rw [List.getD_eq_getElem?_getD, List.getElem?_map, h]
  rfl

theorem bindL_out {kf : Str → Option NameKind} {x : Str} : ∀ {ps : List Str} {us : List Value} {m : Str → Option Value}, x ∉ ps → bindL kf (ps.zip us) m x = m x
  | [], us, m, _ => by cases us <;> rfl
  | p :: ps, [], m, _ => rfl
  | p :: ps, u :: us, m, hx => by
    rw [List.mem_cons, not_or] at hx
    show bindL kf (ps.zip us) _ x = m x
    rw [bindL_out hx.2]
    split
    · exact if_neg hx.1
    · rfl
theorem bindL_in {kf : Str → Option NameKind} {x : Str} (hk : kf x = some .local) : ∀ {ps : List Str} {us : List Value} {m : Str → Option Value} {j : Nat} {u : Value}, ps.Nodup → ps[j]? = some x → us[j]? = some u → bindL kf (ps.zip us) m x = some u
  | [], us, m, j, u, _, h, _ => by simp at h
  | p :: ps, [], m, j, u, _, _, h => by simp at h
  | p :: ps, w :: us, m, 0, u, hn, h, hu => by
    simp at h hu; subst h; subst hu
    show bindL kf (ps.zip us) _ p = _
    rw [bindL_out (List.nodup_cons.mp hn).1, if_pos hk, if_pos rfl]
  | p :: ps, w :: us, m, j + 1, u, hn, h, hu => by
    show bindL kf (ps.zip us) _ x = _
    exact bindL_in hk (List.nodup_cons.mp hn).2 (by simpa using h) (by simpa using hu)
theorem bindC_out {kf : Str → Option NameKind} {x : Str} : ∀ {ps : List Str} {us : List Value} {m : Str → Option Value}, x ∉ ps → bindC kf (ps.zip us) m x = m x
  | [], us, m, _ => by cases us <;> rfl
  | p :: ps, [], m, _ => rfl
  | p :: ps, u :: us, m, hx => by
    rw [List.mem_cons, not_or] at hx
    show bindC kf (ps.zip us) _ x = m x
    rw [bindC_out hx.2]
    split
    · rfl
    · exact if_neg hx.1
theorem bindC_in {kf : Str → Option NameKind} {x : Str} (hk : ¬ kf x = some .local) : ∀ {ps : List Str} {us : List Value} {m : Str → Option Value} {j : Nat} {u : Value}, ps.Nodup → ps[j]? = some x → us[j]? = some u → bindC kf (ps.zip us) m x = some u
  | [], us, m, j, u, _, h, _ => by simp at h
  | p :: ps, [], m, j, u, _, _, h => by simp at h
  | p :: ps, w :: us, m, 0, u, hn, h, hu => by
    simp at h hu; subst h; subst hu
    show bindC kf (ps.zip us) _ p = _
    rw [bindC_out (List.nodup_cons.mp hn).1, if_neg hk, if_pos rfl]
  | p :: ps, w :: us, m, j + 1, u, hn, h, hu => by
    show bindC kf (ps.zip us) _ x = _
    exact bindC_in hk (List.nodup_cons.mp hn).2 (by simpa using h) (by simpa using hu)

set_option tactic.hygienic true in
theorem cellsFrom_has : ∀ {ns : List (Str × NameKind)} {n : Nat} {acc : List (Str × Addr)} {x : Str}, ((x, NameKind.cell) ∈ ns ∨ ∃ c, acc.lookup x = some c) → ∃ c, (cellsFrom n ns acc).lookup x = some c
  | [], n, acc, x, h => by
    rcases h with h | h
    · cases h
    · exact h
  | (y, ky) :: r, n, acc, x, h => by
    unfold cellsFrom
    split
    · refine cellsFrom_has ?_
      by_cases q : x = y
      · right; subst q; exact ⟨n, by rw [List.lookup_cons]; simp⟩
      · rcases h with h | ⟨c, hc⟩
        · rcases List.mem_cons.mp h with h | h
          · cases h; exact absurd rfl q
          · exact .inl h
        · right; exact ⟨c, by rw [List.lookup_cons, beq_eq_false_iff_ne.mpr q]; exact hc⟩
    · rename_i hk
      refine cellsFrom_has ?_
      rcases h with h | h
      · rcases List.mem_cons.mp h with h | h
        · cases h; simp at hk
        · exact .inl h
      · exact .inr h

theorem Room.deeper {A : Around} (r : Room (k + 1) A) (env : Env) : Room k (A.deeper env) :=
  ⟨r.hh, by have := r.depth; show A.depth + 1 + k < 600; lia, by have := r.units; show A.units + 3 + 20 * k < 8000; lia⟩

theorem EnvOk.call {name : Str} {params : Arguments} {body : List Stmt} {sc : Scope} {ps : List Str} {pidx : List (Option Nat)} {vs : List V} {us : List Value} {a : Addr} {cd : Value} {h₁ : Heap}
    (D : DefOk name params body sc ps pidx) (S : Sim g ρ σ s.heap) (hr : RepVs g ρ s.heap vs us) (hlen : us.length = ps.length)
    (F : Fr s.heap s.heap.objs.size h₁ (bindL (envOfC name sc s.heap.objs.size a cd).kindOf (ps.zip us) fun _ => none))
    (C : Cl s.heap.objs.size (cellsFrom (s.heap.objs.size + 1) sc.names []) h₁ (bindC (envOfC name sc s.heap.objs.size a cd).kindOf (ps.zip us) fun _ => none)) :
    EnvOk g sc.names (envOfC name sc s.heap.objs.size a cd) ρ (lv0 pidx vs) h₁ := by
  have hko : ∀ (i : Nat) (x : Str) (kd : NameKind), sc.names[i]? = some (x, kd) → (envOfC name sc s.heap.objs.size a cd).kindOf x = some kd := fun i x kd hi => lookup_of_get D.nd hi
  have G : Grow g s.heap h₁ := fun b o e _ => F.keep b o e
  have hv : ∀ {j : Nat} {v : V}, vs[j]? = some v → ∃ u, us[j]? = some u ∧ RepV g ρ h₁ v u := fun {j v} hj => by
    obtain ⟨u, hu, hru⟩ := hr.get hj
    exact ⟨u, hu, by simpa using RepV.grow (t := []) G hru⟩
  have hfresh : ∀ b, s.heap.objs.size ≤ b → s.heap.get? b = none := fun b hb => by
    cases q : s.heap.get? b with
    | none => rfl
    | some o => exact absurd (Heap.lt_size q) (Nat.not_lt.mpr hb)
  have hL := S.newNotIn (hfresh _ (Nat.le_refl _))
  have hone : ∀ {i : Nat} {x : Str} {kd : NameKind} {j : Nat}, sc.names[i]? = some (x, kd) → pidx[i]? = some (some j) → ps[j]? = some x → ∃ v u, vs[j]? = some v ∧ us[j]? = some u ∧ RepV g ρ h₁ v u := fun {i x kd j} _ _ hj => by
    have hjl : j < vs.length := by
      have := (List.getElem?_eq_some_iff.mp hj).1
      rw [← hr.length, hlen]; exact this
    obtain ⟨u, hu, hru⟩ := hv (List.getElem?_eq_getElem hjl)
    exact ⟨_, u, List.getElem?_eq_getElem hjl, hu, hru⟩
  refine ⟨rfl, D.kind, rfl, rfl, D.nd, D.pl, ?_, ⟨hL.2, hL.1⟩, ⟨_, F.ns, fun i x hi => ?_⟩, fun i x kd hi hkd => ?_, fun x c hc => ?_, fun x y c hx hy => ?_⟩
  · unfold lv0; simp [pidxOk_len D.pidx]
  · rcases pidxOk_at D.pidx hi with ⟨j, h1, h2, _⟩ | ⟨h1, h2⟩
    · obtain ⟨v, u, hv', hu, hru⟩ := hone hi h1 h2
      rw [lv0_get h1, bindL_in (hko i x _ hi) D.ndp h2 hu]
      show RepO g ρ h₁ (vs[j]?) (some u)
      rw [hv']; exact hru
    · rw [lv0_get h1, bindL_out h2]; exact trivial
  · have hkc : kd = .cell := by
      rcases hkd with rfl | rfl
      · rfl
      · exact absurd rfl (D.nofree _ (List.mem_of_getElem? hi))
    subst hkc
    obtain ⟨c, hc⟩ := cellsFrom_has (n := s.heap.objs.size + 1) (acc := []) (.inl (List.mem_of_getElem? hi))
    refine ⟨c, _, hc, C.cell x c hc, ?_⟩
    rcases pidxOk_at D.pidx hi with ⟨j, h1, h2, _⟩ | ⟨h1, h2⟩
    · obtain ⟨v, u, hv', hu, hru⟩ := hone hi h1 h2
      rw [lv0_get h1, bindC_in (by rw [hko i x _ hi]; decide) D.ndp h2 hu]
      show RepO g ρ h₁ (vs[j]?) (some u)
      rw [hv']; exact hru
    · rw [lv0_get h1, bindC_out h2]; exact trivial
  · have hab := C.above x c (mem_of_lookup hc)
    have hL' := S.newNotIn (hfresh c (Nat.le_of_lt hab))
    exact ⟨hL'.2, hL'.1, Nat.ne_of_gt hab, _, C.cell x c hc⟩
  · exact name_of_addr C.apart (mem_of_lookup hx) (mem_of_lookup hy)

set_option tactic.hygienic true in
theorem CallS.fn {name : Str} {params : Arguments} {body : List Stmt} {sc : Scope} {ps : List Str} {pidx : List (Option Nat)} {mb : SDen} {a : Addr} {o : Obj} {pm cd doc : Value}
    (D : DefOk name params body sc ps pidx) (hb : SS g sc.names k body mb) (ho : g.base.get? a = some o) (hdata : o.data = .func (Calls.docDef name params body sc pm cd doc)) (hlim : g.base.NoLimit) (hcd : g.base.CodeRec cd name) :
    CallS g (k + 1) (.ref a) (F.den ps.length pidx mb) := by
  intro A ρ σ s vs us r σ' R S hr hm
  unfold F.den at hm
  split at hm
  · rename_i hlen
    have hlen' : us.length = ps.length := by rw [hr.length, hlen]
    refine wpAny_call (call_cells_ret (by have := R.depth; have : recursionLimit = 1000 := rfl; lia) (S.base _ _ ho) hdata (hlim.keeps S.base) (hcd.keeps S.base) (D.bind pm cd doc us hlen') ?_ ?_ D.co D.gen D.kind)
    · intro x hx
      have hx' : x.1 ∈ ps := (List.of_mem_zip (show (x.1, x.2) ∈ ps.zip us from hx)).1
      rcases D.kindP x.1 hx' with h1 | h1
      · exact .inl h1
      · refine .inr ⟨h1, ?_⟩
        have hmem : (x.1, NameKind.cell) ∈ sc.names := mem_of_lookup h1
        obtain ⟨c, hc⟩ := cellsFrom_has (n := s.heap.objs.size + 1) (acc := []) (.inl hmem)
        rw [hc]; rfl
    · intro h₁ tk F C
      have e := EnvOk.call (a := a) (cd := cd) D S hr hlen' F C
      have T : Step g noX ρ s { s with heap := h₁, toks := tk } ρ := Step.ext F.keep
      have S₁ : Sim g ρ σ h₁ := S.ext F.keep
      have hX : ∀ b, Xenv sc.names (envOfC name sc s.heap.objs.size a cd) b → noX b ∨ s.heap.get? b = none := fun b hb => .inr (by
        cases q : s.heap.get? b with
        | none => rfl
        | some ob =>
          have hlt := Heap.lt_size q
          rcases hb with rfl | ⟨x, _, hx⟩
          · exact absurd hlt (Nat.lt_irrefl _)
          · exact absurd (Nat.lt_trans hlt (C.above x b (mem_of_lookup hx))) (Nat.lt_irrefl _))
      split at hm
      · rename_i v lv' σ₂ hmb
        cases hm
        refine wpAny_mono (hb (A.deeper _) _ ρ _ σ { s with heap := h₁, toks := tk } _ _ _ (R.deeper _) e S₁ hmb) (fun fl s' P => ?_) fun _ _ h => h
        obtain ⟨ρ', T', S', e', u, rfl, ru⟩ := P
        exact ⟨ρ', ((T.mono fun _ h => h.elim).trans T').drop hX, S', ru⟩
      · rename_i lv' σ₂ hmb
        cases hm
        refine wpAny_mono (hb (A.deeper _) _ ρ _ σ { s with heap := h₁, toks := tk } _ _ _ (R.deeper _) e S₁ hmb) (fun fl s' P => ?_) fun _ _ h => h
        obtain ⟨ρ', T', S', e', hfl⟩ := P
        cases hfl
        exact ⟨ρ', ((T.mono fun _ h => h.elim).trans T').drop hX, S', rfl⟩
      · cases hm
  · cases hm
end
end Mini
end

section
namespace Mini
open PySem PySem.SeqAt PyProof.Rows PySem.W

noncomputable def kRun {α : Type} (cmp : Nat → Nat → Option Bool) : KasT α → Option α
  | .ret a => some a
  | .ask i j k => match cmp i j with
    | some b => kRun cmp (k b)
    | none => none

set_option tactic.hygienic true in
theorem kRun_wp {α : Type} {cmp : Nat → Nat → Option Bool} {cp : Nat → Nat → (Bool → Shared → Prop) → Shared → Prop} {R : Shared → Prop} {Q : α → Shared → Prop} {a : α}
    (hc : ∀ i j b s', R s' → cmp i j = some b → ∀ C : Bool → Shared → Prop, (∀ s'', R s'' → C b s'') → cp i j C s') (hQ : ∀ s', R s' → Q a s') :
    ∀ (t : KasT α) (s : Shared), kRun cmp t = some a → R s → t.kasWp cp Q s
  | .ret _, s, h, hs => by cases h; exact hQ s hs
  | .ask i j k, s, h, hs => by
    unfold kRun at h
    split at h
    · rename_i b hb
      exact hc i j b s hs hb _ fun s'' hs'' => kRun_wp hc hQ (k b) s'' h hs''
    · cases h

noncomputable def pairLt : V → V → Option Bool
  | .tup [.int a, .int b], .tup [.int c, .int d] => some (if a = c then decide (b < d) else decide (a < c))
  | _, _ => none
noncomputable def isPair : V → Bool
  | .tup [.int _, .int _] => true
  | _ => false
theorem isPair_iff {v : V} (h : isPair v = true) : ∃ a b, v = .tup [.int a, .int b] := by
  unfold isPair at h
  split at h
  · exact ⟨_, _, rfl⟩
  · cases h
noncomputable def cmpAt (vs : List V) (i j : Nat) : Option Bool := match vs[i]?, vs[j]? with
  | some x, some y => pairLt x y
  | _, _ => none
noncomputable def sortV (vs : List V) : Option (List V) :=
  if vs.length < 2 then some vs
  else if vs.length < 64 ∧ vs.all isPair = true then (kRun (cmpAt vs) (kas_sort vs.length)).map fun p => p.toList.map fun i => vs.getD i .none
  else none

section
variable {g : GG} {ρ ρ₁ : List Addr} {σ σ₁ : Store} {s s₁ s₂ : Shared} {A : Around} {h h' : Heap}

theorem RepVs.getD {vs : List V} {us : List Value} (r : RepVs g ρ h vs us) (i : Nat) : RepV g ρ h (vs.getD i .none) (us.getD i .none) := by
  rw [List.getD_eq_getElem?_getD, List.getD_eq_getElem?_getD]
  cases hv : vs[i]? with
  | none =>
    have : us[i]? = none := by rw [List.getElem?_eq_none_iff] at hv ⊢; rw [r.length]; exact hv
    rw [this]; exact (rfl : Value.none = Value.none)
  | some v =>
    obtain ⟨u, hu, hr⟩ := r.get hv
    rw [hu]; exact hr
theorem RepVs.map {α : Type} {f : α → V} {k : α → Value} (hf : ∀ a, RepV g ρ h (f a) (k a)) : ∀ l : List α, RepVs g ρ h (l.map f) (l.map k)
  | [] => rfl
  | a :: l => ⟨_, _, rfl, hf a, RepVs.map hf l⟩

set_option tactic.hygienic true in
theorem keyLt_pair {x y : V} {u v : Value} {b : Bool} {C : Bool → Shared → Prop} (rx : RepV g ρ s.heap x u) (ry : RepV g ρ s.heap y v) (hb : pairLt x y = some b) (hC : ∀ tk, C b { s with toks := tk }) :
    wpAny (model g.prog g.w) A (keyLt' (tuples' true) u v) C (fun _ _ => False) s := by
  unfold pairLt at hb
  split at hb
  · rename_i a1 a2 c1 c2
    obtain ⟨l, us, rfl, ⟨n, ho⟩, hr⟩ := rx
    obtain ⟨l', us', rfl, ⟨n', ho'⟩, hr'⟩ := ry
    obtain ⟨w1, _, rfl, ⟨t1, rfl⟩, w2, _, rfl, ⟨t2, rfl⟩, hn⟩ := hr
    obtain ⟨w3, _, rfl, ⟨t3, rfl⟩, w4, _, rfl, ⟨t4, rfl⟩, hn'⟩ := hr'
    cases hn; cases hn'
    cases hb
    refine kat_lt (s := s) ho rfl ho' rfl ?_
    show KatLex _ _ _ _ _ _ [(Value.int a1 t1, Value.int c1 t3), (Value.int a2 t2, Value.int c2 t4)] 0 s
    refine kat_cons (wpAny_eqBool_int ?_)
    by_cases h1 : a1 = c1
    · subst h1
      rw [show (a1 == a1) = true by simp]
      refine kat_yes (kat_cons (wpAny_eqBool_int ?_))
      by_cases h2 : a2 = c2
      · subst h2
        rw [show (a2 == a2) = true by simp]
        refine kat_yes (kat_nil ?_)
        have := hC s.toks
        simpa using this
      · rw [show (a2 == c2) = false by simpa using h2]
        refine kat_no ?_
        show wpAny _ _ (oneLt' false _ _) _ _ _
        refine kat_one _ _ (PySem.wpAny_lt_int ?_)
        show C (decide (a2 < c2)) s
        have := hC s.toks
        simpa using this
    · rw [show (a1 == c1) = false by simpa using h1]
      refine kat_no ?_
      show wpAny _ _ (oneLt' true _ _) _ _ _
      refine oneLt_int ?_
      have := hC s.toks
      simpa [h1] using this
  · cases hb

theorem kind_pairs {vs : List V} {us : List Value} {Q : SortKind → Shared → Prop} (r : RepVs g ρ s.heap vs us) (hp : vs.all isPair = true) (hne : 0 < vs.length) (hq : Q (tuples' true) s) :
    wpAny (model g.prog g.w) A (keyKind' us.toArray) Q (fun _ _ => False) s := by
  have key : ∀ (vs : List V) (us : List Value), RepVs g ρ s.heap vs us → vs.all isPair = true → ∃ fs : List Value, KatTups s.heap us fs ∧ fs.length = vs.length ∧ ∀ v ∈ fs, ∃ i t, v = .int i t := by
    intro vs
    induction vs with
    | nil => intro us r _; cases r; exact ⟨[], trivial, rfl, fun v hv => by cases hv⟩
    | cons x vs ih =>
      intro us r hp
      rw [List.all_cons, Bool.and_eq_true] at hp
      obtain ⟨u, us', rfl, hu, hr⟩ := r
      obtain ⟨fs, k1, k2, k3⟩ := ih us' hr hp.2
      obtain ⟨a, b, rfl⟩ := isPair_iff hp.1
      obtain ⟨l, ws, rfl, ⟨n, ho⟩, hw⟩ := hu
      obtain ⟨w1, _, rfl, ⟨t1, rfl⟩, w2, _, rfl, ⟨t2, rfl⟩, hn⟩ := hw
      cases hn
      refine ⟨.int a t1 :: fs, KatTups.cons ho rfl rfl rfl k1, by simp [k2], fun v hv => ?_⟩
      rcases List.mem_cons.mp hv with rfl | hv
      · exact ⟨_, _, rfl⟩
      · exact k3 v hv
  obtain ⟨fs, k1, k2, k3⟩ := key vs us r hp
  refine kat_kind (T := .type "int") k1 (by lia) (fun v hv => ?_) (by rfl) hq
  obtain ⟨i, t, rfl⟩ := k3 v hv
  intro A Q E s hk hq
  exact wpAny_pure hq
end
end Mini
end

section
namespace Mini
open PySem PySem.SeqAt PyProof.Rows PySem.W

section
variable {g : GG} {ρ ρ₁ : List Addr} {σ σ₁ : Store} {s s₁ s₂ : Shared} {A : Around} {h h' : Heap}

set_option tactic.hygienic true in
theorem listSort_V {vs ws : List V} {us : List Value} {a : Addr} {n : Nat} {P : PySem.Fin → Shared → Prop} {E : Value → Shared → Prop} (S : Sim g ρ σ s.heap) (ho : s.heap.get? a = some (seqObj "list" us.toArray n)) (haρ : a ∉ ρ) (hab : g.base.get? a = none)
    (r : RepVs g ρ s.heap vs us) (hs : sortV vs = some ws)
    (hP : ∀ s' us' n', RepVs g ρ s'.heap ws us' → s'.heap.get? a = some (seqObj "list" us'.toArray n') → (∀ b o, b ≠ a → s.heap.get? b = some o → s'.heap.get? b = some o) → (∃ h' tk, s' = { s with heap := h', toks := tk }) → P (.done (.ret .none)) s') :
    wpAny (model g.prog g.w) A (Builtin.«list.sort» ⟨[.ref a], []⟩) P E s := by
  have hlen := r.length
  have hsz : vs.length < 64 := by
    unfold sortV at hs
    split at hs
    · lia
    · split at hs
      · rename_i hc; exact hc.1
      · cases hs
  have hi : ¬ isImm (seqObj "list" us.toArray n) := by simp [isImm]
  obtain ⟨e1, ho1⟩ : ∃ e1, (s.heap.update a (Obj.mapSeq fun _ => (#[] : Array Value))).get? a = some (seqObj "list" #[] e1) := ⟨_, get?_update_seq ho fun _ => #[]⟩
  have s1 := Heap.SameBut.update s.heap a (Obj.mapSeq fun _ => (#[] : Array Value))
  have ha : a < s.heap.objs.size := Heap.lt_size ho
  have k3 : ∀ b o, b ≠ a → s.heap.get? b = some o → (((s.heap.update a (Obj.mapSeq fun _ => (#[] : Array Value))).push (seqObj "tuple" us.toArray 0)).push (seqObj "list" #[] 0)).get? b = some o := fun b o hn e =>
    Heap.get?_push_of_some _ (Heap.get?_push_of_some _ ((s1.2 b hn).trans e))
  have ho3 : (((s.heap.update a (Obj.mapSeq fun _ => (#[] : Array Value))).push (seqObj "tuple" us.toArray 0)).push (seqObj "list" #[] 0)).get? a = some (seqObj "list" #[] e1) := Heap.get?_push_of_some _ (Heap.get?_push_of_some _ ho1)
  have T : Step g (fun b => b = a) ρ s { s with heap := ((s.heap.update a (Obj.mapSeq fun _ => (#[] : Array Value))).push (seqObj "tuple" us.toArray 0)).push (seqObj "list" #[] 0), toks := s.toks } ρ := Step.but ho ho3 hi hab rfl k3
  have r3 := r.step T
  rw [list_sort_plain]
  refine wpAny_bind (listItems_at ho rfl ?_)
  refine wpAny_bind (listUpdate_at ho rfl ?_ (by rw [List.size_toArray, sizeLine_eq]; lia) (Nat.zero_le _))
  refine wpAny_bind (seqEpoch_at ho1 rfl ?_)
  refine wpAny_bind (wpAny_newTuple ?_ (by show us.length ≤ _; rw [sizeLine_eq]; lia))
  refine wpAny_bind (wpAny_newList ?_ (Nat.zero_le _))
  refine wpAny_holding ?_
  show wpAny (model g.prog g.w) A _ P E { s with heap := ((s.heap.update a (Obj.mapSeq fun _ => (#[] : Array Value))).push (seqObj "tuple" us.toArray 0)).push (seqObj "list" #[] 0) }
  generalize hH : ((s.heap.update a (Obj.mapSeq fun _ => (#[] : Array Value))).push (seqObj "tuple" us.toArray 0)).push (seqObj "list" #[] 0) = H at k3 ho3 T r3 ⊢
  have fin : ∀ (out : List Value) (st : SortSt) (tk : Nat), RepVs g ρ H ws out → (arrOf st).map (·.2) = out.toArray → out.length ≤ 64 → failedOf st = none →
      wpAny (model g.prog g.w) A (do
        let sorted := (arrOf st).map (·.2)
        let touched := (← seqEpoch a) != e1
        Builtin.List.listUpdate (.ref a) fun _ => sorted
        if let some e := failedOf st then rule "list.sort.comparison-raised"; throw e
        if touched then rule "list.sort.modified"; raiseError "ValueError" "list modified during sort"
        ret .none) P E { s with heap := H, toks := tk } := by
    intro out st tk ro har hol hf
    dsimp only
    rw [har]
    refine wpAny_bind (seqEpoch_at (s := { s with heap := H, toks := tk }) ho3 rfl ?_)
    refine wpAny_bind (listUpdate_at (s := { s with heap := H, toks := tk }) ho3 rfl ?_ (Nat.zero_le _) (by show out.toArray.size ≤ _; rw [List.size_toArray, sizeLine_eq]; lia))
    rw [hf]
    simp only [bne_self_eq_false, Bool.false_eq_true, if_false]
    refine wpAny_pure ?_
    obtain ⟨e2, ho4⟩ : ∃ e2, (H.update a (Obj.mapSeq fun _ => out.toArray)).get? a = some (seqObj "list" out.toArray e2) := ⟨_, get?_update_seq ho3 fun _ => out.toArray⟩
    have s4 := Heap.SameBut.update H a (Obj.mapSeq fun _ => out.toArray)
    have G : Grow g H (H.update a (Obj.mapSeq fun _ => out.toArray)) := fun b o e hi' => (s4.2 b (by
      rintro rfl
      rcases hi' with hi' | ⟨o', ho'⟩
      · rw [ho3] at e; cases e; simp [isImm] at hi'
      · rw [hab] at ho'; cases ho')).trans e
    exact hP _ out e2 (by simpa using RepVs.grow (t := []) G ro) ho4 (fun b o hn e => (s4.2 b hn).trans (k3 b o hn e)) ⟨_, _, rfl⟩
  unfold sortV at hs
  split at hs
  · rename_i h2
    cases hs
    dsimp only
    have hn2 : us.toArray.size < 2 := by rw [List.size_toArray]; lia
    rw [if_pos hn2, if_pos hn2]
    refine wpAny_bind (wpAny_pure ?_)
    rw [StateT.run_pure]
    refine wpAny_bind (wpAny_pure ?_)
    refine fin us (SortSt.mk' general' (us.toArray.zip us.toArray) #[] 7 none) s.toks r3 ?_ (by lia) rfl
    show (us.toArray.zip us.toArray).map (·.2) = _
    apply Array.toList_inj.mp
    simp
    rw [List.map_snd_zip]
    exact Nat.le_refl _
  · rename_i h2
    split at hs
    · rename_i hc
      obtain ⟨p, hp, hw⟩ := Option.map_eq_some_iff.mp hs
      dsimp only
      have hn2 : ¬ us.toArray.size < 2 := by rw [List.size_toArray]; lia
      rw [if_neg hn2, if_neg hn2]
      refine wpAny_bind (wpAny_mono (kind_pairs (s := { s with heap := H }) (Q := fun κ s' => κ = tuples' true ∧ s' = { s with heap := H }) r3 hc.2 (by lia) ⟨rfl, rfl⟩) (fun κ s' P => ?_) fun _ _ x => x.elim)
      obtain ⟨rfl, rfl⟩ := P
      refine wpAny_bind (wpAny_mono (kat_run (ks := us) (vs := us) (E := E) (Q := fun st s' => ∃ p' : Array Nat, p' = p ∧ (∃ tk, s' = { s with heap := H, toks := tk }) ∧ arrOf st = p'.map (kas_item (us.toArray.zip us.toArray)) ∧ failedOf st = none ∧ p'.size = us.length)
        (G := fun p' s' => p' = p ∧ ∃ tk, s' = { s with heap := H, toks := tk }) rfl (by lia) (by lia) (fun p' st' s' a1 a2 a3 a4 => ⟨p', a4.1, a4.2, a2, a3, a1⟩) ?_) (fun q s' P => ?_) fun _ _ x => x)
      · rw [hlen]
        refine kRun_wp (R := fun s' => ∃ tk, s' = { s with heap := H, toks := tk }) (cmp := cmpAt vs) (fun i j b s' hR hb C hC => ?_) (fun s' hR => ⟨rfl, hR⟩) _ _ hp ⟨_, rfl⟩
        obtain ⟨tk, rfl⟩ := hR
        unfold cmpAt at hb
        split at hb
        · rename_i x y hx hy
          obtain ⟨u, hu, ru⟩ := r3.get hx
          obtain ⟨v, hv, rv⟩ := r3.get hy
          show wpAny _ _ (keyLt' _ (us.getD i Value.none) (us.getD j Value.none)) _ _ _
          rw [List.getD_eq_getElem?_getD, List.getD_eq_getElem?_getD, hu, hv]
          exact keyLt_pair (s := { s with heap := H, toks := tk }) ru rv hb fun tk' => hC _ ⟨tk', rfl⟩
        · cases hb
      · obtain ⟨⟨⟩, st⟩ := q
        obtain ⟨p', hpp, ⟨tk, rfl⟩, har, hf, hps⟩ := P
        rw [hpp] at har hps
        have hout := kat_snds (ks := us) (vs := us) rfl har
        refine fin (p.toList.map fun i => us.getD i Value.none) st tk ?_ hout (by rw [List.length_map, Array.length_toList, hps]; lia) hf
        rw [← hw]
        exact RepVs.map (fun i => r3.getD i) _
    · cases hs
end
end Mini
end

section
namespace Mini
open PySem PySem.SeqAt PyProof.Rows PySem.Calls

noncomputable def bestD (f : V → V → Store → Option Bool) (σ : Store) : V → List V → Option V
  | b, [] => some b
  | b, v :: r => match f v b σ with
    | some true => bestD f σ v r
    | some false => bestD f σ b r
    | none => none
noncomputable def bestF (f : V → V → Store → Option Bool) : FDen
  | [.loc l], σ => match σ[l]? with
    | some (.list (v :: rest)) => (bestD f σ v rest).map fun w => (w, σ)
    | _ => none
  | _, _ => none
noncomputable def gtS : V → V → Store → Option Bool := intRel fun a b => decide (b < a)

theorem Room.in1 {A : Around} (r : Room 1 A) : Room 0 A.in1 := ⟨r.hh, by have := r.depth; show A.depth + 0 < 600; grind, by have := r.units; show A.units + 1 + 20 * 0 < 8000; grind⟩

section
variable {g : GG} {ρ ρ₁ : List Addr} {σ σ₁ : Store} {A : Around} {h h' : Heap} {R : Result → Shared → Prop}

set_option tactic.hygienic true in
theorem min_loop_V {l : Nat} {a it S : Addr} {vs : List V} (R0 : Room 1 A) (hl : σ[l]? = some (.list vs)) (ha : ρ[l]? = some a) (hit1 : it ∉ ρ ∧ g.base.get? it = none) (hS1 : S ∉ ρ ∧ g.base.get? S = none) (hne : S ≠ it) :
    ∀ (k i : Nat) (s : Shared) (best r : V) (vb : Value) (c : Nat), vs.length - i = k → s.heap.IsListIter it a i → Sim g ρ σ s.heap → RepV g ρ s.heap best vb →
    s.heap.get? S = some { cls := .type "list", data := .seq #[vb, vb] c } → bestD ltS σ best (vs.drop i) = some r →
    (∀ s' u, (∀ b o, b ≠ it → b ≠ S → s.heap.get? b = some o → s'.heap.get? b = some o) → (∃ h' tk, s' = { s with heap := h', toks := tk }) → RepV g ρ s'.heap r u → Sim g ρ σ s'.heap → R (.ok (.ret u)) s') →
    codeAny (model g.prog g.w) A (.builtin "min.loop" ⟨[.ref it, .none, .ref S], []⟩) R s := by
  have hname : (toString "min" ++ toString ".loop" : String) = "min.loop" := by decide
  intro k
  induction k with
  | zero =>
    intro i s best r vb c hk hit S0 rb hS hd hR
    have hi : vs.length ≤ i := by grind
    rw [List.drop_eq_nil_of_le hi] at hd
    cases hd
    obtain ⟨o, ho, hc, hdd⟩ := id hit
    obtain ⟨_, us, n, hlo, hr⟩ := S0.list hl ha
    refine codeAny_builtin F.entry_min_loop ?_
    rw [Around.under_plainId F.plain_min_loop _]
    show wpAny _ A.in1 (seqItems? (.ref S) >>= _) _ _ s
    refine wpAny_bind (wpAny_seqItems hS rfl ?_)
    show wpAny _ A.in1 (tryCatch (pyNext (.ref it)) _ >>= _) _ _ s
    refine wpAny_bind (wpAny_tryCatch (wpAny_pyNext_list_end R0.hh hit (isList_of hlo) (by simp [hr.length]; exact hi) fun h' hk' => ?_))
    have hS' := hk' S _ hne hS
    show wpAny _ A.in1 (updateSeq S (fun _ => #[]) >>= _) _ _ _
    refine wpAny_bind ?_
    refine wpAny_updateSeq hS' rfl (wpAny_bind (wpAny_letGo (wpAny_pure ?_)))
    have kk : ∀ b o, b ≠ it → b ≠ S → s.heap.get? b = some o → (h'.update S (Obj.mapSeq fun _ => #[])).get? b = some o := fun b o h1 h2 e => (Heap.get?_update_other _ _ (Ne.symm h2)).trans (hk' b o h1 e)
    have ap := own2 (ρ := ρ) (h := s.heap) (e := S) (it := it) hit1 hS1 ho (by simp [isImm, hc, hdd]) hS (by simp [isImm])
    have kk' : ∀ b o, s.heap.get? b = some o → ¬ (b = S ∨ b = it) → (h'.update S (Obj.mapSeq fun _ => #[])).get? b = some o := fun b o e h1 => kk b o (fun q => h1 (.inr q)) (fun q => h1 (.inl q)) e
    exact hR _ vb kk ⟨_, _, rfl⟩ (by simpa using RepV.grow (t := []) (ap.grow kk') rb) (S0.keepBut ap kk')
  | succ k ih =>
    intro i s best r vb c hk hit S0 rb hS hd hR
    have hi : i < vs.length := by grind
    rw [List.drop_eq_getElem_cons hi] at hd
    unfold bestD at hd
    obtain ⟨o, ho, hc, hdd⟩ := id hit
    obtain ⟨_, us, n, hlo, hr⟩ := S0.list hl ha
    obtain ⟨u, hu, ru⟩ := hr.get (List.getElem?_eq_getElem hi)
    have ap := own2 (ρ := ρ) (h := s.heap) (e := S) (it := it) hit1 hS1 ho (by simp [isImm, hc, hdd]) hS (by simp [isImm])
    refine codeAny_builtin F.entry_min_loop ?_
    rw [Around.under_plainId F.plain_min_loop _]
    show wpAny _ A.in1 (seqItems? (.ref S) >>= _) _ _ s
    refine wpAny_bind (wpAny_seqItems hS rfl ?_)
    show wpAny _ A.in1 (tryCatch (pyNext (.ref it)) _ >>= _) _ _ s
    refine wpAny_bind (wpAny_tryCatch (wpAny_pyNext_list_item hit (isList_of hlo) (x := u) (by simpa using hu) fun h' hit' hs' => ?_))
    have hS' : h'.get? S = some { cls := .type "list", data := .seq #[vb, vb] c } := (hs'.2 S hne).trans hS
    have k1 : ∀ b o, s.heap.get? b = some o → ¬ (b = S ∨ b = it) → h'.get? b = some o := fun b o e h1 => (hs'.2 b fun q => h1 (.inr q)).trans e
    have S1 : Sim g ρ σ h' := S0.keepBut ap k1
    have ru1 : RepV g ρ h' vs[i] u := by simpa using RepV.grow (t := []) (ap.grow k1) ru
    have rb1 : RepV g ρ h' best vb := by simpa using RepV.grow (t := []) (ap.grow k1) rb
    split at hd
    · rename_i hb
      show wpAny _ A.in1 (tryCatch (holding [u, u] (richCompare .Lt u vb >>= _)) _ >>= _) _ _ _
      have hcmp : wpAny (model g.prog g.w) A.in1 (richCompare .Lt u vb) (fun w s1 => w = .bool true ∧ ∃ tk, s1 = { s with heap := h', toks := tk }) noE { s with heap := h' } :=
        wpAny_mono (CmpS.lt A.in1 ρ σ { s with heap := h' } vs[i] best u vb true (R0.in1) S1 ru1 rb1 hb) (fun w s1 P => ⟨P.1, by obtain ⟨tk, rfl⟩ := P.2; exact ⟨tk, rfl⟩⟩) noE_mono
      refine wpAny_bind (wpAny_tryCatch (wpAny_holding (wpAny_bind (wpAny_mono hcmp (fun w s1 P => ?_) noE_mono))))
      obtain ⟨rfl, tk, rfl⟩ := P
      refine wpAny_bind (wpAny_holding (wpAny_truthy_bool ?_))
      refine wpAny_bind (wpAny_letGo (wpAny_pure ?_))
      simp only [if_true]
      refine wpAny_bind ?_
      refine wpAny_updateSeq hS' rfl (wpAny_bind (wpAny_letGo ?_))
      rw [hname]
      have k2 : ∀ b o, b ≠ S → h'.get? b = some o → (h'.update S (Obj.mapSeq fun _ => #[u, u])).get? b = some o := fun b o h2 e => (Heap.get?_update_other _ _ (Ne.symm h2)).trans e
      have k3 : ∀ b o, s.heap.get? b = some o → ¬ (b = S ∨ b = it) → (h'.update S (Obj.mapSeq fun _ => #[u, u])).get? b = some o := fun b o e h1 => k2 b o (fun q => h1 (.inl q)) (k1 b o e h1)
      have ru2 : RepV g ρ (h'.update S (Obj.mapSeq fun _ => #[u, u])) vs[i] u := by simpa using RepV.grow (t := []) (ap.grow k3) ru
      have hit2 : (h'.update S (Obj.mapSeq fun _ => #[u, u])).IsListIter it a (i + 1) := by
        obtain ⟨o', ho', r'⟩ := hit'
        exact ⟨o', k2 _ _ (Ne.symm hne) ho', r'⟩
      refine wpAny_pure ⟨plainId_quiet F.plain_min_loop _, ih (i + 1) _ vs[i] r u _ (by grind) hit2 (S0.keepBut ap k3) ru2 (Heap.get?_update_self _ hS' rfl) hd fun s' w kk hs'' rw' S' => ?_⟩
      obtain ⟨h2, tk2, rfl⟩ := hs''
      exact hR _ w (fun b o h1 h2 e => kk b o h1 h2 (k3 b o e fun q => q.elim h2 h1)) ⟨h2, tk2, rfl⟩ rw' S'
    · rename_i hb
      show wpAny _ A.in1 (tryCatch (holding [u, u] (richCompare .Lt u vb >>= _)) _ >>= _) _ _ _
      have hcmp : wpAny (model g.prog g.w) A.in1 (richCompare .Lt u vb) (fun w s1 => w = .bool false ∧ ∃ tk, s1 = { s with heap := h', toks := tk }) noE { s with heap := h' } :=
        wpAny_mono (CmpS.lt A.in1 ρ σ { s with heap := h' } vs[i] best u vb false (R0.in1) S1 ru1 rb1 hb) (fun w s1 P => ⟨P.1, by obtain ⟨tk, rfl⟩ := P.2; exact ⟨tk, rfl⟩⟩) noE_mono
      refine wpAny_bind (wpAny_tryCatch (wpAny_holding (wpAny_bind (wpAny_mono hcmp (fun w s1 P => ?_) noE_mono))))
      obtain ⟨rfl, tk, rfl⟩ := P
      refine wpAny_bind (wpAny_holding (wpAny_truthy_bool ?_))
      refine wpAny_bind (wpAny_letGo (wpAny_pure ?_))
      simp only [Bool.false_eq_true, if_false]
      refine wpAny_bind (wpAny_letGo ?_)
      rw [hname]
      refine wpAny_pure ⟨plainId_quiet F.plain_min_loop _, ih (i + 1) _ best r vb c (by grind) hit' S1 rb1 hS' hd fun s' w kk hs'' rw' S' => ?_⟩
      obtain ⟨h2, tk2, rfl⟩ := hs''
      exact hR _ w (fun b o h1 h2 e => kk b o h1 h2 (k1 b o e fun q => q.elim h2 h1)) ⟨h2, tk2, rfl⟩ rw' S'
    · cases hd

set_option tactic.hygienic true in
theorem CallS.min_list : CallS g 1 (.builtin "min") (bestF ltS) := by
  intro A ρ σ s vs us r σ' R S hr hf
  unfold bestF at hf
  split at hf
  · rename_i l
    obtain ⟨u, us', rfl, ⟨a, rfl, ha⟩, hn⟩ := hr
    cases hn
    split at hf
    · rename_i v rest hl
      obtain ⟨w, hw, he⟩ := Option.map_eq_some_iff.mp hf
      cases he
      obtain ⟨_, us, n, ho, hrr⟩ := S.list hl ha
      have hname : (toString "min" ++ toString ".loop" : String) = "min.loop" := by decide
      refine call_function_tree F.kind_min F.plain_min F.entry_min (F.args_min1 _) ?_
      show wpAny _ A.in1 (Builtin.Builtins.bindParams "min" ["key", "default"] 0 ⟨[], []⟩ >>= _) _ _ s
      refine wpAny_bind (wpAny_of_eq (show Builtin.Builtins.bindParams "min" ["key", "default"] 0 ⟨[], []⟩ = pure [none, none] from rfl) ?_)
      refine wpAny_bind (wpAny_pure ?_)
      refine wpAny_bind (wpAny_pyIter_list (isList_of ho) ?_)
      refine wpAny_bind (wpAny_newObj_type ?_)
      rw [hname]
      refine wpAny_pure ⟨plainId_quiet F.plain_min_loop _, ?_⟩
      generalize hH : s.heap.push { cls := .type "list_iterator", data := .fields #[.ref a, .int 0 0] } = H
      have n1 := noNew s.heap
      have n2 := noNew H
      have e1 : ∀ b o, s.heap.get? b = some o → H.get? b = some o := fun b o e => hH ▸ Heap.get?_push_of_some _ e
      have e2 : ∀ b o, H.get? b = some o → (H.push { cls := .type "list", data := .seq #[] }).get? b = some o := fun b o e => Heap.get?_push_of_some _ e
      have hitH : H.get? s.heap.objs.size = some { cls := .type "list_iterator", data := .fields #[.ref a, .int 0 0] } := hH ▸ Heap.get?_push_size _ rfl
      have hne : H.objs.size ≠ s.heap.objs.size := fun q => by rw [← q, n2] at hitH; cases hitH
      have S2 : Sim g ρ σ (H.push { cls := .type "list", data := .seq #[] }) := S.ext fun b o e => e2 b o (e1 b o e)
      have SH : Sim g ρ σ H := S.ext e1
      have hSm : H.objs.size ∉ ρ ∧ g.base.get? H.objs.size = none := SH.newNotIn n2
      have hIm : s.heap.objs.size ∉ ρ ∧ g.base.get? s.heap.objs.size = none := S.newNotIn n1
      have hit0 : (H.push { cls := .type "list", data := .seq #[] }).IsListIter s.heap.objs.size a 0 := ⟨_, e2 _ _ hitH, rfl, rfl⟩
      have hS0 : (H.push { cls := .type "list", data := .seq #[] }).get? H.objs.size = some { cls := .type "list", data := .seq #[] } := Heap.get?_push_size _ rfl

      obtain ⟨u, hu, ru⟩ := hrr.get (i := 0) (v := v) rfl
      have hlo2 : (H.push { cls := .type "list", data := .seq #[] }).get? a = some { cls := .type "list", data := .seq (List.toArray us) n } := e2 _ _ (e1 _ _ ho)
      generalize hG : H.push { cls := .type "list", data := .seq #[] } = G at S2 hit0 hS0 hlo2 e2 ⊢
      show codeAny _ A (.builtin "min.loop" ⟨[.ref s.heap.objs.size, .none, .ref H.objs.size], []⟩) _ { s with heap := G }
      refine codeAny_builtin F.entry_min_loop ?_
      rw [Around.under_plainId F.plain_min_loop _]
      show wpAny _ A.in1 (seqItems? (.ref H.objs.size) >>= _) _ _ _
      refine wpAny_bind (wpAny_seqItems (s := { s with heap := G }) hS0 rfl ?_)
      show wpAny _ A.in1 (tryCatch (pyNext (.ref s.heap.objs.size)) _ >>= _) _ _ _
      refine wpAny_bind (wpAny_tryCatch (wpAny_pyNext_list_item (s := { s with heap := G }) hit0 (isList_of hlo2) (x := u) (by simpa using hu) fun h' hit' hs' => ?_))
      have hS' : h'.get? H.objs.size = some { cls := .type "list", data := .seq #[] } := (hs'.2 _ hne).trans hS0
      show wpAny _ A.in1 (updateSeq H.objs.size (fun _ => #[u, u]) >>= _) _ _ _
      refine wpAny_bind ?_
      refine wpAny_updateSeq (s := { s with heap := h' }) hS' rfl ?_
      rw [hname]
      have k3 : ∀ b o, s.heap.get? b = some o → (h'.update H.objs.size (Obj.mapSeq fun _ => #[u, u])).get? b = some o := fun b o e => by
        have h1 : b ≠ s.heap.objs.size := Nat.ne_of_lt (Heap.lt_size e)
        have h2 : b ≠ H.objs.size := Nat.ne_of_lt (Heap.lt_size (e1 b o e))
        exact (Heap.get?_update_other _ _ (Ne.symm h2)).trans ((hs'.2 b h1).trans (e2 _ _ (e1 _ _ e)))
      have S3 : Sim g ρ σ (h'.update H.objs.size (Obj.mapSeq fun _ => #[u, u])) := S.ext k3
      have ru3 : RepV g ρ (h'.update H.objs.size (Obj.mapSeq fun _ => #[u, u])) v u := by simpa using RepV.grow (t := []) (g := g) (h := s.heap) (fun b o e _ => k3 b o e) ru
      have hit3 : (h'.update H.objs.size (Obj.mapSeq fun _ => #[u, u])).IsListIter s.heap.objs.size a 1 := by
        obtain ⟨o', ho', r'⟩ := hit'
        exact ⟨o', (Heap.get?_update_other _ _ hne).trans ho', r'⟩
      refine wpAny_pure ⟨plainId_quiet F.plain_min_loop _, min_loop_V R hl ha hIm hSm hne _ 1 { s with heap := h'.update H.objs.size (Obj.mapSeq fun _ => #[u, u]) } v r u _ rfl hit3 S3 ru3 (Heap.get?_update_self _ hS' rfl) (by simpa using hw) fun s' x kk hs'' rx Sx => ?_⟩
      obtain ⟨h2, tk2, rfl⟩ := hs''
      exact ⟨ρ, Step.ext fun b o e => kk b o (Nat.ne_of_lt (Heap.lt_size e)) (Nat.ne_of_lt (Heap.lt_size (e1 b o e))) (k3 b o e), Sx, rx⟩
    · cases hf
  · cases hf

end
end Mini
end

section
namespace Mini
open PySem PySem.SeqAt PyProof.Rows PySem.Calls PySem.W

section
variable {g : GG} {ρ ρ₁ : List Addr} {σ σ₁ : Store} {A : Around} {h h' : Heap} {s : Shared}

theorem kdl_V {a : Addr} {ents : List DictEntry} {ep : Nat} (hd : (a == sysModules) = false) :
    KdlSrc g.prog g.w "dict" a a ents.length (fun i v => ∃ e, ents[i]? = some e ∧ v = e.key) (fun h => IsD h a ents ep) where
  type := fun s hok => IsD.typeIs hok
  there := fun h hok => ⟨Heap.lt_size hok, Heap.lt_size hok⟩
  keep := fun h h' hok hk => hk a (.inl rfl) _ hok
  notList := by decide
  notTuple := by decide
  hint := fun A E s Q hok hq => kdl_hint_dict (IsD.typeIs hok) hq
  iter := fun A s hh hok => by
    refine ⟨{ cls := .type "dict_keyiterator", data := .fields #[.ref a, .int 0 0, .int ents.length 0, .int ep 0] }, fun i h => h.IsKeyIter s.heap.objs.size a i ents.length ep ∧ IsD h a ents ep, fun E Q hq => pyIter_keys hd hok hq, ?_, ⟨_, Heap.get?_push_size _ rfl, rfl, rfl⟩, Heap.get?_push_of_some _ hok⟩
    have hne : a ≠ s.heap.objs.size := Nat.ne_of_lt (Heap.lt_size hok)
    exact {
      sub := fun b hb => by simp at hb; simp [hb]
      frame := fun i h h' st hk => ⟨st.1.at fun o e => hk _ (by simp) o e, hk a (by simp) _ st.2⟩
      item := fun i s' Q E hi st hQ => by
        have hx : ents[i]? = some ents[i] := List.getElem?_eq_getElem hi
        refine keys_item st.1 st.2 hx fun h' hit' hs' => ?_
        exact hQ _ h' s'.toks ⟨_, hx, rfl⟩ ⟨hit', (hs'.2 a hne).trans st.2⟩ fun b o hb e => (hs'.2 b fun q => hb (by simp [q])).trans e
      done := fun s' Q E st hQ => keys_end hh st.1 st.2 (by simp) fun h' he' => hQ h' s'.toks fun b o hb e => he' b o (fun q => hb (by simp [q])) e
      self := fun i s' Q E st hQ => wpAny_pyIter_keyiter st.1 hQ }

noncomputable def allOf (v : V) (σ : Store) : Option (List V) := match v with
  | .loc l => match σ[l]? with
    | some (.list vs) => some vs
    | some (.dict es) => some (es.map (·.1))
    | none => none
  | _ => none

theorem RepEs.keys : ∀ {es : List (V × V)} {ents : List DictEntry}, RepEs g ρ h es ents → RepVs g ρ h (es.map (·.1)) (ents.map (·.key))
  | [], _, e => by subst e; rfl
  | (_, _) :: _, _, e => by
    obtain ⟨u, us', rfl, _, hk, _, hr⟩ := e
    exact ⟨_, _, rfl, hk, hr.keys⟩

set_option tactic.hygienic true in
theorem collect_V {v : V} {u : Value} {vs : List V} {Q : List Value → Shared → Prop} {E : Value → Shared → Prop} (hh : A.handled = none) (S : Sim g ρ σ s.heap) (ru : RepV g ρ s.heap v u) (hv : allOf v σ = some vs)
    (hQ : ∀ us h' tk, (∀ b o, s.heap.get? b = some o → h'.get? b = some o) → RepVs g ρ s.heap vs us → us.length ≤ LIM → Q us { s with heap := h', toks := tk }) :
    wpAny (model g.prog g.w) A (collect u) Q E s := by
  unfold allOf at hv
  split at hv
  · rename_i l
    obtain ⟨a, rfl, ha⟩ := ru
    split at hv
    · rename_i ws hl
      cases hv
      obtain ⟨hlim, us, n, ho, hr⟩ := S.list hl ha
      have hll := limLine
      have hlen := hr.length
      refine collect_list (isList_of ho) (hQ us _ s.toks (fun b o e => ?_) hr (by lia)) (by lia)
      exact (Heap.get?_update_other _ _ (Nat.ne_of_gt (Heap.lt_size e))).trans (Heap.get?_push_of_some _ e)
    · rename_i es hl
      cases hv
      obtain ⟨hlim, _, ents, hD, hr⟩ := S.dict hl ha
      have hll := limLine
      have hlen := hr.length
      refine kdu_collect (kdl_V (S.notModules ha)) hh hD (by lia) fun h' tk acc hk hacc => ?_
      have e : acc.toList = ents.map (·.key) := by
        obtain ⟨h1, h2⟩ := hacc
        apply List.ext_getElem?
        intro i
        by_cases hi : i < ents.length
        · have hi' : i < acc.size := by lia
          obtain ⟨e, he, hv⟩ := h2 i acc[i] (by simp [hi'])
          rw [List.getElem?_map, he]
          simp [hi', hv]
        · rw [List.getElem?_eq_none (by simp; lia), List.getElem?_eq_none (by simp; lia)]
      rw [e]
      exact hQ _ h' tk hk hr.keys (by simp; lia)
    · cases hv
  · cases hv

noncomputable def sortedF : FDen
  | [v], σ => match allOf v σ with
    | some vs => match sortV vs with
      | some ws => if ws.length ≤ LIM then some (.loc σ.length, σ ++ [.list ws]) else none
      | none => none
    | none => none
  | _, _ => none

set_option tactic.hygienic true in
theorem CallS.sorted : CallS g 1 (.builtin "sorted") sortedF := by
  intro A ρ σ s vs us r σ' R S hr hf
  unfold sortedF at hf
  split at hf
  · rename_i v
    obtain ⟨u, us', rfl, ru, hn⟩ := hr
    cases hn
    split at hf
    · rename_i xs hx
      have hf' : ∃ ws, sortV xs = some ws ∧ ws.length ≤ LIM ∧ V.loc σ.length = r ∧ σ ++ [.list ws] = σ' := by
        split at hf
        · rename_i ws hs
          split at hf
          · rename_i hl; cases hf; exact ⟨ws, hs, hl, rfl, rfl⟩
          · cases hf
        · cases hf
      obtain ⟨ws, hs, hwl, rfl, rfl⟩ := hf'
      refine call_function_entry kind_sorted plain_sorted entry_sorted (args_sorted1 _) ?_
      unfold Builtin.«sorted»
      refine wpAny_bind (m := checkCount "sorted" 1 1 _) (wpAny_pure ?_)
      refine wpAny_bind (collect_V (A := A.in1) R.hh S ru hx fun ys h1 tk1 k1 r1 hlim => ?_)
      have hll := limLine
      refine wpAny_bind (wpAny_newList ?_ (by lia))
      have hnew := noNew h1
      have S1 : Sim g ρ σ h1 := S.ext k1
      obtain ⟨c1, c2⟩ := S1.newNotIn hnew
      have ho : (h1.push (seqObj "list" ys.toArray 0)).get? h1.objs.size = some (seqObj "list" ys.toArray 0) := Heap.get?_push_size _ rfl
      have k2 : ∀ b o, h1.get? b = some o → (h1.push (seqObj "list" ys.toArray 0)).get? b = some o := fun b o e => Heap.get?_push_of_some _ e
      have S2 : Sim g ρ σ (h1.push (seqObj "list" ys.toArray 0)) := S1.ext k2
      have r2 : RepVs g ρ (h1.push (seqObj "list" ys.toArray 0)) xs ys := by simpa using RepVs.grow (t := []) (g := g) (h := s.heap) (fun b o e _ => k2 b o (k1 b o e)) r1
      refine wpAny_bind (wpAny_holding (wpAny_call_entry slot_list_sort ⟨_, ho, rfl⟩ entry_list_sort ?_ (args_list_sort _)))
      refine listSort_V (s := { s with heap := h1.push (seqObj "list" ys.toArray 0), toks := tk1 }) S2 ho c1 c2 r2 hs fun s3 zs n' r3 ho3 k3 hs3 => ?_
      obtain ⟨h3, tk3, rfl⟩ := hs3
      refine ⟨_, rfl, wpAny_pure ⟨_, rfl, ?_⟩⟩
      have hk : ∀ b o, s.heap.get? b = some o → h3.get? b = some o := fun b o e => k3 b o (Nat.ne_of_lt (Heap.lt_size (k1 b o e))) (k2 b o (k1 b o e))
      have hs' : s.heap.get? h1.objs.size = none := by
        cases q : s.heap.get? h1.objs.size with
        | none => rfl
        | some o => have := k1 _ _ q; rw [hnew] at this; cases this
      have r4 : RepVs g (ρ ++ [h1.objs.size]) h3 ws zs := RepVs.grow (t := [h1.objs.size]) (g := g) (h := h3) (fun b o e _ => e) r3
      exact ⟨ρ ++ [h1.objs.size], Step.alloc hs' hk, S.alloc hs' (by have := S1.big; exact this) hk ⟨hwl, zs, n', ho3, r4⟩, _, rfl, by rw [← S.len]; simp⟩
    · cases hf
  · cases hf

noncomputable def lenF : FDen
  | [.loc l], σ => match σ[l]? with
    | some (.list vs) => some (.int vs.length, σ)
    | _ => none
  | _, _ => none
set_option tactic.hygienic true in
theorem CallS.len : CallS g 0 (.builtin "len") lenF := by
  intro A ρ σ s vs us r σ' R S hr hf
  unfold lenF at hf
  split at hf
  · rename_i l
    obtain ⟨u, us', rfl, ⟨a, rfl, ha⟩, hn⟩ := hr
    cases hn
    split at hf
    · rename_i ws hl
      cases hf
      obtain ⟨hlim, us, n, ho, hrr⟩ := S.list hl ha
      have hlen := hrr.length
      refine call_len_list (isList_of ho) (by have : LIM = 1000000 := rfl; simp; lia) ?_
      refine ⟨ρ, Step.toks _, S, ⟨s.toks + 1, by simp [hlen]⟩⟩
    · cases hf
  · cases hf

noncomputable def intF : FDen
  | [.int i], σ => some (.int i, σ)
  | _, _ => none
theorem CallS.int : CallS g 0 (.type "int") intF := by
  intro A ρ σ s vs us r σ' R S hr hf
  unfold intF at hf
  split at hf
  · cases hf
    obtain ⟨u, us', rfl, ⟨t, rfl⟩, hn⟩ := hr
    cases hn
    exact call_int_int ⟨ρ, Step.refl .., S, ⟨t, rfl⟩⟩
  · cases hf
noncomputable def absF : FDen
  | [.int i], σ => some (.int (if i < 0 then -i else i), σ)
  | _, _ => none
theorem CallS.abs : CallS g 0 (.builtin "abs") absF := by
  intro A ρ σ s vs us r σ' R S hr hf
  unfold absF at hf
  split at hf
  · cases hf
    obtain ⟨u, us', rfl, ⟨t, rfl⟩, hn⟩ := hr
    cases hn
    exact PyProof.Rows.call_abs_int fun u tk => ⟨ρ, Step.toks _, S, ⟨u, rfl⟩⟩
  · cases hf
noncomputable def rangeF : FDen
  | [.int b], σ => some (.rng 0 b, σ)
  | [.int a, .int b], σ => some (.rng a b, σ)
  | _, _ => none
theorem CallS.range : CallS g 0 (.type "range") rangeF := by
  intro A ρ σ s vs us r σ' R S hr hf
  unfold rangeF at hf
  split at hf
  · cases hf
    obtain ⟨u, us', rfl, ⟨t, rfl⟩, hn⟩ := hr
    cases hn
    exact call_range_1 ⟨ρ, Step.ext fun _ _ e => Heap.get?_push_of_some _ e, S.ext fun _ _ e => Heap.get?_push_of_some _ e, _, _, _, _, rfl, Heap.get?_push_size _ rfl⟩
  · cases hf
    obtain ⟨u, us', rfl, ⟨t, rfl⟩, u2, us2, rfl, ⟨t2, rfl⟩, hn⟩ := hr
    cases hn
    exact call_range_2 ⟨ρ, Step.ext fun _ _ e => Heap.get?_push_of_some _ e, S.ext fun _ _ e => Heap.get?_push_of_some _ e, _, _, _, _, rfl, Heap.get?_push_size _ rfl⟩
  · cases hf
noncomputable def tupleF : FDen
  | [.loc l], σ => match σ[l]? with
    | some (.list vs) => some (.tup vs, σ)
    | _ => none
  | _, _ => none
set_option tactic.hygienic true in
theorem CallS.tuple : CallS g 0 (.type "tuple") tupleF := by
  intro A ρ σ s vs us r σ' R S hr hf
  unfold tupleF at hf
  split at hf
  · rename_i l
    obtain ⟨u, us', rfl, ⟨a, rfl, ha⟩, hn⟩ := hr
    cases hn
    split at hf
    · rename_i ws hl
      cases hf
      obtain ⟨hlim, us, n, ho, hrr⟩ := S.list hl ha
      have hlen := hrr.length
      have hll := limLine
      refine call_tuple_list (isList_of ho) (fun h' hk => ?_) (by simp; lia)
      have S1 : Sim g ρ σ h' := S.ext hk
      have r1 : RepVs g ρ h' ws us := by simpa using RepVs.grow (t := []) (g := g) (h := s.heap) (fun b o e _ => hk b o e) hrr
      obtain ⟨ρ', T, S', ru⟩ := post_tuple (s := { s with heap := h' }) S1 r1
      exact ⟨ρ', (Step.ext' hk).trans T, S', ru⟩
    · cases hf
  · cases hf
noncomputable def maxF : FDen
  | [.int a, .int b], σ => some (.int (if a < b then b else a), σ)
  | _, _ => none
noncomputable def minF : FDen
  | [.int a, .int b], σ => some (.int (if b < a then b else a), σ)
  | _, _ => none
set_option tactic.hygienic true in
theorem CallS.max2 : CallS g 1 (.builtin "max") maxF := by
  intro A ρ σ s vs us r σ' R S hr hf
  unfold maxF at hf
  split at hf
  · rename_i a b
    cases hf
    obtain ⟨u, us', rfl, ⟨t, rfl⟩, u2, us2, rfl, ⟨t2, rfl⟩, hn⟩ := hr
    cases hn
    refine PySem.max_two_ints R.hh fun h' tk hk => ?_
    refine ⟨ρ, Step.ext hk, S.ext hk, ?_⟩
    by_cases hba : b > a
    · rw [if_pos hba, if_pos (show a < b from hba)]; exact ⟨_, rfl⟩
    · rw [if_neg hba, if_neg (show ¬ a < b from hba)]; exact ⟨_, rfl⟩
  · cases hf
set_option tactic.hygienic true in
theorem CallS.min2 : CallS g 1 (.builtin "min") minF := by
  intro A ρ σ s vs us r σ' R S hr hf
  unfold minF at hf
  split at hf
  · rename_i a b
    cases hf
    obtain ⟨u, us', rfl, ⟨t, rfl⟩, u2, us2, rfl, ⟨t2, rfl⟩, hn⟩ := hr
    cases hn
    refine PySem.min_two_ints R.hh fun h' tk hk => ?_
    refine ⟨ρ, Step.ext hk, S.ext hk, ?_⟩
    by_cases hba : b < a
    · rw [if_pos hba, if_pos hba]; exact ⟨_, rfl⟩
    · rw [if_neg hba, if_neg hba]; exact ⟨_, rfl⟩
  · cases hf
end
end Mini
end

section
namespace Mini
open PySem PySem.SeqAt PyProof.Rows PySem.Calls PySem.W
open Sem (wp)

section
variable {g : GG} {ρ ρ₁ : List Addr} {σ σ₁ : Store} {A : Around} {h h' : Heap} {s : Shared}

theorem miss_keys : typeLookup (.type "list") (Str.ofString "keys") = pure none := by rw [typeLookup_type, builtinLookup_eq_fast]; kernel_rfl

theorem noKeys {a : Addr} {xs : Array Value} {k : Nat} {Q : Option Value → Shared → Prop} {E : Value → Shared → Prop} (hx : s.heap.get? a = some { cls := .type "list", data := .seq xs k }) (hA : A.handled = none)
    (h : ∀ h' tk, (∀ b o, s.heap.get? b = some o → h'.get? b = some o) → Q none { s with heap := h', toks := tk }) :
    wpAny (model g.prog g.w) A (getAttr? (.ref a) (Str.ofString "keys")) Q E s := by
  have hname : (["__module__", "__name__", "__qualname__", "__doc__", "__annotations__"] : List Str).contains (Str.ofString "keys") = false := by decide +kernel
  have hsz : (Str.ofString "keys").length + 100 ≤ sizeLine := by decide +kernel
  have hmiss := miss_keys
  generalize Str.ofString "keys" = name at hname hsz hmiss ⊢
  obtain ⟨hp, gs, d, tk, os⟩ := s
  have hT : ∀ tk', (⟨hp, gs, d, tk', os⟩ : Shared).TypeIs (.ref a) "list" := fun _ => ⟨_, hx, rfl⟩
  have f1 := sub_AttributeError
  have f3 := F.slot_list_getattribute.lookup
  have f4 := F.slot_list_getattribute.bind (.ref a)
  have f5 := am_list_getattr_none
  unfold getAttr? getAttrBy?
  refine wpAny_bind (wpAny_mkText ?_)
  refine wpAny_bind (wpAny_attempt ?_)
  unfold getAttrBy
  repeat (any_goals (first | assumption | exact hT _ | ((with_reducible show wpAny _ _ (call (Value.builtin "list.__getattribute__") _ _) _ _ _); refine call_meets F.slot_list_getattribute (hT _) am_entry_list_getattribute (F.args_list_getattribute_2 _ _) (meets_getattribute_miss_list a xs k #[] name _ hmiss hname hsz) ⟨hx, hA, fun h' tk' e hx' => ?_⟩) | wp_step))
  obtain ⟨t', u', he⟩ := hx'.there
  show wpAny _ _ (getattributeRaised _ _ _ _ _ _ _) _ _ _
  unfold getattributeRaised
  repeat (any_goals (first | assumption | wp_step))
  exact h h' tk' hx'.keeps

noncomputable def pairsD : List V → List (V × V) → Option (List (V × V))
  | [], es => some es
  | .tup [k, v] :: r, es => if V.key 6 k = true ∧ es.length < LIM then pairsD r (dSet es k v) else none
  | _, _ => none

set_option tactic.hygienic true in
theorem pairsD_cons {v : V} {r : List V} {es es' : List (V × V)} (h : pairsD (v :: r) es = some es') : ∃ k x, v = .tup [k, x] ∧ V.key 6 k = true ∧ es.length < LIM ∧ pairsD r (dSet es k x) = some es' := by
  unfold pairsD at h
  split at h
  · rename_i q; cases q
  · rename_i q
    injection q with q1 q2
    subst q1; subst q2
    split at h
    · rename_i hc; exact ⟨_, _, rfl, hc.1, hc.2, h⟩
    · cases h
  · cases h
theorem plain_update_loop : plainId "dict.update.loop" = true := by decide +kernel
theorem entry_update_loop : entryFor table "dict.update.loop" = some Builtin.«dict.update.loop» := entryFor_of_fast (by kernel_rfl)

theorem pairItems_V {a : Addr} {us : List Value} {n : Nat} {Q : List Value → Shared → Prop} {E : Value → Shared → Prop} (ht : s.heap.get? a = some { cls := .type "tuple", data := .seq (List.toArray us) n }) (hq : Q us s) :
    wpAny (model g.prog g.w) A (Builtin.Dict.pairItems (.ref a)) Q E s := by
  unfold Builtin.Dict.pairItems
  refine wpAny_bind (wpAny_typeOf (T := "tuple") ⟨_, ht, rfl⟩ ?_)
  rw [if_pos (by decide)]
  refine wpAny_bind (wpAny_seqItems ht rfl (wpAny_pure ?_))
  simpa using hq

theorem updateLoop_V {R : Result → Shared → Prop} {l : Nat} {a d it : Addr} {vs : List V} {σ₀ : Store} (Rm : Room 0 A) (hl : σ₀[l]? = some (.list vs)) (ha : ρ[l]? = some a) (hdρ : ρ[σ₀.length]? = some d) (hit1 : it ∉ ρ ∧ g.base.get? it = none) (hne : d ≠ it) :
    ∀ (k i : Nat) (s : Shared) (es es' : List (V × V)), vs.length - i = k → s.heap.IsListIter it a i → Sim g ρ (σ₀ ++ [.dict es]) s.heap → pairsD (vs.drop i) es = some es' →
    (∀ s', (∃ h' tk, s' = { s with heap := h', toks := tk }) → (∀ b o, b ≠ it → b ≠ d → s.heap.get? b = some o → s'.heap.get? b = some o) → Sim g ρ (σ₀ ++ [.dict es']) s'.heap → R (.ok (.ret .none)) s') →
    codeAny (model g.prog g.w) A (.builtin "dict.update.loop" ⟨[.ref d, .ref it, rawInt (i : Int), .none], []⟩) R s := by
  have hl' : ∀ es, (σ₀ ++ [MObj.dict es])[l]? = some (.list vs) := fun es => pre_get hl
  have hd' : ∀ es, (σ₀ ++ [MObj.dict es])[σ₀.length]? = some (.dict es) := fun es => by simp
  intro k
  induction k with
  | zero =>
    intro i s es es' hk hit S hd hR
    have hi : vs.length ≤ i := by lia
    rw [List.drop_eq_nil_of_le hi] at hd
    cases hd
    obtain ⟨o, ho, hc, hdd⟩ := id hit
    obtain ⟨_, us, n, hlo, hr⟩ := S.list (hl' es) ha
    refine codeAny_builtin entry_update_loop ?_
    rw [Around.under_plainId plain_update_loop _]
    show wpAny _ A.in1 (pyNext (.ref it) >>= _) _ _ s
    refine wpAny_bind (wpAny_pyNext_list_end Rm.hh hit (isList_of hlo) (by simp [hr.length]; exact hi) fun h' hk' => ?_)
    show wpAny _ _ (Builtin.Dict.addKeywords d [] >>= _) _ _ _
    refine wpAny_bind (wpAny_pure (wpAny_pure ?_))
    have ap := own1 (ρ := ρ) (h := s.heap) hit1.1 hit1.2 ho (by simp [isImm, hc, hdd])
    exact hR _ ⟨_, _, rfl⟩ (fun b o h1 _ e => hk' b o h1 e) (S.keepBut ap fun b o e h1 => hk' b o h1 e)
  | succ k ih =>
    intro i s es es' hk hit S hd hR
    have hi : i < vs.length := by lia
    rw [List.drop_eq_getElem_cons hi] at hd
    obtain ⟨o, ho, hc, hdd⟩ := id hit
    obtain ⟨_, us, n, hlo, hr⟩ := S.list (hl' es) ha
    obtain ⟨u, hu, ru⟩ := hr.get (List.getElem?_eq_getElem hi)
    have ap := own1 (ρ := ρ) (h := s.heap) hit1.1 hit1.2 ho (by simp [isImm, hc, hdd])
    generalize vs[i] = v at hd ru
    obtain ⟨kv, vv, rfl, hk1, hk2, hd⟩ := pairsD_cons hd
    refine codeAny_builtin entry_update_loop ?_
    rw [Around.under_plainId plain_update_loop _]
    show wpAny _ A.in1 (pyNext (.ref it) >>= _) _ _ s
    refine wpAny_bind (wpAny_pyNext_list_item hit (isList_of hlo) (x := u) (by simpa using hu) fun h' hit' hs' => ?_)
    have k1 : ∀ b o, s.heap.get? b = some o → ¬ (b = it) → h'.get? b = some o := fun b o e h1 => (hs'.2 b h1).trans e
    have S1 : Sim g ρ (σ₀ ++ [.dict es]) h' := S.keepBut ap k1
    have ru1 : RepV g ρ h' (.tup [kv, vv]) u := by simpa using RepV.grow (t := []) (ap.grow k1) ru
    obtain ⟨ta, ws, rfl, ⟨tn, hto⟩, hw⟩ := ru1
    obtain ⟨w1, _, rfl, rk, w2, _, rfl, rv, hn⟩ := hw
    cases hn
    refine wpAny_bind (wpAny_holding ?_)
    refine wpAny_bind (wpAny_tryCatch (pairItems_V (s := { s with heap := h' }) hto ?_))
    show wpAny _ _ (holding [w1, w2] (dictSet d w1 w2)) _ _ _
    have hu0 := Rm.small
    refine wpAny_holding (dictSet_V (s := { s with heap := h' }) (by show A.units + 1 + 30 < cLine; lia) S1 (hd' es) hdρ hk1 rk rv hk2 fun h2 tk2 oa g1 g2 g3 => ?_)
    have S2 : Sim g ρ (σ₀ ++ [.dict (dSet es kv vv)]) h2 := by
      have e : (σ₀ ++ [MObj.dict es]).set σ₀.length (.dict (dSet es kv vv)) = σ₀ ++ [.dict (dSet es kv vv)] := by simp
      rw [e] at g3; exact g3
    have hit2 : h2.IsListIter it a (i + 1) := by
      obtain ⟨o', ho', r'⟩ := hit'
      exact ⟨o', g2 _ _ (Ne.symm hne) ho', r'⟩
    show wpAny _ _ (again (.builtin "dict.update.loop" ⟨[.ref d, .ref it, rawInt ((i : Int) + 1), .none], []⟩)) _ _ _
    refine wpAny_pure ⟨plainId_quiet plain_update_loop _, ih (i + 1) { s with heap := h2, toks := tk2 } _ es' (by lia) hit2 S2 hd fun s' hs'' hkk hS' => ?_⟩
    obtain ⟨h3, tk3, rfl⟩ := hs''
    exact hR _ ⟨_, _, rfl⟩ (fun b o h1 h2' e => hkk b o h1 h2' (g2 b o h2' (k1 b o e h1))) hS'

noncomputable def dictF : FDen
  | [.loc l], σ => match σ[l]? with
    | some (.list vs) => (pairsD vs []).map fun es => (.loc σ.length, σ ++ [.dict es])
    | _ => none
  | _, _ => none
set_option tactic.hygienic true in
theorem CallS.dict : CallS g 1 (.type "dict") dictF := by
  intro A ρ σ s vs us r σ' R S hr hf
  unfold dictF at hf
  split at hf
  · rename_i l
    obtain ⟨u, us', rfl, ⟨a, rfl, ha⟩, hn⟩ := hr
    cases hn
    split at hf
    · rename_i ws hl
      obtain ⟨es, hes, he⟩ := Option.map_eq_some_iff.mp hf
      cases he
      obtain ⟨_, us, n, ho, hrr⟩ := S.list hl ha
      refine callType_codes (Q₁ := fun obj s₁ => obj = .ref s.heap.objs.size ∧ s₁ = { s with heap := s.heap.push { cls := .type "dict", data := .dict #[] } }) F.kt_called_dict (F.kt_typeCall_dict_1 _) F.entry_dict_init (PySem.kt_code_dict_new _ ⟨rfl, rfl⟩) ?_
      rintro obj s₁ ⟨rfl, rfl⟩
      have hnew := noNew s.heap
      have e1 : ∀ b o, s.heap.get? b = some o → (s.heap.push { cls := .type "dict", data := .dict #[] }).get? b = some o := fun b o e => Heap.get?_push_of_some _ e
      have hdo : (s.heap.push { cls := .type "dict", data := .dict #[] }).get? s.heap.objs.size = some { cls := .type "dict", data := .dict #[] } := Heap.get?_push_size _ rfl
      have S1 : Sim g (ρ ++ [s.heap.objs.size]) (σ ++ [.dict []]) (s.heap.push { cls := .type "dict", data := .dict #[] }) := S.alloc hnew S.big e1 ⟨Nat.zero_le _, ⟨List.nodup_nil, fun p hp => by cases hp⟩, [], hdo, rfl⟩
      have hsz : (s.heap.push { cls := .type "dict", data := .dict #[] }).objs.size = s.heap.objs.size + 1 := Heap.size_push ..
      have hbig := S.big
      generalize s.heap.objs.size = d at hnew hdo S1 hsz hbig ⊢
      generalize hH : s.heap.push { cls := .type "dict", data := .dict #[] } = H at e1 hdo S1 hsz ⊢
      have hT : ({ s with heap := H } : Shared).TypeIs (.ref d) "dict" := ⟨_, hdo, rfl⟩
      refine ⟨hT, F.args_dict_init_2 _ _, ?_⟩
      unfold Builtin.«dict.__init__»
      refine wpAny_bind ?_
      unfold Builtin.Dict.selfAndRest
      refine wpAny_bind (wpAny_notOrdered_dict hT ?_)
      show wpAny _ _ (pure (d, [Value.ref a])) _ _ _
      refine wpAny_pure ?_
      show wpAny _ _ (Builtin.Dict.updateFrom "dict.__init__" d (.ref a) [] .none) _ _ _
      unfold Builtin.Dict.updateFrom
      have ho1 := e1 _ _ ho
      refine wpAny_bind (wpAny_typeOf (T := "list") ⟨_, ho1, rfl⟩ ?_)
      rw [if_pos (by decide)]
      refine wpAny_bind (noKeys (s := { s with heap := H }) ho1 R.hh fun h2 tk2 k2 => ?_)
      show wpAny _ _ (do rule _; return ← again (.builtin "dict.update.loop" ⟨[.ref d, ← pyIter (.ref a), rawInt 0, .none], []⟩)) _ _ _
      refine wpAny_bind (wpAny_rule ?_)
      have S2 : Sim g (ρ ++ [d]) (σ ++ [.dict []]) h2 := S1.ext k2
      have hn2 := noNew h2
      have e3 : ∀ b o, h2.get? b = some o → (h2.push { cls := .type "list_iterator", data := .fields #[.ref a, .int 0 0] }).get? b = some o := fun b o e => Heap.get?_push_of_some _ e
      have hit : (h2.push { cls := .type "list_iterator", data := .fields #[.ref a, .int 0 0] }).IsListIter h2.objs.size a 0 := ⟨_, Heap.get?_push_size _ rfl, rfl, rfl⟩
      have hne : d ≠ h2.objs.size := Nat.ne_of_lt (Heap.lt_size (k2 _ _ hdo))
      have S3 : Sim g (ρ ++ [d]) (σ ++ [.dict []]) (h2.push { cls := .type "list_iterator", data := .fields #[.ref a, .int 0 0] }) := S2.ext e3
      have hitn := S2.newNotIn hn2
      refine wpAny_bind (wpAny_pyIter_list (s := { s with heap := h2, toks := tk2 }) (isList_of (k2 _ _ ho1)) ?_)
      generalize h2.push { cls := .type "list_iterator", data := .fields #[.ref a, .int 0 0] } = G at e3 hit S3 ⊢
      have ha1 : (ρ ++ [d])[l]? = some a := pre_get ha
      have hd1 : (ρ ++ [d])[σ.length]? = some d := by rw [← S.len]; simp
      refine wpAny_pure ⟨plainId_quiet plain_update_loop _, ?_⟩
      refine updateLoop_V (A := A.in1) R.in1 hl ha1 hd1 hitn hne _ 0 { s with heap := G, toks := tk2 } [] es rfl hit S3 (by simpa using hes) fun s' hs' hkk hS' => ?_
      obtain ⟨h4, tk4, rfl⟩ := hs'
      have kk : ∀ b o, s.heap.get? b = some o → h4.get? b = some o := fun b o e => hkk b o (Nat.ne_of_lt (Heap.lt_size (k2 _ _ (e1 _ _ e)))) (fun q => by rw [q, hnew] at e; cases e) (e3 _ _ (k2 _ _ (e1 _ _ e)))
      exact ⟨rfl, ρ ++ [d], Step.alloc hnew kk, hS', d, rfl, hd1⟩
    · cases hf
  · cases hf
end
end Mini
end

section
namespace Mini
open PySem PySem.SeqAt PyProof.Rows PySem.Calls PySem.W

section
variable {g : GG} {ρ ρ₁ : List Addr} {σ σ₁ : Store} {A : Around} {h h' : Heap} {s : Shared} {names : List (Str × NameKind)} {k : Nat}

noncomputable def E.dict0 : Den := fun _ σ => some (.loc σ.length, σ ++ [.dict []])
theorem SE.dict0 {pos : Pos} : SE g names k (.Dict [] [] pos) E.dict0 := by
  intro A env ρ lv σ s v σ' R e S hm
  cases hm
  refine wpAny_Dict_empty ?_
  have hnew := noNew s.heap
  have e1 : ∀ b o, s.heap.get? b = some o → (s.heap.push { cls := .type "dict", data := .dict #[] }).get? b = some o := fun b o e => Heap.get?_push_of_some _ e
  exact ⟨ρ ++ [s.heap.objs.size], Step.alloc (tk := s.toks) hnew e1, S.alloc hnew S.big e1 ⟨Nat.zero_le _, ⟨List.nodup_nil, fun p hp => by cases hp⟩, [], Heap.get?_push_size _ rfl, rfl⟩, _, rfl, by rw [← S.len]; simp⟩

noncomputable def E.dict1 (mk mv : Den) : Den := fun lv σ => match mk lv (σ ++ [.dict []]) with
  | some (kv, σ₁) => match mv lv σ₁ with
    | some (vv, σ₂) => match σ₂[σ.length]? with
      | some (.dict es) => if V.key 6 kv = true ∧ es.length < LIM then some (.loc σ.length, σ₂.set σ.length (.dict (dSet es kv vv))) else none
      | _ => none
    | none => none
  | none => none
set_option tactic.hygienic true in
theorem SE.dict1 {a b : Expr} {mk mv : Den} {pos : Pos} (ha : SE g names k a mk) (hb : SE g names k b mv) : SE g names k (.Dict [some a] [b] pos) (E.dict1 mk mv) := by
  intro A env ρ lv σ s v σ' R e S hm
  unfold E.dict1 at hm
  split at hm
  · rename_i kv σ₁ h1
    split at hm
    · rename_i vv σ₂ h2
      split at hm
      · rename_i es hl
        split at hm
        · rename_i hc
          cases hm
          refine wpAny_Dict_any rfl rfl (by simp) (by simp) ?_
          have hnew := noNew s.heap
          have e1 : ∀ b o, s.heap.get? b = some o → (s.heap.push { cls := .type "dict", data := .dict #[] }).get? b = some o := fun b o e => Heap.get?_push_of_some _ e
          have T0 : Step g noX ρ s { s with heap := s.heap.push { cls := .type "dict", data := .dict #[] } } (ρ ++ [s.heap.objs.size]) := Step.alloc (tk := s.toks) hnew e1
          have S0 : Sim g (ρ ++ [s.heap.objs.size]) (σ ++ [.dict []]) (s.heap.push { cls := .type "dict", data := .dict #[] }) := S.alloc hnew S.big e1 ⟨Nat.zero_le _, ⟨List.nodup_nil, fun p hp => by cases hp⟩, [], Heap.get?_push_size _ rfl, rfl⟩
          have hd0 : (ρ ++ [s.heap.objs.size])[σ.length]? = some s.heap.objs.size := by rw [← S.len]; simp
          show wpAny _ A (do let kv ← eval a env; let vv ← holding [kv] (do let x ← eval b env; standAt pos; pure x); return (kv, vv) :: (← holding [kv, vv] (evalPairs []))) _ noE _
          refine wpAny_bind (wpAny_mono (ha A env _ lv _ { s with heap := s.heap.push { cls := .type "dict", data := .dict #[] } } _ _ R (e.step' T0) S0 h1) (fun u s₁ P => ?_) noE_mono)
          obtain ⟨ρ₁, T1, S1, ru⟩ := P
          refine wpAny_bind (wpAny_holding (wpAny_bind (wpAny_mono (hb A env ρ₁ lv σ₁ s₁ _ _ R ((e.step' T0).step' T1) S1 h2) (fun w s₂ P => ?_) noE_mono)))
          obtain ⟨ρ₂, T2, S2, rw'⟩ := P
          refine wpAny_bind (wpAny_standAt (wpAny_pure ?_))
          refine wpAny_bind (wpAny_holding (wpAny_pure (wpAny_pure ?_)))
          have hd2 : ρ₂[σ.length]? = some s.heap.objs.size := by obtain ⟨t, rfl⟩ := (T1.trans T2).pre; exact pre_get hd0
          unfold storeAll
          rw [List.forIn_cons]
          have hu := R.small
          refine wpAny_bind (wpAny_bind (dictSet_V (by lia) S2 hl hd2 hc.1 (ru.step T2) rw' hc.2 fun h' tk oa g1 g2 g3 => wpAny_pure ?_))
          show wpAny _ _ (forIn [] PUnit.unit _) _ _ _
          rw [List.forIn_nil]
          refine wpAny_pure ?_
          exact ⟨ρ₂, ((T0.trans T1).trans T2).trans (Step.set S2 hd2 g1 g2), g3, _, rfl, hd2⟩
        · cases hm
      · cases hm
    · cases hm
  · cases hm
end
end Mini
end

section
namespace Mini
open PySem PySem.SeqAt PyProof.Rows PySem.Calls PySem.W

noncomputable def prog : Program := PySem.Challenge.pw_sz0105_03
noncomputable def recAt (i : Nat) : DefRec := match prog.main.body[i]? with
  | some (.FunctionDef name params body _ _ _ scope _ _ pos) => ⟨name, params, body, scope, pos⟩
  | _ => ⟨Str.ofString "", ⟨[], [], none, [], [], none, []⟩, [], { kind := .function, names := [], isGenerator := false, isCoroutine := false, more := [] }, ⟨0, 0, 0, 0⟩⟩
structure Ctx (g : GG) : Prop where
  ns : g.base.Ns mainGlobals g.mg
  nolimit : g.base.NoLimit
  fn : ∀ d ∈ recsOf prog, ∃ a o pm code doc, g.mg d.name = some (.ref a) ∧ g.base.get? a = some o ∧ o.data = .func (Calls.docDef d.name d.params d.body d.scope pm code doc) ∧ g.base.CodeRec code d.name
  b_abs : BltIs g (Str.ofString "abs") (.builtin "abs")
  b_dict : BltIs g (Str.ofString "dict") (.type "dict")
  b_enumerate : BltIs g (Str.ofString "enumerate") (.type "enumerate")
  b_int : BltIs g (Str.ofString "int") (.type "int")
  b_len : BltIs g (Str.ofString "len") (.builtin "len")
  b_max : BltIs g (Str.ofString "max") (.builtin "max")
  b_min : BltIs g (Str.ofString "min") (.builtin "min")
  b_range : BltIs g (Str.ofString "range") (.type "range")
  b_sorted : BltIs g (Str.ofString "sorted") (.builtin "sorted")
  b_tuple : BltIs g (Str.ofString "tuple") (.type "tuple")
  c_MAX_AGE : GlobIs g (Str.ofString "MAX_AGE") (.int 3600)
  c_NET : GlobIs g (Str.ofString "NET") (.int 0)
  c_POINT : GlobIs g (Str.ofString "POINT") (.int 1)
  c_ROUTER : GlobIs g (Str.ofString "ROUTER") (.int 1)
  c_TRANSIT : GlobIs g (Str.ofString "TRANSIT") (.int 2)

theorem Ctx.fnIs {g : GG} (C : Ctx g) {d : DefRec} {ps : List Str} {pidx : List (Option Nat)} {mb : SDen} {k : Nat} {x : Str} {ns : List (Str × NameKind)} {f : FDen} (hm : d ∈ recsOf prog) (D : DefOk d.name d.params d.body d.scope ps pidx) (hb : SS g ns k d.body mb)
    (hf : f = F.den ps.length pidx mb) (hx : d.name = x := by rfl) (hn : d.scope.names = ns := by rfl) : FnIs g x (k + 1) f := by
  subst hx; subst hn; subst hf
  obtain ⟨a, o, pm, code, doc, h1, h2, h3, h4⟩ := C.fn d hm
  exact ⟨C.ns, a, o, _, h1, h2, h3, CallS.fn D hb h2 h3 C.nolimit h4⟩

noncomputable def N_area_vertices : List (Str × NameKind) := [(Str.ofString "rows", .local), (Str.ofString "found", .local), (Str.ofString "senders", .local), (Str.ofString "head", .local), (Str.ofString "body", .local), (Str.ofString "age", .local), (Str.ofString "options", .local), (Str.ofString "kind", .local), (Str.ofString "ls_id", .local), (Str.ofString "adv", .local), (Str.ofString "spot", .local), (Str.ofString "MAX_AGE", .globalImplicit), (Str.ofString "ROUTER", .globalImplicit), (Str.ofString "NET", .globalImplicit)]
noncomputable def r_area_vertices : DefRec := recAt 4
noncomputable def d_area_vertices : SDen := (D.cons (D.swap [2, 1] (E.tup (L.cons E.dict0 (L.cons E.dict0 L.nil)))) (D.cons (D.for (It.val (E.var 0)) (T.tup 2 (Ts.cons (T.var 3) (Ts.cons (T.var 4) Ts.nil))) (D.cons (D.assign (T.tup 5 (Ts.cons (T.var 5) (Ts.cons (T.var 6) (Ts.cons (T.var 7) (Ts.cons (T.var 8) (Ts.cons (T.var 9) Ts.nil)))))) (E.slTo (E.var 3) (E.const (.int 5)))) (D.cons (D.ite (C.or (C.cmp (intRel fun a b => decide (b ≤ a)) (E.var 5) (E.const (.int 3600))) (C.or (C.cmp notInS (E.var 7) (E.tup (L.cons (E.const (.int 1)) (L.cons (E.const (.int 2)) L.nil)))) (C.and (C.cmp eqS (E.var 7) (E.const (.int 1))) (C.cmp neS (E.var 8) (E.var 9))))) (D.cons D.cont D.nil) D.nil) (D.cons (D.assign (T.var 10) (E.ite (C.cmp eqS (E.var 7) (E.const (.int 1))) (E.tup (L.cons (E.const (.int 1)) (L.cons (E.var 9) L.nil))) (E.tup (L.cons (E.const (.int 0)) (L.cons (E.var 8) L.nil))))) (D.cons (D.ite (C.or (C.cmp notInS (E.var 10) (E.var 1)) (C.cmp gtS (E.var 9) (E.sub (E.var 2) (E.var 10)))) (D.cons (D.assign (T.tup 2 (Ts.cons (T.sub (E.var 1) (E.var 10)) (Ts.cons (T.sub (E.var 2) (E.var 10)) Ts.nil))) (E.tup (L.cons (E.var 4) (L.cons (E.var 9) L.nil)))) D.nil) D.nil) D.nil))))) (D.cons (D.ret (E.var 1)) D.nil)))
noncomputable def f_area_vertices : FDen := F.den 1 [some 0, none, none, none, none, none, none, none, none, none, none, none, none, none] d_area_vertices
theorem s_area_vertices {g : GG} (C : Ctx g) : SS g N_area_vertices 1 r_area_vertices.body d_area_vertices :=
  (by refine SS.cons ?_ ?_; exact (by refine S1.swap (xs := [Str.ofString "found", Str.ofString "senders"]) (is := [2, 1]) ?_ (by kernel_rfl) rfl (by intro j i x h1 h2; rcases j with _ | j; (cases h1; cases h2; rfl); rcases j with _ | j; (cases h1; cases h2; rfl); cases h1); exact (by refine SE.tup ?_; exact (by refine SL.cons ?_ ?_; exact SE.dict0; exact (by refine SL.cons ?_ ?_; exact SE.dict0; exact SL.nil)))); exact (by refine SS.cons ?_ ?_; exact (by refine S1.for (tt := false) ?_ ?_ ?_; exact (by refine ItE.val ?_; exact (by exact (SE.var (i := 0) rfl (.inl rfl)))); exact (by refine TE.tup ?_; exact (by refine TsE.cons ?_ ?_; exact (TE.var (i := 3) rfl (.inl rfl)); exact (by refine TsE.cons ?_ ?_; exact (TE.var (i := 4) rfl (.inl rfl)); exact TsE.nil))); exact (by refine SS.cons ?_ ?_; exact (by refine S1.assign ?_ ?_; exact (by refine TE.tup ?_; exact (by refine TsE.cons ?_ ?_; exact (TE.var (i := 5) rfl (.inl rfl)); exact (by refine TsE.cons ?_ ?_; exact (TE.var (i := 6) rfl (.inl rfl)); exact (by refine TsE.cons ?_ ?_; exact (TE.var (i := 7) rfl (.inl rfl)); exact (by refine TsE.cons ?_ ?_; exact (TE.var (i := 8) rfl (.inl rfl)); exact (by refine TsE.cons ?_ ?_; exact (TE.var (i := 9) rfl (.inl rfl)); exact TsE.nil)))))); exact (by refine SE.slTo ?_ ?_; exact (by exact (SE.var (i := 3) rfl (.inl rfl))); exact SE.cInt)); exact (by refine SS.cons ?_ ?_; exact (by refine S1.ite ?_ ?_ ?_; exact (by refine CE.or3 ?_ ?_ ?_; exact (by refine CE.cmp ?_ ?_ ?_; exact (by exact (SE.var (i := 5) rfl (.inl rfl))); exact (by exact (SE.glob (i := 11) rfl C.c_MAX_AGE)); exact CmpS.ge); exact (by refine CE.cmp ?_ ?_ ?_; exact (by exact (SE.var (i := 7) rfl (.inl rfl))); exact (by refine SE.tup ?_; exact (by refine SL.cons ?_ ?_; exact SE.cInt; exact (by refine SL.cons ?_ ?_; exact SE.cInt; exact SL.nil))); exact CmpS.notIn); exact (by refine CE.and ?_ ?_; exact (by refine CE.cmp ?_ ?_ ?_; exact (by exact (SE.var (i := 7) rfl (.inl rfl))); exact SE.cInt; exact CmpS.eq); exact (by refine CE.cmp ?_ ?_ ?_; exact (by exact (SE.var (i := 8) rfl (.inl rfl))); exact (by exact (SE.var (i := 9) rfl (.inl rfl))); exact CmpS.ne))); exact (by refine SS.cons ?_ ?_; exact S1.cont; exact SS.nil); exact SS.nil); exact (by refine SS.cons ?_ ?_; exact (by refine S1.assign ?_ ?_; exact (TE.var (i := 10) rfl (.inl rfl)); exact (by refine SE.ite ?_ ?_ ?_; exact (by refine CE.cmp ?_ ?_ ?_; exact (by exact (SE.var (i := 7) rfl (.inl rfl))); exact SE.cInt; exact CmpS.eq); exact (by refine SE.tup ?_; exact (by refine SL.cons ?_ ?_; exact (by exact (SE.glob (i := 12) rfl C.c_ROUTER)); exact (by refine SL.cons ?_ ?_; exact (by exact (SE.var (i := 9) rfl (.inl rfl))); exact SL.nil))); exact (by refine SE.tup ?_; exact (by refine SL.cons ?_ ?_; exact (by exact (SE.glob (i := 13) rfl C.c_NET)); exact (by refine SL.cons ?_ ?_; exact (by exact (SE.var (i := 8) rfl (.inl rfl))); exact SL.nil))))); exact (by refine SS.cons ?_ ?_; exact (by refine S1.ite ?_ ?_ ?_; exact (by refine CE.or ?_ ?_; exact (by refine CE.cmp ?_ ?_ ?_; exact (by exact (SE.var (i := 10) rfl (.inl rfl))); exact (by exact (SE.var (i := 1) rfl (.inl rfl))); exact CmpS.notIn); exact (by refine CE.cmp ?_ ?_ ?_; exact (by exact (SE.var (i := 9) rfl (.inl rfl))); exact (by refine SE.sub ?_ ?_; exact (by exact (SE.var (i := 2) rfl (.inl rfl))); exact (by exact (SE.var (i := 10) rfl (.inl rfl)))); exact CmpS.gt)); exact (by refine SS.cons ?_ ?_; exact (by refine S1.assign ?_ ?_ (hw := by kernel_rfl); exact (by refine TE.tup ?_; exact (by refine TsE.cons ?_ ?_; exact (by refine TE.sub ?_ ?_; exact (by exact (SE.var (i := 1) rfl (.inl rfl))); exact (by exact (SE.var (i := 10) rfl (.inl rfl)))); exact (by refine TsE.cons ?_ ?_; exact (by refine TE.sub ?_ ?_; exact (by exact (SE.var (i := 2) rfl (.inl rfl))); exact (by exact (SE.var (i := 10) rfl (.inl rfl)))); exact TsE.nil))); exact (by refine SE.tup ?_; exact (by refine SL.cons ?_ ?_; exact (by exact (SE.var (i := 4) rfl (.inl rfl))); exact (by refine SL.cons ?_ ?_; exact (by exact (SE.var (i := 9) rfl (.inl rfl))); exact SL.nil)))); exact SS.nil); exact SS.nil); exact SS.nil))))); exact (by refine SS.cons ?_ ?_; exact (by refine S1.ret ?_; exact (by exact (SE.var (i := 1) rfl (.inl rfl)))); exact SS.nil)))
theorem o_area_vertices : DefOk r_area_vertices.name r_area_vertices.params r_area_vertices.body r_area_vertices.scope [Str.ofString "rows"] [some 0, none, none, none, none, none, none, none, none, none, none, none, none, none] where
  bind := fun pm cd doc => lenS fun a0 => lenZ rfl
  ndp := by decide +kernel
  kindP := by decide +kernel
  pidx := by decide +kernel
  nd := by decide +kernel
  pl := by decide +kernel
  nofree := by decide +kernel
  kind := rfl
  co := rfl
  gen := rfl
theorem m_area_vertices : r_area_vertices ∈ recsOf prog := List.mem_of_getElem? (i := 0) (by kernel_rfl)
theorem fn_area_vertices {g : GG} (C : Ctx g) : FnIs g (Str.ofString "area_vertices") 2 f_area_vertices := Ctx.fnIs (d := r_area_vertices) (ps := [Str.ofString "rows"]) (pidx := [some 0, none, none, none, none, none, none, none, none, none, none, none, none, none]) (mb := d_area_vertices) (k := 1) (ns := N_area_vertices) (f := f_area_vertices) C m_area_vertices o_area_vertices (@s_area_vertices g C) rfl

noncomputable def N_links_of : List (Str × NameKind) := [(Str.ofString "body", .local), (Str.ofString "found", .local), (Str.ofString "link_id", .local), (Str.ofString "data", .local), (Str.ofString "sort", .local), (Str.ofString "metric", .local), (Str.ofString "POINT", .globalImplicit), (Str.ofString "ROUTER", .globalImplicit), (Str.ofString "TRANSIT", .globalImplicit), (Str.ofString "NET", .globalImplicit)]
noncomputable def r_links_of : DefRec := recAt 5
noncomputable def d_links_of : SDen := (D.cons (D.ite (C.cmp eqS (E.sub (E.var 0) (E.const (.int 0))) (E.const (.str (Str.ofString "network")))) (D.cons (D.ret (E.comp (It.val (E.sub (E.var 0) (E.const (.int 2)))) [none, none, none] (.list []) (T.var 1) C.true (B.app (E.tup (L.cons (E.tup (L.cons (E.const (.int 1)) (L.cons (E.var 1) L.nil))) (L.cons (E.const (.int 0)) (L.cons (E.const (.int 0)) L.nil))))))) D.nil) D.nil) (D.cons (D.assign (T.var 1) (E.list L.nil)) (D.cons (D.for (It.val (E.sub (E.var 0) (E.const (.int 2)))) (T.tup 4 (Ts.cons (T.var 2) (Ts.cons (T.var 3) (Ts.cons (T.var 4) (Ts.cons (T.var 5) Ts.nil))))) (D.cons (D.ite (C.cmp eqS (E.var 4) (E.const (.int 1))) (D.cons (D.expr (E.meth .list appendM (E.var 1) (L.cons (E.tup (L.cons (E.tup (L.cons (E.const (.int 1)) (L.cons (E.var 2) L.nil))) (L.cons (E.var 5) (L.cons (E.var 3) L.nil)))) L.nil))) D.nil) (D.cons (D.ite (C.cmp eqS (E.var 4) (E.const (.int 2))) (D.cons (D.expr (E.meth .list appendM (E.var 1) (L.cons (E.tup (L.cons (E.tup (L.cons (E.const (.int 0)) (L.cons (E.var 2) L.nil))) (L.cons (E.var 5) (L.cons (E.var 3) L.nil)))) L.nil))) D.nil) D.nil) D.nil)) D.nil)) (D.cons (D.ret (E.var 1)) D.nil))))
noncomputable def f_links_of : FDen := F.den 1 [some 0, none, none, none, none, none, none, none, none, none] d_links_of
theorem s_links_of {g : GG} (C : Ctx g) : SS g N_links_of 1 r_links_of.body d_links_of :=
  (by refine SS.cons ?_ ?_; exact (by refine S1.ite ?_ ?_ ?_; exact (by refine CE.cmp ?_ ?_ ?_; exact (by refine SE.sub ?_ ?_; exact (by exact (SE.var (i := 0) rfl (.inl rfl))); exact SE.cInt); exact SE.cStr; exact CmpS.eq); exact (by refine SS.cons ?_ ?_; exact (by refine S1.ret ?_; exact (by refine SE.listComp (tt := false) (show ScOk _ _ ([(Str.ofString ".0", .local), (Str.ofString "member", .local), (Str.ofString "ROUTER", .globalImplicit)]) [none, none, none] from ⟨rfl, by kernel_rfl, by decide +kernel, by decide +kernel, by decide +kernel, by decide +kernel, by decide +kernel⟩) ?_ ?_ ?_ ?_; exact (by refine ItE.val ?_; exact (by refine SE.sub ?_ ?_; exact (by exact (SE.var (i := 0) rfl (.inl rfl))); exact SE.cInt)); exact (TE.loc (i := 1) rfl); exact CI.nil; exact (by refine SE.tup ?_; exact (by refine SL.cons ?_ ?_; exact (by refine SE.tup ?_; exact (by refine SL.cons ?_ ?_; exact (by exact (SE.glob (i := 2) rfl C.c_ROUTER)); exact (by refine SL.cons ?_ ?_; exact (by exact (SE.var (i := 1) rfl (.inl rfl))); exact SL.nil))); exact (by refine SL.cons ?_ ?_; exact SE.cInt; exact (by refine SL.cons ?_ ?_; exact SE.cInt; exact SL.nil)))))); exact SS.nil); exact SS.nil); exact (by refine SS.cons ?_ ?_; exact (by refine S1.assign ?_ ?_; exact (TE.var (i := 1) rfl (.inl rfl)); exact (by refine SE.list ?_; exact SL.nil)); exact (by refine SS.cons ?_ ?_; exact (by refine S1.for (tt := false) ?_ ?_ ?_; exact (by refine ItE.val ?_; exact (by refine SE.sub ?_ ?_; exact (by exact (SE.var (i := 0) rfl (.inl rfl))); exact SE.cInt)); exact (by refine TE.tup ?_; exact (by refine TsE.cons ?_ ?_; exact (TE.var (i := 2) rfl (.inl rfl)); exact (by refine TsE.cons ?_ ?_; exact (TE.var (i := 3) rfl (.inl rfl)); exact (by refine TsE.cons ?_ ?_; exact (TE.var (i := 4) rfl (.inl rfl)); exact (by refine TsE.cons ?_ ?_; exact (TE.var (i := 5) rfl (.inl rfl)); exact TsE.nil))))); exact (by refine SS.cons ?_ ?_; exact (by refine S1.ite ?_ ?_ ?_; exact (by refine CE.cmp ?_ ?_ ?_; exact (by exact (SE.var (i := 4) rfl (.inl rfl))); exact (by exact (SE.glob (i := 6) rfl C.c_POINT)); exact CmpS.eq); exact (by refine SS.cons ?_ ?_; exact (by refine S1.expr ?_; exact (by refine SE.meth (T := .list) F.plainAttrs_list F.slot_list_append (by rfl) MethS.append ?_ ?_; exact (by exact (SE.var (i := 1) rfl (.inl rfl))); exact (by refine SL.cons ?_ ?_; exact (by refine SE.tup ?_; exact (by refine SL.cons ?_ ?_; exact (by refine SE.tup ?_; exact (by refine SL.cons ?_ ?_; exact (by exact (SE.glob (i := 7) rfl C.c_ROUTER)); exact (by refine SL.cons ?_ ?_; exact (by exact (SE.var (i := 2) rfl (.inl rfl))); exact SL.nil))); exact (by refine SL.cons ?_ ?_; exact (by exact (SE.var (i := 5) rfl (.inl rfl))); exact (by refine SL.cons ?_ ?_; exact (by exact (SE.var (i := 3) rfl (.inl rfl))); exact SL.nil)))); exact SL.nil))); exact SS.nil); exact (by refine SS.cons ?_ ?_; exact (by refine S1.ite ?_ ?_ ?_; exact (by refine CE.cmp ?_ ?_ ?_; exact (by exact (SE.var (i := 4) rfl (.inl rfl))); exact (by exact (SE.glob (i := 8) rfl C.c_TRANSIT)); exact CmpS.eq); exact (by refine SS.cons ?_ ?_; exact (by refine S1.expr ?_; exact (by refine SE.meth (T := .list) F.plainAttrs_list F.slot_list_append (by rfl) MethS.append ?_ ?_; exact (by exact (SE.var (i := 1) rfl (.inl rfl))); exact (by refine SL.cons ?_ ?_; exact (by refine SE.tup ?_; exact (by refine SL.cons ?_ ?_; exact (by refine SE.tup ?_; exact (by refine SL.cons ?_ ?_; exact (by exact (SE.glob (i := 9) rfl C.c_NET)); exact (by refine SL.cons ?_ ?_; exact (by exact (SE.var (i := 2) rfl (.inl rfl))); exact SL.nil))); exact (by refine SL.cons ?_ ?_; exact (by exact (SE.var (i := 5) rfl (.inl rfl))); exact (by refine SL.cons ?_ ?_; exact (by exact (SE.var (i := 3) rfl (.inl rfl))); exact SL.nil)))); exact SL.nil))); exact SS.nil); exact SS.nil); exact SS.nil)); exact SS.nil)); exact (by refine SS.cons ?_ ?_; exact (by refine S1.ret ?_; exact (by exact (SE.var (i := 1) rfl (.inl rfl)))); exact SS.nil))))
theorem o_links_of : DefOk r_links_of.name r_links_of.params r_links_of.body r_links_of.scope [Str.ofString "body"] [some 0, none, none, none, none, none, none, none, none, none] where
  bind := fun pm cd doc => lenS fun a0 => lenZ rfl
  ndp := by decide +kernel
  kindP := by decide +kernel
  pidx := by decide +kernel
  nd := by decide +kernel
  pl := by decide +kernel
  nofree := by decide +kernel
  kind := rfl
  co := rfl
  gen := rfl
theorem m_links_of : r_links_of ∈ recsOf prog := List.mem_of_getElem? (i := 1) (by kernel_rfl)
theorem fn_links_of {g : GG} (C : Ctx g) : FnIs g (Str.ofString "links_of") 2 f_links_of := Ctx.fnIs (d := r_links_of) (ps := [Str.ofString "body"]) (pidx := [some 0, none, none, none, none, none, none, none, none, none]) (mb := d_links_of) (k := 1) (ns := N_links_of) (f := f_links_of) C m_links_of o_links_of (@s_links_of g C) rfl

noncomputable def N_data_to : List (Str × NameKind) := [(Str.ofString "links", .local), (Str.ofString "spot", .cell)]
noncomputable def r_data_to : DefRec := recAt 6
noncomputable def d_data_to : SDen := (D.cons (D.ret (E.comp (It.val (E.var 0)) [none, none, none, none, some 1] (.list []) (T.tup 3 (Ts.cons (T.var 1) (Ts.cons (T.var 2) (Ts.cons (T.var 3) Ts.nil)))) (C.cmp eqS (E.var 1) (E.var 4)) (B.app (E.var 3)))) D.nil)
noncomputable def f_data_to : FDen := F.den 2 [some 0, some 1] d_data_to
theorem s_data_to {g : GG} (C : Ctx g) : SS g N_data_to 1 r_data_to.body d_data_to :=
  (by refine SS.cons ?_ ?_; exact (by refine S1.ret ?_; exact (by refine SE.listComp (tt := false) (show ScOk _ _ ([(Str.ofString ".0", .local), (Str.ofString "other", .local), (Str.ofString "cost", .local), (Str.ofString "data", .local), (Str.ofString "spot", .cell)]) [none, none, none, none, some 1] from ⟨rfl, by kernel_rfl, by decide +kernel, by decide +kernel, by decide +kernel, by decide +kernel, by decide +kernel⟩) ?_ ?_ ?_ ?_; exact (by refine ItE.val ?_; exact (by exact (SE.var (i := 0) rfl (.inl rfl)))); exact (by refine TE.tup ?_; exact (by refine TsE.cons ?_ ?_; exact (TE.loc (i := 1) rfl); exact (by refine TsE.cons ?_ ?_; exact (TE.loc (i := 2) rfl); exact (by refine TsE.cons ?_ ?_; exact (TE.loc (i := 3) rfl); exact TsE.nil)))); exact (by refine CI.one ?_; exact (by refine CE.cmp ?_ ?_ ?_; exact (by exact (SE.var (i := 1) rfl (.inl rfl))); exact (by exact (SE.var (i := 4) rfl (.inr (.inl rfl)))); exact CmpS.eq)); exact (by exact (SE.var (i := 3) rfl (.inl rfl))))); exact SS.nil)
theorem o_data_to : DefOk r_data_to.name r_data_to.params r_data_to.body r_data_to.scope [Str.ofString "links", Str.ofString "spot"] [some 0, some 1] where
  bind := fun pm cd doc => lenS fun a0 => lenS fun a1 => lenZ rfl
  ndp := by decide +kernel
  kindP := by decide +kernel
  pidx := by decide +kernel
  nd := by decide +kernel
  pl := by decide +kernel
  nofree := by decide +kernel
  kind := rfl
  co := rfl
  gen := rfl
theorem m_data_to : r_data_to ∈ recsOf prog := List.mem_of_getElem? (i := 2) (by kernel_rfl)
theorem fn_data_to {g : GG} (C : Ctx g) : FnIs g (Str.ofString "data_to") 2 f_data_to := Ctx.fnIs (d := r_data_to) (ps := [Str.ofString "links", Str.ofString "spot"]) (pidx := [some 0, some 1]) (mb := d_data_to) (k := 1) (ns := N_data_to) (f := f_data_to) C m_data_to o_data_to (@s_data_to g C) rfl

noncomputable def N_graph_edges : List (Str × NameKind) := [(Str.ofString "rows", .local), (Str.ofString "told", .cell), (Str.ofString "bodies", .local), (Str.ofString "spot", .cell), (Str.ofString "found", .local), (Str.ofString "area_vertices", .globalImplicit), (Str.ofString "links_of", .globalImplicit), (Str.ofString "sorted", .globalImplicit)]
noncomputable def r_graph_edges : DefRec := recAt 7
noncomputable def d_graph_edges : SDen := (D.cons (D.assign (T.var 1) E.dict0) (D.cons (D.assign (T.var 2) (E.call f_area_vertices (L.cons (E.var 0) L.nil))) (D.cons (D.for (It.val (E.var 2)) (T.var 3) (D.cons (D.assign (T.sub (E.var 1) (E.var 3)) (E.call f_links_of (L.cons (E.sub (E.var 2) (E.var 3)) L.nil))) D.nil)) (D.cons (D.assign (T.var 4) E.dict0) (D.cons (D.for (It.val (E.call sortedF (L.cons (E.var 1) L.nil))) (T.var 3) (D.cons (D.assign (T.sub (E.var 4) (E.var 3)) (E.comp (It.val (E.sub (E.var 1) (E.var 3))) [none, none, none, some 3, some 1] (.list []) (T.var 1) (C.and (C.cmp inS (E.sub (E.var 1) (E.const (.int 0))) (E.var 4)) (C.cmp neS (E.call f_data_to (L.cons (E.sub (E.var 4) (E.sub (E.var 1) (E.const (.int 0)))) (L.cons (E.var 3) L.nil))) (E.list L.nil))) (B.app (E.var 1)))) D.nil)) (D.cons (D.ret (E.var 4)) D.nil))))))
noncomputable def f_graph_edges : FDen := F.den 1 [some 0, none, none, none, none, none, none, none] d_graph_edges
theorem s_graph_edges {g : GG} (C : Ctx g) : SS g N_graph_edges 2 r_graph_edges.body d_graph_edges :=
  (by refine SS.cons ?_ ?_; exact (by refine S1.assign ?_ ?_; exact (TE.var (i := 1) rfl (.inr rfl)); exact SE.dict0); exact (by refine SS.cons ?_ ?_; exact (by refine S1.assign ?_ ?_; exact (TE.var (i := 2) rfl (.inl rfl)); exact (by refine SE.call (i := 5) rfl (fn_area_vertices C) ?_ (by decide); exact (by refine SL.cons ?_ ?_; exact (by exact (SE.var (i := 0) rfl (.inl rfl))); exact SL.nil))); exact (by refine SS.cons ?_ ?_; exact (by refine S1.for (tt := false) ?_ ?_ ?_; exact (by refine ItE.val ?_; exact (by exact (SE.var (i := 2) rfl (.inl rfl)))); exact (TE.var (i := 3) rfl (.inr rfl)); exact (by refine SS.cons ?_ ?_; exact (by refine S1.assign ?_ ?_; exact (by refine TE.sub ?_ ?_; exact (by exact (SE.var (i := 1) rfl (.inr (.inl rfl)))); exact (by exact (SE.var (i := 3) rfl (.inr (.inl rfl))))); exact (by refine SE.call (i := 6) rfl (fn_links_of C) ?_ (by decide); exact (by refine SL.cons ?_ ?_; exact (by refine SE.sub ?_ ?_; exact (by exact (SE.var (i := 2) rfl (.inl rfl))); exact (by exact (SE.var (i := 3) rfl (.inr (.inl rfl))))); exact SL.nil))); exact SS.nil)); exact (by refine SS.cons ?_ ?_; exact (by refine S1.assign ?_ ?_; exact (TE.var (i := 4) rfl (.inl rfl)); exact SE.dict0); exact (by refine SS.cons ?_ ?_; exact (by refine S1.for (tt := false) ?_ ?_ ?_; exact (by refine ItE.val ?_; exact (by refine SE.bcall (i := 7) rfl C.b_sorted CallS.sorted ?_ (by decide); exact (by refine SL.cons ?_ ?_; exact (by exact (SE.var (i := 1) rfl (.inr (.inl rfl)))); exact SL.nil))); exact (TE.var (i := 3) rfl (.inr rfl)); exact (by refine SS.cons ?_ ?_; exact (by refine S1.assign ?_ ?_; exact (by refine TE.sub ?_ ?_; exact (by exact (SE.var (i := 4) rfl (.inl rfl))); exact (by exact (SE.var (i := 3) rfl (.inr (.inl rfl))))); exact (by refine SE.listComp (tt := false) (show ScOk _ _ ([(Str.ofString ".0", .local), (Str.ofString "link", .local), (Str.ofString "data_to", .globalImplicit), (Str.ofString "spot", .cell), (Str.ofString "told", .cell)]) [none, none, none, some 3, some 1] from ⟨rfl, by kernel_rfl, by decide +kernel, by decide +kernel, by decide +kernel, by decide +kernel, by decide +kernel⟩) ?_ ?_ ?_ ?_; exact (by refine ItE.val ?_; exact (by refine SE.sub ?_ ?_; exact (by exact (SE.var (i := 1) rfl (.inr (.inl rfl)))); exact (by exact (SE.var (i := 3) rfl (.inr (.inl rfl)))))); exact (TE.loc (i := 1) rfl); exact (by refine CI.one ?_; exact (by refine CE.and ?_ ?_; exact (by refine CE.cmp ?_ ?_ ?_; exact (by refine SE.sub ?_ ?_; exact (by exact (SE.var (i := 1) rfl (.inl rfl))); exact SE.cInt); exact (by exact (SE.var (i := 4) rfl (.inr (.inl rfl)))); exact CmpS.in); exact (by refine CE.cmp ?_ ?_ ?_; exact (by refine SE.call (i := 2) rfl (fn_data_to C) ?_ (by decide); exact (by refine SL.cons ?_ ?_; exact (by refine SE.sub ?_ ?_; exact (by exact (SE.var (i := 4) rfl (.inr (.inl rfl)))); exact (by refine SE.sub ?_ ?_; exact (by exact (SE.var (i := 1) rfl (.inl rfl))); exact SE.cInt)); exact (by refine SL.cons ?_ ?_; exact (by exact (SE.var (i := 3) rfl (.inr (.inl rfl)))); exact SL.nil))); exact (by refine SE.list ?_; exact SL.nil); exact CmpS.ne))); exact (by exact (SE.var (i := 1) rfl (.inl rfl))))); exact SS.nil)); exact (by refine SS.cons ?_ ?_; exact (by refine S1.ret ?_; exact (by exact (SE.var (i := 4) rfl (.inl rfl)))); exact SS.nil))))))
theorem o_graph_edges : DefOk r_graph_edges.name r_graph_edges.params r_graph_edges.body r_graph_edges.scope [Str.ofString "rows"] [some 0, none, none, none, none, none, none, none] where
  bind := fun pm cd doc => lenS fun a0 => lenZ rfl
  ndp := by decide +kernel
  kindP := by decide +kernel
  pidx := by decide +kernel
  nd := by decide +kernel
  pl := by decide +kernel
  nofree := by decide +kernel
  kind := rfl
  co := rfl
  gen := rfl
theorem m_graph_edges : r_graph_edges ∈ recsOf prog := List.mem_of_getElem? (i := 3) (by kernel_rfl)
theorem fn_graph_edges {g : GG} (C : Ctx g) : FnIs g (Str.ofString "graph_edges") 3 f_graph_edges := Ctx.fnIs (d := r_graph_edges) (ps := [Str.ofString "rows"]) (pidx := [some 0, none, none, none, none, none, none, none]) (mb := d_graph_edges) (k := 2) (ns := N_graph_edges) (f := f_graph_edges) C m_graph_edges o_graph_edges (@s_graph_edges g C) rfl

noncomputable def N_hops_from_root : List (Str × NameKind) := [(Str.ofString "links", .local), (Str.ofString "root", .local), (Str.ofString "ways", .local), (Str.ofString "link", .local), (Str.ofString "turn", .local), (Str.ofString "other", .local), (Str.ofString "cost", .local), (Str.ofString "data", .local), (Str.ofString "number", .local), (Str.ofString "back", .local), (Str.ofString "NET", .globalImplicit), (Str.ofString "data_to", .globalImplicit), (Str.ofString "min", .globalImplicit), (Str.ofString "len", .globalImplicit)]
noncomputable def r_hops_from_root : DefRec := recAt 9
noncomputable def d_hops_from_root : SDen := (D.cons (D.assign (T.tup 3 (Ts.cons (T.var 5) (Ts.cons (T.var 6) (Ts.cons (T.var 7) Ts.nil)))) (E.var 3)) (D.cons (D.assign (T.var 8) (E.meth .dict getM (E.var 2) (L.cons (E.var 7) (L.cons (E.const (.int 0)) L.nil)))) (D.cons (D.ite (C.cmp eqS (E.sub (E.var 5) (E.const (.int 0))) (E.const (.int 0))) (D.cons (D.ret (E.list (L.cons (E.tup (L.cons (E.var 8) (L.cons (E.const .none) L.nil))) L.nil))) D.nil) D.nil) (D.cons (D.assign (T.var 9) (E.call f_data_to (L.cons (E.sub (E.var 0) (E.var 5)) (L.cons (E.var 1) L.nil)))) (D.cons (D.ret (E.list (L.cons (E.tup (L.cons (E.var 8) (L.cons (E.meth .dict getM (E.var 2) (L.cons (E.bin addS (E.tup (L.cons (E.var 7) L.nil)) (E.var 5)) (L.cons (E.sub (E.var 9) (E.call minF (L.cons (E.var 4) (L.cons (E.bin (intOp subI) (E.call lenF (L.cons (E.var 9) L.nil)) (E.const (.int 1))) L.nil)))) L.nil))) L.nil))) L.nil))) D.nil)))))
noncomputable def f_hops_from_root : FDen := F.den 5 [some 0, some 1, some 2, some 3, some 4, none, none, none, none, none, none, none, none, none] d_hops_from_root
theorem s_hops_from_root {g : GG} (C : Ctx g) : SS g N_hops_from_root 2 r_hops_from_root.body d_hops_from_root :=
  (by refine SS.cons ?_ ?_; exact (by refine S1.assign ?_ ?_; exact (by refine TE.tup ?_; exact (by refine TsE.cons ?_ ?_; exact (TE.var (i := 5) rfl (.inl rfl)); exact (by refine TsE.cons ?_ ?_; exact (TE.var (i := 6) rfl (.inl rfl)); exact (by refine TsE.cons ?_ ?_; exact (TE.var (i := 7) rfl (.inl rfl)); exact TsE.nil)))); exact (by exact (SE.var (i := 3) rfl (.inl rfl)))); exact (by refine SS.cons ?_ ?_; exact (by refine S1.assign ?_ ?_; exact (TE.var (i := 8) rfl (.inl rfl)); exact (by refine SE.meth (T := .dict) F.plainAttrs_dict F.slot_dict_get (by rfl) MethS.get ?_ ?_; exact (by exact (SE.var (i := 2) rfl (.inl rfl))); exact (by refine SL.cons ?_ ?_; exact (by exact (SE.var (i := 7) rfl (.inl rfl))); exact (by refine SL.cons ?_ ?_; exact SE.cInt; exact SL.nil)))); exact (by refine SS.cons ?_ ?_; exact (by refine S1.ite ?_ ?_ ?_; exact (by refine CE.cmp ?_ ?_ ?_; exact (by refine SE.sub ?_ ?_; exact (by exact (SE.var (i := 5) rfl (.inl rfl))); exact SE.cInt); exact (by exact (SE.glob (i := 10) rfl C.c_NET)); exact CmpS.eq); exact (by refine SS.cons ?_ ?_; exact (by refine S1.ret ?_; exact (by refine SE.list ?_; exact (by refine SL.cons ?_ ?_; exact (by refine SE.tup ?_; exact (by refine SL.cons ?_ ?_; exact (by exact (SE.var (i := 8) rfl (.inl rfl))); exact (by refine SL.cons ?_ ?_; exact SE.cNone; exact SL.nil))); exact SL.nil))); exact SS.nil); exact SS.nil); exact (by refine SS.cons ?_ ?_; exact (by refine S1.assign ?_ ?_; exact (TE.var (i := 9) rfl (.inl rfl)); exact (by refine SE.call (i := 11) rfl (fn_data_to C) ?_ (by decide); exact (by refine SL.cons ?_ ?_; exact (by refine SE.sub ?_ ?_; exact (by exact (SE.var (i := 0) rfl (.inl rfl))); exact (by exact (SE.var (i := 5) rfl (.inl rfl)))); exact (by refine SL.cons ?_ ?_; exact (by exact (SE.var (i := 1) rfl (.inl rfl))); exact SL.nil)))); exact (by refine SS.cons ?_ ?_; exact (by refine S1.ret ?_; exact (by refine SE.list ?_; exact (by refine SL.cons ?_ ?_; exact (by refine SE.tup ?_; exact (by refine SL.cons ?_ ?_; exact (by exact (SE.var (i := 8) rfl (.inl rfl))); exact (by refine SL.cons ?_ ?_; exact (by refine SE.meth (T := .dict) F.plainAttrs_dict F.slot_dict_get (by rfl) MethS.get ?_ ?_; exact (by exact (SE.var (i := 2) rfl (.inl rfl))); exact (by refine SL.cons ?_ ?_; exact (by refine SE.bin ?_ ?_ ?_; exact (by refine SE.tup ?_; exact (by refine SL.cons ?_ ?_; exact (by exact (SE.var (i := 7) rfl (.inl rfl))); exact SL.nil)); exact (by exact (SE.var (i := 5) rfl (.inl rfl))); exact BinS.add); exact (by refine SL.cons ?_ ?_; exact (by refine SE.sub ?_ ?_; exact (by exact (SE.var (i := 9) rfl (.inl rfl))); exact (by refine SE.bcall (i := 12) rfl C.b_min CallS.min2 ?_ (by decide); exact (by refine SL.cons ?_ ?_; exact (by exact (SE.var (i := 4) rfl (.inl rfl))); exact (by refine SL.cons ?_ ?_; exact (by refine SE.bin ?_ ?_ ?_; exact (by refine SE.bcall (i := 13) rfl C.b_len CallS.len ?_ (by decide); exact (by refine SL.cons ?_ ?_; exact (by exact (SE.var (i := 9) rfl (.inl rfl))); exact SL.nil)); exact SE.cInt; exact BinS.sub); exact SL.nil)))); exact SL.nil))); exact SL.nil))); exact SL.nil))); exact SS.nil)))))
theorem o_hops_from_root : DefOk r_hops_from_root.name r_hops_from_root.params r_hops_from_root.body r_hops_from_root.scope [Str.ofString "links", Str.ofString "root", Str.ofString "ways", Str.ofString "link", Str.ofString "turn"] [some 0, some 1, some 2, some 3, some 4, none, none, none, none, none, none, none, none, none] where
  bind := fun pm cd doc => lenS fun a0 => lenS fun a1 => lenS fun a2 => lenS fun a3 => lenS fun a4 => lenZ rfl
  ndp := by decide +kernel
  kindP := by decide +kernel
  pidx := by decide +kernel
  nd := by decide +kernel
  pl := by decide +kernel
  nofree := by decide +kernel
  kind := rfl
  co := rfl
  gen := rfl
theorem m_hops_from_root : r_hops_from_root ∈ recsOf prog := List.mem_of_getElem? (i := 4) (by kernel_rfl)
theorem fn_hops_from_root {g : GG} (C : Ctx g) : FnIs g (Str.ofString "hops_from_root") 3 f_hops_from_root := Ctx.fnIs (d := r_hops_from_root) (ps := [Str.ofString "links", Str.ofString "root", Str.ofString "ways", Str.ofString "link", Str.ofString "turn"]) (pidx := [some 0, some 1, some 2, some 3, some 4, none, none, none, none, none, none, none, none, none]) (mb := d_hops_from_root) (k := 2) (ns := N_hops_from_root) (f := f_hops_from_root) C m_hops_from_root o_hops_from_root (@s_hops_from_root g C) rfl

noncomputable def N_joined_hops : List (Str × NameKind) := [(Str.ofString "one", .cell), (Str.ofString "other", .local)]
noncomputable def r_joined_hops : DefRec := recAt 11
noncomputable def d_joined_hops : SDen := (D.cons (D.ret (E.bin addS (E.var 0) (E.comp (It.val (E.var 1)) [none, none, some 0] (.list []) (T.var 1) (C.cmp notInS (E.var 1) (E.var 2)) (B.app (E.var 1))))) D.nil)
noncomputable def f_joined_hops : FDen := F.den 2 [some 0, some 1] d_joined_hops
theorem s_joined_hops {g : GG} (C : Ctx g) : SS g N_joined_hops 1 r_joined_hops.body d_joined_hops :=
  (by refine SS.cons ?_ ?_; exact (by refine S1.ret ?_; exact (by refine SE.bin ?_ ?_ ?_; exact (by exact (SE.var (i := 0) rfl (.inr (.inl rfl)))); exact (by refine SE.listComp (tt := false) (show ScOk _ _ ([(Str.ofString ".0", .local), (Str.ofString "hop", .local), (Str.ofString "one", .cell)]) [none, none, some 0] from ⟨rfl, by kernel_rfl, by decide +kernel, by decide +kernel, by decide +kernel, by decide +kernel, by decide +kernel⟩) ?_ ?_ ?_ ?_; exact (by refine ItE.val ?_; exact (by exact (SE.var (i := 1) rfl (.inl rfl)))); exact (TE.loc (i := 1) rfl); exact (by refine CI.one ?_; exact (by refine CE.cmp ?_ ?_ ?_; exact (by exact (SE.var (i := 1) rfl (.inl rfl))); exact (by exact (SE.var (i := 2) rfl (.inr (.inl rfl)))); exact CmpS.notIn)); exact (by exact (SE.var (i := 1) rfl (.inl rfl)))); exact BinS.add)); exact SS.nil)
theorem o_joined_hops : DefOk r_joined_hops.name r_joined_hops.params r_joined_hops.body r_joined_hops.scope [Str.ofString "one", Str.ofString "other"] [some 0, some 1] where
  bind := fun pm cd doc => lenS fun a0 => lenS fun a1 => lenZ rfl
  ndp := by decide +kernel
  kindP := by decide +kernel
  pidx := by decide +kernel
  nd := by decide +kernel
  pl := by decide +kernel
  nofree := by decide +kernel
  kind := rfl
  co := rfl
  gen := rfl
theorem m_joined_hops : r_joined_hops ∈ recsOf prog := List.mem_of_getElem? (i := 6) (by kernel_rfl)
theorem fn_joined_hops {g : GG} (C : Ctx g) : FnIs g (Str.ofString "joined_hops") 2 f_joined_hops := Ctx.fnIs (d := r_joined_hops) (ps := [Str.ofString "one", Str.ofString "other"]) (pidx := [some 0, some 1]) (mb := d_joined_hops) (k := 1) (ns := N_joined_hops) (f := f_joined_hops) C m_joined_hops o_joined_hops (@s_joined_hops g C) rfl

noncomputable def N_hops_beyond : List (Str × NameKind) := [(Str.ofString "links", .local), (Str.ofString "hops", .local), (Str.ofString "at", .local), (Str.ofString "other", .local), (Str.ofString "found", .local), (Str.ofString "number", .local), (Str.ofString "known", .local), (Str.ofString "address", .local), (Str.ofString "NET", .globalImplicit), (Str.ofString "data_to", .globalImplicit), (Str.ofString "joined_hops", .globalImplicit)]
noncomputable def r_hops_beyond : DefRec := recAt 10
noncomputable def d_hops_beyond : SDen := (D.cons (D.ite (C.cmp neS (E.sub (E.var 2) (E.const (.int 0))) (E.const (.int 0))) (D.cons (D.ret (E.var 1)) D.nil) D.nil) (D.cons (D.assign (T.var 4) (E.list L.nil)) (D.cons (D.for (It.val (E.var 1)) (T.tup 2 (Ts.cons (T.var 5) (Ts.cons (T.var 6) Ts.nil))) (D.cons (D.for (It.val (E.ite (C.cmp isS (E.var 6) (E.const .none)) (E.call f_data_to (L.cons (E.sub (E.var 0) (E.var 3)) (L.cons (E.var 2) L.nil))) (E.list (L.cons (E.var 6) L.nil)))) (T.var 7) (D.cons (D.assign (T.var 4) (E.call f_joined_hops (L.cons (E.var 4) (L.cons (E.list (L.cons (E.tup (L.cons (E.var 5) (L.cons (E.var 7) L.nil))) L.nil)) L.nil)))) D.nil)) D.nil)) (D.cons (D.ret (E.var 4)) D.nil))))
noncomputable def f_hops_beyond : FDen := F.den 4 [some 0, some 1, some 2, some 3, none, none, none, none, none, none, none] d_hops_beyond
theorem s_hops_beyond {g : GG} (C : Ctx g) : SS g N_hops_beyond 2 r_hops_beyond.body d_hops_beyond :=
  (by refine SS.cons ?_ ?_; exact (by refine S1.ite ?_ ?_ ?_; exact (by refine CE.cmp ?_ ?_ ?_; exact (by refine SE.sub ?_ ?_; exact (by exact (SE.var (i := 2) rfl (.inl rfl))); exact SE.cInt); exact (by exact (SE.glob (i := 8) rfl C.c_NET)); exact CmpS.ne); exact (by refine SS.cons ?_ ?_; exact (by refine S1.ret ?_; exact (by exact (SE.var (i := 1) rfl (.inl rfl)))); exact SS.nil); exact SS.nil); exact (by refine SS.cons ?_ ?_; exact (by refine S1.assign ?_ ?_; exact (TE.var (i := 4) rfl (.inl rfl)); exact (by refine SE.list ?_; exact SL.nil)); exact (by refine SS.cons ?_ ?_; exact (by refine S1.for (tt := false) ?_ ?_ ?_; exact (by refine ItE.val ?_; exact (by exact (SE.var (i := 1) rfl (.inl rfl)))); exact (by refine TE.tup ?_; exact (by refine TsE.cons ?_ ?_; exact (TE.var (i := 5) rfl (.inl rfl)); exact (by refine TsE.cons ?_ ?_; exact (TE.var (i := 6) rfl (.inl rfl)); exact TsE.nil))); exact (by refine SS.cons ?_ ?_; exact (by refine S1.for (tt := false) ?_ ?_ ?_; exact (by refine ItE.val ?_; exact (by refine SE.ite ?_ ?_ ?_; exact (by refine CE.cmp ?_ ?_ ?_; exact (by exact (SE.var (i := 6) rfl (.inl rfl))); exact SE.cNone; exact CmpS.is); exact (by refine SE.call (i := 9) rfl (fn_data_to C) ?_ (by decide); exact (by refine SL.cons ?_ ?_; exact (by refine SE.sub ?_ ?_; exact (by exact (SE.var (i := 0) rfl (.inl rfl))); exact (by exact (SE.var (i := 3) rfl (.inl rfl)))); exact (by refine SL.cons ?_ ?_; exact (by exact (SE.var (i := 2) rfl (.inl rfl))); exact SL.nil))); exact (by refine SE.list ?_; exact (by refine SL.cons ?_ ?_; exact (by exact (SE.var (i := 6) rfl (.inl rfl))); exact SL.nil)))); exact (TE.var (i := 7) rfl (.inl rfl)); exact (by refine SS.cons ?_ ?_; exact (by refine S1.assign ?_ ?_; exact (TE.var (i := 4) rfl (.inl rfl)); exact (by refine SE.call (i := 10) rfl (fn_joined_hops C) ?_ (by decide); exact (by refine SL.cons ?_ ?_; exact (by exact (SE.var (i := 4) rfl (.inl rfl))); exact (by refine SL.cons ?_ ?_; exact (by refine SE.list ?_; exact (by refine SL.cons ?_ ?_; exact (by refine SE.tup ?_; exact (by refine SL.cons ?_ ?_; exact (by exact (SE.var (i := 5) rfl (.inl rfl))); exact (by refine SL.cons ?_ ?_; exact (by exact (SE.var (i := 7) rfl (.inl rfl))); exact SL.nil))); exact SL.nil)); exact SL.nil)))); exact SS.nil)); exact SS.nil)); exact (by refine SS.cons ?_ ?_; exact (by refine S1.ret ?_; exact (by exact (SE.var (i := 4) rfl (.inl rfl)))); exact SS.nil))))
theorem o_hops_beyond : DefOk r_hops_beyond.name r_hops_beyond.params r_hops_beyond.body r_hops_beyond.scope [Str.ofString "links", Str.ofString "hops", Str.ofString "at", Str.ofString "other"] [some 0, some 1, some 2, some 3, none, none, none, none, none, none, none] where
  bind := fun pm cd doc => lenS fun a0 => lenS fun a1 => lenS fun a2 => lenS fun a3 => lenZ rfl
  ndp := by decide +kernel
  kindP := by decide +kernel
  pidx := by decide +kernel
  nd := by decide +kernel
  pl := by decide +kernel
  nofree := by decide +kernel
  kind := rfl
  co := rfl
  gen := rfl
theorem m_hops_beyond : r_hops_beyond ∈ recsOf prog := List.mem_of_getElem? (i := 5) (by kernel_rfl)
theorem fn_hops_beyond {g : GG} (C : Ctx g) : FnIs g (Str.ofString "hops_beyond") 3 f_hops_beyond := Ctx.fnIs (d := r_hops_beyond) (ps := [Str.ofString "links", Str.ofString "hops", Str.ofString "at", Str.ofString "other"]) (pidx := [some 0, some 1, some 2, some 3, none, none, none, none, none, none, none]) (mb := d_hops_beyond) (k := 2) (ns := N_hops_beyond) (f := f_hops_beyond) C m_hops_beyond o_hops_beyond (@s_hops_beyond g C) rfl

noncomputable def N_nearest_spot : List (Str × NameKind) := [(Str.ofString "costs", .cell), (Str.ofString "done", .cell), (Str.ofString "waiting", .local), (Str.ofString "min", .globalImplicit)]
noncomputable def r_nearest_spot : DefRec := recAt 12
noncomputable def d_nearest_spot : SDen := (D.cons (D.assign (T.var 2) (E.comp (It.val (E.var 0)) [none, none, some 0, some 1] (.list []) (T.var 1) (C.cmp notInS (E.var 1) (E.var 3)) (B.app (E.tup (L.cons (E.sub (E.var 2) (E.var 1)) (L.cons (E.var 1) L.nil)))))) (D.cons (D.ret (E.ite (C.cmp neS (E.var 2) (E.list L.nil)) (E.sub (E.call (bestF ltS) (L.cons (E.var 2) L.nil)) (E.const (.int 1))) (E.const .none))) D.nil))
noncomputable def f_nearest_spot : FDen := F.den 2 [some 0, some 1, none, none] d_nearest_spot
theorem s_nearest_spot {g : GG} (C : Ctx g) : SS g N_nearest_spot 1 r_nearest_spot.body d_nearest_spot :=
  (by refine SS.cons ?_ ?_; exact (by refine S1.listUse (tt := false) (show ScOk _ _ ([(Str.ofString ".0", .local), (Str.ofString "spot", .local), (Str.ofString "costs", .cell), (Str.ofString "done", .cell)]) [none, none, some 0, some 1] from ⟨rfl, by kernel_rfl, by decide +kernel, by decide +kernel, by decide +kernel, by decide +kernel, by decide +kernel⟩) ?_ ?_ ?_ ?_ (i := 2) rfl (by kernel_rfl); exact (by refine ItE.val ?_; exact (by exact (SE.var (i := 0) rfl (.inr (.inl rfl))))); exact (TE.loc (i := 1) rfl); exact (by refine CI.one ?_; exact (by refine CE.cmp ?_ ?_ ?_; exact (by exact (SE.var (i := 1) rfl (.inl rfl))); exact (by exact (SE.var (i := 3) rfl (.inr (.inl rfl)))); exact CmpS.notIn)); exact (by refine SE.tup ?_; exact (by refine SL.cons ?_ ?_; exact (by refine SE.sub ?_ ?_; exact (by exact (SE.var (i := 2) rfl (.inr (.inl rfl)))); exact (by exact (SE.var (i := 1) rfl (.inl rfl)))); exact (by refine SL.cons ?_ ?_; exact (by exact (SE.var (i := 1) rfl (.inl rfl))); exact SL.nil)))); exact (by refine SS.cons ?_ ?_; exact (by refine S1.ret ?_; exact (by refine SE.ite ?_ ?_ ?_; exact (by refine CE.cmp ?_ ?_ ?_; exact (by exact (SE.var (i := 2) rfl (.inl rfl))); exact (by refine SE.list ?_; exact SL.nil); exact CmpS.ne); exact (by refine SE.sub ?_ ?_; exact (by refine SE.bcall (i := 3) rfl C.b_min CallS.min_list ?_ (by decide); exact (by refine SL.cons ?_ ?_; exact (by exact (SE.var (i := 2) rfl (.inl rfl))); exact SL.nil)); exact SE.cInt); exact SE.cNone)); exact SS.nil))
theorem o_nearest_spot : DefOk r_nearest_spot.name r_nearest_spot.params r_nearest_spot.body r_nearest_spot.scope [Str.ofString "costs", Str.ofString "done"] [some 0, some 1, none, none] where
  bind := fun pm cd doc => lenS fun a0 => lenS fun a1 => lenZ rfl
  ndp := by decide +kernel
  kindP := by decide +kernel
  pidx := by decide +kernel
  nd := by decide +kernel
  pl := by decide +kernel
  nofree := by decide +kernel
  kind := rfl
  co := rfl
  gen := rfl
theorem m_nearest_spot : r_nearest_spot ∈ recsOf prog := List.mem_of_getElem? (i := 7) (by kernel_rfl)
theorem fn_nearest_spot {g : GG} (C : Ctx g) : FnIs g (Str.ofString "nearest_spot") 2 f_nearest_spot := Ctx.fnIs (d := r_nearest_spot) (ps := [Str.ofString "costs", Str.ofString "done"]) (pidx := [some 0, some 1, none, none]) (mb := d_nearest_spot) (k := 1) (ns := N_nearest_spot) (f := f_nearest_spot) C m_nearest_spot o_nearest_spot (@s_nearest_spot g C) rfl

noncomputable def N_settled_hops : List (Str × NameKind) := [(Str.ofString "hops", .local), (Str.ofString "tuple", .globalImplicit), (Str.ofString "sorted", .globalImplicit)]
noncomputable def r_settled_hops : DefRec := recAt 13
noncomputable def d_settled_hops : SDen := (D.cons (D.ret (E.call tupleF (L.cons (E.call sortedF (L.cons (E.comp (It.val (E.var 0)) [none, none, none] (.list []) (T.tup 2 (Ts.cons (T.var 1) (Ts.cons (T.var 2) Ts.nil))) C.true (B.app (E.tup (L.cons (E.var 1) (L.cons (E.ite (C.cmp isS (E.var 2) (E.const .none)) (E.const (.int 0)) (E.var 2)) L.nil))))) L.nil)) L.nil))) D.nil)
noncomputable def f_settled_hops : FDen := F.den 1 [some 0, none, none] d_settled_hops
theorem s_settled_hops {g : GG} (C : Ctx g) : SS g N_settled_hops 1 r_settled_hops.body d_settled_hops :=
  (by refine SS.cons ?_ ?_; exact (by refine S1.ret ?_; exact (by refine SE.tcall (i := 1) rfl C.b_tuple CallS.tuple ?_ (by decide); exact (by refine SL.cons ?_ ?_; exact (by refine SE.bcall (i := 2) rfl C.b_sorted CallS.sorted ?_ (by decide); exact (by refine SL.cons ?_ ?_; exact (by refine SE.listComp (tt := false) (show ScOk _ _ ([(Str.ofString ".0", .local), (Str.ofString "number", .local), (Str.ofString "address", .local)]) [none, none, none] from ⟨rfl, by kernel_rfl, by decide +kernel, by decide +kernel, by decide +kernel, by decide +kernel, by decide +kernel⟩) ?_ ?_ ?_ ?_; exact (by refine ItE.val ?_; exact (by exact (SE.var (i := 0) rfl (.inl rfl)))); exact (by refine TE.tup ?_; exact (by refine TsE.cons ?_ ?_; exact (TE.loc (i := 1) rfl); exact (by refine TsE.cons ?_ ?_; exact (TE.loc (i := 2) rfl); exact TsE.nil))); exact CI.nil; exact (by refine SE.tup ?_; exact (by refine SL.cons ?_ ?_; exact (by exact (SE.var (i := 1) rfl (.inl rfl))); exact (by refine SL.cons ?_ ?_; exact (by refine SE.ite ?_ ?_ ?_; exact (by refine CE.cmp ?_ ?_ ?_; exact (by exact (SE.var (i := 2) rfl (.inl rfl))); exact SE.cNone; exact CmpS.is); exact SE.cInt; exact (by exact (SE.var (i := 2) rfl (.inl rfl)))); exact SL.nil)))); exact SL.nil)); exact SL.nil))); exact SS.nil)
theorem o_settled_hops : DefOk r_settled_hops.name r_settled_hops.params r_settled_hops.body r_settled_hops.scope [Str.ofString "hops"] [some 0, none, none] where
  bind := fun pm cd doc => lenS fun a0 => lenZ rfl
  ndp := by decide +kernel
  kindP := by decide +kernel
  pidx := by decide +kernel
  nd := by decide +kernel
  pl := by decide +kernel
  nofree := by decide +kernel
  kind := rfl
  co := rfl
  gen := rfl
theorem m_settled_hops : r_settled_hops ∈ recsOf prog := List.mem_of_getElem? (i := 8) (by kernel_rfl)
theorem fn_settled_hops {g : GG} (C : Ctx g) : FnIs g (Str.ofString "settled_hops") 2 f_settled_hops := Ctx.fnIs (d := r_settled_hops) (ps := [Str.ofString "hops"]) (pidx := [some 0, none, none]) (mb := d_settled_hops) (k := 1) (ns := N_settled_hops) (f := f_settled_hops) C m_settled_hops o_settled_hops (@s_settled_hops g C) rfl

noncomputable def N_spf_tree : List (Str × NameKind) := [(Str.ofString "links", .local), (Str.ofString "root", .local), (Str.ofString "ways", .local), (Str.ofString "costs", .cell), (Str.ofString "hops", .cell), (Str.ofString "done", .local), (Str.ofString "at", .local), (Str.ofString "seen", .local), (Str.ofString "link", .local), (Str.ofString "other", .local), (Str.ofString "turn", .local), (Str.ofString "told", .local), (Str.ofString "cost", .local), (Str.ofString "hops_from_root", .globalImplicit), (Str.ofString "hops_beyond", .globalImplicit), (Str.ofString "joined_hops", .globalImplicit), (Str.ofString "nearest_spot", .globalImplicit), (Str.ofString "sorted", .globalImplicit)]
noncomputable def r_spf_tree : DefRec := recAt 14
noncomputable def d_spf_tree : SDen := (D.cons (D.assign (T.tup 3 (Ts.cons (T.var 3) (Ts.cons (T.var 4) (Ts.cons (T.var 5) Ts.nil)))) (E.tup (L.cons (E.dict1 (E.var 1) (E.const (.int 0))) (L.cons (E.dict1 (E.var 1) (E.list L.nil)) (L.cons E.dict0 L.nil))))) (D.cons (D.assign (T.var 6) (E.var 1)) (D.cons (whileD (C.cmp isNotS (E.var 6) (E.const .none)) (D.cons (D.assign (T.sub (E.var 5) (E.var 6)) (E.const (.bool true))) (D.cons (D.assign (T.var 7) (E.list L.nil)) (D.cons (D.for (It.val (E.meth .dict getM (E.var 0) (L.cons (E.var 6) (L.cons (E.list L.nil) L.nil)))) (T.var 8) (D.cons (D.assign (T.var 9) (E.sub (E.var 8) (E.const (.int 0)))) (D.cons (D.assign (T.var 10) (E.meth .list countM (E.var 7) (L.cons (E.var 9) L.nil))) (D.cons (D.expr (E.meth .list appendM (E.var 7) (L.cons (E.var 9) L.nil))) (D.cons (D.ite (C.cmp inS (E.var 9) (E.var 5)) (D.cons D.cont D.nil) D.nil) (D.cons (D.ite (C.cmp eqS (E.var 6) (E.var 1)) (D.cons (D.assign (T.var 11) (E.call f_hops_from_root (L.cons (E.var 0) (L.cons (E.var 1) (L.cons (E.var 2) (L.cons (E.var 8) (L.cons (E.var 10) L.nil))))))) D.nil) (D.cons (D.assign (T.var 11) (E.call f_hops_beyond (L.cons (E.var 0) (L.cons (E.sub (E.var 4) (E.var 6)) (L.cons (E.var 6) (L.cons (E.var 9) L.nil)))))) D.nil)) (D.cons (D.assign (T.var 12) (E.bin addS (E.sub (E.var 3) (E.var 6)) (E.sub (E.var 8) (E.const (.int 1))))) (D.cons (D.ite (C.or (C.cmp notInS (E.var 9) (E.var 3)) (C.cmp ltS (E.var 12) (E.sub (E.var 3) (E.var 9)))) (D.cons (D.assign (T.tup 2 (Ts.cons (T.sub (E.var 3) (E.var 9)) (Ts.cons (T.sub (E.var 4) (E.var 9)) Ts.nil))) (E.tup (L.cons (E.var 12) (L.cons (E.var 11) L.nil)))) D.nil) (D.cons (D.ite (C.cmp eqS (E.var 12) (E.sub (E.var 3) (E.var 9))) (D.cons (D.assign (T.sub (E.var 4) (E.var 9)) (E.call f_joined_hops (L.cons (E.sub (E.var 4) (E.var 9)) (L.cons (E.var 11) L.nil)))) D.nil) D.nil) D.nil)) D.nil)))))))) (D.cons (D.assign (T.var 6) (E.call f_nearest_spot (L.cons (E.var 3) (L.cons (E.var 5) L.nil)))) D.nil)))) 100) (D.cons (D.ret (E.comp (It.val (E.call sortedF (L.cons (E.var 5) L.nil))) [none, none, none, some 3, some 4] (.dict []) (T.var 1) C.true (B.put (E.var 1) (E.tup (L.cons (E.sub (E.var 3) (E.var 1)) (L.cons (E.call f_settled_hops (L.cons (E.sub (E.var 4) (E.var 1)) L.nil)) L.nil)))))) D.nil))))
noncomputable def f_spf_tree : FDen := F.den 3 [some 0, some 1, some 2, none, none, none, none, none, none, none, none, none, none, none, none, none, none, none] d_spf_tree
theorem s_spf_tree {g : GG} (C : Ctx g) : SS g N_spf_tree 3 r_spf_tree.body d_spf_tree :=
  (by refine SS.cons ?_ ?_; exact (by refine S1.assign ?_ ?_ (hw := by kernel_rfl); exact (by refine TE.tup ?_; exact (by refine TsE.cons ?_ ?_; exact (TE.var (i := 3) rfl (.inr rfl)); exact (by refine TsE.cons ?_ ?_; exact (TE.var (i := 4) rfl (.inr rfl)); exact (by refine TsE.cons ?_ ?_; exact (TE.var (i := 5) rfl (.inl rfl)); exact TsE.nil)))); exact (by refine SE.tup ?_; exact (by refine SL.cons ?_ ?_; exact (by refine SE.dict1 ?_ ?_; exact (by exact (SE.var (i := 1) rfl (.inl rfl))); exact SE.cInt); exact (by refine SL.cons ?_ ?_; exact (by refine SE.dict1 ?_ ?_; exact (by exact (SE.var (i := 1) rfl (.inl rfl))); exact (by refine SE.list ?_; exact SL.nil)); exact (by refine SL.cons ?_ ?_; exact SE.dict0; exact SL.nil))))); exact (by refine SS.cons ?_ ?_; exact (by refine S1.assign ?_ ?_; exact (TE.var (i := 6) rfl (.inl rfl)); exact (by exact (SE.var (i := 1) rfl (.inl rfl)))); exact (by refine SS.cons ?_ ?_; exact (by refine S1.while (n := 100) ?_ ?_; exact (by refine CE.cmp ?_ ?_ ?_; exact (by exact (SE.var (i := 6) rfl (.inl rfl))); exact SE.cNone; exact CmpS.isNot); exact (by refine SS.cons ?_ ?_; exact (by refine S1.assign ?_ ?_; exact (by refine TE.sub ?_ ?_; exact (by exact (SE.var (i := 5) rfl (.inl rfl))); exact (by exact (SE.var (i := 6) rfl (.inl rfl)))); exact SE.cBool); exact (by refine SS.cons ?_ ?_; exact (by refine S1.assign ?_ ?_; exact (TE.var (i := 7) rfl (.inl rfl)); exact (by refine SE.list ?_; exact SL.nil)); exact (by refine SS.cons ?_ ?_; exact (by refine S1.for (tt := false) ?_ ?_ ?_; exact (by refine ItE.val ?_; exact (by refine SE.meth (T := .dict) F.plainAttrs_dict F.slot_dict_get (by rfl) MethS.get ?_ ?_; exact (by exact (SE.var (i := 0) rfl (.inl rfl))); exact (by refine SL.cons ?_ ?_; exact (by exact (SE.var (i := 6) rfl (.inl rfl))); exact (by refine SL.cons ?_ ?_; exact (by refine SE.list ?_; exact SL.nil); exact SL.nil)))); exact (TE.var (i := 8) rfl (.inl rfl)); exact (by refine SS.cons ?_ ?_; exact (by refine S1.assign ?_ ?_; exact (TE.var (i := 9) rfl (.inl rfl)); exact (by refine SE.sub ?_ ?_; exact (by exact (SE.var (i := 8) rfl (.inl rfl))); exact SE.cInt)); exact (by refine SS.cons ?_ ?_; exact (by refine S1.assign ?_ ?_; exact (TE.var (i := 10) rfl (.inl rfl)); exact (by refine SE.meth (T := .list) F.plainAttrs_list F.slot_list_count (by rfl) MethS.count ?_ ?_; exact (by exact (SE.var (i := 7) rfl (.inl rfl))); exact (by refine SL.cons ?_ ?_; exact (by exact (SE.var (i := 9) rfl (.inl rfl))); exact SL.nil))); exact (by refine SS.cons ?_ ?_; exact (by refine S1.expr ?_; exact (by refine SE.meth (T := .list) F.plainAttrs_list F.slot_list_append (by rfl) MethS.append ?_ ?_; exact (by exact (SE.var (i := 7) rfl (.inl rfl))); exact (by refine SL.cons ?_ ?_; exact (by exact (SE.var (i := 9) rfl (.inl rfl))); exact SL.nil))); exact (by refine SS.cons ?_ ?_; exact (by refine S1.ite ?_ ?_ ?_; exact (by refine CE.cmp ?_ ?_ ?_; exact (by exact (SE.var (i := 9) rfl (.inl rfl))); exact (by exact (SE.var (i := 5) rfl (.inl rfl))); exact CmpS.in); exact (by refine SS.cons ?_ ?_; exact S1.cont; exact SS.nil); exact SS.nil); exact (by refine SS.cons ?_ ?_; exact (by refine S1.ite ?_ ?_ ?_; exact (by refine CE.cmp ?_ ?_ ?_; exact (by exact (SE.var (i := 6) rfl (.inl rfl))); exact (by exact (SE.var (i := 1) rfl (.inl rfl))); exact CmpS.eq); exact (by refine SS.cons ?_ ?_; exact (by refine S1.assign ?_ ?_; exact (TE.var (i := 11) rfl (.inl rfl)); exact (by refine SE.call (i := 13) rfl (fn_hops_from_root C) ?_ (by decide); exact (by refine SL.cons ?_ ?_; exact (by exact (SE.var (i := 0) rfl (.inl rfl))); exact (by refine SL.cons ?_ ?_; exact (by exact (SE.var (i := 1) rfl (.inl rfl))); exact (by refine SL.cons ?_ ?_; exact (by exact (SE.var (i := 2) rfl (.inl rfl))); exact (by refine SL.cons ?_ ?_; exact (by exact (SE.var (i := 8) rfl (.inl rfl))); exact (by refine SL.cons ?_ ?_; exact (by exact (SE.var (i := 10) rfl (.inl rfl))); exact SL.nil))))))); exact SS.nil); exact (by refine SS.cons ?_ ?_; exact (by refine S1.assign ?_ ?_; exact (TE.var (i := 11) rfl (.inl rfl)); exact (by refine SE.call (i := 14) rfl (fn_hops_beyond C) ?_ (by decide); exact (by refine SL.cons ?_ ?_; exact (by exact (SE.var (i := 0) rfl (.inl rfl))); exact (by refine SL.cons ?_ ?_; exact (by refine SE.sub ?_ ?_; exact (by exact (SE.var (i := 4) rfl (.inr (.inl rfl)))); exact (by exact (SE.var (i := 6) rfl (.inl rfl)))); exact (by refine SL.cons ?_ ?_; exact (by exact (SE.var (i := 6) rfl (.inl rfl))); exact (by refine SL.cons ?_ ?_; exact (by exact (SE.var (i := 9) rfl (.inl rfl))); exact SL.nil)))))); exact SS.nil)); exact (by refine SS.cons ?_ ?_; exact (by refine S1.assign ?_ ?_; exact (TE.var (i := 12) rfl (.inl rfl)); exact (by refine SE.bin ?_ ?_ ?_; exact (by refine SE.sub ?_ ?_; exact (by exact (SE.var (i := 3) rfl (.inr (.inl rfl)))); exact (by exact (SE.var (i := 6) rfl (.inl rfl)))); exact (by refine SE.sub ?_ ?_; exact (by exact (SE.var (i := 8) rfl (.inl rfl))); exact SE.cInt); exact BinS.add)); exact (by refine SS.cons ?_ ?_; exact (by refine S1.ite ?_ ?_ ?_; exact (by refine CE.or ?_ ?_; exact (by refine CE.cmp ?_ ?_ ?_; exact (by exact (SE.var (i := 9) rfl (.inl rfl))); exact (by exact (SE.var (i := 3) rfl (.inr (.inl rfl)))); exact CmpS.notIn); exact (by refine CE.cmp ?_ ?_ ?_; exact (by exact (SE.var (i := 12) rfl (.inl rfl))); exact (by refine SE.sub ?_ ?_; exact (by exact (SE.var (i := 3) rfl (.inr (.inl rfl)))); exact (by exact (SE.var (i := 9) rfl (.inl rfl)))); exact CmpS.lt)); exact (by refine SS.cons ?_ ?_; exact (by refine S1.assign ?_ ?_ (hw := by kernel_rfl); exact (by refine TE.tup ?_; exact (by refine TsE.cons ?_ ?_; exact (by refine TE.sub ?_ ?_; exact (by exact (SE.var (i := 3) rfl (.inr (.inl rfl)))); exact (by exact (SE.var (i := 9) rfl (.inl rfl)))); exact (by refine TsE.cons ?_ ?_; exact (by refine TE.sub ?_ ?_; exact (by exact (SE.var (i := 4) rfl (.inr (.inl rfl)))); exact (by exact (SE.var (i := 9) rfl (.inl rfl)))); exact TsE.nil))); exact (by refine SE.tup ?_; exact (by refine SL.cons ?_ ?_; exact (by exact (SE.var (i := 12) rfl (.inl rfl))); exact (by refine SL.cons ?_ ?_; exact (by exact (SE.var (i := 11) rfl (.inl rfl))); exact SL.nil)))); exact SS.nil); exact (by refine SS.cons ?_ ?_; exact (by refine S1.ite ?_ ?_ ?_; exact (by refine CE.cmp ?_ ?_ ?_; exact (by exact (SE.var (i := 12) rfl (.inl rfl))); exact (by refine SE.sub ?_ ?_; exact (by exact (SE.var (i := 3) rfl (.inr (.inl rfl)))); exact (by exact (SE.var (i := 9) rfl (.inl rfl)))); exact CmpS.eq); exact (by refine SS.cons ?_ ?_; exact (by refine S1.assign ?_ ?_; exact (by refine TE.sub ?_ ?_; exact (by exact (SE.var (i := 4) rfl (.inr (.inl rfl)))); exact (by exact (SE.var (i := 9) rfl (.inl rfl)))); exact (by refine SE.call (i := 15) rfl (fn_joined_hops C) ?_ (by decide); exact (by refine SL.cons ?_ ?_; exact (by refine SE.sub ?_ ?_; exact (by exact (SE.var (i := 4) rfl (.inr (.inl rfl)))); exact (by exact (SE.var (i := 9) rfl (.inl rfl)))); exact (by refine SL.cons ?_ ?_; exact (by exact (SE.var (i := 11) rfl (.inl rfl))); exact SL.nil)))); exact SS.nil); exact SS.nil); exact SS.nil)); exact SS.nil)))))))); exact (by refine SS.cons ?_ ?_; exact (by refine S1.assign ?_ ?_; exact (TE.var (i := 6) rfl (.inl rfl)); exact (by refine SE.call (i := 16) rfl (fn_nearest_spot C) ?_ (by decide); exact (by refine SL.cons ?_ ?_; exact (by exact (SE.var (i := 3) rfl (.inr (.inl rfl)))); exact (by refine SL.cons ?_ ?_; exact (by exact (SE.var (i := 5) rfl (.inl rfl))); exact SL.nil)))); exact SS.nil))))); exact (by refine SS.cons ?_ ?_; exact (by refine S1.ret ?_; exact (by refine SE.dictComp (tt := false) (show ScOk _ _ ([(Str.ofString ".0", .local), (Str.ofString "spot", .local), (Str.ofString "settled_hops", .globalImplicit), (Str.ofString "costs", .cell), (Str.ofString "hops", .cell)]) [none, none, none, some 3, some 4] from ⟨rfl, by kernel_rfl, by decide +kernel, by decide +kernel, by decide +kernel, by decide +kernel, by decide +kernel⟩) ?_ ?_ ?_ ?_ ?_; exact (by refine ItE.val ?_; exact (by refine SE.bcall (i := 17) rfl C.b_sorted CallS.sorted ?_ (by decide); exact (by refine SL.cons ?_ ?_; exact (by exact (SE.var (i := 5) rfl (.inl rfl))); exact SL.nil))); exact (TE.loc (i := 1) rfl); exact CI.nil; exact (by exact (SE.var (i := 1) rfl (.inl rfl))); exact (by refine SE.tup ?_; exact (by refine SL.cons ?_ ?_; exact (by refine SE.sub ?_ ?_; exact (by exact (SE.var (i := 3) rfl (.inr (.inl rfl)))); exact (by exact (SE.var (i := 1) rfl (.inl rfl)))); exact (by refine SL.cons ?_ ?_; exact (by refine SE.call (i := 2) rfl (fn_settled_hops C) ?_ (by decide); exact (by refine SL.cons ?_ ?_; exact (by refine SE.sub ?_ ?_; exact (by exact (SE.var (i := 4) rfl (.inr (.inl rfl)))); exact (by exact (SE.var (i := 1) rfl (.inl rfl)))); exact SL.nil)); exact SL.nil))))); exact SS.nil))))
theorem o_spf_tree : DefOk r_spf_tree.name r_spf_tree.params r_spf_tree.body r_spf_tree.scope [Str.ofString "links", Str.ofString "root", Str.ofString "ways"] [some 0, some 1, some 2, none, none, none, none, none, none, none, none, none, none, none, none, none, none, none] where
  bind := fun pm cd doc => lenS fun a0 => lenS fun a1 => lenS fun a2 => lenZ rfl
  ndp := by decide +kernel
  kindP := by decide +kernel
  pidx := by decide +kernel
  nd := by decide +kernel
  pl := by decide +kernel
  nofree := by decide +kernel
  kind := rfl
  co := rfl
  gen := rfl
theorem m_spf_tree : r_spf_tree ∈ recsOf prog := List.mem_of_getElem? (i := 9) (by kernel_rfl)
theorem fn_spf_tree {g : GG} (C : Ctx g) : FnIs g (Str.ofString "spf_tree") 4 f_spf_tree := Ctx.fnIs (d := r_spf_tree) (ps := [Str.ofString "links", Str.ofString "root", Str.ofString "ways"]) (pidx := [some 0, some 1, some 2, none, none, none, none, none, none, none, none, none, none, none, none, none, none, none]) (mb := d_spf_tree) (k := 3) (ns := N_spf_tree) (f := f_spf_tree) C m_spf_tree o_spf_tree (@s_spf_tree g C) rfl

noncomputable def N__law_draw : List (Str × NameKind) := [(Str.ofString "pool", .local), (Str.ofString "many", .local), (Str.ofString "spot", .local), (Str.ofString "len", .globalImplicit), (Str.ofString "abs", .globalImplicit)]
noncomputable def r__law_draw : DefRec := recAt 16
noncomputable def d__law_draw : SDen := (D.cons (D.assign (T.var 2) (E.sub (E.var 0) (E.const (.int 1)))) (D.cons (D.assign (T.sub (E.var 0) (E.const (.int 1))) (E.bin addS (E.var 2) (E.const (.int 1)))) (D.cons (D.ite (C.cmp ltS (E.var 2) (E.call lenF (L.cons (E.sub (E.var 0) (E.const (.int 0))) L.nil))) (D.cons (D.ret (E.bin (intOp modI) (E.call absF (L.cons (E.sub (E.sub (E.var 0) (E.const (.int 0))) (E.var 2)) L.nil)) (E.var 1))) D.nil) D.nil) (D.cons (D.ret (E.bin (intOp modI) (E.sub (E.tup (L.cons (E.const (.int 1)) (L.cons (E.const (.int 2)) (L.cons (E.const (.int 0)) (L.cons (E.const (.int 3)) (L.cons (E.const (.int 1)) (L.cons (E.const (.int 3)) (L.cons (E.const (.int 0)) (L.cons (E.const (.int 1)) (L.cons (E.const (.int 2)) (L.cons (E.const (.int 2)) (L.cons (E.const (.int 0)) L.nil)))))))))))) (E.bin (intOp modI) (E.var 2) (E.const (.int 11)))) (E.var 1))) D.nil))))
noncomputable def f__law_draw : FDen := F.den 2 [some 0, some 1, none, none, none] d__law_draw
theorem s__law_draw {g : GG} (C : Ctx g) : SS g N__law_draw 1 r__law_draw.body d__law_draw :=
  (by refine SS.cons ?_ ?_; exact (by refine S1.assign ?_ ?_; exact (TE.var (i := 2) rfl (.inl rfl)); exact (by refine SE.sub ?_ ?_; exact (by exact (SE.var (i := 0) rfl (.inl rfl))); exact SE.cInt)); exact (by refine SS.cons ?_ ?_; exact (by refine S1.assign ?_ ?_; exact (by refine TE.sub ?_ ?_; exact (by exact (SE.var (i := 0) rfl (.inl rfl))); exact SE.cInt); exact (by refine SE.bin ?_ ?_ ?_; exact (by exact (SE.var (i := 2) rfl (.inl rfl))); exact SE.cInt; exact BinS.add)); exact (by refine SS.cons ?_ ?_; exact (by refine S1.ite ?_ ?_ ?_; exact (by refine CE.cmp ?_ ?_ ?_; exact (by exact (SE.var (i := 2) rfl (.inl rfl))); exact (by refine SE.bcall (i := 3) rfl C.b_len CallS.len ?_ (by decide); exact (by refine SL.cons ?_ ?_; exact (by refine SE.sub ?_ ?_; exact (by exact (SE.var (i := 0) rfl (.inl rfl))); exact SE.cInt); exact SL.nil)); exact CmpS.lt); exact (by refine SS.cons ?_ ?_; exact (by refine S1.ret ?_; exact (by refine SE.bin ?_ ?_ ?_; exact (by refine SE.bcall (i := 4) rfl C.b_abs CallS.abs ?_ (by decide); exact (by refine SL.cons ?_ ?_; exact (by refine SE.sub ?_ ?_; exact (by refine SE.sub ?_ ?_; exact (by exact (SE.var (i := 0) rfl (.inl rfl))); exact SE.cInt); exact (by exact (SE.var (i := 2) rfl (.inl rfl)))); exact SL.nil)); exact (by exact (SE.var (i := 1) rfl (.inl rfl))); exact BinS.mod)); exact SS.nil); exact SS.nil); exact (by refine SS.cons ?_ ?_; exact (by refine S1.ret ?_; exact (by refine SE.bin ?_ ?_ ?_; exact (by refine SE.sub ?_ ?_; exact (by refine SE.tup ?_; exact (by refine SL.cons ?_ ?_; exact SE.cInt; exact (by refine SL.cons ?_ ?_; exact SE.cInt; exact (by refine SL.cons ?_ ?_; exact SE.cInt; exact (by refine SL.cons ?_ ?_; exact SE.cInt; exact (by refine SL.cons ?_ ?_; exact SE.cInt; exact (by refine SL.cons ?_ ?_; exact SE.cInt; exact (by refine SL.cons ?_ ?_; exact SE.cInt; exact (by refine SL.cons ?_ ?_; exact SE.cInt; exact (by refine SL.cons ?_ ?_; exact SE.cInt; exact (by refine SL.cons ?_ ?_; exact SE.cInt; exact (by refine SL.cons ?_ ?_; exact SE.cInt; exact SL.nil)))))))))))); exact (by refine SE.bin ?_ ?_ ?_; exact (by exact (SE.var (i := 2) rfl (.inl rfl))); exact SE.cInt; exact BinS.mod)); exact (by exact (SE.var (i := 1) rfl (.inl rfl))); exact BinS.mod)); exact SS.nil))))
theorem o__law_draw : DefOk r__law_draw.name r__law_draw.params r__law_draw.body r__law_draw.scope [Str.ofString "pool", Str.ofString "many"] [some 0, some 1, none, none, none] where
  bind := fun pm cd doc => lenS fun a0 => lenS fun a1 => lenZ rfl
  ndp := by decide +kernel
  kindP := by decide +kernel
  pidx := by decide +kernel
  nd := by decide +kernel
  pl := by decide +kernel
  nofree := by decide +kernel
  kind := rfl
  co := rfl
  gen := rfl
theorem m__law_draw : r__law_draw ∈ recsOf prog := List.mem_of_getElem? (i := 10) (by kernel_rfl)
theorem fn__law_draw {g : GG} (C : Ctx g) : FnIs g (Str.ofString "_law_draw") 2 f__law_draw := Ctx.fnIs (d := r__law_draw) (ps := [Str.ofString "pool", Str.ofString "many"]) (pidx := [some 0, some 1, none, none, none]) (mb := d__law_draw) (k := 1) (ns := N__law_draw) (f := f__law_draw) C m__law_draw o__law_draw (@s__law_draw g C) rfl

noncomputable def N__law_links : List (Str × NameKind) := [(Str.ofString "many", .local), (Str.ofString "lines", .local), (Str.ofString "rows", .local), (Str.ofString "node", .local), (Str.ofString "some", .local), (Str.ofString "one", .local), (Str.ofString "other", .local), (Str.ofString "level", .local), (Str.ofString "range", .globalImplicit), (Str.ofString "tuple", .globalImplicit), (Str.ofString "graph_edges", .globalImplicit)]
noncomputable def r__law_links : DefRec := recAt 17
noncomputable def d__law_links : SDen := (D.cons (D.assign (T.var 2) (E.list L.nil)) (D.cons (D.for (It.val (E.call rangeF (L.cons (E.const (.int 1)) (L.cons (E.bin addS (E.var 0) (E.const (.int 1))) L.nil)))) (T.var 3) (D.cons (D.assign (T.var 4) (E.list L.nil)) (D.cons (D.for (It.val (E.var 1)) (T.tup 3 (Ts.cons (T.var 5) (Ts.cons (T.var 6) (Ts.cons (T.var 7) Ts.nil)))) (D.cons (D.ite (C.cmp inS (E.var 3) (E.tup (L.cons (E.var 5) (L.cons (E.var 6) L.nil)))) (D.cons (D.expr (E.meth .list appendM (E.var 4) (L.cons (E.tup (L.cons (E.bin (intOp subI) (E.bin addS (E.var 5) (E.var 6)) (E.var 3)) (L.cons (E.bin addS (E.bin addS (E.bin (intOp mulI) (E.const (.int 9)) (E.var 5)) (E.var 6)) (E.bin (intOp mulI) (E.const (.int 40)) (E.var 3))) (L.cons (E.const (.int 1)) (L.cons (E.bin (intOp powI) (E.const (.int 5)) (E.var 7)) L.nil))))) L.nil))) D.nil) D.nil) D.nil)) (D.cons (D.expr (E.meth .list appendM (E.var 2) (L.cons (E.tup (L.cons (E.tup (L.cons (E.const (.int 0)) (L.cons (E.const (.int 2)) (L.cons (E.const (.int 1)) (L.cons (E.var 3) (L.cons (E.var 3) (L.cons (E.const (.int 1)) (L.cons (E.const (.int 0)) L.nil)))))))) (L.cons (E.tup (L.cons (E.const (.str (Str.ofString "router"))) (L.cons (E.const (.int 0)) (L.cons (E.call tupleF (L.cons (E.var 4) L.nil)) L.nil)))) L.nil))) L.nil))) D.nil)))) (D.cons (D.ret (E.call f_graph_edges (L.cons (E.var 2) L.nil))) D.nil)))
noncomputable def f__law_links : FDen := F.den 2 [some 0, some 1, none, none, none, none, none, none, none, none, none] d__law_links
theorem s__law_links {g : GG} (C : Ctx g) : SS g N__law_links 3 r__law_links.body d__law_links :=
  (by refine SS.cons ?_ ?_; exact (by refine S1.assign ?_ ?_; exact (TE.var (i := 2) rfl (.inl rfl)); exact (by refine SE.list ?_; exact SL.nil)); exact (by refine SS.cons ?_ ?_; exact (by refine S1.for (tt := false) ?_ ?_ ?_; exact (by refine ItE.val ?_; exact (by refine SE.tcall (i := 8) rfl C.b_range CallS.range ?_ (by decide); exact (by refine SL.cons ?_ ?_; exact SE.cInt; exact (by refine SL.cons ?_ ?_; exact (by refine SE.bin ?_ ?_ ?_; exact (by exact (SE.var (i := 0) rfl (.inl rfl))); exact SE.cInt; exact BinS.add); exact SL.nil)))); exact (TE.var (i := 3) rfl (.inl rfl)); exact (by refine SS.cons ?_ ?_; exact (by refine S1.assign ?_ ?_; exact (TE.var (i := 4) rfl (.inl rfl)); exact (by refine SE.list ?_; exact SL.nil)); exact (by refine SS.cons ?_ ?_; exact (by refine S1.for (tt := false) ?_ ?_ ?_; exact (by refine ItE.val ?_; exact (by exact (SE.var (i := 1) rfl (.inl rfl)))); exact (by refine TE.tup ?_; exact (by refine TsE.cons ?_ ?_; exact (TE.var (i := 5) rfl (.inl rfl)); exact (by refine TsE.cons ?_ ?_; exact (TE.var (i := 6) rfl (.inl rfl)); exact (by refine TsE.cons ?_ ?_; exact (TE.var (i := 7) rfl (.inl rfl)); exact TsE.nil)))); exact (by refine SS.cons ?_ ?_; exact (by refine S1.ite ?_ ?_ ?_; exact (by refine CE.cmp ?_ ?_ ?_; exact (by exact (SE.var (i := 3) rfl (.inl rfl))); exact (by refine SE.tup ?_; exact (by refine SL.cons ?_ ?_; exact (by exact (SE.var (i := 5) rfl (.inl rfl))); exact (by refine SL.cons ?_ ?_; exact (by exact (SE.var (i := 6) rfl (.inl rfl))); exact SL.nil))); exact CmpS.in); exact (by refine SS.cons ?_ ?_; exact (by refine S1.expr ?_; exact (by refine SE.meth (T := .list) F.plainAttrs_list F.slot_list_append (by rfl) MethS.append ?_ ?_; exact (by exact (SE.var (i := 4) rfl (.inl rfl))); exact (by refine SL.cons ?_ ?_; exact (by refine SE.tup ?_; exact (by refine SL.cons ?_ ?_; exact (by refine SE.bin ?_ ?_ ?_; exact (by refine SE.bin ?_ ?_ ?_; exact (by exact (SE.var (i := 5) rfl (.inl rfl))); exact (by exact (SE.var (i := 6) rfl (.inl rfl))); exact BinS.add); exact (by exact (SE.var (i := 3) rfl (.inl rfl))); exact BinS.sub); exact (by refine SL.cons ?_ ?_; exact (by refine SE.bin ?_ ?_ ?_; exact (by refine SE.bin ?_ ?_ ?_; exact (by refine SE.bin ?_ ?_ ?_; exact SE.cInt; exact (by exact (SE.var (i := 5) rfl (.inl rfl))); exact BinS.mul); exact (by exact (SE.var (i := 6) rfl (.inl rfl))); exact BinS.add); exact (by refine SE.bin ?_ ?_ ?_; exact SE.cInt; exact (by exact (SE.var (i := 3) rfl (.inl rfl))); exact BinS.mul); exact BinS.add); exact (by refine SL.cons ?_ ?_; exact SE.cInt; exact (by refine SL.cons ?_ ?_; exact (by refine SE.bin ?_ ?_ ?_; exact SE.cInt; exact (by exact (SE.var (i := 7) rfl (.inl rfl))); exact BinS.pow); exact SL.nil))))); exact SL.nil))); exact SS.nil); exact SS.nil); exact SS.nil)); exact (by refine SS.cons ?_ ?_; exact (by refine S1.expr ?_; exact (by refine SE.meth (T := .list) F.plainAttrs_list F.slot_list_append (by rfl) MethS.append ?_ ?_; exact (by exact (SE.var (i := 2) rfl (.inl rfl))); exact (by refine SL.cons ?_ ?_; exact (by refine SE.tup ?_; exact (by refine SL.cons ?_ ?_; exact (by refine SE.tup ?_; exact (by refine SL.cons ?_ ?_; exact SE.cInt; exact (by refine SL.cons ?_ ?_; exact SE.cInt; exact (by refine SL.cons ?_ ?_; exact SE.cInt; exact (by refine SL.cons ?_ ?_; exact (by exact (SE.var (i := 3) rfl (.inl rfl))); exact (by refine SL.cons ?_ ?_; exact (by exact (SE.var (i := 3) rfl (.inl rfl))); exact (by refine SL.cons ?_ ?_; exact SE.cInt; exact (by refine SL.cons ?_ ?_; exact SE.cInt; exact SL.nil)))))))); exact (by refine SL.cons ?_ ?_; exact (by refine SE.tup ?_; exact (by refine SL.cons ?_ ?_; exact SE.cStr; exact (by refine SL.cons ?_ ?_; exact SE.cInt; exact (by refine SL.cons ?_ ?_; exact (by refine SE.tcall (i := 9) rfl C.b_tuple CallS.tuple ?_ (by decide); exact (by refine SL.cons ?_ ?_; exact (by exact (SE.var (i := 4) rfl (.inl rfl))); exact SL.nil)); exact SL.nil)))); exact SL.nil))); exact SL.nil))); exact SS.nil)))); exact (by refine SS.cons ?_ ?_; exact (by refine S1.ret ?_; exact (by refine SE.call (i := 10) rfl (fn_graph_edges C) ?_ (by decide); exact (by refine SL.cons ?_ ?_; exact (by exact (SE.var (i := 2) rfl (.inl rfl))); exact SL.nil))); exact SS.nil)))
theorem o__law_links : DefOk r__law_links.name r__law_links.params r__law_links.body r__law_links.scope [Str.ofString "many", Str.ofString "lines"] [some 0, some 1, none, none, none, none, none, none, none, none, none] where
  bind := fun pm cd doc => lenS fun a0 => lenS fun a1 => lenZ rfl
  ndp := by decide +kernel
  kindP := by decide +kernel
  pidx := by decide +kernel
  nd := by decide +kernel
  pl := by decide +kernel
  nofree := by decide +kernel
  kind := rfl
  co := rfl
  gen := rfl
theorem m__law_links : r__law_links ∈ recsOf prog := List.mem_of_getElem? (i := 11) (by kernel_rfl)
theorem fn__law_links {g : GG} (C : Ctx g) : FnIs g (Str.ofString "_law_links") 4 f__law_links := Ctx.fnIs (d := r__law_links) (ps := [Str.ofString "many", Str.ofString "lines"]) (pidx := [some 0, some 1, none, none, none, none, none, none, none, none, none]) (mb := d__law_links) (k := 3) (ns := N__law_links) (f := f__law_links) C m__law_links o__law_links (@s__law_links g C) rfl

noncomputable def N__law_costs : List (Str × NameKind) := [(Str.ofString "many", .local), (Str.ofString "lines", .local), (Str.ofString "links", .local), (Str.ofString "found", .local), (Str.ofString "root", .local), (Str.ofString "tree", .local), (Str.ofString "spot", .local), (Str.ofString "_law_links", .globalImplicit), (Str.ofString "range", .globalImplicit), (Str.ofString "spf_tree", .globalImplicit)]
noncomputable def r__law_costs : DefRec := recAt 18
noncomputable def d__law_costs : SDen := (D.cons (D.swap [3, 2] (E.tup (L.cons (E.call f__law_links (L.cons (E.var 0) (L.cons (E.var 1) L.nil))) (L.cons E.dict0 L.nil)))) (D.cons (D.for (It.val (E.call rangeF (L.cons (E.const (.int 1)) (L.cons (E.bin addS (E.var 0) (E.const (.int 1))) L.nil)))) (T.var 4) (D.cons (D.assign (T.var 5) (E.call f_spf_tree (L.cons (E.var 2) (L.cons (E.tup (L.cons (E.const (.int 1)) (L.cons (E.var 4) L.nil))) (L.cons E.dict0 L.nil))))) (D.cons (D.for (It.val (E.var 5)) (T.var 6) (D.cons (D.assign (T.sub (E.var 3) (E.tup (L.cons (E.var 4) (L.cons (E.sub (E.var 6) (E.const (.int 1))) L.nil)))) (E.sub (E.sub (E.var 5) (E.var 6)) (E.const (.int 0)))) D.nil)) D.nil))) (D.cons (D.ret (E.var 3)) D.nil)))
noncomputable def f__law_costs : FDen := F.den 2 [some 0, some 1, none, none, none, none, none, none, none, none] d__law_costs
theorem s__law_costs {g : GG} (C : Ctx g) : SS g N__law_costs 4 r__law_costs.body d__law_costs :=
  (by refine SS.cons ?_ ?_; exact (by refine S1.swap (xs := [Str.ofString "links", Str.ofString "found"]) (is := [3, 2]) ?_ (by kernel_rfl) rfl (by intro j i x h1 h2; rcases j with _ | j; (cases h1; cases h2; rfl); rcases j with _ | j; (cases h1; cases h2; rfl); cases h1); exact (by refine SE.tup ?_; exact (by refine SL.cons ?_ ?_; exact (by refine SE.call (i := 7) rfl (fn__law_links C) ?_ (by decide); exact (by refine SL.cons ?_ ?_; exact (by exact (SE.var (i := 0) rfl (.inl rfl))); exact (by refine SL.cons ?_ ?_; exact (by exact (SE.var (i := 1) rfl (.inl rfl))); exact SL.nil))); exact (by refine SL.cons ?_ ?_; exact SE.dict0; exact SL.nil)))); exact (by refine SS.cons ?_ ?_; exact (by refine S1.for (tt := false) ?_ ?_ ?_; exact (by refine ItE.val ?_; exact (by refine SE.tcall (i := 8) rfl C.b_range CallS.range ?_ (by decide); exact (by refine SL.cons ?_ ?_; exact SE.cInt; exact (by refine SL.cons ?_ ?_; exact (by refine SE.bin ?_ ?_ ?_; exact (by exact (SE.var (i := 0) rfl (.inl rfl))); exact SE.cInt; exact BinS.add); exact SL.nil)))); exact (TE.var (i := 4) rfl (.inl rfl)); exact (by refine SS.cons ?_ ?_; exact (by refine S1.assign ?_ ?_; exact (TE.var (i := 5) rfl (.inl rfl)); exact (by refine SE.call (i := 9) rfl (fn_spf_tree C) ?_ (by decide); exact (by refine SL.cons ?_ ?_; exact (by exact (SE.var (i := 2) rfl (.inl rfl))); exact (by refine SL.cons ?_ ?_; exact (by refine SE.tup ?_; exact (by refine SL.cons ?_ ?_; exact SE.cInt; exact (by refine SL.cons ?_ ?_; exact (by exact (SE.var (i := 4) rfl (.inl rfl))); exact SL.nil))); exact (by refine SL.cons ?_ ?_; exact SE.dict0; exact SL.nil))))); exact (by refine SS.cons ?_ ?_; exact (by refine S1.for (tt := false) ?_ ?_ ?_; exact (by refine ItE.val ?_; exact (by exact (SE.var (i := 5) rfl (.inl rfl)))); exact (TE.var (i := 6) rfl (.inl rfl)); exact (by refine SS.cons ?_ ?_; exact (by refine S1.assign ?_ ?_; exact (by refine TE.sub ?_ ?_; exact (by exact (SE.var (i := 3) rfl (.inl rfl))); exact (by refine SE.tup ?_; exact (by refine SL.cons ?_ ?_; exact (by exact (SE.var (i := 4) rfl (.inl rfl))); exact (by refine SL.cons ?_ ?_; exact (by refine SE.sub ?_ ?_; exact (by exact (SE.var (i := 6) rfl (.inl rfl))); exact SE.cInt); exact SL.nil)))); exact (by refine SE.sub ?_ ?_; exact (by refine SE.sub ?_ ?_; exact (by exact (SE.var (i := 5) rfl (.inl rfl))); exact (by exact (SE.var (i := 6) rfl (.inl rfl)))); exact SE.cInt)); exact SS.nil)); exact SS.nil))); exact (by refine SS.cons ?_ ?_; exact (by refine S1.ret ?_; exact (by exact (SE.var (i := 3) rfl (.inl rfl)))); exact SS.nil)))
theorem o__law_costs : DefOk r__law_costs.name r__law_costs.params r__law_costs.body r__law_costs.scope [Str.ofString "many", Str.ofString "lines"] [some 0, some 1, none, none, none, none, none, none, none, none] where
  bind := fun pm cd doc => lenS fun a0 => lenS fun a1 => lenZ rfl
  ndp := by decide +kernel
  kindP := by decide +kernel
  pidx := by decide +kernel
  nd := by decide +kernel
  pl := by decide +kernel
  nofree := by decide +kernel
  kind := rfl
  co := rfl
  gen := rfl
theorem m__law_costs : r__law_costs ∈ recsOf prog := List.mem_of_getElem? (i := 12) (by kernel_rfl)
theorem fn__law_costs {g : GG} (C : Ctx g) : FnIs g (Str.ofString "_law_costs") 5 f__law_costs := Ctx.fnIs (d := r__law_costs) (ps := [Str.ofString "many", Str.ofString "lines"]) (pidx := [some 0, some 1, none, none, none, none, none, none, none, none]) (mb := d__law_costs) (k := 4) (ns := N__law_costs) (f := f__law_costs) C m__law_costs o__law_costs (@s__law_costs g C) rfl

noncomputable def N__law_level : List (Str × NameKind) := [(Str.ofString "cost", .cell), (Str.ofString "len", .globalImplicit), (Str.ofString "range", .globalImplicit)]
noncomputable def r__law_level : DefRec := recAt 19
noncomputable def d__law_level : SDen := (D.cons (D.ret (E.bin (intOp subI) (E.call lenF (L.cons (E.comp (It.val (E.call rangeF (L.cons (E.const (.int 3)) L.nil))) [none, none, some 0] (.list []) (T.var 1) (C.cmp (intRel fun a b => decide (b ≤ a)) (E.var 2) (E.bin (intOp powI) (E.const (.int 5)) (E.var 1))) (B.app (E.const (.int 1)))) L.nil)) (E.const (.int 1)))) D.nil)
noncomputable def f__law_level : FDen := F.den 1 [some 0, none, none] d__law_level
theorem s__law_level {g : GG} (C : Ctx g) : SS g N__law_level 1 r__law_level.body d__law_level :=
  (by refine SS.cons ?_ ?_; exact (by refine S1.ret ?_; exact (by refine SE.bin ?_ ?_ ?_; exact (by refine SE.bcall (i := 1) rfl C.b_len CallS.len ?_ (by decide); exact (by refine SL.cons ?_ ?_; exact (by refine SE.listComp (tt := false) (show ScOk _ _ ([(Str.ofString ".0", .local), (Str.ofString "level", .local), (Str.ofString "cost", .cell)]) [none, none, some 0] from ⟨rfl, by kernel_rfl, by decide +kernel, by decide +kernel, by decide +kernel, by decide +kernel, by decide +kernel⟩) ?_ ?_ ?_ ?_; exact (by refine ItE.val ?_; exact (by refine SE.tcall (i := 2) rfl C.b_range CallS.range ?_ (by decide); exact (by refine SL.cons ?_ ?_; exact SE.cInt; exact SL.nil))); exact (TE.loc (i := 1) rfl); exact (by refine CI.one ?_; exact (by refine CE.cmp ?_ ?_ ?_; exact (by exact (SE.var (i := 2) rfl (.inr (.inl rfl)))); exact (by refine SE.bin ?_ ?_ ?_; exact SE.cInt; exact (by exact (SE.var (i := 1) rfl (.inl rfl))); exact BinS.pow); exact CmpS.ge)); exact SE.cInt); exact SL.nil)); exact SE.cInt; exact BinS.sub)); exact SS.nil)
theorem o__law_level : DefOk r__law_level.name r__law_level.params r__law_level.body r__law_level.scope [Str.ofString "cost"] [some 0, none, none] where
  bind := fun pm cd doc => lenS fun a0 => lenZ rfl
  ndp := by decide +kernel
  kindP := by decide +kernel
  pidx := by decide +kernel
  nd := by decide +kernel
  pl := by decide +kernel
  nofree := by decide +kernel
  kind := rfl
  co := rfl
  gen := rfl
theorem m__law_level : r__law_level ∈ recsOf prog := List.mem_of_getElem? (i := 13) (by kernel_rfl)
theorem fn__law_level {g : GG} (C : Ctx g) : FnIs g (Str.ofString "_law_level") 2 f__law_level := Ctx.fnIs (d := r__law_level) (ps := [Str.ofString "cost"]) (pidx := [some 0, none, none]) (mb := d__law_level) (k := 1) (ns := N__law_level) (f := f__law_level) C m__law_level o__law_level (@s__law_level g C) rfl

noncomputable def N__law_joined : List (Str × NameKind) := [(Str.ofString "many", .local), (Str.ofString "lines", .local), (Str.ofString "lot", .cell), (Str.ofString "levels", .local), (Str.ofString "chosen", .local), (Str.ofString "level", .cell), (Str.ofString "line", .local), (Str.ofString "one", .cell), (Str.ofString "other", .cell), (Str.ofString "near", .local), (Str.ofString "far", .local), (Str.ofString "dict", .globalImplicit), (Str.ofString "range", .globalImplicit)]
noncomputable def r__law_joined : DefRec := recAt 20
noncomputable def d__law_joined : SDen := (D.cons (D.assign (T.tup 3 (Ts.cons (T.var 2) (Ts.cons (T.var 3) (Ts.cons (T.var 4) Ts.nil)))) (E.tup (L.cons (E.call dictF (L.cons (E.comp (It.val (E.call rangeF (L.cons (E.const (.int 1)) (L.cons (E.bin addS (E.var 0) (E.const (.int 1))) L.nil)))) [none, none] (.list []) (T.var 1) C.true (B.app (E.tup (L.cons (E.var 1) (L.cons (E.var 1) L.nil))))) L.nil)) (L.cons E.dict0 (L.cons (E.list L.nil) L.nil))))) (D.cons (D.for (It.val (E.call rangeF (L.cons (E.const (.int 3)) L.nil))) (T.var 5) (D.cons (D.for (It.val (E.comp (It.val (E.var 1)) [none, none, some 5] (.list []) (T.var 1) (C.cmp eqS (E.sub (E.var 1) (E.const (.int 2))) (E.var 2)) (B.app (E.var 1)))) (T.var 6) (D.cons (D.assign (T.tup 2 (Ts.cons (T.var 7) (Ts.cons (T.var 8) Ts.nil))) (E.tup (L.cons (E.sub (E.var 2) (E.sub (E.var 6) (E.const (.int 0)))) (L.cons (E.sub (E.var 2) (E.sub (E.var 6) (E.const (.int 1)))) L.nil)))) (D.cons (D.ite (C.cmp neS (E.var 7) (E.var 8)) (D.cons (D.expr (E.meth .list appendM (E.var 4) (L.cons (E.var 6) L.nil))) (D.cons (D.for (It.val (E.comp (It.val (E.var 2)) [none, none, some 2, some 7] (.list []) (T.var 1) (C.cmp eqS (E.sub (E.var 2) (E.var 1)) (E.var 3)) (B.app (E.var 1)))) (T.var 9) (D.cons (D.for (It.val (E.comp (It.val (E.var 2)) [none, none, some 2, some 8] (.list []) (T.var 1) (C.cmp eqS (E.sub (E.var 2) (E.var 1)) (E.var 3)) (B.app (E.var 1)))) (T.var 10) (D.cons (D.assign (T.tup 2 (Ts.cons (T.sub (E.var 3) (E.tup (L.cons (E.var 9) (L.cons (E.var 10) L.nil)))) (Ts.cons (T.sub (E.var 3) (E.tup (L.cons (E.var 10) (L.cons (E.var 9) L.nil)))) Ts.nil))) (E.tup (L.cons (E.var 5) (L.cons (E.var 5) L.nil)))) D.nil)) D.nil)) (D.cons (D.assign (T.var 2) (E.call dictF (L.cons (E.comp (It.val (E.var 2)) [none, none, some 2, some 7, some 8] (.list []) (T.var 1) C.true (B.app (E.tup (L.cons (E.var 1) (L.cons (E.ite (C.cmp eqS (E.sub (E.var 2) (E.var 1)) (E.var 4)) (E.var 3) (E.sub (E.var 2) (E.var 1))) L.nil))))) L.nil))) D.nil))) D.nil) D.nil))) D.nil)) (D.cons (D.ret (E.tup (L.cons (E.var 3) (L.cons (E.var 4) L.nil)))) D.nil)))
noncomputable def f__law_joined : FDen := F.den 2 [some 0, some 1, none, none, none, none, none, none, none, none, none, none, none] d__law_joined
theorem s__law_joined {g : GG} (C : Ctx g) : SS g N__law_joined 1 r__law_joined.body d__law_joined :=
  (by refine SS.cons ?_ ?_; exact (by refine S1.assign ?_ ?_ (hw := by kernel_rfl); exact (by refine TE.tup ?_; exact (by refine TsE.cons ?_ ?_; exact (TE.var (i := 2) rfl (.inr rfl)); exact (by refine TsE.cons ?_ ?_; exact (TE.var (i := 3) rfl (.inl rfl)); exact (by refine TsE.cons ?_ ?_; exact (TE.var (i := 4) rfl (.inl rfl)); exact TsE.nil)))); exact (by refine SE.tup ?_; exact (by refine SL.cons ?_ ?_; exact (by refine SE.tcall (i := 11) rfl C.b_dict CallS.dict ?_ (by decide); exact (by refine SL.cons ?_ ?_; exact (by refine SE.listComp (tt := false) (show ScOk _ _ ([(Str.ofString ".0", .local), (Str.ofString "node", .local)]) [none, none] from ⟨rfl, by kernel_rfl, by decide +kernel, by decide +kernel, by decide +kernel, by decide +kernel, by decide +kernel⟩) ?_ ?_ ?_ ?_; exact (by refine ItE.val ?_; exact (by refine SE.tcall (i := 12) rfl C.b_range CallS.range ?_ (by decide); exact (by refine SL.cons ?_ ?_; exact SE.cInt; exact (by refine SL.cons ?_ ?_; exact (by refine SE.bin ?_ ?_ ?_; exact (by exact (SE.var (i := 0) rfl (.inl rfl))); exact SE.cInt; exact BinS.add); exact SL.nil)))); exact (TE.loc (i := 1) rfl); exact CI.nil; exact (by refine SE.tup ?_; exact (by refine SL.cons ?_ ?_; exact (by exact (SE.var (i := 1) rfl (.inl rfl))); exact (by refine SL.cons ?_ ?_; exact (by exact (SE.var (i := 1) rfl (.inl rfl))); exact SL.nil)))); exact SL.nil)); exact (by refine SL.cons ?_ ?_; exact SE.dict0; exact (by refine SL.cons ?_ ?_; exact (by refine SE.list ?_; exact SL.nil); exact SL.nil))))); exact (by refine SS.cons ?_ ?_; exact (by refine S1.for (tt := false) ?_ ?_ ?_; exact (by refine ItE.val ?_; exact (by refine SE.tcall (i := 12) rfl C.b_range CallS.range ?_ (by decide); exact (by refine SL.cons ?_ ?_; exact SE.cInt; exact SL.nil))); exact (TE.var (i := 5) rfl (.inr rfl)); exact (by refine SS.cons ?_ ?_; exact (by refine S1.for (tt := false) ?_ ?_ ?_; exact (by refine ItE.val ?_; exact (by refine SE.listComp (tt := false) (show ScOk _ _ ([(Str.ofString ".0", .local), (Str.ofString "line", .local), (Str.ofString "level", .cell)]) [none, none, some 5] from ⟨rfl, by kernel_rfl, by decide +kernel, by decide +kernel, by decide +kernel, by decide +kernel, by decide +kernel⟩) ?_ ?_ ?_ ?_; exact (by refine ItE.val ?_; exact (by exact (SE.var (i := 1) rfl (.inl rfl)))); exact (TE.loc (i := 1) rfl); exact (by refine CI.one ?_; exact (by refine CE.cmp ?_ ?_ ?_; exact (by refine SE.sub ?_ ?_; exact (by exact (SE.var (i := 1) rfl (.inl rfl))); exact SE.cInt); exact (by exact (SE.var (i := 2) rfl (.inr (.inl rfl)))); exact CmpS.eq)); exact (by exact (SE.var (i := 1) rfl (.inl rfl))))); exact (TE.var (i := 6) rfl (.inl rfl)); exact (by refine SS.cons ?_ ?_; exact (by refine S1.assign ?_ ?_ (hw := by kernel_rfl); exact (by refine TE.tup ?_; exact (by refine TsE.cons ?_ ?_; exact (TE.var (i := 7) rfl (.inr rfl)); exact (by refine TsE.cons ?_ ?_; exact (TE.var (i := 8) rfl (.inr rfl)); exact TsE.nil))); exact (by refine SE.tup ?_; exact (by refine SL.cons ?_ ?_; exact (by refine SE.sub ?_ ?_; exact (by exact (SE.var (i := 2) rfl (.inr (.inl rfl)))); exact (by refine SE.sub ?_ ?_; exact (by exact (SE.var (i := 6) rfl (.inl rfl))); exact SE.cInt)); exact (by refine SL.cons ?_ ?_; exact (by refine SE.sub ?_ ?_; exact (by exact (SE.var (i := 2) rfl (.inr (.inl rfl)))); exact (by refine SE.sub ?_ ?_; exact (by exact (SE.var (i := 6) rfl (.inl rfl))); exact SE.cInt)); exact SL.nil)))); exact (by refine SS.cons ?_ ?_; exact (by refine S1.ite ?_ ?_ ?_; exact (by refine CE.cmp ?_ ?_ ?_; exact (by exact (SE.var (i := 7) rfl (.inr (.inl rfl)))); exact (by exact (SE.var (i := 8) rfl (.inr (.inl rfl)))); exact CmpS.ne); exact (by refine SS.cons ?_ ?_; exact (by refine S1.expr ?_; exact (by refine SE.meth (T := .list) F.plainAttrs_list F.slot_list_append (by rfl) MethS.append ?_ ?_; exact (by exact (SE.var (i := 4) rfl (.inl rfl))); exact (by refine SL.cons ?_ ?_; exact (by exact (SE.var (i := 6) rfl (.inl rfl))); exact SL.nil))); exact (by refine SS.cons ?_ ?_; exact (by refine S1.for (tt := false) ?_ ?_ ?_; exact (by refine ItE.val ?_; exact (by refine SE.listComp (tt := false) (show ScOk _ _ ([(Str.ofString ".0", .local), (Str.ofString "node", .local), (Str.ofString "lot", .cell), (Str.ofString "one", .cell)]) [none, none, some 2, some 7] from ⟨rfl, by kernel_rfl, by decide +kernel, by decide +kernel, by decide +kernel, by decide +kernel, by decide +kernel⟩) ?_ ?_ ?_ ?_; exact (by refine ItE.val ?_; exact (by exact (SE.var (i := 2) rfl (.inr (.inl rfl))))); exact (TE.loc (i := 1) rfl); exact (by refine CI.one ?_; exact (by refine CE.cmp ?_ ?_ ?_; exact (by refine SE.sub ?_ ?_; exact (by exact (SE.var (i := 2) rfl (.inr (.inl rfl)))); exact (by exact (SE.var (i := 1) rfl (.inl rfl)))); exact (by exact (SE.var (i := 3) rfl (.inr (.inl rfl)))); exact CmpS.eq)); exact (by exact (SE.var (i := 1) rfl (.inl rfl))))); exact (TE.var (i := 9) rfl (.inl rfl)); exact (by refine SS.cons ?_ ?_; exact (by refine S1.for (tt := false) ?_ ?_ ?_; exact (by refine ItE.val ?_; exact (by refine SE.listComp (tt := false) (show ScOk _ _ ([(Str.ofString ".0", .local), (Str.ofString "node", .local), (Str.ofString "lot", .cell), (Str.ofString "other", .cell)]) [none, none, some 2, some 8] from ⟨rfl, by kernel_rfl, by decide +kernel, by decide +kernel, by decide +kernel, by decide +kernel, by decide +kernel⟩) ?_ ?_ ?_ ?_; exact (by refine ItE.val ?_; exact (by exact (SE.var (i := 2) rfl (.inr (.inl rfl))))); exact (TE.loc (i := 1) rfl); exact (by refine CI.one ?_; exact (by refine CE.cmp ?_ ?_ ?_; exact (by refine SE.sub ?_ ?_; exact (by exact (SE.var (i := 2) rfl (.inr (.inl rfl)))); exact (by exact (SE.var (i := 1) rfl (.inl rfl)))); exact (by exact (SE.var (i := 3) rfl (.inr (.inl rfl)))); exact CmpS.eq)); exact (by exact (SE.var (i := 1) rfl (.inl rfl))))); exact (TE.var (i := 10) rfl (.inl rfl)); exact (by refine SS.cons ?_ ?_; exact (by refine S1.assign ?_ ?_ (hw := by kernel_rfl); exact (by refine TE.tup ?_; exact (by refine TsE.cons ?_ ?_; exact (by refine TE.sub ?_ ?_; exact (by exact (SE.var (i := 3) rfl (.inl rfl))); exact (by refine SE.tup ?_; exact (by refine SL.cons ?_ ?_; exact (by exact (SE.var (i := 9) rfl (.inl rfl))); exact (by refine SL.cons ?_ ?_; exact (by exact (SE.var (i := 10) rfl (.inl rfl))); exact SL.nil)))); exact (by refine TsE.cons ?_ ?_; exact (by refine TE.sub ?_ ?_; exact (by exact (SE.var (i := 3) rfl (.inl rfl))); exact (by refine SE.tup ?_; exact (by refine SL.cons ?_ ?_; exact (by exact (SE.var (i := 10) rfl (.inl rfl))); exact (by refine SL.cons ?_ ?_; exact (by exact (SE.var (i := 9) rfl (.inl rfl))); exact SL.nil)))); exact TsE.nil))); exact (by refine SE.tup ?_; exact (by refine SL.cons ?_ ?_; exact (by exact (SE.var (i := 5) rfl (.inr (.inl rfl)))); exact (by refine SL.cons ?_ ?_; exact (by exact (SE.var (i := 5) rfl (.inr (.inl rfl)))); exact SL.nil)))); exact SS.nil)); exact SS.nil)); exact (by refine SS.cons ?_ ?_; exact (by refine S1.assign ?_ ?_; exact (TE.var (i := 2) rfl (.inr rfl)); exact (by refine SE.tcall (i := 11) rfl C.b_dict CallS.dict ?_ (by decide); exact (by refine SL.cons ?_ ?_; exact (by refine SE.listComp (tt := false) (show ScOk _ _ ([(Str.ofString ".0", .local), (Str.ofString "node", .local), (Str.ofString "lot", .cell), (Str.ofString "one", .cell), (Str.ofString "other", .cell)]) [none, none, some 2, some 7, some 8] from ⟨rfl, by kernel_rfl, by decide +kernel, by decide +kernel, by decide +kernel, by decide +kernel, by decide +kernel⟩) ?_ ?_ ?_ ?_; exact (by refine ItE.val ?_; exact (by exact (SE.var (i := 2) rfl (.inr (.inl rfl))))); exact (TE.loc (i := 1) rfl); exact CI.nil; exact (by refine SE.tup ?_; exact (by refine SL.cons ?_ ?_; exact (by exact (SE.var (i := 1) rfl (.inl rfl))); exact (by refine SL.cons ?_ ?_; exact (by refine SE.ite ?_ ?_ ?_; exact (by refine CE.cmp ?_ ?_ ?_; exact (by refine SE.sub ?_ ?_; exact (by exact (SE.var (i := 2) rfl (.inr (.inl rfl)))); exact (by exact (SE.var (i := 1) rfl (.inl rfl)))); exact (by exact (SE.var (i := 4) rfl (.inr (.inl rfl)))); exact CmpS.eq); exact (by exact (SE.var (i := 3) rfl (.inr (.inl rfl)))); exact (by refine SE.sub ?_ ?_; exact (by exact (SE.var (i := 2) rfl (.inr (.inl rfl)))); exact (by exact (SE.var (i := 1) rfl (.inl rfl))))); exact SL.nil)))); exact SL.nil))); exact SS.nil))); exact SS.nil); exact SS.nil))); exact SS.nil)); exact (by refine SS.cons ?_ ?_; exact (by refine S1.ret ?_; exact (by refine SE.tup ?_; exact (by refine SL.cons ?_ ?_; exact (by exact (SE.var (i := 3) rfl (.inl rfl))); exact (by refine SL.cons ?_ ?_; exact (by exact (SE.var (i := 4) rfl (.inl rfl))); exact SL.nil)))); exact SS.nil)))
theorem o__law_joined : DefOk r__law_joined.name r__law_joined.params r__law_joined.body r__law_joined.scope [Str.ofString "many", Str.ofString "lines"] [some 0, some 1, none, none, none, none, none, none, none, none, none, none, none] where
  bind := fun pm cd doc => lenS fun a0 => lenS fun a1 => lenZ rfl
  ndp := by decide +kernel
  kindP := by decide +kernel
  pidx := by decide +kernel
  nd := by decide +kernel
  pl := by decide +kernel
  nofree := by decide +kernel
  kind := rfl
  co := rfl
  gen := rfl
theorem m__law_joined : r__law_joined ∈ recsOf prog := List.mem_of_getElem? (i := 14) (by kernel_rfl)
theorem fn__law_joined {g : GG} (C : Ctx g) : FnIs g (Str.ofString "_law_joined") 2 f__law_joined := Ctx.fnIs (d := r__law_joined) (ps := [Str.ofString "many", Str.ofString "lines"]) (pidx := [some 0, some 1, none, none, none, none, none, none, none, none, none, none, none]) (mb := d__law_joined) (k := 1) (ns := N__law_joined) (f := f__law_joined) C m__law_joined o__law_joined (@s__law_joined g C) rfl

noncomputable def N__law_rows : List (Str × NameKind) := [(Str.ofString "many", .local), (Str.ofString "lines", .local), (Str.ofString "found", .local), (Str.ofString "turn", .local), (Str.ofString "one", .local), (Str.ofString "other", .local), (Str.ofString "level", .cell), (Str.ofString "row", .local), (Str.ofString "range", .globalImplicit), (Str.ofString "tuple", .globalImplicit), (Str.ofString "enumerate", .globalImplicit)]
noncomputable def r__law_rows : DefRec := recAt 21
noncomputable def d__law_rows : SDen := (D.cons (D.assign (T.var 2) (E.dict1 (E.const (.int 1)) (E.tup (L.cons (E.const (.int 0)) (L.cons (E.const (.int 0)) (L.cons (E.const (.int 0)) L.nil)))))) (D.cons (D.for (It.val (E.call rangeF (L.cons (E.var 0) L.nil))) (T.var 3) (D.cons (D.for (It.val (E.bin addS (E.var 1) (E.comp (It.val (E.var 1)) [none, none, none, none] (.list []) (T.tup 3 (Ts.cons (T.var 1) (Ts.cons (T.var 2) (Ts.cons (T.var 3) Ts.nil)))) C.true (B.app (E.tup (L.cons (E.var 2) (L.cons (E.var 1) (L.cons (E.var 3) L.nil)))))))) (T.tup 3 (Ts.cons (T.var 4) (Ts.cons (T.var 5) (Ts.cons (T.var 6) Ts.nil)))) (D.cons (D.ite (C.cmp inS (E.var 4) (E.var 2)) (D.cons (D.assign (T.var 7) (E.call tupleF (L.cons (E.comp (It.enum (E.sub (E.var 2) (E.var 4))) [none, none, none, some 6] (.list []) (T.tup 2 (Ts.cons (T.var 1) (Ts.cons (T.var 2) Ts.nil))) C.true (B.app (E.bin addS (E.var 2) (E.ite (C.cmp eqS (E.var 1) (E.bin (intOp subI) (E.const (.int 2)) (E.var 3))) (E.const (.int 1)) (E.const (.int 0)))))) L.nil))) (D.cons (D.ite (C.or (C.cmp notInS (E.var 5) (E.var 2)) (C.cmp ltS (E.var 7) (E.sub (E.var 2) (E.var 5)))) (D.cons (D.assign (T.sub (E.var 2) (E.var 5)) (E.var 7)) D.nil) D.nil) D.nil)) D.nil) D.nil)) D.nil)) (D.cons (D.ret (E.var 2)) D.nil)))
noncomputable def f__law_rows : FDen := F.den 2 [some 0, some 1, none, none, none, none, none, none, none, none, none] d__law_rows
theorem s__law_rows {g : GG} (C : Ctx g) : SS g N__law_rows 1 r__law_rows.body d__law_rows :=
  (by refine SS.cons ?_ ?_; exact (by refine S1.assign ?_ ?_; exact (TE.var (i := 2) rfl (.inl rfl)); exact (by refine SE.dict1 ?_ ?_; exact SE.cInt; exact (by refine SE.tup ?_; exact (by refine SL.cons ?_ ?_; exact SE.cInt; exact (by refine SL.cons ?_ ?_; exact SE.cInt; exact (by refine SL.cons ?_ ?_; exact SE.cInt; exact SL.nil)))))); exact (by refine SS.cons ?_ ?_; exact (by refine S1.for (tt := false) ?_ ?_ ?_; exact (by refine ItE.val ?_; exact (by refine SE.tcall (i := 8) rfl C.b_range CallS.range ?_ (by decide); exact (by refine SL.cons ?_ ?_; exact (by exact (SE.var (i := 0) rfl (.inl rfl))); exact SL.nil))); exact (TE.var (i := 3) rfl (.inl rfl)); exact (by refine SS.cons ?_ ?_; exact (by refine S1.for (tt := false) ?_ ?_ ?_; exact (by refine ItE.val ?_; exact (by refine SE.bin ?_ ?_ ?_; exact (by exact (SE.var (i := 1) rfl (.inl rfl))); exact (by refine SE.listComp (tt := false) (show ScOk _ _ ([(Str.ofString ".0", .local), (Str.ofString "one", .local), (Str.ofString "other", .local), (Str.ofString "level", .local)]) [none, none, none, none] from ⟨rfl, by kernel_rfl, by decide +kernel, by decide +kernel, by decide +kernel, by decide +kernel, by decide +kernel⟩) ?_ ?_ ?_ ?_; exact (by refine ItE.val ?_; exact (by exact (SE.var (i := 1) rfl (.inl rfl)))); exact (by refine TE.tup ?_; exact (by refine TsE.cons ?_ ?_; exact (TE.loc (i := 1) rfl); exact (by refine TsE.cons ?_ ?_; exact (TE.loc (i := 2) rfl); exact (by refine TsE.cons ?_ ?_; exact (TE.loc (i := 3) rfl); exact TsE.nil)))); exact CI.nil; exact (by refine SE.tup ?_; exact (by refine SL.cons ?_ ?_; exact (by exact (SE.var (i := 2) rfl (.inl rfl))); exact (by refine SL.cons ?_ ?_; exact (by exact (SE.var (i := 1) rfl (.inl rfl))); exact (by refine SL.cons ?_ ?_; exact (by exact (SE.var (i := 3) rfl (.inl rfl))); exact SL.nil))))); exact BinS.add)); exact (by refine TE.tup ?_; exact (by refine TsE.cons ?_ ?_; exact (TE.var (i := 4) rfl (.inl rfl)); exact (by refine TsE.cons ?_ ?_; exact (TE.var (i := 5) rfl (.inl rfl)); exact (by refine TsE.cons ?_ ?_; exact (TE.var (i := 6) rfl (.inr rfl)); exact TsE.nil)))); exact (by refine SS.cons ?_ ?_; exact (by refine S1.ite ?_ ?_ ?_; exact (by refine CE.cmp ?_ ?_ ?_; exact (by exact (SE.var (i := 4) rfl (.inl rfl))); exact (by exact (SE.var (i := 2) rfl (.inl rfl))); exact CmpS.in); exact (by refine SS.cons ?_ ?_; exact (by refine S1.assign ?_ ?_; exact (TE.var (i := 7) rfl (.inl rfl)); exact (by refine SE.tcall (i := 9) rfl C.b_tuple CallS.tuple ?_ (by decide); exact (by refine SL.cons ?_ ?_; exact (by refine SE.listComp (tt := true) (show ScOk _ _ ([(Str.ofString ".0", .local), (Str.ofString "at", .local), (Str.ofString "number", .local), (Str.ofString "level", .cell)]) [none, none, none, some 6] from ⟨rfl, by kernel_rfl, by decide +kernel, by decide +kernel, by decide +kernel, by decide +kernel, by decide +kernel⟩) ?_ ?_ ?_ ?_; exact (by refine ItE.enum (i := 10) rfl C.b_enumerate ?_; exact (by refine SE.sub ?_ ?_; exact (by exact (SE.var (i := 2) rfl (.inl rfl))); exact (by exact (SE.var (i := 4) rfl (.inl rfl))))); exact (by refine TE.tup ?_; exact (by refine TsE.cons ?_ ?_; exact (TE.loc (i := 1) rfl); exact (by refine TsE.cons ?_ ?_; exact (TE.loc (i := 2) rfl); exact TsE.nil))); exact CI.nil; exact (by refine SE.bin ?_ ?_ ?_; exact (by exact (SE.var (i := 2) rfl (.inl rfl))); exact (by refine SE.ite ?_ ?_ ?_; exact (by refine CE.cmp ?_ ?_ ?_; exact (by exact (SE.var (i := 1) rfl (.inl rfl))); exact (by refine SE.bin ?_ ?_ ?_; exact SE.cInt; exact (by exact (SE.var (i := 3) rfl (.inr (.inl rfl)))); exact BinS.sub); exact CmpS.eq); exact SE.cInt; exact SE.cInt); exact BinS.add)); exact SL.nil))); exact (by refine SS.cons ?_ ?_; exact (by refine S1.ite ?_ ?_ ?_; exact (by refine CE.or ?_ ?_; exact (by refine CE.cmp ?_ ?_ ?_; exact (by exact (SE.var (i := 5) rfl (.inl rfl))); exact (by exact (SE.var (i := 2) rfl (.inl rfl))); exact CmpS.notIn); exact (by refine CE.cmp ?_ ?_ ?_; exact (by exact (SE.var (i := 7) rfl (.inl rfl))); exact (by refine SE.sub ?_ ?_; exact (by exact (SE.var (i := 2) rfl (.inl rfl))); exact (by exact (SE.var (i := 5) rfl (.inl rfl)))); exact CmpS.lt)); exact (by refine SS.cons ?_ ?_; exact (by refine S1.assign ?_ ?_; exact (by refine TE.sub ?_ ?_; exact (by exact (SE.var (i := 2) rfl (.inl rfl))); exact (by exact (SE.var (i := 5) rfl (.inl rfl)))); exact (by exact (SE.var (i := 7) rfl (.inl rfl)))); exact SS.nil); exact SS.nil); exact SS.nil)); exact SS.nil); exact SS.nil)); exact SS.nil)); exact (by refine SS.cons ?_ ?_; exact (by refine S1.ret ?_; exact (by exact (SE.var (i := 2) rfl (.inl rfl)))); exact SS.nil)))
theorem o__law_rows : DefOk r__law_rows.name r__law_rows.params r__law_rows.body r__law_rows.scope [Str.ofString "many", Str.ofString "lines"] [some 0, some 1, none, none, none, none, none, none, none, none, none] where
  bind := fun pm cd doc => lenS fun a0 => lenS fun a1 => lenZ rfl
  ndp := by decide +kernel
  kindP := by decide +kernel
  pidx := by decide +kernel
  nd := by decide +kernel
  pl := by decide +kernel
  nofree := by decide +kernel
  kind := rfl
  co := rfl
  gen := rfl
theorem m__law_rows : r__law_rows ∈ recsOf prog := List.mem_of_getElem? (i := 15) (by kernel_rfl)
theorem fn__law_rows {g : GG} (C : Ctx g) : FnIs g (Str.ofString "_law_rows") 2 f__law_rows := Ctx.fnIs (d := r__law_rows) (ps := [Str.ofString "many", Str.ofString "lines"]) (pidx := [some 0, some 1, none, none, none, none, none, none, none, none, none]) (mb := d__law_rows) (k := 1) (ns := N__law_rows) (f := f__law_rows) C m__law_rows o__law_rows (@s__law_rows g C) rfl

noncomputable def N_law : List (Str × NameKind) := [(Str.ofString "script", .local), (Str.ofString "pool", .local), (Str.ofString "many", .local), (Str.ofString "lines", .local), (Str.ofString "one", .local), (Str.ofString "other", .local), (Str.ofString "level", .local), (Str.ofString "told", .local), (Str.ofString "third", .local), (Str.ofString "due", .local), (Str.ofString "chosen", .local), (Str.ofString "node", .local), (Str.ofString "fewer", .cell), (Str.ofString "rows", .local), (Str.ofString "tree", .cell), (Str.ofString "wanted", .local), (Str.ofString "_law_draw", .globalImplicit), (Str.ofString "range", .globalImplicit), (Str.ofString "dict", .globalImplicit), (Str.ofString "_law_costs", .globalImplicit), (Str.ofString "max", .globalImplicit), (Str.ofString "_law_joined", .globalImplicit), (Str.ofString "_law_rows", .globalImplicit), (Str.ofString "spf_tree", .globalImplicit), (Str.ofString "_law_links", .globalImplicit)]
noncomputable def r_law : DefRec := recAt 22
noncomputable def d_law : SDen := (D.cons (D.assign (T.var 1) (E.list (L.cons (E.comp (It.val (E.slTo (E.var 0) (E.const (.int 11)))) [none, none, none] (.list []) (T.var 1) C.true (B.app (E.call intF (L.cons (E.var 1) L.nil)))) (L.cons (E.const (.int 0)) L.nil)))) (D.cons (D.swap [3, 2] (E.tup (L.cons (E.bin addS (E.const (.int 3)) (E.call f__law_draw (L.cons (E.var 1) (L.cons (E.const (.int 3)) L.nil)))) (L.cons (E.list L.nil) L.nil)))) (D.cons (D.for (It.val (E.call rangeF (L.cons (E.const (.int 1)) (L.cons (E.bin addS (E.var 2) (E.const (.int 1))) L.nil)))) (T.var 4) (D.cons (D.for (It.val (E.call rangeF (L.cons (E.bin addS (E.var 4) (E.const (.int 1))) (L.cons (E.bin addS (E.var 2) (E.const (.int 1))) L.nil)))) (T.var 5) (D.cons (D.assign (T.var 6) (E.call f__law_draw (L.cons (E.var 1) (L.cons (E.const (.int 4)) L.nil)))) (D.cons (D.ite (C.cmp ltS (E.var 6) (E.const (.int 3))) (D.cons (D.expr (E.meth .list appendM (E.var 3) (L.cons (E.tup (L.cons (E.var 4) (L.cons (E.var 5) (L.cons (E.var 6) L.nil)))) L.nil))) D.nil) D.nil) D.nil))) D.nil)) (D.cons (D.assign (T.var 7) (E.call dictF (L.cons (E.comp (It.items (E.call f__law_costs (L.cons (E.var 2) (L.cons (E.var 3) L.nil)))) [none, none, none, none] (.list []) (T.tup 2 (Ts.cons (T.var 1) (Ts.cons (T.var 2) Ts.nil))) C.true (B.app (E.tup (L.cons (E.var 1) (L.cons (E.call f__law_level (L.cons (E.var 2) L.nil)) L.nil))))) L.nil))) (D.cons (D.for (It.val (E.var 7)) (T.tup 2 (Ts.cons (T.var 4) (Ts.cons (T.var 5) Ts.nil))) (D.cons (D.for (It.val (E.call rangeF (L.cons (E.const (.int 1)) (L.cons (E.bin addS (E.var 2) (E.const (.int 1))) L.nil)))) (T.var 8) (D.cons (D.ite (C.and (C.cmp inS (E.tup (L.cons (E.var 5) (L.cons (E.var 8) L.nil))) (E.var 7)) (C.cmp gtS (E.sub (E.var 7) (E.tup (L.cons (E.var 4) (L.cons (E.var 8) L.nil)))) (E.call maxF (L.cons (E.sub (E.var 7) (E.tup (L.cons (E.var 4) (L.cons (E.var 5) L.nil)))) (L.cons (E.sub (E.var 7) (E.tup (L.cons (E.var 5) (L.cons (E.var 8) L.nil)))) L.nil))))) (D.cons (D.ret (E.const (.bool false))) D.nil) D.nil) D.nil)) D.nil)) (D.cons (D.assign (T.tup 2 (Ts.cons (T.var 9) (Ts.cons (T.var 10) Ts.nil))) (E.call f__law_joined (L.cons (E.var 2) (L.cons (E.var 3) L.nil)))) (D.cons (D.for (It.val (E.call rangeF (L.cons (E.const (.int 1)) (L.cons (E.bin addS (E.var 2) (E.const (.int 1))) L.nil)))) (T.var 11) (D.cons (D.assign (T.sub (E.var 9) (E.tup (L.cons (E.var 11) (L.cons (E.var 11) L.nil)))) (E.neg (E.const (.int 1)))) D.nil)) (D.cons (D.assign (T.var 12) (E.call f__law_costs (L.cons (E.var 2) (L.cons (E.var 10) L.nil)))) (D.cons (D.ite (C.or (C.cmp neS (E.var 7) (E.var 9)) (C.cmp neS (E.call dictF (L.cons (E.comp (It.val (E.var 12)) [none, none, none, some 12] (.list []) (T.var 1) C.true (B.app (E.tup (L.cons (E.var 1) (L.cons (E.call f__law_level (L.cons (E.sub (E.var 3) (E.var 1)) L.nil)) L.nil))))) L.nil)) (E.var 9))) (D.cons (D.ret (E.const (.bool false))) D.nil) D.nil) (D.cons (D.assign (T.tup 2 (Ts.cons (T.var 13) (Ts.cons (T.var 14) Ts.nil))) (E.tup (L.cons (E.call f__law_rows (L.cons (E.var 2) (L.cons (E.var 3) L.nil))) (L.cons (E.call f_spf_tree (L.cons (E.call f__law_links (L.cons (E.var 2) (L.cons (E.var 3) L.nil))) (L.cons (E.tup (L.cons (E.const (.int 1)) (L.cons (E.const (.int 1)) L.nil))) (L.cons E.dict0 L.nil)))) L.nil)))) (D.cons (D.assign (T.var 15) (E.call dictF (L.cons (E.comp (It.items (E.var 13)) [none, none, none] (.list []) (T.tup 2 (Ts.cons (T.var 1) (Ts.cons (T.var 2) Ts.nil))) C.true (B.app (E.tup (L.cons (E.var 1) (L.cons (E.bin addS (E.bin addS (E.bin (intOp mulI) (E.const (.int 25)) (E.sub (E.var 2) (E.const (.int 0)))) (E.bin (intOp mulI) (E.const (.int 5)) (E.sub (E.var 2) (E.const (.int 1))))) (E.sub (E.var 2) (E.const (.int 2)))) L.nil))))) L.nil))) (D.cons (D.ret (E.cmp eqS (E.call dictF (L.cons (E.comp (It.val (E.var 14)) [none, none, some 14] (.list []) (T.var 1) C.true (B.app (E.tup (L.cons (E.sub (E.var 1) (E.const (.int 1))) (L.cons (E.sub (E.sub (E.var 2) (E.var 1)) (E.const (.int 0))) L.nil))))) L.nil)) (E.var 15))) D.nil))))))))))))
noncomputable def f_law : FDen := F.den 1 [some 0, none, none, none, none, none, none, none, none, none, none, none, none, none, none, none, none, none, none, none, none, none, none, none, none] d_law
theorem s_law {g : GG} (C : Ctx g) : SS g N_law 5 r_law.body d_law :=
  (by refine SS.cons ?_ ?_; exact (by refine S1.assign ?_ ?_; exact (TE.var (i := 1) rfl (.inl rfl)); exact (by refine SE.list ?_; exact (by refine SL.cons ?_ ?_; exact (by refine SE.listComp (tt := false) (show ScOk _ _ ([(Str.ofString ".0", .local), (Str.ofString "cell", .local), (Str.ofString "int", .globalImplicit)]) [none, none, none] from ⟨rfl, by kernel_rfl, by decide +kernel, by decide +kernel, by decide +kernel, by decide +kernel, by decide +kernel⟩) ?_ ?_ ?_ ?_; exact (by refine ItE.val ?_; exact (by refine SE.slTo ?_ ?_; exact (by exact (SE.var (i := 0) rfl (.inl rfl))); exact SE.cInt)); exact (TE.loc (i := 1) rfl); exact CI.nil; exact (by refine SE.tcall (i := 2) rfl C.b_int CallS.int ?_ (by decide); exact (by refine SL.cons ?_ ?_; exact (by exact (SE.var (i := 1) rfl (.inl rfl))); exact SL.nil))); exact (by refine SL.cons ?_ ?_; exact SE.cInt; exact SL.nil)))); exact (by refine SS.cons ?_ ?_; exact (by refine S1.swap (xs := [Str.ofString "many", Str.ofString "lines"]) (is := [3, 2]) ?_ (by kernel_rfl) rfl (by intro j i x h1 h2; rcases j with _ | j; (cases h1; cases h2; rfl); rcases j with _ | j; (cases h1; cases h2; rfl); cases h1); exact (by refine SE.tup ?_; exact (by refine SL.cons ?_ ?_; exact (by refine SE.bin ?_ ?_ ?_; exact SE.cInt; exact (by refine SE.call (i := 16) rfl (fn__law_draw C) ?_ (by decide); exact (by refine SL.cons ?_ ?_; exact (by exact (SE.var (i := 1) rfl (.inl rfl))); exact (by refine SL.cons ?_ ?_; exact SE.cInt; exact SL.nil))); exact BinS.add); exact (by refine SL.cons ?_ ?_; exact (by refine SE.list ?_; exact SL.nil); exact SL.nil)))); exact (by refine SS.cons ?_ ?_; exact (by refine S1.for (tt := false) ?_ ?_ ?_; exact (by refine ItE.val ?_; exact (by refine SE.tcall (i := 17) rfl C.b_range CallS.range ?_ (by decide); exact (by refine SL.cons ?_ ?_; exact SE.cInt; exact (by refine SL.cons ?_ ?_; exact (by refine SE.bin ?_ ?_ ?_; exact (by exact (SE.var (i := 2) rfl (.inl rfl))); exact SE.cInt; exact BinS.add); exact SL.nil)))); exact (TE.var (i := 4) rfl (.inl rfl)); exact (by refine SS.cons ?_ ?_; exact (by refine S1.for (tt := false) ?_ ?_ ?_; exact (by refine ItE.val ?_; exact (by refine SE.tcall (i := 17) rfl C.b_range CallS.range ?_ (by decide); exact (by refine SL.cons ?_ ?_; exact (by refine SE.bin ?_ ?_ ?_; exact (by exact (SE.var (i := 4) rfl (.inl rfl))); exact SE.cInt; exact BinS.add); exact (by refine SL.cons ?_ ?_; exact (by refine SE.bin ?_ ?_ ?_; exact (by exact (SE.var (i := 2) rfl (.inl rfl))); exact SE.cInt; exact BinS.add); exact SL.nil)))); exact (TE.var (i := 5) rfl (.inl rfl)); exact (by refine SS.cons ?_ ?_; exact (by refine S1.assign ?_ ?_; exact (TE.var (i := 6) rfl (.inl rfl)); exact (by refine SE.call (i := 16) rfl (fn__law_draw C) ?_ (by decide); exact (by refine SL.cons ?_ ?_; exact (by exact (SE.var (i := 1) rfl (.inl rfl))); exact (by refine SL.cons ?_ ?_; exact SE.cInt; exact SL.nil)))); exact (by refine SS.cons ?_ ?_; exact (by refine S1.ite ?_ ?_ ?_; exact (by refine CE.cmp ?_ ?_ ?_; exact (by exact (SE.var (i := 6) rfl (.inl rfl))); exact SE.cInt; exact CmpS.lt); exact (by refine SS.cons ?_ ?_; exact (by refine S1.expr ?_; exact (by refine SE.meth (T := .list) F.plainAttrs_list F.slot_list_append (by rfl) MethS.append ?_ ?_; exact (by exact (SE.var (i := 3) rfl (.inl rfl))); exact (by refine SL.cons ?_ ?_; exact (by refine SE.tup ?_; exact (by refine SL.cons ?_ ?_; exact (by exact (SE.var (i := 4) rfl (.inl rfl))); exact (by refine SL.cons ?_ ?_; exact (by exact (SE.var (i := 5) rfl (.inl rfl))); exact (by refine SL.cons ?_ ?_; exact (by exact (SE.var (i := 6) rfl (.inl rfl))); exact SL.nil)))); exact SL.nil))); exact SS.nil); exact SS.nil); exact SS.nil))); exact SS.nil)); exact (by refine SS.cons ?_ ?_; exact (by refine S1.assign ?_ ?_; exact (TE.var (i := 7) rfl (.inl rfl)); exact (by refine SE.tcall (i := 18) rfl C.b_dict CallS.dict ?_ (by decide); exact (by refine SL.cons ?_ ?_; exact (by refine SE.listComp (tt := true) (show ScOk _ _ ([(Str.ofString ".0", .local), (Str.ofString "pair", .local), (Str.ofString "cost", .local), (Str.ofString "_law_level", .globalImplicit)]) [none, none, none, none] from ⟨rfl, by kernel_rfl, by decide +kernel, by decide +kernel, by decide +kernel, by decide +kernel, by decide +kernel⟩) ?_ ?_ ?_ ?_; exact (by refine ItE.items ?_; exact (by refine SE.call (i := 19) rfl (fn__law_costs C) ?_ (by decide); exact (by refine SL.cons ?_ ?_; exact (by exact (SE.var (i := 2) rfl (.inl rfl))); exact (by refine SL.cons ?_ ?_; exact (by exact (SE.var (i := 3) rfl (.inl rfl))); exact SL.nil)))); exact (by refine TE.tup ?_; exact (by refine TsE.cons ?_ ?_; exact (TE.loc (i := 1) rfl); exact (by refine TsE.cons ?_ ?_; exact (TE.loc (i := 2) rfl); exact TsE.nil))); exact CI.nil; exact (by refine SE.tup ?_; exact (by refine SL.cons ?_ ?_; exact (by exact (SE.var (i := 1) rfl (.inl rfl))); exact (by refine SL.cons ?_ ?_; exact (by refine SE.call (i := 3) rfl (fn__law_level C) ?_ (by decide); exact (by refine SL.cons ?_ ?_; exact (by exact (SE.var (i := 2) rfl (.inl rfl))); exact SL.nil)); exact SL.nil)))); exact SL.nil))); exact (by refine SS.cons ?_ ?_; exact (by refine S1.for (tt := false) ?_ ?_ ?_; exact (by refine ItE.val ?_; exact (by exact (SE.var (i := 7) rfl (.inl rfl)))); exact (by refine TE.tup ?_; exact (by refine TsE.cons ?_ ?_; exact (TE.var (i := 4) rfl (.inl rfl)); exact (by refine TsE.cons ?_ ?_; exact (TE.var (i := 5) rfl (.inl rfl)); exact TsE.nil))); exact (by refine SS.cons ?_ ?_; exact (by refine S1.for (tt := false) ?_ ?_ ?_; exact (by refine ItE.val ?_; exact (by refine SE.tcall (i := 17) rfl C.b_range CallS.range ?_ (by decide); exact (by refine SL.cons ?_ ?_; exact SE.cInt; exact (by refine SL.cons ?_ ?_; exact (by refine SE.bin ?_ ?_ ?_; exact (by exact (SE.var (i := 2) rfl (.inl rfl))); exact SE.cInt; exact BinS.add); exact SL.nil)))); exact (TE.var (i := 8) rfl (.inl rfl)); exact (by refine SS.cons ?_ ?_; exact (by refine S1.ite ?_ ?_ ?_; exact (by refine CE.and ?_ ?_; exact (by refine CE.cmp ?_ ?_ ?_; exact (by refine SE.tup ?_; exact (by refine SL.cons ?_ ?_; exact (by exact (SE.var (i := 5) rfl (.inl rfl))); exact (by refine SL.cons ?_ ?_; exact (by exact (SE.var (i := 8) rfl (.inl rfl))); exact SL.nil))); exact (by exact (SE.var (i := 7) rfl (.inl rfl))); exact CmpS.in); exact (by refine CE.cmp ?_ ?_ ?_; exact (by refine SE.sub ?_ ?_; exact (by exact (SE.var (i := 7) rfl (.inl rfl))); exact (by refine SE.tup ?_; exact (by refine SL.cons ?_ ?_; exact (by exact (SE.var (i := 4) rfl (.inl rfl))); exact (by refine SL.cons ?_ ?_; exact (by exact (SE.var (i := 8) rfl (.inl rfl))); exact SL.nil)))); exact (by refine SE.bcall (i := 20) rfl C.b_max CallS.max2 ?_ (by decide); exact (by refine SL.cons ?_ ?_; exact (by refine SE.sub ?_ ?_; exact (by exact (SE.var (i := 7) rfl (.inl rfl))); exact (by refine SE.tup ?_; exact (by refine SL.cons ?_ ?_; exact (by exact (SE.var (i := 4) rfl (.inl rfl))); exact (by refine SL.cons ?_ ?_; exact (by exact (SE.var (i := 5) rfl (.inl rfl))); exact SL.nil)))); exact (by refine SL.cons ?_ ?_; exact (by refine SE.sub ?_ ?_; exact (by exact (SE.var (i := 7) rfl (.inl rfl))); exact (by refine SE.tup ?_; exact (by refine SL.cons ?_ ?_; exact (by exact (SE.var (i := 5) rfl (.inl rfl))); exact (by refine SL.cons ?_ ?_; exact (by exact (SE.var (i := 8) rfl (.inl rfl))); exact SL.nil)))); exact SL.nil))); exact CmpS.gt)); exact (by refine SS.cons ?_ ?_; exact (by refine S1.ret ?_; exact SE.cBool); exact SS.nil); exact SS.nil); exact SS.nil)); exact SS.nil)); exact (by refine SS.cons ?_ ?_; exact (by refine S1.assign ?_ ?_; exact (by refine TE.tup ?_; exact (by refine TsE.cons ?_ ?_; exact (TE.var (i := 9) rfl (.inl rfl)); exact (by refine TsE.cons ?_ ?_; exact (TE.var (i := 10) rfl (.inl rfl)); exact TsE.nil))); exact (by refine SE.call (i := 21) rfl (fn__law_joined C) ?_ (by decide); exact (by refine SL.cons ?_ ?_; exact (by exact (SE.var (i := 2) rfl (.inl rfl))); exact (by refine SL.cons ?_ ?_; exact (by exact (SE.var (i := 3) rfl (.inl rfl))); exact SL.nil)))); exact (by refine SS.cons ?_ ?_; exact (by refine S1.for (tt := false) ?_ ?_ ?_; exact (by refine ItE.val ?_; exact (by refine SE.tcall (i := 17) rfl C.b_range CallS.range ?_ (by decide); exact (by refine SL.cons ?_ ?_; exact SE.cInt; exact (by refine SL.cons ?_ ?_; exact (by refine SE.bin ?_ ?_ ?_; exact (by exact (SE.var (i := 2) rfl (.inl rfl))); exact SE.cInt; exact BinS.add); exact SL.nil)))); exact (TE.var (i := 11) rfl (.inl rfl)); exact (by refine SS.cons ?_ ?_; exact (by refine S1.assign ?_ ?_; exact (by refine TE.sub ?_ ?_; exact (by exact (SE.var (i := 9) rfl (.inl rfl))); exact (by refine SE.tup ?_; exact (by refine SL.cons ?_ ?_; exact (by exact (SE.var (i := 11) rfl (.inl rfl))); exact (by refine SL.cons ?_ ?_; exact (by exact (SE.var (i := 11) rfl (.inl rfl))); exact SL.nil)))); exact (by refine SE.neg ?_; exact SE.cInt)); exact SS.nil)); exact (by refine SS.cons ?_ ?_; exact (by refine S1.assign ?_ ?_; exact (TE.var (i := 12) rfl (.inr rfl)); exact (by refine SE.call (i := 19) rfl (fn__law_costs C) ?_ (by decide); exact (by refine SL.cons ?_ ?_; exact (by exact (SE.var (i := 2) rfl (.inl rfl))); exact (by refine SL.cons ?_ ?_; exact (by exact (SE.var (i := 10) rfl (.inl rfl))); exact SL.nil)))); exact (by refine SS.cons ?_ ?_; exact (by refine S1.ite ?_ ?_ ?_; exact (by refine CE.or ?_ ?_; exact (by refine CE.cmp ?_ ?_ ?_; exact (by exact (SE.var (i := 7) rfl (.inl rfl))); exact (by exact (SE.var (i := 9) rfl (.inl rfl))); exact CmpS.ne); exact (by refine CE.cmp ?_ ?_ ?_; exact (by refine SE.tcall (i := 18) rfl C.b_dict CallS.dict ?_ (by decide); exact (by refine SL.cons ?_ ?_; exact (by refine SE.listComp (tt := false) (show ScOk _ _ ([(Str.ofString ".0", .local), (Str.ofString "pair", .local), (Str.ofString "_law_level", .globalImplicit), (Str.ofString "fewer", .cell)]) [none, none, none, some 12] from ⟨rfl, by kernel_rfl, by decide +kernel, by decide +kernel, by decide +kernel, by decide +kernel, by decide +kernel⟩) ?_ ?_ ?_ ?_; exact (by refine ItE.val ?_; exact (by exact (SE.var (i := 12) rfl (.inr (.inl rfl))))); exact (TE.loc (i := 1) rfl); exact CI.nil; exact (by refine SE.tup ?_; exact (by refine SL.cons ?_ ?_; exact (by exact (SE.var (i := 1) rfl (.inl rfl))); exact (by refine SL.cons ?_ ?_; exact (by refine SE.call (i := 2) rfl (fn__law_level C) ?_ (by decide); exact (by refine SL.cons ?_ ?_; exact (by refine SE.sub ?_ ?_; exact (by exact (SE.var (i := 3) rfl (.inr (.inl rfl)))); exact (by exact (SE.var (i := 1) rfl (.inl rfl)))); exact SL.nil)); exact SL.nil)))); exact SL.nil)); exact (by exact (SE.var (i := 9) rfl (.inl rfl))); exact CmpS.ne)); exact (by refine SS.cons ?_ ?_; exact (by refine S1.ret ?_; exact SE.cBool); exact SS.nil); exact SS.nil); exact (by refine SS.cons ?_ ?_; exact (by refine S1.assign ?_ ?_ (hw := by kernel_rfl); exact (by refine TE.tup ?_; exact (by refine TsE.cons ?_ ?_; exact (TE.var (i := 13) rfl (.inl rfl)); exact (by refine TsE.cons ?_ ?_; exact (TE.var (i := 14) rfl (.inr rfl)); exact TsE.nil))); exact (by refine SE.tup ?_; exact (by refine SL.cons ?_ ?_; exact (by refine SE.call (i := 22) rfl (fn__law_rows C) ?_ (by decide); exact (by refine SL.cons ?_ ?_; exact (by exact (SE.var (i := 2) rfl (.inl rfl))); exact (by refine SL.cons ?_ ?_; exact (by exact (SE.var (i := 3) rfl (.inl rfl))); exact SL.nil))); exact (by refine SL.cons ?_ ?_; exact (by refine SE.call (i := 23) rfl (fn_spf_tree C) ?_ (by decide); exact (by refine SL.cons ?_ ?_; exact (by refine SE.call (i := 24) rfl (fn__law_links C) ?_ (by decide); exact (by refine SL.cons ?_ ?_; exact (by exact (SE.var (i := 2) rfl (.inl rfl))); exact (by refine SL.cons ?_ ?_; exact (by exact (SE.var (i := 3) rfl (.inl rfl))); exact SL.nil))); exact (by refine SL.cons ?_ ?_; exact (by refine SE.tup ?_; exact (by refine SL.cons ?_ ?_; exact SE.cInt; exact (by refine SL.cons ?_ ?_; exact SE.cInt; exact SL.nil))); exact (by refine SL.cons ?_ ?_; exact SE.dict0; exact SL.nil)))); exact SL.nil)))); exact (by refine SS.cons ?_ ?_; exact (by refine S1.assign ?_ ?_; exact (TE.var (i := 15) rfl (.inl rfl)); exact (by refine SE.tcall (i := 18) rfl C.b_dict CallS.dict ?_ (by decide); exact (by refine SL.cons ?_ ?_; exact (by refine SE.listComp (tt := true) (show ScOk _ _ ([(Str.ofString ".0", .local), (Str.ofString "node", .local), (Str.ofString "row", .local)]) [none, none, none] from ⟨rfl, by kernel_rfl, by decide +kernel, by decide +kernel, by decide +kernel, by decide +kernel, by decide +kernel⟩) ?_ ?_ ?_ ?_; exact (by refine ItE.items ?_; exact (by exact (SE.var (i := 13) rfl (.inl rfl)))); exact (by refine TE.tup ?_; exact (by refine TsE.cons ?_ ?_; exact (TE.loc (i := 1) rfl); exact (by refine TsE.cons ?_ ?_; exact (TE.loc (i := 2) rfl); exact TsE.nil))); exact CI.nil; exact (by refine SE.tup ?_; exact (by refine SL.cons ?_ ?_; exact (by exact (SE.var (i := 1) rfl (.inl rfl))); exact (by refine SL.cons ?_ ?_; exact (by refine SE.bin ?_ ?_ ?_; exact (by refine SE.bin ?_ ?_ ?_; exact (by refine SE.bin ?_ ?_ ?_; exact SE.cInt; exact (by refine SE.sub ?_ ?_; exact (by exact (SE.var (i := 2) rfl (.inl rfl))); exact SE.cInt); exact BinS.mul); exact (by refine SE.bin ?_ ?_ ?_; exact SE.cInt; exact (by refine SE.sub ?_ ?_; exact (by exact (SE.var (i := 2) rfl (.inl rfl))); exact SE.cInt); exact BinS.mul); exact BinS.add); exact (by refine SE.sub ?_ ?_; exact (by exact (SE.var (i := 2) rfl (.inl rfl))); exact SE.cInt); exact BinS.add); exact SL.nil)))); exact SL.nil))); exact (by refine SS.cons ?_ ?_; exact (by refine S1.ret ?_; exact (by refine SE.cmp ?_ ?_ ?_; exact (by refine SE.tcall (i := 18) rfl C.b_dict CallS.dict ?_ (by decide); exact (by refine SL.cons ?_ ?_; exact (by refine SE.listComp (tt := false) (show ScOk _ _ ([(Str.ofString ".0", .local), (Str.ofString "spot", .local), (Str.ofString "tree", .cell)]) [none, none, some 14] from ⟨rfl, by kernel_rfl, by decide +kernel, by decide +kernel, by decide +kernel, by decide +kernel, by decide +kernel⟩) ?_ ?_ ?_ ?_; exact (by refine ItE.val ?_; exact (by exact (SE.var (i := 14) rfl (.inr (.inl rfl))))); exact (TE.loc (i := 1) rfl); exact CI.nil; exact (by refine SE.tup ?_; exact (by refine SL.cons ?_ ?_; exact (by refine SE.sub ?_ ?_; exact (by exact (SE.var (i := 1) rfl (.inl rfl))); exact SE.cInt); exact (by refine SL.cons ?_ ?_; exact (by refine SE.sub ?_ ?_; exact (by refine SE.sub ?_ ?_; exact (by exact (SE.var (i := 2) rfl (.inr (.inl rfl)))); exact (by exact (SE.var (i := 1) rfl (.inl rfl)))); exact SE.cInt); exact SL.nil)))); exact SL.nil)); exact (by exact (SE.var (i := 15) rfl (.inl rfl))); exact CmpS.eq)); exact SS.nil))))))))))))
theorem o_law : DefOk r_law.name r_law.params r_law.body r_law.scope [Str.ofString "script"] [some 0, none, none, none, none, none, none, none, none, none, none, none, none, none, none, none, none, none, none, none, none, none, none, none, none] where
  bind := fun pm cd doc => lenS fun a0 => lenZ rfl
  ndp := by decide +kernel
  kindP := by decide +kernel
  pidx := by decide +kernel
  nd := by decide +kernel
  pl := by decide +kernel
  nofree := by decide +kernel
  kind := rfl
  co := rfl
  gen := rfl
theorem m_law : r_law ∈ recsOf prog := List.mem_of_getElem? (i := 16) (by kernel_rfl)
theorem fn_law {g : GG} (C : Ctx g) : FnIs g (Str.ofString "law") 6 f_law := Ctx.fnIs (d := r_law) (ps := [Str.ofString "script"]) (pidx := [some 0, none, none, none, none, none, none, none, none, none, none, none, none, none, none, none, none, none, none, none, none, none, none, none, none]) (mb := d_law) (k := 5) (ns := N_law) (f := f_law) C m_law o_law (@s_law g C) rfl
end Mini
end

section
namespace Mini

noncomputable abbrev Ln := Int × Int × Int
structure GoodL (many : Int) (L : List Ln) : Prop where
  lo : 3 ≤ many
  hi : many ≤ 5
  lines : ∀ l ∈ L, 1 ≤ l.1 ∧ l.1 < l.2.1 ∧ l.2.1 ≤ many ∧ 0 ≤ l.2.2 ∧ l.2.2 ≤ 2
  short : L.length ≤ 30
noncomputable def Ed (L : List Ln) (u v x : Int) : Prop := (u, v, x) ∈ L ∨ (v, u, x) ∈ L
noncomputable def on (x y : Int) : Int := if x = y then 1 else 0
inductive Wk (L : List Ln) (u : Int) : Int → Int → Int → Int → Prop
  | nil : Wk L u u 0 0 0
  | snoc {v w a b c x : Int} : Wk L u v a b c → Ed L v w x → Wk L u w (a + on x 2) (b + on x 1) (c + on x 0)
theorem Wk.eq {L : List Ln} {u v a b c a' b' c' : Int} (h : Wk L u v a b c) (h1 : a' = a) (h2 : b' = b) (h3 : c' = c) : Wk L u v a' b' c' := by subst h1 h2 h3; exact h
theorem Ed.symm {L : List Ln} {u v x : Int} (h : Ed L u v x) : Ed L v u x := Or.symm h
theorem on_lv {x : Int} (h : 0 ≤ x ∧ x ≤ 2) : (on x 2 = 1 ∧ on x 1 = 0 ∧ on x 0 = 0 ∧ x = 2) ∨ (on x 2 = 0 ∧ on x 1 = 1 ∧ on x 0 = 0 ∧ x = 1) ∨ (on x 2 = 0 ∧ on x 1 = 0 ∧ on x 0 = 1 ∧ x = 0) := by
  have : x = 0 ∨ x = 1 ∨ x = 2 := by grind
  rcases this with rfl | rfl | rfl <;> simp [on]
theorem on_lin {x : Int} (h : 0 ≤ x ∧ x ≤ 2) : 0 ≤ on x 2 ∧ 0 ≤ on x 1 ∧ 0 ≤ on x 0 ∧ on x 2 + on x 1 + on x 0 = 1 := by
  have : x = 0 ∨ x = 1 ∨ x = 2 := by omega
  rcases this with rfl | rfl | rfl <;> decide
section
variable {many : Int} {L : List Ln} (G : GoodL many L)
include G
theorem Ed.rng {u v x : Int} (h : Ed L u v x) : (1 ≤ u ∧ u ≤ many) ∧ (1 ≤ v ∧ v ≤ many) ∧ 0 ≤ x ∧ x ≤ 2 ∧ u ≠ v := by
  rcases h with h | h <;> (have := G.lines _ h; simp only at this; grind)
theorem Wk.nonneg {u v a b c : Int} (h : Wk L u v a b c) : 0 ≤ a ∧ 0 ≤ b ∧ 0 ≤ c ∧ (a + b + c = 0 → u = v) := by
  induction h with
  | nil => simp
  | snoc h e ih => have := on_lin ⟨(e.rng G).2.2.1, (e.rng G).2.2.2.1⟩; omega
theorem Wk.rng {u v a b c : Int} (h : Wk L u v a b c) (hu : 1 ≤ u ∧ u ≤ many) : 1 ≤ v ∧ v ≤ many := by
  cases h with
  | nil => exact hu
  | snoc h e => exact (e.rng G).2.1
end
theorem Wk.trans {L : List Ln} {u v w a b c a' b' c' : Int} (h : Wk L u v a b c) (k : Wk L v w a' b' c') : Wk L u w (a + a') (b + b') (c + c') := by
  induction k with
  | nil => exact h.eq (by lia) (by lia) (by lia)
  | snoc k e ih => exact (Wk.snoc ih e).eq (by lia) (by lia) (by lia)
theorem Wk.symm {L : List Ln} {u v a b c : Int} (h : Wk L u v a b c) : Wk L v u a b c := by
  induction h with
  | nil => exact Wk.nil
  | snoc h e ih => exact ((Wk.snoc Wk.nil e.symm).trans ih).eq (by lia) (by lia) (by lia)

inductive SP (L : List Ln) (u : Int) : List Int → Int → Int → Int → Prop
  | nil : SP L u [u] 0 0 0
  | snoc {v w a b c x : Int} {p : List Int} : SP L u (v :: p) a b c → Ed L v w x → w ∉ v :: p → SP L u (w :: v :: p) (a + on x 2) (b + on x 1) (c + on x 0)
theorem SP.wk {L : List Ln} {u a b c : Int} {p : List Int} (h : SP L u p a b c) : ∃ v q, p = v :: q ∧ Wk L u v a b c ∧ p.Nodup ∧ u ∈ p := by
  induction h with
  | nil => exact ⟨u, [], rfl, Wk.nil, by simp, by simp⟩
  | snoc h e hn ih =>
    obtain ⟨v, q, e1, k, nd, hu⟩ := ih
    cases e1
    exact ⟨_, _, rfl, Wk.snoc k e, List.nodup_cons.mpr ⟨hn, nd⟩, List.mem_cons_of_mem _ hu⟩
section
variable {many : Int} {L : List Ln} (G : GoodL many L)
include G
theorem SP.len {u a b c : Int} {p : List Int} (h : SP L u p a b c) (hu : 1 ≤ u ∧ u ≤ many) : (p.length : Int) = a + b + c + 1 ∧ ∀ x ∈ p, 1 ≤ x ∧ x ≤ many := by
  induction h with
  | nil => exact ⟨by simp, by simpa using hu⟩
  | snoc h e hn ih =>
    have h1 := e.rng G
    have h2 := on_lin ⟨h1.2.2.1, h1.2.2.2.1⟩
    refine ⟨by have := ih.1; simp only [List.length_cons] at this ⊢; grind, fun x hx => ?_⟩
    rcases List.mem_cons.mp hx with rfl | hx
    · exact h1.2.1
    · exact ih.2 x hx
theorem SP.cut {u a b c w : Int} {p : List Int} (h : SP L u p a b c) (hw : w ∈ p) : ∃ q a' b' c', SP L u (w :: q) a' b' c' ∧ a' ≤ a ∧ b' ≤ b ∧ c' ≤ c := by
  induction h with
  | nil => rw [List.mem_singleton] at hw; subst hw; exact ⟨[], 0, 0, 0, SP.nil, by lia, by lia, by lia⟩
  | snoc h e hn ih =>
    have h1 := e.rng G
    have h2 := on_lin ⟨h1.2.2.1, h1.2.2.2.1⟩
    rcases List.mem_cons.mp hw with rfl | hw
    · exact ⟨_, _, _, _, SP.snoc h e hn, by lia, by lia, by lia⟩
    · obtain ⟨q, a', b', c', k, k1, k2, k3⟩ := ih hw
      exact ⟨q, a', b', c', k, by lia, by lia, by lia⟩
set_option tactic.hygienic true in
theorem Wk.sp {u v a b c : Int} (h : Wk L u v a b c) : ∃ q a' b' c', SP L u (v :: q) a' b' c' ∧ a' ≤ a ∧ b' ≤ b ∧ c' ≤ c := by
  induction h with
  | nil => exact ⟨[], 0, 0, 0, SP.nil, by lia, by lia, by lia⟩
  | snoc h e ih =>
    rename_i v w a b c x
    obtain ⟨q, a', b', c', k, k1, k2, k3⟩ := ih
    have h1 := e.rng G
    have h2 := on_lin ⟨h1.2.2.1, h1.2.2.2.1⟩
    by_cases hm : w ∈ v :: q
    · obtain ⟨q', a'', b'', c'', k', m1, m2, m3⟩ := k.cut G hm
      exact ⟨q', a'', b'', c'', k', by lia, by lia, by lia⟩
    · exact ⟨_, _, _, _, SP.snoc k e hm, by lia, by lia, by lia⟩
end
theorem nodup_len {α : Type} [DecidableEq α] : ∀ {l m : List α}, l.Nodup → (∀ x ∈ l, x ∈ m) → l.length ≤ m.length
  | [], _, _, _ => Nat.zero_le _
  | a :: l, m, hn, hs => by
    rw [List.nodup_cons] at hn
    have ha : a ∈ m := hs a List.mem_cons_self
    have := nodup_len (l := l) (m := m.erase a) hn.2 (fun x hx => (List.mem_erase_of_ne (by intro e; subst e; exact hn.1 hx)).mpr (hs x (List.mem_cons_of_mem _ hx)))
    rw [List.length_erase_of_mem ha] at this
    have : 0 < m.length := List.length_pos_of_mem ha
    simp only [List.length_cons]; omega
noncomputable def ids (many : Int) : List Int := (List.range many.toNat).map fun i : Nat => (i : Int) + 1
theorem mem_ids {many v : Int} : v ∈ ids many ↔ 1 ≤ v ∧ v ≤ many := by
  unfold ids
  rw [List.mem_map]
  constructor
  · rintro ⟨i, hi, rfl⟩; rw [List.mem_range] at hi; omega
  · intro h; exact ⟨(v - 1).toNat, by rw [List.mem_range]; omega, by omega⟩
theorem ids_len (many : Int) : (ids many).length = many.toNat := by simp [ids]
theorem ids_nodup (many : Int) : (ids many).Nodup := by
  unfold ids
  exact List.Pairwise.map (fun i : Nat => (i : Int) + 1) (fun a b h e => h (by lia)) List.nodup_range
theorem Wk.small {many : Int} {L : List Ln} (G : GoodL many L) {u v a b c : Int} (h : Wk L u v a b c) (hu : 1 ≤ u ∧ u ≤ many) :
    ∃ a' b' c', Wk L u v a' b' c' ∧ a' ≤ a ∧ b' ≤ b ∧ c' ≤ c ∧ 0 ≤ a' ∧ 0 ≤ b' ∧ 0 ≤ c' ∧ a' + b' + c' ≤ many - 1 := by
  obtain ⟨q, a', b', c', k, k1, k2, k3⟩ := h.sp G
  obtain ⟨v', q', e, k4, k5, _⟩ := k.wk
  cases e
  have k6 := k.len G hu
  have k7 := nodup_len k5 (m := ids many) (fun x hx => mem_ids.mpr (k6.2 x hx))
  rw [ids_len] at k7
  have := k4.nonneg G
  have := G.lo
  exact ⟨a', b', c', k4, k1, k2, k3, by grind, by grind, by grind, by grind⟩

noncomputable def Dist (L : List Ln) (r v c : Int) : Prop := (∃ a b k, Wk L r v a b k ∧ c = 25 * a + 5 * b + k) ∧ ∀ a b k, Wk L r v a b k → c ≤ 25 * a + 5 * b + k
theorem Dist.uniq {L : List Ln} {r v c d : Int} (h : Dist L r v c) (k : Dist L r v d) : c = d := by
  obtain ⟨⟨a, b, e, h1, h2⟩, h3⟩ := h
  obtain ⟨⟨a', b', e', k1, k2⟩, k3⟩ := k
  have := h3 _ _ _ k1; have := k3 _ _ _ h1; grind
structure DistMap (L : List Ln) (r : Int) (cs : List (Int × Int)) : Prop where
  nd : (cs.map (·.1)).Nodup
  sound : ∀ v c, (v, c) ∈ cs → Dist L r v c
  full : ∀ v a b k, Wk L r v a b k → ∃ c, (v, c) ∈ cs
noncomputable def cost (x : Int) : Int := 25 * on x 2 + 5 * on x 1 + on x 0
theorem cost_pow {x : Int} (h : 0 ≤ x ∧ x ≤ 2) : (5 : Int) ^ x.toNat = cost x := by
  have : x = 0 ∨ x = 1 ∨ x = 2 := by lia
  rcases this with rfl | rfl | rfl <;> rfl
theorem cost_pos {x : Int} (h : 0 ≤ x ∧ x ≤ 2) : 1 ≤ cost x ∧ cost x ≤ 25 := by
  have : x = 0 ∨ x = 1 ∨ x = 2 := by lia
  rcases this with rfl | rfl | rfl <;> decide
theorem distMap_of {L : List Ln} {r : Int} {cs : List (Int × Int)} (nd : (cs.map (·.1)).Nodup) (h0 : (r, 0) ∈ cs) (h1 : ∀ v c, (v, c) ∈ cs → ∃ a b k, Wk L r v a b k ∧ c = 25 * a + 5 * b + k)
    (h2 : ∀ u c, (u, c) ∈ cs → ∀ v x, Ed L u v x → ∃ d, (v, d) ∈ cs ∧ d ≤ c + cost x) : DistMap L r cs := by
  have key : ∀ v a b k, Wk L r v a b k → ∃ c, (v, c) ∈ cs ∧ c ≤ 25 * a + 5 * b + k := by
    intro v a b k h
    induction h with
    | nil => exact ⟨0, h0, by grind⟩
    | snoc h e ih =>
      obtain ⟨c, k1, k2⟩ := ih
      obtain ⟨d, k3, k4⟩ := h2 _ _ k1 _ _ e
      exact ⟨d, k3, by unfold cost at k4; grind⟩
  have un : ∀ v c d, (v, c) ∈ cs → (v, d) ∈ cs → c = d := by
    intro v c d
    clear h0 h1 h2 key
    induction cs with
    | nil => intro h; cases h
    | cons y ys ih =>
      rw [List.map_cons, List.nodup_cons] at nd
      intro a b
      rcases List.mem_cons.mp a with a1 | a1
      · rcases List.mem_cons.mp b with b1 | b1
        · rw [← a1] at b1; cases b1; rfl
        · rw [← a1] at nd; exact absurd (List.mem_map.mpr ⟨(v, d), b1, rfl⟩ : v ∈ ys.map (·.1)) nd.1
      · rcases List.mem_cons.mp b with b1 | b1
        · rw [← b1] at nd; exact absurd (List.mem_map.mpr ⟨(v, c), a1, rfl⟩ : v ∈ ys.map (·.1)) nd.1
        · exact ih nd.2 a1 b1
  refine ⟨nd, fun v c h => ⟨h1 v c h, fun a b k w => ?_⟩, fun v a b k w => ?_⟩
  · obtain ⟨d, k1, k2⟩ := key _ _ _ _ w
    rw [un _ _ _ h k1]; exact k2
  · obtain ⟨d, k1, _⟩ := key _ _ _ _ w
    exact ⟨d, k1⟩

noncomputable def Conn (L : List Ln) (y u v : Int) : Prop := ∃ a b c, Wk L u v a b c ∧ (y < 2 → a = 0) ∧ (y < 1 → b = 0)
theorem Conn.refl {L : List Ln} {y u : Int} : Conn L y u u := ⟨0, 0, 0, Wk.nil, by simp, by simp⟩
theorem Conn.trans {L : List Ln} {y u v w : Int} (h : Conn L y u v) (k : Conn L y v w) : Conn L y u w := by
  obtain ⟨a, b, c, h1, h2, h3⟩ := h
  obtain ⟨a', b', c', k1, k2, k3⟩ := k
  exact ⟨_, _, _, h1.trans k1, fun h => by have := h2 h; have := k2 h; omega, fun h => by have := h3 h; have := k3 h; omega⟩
theorem Conn.symm {L : List Ln} {y u v : Int} (h : Conn L y u v) : Conn L y v u := by
  obtain ⟨a, b, c, h1, h2, h3⟩ := h
  exact ⟨_, _, _, h1.symm, h2, h3⟩
theorem Conn.mono {L : List Ln} {y z u v : Int} (h : Conn L y u v) (hz : y ≤ z) : Conn L z u v := by
  obtain ⟨a, b, c, h1, h2, h3⟩ := h
  exact ⟨_, _, _, h1, fun h => h2 (by lia), fun h => h3 (by lia)⟩
theorem Conn.edge {L : List Ln} {x u v : Int} (hx : 0 ≤ x) (h : Ed L u v x) : Conn L x u v :=
  ⟨_, _, _, Wk.snoc Wk.nil h, fun h => by simp [on]; lia, fun h => by simp [on]; lia⟩

theorem Conn.fold {many : Int} {L : List Ln} (G : GoodL many L) {y u v : Int} (h : Conn L y u v) (hy : 0 ≤ y) (R : Int → Prop) (h0 : R u) (hs : ∀ a b x, Ed L a b x → x ≤ y → R a → R b) : R v := by
  obtain ⟨a, b, c, h1, h2, h3⟩ := h
  induction h1 with
  | nil => exact h0
  | snoc h e ih =>
    have k1 := e.rng G
    have k2 := on_lv ⟨k1.2.2.1, k1.2.2.2.1⟩
    have k3 := h.nonneg G
    exact hs _ _ _ e (by lia) (ih (fun h => by have := h2 h; lia) (fun h => by have := h3 h; lia))

noncomputable def lev (c : Int) : Int := if 25 ≤ c then 2 else if 5 ≤ c then 1 else if 1 ≤ c then 0 else -1
noncomputable def Lv (L : List Ln) (u v x : Int) : Prop := (u = v ∧ x = -1) ∨ (u ≠ v ∧ 0 ≤ x ∧ x ≤ 2 ∧ Conn L x u v ∧ ∀ y, 0 ≤ y → y < x → ¬ Conn L y u v)
theorem Lv.uniq {L : List Ln} {u v x y : Int} (h : Lv L u v x) (k : Lv L u v y) : x = y := by
  rcases h with ⟨h1, h2⟩ | ⟨h1, h2, h3, h4, h5⟩ <;> rcases k with ⟨k1, k2⟩ | ⟨k1, k2, k3, k4, k5⟩
  · lia
  · exact absurd h1 k1
  · exact absurd k1 h1
  · by_cases a : x < y
    · exact absurd h4 (k5 x h2 a)
    · by_cases b : y < x
      · exact absurd k4 (h5 y k2 b)
      · lia
theorem lev_cases (c : Int) : (lev c = 2 ∧ 25 ≤ c) ∨ (lev c = 1 ∧ 5 ≤ c ∧ c < 25) ∨ (lev c = 0 ∧ 1 ≤ c ∧ c < 5) ∨ (lev c = -1 ∧ c < 1) := by
  unfold lev; split <;> (try split) <;> (try split) <;> lia
section
variable {many : Int} {L : List Ln} (G : GoodL many L)
include G
theorem Dist.conn {u v c y : Int} (h : Dist L u v c) (hu : 1 ≤ u ∧ u ≤ many) (hy : 0 ≤ y ∧ y ≤ 2) : lev c ≤ y ↔ Conn L y u v := by
  obtain ⟨⟨a, b, k, h1, h2⟩, h3⟩ := h
  have h4 := h1.nonneg G
  have hl := lev_cases c
  constructor
  · intro h
    exact ⟨a, b, k, h1, fun h => by lia, fun h => by lia⟩
  · rintro ⟨a', b', k', k1, k2, k3⟩
    obtain ⟨a'', b'', k'', m, m1, m2, m3, m4, m5, m6, m7⟩ := k1.small G hu
    have := h3 _ _ _ m
    have := G.hi
    have : y = 0 ∨ y = 1 ∨ y = 2 := by lia
    rcases this with rfl | rfl | rfl
    · have := k2 (by lia); have := k3 (by lia); lia
    · have := k2 (by lia); lia
    · lia
theorem Dist.lv {u v c : Int} (h : Dist L u v c) (hu : 1 ≤ u ∧ u ≤ many) : Lv L u v (lev c) := by
  have hl := lev_cases c
  by_cases e : u = v
  · left
    refine ⟨e, ?_⟩
    subst e
    have := h.2 _ _ _ Wk.nil
    lia
  · right
    have h0 : 0 ≤ lev c := by
      obtain ⟨⟨a, b, k, h1, h2⟩, h3⟩ := h
      have h4 := h1.nonneg G
      have : a + b + k ≠ 0 := fun x => e (h4.2.2.2 x)
      lia
    refine ⟨e, h0, by lia, (h.conn G hu ⟨h0, by lia⟩).mp (Int.le_refl _), fun y h1 h2 k => ?_⟩
    have := (h.conn G hu ⟨h1, by lia⟩).mpr k
    lia
end
theorem Lv.ultra {L : List Ln} {u v w x y z : Int} (h1 : Lv L u v x) (h2 : Lv L v w y) (h3 : Lv L u w z) : z ≤ max x y := by
  rcases h1 with ⟨rfl, rfl⟩ | ⟨a1, a2, a3, a4, a5⟩
  · have := h2.uniq h3; lia
  · rcases h2 with ⟨rfl, rfl⟩ | ⟨b1, b2, b3, b4, b5⟩
    · have := Lv.uniq (Or.inr ⟨a1, a2, a3, a4, a5⟩) h3; lia
    · rcases h3 with ⟨rfl, rfl⟩ | ⟨c1, c2, c3, c4, c5⟩
      · lia
      · by_cases hz : z ≤ max x y
        · exact hz
        · exact absurd ((a4.mono (z := max x y) (by lia)).trans (b4.mono (by lia))) (c5 (max x y) (by lia) (by lia))
theorem Lv.wk {L : List Ln} {u v x : Int} (h : Lv L u v x) : ∃ a b c, Wk L u v a b c := by
  rcases h with ⟨rfl, rfl⟩ | ⟨a1, a2, a3, ⟨a, b, c, h, _⟩, a5⟩
  · exact ⟨_, _, _, Wk.nil⟩
  · exact ⟨_, _, _, h⟩
end Mini
end

section
namespace Mini
open PySem

inductive Gives {α : Type} (r : Option α) (Q : α → Prop) : Prop
  | mk (a : α) (e : r = Option.some a) (h : Q a) : Gives r Q
theorem Gives.some {α : Type} {a : α} {Q : α → Prop} (h : Q a) : Gives (Option.some a) Q := ⟨a, rfl, h⟩
theorem Gives.mono {α : Type} {r : Option α} {Q R : α → Prop} (h : Gives r Q) (hr : ∀ a, Q a → R a) : Gives r R := let ⟨a, e, q⟩ := h; ⟨a, e, hr a q⟩

section ap
variable (lv : LV) (σ : Store)
theorem xx30 (i : Nat) : E.var i lv σ = (lvGet lv i).map fun v => (v, σ) := rfl
theorem xx20 (v : V) : E.const v lv σ = some (v, σ) := rfl
theorem xx16 (f : V → V → Store → Option (V × Store)) (a b : Den) : E.bin f a b lv σ = match a lv σ with
  | none => none
  | some (x, σ₁) => match b lv σ₁ with
    | none => none
    | some (y, σ₂) => f x y σ₂ := rfl
theorem xx18 (f : V → V → Store → Option Bool) (a b : Den) : E.cmp f a b lv σ = match a lv σ with
  | none => none
  | some (x, σ₁) => match b lv σ₁ with
    | none => none
    | some (y, σ₂) => (f x y σ₂).map fun r => (.bool r, σ₂) := rfl
theorem xx3 (f : V → V → Store → Option Bool) (a b : Den) : C.cmp f a b lv σ = match a lv σ with
  | none => none
  | some (x, σ₁) => match b lv σ₁ with
    | none => none
    | some (y, σ₂) => (f x y σ₂).map fun r => (r, σ₂) := rfl
theorem xx4 (a : CDen) : C.not a lv σ = (a lv σ).map fun p => (!p.1, p.2) := rfl
theorem xx2 (a b : CDen) : C.and a b lv σ = match a lv σ with
  | none => none
  | some (Bool.true, σ₁) => b lv σ₁
  | some (Bool.false, σ₁) => some (Bool.false, σ₁) := rfl
theorem xx5 (a b : CDen) : C.or a b lv σ = match a lv σ with
  | none => none
  | some (Bool.true, σ₁) => some (Bool.true, σ₁)
  | some (Bool.false, σ₁) => b lv σ₁ := rfl
theorem xx6 : C.true lv σ = some (Bool.true, σ) := rfl
theorem xx23 (c : CDen) (a b : Den) : E.ite c a b lv σ = match c lv σ with
  | none => none
  | some (true, σ₁) => a lv σ₁
  | some (false, σ₁) => b lv σ₁ := rfl
theorem xx35 : L.nil lv σ = some ([], σ) := rfl
theorem xx34 (a : Den) (r : LDen) : L.cons a r lv σ = match a lv σ with
  | none => none
  | some (x, σ₁) => match r lv σ₁ with
    | none => none
    | some (xs, σ₂) => some (x :: xs, σ₂) := rfl
theorem xx29 (m : LDen) : E.tup m lv σ = match m lv σ with
  | none => none
  | some (xs, σ₁) => if xs.length ≤ LIM then some (.tup xs, σ₁) else none := rfl
theorem xx24 (m : LDen) : E.list m lv σ = match m lv σ with
  | none => none
  | some (xs, σ₁) => if xs.length ≤ LIM then some (.loc σ₁.length, σ₁ ++ [.list xs]) else none := rfl
theorem xx26 (a : Den) : E.neg a lv σ = match a lv σ with
  | some (.int i, σ₁) => some (.int (-i), σ₁)
  | _ => none := rfl
theorem xx28 (a b : Den) : E.sub a b lv σ = match a lv σ with
  | none => none
  | some (x, σ₁) => match b lv σ₁ with
    | none => none
    | some (y, σ₂) => (subS x y σ₂).map fun r => (r, σ₂) := rfl
theorem xx27 (a b : Den) : E.slTo a b lv σ = match a lv σ with
  | none => none
  | some (x, σ₁) => match b lv σ₁ with
    | some (.int c, σ₂) => if 0 ≤ c then Mini.slTo x c σ₂ else none
    | _ => none := rfl
theorem xx17 (d : FDen) (m : LDen) : E.call d m lv σ = match m lv σ with
  | none => none
  | some (vs, σ₁) => d vs σ₁ := rfl
theorem xx25 (T : KindOf) (d : MDen) (a : Den) (m : LDen) : E.meth T d a m lv σ = match a lv σ with
  | some (.loc l, σ₁) => if T.is σ₁[l]? then (match m lv σ₁ with
      | some (vs, σ₂) => d l vs σ₂
      | none => none) else none
  | _ => none := rfl
theorem xx21 : E.dict0 lv σ = some (.loc σ.length, σ ++ [.dict []]) := rfl
theorem xx22 (mk mv : Den) : E.dict1 mk mv lv σ = match mk lv (σ ++ [.dict []]) with
  | some (kv, σ₁) => match mv lv σ₁ with
    | some (vv, σ₂) => match σ₂[σ.length]? with
      | some (.dict es) => if V.key 6 kv = true ∧ es.length < LIM then some (.loc σ.length, σ₂.set σ.length (.dict (dSet es kv vv))) else none
      | _ => none
    | none => none
  | none => none := rfl
theorem xx19 (mi : ItDen) (cap : List (Option Nat)) (o : MObj) (mt : TDen) (mc : CDen) (mb : BDen) : E.comp mi cap o mt mc mb lv σ = match mi lv σ with
  | some ((src, vs), σ₁) => match compD mt mc mb src vs σ₁.length (capLV cap lv) (σ₁ ++ [o]) with
    | some (_, σ₂) => some (.loc σ₁.length, σ₂)
    | none => none
  | none => none := rfl
theorem xx33 (m : Den) : It.val m lv σ = match m lv σ with
  | some (v, σ₁) => (walkV v σ₁).map fun p => (p, σ₁)
  | none => none := rfl
theorem xx31 (m : Den) : It.enum m lv σ = match m lv σ with
  | some (v, σ₁) => (walkE v σ₁).map fun p => (p, σ₁)
  | none => none := rfl
theorem xx32 (m : Den) : It.items m lv σ = match m lv σ with
  | some (.loc l, σ₁) => match σ₁[l]? with
    | some (.dict es) => some ((some (l, .dict es), es.map pairV), σ₁)
    | _ => none
  | _ => none := rfl
theorem xx38 (i : Nat) (v : V) : T.var i v lv σ = some (lvSet lv i v, σ) := rfl
theorem xx40 : Ts.nil [] lv σ = some (lv, σ) := rfl
theorem xx39 (t : TDen) (r : TsDen) (v : V) (vs : List V) : Ts.cons t r (v :: vs) lv σ = match t v lv σ with
    | some (lv₁, σ₁) => r vs lv₁ σ₁
    | none => none := rfl
theorem xx37 (n : Nat) (m : TsDen) (vs : List V) : T.tup n m (.tup vs) lv σ = if vs.length = n then m vs lv σ else none := rfl
theorem xx36 (mo mi : Den) (v : V) : T.sub mo mi v lv σ = match mo lv σ with
  | some (.loc l, σ₁) => match mi lv σ₁ with
    | some (kv, σ₂) => (storeItem l kv v σ₂).map fun σ₃ => (lv, σ₃)
    | none => none
  | _ => none := rfl
theorem xx13 : D.nil lv σ = some (.nx, lv, σ) := rfl
theorem xx8 (a b : SDen) : D.cons a b lv σ = D.seq (a lv σ) b := rfl
theorem D.seq_nx (b : SDen) : D.seq (some (.nx, lv, σ)) b = b lv σ := rfl
theorem D.seq_ct (b : SDen) : D.seq (some (.ct, lv, σ)) b = some (.ct, lv, σ) := rfl
theorem D.seq_rt (b : SDen) (v : V) : D.seq (some (.rt v, lv, σ)) b = some (.rt v, lv, σ) := rfl
theorem xx10 (m : Den) : D.expr m lv σ = match m lv σ with
  | some (.none, σ₁) => some (.nx, lv, σ₁)
  | _ => none := rfl
theorem xx14 (m : Den) : D.ret m lv σ = match m lv σ with
  | some (v, σ₁) => some (.rt v, lv, σ₁)
  | none => none := rfl
theorem xx9 : D.cont lv σ = some (.ct, lv, σ) := rfl
theorem xx12 (c : CDen) (a b : SDen) : D.ite c a b lv σ = match c lv σ with
  | some (true, σ₁) => a lv σ₁
  | some (false, σ₁) => b lv σ₁
  | none => none := rfl
theorem xx7 (mt : TDen) (m : Den) : D.assign mt m lv σ = match m lv σ with
  | some (v, σ₁) => (mt v lv σ₁).map fun p => (.nx, p.1, p.2)
  | none => none := rfl
theorem xx15 (is : List Nat) (m : Den) : D.swap is m lv σ = match m lv σ with
  | some (.tup vs, σ₁) => if vs.length = is.length then some (.nx, lvSets is vs.reverse lv, σ₁) else none
  | _ => none := rfl
theorem xx11 (mi : ItDen) (mt : TDen) (mb : SDen) : D.for mi mt mb lv σ = match mi lv σ with
  | some ((src, vs), σ₁) => forD mt mb src vs lv σ₁
  | none => none := rfl
theorem xx0 (m : Den) (l : Nat) : B.app m l lv σ = match m lv σ with
  | some (v, σ₁) => (appendM l [v] σ₁).map fun p => (lv, p.2)
  | none => none := rfl
end ap

noncomputable def Ext (σ σ' : Store) : Prop := ∃ t, σ' = σ ++ t
theorem Ext.rfl {σ : Store} : Ext σ σ := ⟨[], (List.append_nil σ).symm⟩
theorem Ext.trans {a b c : Store} (h : Ext a b) (k : Ext b c) : Ext a c := by
  obtain ⟨t, rfl⟩ := h; obtain ⟨u, rfl⟩ := k; exact ⟨t ++ u, List.append_assoc ..⟩
theorem Ext.app {a b : Store} (h : Ext a b) (t : Store) : Ext a (b ++ t) := h.trans ⟨t, _root_.rfl⟩
theorem Ext.len {a b : Store} (h : Ext a b) : a.length ≤ b.length := by obtain ⟨t, rfl⟩ := h; simp
theorem lt_of_get {σ : Store} {l : Nat} {o : MObj} (h : σ[l]? = some o) : l < σ.length := (List.getElem?_eq_some_iff.mp h).1
theorem Ext.get {a b : Store} (h : Ext a b) {l : Nat} {o : MObj} (g : a[l]? = some o) : b[l]? = some o := by
  obtain ⟨t, rfl⟩ := h
  rw [List.getElem?_append_left (lt_of_get g)]; exact g
theorem Ext.set {a b : Store} (h : Ext a b) {l : Nat} (o : MObj) (hl : a.length ≤ l) : Ext a (b.set l o) := by
  obtain ⟨t, rfl⟩ := h
  exact ⟨t.set (l - a.length) o, by rw [List.set_append_right _ _ hl]⟩
theorem get_set_ne {σ : Store} {l m : Nat} {o : MObj} (h : l ≠ m) : (σ.set l o)[m]? = σ[m]? := List.getElem?_set_ne h
theorem get_set_eq {σ : Store} {l : Nat} {o : MObj} (h : l < σ.length) : (σ.set l o)[l]? = some o := by rw [List.getElem?_set_self h]
theorem get_app {σ t : Store} {l : Nat} {o : MObj} (h : σ[l]? = some o) : (σ ++ t)[l]? = some o := Ext.get ⟨t, _root_.rfl⟩ h
theorem get_end {σ : Store} {o : MObj} : (σ ++ [o])[σ.length]? = some o := by simp
theorem set_end {σ : Store} {o o' : MObj} : (σ ++ [o]).set σ.length o' = σ ++ [o'] := by simp
theorem ne_end {σ : Store} {l : Nat} {o : MObj} (h : σ[l]? = some o) : l ≠ σ.length := Nat.ne_of_lt (lt_of_get h)

theorem forD_inv {α : Type} {mt : TDen} {mb : SDen} {src : Src} (enc : α → V) (I : List α → LV → Store → Prop) (R : V → Store → Prop) (xs : List α) {lv : LV} {σ : Store}
    (hs : ∀ done lv σ, I done lv σ → srcOk src σ = true)
    (hb : ∀ done x rest lv σ, xs = done ++ x :: rest → I done lv σ → ∃ lv₁ σ₁, mt (enc x) lv σ = some (lv₁, σ₁) ∧ Gives (mb lv₁ σ₁) fun p => match p.1 with | .rt w => R w p.2.2 | _ => I (done ++ [x]) p.2.1 p.2.2)
    (h0 : I [] lv σ) : Gives (forD mt mb src (xs.map enc) lv σ) fun p => match p.1 with | .rt w => R w p.2.2 | .nx => I xs p.2.1 p.2.2 | .ct => False := by
  have key : ∀ (rest done : List α) (lv : LV) (σ : Store), xs = done ++ rest → I done lv σ → Gives (forD mt mb src (rest.map enc) lv σ) fun p => match p.1 with | .rt w => R w p.2.2 | .nx => I xs p.2.1 p.2.2 | .ct => False := by
    intro rest
    induction rest with
    | nil =>
      intro done lv σ e hi
      rw [List.append_nil] at e; subst e
      refine ⟨(.nx, lv, σ), ?_, hi⟩
      rw [List.map_nil, forD, hs _ _ _ hi]; rfl
    | cons x rest ih =>
      intro done lv σ e hi
      obtain ⟨lv₁, σ₁, h1, ⟨f, lv₂, σ₂⟩, h2, h3⟩ := hb done x rest lv σ e hi
      rw [List.map_cons, forD, hs _ _ _ hi, h1]
      simp only [if_true, h2]
      cases f with
      | rt w => exact ⟨_, rfl, h3⟩
      | nx => exact ih (done ++ [x]) lv₂ σ₂ (by rw [e, List.append_assoc]; rfl) h3
      | ct => exact ih (done ++ [x]) lv₂ σ₂ (by rw [e, List.append_assoc]; rfl) h3
  exact key xs [] lv σ rfl h0

theorem forD_go {α : Type} {mt : TDen} {mb : SDen} {src : Src} (enc : α → V) (I : List α → LV → Store → Prop) (xs : List α) {vs : List V} {lv : LV} {σ : Store} (hv : vs = xs.map enc)
    (hs : ∀ done lv σ, I done lv σ → srcOk src σ = true)
    (hb : ∀ done x rest lv σ, xs = done ++ x :: rest → I done lv σ → ∃ lv₁ σ₁, mt (enc x) lv σ = some (lv₁, σ₁) ∧ Gives (mb lv₁ σ₁) fun p => match p.1 with | .rt _ => False | _ => I (done ++ [x]) p.2.1 p.2.2)
    (h0 : I [] lv σ) : ∃ lv' σ', forD mt mb src vs lv σ = some (.nx, lv', σ') ∧ I xs lv' σ' := by
  subst hv
  obtain ⟨⟨f, lv', σ'⟩, h1, h2⟩ := forD_inv (src := src) enc I (fun _ _ => False) xs hs hb h0
  cases f with
  | rt w => cases h2
  | nx => exact ⟨_, _, h1, h2⟩
  | ct => cases h2

theorem seq_for {α : Type} {mt : TDen} {mb : SDen} {src : Src} {rest : SDen} {Q : F × LV × Store → Prop} (enc : α → V) (I : List α → LV → Store → Prop) (xs : List α) {vs : List V} {lv : LV} {σ : Store} (hv : vs = xs.map enc)
    (hs : ∀ done lv σ, I done lv σ → srcOk src σ = true)
    (h0 : I [] lv σ)
    (hb : ∀ done x rest lv σ, xs = done ++ x :: rest → I done lv σ → ∃ lv₁ σ₁, mt (enc x) lv σ = some (lv₁, σ₁) ∧ Gives (mb lv₁ σ₁) fun p => match p.1 with | .rt _ => False | _ => I (done ++ [x]) p.2.1 p.2.2)
    (hq : ∀ lv' σ', I xs lv' σ' → Gives (rest lv' σ') Q) : Gives (D.seq (forD mt mb src vs lv σ) rest) Q := by
  obtain ⟨lv', σ', h1, h2⟩ := forD_go (src := src) enc I xs hv hs hb h0
  rw [h1]; exact hq _ _ h2
theorem den_gives {n : Nat} {pidx : List (Option Nat)} {mb : SDen} {vs : List V} {σ : Store} {Q : V × Store → Prop} (hn : vs.length = n)
    (h : Gives (mb (lv0 pidx vs) σ) fun p => match p.1 with | .rt v => Q (v, p.2.2) | _ => False) : Gives (F.den n pidx mb vs σ) Q := by
  obtain ⟨⟨f, lv, σ'⟩, h1, h2⟩ := h
  unfold F.den
  rw [if_pos hn, h1]
  cases f with
  | rt v => exact ⟨_, rfl, h2⟩
  | nx => cases h2
  | ct => cases h2

theorem compD_inv {α : Type} {mt : TDen} {mc : CDen} {mb : BDen} {src : Src} {l : Nat} (enc : α → V) (I : List α → LV → Store → Prop) (xs : List α) {vs : List V} {lv : LV} {σ : Store} (hv : vs = xs.map enc)
    (hs : ∀ done lv σ, I done lv σ → srcOk src σ = true)
    (hb : ∀ done x rest lv σ, xs = done ++ x :: rest → I done lv σ → ∃ lv₁ σ₁ b σ₂, mt (enc x) lv σ = some (lv₁, σ₁) ∧ mc lv₁ σ₁ = some (b, σ₂) ∧
      (b = false → I (done ++ [x]) lv₁ σ₂) ∧ (b = true → ∃ lv₃ σ₃, mb l lv₁ σ₂ = some (lv₃, σ₃) ∧ I (done ++ [x]) lv₃ σ₃))
    (h0 : I [] lv σ) : ∃ lv' σ', compD mt mc mb src vs l lv σ = some (lv', σ') ∧ I xs lv' σ' := by
  subst hv
  have key : ∀ (rest done : List α) (lv : LV) (σ : Store), xs = done ++ rest → I done lv σ → ∃ lv' σ', compD mt mc mb src (rest.map enc) l lv σ = some (lv', σ') ∧ I xs lv' σ' := by
    intro rest
    induction rest with
    | nil =>
      intro done lv σ e hi
      rw [List.append_nil] at e; subst e
      refine ⟨lv, σ, ?_, hi⟩
      rw [List.map_nil, compD, hs _ _ _ hi]; rfl
    | cons x rest ih =>
      intro done lv σ e hi
      obtain ⟨lv₁, σ₁, b, σ₂, h1, h2, h3, h4⟩ := hb done x rest lv σ e hi
      rw [List.map_cons, compD, hs _ _ _ hi, h1]
      simp only [if_true, h2]
      cases b with
      | false => exact ih (done ++ [x]) lv₁ σ₂ (by rw [e, List.append_assoc]; rfl) (h3 rfl)
      | true =>
        obtain ⟨lv₃, σ₃, h5, h6⟩ := h4 rfl
        simp only [h5]
        exact ih (done ++ [x]) lv₃ σ₃ (by rw [e, List.append_assoc]; rfl) h6
  exact key xs [] lv σ rfl h0

theorem compD_pure {α : Type} {mt : TDen} {mc : CDen} {m : Den} {src : Src} (enc : α → V) (P : LV → Prop) (g : α → Option V) (xs : List α) {vs : List V} {lv : LV} {σ : Store} (hv : vs = xs.map enc)
    (hlen : xs.length ≤ 100000)
    (hs : ∀ ws, srcOk src (σ ++ [.list ws]) = true)
    (hb : ∀ x ∈ xs, ∀ lv ws, P lv → ∃ lv₁, mt (enc x) lv (σ ++ [.list ws]) = some (lv₁, σ ++ [.list ws]) ∧ P lv₁ ∧ match g x with
      | none => mc lv₁ (σ ++ [.list ws]) = some (false, σ ++ [.list ws])
      | some v => mc lv₁ (σ ++ [.list ws]) = some (true, σ ++ [.list ws]) ∧ m lv₁ (σ ++ [.list ws]) = some (v, σ ++ [.list ws]))
    (h0 : P lv) : ∃ lv', compD mt mc (B.app m) src vs σ.length lv (σ ++ [.list []]) = some (lv', σ ++ [.list (xs.filterMap g)]) := by
  obtain ⟨lv', σ', h1, _, h2, _⟩ := compD_inv (mt := mt) (mc := mc) (mb := B.app m) (src := src) (l := σ.length) enc (fun done lv σ' => P lv ∧ σ' = σ ++ [.list (done.filterMap g)] ∧ done.length ≤ xs.length) xs (σ := σ ++ [.list []]) (lv := lv) hv
    (by rintro done lv σ' ⟨_, rfl, _⟩; exact hs _)
    (by
      rintro done x rest lv σ' e ⟨hp, rfl, hl⟩
      obtain ⟨lv₁, k1, k2, k3⟩ := hb x (by rw [e]; simp) lv _ hp
      have hl' : (done ++ [x]).length ≤ xs.length := by rw [e]; simp
      have hf : (done.filterMap g).length < LIM := by
        have := List.length_filterMap_le g done
        show _ < 1000000
        omega
      cases hg : g x with
      | none =>
        rw [hg] at k3
        exact ⟨lv₁, _, false, _, k1, k3, fun _ => ⟨k2, by simp [hg], hl'⟩, fun h => Bool.noConfusion h⟩
      | some v =>
        rw [hg] at k3
        refine ⟨lv₁, _, true, _, k1, k3.1, (fun h => Bool.noConfusion h), fun _ => ⟨lv₁, σ ++ [.list ((done ++ [x]).filterMap g)], ?_, k2, rfl, hl'⟩⟩
        rw [xx0, k3.2]
        simp only [appendM, get_end, hf, if_true, set_end, Option.map_some]
        simp [hg])
    ⟨h0, rfl, Nat.zero_le _⟩
  exact ⟨lv', by rw [h1, h2]⟩

theorem lvGet_0 {a : Option V} {l : LV} : lvGet (a :: l) 0 = a := rfl
theorem lvGet_s {a : Option V} {l : LV} {n : Nat} : lvGet (a :: l) (n + 1) = lvGet l n := rfl
theorem lvSet_0 {a : Option V} {l : LV} {v : V} : lvSet (a :: l) 0 v = some v :: l := rfl
theorem lvSet_s {a : Option V} {l : LV} {v : V} {n : Nat} : lvSet (a :: l) (n + 1) v = a :: lvSet l n v := rfl
end Mini
end

section
namespace Mini
open PySem

theorem subS_t0 {a : V} {vs : List V} {σ : Store} : subS (.tup (a :: vs)) (.int 0) σ = some a := rfl
theorem subS_t1 {a b : V} {vs : List V} {σ : Store} : subS (.tup (a :: b :: vs)) (.int 1) σ = some b := rfl
theorem subS_t2 {a b c : V} {vs : List V} {σ : Store} : subS (.tup (a :: b :: c :: vs)) (.int 2) σ = some c := rfl

noncomputable abbrev spot (i : Int) : V := .tup [.int 1, .int i]
theorem beq_int (a b : Int) : V.beq (.int a) (.int b) = decide (a = b) := rfl
theorem beq_spot (a b : Int) : V.beq (spot a) (spot b) = decide (a = b) := by simp [spot, V.beq, V.beqs]
theorem eqS_int (a b : Int) (σ : Store) : eqS (.int a) (.int b) σ = some (decide (a = b)) := by simp [eqS, V.flat, V.beq]
theorem neS_int (a b : Int) (σ : Store) : neS (.int a) (.int b) σ = some (!decide (a = b)) := by rw [neS, eqS_int]; rfl
theorem eqS_spot (a b : Int) (σ : Store) : eqS (spot a) (spot b) σ = some (decide (a = b)) := by simp [eqS, V.flat, V.beq, V.beqs]
theorem ltS_int (a b : Int) (σ : Store) : ltS (.int a) (.int b) σ = some (decide (a < b)) := rfl
theorem rng3 : rngL 0 (3 - 0 : Int).toNat = [.int 0, .int 1, .int 2] := rfl

theorem level_run (c : Int) (σ : Store) : ∃ t, f__law_level [.int c] σ = some (.int (lev c), σ ++ t) := by
  obtain ⟨lv', h⟩ := compD_pure (mt := T.var 1) (mc := C.cmp (intRel fun a b => decide (b ≤ a)) (E.var 2) (E.bin (intOp powI) (E.const (.int 5)) (E.var 1))) (m := E.const (.int 1)) (src := none) V.int
    (fun lv => ∃ a b, lv = [a, b, some (.int c)]) (fun l => if (5 : Int) ^ l.toNat ≤ c then some (.int 1) else none) [0, 1, 2] (vs := [.int 0, .int 1, .int 2]) (σ := σ) (lv := [none, none, some (.int c)]) rfl (by decide) (fun _ => rfl)
    (by
      rintro x hx lv ws ⟨a, b, rfl⟩
      refine ⟨[a, some (.int x), some (.int c)], rfl, ⟨_, _, rfl⟩, ?_⟩
      have hp : powI 5 x = some (5 ^ x.toNat) := by simp at hx; rcases hx with rfl | rfl | rfl <;> rfl
      by_cases hc : (5 : Int) ^ x.toNat ≤ c
      · simp only [hc, if_true]
        simp only [xx8, Mini.D.seq_nx, Mini.D.seq_ct, Mini.D.seq_rt, xx13, xx10, xx14, xx9, xx12, xx7, xx15, xx30, xx20, xx16, xx18, xx3, xx4, xx2, xx5, xx6, xx23, xx35, xx34, xx29, xx24, xx26, xx28, xx27, xx17, xx25, xx21, xx22, xx33, xx31, xx32, xx38, xx40, xx39, xx37, xx36, xx0, lvGet_0, lvGet_s, lvSet_0, lvSet_s, Option.map_some, capLV, List.map_cons, List.map_nil, Option.bind_none, Option.bind_some, Mini.F.den, lv0, List.length_cons, List.length_nil, if_true, reduceIte, Nat.reduceAdd, Nat.reduceLeDiff, Nat.reduceLT, List.getElem?_cons_zero, List.getElem?_cons_succ, Nat.zero_add, Int.reduceLT, Int.reduceLE, and_true, true_and, and_self, intRel, intOp, subS_t0, subS_t1, subS_t2, lenF, subI, get_end, eqS_int, eqS_spot, neS_int, ltS_int, decide_true, decide_false, Bool.not_true, Bool.not_false, KindOf.is, LIM, xx11, walkV, rangeF, Int.reduceEq, hp, hc, decide_true]
      · simp only [hc, if_false]
        simp only [xx8, Mini.D.seq_nx, Mini.D.seq_ct, Mini.D.seq_rt, xx13, xx10, xx14, xx9, xx12, xx7, xx15, xx30, xx20, xx16, xx18, xx3, xx4, xx2, xx5, xx6, xx23, xx35, xx34, xx29, xx24, xx26, xx28, xx27, xx17, xx25, xx21, xx22, xx33, xx31, xx32, xx38, xx40, xx39, xx37, xx36, xx0, lvGet_0, lvGet_s, lvSet_0, lvSet_s, Option.map_some, capLV, List.map_cons, List.map_nil, Option.bind_none, Option.bind_some, Mini.F.den, lv0, List.length_cons, List.length_nil, if_true, reduceIte, Nat.reduceAdd, Nat.reduceLeDiff, Nat.reduceLT, List.getElem?_cons_zero, List.getElem?_cons_succ, Nat.zero_add, Int.reduceLT, Int.reduceLE, and_true, true_and, and_self, intRel, intOp, subS_t0, subS_t1, subS_t2, lenF, subI, get_end, eqS_int, eqS_spot, neS_int, ltS_int, decide_true, decide_false, Bool.not_true, Bool.not_false, KindOf.is, LIM, xx11, walkV, rangeF, Int.reduceEq, hp, hc, decide_false])
    ⟨_, _, rfl⟩
  refine ⟨[.list ([0, 1, 2].filterMap fun l : Int => if (5 : Int) ^ l.toNat ≤ c then some (.int 1) else none)], ?_⟩
  unfold f__law_level d__law_level
  simp only [xx8, Mini.D.seq_nx, Mini.D.seq_ct, Mini.D.seq_rt, xx13, xx10, xx14, xx9, xx12, xx7, xx15, xx30, xx20, xx16, xx18, xx3, xx4, xx2, xx5, xx6, xx23, xx35, xx34, xx29, xx24, xx26, xx28, xx27, xx17, xx25, xx21, xx22, xx33, xx31, xx32, xx38, xx40, xx39, xx37, xx36, xx0, lvGet_0, lvGet_s, lvSet_0, lvSet_s, Option.map_some, capLV, List.map_cons, List.map_nil, Option.bind_none, Option.bind_some, Mini.F.den, lv0, List.length_cons, List.length_nil, if_true, reduceIte, Nat.reduceAdd, Nat.reduceLeDiff, Nat.reduceLT, List.getElem?_cons_zero, List.getElem?_cons_succ, Nat.zero_add, Int.reduceLT, Int.reduceLE, and_true, true_and, and_self, intRel, intOp, subS_t0, subS_t1, subS_t2, lenF, subI, get_end, eqS_int, eqS_spot, neS_int, ltS_int, decide_true, decide_false, Bool.not_true, Bool.not_false, KindOf.is, LIM, xx11, walkV, rangeF, Int.reduceEq, rangeF, walkV, xx19, rng3, h]
  rw [Option.some.injEq, Prod.mk.injEq]
  refine ⟨?_, rfl⟩
  unfold lev
  by_cases h1 : (25 : Int) ≤ c
  · simp [h1, show (5:Int) ≤ c by lia, show (1:Int) ≤ c by lia]
  · by_cases h2 : (5 : Int) ≤ c
    · simp [h1, h2, show (1:Int) ≤ c by lia]
    · by_cases h3 : (1 : Int) ≤ c
      · simp [h1, h2, h3]
      · simp [h1, h2, h3]

noncomputable abbrev eK (k : Int × Int × Int) : V := .tup [spot k.1, .int k.2.1, .int k.2.2]
noncomputable abbrev eH (d : Int) : V := .tup [.int 0, .int d]
theorem srcOk_same {l : Nat} {o : MObj} {σ : Store} (h : σ[l]? = some o) : srcOk (some (l, o)) σ = true := by
  show (match σ[l]? with | some o' => MObj.beq o' o | none => false) = true
  rw [h]; exact (MObj.beq_iff o o).mpr rfl
theorem data_to_run {l : Nat} {i : Int} {ks : List (Int × Int × Int)} {σ : Store} (hl : σ[l]? = some (.list (ks.map eK))) (hn : ks.length ≤ 100000) :
    f_data_to [.loc l, spot i] σ = some (.loc σ.length, σ ++ [.list (ks.filterMap fun k => if k.1 = i then some (.int k.2.2) else none)]) := by
  obtain ⟨lv', h⟩ := compD_pure (mt := (T.tup 3 (Ts.cons (T.var 1) (Ts.cons (T.var 2) (Ts.cons (T.var 3) Ts.nil))))) (mc := (C.cmp eqS (E.var 1) (E.var 4))) (m := E.var 3) (src := some (l, .list (ks.map eK))) eK
    (fun lv => ∃ a b c d, lv = [a, b, c, d, some (spot i)]) (fun k => if k.1 = i then some (.int k.2.2) else none) ks (vs := ks.map eK) (σ := σ) (lv := [none, none, none, none, some (spot i)]) rfl hn (fun _ => srcOk_same (get_app hl))
    (by
      rintro x hx lv ws ⟨a, b, c, d, rfl⟩
      refine ⟨[a, some (spot x.1), some (.int x.2.1), some (.int x.2.2), some (spot i)], rfl, ⟨_, _, _, _, rfl⟩, ?_⟩
      by_cases hc : x.1 = i
      · simp only [hc, if_true]
        simp only [xx8, Mini.D.seq_nx, Mini.D.seq_ct, Mini.D.seq_rt, xx13, xx10, xx14, xx9, xx12, xx7, xx15, xx30, xx20, xx16, xx18, xx3, xx4, xx2, xx5, xx6, xx23, xx35, xx34, xx29, xx24, xx26, xx28, xx27, xx17, xx25, xx21, xx22, xx33, xx31, xx32, xx38, xx40, xx39, xx37, xx36, xx0, lvGet_0, lvGet_s, lvSet_0, lvSet_s, Option.map_some, capLV, List.map_cons, List.map_nil, Option.bind_none, Option.bind_some, Mini.F.den, lv0, List.length_cons, List.length_nil, if_true, reduceIte, Nat.reduceAdd, Nat.reduceLeDiff, Nat.reduceLT, List.getElem?_cons_zero, List.getElem?_cons_succ, Nat.zero_add, Int.reduceLT, Int.reduceLE, and_true, true_and, and_self, intRel, intOp, subS_t0, subS_t1, subS_t2, lenF, subI, get_end, eqS_int, eqS_spot, neS_int, ltS_int, decide_true, decide_false, Bool.not_true, Bool.not_false, KindOf.is, LIM, xx11, walkV, rangeF, Int.reduceEq]
      · simp only [hc, if_false]
        simp only [xx8, Mini.D.seq_nx, Mini.D.seq_ct, Mini.D.seq_rt, xx13, xx10, xx14, xx9, xx12, xx7, xx15, xx30, xx20, xx16, xx18, xx3, xx4, xx2, xx5, xx6, xx23, xx35, xx34, xx29, xx24, xx26, xx28, xx27, xx17, xx25, xx21, xx22, xx33, xx31, xx32, xx38, xx40, xx39, xx37, xx36, xx0, lvGet_0, lvGet_s, lvSet_0, lvSet_s, Option.map_some, capLV, List.map_cons, List.map_nil, Option.bind_none, Option.bind_some, Mini.F.den, lv0, List.length_cons, List.length_nil, if_true, reduceIte, Nat.reduceAdd, Nat.reduceLeDiff, Nat.reduceLT, List.getElem?_cons_zero, List.getElem?_cons_succ, Nat.zero_add, Int.reduceLT, Int.reduceLE, and_true, true_and, and_self, intRel, intOp, subS_t0, subS_t1, subS_t2, lenF, subI, get_end, eqS_int, eqS_spot, neS_int, ltS_int, decide_true, decide_false, Bool.not_true, Bool.not_false, KindOf.is, LIM, xx11, walkV, rangeF, Int.reduceEq, hc])
    ⟨_, _, _, _, rfl⟩
  unfold f_data_to d_data_to
  simp only [xx8, Mini.D.seq_nx, Mini.D.seq_ct, Mini.D.seq_rt, xx13, xx10, xx14, xx9, xx12, xx7, xx15, xx30, xx20, xx16, xx18, xx3, xx4, xx2, xx5, xx6, xx23, xx35, xx34, xx29, xx24, xx26, xx28, xx27, xx17, xx25, xx21, xx22, xx33, xx31, xx32, xx38, xx40, xx39, xx37, xx36, xx0, lvGet_0, lvGet_s, lvSet_0, lvSet_s, Option.map_some, capLV, List.map_cons, List.map_nil, Option.bind_none, Option.bind_some, Mini.F.den, lv0, List.length_cons, List.length_nil, if_true, reduceIte, Nat.reduceAdd, Nat.reduceLeDiff, Nat.reduceLT, List.getElem?_cons_zero, List.getElem?_cons_succ, Nat.zero_add, Int.reduceLT, Int.reduceLE, and_true, true_and, and_self, intRel, intOp, subS_t0, subS_t1, subS_t2, lenF, subI, get_end, eqS_int, eqS_spot, neS_int, ltS_int, decide_true, decide_false, Bool.not_true, Bool.not_false, KindOf.is, LIM, xx11, walkV, rangeF, Int.reduceEq, walkV, xx19, hl, h]

theorem flat_eH (d : Int) : V.flat 6 (eH d) = true := rfl
theorem flats_eH (xs : List Int) : flats (xs.map eH) = true := by
  simp [flats, List.all_map, V.flat]
theorem beq_eH (a b : Int) : V.beq (eH a) (eH b) = decide (a = b) := by simp [V.beq, V.beqs]
theorem any_eH (xs : List Int) (d : Int) : ((xs.map eH).any fun y => V.beq y (eH d)) = decide (d ∈ xs) := by
  rw [List.any_map, Bool.eq_iff_iff]
  simp only [List.any_eq_true, decide_eq_true_eq, Function.comp_apply, beq_eH]
  exact ⟨fun ⟨x, h, e⟩ => e ▸ h, fun h => ⟨d, h, rfl⟩⟩
theorem joined_run {a b : Nat} {xs ys : List Int} {σ : Store} (ha : σ[a]? = some (.list (xs.map eH))) (hb : σ[b]? = some (.list (ys.map eH))) (hn : xs.length ≤ 10000) (hm : ys.length ≤ 10000) :
    f_joined_hops [.loc a, .loc b] σ = some (.loc (σ.length + 1), (σ ++ [.list ((ys.filter fun y => y ∉ xs).map eH)]) ++ [.list ((xs ++ ys.filter fun y => y ∉ xs).map eH)]) := by
  obtain ⟨lv', h⟩ := compD_pure (mt := T.var 1) (mc := (C.cmp notInS (E.var 1) (E.var 2))) (m := E.var 1) (src := some (b, .list (ys.map eH))) eH
    (fun lv => ∃ a' b', lv = [a', b', some (.loc a)]) (fun k => if k ∉ xs then some (eH k) else none) ys (vs := ys.map eH) (σ := σ) (lv := [none, none, some (.loc a)]) rfl (by grind) (fun _ => srcOk_same (get_app hb))
    (by
      rintro x hx lv ws ⟨a', b', rfl⟩
      refine ⟨[a', some (eH x), some (.loc a)], rfl, ⟨_, _, rfl⟩, ?_⟩
      have hi : notInS (eH x) (.loc a) (σ ++ [.list ws]) = some (!decide (x ∈ xs)) := by
        simp only [notInS, inS, get_app ha, flat_eH, flats_eH, any_eH, Bool.and_self, if_true, Option.map_some]
      by_cases hc : x ∈ xs
      · simp only [hc, not_true, if_false]
        simp only [xx8, Mini.D.seq_nx, Mini.D.seq_ct, Mini.D.seq_rt, xx13, xx10, xx14, xx9, xx12, xx7, xx15, xx30, xx20, xx16, xx18, xx3, xx4, xx2, xx5, xx6, xx23, xx35, xx34, xx29, xx24, xx26, xx28, xx27, xx17, xx25, xx21, xx22, xx33, xx31, xx32, xx38, xx40, xx39, xx37, xx36, xx0, lvGet_0, lvGet_s, lvSet_0, lvSet_s, Option.map_some, capLV, List.map_cons, List.map_nil, Option.bind_none, Option.bind_some, Mini.F.den, lv0, List.length_cons, List.length_nil, if_true, reduceIte, Nat.reduceAdd, Nat.reduceLeDiff, Nat.reduceLT, List.getElem?_cons_zero, List.getElem?_cons_succ, Nat.zero_add, Int.reduceLT, Int.reduceLE, and_true, true_and, and_self, intRel, intOp, subS_t0, subS_t1, subS_t2, lenF, subI, get_end, eqS_int, eqS_spot, neS_int, ltS_int, decide_true, decide_false, Bool.not_true, Bool.not_false, KindOf.is, LIM, xx11, walkV, rangeF, Int.reduceEq, hi, hc]
      · simp only [hc, not_false_iff, if_true]
        simp only [xx8, Mini.D.seq_nx, Mini.D.seq_ct, Mini.D.seq_rt, xx13, xx10, xx14, xx9, xx12, xx7, xx15, xx30, xx20, xx16, xx18, xx3, xx4, xx2, xx5, xx6, xx23, xx35, xx34, xx29, xx24, xx26, xx28, xx27, xx17, xx25, xx21, xx22, xx33, xx31, xx32, xx38, xx40, xx39, xx37, xx36, xx0, lvGet_0, lvGet_s, lvSet_0, lvSet_s, Option.map_some, capLV, List.map_cons, List.map_nil, Option.bind_none, Option.bind_some, Mini.F.den, lv0, List.length_cons, List.length_nil, if_true, reduceIte, Nat.reduceAdd, Nat.reduceLeDiff, Nat.reduceLT, List.getElem?_cons_zero, List.getElem?_cons_succ, Nat.zero_add, Int.reduceLT, Int.reduceLE, and_true, true_and, and_self, intRel, intOp, subS_t0, subS_t1, subS_t2, lenF, subI, get_end, eqS_int, eqS_spot, neS_int, ltS_int, decide_true, decide_false, Bool.not_true, Bool.not_false, KindOf.is, LIM, xx11, walkV, rangeF, Int.reduceEq, hi, hc])
    ⟨_, _, rfl⟩
  have e : ys.filterMap (fun k => if k ∉ xs then some (eH k) else none) = (ys.filter fun y => y ∉ xs).map eH := by
    clear h hm hb
    induction ys with
    | nil => rfl
    | cons y ys ih =>
      by_cases hc : y ∈ xs
      · rw [List.filterMap_cons_none (by simp [hc]), List.filter_cons_of_neg (by simp [hc]), ih]
      · rw [List.filterMap_cons_some (b := eH y) (by simp [hc]), List.filter_cons_of_pos (by simp [hc]), ih]; rfl
  rw [e] at h
  have hf := List.length_filter_le (fun y => decide (y ∉ xs)) ys
  unfold f_joined_hops d_joined_hops
  simp only [xx8, Mini.D.seq_nx, Mini.D.seq_ct, Mini.D.seq_rt, xx13, xx10, xx14, xx9, xx12, xx7, xx15, xx30, xx20, xx16, xx18, xx3, xx4, xx2, xx5, xx6, xx23, xx35, xx34, xx29, xx24, xx26, xx28, xx27, xx17, xx25, xx21, xx22, xx33, xx31, xx32, xx38, xx40, xx39, xx37, xx36, xx0, lvGet_0, lvGet_s, lvSet_0, lvSet_s, Option.map_some, capLV, List.map_cons, List.map_nil, Option.bind_none, Option.bind_some, Mini.F.den, lv0, List.length_cons, List.length_nil, if_true, reduceIte, Nat.reduceAdd, Nat.reduceLeDiff, Nat.reduceLT, List.getElem?_cons_zero, List.getElem?_cons_succ, Nat.zero_add, Int.reduceLT, Int.reduceLE, and_true, true_and, and_self, intRel, intOp, subS_t0, subS_t1, subS_t2, lenF, subI, get_end, eqS_int, eqS_spot, neS_int, ltS_int, decide_true, decide_false, Bool.not_true, Bool.not_false, KindOf.is, LIM, xx11, walkV, rangeF, Int.reduceEq, walkV, xx19, hb, h, addS, get_app ha, List.length_map, List.map_append, List.length_append]
  rw [if_pos (by grind)]
  rfl

theorem beyond_run {lk h : V} {at' other : Int} {σ : Store} : f_hops_beyond [lk, h, spot at', spot other] σ = some (h, σ) := by
  unfold f_hops_beyond d_hops_beyond
  simp only [xx8, Mini.D.seq_nx, Mini.D.seq_ct, Mini.D.seq_rt, xx13, xx10, xx14, xx9, xx12, xx7, xx15, xx30, xx20, xx16, xx18, xx3, xx4, xx2, xx5, xx6, xx23, xx35, xx34, xx29, xx24, xx26, xx28, xx27, xx17, xx25, xx21, xx22, xx33, xx31, xx32, xx38, xx40, xx39, xx37, xx36, xx0, lvGet_0, lvGet_s, lvSet_0, lvSet_s, Option.map_some, capLV, List.map_cons, List.map_nil, Option.bind_none, Option.bind_some, Mini.F.den, lv0, List.length_cons, List.length_nil, if_true, reduceIte, Nat.reduceAdd, Nat.reduceLeDiff, Nat.reduceLT, List.getElem?_cons_zero, List.getElem?_cons_succ, Nat.zero_add, Int.reduceLT, Int.reduceLE, and_true, true_and, and_self, intRel, intOp, subS_t0, subS_t1, subS_t2, lenF, subI, get_end, eqS_int, eqS_spot, neS_int, ltS_int, decide_true, decide_false, Bool.not_true, Bool.not_false, KindOf.is, LIM, xx11, walkV, rangeF, Int.reduceEq]

theorem draw_run {p q : Nat} {ns : List Int} {i many : Int} {σ : Store} (hp : σ[p]? = some (.list [.loc q, .int i])) (hq : σ[q]? = some (.list (ns.map .int))) (hi : 0 ≤ i) (hi' : i < 1000) (hm : 0 < many) (hne : p ≠ q) :
    ∃ v, 0 ≤ v ∧ v < many ∧ f__law_draw [.loc p, .int many] σ = some (.int v, σ.set p (.list [.loc q, .int (i + 1)])) := by
  have hp' : (σ.set p (.list [.loc q, .int (i + 1)]))[p]? = some (.list [.loc q, .int (i + 1)]) := get_set_eq (lt_of_get hp)
  have hq' : (σ.set p (.list [.loc q, .int (i + 1)]))[q]? = some (.list (ns.map .int)) := by rw [get_set_ne hne]; exact hq
  have h1 : subS (.loc p) (.int 1) σ = some (.int i) := by simp [subS, hp]
  have h2 : storeItem p (.int 1) (.int (i + 1)) σ = some (σ.set p (.list [.loc q, .int (i + 1)])) := by simp [storeItem, hp]
  have h3 : subS (.loc p) (.int 0) (σ.set p (.list [.loc q, .int (i + 1)])) = some (.loc q) := by simp only [subS, hp']; rfl
  by_cases hc : i < ns.length
  · obtain ⟨x, hx⟩ : ∃ x, ns[i.toNat]? = some x := ⟨_, List.getElem?_eq_getElem (by lia)⟩
    have h4 : subS (.loc q) (.int i) (σ.set p (.list [.loc q, .int (i + 1)])) = some (.int x) := by
      simp only [subS, hq']; rw [if_pos ⟨hi, by lia⟩, List.getElem?_map, hx]; rfl
    refine ⟨(if x < 0 then -x else x) % many, Int.emod_nonneg _ (by lia), Int.emod_lt_of_pos _ hm, ?_⟩
    unfold f__law_draw d__law_draw
    simp only [xx8, Mini.D.seq_nx, Mini.D.seq_ct, Mini.D.seq_rt, xx13, xx10, xx14, xx9, xx12, xx7, xx15, xx30, xx20, xx16, xx18, xx3, xx4, xx2, xx5, xx6, xx23, xx35, xx34, xx29, xx24, xx26, xx28, xx27, xx17, xx25, xx21, xx22, xx33, xx31, xx32, xx38, xx40, xx39, xx37, xx36, xx0, lvGet_0, lvGet_s, lvSet_0, lvSet_s, Option.map_some, capLV, List.map_cons, List.map_nil, Option.bind_none, Option.bind_some, Mini.F.den, lv0, List.length_cons, List.length_nil, if_true, reduceIte, Nat.reduceAdd, Nat.reduceLeDiff, Nat.reduceLT, List.getElem?_cons_zero, List.getElem?_cons_succ, Nat.zero_add, Int.reduceLT, Int.reduceLE, and_true, true_and, and_self, intRel, intOp, subS_t0, subS_t1, subS_t2, lenF, subI, get_end, eqS_int, eqS_spot, neS_int, ltS_int, decide_true, decide_false, Bool.not_true, Bool.not_false, KindOf.is, LIM, xx11, walkV, rangeF, Int.reduceEq, h1, h2, addS, h3, hq', List.length_map, hc, h4, absF, modI, hm]
  · have h5 : ∃ y, subS (.tup [.int 1, .int 2, .int 0, .int 3, .int 1, .int 3, .int 0, .int 1, .int 2, .int 2, .int 0]) (.int (i % 11)) (σ.set p (.list [.loc q, .int (i + 1)])) = some (.int y) := by
      have a1 : 0 ≤ i % 11 := Int.emod_nonneg _ (by decide)
      have a2 : i % 11 < 11 := Int.emod_lt_of_pos _ (by decide)
      have e : [V.int 1, .int 2, .int 0, .int 3, .int 1, .int 3, .int 0, .int 1, .int 2, .int 2, .int 0] = [(1 : Int), 2, 0, 3, 1, 3, 0, 1, 2, 2, 0].map V.int := rfl
      rw [e]
      have hl : (i % 11).toNat < [(1 : Int), 2, 0, 3, 1, 3, 0, 1, 2, 2, 0].length := by show _ < 11; lia
      refine ⟨[(1 : Int), 2, 0, 3, 1, 3, 0, 1, 2, 2, 0][(i % 11).toNat], ?_⟩
      simp only [subS]
      rw [if_pos ⟨a1, by lia⟩, List.getElem?_map, List.getElem?_eq_getElem hl]; rfl
    obtain ⟨y, h5⟩ := h5
    refine ⟨y % many, Int.emod_nonneg _ (by lia), Int.emod_lt_of_pos _ hm, ?_⟩
    unfold f__law_draw d__law_draw
    simp only [xx8, Mini.D.seq_nx, Mini.D.seq_ct, Mini.D.seq_rt, xx13, xx10, xx14, xx9, xx12, xx7, xx15, xx30, xx20, xx16, xx18, xx3, xx4, xx2, xx5, xx6, xx23, xx35, xx34, xx29, xx24, xx26, xx28, xx27, xx17, xx25, xx21, xx22, xx33, xx31, xx32, xx38, xx40, xx39, xx37, xx36, xx0, lvGet_0, lvGet_s, lvSet_0, lvSet_s, Option.map_some, capLV, List.map_cons, List.map_nil, Option.bind_none, Option.bind_some, Mini.F.den, lv0, List.length_cons, List.length_nil, if_true, reduceIte, Nat.reduceAdd, Nat.reduceLeDiff, Nat.reduceLT, List.getElem?_cons_zero, List.getElem?_cons_succ, Nat.zero_add, Int.reduceLT, Int.reduceLE, and_true, true_and, and_self, intRel, intOp, subS_t0, subS_t1, subS_t2, lenF, subI, get_end, eqS_int, eqS_spot, neS_int, ltS_int, decide_true, decide_false, Bool.not_true, Bool.not_false, KindOf.is, LIM, xx11, walkV, rangeF, Int.reduceEq, h1, h2, addS, h3, hq', List.length_map, hc, h5, modI, hm, Int.reduceLT, show (0:Int) < 11 from by decide, Nat.reduceLeDiff]
end Mini
end

section
namespace Mini
open PySem
open PySem.W PyProof.Rows

section ad
variable {κ β : Type} [DecidableEq κ]
noncomputable def aGet : List (κ × β) → κ → Option β
  | [], _ => none
  | (k', v) :: r, k => if k' = k then some v else aGet r k
noncomputable def aSet : List (κ × β) → κ → β → List (κ × β)
  | [], k, v => [(k, v)]
  | (k', v') :: r, k, v => if k' = k then (k', v) :: r else (k', v') :: aSet r k v
theorem aGet_set (xs : List (κ × β)) (k : κ) (b : β) (k' : κ) : aGet (aSet xs k b) k' = if k = k' then some b else aGet xs k' := by
  induction xs with
  | nil => simp [aSet, aGet]
  | cons x xs ih =>
    obtain ⟨k0, v0⟩ := x
    by_cases h : k0 = k
    · subst h; simp only [aSet, aGet, if_true]; split <;> rfl
    · simp only [aSet, aGet, if_neg h, ih]
      by_cases h2 : k0 = k'
      · subst h2; rw [if_pos rfl, if_pos rfl, if_neg (Ne.symm h)]
      · rw [if_neg h2, if_neg h2]
theorem aGet_mem {xs : List (κ × β)} {k : κ} {b : β} (h : aGet xs k = some b) : (k, b) ∈ xs := by
  induction xs with
  | nil => cases h
  | cons x xs ih =>
    obtain ⟨k0, v0⟩ := x
    by_cases h2 : k0 = k
    · subst h2; rw [aGet, if_pos rfl] at h; cases h; exact List.mem_cons_self
    · rw [aGet, if_neg h2] at h; exact List.mem_cons_of_mem _ (ih h)
theorem aGet_of_mem {xs : List (κ × β)} (hn : (xs.map (·.1)).Nodup) {k : κ} {b : β} (h : (k, b) ∈ xs) : aGet xs k = some b := by
  induction xs with
  | nil => cases h
  | cons x xs ih =>
    obtain ⟨k0, v0⟩ := x
    rw [List.map_cons, List.nodup_cons] at hn
    rcases List.mem_cons.mp h with e | h
    · cases e; rw [aGet, if_pos rfl]
    · have : k0 ≠ k := fun e => hn.1 (List.mem_map.mpr ⟨_, h, e.symm⟩)
      rw [aGet, if_neg this]; exact ih hn.2 h
theorem aGet_isSome {xs : List (κ × β)} {k : κ} : (aGet xs k).isSome = true ↔ k ∈ xs.map (·.1) := by
  induction xs with
  | nil => simp [aGet]
  | cons x xs ih =>
    obtain ⟨k0, v0⟩ := x
    by_cases h2 : k0 = k
    · subst h2; simp [aGet]
    · have : k ≠ k0 := Ne.symm h2
      simp only [aGet, if_neg h2, ih, List.map_cons, List.mem_cons, this, false_or]
theorem aGet_none {xs : List (κ × β)} {k : κ} : aGet xs k = none ↔ k ∉ xs.map (·.1) := by
  rw [← aGet_isSome]; cases aGet xs k <;> simp
theorem aSet_keys (xs : List (κ × β)) (k : κ) (b : β) : (aSet xs k b).map (·.1) = if k ∈ xs.map (·.1) then xs.map (·.1) else xs.map (·.1) ++ [k] := by
  induction xs with
  | nil => simp [aSet]
  | cons x xs ih =>
    obtain ⟨k0, v0⟩ := x
    by_cases h : k0 = k
    · subst h; simp [aSet]
    · have : k ≠ k0 := Ne.symm h
      simp only [aSet, if_neg h, List.map_cons, ih, List.mem_cons, this, false_or]
      split <;> simp
set_option tactic.hygienic true in
theorem aSet_nodup {xs : List (κ × β)} (hn : (xs.map (·.1)).Nodup) (k : κ) (b : β) : ((aSet xs k b).map (·.1)).Nodup := by
  rw [aSet_keys]
  split
  · exact hn
  · rename_i h
    rw [List.nodup_append]
    refine ⟨hn, by simp, ?_⟩
    intro a ha c hc e
    rw [List.mem_singleton] at hc
    subst hc; subst e; exact h ha
end ad

noncomputable def eD {κ β : Type} (kf : κ → V) (vf : β → V) (p : κ × β) : V × V := (kf p.1, vf p.2)
theorem dGet_map {κ β : Type} [DecidableEq κ] {kf : κ → V} {vf : β → V} (hk : ∀ a b, V.beq (kf a) (kf b) = decide (a = b)) (xs : List (κ × β)) (k : κ) : dGet (xs.map (eD kf vf)) (kf k) = (aGet xs k).map vf := by
  induction xs with
  | nil => rfl
  | cons x xs ih =>
    obtain ⟨k0, v0⟩ := x
    rw [List.map_cons]
    show (if V.beq (kf k0) (kf k) then some (vf v0) else dGet (xs.map (eD kf vf)) (kf k)) = _
    rw [hk, ih]
    by_cases h : k0 = k <;> simp [aGet, h]
theorem dSet_map {κ β : Type} [DecidableEq κ] {kf : κ → V} {vf : β → V} (hk : ∀ a b, V.beq (kf a) (kf b) = decide (a = b)) (xs : List (κ × β)) (k : κ) (b : β) : dSet (xs.map (eD kf vf)) (kf k) (vf b) = (aSet xs k b).map (eD kf vf) := by
  induction xs with
  | nil => rfl
  | cons x xs ih =>
    obtain ⟨k0, v0⟩ := x
    rw [List.map_cons]
    show (if V.beq (kf k0) (kf k) then (kf k0, vf b) :: xs.map (eD kf vf) else (kf k0, vf v0) :: dSet (xs.map (eD kf vf)) (kf k) (vf b)) = _
    rw [hk, ih]
    by_cases h : k0 = k <;> simp [aSet, h, eD]
theorem keys_map {κ β : Type} (kf : κ → V) (vf : β → V) (xs : List (κ × β)) : (xs.map (eD kf vf)).map (·.1) = xs.map fun p => kf p.1 := by
  rw [List.map_map]; rfl

noncomputable def KOk {α : Type} (N : Nat) (P : α → Prop) : KasT α → Prop
  | .ret a => P a
  | .ask i j k => i < N ∧ j < N ∧ ∀ b, KOk N P (k b)
theorem KOk.bind {α β : Type} {N : Nat} {P : α → Prop} {R : β → Prop} {f : α → KasT β} (hf : ∀ a, P a → KOk N R (f a)) : ∀ t : KasT α, KOk N P t → KOk N R (t.bind f)
  | .ret a, h => hf a h
  | .ask i j k, h => ⟨h.1, h.2.1, fun b => KOk.bind hf (k b) (h.2.2 b)⟩
theorem KOk.run {α : Type} {N : Nat} {P : α → Prop} {cmp : Nat → Nat → Option Bool} (hc : ∀ i j, i < N → j < N → ∃ b, cmp i j = some b) : ∀ t : KasT α, KOk N P t → ∃ a, kRun cmp t = some a ∧ P a
  | .ret a, h => ⟨a, rfl, h⟩
  | .ask i j k, h => by
    obtain ⟨b, hb⟩ := hc i j h.1 h.2.1
    obtain ⟨a, ha, hp⟩ := KOk.run hc (k b) (h.2.2 b)
    exact ⟨a, by simp only [kRun, hb, ha], hp⟩
noncomputable def POf (N : Nat) (p : Array Nat) : Prop := p.Perm (List.range N).toArray
theorem POf.lt {N : Nat} {p : Array Nat} (h : POf N p) (hN : 0 < N) (i : Nat) : p.getD i 0 < N := by
  by_cases hi : i < p.size
  · have : p[i] ∈ (List.range N).toArray := h.mem_iff.mp (Array.getElem_mem hi)
    simp only [Array.getD, hi, dif_pos]
    simpa using this
  · simp only [Array.getD, hi, dif_neg, not_false_iff]; exact hN
theorem POf.rev {N : Nat} {p : Array Nat} (h : POf N p) (i j : Nat) : POf N (kas_rev p i j) := (mirror_perm _ _ _ _).trans h
theorem POf.bub {N : Nat} {p : Array Nat} (h : POf N p) (i j : Nat) : POf N (bubble p i j) := (bubble_perm _ _ _).trans h
section so
variable {N : Nat} (hN : 0 < N)
include hN
theorem asc_ok {p : Array Nat} (h : POf N p) : ∀ f n, KOk N (fun _ => True) (kas_asc p f n)
  | 0, n => trivial
  | f + 1, n => ⟨h.lt hN _, h.lt hN _, fun b => by
    cases b with
    | true => exact trivial
    | false => exact asc_ok h f (n + 1)⟩
theorem desc_ok : ∀ f p n q, POf N p → KOk N (fun r => POf N r.1) (kas_desc f p n q)
  | 0, p, n, q, h => h
  | f + 1, p, n, q, h => ⟨h.lt hN _, h.lt hN _, fun b => by
    cases b with
    | true =>
      show KOk N _ (if q > 0 then _ else _)
      split
      · exact desc_ok f _ _ _ (h.rev _ _)
      · exact desc_ok f _ _ _ h
    | false => exact ⟨h.lt hN _, h.lt hN _, fun b => by
        cases b with
        | true => exact h
        | false => exact desc_ok f _ _ _ h⟩⟩
theorem tail3_ok {n nrem : Nat} {p : Array Nat} (h : POf N p) : KOk N (fun r => POf N r.2) (kas_tail3 n nrem p) :=
  KOk.bind (P := fun _ => True) (R := fun r => POf N r.2) (f := fun m => KasT.ret (m, kas_rev p 0 n)) (fun m _ => by show POf N (kas_rev p 0 n); exact h.rev _ _) _ (asc_ok hN (h.rev _ _) _ _)
theorem descPart_ok {n nrem : Nat} {p : Array Nat} (h : POf N p) : KOk N (fun r => POf N r.2) (kas_descPart n nrem p) :=
  KOk.bind (fun r hr => by
    show KOk N _ (if r.2.2 > 0 then _ else _)
    split
    · exact tail3_ok hN (POf.rev hr _ _)
    · exact tail3_ok hN hr) _ (desc_ok hN _ _ _ _ h)
theorem count_ok {nrem : Nat} {p : Array Nat} (h : POf N p) : KOk N (fun r => POf N r.2) (kas_count nrem p) :=
  KOk.bind (fun n _ => by
    show KOk N _ (if (n == nrem) = true then _ else _)
    split
    · exact h
    · split
      · exact ⟨h.lt hN _, h.lt hN _, fun b => by
          cases b with
          | true => exact h
          | false => exact descPart_ok hN (h.rev _ _)⟩
      · exact descPart_ok hN h) _ (asc_ok hN h _ _)
theorem place_ok {p : Array Nat} (h : POf N p) (k : Nat) : ∀ f l r, KOk N (fun _ => True) (kas_place p k f l r)
  | 0, l, r => trivial
  | f + 1, l, r => by
    show KOk N _ (if l ≥ r then _ else _)
    split
    · trivial
    · exact ⟨h.lt hN _, h.lt hN _, fun b => by
        cases b with
        | true => exact place_ok h k f _ _
        | false => exact place_ok h k f _ _⟩
theorem bin_ok : ∀ f p k, POf N p → KOk N (POf N) (kas_bin f p k)
  | 0, p, k, h => h
  | f + 1, p, k, h => KOk.bind (fun l _ => bin_ok f _ _ (h.bub _ _)) _ (place_ok hN h k _ _ _)
theorem sort_ok : KOk N (POf N) (kas_sort N) :=
  KOk.bind (fun r hr => by
    show KOk N _ (if r.1 < N then _ else _)
    split
    · exact bin_ok hN _ _ _ hr
    · exact hr) _ (count_ok hN (Array.Perm.refl _))
end so
set_option tactic.hygienic true in
theorem sortV_perm {vs : List V} (h : vs.length < 64) (hp : vs.all isPair = true) : ∃ ws, sortV vs = some ws ∧ ws.Perm vs := by
  unfold sortV
  split
  · exact ⟨vs, rfl, List.Perm.refl _⟩
  · rename_i h2
    obtain ⟨p, h3, h4⟩ := KOk.run (cmp := cmpAt vs) (fun i j hi hj => by
      have ha := List.all_eq_true.mp hp
      obtain ⟨a, b, e1⟩ := isPair_iff (ha _ (List.getElem_mem hi))
      obtain ⟨c, d, e2⟩ := isPair_iff (ha _ (List.getElem_mem hj))
      exact ⟨if a = c then decide (b < d) else decide (a < c), by simp only [cmpAt, List.getElem?_eq_getElem hi, List.getElem?_eq_getElem hj, e1, e2, pairLt]⟩) _ (sort_ok (N := vs.length) (by lia))
    rw [if_pos ⟨h, hp⟩, h3]
    refine ⟨_, rfl, ?_⟩
    have h5 : p.toList.Perm (List.range vs.length) := by simpa using h4.toList
    refine (h5.map _).trans ?_
    rw [show (List.range vs.length).map (fun i => vs.getD i V.none) = vs from ?_]
    apply List.ext_getElem?
    intro i
    rw [List.getElem?_map]
    by_cases hi : i < vs.length
    · rw [List.getElem?_range hi, List.getElem?_eq_getElem hi]
      simp [hi]
    · rw [List.getElem?_eq_none (by simpa using hi), List.getElem?_eq_none (by simpa using hi)]; rfl

theorem sorted_run {l : Nat} {vs : List V} {σ : Store} (hl : allOf (.loc l) σ = some vs) (h : vs.length < 64) (hp : vs.all isPair = true) :
    ∃ ws, ws.Perm vs ∧ sortedF [.loc l] σ = some (.loc σ.length, σ ++ [.list ws]) := by
  obtain ⟨ws, h1, h2⟩ := sortV_perm h hp
  refine ⟨ws, h2, ?_⟩
  have := h2.length_eq
  simp only [sortedF, hl, h1]
  rw [if_pos (by show _ ≤ 1000000; lia)]

theorem isS_int (i : Int) (σ : Store) : isS (.int i) .none σ = some false := rfl
theorem settled_run {l : Nat} {xs : List Int} {σ : Store} (hl : σ[l]? = some (.list (xs.map eH))) (hn : xs.length < 64) :
    ∃ ws t, f_settled_hops [.loc l] σ = some (.tup ws, σ ++ t) := by
  obtain ⟨lv', h⟩ := compD_pure (mt := (T.tup 2 (Ts.cons (T.var 1) (Ts.cons (T.var 2) Ts.nil)))) (mc := C.true) (m := (E.tup (L.cons (E.var 1) (L.cons (E.ite (C.cmp isS (E.var 2) (E.const .none)) (E.const (.int 0)) (E.var 2)) L.nil)))) (src := some (l, .list (xs.map eH))) eH
    (fun lv => ∃ a b c, lv = [a, b, c]) (fun k => some (eH k)) xs (vs := xs.map eH) (σ := σ) (lv := [none, none, none]) rfl (by lia) (fun _ => srcOk_same (get_app hl))
    (by
      rintro x hx lv ws ⟨a, b, c, rfl⟩
      refine ⟨[a, some (.int 0), some (.int x)], rfl, ⟨_, _, _, rfl⟩, ?_⟩
      simp only [xx8, Mini.D.seq_nx, Mini.D.seq_ct, Mini.D.seq_rt, xx13, xx10, xx14, xx9, xx12, xx7, xx15, xx30, xx20, xx16, xx18, xx3, xx4, xx2, xx5, xx6, xx23, xx35, xx34, xx29, xx24, xx26, xx28, xx27, xx17, xx25, xx21, xx22, xx33, xx31, xx32, xx38, xx40, xx39, xx37, xx36, xx0, lvGet_0, lvGet_s, lvSet_0, lvSet_s, Option.map_some, capLV, List.map_cons, List.map_nil, Option.bind_none, Option.bind_some, Mini.F.den, lv0, List.length_cons, List.length_nil, if_true, reduceIte, Nat.reduceAdd, Nat.reduceLeDiff, Nat.reduceLT, List.getElem?_cons_zero, List.getElem?_cons_succ, Nat.zero_add, Int.reduceLT, Int.reduceLE, and_true, true_and, and_self, intRel, intOp, subS_t0, subS_t1, subS_t2, lenF, subI, get_end, eqS_int, eqS_spot, neS_int, ltS_int, decide_true, decide_false, Bool.not_true, Bool.not_false, KindOf.is, LIM, xx11, walkV, rangeF, Int.reduceEq, isS_int])
    ⟨_, _, _, rfl⟩
  have e : xs.filterMap (fun k => some (eH k)) = xs.map eH := by rw [List.filterMap_eq_map']
  rw [e] at h
  obtain ⟨ws, h1, h2⟩ := sorted_run (l := σ.length) (σ := σ ++ [.list (xs.map eH)]) (vs := xs.map eH) (by simp only [allOf, get_end]) (by simpa using hn) (by simp [isPair])
  refine ⟨ws, [.list (xs.map eH), .list ws], ?_⟩
  unfold f_settled_hops d_settled_hops
  simp only [xx8, Mini.D.seq_nx, Mini.D.seq_ct, Mini.D.seq_rt, xx13, xx10, xx14, xx9, xx12, xx7, xx15, xx30, xx20, xx16, xx18, xx3, xx4, xx2, xx5, xx6, xx23, xx35, xx34, xx29, xx24, xx26, xx28, xx27, xx17, xx25, xx21, xx22, xx33, xx31, xx32, xx38, xx40, xx39, xx37, xx36, xx0, lvGet_0, lvGet_s, lvSet_0, lvSet_s, Option.map_some, capLV, List.map_cons, List.map_nil, Option.bind_none, Option.bind_some, Mini.F.den, lv0, List.length_cons, List.length_nil, if_true, reduceIte, Nat.reduceAdd, Nat.reduceLeDiff, Nat.reduceLT, List.getElem?_cons_zero, List.getElem?_cons_succ, Nat.zero_add, Int.reduceLT, Int.reduceLE, and_true, true_and, and_self, intRel, intOp, subS_t0, subS_t1, subS_t2, lenF, subI, get_end, eqS_int, eqS_spot, neS_int, ltS_int, decide_true, decide_false, Bool.not_true, Bool.not_false, KindOf.is, LIM, xx11, walkV, rangeF, Int.reduceEq, walkV, xx19, hl, h, h2, tupleF]
  simp [D.seq_rt]

noncomputable abbrev eW (p : Int × Int) : V := .tup [.int p.1, spot p.2]
theorem ltS_eW (a b : Int × Int) (σ : Store) : ∃ r, ltS (eW a) (eW b) σ = some r ∧ (r = true → a.1 ≤ b.1) ∧ (r = false → b.1 ≤ a.1) := by
  obtain ⟨a1, a2⟩ := a
  obtain ⟨b1, b2⟩ := b
  refine ⟨if a1 = b1 then decide (a2 < b2) else decide (a1 < b1), ?_, ?_, ?_⟩
  · by_cases h : a1 = b1
    · by_cases h2 : a2 = b2
      · simp [ltS, V.flat, V.lt, V.lts, V.beq, V.beqs, h, h2]
      · simp [ltS, V.flat, V.lt, V.lts, V.beq, V.beqs, h, h2]
    · simp [ltS, V.flat, V.lt, V.lts, V.beq, V.beqs, h]
  · intro h; split at h
    · simp_all
    · have := of_decide_eq_true h; simp; grind
  · intro h; split at h
    · simp_all
    · have := of_decide_eq_false h; simp; grind
theorem best_eW (σ : Store) : ∀ (xs : List (Int × Int)) (x : Int × Int), ∃ y, bestD ltS σ (eW x) (xs.map eW) = some (eW y) ∧ y ∈ x :: xs ∧ ∀ z ∈ x :: xs, y.1 ≤ z.1 := by
  intro xs
  induction xs with
  | nil => intro x; exact ⟨x, rfl, by simp, by simp⟩
  | cons a xs ih =>
    intro x
    obtain ⟨r, h1, h2, h3⟩ := ltS_eW a x σ
    cases r with
    | true =>
      obtain ⟨y, h4, h5, h6⟩ := ih a
      refine ⟨y, by simp only [List.map_cons, bestD, h1, h4], List.mem_cons_of_mem _ h5, fun z hz => ?_⟩
      rcases List.mem_cons.mp hz with rfl | hz
      · have := h6 a List.mem_cons_self; have := h2 rfl; lia
      · exact h6 z hz
    | false =>
      obtain ⟨y, h4, h5, h6⟩ := ih x
      refine ⟨y, by simp only [List.map_cons, bestD, h1, h4], ?_, fun z hz => ?_⟩
      · rcases List.mem_cons.mp h5 with rfl | h5
        · simp
        · simp [h5]
      · rcases List.mem_cons.mp hz with rfl | hz
        · exact h6 _ List.mem_cons_self
        · rcases List.mem_cons.mp hz with rfl | hz
          · have := h6 x List.mem_cons_self; have := h3 rfl; lia
          · exact h6 z (List.mem_cons_of_mem _ hz)

theorem inS_spot {κ β : Type} {l : Nat} {xs : List (Int × β)} {vf : β → V} {σ : Store} {v : Int} (h : σ[l]? = some (.dict (xs.map (eD spot vf)))) : inS (spot v) (.loc l) σ = some (decide (v ∈ xs.map (·.1))) := by
  have : (aGet xs v).isSome = decide (v ∈ xs.map (·.1)) := by rw [Bool.eq_iff_iff, aGet_isSome, decide_eq_true_iff]
  simp only [inS, h]
  rw [if_pos (by rfl), dGet_map beq_spot, Option.isSome_map, this]
theorem subS_spot {β : Type} {l : Nat} {xs : List (Int × β)} {vf : β → V} {σ : Store} {v : Int} (h : σ[l]? = some (.dict (xs.map (eD spot vf)))) : subS (.loc l) (spot v) σ = (aGet xs v).map vf := by
  simp only [subS, h]
  rw [if_pos (by rfl), dGet_map beq_spot]
theorem nearest_run {cl dl : Nat} {cs : List (Int × Int)} {dn : List (Int × Unit)} {σ : Store} (hc : σ[cl]? = some (.dict (cs.map (eD spot V.int)))) (hd : σ[dl]? = some (.dict (dn.map (eD spot fun _ => V.bool true))))
    (hn : (cs.map (·.1)).Nodup) (hl : cs.length ≤ 1000) :
    (∃ t, (∀ x ∈ cs, x.1 ∈ dn.map (·.1)) ∧ f_nearest_spot [.loc cl, .loc dl] σ = some (.none, σ ++ t)) ∨
    (∃ t u c, (u, c) ∈ cs ∧ u ∉ dn.map (·.1) ∧ (∀ x ∈ cs, x.1 ∉ dn.map (·.1) → c ≤ x.2) ∧ f_nearest_spot [.loc cl, .loc dl] σ = some (spot u, σ ++ t)) := by
  obtain ⟨lv', h⟩ := compD_pure (mt := T.var 1) (mc := (C.cmp notInS (E.var 1) (E.var 3))) (m := (E.tup (L.cons (E.sub (E.var 2) (E.var 1)) (L.cons (E.var 1) L.nil)))) (src := some (cl, .dict (cs.map (eD spot V.int)))) (fun x : Int × Int => spot x.1)
    (fun lv => ∃ a b, lv = [a, b, some (.loc cl), some (.loc dl)]) (fun x => if x.1 ∈ dn.map (·.1) then none else some (eW (x.2, x.1))) cs (vs := (cs.map (eD spot V.int)).map (·.1)) (σ := σ) (lv := [none, none, some (.loc cl), some (.loc dl)]) (keys_map _ _ _) (by lia) (fun _ => srcOk_same (get_app hc))
    (by
      rintro x hx lv ws ⟨a, b, rfl⟩
      refine ⟨[a, some (spot x.1), some (.loc cl), some (.loc dl)], rfl, ⟨_, _, rfl⟩, ?_⟩
      have hi : notInS (spot x.1) (.loc dl) (σ ++ [.list ws]) = some (!decide (x.1 ∈ dn.map (·.1))) := by
        rw [notInS, inS_spot (κ := Int) (get_app hd)]; rfl
      have hs : subS (.loc cl) (spot x.1) (σ ++ [.list ws]) = some (.int x.2) := by
        rw [subS_spot (get_app hc), aGet_of_mem hn (b := x.2) hx]; rfl
      by_cases hm : x.1 ∈ dn.map (·.1)
      · rw [if_pos hm]
        simp only [xx8, Mini.D.seq_nx, Mini.D.seq_ct, Mini.D.seq_rt, xx13, xx10, xx14, xx9, xx12, xx7, xx15, xx30, xx20, xx16, xx18, xx3, xx4, xx2, xx5, xx6, xx23, xx35, xx34, xx29, xx24, xx26, xx28, xx27, xx17, xx25, xx21, xx22, xx33, xx31, xx32, xx38, xx40, xx39, xx37, xx36, xx0, lvGet_0, lvGet_s, lvSet_0, lvSet_s, Option.map_some, capLV, List.map_cons, List.map_nil, Option.bind_none, Option.bind_some, Mini.F.den, lv0, List.length_cons, List.length_nil, if_true, reduceIte, Nat.reduceAdd, Nat.reduceLeDiff, Nat.reduceLT, List.getElem?_cons_zero, List.getElem?_cons_succ, Nat.zero_add, Int.reduceLT, Int.reduceLE, and_true, true_and, and_self, intRel, intOp, subS_t0, subS_t1, subS_t2, lenF, subI, get_end, eqS_int, eqS_spot, neS_int, ltS_int, decide_true, decide_false, Bool.not_true, Bool.not_false, KindOf.is, LIM, xx11, walkV, rangeF, Int.reduceEq, hi, hm]
      · rw [if_neg hm]
        simp only [xx8, Mini.D.seq_nx, Mini.D.seq_ct, Mini.D.seq_rt, xx13, xx10, xx14, xx9, xx12, xx7, xx15, xx30, xx20, xx16, xx18, xx3, xx4, xx2, xx5, xx6, xx23, xx35, xx34, xx29, xx24, xx26, xx28, xx27, xx17, xx25, xx21, xx22, xx33, xx31, xx32, xx38, xx40, xx39, xx37, xx36, xx0, lvGet_0, lvGet_s, lvSet_0, lvSet_s, Option.map_some, capLV, List.map_cons, List.map_nil, Option.bind_none, Option.bind_some, Mini.F.den, lv0, List.length_cons, List.length_nil, if_true, reduceIte, Nat.reduceAdd, Nat.reduceLeDiff, Nat.reduceLT, List.getElem?_cons_zero, List.getElem?_cons_succ, Nat.zero_add, Int.reduceLT, Int.reduceLE, and_true, true_and, and_self, intRel, intOp, subS_t0, subS_t1, subS_t2, lenF, subI, get_end, eqS_int, eqS_spot, neS_int, ltS_int, decide_true, decide_false, Bool.not_true, Bool.not_false, KindOf.is, LIM, xx11, walkV, rangeF, Int.reduceEq, hi, hm, hs])
    ⟨_, _, rfl⟩
  have e : cs.filterMap (fun x => if x.1 ∈ dn.map (·.1) then none else some (eW (x.2, x.1))) = ((cs.filter fun x => x.1 ∉ dn.map (·.1)).map fun x => (x.2, x.1)).map eW := by
    rw [List.map_map]
    clear h hc hn hl
    induction cs with
    | nil => rfl
    | cons y ys ih =>
      by_cases hc : y.1 ∈ dn.map (·.1)
      · rw [List.filterMap_cons_none (by rw [if_pos hc]), List.filter_cons_of_neg (by simpa using hc), ih]
      · rw [List.filterMap_cons_some (b := eW (y.2, y.1)) (by rw [if_neg hc]), List.filter_cons_of_pos (by simpa using hc), ih]; rfl
  rw [e] at h
  generalize hw : (cs.filter fun x => x.1 ∉ dn.map (·.1)).map (fun x => (x.2, x.1)) = wl at h
  have hmem : ∀ c u, (c, u) ∈ wl ↔ (u, c) ∈ cs ∧ u ∉ dn.map (·.1) := by
    intro c u
    rw [← hw, List.mem_map]
    constructor
    · rintro ⟨⟨a, b⟩, h1, h2⟩
      rw [List.mem_filter] at h1
      cases h2
      exact ⟨h1.1, by simpa using h1.2⟩
    · rintro ⟨h1, h2⟩
      exact ⟨(u, c), List.mem_filter.mpr ⟨h1, by simpa using h2⟩, rfl⟩
  have heq : eqS (.loc σ.length) (.loc (σ.length + 1)) (σ ++ [.list (wl.map eW)] ++ [.list []]) = some (decide (wl = [])) := by
    have h1 : (σ ++ [MObj.list (wl.map eW)] ++ [.list []])[σ.length]? = some (.list (wl.map eW)) := get_app get_end
    have h2 : (σ ++ [MObj.list (wl.map eW)] ++ [.list []])[σ.length + 1]? = some (.list []) := by simp
    have h3 : flats (wl.map eW) = true := by simp [flats, List.all_map, V.flat]
    simp only [eqS, h1, h2, h3]
    cases wl <;> simp [flats, V.beqs]
  cases wl with
  | nil =>
    left
    refine ⟨[.list [], .list []], fun x hx => ?_, ?_⟩
    · by_cases h : x.1 ∈ dn.map (·.1)
      · exact h
      · exact absurd ((hmem x.2 x.1).mpr ⟨hx, h⟩) (by simp)
    · simp only [List.map_nil, decide_true] at heq h
      unfold f_nearest_spot d_nearest_spot
      simp only [xx8, Mini.D.seq_nx, Mini.D.seq_ct, Mini.D.seq_rt, xx13, xx10, xx14, xx9, xx12, xx7, xx15, xx30, xx20, xx16, xx18, xx3, xx4, xx2, xx5, xx6, xx23, xx35, xx34, xx29, xx24, xx26, xx28, xx27, xx17, xx25, xx21, xx22, xx33, xx31, xx32, xx38, xx40, xx39, xx37, xx36, xx0, lvGet_0, lvGet_s, lvSet_0, lvSet_s, Option.map_some, capLV, List.map_cons, List.map_nil, Option.bind_none, Option.bind_some, Mini.F.den, lv0, List.length_cons, List.length_nil, if_true, reduceIte, Nat.reduceAdd, Nat.reduceLeDiff, Nat.reduceLT, List.getElem?_cons_zero, List.getElem?_cons_succ, Nat.zero_add, Int.reduceLT, Int.reduceLE, and_true, true_and, and_self, intRel, intOp, subS_t0, subS_t1, subS_t2, lenF, subI, get_end, eqS_int, eqS_spot, neS_int, ltS_int, decide_true, decide_false, Bool.not_true, Bool.not_false, KindOf.is, LIM, xx11, walkV, rangeF, Int.reduceEq, walkV, xx19, hc, h, List.length_append, neS, heq]
      simp
  | cons w wl =>
    obtain ⟨y, h1, h2, h3⟩ := best_eW (σ ++ [.list ((w :: wl).map eW)] ++ [.list []]) wl w
    right
    obtain ⟨c, u⟩ := y
    have h4 := (hmem c u).mp h2
    refine ⟨[.list ((w :: wl).map eW), .list []], u, c, h4.1, h4.2, fun x hx hxn => h3 (x.2, x.1) ((hmem _ _).mpr ⟨hx, hxn⟩), ?_⟩
    have h5 : (σ ++ [.list ((w :: wl).map eW)] ++ [.list []])[σ.length]? = some (.list ((w :: wl).map eW)) := get_app get_end
    have h6 : decide (w :: wl = []) = false := by simp
    rw [h6] at heq
    simp only [List.map_cons] at h5 h1 heq h
    unfold f_nearest_spot d_nearest_spot
    simp only [xx8, Mini.D.seq_nx, Mini.D.seq_ct, Mini.D.seq_rt, xx13, xx10, xx14, xx9, xx12, xx7, xx15, xx30, xx20, xx16, xx18, xx3, xx4, xx2, xx5, xx6, xx23, xx35, xx34, xx29, xx24, xx26, xx28, xx27, xx17, xx25, xx21, xx22, xx33, xx31, xx32, xx38, xx40, xx39, xx37, xx36, xx0, lvGet_0, lvGet_s, lvSet_0, lvSet_s, Option.map_some, capLV, List.map_cons, List.map_nil, Option.bind_none, Option.bind_some, Mini.F.den, lv0, List.length_cons, List.length_nil, if_true, reduceIte, Nat.reduceAdd, Nat.reduceLeDiff, Nat.reduceLT, List.getElem?_cons_zero, List.getElem?_cons_succ, Nat.zero_add, Int.reduceLT, Int.reduceLE, and_true, true_and, and_self, intRel, intOp, subS_t0, subS_t1, subS_t2, lenF, subI, get_end, eqS_int, eqS_spot, neS_int, ltS_int, decide_true, decide_false, Bool.not_true, Bool.not_false, KindOf.is, LIM, xx11, walkV, rangeF, Int.reduceEq, walkV, xx19, hc, h, List.length_append, neS, heq, bestF, h5, h1]
    simp
end Mini
end

section
namespace Mini
open PySem
theorem appendM_at {l : Nat} {vs : List V} {v : V} {σ : Store} (h : σ[l]? = some (.list vs)) (hl : vs.length < 1000000) : appendM l [v] σ = some (.none, σ.set l (.list (vs ++ [v]))) := by
  simp only [appendM, h]; rw [if_pos hl]
theorem appendM_end {vs : List V} {v : V} {σ : Store} (hl : vs.length < 1000000) : appendM σ.length [v] (σ ++ [.list vs]) = some (.none, σ ++ [.list (vs ++ [v])]) := by
  rw [appendM_at get_end hl, set_end]
theorem storeItem_at {κ β : Type} [DecidableEq κ] {kf : κ → V} {vf : β → V} (hk : ∀ a b, V.beq (kf a) (kf b) = decide (a = b)) {l : Nat} {xs : List (κ × β)} {k : κ} {b : β} {σ : Store} (h : σ[l]? = some (.dict (xs.map (eD kf vf))))
    (hkey : V.key 6 (kf k) = true) (hl : xs.length < 100000) : storeItem l (kf k) (vf b) σ = some (σ.set l (.dict ((aSet xs k b).map (eD kf vf)))) := by
  simp only [storeItem, h]
  rw [if_pos, dSet_map hk]
  simp only [hkey, List.length_map, Bool.true_and, decide_eq_true_eq]
  show _ < 1000000
  omega
theorem aSet_new {κ β : Type} [DecidableEq κ] {xs : List (κ × β)} {k : κ} {b : β} (h : k ∉ xs.map (·.1)) : aSet xs k b = xs ++ [(k, b)] := by
  induction xs with
  | nil => rfl
  | cons x xs ih =>
    obtain ⟨k0, v0⟩ := x
    rw [List.map_cons, List.mem_cons, not_or] at h
    rw [aSet, if_neg (Ne.symm h.1), ih h.2]; rfl
theorem key_spot (i : Int) : V.key 6 (spot i) = true := rfl
theorem rngL_eq : ∀ (n : Nat) (a : Int), rngL a n = (List.range n).map fun i : Nat => V.int (a + i)
  | 0, _ => rfl
  | n + 1, a => by
    rw [rngL, rngL_eq n, List.range_succ_eq_map, List.map_cons, List.map_map]
    congr 1
    · simp
    · apply List.map_congr_left; intro i _; simp; grind
theorem rng_ids (many : Int) : rngL 1 (many + 1 - 1).toNat = (ids many).map V.int := by
  rw [rngL_eq, ids, List.map_map]
  rw [show many + 1 - 1 = many by grind]
  apply List.map_congr_left; intro i _
  show V.int (1 + (i : Int)) = V.int ((i : Int) + 1)
  congr 1; grind

noncomputable abbrev eB (k : Int × Int × Int) : V := .tup [.int k.1, .int k.2.2, .int 1, .int k.2.1]
noncomputable abbrev bodyOf (ks : List (Int × Int × Int)) : V := .tup [.str (Str.ofString "router"), .int 0, .tup (ks.map eB)]
theorem net_router (σ : Store) : eqS (.str (Str.ofString "router")) (.str (Str.ofString "network")) σ = some false := by
  have : Str.ofString "router" ≠ Str.ofString "network" := by decide
  simp only [eqS, V.flat, V.beq, Bool.and_self, if_true, decide_eq_false this]
theorem links_of_run {ks : List (Int × Int × Int)} {σ : Store} (hn : ks.length ≤ 1000) : f_links_of [bodyOf ks] σ = some (.loc σ.length, σ ++ [.list (ks.map eK)]) := by
  have : Gives (f_links_of [bodyOf ks] σ) fun p => p = (.loc σ.length, σ ++ [.list (ks.map eK)]) := by
    refine den_gives rfl ?_
    unfold d_links_of
    simp only [xx8, Mini.D.seq_nx, Mini.D.seq_ct, Mini.D.seq_rt, xx13, xx10, xx14, xx9, xx12, xx7, xx15, xx30, xx20, xx16, xx18, xx3, xx4, xx2, xx5, xx6, xx23, xx35, xx34, xx29, xx24, xx26, xx28, xx27, xx17, xx25, xx21, xx22, xx33, xx31, xx32, xx38, xx40, xx39, xx37, xx36, xx0, lvGet_0, lvGet_s, lvSet_0, lvSet_s, Option.map_some, capLV, List.map_cons, List.map_nil, Option.bind_none, Option.bind_some, Mini.F.den, lv0, List.length_cons, List.length_nil, if_true, reduceIte, Nat.reduceAdd, Nat.reduceLeDiff, Nat.reduceLT, List.getElem?_cons_zero, List.getElem?_cons_succ, Nat.zero_add, Int.reduceLT, Int.reduceLE, and_true, true_and, and_self, intRel, intOp, subS_t0, subS_t1, subS_t2, lenF, subI, get_end, eqS_int, eqS_spot, neS_int, ltS_int, decide_true, decide_false, Bool.not_true, Bool.not_false, KindOf.is, LIM, xx11, walkV, rangeF, Int.reduceEq, net_router]
    refine seq_for eB (fun done lv σ' => (∃ a b c d, lv = [some (bodyOf ks), some (.loc σ.length), a, b, c, d, none, none, none, none]) ∧ σ' = σ ++ [.list (done.map eK)] ∧ done.length ≤ ks.length) ks rfl ?_ ?_ ?_ ?_
    · intro _ _ _ _; rfl
    · exact ⟨⟨_, _, _, _, rfl⟩, rfl, Nat.zero_le _⟩
    · rintro done x rest lv σ' e ⟨⟨a, b, c, d, rfl⟩, rfl, hl⟩
      have hl' : (done ++ [x]).length ≤ ks.length := by rw [e]; simp
      refine ⟨[some (bodyOf ks), some (.loc σ.length), some (.int x.1), some (.int x.2.2), some (.int 1), some (.int x.2.1), none, none, none, none], _, rfl, ?_⟩
      simp only [xx8, Mini.D.seq_nx, Mini.D.seq_ct, Mini.D.seq_rt, xx13, xx10, xx14, xx9, xx12, xx7, xx15, xx30, xx20, xx16, xx18, xx3, xx4, xx2, xx5, xx6, xx23, xx35, xx34, xx29, xx24, xx26, xx28, xx27, xx17, xx25, xx21, xx22, xx33, xx31, xx32, xx38, xx40, xx39, xx37, xx36, xx0, lvGet_0, lvGet_s, lvSet_0, lvSet_s, Option.map_some, capLV, List.map_cons, List.map_nil, Option.bind_none, Option.bind_some, Mini.F.den, lv0, List.length_cons, List.length_nil, if_true, reduceIte, Nat.reduceAdd, Nat.reduceLeDiff, Nat.reduceLT, List.getElem?_cons_zero, List.getElem?_cons_succ, Nat.zero_add, Int.reduceLT, Int.reduceLE, and_true, true_and, and_self, intRel, intOp, subS_t0, subS_t1, subS_t2, lenF, subI, get_end, eqS_int, eqS_spot, neS_int, ltS_int, decide_true, decide_false, Bool.not_true, Bool.not_false, KindOf.is, LIM, xx11, walkV, rangeF, Int.reduceEq, appendM_end (vs := done.map eK) (σ := σ) (by rw [List.length_map]; lia)]
      refine Gives.some ⟨⟨_, _, _, _, rfl⟩, by simp, hl'⟩
    · rintro lv σ' ⟨⟨a, b, c, d, rfl⟩, rfl, _⟩
      simp only [xx8, Mini.D.seq_nx, Mini.D.seq_ct, Mini.D.seq_rt, xx13, xx10, xx14, xx9, xx12, xx7, xx15, xx30, xx20, xx16, xx18, xx3, xx4, xx2, xx5, xx6, xx23, xx35, xx34, xx29, xx24, xx26, xx28, xx27, xx17, xx25, xx21, xx22, xx33, xx31, xx32, xx38, xx40, xx39, xx37, xx36, xx0, lvGet_0, lvGet_s, lvSet_0, lvSet_s, Option.map_some, capLV, List.map_cons, List.map_nil, Option.bind_none, Option.bind_some, Mini.F.den, lv0, List.length_cons, List.length_nil, if_true, reduceIte, Nat.reduceAdd, Nat.reduceLeDiff, Nat.reduceLT, List.getElem?_cons_zero, List.getElem?_cons_succ, Nat.zero_add, Int.reduceLT, Int.reduceLE, and_true, true_and, and_self, intRel, intOp, subS_t0, subS_t1, subS_t2, lenF, subI, get_end, eqS_int, eqS_spot, neS_int, ltS_int, decide_true, decide_false, Bool.not_true, Bool.not_false, KindOf.is, LIM, xx11, walkV, rangeF, Int.reduceEq]
      exact Gives.some rfl
  obtain ⟨_, h, rfl⟩ := this
  exact h

noncomputable def diag (ns : List Int) : List (Int × Int) := ns.map fun i => (i, i)
theorem diag_keys (ns : List Int) : (diag ns).map (·.1) = ns := by simp [diag, Function.comp_def]
noncomputable abbrev eR (bd : Int → V) (i : Int) : V := .tup [.tup [.int 0, .int 2, .int 1, .int i, .int i, .int 1, .int 0], bd i]
theorem slTo5 {a b c d e f g : V} {σ : Store} : Mini.slTo (.tup [a, b, c, d, e, f, g]) 5 σ = some (.tup [a, b, c, d, e], σ) := rfl
theorem notIn12 {σ : Store} : notInS (.int 1) (.tup [.int 1, .int 2]) σ = some false := rfl
theorem area_run {ns : List Int} {bd : Int → V} {rl : Nat} {σ : Store} (hr : σ[rl]? = some (.list (ns.map (eR bd)))) (hn : ns.Nodup) (hlen : ns.length ≤ 1000) :
    f_area_vertices [.loc rl] σ = some (.loc σ.length, σ ++ [.dict ((diag ns).map (eD spot bd)), .dict ((diag ns).map (eD spot V.int))]) := by
  have : Gives (f_area_vertices [.loc rl] σ) fun p => p = (.loc σ.length, σ ++ [.dict ((diag ns).map (eD spot bd)), .dict ((diag ns).map (eD spot V.int))]) := by
    refine den_gives rfl ?_
    unfold d_area_vertices
    have hr2 := get_app (t := [.dict []]) (get_app (t := [.dict []]) hr)
    simp only [xx8, Mini.D.seq_nx, Mini.D.seq_ct, Mini.D.seq_rt, xx13, xx10, xx14, xx9, xx12, xx7, xx15, xx30, xx20, xx16, xx18, xx3, xx4, xx2, xx5, xx6, xx23, xx35, xx34, xx29, xx24, xx26, xx28, xx27, xx17, xx25, xx21, xx22, xx33, xx31, xx32, xx38, xx40, xx39, xx37, xx36, xx0, lvGet_0, lvGet_s, lvSet_0, lvSet_s, Option.map_some, capLV, List.map_cons, List.map_nil, Option.bind_none, Option.bind_some, Mini.F.den, lv0, List.length_cons, List.length_nil, if_true, reduceIte, Nat.reduceAdd, Nat.reduceLeDiff, Nat.reduceLT, List.getElem?_cons_zero, List.getElem?_cons_succ, Nat.zero_add, Int.reduceLT, Int.reduceLE, and_true, true_and, and_self, intRel, intOp, subS_t0, subS_t1, subS_t2, lenF, subI, get_end, eqS_int, eqS_spot, neS_int, ltS_int, decide_true, decide_false, Bool.not_true, Bool.not_false, KindOf.is, LIM, xx11, walkV, rangeF, Int.reduceEq, lvSets, List.reverse_cons, List.reverse_nil, List.nil_append, List.cons_append, List.length_append, hr2]
    refine seq_for (eR bd) (fun done lv σ' => (∃ a b c d e f g h, lv = [some (.loc rl), some (.loc σ.length), some (.loc (σ.length + 1)), a, b, c, d, e, f, g, h, none, none, none]) ∧ σ' = σ ++ [.dict ((diag done).map (eD spot bd)), .dict ((diag done).map (eD spot V.int))]) ns rfl ?_ ?_ ?_ ?_
    · rintro done lv σ' ⟨_, rfl⟩; exact srcOk_same (get_app hr)
    · exact ⟨⟨_, _, _, _, _, _, _, _, rfl⟩, by simp [diag]⟩
    · rintro done x rest lv σ' e ⟨⟨a, b, c, d, e', f, g, h, rfl⟩, rfl⟩
      have hl : done.length < ns.length := by rw [e]; simp
      have hx : x ∉ done := by
        rw [e] at hn
        have := (List.nodup_append.mp hn).2.2
        intro hx
        exact this x hx x List.mem_cons_self rfl
      have g1 : (σ ++ [MObj.dict ((diag done).map (eD spot bd)), .dict ((diag done).map (eD spot V.int))])[σ.length]? = some (.dict ((diag done).map (eD spot bd))) := by simp
      have g2 : ((σ ++ [MObj.dict ((diag done).map (eD spot bd)), .dict ((diag done).map (eD spot V.int))]).set σ.length (.dict ((diag (done ++ [x])).map (eD spot bd))))[σ.length + 1]? = some (.dict ((diag done).map (eD spot V.int))) := by simp
      have hk : x ∉ (diag done).map (·.1) := by rw [diag_keys]; exact hx
      have hi : notInS (spot x) (.loc σ.length) (σ ++ [.dict ((diag done).map (eD spot bd)), .dict ((diag done).map (eD spot V.int))]) = some true := by
        rw [notInS, inS_spot (κ := Int) g1, decide_eq_false hk]; rfl
      have s1 := storeItem_at beq_spot (k := x) (b := x) g1 (key_spot x) (by simp [diag]; lia)
      have e1 : aSet (diag done) x x = diag (done ++ [x]) := by rw [aSet_new hk]; simp [diag]
      rw [e1] at s1
      have s2 := storeItem_at beq_spot (k := x) (b := x) g2 (key_spot x) (by simp [diag]; lia)
      rw [e1] at s2
      refine ⟨[some (.loc rl), some (.loc σ.length), some (.loc (σ.length + 1)), some (.tup [.int 0, .int 2, .int 1, .int x, .int x, .int 1, .int 0]), some (bd x), c, d, e', f, g, h, none, none, none], _, rfl, ?_⟩
      simp only [xx8, Mini.D.seq_nx, Mini.D.seq_ct, Mini.D.seq_rt, xx13, xx10, xx14, xx9, xx12, xx7, xx15, xx30, xx20, xx16, xx18, xx3, xx4, xx2, xx5, xx6, xx23, xx35, xx34, xx29, xx24, xx26, xx28, xx27, xx17, xx25, xx21, xx22, xx33, xx31, xx32, xx38, xx40, xx39, xx37, xx36, xx0, lvGet_0, lvGet_s, lvSet_0, lvSet_s, Option.map_some, capLV, List.map_cons, List.map_nil, Option.bind_none, Option.bind_some, Mini.F.den, lv0, List.length_cons, List.length_nil, if_true, reduceIte, Nat.reduceAdd, Nat.reduceLeDiff, Nat.reduceLT, List.getElem?_cons_zero, List.getElem?_cons_succ, Nat.zero_add, Int.reduceLT, Int.reduceLE, and_true, true_and, and_self, intRel, intOp, subS_t0, subS_t1, subS_t2, lenF, subI, get_end, eqS_int, eqS_spot, neS_int, ltS_int, decide_true, decide_false, Bool.not_true, Bool.not_false, KindOf.is, LIM, xx11, walkV, rangeF, Int.reduceEq, slTo5, notIn12, hi, s1, s2]
      refine Gives.some ⟨⟨_, _, _, _, _, _, _, _, rfl⟩, by simp⟩
    · rintro lv σ' ⟨⟨a, b, c, d, e', f, g, h, rfl⟩, rfl⟩
      simp only [xx8, Mini.D.seq_nx, Mini.D.seq_ct, Mini.D.seq_rt, xx13, xx10, xx14, xx9, xx12, xx7, xx15, xx30, xx20, xx16, xx18, xx3, xx4, xx2, xx5, xx6, xx23, xx35, xx34, xx29, xx24, xx26, xx28, xx27, xx17, xx25, xx21, xx22, xx33, xx31, xx32, xx38, xx40, xx39, xx37, xx36, xx0, lvGet_0, lvGet_s, lvSet_0, lvSet_s, Option.map_some, capLV, List.map_cons, List.map_nil, Option.bind_none, Option.bind_some, Mini.F.den, lv0, List.length_cons, List.length_nil, if_true, reduceIte, Nat.reduceAdd, Nat.reduceLeDiff, Nat.reduceLT, List.getElem?_cons_zero, List.getElem?_cons_succ, Nat.zero_add, Int.reduceLT, Int.reduceLE, and_true, true_and, and_self, intRel, intOp, subS_t0, subS_t1, subS_t2, lenF, subI, get_end, eqS_int, eqS_spot, neS_int, ltS_int, decide_true, decide_false, Bool.not_true, Bool.not_false, KindOf.is, LIM, xx11, walkV, rangeF, Int.reduceEq]
      exact Gives.some rfl
  obtain ⟨_, h, rfl⟩ := this
  exact h
end Mini
end

section
namespace Mini
open PySem
noncomputable def unspot : V → Int
  | .tup [_, .int i] => i
  | _ => 0
theorem perm_spot {ws : List V} {ns : List Int} (h : ws.Perm (ns.map spot)) : ∃ ms : List Int, ws = ms.map spot ∧ ms.Perm ns := by
  refine ⟨ws.map unspot, ?_, ?_⟩
  · have : ∀ w ∈ ws, w ∈ ns.map spot := fun w hw => h.mem_iff.mp hw
    clear h
    induction ws with
    | nil => rfl
    | cons w ws ih =>
      obtain ⟨i, _, e⟩ := List.mem_map.mp (this w List.mem_cons_self)
      rw [List.map_cons, List.map_cons, ← ih (fun w hw => this w (List.mem_cons_of_mem _ hw)), ← e]; rfl
  · have := h.map unspot
    rw [List.map_map] at this
    have e : (unspot ∘ spot) = id := by funext i; rfl
    rwa [e, List.map_id] at this

inductive LinksAt (σ : Store) (d : Nat) (ns : List Int) (K : Int → List (Int × Int × Int)) : Prop
  | mk (xs : List (Int × Nat)) (h1 : σ[d]? = some (.dict (xs.map (eD spot V.loc)))) (h2 : ∀ i ∈ ns, ∃ l, aGet xs i = some l ∧ σ[l]? = some (.list ((K i).map eK))) : LinksAt σ d ns K
inductive LinksP (σ : Store) (ns : List Int) (K : Int → List (Int × Int × Int)) (p : V × Store) : Prop
  | mk (d : Nat) (e : p.1 = .loc d) (x : Ext σ p.2) (l : σ.length ≤ d) (h : LinksAt p.2 d ns K) : LinksP σ ns K p
inductive GI1 (rl : Nat) (σ : Store) (ns : List Int) (K : Int → List (Int × Int × Int)) (done : List Int) (lv : LV) (σ' : Store) : Prop
  | mk (a : Option V) (hlv : lv = [some (.loc rl), some (.loc σ.length), some (.loc (σ.length + 1)), a, none, none, none, none]) (x : Ext σ σ') (b : σ'[σ.length + 1]? = some (.dict ((diag ns).map (eD spot fun i => bodyOf (K i)))))
    (xs : List (Int × Nat)) (k : xs.map (·.1) = done) (t : σ'[σ.length]? = some (.dict (xs.map (eD spot V.loc)))) (v : ∀ p ∈ xs, σ'[p.2]? = some (.list ((K p.1).map eK))) : GI1 rl σ ns K done lv σ'
inductive GI2 (rl : Nat) (σ σ₁ : Store) (ms : List Int) (K : Int → List (Int × Int × Int)) (done : List Int) (lv : LV) (σ' : Store) : Prop
  | mk (a : Option V) (hlv : lv = [some (.loc rl), some (.loc σ.length), some (.loc (σ.length + 1)), a, some (.loc σ₁.length), none, none, none]) (x : Ext σ₁ σ') (b : σ'[(σ₁ ++ [MObj.dict []]).length]? = some (.list (ms.map spot)))
    (ys : List (Int × Nat)) (k : ys.map (·.1) = done) (t : σ'[σ₁.length]? = some (.dict (ys.map (eD spot V.loc)))) (v : ∀ p ∈ ys, σ'[p.2]? = some (.list ((K p.1).map eK))) : GI2 rl σ σ₁ ms K done lv σ'
inductive GI3 (σ σ' : Store) (x : Int) (done : List (Int × Int × Int)) (lv : LV) (σ'' : Store) : Prop
  | mk (a b c : Option V) (hlv : lv = [a, b, c, some (spot x), some (.loc σ.length)]) (e : Ext σ' σ'') (g : σ''[σ'.length]? = some (.list (done.map eK))) : GI3 σ σ' x done lv σ''
theorem LinksAt.ext {σ σ' : Store} {d : Nat} {ns : List Int} {K : Int → List (Int × Int × Int)} (h : LinksAt σ d ns K) (e : Ext σ σ') : LinksAt σ' d ns K := by
  obtain ⟨xs, h1, h2⟩ := h
  exact ⟨xs, e.get h1, fun i hi => let ⟨l, a, b⟩ := h2 i hi; ⟨l, a, e.get b⟩⟩

theorem graph_run {ns : List Int} {K : Int → List (Int × Int × Int)} {rl : Nat} {σ : Store} (hr : σ[rl]? = some (.list (ns.map (eR fun i => bodyOf (K i))))) (hn : ns.Nodup) (hlen : ns.length ≤ 60) (hK : ∀ i, (K i).length ≤ 1000)
    (hsym : ∀ i ∈ ns, ∀ k ∈ K i, k.1 ∈ ns ∧ ∃ k' ∈ K k.1, k'.1 = i) :
    Gives (f_graph_edges [.loc rl] σ) (LinksP σ ns K) := by
  refine den_gives rfl ?_
  unfold d_graph_edges
  have hr1 : (σ ++ [MObj.dict []])[rl]? = _ := get_app hr
  simp only [xx8, Mini.D.seq_nx, Mini.D.seq_ct, Mini.D.seq_rt, xx13, xx10, xx14, xx9, xx12, xx7, xx15, xx30, xx20, xx16, xx18, xx3, xx4, xx2, xx5, xx6, xx23, xx35, xx34, xx29, xx24, xx26, xx28, xx27, xx17, xx25, xx21, xx22, xx33, xx31, xx32, xx38, xx40, xx39, xx37, xx36, xx0, lvGet_0, lvGet_s, lvSet_0, lvSet_s, Option.map_some, capLV, List.map_cons, List.map_nil, Option.bind_none, Option.bind_some, Mini.F.den, lv0, List.length_cons, List.length_nil, if_true, reduceIte, Nat.reduceAdd, Nat.reduceLeDiff, Nat.reduceLT, List.getElem?_cons_zero, List.getElem?_cons_succ, Nat.zero_add, Int.reduceLT, Int.reduceLE, and_true, true_and, and_self, intRel, intOp, subS_t0, subS_t1, subS_t2, lenF, subI, get_end, eqS_int, eqS_spot, neS_int, ltS_int, decide_true, decide_false, Bool.not_true, Bool.not_false, KindOf.is, LIM, xx11, walkV, rangeF, Int.reduceEq, area_run hr1 hn (by lia : ns.length ≤ 1000), List.length_append]
  have hb : ((σ ++ [MObj.dict []]) ++ [.dict ((diag ns).map (eD spot fun i => bodyOf (K i))), .dict ((diag ns).map (eD spot V.int))])[σ.length + 1]? = some (.dict ((diag ns).map (eD spot fun i => bodyOf (K i)))) := by simp
  simp only [xx8, Mini.D.seq_nx, Mini.D.seq_ct, Mini.D.seq_rt, xx13, xx10, xx14, xx9, xx12, xx7, xx15, xx30, xx20, xx16, xx18, xx3, xx4, xx2, xx5, xx6, xx23, xx35, xx34, xx29, xx24, xx26, xx28, xx27, xx17, xx25, xx21, xx22, xx33, xx31, xx32, xx38, xx40, xx39, xx37, xx36, xx0, lvGet_0, lvGet_s, lvSet_0, lvSet_s, Option.map_some, capLV, List.map_cons, List.map_nil, Option.bind_none, Option.bind_some, Mini.F.den, lv0, List.length_cons, List.length_nil, if_true, reduceIte, Nat.reduceAdd, Nat.reduceLeDiff, Nat.reduceLT, List.getElem?_cons_zero, List.getElem?_cons_succ, Nat.zero_add, Int.reduceLT, Int.reduceLE, and_true, true_and, and_self, intRel, intOp, subS_t0, subS_t1, subS_t2, lenF, subI, get_end, eqS_int, eqS_spot, neS_int, ltS_int, decide_true, decide_false, Bool.not_true, Bool.not_false, KindOf.is, LIM, xx11, walkV, rangeF, Int.reduceEq, hb]
  refine seq_for (α := Int) spot (GI1 rl σ ns K) ns ?_ ?_ ?_ ?_ ?_
  · rw [keys_map]; simp [diag, Function.comp_def]
  · rintro done lv σ' ⟨_, _, _, h, _, _, _, _⟩; exact srcOk_same h
  · exact ⟨_, rfl, ⟨_, by rw [List.append_assoc]⟩, hb, [], rfl, by simp, by simp⟩
  · rintro done x rest lv σ' e ⟨a, rfl, hx, hb', xs, hxs, ht, hv⟩
    have hxd : x ∉ done := by
      rw [e] at hn
      intro hx
      exact (List.nodup_append.mp hn).2.2 x hx x List.mem_cons_self rfl
    have hl : xs.length < 60 := by rw [← List.length_map (f := (·.1)), hxs]; rw [e] at hlen; simp at hlen; lia
    have hs : subS (.loc (σ.length + 1)) (spot x) σ' = some (bodyOf (K x)) := by
      rw [subS_spot hb', aGet_of_mem (b := x) (by rw [diag_keys]; exact hn) (by simp [diag, e])]; rfl
    have st := storeItem_at beq_spot (k := x) (b := σ'.length) (get_app (t := [.list ((K x).map eK)]) ht) (key_spot x) (by lia)
    rw [aSet_new (by rw [hxs]; exact hxd)] at st
    refine ⟨[some (.loc rl), some (.loc σ.length), some (.loc (σ.length + 1)), some (spot x), none, none, none, none], _, rfl, ?_⟩
    simp only [xx8, Mini.D.seq_nx, Mini.D.seq_ct, Mini.D.seq_rt, xx13, xx10, xx14, xx9, xx12, xx7, xx15, xx30, xx20, xx16, xx18, xx3, xx4, xx2, xx5, xx6, xx23, xx35, xx34, xx29, xx24, xx26, xx28, xx27, xx17, xx25, xx21, xx22, xx33, xx31, xx32, xx38, xx40, xx39, xx37, xx36, xx0, lvGet_0, lvGet_s, lvSet_0, lvSet_s, Option.map_some, capLV, List.map_cons, List.map_nil, Option.bind_none, Option.bind_some, Mini.F.den, lv0, List.length_cons, List.length_nil, if_true, reduceIte, Nat.reduceAdd, Nat.reduceLeDiff, Nat.reduceLT, List.getElem?_cons_zero, List.getElem?_cons_succ, Nat.zero_add, Int.reduceLT, Int.reduceLE, and_true, true_and, and_self, intRel, intOp, subS_t0, subS_t1, subS_t2, lenF, subI, get_end, eqS_int, eqS_spot, neS_int, ltS_int, decide_true, decide_false, Bool.not_true, Bool.not_false, KindOf.is, LIM, xx11, walkV, rangeF, Int.reduceEq, hs, links_of_run (hK x), st]
    have hne : σ.length ≠ σ.length + 1 := by lia
    refine Gives.some ⟨_, rfl, (hx.app _).set _ (Nat.le_refl _), ?_, xs ++ [(x, σ'.length)], by simp [hxs], ?_, ?_⟩
    · rw [get_set_ne hne]; exact get_app hb'
    · exact get_set_eq (by have := hx.len; simp; lia)
    · intro p hp
      rcases List.mem_append.mp hp with hp | hp
      · rw [get_set_ne]
        · exact get_app (hv p hp)
        · intro e; have := hv p hp; rw [← e, ht] at this; cases this
      · rw [List.mem_singleton] at hp; subst hp
        rw [get_set_ne (Nat.ne_of_lt (lt_of_get ht))]; exact get_end
  · rintro lv σ₁ ⟨a, rfl, hx, hb', xs, hxs, ht, hv⟩
    have hal : allOf (.loc σ.length) (σ₁ ++ [.dict []]) = some (ns.map spot) := by
      simp only [allOf, get_app ht]; rw [keys_map, ← hxs, List.map_map]; rfl
    obtain ⟨ws, hw1, hw2⟩ := sorted_run hal (by simpa using by lia) (by simp [isPair])
    obtain ⟨ms, rfl, hms⟩ := perm_spot hw1
    simp only [xx8, Mini.D.seq_nx, Mini.D.seq_ct, Mini.D.seq_rt, xx13, xx10, xx14, xx9, xx12, xx7, xx15, xx30, xx20, xx16, xx18, xx3, xx4, xx2, xx5, xx6, xx23, xx35, xx34, xx29, xx24, xx26, xx28, xx27, xx17, xx25, xx21, xx22, xx33, xx31, xx32, xx38, xx40, xx39, xx37, xx36, xx0, lvGet_0, lvGet_s, lvSet_0, lvSet_s, Option.map_some, capLV, List.map_cons, List.map_nil, Option.bind_none, Option.bind_some, Mini.F.den, lv0, List.length_cons, List.length_nil, if_true, reduceIte, Nat.reduceAdd, Nat.reduceLeDiff, Nat.reduceLT, List.getElem?_cons_zero, List.getElem?_cons_succ, Nat.zero_add, Int.reduceLT, Int.reduceLE, and_true, true_and, and_self, intRel, intOp, subS_t0, subS_t1, subS_t2, lenF, subI, get_end, eqS_int, eqS_spot, neS_int, ltS_int, decide_true, decide_false, Bool.not_true, Bool.not_false, KindOf.is, LIM, xx11, walkV, rangeF, Int.reduceEq, hw2, get_end]
    have hget : ∀ i ∈ ns, ∃ l, aGet xs i = some l ∧ σ₁[l]? = some (.list ((K i).map eK)) := by
      intro i hi
      rw [← hxs] at hi
      obtain ⟨p, hp, rfl⟩ := List.mem_map.mp hi
      exact ⟨p.2, aGet_of_mem (by rw [hxs]; exact hn) hp, hv p hp⟩
    refine seq_for (α := Int) spot (GI2 rl σ σ₁ ms K) ms rfl ?_ ?_ ?_ ?_
    · rintro done lv σ' ⟨_, _, _, h, _, _, _, _⟩; exact srcOk_same h
    · exact ⟨_, rfl, ⟨_, by rw [List.append_assoc]⟩, get_end, [], rfl, by simp, by simp⟩
    · rintro done x rest lv σ' e ⟨a, rfl, hx', hb'', ys, hys, ht', hv'⟩
      have hmn := hms.nodup_iff.mpr hn
      have hxn : x ∈ ns := hms.mem_iff.mp (by rw [e]; simp)
      have hxd : x ∉ done := by
        rw [e] at hmn
        intro hx
        exact (List.nodup_append.mp hmn).2.2 x hx x List.mem_cons_self rfl
      have hl : ys.length < 60 := by
        have := hms.length_eq
        rw [← List.length_map (f := (·.1)), hys]; rw [e] at this; simp at this; lia
      obtain ⟨lx, hlx, hlx'⟩ := hget x hxn
      have hs : subS (.loc σ.length) (spot x) σ' = some (.loc lx) := by
        rw [subS_spot (hx'.get ht), hlx]; rfl
      obtain ⟨lv', σ'', hc1, _, _, _, _, hc2, hc3⟩ := compD_inv (mt := T.var 1) (mc := (C.and (C.cmp inS (E.sub (E.var 1) (E.const (.int 0))) (E.var 4)) (C.cmp neS (E.call f_data_to (L.cons (E.sub (E.var 4) (E.sub (E.var 1) (E.const (.int 0)))) (L.cons (E.var 3) L.nil))) (E.list L.nil)))) (mb := B.app (E.var 1)) (src := some (lx, .list ((K x).map eK))) (l := σ'.length) (lv := [none, none, none, some (spot x), some (.loc σ.length)]) (σ := σ' ++ [.list []])
        eK (GI3 σ σ' x) (K x) rfl
        (by rintro done lv σ'' ⟨_, _, _, _, h, _⟩; exact srcOk_same (h.get (hx'.get hlx')))
        (by
          rintro dn k rs lv σ'' ek ⟨a, b, c, rfl, h1, h2⟩
          have hk : k ∈ K x := by rw [ek]; simp
          obtain ⟨k1, k', k2, k3⟩ := hsym x hxn k hk
          obtain ⟨lo, hlo, hlo'⟩ := hget k.1 k1
          have hin : inS (spot k.1) (.loc σ.length) σ'' = some true := by
            rw [inS_spot (κ := Int) (h1.get (hx'.get ht)), hxs, decide_eq_true k1]
          have hs2 : subS (.loc σ.length) (spot k.1) σ'' = some (.loc lo) := by
            rw [subS_spot (h1.get (hx'.get ht)), hlo]; rfl
          have hd := data_to_run (i := x) (h1.get (hx'.get hlo')) (by have := hK k.1; lia)
          generalize hds : (K k.1).filterMap (fun k => if k.1 = x then some (V.int k.2.2) else none) = ds at hd
          have hdn : ∃ z zs, ds = .int z :: zs := by
            have : V.int k'.2.2 ∈ ds := by rw [← hds, List.mem_filterMap]; exact ⟨k', k2, by rw [if_pos k3]⟩
            cases ds with
            | nil => cases this
            | cons z zs =>
              have : z ∈ (K k.1).filterMap (fun k => if k.1 = x then some (V.int k.2.2) else none) := by rw [hds]; simp
              obtain ⟨q, _, hq⟩ := List.mem_filterMap.mp this
              split at hq
              · cases hq; exact ⟨_, _, rfl⟩
              · cases hq
          have hfl : flats ds = true := by
            rw [← hds]
            simp only [flats, List.all_eq_true, List.mem_filterMap]
            rintro v ⟨q, _, hq⟩
            split at hq
            · cases hq; rfl
            · cases hq
          have hne : neS (.loc σ''.length) (.loc (σ''.length + 1)) (σ'' ++ [.list ds] ++ [.list []]) = some true := by
            have a1 : (σ'' ++ [MObj.list ds] ++ [.list []])[σ''.length]? = some (.list ds) := get_app get_end
            have a2 : (σ'' ++ [MObj.list ds] ++ [.list []])[σ''.length + 1]? = some (.list []) := by simp
            obtain ⟨z, zs, rfl⟩ := hdn
            simp only [neS, eqS, a1, a2, hfl]
            rfl
          have hap := appendM_at (v := eK k) (get_app (t := [.list []]) (get_app (t := [.list ds]) h2)) (by rw [List.length_map]; have := hK x; rw [ek] at this; simp at this; lia)
          have hlt := lt_of_get h2
          refine ⟨[a, some (eK k), c, some (spot x), some (.loc σ.length)], σ'', true, σ'' ++ [.list ds] ++ [.list []], rfl, ?_, (fun h => by cases h), fun _ => ⟨[a, some (eK k), c, some (spot x), some (.loc σ.length)], (σ'' ++ [MObj.list ds] ++ [MObj.list []]).set σ'.length (MObj.list (dn.map eK ++ [eK k])), ?_, _, _, _, rfl, ((h1.app _).app _).set _ (Nat.le_refl _), ?_⟩⟩
          · simp only [xx8, Mini.D.seq_nx, Mini.D.seq_ct, Mini.D.seq_rt, xx13, xx10, xx14, xx9, xx12, xx7, xx15, xx30, xx20, xx16, xx18, xx3, xx4, xx2, xx5, xx6, xx23, xx35, xx34, xx29, xx24, xx26, xx28, xx27, xx17, xx25, xx21, xx22, xx33, xx31, xx32, xx38, xx40, xx39, xx37, xx36, xx0, lvGet_0, lvGet_s, lvSet_0, lvSet_s, Option.map_some, capLV, List.map_cons, List.map_nil, Option.bind_none, Option.bind_some, Mini.F.den, lv0, List.length_cons, List.length_nil, if_true, reduceIte, Nat.reduceAdd, Nat.reduceLeDiff, Nat.reduceLT, List.getElem?_cons_zero, List.getElem?_cons_succ, Nat.zero_add, Int.reduceLT, Int.reduceLE, and_true, true_and, and_self, intRel, intOp, subS_t0, subS_t1, subS_t2, lenF, subI, get_end, eqS_int, eqS_spot, neS_int, ltS_int, decide_true, decide_false, Bool.not_true, Bool.not_false, KindOf.is, LIM, xx11, walkV, rangeF, Int.reduceEq, hin, hs2, hd, hne, List.length_append]
          · simp only [xx8, Mini.D.seq_nx, Mini.D.seq_ct, Mini.D.seq_rt, xx13, xx10, xx14, xx9, xx12, xx7, xx15, xx30, xx20, xx16, xx18, xx3, xx4, xx2, xx5, xx6, xx23, xx35, xx34, xx29, xx24, xx26, xx28, xx27, xx17, xx25, xx21, xx22, xx33, xx31, xx32, xx38, xx40, xx39, xx37, xx36, xx0, lvGet_0, lvGet_s, lvSet_0, lvSet_s, Option.map_some, capLV, List.map_cons, List.map_nil, Option.bind_none, Option.bind_some, Mini.F.den, lv0, List.length_cons, List.length_nil, if_true, reduceIte, Nat.reduceAdd, Nat.reduceLeDiff, Nat.reduceLT, List.getElem?_cons_zero, List.getElem?_cons_succ, Nat.zero_add, Int.reduceLT, Int.reduceLE, and_true, true_and, and_self, intRel, intOp, subS_t0, subS_t1, subS_t2, lenF, subI, get_end, eqS_int, eqS_spot, neS_int, ltS_int, decide_true, decide_false, Bool.not_true, Bool.not_false, KindOf.is, LIM, xx11, walkV, rangeF, Int.reduceEq, hap]
          · rw [get_set_eq (by simp; lia)]; simp)
        ⟨_, _, _, rfl, ⟨_, rfl⟩, by simp⟩
      have st := storeItem_at beq_spot (k := x) (b := σ'.length) (hc2.get ht') (key_spot x) (by lia)
      rw [aSet_new (by rw [hys]; exact hxd)] at st
      refine ⟨[some (.loc rl), some (.loc σ.length), some (.loc (σ.length + 1)), some (spot x), some (.loc σ₁.length), none, none, none], _, rfl, ?_⟩
      simp only [xx8, Mini.D.seq_nx, Mini.D.seq_ct, Mini.D.seq_rt, xx13, xx10, xx14, xx9, xx12, xx7, xx15, xx30, xx20, xx16, xx18, xx3, xx4, xx2, xx5, xx6, xx23, xx35, xx34, xx29, xx24, xx26, xx28, xx27, xx17, xx25, xx21, xx22, xx33, xx31, xx32, xx38, xx40, xx39, xx37, xx36, xx0, lvGet_0, lvGet_s, lvSet_0, lvSet_s, Option.map_some, capLV, List.map_cons, List.map_nil, Option.bind_none, Option.bind_some, Mini.F.den, lv0, List.length_cons, List.length_nil, if_true, reduceIte, Nat.reduceAdd, Nat.reduceLeDiff, Nat.reduceLT, List.getElem?_cons_zero, List.getElem?_cons_succ, Nat.zero_add, Int.reduceLT, Int.reduceLE, and_true, true_and, and_self, intRel, intOp, subS_t0, subS_t1, subS_t2, lenF, subI, get_end, eqS_int, eqS_spot, neS_int, ltS_int, decide_true, decide_false, Bool.not_true, Bool.not_false, KindOf.is, LIM, xx11, walkV, rangeF, Int.reduceEq, xx19, hs, hx'.get hlx', hc1, st]
      refine Gives.some ⟨_, rfl, (hx'.trans hc2).set _ (Nat.le_refl _), ?_, ys ++ [(x, σ'.length)], by simp [hys], ?_, ?_⟩
      · rw [get_set_ne (by simp)]; exact hc2.get hb''
      · exact get_set_eq (lt_of_get (hc2.get ht'))
      · intro p hp
        rcases List.mem_append.mp hp with hp | hp
        · rw [get_set_ne]
          · exact hc2.get (hv' p hp)
          · intro e; have := hv' p hp; rw [← e, ht'] at this; cases this
        · rw [List.mem_singleton] at hp; subst hp
          rw [get_set_ne (Nat.ne_of_lt (lt_of_get ht'))]; exact hc3
    · rintro lv σ₂ ⟨a, rfl, hx', hb'', ys, hys, ht', hv'⟩
      simp only [xx8, Mini.D.seq_nx, Mini.D.seq_ct, Mini.D.seq_rt, xx13, xx10, xx14, xx9, xx12, xx7, xx15, xx30, xx20, xx16, xx18, xx3, xx4, xx2, xx5, xx6, xx23, xx35, xx34, xx29, xx24, xx26, xx28, xx27, xx17, xx25, xx21, xx22, xx33, xx31, xx32, xx38, xx40, xx39, xx37, xx36, xx0, lvGet_0, lvGet_s, lvSet_0, lvSet_s, Option.map_some, capLV, List.map_cons, List.map_nil, Option.bind_none, Option.bind_some, Mini.F.den, lv0, List.length_cons, List.length_nil, if_true, reduceIte, Nat.reduceAdd, Nat.reduceLeDiff, Nat.reduceLT, List.getElem?_cons_zero, List.getElem?_cons_succ, Nat.zero_add, Int.reduceLT, Int.reduceLE, and_true, true_and, and_self, intRel, intOp, subS_t0, subS_t1, subS_t2, lenF, subI, get_end, eqS_int, eqS_spot, neS_int, ltS_int, decide_true, decide_false, Bool.not_true, Bool.not_false, KindOf.is, LIM, xx11, walkV, rangeF, Int.reduceEq]
      refine Gives.some ⟨_, rfl, hx.trans hx', hx.len, ys, ht', fun i hi => ?_⟩
      have : i ∈ ys.map (·.1) := by rw [hys]; exact hms.mem_iff.mpr hi
      obtain ⟨p, hp, rfl⟩ := List.mem_map.mp this
      exact ⟨p.2, aGet_of_mem (by rw [hys]; exact hms.nodup_iff.mpr hn) hp, hv' p hp⟩
end Mini
end

section
namespace Mini
open PySem
noncomputable abbrev eL (l : Ln) : V := .tup [.int l.1, .int l.2.1, .int l.2.2]
noncomputable def nb (i : Int) (l : Ln) : Option (Int × Int × Int) := if i = l.1 ∨ i = l.2.1 then some (l.1 + l.2.1 - i, 5 ^ l.2.2.toNat, 9 * l.1 + l.2.1 + 40 * i) else none
noncomputable def nbs (L : List Ln) (i : Int) : List (Int × Int × Int) := L.filterMap (nb i)
set_option tactic.hygienic true in
theorem nbs_mem {many : Int} {L : List Ln} (G : GoodL many L) {i o c d : Int} (h : (o, c, d) ∈ nbs L i) : ∃ x, Ed L i o x ∧ c = cost x ∧ ∃ l ∈ L, d = 9 * l.1 + l.2.1 + 40 * i ∧ o = l.1 + l.2.1 - i := by
  obtain ⟨l, hl, h2⟩ := List.mem_filterMap.mp h
  have hg := G.lines l hl
  unfold nb at h2
  split at h2
  · rename_i hi
    simp only [Option.some.injEq, Prod.mk.injEq] at h2
    obtain ⟨rfl, rfl, rfl⟩ := h2
    refine ⟨l.2.2, ?_, cost_pow ⟨hg.2.2.2.1, hg.2.2.2.2⟩, l, hl, rfl, rfl⟩
    obtain ⟨a, b, x⟩ := l
    simp only at hi hl ⊢
    rcases hi with rfl | rfl
    · left; rw [show i + b - i = b by lia]; exact hl
    · right; rw [show a + i - i = a by lia]; exact hl
  · cases h2
theorem nbs_of {many : Int} {L : List Ln} (G : GoodL many L) {i o x : Int} (h : Ed L i o x) : ∃ d, (o, cost x, d) ∈ nbs L i := by
  rcases h with h | h
  · have hg := G.lines _ h
    refine ⟨9 * i + o + 40 * i, List.mem_filterMap.mpr ⟨_, h, ?_⟩⟩
    simp only [nb, true_or, if_true, Option.some.injEq, Prod.mk.injEq, and_true]
    exact ⟨by grind, cost_pow ⟨hg.2.2.2.1, hg.2.2.2.2⟩⟩
  · have hg := G.lines _ h
    refine ⟨9 * o + i + 40 * i, List.mem_filterMap.mpr ⟨_, h, ?_⟩⟩
    simp only [nb, or_true, if_true, Option.some.injEq, Prod.mk.injEq, and_true]
    exact ⟨by grind, cost_pow ⟨hg.2.2.2.1, hg.2.2.2.2⟩⟩
theorem nbs_len (L : List Ln) (i : Int) : (nbs L i).length ≤ L.length := List.length_filterMap_le _ _
theorem inS_pair (n a b : Int) (σ : Store) : inS (.int n) (.tup [.int a, .int b]) σ = some (decide (n = a ∨ n = b)) := by
  have : inS (.int n) (.tup [.int a, .int b]) σ = some (decide (a = n) || (decide (b = n) || false)) := rfl
  rw [this, Option.some.injEq, Bool.eq_iff_iff]
  simp only [Bool.or_eq_true, decide_eq_true_eq, Bool.false_eq_true, or_false]
  constructor
  · rintro (h | h)
    · exact Or.inl h.symm
    · exact Or.inr h.symm
  · rintro (h | h)
    · exact Or.inl h.symm
    · exact Or.inr h.symm

inductive LL1 (many : Int) (L : List Ln) (ll : Nat) (σ : Store) (done : List Int) (lv : LV) (σ' : Store) : Prop
  | mk (a b c d e : Option V) (hlv : lv = [some (.int many), some (.loc ll), some (.loc σ.length), a, b, c, d, e, none, none, none]) (x : Ext σ σ') (r : σ'[σ.length]? = some (.list (done.map (eR fun i => bodyOf (nbs L i))))) : LL1 many L ll σ done lv σ'
inductive LL2 (many : Int) (ll : Nat) (σ σ' : Store) (x : Int) (dn : List Ln) (lv : LV) (σ'' : Store) : Prop
  | mk (c d e : Option V) (hlv : lv = [some (.int many), some (.loc ll), some (.loc σ.length), some (.int x), some (.loc σ'.length), c, d, e, none, none, none]) (r : σ'' = σ' ++ [.list ((dn.filterMap (nb x)).map eB)]) : LL2 many ll σ σ' x dn lv σ''
theorem law_links_run {many : Int} {L : List Ln} (G : GoodL many L) {ll : Nat} {σ : Store} (hl : σ[ll]? = some (.list (L.map eL))) :
    Gives (f__law_links [.int many, .loc ll] σ) (LinksP σ (ids many) (nbs L)) := by
  have hlo := G.lo
  have hhi := G.hi
  refine den_gives rfl ?_
  unfold d__law_links
  simp only [xx8, Mini.D.seq_nx, Mini.D.seq_ct, Mini.D.seq_rt, xx13, xx10, xx14, xx9, xx12, xx7, xx15, xx30, xx20, xx16, xx18, xx3, xx4, xx2, xx5, xx6, xx23, xx35, xx34, xx29, xx24, xx26, xx28, xx27, xx17, xx25, xx21, xx22, xx33, xx31, xx32, xx38, xx40, xx39, xx37, xx36, xx0, lvGet_0, lvGet_s, lvSet_0, lvSet_s, Option.map_some, capLV, List.map_cons, List.map_nil, Option.bind_none, Option.bind_some, Mini.F.den, lv0, List.length_cons, List.length_nil, if_true, reduceIte, Nat.reduceAdd, Nat.reduceLeDiff, Nat.reduceLT, List.getElem?_cons_zero, List.getElem?_cons_succ, Nat.zero_add, Int.reduceLT, Int.reduceLE, and_true, true_and, and_self, intRel, intOp, subS_t0, subS_t1, subS_t2, lenF, subI, get_end, eqS_int, eqS_spot, neS_int, ltS_int, decide_true, decide_false, Bool.not_true, Bool.not_false, KindOf.is, LIM, xx11, walkV, rangeF, Int.reduceEq, addS]
  rw [if_pos (by lia)]
  simp only [xx8, Mini.D.seq_nx, Mini.D.seq_ct, Mini.D.seq_rt, xx13, xx10, xx14, xx9, xx12, xx7, xx15, xx30, xx20, xx16, xx18, xx3, xx4, xx2, xx5, xx6, xx23, xx35, xx34, xx29, xx24, xx26, xx28, xx27, xx17, xx25, xx21, xx22, xx33, xx31, xx32, xx38, xx40, xx39, xx37, xx36, xx0, lvGet_0, lvGet_s, lvSet_0, lvSet_s, Option.map_some, capLV, List.map_cons, List.map_nil, Option.bind_none, Option.bind_some, Mini.F.den, lv0, List.length_cons, List.length_nil, if_true, reduceIte, Nat.reduceAdd, Nat.reduceLeDiff, Nat.reduceLT, List.getElem?_cons_zero, List.getElem?_cons_succ, Nat.zero_add, Int.reduceLT, Int.reduceLE, and_true, true_and, and_self, intRel, intOp, subS_t0, subS_t1, subS_t2, lenF, subI, get_end, eqS_int, eqS_spot, neS_int, ltS_int, decide_true, decide_false, Bool.not_true, Bool.not_false, KindOf.is, LIM, xx11, walkV, rangeF, Int.reduceEq]
  refine seq_for (α := Int) V.int (LL1 many L ll σ) (ids many) (rng_ids many) ?_ ?_ ?_ ?_
  · intro _ _ _ _; rfl
  · exact ⟨_, _, _, _, _, rfl, ⟨_, rfl⟩, get_end⟩
  · rintro done x rest lv σ' e ⟨a, b, c, d, e', rfl, hx, hr⟩
    have hxr := mem_ids.mp (show x ∈ ids many by rw [e]; simp)
    have hll := hx.get hl
    refine ⟨[some (.int many), some (.loc ll), some (.loc σ.length), some (.int x), b, c, d, e', none, none, none], _, rfl, ?_⟩
    simp only [xx8, Mini.D.seq_nx, Mini.D.seq_ct, Mini.D.seq_rt, xx13, xx10, xx14, xx9, xx12, xx7, xx15, xx30, xx20, xx16, xx18, xx3, xx4, xx2, xx5, xx6, xx23, xx35, xx34, xx29, xx24, xx26, xx28, xx27, xx17, xx25, xx21, xx22, xx33, xx31, xx32, xx38, xx40, xx39, xx37, xx36, xx0, lvGet_0, lvGet_s, lvSet_0, lvSet_s, Option.map_some, capLV, List.map_cons, List.map_nil, Option.bind_none, Option.bind_some, Mini.F.den, lv0, List.length_cons, List.length_nil, if_true, reduceIte, Nat.reduceAdd, Nat.reduceLeDiff, Nat.reduceLT, List.getElem?_cons_zero, List.getElem?_cons_succ, Nat.zero_add, Int.reduceLT, Int.reduceLE, and_true, true_and, and_self, intRel, intOp, subS_t0, subS_t1, subS_t2, lenF, subI, get_end, eqS_int, eqS_spot, neS_int, ltS_int, decide_true, decide_false, Bool.not_true, Bool.not_false, KindOf.is, LIM, xx11, walkV, rangeF, Int.reduceEq, get_app hll]
    refine seq_for (α := Ln) eL (LL2 many ll σ σ' x) L rfl ?_ ?_ ?_ ?_
    · rintro dn lv σ'' ⟨_, _, _, _, rfl⟩; exact srcOk_same (get_app hll)
    · exact ⟨_, _, _, rfl, rfl⟩
    · rintro dn l rs lv σ'' el ⟨c, d, e'', rfl, rfl⟩
      have hg := G.lines l (by rw [el]; simp)
      refine ⟨[some (.int many), some (.loc ll), some (.loc σ.length), some (.int x), some (.loc σ'.length), some (.int l.1), some (.int l.2.1), some (.int l.2.2), none, none, none], _, rfl, ?_⟩
      have hp : powI 5 l.2.2 = some (5 ^ l.2.2.toNat) := by unfold powI; rw [if_pos (by lia)]
      have h9 : mulI 9 l.1 = some (9 * l.1) := rfl
      have h40 : mulI 40 x = some (40 * x) := rfl
      have hlen : ((dn.filterMap (nb x)).map eB).length < 1000000 := by
        have := List.length_filterMap_le (nb x) dn
        have h2 := G.short
        rw [el] at h2
        simp at h2 ⊢; lia
      by_cases hc : x = l.1 ∨ x = l.2.1
      · have hnb : nb x l = some (l.1 + l.2.1 - x, 5 ^ l.2.2.toNat, 9 * l.1 + l.2.1 + 40 * x) := by rw [nb, if_pos hc]
        simp only [xx8, Mini.D.seq_nx, Mini.D.seq_ct, Mini.D.seq_rt, xx13, xx10, xx14, xx9, xx12, xx7, xx15, xx30, xx20, xx16, xx18, xx3, xx4, xx2, xx5, xx6, xx23, xx35, xx34, xx29, xx24, xx26, xx28, xx27, xx17, xx25, xx21, xx22, xx33, xx31, xx32, xx38, xx40, xx39, xx37, xx36, xx0, lvGet_0, lvGet_s, lvSet_0, lvSet_s, Option.map_some, capLV, List.map_cons, List.map_nil, Option.bind_none, Option.bind_some, Mini.F.den, lv0, List.length_cons, List.length_nil, if_true, reduceIte, Nat.reduceAdd, Nat.reduceLeDiff, Nat.reduceLT, List.getElem?_cons_zero, List.getElem?_cons_succ, Nat.zero_add, Int.reduceLT, Int.reduceLE, and_true, true_and, and_self, intRel, intOp, subS_t0, subS_t1, subS_t2, lenF, subI, get_end, eqS_int, eqS_spot, neS_int, ltS_int, decide_true, decide_false, Bool.not_true, Bool.not_false, KindOf.is, LIM, xx11, walkV, rangeF, Int.reduceEq, inS_pair, hc, addS, h9, h40, hp, appendM_end hlen]
        exact Gives.some ⟨_, _, _, rfl, by simp [hnb]⟩
      · have hnb : nb x l = none := by rw [nb, if_neg hc]
        simp only [xx8, Mini.D.seq_nx, Mini.D.seq_ct, Mini.D.seq_rt, xx13, xx10, xx14, xx9, xx12, xx7, xx15, xx30, xx20, xx16, xx18, xx3, xx4, xx2, xx5, xx6, xx23, xx35, xx34, xx29, xx24, xx26, xx28, xx27, xx17, xx25, xx21, xx22, xx33, xx31, xx32, xx38, xx40, xx39, xx37, xx36, xx0, lvGet_0, lvGet_s, lvSet_0, lvSet_s, Option.map_some, capLV, List.map_cons, List.map_nil, Option.bind_none, Option.bind_some, Mini.F.den, lv0, List.length_cons, List.length_nil, if_true, reduceIte, Nat.reduceAdd, Nat.reduceLeDiff, Nat.reduceLT, List.getElem?_cons_zero, List.getElem?_cons_succ, Nat.zero_add, Int.reduceLT, Int.reduceLE, and_true, true_and, and_self, intRel, intOp, subS_t0, subS_t1, subS_t2, lenF, subI, get_end, eqS_int, eqS_spot, neS_int, ltS_int, decide_true, decide_false, Bool.not_true, Bool.not_false, KindOf.is, LIM, xx11, walkV, rangeF, Int.reduceEq, inS_pair, hc]
        exact Gives.some ⟨_, _, _, rfl, by simp [hnb]⟩
    · rintro lv σ'' ⟨c, d, e'', rfl, rfl⟩
      have h1 := get_app (t := [.list (((L.filterMap (nb x))).map eB)]) hr
      have hap := appendM_at (v := eR (fun i => bodyOf (nbs L i)) x) h1 (by
        have := ids_len many; rw [e] at this; simp at this ⊢; lia)
      have ht : tupleF [.loc σ'.length] (σ' ++ [.list ((L.filterMap (nb x)).map eB)]) = some (.tup ((nbs L x).map eB), σ' ++ [.list ((L.filterMap (nb x)).map eB)]) := by
        simp only [tupleF, get_end]; rfl
      simp only [xx8, Mini.D.seq_nx, Mini.D.seq_ct, Mini.D.seq_rt, xx13, xx10, xx14, xx9, xx12, xx7, xx15, xx30, xx20, xx16, xx18, xx3, xx4, xx2, xx5, xx6, xx23, xx35, xx34, xx29, xx24, xx26, xx28, xx27, xx17, xx25, xx21, xx22, xx33, xx31, xx32, xx38, xx40, xx39, xx37, xx36, xx0, lvGet_0, lvGet_s, lvSet_0, lvSet_s, Option.map_some, capLV, List.map_cons, List.map_nil, Option.bind_none, Option.bind_some, Mini.F.den, lv0, List.length_cons, List.length_nil, if_true, reduceIte, Nat.reduceAdd, Nat.reduceLeDiff, Nat.reduceLT, List.getElem?_cons_zero, List.getElem?_cons_succ, Nat.zero_add, Int.reduceLT, Int.reduceLE, and_true, true_and, and_self, intRel, intOp, subS_t0, subS_t1, subS_t2, lenF, subI, get_end, eqS_int, eqS_spot, neS_int, ltS_int, decide_true, decide_false, Bool.not_true, Bool.not_false, KindOf.is, LIM, xx11, walkV, rangeF, Int.reduceEq, h1, ht, hap]
      exact Gives.some ⟨_, _, _, _, _, rfl, (hx.app _).set _ (Nat.le_refl _), by rw [get_set_eq (lt_of_get h1)]; simp⟩
  · rintro lv σ' ⟨a, b, c, d, e, rfl, hx, hr⟩
    obtain ⟨⟨v, σ''⟩, h1, d', h2, h3, h4, h5⟩ := graph_run (K := nbs L) hr (ids_nodup many) (by rw [ids_len]; lia) (fun i => by have := nbs_len L i; have := G.short; lia) (fun i hi k hk => by
      obtain ⟨o, c, d⟩ := k
      obtain ⟨x, h1, h2, _⟩ := nbs_mem G hk
      obtain ⟨d', hd⟩ := nbs_of G h1.symm
      exact ⟨mem_ids.mpr (h1.rng G).2.1, _, hd, rfl⟩)
    simp only at h2 h3 h4 h5
    simp only [xx8, Mini.D.seq_nx, Mini.D.seq_ct, Mini.D.seq_rt, xx13, xx10, xx14, xx9, xx12, xx7, xx15, xx30, xx20, xx16, xx18, xx3, xx4, xx2, xx5, xx6, xx23, xx35, xx34, xx29, xx24, xx26, xx28, xx27, xx17, xx25, xx21, xx22, xx33, xx31, xx32, xx38, xx40, xx39, xx37, xx36, xx0, lvGet_0, lvGet_s, lvSet_0, lvSet_s, Option.map_some, capLV, List.map_cons, List.map_nil, Option.bind_none, Option.bind_some, Mini.F.den, lv0, List.length_cons, List.length_nil, if_true, reduceIte, Nat.reduceAdd, Nat.reduceLeDiff, Nat.reduceLT, List.getElem?_cons_zero, List.getElem?_cons_succ, Nat.zero_add, Int.reduceLT, Int.reduceLE, and_true, true_and, and_self, intRel, intOp, subS_t0, subS_t1, subS_t2, lenF, subI, get_end, eqS_int, eqS_spot, neS_int, ltS_int, decide_true, decide_false, Bool.not_true, Bool.not_false, KindOf.is, LIM, xx11, walkV, rangeF, Int.reduceEq, h1]
    exact Gives.some ⟨d', h2, hx.trans h3, by have := hx.len; lia, h5⟩
end Mini
end

section
namespace Mini
open PySem

structure DI (L : List Ln) (r : Int) (cs : List (Int × Int)) (dn : List (Int × Unit)) : Prop where
  nd : (cs.map (·.1)).Nodup
  root : aGet cs r = some 0
  walk : ∀ v c, aGet cs v = some c → ∃ a b k, Wk L r v a b k ∧ c = 25 * a + 5 * b + k
  sub : ∀ u ∈ dn.map (·.1), ∃ c, aGet cs u = some c
  clos : ∀ u c, u ∈ dn.map (·.1) → aGet cs u = some c → ∀ v x, Ed L u v x → ∃ d, aGet cs v = some d ∧ d ≤ c + cost x
  ord : ∀ u c v d, u ∈ dn.map (·.1) → aGet cs u = some c → v ∉ dn.map (·.1) → aGet cs v = some d → c ≤ d
structure DN (L : List Ln) (r : Int) (u cu : Int) (dn : List Int) (dk : List (Int × Int × Int)) (cs : List (Int × Int)) : Prop where
  nd : (cs.map (·.1)).Nodup
  root : aGet cs r = some 0
  walk : ∀ v c, aGet cs v = some c → ∃ a b k, Wk L r v a b k ∧ c = 25 * a + 5 * b + k
  cur : aGet cs u = some cu
  sub : ∀ x ∈ dn, ∃ c, aGet cs x = some c ∧ c ≤ cu
  clos : ∀ y c, y ∈ dn → aGet cs y = some c → ∀ v x, Ed L y v x → ∃ d, aGet cs v = some d ∧ d ≤ c + cost x
  clos2 : ∀ k ∈ dk, ∃ d, aGet cs k.1 = some d ∧ d ≤ cu + k.2.1
  ord : ∀ v d, v ∉ dn → v ≠ u → aGet cs v = some d → cu ≤ d
section
variable {many : Int} {L : List Ln} (G : GoodL many L) {r u cu : Int} {dn : List Int} {dk : List (Int × Int × Int)} {cs : List (Int × Int)}
include G
theorem DN.skip (h : DN L r u cu dn dk cs) {k : Int × Int × Int} (hk : k ∈ nbs L u) (hd : ∃ d, aGet cs k.1 = some d ∧ d ≤ cu + k.2.1) : DN L r u cu dn (dk ++ [k]) cs :=
  ⟨h.nd, h.root, h.walk, h.cur, h.sub, h.clos, (fun q hq => by
      rcases List.mem_append.mp hq with hq | hq
      · exact h.clos2 q hq
      · rw [List.mem_singleton] at hq; subst hq; exact hd), h.ord⟩
theorem DN.skip1 (h : DN L r u cu dn dk cs) {k : Int × Int × Int} (hk : k ∈ nbs L u) (hd : k.1 ∈ dn ∨ k.1 = u) : DN L r u cu dn (dk ++ [k]) cs := by
  obtain ⟨o, w, d⟩ := k
  obtain ⟨x, he, rfl, _⟩ := nbs_mem G hk
  have hx := he.rng G
  have hc := cost_pos ⟨hx.2.2.1, hx.2.2.2.1⟩
  refine h.skip G hk ?_
  rcases hd with hd | hd
  · obtain ⟨c, h1, h2⟩ := h.sub _ hd
    exact ⟨c, h1, by show c ≤ cu + cost x; lia⟩
  · exact absurd hd.symm hx.2.2.2.2
set_option tactic.hygienic true in
theorem DN.put (h : DN L r u cu dn dk cs) {k : Int × Int × Int} (hk : k ∈ nbs L u) (h1 : k.1 ∉ dn) (h2 : k.1 ≠ u) (hd : aGet cs k.1 = none ∨ ∃ d, aGet cs k.1 = some d ∧ cu + k.2.1 < d) :
    DN L r u cu dn (dk ++ [k]) (aSet cs k.1 (cu + k.2.1)) := by
  obtain ⟨o, w, d⟩ := k
  obtain ⟨x, he, rfl, _⟩ := nbs_mem G hk
  have hx := he.rng G
  have hc := cost_pos ⟨hx.2.2.1, hx.2.2.2.1⟩
  simp only at h1 h2 hd ⊢
  have hlt : ∀ d, aGet cs o = some d → cu + cost x < d := by
    intro d hd'
    rcases hd with hd | ⟨d', hd, hl⟩
    · rw [hd] at hd'; cases hd'
    · rw [hd] at hd'; cases hd'; exact hl
  have hor : o ≠ r ∨ True := Or.inr trivial
  have hne : ∀ y, y ∈ dn → o ≠ y := fun y hy e => h1 (e ▸ hy)
  have low : ∀ v d, aGet cs v = some d → ∃ d', aGet (aSet cs o (cu + cost x)) v = some d' ∧ d' ≤ d := by
    intro v d hv
    rw [aGet_set]
    by_cases e : o = v
    · subst e; rw [if_pos rfl]; exact ⟨_, rfl, by have := hlt _ hv; lia⟩
    · rw [if_neg e]; exact ⟨d, hv, by lia⟩
  refine ⟨aSet_nodup h.nd _ _, ?_, ?_, ?_, ?_, ?_, ?_, ?_⟩
  · rw [aGet_set]
    by_cases e : o = r
    · subst e
      have := hlt _ h.root
      obtain ⟨a, b, k, hw, e2⟩ := h.walk _ _ h.cur
      have := hw.nonneg G
      lia
    · rw [if_neg e]; exact h.root
  · intro v c hv
    rw [aGet_set] at hv
    split at hv
    · rename_i e; subst e
      cases hv
      obtain ⟨a, b, k, hw, e2⟩ := h.walk _ _ h.cur
      exact ⟨_, _, _, Wk.snoc hw he, by unfold cost; lia⟩
    · exact h.walk _ _ hv
  · rw [aGet_set, if_neg h2]; exact h.cur
  · intro y hy
    rw [aGet_set, if_neg (hne y hy)]; exact h.sub y hy
  · intro y c hy hg v z hz
    rw [aGet_set, if_neg (hne y hy)] at hg
    obtain ⟨d, k1, k2⟩ := h.clos y c hy hg v z hz
    obtain ⟨d', k3, k4⟩ := low v d k1
    exact ⟨d', k3, by lia⟩
  · intro q hq
    rcases List.mem_append.mp hq with hq | hq
    · obtain ⟨d, k1, k2⟩ := h.clos2 q hq
      obtain ⟨d', k3, k4⟩ := low _ d k1
      exact ⟨d', k3, by lia⟩
    · rw [List.mem_singleton] at hq; subst hq
      exact ⟨cu + cost x, by rw [aGet_set, if_pos rfl], Int.le_refl _⟩
  · intro v d hv1 hv2 hg
    rw [aGet_set] at hg
    split at hg
    · cases hg; lia
    · exact h.ord v d hv1 hv2 hg
theorem DI.start {dn : List (Int × Unit)} (h : DI L r cs dn) (hu : aGet cs u = some cu) (hn : u ∉ dn.map (·.1)) (hm : ∀ v d, aGet cs v = some d → v ∉ dn.map (·.1) → cu ≤ d) : DN L r u cu (dn.map (·.1)) [] cs :=
  ⟨h.nd, h.root, h.walk, hu, fun x hx => let ⟨c, hc⟩ := h.sub x hx; ⟨c, hc, h.ord _ _ _ _ hx hc hn hu⟩, h.clos, (fun k hk => by cases hk), fun v d hv _ hg => hm v d hg hv⟩
theorem DN.stop {dn : List (Int × Unit)} (h : DN L r u cu (dn.map (·.1)) (nbs L u) cs) : DI L r cs (dn ++ [(u, ())]) := by
  have hmem : ∀ x, x ∈ (dn ++ [(u, ())]).map (·.1) ↔ x ∈ dn.map (·.1) ∨ x = u := by intro x; rw [List.map_append, List.mem_append]; simp
  refine ⟨h.nd, h.root, h.walk, ?_, ?_, ?_⟩
  · intro x hx
    rcases (hmem x).mp hx with hx | rfl
    · obtain ⟨c, hc, _⟩ := h.sub x hx; exact ⟨c, hc⟩
    · exact ⟨_, h.cur⟩
  · intro y c hy hg v x he
    rcases (hmem y).mp hy with hy | rfl
    · exact h.clos y c hy hg v x he
    · rw [h.cur] at hg; cases hg
      obtain ⟨d, hd⟩ := nbs_of G he
      exact h.clos2 _ hd
  · intro y c v d hy hg hv hgv
    have hv' : v ∉ dn.map (·.1) ∧ v ≠ u := ⟨fun e => hv ((hmem v).mpr (Or.inl e)), fun e => hv ((hmem v).mpr (Or.inr e))⟩
    have := h.ord v d hv'.1 hv'.2 hgv
    rcases (hmem y).mp hy with hy | rfl
    · obtain ⟨c', hc', hl⟩ := h.sub y hy
      rw [hc'] at hg; cases hg; lia
    · rw [h.cur] at hg; cases hg; lia
theorem DI.done {dn : List (Int × Unit)} (h : DI L r cs dn) (ha : ∀ x ∈ cs, x.1 ∈ dn.map (·.1)) : DistMap L r cs :=
  distMap_of h.nd (aGet_mem h.root) (fun v c hv => h.walk v c (aGet_of_mem h.nd hv)) (fun u c hu v x he => by
    obtain ⟨d, h1, h2⟩ := h.clos u c (ha _ hu) (aGet_of_mem h.nd hu) v x he
    exact ⟨d, aGet_mem h1, h2⟩)
theorem DI.first : DI L r [(r, 0)] [] :=
  ⟨by simp, by simp [aGet], (fun v c h => by
    have := aGet_mem h
    rw [List.mem_singleton] at this
    cases this
    exact ⟨0, 0, 0, Wk.nil, by grind⟩), (fun u hu => by cases hu), (fun u c hu => by cases hu), (fun u c v d hu => by cases hu)⟩
theorem DI.small {dn : List (Int × Unit)} (h : DI L r cs dn) (hr : 1 ≤ r ∧ r ≤ many) : cs.length ≤ many.toNat ∧ ∀ v ∈ cs.map (·.1), 1 ≤ v ∧ v ≤ many := by
  have k : ∀ v ∈ cs.map (·.1), 1 ≤ v ∧ v ≤ many := by
    intro v hv
    obtain ⟨c, hc⟩ := Option.isSome_iff_exists.mp (aGet_isSome.mpr hv)
    obtain ⟨a, b, k, hw, _⟩ := h.walk _ _ hc
    exact hw.rng G hr
  have := nodup_len h.nd (m := ids many) (fun x hx => mem_ids.mpr (k x hx))
  rw [ids_len, List.length_map] at this
  exact ⟨this, k⟩
end
end Mini
end

section
namespace Mini
open PySem
noncomputable def dTail : SDen := (D.cons (D.assign (T.var 12) (E.bin addS (E.sub (E.var 3) (E.var 6)) (E.sub (E.var 8) (E.const (.int 1))))) (D.cons (D.ite (C.or (C.cmp notInS (E.var 9) (E.var 3)) (C.cmp ltS (E.var 12) (E.sub (E.var 3) (E.var 9)))) (D.cons (D.assign (T.tup 2 (Ts.cons (T.sub (E.var 3) (E.var 9)) (Ts.cons (T.sub (E.var 4) (E.var 9)) Ts.nil))) (E.tup (L.cons (E.var 12) (L.cons (E.var 11) L.nil)))) D.nil) (D.cons (D.ite (C.cmp eqS (E.var 12) (E.sub (E.var 3) (E.var 9))) (D.cons (D.assign (T.sub (E.var 4) (E.var 9)) (E.call f_joined_hops (L.cons (E.sub (E.var 4) (E.var 9)) (L.cons (E.var 11) L.nil)))) D.nil) D.nil) D.nil)) D.nil))
noncomputable def dTold : SDen := (D.ite (C.cmp eqS (E.var 6) (E.var 1)) (D.cons (D.assign (T.var 11) (E.call f_hops_from_root (L.cons (E.var 0) (L.cons (E.var 1) (L.cons (E.var 2) (L.cons (E.var 8) (L.cons (E.var 10) L.nil))))))) D.nil) (D.cons (D.assign (T.var 11) (E.call f_hops_beyond (L.cons (E.var 0) (L.cons (E.sub (E.var 4) (E.var 6)) (L.cons (E.var 6) (L.cons (E.var 9) L.nil)))))) D.nil))
noncomputable def dBody : SDen := (D.cons (D.assign (T.var 9) (E.sub (E.var 8) (E.const (.int 0)))) (D.cons (D.assign (T.var 10) (E.meth .list countM (E.var 7) (L.cons (E.var 9) L.nil))) (D.cons (D.expr (E.meth .list appendM (E.var 7) (L.cons (E.var 9) L.nil))) (D.cons (D.ite (C.cmp inS (E.var 9) (E.var 5)) (D.cons D.cont D.nil) D.nil) (D.cons dTold dTail)))))
noncomputable def dTurn : SDen := (D.cons (D.assign (T.sub (E.var 5) (E.var 6)) (E.const (.bool true))) (D.cons (D.assign (T.var 7) (E.list L.nil)) (D.cons (D.for (It.val (E.meth .dict getM (E.var 0) (L.cons (E.var 6) (L.cons (E.list L.nil) L.nil)))) (T.var 8) dBody) (D.cons (D.assign (T.var 6) (E.call f_nearest_spot (L.cons (E.var 3) (L.cons (E.var 5) L.nil)))) D.nil))))

inductive HopAt (σ : Store) (l : Nat) (D : List Int) : Prop
  | mk (ds : List Int) (h : σ[l]? = some (.list (ds.map eH))) (nd : ds.Nodup) (s : ∀ x ∈ ds, x ∈ D) : HopAt σ l D
theorem HopAt.ext {σ σ' : Store} {l : Nat} {D : List Int} (h : HopAt σ l D) (e : Ext σ σ') : HopAt σ' l D := let ⟨ds, a, b, c⟩ := h; ⟨ds, e.get a, b, c⟩
theorem HopAt.setD {σ : Store} {l l' : Nat} {D : List Int} {es : List (V × V)} {o : MObj} (h : HopAt σ l D) (k : σ[l']? = some (.dict es)) : HopAt (σ.set l' o) l D := by
  obtain ⟨ds, a, b, c⟩ := h
  refine ⟨ds, ?_, b, c⟩
  rw [get_set_ne]; exact a
  intro e; subst e; rw [k] at a; cases a
theorem HopAt.setN {σ : Store} {l l' : Nat} {D : List Int} {o : MObj} (h : HopAt σ l D) (k : l' ≠ l) : HopAt (σ.set l' o) l D := by
  obtain ⟨ds, a, b, c⟩ := h
  exact ⟨ds, by rw [get_set_ne k]; exact a, b, c⟩
noncomputable def DD (L : List Ln) (r : Int) : List Int := L.map fun l => 9 * l.1 + l.2.1 + 40 * (l.1 + l.2.1 - r)
noncomputable abbrev tt1 : Unit → V := fun _ => V.bool true
structure SpS (σ0 σ : Store) (D : List Int) (cs : List (Int × Int)) (hs : List (Int × Nat)) (dn : List (Int × Unit)) : Prop where
  ext : Ext σ0 σ
  c : σ[σ0.length]? = some (.dict (cs.map (eD spot V.int)))
  h : σ[σ0.length + 1]? = some (.dict (hs.map (eD spot V.loc)))
  d : σ[σ0.length + 3]? = some (.dict (dn.map (eD spot tt1)))
  hk : hs.map (·.1) = cs.map (·.1)
  ok : ∀ p ∈ hs, HopAt σ p.2 D
theorem SpS.grow {σ0 σ σ' : Store} {D : List Int} {cs : List (Int × Int)} {hs : List (Int × Nat)} {dn : List (Int × Unit)} (S : SpS σ0 σ D cs hs dn) (e : Ext σ σ') : SpS σ0 σ' D cs hs dn :=
  ⟨S.ext.trans e, e.get S.c, e.get S.h, e.get S.d, S.hk, fun p hp => (S.ok p hp).ext e⟩
theorem aSet_mem {κ β : Type} [DecidableEq κ] {xs : List (κ × β)} {k : κ} {b : β} {p : κ × β} (h : p ∈ aSet xs k b) : p ∈ xs ∨ p = (k, b) := by
  induction xs with
  | nil => right; simpa [aSet] using h
  | cons x xs ih =>
    obtain ⟨k0, v0⟩ := x
    by_cases e : k0 = k
    · subst e
      rw [aSet, if_pos rfl] at h
      rcases List.mem_cons.mp h with h | h
      · right; exact h
      · left; exact List.mem_cons_of_mem _ h
    · rw [aSet, if_neg e] at h
      rcases List.mem_cons.mp h with h | h
      · left; rw [h]; exact List.mem_cons_self
      · rcases ih h with h | h
        · left; exact List.mem_cons_of_mem _ h
        · right; exact h

section
variable {many : Int} {L : List Ln} (G : GoodL many L)
include G
theorem back_mem {r o : Int} {k : Int × Int × Int} (hk : k ∈ nbs L o) (h : k.1 = r) : k.2.2 ∈ DD L r := by
  obtain ⟨a, c, d⟩ := k
  obtain ⟨x, _, _, l, hl, h1, h2⟩ := nbs_mem G hk
  simp only at h
  subst h
  refine List.mem_map.mpr ⟨l, hl, ?_⟩
  show _ = d
  rw [h1, h2]; grind
set_option tactic.hygienic true in
theorem hfr_run {dk w : Nat} {r o c dt turn : Int} {σ : Store} (hL : LinksAt σ dk (ids many) (nbs L)) (hw : σ[w]? = some (.dict [])) (ho : o ∈ ids many) (ht : 0 ≤ turn) (hb : ∃ k ∈ nbs L o, k.1 = r) :
    ∃ l σ', f_hops_from_root [.loc dk, spot r, .loc w, eK (o, c, dt), .int turn] σ = some (.loc l, σ') ∧ Ext σ σ' ∧ σ.length ≤ l ∧ HopAt σ' l (DD L r) := by
  obtain ⟨xs, hd, hg⟩ := hL
  obtain ⟨lo, h1, h2⟩ := hg o ho
  have hs : subS (.loc dk) (spot o) σ = some (.loc lo) := by rw [subS_spot hd, h1]; rfl
  have hlen : (nbs L o).length ≤ 100000 := by have := nbs_len L o; have := G.short; omega
  have hdt := data_to_run (i := r) h2 hlen
  generalize hB : (nbs L o).filterMap (fun k => if k.1 = r then some (V.int k.2.2) else none) = B at hdt
  have hBl : 0 < B.length := by
    obtain ⟨k, hk, e⟩ := hb
    have : V.int k.2.2 ∈ B := by rw [← hB, List.mem_filterMap]; exact ⟨k, hk, by rw [if_pos e]⟩
    exact List.length_pos_of_mem this
  have hBm : ∀ v ∈ B, ∃ x, v = .int x ∧ x ∈ DD L r := by
    intro v hv
    rw [← hB, List.mem_filterMap] at hv
    obtain ⟨k, hk, e⟩ := hv
    split at e
    · rename_i e2; cases e; exact ⟨_, rfl, back_mem G hk e2⟩
    · cases e
  have hB2 : B.length ≤ 100000 := by rw [← hB]; exact Nat.le_trans (List.length_filterMap_le _ _) hlen
  obtain ⟨i, hi, hi1, hi2⟩ : ∃ i : Int, minF [.int turn, .int ((B.length : Int) - 1)] (σ ++ [.list B]) = some (.int i, σ ++ [.list B]) ∧ 0 ≤ i ∧ i < B.length := by
    refine ⟨if (B.length : Int) - 1 < turn then (B.length : Int) - 1 else turn, rfl, ?_, ?_⟩ <;> split <;> omega
  obtain ⟨x, hx, hxD⟩ := hBm B[i.toNat] (List.getElem_mem (by omega))
  have hsub : subS (.loc σ.length) (.int i) (σ ++ [.list B]) = some (.int x) := by
    simp only [subS, get_end]; rw [if_pos ⟨hi1, by omega⟩, List.getElem?_eq_getElem (by omega), hx]
  have hw' := get_app (t := [.list B]) hw
  refine ⟨σ.length + 1, σ ++ [.list B] ++ [.list [eH x]], ?_, (Ext.rfl.app _).app _, by omega, [x], by simp, by simp, by simpa using hxD⟩
  have k0 : V.key 6 (.int dt) = true := rfl
  have k1 : V.key 6 (.tup [.int dt, .int 1, .int o]) = true := rfl
  have ha : addS (.tup [.int dt]) (spot o) (σ ++ [.list B]) = some (.tup [.int dt, .int 1, .int o], σ ++ [.list B]) := rfl
  unfold f_hops_from_root d_hops_from_root
  simp only [xx8, Mini.D.seq_nx, Mini.D.seq_ct, Mini.D.seq_rt, xx13, xx10, xx14, xx9, xx12, xx7, xx15, xx30, xx20, xx16, xx18, xx3, xx4, xx2, xx5, xx6, xx23, xx35, xx34, xx29, xx24, xx26, xx28, xx27, xx17, xx25, xx21, xx22, xx33, xx31, xx32, xx38, xx40, xx39, xx37, xx36, xx0, lvGet_0, lvGet_s, lvSet_0, lvSet_s, Option.map_some, capLV, List.map_cons, List.map_nil, Option.bind_none, Option.bind_some, Mini.F.den, lv0, List.length_cons, List.length_nil, if_true, reduceIte, Nat.reduceAdd, Nat.reduceLeDiff, Nat.reduceLT, List.getElem?_cons_zero, List.getElem?_cons_succ, Nat.zero_add, Int.reduceLT, Int.reduceLE, and_true, true_and, and_self, intRel, intOp, subS_t0, subS_t1, subS_t2, lenF, subI, get_end, eqS_int, eqS_spot, neS_int, ltS_int, decide_true, decide_false, Bool.not_true, Bool.not_false, KindOf.is, LIM, xx11, walkV, rangeF, Int.reduceEq, hw, getM, k0, dGet, Option.getD_none, hs, hdt, hw', k1, hi, hsub, ha, List.length_append, Int.reduceSub]
end

noncomputable abbrev tlLV (σ0 : Store) (a0 a1 a2 a7 a10 : Option V) (u o w d : Int) (tl : Nat) (a12 : Option V) : LV := [a0, a1, a2, some (.loc σ0.length), some (.loc (σ0.length + 1)), some (.loc (σ0.length + 3)), some (spot u), a7, some (eK (o, w, d)), some (spot o), a10, some (.loc tl), a12, none, none, none, none, none]
inductive TailP (σ0 σ : Store) (D : List Int) (cs : List (Int × Int)) (dn : List (Int × Unit)) (a0 a1 a2 a7 a10 : Option V) (u o w d cu : Int) (tl sl : Nat) (sn : List V) (p : F × LV × Store) : Prop
  | mk (cs' : List (Int × Int)) (hs' : List (Int × Nat)) (e : p.1 = .nx) (hlv : p.2.1 = tlLV σ0 a0 a1 a2 a7 a10 u o w d tl (some (.int (cu + w)))) (S : SpS σ0 p.2.2 D cs' hs' dn) (n : ∀ p ∈ hs', p.2 ≠ sl) (g : p.2.2[sl]? = some (.list sn)) (l : σ.length ≤ p.2.2.length)
    (c : (cs' = aSet cs o (cu + w) ∧ (aGet cs o = none ∨ ∃ d, aGet cs o = some d ∧ cu + w < d)) ∨ (cs' = cs ∧ ∃ d, aGet cs o = some d ∧ d ≤ cu + w)) : TailP σ0 σ D cs dn a0 a1 a2 a7 a10 u o w d cu tl sl sn p
theorem tail_run {σ0 σ : Store} {D : List Int} {cs : List (Int × Int)} {hs : List (Int × Nat)} {dn : List (Int × Unit)} (S : SpS σ0 σ D cs hs dn) {a0 a1 a2 a7 a10 a12 : Option V} {u o w d cu : Int} {tl sl : Nat}
    (hcu : aGet cs u = some cu) (hT : HopAt σ tl D) (hlen : cs.length ≤ 1000) (hD : D.length ≤ 1000) (hne : ∀ p ∈ hs, p.2 ≠ sl) (htl : tl ≠ sl) (hsl : sl < σ.length) {sn : List V} (hsn : σ[sl]? = some (.list sn)) :
    Gives (dTail [a0, a1, a2, some (.loc σ0.length), some (.loc (σ0.length + 1)), some (.loc (σ0.length + 3)), some (spot u), a7, some (eK (o, w, d)), some (spot o), a10, some (.loc tl), a12, none, none, none, none, none] σ) (TailP σ0 σ D cs dn a0 a1 a2 a7 a10 u o w d cu tl sl sn) := by
  have hs1 : subS (.loc σ0.length) (spot u) σ = some (.int cu) := by rw [subS_spot S.c, hcu]; rfl
  have hhl : hs.length ≤ 1000 := by rw [← List.length_map (f := (·.1)), S.hk, List.length_map]; exact hlen
  have hin : notInS (spot o) (.loc σ0.length) σ = some (!decide (o ∈ cs.map (·.1))) := by rw [notInS, inS_spot (κ := Int) S.c]; rfl
  have ne1 : σ0.length ≠ σ0.length + 1 := by lia
  have ne2 : σ0.length ≠ σ0.length + 3 := by lia
  have ne3 : σ0.length + 1 ≠ σ0.length + 3 := by lia
  have ne4 : σ0.length + 1 ≠ σ0.length := by lia
  have ns1 : σ0.length ≠ sl := by intro e; rw [← e, S.c] at hsn; cases hsn
  have ns2 : σ0.length + 1 ≠ sl := by intro e; rw [← e, S.h] at hsn; cases hsn

  have put : (aGet cs o = none ∨ ∃ d, aGet cs o = some d ∧ cu + w < d) → ∃ σ1 σ2, storeItem σ0.length (spot o) (.int (cu + w)) σ = some σ1 ∧ storeItem (σ0.length + 1) (spot o) (.loc tl) σ1 = some σ2 ∧
      SpS σ0 σ2 D (aSet cs o (cu + w)) (aSet hs o tl) dn ∧ σ2[sl]? = some (.list sn) ∧ σ.length ≤ σ2.length := by
    intro _
    have s1 := storeItem_at beq_spot (k := o) (b := cu + w) S.c (key_spot o) (by lia)
    have hh : (σ.set σ0.length (.dict ((aSet cs o (cu + w)).map (eD spot V.int))))[σ0.length + 1]? = some (.dict (hs.map (eD spot V.loc))) := by rw [get_set_ne ne1]; exact S.h
    have s2 := storeItem_at beq_spot (k := o) (b := tl) hh (key_spot o) (by lia)
    have l1 := lt_of_get S.c
    have l2 := lt_of_get S.h
    refine ⟨_, _, s1, s2, ⟨(S.ext.set _ (Nat.le_refl _)).set _ (by lia), ?_, ?_, ?_, ?_, ?_⟩, ?_, by simp⟩
    · rw [get_set_ne ne4, get_set_eq l1]
    · rw [get_set_eq (by simpa using l2)]
    · rw [get_set_ne ne3, get_set_ne ne2]; exact S.d
    · rw [aSet_keys, aSet_keys, S.hk]
    · intro p hp
      rcases aSet_mem hp with hp | rfl
      · exact ((S.ok p hp).setD S.c).setD hh
      · exact (hT.setD S.c).setD hh
    · rw [get_set_ne ns2, get_set_ne ns1]; exact hsn
  unfold dTail
  cases hg : aGet cs o with
  | none =>
    obtain ⟨σ1, σ2, s1, s2, S2, hs2, hl2⟩ := put (Or.inl hg)
    have hno : ¬ o ∈ cs.map (·.1) := aGet_none.mp hg
    simp only [xx8, Mini.D.seq_nx, Mini.D.seq_ct, Mini.D.seq_rt, xx13, xx10, xx14, xx9, xx12, xx7, xx15, xx30, xx20, xx16, xx18, xx3, xx4, xx2, xx5, xx6, xx23, xx35, xx34, xx29, xx24, xx26, xx28, xx27, xx17, xx25, xx21, xx22, xx33, xx31, xx32, xx38, xx40, xx39, xx37, xx36, xx0, lvGet_0, lvGet_s, lvSet_0, lvSet_s, Option.map_some, capLV, List.map_cons, List.map_nil, Option.bind_none, Option.bind_some, Mini.F.den, lv0, List.length_cons, List.length_nil, if_true, reduceIte, Nat.reduceAdd, Nat.reduceLeDiff, Nat.reduceLT, List.getElem?_cons_zero, List.getElem?_cons_succ, Nat.zero_add, Int.reduceLT, Int.reduceLE, and_true, true_and, and_self, intRel, intOp, subS_t0, subS_t1, subS_t2, lenF, subI, get_end, eqS_int, eqS_spot, neS_int, ltS_int, decide_true, decide_false, Bool.not_true, Bool.not_false, KindOf.is, LIM, xx11, walkV, rangeF, Int.reduceEq, hs1, addS, hin, hno, s1, s2]
    refine Gives.some ⟨_, _, rfl, rfl, S2, fun p hp => ?_, hs2, hl2, Or.inl ⟨rfl, Or.inl hg⟩⟩
    rcases aSet_mem hp with hp | rfl
    · exact hne p hp
    · exact htl
  | some d0 =>
    have hno : o ∈ cs.map (·.1) := aGet_isSome.mp (by rw [hg]; rfl)
    have hs2 : subS (.loc σ0.length) (spot o) σ = some (.int d0) := by rw [subS_spot S.c, hg]; rfl
    by_cases hlt : cu + w < d0
    · obtain ⟨σ1, σ2, s1, s2, S2, hs3, hl2⟩ := put (Or.inr ⟨d0, hg, hlt⟩)
      simp only [xx8, Mini.D.seq_nx, Mini.D.seq_ct, Mini.D.seq_rt, xx13, xx10, xx14, xx9, xx12, xx7, xx15, xx30, xx20, xx16, xx18, xx3, xx4, xx2, xx5, xx6, xx23, xx35, xx34, xx29, xx24, xx26, xx28, xx27, xx17, xx25, xx21, xx22, xx33, xx31, xx32, xx38, xx40, xx39, xx37, xx36, xx0, lvGet_0, lvGet_s, lvSet_0, lvSet_s, Option.map_some, capLV, List.map_cons, List.map_nil, Option.bind_none, Option.bind_some, Mini.F.den, lv0, List.length_cons, List.length_nil, if_true, reduceIte, Nat.reduceAdd, Nat.reduceLeDiff, Nat.reduceLT, List.getElem?_cons_zero, List.getElem?_cons_succ, Nat.zero_add, Int.reduceLT, Int.reduceLE, and_true, true_and, and_self, intRel, intOp, subS_t0, subS_t1, subS_t2, lenF, subI, get_end, eqS_int, eqS_spot, neS_int, ltS_int, decide_true, decide_false, Bool.not_true, Bool.not_false, KindOf.is, LIM, xx11, walkV, rangeF, Int.reduceEq, hs1, addS, hin, hno, hs2, hlt, s1, s2]
      refine Gives.some ⟨_, _, rfl, rfl, S2, fun p hp => ?_, hs3, hl2, Or.inl ⟨rfl, Or.inr ⟨d0, hg, hlt⟩⟩⟩
      rcases aSet_mem hp with hp | rfl
      · exact hne p hp
      · exact htl
    · by_cases heq : cu + w = d0
      · obtain ⟨lo, hlo⟩ : ∃ lo, aGet hs o = some lo := Option.isSome_iff_exists.mp (aGet_isSome.mpr (by rw [S.hk]; exact hno))
        have hsh : subS (.loc (σ0.length + 1)) (spot o) σ = some (.loc lo) := by rw [subS_spot S.h, hlo]; rfl
        obtain ⟨xs, x1, x2, x3⟩ := S.ok _ (aGet_mem hlo)
        obtain ⟨ys, y1, y2, y3⟩ := hT
        have lx := nodup_len x2 x3
        have ly := nodup_len y2 y3
        have hj := joined_run x1 y1 (by lia) (by lia)
        generalize hσ' : (σ ++ [MObj.list ((ys.filter fun y => y ∉ xs).map eH)]) ++ [.list ((xs ++ ys.filter fun y => y ∉ xs).map eH)] = σ' at hj
        have hxe : Ext σ σ' := ⟨[MObj.list ((ys.filter fun y => y ∉ xs).map eH), .list ((xs ++ ys.filter fun y => y ∉ xs).map eH)], by rw [← hσ']; simp⟩
        have hnew : σ'[σ.length + 1]? = some (.list ((xs ++ ys.filter fun y => y ∉ xs).map eH)) := by rw [← hσ']; simp
        have s2 := storeItem_at beq_spot (k := o) (b := σ.length + 1) (hxe.get S.h) (key_spot o) (by lia)
        have hcl : ¬ d0 < d0 := by lia
        subst heq
        simp only [xx8, Mini.D.seq_nx, Mini.D.seq_ct, Mini.D.seq_rt, xx13, xx10, xx14, xx9, xx12, xx7, xx15, xx30, xx20, xx16, xx18, xx3, xx4, xx2, xx5, xx6, xx23, xx35, xx34, xx29, xx24, xx26, xx28, xx27, xx17, xx25, xx21, xx22, xx33, xx31, xx32, xx38, xx40, xx39, xx37, xx36, xx0, lvGet_0, lvGet_s, lvSet_0, lvSet_s, Option.map_some, capLV, List.map_cons, List.map_nil, Option.bind_none, Option.bind_some, Mini.F.den, lv0, List.length_cons, List.length_nil, if_true, reduceIte, Nat.reduceAdd, Nat.reduceLeDiff, Nat.reduceLT, List.getElem?_cons_zero, List.getElem?_cons_succ, Nat.zero_add, Int.reduceLT, Int.reduceLE, and_true, true_and, and_self, intRel, intOp, subS_t0, subS_t1, subS_t2, lenF, subI, get_end, eqS_int, eqS_spot, neS_int, ltS_int, decide_true, decide_false, Bool.not_true, Bool.not_false, KindOf.is, LIM, xx11, walkV, rangeF, Int.reduceEq, hs1, addS, hin, hno, hs2, hlt, hsh, hj, s2]
        refine Gives.some ⟨cs, aSet hs o (σ.length + 1), rfl, rfl, ⟨(S.ext.trans hxe).set _ (by lia), ?_, ?_, ?_, ?_, ?_⟩, fun p hp => ?_, ?_, ?_, Or.inr ⟨rfl, _, hg, by lia⟩⟩
        · rw [get_set_ne ne4]; exact hxe.get S.c
        · rw [get_set_eq (lt_of_get (hxe.get S.h))]
        · rw [get_set_ne ne3]; exact hxe.get S.d
        · rw [aSet_keys, S.hk, if_pos hno]
        · intro p hp
          rcases aSet_mem hp with hp | rfl
          · exact ((S.ok p hp).ext hxe).setD (hxe.get S.h)
          · refine HopAt.setD ⟨_, hnew, ?_, ?_⟩ (hxe.get S.h)
            · rw [List.nodup_append]
              refine ⟨x2, y2.filter _, fun a ha b hb e => ?_⟩
              subst e
              have := (List.mem_filter.mp hb).2
              simp at this; exact this ha
            · intro x hx
              rcases List.mem_append.mp hx with hx | hx
              · exact x3 x hx
              · exact y3 x (List.mem_filter.mp hx).1
        · rcases aSet_mem hp with hp | rfl
          · exact hne p hp
          · show σ.length + 1 ≠ sl; lia
        · rw [get_set_ne ns2]; exact hxe.get hsn
        · rw [List.length_set]; exact hxe.len
      · simp only [xx8, Mini.D.seq_nx, Mini.D.seq_ct, Mini.D.seq_rt, xx13, xx10, xx14, xx9, xx12, xx7, xx15, xx30, xx20, xx16, xx18, xx3, xx4, xx2, xx5, xx6, xx23, xx35, xx34, xx29, xx24, xx26, xx28, xx27, xx17, xx25, xx21, xx22, xx33, xx31, xx32, xx38, xx40, xx39, xx37, xx36, xx0, lvGet_0, lvGet_s, lvSet_0, lvSet_s, Option.map_some, capLV, List.map_cons, List.map_nil, Option.bind_none, Option.bind_some, Mini.F.den, lv0, List.length_cons, List.length_nil, if_true, reduceIte, Nat.reduceAdd, Nat.reduceLeDiff, Nat.reduceLT, List.getElem?_cons_zero, List.getElem?_cons_succ, Nat.zero_add, Int.reduceLT, Int.reduceLE, and_true, true_and, and_self, intRel, intOp, subS_t0, subS_t1, subS_t2, lenF, subI, get_end, eqS_int, eqS_spot, neS_int, ltS_int, decide_true, decide_false, Bool.not_true, Bool.not_false, KindOf.is, LIM, xx11, walkV, rangeF, Int.reduceEq, hs1, addS, hin, hno, hs2, hlt, heq]
        exact Gives.some ⟨cs, hs, rfl, rfl, S, hne, hsn, Nat.le_refl _, Or.inr ⟨rfl, d0, hg, by lia⟩⟩
end Mini
end

section
namespace Mini
open PySem
theorem beyond_run2 {lk : V} {h : Nat} {u o : Int} {σ : Store} : f_hops_beyond [lk, .loc h, spot u, spot o] σ = some (.loc h, σ) := beyond_run
noncomputable abbrev bdLV (σ0 : Store) (dk w0 sl : Nat) (r u : Int) (k : Int × Int × Int) (x9 x10 x11 x12 : Option V) : LV := [some (.loc dk), some (spot r), some (.loc w0), some (.loc σ0.length), some (.loc (σ0.length + 1)), some (.loc (σ0.length + 3)), some (spot u), some (.loc sl), some (eK k), x9, x10, x11, x12, none, none, none, none, none]
inductive ToldP (σ0 σ : Store) (L : List Ln) (r : Int) (dk w0 sl : Nat) (u turn : Int) (k : Int × Int × Int) (x12 : Option V) (p : F × LV × Store) : Prop
  | mk (tl : Nat) (e : p.1 = .nx) (hlv : p.2.1 = bdLV σ0 dk w0 sl r u k (some (spot k.1)) (some (.int turn)) (some (.loc tl)) x12) (x : Ext σ p.2.2) (h : HopAt p.2.2 tl (DD L r)) (n : tl ≠ sl) : ToldP σ0 σ L r dk w0 sl u turn k x12 p
inductive BodyP (σ0 : Store) (L : List Ln) (r : Int) (dk w0 sl : Nat) (u cu : Int) (pn : List Int) (done : List (Int × Int × Int)) (sn : List Int) (dn : List (Int × Unit)) (k : Int × Int × Int) (p : F × LV × Store) : Prop
  | mk (y9 y10 y11 y12 : Option V) (hlv : p.2.1 = bdLV σ0 dk w0 sl r u k y9 y10 y11 y12) (f : p.1 = .nx ∨ p.1 = .ct) (cs' : List (Int × Int)) (hs' : List (Int × Nat)) (S : SpS σ0 p.2.2 (DD L r) cs' hs' dn) (N : DN L r u cu pn (done ++ [k]) cs')
    (n : ∀ p ∈ hs', p.2 ≠ sl) (g : p.2.2[sl]? = some (.list ((sn ++ [k.1]).map spot))) : BodyP σ0 L r dk w0 sl u cu pn done sn dn k p
section
variable {many : Int} {L : List Ln} (G : GoodL many L) {r : Int}
include G
theorem told_run {σ0 σ : Store} {cs : List (Int × Int)} {hs : List (Int × Nat)} {dn : List (Int × Unit)} (S : SpS σ0 σ (DD L r) cs hs dn) {dk w0 sl : Nat} {x11 x12 : Option V} {u cu turn : Int} {k : Int × Int × Int}
    (hL : LinksAt σ dk (ids many) (nbs L)) (hw : σ[w0]? = some (.dict [])) (hk : k ∈ nbs L u) (hcu : aGet cs u = some cu) (ht : 0 ≤ turn) (hne : ∀ p ∈ hs, p.2 ≠ sl) (hsl : sl < σ.length) :
    Gives (dTold (bdLV σ0 dk w0 sl r u k (some (spot k.1)) (some (.int turn)) x11 x12) σ) (ToldP σ0 σ L r dk w0 sl u turn k x12) := by
  obtain ⟨o, c, dt⟩ := k
  obtain ⟨x, he, _, _⟩ := nbs_mem G hk
  have hx := he.rng G
  unfold dTold
  by_cases hur : u = r
  · obtain ⟨d', hd'⟩ := nbs_of G he.symm
    obtain ⟨l, σ', h1, h2, h3, h4⟩ := hfr_run G (dt := dt) (c := c) (r := r) hL hw (mem_ids.mpr hx.2.1) ht ⟨_, hd', hur⟩
    simp only [xx8, Mini.D.seq_nx, Mini.D.seq_ct, Mini.D.seq_rt, xx13, xx10, xx14, xx9, xx12, xx7, xx15, xx30, xx20, xx16, xx18, xx3, xx4, xx2, xx5, xx6, xx23, xx35, xx34, xx29, xx24, xx26, xx28, xx27, xx17, xx25, xx21, xx22, xx33, xx31, xx32, xx38, xx40, xx39, xx37, xx36, xx0, lvGet_0, lvGet_s, lvSet_0, lvSet_s, Option.map_some, capLV, List.map_cons, List.map_nil, Option.bind_none, Option.bind_some, Mini.F.den, lv0, List.length_cons, List.length_nil, if_true, reduceIte, Nat.reduceAdd, Nat.reduceLeDiff, Nat.reduceLT, List.getElem?_cons_zero, List.getElem?_cons_succ, Nat.zero_add, Int.reduceLT, Int.reduceLE, and_true, true_and, and_self, intRel, intOp, subS_t0, subS_t1, subS_t2, lenF, subI, get_end, eqS_int, eqS_spot, neS_int, ltS_int, decide_true, decide_false, Bool.not_true, Bool.not_false, KindOf.is, LIM, xx11, walkV, rangeF, Int.reduceEq, hur, h1]
    exact Gives.some ⟨l, rfl, rfl, h2, h4, by lia⟩
  · have hno : u ∈ cs.map (·.1) := aGet_isSome.mp (by rw [hcu]; rfl)
    obtain ⟨lo, hlo⟩ : ∃ lo, aGet hs u = some lo := Option.isSome_iff_exists.mp (aGet_isSome.mpr (by rw [S.hk]; exact hno))
    have hsh : subS (.loc (σ0.length + 1)) (spot u) σ = some (.loc lo) := by rw [subS_spot S.h, hlo]; rfl
    simp only [xx8, Mini.D.seq_nx, Mini.D.seq_ct, Mini.D.seq_rt, xx13, xx10, xx14, xx9, xx12, xx7, xx15, xx30, xx20, xx16, xx18, xx3, xx4, xx2, xx5, xx6, xx23, xx35, xx34, xx29, xx24, xx26, xx28, xx27, xx17, xx25, xx21, xx22, xx33, xx31, xx32, xx38, xx40, xx39, xx37, xx36, xx0, lvGet_0, lvGet_s, lvSet_0, lvSet_s, Option.map_some, capLV, List.map_cons, List.map_nil, Option.bind_none, Option.bind_some, Mini.F.den, lv0, List.length_cons, List.length_nil, if_true, reduceIte, Nat.reduceAdd, Nat.reduceLeDiff, Nat.reduceLT, List.getElem?_cons_zero, List.getElem?_cons_succ, Nat.zero_add, Int.reduceLT, Int.reduceLE, and_true, true_and, and_self, intRel, intOp, subS_t0, subS_t1, subS_t2, lenF, subI, get_end, eqS_int, eqS_spot, neS_int, ltS_int, decide_true, decide_false, Bool.not_true, Bool.not_false, KindOf.is, LIM, xx11, walkV, rangeF, Int.reduceEq, hur, hsh, beyond_run2]
    exact Gives.some ⟨lo, rfl, rfl, Ext.rfl, S.ok _ (aGet_mem hlo), hne _ (aGet_mem hlo)⟩

theorem body_run {σ0 σ : Store} {cs : List (Int × Int)} {hs : List (Int × Nat)} {dn : List (Int × Unit)} (S : SpS σ0 σ (DD L r) cs hs dn) {dk w0 sl : Nat} {x9 x10 x11 x12 : Option V} {u cu : Int} {k : Int × Int × Int} {pn : List Int} {done : List (Int × Int × Int)} {sn : List Int}
    (hL : LinksAt σ0 dk (ids many) (nbs L)) (hw : σ0[w0]? = some (.dict [])) (hk : k ∈ nbs L u) (hdn : ∀ x, x ∈ dn.map (·.1) ↔ x ∈ pn ∨ x = u) (hne : ∀ p ∈ hs, p.2 ≠ sl) (hsl : σ0.length + 3 < sl) (hsn : σ[sl]? = some (.list (sn.map spot))) (hsnl : sn.length ≤ 1000)
    (hr : 1 ≤ r ∧ r ≤ many) (hlen : cs.length ≤ 100) (I : DN L r u cu pn done cs) :
    Gives (dBody (bdLV σ0 dk w0 sl r u k x9 x10 x11 x12) σ) (BodyP σ0 L r dk w0 sl u cu pn done sn dn k) := by
  obtain ⟨o, c, dt⟩ := k
  obtain ⟨x, he, _, _⟩ := nbs_mem G hk
  have hx := he.rng G
  have hsll := lt_of_get hsn
  have hfl : flats (sn.map spot) = true := by simp [flats, V.flat]
  have hcnt : countM sl [spot o] σ = some (.int ((sn.map spot).countP fun y => V.beq y (spot o)), σ) := by
    simp only [countM, hsn, hfl]; rfl
  have hap := appendM_at (v := spot o) hsn (by rw [List.length_map]; lia)
  generalize hσ : σ.set sl (.list (sn.map spot ++ [spot o])) = σ1 at hap
  have g1 : ∀ m, m ≠ sl → σ1[m]? = σ[m]? := by intro m hm; rw [← hσ, get_set_ne (Ne.symm hm)]
  have hsn1 : σ1[sl]? = some (.list ((sn ++ [o]).map spot)) := by rw [← hσ, get_set_eq hsll]; simp
  have S1 : SpS σ0 σ1 (DD L r) cs hs dn := by
    refine ⟨?_, ?_, ?_, ?_, S.hk, fun p hp => ?_⟩
    · rw [← hσ]; exact S.ext.set _ (by lia)
    · rw [g1 _ (by lia)]; exact S.c
    · rw [g1 _ (by lia)]; exact S.h
    · rw [g1 _ (by lia)]; exact S.d
    · rw [← hσ]; exact (S.ok p hp).setN (Ne.symm (hne p hp))
  have hin : inS (spot o) (.loc (σ0.length + 3)) σ1 = some (decide (o ∈ dn.map (·.1))) := inS_spot (κ := Int) S1.d
  unfold dBody
  by_cases hd : o ∈ dn.map (·.1)
  · simp only [xx8, Mini.D.seq_nx, Mini.D.seq_ct, Mini.D.seq_rt, xx13, xx10, xx14, xx9, xx12, xx7, xx15, xx30, xx20, xx16, xx18, xx3, xx4, xx2, xx5, xx6, xx23, xx35, xx34, xx29, xx24, xx26, xx28, xx27, xx17, xx25, xx21, xx22, xx33, xx31, xx32, xx38, xx40, xx39, xx37, xx36, xx0, lvGet_0, lvGet_s, lvSet_0, lvSet_s, Option.map_some, capLV, List.map_cons, List.map_nil, Option.bind_none, Option.bind_some, Mini.F.den, lv0, List.length_cons, List.length_nil, if_true, reduceIte, Nat.reduceAdd, Nat.reduceLeDiff, Nat.reduceLT, List.getElem?_cons_zero, List.getElem?_cons_succ, Nat.zero_add, Int.reduceLT, Int.reduceLE, and_true, true_and, and_self, intRel, intOp, subS_t0, subS_t1, subS_t2, lenF, subI, get_end, eqS_int, eqS_spot, neS_int, ltS_int, decide_true, decide_false, Bool.not_true, Bool.not_false, KindOf.is, LIM, xx11, walkV, rangeF, Int.reduceEq, hsn, hcnt, hap, hin, hd]
    exact Gives.some ⟨_, _, _, _, rfl, by simp, cs, hs, S1, I.skip1 G hk ((hdn o).mp hd), hne, hsn1⟩
  · have hk1 : σ1.length = σ.length := by rw [← hσ]; simp
    obtain ⟨⟨f, lv2, σ2⟩, t1, tl, t2, t3, t4, t5, t6⟩ := told_run G S1 (x11 := x11) (x12 := x12) (k := (o, c, dt)) (turn := (((sn.map spot).countP fun y => V.beq y (spot o) : Nat) : Int)) (hL.ext S1.ext) (S1.ext.get hw) hk I.cur (by lia) hne (by lia)
    simp only at t2 t3 t4 t5
    subst t2 t3
    have S2 := S1.grow t4
    obtain ⟨⟨f3, lv3, σ3⟩, u1, cs', hs', u2, u3, u4, u5, u6, u7, u8⟩ := tail_run S2 (a0 := some (.loc dk)) (a1 := some (spot r)) (a2 := some (.loc w0)) (a7 := some (.loc sl)) (a10 := some (.int (((sn.map spot).countP fun y => V.beq y (spot o) : Nat) : Int))) (a12 := x12) (o := o) (w := c) (d := dt) I.cur t5 (by lia) (by have := G.short; simp [DD]; lia) hne t6 (lt_of_get (t4.get hsn1)) (t4.get hsn1)
    simp only at u2 u3 u4 u6 u7
    subst u2 u3
    simp only [xx8, Mini.D.seq_nx, Mini.D.seq_ct, Mini.D.seq_rt, xx13, xx10, xx14, xx9, xx12, xx7, xx15, xx30, xx20, xx16, xx18, xx3, xx4, xx2, xx5, xx6, xx23, xx35, xx34, xx29, xx24, xx26, xx28, xx27, xx17, xx25, xx21, xx22, xx33, xx31, xx32, xx38, xx40, xx39, xx37, xx36, xx0, lvGet_0, lvGet_s, lvSet_0, lvSet_s, Option.map_some, capLV, List.map_cons, List.map_nil, Option.bind_none, Option.bind_some, Mini.F.den, lv0, List.length_cons, List.length_nil, if_true, reduceIte, Nat.reduceAdd, Nat.reduceLeDiff, Nat.reduceLT, List.getElem?_cons_zero, List.getElem?_cons_succ, Nat.zero_add, Int.reduceLT, Int.reduceLE, and_true, true_and, and_self, intRel, intOp, subS_t0, subS_t1, subS_t2, lenF, subI, get_end, eqS_int, eqS_spot, neS_int, ltS_int, decide_true, decide_false, Bool.not_true, Bool.not_false, KindOf.is, LIM, xx11, walkV, rangeF, Int.reduceEq, hsn, hcnt, hap, hin, hd, t1, u1]
    refine Gives.some ⟨_, _, _, _, rfl, by simp, cs', hs', u4, ?_, u5, by simpa using u6⟩
    have hnd := fun e => hd ((hdn o).mpr e)
    rcases u8 with ⟨rfl, h⟩ | ⟨rfl, h⟩
    · exact I.put G (k := (o, c, dt)) hk (fun e => hnd (Or.inl e)) (fun e => hnd (Or.inr e)) h
    · exact I.skip G (k := (o, c, dt)) hk h
end
end Mini
end

section
namespace Mini
open PySem
theorem xx1 (mk mv : Den) (l : Nat) (lv : LV) (σ : Store) : B.put mk mv l lv σ = match mk lv σ with
  | some (x, σ₁) => match mv lv σ₁ with
    | some (y, σ₂) => match σ₂[l]? with
      | some (.dict es) => if V.key 6 x && decide (es.length < LIM) then some (lv, σ₂.set l (.dict (dSet es x y))) else none
      | _ => none
    | none => none
  | none => none := rfl
theorem gives_for {α : Type} {mt : TDen} {mb : SDen} {src : Src} {Q : F × LV × Store → Prop} (enc : α → V) (I : List α → LV → Store → Prop) (xs : List α) {vs : List V} {lv : LV} {σ : Store} (hv : vs = xs.map enc)
    (hs : ∀ done lv σ, I done lv σ → srcOk src σ = true)
    (h0 : I [] lv σ)
    (hb : ∀ done x rest lv σ, xs = done ++ x :: rest → I done lv σ → ∃ lv₁ σ₁, mt (enc x) lv σ = some (lv₁, σ₁) ∧ Gives (mb lv₁ σ₁) fun p => match p.1 with | .rt _ => False | _ => I (done ++ [x]) p.2.1 p.2.2)
    (hq : ∀ lv' σ', I xs lv' σ' → Q (.nx, lv', σ')) : Gives (forD mt mb src vs lv σ) Q := by
  obtain ⟨lv', σ', h1, h2⟩ := forD_go (src := src) enc I xs hv hs hb h0
  rw [h1]; exact Gives.some (hq _ _ h2)
theorem DN.small {many : Int} {L : List Ln} (G : GoodL many L) {r u cu : Int} {pn : List Int} {dk : List (Int × Int × Int)} {cs : List (Int × Int)} (h : DN L r u cu pn dk cs) (hr : 1 ≤ r ∧ r ≤ many) : cs.length ≤ many.toNat := by
  have k : ∀ v ∈ cs.map (·.1), 1 ≤ v ∧ v ≤ many := by
    intro v hv
    obtain ⟨c, hc⟩ := Option.isSome_iff_exists.mp (aGet_isSome.mpr hv)
    obtain ⟨a, b, k, hw, _⟩ := h.walk _ _ hc
    exact hw.rng G hr
  have := nodup_len h.nd (m := ids many) (fun x hx => mem_ids.mpr (k x hx))
  rwa [ids_len, List.length_map] at this

noncomputable abbrev spLV (σ0 : Store) (dk w0 : Nat) (r : Int) (at' : V) (x7 x8 x9 x10 x11 x12 : Option V) : LV := [some (.loc dk), some (spot r), some (.loc w0), some (.loc σ0.length), some (.loc (σ0.length + 1)), some (.loc (σ0.length + 3)), some at', x7, x8, x9, x10, x11, x12, none, none, none, none, none]
inductive NextP (cs : List (Int × Int)) (dn : List (Int × Unit)) (at' : V) : Prop
  | no (e : at' = .none) (h : ∀ x ∈ cs, x.1 ∈ dn.map (·.1)) : NextP cs dn at'
  | go (u c : Int) (e : at' = spot u) (g : aGet cs u = some c) (n : u ∉ dn.map (·.1)) (m : ∀ v d, aGet cs v = some d → v ∉ dn.map (·.1) → c ≤ d) : NextP cs dn at'
inductive TurnP (σ0 : Store) (L : List Ln) (r : Int) (dk w0 : Nat) (dn : List (Int × Unit)) (p : F × LV × Store) : Prop
  | mk (f : p.1 = .nx) (at' : V) (y7 y8 y9 y10 y11 y12 : Option V) (hlv : p.2.1 = spLV σ0 dk w0 r at' y7 y8 y9 y10 y11 y12) (cs' : List (Int × Int)) (hs' : List (Int × Nat)) (S : SpS σ0 p.2.2 (DD L r) cs' hs' dn) (I : DI L r cs' dn) (N : NextP cs' dn at') : TurnP σ0 L r dk w0 dn p
inductive WhileP (σ0 : Store) (L : List Ln) (r : Int) (dk w0 : Nat) (p : F × LV × Store) : Prop
  | mk (f : p.1 = .nx) (y7 y8 y9 y10 y11 y12 : Option V) (hlv : p.2.1 = spLV σ0 dk w0 r .none y7 y8 y9 y10 y11 y12) (cs' : List (Int × Int)) (hs' : List (Int × Nat)) (dn' : List (Int × Unit)) (S : SpS σ0 p.2.2 (DD L r) cs' hs' dn') (I : DI L r cs' dn') (nd : (dn'.map (·.1)).Nodup) (a : ∀ x ∈ cs', x.1 ∈ dn'.map (·.1)) : WhileP σ0 L r dk w0 p
inductive TI (σ0 : Store) (L : List Ln) (r u cu : Int) (dk w0 sl : Nat) (dn : List (Int × Unit)) (done : List (Int × Int × Int)) (lv : LV) (σ' : Store) : Prop
  | mk (y8 y9 y10 y11 y12 : Option V) (hlv : lv = spLV σ0 dk w0 r (spot u) (some (.loc sl)) y8 y9 y10 y11 y12) (cs : List (Int × Int)) (hs : List (Int × Nat)) (sn : List Int) (S : SpS σ0 σ' (DD L r) cs hs (dn ++ [(u, ())])) (N : DN L r u cu (dn.map (·.1)) done cs)
    (n : ∀ p ∈ hs, p.2 ≠ sl) (g : σ'[sl]? = some (.list (sn.map spot))) (l : sn.length ≤ done.length) : TI σ0 L r u cu dk w0 sl dn done lv σ'
section
variable {many : Int} {L : List Ln} (G : GoodL many L) {r : Int} (hr : 1 ≤ r ∧ r ≤ many)
include G hr
theorem turn_run {σ0 σ : Store} {cs : List (Int × Int)} {hs : List (Int × Nat)} {dn : List (Int × Unit)} (S : SpS σ0 σ (DD L r) cs hs dn) {dk w0 : Nat} {x7 x8 x9 x10 x11 x12 : Option V} {u cu : Int} (hnd : (dn.map (·.1)).Nodup)
    (hL : LinksAt σ0 dk (ids many) (nbs L)) (hw : σ0[w0]? = some (.dict [])) (I : DI L r cs dn) (hcu : aGet cs u = some cu) (hu : u ∉ dn.map (·.1)) (hm : ∀ v d, aGet cs v = some d → v ∉ dn.map (·.1) → cu ≤ d) :
    Gives (dTurn (spLV σ0 dk w0 r (spot u) x7 x8 x9 x10 x11 x12) σ) (TurnP σ0 L r dk w0 (dn ++ [(u, ())])) := by
  have hhi := G.hi
  have hlo := G.lo
  have hur : 1 ≤ u ∧ u ≤ many := (I.small G hr).2 u (aGet_isSome.mp (by rw [hcu]; rfl))
  have hdl : dn.length ≤ 100 := by
    have := nodup_len hnd (m := ids many) (fun x hx => mem_ids.mpr ((I.small G hr).2 x (by
      obtain ⟨c, hc⟩ := I.sub x hx
      exact aGet_isSome.mp (by rw [hc]; rfl))))
    rw [ids_len, List.length_map] at this
    grind
  have hL' := hL
  obtain ⟨xs, hLd, hLg⟩ := hL
  obtain ⟨lu, hlu, hlu'⟩ := hLg u (mem_ids.mpr hur)
  have st : storeItem (σ0.length + 3) (spot u) (.bool true) σ = some (σ.set (σ0.length + 3) (.dict ((dn ++ [(u, ())]).map (eD spot tt1)))) := by
    have := storeItem_at beq_spot (k := u) (b := ()) S.d (key_spot u) (by grind)
    rwa [aSet_new hu] at this
  generalize hσa : σ.set (σ0.length + 3) (.dict ((dn ++ [(u, ())]).map (eD spot tt1))) = σa at st
  have Sa : SpS σ0 σa (DD L r) cs hs (dn ++ [(u, ())]) := by
    rw [← hσa]
    refine ⟨S.ext.set _ (by grind), ?_, ?_, ?_, S.hk, fun p hp => (S.ok p hp).setD S.d⟩
    · rw [get_set_ne (by grind)]; exact S.c
    · rw [get_set_ne (by grind)]; exact S.h
    · rw [get_set_eq (lt_of_get S.d)]
  have hget : getM dk [spot u, .loc (σa ++ [MObj.list []]).length] (σa ++ [.list []] ++ [.list []]) = some (.loc lu, σa ++ [.list []] ++ [.list []]) := by
    have : (σa ++ [MObj.list []] ++ [.list []])[dk]? = some (.dict (xs.map (eD spot V.loc))) := get_app (get_app (Sa.ext.get hLd))
    simp only [getM, this, key_spot, if_true]
    rw [dGet_map beq_spot, hlu]; rfl
  have hdk : (σa ++ [MObj.list []])[dk]? = some (.dict (xs.map (eD spot V.loc))) := get_app (Sa.ext.get hLd)
  have hlu2 : (σa ++ [MObj.list []] ++ [.list []])[lu]? = some (.list ((nbs L u).map eK)) := get_app (get_app (Sa.ext.get hlu'))
  have hsa : σ0.length + 3 < σa.length := lt_of_get Sa.d
  unfold dTurn
  simp only [xx8, Mini.D.seq_nx, Mini.D.seq_ct, Mini.D.seq_rt, xx13, xx10, xx14, xx9, xx12, xx7, xx15, xx30, xx20, xx16, xx18, xx3, xx4, xx2, xx5, xx6, xx23, xx35, xx34, xx29, xx24, xx26, xx28, xx27, xx17, xx25, xx21, xx22, xx33, xx31, xx32, xx38, xx40, xx39, xx37, xx36, xx0, lvGet_0, lvGet_s, lvSet_0, lvSet_s, Option.map_some, capLV, List.map_cons, List.map_nil, Option.bind_none, Option.bind_some, Mini.F.den, lv0, List.length_cons, List.length_nil, if_true, reduceIte, Nat.reduceAdd, Nat.reduceLeDiff, Nat.reduceLT, List.getElem?_cons_zero, List.getElem?_cons_succ, Nat.zero_add, Int.reduceLT, Int.reduceLE, and_true, true_and, and_self, intRel, intOp, subS_t0, subS_t1, subS_t2, lenF, subI, get_end, eqS_int, eqS_spot, neS_int, ltS_int, decide_true, decide_false, Bool.not_true, Bool.not_false, KindOf.is, LIM, xx11, walkV, rangeF, Int.reduceEq, st, hdk, hget, hlu2]
  refine seq_for eK (TI σ0 L r u cu dk w0 σa.length dn) (nbs L u) rfl ?_ ?_ ?_ ?_
  · rintro done lv σ' ⟨_, _, _, _, _, _, _, _, _, h, _, _, _, _⟩; exact srcOk_same (h.ext.get hlu')
  · refine ⟨_, _, _, _, _, rfl, cs, hs, [], (Sa.grow (Ext.rfl.app _)).grow (Ext.rfl.app _), I.start G hcu hu hm, fun p hp => ?_, get_app get_end, by simp⟩
    obtain ⟨ds, h, _⟩ := Sa.ok p hp
    exact ne_end h
  · rintro done x rest lv σ' e ⟨y8, y9, y10, y11, y12, rfl, cs', hs', sn, S', N', hne, hsn, hsl⟩
    refine ⟨spLV σ0 dk w0 r (spot u) (some (.loc σa.length)) (some (eK x)) y9 y10 y11 y12, σ', rfl, ?_⟩
    have hx : x ∈ nbs L u := by rw [e]; simp
    have hdlen : done.length ≤ 30 := by
      have t1 := nbs_len L u
      have t2 := G.short
      rw [e] at t1; simp at t1; grind
    refine Gives.mono (body_run G S' hL' hw hx (pn := dn.map (·.1)) (fun y => by rw [List.map_append, List.mem_append]; simp) hne (by grind) hsn (by grind) hr (by have := N'.small G hr; grind) N') ?_
    rintro ⟨f, lv2, σ2⟩ ⟨z9, z10, z11, z12, h1, h2, cs2, hs2, h3, h4, h5, h6⟩
    simp only at h1 h2 h3 h4 h5 h6
    subst h1
    rcases h2 with rfl | rfl
    · exact ⟨_, _, _, _, _, rfl, cs2, hs2, _, h3, h4, h5, h6, by simp; grind⟩
    · exact ⟨_, _, _, _, _, rfl, cs2, hs2, _, h3, h4, h5, h6, by simp; grind⟩
  · rintro lv σ' ⟨y8, y9, y10, y11, y12, rfl, cs', hs', sn, S', N', hne, hsn, hsl⟩
    have D' := N'.stop G
    rcases nearest_run S'.c S'.d D'.nd (by have := N'.small G hr; grind) with ⟨t, h1, h2⟩ | ⟨t, u', c', h1, h2, h3, h4⟩
    · simp only [xx8, Mini.D.seq_nx, Mini.D.seq_ct, Mini.D.seq_rt, xx13, xx10, xx14, xx9, xx12, xx7, xx15, xx30, xx20, xx16, xx18, xx3, xx4, xx2, xx5, xx6, xx23, xx35, xx34, xx29, xx24, xx26, xx28, xx27, xx17, xx25, xx21, xx22, xx33, xx31, xx32, xx38, xx40, xx39, xx37, xx36, xx0, lvGet_0, lvGet_s, lvSet_0, lvSet_s, Option.map_some, capLV, List.map_cons, List.map_nil, Option.bind_none, Option.bind_some, Mini.F.den, lv0, List.length_cons, List.length_nil, if_true, reduceIte, Nat.reduceAdd, Nat.reduceLeDiff, Nat.reduceLT, List.getElem?_cons_zero, List.getElem?_cons_succ, Nat.zero_add, Int.reduceLT, Int.reduceLE, and_true, true_and, and_self, intRel, intOp, subS_t0, subS_t1, subS_t2, lenF, subI, get_end, eqS_int, eqS_spot, neS_int, ltS_int, decide_true, decide_false, Bool.not_true, Bool.not_false, KindOf.is, LIM, xx11, walkV, rangeF, Int.reduceEq, h2]
      exact Gives.some ⟨rfl, _, _, _, _, _, _, _, rfl, cs', hs', S'.grow ⟨t, rfl⟩, D', NextP.no rfl h1⟩
    · simp only [xx8, Mini.D.seq_nx, Mini.D.seq_ct, Mini.D.seq_rt, xx13, xx10, xx14, xx9, xx12, xx7, xx15, xx30, xx20, xx16, xx18, xx3, xx4, xx2, xx5, xx6, xx23, xx35, xx34, xx29, xx24, xx26, xx28, xx27, xx17, xx25, xx21, xx22, xx33, xx31, xx32, xx38, xx40, xx39, xx37, xx36, xx0, lvGet_0, lvGet_s, lvSet_0, lvSet_s, Option.map_some, capLV, List.map_cons, List.map_nil, Option.bind_none, Option.bind_some, Mini.F.den, lv0, List.length_cons, List.length_nil, if_true, reduceIte, Nat.reduceAdd, Nat.reduceLeDiff, Nat.reduceLT, List.getElem?_cons_zero, List.getElem?_cons_succ, Nat.zero_add, Int.reduceLT, Int.reduceLE, and_true, true_and, and_self, intRel, intOp, subS_t0, subS_t1, subS_t2, lenF, subI, get_end, eqS_int, eqS_spot, neS_int, ltS_int, decide_true, decide_false, Bool.not_true, Bool.not_false, KindOf.is, LIM, xx11, walkV, rangeF, Int.reduceEq, h4]
      exact Gives.some ⟨rfl, _, _, _, _, _, _, _, rfl, cs', hs', S'.grow ⟨t, rfl⟩, D', NextP.go u' c' rfl (aGet_of_mem D'.nd h1) h2 (fun v d hv hvn => h3 (v, d) (aGet_mem hv) hvn)⟩

noncomputable abbrev wcond : CDen := C.cmp isNotS (E.var 6) (E.const .none)
theorem while_run {σ0 : Store} {dk w0 : Nat} (hL : LinksAt σ0 dk (ids many) (nbs L)) (hw : σ0[w0]? = some (.dict [])) : ∀ (f : Nat) {σ : Store} {cs : List (Int × Int)} {hs : List (Int × Nat)} {dn : List (Int × Unit)} {x7 x8 x9 x10 x11 x12 : Option V} {at' : V}, SpS σ0 σ (DD L r) cs hs dn →
    DI L r cs dn → (dn.map (·.1)).Nodup → many.toNat + 2 ≤ dn.length + f → NextP cs dn at' →
    Gives (whileD wcond dTurn f (spLV σ0 dk w0 r at' x7 x8 x9 x10 x11 x12) σ) (WhileP σ0 L r dk w0) := by
  intro f
  induction f with
  | zero =>
    intro σ cs hs dn x7 x8 x9 x10 x11 x12 at' S I hnd hf
    have := nodup_len hnd (m := ids many) (fun x hx => mem_ids.mpr ((I.small G hr).2 x (by
      obtain ⟨c, hc⟩ := I.sub x hx
      exact aGet_isSome.mp (by rw [hc]; rfl))))
    rw [ids_len, List.length_map] at this
    lia
  | succ f ih =>
    intro σ cs hs dn x7 x8 x9 x10 x11 x12 at' S I hnd hf hat
    have hdl := nodup_len hnd (m := ids many) (fun x hx => mem_ids.mpr ((I.small G hr).2 x (by
      obtain ⟨c, hc⟩ := I.sub x hx
      exact aGet_isSome.mp (by rw [hc]; rfl))))
    rw [ids_len, List.length_map] at hdl
    rcases hat with ⟨rfl, hall⟩ | ⟨u, c, rfl, hcu, hu, hm⟩
    · exact ⟨(.nx, spLV σ0 dk w0 r .none x7 x8 x9 x10 x11 x12, σ), rfl, ⟨rfl, _, _, _, _, _, _, rfl, cs, hs, dn, S, I, hnd, hall⟩⟩
    · obtain ⟨⟨g, lv2, σ2⟩, h1, h2, at', y7, y8, y9, y10, y11, y12, h3, cs', hs', h4, h5, h6⟩ := turn_run G hr S (x7 := x7) (x8 := x8) (x9 := x9) (x10 := x10) (x11 := x11) (x12 := x12) hnd hL hw I hcu hu hm
      simp only at h2 h3 h4
      subst h2 h3
      have hc : wcond (spLV σ0 dk w0 r (spot u) x7 x8 x9 x10 x11 x12) σ = some (true, σ) := rfl
      unfold whileD
      rw [hc]
      simp only [h1]
      refine ih h4 h5 ?_ (by simp; lia) h6
      rw [List.map_append, List.nodup_append]
      refine ⟨hnd, by simp, fun a ha b hb e => ?_⟩
      simp at hb; subst hb; subst e; exact hu ha

end
end Mini
end

section
namespace Mini
open PySem
noncomputable def dInit : Den := (E.tup (L.cons (E.dict1 (E.var 1) (E.const (.int 0))) (L.cons (E.dict1 (E.var 1) (E.list L.nil)) (L.cons E.dict0 L.nil))))
noncomputable def dFin : Den := (E.comp (It.val (E.call sortedF (L.cons (E.var 5) L.nil))) [none, none, none, some 3, some 4] (.dict []) (T.var 1) C.true (B.put (E.var 1) (E.tup (L.cons (E.sub (E.var 3) (E.var 1)) (L.cons (E.call f_settled_hops (L.cons (E.sub (E.var 4) (E.var 1)) L.nil)) L.nil)))))
noncomputable def dPut : BDen := (B.put (E.var 1) (E.tup (L.cons (E.sub (E.var 3) (E.var 1)) (L.cons (E.call f_settled_hops (L.cons (E.sub (E.var 4) (E.var 1)) L.nil)) L.nil))))
theorem spf_shape : d_spf_tree = D.cons (D.assign (T.tup 3 (Ts.cons (T.var 3) (Ts.cons (T.var 4) (Ts.cons (T.var 5) Ts.nil)))) dInit) (D.cons (D.assign (T.var 6) (E.var 1)) (D.cons (whileD wcond dTurn 100) (D.cons (D.ret dFin) D.nil))) := rfl
noncomputable def st0 (σ0 : Store) (r : Int) : Store := σ0 ++ [.dict ([(r, (0 : Int))].map (eD spot V.int)), .dict ([(r, σ0.length + 2)].map (eD spot V.loc)), .list [], .dict []]
theorem init_run {dk w0 : Nat} {r : Int} {σ0 : Store} : dInit [some (.loc dk), some (spot r), some (.loc w0), none, none, none, none, none, none, none, none, none, none, none, none, none, none, none] σ0
      = some (.tup [.loc σ0.length, .loc (σ0.length + 1), .loc (σ0.length + 3)], st0 σ0 r) := by
  have k1 : V.key 6 (spot r) = true := rfl
  have g1 : ∀ o : MObj, ((σ0 ++ [o]) ++ [MObj.dict []] ++ [MObj.list []])[σ0.length + 1]? = some (.dict []) := by intro o; simp
  have s1 : ∀ o o' : MObj, ((σ0 ++ [o]) ++ [MObj.dict []] ++ [MObj.list []]).set (σ0.length + 1) o' = σ0 ++ [o, o', .list []] := by intro o o'; simp
  unfold dInit st0
  simp only [xx8, Mini.D.seq_nx, Mini.D.seq_ct, Mini.D.seq_rt, xx13, xx10, xx14, xx9, xx12, xx7, xx15, xx30, xx20, xx16, xx18, xx3, xx4, xx2, xx5, xx6, xx23, xx35, xx34, xx29, xx24, xx26, xx28, xx27, xx17, xx25, xx21, xx22, xx33, xx31, xx32, xx38, xx40, xx39, xx37, xx36, xx0, lvGet_0, lvGet_s, lvSet_0, lvSet_s, Option.map_some, capLV, List.map_cons, List.map_nil, Option.bind_none, Option.bind_some, Mini.F.den, lv0, List.length_cons, List.length_nil, if_true, reduceIte, Nat.reduceAdd, Nat.reduceLeDiff, Nat.reduceLT, List.getElem?_cons_zero, List.getElem?_cons_succ, Nat.zero_add, Int.reduceLT, Int.reduceLE, and_true, true_and, and_self, intRel, intOp, subS_t0, subS_t1, subS_t2, lenF, subI, get_end, eqS_int, eqS_spot, neS_int, ltS_int, decide_true, decide_false, Bool.not_true, Bool.not_false, KindOf.is, LIM, xx11, walkV, rangeF, Int.reduceEq, k1, List.length_append, dSet, set_end, g1, s1]
  simp [eD]
noncomputable abbrev vT (p : Int × List V) : V := .tup [.int p.1, .tup p.2]
inductive TreeAt (σ : Store) (t : Nat) (L : List Ln) (r : Int) : Prop
  | mk (ts : List (Int × (Int × List V))) (h : σ[t]? = some (.dict (ts.map (eD spot vT)))) (d : DistMap L r (ts.map fun p => (p.1, p.2.1))) : TreeAt σ t L r
inductive TreeP (σ0 : Store) (L : List Ln) (r : Int) (p : V × Store) : Prop
  | mk (t : Nat) (e : p.1 = .loc t) (l : σ0.length ≤ t) (x : Ext σ0 p.2) (h : TreeAt p.2 t L r) : TreeP σ0 L r p
inductive FI (σ0 σ1 : Store) (cs : List (Int × Int)) (done : List Int) (lv : LV) (σ'' : Store) : Prop
  | mk (a b c : Option V) (hlv : lv = [a, b, c, some (.loc σ0.length), some (.loc (σ0.length + 1))]) (x : Ext σ1 σ'') (ts : List (Int × (Int × List V))) (g : σ''[σ1.length]? = some (.dict (ts.map (eD spot vT)))) (k : ts.map (·.1) = done) (h : ∀ p ∈ ts, aGet cs p.1 = some p.2.1) : FI σ0 σ1 cs done lv σ''
theorem TreeAt.ext {σ σ' : Store} {t : Nat} {L : List Ln} {r : Int} (h : TreeAt σ t L r) (e : Ext σ σ') : TreeAt σ' t L r := let ⟨ts, a, b⟩ := h; ⟨ts, e.get a, b⟩
section
variable {many : Int} {L : List Ln} (G : GoodL many L) {r : Int} (hr : 1 ≤ r ∧ r ≤ many)
include G hr
theorem fin_run {σ0 σ : Store} {dk w0 : Nat} {cs : List (Int × Int)} {hs : List (Int × Nat)} {dn : List (Int × Unit)} {x7 x8 x9 x10 x11 x12 : Option V} (S : SpS σ0 σ (DD L r) cs hs dn) (I : DI L r cs dn) (hnd : (dn.map (·.1)).Nodup) (hall : ∀ x ∈ cs, x.1 ∈ dn.map (·.1)) :
    ∃ t σ', dFin (spLV σ0 dk w0 r .none x7 x8 x9 x10 x11 x12) σ = some (.loc t, σ') ∧ σ.length ≤ t ∧ Ext σ σ' ∧ TreeAt σ' t L r := by
  have hhi := G.hi
  have hlo := G.lo
  have hdl := nodup_len hnd (m := ids many) (fun x hx => mem_ids.mpr ((I.small G hr).2 x (by
    obtain ⟨c, hc⟩ := I.sub x hx
    exact aGet_isSome.mp (by rw [hc]; rfl))))
  rw [ids_len, List.length_map] at hdl
  have hal : allOf (.loc (σ0.length + 3)) σ = some ((dn.map (·.1)).map spot) := by
    simp only [allOf, S.d]; rw [keys_map, List.map_map]; rfl
  obtain ⟨ws, hw1, hw2⟩ := sorted_run hal (by simp; lia) (by simp [isPair])
  obtain ⟨ms, rfl, hms⟩ := perm_spot hw1
  have hmn := hms.nodup_iff.mpr hnd
  generalize hσ1 : σ ++ [MObj.list (ms.map spot)] = σ1 at hw2
  have e1 : Ext σ σ1 := ⟨_, hσ1.symm⟩
  have g1 : σ1[σ.length]? = some (.list (ms.map spot)) := by rw [← hσ1]; exact get_end
  have S1 := S.grow e1
  have hmem : ∀ v, v ∈ ms ↔ ∃ c, aGet cs v = some c := by
    intro v
    rw [hms.mem_iff]
    exact ⟨fun h => I.sub v h, fun ⟨c, hc⟩ => hall _ (aGet_mem hc)⟩
  obtain ⟨lv', σ', hc1, _, _, _, _, hc2, ts, hc3, hc4, hc5⟩ := compD_inv (mt := T.var 1) (mc := C.true) (mb := dPut) (src := some (σ.length, .list (ms.map spot))) (l := σ1.length) (lv := [none, none, none, some (.loc σ0.length), some (.loc (σ0.length + 1))]) (σ := σ1 ++ [.dict []])
    spot (FI σ0 σ1 cs) ms rfl
    (by rintro done lv σ'' ⟨_, _, _, _, h, _, _, _, _⟩; exact srcOk_same (h.get g1))
    (by
      rintro done x rest lv σ'' e ⟨a, b, c, rfl, h1, ts, h2, h3, h4⟩
      have hx : x ∈ ms := by rw [e]; simp
      obtain ⟨cx, hcx⟩ := (hmem x).mp hx
      have hxd : x ∉ ts.map (·.1) := by
        rw [h3]
        rw [e] at hmn
        intro hx
        exact (List.nodup_append.mp hmn).2.2 x hx x List.mem_cons_self rfl
      have htl : ts.length ≤ 10 := by
        rw [← List.length_map (f := (·.1)), h3]
        have := hms.length_eq
        rw [e] at this
        simp at this; lia
      have S2 := S1.grow h1
      obtain ⟨lo, hlo⟩ : ∃ lo, aGet hs x = some lo := Option.isSome_iff_exists.mp (aGet_isSome.mpr (by rw [S.hk]; exact aGet_isSome.mp (by rw [hcx]; rfl)))
      have hsc : subS (.loc σ0.length) (spot x) σ'' = some (.int cx) := by rw [subS_spot S2.c, hcx]; rfl
      have hsh : subS (.loc (σ0.length + 1)) (spot x) σ'' = some (.loc lo) := by rw [subS_spot S2.h, hlo]; rfl
      obtain ⟨ds, d1, d2, d3⟩ := S2.ok _ (aGet_mem hlo)
      obtain ⟨ws, t, hset⟩ := settled_run d1 (by have := nodup_len d2 d3; have := G.short; simp [DD] at *; lia)
      simp only at hset d1
      have hput : ((V.key 6 (spot x)) && decide ((ts.map (eD spot vT)).length < LIM)) = true := by
        simp only [key_spot, List.length_map, Bool.true_and, decide_eq_true_eq]; show _ < 1000000; lia
      refine ⟨[a, some (spot x), c, some (.loc σ0.length), some (.loc (σ0.length + 1))], σ'', true, σ'', rfl, rfl, (fun h => by cases h), fun _ => ⟨[a, some (spot x), c, some (.loc σ0.length), some (.loc (σ0.length + 1))], (σ'' ++ t).set σ1.length (.dict ((ts ++ [(x, (cx, ws))]).map (eD spot vT))), ?_, _, _, _, rfl, (h1.app _).set _ (Nat.le_refl _), ts ++ [(x, (cx, ws))], get_set_eq (lt_of_get (get_app h2)), by simp [h3], ?_⟩⟩
      · have hds : dSet (ts.map (eD spot vT)) (spot x) (vT (cx, ws)) = (ts ++ [(x, (cx, ws))]).map (eD spot vT) := by
          rw [dSet_map beq_spot, aSet_new hxd]
        have hput2 : ((V.key 6 (spot x)) && decide (ts.length < 1000000)) = true := by
          simp only [key_spot, Bool.true_and, decide_eq_true_eq]; lia
        unfold dPut
        rw [xx1]
        simp only [xx8, Mini.D.seq_nx, Mini.D.seq_ct, Mini.D.seq_rt, xx13, xx10, xx14, xx9, xx12, xx7, xx15, xx30, xx20, xx16, xx18, xx3, xx4, xx2, xx5, xx6, xx23, xx35, xx34, xx29, xx24, xx26, xx28, xx27, xx17, xx25, xx21, xx22, xx33, xx31, xx32, xx38, xx40, xx39, xx37, xx36, xx0, lvGet_0, lvGet_s, lvSet_0, lvSet_s, Option.map_some, capLV, List.map_cons, List.map_nil, Option.bind_none, Option.bind_some, Mini.F.den, lv0, List.length_cons, List.length_nil, if_true, reduceIte, Nat.reduceAdd, Nat.reduceLeDiff, Nat.reduceLT, List.getElem?_cons_zero, List.getElem?_cons_succ, Nat.zero_add, Int.reduceLT, Int.reduceLE, and_true, true_and, and_self, intRel, intOp, subS_t0, subS_t1, subS_t2, lenF, subI, get_end, eqS_int, eqS_spot, neS_int, ltS_int, decide_true, decide_false, Bool.not_true, Bool.not_false, KindOf.is, LIM, xx11, walkV, rangeF, Int.reduceEq, hsc, hsh, hset, get_app h2, hput2, List.length_map, hds]
      · intro p hp
        rcases List.mem_append.mp hp with hp | hp
        · exact h4 p hp
        · rw [List.mem_singleton] at hp; subst hp; exact hcx)
    ⟨_, _, _, rfl, Ext.rfl.app _, [], get_end, rfl, by simp⟩
  refine ⟨σ1.length, σ', ?_, e1.len, e1.trans hc2, ts, hc3, ?_⟩
  · unfold dPut at hc1
    unfold dFin
    simp only [xx8, Mini.D.seq_nx, Mini.D.seq_ct, Mini.D.seq_rt, xx13, xx10, xx14, xx9, xx12, xx7, xx15, xx30, xx20, xx16, xx18, xx3, xx4, xx2, xx5, xx6, xx23, xx35, xx34, xx29, xx24, xx26, xx28, xx27, xx17, xx25, xx21, xx22, xx33, xx31, xx32, xx38, xx40, xx39, xx37, xx36, xx0, lvGet_0, lvGet_s, lvSet_0, lvSet_s, Option.map_some, capLV, List.map_cons, List.map_nil, Option.bind_none, Option.bind_some, Mini.F.den, lv0, List.length_cons, List.length_nil, if_true, reduceIte, Nat.reduceAdd, Nat.reduceLeDiff, Nat.reduceLT, List.getElem?_cons_zero, List.getElem?_cons_succ, Nat.zero_add, Int.reduceLT, Int.reduceLE, and_true, true_and, and_self, intRel, intOp, subS_t0, subS_t1, subS_t2, lenF, subI, get_end, eqS_int, eqS_spot, neS_int, ltS_int, decide_true, decide_false, Bool.not_true, Bool.not_false, KindOf.is, LIM, xx11, walkV, rangeF, Int.reduceEq, xx19, hw2, g1, hc1]
  · have D := I.done G hall
    have key : ∀ v c, (v, c) ∈ ts.map (fun p => (p.1, p.2.1)) → aGet cs v = some c := by
      intro v c h
      obtain ⟨p, hp, e⟩ := List.mem_map.mp h
      cases e
      exact hc5 p hp
    refine ⟨?_, fun v c h => D.sound v c (aGet_mem (key v c h)), fun v a b k hw => ?_⟩
    · rw [List.map_map]; show (ts.map fun p => p.1).Nodup; rw [hc4]; exact hmn
    · obtain ⟨c, hc⟩ := D.full v a b k hw
      have hv : v ∈ ts.map (·.1) := by rw [hc4]; exact (hmem v).mpr ⟨c, aGet_of_mem D.nd hc⟩
      obtain ⟨p, hp, rfl⟩ := List.mem_map.mp hv
      exact ⟨p.2.1, List.mem_map.mpr ⟨p, hp, rfl⟩⟩
theorem spf_run {σ0 : Store} {dk w0 : Nat} (hL : LinksAt σ0 dk (ids many) (nbs L)) (hw : σ0[w0]? = some (.dict [])) :
    Gives (f_spf_tree [.loc dk, spot r, .loc w0] σ0) (TreeP σ0 L r) := by
  have hhi := G.hi
  have hlo := G.lo
  refine den_gives rfl ?_
  rw [spf_shape]
  have S0 : SpS σ0 (st0 σ0 r) (DD L r) [(r, 0)] [(r, σ0.length + 2)] [] := by
    unfold st0
    refine ⟨⟨_, rfl⟩, by simp, by simp, by simp, rfl, fun p hp => ?_⟩
    rw [List.mem_singleton] at hp; subst hp
    exact ⟨[], by simp, by simp, by simp⟩
  obtain ⟨⟨f, lv, σ1⟩, h1, h2, y7, y8, y9, y10, y11, y12, h3, cs, hs, dn, S, I, hnd, hall⟩ := while_run G hr (x7 := none) (x8 := none) (x9 := none) (x10 := none) (x11 := none) (x12 := none) (at' := spot r) hL hw 100 S0 (DI.first G) (by simp) (by simp; lia)
    (NextP.go r 0 rfl (by simp [aGet]) (by simp) fun v d hv _ => by
      have := aGet_mem hv
      rw [List.mem_singleton] at this
      cases this; lia)
  simp only at h2 h3 S
  subst h2 h3
  obtain ⟨t, σ2, k1, k2, k3, k4⟩ := fin_run G hr (dk := dk) (w0 := w0) (x7 := y7) (x8 := y8) (x9 := y9) (x10 := y10) (x11 := y11) (x12 := y12) S I hnd hall
  simp only [xx8, Mini.D.seq_nx, Mini.D.seq_ct, Mini.D.seq_rt, xx13, xx10, xx14, xx9, xx12, xx7, xx15, xx30, xx20, xx16, xx18, xx3, xx4, xx2, xx5, xx6, xx23, xx35, xx34, xx29, xx24, xx26, xx28, xx27, xx17, xx25, xx21, xx22, xx33, xx31, xx32, xx38, xx40, xx39, xx37, xx36, xx0, lvGet_0, lvGet_s, lvSet_0, lvSet_s, Option.map_some, capLV, List.map_cons, List.map_nil, Option.bind_none, Option.bind_some, Mini.F.den, lv0, List.length_cons, List.length_nil, if_true, reduceIte, Nat.reduceAdd, Nat.reduceLeDiff, Nat.reduceLT, List.getElem?_cons_zero, List.getElem?_cons_succ, Nat.zero_add, Int.reduceLT, Int.reduceLE, and_true, true_and, and_self, intRel, intOp, subS_t0, subS_t1, subS_t2, lenF, subI, get_end, eqS_int, eqS_spot, neS_int, ltS_int, decide_true, decide_false, Bool.not_true, Bool.not_false, KindOf.is, LIM, xx11, walkV, rangeF, Int.reduceEq, init_run]
  rw [h1]
  simp only [xx8, Mini.D.seq_nx, Mini.D.seq_ct, Mini.D.seq_rt, xx13, xx10, xx14, xx9, xx12, xx7, xx15, xx30, xx20, xx16, xx18, xx3, xx4, xx2, xx5, xx6, xx23, xx35, xx34, xx29, xx24, xx26, xx28, xx27, xx17, xx25, xx21, xx22, xx33, xx31, xx32, xx38, xx40, xx39, xx37, xx36, xx0, lvGet_0, lvGet_s, lvSet_0, lvSet_s, Option.map_some, capLV, List.map_cons, List.map_nil, Option.bind_none, Option.bind_some, Mini.F.den, lv0, List.length_cons, List.length_nil, if_true, reduceIte, Nat.reduceAdd, Nat.reduceLeDiff, Nat.reduceLT, List.getElem?_cons_zero, List.getElem?_cons_succ, Nat.zero_add, Int.reduceLT, Int.reduceLE, and_true, true_and, and_self, intRel, intOp, subS_t0, subS_t1, subS_t2, lenF, subI, get_end, eqS_int, eqS_spot, neS_int, ltS_int, decide_true, decide_false, Bool.not_true, Bool.not_false, KindOf.is, LIM, xx11, walkV, rangeF, Int.reduceEq, k1]
  exact Gives.some ⟨t, rfl, Nat.le_trans S.ext.len k2, S.ext.trans k3, k4⟩
end
end Mini
end

section
namespace Mini
open PySem
noncomputable abbrev pr (p : Int × Int) : V := .tup [.int p.1, .int p.2]
theorem beq_pr (a b : Int × Int) : V.beq (pr a) (pr b) = decide (a = b) := by
  obtain ⟨a1, a2⟩ := a
  obtain ⟨b1, b2⟩ := b
  simp [pr, V.beq, V.beqs]
theorem key_pr (p : Int × Int) : V.key 6 (pr p) = true := rfl

structure Holds2 (es : List ((Int × Int) × Int)) (P : Int → Int → Int → Prop) : Prop where
  nd : (es.map (·.1)).Nodup
  sound : ∀ u v c, ((u, v), c) ∈ es → P u v c
  full : ∀ u v c, P u v c → ∃ d, ((u, v), d) ∈ es
inductive CostAt (σ : Store) (t : Nat) (many : Int) (L : List Ln) : Prop
  | mk (es : List ((Int × Int) × Int)) (g : σ[t]? = some (.dict (es.map (eD pr V.int)))) (nd : (es.map (·.1)).Nodup) (s : ∀ u v c, ((u, v), c) ∈ es → (1 ≤ u ∧ u ≤ many) ∧ Dist L u v c)
    (f : ∀ u v a b k, 1 ≤ u ∧ u ≤ many → Wk L u v a b k → ∃ c, ((u, v), c) ∈ es) (l : es.length ≤ 100) : CostAt σ t many L
inductive CostP (σ0 : Store) (many : Int) (L : List Ln) (p : V × Store) : Prop
  | mk (t : Nat) (e : p.1 = .loc t) (l : σ0.length ≤ t) (x : Ext σ0 p.2) (h : CostAt p.2 t many L) : CostP σ0 many L p
inductive CI1 (many : Int) (Ls : List Ln) (ll dk : Nat) (σ1 : Store) (done : List Int) (lv : LV) (σ' : Store) : Prop
  | mk (a b c : Option V) (hlv : lv = [some (.int many), some (.loc ll), some (.loc dk), some (.loc σ1.length), a, b, c, none, none, none]) (x : Ext σ1 σ') (es : List ((Int × Int) × Int)) (g : σ'[σ1.length]? = some (.dict (es.map (eD pr V.int)))) (nd : (es.map (·.1)).Nodup)
    (s : ∀ u v c, ((u, v), c) ∈ es → u ∈ done ∧ (1 ≤ u ∧ u ≤ many) ∧ Dist Ls u v c) (f : ∀ u v a b k, u ∈ done → Wk Ls u v a b k → ∃ c, ((u, v), c) ∈ es) : CI1 many Ls ll dk σ1 done lv σ'
inductive CI2 (many : Int) (ll dk t : Nat) (σ1 : Store) (x : Int) (es : List ((Int × Int) × Int)) (ts : List (Int × (Int × List V))) (dn : List (Int × (Int × List V))) (lv : LV) (σ'' : Store) : Prop
  | mk (c : Option V) (hlv : lv = [some (.int many), some (.loc ll), some (.loc dk), some (.loc σ1.length), some (.int x), some (.loc t), c, none, none, none]) (e : Ext σ1 σ'') (g : σ''[t]? = some (.dict (ts.map (eD spot vT))))
    (h : σ''[σ1.length]? = some (.dict ((es ++ (dn.map fun p => (p.1, p.2.1)).map fun p => ((x, p.1), p.2)).map (eD pr V.int)))) : CI2 many ll dk t σ1 x es ts dn lv σ''
theorem CostAt.ext {σ σ' : Store} {t : Nat} {L : List Ln} {many : Int} (h : CostAt σ t many L) (e : Ext σ σ') : CostAt σ' t many L := let ⟨ts, a, b, c, d, f⟩ := h; ⟨ts, e.get a, b, c, d, f⟩
theorem pairs_len {many : Int} (h : many ≤ 5) {ks : List (Int × Int)} (hn : ks.Nodup) (hb : ∀ p ∈ ks, (1 ≤ p.1 ∧ p.1 ≤ many) ∧ (1 ≤ p.2 ∧ p.2 ≤ many)) : ks.length ≤ 25 := by
  have : ks.length ≤ ((ids 5).flatMap fun a => (ids 5).map fun b => (a, b)).length := nodup_len hn (fun p hp => by
    have := hb p hp
    rw [List.mem_flatMap]
    exact ⟨p.1, mem_ids.mpr (by lia), List.mem_map.mpr ⟨p.2, mem_ids.mpr (by lia), rfl⟩⟩)
  have e : ((ids 5).flatMap fun a => (ids 5).map fun b => (a, b)).length = 25 := by decide
  lia
theorem nodup_app_pairs {es : List ((Int × Int) × Int)} {x : Int} {dn : List (Int × Int)} (h1 : (es.map (·.1)).Nodup) (h2 : ∀ u v c, ((u, v), c) ∈ es → u ≠ x) (h3 : (dn.map (·.1)).Nodup) : ((es ++ dn.map fun p => ((x, p.1), p.2)).map (·.1)).Nodup := by
  rw [List.map_append, List.nodup_append, List.map_map]
  refine ⟨h1, ?_, ?_⟩
  · have : (dn.map ((fun x => x.1) ∘ fun p : Int × Int => ((x, p.1), p.2))) = (dn.map (·.1)).map fun v => (x, v) := by rw [List.map_map]; rfl
    rw [this]
    exact List.Pairwise.map _ (fun a b h e => h (by cases e; rfl)) h3
  · intro a ha b hb e
    subst e
    obtain ⟨⟨⟨u, v⟩, c⟩, hp, rfl⟩ := List.mem_map.mp ha
    obtain ⟨q, _, hq⟩ := List.mem_map.mp hb
    simp only [Function.comp_apply, Prod.mk.injEq] at hq
    exact h2 u v c hp hq.1.symm

section
variable {many : Int} {Ls : List Ln} (G : GoodL many Ls)
include G
theorem costs_run {ll : Nat} {σ0 : Store} (hl : σ0[ll]? = some (.list (Ls.map eL))) :
    Gives (f__law_costs [.int many, .loc ll] σ0) (CostP σ0 many Ls) := by
  have hhi := G.hi
  have hlo := G.lo
  refine den_gives rfl ?_
  unfold d__law_costs
  obtain ⟨⟨v, σ1⟩, k1, dk, k2, k3, k4, k5⟩ := law_links_run G hl
  simp only at k2 k3 k5
  subst k2
  have h1m : (-1000000 : Int) < many + 1 := by lia
  have h2m : many + 1 < (1000000 : Int) := by lia
  simp only [xx8, Mini.D.seq_nx, Mini.D.seq_ct, Mini.D.seq_rt, xx13, xx10, xx14, xx9, xx12, xx7, xx15, xx30, xx20, xx16, xx18, xx3, xx4, xx2, xx5, xx6, xx23, xx35, xx34, xx29, xx24, xx26, xx28, xx27, xx17, xx25, xx21, xx22, xx33, xx31, xx32, xx38, xx40, xx39, xx37, xx36, xx0, lvGet_0, lvGet_s, lvSet_0, lvSet_s, Option.map_some, capLV, List.map_cons, List.map_nil, Option.bind_none, Option.bind_some, Mini.F.den, lv0, List.length_cons, List.length_nil, if_true, reduceIte, Nat.reduceAdd, Nat.reduceLeDiff, Nat.reduceLT, List.getElem?_cons_zero, List.getElem?_cons_succ, Nat.zero_add, Int.reduceLT, Int.reduceLE, and_true, true_and, and_self, intRel, intOp, subS_t0, subS_t1, subS_t2, lenF, subI, get_end, eqS_int, eqS_spot, neS_int, ltS_int, decide_true, decide_false, Bool.not_true, Bool.not_false, KindOf.is, LIM, xx11, walkV, rangeF, Int.reduceEq, k1, lvSets, List.reverse_cons, List.reverse_nil, List.nil_append, List.cons_append, addS, h1m, h2m]
  have hes : ∀ (es : List ((Int × Int) × Int)), (es.map (·.1)).Nodup → (∀ u v c, ((u, v), c) ∈ es → (1 ≤ u ∧ u ≤ many) ∧ Dist Ls u v c) → es.length ≤ 25 := by
    intro es h1 h2
    have := pairs_len hhi h1 (fun p hp => by
      obtain ⟨⟨⟨u, v⟩, c⟩, hq, rfl⟩ := List.mem_map.mp hp
      obtain ⟨hu, hd⟩ := h2 u v c hq
      obtain ⟨⟨a, b, k, hw, _⟩, _⟩ := hd
      exact ⟨hu, hw.rng G hu⟩)
    rwa [List.length_map] at this
  refine seq_for V.int (CI1 many Ls ll dk σ1) (ids many) (rng_ids many) ?_ ?_ ?_ ?_
  · intro _ _ _ _; rfl
  · exact ⟨_, _, _, rfl, Ext.rfl.app _, [], get_end, by simp, (fun _ _ _ h => by cases h), (fun _ _ _ _ _ h => by cases h)⟩
  · rintro done x rest lv σ' e ⟨a, b, c, rfl, h1, es, h2, h3, h4, h5⟩
    have hx : x ∈ ids many := by rw [e]; simp
    have hxr := mem_ids.mp hx
    have hxd : x ∉ done := by
      have hmn := ids_nodup many
      rw [e] at hmn
      intro hx
      exact (List.nodup_append.mp hmn).2.2 x hx x List.mem_cons_self rfl
    have hux : ∀ u v c, ((u, v), c) ∈ es → u ≠ x := by
      intro u v c h e
      subst e
      exact hxd (h4 _ _ _ h).1
    obtain ⟨⟨v, σ2⟩, j1, t, j2, j3, j4, j5⟩ := spf_run G hxr ((k5.ext h1).ext (Ext.rfl.app [MObj.dict []])) (get_end (σ := σ') (o := .dict []))
    simp only at j2 j4 j5
    subst j2
    obtain ⟨ts, m1, m2⟩ := j5
    refine ⟨[some (.int many), some (.loc ll), some (.loc dk), some (.loc σ1.length), some (.int x), b, c, none, none, none], σ', rfl, ?_⟩
    simp only [xx8, Mini.D.seq_nx, Mini.D.seq_ct, Mini.D.seq_rt, xx13, xx10, xx14, xx9, xx12, xx7, xx15, xx30, xx20, xx16, xx18, xx3, xx4, xx2, xx5, xx6, xx23, xx35, xx34, xx29, xx24, xx26, xx28, xx27, xx17, xx25, xx21, xx22, xx33, xx31, xx32, xx38, xx40, xx39, xx37, xx36, xx0, lvGet_0, lvGet_s, lvSet_0, lvSet_s, Option.map_some, capLV, List.map_cons, List.map_nil, Option.bind_none, Option.bind_some, Mini.F.den, lv0, List.length_cons, List.length_nil, if_true, reduceIte, Nat.reduceAdd, Nat.reduceLeDiff, Nat.reduceLT, List.getElem?_cons_zero, List.getElem?_cons_succ, Nat.zero_add, Int.reduceLT, Int.reduceLE, and_true, true_and, and_self, intRel, intOp, subS_t0, subS_t1, subS_t2, lenF, subI, get_end, eqS_int, eqS_spot, neS_int, ltS_int, decide_true, decide_false, Bool.not_true, Bool.not_false, KindOf.is, LIM, xx11, walkV, rangeF, Int.reduceEq, j1, m1]
    have hft : σ1.length < σ'.length := lt_of_get h2
    have htl : σ'.length ≤ t := by have := j3; simp at this; lia
    refine seq_for (α := Int × (Int × List V)) (fun p => spot p.1) (CI2 many ll dk t σ1 x es ts) ts (keys_map _ _ _) ?_ ?_ ?_ ?_
    · rintro dn lv σ'' ⟨_, _, _, h, _⟩; exact srcOk_same h
    · exact ⟨_, rfl, (h1.app _).trans j4, m1, j4.get (get_app (by simpa using h2))⟩
    · rintro dn q rs lv σ'' eq ⟨c, rfl, n1, n2, n3⟩
      obtain ⟨qv, qc, qw⟩ := q
      have hdn : ((dn.map fun p => (p.1, p.2.1)).map (·.1)).Nodup ∧ qv ∉ (dn.map fun p => (p.1, p.2.1)).map (·.1) := by
        have := m2.nd
        rw [eq, List.map_append, List.map_append] at this
        refine ⟨(List.nodup_append.mp this).1, fun h => ?_⟩
        exact (List.nodup_append.mp this).2.2 qv h qv (by simp) rfl
      have hq : (qv, qc, qw) ∈ ts := by rw [eq]; simp
      have hnew : (x, qv) ∉ (es ++ (dn.map fun p => (p.1, p.2.1)).map fun p => ((x, p.1), p.2)).map (·.1) := by
        rw [List.map_append, List.mem_append]
        rintro (h | h)
        · obtain ⟨⟨⟨u, v⟩, c⟩, hp, e2⟩ := List.mem_map.mp h
          cases e2
          exact hxd (h4 _ _ _ hp).1
        · rw [List.map_map] at h
          obtain ⟨p, hp, e2⟩ := List.mem_map.mp h
          simp only [Function.comp_apply, Prod.mk.injEq] at e2
          exact hdn.2 (List.mem_map.mpr ⟨p, hp, e2.2⟩)
      have hnd2 := nodup_app_pairs h3 hux hdn.1
      have hlen := hes _ hnd2 (fun u v c h => by
        rcases List.mem_append.mp h with h | h
        · exact (h4 u v c h).2
        · obtain ⟨p, hp, e2⟩ := List.mem_map.mp h
          cases e2
          obtain ⟨q, hq, e3⟩ := List.mem_map.mp hp
          cases e3
          exact ⟨hxr, m2.sound _ _ (List.mem_map.mpr ⟨q, by rw [eq]; simp [hq], rfl⟩)⟩)
      have hs : subS (.loc t) (spot qv) σ'' = some (vT (qc, qw)) := by
        have : (ts.map (·.1)).Nodup := by have := m2.nd; rw [List.map_map] at this; exact this
        rw [subS_spot n2, aGet_of_mem this hq]; rfl
      have st := storeItem_at beq_pr (k := (x, qv)) (b := qc) n3 (key_pr _) (by lia)
      rw [aSet_new hnew] at st
      refine ⟨[some (.int many), some (.loc ll), some (.loc dk), some (.loc σ1.length), some (.int x), some (.loc t), some (spot qv), none, none, none], σ'', rfl, ?_⟩
      simp only [xx8, Mini.D.seq_nx, Mini.D.seq_ct, Mini.D.seq_rt, xx13, xx10, xx14, xx9, xx12, xx7, xx15, xx30, xx20, xx16, xx18, xx3, xx4, xx2, xx5, xx6, xx23, xx35, xx34, xx29, xx24, xx26, xx28, xx27, xx17, xx25, xx21, xx22, xx33, xx31, xx32, xx38, xx40, xx39, xx37, xx36, xx0, lvGet_0, lvGet_s, lvSet_0, lvSet_s, Option.map_some, capLV, List.map_cons, List.map_nil, Option.bind_none, Option.bind_some, Mini.F.den, lv0, List.length_cons, List.length_nil, if_true, reduceIte, Nat.reduceAdd, Nat.reduceLeDiff, Nat.reduceLT, List.getElem?_cons_zero, List.getElem?_cons_succ, Nat.zero_add, Int.reduceLT, Int.reduceLE, and_true, true_and, and_self, intRel, intOp, subS_t0, subS_t1, subS_t2, lenF, subI, get_end, eqS_int, eqS_spot, neS_int, ltS_int, decide_true, decide_false, Bool.not_true, Bool.not_false, KindOf.is, LIM, xx11, walkV, rangeF, Int.reduceEq, hs, st]
      refine Gives.some ⟨_, rfl, n1.set _ (Nat.le_refl _), ?_, ?_⟩
      · rw [get_set_ne (by lia)]; exact n2
      · rw [get_set_eq (lt_of_get n3)]; simp
    · rintro lv σ'' ⟨c, rfl, n1, n2, n3⟩
      simp only [xx8, Mini.D.seq_nx, Mini.D.seq_ct, Mini.D.seq_rt, xx13, xx10, xx14, xx9, xx12, xx7, xx15, xx30, xx20, xx16, xx18, xx3, xx4, xx2, xx5, xx6, xx23, xx35, xx34, xx29, xx24, xx26, xx28, xx27, xx17, xx25, xx21, xx22, xx33, xx31, xx32, xx38, xx40, xx39, xx37, xx36, xx0, lvGet_0, lvGet_s, lvSet_0, lvSet_s, Option.map_some, capLV, List.map_cons, List.map_nil, Option.bind_none, Option.bind_some, Mini.F.den, lv0, List.length_cons, List.length_nil, if_true, reduceIte, Nat.reduceAdd, Nat.reduceLeDiff, Nat.reduceLT, List.getElem?_cons_zero, List.getElem?_cons_succ, Nat.zero_add, Int.reduceLT, Int.reduceLE, and_true, true_and, and_self, intRel, intOp, subS_t0, subS_t1, subS_t2, lenF, subI, get_end, eqS_int, eqS_spot, neS_int, ltS_int, decide_true, decide_false, Bool.not_true, Bool.not_false, KindOf.is, LIM, xx11, walkV, rangeF, Int.reduceEq]
      refine Gives.some ⟨_, _, _, rfl, n1, _, n3, nodup_app_pairs h3 hux m2.nd, fun u v c h => ?_, fun u v a b k hu hw => ?_⟩
      · rcases List.mem_append.mp h with h | h
        · have := h4 u v c h; exact ⟨List.mem_append_left _ this.1, this.2⟩
        · obtain ⟨p, hp, e2⟩ := List.mem_map.mp h
          cases e2
          exact ⟨by simp, hxr, m2.sound _ _ hp⟩
      · rcases List.mem_append.mp hu with hu | hu
        · obtain ⟨c, hc⟩ := h5 u v a b k hu hw
          exact ⟨c, List.mem_append_left _ hc⟩
        · rw [List.mem_singleton] at hu; subst hu
          obtain ⟨c, hc⟩ := m2.full v a b k hw
          exact ⟨c, List.mem_append_right _ (List.mem_map.mpr ⟨_, hc, rfl⟩)⟩
  · rintro lv σ' ⟨a, b, c, rfl, h1, es, h2, h3, h4, h5⟩
    simp only [xx8, Mini.D.seq_nx, Mini.D.seq_ct, Mini.D.seq_rt, xx13, xx10, xx14, xx9, xx12, xx7, xx15, xx30, xx20, xx16, xx18, xx3, xx4, xx2, xx5, xx6, xx23, xx35, xx34, xx29, xx24, xx26, xx28, xx27, xx17, xx25, xx21, xx22, xx33, xx31, xx32, xx38, xx40, xx39, xx37, xx36, xx0, lvGet_0, lvGet_s, lvSet_0, lvSet_s, Option.map_some, capLV, List.map_cons, List.map_nil, Option.bind_none, Option.bind_some, Mini.F.den, lv0, List.length_cons, List.length_nil, if_true, reduceIte, Nat.reduceAdd, Nat.reduceLeDiff, Nat.reduceLT, List.getElem?_cons_zero, List.getElem?_cons_succ, Nat.zero_add, Int.reduceLT, Int.reduceLE, and_true, true_and, and_self, intRel, intOp, subS_t0, subS_t1, subS_t2, lenF, subI, get_end, eqS_int, eqS_spot, neS_int, ltS_int, decide_true, decide_false, Bool.not_true, Bool.not_false, KindOf.is, LIM, xx11, walkV, rangeF, Int.reduceEq]
    exact Gives.some ⟨_, rfl, k3.len, k3.trans h1, es, h2, h3, fun u v c h => (h4 u v c h).2, fun u v a b k hu hw => h5 u v a b k (mem_ids.mpr hu) hw, by have := hes es h3 (fun u v c h => (h4 u v c h).2); lia⟩
end
end Mini
end

section
namespace Mini
open PySem
theorem Wk.sub {L C : List Ln} (h : ∀ l ∈ C, l ∈ L) {u v a b c : Int} (w : Wk C u v a b c) : Wk L u v a b c := by
  induction w with
  | nil => exact Wk.nil
  | snoc w e ih => exact Wk.snoc ih (e.imp (h _) (h _))
theorem Conn.sub {L C : List Ln} (h : ∀ l ∈ C, l ∈ L) {y u v : Int} (w : Conn C y u v) : Conn L y u v := by
  obtain ⟨a, b, c, h1, h2⟩ := w
  exact ⟨a, b, c, h1.sub h, h2⟩

structure KI (many : Int) (L : List Ln) (y0 : Int) (P : Ln → Prop) (f : Int → Int) (M : List ((Int × Int) × Int)) (C : List Ln) : Prop where
  nd : (M.map (·.1)).Nodup
  sub : ∀ l ∈ C, l ∈ L
  e : ∀ u v, 1 ≤ u ∧ u ≤ many → 1 ≤ v ∧ v ≤ many → f u = f v → Conn C y0 u v
  d : ∀ l, P l → f l.1 = f l.2.1
  b : ∀ l, P l → Conn C l.2.2 l.1 l.2.1
  low : ∀ l ∈ L, l.2.2 < y0 → P l
  c1 : ∀ u v x, aGet M (u, v) = some x → (1 ≤ u ∧ u ≤ many) ∧ (1 ≤ v ∧ v ≤ many) ∧ u ≠ v ∧ 0 ≤ x ∧ x ≤ 2 ∧ Conn L x u v ∧ (∀ y, 0 ≤ y → y < x → ¬ Conn L y u v) ∧ f u = f v
  c2 : ∀ u v, 1 ≤ u ∧ u ≤ many → 1 ≤ v ∧ v ≤ many → u ≠ v → f u = f v → ∃ x, aGet M (u, v) = some x
noncomputable def Wq (many : Int) (f : Int → Int) (A B : Int) (q : Int × Int) : Prop := ∃ n m, (n ∈ ids many ∧ f n = A) ∧ (m ∈ ids many ∧ f m = B) ∧ (q = (n, m) ∨ q = (m, n))
section
variable {many : Int} {L : List Ln} (G : GoodL many L) {y0 : Int} {P : Ln → Prop} {f : Int → Int} {M : List ((Int × Int) × Int)} {C : List Ln}
include G
theorem KI.first : KI many L 0 (fun l => l ∈ L ∧ l.2.2 < 0) id [] [] := by
  refine ⟨by simp, by simp, fun u v _ _ h => ?_, fun l h => ?_, fun l h => ?_, fun l hl h => ⟨hl, h⟩, (fun u v x h => by cases h), fun u v _ _ h1 h2 => absurd h2 h1⟩
  · cases h; exact Conn.refl
  · have := G.lines l h.1; omega
  · have := G.lines l h.1; omega
theorem KI.skip (h : KI many L y0 P f M C) {l : Ln} (hl : l ∈ L) (hy : l.2.2 = y0) (he : f l.1 = f l.2.1) : KI many L y0 (fun q => P q ∨ q = l) f M C := by
  have hg := G.lines l hl
  refine ⟨h.nd, h.sub, h.e, fun q hq => ?_, fun q hq => ?_, fun q hq hlt => Or.inl (h.low q hq hlt), h.c1, h.c2⟩
  · rcases hq with hq | rfl
    · exact h.d q hq
    · exact he
  · rcases hq with hq | rfl
    · exact h.b q hq
    · rw [hy]; exact h.e _ _ (by grind) (by grind) he
theorem KI.up (h : KI many L y0 P f M C) (ha : ∀ l ∈ L, l.2.2 = y0 → P l) : KI many L (y0 + 1) P f M C :=
  ⟨h.nd, h.sub, fun u v hu hv e => (h.e u v hu hv e).mono (by lia), h.d, h.b, fun l hl hlt => by
    by_cases e : l.2.2 = y0
    · exact ha l hl e
    · exact h.low l hl (by lia), h.c1, h.c2⟩
set_option tactic.hygienic true in
theorem KI.join (h : KI many L y0 P f M C) {l : Ln} (hl : l ∈ L) (hy : l.2.2 = y0) (hne : f l.1 ≠ f l.2.1) {M' : List ((Int × Int) × Int)} (hn : (M'.map (·.1)).Nodup)
    (hM : ∀ q x, aGet M' q = some x ↔ (Wq many f (f l.1) (f l.2.1) q ∧ x = y0) ∨ (¬ Wq many f (f l.1) (f l.2.1) q ∧ aGet M q = some x)) :
    KI many L y0 (fun q => P q ∨ q = l) (fun i => if f i = f l.2.1 then f l.1 else f i) M' (C ++ [l]) := by
  obtain ⟨a, b, y⟩ := l
  simp only at hy hne hM ⊢
  subst hy
  have hg := G.lines _ hl
  simp only at hg
  have hsub : ∀ q ∈ C ++ [(a, b, y)], q ∈ L := by
    intro q hq
    rcases List.mem_append.mp hq with hq | hq
    · exact h.sub q hq
    · rw [List.mem_singleton] at hq; subst hq; exact hl
  have up : ∀ {x u v}, Conn C x u v → Conn (C ++ [(a, b, y)]) x u v := fun k => k.sub (fun q hq => List.mem_append_left _ hq)
  have hab : Conn (C ++ [(a, b, y)]) y a b := Conn.edge hg.2.2.2.1 (Or.inl (by simp))
  have he : ∀ u v, 1 ≤ u ∧ u ≤ many → 1 ≤ v ∧ v ≤ many → (if f u = f b then f a else f u) = (if f v = f b then f a else f v) → Conn (C ++ [(a, b, y)]) y u v := by
    intro u v hu hv e
    split at e
    · rename_i h1
      split at e
      · rename_i h2; exact up (h.e u v hu hv (by rw [h1, h2]))
      · exact ((up (h.e v a hv (by grind) e.symm)).trans (hab.trans (up (h.e b u (by grind) hu h1.symm)))).symm
    · split at e
      · rename_i h2
        exact (up (h.e u a hu (by grind) e)).trans (hab.trans (up (h.e b v (by grind) hv h2.symm)))
      · exact up (h.e u v hu hv e)
  have hW : ∀ u v, Wq many f (f a) (f b) (u, v) ↔ (1 ≤ u ∧ u ≤ many) ∧ (1 ≤ v ∧ v ≤ many) ∧ ((f u = f a ∧ f v = f b) ∨ (f u = f b ∧ f v = f a)) := by
    intro u v
    constructor
    · rintro ⟨n, m, ⟨n1, n2⟩, ⟨m1, m2⟩, e | e⟩
      · cases e; exact ⟨mem_ids.mp n1, mem_ids.mp m1, Or.inl ⟨n2, m2⟩⟩
      · cases e; exact ⟨mem_ids.mp m1, mem_ids.mp n1, Or.inr ⟨m2, n2⟩⟩
    · rintro ⟨hu, hv, ⟨h1, h2⟩ | ⟨h1, h2⟩⟩
      · exact ⟨u, v, ⟨mem_ids.mpr hu, h1⟩, ⟨mem_ids.mpr hv, h2⟩, Or.inl rfl⟩
      · exact ⟨v, u, ⟨mem_ids.mpr hv, h2⟩, ⟨mem_ids.mpr hu, h1⟩, Or.inr rfl⟩
  have hk : ∀ u v, (1 ≤ u ∧ u ≤ many) → (1 ≤ v ∧ v ≤ many) → f u ≠ f v → ∀ z, 0 ≤ z → z < y → ¬ Conn L z u v := by
    intro u v hu hv hne z hz hzy k
    refine hne (k.fold G hz (fun w => f u = f w) rfl (fun p q x hE hx hp => ?_))
    rcases hE with hE | hE
    · rw [hp]; exact h.d _ (h.low _ hE (by show x < y; grind))
    · rw [hp]; exact (h.d _ (h.low _ hE (by show x < y; grind))).symm
  refine ⟨hn, hsub, he, ?_, ?_, fun q hq hlt => Or.inl (h.low q hq hlt), ?_, ?_⟩
  · rintro q (hq | rfl)
    · rw [h.d q hq]
    · simp [hne]
  · rintro q (hq | rfl)
    · exact up (h.b q hq)
    · exact hab
  · intro u v x hx
    rcases (hM (u, v) x).mp hx with ⟨hw, rfl⟩ | ⟨hw, hx⟩
    · obtain ⟨hu, hv, hc⟩ := (hW u v).mp hw
      have hfe : (if f u = f b then f a else f u) = (if f v = f b then f a else f v) := by
        rcases hc with ⟨h1, h2⟩ | ⟨h1, h2⟩ <;> simp [h1, h2, hne]
      have hfn : f u ≠ f v := by
        rcases hc with ⟨h1, h2⟩ | ⟨h1, h2⟩
        · rw [h1, h2]; exact hne
        · rw [h1, h2]; exact hne.symm
      exact ⟨hu, hv, fun e => hfn (by rw [e]), hg.2.2.2.1, hg.2.2.2.2, (he u v hu hv hfe).sub hsub, hk u v hu hv hfn, hfe⟩
    · obtain ⟨k1, k2, k3, k4, k5, k6, k7, k8⟩ := h.c1 u v x hx
      exact ⟨k1, k2, k3, k4, k5, k6, k7, by rw [k8]⟩
  · intro u v hu hv huv e
    by_cases hw : Wq many f (f a) (f b) (u, v)
    · exact ⟨y, (hM _ _).mpr (Or.inl ⟨hw, rfl⟩)⟩
    · have : f u = f v := by
        split at e
        · rename_i h1
          split at e
          · rename_i h2; rw [h1, h2]
          · exact absurd ((hW u v).mpr ⟨hu, hv, Or.inr ⟨h1, e.symm⟩⟩) hw
        · split at e
          · rename_i h2
            exact absurd ((hW u v).mpr ⟨hu, hv, Or.inl ⟨e, h2⟩⟩) hw
          · exact e
      obtain ⟨x, hx⟩ := h.c2 u v hu hv huv this
      exact ⟨x, (hM _ _).mpr (Or.inr ⟨hw, hx⟩)⟩

theorem KI.last (h : KI many L 3 P f M C) : (∀ y u v, 0 ≤ y → (Conn C y u v ↔ Conn L y u v)) ∧ (∀ u v x, Lv C u v x ↔ Lv L u v x) ∧
    ∀ u v x, aGet M (u, v) = some x ↔ (1 ≤ u ∧ u ≤ many) ∧ (1 ≤ v ∧ v ≤ many) ∧ u ≠ v ∧ Lv L u v x := by
  have hP : ∀ l ∈ L, P l := fun l hl => h.low l hl (by have := G.lines l hl; omega)
  have h1 : ∀ y u v, 0 ≤ y → (Conn C y u v ↔ Conn L y u v) := by
    intro y u v hy
    refine ⟨fun k => k.sub h.sub, fun k => k.fold G hy (fun w => Conn C y u w) Conn.refl (fun p q x hE hx hp => ?_)⟩
    rcases hE with hE | hE
    · exact hp.trans ((h.b _ (hP _ hE)).mono hx)
    · exact hp.trans ((h.b _ (hP _ hE)).mono hx).symm
  refine ⟨h1, fun u v x => ?_, fun u v x => ⟨fun hx => ?_, fun ⟨hu, hv, hne, hx⟩ => ?_⟩⟩
  · unfold Lv
    constructor
    · rintro (k | ⟨k1, k2, k3, k4, k5⟩)
      · exact Or.inl k
      · exact Or.inr ⟨k1, k2, k3, (h1 _ _ _ k2).mp k4, fun z hz hzx k => k5 z hz hzx ((h1 _ _ _ hz).mpr k)⟩
    · rintro (k | ⟨k1, k2, k3, k4, k5⟩)
      · exact Or.inl k
      · exact Or.inr ⟨k1, k2, k3, (h1 _ _ _ k2).mpr k4, fun z hz hzx k => k5 z hz hzx ((h1 _ _ _ hz).mp k)⟩
  · obtain ⟨k1, k2, k3, k4, k5, k6, k7, _⟩ := h.c1 u v x hx
    exact ⟨k1, k2, k3, Or.inr ⟨k3, k4, k5, k6, k7⟩⟩
  · have hf : f u = f v := by
      rcases hx with ⟨e, _⟩ | ⟨_, k2, k3, k4, _⟩
      · exact absurd e hne
      · refine k4.fold G k2 (fun w => f u = f w) rfl (fun p q x hE hx hp => ?_)
        rcases hE with hE | hE
        · rw [hp]; exact h.d _ (hP _ hE)
        · rw [hp]; exact (h.d _ (hP _ hE)).symm
    obtain ⟨x', hx'⟩ := h.c2 u v hu hv hne hf
    obtain ⟨k1, k2, k3, k4, k5, k6, k7, _⟩ := h.c1 u v x' hx'
    have := Lv.uniq hx (Or.inr ⟨k3, k4, k5, k6, k7⟩)
    rw [this]; exact hx'
end
end Mini
end

section
namespace Mini
open PySem
theorem Ext.of_get {a b : Store} (h : ∀ (l : Nat) (o : MObj), a[l]? = some o → b[l]? = some o) : Ext a b := by
  refine ⟨b.drop a.length, ?_⟩
  apply List.ext_getElem?
  intro i
  by_cases hi : i < a.length
  · rw [List.getElem?_append_left hi, h i _ (List.getElem?_eq_getElem hi), List.getElem?_eq_getElem hi]
  · rw [List.getElem?_append_right (by grind), List.getElem?_drop]
    congr 1; grind
noncomputable def Keep (m : Nat) (σ σ' : Store) : Prop := σ.length ≤ σ'.length ∧ ∀ (l : Nat) (o : MObj), l ≠ m → σ[l]? = some o → σ'[l]? = some o
theorem Keep.refl {m : Nat} {σ : Store} : Keep m σ σ := ⟨Nat.le_refl _, fun _ _ _ h => h⟩
theorem Keep.trans {m : Nat} {a b c : Store} (h : Keep m a b) (k : Keep m b c) : Keep m a c := ⟨Nat.le_trans h.1 k.1, fun l o n g => k.2 l o n (h.2 l o n g)⟩
theorem Keep.ext {m : Nat} {a b : Store} (h : Ext a b) : Keep m a b := ⟨h.len, fun l o n g => h.get g⟩
theorem Keep.set {m : Nat} {a : Store} {o : MObj} : Keep m a (a.set m o) := ⟨by simp, fun l o n g => by rw [get_set_ne (Ne.symm n)]; exact g⟩
theorem Keep.Ext {m : Nat} {s a b : Store} (h : Ext s a) (k : Keep m a b) (hm : s.length ≤ m) : Ext s b :=
  Ext.of_get fun l o g => k.2 l o (by have := lt_of_get g; lia) (h.get g)

noncomputable abbrev eP {κ β : Type} (kf : κ → V) (vf : β → V) (p : κ × β) : V := .tup [kf p.1, vf p.2]
theorem pairsD_run {κ β : Type} [DecidableEq κ] {kf : κ → V} {vf : β → V} (hk : ∀ a b, V.beq (kf a) (kf b) = decide (a = b)) (hkey : ∀ a, V.key 6 (kf a) = true) :
    ∀ (xs acc : List (κ × β)), ((acc ++ xs).map (·.1)).Nodup → (acc ++ xs).length ≤ 1000 → pairsD (xs.map (eP kf vf)) (acc.map (eD kf vf)) = some ((acc ++ xs).map (eD kf vf)) := by
  intro xs
  induction xs with
  | nil => intro acc _ _; rw [List.append_nil]; rfl
  | cons x xs ih =>
    intro acc hn hl
    obtain ⟨k, v⟩ := x
    have e : acc ++ (k, v) :: xs = (acc ++ [(k, v)]) ++ xs := by simp
    have hnew : k ∉ acc.map (·.1) := by
      rw [List.map_append, List.nodup_append] at hn
      intro h
      exact hn.2.2 k h k (by simp) rfl
    have hlt : (acc.map (eD kf vf)).length < LIM := by
      simp at hl ⊢; show _ < 1000000; lia
    rw [List.map_cons, pairsD, if_pos ⟨hkey k, hlt⟩, dSet_map hk, aSet_new hnew, e]
    exact ih _ (by rw [← e]; exact hn) (by rw [← e]; exact hl)
theorem dictF_run {κ β : Type} [DecidableEq κ] {kf : κ → V} {vf : β → V} (hk : ∀ a b, V.beq (kf a) (kf b) = decide (a = b)) (hkey : ∀ a, V.key 6 (kf a) = true) {l : Nat} {xs : List (κ × β)} {σ : Store}
    (hl : σ[l]? = some (.list (xs.map (eP kf vf)))) (hn : (xs.map (·.1)).Nodup) (hlen : xs.length ≤ 1000) : dictF [.loc l] σ = some (.loc σ.length, σ ++ [.dict (xs.map (eD kf vf))]) := by
  have := pairsD_run hk hkey (vf := vf) xs [] (by simpa using hn) (by simpa using hlen)
  rw [List.nil_append, List.map_nil] at this
  simp only [dictF, hl, this, Option.map_some]
theorem key_int (i : Int) : V.key 6 (.int i) = true := rfl

noncomputable def inR (many : Int) (q : Int × Int) : Prop := (1 ≤ q.1 ∧ q.1 ≤ many) ∧ (1 ≤ q.2 ∧ q.2 ≤ many)
structure MW (many : Int) (M M' : List ((Int × Int) × Int)) (y : Int) (W : Int × Int → Prop) : Prop where
  nd : (M'.map (·.1)).Nodup
  get : ∀ q x, aGet M' q = some x ↔ (W q ∧ x = y) ∨ (¬ W q ∧ aGet M q = some x)
  rng : ∀ q ∈ M'.map (·.1), inR many q
theorem MW.set {many : Int} {M M' : List ((Int × Int) × Int)} {y : Int} {W : Int × Int → Prop} (h : MW many M M' y W) {q : Int × Int} (hq : inR many q) : MW many M (aSet M' q y) y (fun z => W z ∨ z = q) := by
  refine ⟨aSet_nodup h.nd _ _, fun z x => ?_, fun z hz => ?_⟩
  · rw [aGet_set]
    by_cases e : q = z
    · subst e; simp [eq_comm]
    · have : ¬ z = q := fun k => e k.symm
      rw [if_neg e, h.get]; simp [this]
  · rw [aSet_keys] at hz
    split at hz
    · exact h.rng z hz
    · rcases List.mem_append.mp hz with hz | hz
      · exact h.rng z hz
      · rw [List.mem_singleton] at hz; subst hz; exact hq
theorem MW.congr {many : Int} {M M' : List ((Int × Int) × Int)} {y : Int} {W W' : Int × Int → Prop} (h : MW many M M' y W) (e : ∀ q, W q ↔ W' q) : MW many M M' y W' := by
  have : W = W' := by funext q; exact propext (e q)
  subst this; exact h
theorem MW.len {many : Int} {M M' : List ((Int × Int) × Int)} {y : Int} {W : Int × Int → Prop} (h : MW many M M' y W) (hm : many ≤ 5) : M'.length ≤ 25 := by
  have := pairs_len hm h.nd h.rng
  rwa [List.length_map] at this

noncomputable def dWrite : SDen := (D.cons (D.assign (T.tup 2 (Ts.cons (T.sub (E.var 3) (E.tup (L.cons (E.var 9) (L.cons (E.var 10) L.nil)))) (Ts.cons (T.sub (E.var 3) (E.tup (L.cons (E.var 10) (L.cons (E.var 9) L.nil)))) Ts.nil))) (E.tup (L.cons (E.var 5) (L.cons (E.var 5) L.nil)))) D.nil)
noncomputable def dFar : SDen := (D.for (It.val (E.comp (It.val (E.var 2)) [none, none, some 2, some 8] (.list []) (T.var 1) (C.cmp eqS (E.sub (E.var 2) (E.var 1)) (E.var 3)) (B.app (E.var 1)))) (T.var 10) dWrite)
noncomputable def dNear : SDen := (D.for (It.val (E.comp (It.val (E.var 2)) [none, none, some 2, some 7] (.list []) (T.var 1) (C.cmp eqS (E.sub (E.var 2) (E.var 1)) (E.var 3)) (B.app (E.var 1)))) (T.var 9) (D.cons dFar D.nil))
noncomputable def dLot : SDen := (D.assign (T.var 2) (E.call dictF (L.cons (E.comp (It.val (E.var 2)) [none, none, some 2, some 7, some 8] (.list []) (T.var 1) C.true (B.app (E.tup (L.cons (E.var 1) (L.cons (E.ite (C.cmp eqS (E.sub (E.var 2) (E.var 1)) (E.var 4)) (E.var 3) (E.sub (E.var 2) (E.var 1))) L.nil))))) L.nil)))
noncomputable def dLine : SDen := (D.cons (D.assign (T.tup 2 (Ts.cons (T.var 7) (Ts.cons (T.var 8) Ts.nil))) (E.tup (L.cons (E.sub (E.var 2) (E.sub (E.var 6) (E.const (.int 0)))) (L.cons (E.sub (E.var 2) (E.sub (E.var 6) (E.const (.int 1)))) L.nil)))) (D.cons (D.ite (C.cmp neS (E.var 7) (E.var 8)) (D.cons (D.expr (E.meth .list appendM (E.var 4) (L.cons (E.var 6) L.nil))) (D.cons dNear (D.cons dLot D.nil))) D.nil) D.nil))

noncomputable def lotD (many : Int) (f : Int → Int) : List (Int × Int) := (ids many).map fun i => (i, f i)
theorem lotD_keys (many : Int) (f : Int → Int) : (lotD many f).map (·.1) = ids many := by simp [lotD, Function.comp_def]
theorem lotD_get {many : Int} {f : Int → Int} {i : Int} (h : i ∈ ids many) : aGet (lotD many f) i = some (f i) :=
  aGet_of_mem (by rw [lotD_keys]; exact ids_nodup many) (List.mem_map.mpr ⟨i, h, rfl⟩)
theorem subS_int {β : Type} {l : Nat} {xs : List (Int × β)} {vf : β → V} {σ : Store} {v : Int} (h : σ[l]? = some (.dict (xs.map (eD V.int vf)))) : subS (.loc l) (.int v) σ = (aGet xs v).map vf := by
  simp only [subS, h]
  rw [if_pos (by rfl), dGet_map beq_int]
theorem subS_lot {many : Int} {f : Int → Int} {p : Nat} {σ : Store} {i : Int} (h : σ[p]? = some (.dict ((lotD many f).map (eD V.int V.int)))) (hi : i ∈ ids many) : subS (.loc p) (.int i) σ = some (.int (f i)) := by
  rw [subS_int h, lotD_get hi]; rfl
theorem lot_comp {many : Int} {f : Int → Int} {p : Nat} {σ : Store} {A : Int} (h5 : many ≤ 5) (h : σ[p]? = some (.dict ((lotD many f).map (eD V.int V.int)))) :
    ∃ lv', compD (T.var 1) (C.cmp eqS (E.sub (E.var 2) (E.var 1)) (E.var 3)) (B.app (E.var 1)) (some (p, .dict ((lotD many f).map (eD V.int V.int)))) (((lotD many f).map (eD V.int V.int)).map (·.1)) σ.length [none, none, some (.loc p), some (.int A)] (σ ++ [.list []])
      = some (lv', σ ++ [.list (((ids many).filter fun i => f i = A).map V.int)]) := by
  obtain ⟨lv', h1⟩ := compD_pure (mt := T.var 1) (mc := (C.cmp eqS (E.sub (E.var 2) (E.var 1)) (E.var 3))) (m := E.var 1) (src := some (p, .dict ((lotD many f).map (eD V.int V.int)))) V.int
    (fun lv => ∃ a b, lv = [a, b, some (.loc p), some (.int A)]) (fun i => if f i = A then some (V.int i) else none) (ids many) (vs := ((lotD many f).map (eD V.int V.int)).map (·.1)) (σ := σ) (lv := [none, none, some (.loc p), some (.int A)])
    (by rw [keys_map, ← lotD_keys many f, List.map_map]; rfl) (by rw [ids_len]; lia) (fun _ => srcOk_same (get_app h))
    (by
      rintro x hx lv ws ⟨a, b, rfl⟩
      have hs := subS_lot (get_app (t := [.list ws]) h) hx
      refine ⟨[a, some (.int x), some (.loc p), some (.int A)], rfl, ⟨_, _, rfl⟩, ?_⟩
      by_cases hc : f x = A
      · rw [if_pos hc]
        simp only [xx8, Mini.D.seq_nx, Mini.D.seq_ct, Mini.D.seq_rt, xx13, xx10, xx14, xx9, xx12, xx7, xx15, xx30, xx20, xx16, xx18, xx3, xx4, xx2, xx5, xx6, xx23, xx35, xx34, xx29, xx24, xx26, xx28, xx27, xx17, xx25, xx21, xx22, xx33, xx31, xx32, xx38, xx40, xx39, xx37, xx36, xx0, lvGet_0, lvGet_s, lvSet_0, lvSet_s, Option.map_some, capLV, List.map_cons, List.map_nil, Option.bind_none, Option.bind_some, Mini.F.den, lv0, List.length_cons, List.length_nil, if_true, reduceIte, Nat.reduceAdd, Nat.reduceLeDiff, Nat.reduceLT, List.getElem?_cons_zero, List.getElem?_cons_succ, Nat.zero_add, Int.reduceLT, Int.reduceLE, and_true, true_and, and_self, intRel, intOp, subS_t0, subS_t1, subS_t2, lenF, subI, get_end, eqS_int, eqS_spot, neS_int, ltS_int, decide_true, decide_false, Bool.not_true, Bool.not_false, KindOf.is, LIM, xx11, walkV, rangeF, Int.reduceEq, hs, hc]
      · rw [if_neg hc]
        simp only [xx8, Mini.D.seq_nx, Mini.D.seq_ct, Mini.D.seq_rt, xx13, xx10, xx14, xx9, xx12, xx7, xx15, xx30, xx20, xx16, xx18, xx3, xx4, xx2, xx5, xx6, xx23, xx35, xx34, xx29, xx24, xx26, xx28, xx27, xx17, xx25, xx21, xx22, xx33, xx31, xx32, xx38, xx40, xx39, xx37, xx36, xx0, lvGet_0, lvGet_s, lvSet_0, lvSet_s, Option.map_some, capLV, List.map_cons, List.map_nil, Option.bind_none, Option.bind_some, Mini.F.den, lv0, List.length_cons, List.length_nil, if_true, reduceIte, Nat.reduceAdd, Nat.reduceLeDiff, Nat.reduceLT, List.getElem?_cons_zero, List.getElem?_cons_succ, Nat.zero_add, Int.reduceLT, Int.reduceLE, and_true, true_and, and_self, intRel, intOp, subS_t0, subS_t1, subS_t2, lenF, subI, get_end, eqS_int, eqS_spot, neS_int, ltS_int, decide_true, decide_false, Bool.not_true, Bool.not_false, KindOf.is, LIM, xx11, walkV, rangeF, Int.reduceEq, hs, hc])
    ⟨_, _, rfl⟩
  refine ⟨lv', ?_⟩
  have e : ∀ l : List Int, l.filterMap (fun i => if f i = A then some (V.int i) else none) = (l.filter fun i => f i = A).map V.int := by
    intro l
    induction l with
    | nil => rfl
    | cons y ys ih =>
      by_cases hc : f y = A
      · rw [List.filterMap_cons_some (b := V.int y) (by rw [if_pos hc]), List.filter_cons_of_pos (by simpa using hc), ih]; rfl
      · rw [List.filterMap_cons_none (by rw [if_neg hc]), List.filter_cons_of_neg (by simpa using hc), ih]
  rw [h1, e]

noncomputable abbrev jLV (many : Int) (ll p m0 c0 : Nat) (y : Int) (x6 x7 x8 x9 x10 : Option V) : LV := [some (.int many), some (.loc ll), some (.loc p), some (.loc m0), some (.loc c0), some (.int y), x6, x7, x8, x9, x10, none, none]
inductive PairP (many : Int) (M : List ((Int × Int) × Int)) (y : Int) (W : Int × Int → Prop) (m0 : Nat) (σ : Store) (Q : LV → Prop) (q : F × LV × Store) : Prop
  | mk (e : q.1 = .nx) (h : Q q.2.1) (k : Keep m0 σ q.2.2) (M' : List ((Int × Int) × Int)) (g : q.2.2[m0]? = some (.dict (M'.map (eD pr V.int)))) (w : MW many M M' y W) : PairP many M y W m0 σ Q q
inductive PairI (many : Int) (M : List ((Int × Int) × Int)) (y : Int) (W : List Int → Int × Int → Prop) (m0 : Nat) (σ : Store) (Q : LV → Prop) (dm : List Int) (lv : LV) (σ' : Store) : Prop
  | mk (h : Q lv) (k : Keep m0 σ σ') (M' : List ((Int × Int) × Int)) (g : σ'[m0]? = some (.dict (M'.map (eD pr V.int)))) (w : MW many M M' y (W dm)) : PairI many M y W m0 σ Q dm lv σ'
section
variable {many : Int} (h5 : many ≤ 5) {f : Int → Int} {M : List ((Int × Int) × Int)} {y A B : Int} {ll p m0 c0 : Nat} {x6 x7 x8 x9 x10 : Option V}
include h5
theorem far_run {σ : Store} {M' : List ((Int × Int) × Int)} {W : Int × Int → Prop} {n : Int} (hp : σ[p]? = some (.dict ((lotD many f).map (eD V.int V.int)))) (hm : σ[m0]? = some (.dict (M'.map (eD pr V.int)))) (hpm : p ≠ m0) (hW : MW many M M' y W) (hn : n ∈ ids many) :
    Gives (dFar (jLV many ll p m0 c0 y x6 x7 (some (.int B)) (some (.int n)) x10) σ) (PairP many M y (fun z => W z ∨ ∃ m, (m ∈ ids many ∧ f m = B) ∧ (z = (n, m) ∨ z = (m, n))) m0 σ fun lv => ∃ x10', lv = jLV many ll p m0 c0 y x6 x7 (some (.int B)) (some (.int n)) x10') := by
  obtain ⟨lv', hc⟩ := lot_comp (A := B) h5 hp
  unfold dFar
  simp only [xx8, Mini.D.seq_nx, Mini.D.seq_ct, Mini.D.seq_rt, xx13, xx10, xx14, xx9, xx12, xx7, xx15, xx30, xx20, xx16, xx18, xx3, xx4, xx2, xx5, xx6, xx23, xx35, xx34, xx29, xx24, xx26, xx28, xx27, xx17, xx25, xx21, xx22, xx33, xx31, xx32, xx38, xx40, xx39, xx37, xx36, xx0, lvGet_0, lvGet_s, lvSet_0, lvSet_s, Option.map_some, capLV, List.map_cons, List.map_nil, Option.bind_none, Option.bind_some, Mini.F.den, lv0, List.length_cons, List.length_nil, if_true, reduceIte, Nat.reduceAdd, Nat.reduceLeDiff, Nat.reduceLT, List.getElem?_cons_zero, List.getElem?_cons_succ, Nat.zero_add, Int.reduceLT, Int.reduceLE, and_true, true_and, and_self, intRel, intOp, subS_t0, subS_t1, subS_t2, lenF, subI, get_end, eqS_int, eqS_spot, neS_int, ltS_int, decide_true, decide_false, Bool.not_true, Bool.not_false, KindOf.is, LIM, xx11, walkV, rangeF, Int.reduceEq, xx19, hp, hc, get_end]
  refine gives_for V.int (PairI many M y (fun dm z => W z ∨ ∃ m, m ∈ dm ∧ (z = (n, m) ∨ z = (m, n))) m0 (σ ++ [.list (((ids many).filter fun i => f i = B).map V.int)]) fun lv => ∃ x10', lv = jLV many ll p m0 c0 y x6 x7 (some (.int B)) (some (.int n)) x10') ((ids many).filter fun i => f i = B) rfl ?_ ?_ ?_ ?_
  · rintro dm lv σ' ⟨_, h, _, _, _⟩; exact srcOk_same (h.2 _ _ (by have := lt_of_get hm; lia) get_end)
  · exact ⟨⟨_, rfl⟩, Keep.refl, M', get_app hm, hW.congr (by simp)⟩
  · rintro dm m rs lv σ' e ⟨⟨x10', rfl⟩, h1, M'', h2, h3⟩
    have hmm : m ∈ ids many := (List.mem_filter.mp (show m ∈ (ids many).filter fun i => f i = B by rw [e]; simp)).1
    have hnr := mem_ids.mp hn
    have hmr := mem_ids.mp hmm
    have h4 := h3.set (q := (n, m)) ⟨hnr, hmr⟩
    have h6 := h4.set (q := (m, n)) ⟨hmr, hnr⟩
    have s1 := storeItem_at beq_pr (k := (n, m)) (b := y) h2 (key_pr _) (by have := h3.len h5; lia)
    have g1 : (σ'.set m0 (.dict ((aSet M'' (n, m) y).map (eD pr V.int))))[m0]? = some (.dict ((aSet M'' (n, m) y).map (eD pr V.int))) := get_set_eq (lt_of_get h2)
    have s2 := storeItem_at beq_pr (k := (m, n)) (b := y) g1 (key_pr _) (by have := h4.len h5; lia)
    refine ⟨jLV many ll p m0 c0 y x6 x7 (some (.int B)) (some (.int n)) (some (.int m)), σ', rfl, ?_⟩
    unfold dWrite
    simp only [xx8, Mini.D.seq_nx, Mini.D.seq_ct, Mini.D.seq_rt, xx13, xx10, xx14, xx9, xx12, xx7, xx15, xx30, xx20, xx16, xx18, xx3, xx4, xx2, xx5, xx6, xx23, xx35, xx34, xx29, xx24, xx26, xx28, xx27, xx17, xx25, xx21, xx22, xx33, xx31, xx32, xx38, xx40, xx39, xx37, xx36, xx0, lvGet_0, lvGet_s, lvSet_0, lvSet_s, Option.map_some, capLV, List.map_cons, List.map_nil, Option.bind_none, Option.bind_some, Mini.F.den, lv0, List.length_cons, List.length_nil, if_true, reduceIte, Nat.reduceAdd, Nat.reduceLeDiff, Nat.reduceLT, List.getElem?_cons_zero, List.getElem?_cons_succ, Nat.zero_add, Int.reduceLT, Int.reduceLE, and_true, true_and, and_self, intRel, intOp, subS_t0, subS_t1, subS_t2, lenF, subI, get_end, eqS_int, eqS_spot, neS_int, ltS_int, decide_true, decide_false, Bool.not_true, Bool.not_false, KindOf.is, LIM, xx11, walkV, rangeF, Int.reduceEq, s1, s2]
    refine Gives.some ⟨⟨_, rfl⟩, (h1.trans Keep.set).trans Keep.set, _, get_set_eq (lt_of_get g1), h6.congr (fun q => ?_)⟩
    constructor
    · rintro (((h | ⟨m', h, h'⟩) | rfl) | rfl)
      · exact Or.inl h
      · exact Or.inr ⟨m', List.mem_append_left _ h, h'⟩
      · exact Or.inr ⟨m, by simp, by simp⟩
      · exact Or.inr ⟨m, by simp, by simp⟩
    · rintro (h | ⟨m', h, h'⟩)
      · exact Or.inl (Or.inl (Or.inl h))
      · rcases List.mem_append.mp h with h | h
        · exact Or.inl (Or.inl (Or.inr ⟨m', h, h'⟩))
        · rw [List.mem_singleton] at h; subst h
          rcases h' with rfl | rfl
          · exact Or.inl (Or.inr rfl)
          · exact Or.inr rfl
  · rintro lv σ' ⟨⟨x10', rfl⟩, h1, M'', h2, h3⟩
    refine ⟨rfl, ⟨_, rfl⟩, (Keep.ext (Ext.rfl.app _)).trans h1, M'', h2, h3.congr (fun q => ?_)⟩
    simp [List.mem_filter]
theorem near_run {σ : Store} (hp : σ[p]? = some (.dict ((lotD many f).map (eD V.int V.int)))) (hm : σ[m0]? = some (.dict (M.map (eD pr V.int)))) (hpm : p ≠ m0) (hn : (M.map (·.1)).Nodup) (hr : ∀ q ∈ M.map (·.1), inR many q) :
    Gives (dNear (jLV many ll p m0 c0 y x6 (some (.int A)) (some (.int B)) x9 x10) σ) (PairP many M y (Wq many f A B) m0 σ fun lv => ∃ x9' x10', lv = jLV many ll p m0 c0 y x6 (some (.int A)) (some (.int B)) x9' x10') := by
  obtain ⟨lv', hc⟩ := lot_comp (A := A) h5 hp
  unfold dNear
  simp only [xx8, Mini.D.seq_nx, Mini.D.seq_ct, Mini.D.seq_rt, xx13, xx10, xx14, xx9, xx12, xx7, xx15, xx30, xx20, xx16, xx18, xx3, xx4, xx2, xx5, xx6, xx23, xx35, xx34, xx29, xx24, xx26, xx28, xx27, xx17, xx25, xx21, xx22, xx33, xx31, xx32, xx38, xx40, xx39, xx37, xx36, xx0, lvGet_0, lvGet_s, lvSet_0, lvSet_s, Option.map_some, capLV, List.map_cons, List.map_nil, Option.bind_none, Option.bind_some, Mini.F.den, lv0, List.length_cons, List.length_nil, if_true, reduceIte, Nat.reduceAdd, Nat.reduceLeDiff, Nat.reduceLT, List.getElem?_cons_zero, List.getElem?_cons_succ, Nat.zero_add, Int.reduceLT, Int.reduceLE, and_true, true_and, and_self, intRel, intOp, subS_t0, subS_t1, subS_t2, lenF, subI, get_end, eqS_int, eqS_spot, neS_int, ltS_int, decide_true, decide_false, Bool.not_true, Bool.not_false, KindOf.is, LIM, xx11, walkV, rangeF, Int.reduceEq, xx19, hp, hc, get_end]
  refine gives_for V.int (PairI many M y (fun dm z => ∃ n, n ∈ dm ∧ ∃ m, (m ∈ ids many ∧ f m = B) ∧ (z = (n, m) ∨ z = (m, n))) m0 (σ ++ [.list (((ids many).filter fun i => f i = A).map V.int)]) fun lv => ∃ x9' x10', lv = jLV many ll p m0 c0 y x6 (some (.int A)) (some (.int B)) x9' x10') ((ids many).filter fun i => f i = A) rfl ?_ ?_ ?_ ?_
  · rintro dm lv σ' ⟨_, h, _, _, _⟩; exact srcOk_same (h.2 _ _ (by have := lt_of_get hm; lia) get_end)
  · exact ⟨⟨_, _, rfl⟩, Keep.refl, M, get_app hm, hn, by simp, hr⟩
  · rintro dm n rs lv σ' e ⟨⟨x9', x10', rfl⟩, h1, M'', h2, h3⟩
    have hnn : n ∈ ids many := (List.mem_filter.mp (show n ∈ (ids many).filter fun i => f i = A by rw [e]; simp)).1
    have hp' := h1.2 _ _ hpm (get_app hp)
    obtain ⟨⟨g, lv2, σ2⟩, k1, k2, ⟨x10'', k3⟩, k4, M3, k5, k6⟩ := far_run h5 (ll := ll) (c0 := c0) (x6 := x6) (x7 := some (.int A)) (x10 := x10') (B := B) hp' h2 hpm h3 hnn
    simp only at k2 k3 k4 k5
    subst k2 k3
    refine ⟨jLV many ll p m0 c0 y x6 (some (.int A)) (some (.int B)) (some (.int n)) x10', σ', rfl, ?_⟩
    simp only [xx8, Mini.D.seq_nx, Mini.D.seq_ct, Mini.D.seq_rt, xx13, xx10, xx14, xx9, xx12, xx7, xx15, xx30, xx20, xx16, xx18, xx3, xx4, xx2, xx5, xx6, xx23, xx35, xx34, xx29, xx24, xx26, xx28, xx27, xx17, xx25, xx21, xx22, xx33, xx31, xx32, xx38, xx40, xx39, xx37, xx36, xx0, lvGet_0, lvGet_s, lvSet_0, lvSet_s, Option.map_some, capLV, List.map_cons, List.map_nil, Option.bind_none, Option.bind_some, Mini.F.den, lv0, List.length_cons, List.length_nil, if_true, reduceIte, Nat.reduceAdd, Nat.reduceLeDiff, Nat.reduceLT, List.getElem?_cons_zero, List.getElem?_cons_succ, Nat.zero_add, Int.reduceLT, Int.reduceLE, and_true, true_and, and_self, intRel, intOp, subS_t0, subS_t1, subS_t2, lenF, subI, get_end, eqS_int, eqS_spot, neS_int, ltS_int, decide_true, decide_false, Bool.not_true, Bool.not_false, KindOf.is, LIM, xx11, walkV, rangeF, Int.reduceEq, k1]
    refine Gives.some ⟨⟨_, _, rfl⟩, h1.trans k4, _, k5, k6.congr (fun q => ?_)⟩
    constructor
    · rintro (⟨n', h, h'⟩ | h)
      · exact ⟨n', List.mem_append_left _ h, h'⟩
      · exact ⟨n, by simp, h⟩
    · rintro ⟨n', h, h'⟩
      rcases List.mem_append.mp h with h | h
      · exact Or.inl ⟨n', h, h'⟩
      · rw [List.mem_singleton] at h; subst h; exact Or.inr h'
  · rintro lv σ' ⟨⟨x9', x10', rfl⟩, h1, M'', h2, h3⟩
    refine ⟨rfl, ⟨_, _, rfl⟩, (Keep.ext (Ext.rfl.app _)).trans h1, M'', h2, h3.congr (fun q => ?_)⟩
    unfold Wq
    constructor
    · rintro ⟨n, hn, m, hm, h⟩
      rw [List.mem_filter] at hn
      exact ⟨n, m, ⟨hn.1, by simpa using hn.2⟩, hm, h⟩
    · rintro ⟨n, m, hn, hm, h⟩
      exact ⟨n, List.mem_filter.mpr ⟨hn.1, by simpa using hn.2⟩, m, hm, h⟩
theorem lot_run {σ : Store} (hp : σ[p]? = some (.dict ((lotD many f).map (eD V.int V.int)))) :
    ∃ σ', dLot (jLV many ll p m0 c0 y x6 (some (.int A)) (some (.int B)) x9 x10) σ = some (.nx, jLV many ll (σ.length + 1) m0 c0 y x6 (some (.int A)) (some (.int B)) x9 x10, σ') ∧ Ext σ σ' ∧
      σ'[σ.length + 1]? = some (.dict ((lotD many fun i => if f i = B then A else f i).map (eD V.int V.int))) := by
  obtain ⟨lv', h1⟩ := compD_pure (mt := T.var 1) (mc := C.true) (m := (E.tup (L.cons (E.var 1) (L.cons (E.ite (C.cmp eqS (E.sub (E.var 2) (E.var 1)) (E.var 4)) (E.var 3) (E.sub (E.var 2) (E.var 1))) L.nil)))) (src := some (p, .dict ((lotD many f).map (eD V.int V.int)))) V.int
    (fun lv => ∃ a b, lv = [a, b, some (.loc p), some (.int A), some (.int B)]) (fun i => some (eP V.int V.int (i, if f i = B then A else f i))) (ids many) (vs := ((lotD many f).map (eD V.int V.int)).map (·.1)) (σ := σ) (lv := [none, none, some (.loc p), some (.int A), some (.int B)])
    (by rw [keys_map, ← lotD_keys many f, List.map_map]; rfl) (by rw [ids_len]; grind) (fun _ => srcOk_same (get_app hp))
    (by
      rintro x hx lv ws ⟨a, b, rfl⟩
      have hs := subS_lot (get_app (t := [.list ws]) hp) hx
      refine ⟨[a, some (.int x), some (.loc p), some (.int A), some (.int B)], rfl, ⟨_, _, rfl⟩, ?_⟩
      by_cases hc : f x = B
      · simp only [xx8, Mini.D.seq_nx, Mini.D.seq_ct, Mini.D.seq_rt, xx13, xx10, xx14, xx9, xx12, xx7, xx15, xx30, xx20, xx16, xx18, xx3, xx4, xx2, xx5, xx6, xx23, xx35, xx34, xx29, xx24, xx26, xx28, xx27, xx17, xx25, xx21, xx22, xx33, xx31, xx32, xx38, xx40, xx39, xx37, xx36, xx0, lvGet_0, lvGet_s, lvSet_0, lvSet_s, Option.map_some, capLV, List.map_cons, List.map_nil, Option.bind_none, Option.bind_some, Mini.F.den, lv0, List.length_cons, List.length_nil, if_true, reduceIte, Nat.reduceAdd, Nat.reduceLeDiff, Nat.reduceLT, List.getElem?_cons_zero, List.getElem?_cons_succ, Nat.zero_add, Int.reduceLT, Int.reduceLE, and_true, true_and, and_self, intRel, intOp, subS_t0, subS_t1, subS_t2, lenF, subI, get_end, eqS_int, eqS_spot, neS_int, ltS_int, decide_true, decide_false, Bool.not_true, Bool.not_false, KindOf.is, LIM, xx11, walkV, rangeF, Int.reduceEq, hs, hc]
      · simp only [xx8, Mini.D.seq_nx, Mini.D.seq_ct, Mini.D.seq_rt, xx13, xx10, xx14, xx9, xx12, xx7, xx15, xx30, xx20, xx16, xx18, xx3, xx4, xx2, xx5, xx6, xx23, xx35, xx34, xx29, xx24, xx26, xx28, xx27, xx17, xx25, xx21, xx22, xx33, xx31, xx32, xx38, xx40, xx39, xx37, xx36, xx0, lvGet_0, lvGet_s, lvSet_0, lvSet_s, Option.map_some, capLV, List.map_cons, List.map_nil, Option.bind_none, Option.bind_some, Mini.F.den, lv0, List.length_cons, List.length_nil, if_true, reduceIte, Nat.reduceAdd, Nat.reduceLeDiff, Nat.reduceLT, List.getElem?_cons_zero, List.getElem?_cons_succ, Nat.zero_add, Int.reduceLT, Int.reduceLE, and_true, true_and, and_self, intRel, intOp, subS_t0, subS_t1, subS_t2, lenF, subI, get_end, eqS_int, eqS_spot, neS_int, ltS_int, decide_true, decide_false, Bool.not_true, Bool.not_false, KindOf.is, LIM, xx11, walkV, rangeF, Int.reduceEq, hs, hc])
    ⟨_, _, rfl⟩
  have e : (ids many).filterMap (fun i => some (eP V.int V.int (i, if f i = B then A else f i))) = (lotD many fun i => if f i = B then A else f i).map (eP V.int V.int) := by
    rw [List.filterMap_eq_map', lotD, List.map_map]; rfl
  rw [e] at h1
  have hd := dictF_run beq_int key_int (vf := V.int) (l := σ.length) (xs := lotD many fun i => if f i = B then A else f i) (σ := σ ++ [.list ((lotD many fun i => if f i = B then A else f i).map (eP V.int V.int))]) get_end (by rw [lotD_keys]; exact ids_nodup many) (by rw [← List.length_map (f := (·.1)), lotD_keys, ids_len]; grind)
  refine ⟨_, ?_, (Ext.rfl.app [.list ((lotD many fun i => if f i = B then A else f i).map (eP V.int V.int))]).app [.dict ((lotD many fun i => if f i = B then A else f i).map (eD V.int V.int))], by simp⟩
  unfold dLot
  simp only [xx8, Mini.D.seq_nx, Mini.D.seq_ct, Mini.D.seq_rt, xx13, xx10, xx14, xx9, xx12, xx7, xx15, xx30, xx20, xx16, xx18, xx3, xx4, xx2, xx5, xx6, xx23, xx35, xx34, xx29, xx24, xx26, xx28, xx27, xx17, xx25, xx21, xx22, xx33, xx31, xx32, xx38, xx40, xx39, xx37, xx36, xx0, lvGet_0, lvGet_s, lvSet_0, lvSet_s, Option.map_some, capLV, List.map_cons, List.map_nil, Option.bind_none, Option.bind_some, Mini.F.den, lv0, List.length_cons, List.length_nil, if_true, reduceIte, Nat.reduceAdd, Nat.reduceLeDiff, Nat.reduceLT, List.getElem?_cons_zero, List.getElem?_cons_succ, Nat.zero_add, Int.reduceLT, Int.reduceLE, and_true, true_and, and_self, intRel, intOp, subS_t0, subS_t1, subS_t2, lenF, subI, get_end, eqS_int, eqS_spot, neS_int, ltS_int, decide_true, decide_false, Bool.not_true, Bool.not_false, KindOf.is, LIM, xx11, walkV, rangeF, Int.reduceEq, xx19, hp, h1, hd, List.length_append]
end
end Mini
end

section
namespace Mini
open PySem
structure JS (many : Int) (L : List Ln) (σ0 σ : Store) (p m0 c0 : Nat) (y0 : Int) (P : Ln → Prop) (f : Int → Int) (M : List ((Int × Int) × Int)) (C : List Ln) (b : Nat) : Prop where
  ext : Ext σ0 σ
  hp : σ[p]? = some (.dict ((lotD many f).map (eD V.int V.int)))
  hm : σ[m0]? = some (.dict (M.map (eD pr V.int)))
  hc : σ[c0]? = some (.list (C.map eL))
  pm : p ≠ m0
  m0 : σ0.length ≤ m0
  c0 : σ0.length ≤ c0
  ki : KI many L y0 P f M C
  len : C.length ≤ b
noncomputable def Keep2 (m c : Nat) (σ σ' : Store) : Prop := ∀ (l : Nat) (o : MObj), l ≠ m → l ≠ c → σ[l]? = some o → σ'[l]? = some o
inductive LineP (many : Int) (L : List Ln) (σ0 σ : Store) (ll m0 c0 : Nat) (y : Int) (b : Nat) (P : Ln → Prop) (l : Ln) (q : F × LV × Store) : Prop
  | mk (e : q.1 = .nx) (k : Keep2 m0 c0 σ q.2.2) (p' : Nat) (x7' x8' x9' x10' : Option V) (hlv : q.2.1 = jLV many ll p' m0 c0 y (some (eL l)) x7' x8' x9' x10') (P' : Ln → Prop) (f' : Int → Int) (M' : List ((Int × Int) × Int)) (C' : List Ln)
    (J : JS many L σ0 q.2.2 p' m0 c0 y P' f' M' C' (b + 1)) (a : ∀ z, P z → P' z) (i : P' l) : LineP many L σ0 σ ll m0 c0 y b P l q
section
variable {many : Int} {L : List Ln} (G : GoodL many L) {f : Int → Int} {M : List ((Int × Int) × Int)} {C : List Ln} {P : Ln → Prop} {y : Int} {ll p m0 c0 b : Nat} {x7 x8 x9 x10 : Option V} {σ0 σ : Store}
include G
theorem line_run {l : Ln} (J : JS many L σ0 σ p m0 c0 y P f M C b) (hl : l ∈ L) (hy : l.2.2 = y) (hb : b ≤ 100) :
    Gives (dLine (jLV many ll p m0 c0 y (some (eL l)) x7 x8 x9 x10) σ) (LineP many L σ0 σ ll m0 c0 y b P l) := by
  have h5 := G.hi
  have hg := G.lines l hl
  have ha : l.1 ∈ ids many := mem_ids.mpr (by grind)
  have hb' : l.2.1 ∈ ids many := mem_ids.mpr (by grind)
  have s1 := subS_lot J.hp ha
  have s2 := subS_lot J.hp hb'
  unfold dLine
  by_cases he : f l.1 = f l.2.1
  · simp only [xx8, Mini.D.seq_nx, Mini.D.seq_ct, Mini.D.seq_rt, xx13, xx10, xx14, xx9, xx12, xx7, xx15, xx30, xx20, xx16, xx18, xx3, xx4, xx2, xx5, xx6, xx23, xx35, xx34, xx29, xx24, xx26, xx28, xx27, xx17, xx25, xx21, xx22, xx33, xx31, xx32, xx38, xx40, xx39, xx37, xx36, xx0, lvGet_0, lvGet_s, lvSet_0, lvSet_s, Option.map_some, capLV, List.map_cons, List.map_nil, Option.bind_none, Option.bind_some, Mini.F.den, lv0, List.length_cons, List.length_nil, if_true, reduceIte, Nat.reduceAdd, Nat.reduceLeDiff, Nat.reduceLT, List.getElem?_cons_zero, List.getElem?_cons_succ, Nat.zero_add, Int.reduceLT, Int.reduceLE, and_true, true_and, and_self, intRel, intOp, subS_t0, subS_t1, subS_t2, lenF, subI, get_end, eqS_int, eqS_spot, neS_int, ltS_int, decide_true, decide_false, Bool.not_true, Bool.not_false, KindOf.is, LIM, xx11, walkV, rangeF, Int.reduceEq, s1, s2, he]
    refine Gives.some ⟨rfl, fun _ _ _ _ h => h, p, _, _, _, _, rfl, _, f, M, C, ⟨J.ext, J.hp, J.hm, J.hc, J.pm, J.m0, J.c0, J.ki.skip G hl hy he, by have := J.len; grind⟩, fun z hz => Or.inl hz, Or.inr rfl⟩
  · have hap := appendM_at (v := eL l) J.hc (by rw [List.length_map]; have := J.len; grind)
    have pc : c0 ≠ p := by intro e; have := J.hc; rw [e, J.hp] at this; cases this
    have mc : c0 ≠ m0 := by intro e; have := J.hc; rw [e, J.hm] at this; cases this
    have e1 : C.map eL ++ [eL l] = (C ++ [l]).map eL := by simp
    rw [e1] at hap
    generalize hσ1 : σ.set c0 (.list ((C ++ [l]).map eL)) = σ1 at hap
    have gp : σ1[p]? = some (.dict ((lotD many f).map (eD V.int V.int))) := by rw [← hσ1, get_set_ne pc]; exact J.hp
    have gm : σ1[m0]? = some (.dict (M.map (eD pr V.int))) := by rw [← hσ1, get_set_ne mc]; exact J.hm
    have gc : σ1[c0]? = some (.list ((C ++ [l]).map eL)) := by rw [← hσ1, get_set_eq (lt_of_get J.hc)]
    have gx : Ext σ0 σ1 := by rw [← hσ1]; exact J.ext.set _ J.c0
    obtain ⟨⟨g, lv2, σ2⟩, k1, k2, ⟨x9', x10', k3⟩, k4, M', k5, k6⟩ := near_run h5 (ll := ll) (c0 := c0) (y := y) (x6 := some (eL l)) (A := f l.1) (B := f l.2.1) (x9 := x9) (x10 := x10) gp gm J.pm J.ki.nd (fun q hq => by
      obtain ⟨x, hx⟩ := Option.isSome_iff_exists.mp (aGet_isSome.mpr hq)
      obtain ⟨u, v⟩ := q
      obtain ⟨k1, k2, _⟩ := J.ki.c1 u v x hx
      exact ⟨k1, k2⟩)
    simp only at k2 k3 k4 k5
    subst k2 k3
    obtain ⟨σ3, j1, j2, j3⟩ := lot_run h5 (ll := ll) (m0 := m0) (c0 := c0) (y := y) (x6 := some (eL l)) (A := f l.1) (B := f l.2.1) (x9 := x9') (x10 := x10') (k4.2 _ _ J.pm gp)
    simp only [xx8, Mini.D.seq_nx, Mini.D.seq_ct, Mini.D.seq_rt, xx13, xx10, xx14, xx9, xx12, xx7, xx15, xx30, xx20, xx16, xx18, xx3, xx4, xx2, xx5, xx6, xx23, xx35, xx34, xx29, xx24, xx26, xx28, xx27, xx17, xx25, xx21, xx22, xx33, xx31, xx32, xx38, xx40, xx39, xx37, xx36, xx0, lvGet_0, lvGet_s, lvSet_0, lvSet_s, Option.map_some, capLV, List.map_cons, List.map_nil, Option.bind_none, Option.bind_some, Mini.F.den, lv0, List.length_cons, List.length_nil, if_true, reduceIte, Nat.reduceAdd, Nat.reduceLeDiff, Nat.reduceLT, List.getElem?_cons_zero, List.getElem?_cons_succ, Nat.zero_add, Int.reduceLT, Int.reduceLE, and_true, true_and, and_self, intRel, intOp, subS_t0, subS_t1, subS_t2, lenF, subI, get_end, eqS_int, eqS_spot, neS_int, ltS_int, decide_true, decide_false, Bool.not_true, Bool.not_false, KindOf.is, LIM, xx11, walkV, rangeF, Int.reduceEq, s1, s2, he, J.hc, hap, k1, j1]
    refine Gives.some ⟨rfl, fun l' o h1 h2 h => ?_, σ2.length + 1, _, _, _, _, rfl, _, _, M', C ++ [l], ⟨(k4.Ext gx J.m0).trans j2, j3, j2.get k5, j2.get (k4.2 _ _ mc gc), ?_, J.m0, J.c0, J.ki.join G hl hy he k6.nd k6.get, by have := J.len; simp; grind⟩, fun z hz => Or.inl hz, Or.inr rfl⟩
    · refine j2.get (k4.2 _ _ h1 ?_)
      rw [← hσ1, get_set_ne (Ne.symm h2)]; exact h
    · have := lt_of_get k5; grind
end

noncomputable def dLevel : SDen := (D.for (It.val (E.comp (It.val (E.var 1)) [none, none, some 5] (.list []) (T.var 1) (C.cmp eqS (E.sub (E.var 1) (E.const (.int 2))) (E.var 2)) (B.app (E.var 1)))) (T.var 6) dLine)
theorem joined_shape : d__law_joined = (D.cons (D.assign (T.tup 3 (Ts.cons (T.var 2) (Ts.cons (T.var 3) (Ts.cons (T.var 4) Ts.nil)))) (E.tup (L.cons (E.call dictF (L.cons (E.comp (It.val (E.call rangeF (L.cons (E.const (.int 1)) (L.cons (E.bin addS (E.var 0) (E.const (.int 1))) L.nil)))) [none, none] (.list []) (T.var 1) C.true (B.app (E.tup (L.cons (E.var 1) (L.cons (E.var 1) L.nil))))) L.nil)) (L.cons E.dict0 (L.cons (E.list L.nil) L.nil))))) (D.cons (D.for (It.val (E.call rangeF (L.cons (E.const (.int 3)) L.nil))) (T.var 5) (D.cons dLevel D.nil)) (D.cons (D.ret (E.tup (L.cons (E.var 3) (L.cons (E.var 4) L.nil)))) D.nil))) := rfl
theorem joined_init {many : Int} (h5 : many ≤ 5) (σ : Store) : ∃ lv', compD (T.var 1) C.true (B.app (E.tup (L.cons (E.var 1) (L.cons (E.var 1) L.nil)))) none ((ids many).map V.int) σ.length [none, none] (σ ++ [.list []]) = some (lv', σ ++ [.list ((lotD many id).map (eP V.int V.int))]) := by
  obtain ⟨lv', h1⟩ := compD_pure (mt := T.var 1) (mc := C.true) (m := (E.tup (L.cons (E.var 1) (L.cons (E.var 1) L.nil)))) (src := none) V.int
    (fun lv => ∃ a b, lv = [a, b]) (fun i => some (eP V.int V.int (i, i))) (ids many) (vs := (ids many).map V.int) (σ := σ) (lv := [none, none])
    rfl (by rw [ids_len]; lia) (fun _ => rfl)
    (by
      rintro x hx lv ws ⟨a, b, rfl⟩
      refine ⟨[a, some (.int x)], rfl, ⟨_, _, rfl⟩, ?_⟩
      simp only [xx8, Mini.D.seq_nx, Mini.D.seq_ct, Mini.D.seq_rt, xx13, xx10, xx14, xx9, xx12, xx7, xx15, xx30, xx20, xx16, xx18, xx3, xx4, xx2, xx5, xx6, xx23, xx35, xx34, xx29, xx24, xx26, xx28, xx27, xx17, xx25, xx21, xx22, xx33, xx31, xx32, xx38, xx40, xx39, xx37, xx36, xx0, lvGet_0, lvGet_s, lvSet_0, lvSet_s, Option.map_some, capLV, List.map_cons, List.map_nil, Option.bind_none, Option.bind_some, Mini.F.den, lv0, List.length_cons, List.length_nil, if_true, reduceIte, Nat.reduceAdd, Nat.reduceLeDiff, Nat.reduceLT, List.getElem?_cons_zero, List.getElem?_cons_succ, Nat.zero_add, Int.reduceLT, Int.reduceLE, and_true, true_and, and_self, intRel, intOp, subS_t0, subS_t1, subS_t2, lenF, subI, get_end, eqS_int, eqS_spot, neS_int, ltS_int, decide_true, decide_false, Bool.not_true, Bool.not_false, KindOf.is, LIM, xx11, walkV, rangeF, Int.reduceEq])
    ⟨_, _, rfl⟩
  have e : (ids many).filterMap (fun i => some (eP V.int V.int (i, i))) = (lotD many id).map (eP V.int V.int) := by
    rw [List.filterMap_eq_map', lotD, List.map_map]; rfl
  exact ⟨lv', by rw [h1, e]⟩
theorem level_comp {Ls : List Ln} {ll : Nat} {σ : Store} {y : Int} (h : σ[ll]? = some (.list (Ls.map eL))) (hl : Ls.length ≤ 1000) :
    ∃ lv', compD (T.var 1) (C.cmp eqS (E.sub (E.var 1) (E.const (.int 2))) (E.var 2)) (B.app (E.var 1)) (some (ll, .list (Ls.map eL))) (Ls.map eL) σ.length [none, none, some (.int y)] (σ ++ [.list []]) = some (lv', σ ++ [.list ((Ls.filter fun l => l.2.2 = y).map eL)]) := by
  obtain ⟨lv', h1⟩ := compD_pure (mt := T.var 1) (mc := (C.cmp eqS (E.sub (E.var 1) (E.const (.int 2))) (E.var 2))) (m := E.var 1) (src := some (ll, .list (Ls.map eL))) eL
    (fun lv => ∃ a b, lv = [a, b, some (.int y)]) (fun l => if l.2.2 = y then some (eL l) else none) Ls (vs := Ls.map eL) (σ := σ) (lv := [none, none, some (.int y)])
    rfl (by lia) (fun _ => srcOk_same (get_app h))
    (by
      rintro x hx lv ws ⟨a, b, rfl⟩
      refine ⟨[a, some (eL x), some (.int y)], rfl, ⟨_, _, rfl⟩, ?_⟩
      by_cases hc : x.2.2 = y
      · rw [if_pos hc]
        simp only [xx8, Mini.D.seq_nx, Mini.D.seq_ct, Mini.D.seq_rt, xx13, xx10, xx14, xx9, xx12, xx7, xx15, xx30, xx20, xx16, xx18, xx3, xx4, xx2, xx5, xx6, xx23, xx35, xx34, xx29, xx24, xx26, xx28, xx27, xx17, xx25, xx21, xx22, xx33, xx31, xx32, xx38, xx40, xx39, xx37, xx36, xx0, lvGet_0, lvGet_s, lvSet_0, lvSet_s, Option.map_some, capLV, List.map_cons, List.map_nil, Option.bind_none, Option.bind_some, Mini.F.den, lv0, List.length_cons, List.length_nil, if_true, reduceIte, Nat.reduceAdd, Nat.reduceLeDiff, Nat.reduceLT, List.getElem?_cons_zero, List.getElem?_cons_succ, Nat.zero_add, Int.reduceLT, Int.reduceLE, and_true, true_and, and_self, intRel, intOp, subS_t0, subS_t1, subS_t2, lenF, subI, get_end, eqS_int, eqS_spot, neS_int, ltS_int, decide_true, decide_false, Bool.not_true, Bool.not_false, KindOf.is, LIM, xx11, walkV, rangeF, Int.reduceEq, hc]
      · rw [if_neg hc]
        simp only [xx8, Mini.D.seq_nx, Mini.D.seq_ct, Mini.D.seq_rt, xx13, xx10, xx14, xx9, xx12, xx7, xx15, xx30, xx20, xx16, xx18, xx3, xx4, xx2, xx5, xx6, xx23, xx35, xx34, xx29, xx24, xx26, xx28, xx27, xx17, xx25, xx21, xx22, xx33, xx31, xx32, xx38, xx40, xx39, xx37, xx36, xx0, lvGet_0, lvGet_s, lvSet_0, lvSet_s, Option.map_some, capLV, List.map_cons, List.map_nil, Option.bind_none, Option.bind_some, Mini.F.den, lv0, List.length_cons, List.length_nil, if_true, reduceIte, Nat.reduceAdd, Nat.reduceLeDiff, Nat.reduceLT, List.getElem?_cons_zero, List.getElem?_cons_succ, Nat.zero_add, Int.reduceLT, Int.reduceLE, and_true, true_and, and_self, intRel, intOp, subS_t0, subS_t1, subS_t2, lenF, subI, get_end, eqS_int, eqS_spot, neS_int, ltS_int, decide_true, decide_false, Bool.not_true, Bool.not_false, KindOf.is, LIM, xx11, walkV, rangeF, Int.reduceEq, hc])
    ⟨_, _, rfl⟩
  have e : ∀ l : List Ln, l.filterMap (fun l => if l.2.2 = y then some (eL l) else none) = (l.filter fun l => l.2.2 = y).map eL := by
    intro l
    induction l with
    | nil => rfl
    | cons q ys ih =>
      by_cases hc : q.2.2 = y
      · rw [List.filterMap_cons_some (b := eL q) (by rw [if_pos hc]), List.filter_cons_of_pos (by simpa using hc), ih]; rfl
      · rw [List.filterMap_cons_none (by rw [if_neg hc]), List.filter_cons_of_neg (by simpa using hc), ih]
  exact ⟨lv', by rw [h1, e]⟩
inductive JO (many : Int) (Ls : List Ln) (ll : Nat) (σ0 : Store) (done : List Int) (lv : LV) (σ' : Store) : Prop
  | mk (p : Nat) (x5 x6 x7 x8 x9 x10 : Option V) (P : Ln → Prop) (f : Int → Int) (M : List ((Int × Int) × Int)) (C : List Ln)
    (hlv : lv = [some (.int many), some (.loc ll), some (.loc p), some (.loc (σ0.length + 2)), some (.loc (σ0.length + 3)), x5, x6, x7, x8, x9, x10, none, none])
    (js : JS many Ls σ0 σ' p (σ0.length + 2) (σ0.length + 3) done.length P f M C (10 * done.length)) : JO many Ls ll σ0 done lv σ'
inductive JI (many : Int) (Ls : List Ln) (ll : Nat) (σ0 σ' : Store) (x : Int) (d : Nat) (dn : List Ln) (lv : LV) (σ'' : Store) : Prop
  | mk (p : Nat) (x6 x7 x8 x9 x10 : Option V) (P : Ln → Prop) (f : Int → Int) (M : List ((Int × Int) × Int)) (C : List Ln)
    (hlv : lv = jLV many ll p (σ0.length + 2) (σ0.length + 3) x x6 x7 x8 x9 x10)
    (src : σ''[σ'.length]? = some (.list ((Ls.filter fun l => l.2.2 = x).map eL)))
    (js : JS many Ls σ0 σ'' p (σ0.length + 2) (σ0.length + 3) x P f M C (10 * d + dn.length))
    (all : ∀ q ∈ dn, P q) : JI many Ls ll σ0 σ' x d dn lv σ''
inductive JoinP (σ0 : Store) (many : Int) (Ls : List Ln) (p : V × Store) : Prop
  | mk (m0 c0 : Nat) (M : List ((Int × Int) × Int)) (Cs : List Ln) (e : p.1 = .tup [.loc m0, .loc c0]) (l : σ0.length ≤ m0) (x : Ext σ0 p.2) (g : p.2[m0]? = some (.dict (M.map (eD pr V.int)))) (c : p.2[c0]? = some (.list (Cs.map eL))) (G : GoodL many Cs) (nd : (M.map (·.1)).Nodup)
    (q : ∀ u v x, Lv Cs u v x ↔ Lv Ls u v x) (r : ∀ u v x, aGet M (u, v) = some x ↔ (1 ≤ u ∧ u ≤ many) ∧ (1 ≤ v ∧ v ≤ many) ∧ u ≠ v ∧ Lv Ls u v x) : JoinP σ0 many Ls p
theorem law_joined_run {many : Int} {Ls : List Ln} (G : GoodL many Ls) (h10 : Ls.length ≤ 10) {ll : Nat} {σ0 : Store} (hl : σ0[ll]? = some (.list (Ls.map eL))) :
    Gives (f__law_joined [.int many, .loc ll] σ0) (JoinP σ0 many Ls) := by
  have hhi := G.hi
  have hlo := G.lo
  refine den_gives rfl ?_
  rw [joined_shape]
  obtain ⟨lvi, hi⟩ := joined_init hhi σ0
  have hd := dictF_run beq_int key_int (vf := V.int) (l := σ0.length) (xs := lotD many id) (σ := σ0 ++ [.list ((lotD many id).map (eP V.int V.int))]) get_end (by rw [lotD_keys]; exact ids_nodup many) (by rw [← List.length_map (f := (·.1)), lotD_keys, ids_len]; lia)
  have h1m : (-1000000 : Int) < many + 1 := by lia
  have h2m : many + 1 < (1000000 : Int) := by lia
  have hr3 : rngL 0 (3 - 0 : Int).toNat = [(0 : Int), 1, 2].map V.int := rfl
  simp only [xx8, Mini.D.seq_nx, Mini.D.seq_ct, Mini.D.seq_rt, xx13, xx10, xx14, xx9, xx12, xx7, xx15, xx30, xx20, xx16, xx18, xx3, xx4, xx2, xx5, xx6, xx23, xx35, xx34, xx29, xx24, xx26, xx28, xx27, xx17, xx25, xx21, xx22, xx33, xx31, xx32, xx38, xx40, xx39, xx37, xx36, xx0, lvGet_0, lvGet_s, lvSet_0, lvSet_s, Option.map_some, capLV, List.map_cons, List.map_nil, Option.bind_none, Option.bind_some, Mini.F.den, lv0, List.length_cons, List.length_nil, if_true, reduceIte, Nat.reduceAdd, Nat.reduceLeDiff, Nat.reduceLT, List.getElem?_cons_zero, List.getElem?_cons_succ, Nat.zero_add, Int.reduceLT, Int.reduceLE, and_true, true_and, and_self, intRel, intOp, subS_t0, subS_t1, subS_t2, lenF, subI, get_end, eqS_int, eqS_spot, neS_int, ltS_int, decide_true, decide_false, Bool.not_true, Bool.not_false, KindOf.is, LIM, xx11, walkV, rangeF, Int.reduceEq, xx19, addS, h1m, h2m, rng_ids, hi, hd, List.length_append]
  rw [hr3]
  refine seq_for V.int (fun done lv σ' => JO many Ls ll σ0 done lv σ') [(0 : Int), 1, 2] rfl ?_ ?_ ?_ ?_
  · intro _ _ _ _; rfl
  · refine ⟨σ0.length + 1, _, _, _, _, _, _, _, id, [], [], rfl, ?_, ?_, ?_, ?_, by lia, by lia, by lia, KI.first G, by simp⟩
    · exact ((Ext.rfl.app _).app _).app _ |>.app _
    · simp
    · simp
    · simp
  · rintro done x rest lv σ' e ⟨p, x5, x6, x7, x8, x9, x10, P, f, M, C, rfl, J⟩
    have hx : x = done.length ∧ done.length ≤ 2 := by
      have t : [(0 : Int), 1, 2][done.length]? = some x := by rw [e]; simp
      have hlen : done.length < 3 := by have := congrArg List.length e; simp at this; lia
      generalize done.length = k at t hlen ⊢
      have : k = 0 ∨ k = 1 ∨ k = 2 := by lia
      rcases this with rfl | rfl | rfl
      · cases t; exact ⟨rfl, by lia⟩
      · cases t; exact ⟨rfl, by lia⟩
      · cases t; exact ⟨rfl, by lia⟩
    obtain ⟨hx, hd2⟩ := hx
    rw [← hx] at J
    have hll := J.ext.get hl
    obtain ⟨lvc, hc⟩ := level_comp (y := x) hll (by lia)
    refine ⟨jLV many ll p (σ0.length + 2) (σ0.length + 3) x x6 x7 x8 x9 x10, σ', rfl, ?_⟩
    unfold dLevel
    simp only [xx8, Mini.D.seq_nx, Mini.D.seq_ct, Mini.D.seq_rt, xx13, xx10, xx14, xx9, xx12, xx7, xx15, xx30, xx20, xx16, xx18, xx3, xx4, xx2, xx5, xx6, xx23, xx35, xx34, xx29, xx24, xx26, xx28, xx27, xx17, xx25, xx21, xx22, xx33, xx31, xx32, xx38, xx40, xx39, xx37, xx36, xx0, lvGet_0, lvGet_s, lvSet_0, lvSet_s, Option.map_some, capLV, List.map_cons, List.map_nil, Option.bind_none, Option.bind_some, Mini.F.den, lv0, List.length_cons, List.length_nil, if_true, reduceIte, Nat.reduceAdd, Nat.reduceLeDiff, Nat.reduceLT, List.getElem?_cons_zero, List.getElem?_cons_succ, Nat.zero_add, Int.reduceLT, Int.reduceLE, and_true, true_and, and_self, intRel, intOp, subS_t0, subS_t1, subS_t2, lenF, subI, get_end, eqS_int, eqS_spot, neS_int, ltS_int, decide_true, decide_false, Bool.not_true, Bool.not_false, KindOf.is, LIM, xx11, walkV, rangeF, Int.reduceEq, xx19, hll, hc, get_end]
    have hfl := List.length_filter_le (fun l : Ln => decide (l.2.2 = x)) Ls
    refine seq_for eL (fun dn lv σ'' => JI many Ls ll σ0 σ' x done.length dn lv σ'') (Ls.filter fun l => l.2.2 = x) rfl ?_ ?_ ?_ ?_
    · rintro dn lv σ'' ⟨_, _, _, _, _, _, _, _, _, _, _, h, _, _⟩; exact srcOk_same h
    · refine ⟨p, _, _, _, _, _, P, f, M, C, rfl, get_end, ⟨J.ext.app _, get_app J.hp, get_app J.hm, get_app J.hc, J.pm, J.m0, J.c0, J.ki, J.len⟩, by simp⟩
    · rintro dn l rs lv σ'' el ⟨p', x6', x7', x8', x9', x10', P', f', M', C', rfl, hs, J', hP⟩
      have hlm := List.mem_filter.mp (show l ∈ Ls.filter fun l => l.2.2 = x by rw [el]; simp)
      have hdl : dn.length < Ls.length := by rw [el] at hfl; simp at hfl; lia
      have hms := lt_of_get J.hm
      have hcs := lt_of_get J.hc
      refine ⟨jLV many ll p' (σ0.length + 2) (σ0.length + 3) x (some (eL l)) x7' x8' x9' x10', σ'', rfl, ?_⟩
      obtain ⟨⟨g, lv2, σ2⟩, k1, k2, k3, p2, y7, y8, y9, y10, k4, P2, f2, M2, C2, k5, k6, k7⟩ := line_run G (ll := ll) (x7 := x7') (x8 := x8') (x9 := x9') (x10 := x10') J' hlm.1 (by simpa using hlm.2) (by lia)
      simp only at k2 k3 k4 k5
      subst k2 k4
      rw [k1]
      refine Gives.some ⟨p2, _, _, _, _, _, P2, f2, M2, C2, rfl, k3 _ _ (by lia) (by lia) hs, ?_, fun q hq => ?_⟩
      · rw [List.length_append]; exact k5
      · rcases List.mem_append.mp hq with hq | hq
        · exact k6 q (hP q hq)
        · rw [List.mem_singleton] at hq; subst hq; exact k7
    · rintro lv σ'' ⟨p', x6', x7', x8', x9', x10', P', f', M', C', rfl, hs, J', hP⟩
      simp only [xx8, Mini.D.seq_nx, Mini.D.seq_ct, Mini.D.seq_rt, xx13, xx10, xx14, xx9, xx12, xx7, xx15, xx30, xx20, xx16, xx18, xx3, xx4, xx2, xx5, xx6, xx23, xx35, xx34, xx29, xx24, xx26, xx28, xx27, xx17, xx25, xx21, xx22, xx33, xx31, xx32, xx38, xx40, xx39, xx37, xx36, xx0, lvGet_0, lvGet_s, lvSet_0, lvSet_s, Option.map_some, capLV, List.map_cons, List.map_nil, Option.bind_none, Option.bind_some, Mini.F.den, lv0, List.length_cons, List.length_nil, if_true, reduceIte, Nat.reduceAdd, Nat.reduceLeDiff, Nat.reduceLT, List.getElem?_cons_zero, List.getElem?_cons_succ, Nat.zero_add, Int.reduceLT, Int.reduceLE, and_true, true_and, and_self, intRel, intOp, subS_t0, subS_t1, subS_t2, lenF, subI, get_end, eqS_int, eqS_spot, neS_int, ltS_int, decide_true, decide_false, Bool.not_true, Bool.not_false, KindOf.is, LIM, xx11, walkV, rangeF, Int.reduceEq]
      refine Gives.some ⟨p', _, _, _, _, _, _, P', f', M', C', rfl, J'.ext, J'.hp, J'.hm, J'.hc, J'.pm, J'.m0, J'.c0, ?_, ?_⟩
      · have := J'.ki.up G (fun l hl hy => hP l (List.mem_filter.mpr ⟨hl, by simpa using hy⟩))
        rw [List.length_append, List.length_singleton]
        rw [show ((done.length + 1 : Nat) : Int) = x + 1 by lia]
        exact this
      · have := J'.len
        rw [List.length_append, List.length_singleton]; lia
  · rintro lv σ' ⟨p, x5, x6, x7, x8, x9, x10, P, f, M, C, rfl, J⟩
    simp only [xx8, Mini.D.seq_nx, Mini.D.seq_ct, Mini.D.seq_rt, xx13, xx10, xx14, xx9, xx12, xx7, xx15, xx30, xx20, xx16, xx18, xx3, xx4, xx2, xx5, xx6, xx23, xx35, xx34, xx29, xx24, xx26, xx28, xx27, xx17, xx25, xx21, xx22, xx33, xx31, xx32, xx38, xx40, xx39, xx37, xx36, xx0, lvGet_0, lvGet_s, lvSet_0, lvSet_s, Option.map_some, capLV, List.map_cons, List.map_nil, Option.bind_none, Option.bind_some, Mini.F.den, lv0, List.length_cons, List.length_nil, if_true, reduceIte, Nat.reduceAdd, Nat.reduceLeDiff, Nat.reduceLT, List.getElem?_cons_zero, List.getElem?_cons_succ, Nat.zero_add, Int.reduceLT, Int.reduceLE, and_true, true_and, and_self, intRel, intOp, subS_t0, subS_t1, subS_t2, lenF, subI, get_end, eqS_int, eqS_spot, neS_int, ltS_int, decide_true, decide_false, Bool.not_true, Bool.not_false, KindOf.is, LIM, xx11, walkV, rangeF, Int.reduceEq]
    have k := J.ki.last G
    exact Gives.some ⟨_, _, M, C, rfl, J.m0, J.ext, J.hm, J.hc, ⟨hlo, hhi, fun l hl => G.lines l (J.ki.sub l hl), by have := J.len; simpa using this⟩, J.ki.nd, k.2.1, k.2.2⟩
end Mini
end

section
namespace Mini
open PySem
noncomputable abbrev Rw := Int × Int × Int
noncomputable abbrev vR (r : Rw) : V := .tup [.int r.1, .int r.2.1, .int r.2.2]
noncomputable def rlt (r q : Rw) : Prop := r.1 < q.1 ∨ (r.1 = q.1 ∧ (r.2.1 < q.2.1 ∨ (r.2.1 = q.2.1 ∧ r.2.2 < q.2.2)))
noncomputable def rle (r q : Rw) : Prop := r.1 < q.1 ∨ (r.1 = q.1 ∧ (r.2.1 < q.2.1 ∨ (r.2.1 = q.2.1 ∧ r.2.2 ≤ q.2.2)))
noncomputable def radd (r : Rw) (x : Int) : Rw := (r.1 + on x 2, r.2.1 + on x 1, r.2.2 + on x 0)
theorem rle_refl (r : Rw) : rle r r := by unfold rle; lia
theorem rle_trans {a b c : Rw} (h : rle a b) (k : rle b c) : rle a c := by unfold rle at *; lia
theorem rle_add {a b : Rw} {x : Int} (h : rle a b) : rle (radd a x) (radd b x) := by unfold rle radd at *; simp only; grind
theorem rle_of_not {a b : Rw} (h : ¬ rlt a b) : rle b a := by unfold rle rlt at *; grind
theorem rle_of_lt {a b : Rw} (h : rlt a b) : rle a b := by unfold rle rlt at *; grind
theorem ltS_row (a b : Rw) (σ : Store) : ∃ t, ltS (vR a) (vR b) σ = some t ∧ (t = true ↔ rlt a b) := by
  obtain ⟨a1, a2, a3⟩ := a
  obtain ⟨b1, b2, b3⟩ := b
  unfold rlt
  by_cases h1 : a1 = b1
  · by_cases h2 : a2 = b2
    · by_cases h3 : a3 = b3
      · exact ⟨false, by simp [ltS, V.flat, V.lt, V.lts, V.beq, V.beqs, h1, h2, h3], by simp [h1, h2, h3]⟩
      · exact ⟨decide (a3 < b3), by simp [ltS, V.flat, V.lt, V.lts, V.beq, V.beqs, h1, h2, h3], by simp [h1, h2]⟩
    · exact ⟨decide (a2 < b2), by simp [ltS, V.flat, V.lt, V.lts, V.beq, V.beqs, h1, h2], by simp [h1]; lia⟩
  · exact ⟨decide (a1 < b1), by simp [ltS, V.flat, V.lt, V.lts, V.beq, V.beqs, h1], by simp; lia⟩
structure BI (L : List Ln) (k : Int) (fs : List (Int × Rw)) : Prop where
  nd : (fs.map (·.1)).Nodup
  sound : ∀ v r, aGet fs v = some r → Wk L 1 v r.1 r.2.1 r.2.2
  dom : ∀ v a b c, Wk L 1 v a b c → a + b + c ≤ k → ∃ r, aGet fs v = some r ∧ rle r (a, b, c)
structure BN (L : List Ln) (fs0 : List (Int × Rw)) (dn : List Ln) (fs : List (Int × Rw)) : Prop where
  nd : (fs.map (·.1)).Nodup
  sound : ∀ v r, aGet fs v = some r → Wk L 1 v r.1 r.2.1 r.2.2
  low : ∀ v r, aGet fs0 v = some r → ∃ q, aGet fs v = some q ∧ rle q r
  rel : ∀ l ∈ dn, ∀ r, aGet fs0 l.1 = some r → ∃ q, aGet fs l.2.1 = some q ∧ rle q (radd r l.2.2)
noncomputable def sw (l : Ln) : Ln := (l.2.1, l.1, l.2.2)
section
variable {many : Int} {L : List Ln} (G : GoodL many L) {k : Int} {fs fs0 : List (Int × Rw)} {dn : List Ln}
include G
theorem BI.start (h : BI L k fs) : BN L fs [] fs := ⟨h.nd, h.sound, fun v r hv => ⟨r, hv, rle_refl r⟩, fun l hl => by cases hl⟩
set_option tactic.hygienic true in
theorem BN.stop (h0 : BI L k fs0) (hk : 0 ≤ k) (h : BN L fs0 (L ++ L.map sw) fs) : BI L (k + 1) fs := by
  refine ⟨h.nd, h.sound, fun v a b c w hl => ?_⟩
  cases w with
  | nil =>
    obtain ⟨r, h1, h2⟩ := h0.dom _ _ _ _ Wk.nil (by grind)
    obtain ⟨q, h3, h4⟩ := h.low _ _ h1
    exact ⟨q, h3, rle_trans h4 h2⟩
  | snoc w e =>
    rename_i u a b c x
    have hx := e.rng G
    have ho := on_lv ⟨hx.2.2.1, hx.2.2.2.1⟩
    obtain ⟨r, h1, h2⟩ := h0.dom _ _ _ _ w (by grind)
    have hm : (u, v, x) ∈ L ++ L.map sw := by
      rcases e with e | e
      · exact List.mem_append_left _ e
      · exact List.mem_append_right _ (List.mem_map.mpr ⟨_, e, rfl⟩)
    obtain ⟨q, h3, h4⟩ := h.rel _ hm r h1
    exact ⟨q, h3, rle_trans h4 (rle_add (x := x) h2)⟩
theorem BN.skip (h : BN L fs0 dn fs) {l : Ln} (hl : ∀ r, aGet fs l.1 = some r → ∃ q, aGet fs l.2.1 = some q ∧ rle q (radd r l.2.2)) : BN L fs0 (dn ++ [l]) fs := by
  refine ⟨h.nd, h.sound, h.low, fun q hq r hr => ?_⟩
  rcases List.mem_append.mp hq with hq | hq
  · exact h.rel q hq r hr
  · rw [List.mem_singleton] at hq; subst hq
    obtain ⟨r', h1, h2⟩ := h.low _ _ hr
    obtain ⟨q', h3, h4⟩ := hl r' h1
    exact ⟨q', h3, rle_trans h4 (rle_add h2)⟩
set_option tactic.hygienic true in
theorem BN.put (h : BN L fs0 dn fs) {l : Ln} (hl : Ed L l.1 l.2.1 l.2.2) {r : Rw} (hr : aGet fs l.1 = some r) (hn : aGet fs l.2.1 = none ∨ ∃ q, aGet fs l.2.1 = some q ∧ rlt (radd r l.2.2) q) :
    BN L fs0 (dn ++ [l]) (aSet fs l.2.1 (radd r l.2.2)) := by
  have hx := hl.rng G
  have low : ∀ v q, aGet fs v = some q → ∃ q', aGet (aSet fs l.2.1 (radd r l.2.2)) v = some q' ∧ rle q' q := by
    intro v q hv
    rw [aGet_set]
    by_cases e : l.2.1 = v
    · subst e
      rw [if_pos rfl]
      refine ⟨_, rfl, ?_⟩
      rcases hn with hn | ⟨q', hn, hlt⟩
      · rw [hn] at hv; cases hv
      · rw [hn] at hv; cases hv; exact rle_of_lt hlt
    · rw [if_neg e]; exact ⟨q, hv, rle_refl q⟩
  refine ⟨aSet_nodup h.nd _ _, fun v q hv => ?_, fun v q hv => ?_, fun z hz q hq => ?_⟩
  · rw [aGet_set] at hv
    split at hv
    · rename_i e; subst e
      cases hv
      exact Wk.snoc (h.sound _ _ hr) hl
    · exact h.sound v q hv
  · obtain ⟨q1, h1, h2⟩ := h.low v q hv
    obtain ⟨q2, h3, h4⟩ := low v q1 h1
    exact ⟨q2, h3, rle_trans h4 h2⟩
  · rcases List.mem_append.mp hz with hz | hz
    · obtain ⟨q1, h1, h2⟩ := h.rel z hz q hq
      obtain ⟨q2, h3, h4⟩ := low _ q1 h1
      exact ⟨q2, h3, rle_trans h4 h2⟩
    · rw [List.mem_singleton] at hz; subst hz
      refine ⟨_, by rw [aGet_set, if_pos rfl], ?_⟩
      obtain ⟨q1, h1, h2⟩ := h.low _ _ hq
      rw [hr] at h1; cases h1
      exact rle_add h2
theorem BI.last (h : BI L many fs) : DistMap L 1 (fs.map fun p => (p.1, 25 * p.2.1 + 5 * p.2.2.1 + p.2.2.2)) := by
  have hlo := G.lo
  have hhi := G.hi
  refine ⟨by rw [List.map_map]; exact h.nd, fun v c hv => ?_, fun v a b c w => ?_⟩
  · obtain ⟨⟨v', r⟩, hp, e⟩ := List.mem_map.mp hv
    cases e
    have hg := aGet_of_mem h.nd hp
    have w := h.sound _ _ hg
    obtain ⟨a', b', c', w', k1, k2, k3, k4, k5, k6, k7⟩ := w.small G (by lia)
    obtain ⟨q, h1, h2⟩ := h.dom _ _ _ _ w' (by lia)
    rw [hg] at h1; cases h1
    refine ⟨⟨_, _, _, w, rfl⟩, fun a b c w2 => ?_⟩
    obtain ⟨a2, b2, c2, w3, j1, j2, j3, j4, j5, j6, j7⟩ := w2.small G (by lia)
    obtain ⟨q, h3, h4⟩ := h.dom _ _ _ _ w3 (by lia)
    rw [hg] at h3; cases h3
    unfold rle at h2 h4
    simp only at h2 h4 ⊢
    lia
  · obtain ⟨a', b', c', w', k1, k2, k3, k4, k5, k6, k7⟩ := w.small G (by lia)
    obtain ⟨q, h1, h2⟩ := h.dom _ _ _ _ w' (by lia)
    exact ⟨_, List.mem_map.mpr ⟨_, aGet_mem h1, rfl⟩⟩
theorem BI.small (h : BI L k fs) : fs.length ≤ 5 := by
  have hlo := G.lo
  have hhi := G.hi
  have := nodup_len h.nd (m := ids many) (fun x hx => by
    obtain ⟨r, hr⟩ := Option.isSome_iff_exists.mp (aGet_isSome.mpr hx)
    exact mem_ids.mpr ((h.sound _ _ hr).rng G (by grind)))
  rw [ids_len, List.length_map] at this; grind
theorem BN.small (h : BN L fs0 dn fs) : fs.length ≤ 5 := by
  have hlo := G.lo
  have hhi := G.hi
  have := nodup_len h.nd (m := ids many) (fun x hx => by
    obtain ⟨r, hr⟩ := Option.isSome_iff_exists.mp (aGet_isSome.mpr hx)
    exact mem_ids.mpr ((h.sound _ _ hr).rng G (by lia)))
  rw [ids_len, List.length_map] at this; lia
theorem BI.one : BI L 0 [(1, (0, 0, 0))] := by
  refine ⟨by simp, fun v r hv => ?_, fun v a b c w hl => ?_⟩
  · have := aGet_mem hv
    rw [List.mem_singleton] at this
    cases this; exact Wk.nil
  · have hn := w.nonneg G
    have e := hn.2.2.2 (by grind)
    subst e
    exact ⟨(0, 0, 0), by simp [aGet], by unfold rle; simp only; grind⟩
end
end Mini
end

section
namespace Mini
open PySem
noncomputable def dRel : SDen := (D.cons (D.ite (C.cmp inS (E.var 4) (E.var 2)) (D.cons (D.assign (T.var 7) (E.call tupleF (L.cons (E.comp (It.enum (E.sub (E.var 2) (E.var 4))) [none, none, none, some 6] (.list []) (T.tup 2 (Ts.cons (T.var 1) (Ts.cons (T.var 2) Ts.nil))) C.true (B.app (E.bin addS (E.var 2) (E.ite (C.cmp eqS (E.var 1) (E.bin (intOp subI) (E.const (.int 2)) (E.var 3))) (E.const (.int 1)) (E.const (.int 0)))))) L.nil))) (D.cons (D.ite (C.or (C.cmp notInS (E.var 5) (E.var 2)) (C.cmp ltS (E.var 7) (E.sub (E.var 2) (E.var 5)))) (D.cons (D.assign (T.sub (E.var 2) (E.var 5)) (E.var 7)) D.nil) D.nil) D.nil)) D.nil) D.nil)
theorem row_comp {r : Rw} {x : Int} (hx : 0 ≤ x ∧ x ≤ 2) (σ : Store) : ∃ lv', compD (T.tup 2 (Ts.cons (T.var 1) (Ts.cons (T.var 2) Ts.nil))) C.true (B.app (E.bin addS (E.var 2) (E.ite (C.cmp eqS (E.var 1) (E.bin (intOp subI) (E.const (.int 2)) (E.var 3))) (E.const (.int 1)) (E.const (.int 0))))) none (enumL 0 [.int r.1, .int r.2.1, .int r.2.2]) σ.length [none, none, none, some (.int x)] (σ ++ [.list []])
    = some (lv', σ ++ [.list [.int (radd r x).1, .int (radd r x).2.1, .int (radd r x).2.2]]) := by
  obtain ⟨lv', h1⟩ := compD_pure (mt := (T.tup 2 (Ts.cons (T.var 1) (Ts.cons (T.var 2) Ts.nil)))) (mc := C.true) (m := (E.bin addS (E.var 2) (E.ite (C.cmp eqS (E.var 1) (E.bin (intOp subI) (E.const (.int 2)) (E.var 3))) (E.const (.int 1)) (E.const (.int 0))))) (src := none) pr
    (fun lv => ∃ a b c, lv = [a, b, c, some (.int x)]) (fun p => some (.int (p.2 + if p.1 = 2 - x then 1 else 0))) [((0 : Int), r.1), (1, r.2.1), (2, r.2.2)] (vs := enumL 0 [.int r.1, .int r.2.1, .int r.2.2]) (σ := σ) (lv := [none, none, none, some (.int x)])
    rfl (by simp) (fun _ => rfl)
    (by
      rintro p hp lv ws ⟨a, b, c, rfl⟩
      refine ⟨[a, some (.int p.1), some (.int p.2), some (.int x)], rfl, ⟨_, _, _, rfl⟩, ?_⟩
      by_cases hc : p.1 = 2 - x
      · simp only [xx8, Mini.D.seq_nx, Mini.D.seq_ct, Mini.D.seq_rt, xx13, xx10, xx14, xx9, xx12, xx7, xx15, xx30, xx20, xx16, xx18, xx3, xx4, xx2, xx5, xx6, xx23, xx35, xx34, xx29, xx24, xx26, xx28, xx27, xx17, xx25, xx21, xx22, xx33, xx31, xx32, xx38, xx40, xx39, xx37, xx36, xx0, lvGet_0, lvGet_s, lvSet_0, lvSet_s, Option.map_some, capLV, List.map_cons, List.map_nil, Option.bind_none, Option.bind_some, Mini.F.den, lv0, List.length_cons, List.length_nil, if_true, reduceIte, Nat.reduceAdd, Nat.reduceLeDiff, Nat.reduceLT, List.getElem?_cons_zero, List.getElem?_cons_succ, Nat.zero_add, Int.reduceLT, Int.reduceLE, and_true, true_and, and_self, intRel, intOp, subS_t0, subS_t1, subS_t2, lenF, subI, get_end, eqS_int, eqS_spot, neS_int, ltS_int, decide_true, decide_false, Bool.not_true, Bool.not_false, KindOf.is, LIM, xx11, walkV, rangeF, Int.reduceEq, hc, addS]
      · simp only [xx8, Mini.D.seq_nx, Mini.D.seq_ct, Mini.D.seq_rt, xx13, xx10, xx14, xx9, xx12, xx7, xx15, xx30, xx20, xx16, xx18, xx3, xx4, xx2, xx5, xx6, xx23, xx35, xx34, xx29, xx24, xx26, xx28, xx27, xx17, xx25, xx21, xx22, xx33, xx31, xx32, xx38, xx40, xx39, xx37, xx36, xx0, lvGet_0, lvGet_s, lvSet_0, lvSet_s, Option.map_some, capLV, List.map_cons, List.map_nil, Option.bind_none, Option.bind_some, Mini.F.den, lv0, List.length_cons, List.length_nil, if_true, reduceIte, Nat.reduceAdd, Nat.reduceLeDiff, Nat.reduceLT, List.getElem?_cons_zero, List.getElem?_cons_succ, Nat.zero_add, Int.reduceLT, Int.reduceLE, and_true, true_and, and_self, intRel, intOp, subS_t0, subS_t1, subS_t2, lenF, subI, get_end, eqS_int, eqS_spot, neS_int, ltS_int, decide_true, decide_false, Bool.not_true, Bool.not_false, KindOf.is, LIM, xx11, walkV, rangeF, Int.reduceEq, hc, addS])
    ⟨_, _, _, rfl⟩
  refine ⟨lv', ?_⟩
  rw [h1]
  have : x = 0 ∨ x = 1 ∨ x = 2 := by grind
  rcases this with rfl | rfl | rfl <;> simp [radd, on]
theorem inS_int {β : Type} {l : Nat} {xs : List (Int × β)} {vf : β → V} {σ : Store} {v : Int} (h : σ[l]? = some (.dict (xs.map (eD V.int vf)))) : inS (.int v) (.loc l) σ = some (decide (v ∈ xs.map (·.1))) := by
  have : (aGet xs v).isSome = decide (v ∈ xs.map (·.1)) := by rw [Bool.eq_iff_iff, aGet_isSome, decide_eq_true_iff]
  simp only [inS, h]
  rw [if_pos (by rfl), dGet_map beq_int, Option.isSome_map, this]
inductive RelP (many : Int) (Ls : List Ln) (fs0 : List (Int × Rw)) (dn : List Ln) (σ : Store) (fd : Nat) (x0 x1 x3 : Option V) (l : Ln) (q : F × LV × Store) : Prop
  | mk (e : q.1 = .nx) (x7' : Option V) (hlv : q.2.1 = [x0, x1, some (.loc fd), x3, some (.int l.1), some (.int l.2.1), some (.int l.2.2), x7', none, none, none]) (k : Keep fd σ q.2.2) (fs' : List (Int × Rw)) (g : q.2.2[fd]? = some (.dict (fs'.map (eD V.int vR)))) (B : BN Ls fs0 (dn ++ [l]) fs') : RelP many Ls fs0 dn σ fd x0 x1 x3 l q
inductive RI1 (many : Int) (Ls : List Ln) (ll : Nat) (σ0 : Store) (done : List Nat) (lv : LV) (σ' : Store) : Prop
  | mk (x3 x4 x5 x6 x7 : Option V) (hlv : lv = [some (.int many), some (.loc ll), some (.loc σ0.length), x3, x4, x5, x6, x7, none, none, none]) (x : Ext σ0 σ') (fs : List (Int × Rw)) (g : σ'[σ0.length]? = some (.dict (fs.map (eD V.int vR)))) (B : BI Ls done.length fs) : RI1 many Ls ll σ0 done lv σ'
inductive RI2 (many : Int) (Ls : List Ln) (ll : Nat) (σ0 σ' : Store) (i : Nat) (fs0 : List (Int × Rw)) (dn : List Ln) (lv : LV) (σ'' : Store) : Prop
  | mk (x4 x5 x6 x7 : Option V) (hlv : lv = [some (.int many), some (.loc ll), some (.loc σ0.length), some (.int i), x4, x5, x6, x7, none, none, none]) (x : Ext σ0 σ'') (s : σ''[σ'.length + 1]? = some (.list ((Ls ++ Ls.map sw).map eL)))
    (fs : List (Int × Rw)) (g : σ''[σ0.length]? = some (.dict (fs.map (eD V.int vR)))) (B : BN Ls fs0 dn fs) : RI2 many Ls ll σ0 σ' i fs0 dn lv σ''
section
variable {many : Int} {Ls : List Ln} (G : GoodL many Ls) {fs fs0 : List (Int × Rw)} {dn : List Ln}
include G
theorem rel_run {σ : Store} {fd : Nat} {x0 x1 x3 x7 : Option V} {l : Ln} (h : σ[fd]? = some (.dict (fs.map (eD V.int vR)))) (B : BN Ls fs0 dn fs) (hl : Ed Ls l.1 l.2.1 l.2.2) :
    Gives (dRel [x0, x1, some (.loc fd), x3, some (.int l.1), some (.int l.2.1), some (.int l.2.2), x7, none, none, none] σ) (RelP many Ls fs0 dn σ fd x0 x1 x3 l) := by
  have hx := hl.rng G
  have hlen := B.small G
  have hin := inS_int (v := l.1) h
  unfold dRel
  cases hg : aGet fs l.1 with
  | none =>
    have hno : ¬ l.1 ∈ fs.map (·.1) := aGet_none.mp hg
    simp only [xx8, Mini.D.seq_nx, Mini.D.seq_ct, Mini.D.seq_rt, xx13, xx10, xx14, xx9, xx12, xx7, xx15, xx30, xx20, xx16, xx18, xx3, xx4, xx2, xx5, xx6, xx23, xx35, xx34, xx29, xx24, xx26, xx28, xx27, xx17, xx25, xx21, xx22, xx33, xx31, xx32, xx38, xx40, xx39, xx37, xx36, xx0, lvGet_0, lvGet_s, lvSet_0, lvSet_s, Option.map_some, capLV, List.map_cons, List.map_nil, Option.bind_none, Option.bind_some, Mini.F.den, lv0, List.length_cons, List.length_nil, if_true, reduceIte, Nat.reduceAdd, Nat.reduceLeDiff, Nat.reduceLT, List.getElem?_cons_zero, List.getElem?_cons_succ, Nat.zero_add, Int.reduceLT, Int.reduceLE, and_true, true_and, and_self, intRel, intOp, subS_t0, subS_t1, subS_t2, lenF, subI, get_end, eqS_int, eqS_spot, neS_int, ltS_int, decide_true, decide_false, Bool.not_true, Bool.not_false, KindOf.is, LIM, xx11, walkV, rangeF, Int.reduceEq, hin, hno]
    exact Gives.some ⟨rfl, _, rfl, Keep.refl, fs, h, B.skip G (fun r hr => by rw [hg] at hr; cases hr)⟩
  | some r =>
    have hyes : l.1 ∈ fs.map (·.1) := aGet_isSome.mp (by rw [hg]; rfl)
    have hs : subS (.loc fd) (.int l.1) σ = some (vR r) := by rw [subS_int h, hg]; rfl
    obtain ⟨lvc, hc⟩ := row_comp (r := r) (x := l.2.2) ⟨hx.2.2.1, hx.2.2.2.1⟩ σ
    generalize hσ1 : σ ++ [MObj.list [.int (radd r l.2.2).1, .int (radd r l.2.2).2.1, .int (radd r l.2.2).2.2]] = σ1 at hc
    have e1 : Ext σ σ1 := ⟨_, hσ1.symm⟩
    have ht : tupleF [.loc σ.length] σ1 = some (vR (radd r l.2.2), σ1) := by rw [← hσ1]; simp only [tupleF, get_end]
    have h1 := e1.get h
    have hin2 : notInS (.int l.2.1) (.loc fd) σ1 = some (!decide (l.2.1 ∈ fs.map (·.1))) := by rw [notInS, inS_int h1]; rfl
    have st := storeItem_at beq_int (k := l.2.1) (b := radd r l.2.2) h1 (key_int _) (by lia)
    cases hg2 : aGet fs l.2.1 with
    | none =>
      have hno : ¬ l.2.1 ∈ fs.map (·.1) := aGet_none.mp hg2
      simp only [xx8, Mini.D.seq_nx, Mini.D.seq_ct, Mini.D.seq_rt, xx13, xx10, xx14, xx9, xx12, xx7, xx15, xx30, xx20, xx16, xx18, xx3, xx4, xx2, xx5, xx6, xx23, xx35, xx34, xx29, xx24, xx26, xx28, xx27, xx17, xx25, xx21, xx22, xx33, xx31, xx32, xx38, xx40, xx39, xx37, xx36, xx0, lvGet_0, lvGet_s, lvSet_0, lvSet_s, Option.map_some, capLV, List.map_cons, List.map_nil, Option.bind_none, Option.bind_some, Mini.F.den, lv0, List.length_cons, List.length_nil, if_true, reduceIte, Nat.reduceAdd, Nat.reduceLeDiff, Nat.reduceLT, List.getElem?_cons_zero, List.getElem?_cons_succ, Nat.zero_add, Int.reduceLT, Int.reduceLE, and_true, true_and, and_self, intRel, intOp, subS_t0, subS_t1, subS_t2, lenF, subI, get_end, eqS_int, eqS_spot, neS_int, ltS_int, decide_true, decide_false, Bool.not_true, Bool.not_false, KindOf.is, LIM, xx11, walkV, rangeF, Int.reduceEq, hin, hyes, walkE, hs, xx19, hc, ht, hin2, hno, st]
      exact Gives.some ⟨rfl, _, rfl, (Keep.ext e1).trans Keep.set, _, get_set_eq (lt_of_get h1), B.put G hl hg (Or.inl hg2)⟩
    | some q =>
      have hy2 : l.2.1 ∈ fs.map (·.1) := aGet_isSome.mp (by rw [hg2]; rfl)
      have hs2 : subS (.loc fd) (.int l.2.1) σ1 = some (vR q) := by rw [subS_int h1, hg2]; rfl
      obtain ⟨t, t1, t2⟩ := ltS_row (radd r l.2.2) q σ1
      cases t with
      | true =>
        simp only [xx8, Mini.D.seq_nx, Mini.D.seq_ct, Mini.D.seq_rt, xx13, xx10, xx14, xx9, xx12, xx7, xx15, xx30, xx20, xx16, xx18, xx3, xx4, xx2, xx5, xx6, xx23, xx35, xx34, xx29, xx24, xx26, xx28, xx27, xx17, xx25, xx21, xx22, xx33, xx31, xx32, xx38, xx40, xx39, xx37, xx36, xx0, lvGet_0, lvGet_s, lvSet_0, lvSet_s, Option.map_some, capLV, List.map_cons, List.map_nil, Option.bind_none, Option.bind_some, Mini.F.den, lv0, List.length_cons, List.length_nil, if_true, reduceIte, Nat.reduceAdd, Nat.reduceLeDiff, Nat.reduceLT, List.getElem?_cons_zero, List.getElem?_cons_succ, Nat.zero_add, Int.reduceLT, Int.reduceLE, and_true, true_and, and_self, intRel, intOp, subS_t0, subS_t1, subS_t2, lenF, subI, get_end, eqS_int, eqS_spot, neS_int, ltS_int, decide_true, decide_false, Bool.not_true, Bool.not_false, KindOf.is, LIM, xx11, walkV, rangeF, Int.reduceEq, hin, hyes, walkE, hs, xx19, hc, ht, hin2, hy2, hs2, t1, st]
        exact Gives.some ⟨rfl, _, rfl, (Keep.ext e1).trans Keep.set, _, get_set_eq (lt_of_get h1), B.put G hl hg (Or.inr ⟨q, hg2, t2.mp rfl⟩)⟩
      | false =>
        simp only [xx8, Mini.D.seq_nx, Mini.D.seq_ct, Mini.D.seq_rt, xx13, xx10, xx14, xx9, xx12, xx7, xx15, xx30, xx20, xx16, xx18, xx3, xx4, xx2, xx5, xx6, xx23, xx35, xx34, xx29, xx24, xx26, xx28, xx27, xx17, xx25, xx21, xx22, xx33, xx31, xx32, xx38, xx40, xx39, xx37, xx36, xx0, lvGet_0, lvGet_s, lvSet_0, lvSet_s, Option.map_some, capLV, List.map_cons, List.map_nil, Option.bind_none, Option.bind_some, Mini.F.den, lv0, List.length_cons, List.length_nil, if_true, reduceIte, Nat.reduceAdd, Nat.reduceLeDiff, Nat.reduceLT, List.getElem?_cons_zero, List.getElem?_cons_succ, Nat.zero_add, Int.reduceLT, Int.reduceLE, and_true, true_and, and_self, intRel, intOp, subS_t0, subS_t1, subS_t2, lenF, subI, get_end, eqS_int, eqS_spot, neS_int, ltS_int, decide_true, decide_false, Bool.not_true, Bool.not_false, KindOf.is, LIM, xx11, walkV, rangeF, Int.reduceEq, hin, hyes, walkE, hs, xx19, hc, ht, hin2, hy2, hs2, t1]
        refine Gives.some ⟨rfl, _, rfl, Keep.ext e1, fs, h1, B.skip G (fun r' hr' => ?_)⟩
        rw [hg] at hr'; cases hr'
        exact ⟨q, hg2, rle_of_not (fun h => by have := t2.mpr h; cases this)⟩
end
theorem rows_shape : d__law_rows = (D.cons (D.assign (T.var 2) (E.dict1 (E.const (.int 1)) (E.tup (L.cons (E.const (.int 0)) (L.cons (E.const (.int 0)) (L.cons (E.const (.int 0)) L.nil)))))) (D.cons (D.for (It.val (E.call rangeF (L.cons (E.var 0) L.nil))) (T.var 3) (D.cons (D.for (It.val (E.bin addS (E.var 1) (E.comp (It.val (E.var 1)) [none, none, none, none] (.list []) (T.tup 3 (Ts.cons (T.var 1) (Ts.cons (T.var 2) (Ts.cons (T.var 3) Ts.nil)))) C.true (B.app (E.tup (L.cons (E.var 2) (L.cons (E.var 1) (L.cons (E.var 3) L.nil)))))))) (T.tup 3 (Ts.cons (T.var 4) (Ts.cons (T.var 5) (Ts.cons (T.var 6) Ts.nil)))) dRel) D.nil)) (D.cons (D.ret (E.var 2)) D.nil))) := rfl
theorem sw_comp {Ls : List Ln} {ll : Nat} {σ : Store} (h : σ[ll]? = some (.list (Ls.map eL))) (hl : Ls.length ≤ 1000) :
    ∃ lv', compD (T.tup 3 (Ts.cons (T.var 1) (Ts.cons (T.var 2) (Ts.cons (T.var 3) Ts.nil)))) C.true (B.app (E.tup (L.cons (E.var 2) (L.cons (E.var 1) (L.cons (E.var 3) L.nil))))) (some (ll, .list (Ls.map eL))) (Ls.map eL) σ.length [none, none, none, none] (σ ++ [.list []]) = some (lv', σ ++ [.list ((Ls.map sw).map eL)]) := by
  obtain ⟨lv', h1⟩ := compD_pure (mt := (T.tup 3 (Ts.cons (T.var 1) (Ts.cons (T.var 2) (Ts.cons (T.var 3) Ts.nil))))) (mc := C.true) (m := (E.tup (L.cons (E.var 2) (L.cons (E.var 1) (L.cons (E.var 3) L.nil))))) (src := some (ll, .list (Ls.map eL))) eL
    (fun lv => ∃ a b c d, lv = [a, b, c, d]) (fun l => some (eL (sw l))) Ls (vs := Ls.map eL) (σ := σ) (lv := [none, none, none, none])
    rfl (by lia) (fun _ => srcOk_same (get_app h))
    (by
      rintro x hx lv ws ⟨a, b, c, d, rfl⟩
      refine ⟨[a, some (.int x.1), some (.int x.2.1), some (.int x.2.2)], rfl, ⟨_, _, _, _, rfl⟩, ?_⟩
      simp only [xx8, Mini.D.seq_nx, Mini.D.seq_ct, Mini.D.seq_rt, xx13, xx10, xx14, xx9, xx12, xx7, xx15, xx30, xx20, xx16, xx18, xx3, xx4, xx2, xx5, xx6, xx23, xx35, xx34, xx29, xx24, xx26, xx28, xx27, xx17, xx25, xx21, xx22, xx33, xx31, xx32, xx38, xx40, xx39, xx37, xx36, xx0, lvGet_0, lvGet_s, lvSet_0, lvSet_s, Option.map_some, capLV, List.map_cons, List.map_nil, Option.bind_none, Option.bind_some, Mini.F.den, lv0, List.length_cons, List.length_nil, if_true, reduceIte, Nat.reduceAdd, Nat.reduceLeDiff, Nat.reduceLT, List.getElem?_cons_zero, List.getElem?_cons_succ, Nat.zero_add, Int.reduceLT, Int.reduceLE, and_true, true_and, and_self, intRel, intOp, subS_t0, subS_t1, subS_t2, lenF, subI, get_end, eqS_int, eqS_spot, neS_int, ltS_int, decide_true, decide_false, Bool.not_true, Bool.not_false, KindOf.is, LIM, xx11, walkV, rangeF, Int.reduceEq]
      rfl)
    ⟨_, _, _, _, rfl⟩
  exact ⟨lv', by rw [h1, List.filterMap_eq_map', List.map_map]; rfl⟩
inductive RowsAt (σ : Store) (t : Nat) (L : List Ln) : Prop
  | mk (fs : List (Int × Rw)) (g : σ[t]? = some (.dict (fs.map (eD V.int vR)))) (d : DistMap L 1 (fs.map fun p => (p.1, 25 * p.2.1 + 5 * p.2.2.1 + p.2.2.2))) (l : fs.length ≤ 5) : RowsAt σ t L
inductive RowsP (σ0 : Store) (L : List Ln) (p : V × Store) : Prop
  | mk (t : Nat) (e : p.1 = .loc t) (l : σ0.length ≤ t) (x : Ext σ0 p.2) (h : RowsAt p.2 t L) : RowsP σ0 L p
theorem rows_run {many : Int} {Ls : List Ln} (G : GoodL many Ls) {ll : Nat} {σ0 : Store} (hl : σ0[ll]? = some (.list (Ls.map eL))) :
    Gives (f__law_rows [.int many, .loc ll] σ0) (RowsP σ0 Ls) := by
  have hhi := G.hi
  have hlo := G.lo
  have hsh := G.short
  refine den_gives rfl ?_
  rw [rows_shape]
  have h1m : (-1000000 : Int) < many := by lia
  have h2m : many < (1000000 : Int) := by lia
  have hr : rngL 0 (many - 0).toNat = (List.range many.toNat).map fun i : Nat => V.int i := by
    rw [rngL_eq, show (many - 0).toNat = many.toNat by lia]
    apply List.map_congr_left; intro i _
    show V.int (0 + (i : Int)) = V.int i
    congr 1; lia
  simp only [xx8, Mini.D.seq_nx, Mini.D.seq_ct, Mini.D.seq_rt, xx13, xx10, xx14, xx9, xx12, xx7, xx15, xx30, xx20, xx16, xx18, xx3, xx4, xx2, xx5, xx6, xx23, xx35, xx34, xx29, xx24, xx26, xx28, xx27, xx17, xx25, xx21, xx22, xx33, xx31, xx32, xx38, xx40, xx39, xx37, xx36, xx0, lvGet_0, lvGet_s, lvSet_0, lvSet_s, Option.map_some, capLV, List.map_cons, List.map_nil, Option.bind_none, Option.bind_some, Mini.F.den, lv0, List.length_cons, List.length_nil, if_true, reduceIte, Nat.reduceAdd, Nat.reduceLeDiff, Nat.reduceLT, List.getElem?_cons_zero, List.getElem?_cons_succ, Nat.zero_add, Int.reduceLT, Int.reduceLE, and_true, true_and, and_self, intRel, intOp, subS_t0, subS_t1, subS_t2, lenF, subI, get_end, eqS_int, eqS_spot, neS_int, ltS_int, decide_true, decide_false, Bool.not_true, Bool.not_false, KindOf.is, LIM, xx11, walkV, rangeF, Int.reduceEq, h1m, h2m, key_int, set_end, dSet]
  rw [hr]
  refine seq_for (fun i : Nat => V.int i) (RI1 many Ls ll σ0) (List.range many.toNat) rfl ?_ ?_ ?_ ?_
  · intro _ _ _ _; rfl
  · exact ⟨_, _, _, _, _, rfl, ⟨_, rfl⟩, [(1, (0, 0, 0))], by simp [eD], BI.one G⟩
  · rintro done i rest lv σ' e ⟨x3, x4, x5, x6, x7, rfl, h1, fs0, h2, B0⟩
    have hll := h1.get hl
    obtain ⟨lvc, hc⟩ := sw_comp hll (by lia)
    have hll2 := get_app (t := [.list ((Ls.map sw).map eL)]) hll
    have ha : addS (.loc ll) (.loc σ'.length) (σ' ++ [.list ((Ls.map sw).map eL)]) = some (.loc (σ'.length + 1), σ' ++ [.list ((Ls.map sw).map eL)] ++ [.list ((Ls ++ Ls.map sw).map eL)]) := by
      simp only [addS, hll2, get_end, List.length_map, List.length_append, List.length_singleton, List.map_append]
      rw [if_pos (by show _ ≤ 1000000; lia)]
    have hg : (σ' ++ [MObj.list ((Ls.map sw).map eL)] ++ [.list ((Ls ++ Ls.map sw).map eL)])[σ'.length + 1]? = some (.list ((Ls ++ Ls.map sw).map eL)) := by simp
    refine ⟨[some (.int many), some (.loc ll), some (.loc σ0.length), some (.int i), x4, x5, x6, x7, none, none, none], σ', rfl, ?_⟩
    have hft := lt_of_get h2
    simp only [xx8, Mini.D.seq_nx, Mini.D.seq_ct, Mini.D.seq_rt, xx13, xx10, xx14, xx9, xx12, xx7, xx15, xx30, xx20, xx16, xx18, xx3, xx4, xx2, xx5, xx6, xx23, xx35, xx34, xx29, xx24, xx26, xx28, xx27, xx17, xx25, xx21, xx22, xx33, xx31, xx32, xx38, xx40, xx39, xx37, xx36, xx0, lvGet_0, lvGet_s, lvSet_0, lvSet_s, Option.map_some, capLV, List.map_cons, List.map_nil, Option.bind_none, Option.bind_some, Mini.F.den, lv0, List.length_cons, List.length_nil, if_true, reduceIte, Nat.reduceAdd, Nat.reduceLeDiff, Nat.reduceLT, List.getElem?_cons_zero, List.getElem?_cons_succ, Nat.zero_add, Int.reduceLT, Int.reduceLE, and_true, true_and, and_self, intRel, intOp, subS_t0, subS_t1, subS_t2, lenF, subI, get_end, eqS_int, eqS_spot, neS_int, ltS_int, decide_true, decide_false, Bool.not_true, Bool.not_false, KindOf.is, LIM, xx11, walkV, rangeF, Int.reduceEq, hll, xx19, hc, ha, hg]
    refine seq_for eL (RI2 many Ls ll σ0 σ' i fs0) (Ls ++ Ls.map sw) rfl ?_ ?_ ?_ ?_
    · rintro dn lv σ'' ⟨_, _, _, _, _, _, h, _, _, _⟩; exact srcOk_same h
    · exact ⟨_, _, _, _, rfl, (h1.app _).app _, hg, fs0, get_app (get_app h2), B0.start G⟩
    · rintro dn l rs lv σ'' el ⟨y4, y5, y6, y7, rfl, j1, j2, fs, j3, B⟩
      have hEd : Ed Ls l.1 l.2.1 l.2.2 := by
        have : l ∈ Ls ++ Ls.map sw := by rw [el]; simp
        rcases List.mem_append.mp this with h | h
        · exact Or.inl h
        · obtain ⟨q, hq, rfl⟩ := List.mem_map.mp h
          exact Or.inr hq
      refine ⟨[some (.int many), some (.loc ll), some (.loc σ0.length), some (.int i), some (.int l.1), some (.int l.2.1), some (.int l.2.2), y7, none, none, none], σ'', rfl, ?_⟩
      obtain ⟨⟨g, lv2, σ2⟩, k1, k2, x7', k3, k4, fs', k5, k6⟩ := rel_run G (x0 := some (.int many)) (x1 := some (.loc ll)) (x3 := some (.int i)) (x7 := y7) j3 B hEd
      simp only at k2 k3 k4 k5
      subst k2 k3
      rw [k1]
      exact Gives.some ⟨_, _, _, _, rfl, k4.Ext j1 (Nat.le_refl _), k4.2 _ _ (by lia) j2, fs', k5, k6⟩
    · rintro lv σ'' ⟨y4, y5, y6, y7, rfl, j1, j2, fs, j3, B⟩
      simp only [xx8, Mini.D.seq_nx, Mini.D.seq_ct, Mini.D.seq_rt, xx13, xx10, xx14, xx9, xx12, xx7, xx15, xx30, xx20, xx16, xx18, xx3, xx4, xx2, xx5, xx6, xx23, xx35, xx34, xx29, xx24, xx26, xx28, xx27, xx17, xx25, xx21, xx22, xx33, xx31, xx32, xx38, xx40, xx39, xx37, xx36, xx0, lvGet_0, lvGet_s, lvSet_0, lvSet_s, Option.map_some, capLV, List.map_cons, List.map_nil, Option.bind_none, Option.bind_some, Mini.F.den, lv0, List.length_cons, List.length_nil, if_true, reduceIte, Nat.reduceAdd, Nat.reduceLeDiff, Nat.reduceLT, List.getElem?_cons_zero, List.getElem?_cons_succ, Nat.zero_add, Int.reduceLT, Int.reduceLE, and_true, true_and, and_self, intRel, intOp, subS_t0, subS_t1, subS_t2, lenF, subI, get_end, eqS_int, eqS_spot, neS_int, ltS_int, decide_true, decide_false, Bool.not_true, Bool.not_false, KindOf.is, LIM, xx11, walkV, rangeF, Int.reduceEq]
      refine Gives.some ⟨_, _, _, _, _, rfl, j1, fs, j3, ?_⟩
      have := BN.stop G B0 (by lia) B
      rw [List.length_append, List.length_singleton]
      exact this
  · rintro lv σ' ⟨x3, x4, x5, x6, x7, rfl, h1, fs, h2, B⟩
    simp only [xx8, Mini.D.seq_nx, Mini.D.seq_ct, Mini.D.seq_rt, xx13, xx10, xx14, xx9, xx12, xx7, xx15, xx30, xx20, xx16, xx18, xx3, xx4, xx2, xx5, xx6, xx23, xx35, xx34, xx29, xx24, xx26, xx28, xx27, xx17, xx25, xx21, xx22, xx33, xx31, xx32, xx38, xx40, xx39, xx37, xx36, xx0, lvGet_0, lvGet_s, lvSet_0, lvSet_s, Option.map_some, capLV, List.map_cons, List.map_nil, Option.bind_none, Option.bind_some, Mini.F.den, lv0, List.length_cons, List.length_nil, if_true, reduceIte, Nat.reduceAdd, Nat.reduceLeDiff, Nat.reduceLT, List.getElem?_cons_zero, List.getElem?_cons_succ, Nat.zero_add, Int.reduceLT, Int.reduceLE, and_true, true_and, and_self, intRel, intOp, subS_t0, subS_t1, subS_t2, lenF, subI, get_end, eqS_int, eqS_spot, neS_int, ltS_int, decide_true, decide_false, Bool.not_true, Bool.not_false, KindOf.is, LIM, xx11, walkV, rangeF, Int.reduceEq]
    rw [List.length_range, show ((many.toNat : Nat) : Int) = many by lia] at B
    exact Gives.some ⟨_, rfl, Nat.le_refl _, h1, fs, h2, B.last G, B.small G⟩
end Mini
end

section
namespace Mini
open PySem

theorem dictHits_of {κ : Type} [DecidableEq κ] {kf : κ → V} (hk : ∀ a b, V.beq (kf a) (kf b) = decide (a = b)) {fs : List (κ × Int)} : ∀ {es : List (κ × Int)}, (∀ p ∈ es, aGet fs p.1 = some p.2) → dictHits (fs.map (eD kf V.int)) (es.map (eD kf V.int)) = true
  | [], _ => rfl
  | (k, v) :: es, h => by
    have h1 : aGet fs k = some v := h (k, v) List.mem_cons_self
    have h2 := dictHits_of hk (fs := fs) (es := es) (fun p hp => h p (List.mem_cons_of_mem _ hp))
    rw [List.map_cons]
    show (match dGet (fs.map (eD kf V.int)) (kf k) with
      | none => false
      | some y => V.beq (.int v) y && dictHits (fs.map (eD kf V.int)) (es.map (eD kf V.int))) = true
    rw [dGet_map hk, h1]
    show (V.beq (.int v) (.int v) && dictHits (fs.map (eD kf V.int)) (es.map (eD kf V.int))) = true
    rw [h2, beq_int]; simp
theorem eq_dicts {κ : Type} [DecidableEq κ] {kf : κ → V} (hk : ∀ a b, V.beq (kf a) (kf b) = decide (a = b)) {es fs : List (κ × Int)} {a b : Nat} {σ : Store} (ha : σ[a]? = some (.dict (es.map (eD kf V.int)))) (hb : σ[b]? = some (.dict (fs.map (eD kf V.int))))
    (he : (es.map (·.1)).Nodup) (hf : (fs.map (·.1)).Nodup) (h : ∀ q x, aGet es q = some x ↔ aGet fs q = some x) : eqS (.loc a) (.loc b) σ = some true := by
  have f1 : ∀ xs : List (κ × Int), flatD (xs.map (eD kf V.int)) = true := by intro xs; simp [flatD, eD, V.flat]
  have hl : es.length = fs.length := by
    have k1 := nodup_len he (m := fs.map (·.1)) (fun x hx => by
      obtain ⟨v, hv⟩ := Option.isSome_iff_exists.mp (aGet_isSome.mpr hx)
      exact aGet_isSome.mp (by rw [(h x v).mp hv]; rfl))
    have k2 := nodup_len hf (m := es.map (·.1)) (fun x hx => by
      obtain ⟨v, hv⟩ := Option.isSome_iff_exists.mp (aGet_isSome.mpr hx)
      exact aGet_isSome.mp (by rw [(h x v).mpr hv]; rfl))
    rw [List.length_map, List.length_map] at k1 k2
    lia
  have hh := dictHits_of hk (fs := fs) (es := es) (fun p hp => (h _ _).mp (aGet_of_mem he hp))
  simp only [eqS, ha, hb, f1, hh, List.length_map, hl]
  simp

noncomputable def told (es : List ((Int × Int) × Int)) : List ((Int × Int) × Int) := es.map fun e => (e.1, lev e.2)
theorem told_keys (es : List ((Int × Int) × Int)) : (told es).map (·.1) = es.map (·.1) := by simp [told, Function.comp_def]
noncomputable def ToldOk (many : Int) (L : List Ln) (es : List ((Int × Int) × Int)) : Prop := (es.map (·.1)).Nodup ∧ ∀ q x, aGet es q = some x ↔ (1 ≤ q.1 ∧ q.1 ≤ many) ∧ Lv L q.1 q.2 x
theorem told_ok {many : Int} {L : List Ln} (G : GoodL many L) {es : List ((Int × Int) × Int)} (h1 : (es.map (·.1)).Nodup) (h2 : ∀ u v c, ((u, v), c) ∈ es → (1 ≤ u ∧ u ≤ many) ∧ Dist L u v c)
    (h3 : ∀ u v a b k, 1 ≤ u ∧ u ≤ many → Wk L u v a b k → ∃ c, ((u, v), c) ∈ es) : ToldOk many L (told es) := by
  have hn : ((told es).map (·.1)).Nodup := by rw [told_keys]; exact h1
  refine ⟨hn, fun q x => ?_⟩
  obtain ⟨u, v⟩ := q
  constructor
  · intro h
    obtain ⟨⟨⟨u', v'⟩, c⟩, hp, e⟩ := List.mem_map.mp (aGet_mem h)
    cases e
    obtain ⟨hu, hd⟩ := h2 _ _ _ hp
    exact ⟨hu, hd.lv G hu⟩
  · rintro ⟨hu, hx⟩
    obtain ⟨a, b, k, hw⟩ := hx.wk
    obtain ⟨c, hc⟩ := h3 _ _ _ _ _ hu hw
    have := Lv.uniq hx ((h2 _ _ _ hc).2.lv G hu)
    rw [this]
    exact aGet_of_mem hn (List.mem_map.mpr ⟨_, hc, rfl⟩)

theorem items_comp {es : List ((Int × Int) × Int)} {t : Nat} {σ : Store} (h : σ[t]? = some (.dict (es.map (eD pr V.int)))) (hl : es.length ≤ 1000) :
    ∃ lv' σ', compD (T.tup 2 (Ts.cons (T.var 1) (Ts.cons (T.var 2) Ts.nil))) C.true (B.app (E.tup (L.cons (E.var 1) (L.cons (E.call f__law_level (L.cons (E.var 2) L.nil)) L.nil)))) (some (t, .dict (es.map (eD pr V.int)))) ((es.map (eD pr V.int)).map pairV) σ.length [none, none, none, none] (σ ++ [.list []]) = some (lv', σ') ∧ Ext σ σ' ∧
      σ'[σ.length]? = some (.list ((told es).map (eP pr V.int))) := by
  obtain ⟨lv', σ', h1, _, h2, h3⟩ := compD_inv (mt := (T.tup 2 (Ts.cons (T.var 1) (Ts.cons (T.var 2) Ts.nil)))) (mc := C.true) (mb := (B.app (E.tup (L.cons (E.var 1) (L.cons (E.call f__law_level (L.cons (E.var 2) L.nil)) L.nil))))) (src := some (t, .dict (es.map (eD pr V.int)))) (l := σ.length) (lv := [none, none, none, none]) (σ := σ ++ [.list []])
    (eP pr V.int) (fun done lv σ' => (∃ a b c d, lv = [a, b, c, d]) ∧ Ext σ σ' ∧ σ'[σ.length]? = some (.list ((told done).map (eP pr V.int)))) es (vs := (es.map (eD pr V.int)).map pairV) (by rw [List.map_map]; rfl)
    (by rintro done lv σ' ⟨_, h1, _⟩; exact srcOk_same (h1.get h))
    (by
      rintro done x rest lv σ' e ⟨⟨a, b, c, d, rfl⟩, h1, h2⟩
      obtain ⟨tl, ht⟩ := level_run x.2 σ'
      have hap := appendM_at (v := eP pr V.int (x.1, lev x.2)) (get_app (t := tl) h2) (by rw [List.length_map, told, List.length_map]; rw [e] at hl; simp at hl; lia)
      have e2 : (told done).map (eP pr V.int) ++ [eP pr V.int (x.1, lev x.2)] = (told (done ++ [x])).map (eP pr V.int) := by simp [told]
      rw [e2] at hap
      refine ⟨[a, some (pr x.1), some (.int x.2), d], σ', true, σ', rfl, rfl, (fun h => by cases h), fun _ => ⟨[a, some (pr x.1), some (.int x.2), d], (σ' ++ tl).set σ.length (.list ((told (done ++ [x])).map (eP pr V.int))), ?_, ⟨_, _, _, _, rfl⟩, (h1.app _).set _ (Nat.le_refl _), get_set_eq (lt_of_get (get_app h2))⟩⟩
      simp only [xx8, Mini.D.seq_nx, Mini.D.seq_ct, Mini.D.seq_rt, xx13, xx10, xx14, xx9, xx12, xx7, xx15, xx30, xx20, xx16, xx18, xx3, xx4, xx2, xx5, xx6, xx23, xx35, xx34, xx29, xx24, xx26, xx28, xx27, xx17, xx25, xx21, xx22, xx33, xx31, xx32, xx38, xx40, xx39, xx37, xx36, xx0, lvGet_0, lvGet_s, lvSet_0, lvSet_s, Option.map_some, capLV, List.map_cons, List.map_nil, Option.bind_none, Option.bind_some, Mini.F.den, lv0, List.length_cons, List.length_nil, if_true, reduceIte, Nat.reduceAdd, Nat.reduceLeDiff, Nat.reduceLT, List.getElem?_cons_zero, List.getElem?_cons_succ, Nat.zero_add, Int.reduceLT, Int.reduceLE, and_true, true_and, and_self, intRel, intOp, subS_t0, subS_t1, subS_t2, lenF, subI, get_end, eqS_int, eqS_spot, neS_int, ltS_int, decide_true, decide_false, Bool.not_true, Bool.not_false, KindOf.is, LIM, xx11, walkV, rangeF, Int.reduceEq, ht]
      simp only [eP] at hap
      rw [hap]; rfl)
    ⟨⟨_, _, _, _, rfl⟩, Ext.rfl.app _, get_end⟩
  exact ⟨lv', σ', h1, h2, h3⟩
theorem subS_pr {es : List ((Int × Int) × Int)} {l : Nat} {σ : Store} {q : Int × Int} (h : σ[l]? = some (.dict (es.map (eD pr V.int)))) : subS (.loc l) (pr q) σ = (aGet es q).map V.int := by
  simp only [subS, h]
  rw [if_pos (by rfl), dGet_map beq_pr]
theorem inS_pr {es : List ((Int × Int) × Int)} {l : Nat} {σ : Store} {q : Int × Int} (h : σ[l]? = some (.dict (es.map (eD pr V.int)))) : inS (pr q) (.loc l) σ = some (aGet es q).isSome := by
  simp only [inS, h]
  rw [if_pos (by rfl), dGet_map beq_pr, Option.isSome_map]
theorem keys_comp {es : List ((Int × Int) × Int)} {t : Nat} {σ : Store} (h : σ[t]? = some (.dict (es.map (eD pr V.int)))) (hl : es.length ≤ 1000) (hn : (es.map (·.1)).Nodup) :
    ∃ lv' σ', compD (T.var 1) C.true (B.app (E.tup (L.cons (E.var 1) (L.cons (E.call f__law_level (L.cons (E.sub (E.var 3) (E.var 1)) L.nil)) L.nil)))) (some (t, .dict (es.map (eD pr V.int)))) ((es.map (eD pr V.int)).map (·.1)) σ.length [none, none, none, some (.loc t)] (σ ++ [.list []]) = some (lv', σ') ∧ Ext σ σ' ∧
      σ'[σ.length]? = some (.list ((told es).map (eP pr V.int))) := by
  obtain ⟨lv', σ', h1, _, h2, h3⟩ := compD_inv (mt := T.var 1) (mc := C.true) (mb := (B.app (E.tup (L.cons (E.var 1) (L.cons (E.call f__law_level (L.cons (E.sub (E.var 3) (E.var 1)) L.nil)) L.nil))))) (src := some (t, .dict (es.map (eD pr V.int)))) (l := σ.length) (lv := [none, none, none, some (.loc t)]) (σ := σ ++ [.list []])
    (fun e : (Int × Int) × Int => pr e.1) (fun done lv σ' => (∃ a b c, lv = [a, b, c, some (.loc t)]) ∧ Ext σ σ' ∧ σ'[σ.length]? = some (.list ((told done).map (eP pr V.int)))) es (vs := (es.map (eD pr V.int)).map (·.1)) (keys_map _ _ _)
    (by rintro done lv σ' ⟨_, h1, _⟩; exact srcOk_same (h1.get h))
    (by
      rintro done x rest lv σ' e ⟨⟨a, b, c, rfl⟩, h1, h2⟩
      obtain ⟨tl, ht⟩ := level_run x.2 σ'
      have hs : subS (.loc t) (pr x.1) σ' = some (.int x.2) := by
        rw [subS_pr (h1.get h), aGet_of_mem hn (b := x.2) (by rw [e]; simp)]; rfl
      have hap := appendM_at (v := eP pr V.int (x.1, lev x.2)) (get_app (t := tl) h2) (by rw [List.length_map, told, List.length_map]; rw [e] at hl; simp at hl; lia)
      have e2 : (told done).map (eP pr V.int) ++ [eP pr V.int (x.1, lev x.2)] = (told (done ++ [x])).map (eP pr V.int) := by simp [told]
      rw [e2] at hap
      refine ⟨[a, some (pr x.1), c, some (.loc t)], σ', true, σ', rfl, rfl, (fun h => by cases h), fun _ => ⟨[a, some (pr x.1), c, some (.loc t)], (σ' ++ tl).set σ.length (.list ((told (done ++ [x])).map (eP pr V.int))), ?_, ⟨_, _, _, rfl⟩, (h1.app _).set _ (Nat.le_refl _), get_set_eq (lt_of_get (get_app h2))⟩⟩
      simp only [xx8, Mini.D.seq_nx, Mini.D.seq_ct, Mini.D.seq_rt, xx13, xx10, xx14, xx9, xx12, xx7, xx15, xx30, xx20, xx16, xx18, xx3, xx4, xx2, xx5, xx6, xx23, xx35, xx34, xx29, xx24, xx26, xx28, xx27, xx17, xx25, xx21, xx22, xx33, xx31, xx32, xx38, xx40, xx39, xx37, xx36, xx0, lvGet_0, lvGet_s, lvSet_0, lvSet_s, Option.map_some, capLV, List.map_cons, List.map_nil, Option.bind_none, Option.bind_some, Mini.F.den, lv0, List.length_cons, List.length_nil, if_true, reduceIte, Nat.reduceAdd, Nat.reduceLeDiff, Nat.reduceLT, List.getElem?_cons_zero, List.getElem?_cons_succ, Nat.zero_add, Int.reduceLT, Int.reduceLE, and_true, true_and, and_self, intRel, intOp, subS_t0, subS_t1, subS_t2, lenF, subI, get_end, eqS_int, eqS_spot, neS_int, ltS_int, decide_true, decide_false, Bool.not_true, Bool.not_false, KindOf.is, LIM, xx11, walkV, rangeF, Int.reduceEq, hs, ht]
      simp only [eP] at hap
      rw [hap]; rfl)
    ⟨⟨_, _, _, rfl⟩, Ext.rfl.app _, get_end⟩
  exact ⟨lv', σ', h1, h2, h3⟩

noncomputable def rowCosts (fs : List (Int × Rw)) : List (Int × Int) := fs.map fun p => (p.1, 25 * p.2.1 + 5 * p.2.2.1 + p.2.2.2)
theorem wanted_comp {fs : List (Int × Rw)} {t : Nat} {σ : Store} (h : σ[t]? = some (.dict (fs.map (eD V.int vR)))) (hl : fs.length ≤ 1000) :
    ∃ lv', compD (T.tup 2 (Ts.cons (T.var 1) (Ts.cons (T.var 2) Ts.nil))) C.true (B.app (E.tup (L.cons (E.var 1) (L.cons (E.bin addS (E.bin addS (E.bin (intOp mulI) (E.const (.int 25)) (E.sub (E.var 2) (E.const (.int 0)))) (E.bin (intOp mulI) (E.const (.int 5)) (E.sub (E.var 2) (E.const (.int 1))))) (E.sub (E.var 2) (E.const (.int 2)))) L.nil)))) (some (t, .dict (fs.map (eD V.int vR)))) ((fs.map (eD V.int vR)).map pairV) σ.length [none, none, none] (σ ++ [.list []])
      = some (lv', σ ++ [.list ((rowCosts fs).map (eP V.int V.int))]) := by
  obtain ⟨lv', h1⟩ := compD_pure (mt := (T.tup 2 (Ts.cons (T.var 1) (Ts.cons (T.var 2) Ts.nil)))) (mc := C.true) (m := (E.tup (L.cons (E.var 1) (L.cons (E.bin addS (E.bin addS (E.bin (intOp mulI) (E.const (.int 25)) (E.sub (E.var 2) (E.const (.int 0)))) (E.bin (intOp mulI) (E.const (.int 5)) (E.sub (E.var 2) (E.const (.int 1))))) (E.sub (E.var 2) (E.const (.int 2)))) L.nil)))) (src := some (t, .dict (fs.map (eD V.int vR)))) (eP V.int vR)
    (fun lv => ∃ a b c, lv = [a, b, c]) (fun p => some (eP V.int V.int (p.1, 25 * p.2.1 + 5 * p.2.2.1 + p.2.2.2))) fs (vs := (fs.map (eD V.int vR)).map pairV) (σ := σ) (lv := [none, none, none])
    (by rw [List.map_map]; rfl) (by lia) (fun _ => srcOk_same (get_app h))
    (by
      rintro x hx lv ws ⟨a, b, c, rfl⟩
      have m25 : mulI 25 x.2.1 = some (25 * x.2.1) := rfl
      have m5 : mulI 5 x.2.2.1 = some (5 * x.2.2.1) := rfl
      refine ⟨[a, some (.int x.1), some (vR x.2)], rfl, ⟨_, _, _, rfl⟩, ?_⟩
      simp only [xx8, Mini.D.seq_nx, Mini.D.seq_ct, Mini.D.seq_rt, xx13, xx10, xx14, xx9, xx12, xx7, xx15, xx30, xx20, xx16, xx18, xx3, xx4, xx2, xx5, xx6, xx23, xx35, xx34, xx29, xx24, xx26, xx28, xx27, xx17, xx25, xx21, xx22, xx33, xx31, xx32, xx38, xx40, xx39, xx37, xx36, xx0, lvGet_0, lvGet_s, lvSet_0, lvSet_s, Option.map_some, capLV, List.map_cons, List.map_nil, Option.bind_none, Option.bind_some, Mini.F.den, lv0, List.length_cons, List.length_nil, if_true, reduceIte, Nat.reduceAdd, Nat.reduceLeDiff, Nat.reduceLT, List.getElem?_cons_zero, List.getElem?_cons_succ, Nat.zero_add, Int.reduceLT, Int.reduceLE, and_true, true_and, and_self, intRel, intOp, subS_t0, subS_t1, subS_t2, lenF, subI, get_end, eqS_int, eqS_spot, neS_int, ltS_int, decide_true, decide_false, Bool.not_true, Bool.not_false, KindOf.is, LIM, xx11, walkV, rangeF, Int.reduceEq, addS, m25, m5])
    ⟨_, _, _, rfl⟩
  exact ⟨lv', by rw [h1, List.filterMap_eq_map', rowCosts, List.map_map]; rfl⟩
noncomputable def treeCosts (ts : List (Int × (Int × List V))) : List (Int × Int) := ts.map fun p => (p.1, p.2.1)
theorem tree_comp {ts : List (Int × (Int × List V))} {t : Nat} {σ : Store} (h : σ[t]? = some (.dict (ts.map (eD spot vT)))) (hl : ts.length ≤ 1000) (hn : (ts.map (·.1)).Nodup) :
    ∃ lv', compD (T.var 1) C.true (B.app (E.tup (L.cons (E.sub (E.var 1) (E.const (.int 1))) (L.cons (E.sub (E.sub (E.var 2) (E.var 1)) (E.const (.int 0))) L.nil)))) (some (t, .dict (ts.map (eD spot vT)))) ((ts.map (eD spot vT)).map (·.1)) σ.length [none, none, some (.loc t)] (σ ++ [.list []])
      = some (lv', σ ++ [.list ((treeCosts ts).map (eP V.int V.int))]) := by
  obtain ⟨lv', h1⟩ := compD_pure (mt := T.var 1) (mc := C.true) (m := (E.tup (L.cons (E.sub (E.var 1) (E.const (.int 1))) (L.cons (E.sub (E.sub (E.var 2) (E.var 1)) (E.const (.int 0))) L.nil)))) (src := some (t, .dict (ts.map (eD spot vT)))) (fun p : Int × (Int × List V) => spot p.1)
    (fun lv => ∃ a b, lv = [a, b, some (.loc t)]) (fun p => some (eP V.int V.int (p.1, p.2.1))) ts (vs := (ts.map (eD spot vT)).map (·.1)) (σ := σ) (lv := [none, none, some (.loc t)])
    (keys_map _ _ _) (by lia) (fun _ => srcOk_same (get_app h))
    (by
      rintro x hx lv ws ⟨a, b, rfl⟩
      have hs : subS (.loc t) (spot x.1) (σ ++ [.list ws]) = some (vT x.2) := by
        rw [subS_spot (get_app h), aGet_of_mem hn (b := x.2) hx]; rfl
      refine ⟨[a, some (spot x.1), some (.loc t)], rfl, ⟨_, _, rfl⟩, ?_⟩
      simp only [xx8, Mini.D.seq_nx, Mini.D.seq_ct, Mini.D.seq_rt, xx13, xx10, xx14, xx9, xx12, xx7, xx15, xx30, xx20, xx16, xx18, xx3, xx4, xx2, xx5, xx6, xx23, xx35, xx34, xx29, xx24, xx26, xx28, xx27, xx17, xx25, xx21, xx22, xx33, xx31, xx32, xx38, xx40, xx39, xx37, xx36, xx0, lvGet_0, lvGet_s, lvSet_0, lvSet_s, Option.map_some, capLV, List.map_cons, List.map_nil, Option.bind_none, Option.bind_some, Mini.F.den, lv0, List.length_cons, List.length_nil, if_true, reduceIte, Nat.reduceAdd, Nat.reduceLeDiff, Nat.reduceLT, List.getElem?_cons_zero, List.getElem?_cons_succ, Nat.zero_add, Int.reduceLT, Int.reduceLE, and_true, true_and, and_self, intRel, intOp, subS_t0, subS_t1, subS_t2, lenF, subI, get_end, eqS_int, eqS_spot, neS_int, ltS_int, decide_true, decide_false, Bool.not_true, Bool.not_false, KindOf.is, LIM, xx11, walkV, rangeF, Int.reduceEq, hs])
    ⟨_, _, rfl⟩
  exact ⟨lv', by rw [h1, List.filterMap_eq_map', treeCosts, List.map_map]; rfl⟩
theorem DistMap.get {L : List Ln} {r : Int} {cs : List (Int × Int)} (h : DistMap L r cs) (v c : Int) : aGet cs v = some c ↔ Dist L r v c := by
  constructor
  · intro hg; exact h.sound v c (aGet_mem hg)
  · intro hd
    obtain ⟨⟨a, b, k, hw, _⟩, _⟩ := id hd
    obtain ⟨c', hc⟩ := h.full v a b k hw
    rw [hd.uniq (h.sound _ _ hc)]
    exact aGet_of_mem h.nd hc
end Mini
end

section
namespace Mini
open PySem
noncomputable def dUB : SDen := (D.cons (D.ite (C.and (C.cmp inS (E.tup (L.cons (E.var 5) (L.cons (E.var 8) L.nil))) (E.var 7)) (C.cmp gtS (E.sub (E.var 7) (E.tup (L.cons (E.var 4) (L.cons (E.var 8) L.nil)))) (E.call maxF (L.cons (E.sub (E.var 7) (E.tup (L.cons (E.var 4) (L.cons (E.var 5) L.nil)))) (L.cons (E.sub (E.var 7) (E.tup (L.cons (E.var 5) (L.cons (E.var 8) L.nil)))) L.nil))))) (D.cons (D.ret (E.const (.bool false))) D.nil) D.nil) D.nil)
noncomputable def dUltra : SDen := (D.for (It.val (E.var 7)) (T.tup 2 (Ts.cons (T.var 4) (Ts.cons (T.var 5) Ts.nil))) (D.cons (D.for (It.val (E.call rangeF (L.cons (E.const (.int 1)) (L.cons (E.bin addS (E.var 2) (E.const (.int 1))) L.nil)))) (T.var 8) dUB) D.nil))
noncomputable def dDiag : SDen := (D.for (It.val (E.call rangeF (L.cons (E.const (.int 1)) (L.cons (E.bin addS (E.var 2) (E.const (.int 1))) L.nil)))) (T.var 11) (D.cons (D.assign (T.sub (E.var 9) (E.tup (L.cons (E.var 11) (L.cons (E.var 11) L.nil)))) (E.neg (E.const (.int 1)))) D.nil))
noncomputable def dCheck : SDen := (D.ite (C.or (C.cmp neS (E.var 7) (E.var 9)) (C.cmp neS (E.call dictF (L.cons (E.comp (It.val (E.var 12)) [none, none, none, some 12] (.list []) (T.var 1) C.true (B.app (E.tup (L.cons (E.var 1) (L.cons (E.call f__law_level (L.cons (E.sub (E.var 3) (E.var 1)) L.nil)) L.nil))))) L.nil)) (E.var 9))) (D.cons (D.ret (E.const (.bool false))) D.nil) D.nil)
noncomputable def dEnd : SDen := (D.cons (D.assign (T.tup 2 (Ts.cons (T.var 13) (Ts.cons (T.var 14) Ts.nil))) (E.tup (L.cons (E.call f__law_rows (L.cons (E.var 2) (L.cons (E.var 3) L.nil))) (L.cons (E.call f_spf_tree (L.cons (E.call f__law_links (L.cons (E.var 2) (L.cons (E.var 3) L.nil))) (L.cons (E.tup (L.cons (E.const (.int 1)) (L.cons (E.const (.int 1)) L.nil))) (L.cons E.dict0 L.nil)))) L.nil)))) (D.cons (D.assign (T.var 15) (E.call dictF (L.cons (E.comp (It.items (E.var 13)) [none, none, none] (.list []) (T.tup 2 (Ts.cons (T.var 1) (Ts.cons (T.var 2) Ts.nil))) C.true (B.app (E.tup (L.cons (E.var 1) (L.cons (E.bin addS (E.bin addS (E.bin (intOp mulI) (E.const (.int 25)) (E.sub (E.var 2) (E.const (.int 0)))) (E.bin (intOp mulI) (E.const (.int 5)) (E.sub (E.var 2) (E.const (.int 1))))) (E.sub (E.var 2) (E.const (.int 2)))) L.nil))))) L.nil))) (D.cons (D.ret (E.cmp eqS (E.call dictF (L.cons (E.comp (It.val (E.var 14)) [none, none, some 14] (.list []) (T.var 1) C.true (B.app (E.tup (L.cons (E.sub (E.var 1) (E.const (.int 1))) (L.cons (E.sub (E.sub (E.var 2) (E.var 1)) (E.const (.int 0))) L.nil))))) L.nil)) (E.var 15))) D.nil)))
noncomputable def dRest : SDen := (D.cons (D.assign (T.var 7) (E.call dictF (L.cons (E.comp (It.items (E.call f__law_costs (L.cons (E.var 2) (L.cons (E.var 3) L.nil)))) [none, none, none, none] (.list []) (T.tup 2 (Ts.cons (T.var 1) (Ts.cons (T.var 2) Ts.nil))) C.true (B.app (E.tup (L.cons (E.var 1) (L.cons (E.call f__law_level (L.cons (E.var 2) L.nil)) L.nil))))) L.nil))) (D.cons dUltra (D.cons (D.assign (T.tup 2 (Ts.cons (T.var 9) (Ts.cons (T.var 10) Ts.nil))) (E.call f__law_joined (L.cons (E.var 2) (L.cons (E.var 3) L.nil)))) (D.cons dDiag (D.cons (D.assign (T.var 12) (E.call f__law_costs (L.cons (E.var 2) (L.cons (E.var 10) L.nil)))) (D.cons dCheck dEnd))))))
noncomputable def dDraw5 : SDen := (D.cons (D.assign (T.var 6) (E.call f__law_draw (L.cons (E.var 1) (L.cons (E.const (.int 4)) L.nil)))) (D.cons (D.ite (C.cmp ltS (E.var 6) (E.const (.int 3))) (D.cons (D.expr (E.meth .list appendM (E.var 3) (L.cons (E.tup (L.cons (E.var 4) (L.cons (E.var 5) (L.cons (E.var 6) L.nil)))) L.nil))) D.nil) D.nil) D.nil))
noncomputable def dDrawIn : SDen := (D.for (It.val (E.call rangeF (L.cons (E.bin addS (E.var 4) (E.const (.int 1))) (L.cons (E.bin addS (E.var 2) (E.const (.int 1))) L.nil)))) (T.var 5) dDraw5)
noncomputable def dDraws : SDen := (D.for (It.val (E.call rangeF (L.cons (E.const (.int 1)) (L.cons (E.bin addS (E.var 2) (E.const (.int 1))) L.nil)))) (T.var 4) (D.cons dDrawIn D.nil))
theorem law_shape : d_law = (D.cons (D.assign (T.var 1) (E.list (L.cons (E.comp (It.val (E.slTo (E.var 0) (E.const (.int 11)))) [none, none, none] (.list []) (T.var 1) C.true (B.app (E.call intF (L.cons (E.var 1) L.nil)))) (L.cons (E.const (.int 0)) L.nil)))) (D.cons (D.swap [3, 2] (E.tup (L.cons (E.bin addS (E.const (.int 3)) (E.call f__law_draw (L.cons (E.var 1) (L.cons (E.const (.int 3)) L.nil)))) (L.cons (E.list L.nil) L.nil)))) (D.cons dDraws dRest))) := rfl
noncomputable abbrev lLV (a0 a1 a2 a3 a4 a5 a6 a7 a8 a9 a10 a11 a12 a13 a14 a15 : Option V) : LV := [a0, a1, a2, a3, a4, a5, a6, a7, a8, a9, a10, a11, a12, a13, a14, a15, none, none, none, none, none, none, none, none, none]
inductive UI (many : Int) (ll td : Nat) (a0 a1 a6 a9 a10 a11 a12 a13 a14 a15 : Option V) (σ : Store) (lv : LV) (σ' : Store) : Prop
  | mk (e : σ' = σ) (b4 b5 b8 : Option V) (hlv : lv = lLV a0 a1 (some (.int many)) (some (.loc ll)) b4 b5 a6 (some (.loc td)) b8 a9 a10 a11 a12 a13 a14 a15) : UI many ll td a0 a1 a6 a9 a10 a11 a12 a13 a14 a15 σ lv σ'
inductive UI2 (many u v : Int) (ll td : Nat) (a0 a1 a6 a9 a10 a11 a12 a13 a14 a15 : Option V) (σ : Store) (lv : LV) (σ' : Store) : Prop
  | mk (e : σ' = σ) (b8 : Option V) (hlv : lv = lLV a0 a1 (some (.int many)) (some (.loc ll)) (some (.int u)) (some (.int v)) a6 (some (.loc td)) b8 a9 a10 a11 a12 a13 a14 a15) : UI2 many u v ll td a0 a1 a6 a9 a10 a11 a12 a13 a14 a15 σ lv σ'
inductive DiP (many : Int) (ll m0 : Nat) (a0 a1 a4 a5 a6 a7 a8 a10 a12 a13 a14 a15 : Option V) (M : List ((Int × Int) × Int)) (σ : Store) (W : Int × Int → Prop) (lv : LV) (σ' : Store) : Prop
  | mk (k : Keep m0 σ σ') (b11 : Option V) (hlv : lv = lLV a0 a1 (some (.int many)) (some (.loc ll)) a4 a5 a6 a7 a8 (some (.loc m0)) a10 b11 a12 a13 a14 a15) (M' : List ((Int × Int) × Int)) (g : σ'[m0]? = some (.dict (M'.map (eD pr V.int)))) (w : MW many M M' (-1) W) : DiP many ll m0 a0 a1 a4 a5 a6 a7 a8 a10 a12 a13 a14 a15 M σ W lv σ'
section
variable {many : Int} {Ls : List Ln} (G : GoodL many Ls) {a0 a1 a4 a5 a6 a7 a8 a9 a10 a11 a12 a13 a14 a15 : Option V} {ll td : Nat} {σ : Store}
include G
theorem ultra_run {es : List ((Int × Int) × Int)} (h : σ[td]? = some (.dict (es.map (eD pr V.int)))) (T : ToldOk many Ls es) (hall : ∀ u v a b k, 1 ≤ u ∧ u ≤ many → Wk Ls u v a b k → ∃ z, aGet es (u, v) = some z) :
    Gives (dUltra (lLV a0 a1 (some (.int many)) (some (.loc ll)) a4 a5 a6 (some (.loc td)) a8 a9 a10 a11 a12 a13 a14 a15) σ) fun p => p.1 = .nx ∧ UI many ll td a0 a1 a6 a9 a10 a11 a12 a13 a14 a15 σ p.2.1 p.2.2 := by
  have hhi := G.hi
  have hlo := G.lo
  have h1m : (-1000000 : Int) < many + 1 := by lia
  have h2m : many + 1 < (1000000 : Int) := by lia
  unfold dUltra
  simp only [xx8, Mini.D.seq_nx, Mini.D.seq_ct, Mini.D.seq_rt, xx13, xx10, xx14, xx9, xx12, xx7, xx15, xx30, xx20, xx16, xx18, xx3, xx4, xx2, xx5, xx6, xx23, xx35, xx34, xx29, xx24, xx26, xx28, xx27, xx17, xx25, xx21, xx22, xx33, xx31, xx32, xx38, xx40, xx39, xx37, xx36, xx0, lvGet_0, lvGet_s, lvSet_0, lvSet_s, Option.map_some, capLV, List.map_cons, List.map_nil, Option.bind_none, Option.bind_some, Mini.F.den, lv0, List.length_cons, List.length_nil, if_true, reduceIte, Nat.reduceAdd, Nat.reduceLeDiff, Nat.reduceLT, List.getElem?_cons_zero, List.getElem?_cons_succ, Nat.zero_add, Int.reduceLT, Int.reduceLE, and_true, true_and, and_self, intRel, intOp, subS_t0, subS_t1, subS_t2, lenF, subI, get_end, eqS_int, eqS_spot, neS_int, ltS_int, decide_true, decide_false, Bool.not_true, Bool.not_false, KindOf.is, LIM, xx11, walkV, rangeF, Int.reduceEq, h]
  refine gives_for (fun e : (Int × Int) × Int => pr e.1) (fun dn lv σ' => UI many ll td a0 a1 a6 a9 a10 a11 a12 a13 a14 a15 σ lv σ') es (keys_map _ _ _) ?_ ?_ ?_ ?_
  · rintro dn lv σ' ⟨rfl, _⟩; exact srcOk_same h
  · exact ⟨rfl, _, _, _, rfl⟩
  · rintro dn ⟨⟨u, v⟩, x⟩ rest lv σ' e ⟨rfl, b4, b5, b8, rfl⟩
    have hx : aGet es (u, v) = some x := aGet_of_mem T.1 (by rw [e]; simp)
    have hux := (T.2 _ _).mp hx
    refine ⟨lLV a0 a1 (some (.int many)) (some (.loc ll)) (some (.int u)) (some (.int v)) a6 (some (.loc td)) b8 a9 a10 a11 a12 a13 a14 a15, σ', rfl, ?_⟩
    simp only [xx8, Mini.D.seq_nx, Mini.D.seq_ct, Mini.D.seq_rt, xx13, xx10, xx14, xx9, xx12, xx7, xx15, xx30, xx20, xx16, xx18, xx3, xx4, xx2, xx5, xx6, xx23, xx35, xx34, xx29, xx24, xx26, xx28, xx27, xx17, xx25, xx21, xx22, xx33, xx31, xx32, xx38, xx40, xx39, xx37, xx36, xx0, lvGet_0, lvGet_s, lvSet_0, lvSet_s, Option.map_some, capLV, List.map_cons, List.map_nil, Option.bind_none, Option.bind_some, Mini.F.den, lv0, List.length_cons, List.length_nil, if_true, reduceIte, Nat.reduceAdd, Nat.reduceLeDiff, Nat.reduceLT, List.getElem?_cons_zero, List.getElem?_cons_succ, Nat.zero_add, Int.reduceLT, Int.reduceLE, and_true, true_and, and_self, intRel, intOp, subS_t0, subS_t1, subS_t2, lenF, subI, get_end, eqS_int, eqS_spot, neS_int, ltS_int, decide_true, decide_false, Bool.not_true, Bool.not_false, KindOf.is, LIM, xx11, walkV, rangeF, Int.reduceEq, addS, h1m, h2m]
    refine seq_for V.int (fun dn lv σ'' => UI2 many u v ll td a0 a1 a6 a9 a10 a11 a12 a13 a14 a15 σ' lv σ'') (ids many) (rng_ids many) ?_ ?_ ?_ ?_
    · intro _ _ _ _; rfl
    · exact ⟨rfl, _, rfl⟩
    · rintro dn w rs lv σ'' e2 ⟨rfl, b8', rfl⟩
      refine ⟨lLV a0 a1 (some (.int many)) (some (.loc ll)) (some (.int u)) (some (.int v)) a6 (some (.loc td)) (some (.int w)) a9 a10 a11 a12 a13 a14 a15, σ'', rfl, ?_⟩
      have hin : inS (pr (v, w)) (.loc td) σ'' = some (aGet es (v, w)).isSome := inS_pr h
      unfold dUB
      cases hg : aGet es (v, w) with
      | none =>
        rw [hg] at hin
        simp only [Option.isSome_none] at hin
        simp only [xx8, Mini.D.seq_nx, Mini.D.seq_ct, Mini.D.seq_rt, xx13, xx10, xx14, xx9, xx12, xx7, xx15, xx30, xx20, xx16, xx18, xx3, xx4, xx2, xx5, xx6, xx23, xx35, xx34, xx29, xx24, xx26, xx28, xx27, xx17, xx25, xx21, xx22, xx33, xx31, xx32, xx38, xx40, xx39, xx37, xx36, xx0, lvGet_0, lvGet_s, lvSet_0, lvSet_s, Option.map_some, capLV, List.map_cons, List.map_nil, Option.bind_none, Option.bind_some, Mini.F.den, lv0, List.length_cons, List.length_nil, if_true, reduceIte, Nat.reduceAdd, Nat.reduceLeDiff, Nat.reduceLT, List.getElem?_cons_zero, List.getElem?_cons_succ, Nat.zero_add, Int.reduceLT, Int.reduceLE, and_true, true_and, and_self, intRel, intOp, subS_t0, subS_t1, subS_t2, lenF, subI, get_end, eqS_int, eqS_spot, neS_int, ltS_int, decide_true, decide_false, Bool.not_true, Bool.not_false, KindOf.is, LIM, xx11, walkV, rangeF, Int.reduceEq, hin]
        exact Gives.some ⟨rfl, _, rfl⟩
      | some y =>
        rw [hg] at hin
        simp only [Option.isSome_some] at hin
        have hvy := (T.2 _ _).mp hg
        obtain ⟨z, hz⟩ : ∃ z, aGet es (u, w) = some z := by
          obtain ⟨a, b, c, w1⟩ := hux.2.wk
          obtain ⟨a', b', c', w2⟩ := hvy.2.wk
          obtain ⟨z, hz⟩ := hall u w _ _ _ hux.1 (w1.trans w2)
          exact ⟨z, hz⟩
        have huz := (T.2 _ _).mp hz
        have hle := hux.2.ultra hvy.2 huz.2
        have s1 : subS (.loc td) (pr (u, v)) σ'' = some (.int x) := by rw [subS_pr h, hx]; rfl
        have s2 : subS (.loc td) (pr (v, w)) σ'' = some (.int y) := by rw [subS_pr h, hg]; rfl
        have s3 : subS (.loc td) (pr (u, w)) σ'' = some (.int z) := by rw [subS_pr h, hz]; rfl
        have hmx : maxF [.int x, .int y] σ'' = some (.int (if x < y then y else x), σ'') := rfl
        have hgt : gtS (.int z) (.int (if x < y then y else x)) σ'' = some false := by
          show some (decide ((if x < y then y else x) < z)) = some false
          rw [decide_eq_false]
          split <;> lia
        simp only [xx8, Mini.D.seq_nx, Mini.D.seq_ct, Mini.D.seq_rt, xx13, xx10, xx14, xx9, xx12, xx7, xx15, xx30, xx20, xx16, xx18, xx3, xx4, xx2, xx5, xx6, xx23, xx35, xx34, xx29, xx24, xx26, xx28, xx27, xx17, xx25, xx21, xx22, xx33, xx31, xx32, xx38, xx40, xx39, xx37, xx36, xx0, lvGet_0, lvGet_s, lvSet_0, lvSet_s, Option.map_some, capLV, List.map_cons, List.map_nil, Option.bind_none, Option.bind_some, Mini.F.den, lv0, List.length_cons, List.length_nil, if_true, reduceIte, Nat.reduceAdd, Nat.reduceLeDiff, Nat.reduceLT, List.getElem?_cons_zero, List.getElem?_cons_succ, Nat.zero_add, Int.reduceLT, Int.reduceLE, and_true, true_and, and_self, intRel, intOp, subS_t0, subS_t1, subS_t2, lenF, subI, get_end, eqS_int, eqS_spot, neS_int, ltS_int, decide_true, decide_false, Bool.not_true, Bool.not_false, KindOf.is, LIM, xx11, walkV, rangeF, Int.reduceEq, hin, s1, s2, s3, hmx, hgt]
        exact Gives.some ⟨rfl, _, rfl⟩
    · rintro lv σ'' ⟨rfl, b8', rfl⟩
      simp only [xx8, Mini.D.seq_nx, Mini.D.seq_ct, Mini.D.seq_rt, xx13, xx10, xx14, xx9, xx12, xx7, xx15, xx30, xx20, xx16, xx18, xx3, xx4, xx2, xx5, xx6, xx23, xx35, xx34, xx29, xx24, xx26, xx28, xx27, xx17, xx25, xx21, xx22, xx33, xx31, xx32, xx38, xx40, xx39, xx37, xx36, xx0, lvGet_0, lvGet_s, lvSet_0, lvSet_s, Option.map_some, capLV, List.map_cons, List.map_nil, Option.bind_none, Option.bind_some, Mini.F.den, lv0, List.length_cons, List.length_nil, if_true, reduceIte, Nat.reduceAdd, Nat.reduceLeDiff, Nat.reduceLT, List.getElem?_cons_zero, List.getElem?_cons_succ, Nat.zero_add, Int.reduceLT, Int.reduceLE, and_true, true_and, and_self, intRel, intOp, subS_t0, subS_t1, subS_t2, lenF, subI, get_end, eqS_int, eqS_spot, neS_int, ltS_int, decide_true, decide_false, Bool.not_true, Bool.not_false, KindOf.is, LIM, xx11, walkV, rangeF, Int.reduceEq]
      exact Gives.some ⟨rfl, _, _, _, rfl⟩
  · rintro lv σ' ⟨rfl, b4, b5, b8, rfl⟩
    exact ⟨rfl, rfl, _, _, _, rfl⟩
theorem diag_run {M : List ((Int × Int) × Int)} {m0 : Nat} (h : σ[m0]? = some (.dict (M.map (eD pr V.int)))) (hn : (M.map (·.1)).Nodup) (hr : ∀ q ∈ M.map (·.1), inR many q) :
    Gives (dDiag (lLV a0 a1 (some (.int many)) (some (.loc ll)) a4 a5 a6 a7 a8 (some (.loc m0)) a10 a11 a12 a13 a14 a15) σ) fun p => p.1 = .nx ∧ DiP many ll m0 a0 a1 a4 a5 a6 a7 a8 a10 a12 a13 a14 a15 M σ (fun q => q.1 = q.2 ∧ q.1 ∈ ids many) p.2.1 p.2.2 := by
  have hhi := G.hi
  have hlo := G.lo
  have h1m : (-1000000 : Int) < many + 1 := by grind
  have h2m : many + 1 < (1000000 : Int) := by grind
  unfold dDiag
  simp only [xx8, Mini.D.seq_nx, Mini.D.seq_ct, Mini.D.seq_rt, xx13, xx10, xx14, xx9, xx12, xx7, xx15, xx30, xx20, xx16, xx18, xx3, xx4, xx2, xx5, xx6, xx23, xx35, xx34, xx29, xx24, xx26, xx28, xx27, xx17, xx25, xx21, xx22, xx33, xx31, xx32, xx38, xx40, xx39, xx37, xx36, xx0, lvGet_0, lvGet_s, lvSet_0, lvSet_s, Option.map_some, capLV, List.map_cons, List.map_nil, Option.bind_none, Option.bind_some, Mini.F.den, lv0, List.length_cons, List.length_nil, if_true, reduceIte, Nat.reduceAdd, Nat.reduceLeDiff, Nat.reduceLT, List.getElem?_cons_zero, List.getElem?_cons_succ, Nat.zero_add, Int.reduceLT, Int.reduceLE, and_true, true_and, and_self, intRel, intOp, subS_t0, subS_t1, subS_t2, lenF, subI, get_end, eqS_int, eqS_spot, neS_int, ltS_int, decide_true, decide_false, Bool.not_true, Bool.not_false, KindOf.is, LIM, xx11, walkV, rangeF, Int.reduceEq, addS, h1m, h2m]
  refine gives_for V.int (fun dn lv σ' => DiP many ll m0 a0 a1 a4 a5 a6 a7 a8 a10 a12 a13 a14 a15 M σ (fun q => q.1 = q.2 ∧ q.1 ∈ dn) lv σ') (ids many) (rng_ids many) ?_ ?_ ?_ ?_
  · intro _ _ _ _; rfl
  · exact ⟨Keep.refl, _, rfl, M, h, hn, by simp, hr⟩
  · rintro dn x rs lv σ' e ⟨h1, b11, rfl, M', h2, h3⟩
    have hx := mem_ids.mp (show x ∈ ids many by rw [e]; simp)
    have s1 := storeItem_at beq_pr (k := (x, x)) (b := -1) h2 (key_pr _) (by have := h3.len hhi; grind)
    refine ⟨lLV a0 a1 (some (.int many)) (some (.loc ll)) a4 a5 a6 a7 a8 (some (.loc m0)) a10 (some (.int x)) a12 a13 a14 a15, σ', rfl, ?_⟩
    simp only [xx8, Mini.D.seq_nx, Mini.D.seq_ct, Mini.D.seq_rt, xx13, xx10, xx14, xx9, xx12, xx7, xx15, xx30, xx20, xx16, xx18, xx3, xx4, xx2, xx5, xx6, xx23, xx35, xx34, xx29, xx24, xx26, xx28, xx27, xx17, xx25, xx21, xx22, xx33, xx31, xx32, xx38, xx40, xx39, xx37, xx36, xx0, lvGet_0, lvGet_s, lvSet_0, lvSet_s, Option.map_some, capLV, List.map_cons, List.map_nil, Option.bind_none, Option.bind_some, Mini.F.den, lv0, List.length_cons, List.length_nil, if_true, reduceIte, Nat.reduceAdd, Nat.reduceLeDiff, Nat.reduceLT, List.getElem?_cons_zero, List.getElem?_cons_succ, Nat.zero_add, Int.reduceLT, Int.reduceLE, and_true, true_and, and_self, intRel, intOp, subS_t0, subS_t1, subS_t2, lenF, subI, get_end, eqS_int, eqS_spot, neS_int, ltS_int, decide_true, decide_false, Bool.not_true, Bool.not_false, KindOf.is, LIM, xx11, walkV, rangeF, Int.reduceEq, s1, Int.reduceNeg]
    refine Gives.some ⟨h1.trans Keep.set, _, rfl, _, get_set_eq (lt_of_get h2), (h3.set (q := (x, x)) ⟨hx, hx⟩).congr (fun q => ?_)⟩
    obtain ⟨q1, q2⟩ := q
    simp only [Prod.mk.injEq, List.mem_append, List.mem_singleton]
    constructor
    · rintro (⟨h, h'⟩ | ⟨h, h'⟩)
      · exact ⟨h, Or.inl h'⟩
      · exact ⟨by rw [h, h'], Or.inr h⟩
    · rintro ⟨h, h' | h'⟩
      · exact Or.inl ⟨h, h'⟩
      · exact Or.inr ⟨h', by rw [← h]; exact h'⟩
  · rintro lv σ' ⟨h1, b11, rfl, M', h2, h3⟩
    exact ⟨rfl, h1, _, rfl, M', h2, h3⟩
end
end Mini
end

section
namespace Mini
open PySem
theorem ToldOk.full {many : Int} {L : List Ln} (G : GoodL many L) {es : List ((Int × Int) × Int)} (h1 : (es.map (·.1)).Nodup) (h3 : ∀ u v a b k, 1 ≤ u ∧ u ≤ many → Wk L u v a b k → ∃ c, ((u, v), c) ∈ es) :
    ∀ u v a b k, 1 ≤ u ∧ u ≤ many → Wk L u v a b k → ∃ z, aGet (told es) (u, v) = some z := by
  intro u v a b k hu hw
  obtain ⟨c, hc⟩ := h3 u v a b k hu hw
  exact ⟨lev c, aGet_of_mem (by rw [told_keys]; exact h1) (List.mem_map.mpr ⟨_, hc, rfl⟩)⟩
theorem ToldOk.same {many : Int} {L C : List Ln} (h : ∀ u v x, Lv C u v x ↔ Lv L u v x) {es : List ((Int × Int) × Int)} (T : ToldOk many C es) : ToldOk many L es :=
  ⟨T.1, fun q x => by rw [T.2, h]⟩
section
variable {many : Int} {Ls : List Ln} (G : GoodL many Ls)
include G
theorem end_run {a0 a1 a4 a5 a6 a7 a8 a9 a10 a11 a12 a13 a14 a15 : Option V} {ll : Nat} {σ : Store} (hl : σ[ll]? = some (.list (Ls.map eL))) :
    Gives (dEnd (lLV a0 a1 (some (.int many)) (some (.loc ll)) a4 a5 a6 a7 a8 a9 a10 a11 a12 a13 a14 a15) σ) fun p => p.1 = .rt (.bool true) := by
  have hhi := G.hi
  have hlo := G.lo
  obtain ⟨⟨v1, σ1⟩, h1, t1, e1, _, x1, fs, r1, r2, r3⟩ := rows_run G hl
  simp only at e1 x1 r1; subst e1
  obtain ⟨⟨v2, σ2⟩, h2, dk, e2, x2, l2, k2⟩ := law_links_run G (x1.get hl)
  simp only at e2 x2 l2 k2; subst e2
  obtain ⟨⟨v3, σ3⟩, h3, t3, e3, l3, x3, ts, k3, k4⟩ := spf_run G (r := 1) (by lia) (k2.ext (Ext.rfl.app [MObj.dict []])) (get_end (σ := σ2) (o := .dict []))
  simp only at e3 x3 k3; subst e3
  have r1' : σ3[t1]? = some (.dict (fs.map (eD V.int vR))) := x3.get (get_app (x2.get r1))
  obtain ⟨lv4, h4⟩ := wanted_comp r1' (by lia)
  have hwn : ((rowCosts fs).map (·.1)).Nodup := r2.nd
  have hd1 := dictF_run beq_int key_int (vf := V.int) (l := σ3.length) (xs := rowCosts fs) (σ := σ3 ++ [.list ((rowCosts fs).map (eP V.int V.int))]) get_end hwn (by rw [rowCosts, List.length_map]; lia)
  generalize hσ4 : σ3 ++ [MObj.list ((rowCosts fs).map (eP V.int V.int))] = σ4 at h4 hd1
  generalize hσ5 : σ4 ++ [MObj.dict ((rowCosts fs).map (eD V.int V.int))] = σ5 at hd1
  have x5 : Ext σ3 σ5 := by rw [← hσ5, ← hσ4]; exact (Ext.rfl.app _).app _
  have hw5 : σ5[σ4.length]? = some (.dict ((rowCosts fs).map (eD V.int V.int))) := by rw [← hσ5]; exact get_end
  have htn : (ts.map (·.1)).Nodup := by have := k4.nd; rw [List.map_map] at this; exact this
  have htl : ts.length ≤ 5 := by
    have := nodup_len htn (m := ids many) (fun x hx => by
      obtain ⟨p, hp, rfl⟩ := List.mem_map.mp hx
      obtain ⟨⟨a, b, k, hw, _⟩, _⟩ := k4.sound p.1 p.2.1 (List.mem_map.mpr ⟨p, hp, rfl⟩)
      exact mem_ids.mpr (hw.rng G (by lia)))
    rw [ids_len, List.length_map] at this; lia
  obtain ⟨lv6, h6⟩ := tree_comp (x5.get k3) (by lia) htn
  have hd2 := dictF_run beq_int key_int (vf := V.int) (l := σ5.length) (xs := treeCosts ts) (σ := σ5 ++ [.list ((treeCosts ts).map (eP V.int V.int))]) get_end k4.nd (by rw [treeCosts, List.length_map]; lia)
  have heq : eqS (.loc (σ5 ++ [MObj.list ((treeCosts ts).map (eP V.int V.int))]).length) (.loc σ4.length) (σ5 ++ [.list ((treeCosts ts).map (eP V.int V.int))] ++ [.dict ((treeCosts ts).map (eD V.int V.int))]) = some true :=
    eq_dicts beq_int (es := treeCosts ts) (fs := rowCosts fs) get_end (get_app (get_app hw5)) k4.nd hwn (fun q x => (k4.get q x).trans (r2.get q x).symm)
  unfold dEnd
  simp only [xx8, Mini.D.seq_nx, Mini.D.seq_ct, Mini.D.seq_rt, xx13, xx10, xx14, xx9, xx12, xx7, xx15, xx30, xx20, xx16, xx18, xx3, xx4, xx2, xx5, xx6, xx23, xx35, xx34, xx29, xx24, xx26, xx28, xx27, xx17, xx25, xx21, xx22, xx33, xx31, xx32, xx38, xx40, xx39, xx37, xx36, xx0, lvGet_0, lvGet_s, lvSet_0, lvSet_s, Option.map_some, capLV, List.map_cons, List.map_nil, Option.bind_none, Option.bind_some, Mini.F.den, lv0, List.length_cons, List.length_nil, if_true, reduceIte, Nat.reduceAdd, Nat.reduceLeDiff, Nat.reduceLT, List.getElem?_cons_zero, List.getElem?_cons_succ, Nat.zero_add, Int.reduceLT, Int.reduceLE, and_true, true_and, and_self, intRel, intOp, subS_t0, subS_t1, subS_t2, lenF, subI, get_end, eqS_int, eqS_spot, neS_int, ltS_int, decide_true, decide_false, Bool.not_true, Bool.not_false, KindOf.is, LIM, xx11, walkV, rangeF, Int.reduceEq, h1, h2, h3, r1', xx19, h4, hd1, x5.get k3, h6, hd2, heq]
  exact Gives.some rfl
theorem rest_run (h10 : Ls.length ≤ 10) {a0 a1 a4 a5 a6 a7 a8 a9 a10 a11 a12 a13 a14 a15 : Option V} {ll : Nat} {σ : Store} (hl : σ[ll]? = some (.list (Ls.map eL))) :
    Gives (dRest (lLV a0 a1 (some (.int many)) (some (.loc ll)) a4 a5 a6 a7 a8 a9 a10 a11 a12 a13 a14 a15) σ) fun p => p.1 = .rt (.bool true) := by
  have hhi := G.hi
  have hlo := G.lo

  obtain ⟨⟨v1, σ1⟩, h1, t1, e1, _, x1, es, r1, r2, r3, r4, r5⟩ := costs_run G hl
  simp only at e1 x1 r1; subst e1
  obtain ⟨lv2, σ2, h2, x2, r6⟩ := items_comp r1 (by lia)
  have T := told_ok G r2 r3 r4
  have hd1 := dictF_run beq_pr key_pr (vf := V.int) (l := σ1.length) (xs := told es) r6 T.1 (by rw [told, List.length_map]; lia)
  generalize hσ3 : σ2 ++ [MObj.dict ((told es).map (eD pr V.int))] = σ3 at hd1
  have htd : σ3[σ2.length]? = some (.dict ((told es).map (eD pr V.int))) := by rw [← hσ3]; exact get_end
  have x3 : Ext σ σ3 := by rw [← hσ3]; exact (x1.trans x2).app _
  obtain ⟨⟨f3, lv3, σ3'⟩, h3, e3, e4, b4, b5, b8, e5⟩ := ultra_run G (a0 := a0) (a1 := a1) (a4 := a4) (a5 := a5) (a6 := a6) (a8 := a8) (a9 := a9) (a10 := a10) (a11 := a11) (a12 := a12) (a13 := a13) (a14 := a14) (a15 := a15) (ll := ll) htd T (ToldOk.full G r2 r4)
  simp only at e3 e4 e5; subst e3 e4 e5

  obtain ⟨⟨v5, σ5⟩, h5, m0, c0, M, Cs, e6, l6, x5, q1, q2, GC, q3, q4, q5⟩ := law_joined_run G h10 (x3.get hl)
  simp only at e6 x5 q1 q2; subst e6
  have hMr : ∀ q ∈ M.map (·.1), inR many q := by
    intro q hq
    obtain ⟨x, hx⟩ := Option.isSome_iff_exists.mp (aGet_isSome.mpr hq)
    obtain ⟨u, v⟩ := q
    have := (q5 u v x).mp hx
    exact ⟨this.1, this.2.1⟩
  obtain ⟨⟨f6, lv6, σ6⟩, h6, e7, K6, b11, e8, M', q6, q7⟩ := diag_run G (a0 := a0) (a1 := a1) (a4 := b4) (a5 := b5) (a6 := a6) (a7 := some (.loc σ2.length)) (a8 := b8) (a10 := some (.loc c0)) (a11 := a11) (a12 := a12) (a13 := a13) (a14 := a14) (a15 := a15) (ll := ll) q1 q3 hMr
  simp only at e7 K6 e8 q6; subst e7 e8
  have D : ToldOk many Ls M' := by
    refine ⟨q7.nd, fun q x => ?_⟩
    obtain ⟨u, v⟩ := q
    rw [q7.get]
    simp only
    constructor
    · rintro (⟨⟨rfl, h⟩, rfl⟩ | ⟨h, hx⟩)
      · exact ⟨mem_ids.mp h, Or.inl ⟨rfl, rfl⟩⟩
      · have := (q5 u v x).mp hx; exact ⟨this.1, this.2.2.2⟩
    · rintro ⟨hu, hx⟩
      by_cases huv : u = v
      · subst huv
        left
        have := Lv.uniq hx (Or.inl ⟨rfl, rfl⟩)
        exact ⟨⟨rfl, mem_ids.mpr hu⟩, this⟩
      · right
        refine ⟨fun h => huv h.1, (q5 u v x).mpr ⟨hu, ?_, huv, hx⟩⟩
        obtain ⟨a, b, k, hw⟩ := hx.wk
        exact hw.rng G hu
  have hcm : c0 ≠ m0 := by intro e; rw [e, q1] at q2; cases q2
  have hlm : σ2.length < σ3'.length := lt_of_get htd
  have hlt : ll < σ.length := lt_of_get hl
  have hxl := x3.len
  have q2' := K6.2 _ _ hcm q2
  have htd6 := K6.2 _ _ (by lia) (x5.get htd)
  have hl6 := K6.2 _ _ (by lia) (x5.get (x3.get hl))

  obtain ⟨⟨v7, σ7⟩, h7, t7, e9, _, x7, fs, s1, s2, s3, s4, s5⟩ := costs_run GC q2'
  simp only at e9 x7 s1; subst e9
  have TC := (told_ok GC s2 s3 s4).same q4
  obtain ⟨lv8, σ8, h8, x8, s6⟩ := keys_comp s1 (by lia) s2
  have hd2 := dictF_run beq_pr key_pr (vf := V.int) (l := σ7.length) (xs := told fs) s6 TC.1 (by rw [told, List.length_map]; lia)
  have hn1 : neS (.loc σ2.length) (.loc m0) σ7 = some false := by
    rw [neS, eq_dicts beq_pr (x7.get htd6) (x7.get q6) T.1 D.1 (fun q x => by rw [T.2, D.2])]; rfl
  have hn2 : neS (.loc σ8.length) (.loc m0) (σ8 ++ [.dict ((told fs).map (eD pr V.int))]) = some false := by
    rw [neS, eq_dicts beq_pr (es := told fs) (fs := M') get_end (get_app (x8.get (x7.get q6))) TC.1 D.1 (fun q x => by rw [TC.2, D.2])]; rfl
  obtain ⟨⟨f9, lv9, σ9⟩, h9, e10⟩ := end_run G (a0 := a0) (a1 := a1) (a4 := b4) (a5 := b5) (a6 := a6) (a7 := some (.loc σ2.length)) (a8 := b8) (a9 := some (.loc m0)) (a10 := some (.loc c0)) (a11 := b11) (a12 := some (.loc t7)) (a13 := a13) (a14 := a14) (a15 := a15) (ll := ll) (σ := σ8 ++ [.dict ((told fs).map (eD pr V.int))]) (get_app (x8.get (x7.get hl6)))
  simp only at e10; subst e10
  unfold dRest
  simp only [xx8, Mini.D.seq_nx, Mini.D.seq_ct, Mini.D.seq_rt, xx13, xx10, xx14, xx9, xx12, xx7, xx15, xx30, xx20, xx16, xx18, xx3, xx4, xx2, xx5, xx6, xx23, xx35, xx34, xx29, xx24, xx26, xx28, xx27, xx17, xx25, xx21, xx22, xx33, xx31, xx32, xx38, xx40, xx39, xx37, xx36, xx0, lvGet_0, lvGet_s, lvSet_0, lvSet_s, Option.map_some, capLV, List.map_cons, List.map_nil, Option.bind_none, Option.bind_some, Mini.F.den, lv0, List.length_cons, List.length_nil, if_true, reduceIte, Nat.reduceAdd, Nat.reduceLeDiff, Nat.reduceLT, List.getElem?_cons_zero, List.getElem?_cons_succ, Nat.zero_add, Int.reduceLT, Int.reduceLE, and_true, true_and, and_self, intRel, intOp, subS_t0, subS_t1, subS_t2, lenF, subI, get_end, eqS_int, eqS_spot, neS_int, ltS_int, decide_true, decide_false, Bool.not_true, Bool.not_false, KindOf.is, LIM, xx11, walkV, rangeF, Int.reduceEq, h1, r1, xx19, h2, hd1, h3, h5, h6, h7]
  unfold dCheck
  simp only [xx8, Mini.D.seq_nx, Mini.D.seq_ct, Mini.D.seq_rt, xx13, xx10, xx14, xx9, xx12, xx7, xx15, xx30, xx20, xx16, xx18, xx3, xx4, xx2, xx5, xx6, xx23, xx35, xx34, xx29, xx24, xx26, xx28, xx27, xx17, xx25, xx21, xx22, xx33, xx31, xx32, xx38, xx40, xx39, xx37, xx36, xx0, lvGet_0, lvGet_s, lvSet_0, lvSet_s, Option.map_some, capLV, List.map_cons, List.map_nil, Option.bind_none, Option.bind_some, Mini.F.den, lv0, List.length_cons, List.length_nil, if_true, reduceIte, Nat.reduceAdd, Nat.reduceLeDiff, Nat.reduceLT, List.getElem?_cons_zero, List.getElem?_cons_succ, Nat.zero_add, Int.reduceLT, Int.reduceLE, and_true, true_and, and_self, intRel, intOp, subS_t0, subS_t1, subS_t2, lenF, subI, get_end, eqS_int, eqS_spot, neS_int, ltS_int, decide_true, decide_false, Bool.not_true, Bool.not_false, KindOf.is, LIM, xx11, walkV, rangeF, Int.reduceEq, hn1, s1, xx19, h8, hd2, hn2, h9]
  exact Gives.some rfl
end
end Mini
end

section
namespace Mini
open PySem
noncomputable def keyL (l : Ln) : Int × Int := (l.1, l.2.1)
structure LI (many : Int) (L : List Ln) : Prop where
  nd : (L.map keyL).Nodup
  ok : ∀ l ∈ L, 1 ≤ l.1 ∧ l.1 < l.2.1 ∧ l.2.1 ≤ many ∧ 0 ≤ l.2.2 ∧ l.2.2 ≤ 2
theorem LI.len {many : Int} {L : List Ln} (h : LI many L) (h5 : many ≤ 5) : L.length ≤ 10 := by
  have : (L.map keyL).length ≤ ((ids 5).flatMap fun a => ((ids 5).filter fun b => decide (a < b)).map fun b => (a, b)).length := nodup_len h.nd (fun q hq => by
    obtain ⟨l, hl, rfl⟩ := List.mem_map.mp hq
    have := h.ok l hl
    rw [List.mem_flatMap]
    exact ⟨l.1, mem_ids.mpr (by omega), List.mem_map.mpr ⟨l.2.1, List.mem_filter.mpr ⟨mem_ids.mpr (by omega), decide_eq_true this.2.1⟩, rfl⟩⟩)
  have e : ((ids 5).flatMap fun a => ((ids 5).filter fun b => decide (a < b)).map fun b => (a, b)).length = 10 := by decide
  rw [List.length_map] at this
  omega
theorem LI.add {many : Int} {L : List Ln} (h : LI many L) {l : Ln} (hl : 1 ≤ l.1 ∧ l.1 < l.2.1 ∧ l.2.1 ≤ many ∧ 0 ≤ l.2.2 ∧ l.2.2 ≤ 2) (hn : ∀ q ∈ L, keyL q ≠ keyL l) : LI many (L ++ [l]) := by
  refine ⟨?_, fun q hq => ?_⟩
  · rw [List.map_append, List.nodup_append]
    refine ⟨h.nd, by simp, fun a ha b hb e => ?_⟩
    obtain ⟨q, hq, rfl⟩ := List.mem_map.mp ha
    simp at hb
    exact hn q hq (by rw [e, hb])
  · rcases List.mem_append.mp hq with hq | hq
    · exact h.ok q hq
    · rw [List.mem_singleton] at hq; subst hq; exact hl
structure DS (ns : List Int) (many : Int) (σ : Store) (i : Int) (L : List Ln) : Prop where
  q : σ[1]? = some (.list (ns.map .int))
  p : σ[2]? = some (.list [.loc 1, .int i])
  l : σ[3]? = some (.list (L.map eL))
  i0 : 0 ≤ i
  li : LI many L
noncomputable abbrev drLV (ns0 : List Int) (many : Int) (b4 b5 b6 : Option V) : LV := lLV (some (.scr ns0)) (some (.loc 2)) (some (.int many)) (some (.loc 3)) b4 b5 b6 none none none none none none none none none
inductive D5P (ns ns0 : List Int) (many x o i : Int) (L : List Ln) (p : F × LV × Store) : Prop
  | mk (e : p.1 = .nx) (b6' : Option V) (hlv : p.2.1 = drLV ns0 many (some (.int x)) (some (.int o)) b6') (L' : List Ln) (S : DS ns many p.2.2 (i + 1) L') (h : ∀ l ∈ L', l ∈ L ∨ keyL l = (x, o)) : D5P ns ns0 many x o i L p
inductive DrI1 (ns ns0 : List Int) (many : Int) (dn : List Int) (lv : LV) (σ' : Store) : Prop
  | mk (c4 c5 c6 : Option V) (hlv : lv = drLV ns0 many c4 c5 c6) (L : List Ln) (i' : Int) (S : DS ns many σ' i' L) (b : i' ≤ 1 + 10 * dn.length) (h : ∀ l ∈ L, l.1 ∈ dn) : DrI1 ns ns0 many dn lv σ'
inductive DrI2 (ns ns0 : List Int) (many x i' : Int) (dn : List Int) (dm : List Nat) (lv : LV) (σ'' : Store) : Prop
  | mk (c5 c6 : Option V) (hlv : lv = drLV ns0 many (some (.int x)) c5 c6) (L : List Ln) (i'' : Int) (S : DS ns many σ'' i'' L) (b : i'' ≤ i' + dm.length) (h : ∀ l ∈ L, l.1 ∈ dn ∨ (l.1 = x ∧ ∃ j ∈ dm, l.2.1 = x + 1 + (j : Nat))) : DrI2 ns ns0 many x i' dn dm lv σ''
inductive DrP (ns ns0 : List Int) (many : Int) (p : F × LV × Store) : Prop
  | mk (e : p.1 = .nx) (c4 c5 c6 : Option V) (hlv : p.2.1 = drLV ns0 many c4 c5 c6) (L : List Ln) (i' : Int) (S : DS ns many p.2.2 i' L) : DrP ns ns0 many p
section
variable {ns ns0 : List Int} {many : Int} (h3 : 3 ≤ many) (h5 : many ≤ 5) {b4 b5 b6 : Option V}
include h3 h5
theorem draw5_run {σ : Store} {i x o : Int} {L : List Ln} (S : DS ns many σ i L) (hi : i ≤ 500) (hx : 1 ≤ x ∧ x < o ∧ o ≤ many) (hn : ∀ q ∈ L, keyL q ≠ (x, o)) :
    Gives (dDraw5 (drLV ns0 many (some (.int x)) (some (.int o)) b6) σ) (D5P ns ns0 many x o i L) := by
  obtain ⟨v, v1, v2, hd⟩ := draw_run (many := 4) S.p S.q S.i0 (by grind) (by grind) (by grind)
  generalize hσ1 : σ.set 2 (.list [.loc 1, .int (i + 1)]) = σ1 at hd
  have gq : σ1[1]? = some (.list (ns.map .int)) := by rw [← hσ1, get_set_ne (by grind)]; exact S.q
  have gp : σ1[2]? = some (.list [.loc 1, .int (i + 1)]) := by rw [← hσ1, get_set_eq (lt_of_get S.p)]
  have gl : σ1[3]? = some (.list (L.map eL)) := by rw [← hσ1, get_set_ne (by grind)]; exact S.l
  unfold dDraw5
  by_cases hc : v < 3
  · have hap := appendM_at (v := eL (x, o, v)) gl (by rw [List.length_map]; have := S.li.len h5; grind)
    have hap2 : appendM 3 [.tup [.int x, .int o, .int v]] σ1 = some (.none, σ1.set 3 (.list ((L ++ [(x, o, v)]).map eL))) := by
      rw [show (V.tup [.int x, .int o, .int v]) = eL (x, o, v) from rfl, hap]; simp
    simp only [xx8, Mini.D.seq_nx, Mini.D.seq_ct, Mini.D.seq_rt, xx13, xx10, xx14, xx9, xx12, xx7, xx15, xx30, xx20, xx16, xx18, xx3, xx4, xx2, xx5, xx6, xx23, xx35, xx34, xx29, xx24, xx26, xx28, xx27, xx17, xx25, xx21, xx22, xx33, xx31, xx32, xx38, xx40, xx39, xx37, xx36, xx0, lvGet_0, lvGet_s, lvSet_0, lvSet_s, Option.map_some, capLV, List.map_cons, List.map_nil, Option.bind_none, Option.bind_some, Mini.F.den, lv0, List.length_cons, List.length_nil, if_true, reduceIte, Nat.reduceAdd, Nat.reduceLeDiff, Nat.reduceLT, List.getElem?_cons_zero, List.getElem?_cons_succ, Nat.zero_add, Int.reduceLT, Int.reduceLE, and_true, true_and, and_self, intRel, intOp, subS_t0, subS_t1, subS_t2, lenF, subI, get_end, eqS_int, eqS_spot, neS_int, ltS_int, decide_true, decide_false, Bool.not_true, Bool.not_false, KindOf.is, LIM, xx11, walkV, rangeF, Int.reduceEq, hd, hc, gl, hap2]
    refine Gives.some ⟨rfl, _, rfl, L ++ [(x, o, v)], ⟨?_, ?_, get_set_eq (lt_of_get gl), by have := S.i0; grind, S.li.add (by simp only; grind) hn⟩, fun l hl => ?_⟩
    · rw [get_set_ne (by grind)]; exact gq
    · rw [get_set_ne (by grind)]; exact gp
    · rcases List.mem_append.mp hl with hl | hl
      · exact Or.inl hl
      · rw [List.mem_singleton] at hl; subst hl; exact Or.inr rfl
  · simp only [xx8, Mini.D.seq_nx, Mini.D.seq_ct, Mini.D.seq_rt, xx13, xx10, xx14, xx9, xx12, xx7, xx15, xx30, xx20, xx16, xx18, xx3, xx4, xx2, xx5, xx6, xx23, xx35, xx34, xx29, xx24, xx26, xx28, xx27, xx17, xx25, xx21, xx22, xx33, xx31, xx32, xx38, xx40, xx39, xx37, xx36, xx0, lvGet_0, lvGet_s, lvSet_0, lvSet_s, Option.map_some, capLV, List.map_cons, List.map_nil, Option.bind_none, Option.bind_some, Mini.F.den, lv0, List.length_cons, List.length_nil, if_true, reduceIte, Nat.reduceAdd, Nat.reduceLeDiff, Nat.reduceLT, List.getElem?_cons_zero, List.getElem?_cons_succ, Nat.zero_add, Int.reduceLT, Int.reduceLE, and_true, true_and, and_self, intRel, intOp, subS_t0, subS_t1, subS_t2, lenF, subI, get_end, eqS_int, eqS_spot, neS_int, ltS_int, decide_true, decide_false, Bool.not_true, Bool.not_false, KindOf.is, LIM, xx11, walkV, rangeF, Int.reduceEq, hd, hc]
    exact Gives.some ⟨rfl, _, rfl, L, ⟨gq, gp, gl, by have := S.i0; grind, S.li⟩, fun l hl => Or.inl hl⟩
theorem draws_run {σ : Store} {i : Int} (S : DS ns many σ i []) (hi : i ≤ 1) :
    Gives (dDraws (drLV ns0 many b4 b5 b6) σ) (DrP ns ns0 many) := by
  have h1m : (-1000000 : Int) < many + 1 := by lia
  have h2m : many + 1 < (1000000 : Int) := by lia
  unfold dDraws
  simp only [xx8, Mini.D.seq_nx, Mini.D.seq_ct, Mini.D.seq_rt, xx13, xx10, xx14, xx9, xx12, xx7, xx15, xx30, xx20, xx16, xx18, xx3, xx4, xx2, xx5, xx6, xx23, xx35, xx34, xx29, xx24, xx26, xx28, xx27, xx17, xx25, xx21, xx22, xx33, xx31, xx32, xx38, xx40, xx39, xx37, xx36, xx0, lvGet_0, lvGet_s, lvSet_0, lvSet_s, Option.map_some, capLV, List.map_cons, List.map_nil, Option.bind_none, Option.bind_some, Mini.F.den, lv0, List.length_cons, List.length_nil, if_true, reduceIte, Nat.reduceAdd, Nat.reduceLeDiff, Nat.reduceLT, List.getElem?_cons_zero, List.getElem?_cons_succ, Nat.zero_add, Int.reduceLT, Int.reduceLE, and_true, true_and, and_self, intRel, intOp, subS_t0, subS_t1, subS_t2, lenF, subI, get_end, eqS_int, eqS_spot, neS_int, ltS_int, decide_true, decide_false, Bool.not_true, Bool.not_false, KindOf.is, LIM, xx11, walkV, rangeF, Int.reduceEq, addS, h1m, h2m]
  refine gives_for V.int (DrI1 ns ns0 many) (ids many) (rng_ids many) ?_ ?_ ?_ ?_
  · intro _ _ _ _; rfl
  · exact ⟨_, _, _, rfl, [], i, S, by simpa using hi, by simp⟩
  · rintro dn x rest lv σ' e ⟨c4, c5, c6, rfl, L, i', S', hi', hL⟩
    have hx := mem_ids.mp (show x ∈ ids many by rw [e]; simp)
    have hxd : x ∉ dn := by
      have hmn := ids_nodup many
      rw [e] at hmn
      intro hx
      exact (List.nodup_append.mp hmn).2.2 x hx x List.mem_cons_self rfl
    have hdl : dn.length ≤ 5 := by
      have := ids_len many
      rw [e] at this; simp at this; lia
    have k1 : (-1000000 : Int) < x + 1 := by lia
    have k2 : x + 1 < (1000000 : Int) := by lia
    refine ⟨drLV ns0 many (some (.int x)) c5 c6, σ', rfl, ?_⟩
    unfold dDrawIn
    simp only [xx8, Mini.D.seq_nx, Mini.D.seq_ct, Mini.D.seq_rt, xx13, xx10, xx14, xx9, xx12, xx7, xx15, xx30, xx20, xx16, xx18, xx3, xx4, xx2, xx5, xx6, xx23, xx35, xx34, xx29, xx24, xx26, xx28, xx27, xx17, xx25, xx21, xx22, xx33, xx31, xx32, xx38, xx40, xx39, xx37, xx36, xx0, lvGet_0, lvGet_s, lvSet_0, lvSet_s, Option.map_some, capLV, List.map_cons, List.map_nil, Option.bind_none, Option.bind_some, Mini.F.den, lv0, List.length_cons, List.length_nil, if_true, reduceIte, Nat.reduceAdd, Nat.reduceLeDiff, Nat.reduceLT, List.getElem?_cons_zero, List.getElem?_cons_succ, Nat.zero_add, Int.reduceLT, Int.reduceLE, and_true, true_and, and_self, intRel, intOp, subS_t0, subS_t1, subS_t2, lenF, subI, get_end, eqS_int, eqS_spot, neS_int, ltS_int, decide_true, decide_false, Bool.not_true, Bool.not_false, KindOf.is, LIM, xx11, walkV, rangeF, Int.reduceEq, addS, h1m, h2m, k1, k2]
    have hrg : rngL (x + 1) (many + 1 - (x + 1)).toNat = (List.range (many - x).toNat).map fun i : Nat => V.int (x + 1 + i) := by
      rw [rngL_eq, show many + 1 - (x + 1) = many - x by lia]
    refine seq_for (fun i : Nat => V.int (x + 1 + i)) (DrI2 ns ns0 many x i' dn) (List.range (many - x).toNat) hrg ?_ ?_ ?_ ?_
    · intro _ _ _ _; rfl
    · exact ⟨_, _, rfl, L, i', S', by simp, fun l hl => Or.inl (hL l hl)⟩
    · rintro dm j rs lv σ'' e2 ⟨c5', c6', rfl, L2, i'', S2, hi2, hL2⟩
      have hj : j < (many - x).toNat := List.mem_range.mp (by rw [e2]; simp)
      have hjd : j ∉ dm := by
        have hmn := List.nodup_range (n := (many - x).toNat)
        rw [e2] at hmn
        intro hx
        exact (List.nodup_append.mp hmn).2.2 j hx j List.mem_cons_self rfl
      have hml : dm.length ≤ 5 := by
        have := List.length_range (n := (many - x).toNat)
        rw [e2] at this; simp at this; lia
      obtain ⟨⟨f, lv3, σ3⟩, m1, m2, b6', m3, L3, m4, m5⟩ := draw5_run h3 h5 (ns0 := ns0) (b6 := c6') (x := x) (o := x + 1 + (j : Nat)) S2 (by lia) (by lia) (fun q hq hk => by
        simp only [keyL, Prod.mk.injEq] at hk
        rcases hL2 q hq with h | ⟨h, j', hj', h'⟩
        · exact hxd (hk.1 ▸ h)
        · have : j' = j := by lia
          exact hjd (this ▸ hj'))
      simp only at m2 m3 m4; subst m2 m3
      refine ⟨drLV ns0 many (some (.int x)) (some (.int (x + 1 + (j : Nat)))) c6', σ'', rfl, ?_⟩
      rw [m1]
      refine Gives.some ⟨_, _, rfl, L3, _, m4, by simp; lia, fun l hl => ?_⟩
      rcases m5 l hl with h | h
      · rcases hL2 l h with h | ⟨h, j', hj', h'⟩
        · exact Or.inl h
        · exact Or.inr ⟨h, j', List.mem_append_left _ hj', h'⟩
      · simp only [keyL, Prod.mk.injEq] at h
        exact Or.inr ⟨h.1, j, by simp, h.2⟩
    · rintro lv σ'' ⟨c5', c6', rfl, L2, i'', S2, hi2, hL2⟩
      simp only [xx8, Mini.D.seq_nx, Mini.D.seq_ct, Mini.D.seq_rt, xx13, xx10, xx14, xx9, xx12, xx7, xx15, xx30, xx20, xx16, xx18, xx3, xx4, xx2, xx5, xx6, xx23, xx35, xx34, xx29, xx24, xx26, xx28, xx27, xx17, xx25, xx21, xx22, xx33, xx31, xx32, xx38, xx40, xx39, xx37, xx36, xx0, lvGet_0, lvGet_s, lvSet_0, lvSet_s, Option.map_some, capLV, List.map_cons, List.map_nil, Option.bind_none, Option.bind_some, Mini.F.den, lv0, List.length_cons, List.length_nil, if_true, reduceIte, Nat.reduceAdd, Nat.reduceLeDiff, Nat.reduceLT, List.getElem?_cons_zero, List.getElem?_cons_succ, Nat.zero_add, Int.reduceLT, Int.reduceLE, and_true, true_and, and_self, intRel, intOp, subS_t0, subS_t1, subS_t2, lenF, subI, get_end, eqS_int, eqS_spot, neS_int, ltS_int, decide_true, decide_false, Bool.not_true, Bool.not_false, KindOf.is, LIM, xx11, walkV, rangeF, Int.reduceEq]
      refine Gives.some ⟨_, _, _, rfl, L2, i'', S2, ?_, fun l hl => ?_⟩
      · rw [List.length_range] at hi2
        simp; lia
      · rcases hL2 l hl with h | ⟨h, _⟩
        · exact List.mem_append_left _ h
        · rw [h]; simp
  · rintro lv σ' ⟨c4, c5, c6, rfl, L, i', S', _, _⟩
    exact ⟨rfl, _, _, _, rfl, L, i', S'⟩
end
theorem law_run (ns : List Int) (hn : ns.length ≤ 1000) : ∃ σ', f_law [.scr ns] [] = some (.bool true, σ') := by
  have : Gives (f_law [.scr ns] []) fun p => p.1 = .bool true := by
    refine den_gives rfl ?_
    rw [law_shape]
    have hsl : Mini.slTo (.scr ns) 11 [] = some (.loc 0, [.list ((ns.take 11).map V.int)]) := by
      simp only [Mini.slTo]; rw [if_pos (by show _ ≤ 1000000; lia)]; rfl
    generalize hcs : ns.take 11 = cs at hsl
    have hcl : cs.length ≤ 11 := by rw [← hcs]; exact List.length_take_le _ _
    obtain ⟨lvc, hc⟩ := compD_pure (mt := T.var 1) (mc := C.true) (m := (E.call intF (L.cons (E.var 1) L.nil))) (src := some (0, .list (cs.map V.int))) V.int
      (fun lv => ∃ a b c, lv = [a, b, c]) (fun x => some (V.int x)) cs (vs := cs.map V.int) (σ := [.list (cs.map V.int)]) (lv := [none, none, none])
      rfl (by lia) (fun _ => srcOk_same rfl)
      (by
        rintro x hx lv ws ⟨a, b, c, rfl⟩
        refine ⟨[a, some (.int x), c], rfl, ⟨_, _, _, rfl⟩, ?_⟩
        simp only [xx8, Mini.D.seq_nx, Mini.D.seq_ct, Mini.D.seq_rt, xx13, xx10, xx14, xx9, xx12, xx7, xx15, xx30, xx20, xx16, xx18, xx3, xx4, xx2, xx5, xx6, xx23, xx35, xx34, xx29, xx24, xx26, xx28, xx27, xx17, xx25, xx21, xx22, xx33, xx31, xx32, xx38, xx40, xx39, xx37, xx36, xx0, lvGet_0, lvGet_s, lvSet_0, lvSet_s, Option.map_some, capLV, List.map_cons, List.map_nil, Option.bind_none, Option.bind_some, Mini.F.den, lv0, List.length_cons, List.length_nil, if_true, reduceIte, Nat.reduceAdd, Nat.reduceLeDiff, Nat.reduceLT, List.getElem?_cons_zero, List.getElem?_cons_succ, Nat.zero_add, Int.reduceLT, Int.reduceLE, and_true, true_and, and_self, intRel, intOp, subS_t0, subS_t1, subS_t2, lenF, subI, get_end, eqS_int, eqS_spot, neS_int, ltS_int, decide_true, decide_false, Bool.not_true, Bool.not_false, KindOf.is, LIM, xx11, walkV, rangeF, Int.reduceEq, intF])
      ⟨_, _, _, rfl⟩
    rw [List.filterMap_eq_map'] at hc
    obtain ⟨v, v1, v2, hd⟩ := draw_run (p := 2) (q := 1) (ns := cs) (i := 0) (many := 3) (σ := [.list (cs.map V.int), .list (cs.map V.int), .list [.loc 1, .int 0]]) rfl rfl (by lia) (by lia) (by lia) (by lia)
    have hd' : f__law_draw [.loc 2, .int 3] [.list (cs.map V.int), .list (cs.map V.int), .list [.loc 1, .int 0]] = some (.int v, [.list (cs.map V.int), .list (cs.map V.int), .list [.loc 1, .int 1]]) := hd
    have S0 : DS cs (3 + v) [.list (cs.map V.int), .list (cs.map V.int), .list [.loc 1, .int 1], .list []] 1 [] := ⟨rfl, rfl, rfl, by lia, by simp, by simp⟩
    obtain ⟨⟨f, lv, σ⟩, k1, k2, c4, c5, c6, k3, Ls, i', k4⟩ := draws_run (by lia) (by lia) (ns0 := ns) (b4 := none) (b5 := none) (b6 := none) S0 (by lia)
    simp only at k2 k3 k4; subst k2 k3
    have GL : GoodL (3 + v) Ls := ⟨by lia, by lia, k4.li.ok, by have := k4.li.len (by lia); lia⟩
    obtain ⟨⟨f2, lv2, σ2⟩, j1, j2⟩ := rest_run GL (k4.li.len (by lia)) (a0 := some (.scr ns)) (a1 := some (.loc 2)) (a4 := c4) (a5 := c5) (a6 := c6) (a7 := none) (a8 := none) (a9 := none) (a10 := none) (a11 := none) (a12 := none) (a13 := none) (a14 := none) (a15 := none) k4.l
    simp only at j2; subst j2
    have g0 : ([MObj.list (cs.map V.int)] : Store)[0]? = some (.list (cs.map V.int)) := rfl
    have hc' := hc
    simp only [List.length_singleton, List.cons_append, List.nil_append] at hc'
    simp only [xx8, Mini.D.seq_nx, Mini.D.seq_ct, Mini.D.seq_rt, xx13, xx10, xx14, xx9, xx12, xx7, xx15, xx30, xx20, xx16, xx18, xx3, xx4, xx2, xx5, xx6, xx23, xx35, xx34, xx29, xx24, xx26, xx28, xx27, xx17, xx25, xx21, xx22, xx33, xx31, xx32, xx38, xx40, xx39, xx37, xx36, xx0, lvGet_0, lvGet_s, lvSet_0, lvSet_s, Option.map_some, capLV, List.map_cons, List.map_nil, Option.bind_none, Option.bind_some, Mini.F.den, lv0, List.length_cons, List.length_nil, if_true, reduceIte, Nat.reduceAdd, Nat.reduceLeDiff, Nat.reduceLT, List.getElem?_cons_zero, List.getElem?_cons_succ, Nat.zero_add, Int.reduceLT, Int.reduceLE, and_true, true_and, and_self, intRel, intOp, subS_t0, subS_t1, subS_t2, lenF, subI, get_end, eqS_int, eqS_spot, neS_int, ltS_int, decide_true, decide_false, Bool.not_true, Bool.not_false, KindOf.is, LIM, xx11, walkV, rangeF, Int.reduceEq, hsl, g0, xx19, List.cons_append, List.nil_append, hc', hd', addS, lvSets, List.reverse_cons, List.reverse_nil]
    refine ⟨(.rt (.bool true), lv2, σ2), ?_, rfl⟩
    show D.seq (dDraws (drLV ns (3 + v) none none none) _) dRest = _
    rw [k1]
    exact j1
  obtain ⟨⟨v, σ'⟩, h, e⟩ := this
  simp only at e; subst e
  exact ⟨σ', h⟩
end Mini
end

section
namespace Mini
open PySem PySem.SeqAt PyProof.Rows PySem.Calls PySem.W

theorem top_glob {g : GG} {lv : List (Str × WData)} (hns : g.base.Ns mainGlobals g.mg) (V : LooseAre lv g.mg g.base) {x : Str} {i : Int} (h : (x, WData.int i) ∈ lv) : GlobIs g x (.int i) := by
  obtain ⟨v, h1, h2⟩ := V.val _ h
  cases h2
  exact ⟨hns, _, h1, fun _ _ => ⟨_, rfl⟩⟩
theorem top_blt {g : GG} {view : Program} {loose : List Str} {mean : ExcName → Option Value} (T : Top view loose mean g.mg g.mb g.base) {x : Str} {f : Value}
    (h : (startupNames ++ loose ++ (recsOf view).map (·.name) ++ (litsOf view).map (·.1) ++ (clssOf view loose).map (·.name)).contains x = false) (hx : x ≠ "__name__") (hf : bootBuiltins x = some f) : BltIs g x f := by
  have h' : x ∉ startupNames ++ loose ++ (recsOf view).map (·.name) ++ (litsOf view).map (·.1) ++ (clssOf view loose).map (·.name) := by
    intro k
    rw [List.contains_iff_mem.mpr k] at h
    cases h
  simp only [List.mem_append, not_or] at h'
  obtain ⟨⟨⟨⟨a, b⟩, c⟩, d⟩, e⟩ := h'
  exact ⟨T.g, T.b, T.free x a b c d e, by rw [T.builtins x hx]; exact hf⟩
theorem top_const {g : GG} {view : Program} {loose : List Str} {mean : ExcName → Option Value} (T : Top view loose mean g.mg g.mb g.base) {x : Str} {i : Int} (h : valOf view x = some (.int i)) : GlobIs g x (.int i) := by
  obtain ⟨v, h1, h2⟩ := T.const x _ h
  cases h2 g.base
  exact ⟨T.g, _, h1, fun _ _ => ⟨_, rfl⟩⟩
noncomputable def freeOk (view : Program) (loose : List Str) (x : Str) : Bool := !((startupNames ++ loose ++ (recsOf view).map (·.name) ++ (litsOf view).map (·.1) ++ (clssOf view loose).map (·.name)).contains x) && decide (x ≠ "__name__")
theorem top_blt2 {g : GG} {view : Program} {loose : List Str} {mean : ExcName → Option Value} (T : Top view loose mean g.mg g.mb g.base) {x : Str} {f : Value} (h : freeOk view loose x = true) (hf : bootBuiltins x = some f) : BltIs g x f := by
  unfold freeOk at h
  rw [Bool.and_eq_true] at h
  refine top_blt T ?_ (of_decide_eq_true h.2) hf
  have h1 := h.1
  rw [Bool.not_eq_true'] at h1
  exact h1
theorem ctx_top {g : GG} {view : Program} {loose : List Str} {mean : ExcName → Option Value} {lv : List (Str × WData)} (T : Top view loose mean g.mg g.mb g.base) (V : LooseAre lv g.mg g.base) (hr : recsOf view = recsOf prog)
    (hb : [Str.ofString "abs", Str.ofString "dict", Str.ofString "enumerate", Str.ofString "int", Str.ofString "len", Str.ofString "max", Str.ofString "min", Str.ofString "range", Str.ofString "sorted", Str.ofString "tuple"].all (freeOk view loose) = true)
    (hc : valOf view (Str.ofString "MAX_AGE") = some (.int 3600)) (h0 : (Str.ofString "NET", WData.int 0) ∈ lv) (h1 : (Str.ofString "POINT", WData.int 1) ∈ lv) (h2 : (Str.ofString "ROUTER", WData.int 1) ∈ lv) (h3 : (Str.ofString "TRANSIT", WData.int 2) ∈ lv) : Ctx g := by
  rw [List.all_eq_true] at hb
  exact {
    ns := T.g
    nolimit := T.nolimit
    fn := fun d hd => T.fn d (by rw [hr]; exact hd)
    b_abs := top_blt2 T (hb _ (by simp)) (by decide +kernel)
    b_dict := top_blt2 T (hb _ (by simp)) (by decide +kernel)
    b_enumerate := top_blt2 T (hb _ (by simp)) (by decide +kernel)
    b_int := top_blt2 T (hb _ (by simp)) (by decide +kernel)
    b_len := top_blt2 T (hb _ (by simp)) (by decide +kernel)
    b_max := top_blt2 T (hb _ (by simp)) (by decide +kernel)
    b_min := top_blt2 T (hb _ (by simp)) (by decide +kernel)
    b_range := top_blt2 T (hb _ (by simp)) (by decide +kernel)
    b_sorted := top_blt2 T (hb _ (by simp)) (by decide +kernel)
    b_tuple := top_blt2 T (hb _ (by simp)) (by decide +kernel)
    c_MAX_AGE := top_const T hc
    c_NET := top_glob T.g V h0
    c_POINT := top_glob T.g V h1
    c_ROUTER := top_glob T.g V h2
    c_TRANSIT := top_glob T.g V h3 }

theorem law_called {g : GG} (C : Ctx g) {s : Shared} (hs : s.heap = g.base) (hlow : ∃ o, g.base.get? cStatics = some o) {fa l : Addr} {us : List Value} {ns : List Int} (hf : g.mg (Str.ofString "law") = some (.ref fa)) (hl : s.heap.IsList l us.toArray) (hi : IntsAre us ns) (hn : ns.length ≤ 1000) :
    wpAny (model g.prog g.w) callerA (call (.ref fa) [.ref l]) (fun v s' => v = .bool true ∧ (∀ b o, s.heap.get? b = some o → s'.heap.get? b = some o) ∧ s'.os = s.os ∧ s'.gens = s.gens) noE s := by
  obtain ⟨a, o, fd, h1, h2, h3, h4⟩ := (fn_law C).fn
  rw [hf] at h1
  cases h1
  obtain ⟨σ', hσ⟩ := law_run ns hn
  refine wpAny_mono (h4 callerA [] [] s [.scr ns] [.ref l] (.bool true) σ' ?_ ?_ ?_ hσ) (fun v s' P => ?_) fun _ _ h => h
  · exact ⟨rfl, by decide, by decide⟩
  · exact ⟨(fun b o h => by rw [hs]; exact h), (fun a ha => by cases ha), hlow, rfl, List.nodup_nil, (fun l o a h => by cases h)⟩
  · exact ⟨_, _, rfl, ⟨l, us, rfl, by rw [← hs]; exact hl, hi⟩, rfl⟩
  · obtain ⟨ρ', T, S, hv⟩ := P
    obtain ⟨h', tk, rfl⟩ := T.same
    exact ⟨hv, fun b o h => T.keep b o h (by simp) (fun k => k), rfl, rfl⟩

theorem law_post {args : List WData} : PySem.Challenge.rw_sz0105_03.row.claim.post args (.bool true) args = true := by
  show (WShape.has [] (.bool true) .bool && WTm.holds [] (.eq .res (.lit (.bool true))) { args := args, res := some (.bool true), after := args }) = true
  simp [WShape.has, WShape.arms, WTm.holds, WTm.value, PySem.W.same]
end Mini
end

section
namespace Mini
open PySem PySem.W PyProof.Rows
noncomputable def keepStmt : Stmt → Bool
  | .Assign [.Name x _] _ _ => x != "__name__"
  | _ => true
noncomputable def view : Program := { prog with main := { prog.main with body := prog.main.body.filter keepStmt } }
noncomputable abbrev looseN : List Str := [Str.ofString "POINT", Str.ofString "TRANSIT", Str.ofString "STUB", Str.ofString "VIRTUAL", Str.ofString "NET", Str.ofString "ROUTER"]
noncomputable abbrev looseV : List (Str × WData) := [(Str.ofString "POINT", WData.int 1), (Str.ofString "TRANSIT", WData.int 2), (Str.ofString "STUB", WData.int 3), (Str.ofString "VIRTUAL", WData.int 4), (Str.ofString "NET", WData.int 0), (Str.ofString "ROUTER", WData.int 1)]
theorem left_ok : LeftO prog view looseN (fun s => xlAt view looseV s && recOk (RowW.records (PySem.Challenge.rw_sz0105_03.row).toRowW) s) (Hook.obs Hook.none) (Hook.val Hook.none) 1532 := by
  refine LeftO.of_split "special-get-raises" ?_
  intro w
  kernel_rfl
theorem said_ok : PySem.Challenge.rw_sz0105_03.wellSaid = true := by kernel_rfl
end Mini
end

section
open PySem PySem.W PyProof.Rows
set_option tactic.hygienic true in
theorem PySem.Challenge.cw_sz0105_03_holds : PySem.Challenge.rw_sz0105_03.Holds := by
  w_on
  refine holds_law Mini.said_ok fun said => ?_
  refine holds_open (q := Mini.view) (loose := Mini.looseN) (Xt := fun s => xlAt Mini.view Mini.looseV s && recOk (RowW.records (PySem.Challenge.rw_sz0105_03.row).toRowW) s) (XP := XL Mini.view Mini.looseV) (Yf := Hook.obs Hook.none) (Ya := Hook.val Hook.none) (YP := Hook.says Hook.none) (N := 1532) Mini.left_ok (Hook.of Hook.none) (Hook.keeps Hook.none)
    (fun s e => xl_of s (Bool.and_eq_true_iff.mp e).1) XL.keeps (by rfl) (by rfl) (by rfl) (fun s e => recFacts_of (Bool.and_eq_true_iff.mp e).2) (by rfl) (by first | assumption | decide +kernel) (by decide +kernel) ⟨rfl, rfl, rfl, rfl, rfl, by decide +kernel⟩ ?hw ?hc
  case hw => w_witness2
  intro w s₀ s₁ mg mb G Y fa o pm cd doc dV kV ho hd hcd hD hmg hg args vals as hpre hlay hrd hwl hlo
  have V := (Ground.X G).2
  refine Ground.open G ?_
  intro T B D TE TW
  have hmg' : mg (Str.ofString "law") = some (.ref fa) := hmg
  clear hmg hd hcd hD ho
  have C : Mini.Ctx ⟨Mini.prog, w, s₁.heap, mg, mb⟩ := Mini.ctx_top (g := ⟨Mini.prog, w, s₁.heap, mg, mb⟩) T V (by kernel_rfl) (by decide +kernel) (by kernel_rfl) (by simp) (by simp) (by simp) (by simp)
  have hlow : ∃ o, s₁.heap.get? cStatics = some o := by
    obtain ⟨mc, ⟨o, es, ep, h, _⟩, _⟩ := T.nodigits
    exact ⟨o, h⟩
  wrow_args hpre hlay hrd hwl hlo
  rename_i h63 _
  refine wpAny_mono (Mini.law_called C rfl hlow hmg' (by assumption) (by assumption) (by omega)) (fun v s' P => ?_) fun _ _ h => h.elim
  obtain ⟨rfl, P1, P2, P3⟩ := P
  refine GoodW.toG ⟨.inl ⟨.bool true, .bool true, [], rfl, fun _ => rfl, .bool true, Mini.law_post, fun _ => ⟨List.nodup_nil, fun a ha => by cases ha⟩⟩, P1, P2, by rw [P3]; exact hg⟩
end
