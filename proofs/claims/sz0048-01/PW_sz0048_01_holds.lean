import PyProof.Rows.All
import Wide.All
import OpenK.AllK
import Wide.FinOn
import Lean
import PySem.Challenge.RW_sz0048_01
set_option Elab.async false
set_option maxRecDepth 100000
set_option maxHeartbeats 0
set_option linter.all false
set_option genInjectivity false
set_option genSizeOf false
section
open PySem PySem.W PyProof.Rows PySem.Calls
namespace Mine.Internal
noncomputable def Q (p : Prop) : Prop := p
theorem ofQ {p : Prop} (h : Q p) : p := h
theorem quiet {p : Prop} (h : p) : Q p = True := eq_true h
theorem hold {p : Prop} (h : p) : p := h
noncomputable abbrev P0 : Program := PySem.Challenge.pw_sz0048_01
noncomputable abbrev Pset := Addr → Obj → Prop
noncomputable def Le (P P' : Pset) : Prop := ∀ a o, P a o → P' a o
theorem Le.rfl {P : Pset} : Le P P := fun _ _ h => h
theorem Le.trans {P Q R : Pset} (h : Le P Q) (k : Le Q R) : Le P R := fun a o x => k a o (h a o x)

structure Cx where
  w : World
  K : Frag
  mg : Str → Option Value
  mb : Str → Option Value
  p : Program
  loose : List Str
  os : OsState

structure Frm (c : Cx) where
  A : Around
  env : Env
  g : Heap
  keys : List Str
  Z : List Addr

structure St where
  fr : List (Str × Option Value)
  P : Pset
  M : List (Addr × Obj)

noncomputable def look (fr : List (Str × Option Value)) (x : Str) : Option Value := (fr.lookup x).join

structure Bs (c : Cx) (g : Heap) : Prop where
  k : c.K.In g
  t : TopRead c.p c.loose c.mg c.mb g

structure Rp {c : Cx} (F : Frm c) (st : St) (s : Shared) : Prop where
  fr : Fr F.g F.env.locals s.heap (look st.fr)
  ex : ∃ T, News F.g F.env.locals s.heap (T ++ st.M) ∧ ((T ++ st.M).map (·.1)).Nodup ∧ ∀ a o, st.P a o → (a, o) ∈ T ∨ F.g.get? a = some o
  z : ∀ a o, st.P a o → a ∉ F.Z
  ks : st.fr.map (·.1) = F.keys
  gens : s.gens = #[]
  os : s.os = c.os

noncomputable def WP {c : Cx} {α : Type} (F : Frm c) (X : Sem α) (st : St) (Q : α → St → Prop) : Prop :=
  ∀ s, Rp F st s → wpAny (model P0 c.w) F.A X (fun v s' => ∃ st', Rp F st' s' ∧ Q v st') (fun _ _ => False) s

structure FnD where
  gl : List (Str × Value)
  bl : List (Str × Value)

structure Ok {c : Cx} (F : Frm c) (D : FnD) (n : Nat) : Prop where
  bs : Bs c F.g
  fn : F.env.scope.kind = .function
  glb : F.env.globals = mainGlobals
  blt : F.env.builtins = builtinsNs
  nd : F.keys.Nodup
  lc : ∀ x ∈ F.keys, F.env.kindOf x = some .local ∧ (x == ("__debug__" : Str)) = false
  gl : ∀ p ∈ D.gl, F.env.kindOf p.1 = some .globalImplicit ∧ (p.1 == ("__debug__" : Str)) = false ∧ nsIn c.K mainGlobals p.1 = some (some p.2)
  bl : ∀ p ∈ D.bl, F.env.kindOf p.1 = some .globalImplicit ∧ (p.1 == ("__debug__" : Str)) = false ∧ nsIn c.K mainGlobals p.1 = some none ∧ bootBuiltins p.1 = some p.2 ∧ p.1 ≠ ("__name__" : Str)
  hh : F.A.handled = none
  hz : ∀ z ∈ F.Z, ∃ o, F.g.get? z = some o
  zk : ∀ z ∈ F.Z, c.K.lookup z = none
  dp : F.A.depth + 4 * n < 900
  un : F.A.units + 16 * n < 9000

inductive At {α : Type} (x : Str) (v : α) : List (Str × α) → Prop
  | hd {r} : At x v ((x, v) :: r)
  | tl {p r} : At x v r → At x v (p :: r)
inductive Put {α : Type} (x : Str) (v : α) : List (Str × α) → List (Str × α) → Prop
  | hd {u r} : Put x v ((x, u) :: r) ((x, v) :: r)
  | tl {p r r'} : Put x v r r' → Put x v (p :: r) (p :: r')

theorem At.mem {α : Type} {x : Str} {v : α} {l : List (Str × α)} (h : At x v l) : (x, v) ∈ l := by
  induction h with
  | hd => exact .head _
  | tl _ ih => exact .tail _ ih
theorem At.look {x : Str} {v : Value} {l : List (Str × Option Value)} (hn : (l.map (·.1)).Nodup) (h : At x (some v) l) : look l x = some v := by
  refine ofQ ?_; simp (disch := (k_dflt (
  refine hold ?_
  induction h with
  | hd => unfold Mine.Internal.look; rw [List.lookup_cons, beq_self_eq_true]; rfl
  | @tl p r h ih =>
    have hm : x ∈ r.map (·.1) := List.mem_map.mpr ⟨_, h.mem, rfl⟩
    have hne : x ≠ p.1 := fun e => (List.nodup_cons.mp hn).1 (show p.1 ∈ r.map (·.1) from e ▸ hm)
    have := ih (List.nodup_cons.mp hn).2
    unfold Mine.Internal.look at this ⊢
    rw [List.lookup_cons, beq_eq_false_iff_ne.mpr hne]
    exact this
  ))) only [↓quiet]
theorem Put.keys {α : Type} {x : Str} {v : α} {l l' : List (Str × α)} (h : Put x v l l') : l'.map (·.1) = l.map (·.1) := by
  induction h with
  | hd => rfl
  | tl _ ih => exact congrArg (List.cons _) ih
theorem Put.memKey {α : Type} {x : Str} {v : α} {l l' : List (Str × α)} (h : Put x v l l') : x ∈ l.map (·.1) := by
  induction h with
  | hd => exact .head _
  | tl _ ih => exact .tail _ ih
theorem Put.look {x : Str} {v : Value} {l l' : List (Str × Option Value)} (hn : (l.map (·.1)).Nodup) (h : Put x (some v) l l') : (fun y => if y = x then some v else look l y) = look l' := by
  refine ofQ ?_; simp (disch := (k_dflt (
  refine hold ?_
  induction h with
  | hd =>
    funext y
    unfold Mine.Internal.look
    rw [List.lookup_cons, List.lookup_cons]
    by_cases h : y = x
    · rw [if_pos h, h, beq_self_eq_true]; rfl
    · rw [beq_eq_false_iff_ne.mpr h, if_neg h]
  | @tl p r r' h ih =>
    have hne : p.1 ≠ x := fun e => (List.nodup_cons.mp hn).1 (show p.1 ∈ r.map (·.1) from e ▸ h.memKey)
    have ih := congrFun (ih (List.nodup_cons.mp hn).2)
    funext y
    have ih := ih y
    unfold Mine.Internal.look at ih ⊢
    rw [List.lookup_cons, List.lookup_cons]
    by_cases hy : y = p.1
    · rw [if_neg (hy ▸ hne), hy, beq_self_eq_true]
    · rw [beq_eq_false_iff_ne.mpr hy]; exact ih
  ))) only [↓quiet]
section
variable {c : Cx} {F : Frm c} {st : St} {s : Shared}

theorem Rp.toks (r : Rp F st s) (t : Nat) : Rp F st { s with toks := t } := ⟨r.fr, r.ex, r.z, r.ks, r.gens, r.os⟩
theorem Rp.p (r : Rp F st s) {a : Addr} {o : Obj} (h : st.P a o) : s.heap.get? a = some o := by
  obtain ⟨T, N, _, e⟩ := r.ex
  rcases e a o h with h | h
  · exact N.get (List.mem_append.mpr (.inl h))
  · exact r.fr.keep _ _ h
theorem Rp.m (r : Rp F st s) {a : Addr} {o : Obj} (h : (a, o) ∈ st.M) : s.heap.get? a = some o := by
  obtain ⟨T, N, _, e⟩ := r.ex
  exact N.get (List.mem_append.mpr (.inr h))
theorem Rp.pM (r : Rp F st s) {a : Addr} {o : Obj} (h : st.P a o) : a ≠ F.env.locals ∧ a ∉ st.M.map (·.1) := by
  refine ofQ ?_; simp (disch := (k_dflt (
  refine hold ?_
  obtain ⟨T, N, nd, e⟩ := r.ex
  rw [List.map_append, List.nodup_append] at nd
  rcases e a o h with h | h
  · exact ⟨(N _ (List.mem_append.mpr (.inl h))).2.1, fun q => nd.2.2 a (List.mem_map_of_mem (f := fun p : Addr × Obj => p.1) h) a q rfl⟩
  · refine ⟨Nat.ne_of_lt (Nat.lt_of_lt_of_le (Heap.lt_size h) r.fr.above), fun q => ?_⟩
    obtain ⟨p, hp, rfl⟩ := List.mem_map.mp q
    rw [(N p (List.mem_append.mpr (.inr hp))).2.2] at h; cases h
  ))) only [↓quiet]
theorem Rp.mN (r : Rp F st s) : News F.g F.env.locals s.heap st.M := by
  obtain ⟨T, N, _, _⟩ := r.ex
  exact fun p hp => N p (List.mem_append.mpr (.inr hp))
theorem Rp.mD (r : Rp F st s) : (st.M.map (·.1)).Nodup := by
  obtain ⟨T, _, nd, _⟩ := r.ex
  rw [List.map_append, List.nodup_append] at nd
  exact nd.2.1
theorem canon {g h : Heap} {L : Addr} {m : Str → Option Value} {M : List (Addr × Obj)} {P : Pset} (f : Fr g L h m) (N : News g L h M) (nd : (M.map (·.1)).Nodup)
    (hp : ∀ a o, P a o → h.get? a = some o ∧ a ≠ L ∧ a ∉ M.map (·.1)) :
    ∃ T, News g L h (T ++ M) ∧ ((T ++ M).map (·.1)).Nodup ∧ ∀ a o, P a o → (a, o) ∈ T ∨ g.get? a = some o := by
  refine ofQ ?_; simp (disch := (k_dflt (
  refine hold ?_
  let pick : Nat → Option (Addr × Obj) := fun a => if a = L ∨ a ∈ M.map (·.1) ∨ (g.get? a).isSome = true then none else (h.get? a).map (a, ·)
  have hpick : ∀ a p, pick a = some p → p.1 = a ∧ h.get? a = some p.2 ∧ a ≠ L ∧ a ∉ M.map (·.1) ∧ g.get? a = none := by
    intro a p e
    show _
    simp only [pick] at e
    split at e
    · cases e
    · rename_i q
      rw [not_or, not_or] at q
      cases hh : h.get? a with
      | none => rw [hh] at e; cases e
      | some o =>
        rw [hh] at e; cases e
        refine ⟨rfl, rfl, q.1, q.2.1, ?_⟩
        cases hg : g.get? a with
        | none => rfl
        | some o' => rw [hg] at q; exact absurd rfl q.2.2
  refine ⟨(List.range h.objs.size).filterMap pick, fun p hp' => ?_, ?_, fun a o hP => ?_⟩
  · rcases List.mem_append.mp hp' with e | e
    · obtain ⟨a, _, e⟩ := List.mem_filterMap.mp e
      obtain ⟨rfl, h1, h2, _, h4⟩ := hpick a p e
      exact ⟨h1, h2, h4⟩
    · exact N p e
  · rw [List.map_append, List.nodup_append]
    refine ⟨?_, nd, fun a ha b hb he => ?_⟩
    · rw [List.map_filterMap]
      have : ∀ l : List Nat, l.Nodup → (l.filterMap fun a => (pick a).map (·.1)).Nodup ∧ ∀ x ∈ (l.filterMap fun a => (pick a).map (·.1)), x ∈ l := by
        intro l
        induction l with
        | nil => intro _; exact ⟨.nil, fun _ h => nomatch h⟩
        | cons a l ih =>
          intro hn
          obtain ⟨i1, i2⟩ := ih (List.nodup_cons.mp hn).2
          rw [List.filterMap_cons]
          cases hq : pick a with
          | none => exact ⟨i1, fun x hx => .tail _ (i2 x hx)⟩
          | some p =>
            have e := (hpick a p hq).1
            simp only [Option.map_some]
            refine ⟨List.nodup_cons.mpr ⟨fun hm => (List.nodup_cons.mp hn).1 (e ▸ i2 _ hm), i1⟩, fun x hx => ?_⟩
            rcases List.mem_cons.mp hx with h | h
            · rw [h, e]; exact .head _
            · exact .tail _ (i2 x h)
      exact (this _ List.nodup_range).1
    · obtain ⟨p, hp', rfl⟩ := List.mem_map.mp ha
      obtain ⟨c, _, e⟩ := List.mem_filterMap.mp hp'
      obtain ⟨h0, _, _, h3, _⟩ := hpick c p e
      rw [h0] at he
      exact h3 (he ▸ hb)
  · obtain ⟨h1, h2, h3⟩ := hp a o hP
    cases hg : g.get? a with
    | some o' => right; rw [← f.keep _ _ hg, h1]
    | none =>
      left
      refine List.mem_filterMap.mpr ⟨a, List.mem_range.mpr (Heap.lt_size h1), ?_⟩
      simp only [pick]
      rw [if_neg, h1]
      · rfl
      · rw [not_or, not_or]; exact ⟨h2, h3, by rw [hg]; exact Bool.false_ne_true⟩
  ))) only [↓quiet]
theorem fresh_z {D : FnD} {n : Nat} (H : Ok F D n) {a : Addr} (h : F.g.get? a = none) : a ∉ F.Z := fun hz => by
  obtain ⟨o, e⟩ := H.hz a hz
  rw [h] at e; cases e

theorem Rp.newP {D : FnD} {n : Nat} (H : Ok F D n) (r : Rp F st s) {T : List (Addr × Obj)} {a : Addr} {o : Obj} {h' : Heap} (nd : ((T ++ st.M).map (·.1)).Nodup) (e : ∀ a o, st.P a o → (a, o) ∈ T ∨ F.g.get? a = some o)
    (ha : ∀ p ∈ T ++ st.M, p.1 < a) (f' : Fr F.g F.env.locals h' (look st.fr)) (n' : News F.g F.env.locals h' ((a, o) :: (T ++ st.M))) {P' : Pset} (hP : ∀ b q, P' b q → st.P b q ∨ (b = a ∧ q = o)) (t : Nat) :
    Rp F ⟨st.fr, P', st.M⟩ { s with heap := h', toks := t } := by
  refine ofQ ?_; simp (disch := (k_dflt (
  refine hold ?_
  refine ⟨f', ⟨(a, o) :: T, n', ?_, fun b q h => ?_⟩, fun b q h => ?_, r.ks, r.gens, r.os⟩
  · rw [List.cons_append, List.map_cons, List.nodup_cons]
    refine ⟨fun hm => ?_, nd⟩
    obtain ⟨p, hp, e⟩ := List.mem_map.mp hm
    have h1 : p.1 < a := ha p hp
    have e' : p.1 = a := e
    rw [e'] at h1
    exact Nat.lt_irrefl _ h1
  · rcases hP b q h with h | ⟨rfl, rfl⟩
    · rcases e b q h with h | h
      · exact .inl (.tail _ h)
      · exact .inr h
    · exact .inl (.head _)
  · rcases hP b q h with h | ⟨rfl, rfl⟩
    · exact r.z b q h
    · exact fresh_z H (n' _ (.head _)).2.2
  ))) only [↓quiet]
theorem Rp.newM (r : Rp F st s) {T : List (Addr × Obj)} {a : Addr} {o : Obj} {h' : Heap} (nd : ((T ++ st.M).map (·.1)).Nodup) (e : ∀ a o, st.P a o → (a, o) ∈ T ∨ F.g.get? a = some o)
    (ha : ∀ p ∈ T ++ st.M, p.1 < a) (f' : Fr F.g F.env.locals h' (look st.fr)) (n' : News F.g F.env.locals h' ((a, o) :: (T ++ st.M))) (t : Nat) :
    Rp F ⟨st.fr, st.P, st.M ++ [(a, o)]⟩ { s with heap := h', toks := t } := by
  refine ofQ ?_; simp (disch := (k_dflt (
  refine hold ?_
  refine ⟨f', ⟨T, fun p hp => n' p ?_, ?_, e⟩, r.z, r.ks, r.gens, r.os⟩
  · rcases List.mem_append.mp hp with h | h
    · exact .tail _ (List.mem_append.mpr (.inl h))
    · rcases List.mem_append.mp h with h | h
      · exact .tail _ (List.mem_append.mpr (.inr h))
      · rw [List.mem_singleton.mp h]; exact .head _
  · show ((T ++ (st.M ++ [(a, o)])).map (·.1)).Nodup
    rw [← List.append_assoc, List.map_append, List.nodup_append]
    refine ⟨nd, by simp, fun x hx y hy he => ?_⟩
    obtain ⟨p, hp, e⟩ := List.mem_map.mp hx
    have h1 : p.1 < a := ha p hp
    have e' : p.1 = x := e
    have e2 : y = a := by simpa using hy
    rw [e', he, e2] at h1
    exact Nat.lt_irrefl _ h1
  ))) only [↓quiet]
inductive Mp (d : Addr) (o o' : Obj) : List (Addr × Obj) → List (Addr × Obj) → Prop
  | hd {r} : Mp d o o' ((d, o) :: r) ((d, o') :: r)
  | tl {p r r'} : Mp d o o' r r' → Mp d o o' (p :: r) (p :: r')
  | ap {p r r'} : Mp d o o' r r' → Mp d o o' (p ++ r) (p ++ r')
  | pa {p r r'} : Mp d o o' r r' → Mp d o o' (r ++ p) (r' ++ p)
theorem Mp.split {d : Addr} {o o' : Obj} {M M' : List (Addr × Obj)} (h : Mp d o o' M M') : ∃ pre post, M = pre ++ (d, o) :: post ∧ M' = pre ++ (d, o') :: post := by
  refine ofQ ?_; simp (disch := (k_dflt (
  refine hold ?_
  induction h with
  | @hd r => exact ⟨[], r, rfl, rfl⟩
  | @tl p r r' _ ih => obtain ⟨a, b, rfl, rfl⟩ := ih; exact ⟨p :: a, b, rfl, rfl⟩
  | @ap p r r' _ ih => obtain ⟨a, b, rfl, rfl⟩ := ih; exact ⟨p ++ a, b, (List.append_assoc ..).symm, (List.append_assoc ..).symm⟩
  | @pa p r r' _ ih => obtain ⟨a, b, rfl, rfl⟩ := ih; exact ⟨a, b ++ p, List.append_assoc .., List.append_assoc ..⟩
  ))) only [↓quiet]
inductive Mem (d : Addr) (o : Obj) : List (Addr × Obj) → Prop
  | hd {r} : Mem d o ((d, o) :: r)
  | tl {p r} : Mem d o r → Mem d o (p :: r)
  | ap {p r} : Mem d o r → Mem d o (p ++ r)
  | pa {p r} : Mem d o r → Mem d o (r ++ p)
theorem Mem.mem {d : Addr} {o : Obj} {M : List (Addr × Obj)} (h : Mem d o M) : (d, o) ∈ M := by
  induction h with
  | hd => exact .head _
  | tl _ ih => exact .tail _ ih
  | ap _ ih => exact List.mem_append.mpr (.inr ih)
  | pa _ ih => exact List.mem_append.mpr (.inl ih)
theorem Mp.mem {d : Addr} {o o' : Obj} {M M' : List (Addr × Obj)} (h : Mp d o o' M M') : (d, o) ∈ M := by
  obtain ⟨a, b, rfl, _⟩ := h.split; simp
inductive Mdel (d : Addr) (o : Obj) : List (Addr × Obj) → List (Addr × Obj) → Prop
  | hd {r} : Mdel d o ((d, o) :: r) r
  | tl {p r r'} : Mdel d o r r' → Mdel d o (p :: r) (p :: r')
  | ap {p r r'} : Mdel d o r r' → Mdel d o (p ++ r) (p ++ r')
  | pa {p r r'} : Mdel d o r r' → Mdel d o (r ++ p) (r' ++ p)
theorem Mdel.split {d : Addr} {o : Obj} {M M' : List (Addr × Obj)} (h : Mdel d o M M') : ∃ pre post, M = pre ++ (d, o) :: post ∧ M' = pre ++ post := by
  refine ofQ ?_; simp (disch := (k_dflt (
  refine hold ?_
  induction h with
  | @hd r => exact ⟨[], r, rfl, rfl⟩
  | @tl p r r' _ ih => obtain ⟨a, b, rfl, rfl⟩ := ih; exact ⟨p :: a, b, rfl, rfl⟩
  | @ap p r r' _ ih => obtain ⟨a, b, rfl, rfl⟩ := ih; exact ⟨p ++ a, b, (List.append_assoc ..).symm, (List.append_assoc ..).symm⟩
  | @pa p r r' _ ih => obtain ⟨a, b, rfl, rfl⟩ := ih; exact ⟨a, b ++ p, List.append_assoc .., List.append_assoc ..⟩
  ))) only [↓quiet]
theorem Rp.sameBut (r : Rp F st s) {d : Addr} {o o' : Obj} {M' : List (Addr × Obj)} (U : Mp d o o' st.M M') {h' : Heap} (hs : Heap.SameBut d s.heap h') (ho : h'.get? d = some o') (t : Nat) :
    Rp F ⟨st.fr, st.P, M'⟩ { s with heap := h', toks := t } := by
  refine ofQ ?_; simp (disch := (k_dflt (
  refine hold ?_
  have N := r.mN _ U.mem
  obtain ⟨pre, post, e1, e2⟩ := U.split
  have f' := r.fr.change hs N.2.1 N.2.2
  have nd := r.mD
  rw [e1, List.map_append, List.map_cons, List.nodup_append, List.nodup_cons] at nd
  have h1 : ∀ p ∈ pre, p.1 ≠ d := fun p hp => nd.2.2 p.1 (List.mem_map_of_mem (f := fun p : Addr × Obj => p.1) hp) d (.head _)
  have h2 : ∀ p ∈ post, p.1 ≠ d := fun p hp e => nd.2.1.1 (List.mem_map.mpr ⟨p, hp, e⟩)
  have hk : M'.map (·.1) = st.M.map (·.1) := by rw [e1, e2]; simp
  obtain ⟨T, n', nd', e'⟩ := canon (P := st.P) f' (e2 ▸ news_set (e1 ▸ r.mN) h1 h2 hs ho) (hk ▸ r.mD) (fun a q hP => by
    have hpm := r.pM hP
    refine ⟨?_, hpm.1, hk ▸ hpm.2⟩
    rw [hs.2 a (fun e => hpm.2 (e ▸ List.mem_map_of_mem (f := fun p : Addr × Obj => p.1) U.mem))]
    exact r.p hP)
  exact ⟨f', ⟨T, n', nd', e'⟩, r.z, r.ks, r.gens, r.os⟩
  ))) only [↓quiet]
theorem Rp.freeze {D : FnD} {n : Nat} (H : Ok F D n) (r : Rp F st s) {d : Addr} {o : Obj} {M' : List (Addr × Obj)} (U : Mdel d o st.M M') {P' : Pset} (hP : ∀ b q, P' b q → st.P b q ∨ (b = d ∧ q = o)) : Rp F ⟨st.fr, P', M'⟩ s := by
  refine ofQ ?_; simp (disch := (k_dflt (
  refine hold ?_
  obtain ⟨pre, post, e1, e2⟩ := U.split
  obtain ⟨T, N, nd, e⟩ := r.ex
  refine ⟨r.fr, ⟨(d, o) :: T, fun p hp => N p ?_, ?_, fun b q h => ?_⟩, fun b q h => ?_, r.ks, r.gens, r.os⟩
  · show p ∈ T ++ st.M
    have hp : p ∈ (d, o) :: T ++ M' := hp
    rw [e2] at hp; rw [e1]
    simp only [List.mem_append, List.mem_cons, List.cons_append] at hp ⊢
    rcases hp with h | h | h | h
    · exact .inr (.inr (.inl h))
    · exact .inl h
    · exact .inr (.inl h)
    · exact .inr (.inr (.inr h))
  · show (((d, o) :: T ++ M').map (·.1)).Nodup
    have hp : (((d, o) :: T ++ M').map (·.1)).Perm ((T ++ st.M).map (·.1)) := by
      refine List.Perm.map _ ?_
      rw [e1, e2, List.cons_append, ← List.append_assoc, ← List.append_assoc]
      exact List.perm_middle.symm
    exact hp.nodup_iff.mpr nd
  · rcases hP b q h with h | ⟨rfl, rfl⟩
    · rcases e b q h with h | h
      · exact .inl (.tail _ h)
      · exact .inr h
    · exact .inl (.head _)
  · rcases hP b q h with h | ⟨rfl, rfl⟩
    · exact r.z b q h
    · refine fresh_z H (N (b, q) ?_).2.2
      rw [e1]; simp
  ))) only [↓quiet]
theorem Rp.drop (r : Rp F st s) {d : Addr} {o : Obj} {M' : List (Addr × Obj)} (U : Mdel d o st.M M') : Rp F ⟨st.fr, st.P, M'⟩ s := by
  refine ofQ ?_; simp (disch := (k_dflt (
  refine hold ?_
  obtain ⟨pre, post, e1, e2⟩ := U.split
  obtain ⟨T, N, nd, e⟩ := r.ex
  have sub : (T ++ M').Sublist (T ++ st.M) := by
    rw [e1, e2]
    exact List.Sublist.append_left (List.Sublist.append_left (List.sublist_cons_self _ _) _) _
  exact ⟨r.fr, ⟨T, fun p hp => N p (sub.subset hp), (sub.map _).nodup nd, e⟩, r.z, r.ks, r.gens, r.os⟩
  ))) only [↓quiet]
theorem Rp.addK {D : FnD} {n : Nat} (H : Ok F D n) (r : Rp F st s) {a : Addr} {o : Obj} (h : c.K.lookup a = some o) : Rp F ⟨st.fr, fun b q => st.P b q ∨ (b = a ∧ q = o), st.M⟩ s := by
  refine ofQ ?_; simp (disch := (k_dflt (
  refine hold ?_
  obtain ⟨T, N, nd, e⟩ := r.ex
  refine ⟨r.fr, ⟨T, N, nd, fun b q x => ?_⟩, fun b q x => ?_, r.ks, r.gens, r.os⟩
  · rcases x with x | ⟨rfl, rfl⟩
    · exact e b q x
    · exact .inr (H.bs.k _ _ h)
  · rcases x with x | ⟨rfl, rfl⟩
    · exact r.z b q x
    · intro hz
      rw [H.zk b hz] at h; cases h
  ))) only [↓quiet]
theorem Rp.store (r : Rp F st s) (hnd : F.keys.Nodup) {x : Str} {v : Value} {fr' : List (Str × Option Value)} (p : Put x (some v) st.fr fr') {h' : Heap} (hn : h'.Ns F.env.locals (fun y => if y = x then some v else look st.fr y)) (hs : Heap.SameBut F.env.locals s.heap h') (t : Nat) :
    Rp F ⟨fr', st.P, st.M⟩ { s with heap := h', toks := t } := by
  obtain ⟨T, N, nd, e⟩ := r.ex
  refine ⟨?_, ⟨T, N.set hs, nd, e⟩, r.z, p.keys.trans r.ks, r.gens, r.os⟩
  have := r.fr.set hn hs
  rw [p.look (r.ks ▸ hnd)] at this
  exact this
end

section
variable {α β : Type} {c : Cx} {F : Frm c} {D : FnD} {n : Nat} {fr₀ : List (Str × Option Value)} {P₀ : Pset} {M₀ : List (Addr × Obj)}

theorem WP.mono {X : Sem α} {Q Q' : α → St → Prop} (h : WP F X (⟨fr₀, P₀, M₀⟩ : St) Q) (hq : ∀ v st', Q v st' → Q' v st') : WP F X (⟨fr₀, P₀, M₀⟩ : St) Q' :=
  fun s r => wpAny_mono (h s r) (fun v _ ez1 => ez1.elim fun st' pz1 => ⟨st', pz1.1, hq v st' pz1.2⟩) fun _ _ e => e
theorem WP.lift {X : Sem α} {Y : Sem β} {k : α → Sem β} {Q : β → St → Prop}
    (rule : ∀ (Q' : β → Shared → Prop) (E : Value → Shared → Prop) s, wpAny (model P0 c.w) F.A X (fun a s₁ => wpAny (model P0 c.w) F.A (k a) Q' E s₁) E s → wpAny (model P0 c.w) F.A Y Q' E s)
    (h : WP F X (⟨fr₀, P₀, M₀⟩ : St) (fun a st₁ => WP F (k a) st₁ Q)) : WP F Y (⟨fr₀, P₀, M₀⟩ : St) Q :=
  fun s r => rule _ _ s (wpAny_mono (h s r) (fun _ s' ez2 => ez2.elim fun _ pz2 => pz2.2 s' pz2.1) fun _ _ e => e)
theorem WP.freeze (H : Ok F D n) {X : Sem α} {Q : α → St → Prop} {d : Addr} {o : Obj} {M' : List (Addr × Obj)} (U : Mdel d o M₀ M') (h : ∀ P', Le P₀ P' → P' d o → WP F X ⟨fr₀, P', M'⟩ Q) : WP F X (⟨fr₀, P₀, M₀⟩ : St) Q :=
  fun s r => h _ (fun _ _ e => .inl e) (.inr ⟨rfl, rfl⟩) s (r.freeze H U (P' := fun b q => P₀ b q ∨ (b = d ∧ q = o)) fun _ _ e => e)
theorem WP.kobj (H : Ok F D n) {X : Sem α} {Q : α → St → Prop} {a : Addr} {o : Obj} (h : c.K.lookup a = some o) (k : ∀ P', Le P₀ P' → P' a o → WP F X ⟨fr₀, P', M₀⟩ Q) : WP F X ⟨fr₀, P₀, M₀⟩ Q :=
  fun s r => k _ (fun _ _ e => .inl e) (.inr ⟨rfl, rfl⟩) s (r.addK H h)
theorem WP.drop {X : Sem α} {Q : α → St → Prop} {d : Addr} {o : Obj} {M' : List (Addr × Obj)} (U : Mdel d o M₀ M') (h : WP F X ⟨fr₀, P₀, M'⟩ Q) : WP F X (⟨fr₀, P₀, M₀⟩ : St) Q :=
  fun s r => h s (r.drop U)

noncomputable abbrev Br (b : Bool) (A B : Prop) : Prop := (b = true → A) ∧ (b = false → B)
noncomputable abbrev kIf {c : Cx} (F : Frm c) (body orelse : List Stmt) (Q : Flow → St → Prop) (b : Bool) (st : St) : Prop := Br b (WP F (execs body F.env) st Q) (WP F (execs orelse F.env) st Q)
noncomputable abbrev kRet (Q : Flow → St → Prop) (v : Value) : St → Prop := Q (.ret v)
noncomputable abbrev kNx {α : Type} (Q : Flow → St → Prop) (_ : α) : St → Prop := Q .next
theorem wNil {Q : Flow → St → Prop} (h : Q .next (⟨fr₀, P₀, M₀⟩ : St)) : WP F (execs [] F.env) (⟨fr₀, P₀, M₀⟩ : St) Q := fun _ r => wpAny_execs_nil ⟨(⟨fr₀, P₀, M₀⟩ : St), r, h⟩
noncomputable def After {c : Cx} (F : Frm c) (rest : List Stmt) (Q : Flow → St → Prop) : Flow → St → Prop
  | .next, st' => WP F (execs rest F.env) st' Q
  | f, st' => Q f st'
theorem wCons {x : Stmt} {rest : List Stmt} {Q : Flow → St → Prop} (h : WP F (exec x F.env) (⟨fr₀, P₀, M₀⟩ : St) (After F rest Q)) : WP F (execs (x :: rest) F.env) (⟨fr₀, P₀, M₀⟩ : St) Q :=
  fun s r => wpAny_execs_cons (wpAny_mono (h s r) (fun f s' ⟨st', r', q⟩ => by
    cases f with
    | next => exact q s' r'
    | brk => exact ⟨st', r', q⟩
    | cont => exact ⟨st', r', q⟩
    | ret v => exact ⟨st', r', q⟩) fun _ _ e => e)
theorem wIf {test : Expr} {body orelse : List Stmt} {pos : Pos} {Q : Flow → St → Prop}
    (h : WP F (isTrue test F.env (eval test F.env)) (⟨fr₀, P₀, M₀⟩ : St) (kIf F body orelse Q)) : WP F (exec (.If test body orelse pos) F.env) (⟨fr₀, P₀, M₀⟩ : St) Q :=
  fun s r => wpAny_If (wpAny_mono (h s r) (fun b s' ⟨st', r', q⟩ => by
    cases b with
    | true => exact q.1 rfl s' r'
    | false => exact q.2 rfl s' r') fun _ _ e => e)
theorem wReturn {e : Expr} {pos : Pos} {Q : Flow → St → Prop} (h : WP F (eval e F.env) (⟨fr₀, P₀, M₀⟩ : St) (kRet Q)) : WP F (exec (.Return (some e) pos) F.env) (⟨fr₀, P₀, M₀⟩ : St) Q :=
  fun s r => wpAny_Return_some (h s r)
theorem wExpr (H : Ok F D n) {e : Expr} {pos : Pos} {Q : Flow → St → Prop} (h : WP F (eval e F.env) (⟨fr₀, P₀, M₀⟩ : St) (kNx Q)) (hs : swapsWith e none pos.line F.env = pure false) : WP F (exec (.Expr e pos) F.env) (⟨fr₀, P₀, M₀⟩ : St) Q :=
  fun s r => wpAny_Expr_any (h s r) (by unfold interactive; rw [H.fn]; rfl) hs

theorem wInt {i : Int} {k : Nat} {pos : Pos} {Q : Value → St → Prop} (h : ∀ t, Q (.int i t) (⟨fr₀, P₀, M₀⟩ : St)) : WP F (eval (.Constant (.int i) k pos) F.env) (⟨fr₀, P₀, M₀⟩ : St) Q :=
  fun _ r => wpAny_Constant_int ⟨(⟨fr₀, P₀, M₀⟩ : St), r.toks _, h _⟩
theorem wStr {x : Str} {k : Nat} {pos : Pos} {Q : Value → St → Prop} (h : ∀ t, Q (.str x t) (⟨fr₀, P₀, M₀⟩ : St)) : WP F (eval (.Constant (.str x) k pos) F.env) (⟨fr₀, P₀, M₀⟩ : St) Q :=
  fun _ r => Calls.Constant_str ⟨(⟨fr₀, P₀, M₀⟩ : St), r.toks _, h _⟩
theorem wBool {b : Bool} {k : Nat} {pos : Pos} {Q : Value → St → Prop} (h : Q (.bool b) (⟨fr₀, P₀, M₀⟩ : St)) : WP F (eval (.Constant (.bool b) k pos) F.env) (⟨fr₀, P₀, M₀⟩ : St) Q :=
  fun _ r => Constant_bool ⟨(⟨fr₀, P₀, M₀⟩ : St), r, h⟩
theorem wNone {k : Nat} {pos : Pos} {Q : Value → St → Prop} (h : Q .none (⟨fr₀, P₀, M₀⟩ : St)) : WP F (eval (.Constant .none k pos) F.env) (⟨fr₀, P₀, M₀⟩ : St) Q :=
  fun _ r => Constant_none ⟨(⟨fr₀, P₀, M₀⟩ : St), r, h⟩
theorem wName (H : Ok F D n) {x : Str} {pos : Pos} {v : Value} {Q : Value → St → Prop} (a : At x (some v) fr₀) (h : Q v (⟨fr₀, P₀, M₀⟩ : St)) : WP F (eval (.Name x pos) F.env) (⟨fr₀, P₀, M₀⟩ : St) Q := by
  refine ofQ ?_; simp (disch := (k_dflt (
  refine hold ?_
  intro s r
  have hm : x ∈ F.keys := r.ks ▸ List.mem_map.mpr ⟨_, a.mem, rfl⟩
  exact wpAny_Name (wpAny_loadName_local H.fn (H.lc x hm).1 r.fr.ns (a.look (r.ks ▸ H.nd)) ⟨(⟨fr₀, P₀, M₀⟩ : St), r, h⟩) (H.lc x hm).2
  ))) only [↓quiet]
theorem wGlob (H : Ok F D n) {x : Str} {pos : Pos} {v : Value} {Q : Value → St → Prop} (a : At x v D.gl) (h : Q v (⟨fr₀, P₀, M₀⟩ : St)) : WP F (eval (.Name x pos) F.env) (⟨fr₀, P₀, M₀⟩ : St) Q := by
  refine ofQ ?_; simp (disch := (k_dflt (
  refine hold ?_
  intro s r
  obtain ⟨h1, h2, h3⟩ := H.gl _ a.mem
  exact Calls.Name_function_global H.fn h1 (Calls.loadGlobal_global (H.glb ▸ H.bs.t.g.keeps r.fr.keep) (mg_of H.bs.k H.bs.t.g h3) ⟨(⟨fr₀, P₀, M₀⟩ : St), r, h⟩) h2
  ))) only [↓quiet]
theorem wBlt (H : Ok F D n) {x : Str} {pos : Pos} {v : Value} {Q : Value → St → Prop} (a : At x v D.bl) (h : Q v (⟨fr₀, P₀, M₀⟩ : St)) : WP F (eval (.Name x pos) F.env) (⟨fr₀, P₀, M₀⟩ : St) Q := by
  refine ofQ ?_; simp (disch := (k_dflt (
  refine hold ?_
  intro s r
  obtain ⟨h1, h2, h3, h4, h5⟩ := H.bl _ a.mem
  exact Calls.Name_function_global H.fn h1 (Calls.loadGlobal_builtin (H.glb ▸ H.bs.t.g.keeps r.fr.keep) (mg_none_of H.bs.k H.bs.t.g h3) (H.blt ▸ H.bs.t.b.keeps r.fr.keep) ((H.bs.t.builtins x h5).trans h4) ⟨(⟨fr₀, P₀, M₀⟩ : St), r, h⟩) h2
  ))) only [↓quiet]
noncomputable def Stored (x : Str) (v : Value) (Q : Flow → St → Prop) (st : St) : Prop := ∃ fr', Put x (some v) st.fr fr' ∧ Q .next ⟨fr', st.P, st.M⟩
noncomputable abbrev kStore (x : Str) (Q : Flow → St → Prop) (v : Value) : St → Prop := Stored x v Q
theorem Stored.mk {x : Str} {v : Value} {Q : Flow → St → Prop} {fr' : List (Str × Option Value)} (p : Put x (some v) fr₀ fr') (h : Q .next ⟨fr', P₀, M₀⟩) : Stored x v Q ⟨fr₀, P₀, M₀⟩ := ⟨fr', p, h⟩
theorem wStore (H : Ok F D n) {x : Str} {v : Value} {fr' : List (Str × Option Value)} {Q : Unit → St → Prop} (p : Put x (some v) fr₀ fr') (h : Q () ⟨fr', P₀, M₀⟩) : WP F (storeName F.env x v) (⟨fr₀, P₀, M₀⟩ : St) Q := by
  intro s r
  have hm : x ∈ F.keys := r.ks ▸ p.memKey
  exact wpAny_storeName_local (H.lc x hm).1 r.fr.ns (fun h' hn hs => ⟨⟨fr', P₀, M₀⟩, r.store H.nd p hn hs _, h⟩) (by rw [H.fn]; rfl)
theorem wAssign (H : Ok F D n) {x : Str} {pos' : Pos} {value : Expr} {pos : Pos} {Q : Flow → St → Prop}
    (h : WP F (eval value F.env) (⟨fr₀, P₀, M₀⟩ : St) (kStore x Q))
    (hs : swapsWith value (some (.Name x pos')) pos.line F.env = pure false) : WP F (exec (.Assign [.Name x pos'] value pos) F.env) (⟨fr₀, P₀, M₀⟩ : St) Q :=
  fun s r => wpAny_Assign_Name (wpAny_mono (h s r) (fun _ s' ⟨_, r', _, p, q⟩ => wStore H (Q := fun _ => Q .next) p q s' r') fun _ _ e => e) hs
end
inductive Flds : List DictEntry → List (Str × Value) → Prop
  | nil : Flds [] []
  | cons {hsh : Int} {x : Str} {t : Tok} {v : Value} {es : List DictEntry} {fs : List (Str × Value)} : Flds es fs → Flds (⟨hsh, .str x t, v⟩ :: es) ((x, v) :: fs)
noncomputable def IsFld (o : Obj) (fs : List (Str × Value)) : Prop := (∃ es n, o = dictOf es n ∧ Flds es fs ∧ es.length ≤ 900) ∧ (fs.map (·.1)).Nodup

theorem isStr_iff (x : Str) (t : Tok) (n : Str) : (Value.str x t).isStr n = decide (x = n) := by
  show (x == n) = _
  by_cases h : x = n
  · subst h; simp
  · rw [beq_eq_false_iff_ne.mpr h, decide_eq_false h]
theorem Flds.len {es : List DictEntry} {fs : List (Str × Value)} (h : Flds es fs) : es.length = fs.length := by
  induction h with
  | nil => rfl
  | cons _ ih => simp [ih]
theorem Flds.noRef {es : List DictEntry} {fs : List (Str × Value)} (h : Flds es fs) : es.any (·.refKey) = false := by
  induction h with
  | nil => rfl
  | cons _ ih => rw [List.any_cons, ih]; rfl
theorem Flds.get {es : List DictEntry} {fs : List (Str × Value)} (h : Flds es fs) (x : Str) : getL x es = some (fs.lookup x) := by
  refine ofQ ?_; simp (disch := (k_dflt (
  refine hold ?_
  have key : (es.find? (·.key.isStr x)).map (·.val) = fs.lookup x := by
    induction h with
    | nil => rfl
    | @cons hsh y t v es fs _ ih =>
      rw [List.find?_cons, List.lookup_cons]
      show Option.map _ (match (Value.str y t).isStr x with | true => some _ | false => _) = _
      rw [isStr_iff]
      by_cases e : y = x
      · subst e; simp
      · rw [decide_eq_false e, beq_eq_false_iff_ne.mpr (Ne.symm e)]; exact ih
  unfold getL
  cases hf : es.find? (·.key.isStr x) with
  | some e => rw [hf] at key; rw [← key]; rfl
  | none => rw [hf] at key; rw [← key]; simp only [h.noRef]; rfl
  ))) only [↓quiet]
noncomputable def putF (x : Str) (v : Value) : List (Str × Value) → List (Str × Value)
  | [] => [(x, v)]
  | (y, u) :: r => if y = x then (y, v) :: r else (y, u) :: putF x v r
theorem Flds.put {es : List DictEntry} {fs : List (Str × Value)} (h : Flds es fs) (x : Str) (hsh : Int) (t : Tok) (v : Value) : Flds (putL x hsh (.str x t) v es) (putF x v fs) := by
  refine ofQ ?_; simp (disch := (k_dflt (
  refine hold ?_
  induction h with
  | nil => exact .cons .nil
  | @cons h' y t' u es fs hr ih =>
    unfold putL putF
    show Flds (if (Value.str y t').isStr x then _ else _) _
    rw [isStr_iff]
    by_cases e : y = x
    · rw [if_pos (decide_eq_true e), if_pos e]; exact .cons hr
    · rw [if_neg (by rw [decide_eq_false e]; exact Bool.false_ne_true), if_neg e]; exact .cons ih
  ))) only [↓quiet]
theorem At.lookup {x : Str} {v : Value} {l : List (Str × Value)} (hn : (l.map (·.1)).Nodup) (h : At x v l) : l.lookup x = some v := by
  refine ofQ ?_; simp (disch := (k_dflt (
  refine hold ?_
  induction h with
  | hd => rw [List.lookup_cons, beq_self_eq_true]
  | @tl p r h ih =>
    have hm : x ∈ r.map (·.1) := List.mem_map.mpr ⟨_, h.mem, rfl⟩
    have hne : x ≠ p.1 := fun e => (List.nodup_cons.mp hn).1 (show p.1 ∈ r.map (·.1) from e ▸ hm)
    rw [List.lookup_cons, beq_eq_false_iff_ne.mpr hne]
    exact ih (List.nodup_cons.mp hn).2
  ))) only [↓quiet]
theorem lookup_none {x : Str} : ∀ {l : List (Str × Value)}, x ∉ l.map (·.1) → l.lookup x = none
  | [], _ => rfl
  | (y, u) :: r, h => by
    rw [List.map_cons, List.mem_cons, not_or] at h
    rw [List.lookup_cons, beq_eq_false_iff_ne.mpr h.1]
    exact lookup_none h.2
theorem Put.f {x : Str} {v : Value} {l l' : List (Str × Value)} (hn : (l.map (·.1)).Nodup) (h : Put x v l l') : putF x v l = l' := by
  refine ofQ ?_; simp (disch := (k_dflt (
  refine hold ?_
  induction h with
  | hd => unfold putF; rw [if_pos rfl]
  | @tl p r r' h ih =>
    have hne : p.1 ≠ x := fun e => (List.nodup_cons.mp hn).1 (show p.1 ∈ r.map (·.1) from e ▸ h.memKey)
    unfold putF
    rw [if_neg hne, ih (List.nodup_cons.mp hn).2]
  ))) only [↓quiet]
theorem putF_new {x : Str} {v : Value} : ∀ {l : List (Str × Value)}, x ∉ l.map (·.1) → putF x v l = l ++ [(x, v)]
  | [], _ => rfl
  | (y, u) :: r, h => by
    rw [List.map_cons, List.mem_cons, not_or] at h
    unfold putF
    rw [if_neg (Ne.symm h.1), putF_new h.2]; rfl

theorem upd_mk {d : Addr} {o o' : Obj} {pre post : List (Addr × Obj)} (hn : ((pre ++ (d, o) :: post).map (·.1)).Nodup) : Upd d o o' (pre ++ (d, o) :: post) (pre ++ (d, o') :: post) := by
  refine ofQ ?_; simp (disch := (k_dflt (
  refine hold ?_
  induction pre with
  | nil =>
    refine .head fun p hp e => ?_
    rw [List.nil_append, List.map_cons, List.nodup_cons] at hn
    have hm := List.mem_map_of_mem (f := fun q : Addr × Obj => q.1) hp
    rw [e] at hm
    exact hn.1 hm
  | cons q pre ih =>
    rw [List.cons_append, List.map_cons, List.nodup_cons] at hn
    refine .tail (fun e => hn.1 ?_) (ih hn.2)
    rw [e]; simp
  ))) only [↓quiet]
inductive Dc (st : St) (d : Addr) (fs : List (Str × Value)) : Prop
  | p {o} : st.P d o → IsFld o fs → Dc st d fs
  | m {o} : Mem d o st.M → IsFld o fs → Dc st d fs
theorem Rp.dc {c : Cx} {F : Frm c} {st : St} {s : Shared} (r : Rp F st s) {d : Addr} {fs : List (Str × Value)} (h : Dc st d fs) : ∃ o, s.heap.get? d = some o ∧ IsFld o fs := by
  cases h with
  | p a b => exact ⟨_, r.p a, b⟩
  | m a b => exact ⟨_, r.m a.mem, b⟩
structure Ins (P : Pset) (x C : Addr) (fs : List (Str × Value)) : Prop where
  ex : ∃ dx o, P x (instObj C dx) ∧ P dx o ∧ IsFld o fs
theorem Ins.mono {P P' : Pset} {x C : Addr} {fs : List (Str × Value)} (l : Le P P') (h : Ins P x C fs) : Ins P' x C fs :=
  let ⟨dx, o, a, b, c⟩ := h.ex; ⟨dx, o, l _ _ a, l _ _ b, c⟩

section
variable {α β : Type} {c : Cx} {F : Frm c} {D : FnD} {n : Nat} {fr₀ : List (Str × Option Value)} {P₀ : Pset} {M₀ : List (Addr × Obj)}

noncomputable def ClsA (K : Frag) (C : Addr) (x : Str) : Prop := plainGet K C x = true ∧ hasDictIn K C = true ∧ ∃ attr, findIn K (.ref C) x = some attr ∧ noGet K attr = true
noncomputable def ClsM (K : Frag) (C : Addr) (x : Str) (f : Addr) : Prop := plainGet K C x = true ∧ findIn K (.ref C) x = some (some (.ref f)) ∧ isFn K (.ref f) = true ∧ keepIn K (.ref f) = true
noncomputable def ClsS (K : Frag) (C : Addr) (x : Str) : Prop := findIn K (.ref C) "__setattr__" = some (some (.builtin "object.__setattr__")) ∧ plainOver K C = true ∧ takerIn K C x = some none ∧ hasDictIn K C = true

theorem wGetD (H : Ok F D n) {x C dx : Addr} {fs : List (Str × Value)} {name : Str} {v : Value} {e : Bool} {Q : Value → St → Prop} (i : P₀ x (instObj C dx)) (d : Dc (⟨fr₀, P₀, M₀⟩ : St) dx fs) (ca : ClsA c.K C name) (a : At name v fs)
    (h : Q v (⟨fr₀, P₀, M₀⟩ : St)) (hv : handedIn v = true) : WP F (getAttr (.ref x) name e) (⟨fr₀, P₀, M₀⟩ : St) Q := by
  refine ofQ ?_; simp (disch := (k_dflt (
  refine hold ?_
  intro s r
  obtain ⟨o, a2, ⟨es, k, rfl, hf, _⟩, hn⟩ := r.dc d
  obtain ⟨c1, c2, attr, c3, c4⟩ := ca
  exact get_own r.fr H.bs.k ⟨r.p i, rfl, rfl, a2⟩ c1 c2 c3 c4 (by rw [hf.get, a.lookup hn]) hv ⟨(⟨fr₀, P₀, M₀⟩ : St), r.toks _, h⟩
  ))) only [↓quiet]
theorem wGet (H : Ok F D n) {x C : Addr} {fs : List (Str × Value)} {name : Str} {v : Value} {e : Bool} {Q : Value → St → Prop} (i : Ins P₀ x C fs) (ca : ClsA c.K C name) (a : At name v fs)
    (h : Q v (⟨fr₀, P₀, M₀⟩ : St)) (hv : handedIn v = true) : WP F (getAttr (.ref x) name e) (⟨fr₀, P₀, M₀⟩ : St) Q :=
  let ⟨_, _, a1, a2, f⟩ := i.ex; wGetD H a1 (.p a2 f) ca a h hv
theorem wMethD (H : Ok F D n) {x C f dx : Addr} {fs : List (Str × Value)} {name : Str} {pl : Sem Bool} {Q : Value × List Value → St → Prop} (i : P₀ x (instObj C dx)) (d : Dc (⟨fr₀, P₀, M₀⟩ : St) dx fs) (cm : ClsM c.K C name f) (hno : (fs.map (·.1)).elem name = false)
    (h : Q (.ref f, [.ref x]) (⟨fr₀, P₀, M₀⟩ : St)) : WP F (getMethod (.ref x) name pl) (⟨fr₀, P₀, M₀⟩ : St) Q := by
  refine ofQ ?_; simp (disch := (k_dflt (
  refine hold ?_
  intro s r
  obtain ⟨o, a2, ⟨es, k, rfl, hf, _⟩, hn⟩ := r.dc d
  exact method_inst r.fr H.bs.k ⟨r.p i, rfl, rfl, a2⟩ cm.1 cm.2.1 cm.2.2.1 (by rw [hf.get, lookup_none (fun hm => by rw [List.elem_eq_true_of_mem hm] at hno; cases hno)]) ⟨(⟨fr₀, P₀, M₀⟩ : St), r, h⟩
  ))) only [↓quiet]
theorem wMeth (H : Ok F D n) {x C f : Addr} {fs : List (Str × Value)} {name : Str} {pl : Sem Bool} {Q : Value × List Value → St → Prop} (i : Ins P₀ x C fs) (cm : ClsM c.K C name f) (hno : (fs.map (·.1)).elem name = false)
    (h : Q (.ref f, [.ref x]) (⟨fr₀, P₀, M₀⟩ : St)) : WP F (getMethod (.ref x) name pl) (⟨fr₀, P₀, M₀⟩ : St) Q :=
  let ⟨_, _, a1, a2, f⟩ := i.ex; wMethD H a1 (.p a2 f) cm hno h
theorem wSet (H : Ok F D n) {x C dx : Addr} {o : Obj} {fs fs' : List (Str × Value)} {name : Str} {v : Value} {Q : Unit → St → Prop} {M' : Obj → List (Addr × Obj)}
    (i : P₀ x (instObj C dx)) (U : ∀ o', Mp dx o o' M₀ (M' o')) (hf : IsFld o fs) (cs : ClsS c.K C name) (hp : putF name v fs = fs') (hn' : (fs'.map (·.1)).Nodup) (hlen : fs'.length ≤ 800)
    (h : ∀ o', IsFld o' fs' → Q () ⟨fr₀, P₀, M' o'⟩) : WP F (setAttr (.ref x) name v) (⟨fr₀, P₀, M₀⟩ : St) Q := by
  refine ofQ ?_; simp (disch := (k_dflt (
  refine hold ?_
  intro s r
  obtain ⟨⟨es, k, rfl, hfl, hl⟩, hn⟩ := hf
  obtain ⟨c1, c2, c3, c4⟩ := cs
  obtain ⟨T, N, nd, e⟩ := r.ex
  have hfl' := hfl.put name (PyData.keyHash c.w.params name) (s.toks + 1) v
  rw [hp] at hfl'
  have hlen' := hfl'.len
  have hU := U (dictOf (putL name (PyData.keyHash c.w.params name) (.str name (s.toks + 1)) v es) (putN name es k))
  obtain ⟨pre, post, e1, e2⟩ := hU.split
  have U' : Upd dx (dictOf es k) (dictOf (putL name (PyData.keyHash c.w.params name) (.str name (s.toks + 1)) v es) (putN name es k)) (T ++ M₀) (T ++ M' (dictOf (putL name (PyData.keyHash c.w.params name) (.str name (s.toks + 1)) v es) (putN name es k))) := by
    rw [e1] at nd
    rw [e1, e2, ← List.append_assoc, ← List.append_assoc] at *
    exact upd_mk nd
  have hkeys : (M' (dictOf (putL name (PyData.keyHash c.w.params name) (.str name (s.toks + 1)) v es) (putN name es k))).map (·.1) = M₀.map (·.1) := by rw [e1, e2]; simp
  refine set_dict r.fr H.bs.k N ⟨r.p i, rfl, rfl, r.m hU.mem⟩ rfl c1 c2 c3 c4 (by rw [hfl.get]; rfl) rfl U' (by omega) fun h' f' n' => ?_
  refine ⟨⟨fr₀, P₀, M' (dictOf (putL name (PyData.keyHash c.w.params name) (.str name (s.toks + 1)) v es) (putN name es k))⟩, ⟨f', ⟨T, n', ?_, e⟩, r.z, r.ks, r.gens, r.os⟩, h _ ⟨⟨_, _, rfl, hfl', by omega⟩, hn'⟩⟩
  rw [List.map_append] at nd ⊢
  show (List.map (fun x => x.1) T ++ List.map (fun x => x.1) (M' _)).Nodup
  rw [hkeys]; exact nd
  ))) only [↓quiet]
noncomputable abbrev kAttr {c : Cx} (F : Frm c) (attr : Str) (Q : Value → St → Prop) (o : Value) (st : St) : Prop := WP F (getAttr o attr true) st Q
end
theorem lookup_mem {α : Type} {x : Str} {v : α} {l : List (Str × α)} : (l.map (·.1)).Nodup → (x, v) ∈ l → l.lookup x = some v := by
  refine ofQ ?_; simp (disch := (k_dflt (
  refine hold ?_
  induction l with
  | nil => intro _ h; cases h
  | cons p r ih =>
    intro hn h
    have hn' := List.nodup_cons.mp hn
    rcases List.mem_cons.mp h with e | h
    · rw [← e, List.lookup_cons, beq_self_eq_true]
    · have hm : x ∈ r.map (·.1) := List.mem_map.mpr ⟨_, h, rfl⟩
      have hne : x ≠ p.1 := fun e => hn'.1 (show p.1 ∈ r.map (·.1) from e ▸ hm)
      rw [List.lookup_cons, beq_eq_false_iff_ne.mpr hne]
      exact ih hn'.2 h
  ))) only [↓quiet]
theorem filter_zip {l : List (Str × Value)} (ps : List Str) : ∀ (vs : List Value), vs.length = ps.length → (∀ p ∈ ps.zip vs, l.lookup p.1 = some p.2) →
    ps.filterMap (fun n => (l.lookup n).map (n, ·)) = ps.zip vs ∧ (ps.filter fun n => (l.lookup n).isNone) = [] := by
  refine ofQ ?_; simp (disch := (k_dflt (
  refine hold ?_
  induction ps with
  | nil => intro vs _ _; exact ⟨rfl, rfl⟩
  | cons p ps IH =>
    intro vs hl h
    cases vs with
    | nil => cases hl
    | cons v vs =>
      have h1 : l.lookup p = some v := h (p, v) (.head _)
      have ih := IH vs (Nat.succ.inj hl) fun q hq => h q (.tail _ hq)
      refine ⟨?_, ?_⟩
      · rw [List.filterMap_cons, h1, ih.1]; rfl
      · rw [List.filter_cons, h1]; exact ih.2
  ))) only [↓quiet]
theorem zip_keys (ps : List Str) : ∀ (vs : List Value), vs.length = ps.length → (ps.zip vs).map (·.1) = ps := by
  induction ps with
  | nil => intro vs _; rfl
  | cons p ps IH =>
    intro vs h
    cases vs with
    | nil => cases h
    | cons v vs => exact congrArg (List.cons p) (IH vs (Nat.succ.inj h))
theorem bind_pos {fd : FuncData} {args : List Value} {ps : List Str} (h1 : fd.params.posonlyargs = []) (h2 : fd.params.args.map (·.arg) = ps) (h3 : fd.params.vararg = none) (h4 : fd.params.kwonlyargs = []) (h5 : fd.params.kwarg = none)
    (hd : fd.defaults = .none) (hn : ps.Nodup) (hl : args.length = ps.length) : bindArgs fd ⟨args, []⟩ = pure (ps.zip args) := by
  refine ofQ ?_; simp (disch := (k_dflt (
  refine hold ?_
  have hz := filter_zip (l := ps.zip args) ps args hl fun p hp => lookup_mem (by rw [zip_keys ps args hl]; exact hn) hp
  obtain ⟨nm, q, ⟨po, ar, va, ko, kd, kw, df⟩, body, scope, g, cl, dfl, kwd, doc, pm, an, cd, ct, bi⟩ := fd
  obtain rfl : po = [] := h1
  obtain rfl : va = none := h3
  obtain rfl : ko = [] := h4
  obtain rfl : kw = none := h5
  obtain rfl : dfl = .none := hd
  obtain rfl : ar.map (·.arg) = ps := h2
  refine (if_neg ?h1).trans ((if_neg ?h2).trans ?h3)
  case h1 => exact fun e => absurd hl (Nat.ne_of_gt (of_decide_eq_true (Bool.and_eq_true_iff.mp e).1))
  case h2 =>
    have hm : List.filter (fun n => (List.lookup n ((ar.map (·.arg)).zip args)).isNone) ((ar.map (·.arg)).take ((ar.map (·.arg)).length - (List.drop (0 - (ar.map (·.arg)).length) ([] : List Value)).length)) = [] := by
      rw [List.drop_nil]
      exact (congrArg (List.filter _) List.take_length).trans hz.2
    exact fun e => absurd ((congrArg (fun l : List Str => !l.isEmpty) hm).symm.trans e) Bool.false_ne_true
  case h3 =>
    have hm : (List.drop ((ar.map (·.arg)).length - (List.drop (0 - (ar.map (·.arg)).length) ([] : List Value)).length) (ar.map (·.arg))).zip (List.drop (0 - (ar.map (·.arg)).length) ([] : List Value)) = [] := by
      rw [List.drop_nil]
      exact List.zip_nil_right
    refine (congrArg (fun l : List (Str × Value) => Bind.bind (forIn l _ _) _) hm).trans ?_
    refine congrArg (fun x => (pure x : Sem (List (Str × Value)))) (Eq.trans ?_ hz.1)
    exact congrArg (List.filterMap _) (List.append_nil _)
  ))) only [↓quiet]
structure FnRec where
  name : Str
  qual : Str
  params : Arguments
  body : List Stmt
  scope : Scope
  ps : List Str
  ls : List Str
  d : FnD

noncomputable def FnAt (K : Frag) (f : Addr) (δ : FnRec) : Prop :=
  ∃ oc od osl doc pm an cdv ct, K.lookup f = some ⟨oc, od, .func (fnOf δ.name δ.qual δ.params δ.body δ.scope .none .none doc pm an cdv ct), osl⟩ ∧ codeIn K cdv δ.qual = true

structure FnOk (δ : FnRec) : Prop where
  co : δ.scope.isCoroutine = false
  gen : δ.scope.isGenerator = false
  kd : δ.scope.kind = .function
  cell : ∀ x ∈ δ.scope.names, x.2 ≠ .cell
  nd : (δ.ps ++ δ.ls).Nodup
  lc : ∀ x ∈ δ.ps ++ δ.ls, δ.scope.names.lookup x = some .local ∧ (x == ("__debug__" : Str)) = false
  gl : ∀ p ∈ δ.d.gl, δ.scope.names.lookup p.1 = some .globalImplicit ∧ (p.1 == ("__debug__" : Str)) = false
  bl : ∀ p ∈ δ.d.bl, δ.scope.names.lookup p.1 = some .globalImplicit ∧ (p.1 == ("__debug__" : Str)) = false ∧ bootBuiltins p.1 = some p.2 ∧ p.1 ≠ ("__name__" : Str)
  p1 : δ.params.posonlyargs = []
  p2 : δ.params.args.map (·.arg) = δ.ps
  p3 : δ.params.vararg = none
  p4 : δ.params.kwonlyargs = []
  p5 : δ.params.kwarg = none
structure FnGl (K : Frag) (δ : FnRec) : Prop where
  gl : ∀ p ∈ δ.d.gl, nsIn K mainGlobals p.1 = some (some p.2)
  bl : ∀ p ∈ δ.d.bl, nsIn K mainGlobals p.1 = some none
structure Fn (K : Frag) (f : Addr) (δ : FnRec) : Prop where
  at_ : FnAt K f δ
  ok : FnOk δ
  gl : FnGl K δ

noncomputable def fr0 (ps : List Str) (vs : List Value) (ls : List Str) : List (Str × Option Value) := (ps.zip vs).map (fun p => (p.1, some p.2)) ++ ls.map fun l => (l, none)
theorem fr0_keys (ps : List Str) (vs : List Value) (ls : List Str) (h : vs.length = ps.length) : (fr0 ps vs ls).map (·.1) = ps ++ ls := by
  refine ofQ ?_; simp (disch := (k_dflt (
  refine hold ?_
  unfold fr0
  rw [List.map_append, List.map_map, List.map_map]
  have e : (List.map ((fun x : Str × Option Value => x.1) ∘ fun p : Str × Value => (p.1, some p.2)) (ps.zip vs)) = ps := by
    have : ((fun x : Str × Option Value => x.1) ∘ fun p : Str × Value => (p.1, some p.2)) = fun p => p.1 := rfl
    rw [this]; exact zip_keys ps vs h
  rw [e]
  congr 1
  have : ((fun x : Str × Option Value => x.1) ∘ fun l : Str => (l, (none : Option Value))) = id := rfl
  rw [this, List.map_id]
  ))) only [↓quiet]
theorem lookup_rev {α : Type} {x : Str} {l : List (Str × α)} (hn : (l.map (·.1)).Nodup) : l.reverse.lookup x = l.lookup x := by
  refine ofQ ?_; simp (disch := (k_dflt (
  refine hold ?_
  cases h : l.lookup x with
  | some v =>
    have hm : (x, v) ∈ l := by
      have : ∀ {l : List (Str × α)}, l.lookup x = some v → (x, v) ∈ l := by
        intro l
        induction l with
        | nil => intro h; cases h
        | cons p l ih =>
          obtain ⟨y, u⟩ := p
          intro h
          rw [List.lookup_cons] at h
          cases e : x == y with
          | true => rw [e] at h; cases h; rw [eq_of_beq e]; exact .head _
          | false => rw [e] at h; exact .tail _ (ih h)
      exact this h
    exact lookup_mem (by rw [List.map_reverse]; exact (List.reverse_perm _).nodup_iff.mpr hn) (List.mem_reverse.mpr hm)
  | none =>
    have key : ∀ {l : List (Str × α)}, l.lookup x = none ↔ x ∉ l.map (·.1) := by
      intro l
      induction l with
      | nil => simp
      | cons p l ih =>
        obtain ⟨y, u⟩ := p
        rw [List.lookup_cons, List.map_cons, List.mem_cons, not_or]
        cases e : x == y with
        | true => simp [eq_of_beq e]
        | false => simp only [ih, beq_eq_false_iff_ne.mp e, ne_eq, not_false_eq_true, true_and]
    rw [key, List.map_reverse, List.mem_reverse]
    exact key.mp h
  ))) only [↓quiet]
theorem fr0_look (ps : List Str) (vs : List Value) (ls : List Str) (x : Str) : (ps.zip vs).lookup x = look (fr0 ps vs ls) x := by
  refine ofQ ?_; simp (disch := (k_dflt (
  refine hold ?_
  unfold look fr0
  generalize ps.zip vs = l
  induction l with
  | nil =>
    induction ls with
    | nil => rfl
    | cons y ls ih =>
      rw [List.map_nil, List.nil_append] at ih ⊢
      rw [List.map_cons, List.lookup_cons]
      cases e : x == y with
      | true => rfl
      | false => exact ih
  | cons p l ih =>
    rw [List.map_cons, List.cons_append, List.lookup_cons, List.lookup_cons]
    cases e : x == p.1 with
    | true => rfl
    | false => exact ih
  ))) only [↓quiet]
noncomputable def retv : Flow → Value
  | .ret v => v
  | _ => .none


section
variable {α β : Type} {c : Cx} {F : Frm c} {D : FnD} {n : Nat} {st : St}

noncomputable def Ret (fr : List (Str × Option Value)) (Q : Value → St → Prop) (fl : Flow) (st : St) : Prop := Q (retv fl) ⟨fr, st.P, st.M⟩
theorem Ret.rt {fr fr' : List (Str × Option Value)} {P : Pset} {M : List (Addr × Obj)} {Q : Value → St → Prop} {v : Value} (h : Q v ⟨fr, P, M⟩) : Ret fr Q (.ret v) ⟨fr', P, M⟩ := h
theorem Ret.nx {fr fr' : List (Str × Option Value)} {P : Pset} {M : List (Addr × Obj)} {Q : Value → St → Prop} (h : Q .none ⟨fr, P, M⟩) : Ret fr Q .next ⟨fr', P, M⟩ := h
noncomputable def Body (c : Cx) (n : Nat) (st : St) (δ : FnRec) (args : List Value) (Q : Value → St → Prop) : Prop :=
  ∀ F' : Frm c, Ok F' δ.d n → WP F' (execs δ.body F'.env) ⟨fr0 δ.ps args δ.ls, st.P, st.M⟩ (Ret st.fr Q)

theorem def_core (H : Ok F D (n + 1)) {A' : Around} (hA : A'.handled = none ∧ A'.depth ≤ F.A.depth + 2 ∧ A'.units ≤ F.A.units + 6) {f : Addr} {δ : FnRec} (fn : Fn c.K f δ) {args : List Value} (hl : args.length = δ.ps.length)
    {Q : Value → St → Prop} {R : Result → Shared → Prop} {s : Shared} (r : Rp F st s) (hR : ∀ v s', (∃ st', Rp F st' s' ∧ Q v st') → R (.ok (.ret v)) s')
    (body : Body c n st δ args Q) :
    codeAny (model P0 c.w) A' (.call (.ref f) ⟨args, []⟩) R s := by
  refine ofQ ?_; simp (disch := (k_dflt (
  refine hold ?_
  obtain ⟨⟨oc, od, osl, doc, pm, an, cdv, ct, ho, hcd⟩, ok, gl⟩ := fn
  have hX := H.bs.k.keeps r.fr.keep
  have hd1 := H.dp
  have hd2 := H.un
  have hbind := bind_pos (fd := fnOf δ.name δ.qual δ.params δ.body δ.scope .none .none doc pm an cdv ct) ok.p1 ok.p2 ok.p3 ok.p4 ok.p5 rfl (List.nodup_append.mp ok.nd).1 hl
  have hzk := zip_keys δ.ps args hl
  refine codeAny_call_def (fd := fnOf δ.name δ.qual δ.params δ.body δ.scope .none .none doc pm an cdv ct) (body := δ.body) (binds := δ.ps.zip args) (by show A'.depth < 1000; lia) (hX _ _ ho) rfl
    (H.bs.t.nolimit.keeps r.fr.keep) (codeRec_of hX hcd) rfl (BindsTo.of_eq hbind) ok.cell (fun x hx => (ok.lc x.1 (List.mem_append.mpr (.inl (hzk ▸ List.mem_map_of_mem hx)))).1) (fun h₁ hns hk₁ => ?_) ok.co ok.gen ok.kd
  have hMN := r.mN
  have hMD := r.mD
  have hLh : ∃ oL, s.heap.get? F.env.locals = some oL := let ⟨oL, _, _, hL, _⟩ := r.fr.ns; ⟨oL, hL⟩
  obtain ⟨oL₀, hL₀⟩ := hLh
  have hadr : ∀ b o, F.g.get? b = some o → b ∉ st.M.map (·.1) := fun b o e q => by
    obtain ⟨p, hp, rfl⟩ := List.mem_map.mp q
    rw [(hMN p hp).2.2] at e; cases e
  have hst : ∀ b o, F.g.get? b = some o → (hideAll s.heap (st.M.map (·.1))).get? b = some o := fun b o e => hideAll_get _ (r.fr.keep _ _ e) (hadr b o e)
  have hLM : F.env.locals ∉ st.M.map (·.1) := fun q => by
    obtain ⟨p, hp, e⟩ := List.mem_map.mp q
    exact (hMN p hp).2.1 e
  have hLg₀ : (hideAll s.heap (st.M.map (·.1))).get? F.env.locals = some oL₀ := hideAll_get _ hL₀ hLM
  let F' : Frm c := ⟨A'.deeper (callEnv (fnOf δ.name δ.qual δ.params δ.body δ.scope .none .none doc pm an cdv ct) s.heap.objs.size f), callEnv (fnOf δ.name δ.qual δ.params δ.body δ.scope .none .none doc pm an cdv ct) s.heap.objs.size f, hideAll s.heap (st.M.map (·.1)), δ.ps ++ δ.ls, F.env.locals :: F.Z⟩
  have ok' : Ok F' δ.d n := by
    refine ⟨⟨H.bs.k.keeps hst, H.bs.t.keeps hst⟩, ok.kd, rfl, rfl, ok.nd, ok.lc, fun p hp => ⟨(ok.gl p hp).1, (ok.gl p hp).2, gl.gl p hp⟩, fun p hp => ⟨(ok.bl p hp).1, (ok.bl p hp).2.1, gl.bl p hp, (ok.bl p hp).2.2.1, (ok.bl p hp).2.2.2⟩, hA.1, fun z hz => ?_, fun z hz => ?_, ?_, ?_⟩
    · rcases List.mem_cons.mp hz with rfl | hz
      · exact ⟨oL₀, hLg₀⟩
      · obtain ⟨o, e⟩ := H.hz z hz
        exact ⟨o, hst _ _ e⟩
    · rcases List.mem_cons.mp hz with rfl | hz
      · cases hq : c.K.lookup F.env.locals with
        | none => rfl
        | some o => exact absurd (Heap.lt_size (H.bs.k _ _ hq)) (Nat.not_lt.mpr r.fr.above)
      · exact H.zk z hz
    · show (A'.depth + 1) + 4 * n < 900; lia
    · show (A'.units + 3) + 16 * n < 9000; lia
  have r' : Rp F' ⟨fr0 δ.ps args δ.ls, st.P, st.M⟩ { s with heap := h₁, toks := s.toks + (δ.ps.zip args).length } := by
    refine ⟨⟨?_, fun b o e => hk₁ b o (of_hideAll _ e), Nat.le_of_eq (hideAll_size _ _)⟩, ⟨[], fun p hp => ?_, hMD, fun a o h => .inr ?_⟩, fun a o h hz => ?_, fr0_keys _ _ _ hl, r.gens, r.os⟩
    · have e : (fun x => (δ.ps.zip args).reverse.lookup x) = look (fr0 δ.ps args δ.ls) := by
        funext x
        rw [lookup_rev (by rw [hzk]; exact (List.nodup_append.mp ok.nd).1)]
        exact fr0_look _ _ _ x
      rw [← e]; exact hns
    · have hp' : p ∈ st.M := hp
      have N := hMN p hp'
      exact ⟨hk₁ _ _ N.1, Nat.ne_of_lt (Heap.lt_size N.1), hideAll_none _ (List.mem_map_of_mem hp')⟩
    · exact hideAll_get _ (r.p h) (r.pM h).2
    · rcases List.mem_cons.mp hz with e | hz
      · exact (r.pM h).1 e
      · exact r.z a o h hz
  refine wpAny_mono (body F' ok' _ r') (fun fl s' hfl => ?_) fun _ _ e => e.elim
  obtain ⟨st', r₂, q⟩ := hfl
  obtain ⟨oL, es, ep, hL, hLd, hLk, hLf⟩ := r.fr.ns
  have hLg : F'.g.get? F.env.locals = some oL := hideAll_get _ hL hLM
  suffices h9 : R (.ok (.ret (retv fl))) s' by
    cases fl <;> exact h9
  refine hR _ _ ⟨⟨st.fr, st'.P, st'.M⟩, ?_, q⟩
  have hg2 : ∀ b o, F.g.get? b = some o → s'.heap.get? b = some o := fun b o e => r₂.fr.keep _ _ (hst b o e)
  have f₂ : Fr F.g F.env.locals s'.heap (look st.fr) := ⟨⟨oL, es, ep, r₂.fr.keep _ _ hLg, hLd, hLk, hLf⟩, hg2, r.fr.above⟩
  have n₂ : News F.g F.env.locals s'.heap st'.M := fun p hp => by
    have N := r₂.mN p hp
    refine ⟨N.1, fun e => ?_, ?_⟩
    · have := N.2.2; rw [e, hLg] at this; cases this
    · cases q : F.g.get? p.1 with
      | none => rfl
      | some o => have := N.2.2; rw [hst _ _ q] at this; cases this
  refine ⟨f₂, canon f₂ n₂ r₂.mD (fun a o h => ⟨r₂.p h, fun e => r₂.z a o h (e ▸ .head _), (r₂.pM h).2⟩), fun a o h hz => r₂.z a o h (.tail _ hz), r.ks, r₂.gens, r₂.os⟩
  ))) only [↓quiet]
theorem wDef {fr₀ : List (Str × Option Value)} {P₀ : Pset} {M₀ : List (Addr × Obj)} (H : Ok F D (n + 1)) {f : Addr} {δ : FnRec} (fn : Fn c.K f δ) {args : List Value} {Q : Value → St → Prop} (hl : args.length = δ.ps.length)
    (body : ∀ F' : Frm c, Ok F' δ.d n → WP F' (execs δ.body F'.env) ⟨fr0 δ.ps args δ.ls, P₀, M₀⟩ (Ret fr₀ Q)) : WP F (call (.ref f) args) (⟨fr₀, P₀, M₀⟩ : St) Q :=
  fun _ r => wpAny_call (def_core H ⟨H.hh, by lia, by lia⟩ fn hl r (fun _ _ h => h) body)

theorem wMake {fr₀ : List (Str × Option Value)} {P₀ : Pset} {M₀ : List (Addr × Obj)} (H : Ok F D (n + 1)) {C fI : Addr} {δ : FnRec} (hm : makesIn c.K C = true) (hi : findIn c.K (.ref C) "__init__" = some (some (.ref fI))) (hf : isFn c.K (.ref fI) = true) (fn : Fn c.K fI δ) {args : List Value} {Q : Value → St → Prop} (hl : args.length + 1 = δ.ps.length)
    (body : ∀ x dx P', Le P₀ P' → P' x (instObj C dx) → ∀ F' : Frm c, Ok F' δ.d n → WP F' (execs δ.body F'.env) ⟨fr0 δ.ps (.ref x :: args) δ.ls, P', M₀ ++ [(dx, dictOf [] 0)]⟩ (Ret fr₀ (fun v st' => v = .none ∧ Q (.ref x) st'))) : WP F (call (.ref C) args) (⟨fr₀, P₀, M₀⟩ : St) Q := by
  refine ofQ ?_; simp (disch := (k_dflt (
  refine hold ?_
  intro s r
  obtain ⟨T, N, nd, e⟩ := r.ex
  refine wpAny_call (W.make_K r.fr N (H.bs.k.keeps r.fr.keep) hm hi (beq_iff_eq.mp hf) fun x dx h' f' n' l1 l2 => ?_)
  have r1 : Rp F ⟨fr₀, fun b q => P₀ b q ∨ (b = x ∧ q = instObj C dx), M₀ ++ [(dx, dictOf [] 0)]⟩ { s with heap := h' } := by
    refine ⟨f', ⟨(x, instObj C dx) :: T, fun p hp => n' p ?_, ?_, fun b q h => ?_⟩, fun b q h => ?_, r.ks, r.gens, r.os⟩
    · simp only [List.mem_append, List.mem_cons, List.cons_append, List.not_mem_nil, or_false] at hp ⊢
      rcases hp with h | h | h | h
      · exact .inl h
      · exact .inr (.inr (.inl h))
      · exact .inr (.inr (.inr h))
      · exact .inr (.inl h)
    · have e : (((x, instObj C dx) :: T ++ (M₀ ++ [(dx, dictOf [] 0)])).map (·.1)).Perm (((x, instObj C dx) :: (dx, dictOf [] 0) :: (T ++ M₀)).map (·.1)) := by
        refine List.Perm.map _ ?_
        rw [List.cons_append, ← List.append_assoc]
        exact List.Perm.cons _ (List.perm_append_comm (l₁ := T ++ M₀) (l₂ := [(dx, dictOf [] 0)]))
      show (((x, instObj C dx) :: T ++ (M₀ ++ [(dx, dictOf [] 0)])).map (·.1)).Nodup
      rw [e.nodup_iff, List.map_cons, List.map_cons, List.nodup_cons, List.nodup_cons]
      refine ⟨fun hm => ?_, fun hm => ?_, nd⟩
      · rcases List.mem_cons.mp hm with e | hm
        · exact absurd e (Nat.ne_of_gt l2)
        · obtain ⟨p, hp, e⟩ := List.mem_map.mp hm
          have h1 : p.1 < dx := l1 p hp
          have e' : p.1 = x := e
          rw [e'] at h1
          exact absurd h1 (Nat.lt_asymm l2)
      · obtain ⟨p, hp, e⟩ := List.mem_map.mp hm
        have h1 : p.1 < dx := l1 p hp
        have e' : p.1 = dx := e
        rw [e'] at h1
        exact absurd h1 (Nat.lt_irrefl _)
    · rcases h with h | ⟨rfl, rfl⟩
      · exact (e b q h).imp (.tail _) id
      · exact .inl (.head _)
    · rcases h with h | ⟨rfl, rfl⟩
      · exact r.z b q h
      · exact fresh_z H (n' _ (.head _)).2.2
  refine def_core (A' := F.A.under (Code.builtin "type.__call__" { pos := Value.ref C :: args })) (Q := fun v st' => v = .none ∧ Q (.ref x) st') (st := ⟨fr₀, fun b q => P₀ b q ∨ (b = x ∧ q = instObj C dx), M₀ ++ [(dx, dictOf [] 0)]⟩) H ⟨H.hh, ?_, ?_⟩ fn (args := .ref x :: args) hl r1 ?_ ?_
  · show F.A.depth + 1 ≤ _; lia
  · show F.A.units + 1 ≤ _; lia
  · rintro v s' ⟨st', r', rfl, q⟩
    exact ⟨rfl, st', r', q⟩
  · exact body x dx _ (fun _ _ h => .inl h) (.inr ⟨rfl, rfl⟩)
  ))) only [↓quiet]
end
noncomputable abbrev tupO (vs : List Value) : Obj := { cls := .type "tuple", data := .seq vs.toArray }

section
variable {α β : Type} {c : Cx} {F : Frm c} {D : FnD} {n : Nat} {st : St}

theorem Rp.kept (r : Rp F st s) {h' : Heap} (hk : ∀ b o, s.heap.get? b = some o → h'.get? b = some o) (t : Nat) : Rp F st { s with heap := h', toks := t } := by
  refine ofQ ?_; simp (disch := (k_dflt (
  refine hold ?_
  obtain ⟨T, N, nd, e⟩ := r.ex
  obtain ⟨oL, a1, a2, hL, a3⟩ := r.fr.ns
  exact ⟨⟨⟨oL, a1, a2, hk _ _ hL, a3⟩, fun b o e => hk _ _ (r.fr.keep b o e), r.fr.above⟩, ⟨T, fun p hp => ⟨hk _ _ (N p hp).1, (N p hp).2⟩, nd, e⟩, r.z, r.ks, r.gens, r.os⟩
  ))) only [↓quiet]
theorem Rp.lt (r : Rp F st s) {T : List (Addr × Obj)} (N : News F.g F.env.locals s.heap (T ++ st.M)) : ∀ p ∈ T ++ st.M, p.1 < s.heap.objs.size := fun p hp => Heap.lt_size (N p hp).1
theorem Rp.pushP (H : Ok F D n) (r : Rp F st s) {o : Obj} (hf : o.isFreed = false) (t : Nat) : Rp F ⟨st.fr, fun b q => st.P b q ∨ (b = s.heap.objs.size ∧ q = o), st.M⟩ { s with heap := s.heap.push o, toks := t } := by
  obtain ⟨T, N, nd, e⟩ := r.ex
  exact r.newP H nd e (r.lt N) (r.fr.push o) (N.push r.fr o hf) (fun _ _ h => h) t
theorem Rp.pushM (r : Rp F st s) {o : Obj} (hf : o.isFreed = false) (t : Nat) : Rp F ⟨st.fr, st.P, st.M ++ [(s.heap.objs.size, o)]⟩ { s with heap := s.heap.push o, toks := t } := by
  obtain ⟨T, N, nd, e⟩ := r.ex
  exact r.newM nd e (r.lt N) (r.fr.push o) (N.push r.fr o hf) t
theorem Rp.tup (r : Rp F st s) {a : Addr} {vs : List Value} (h : st.P a (tupO vs)) : IsTup s.heap a vs.toArray := ⟨_, r.p h, rfl, _, rfl⟩
theorem Rp.lstP (r : Rp F st s) {a : Addr} {vs : Array Value} {k : Nat} (h : st.P a (listOf vs k)) : s.heap.IsList a vs := ⟨_, r.p h, rfl, _, rfl⟩
theorem Rp.lstM (r : Rp F st s) {a : Addr} {vs : Array Value} {k : Nat} (h : Mem a (listOf vs k) st.M) : s.heap.IsList a vs := ⟨_, r.m h.mem, rfl, _, rfl⟩
end

section
variable {α β : Type} {c : Cx} {F : Frm c} {D : FnD} {n : Nat} {fr₀ : List (Str × Option Value)} {P₀ : Pset} {M₀ : List (Addr × Obj)}
noncomputable def wArgs (F : Frm c) (pos : Pos) (es : List Expr) : Sem (List Value) := spliced (backTo pos (starEach es F.env))
noncomputable abbrev kCons (v : Value) (Q : List Value → St → Prop) (vs : List Value) : St → Prop := Q (v :: vs)
noncomputable abbrev kArgs {c : Cx} (F : Frm c) (pos : Pos) (rest : List Expr) (Q : List Value → St → Prop) (v : Value) (st : St) : Prop := WP F (wArgs F pos rest) st (kCons v Q)
noncomputable abbrev kCall {c : Cx} (F : Frm c) (pos : Pos) (args : List Expr) (Q : Value → St → Prop) (f : Value) (st : St) : Prop := WP F (callWith pos f [] (backTo pos (starEach args F.env)) []) st Q
noncomputable abbrev kCallX {c : Cx} (F : Frm c) (pos : Pos) (args : List Expr) (Q : Value → St → Prop) (fx : Value × List Value) (st : St) : Prop := WP F (callWith pos fx.1 fx.2 (backTo pos (starEach args F.env)) []) st Q
noncomputable abbrev kCallM {c : Cx} (F : Frm c) (pos : Pos) (name : Str) (pl : Sem Bool) (args : List Expr) (Q : Value → St → Prop) (ov : Value) (st : St) : Prop := WP F (getMethod ov name pl) st (kCallX F pos args Q)
noncomputable abbrev kWith {c : Cx} (F : Frm c) (f : Value) (first : List Value) (Q : Value → St → Prop) (vs : List Value) (st : St) : Prop := WP F (call f (first ++ vs)) st Q
noncomputable abbrev kWithn {c : Cx} (F : Frm c) (f : Value) (Q : Value → St → Prop) (vs : List Value) (st : St) : Prop := WP F (call f vs) st Q
noncomputable abbrev kWith1 {c : Cx} (F : Frm c) (f x : Value) (Q : Value → St → Prop) (vs : List Value) (st : St) : Prop := WP F (call f (x :: vs)) st Q
noncomputable abbrev kTup {c : Cx} (F : Frm c) (Q : Value → St → Prop) (vs : List Value) (st : St) : Prop := WP F (newTuple vs) st Q
noncomputable abbrev kLst {c : Cx} (F : Frm c) (Q : Value → St → Prop) (vs : List Value) (st : St) : Prop := WP F (newList vs) st Q
noncomputable abbrev kSub2 {c : Cx} (F : Frm c) (value slice : Expr) (Q : Value → St → Prop) (o i : Value) (st : St) : Prop := WP F (subscriptTail value slice o i) st Q
noncomputable abbrev kSub {c : Cx} (F : Frm c) (value slice : Expr) (Q : Value → St → Prop) (o : Value) (st : St) : Prop := WP F (eval slice F.env) st (kSub2 F value slice Q o)
noncomputable abbrev kCmp2 {c : Cx} (F : Frm c) (op : CmpOp) (Q : Value → St → Prop) (a b : Value) (st : St) : Prop := WP F (compareOp op a b) st Q
noncomputable abbrev kCmp {c : Cx} (F : Frm c) (op : CmpOp) (r : Expr) (Q : Value → St → Prop) (a : Value) (st : St) : Prop := WP F (eval r F.env) st (kCmp2 F op Q a)
noncomputable abbrev kTru {c : Cx} (F : Frm c) (Q : Bool → St → Prop) (v : Value) (st : St) : Prop := WP F (truthy v) st Q
noncomputable abbrev kNot (Q : Bool → St → Prop) (b : Bool) : St → Prop := Q (!b)
noncomputable abbrev kTAnd {c : Cx} (F : Frm c) (rest : List Expr) (pos : Pos) (whole : Sem Value) (Q : Bool → St → Prop) (b : Bool) (st : St) : Prop := Br b (WP F (isTrue (.BoolOp .And rest pos) F.env whole) st Q) (Q false st)
noncomputable abbrev kTOr {c : Cx} (F : Frm c) (rest : List Expr) (pos : Pos) (whole : Sem Value) (Q : Bool → St → Prop) (b : Bool) (st : St) : Prop := Br b (Q true st) (WP F (isTrue (.BoolOp .Or rest pos) F.env whole) st Q)
noncomputable abbrev kAnd2 {c : Cx} (F : Frm c) (es : List Expr) (pos : Pos) (Q : Value → St → Prop) (v : Value) (b : Bool) (st : St) : Prop := Br b (WP F (eval (.BoolOp .And es pos) F.env) st Q) (Q v st)
noncomputable abbrev kAnd {c : Cx} (F : Frm c) (es : List Expr) (pos : Pos) (Q : Value → St → Prop) (v : Value) (st : St) : Prop := WP F (truthy v) st (kAnd2 F es pos Q v)
noncomputable abbrev kOr2 {c : Cx} (F : Frm c) (es : List Expr) (pos : Pos) (Q : Value → St → Prop) (v : Value) (b : Bool) (st : St) : Prop := Br b (Q v st) (WP F (eval (.BoolOp .Or es pos) F.env) st Q)
noncomputable abbrev kOr {c : Cx} (F : Frm c) (es : List Expr) (pos : Pos) (Q : Value → St → Prop) (v : Value) (st : St) : Prop := WP F (truthy v) st (kOr2 F es pos Q v)
noncomputable abbrev kIfE {c : Cx} (F : Frm c) (body orelse : Expr) (Q : Value → St → Prop) (b : Bool) (st : St) : Prop := Br b (WP F (eval body F.env) st Q) (WP F (eval orelse F.env) st Q)
noncomputable abbrev kBin2 {c : Cx} (F : Frm c) (op : Operator) (Q : Value → St → Prop) (a b : Value) (st : St) : Prop := WP F (binaryOp op a b) st Q
noncomputable abbrev kBin {c : Cx} (F : Frm c) (op : Operator) (r : Expr) (Q : Value → St → Prop) (a : Value) (st : St) : Prop := WP F (eval r F.env) st (kBin2 F op Q a)
noncomputable abbrev kUn {c : Cx} (F : Frm c) (op : UnaryOp) (Q : Value → St → Prop) (v : Value) (st : St) : Prop := WP F (unaryOp op v) st Q
noncomputable abbrev kAugN {c : Cx} (F : Frm c) (op : Operator) (v : Value) (x : Str) (Q : Flow → St → Prop) (w : Value) (st : St) : Prop := WP F (inplaceOp op v w) st (kStore x Q)
noncomputable abbrev kSetA2 {c : Cx} (F : Frm c) (attr : Str) (v : Value) (Q : Flow → St → Prop) (ov : Value) (st : St) : Prop := WP F (setAttr ov attr v) st (kNx Q)
noncomputable abbrev kSetA {c : Cx} (F : Frm c) (o : Expr) (attr : Str) (Q : Flow → St → Prop) (v : Value) (st : St) : Prop := WP F (eval o F.env) st (kSetA2 F attr v Q)
noncomputable abbrev kSetI3 {c : Cx} (F : Frm c) (ov v : Value) (Q : Flow → St → Prop) (iv : Value) (st : St) : Prop := WP F (setItem ov iv v) st (kNx Q)
noncomputable abbrev kSetI2 {c : Cx} (F : Frm c) (i : Expr) (v : Value) (Q : Flow → St → Prop) (ov : Value) (st : St) : Prop := WP F (eval i F.env) st (kSetI3 F ov v Q)
noncomputable abbrev kSetI {c : Cx} (F : Frm c) (o i : Expr) (Q : Flow → St → Prop) (v : Value) (st : St) : Prop := WP F (eval o F.env) st (kSetI2 F i v Q)
noncomputable abbrev kAugI5 {c : Cx} (F : Frm c) (ov iv : Value) (Q : Flow → St → Prop) (new : Value) (st : St) : Prop := WP F (setItem ov iv new) st (kNx Q)
noncomputable abbrev kAugI4 {c : Cx} (F : Frm c) (op : Operator) (ov iv old : Value) (Q : Flow → St → Prop) (v : Value) (st : St) : Prop := WP F (inplaceOp op old v) st (kAugI5 F ov iv Q)
noncomputable abbrev kAugI3 {c : Cx} (F : Frm c) (op : Operator) (value : Expr) (ov iv : Value) (Q : Flow → St → Prop) (old : Value) (st : St) : Prop := WP F (eval value F.env) st (kAugI4 F op ov iv old Q)
noncomputable abbrev kAugI2 {c : Cx} (F : Frm c) (op : Operator) (value : Expr) (ov : Value) (Q : Flow → St → Prop) (iv : Value) (st : St) : Prop := WP F (getItem ov iv) st (kAugI3 F op value ov iv Q)
noncomputable abbrev kAugI {c : Cx} (F : Frm c) (i : Expr) (op : Operator) (value : Expr) (Q : Flow → St → Prop) (ov : Value) (st : St) : Prop := WP F (eval i F.env) st (kAugI2 F op value ov Q)
noncomputable abbrev kAugA4 {c : Cx} (F : Frm c) (attr : Str) (ov : Value) (Q : Flow → St → Prop) (new : Value) (st : St) : Prop := WP F (setAttr ov attr new) st (kNx Q)
noncomputable abbrev kAugA3 {c : Cx} (F : Frm c) (attr : Str) (op : Operator) (ov old : Value) (Q : Flow → St → Prop) (v : Value) (st : St) : Prop := WP F (inplaceOp op old v) st (kAugA4 F attr ov Q)
noncomputable abbrev kAugA2 {c : Cx} (F : Frm c) (attr : Str) (op : Operator) (value : Expr) (ov : Value) (Q : Flow → St → Prop) (old : Value) (st : St) : Prop := WP F (eval value F.env) st (kAugA3 F attr op ov old Q)
noncomputable abbrev kAugA {c : Cx} (F : Frm c) (attr : Str) (op : Operator) (value : Expr) (Q : Flow → St → Prop) (ov : Value) (st : St) : Prop := WP F (getAttr ov attr true) st (kAugA2 F attr op value ov Q)
theorem wArgs0 {pos : Pos} {Q : List Value → St → Prop} (h : Q [] (⟨fr₀, P₀, M₀⟩ : St)) : WP F (wArgs F pos []) (⟨fr₀, P₀, M₀⟩ : St) Q := fun _ r => spliced_none ⟨(⟨fr₀, P₀, M₀⟩ : St), r, h⟩
theorem wArgsC {e : Expr} {rest : List Expr} {pos : Pos} {Q : List Value → St → Prop} (h : WP F (eval e F.env) (⟨fr₀, P₀, M₀⟩ : St) (kArgs F pos rest Q))
    (he : starEach (e :: rest) F.env = (false, eval e F.env) :: starEach rest F.env) : WP F (wArgs F pos (e :: rest)) (⟨fr₀, P₀, M₀⟩ : St) Q :=
  fun s r => spliced_more (wpAny_mono (h s r) (fun _ s' ez3 => ez3.elim fun _ pz3 => pz3.2 s' pz3.1) fun _ _ e => e) he
theorem wCall {func : Expr} {args : List Expr} {pos : Pos} {Q : Value → St → Prop} (h : WP F (eval func F.env) (⟨fr₀, P₀, M₀⟩ : St) (kCall F pos args Q))
    (he : eval (.Call func args [] pos) F.env = (do callWith pos (← eval func F.env) [] (backTo pos (starEach args F.env)) (backToKw pos (keywordEach [] F.env)))) : WP F (eval (.Call func args [] pos) F.env) (⟨fr₀, P₀, M₀⟩ : St) Q :=
  WP.lift (fun _ _ _ h => Call_ h he) h
theorem wCallM {o : Expr} {name : Str} {apos pos : Pos} {args : List Expr} {pl : Sem Bool} {Q : Value → St → Prop}
    (h : WP F (eval o F.env) (⟨fr₀, P₀, M₀⟩ : St) (kCallM F pos name pl args Q))
    (he : eval (.Call (.Attribute o name apos) args [] pos) F.env = (do
      let ov ← eval o F.env
      standAt apos.atName
      let (f, first) ← holding [ov] (getMethod ov name pl)
      callWith pos f first (backTo pos (starEach args F.env)) [])) : WP F (eval (.Call (.Attribute o name apos) args [] pos) F.env) (⟨fr₀, P₀, M₀⟩ : St) Q :=
  fun s r => MethodCall_ (pl := pl) (wpAny_mono (h s r) (fun _ s' ez4 => ez4.elim fun _ pz4 => wpAny_mono (pz4.2 s' pz4.1) (fun _ s'' ez5 => ez5.elim fun _ pz5 => pz5.2 s'' pz5.1) fun _ _ e => e) fun _ _ e => e) he
theorem wWithK (H : Ok F D n) {f : Value} {first : List Value} {e : Expr} {rest : List Expr} {pos : Pos} {Q : Value → St → Prop} (hk : keepIn c.K f = true) (h : WP F (wArgs F pos (e :: rest)) (⟨fr₀, P₀, M₀⟩ : St) (kWith F f first Q))
    (he : starEach (e :: rest) F.env = (false, eval e F.env) :: starEach rest F.env) (hplain : (backTo pos (starEach rest F.env)).any (·.1) = false) :
    WP F (callWith pos f first (backTo pos (starEach (e :: rest) F.env)) []) (⟨fr₀, P₀, M₀⟩ : St) Q :=
  fun s r => callWith_K (H.bs.k) hk (wpAny_mono (h s r) (fun _ s' ez6 => ez6.elim fun _ pz6 => ⟨H.bs.k.keeps pz6.1.fr.keep, pz6.2 s' pz6.1⟩) fun _ _ e => e) he hplain
theorem wWithK0 (H : Ok F D n) {f : Value} {first : List Value} {pos : Pos} {Q : Value → St → Prop} (hk : keepIn c.K f = true) (h : WP F (call f (first ++ [])) (⟨fr₀, P₀, M₀⟩ : St) Q) :
    WP F (callWith pos f first (backTo pos (starEach [] F.env)) []) (⟨fr₀, P₀, M₀⟩ : St) Q :=
  fun s r => callWith_K0 (H.bs.k.keeps r.fr.keep) hk (h s r)
theorem wWithB {id : String} {first : List Value} {e : Expr} {rest : List Expr} {pos : Pos} {Q : Value → St → Prop} (h : WP F (wArgs F pos (e :: rest)) (⟨fr₀, P₀, M₀⟩ : St) (kWith F (.builtin id) first Q))
    (he : starEach (e :: rest) F.env = (false, eval e F.env) :: starEach rest F.env) (hplain : (backTo pos (starEach rest F.env)).any (·.1) = false) :
    WP F (callWith pos (.builtin id) first (backTo pos (starEach (e :: rest) F.env)) []) (⟨fr₀, P₀, M₀⟩ : St) Q :=
  fun s r => callWith_method1 (wpAny_mono (h s r) (fun _ s' ez7 => ez7.elim fun _ pz7 => pz7.2 s' pz7.1) fun _ _ e => e) he hplain
theorem wWithT {T : String} {e : Expr} {rest : List Expr} {pos : Pos} {Q : Value → St → Prop} (h : WP F (wArgs F pos (e :: rest)) (⟨fr₀, P₀, M₀⟩ : St) (kWithn F (.type T) Q))
    (he : starEach (e :: rest) F.env = (false, eval e F.env) :: starEach rest F.env) (hplain : (backTo pos (starEach rest F.env)).any (·.1) = false) :
    WP F (callWith pos (.type T) [] (backTo pos (starEach (e :: rest) F.env)) []) (⟨fr₀, P₀, M₀⟩ : St) Q :=
  fun s r => PyProof.Rows.callWith_type1 (wpAny_mono (h s r) (fun _ s' ez8 => ez8.elim fun _ pz8 => pz8.2 s' pz8.1) fun _ _ e => e) he hplain

theorem wWithKn (H : Ok F D n) {f : Value} {e : Expr} {rest : List Expr} {pos : Pos} {Q : Value → St → Prop} (hk : keepIn c.K f = true) (h : WP F (wArgs F pos (e :: rest)) ⟨fr₀, P₀, M₀⟩ (kWithn F f Q))
    (he : starEach (e :: rest) F.env = (false, eval e F.env) :: starEach rest F.env) (hplain : (backTo pos (starEach rest F.env)).any (·.1) = false) :
    WP F (callWith pos f [] (backTo pos (starEach (e :: rest) F.env)) []) ⟨fr₀, P₀, M₀⟩ Q := wWithK H hk h he hplain
theorem wWithK1 (H : Ok F D n) {f x : Value} {e : Expr} {rest : List Expr} {pos : Pos} {Q : Value → St → Prop} (hk : keepIn c.K f = true) (h : WP F (wArgs F pos (e :: rest)) ⟨fr₀, P₀, M₀⟩ (kWith1 F f x Q))
    (he : starEach (e :: rest) F.env = (false, eval e F.env) :: starEach rest F.env) (hplain : (backTo pos (starEach rest F.env)).any (·.1) = false) :
    WP F (callWith pos f [x] (backTo pos (starEach (e :: rest) F.env)) []) ⟨fr₀, P₀, M₀⟩ Q := wWithK H hk h he hplain
theorem wWithK0n (H : Ok F D n) {f : Value} {pos : Pos} {Q : Value → St → Prop} (hk : keepIn c.K f = true) (h : WP F (call f []) ⟨fr₀, P₀, M₀⟩ Q) :
    WP F (callWith pos f [] (backTo pos (starEach [] F.env)) []) ⟨fr₀, P₀, M₀⟩ Q := wWithK0 H hk h
theorem wWithBn {id : String} {e : Expr} {rest : List Expr} {pos : Pos} {Q : Value → St → Prop} (h : WP F (wArgs F pos (e :: rest)) ⟨fr₀, P₀, M₀⟩ (kWithn F (.builtin id) Q))
    (he : starEach (e :: rest) F.env = (false, eval e F.env) :: starEach rest F.env) (hplain : (backTo pos (starEach rest F.env)).any (·.1) = false) :
    WP F (callWith pos (.builtin id) [] (backTo pos (starEach (e :: rest) F.env)) []) ⟨fr₀, P₀, M₀⟩ Q := wWithB h he hplain
theorem wWithB1 {id : String} {x : Value} {e : Expr} {rest : List Expr} {pos : Pos} {Q : Value → St → Prop} (h : WP F (wArgs F pos (e :: rest)) ⟨fr₀, P₀, M₀⟩ (kWith1 F (.builtin id) x Q))
    (he : starEach (e :: rest) F.env = (false, eval e F.env) :: starEach rest F.env) (hplain : (backTo pos (starEach rest F.env)).any (·.1) = false) :
    WP F (callWith pos (.builtin id) [x] (backTo pos (starEach (e :: rest) F.env)) []) ⟨fr₀, P₀, M₀⟩ Q := wWithB h he hplain

theorem wTuple {elts : List Expr} {k : Nat} {pos : Pos} {Q : Value → St → Prop} (h : WP F (wArgs F pos elts) (⟨fr₀, P₀, M₀⟩ : St) (kTup F Q)) : WP F (eval (.Tuple elts k pos) F.env) (⟨fr₀, P₀, M₀⟩ : St) Q :=
  WP.lift (fun _ _ _ h => PyProof.Rows.Tuple_ h) h
theorem wNewTup (H : Ok F D n) {vs : List Value} {Q : Value → St → Prop} (h : ∀ a P', Le P₀ P' → P' a (tupO vs) → Q (.ref a) ⟨fr₀, P', M₀⟩) (hsz : vs.length ≤ sizeLine) : WP F (newTuple vs) (⟨fr₀, P₀, M₀⟩ : St) Q := by
  intro s r
  obtain ⟨T, N, nd, e⟩ := r.ex
  exact newTuple_N r.fr N (fun h' f' n' => ⟨_, r.newP H nd e (r.lt N) f' n' (fun _ _ h => h) _, h _ _ (fun _ _ h => .inl h) (.inr ⟨rfl, rfl⟩)⟩) hsz
theorem wList {elts : List Expr} {pos : Pos} {Q : Value → St → Prop} (h : WP F (wArgs F pos elts) (⟨fr₀, P₀, M₀⟩ : St) (kLst F Q)) : WP F (eval (.List elts pos) F.env) (⟨fr₀, P₀, M₀⟩ : St) Q :=
  WP.lift (fun _ _ _ h => PyProof.Rows.List_ h) h
theorem wNewListP (H : Ok F D n) {vs : List Value} {Q : Value → St → Prop} (h : ∀ a P', Le P₀ P' → P' a (listOf vs.toArray 0) → Q (.ref a) ⟨fr₀, P', M₀⟩) (hsz : vs.length ≤ sizeLine) : WP F (newList vs) (⟨fr₀, P₀, M₀⟩ : St) Q := by
  intro s r
  obtain ⟨T, N, nd, e⟩ := r.ex
  exact newList_N r.fr N (fun h' f' n' => ⟨_, r.newP H nd e (r.lt N) f' n' (fun _ _ h => h) _, h _ _ (fun _ _ h => .inl h) (.inr ⟨rfl, rfl⟩)⟩) hsz
theorem wNewListM {vs : List Value} {Q : Value → St → Prop} (h : ∀ a, Q (.ref a) ⟨fr₀, P₀, M₀ ++ [(a, listOf vs.toArray 0)]⟩) (hsz : vs.length ≤ sizeLine) : WP F (newList vs) (⟨fr₀, P₀, M₀⟩ : St) Q := by
  intro s r
  obtain ⟨T, N, nd, e⟩ := r.ex
  exact newList_N r.fr N (fun h' f' n' => ⟨_, r.newM nd e (r.lt N) f' n' _, h _⟩) hsz
theorem wSub {value slice : Expr} {pos : Pos} {Q : Value → St → Prop} (h : WP F (eval value F.env) (⟨fr₀, P₀, M₀⟩ : St) (kSub F value slice Q)) : WP F (eval (.Subscript value slice pos) F.env) (⟨fr₀, P₀, M₀⟩ : St) Q :=
  fun s r => PyProof.Rows.Subscript_ (wpAny_mono (h s r) (fun _ s' ez9 => ez9.elim fun _ pz9 => wpAny_mono (pz9.2 s' pz9.1) (fun _ s'' ez10 => ez10.elim fun _ pz10 => pz10.2 s'' pz10.1) fun _ _ e => e) fun _ _ e => e)
theorem wItemTup {value slice : Expr} {t : Addr} {l : List Value} {k : Nat} {u : Tok} {x : Value} {Q : Value → St → Prop} (ht : P₀ t (tupO l)) (hx : l[k]? = some x) (h : Q x (⟨fr₀, P₀, M₀⟩ : St)) (hk : k < 2 ^ 62)
    (hs : subscripted slice false (.ref t) (.int k u) = operate [.ref t, .int k u] (getItem (.ref t) (.int k u))) : WP F (subscriptTail value slice (.ref t) (.int k u)) (⟨fr₀, P₀, M₀⟩ : St) Q := by
  refine ofQ ?_; simp (disch := (k_dflt (
  refine hold ?_
  intro s r
  have hlt : k < l.length := (List.getElem?_eq_some_iff.mp hx).1
  have h2 : (2:Nat) ^ 62 < 2 ^ 63 := by decide
  have h3 : (2:Nat) ^ 63 = (2:Int) ^ 63 := by decide
  refine item_tupleT (j := k) (r.tup ht) (by lia) (by lia) ?_ hx ⟨(⟨fr₀, P₀, M₀⟩ : St), r, h⟩ hs
  unfold seqIndex?
  have : ¬ ((k : Int) < 0) := by lia
  simp [this]; lia
  ))) only [↓quiet]
theorem wItemListP {value slice : Expr} {t : Addr} {l : List Value} {m k : Nat} {u : Tok} {x : Value} {Q : Value → St → Prop} (ht : P₀ t (listOf l.toArray m)) (hx : l[k]? = some x) (h : Q x (⟨fr₀, P₀, M₀⟩ : St)) (hk : k < 2 ^ 62)
    (hs : subscripted slice false (.ref t) (.int k u) = operate [.ref t, .int k u] (getItem (.ref t) (.int k u))) : WP F (subscriptTail value slice (.ref t) (.int k u)) (⟨fr₀, P₀, M₀⟩ : St) Q := by
  refine ofQ ?_; simp (disch := (k_dflt (
  refine hold ?_
  intro s r
  have h2 : (2:Nat) ^ 62 < 2 ^ 63 := by decide
  have h3 : (2:Nat) ^ 63 = (2:Int) ^ 63 := by decide
  exact tail_any (r.lstP ht).typeIs slot_list_getitem.lookup (wpAny_getItem_list (x := x) (r.lstP ht) (by lia) (by lia) (by simpa using hx) ⟨(⟨fr₀, P₀, M₀⟩ : St), r, h⟩) hs
  ))) only [↓quiet]
theorem wItemListM {value slice : Expr} {t : Addr} {l : List Value} {m k : Nat} {u : Tok} {x : Value} {Q : Value → St → Prop} (ht : Mem t (listOf l.toArray m) M₀) (hx : l[k]? = some x) (h : Q x (⟨fr₀, P₀, M₀⟩ : St)) (hk : k < 2 ^ 62)
    (hs : subscripted slice false (.ref t) (.int k u) = operate [.ref t, .int k u] (getItem (.ref t) (.int k u))) : WP F (subscriptTail value slice (.ref t) (.int k u)) (⟨fr₀, P₀, M₀⟩ : St) Q := by
  refine ofQ ?_; simp (disch := (k_dflt (
  refine hold ?_
  intro s r
  have h2 : (2:Nat) ^ 62 < 2 ^ 63 := by decide
  have h3 : (2:Nat) ^ 63 = (2:Int) ^ 63 := by decide
  exact tail_any (r.lstM ht).typeIs slot_list_getitem.lookup (wpAny_getItem_list (x := x) (r.lstM ht) (by lia) (by lia) (by simpa using hx) ⟨(⟨fr₀, P₀, M₀⟩ : St), r, h⟩) hs
  ))) only [↓quiet]
theorem wCmp {l r : Expr} {op : CmpOp} {pos : Pos} {Q : Value → St → Prop} (h : WP F (eval l F.env) (⟨fr₀, P₀, M₀⟩ : St) (kCmp F op r Q))
    (hm : behindInMarks op r = false) : WP F (eval (.Compare l [op] [r] pos) F.env) (⟨fr₀, P₀, M₀⟩ : St) Q :=
  fun s rp => wpAny_Compare1 (wpAny_mono (h s rp) (fun _ s' ez11 => ez11.elim fun _ pz11 => wpAny_mono (pz11.2 s' pz11.1) (fun _ s'' ez12 => ez12.elim fun _ pz12 => pz12.2 s'' pz12.1) fun _ _ e => e) fun _ _ e => e) hm
theorem tCmp {l r : Expr} {op : CmpOp} {pos : Pos} {whole : Sem Value} {Q : Bool → St → Prop} (h : WP F (eval l F.env) (⟨fr₀, P₀, M₀⟩ : St) (kCmp F op r (kTru F Q)))
    (hm : behindInMarks op r = false) : WP F (isTrue (.Compare l [op] [r] pos) F.env whole) (⟨fr₀, P₀, M₀⟩ : St) Q :=
  fun s rp => wpAny_isTrue_Compare1 (wpAny_mono (h s rp) (fun _ s' ez13 => ez13.elim fun _ pz13 => wpAny_mono (pz13.2 s' pz13.1) (fun _ s'' ez14 => ez14.elim fun _ pz14 => wpAny_mono (pz14.2 s'' pz14.1) (fun _ s3 ez15 => ez15.elim fun _ pz15 => pz15.2 s3 pz15.1) fun _ _ e => e) fun _ _ e => e) fun _ _ e => e) hm
theorem tTruthB {b : Bool} {Q : Bool → St → Prop} (h : Q b (⟨fr₀, P₀, M₀⟩ : St)) : WP F (truthy (.bool b)) (⟨fr₀, P₀, M₀⟩ : St) Q := fun _ r => wpAny_truthy_bool ⟨(⟨fr₀, P₀, M₀⟩ : St), r, h⟩
theorem tNot {x : Expr} {pos : Pos} {whole : Sem Value} {Q : Bool → St → Prop} (h : WP F (isTrue x F.env (eval x F.env)) (⟨fr₀, P₀, M₀⟩ : St) (kNot Q)) : WP F (isTrue (.UnaryOp .Not x pos) F.env whole) (⟨fr₀, P₀, M₀⟩ : St) Q := fun s r => PyProof.Rows.isTrue_not (h s r)
theorem tAnd0 {pos : Pos} {whole : Sem Value} {Q : Bool → St → Prop} (h : Q true (⟨fr₀, P₀, M₀⟩ : St)) : WP F (isTrue (.BoolOp .And [] pos) F.env whole) (⟨fr₀, P₀, M₀⟩ : St) Q := fun _ r => isTrue_and_nil ⟨(⟨fr₀, P₀, M₀⟩ : St), r, h⟩
theorem tOr0 {pos : Pos} {whole : Sem Value} {Q : Bool → St → Prop} (h : Q false (⟨fr₀, P₀, M₀⟩ : St)) : WP F (isTrue (.BoolOp .Or [] pos) F.env whole) (⟨fr₀, P₀, M₀⟩ : St) Q := fun _ r => isTrue_or_nil ⟨(⟨fr₀, P₀, M₀⟩ : St), r, h⟩
theorem tAnd {x : Expr} {rest : List Expr} {pos : Pos} {whole : Sem Value} {Q : Bool → St → Prop} (h : WP F (isTrue x F.env (eval x F.env)) (⟨fr₀, P₀, M₀⟩ : St) (kTAnd F rest pos whole Q)) :
    WP F (isTrue (.BoolOp .And (x :: rest) pos) F.env whole) (⟨fr₀, P₀, M₀⟩ : St) Q :=
  fun s r => isTrue_and (wpAny_mono (h s r) (fun b s' ⟨st', r', q⟩ => by cases b with | true => exact q.1 rfl s' r' | false => exact ⟨st', r', q.2 rfl⟩) fun _ _ e => e)
theorem tOr {x : Expr} {rest : List Expr} {pos : Pos} {whole : Sem Value} {Q : Bool → St → Prop} (h : WP F (isTrue x F.env (eval x F.env)) (⟨fr₀, P₀, M₀⟩ : St) (kTOr F rest pos whole Q)) :
    WP F (isTrue (.BoolOp .Or (x :: rest) pos) F.env whole) (⟨fr₀, P₀, M₀⟩ : St) Q :=
  fun s r => isTrue_or (wpAny_mono (h s r) (fun b s' ⟨st', r', q⟩ => by cases b with | true => exact ⟨st', r', q.1 rfl⟩ | false => exact q.2 rfl s' r') fun _ _ e => e)
theorem tPlain {e : Expr} {whole : Sem Value} {Q : Bool → St → Prop} (h : WP F whole (⟨fr₀, P₀, M₀⟩ : St) (kTru F Q))
    (he : isTrue e F.env whole = (do let v ← whole; standAt e.pos; holding [v] (truthy v))) : WP F (isTrue e F.env whole) (⟨fr₀, P₀, M₀⟩ : St) Q :=
  WP.lift (fun _ _ _ h => isTrue_plain h he) h
theorem wAnd {e₁ e₂ : Expr} {rest : List Expr} {pos : Pos} {Q : Value → St → Prop} (h : WP F (eval e₁ F.env) (⟨fr₀, P₀, M₀⟩ : St) (kAnd F (e₂ :: rest) pos Q)) :
    WP F (eval (.BoolOp .And (e₁ :: e₂ :: rest) pos) F.env) (⟨fr₀, P₀, M₀⟩ : St) Q :=
  fun s r => BoolOp_and (wpAny_mono (h s r) (fun v s' ez16 => ez16.elim fun _ pz16 => wpAny_mono (pz16.2 s' pz16.1) (fun b s'' ⟨st'', r'', q'⟩ => by cases b with | true => exact q'.1 rfl s'' r'' | false => exact ⟨st'', r'', q'.2 rfl⟩) fun _ _ e => e) fun _ _ e => e)
theorem wOr {e₁ e₂ : Expr} {rest : List Expr} {pos : Pos} {Q : Value → St → Prop} (h : WP F (eval e₁ F.env) (⟨fr₀, P₀, M₀⟩ : St) (kOr F (e₂ :: rest) pos Q)) :
    WP F (eval (.BoolOp .Or (e₁ :: e₂ :: rest) pos) F.env) (⟨fr₀, P₀, M₀⟩ : St) Q :=
  fun s r => BoolOp_or (wpAny_mono (h s r) (fun v s' ez17 => ez17.elim fun _ pz17 => wpAny_mono (pz17.2 s' pz17.1) (fun b s'' ⟨st'', r'', q'⟩ => by cases b with | true => exact ⟨st'', r'', q'.1 rfl⟩ | false => exact q'.2 rfl s'' r'') fun _ _ e => e) fun _ _ e => e)
theorem wOne {op : BoolOp} {e : Expr} {pos : Pos} {Q : Value → St → Prop} (h : WP F (eval e F.env) (⟨fr₀, P₀, M₀⟩ : St) Q) : WP F (eval (.BoolOp op [e] pos) F.env) (⟨fr₀, P₀, M₀⟩ : St) Q := fun s r => BoolOp_one (h s r)
theorem wIfExp {test body orelse : Expr} {pos : Pos} {Q : Value → St → Prop} (h : WP F (isTrue test F.env (eval test F.env)) (⟨fr₀, P₀, M₀⟩ : St) (kIfE F body orelse Q)) : WP F (eval (.IfExp test body orelse pos) F.env) (⟨fr₀, P₀, M₀⟩ : St) Q :=
  fun s r => PyProof.Rows.IfExp_ (wpAny_mono (h s r) (fun b s' ⟨_, r', q⟩ => by cases b with | true => exact q.1 rfl s' r' | false => exact q.2 rfl s' r') fun _ _ e => e)

theorem wBin {l r : Expr} {op : Operator} {pos : Pos} {Q : Value → St → Prop} (h : WP F (eval l F.env) (⟨fr₀, P₀, M₀⟩ : St) (kBin F op r Q)) : WP F (eval (.BinOp l op r pos) F.env) (⟨fr₀, P₀, M₀⟩ : St) Q :=
  fun s rp => wpAny_BinOp (wpAny_mono (h s rp) (fun _ s' ez18 => ez18.elim fun _ pz18 => wpAny_mono (pz18.2 s' pz18.1) (fun _ s'' ez19 => ez19.elim fun _ pz19 => pz19.2 s'' pz19.1) fun _ _ e => e) fun _ _ e => e)
theorem wUn {x : Expr} {op : UnaryOp} {pos : Pos} {Q : Value → St → Prop} (h : WP F (eval x F.env) (⟨fr₀, P₀, M₀⟩ : St) (kUn F op Q)) : WP F (eval (.UnaryOp op x pos) F.env) (⟨fr₀, P₀, M₀⟩ : St) Q :=
  WP.lift (fun _ _ _ h => PyProof.Rows.UnaryOp_ h) h
variable {a b : Int} {t u : Tok}
theorem oAdd {Q : Value → St → Prop} (h : ∀ t, Q (.int (a + b) t) (⟨fr₀, P₀, M₀⟩ : St)) : WP F (binaryOp .Add (.int a t) (.int b u)) (⟨fr₀, P₀, M₀⟩ : St) Q := fun _ r => add_int ⟨(⟨fr₀, P₀, M₀⟩ : St), r.toks _, h _⟩
theorem oSub {Q : Value → St → Prop} (h : ∀ t, Q (.int (a - b) t) (⟨fr₀, P₀, M₀⟩ : St)) : WP F (binaryOp .Sub (.int a t) (.int b u)) (⟨fr₀, P₀, M₀⟩ : St) Q := fun _ r => sub_int ⟨(⟨fr₀, P₀, M₀⟩ : St), r.toks _, h _⟩
theorem oNeg {Q : Value → St → Prop} (h : ∀ t, Q (.int (-a) t) (⟨fr₀, P₀, M₀⟩ : St)) : WP F (unaryOp .USub (.int a t)) (⟨fr₀, P₀, M₀⟩ : St) Q := fun _ r => neg_int ⟨(⟨fr₀, P₀, M₀⟩ : St), r.toks _, h _⟩
theorem oEq {Q : Value → St → Prop} (h : Q (.bool (decide (a = b))) (⟨fr₀, P₀, M₀⟩ : St)) : WP F (compareOp .Eq (.int a t) (.int b u)) (⟨fr₀, P₀, M₀⟩ : St) Q := fun _ r => eq_int ⟨(⟨fr₀, P₀, M₀⟩ : St), r, h⟩
theorem oNe {Q : Value → St → Prop} (h : Q (.bool (decide (a ≠ b))) (⟨fr₀, P₀, M₀⟩ : St)) : WP F (compareOp .NotEq (.int a t) (.int b u)) (⟨fr₀, P₀, M₀⟩ : St) Q := fun _ r => ne_int ⟨(⟨fr₀, P₀, M₀⟩ : St), r, by
  have : (a != b) = decide (a ≠ b) := by by_cases e : a = b <;> simp [e]
  rw [this]; exact h⟩
theorem oLt {Q : Value → St → Prop} (h : Q (.bool (decide (a < b))) (⟨fr₀, P₀, M₀⟩ : St)) : WP F (compareOp .Lt (.int a t) (.int b u)) (⟨fr₀, P₀, M₀⟩ : St) Q := fun _ r => lt_int ⟨(⟨fr₀, P₀, M₀⟩ : St), r, h⟩
theorem oLe {Q : Value → St → Prop} (h : Q (.bool (decide (a ≤ b))) (⟨fr₀, P₀, M₀⟩ : St)) : WP F (compareOp .LtE (.int a t) (.int b u)) (⟨fr₀, P₀, M₀⟩ : St) Q := fun _ r => le_int ⟨(⟨fr₀, P₀, M₀⟩ : St), r, h⟩
theorem oGt {Q : Value → St → Prop} (h : Q (.bool (decide (a > b))) (⟨fr₀, P₀, M₀⟩ : St)) : WP F (compareOp .Gt (.int a t) (.int b u)) (⟨fr₀, P₀, M₀⟩ : St) Q := fun _ r => gt_int ⟨(⟨fr₀, P₀, M₀⟩ : St), r, h⟩
theorem oGe {Q : Value → St → Prop} (h : Q (.bool (decide (a ≥ b))) (⟨fr₀, P₀, M₀⟩ : St)) : WP F (compareOp .GtE (.int a t) (.int b u)) (⟨fr₀, P₀, M₀⟩ : St) Q := fun _ r => ge_int ⟨(⟨fr₀, P₀, M₀⟩ : St), r, h⟩
theorem oEqS {x y : Str} {Q : Value → St → Prop} (h : Q (.bool (decide (x = y))) (⟨fr₀, P₀, M₀⟩ : St)) : WP F (compareOp .Eq (.str x t) (.str y u)) (⟨fr₀, P₀, M₀⟩ : St) Q := fun _ r => eq_str ⟨(⟨fr₀, P₀, M₀⟩ : St), r, by
  have : (x == y) = decide (x = y) := by by_cases e : x = y <;> simp [e]
  rw [this]; exact h⟩
theorem oNeS {x y : Str} {Q : Value → St → Prop} (h : Q (.bool (decide (x ≠ y))) (⟨fr₀, P₀, M₀⟩ : St)) : WP F (compareOp .NotEq (.str x t) (.str y u)) (⟨fr₀, P₀, M₀⟩ : St) Q := fun _ r => ne_str ⟨(⟨fr₀, P₀, M₀⟩ : St), r, by
  have : (x != y) = decide (x ≠ y) := by by_cases e : x = y <;> simp [e]
  rw [this]; exact h⟩
theorem oMod {Q : Value → St → Prop} (hb : 0 < b) (h : ∀ t, Q (.int (a % b) t) (⟨fr₀, P₀, M₀⟩ : St)) : WP F (binaryOp .Mod (.int a t) (.int b u)) (⟨fr₀, P₀, M₀⟩ : St) Q := fun _ r =>
  PySem.AutoIntOps.mod_1 (by simp; lia) (show _ from ⟨(⟨fr₀, P₀, M₀⟩ : St), r.toks _, by rw [Int.fmod_eq_emod_of_nonneg _ (by lia)]; exact h _⟩)
theorem oDiv {Q : Value → St → Prop} (hb : 0 < b) (hb' : b < 100) (h : ∀ t, Q (.int (a / b) t) (⟨fr₀, P₀, M₀⟩ : St)) : WP F (binaryOp .FloorDiv (.int a t) (.int b u)) (⟨fr₀, P₀, M₀⟩ : St) Q := fun _ r =>
  PySem.AutoIntOps.floordiv_1 (by simp; lia) (by
    unfold Builtin.divisionGoesByPylong
    have h1 : ¬ (b == 0) = true := by simp; lia
    have h2 : b.natAbs.log2 / 30 + 1 ≤ 300 := by
      have : b.natAbs.log2 ≤ b.natAbs := by
        rcases Nat.eq_zero_or_pos b.natAbs with e | e
        · rw [e]; decide
        · exact Nat.le_of_lt ((Nat.log2_lt (by lia)).mpr Nat.lt_two_pow_self)
      lia
    simp only [h1, Bool.false_eq_true, if_false]
    have h3 : decide (b.natAbs.log2 / 30 + 1 > 300) = false := by simp; lia
    rw [h3]; simp) (show _ from ⟨(⟨fr₀, P₀, M₀⟩ : St), r.toks _, by rw [Int.fdiv_eq_ediv_of_nonneg _ (by lia)]; exact h _⟩)
theorem oPow {k : Nat} {Q : Value → St → Prop} (hk : 0 < k) (hk' : k ≤ 64) (h : ∀ t, Q (.int (2 ^ k) t) (⟨fr₀, P₀, M₀⟩ : St)) : WP F (binaryOp .Pow (.int 2 t) (.int k u)) (⟨fr₀, P₀, M₀⟩ : St) Q := fun _ r =>
  PySem.AutoIntOps.pow_4 (by lia) (by simp; lia) (by decide) (by decide) (by
    unfold Builtin.Int.intTooBig
    have h1 : (Builtin.Int.intBits 2 : Nat) = 2 := by decide
    have h2 : (128 : Int) < (bitsLine : Nat) := by unfold bitsLine; decide
    rw [h1]
    simp only [decide_eq_true_eq]
    push_cast
    lia) (show _ from ⟨(⟨fr₀, P₀, M₀⟩ : St), r.toks _, h _⟩)
theorem oIsN {v : Value} {Q : Value → St → Prop} (hp : plainIs v .none = true) (h : Q (.bool (v == .none)) (⟨fr₀, P₀, M₀⟩ : St)) : WP F (compareOp .Is v .none) (⟨fr₀, P₀, M₀⟩ : St) Q := fun _ r => wpAny_is_plain hp ⟨(⟨fr₀, P₀, M₀⟩ : St), r, h⟩
theorem oIsNotN {v : Value} {Q : Value → St → Prop} (hp : plainIs v .none = true) (h : Q (.bool (!(v == .none))) (⟨fr₀, P₀, M₀⟩ : St)) : WP F (compareOp .IsNot v .none) (⟨fr₀, P₀, M₀⟩ : St) Q := fun _ r => wpAny_isNot_plain hp ⟨(⟨fr₀, P₀, M₀⟩ : St), r, h⟩

theorem oIAdd {Q : Value → St → Prop} (h : ∀ t, Q (.int (a + b) t) ⟨fr₀, P₀, M₀⟩) : WP F (inplaceOp .Add (.int a t) (.int b u)) ⟨fr₀, P₀, M₀⟩ Q := fun _ r => iadd_int ⟨_, r.toks _, h _⟩
theorem oISub {Q : Value → St → Prop} (h : ∀ t, Q (.int (a - b) t) ⟨fr₀, P₀, M₀⟩) : WP F (inplaceOp .Sub (.int a t) (.int b u)) ⟨fr₀, P₀, M₀⟩ Q := fun _ r => isub_int ⟨_, r.toks _, h _⟩
theorem wAugName (H : Ok F D n) {x : Str} {pos' pos : Pos} {op : Operator} {value : Expr} {v : Value} {Q : Flow → St → Prop} (a : At x (some v) fr₀)
    (h : WP F (eval value F.env) ⟨fr₀, P₀, M₀⟩ (kAugN F op v x Q)) : WP F (exec (.AugAssign (.Name x pos') op value pos) F.env) ⟨fr₀, P₀, M₀⟩ Q := by
  refine ofQ ?_; simp (disch := (k_dflt (
  refine hold ?_
  intro s r
  have hm : x ∈ F.keys := r.ks ▸ List.mem_map.mpr ⟨_, a.mem, rfl⟩
  exact wpAny_AugAssign_Name (wpAny_loadName_local H.fn (H.lc x hm).1 r.fr.ns (a.look (r.ks ▸ H.nd)) (wpAny_mono (h s r) (fun _ s' ez20 => ez20.elim fun _ pz20 => wpAny_mono (pz20.2 s' pz20.1) (fun w s'' ⟨_, r'', fr', p, q'⟩ => wStore H (Q := fun _ => Q .next) p q' s'' r'') fun _ _ e => e) fun _ _ e => e))
  ))) only [↓quiet]
theorem wSetAttr {o : Expr} {attr : Str} {pos' : Pos} {value : Expr} {pos : Pos} {Q : Flow → St → Prop} (h : WP F (eval value F.env) (⟨fr₀, P₀, M₀⟩ : St) (kSetA F o attr Q))
    (hs : swapsWith value (some (.Attribute o attr pos')) pos.line F.env = pure false) : WP F (exec (.Assign [.Attribute o attr pos'] value pos) F.env) (⟨fr₀, P₀, M₀⟩ : St) Q :=
  fun s r => plainObj_wpAny_Assign_Attribute (wpAny_mono (h s r) (fun _ s' ez21 => ez21.elim fun _ pz21 => wpAny_mono (pz21.2 s' pz21.1) (fun _ s'' ez22 => ez22.elim fun _ pz22 => pz22.2 s'' pz22.1) fun _ _ e => e) fun _ _ e => e) hs
theorem wSetItem {o i : Expr} {pos' : Pos} {value : Expr} {pos : Pos} {Q : Flow → St → Prop} (h : WP F (eval value F.env) (⟨fr₀, P₀, M₀⟩ : St) (kSetI F o i Q))
    (hs : swapsWith value (some (.Subscript o i pos')) pos.line F.env = pure false) : WP F (exec (.Assign [.Subscript o i pos'] value pos) F.env) (⟨fr₀, P₀, M₀⟩ : St) Q :=
  fun s r => wpAny_Assign_Subscript (wpAny_mono (h s r) (fun _ s' ez23 => ez23.elim fun _ pz23 => wpAny_mono (pz23.2 s' pz23.1) (fun _ s'' ez24 => ez24.elim fun _ pz24 => wpAny_mono (pz24.2 s'' pz24.1) (fun _ s3 ez25 => ez25.elim fun _ pz25 => pz25.2 s3 pz25.1) fun _ _ e => e) fun _ _ e => e) fun _ _ e => e) hs
theorem wAugItem {o i value : Expr} {tpos pos : Pos} {op : Operator} {Q : Flow → St → Prop}
    (h : WP F (eval o F.env) (⟨fr₀, P₀, M₀⟩ : St) (kAugI F i op value Q))
    (hi : ∀ ov iv new, augStore i ov iv new = (do holding [new, ov, iv] (setItem ov iv new); release [new, ov, iv] []; pure .next)) : WP F (exec (.AugAssign (.Subscript o i tpos) op value pos) F.env) (⟨fr₀, P₀, M₀⟩ : St) Q :=
  fun s r => wpAny_AugAssign_SubscriptAny (wpAny_mono (h s r) (fun _ s1 ez26 => ez26.elim fun _ pz26 => wpAny_mono (pz26.2 s1 pz26.1) (fun _ s2 ez27 => ez27.elim fun _ pz27 => wpAny_mono (pz27.2 s2 pz27.1) (fun _ s3 ez28 => ez28.elim fun _ pz28 => wpAny_mono (pz28.2 s3 pz28.1) (fun _ s4 ez29 => ez29.elim fun _ pz29 => wpAny_mono (pz29.2 s4 pz29.1) (fun _ s5 ez30 => ez30.elim fun _ pz30 => pz30.2 s5 pz30.1)
    fun _ _ e => e) fun _ _ e => e) fun _ _ e => e) fun _ _ e => e) fun _ _ e => e) hi
theorem wAugAttr {o value : Expr} {attr : Str} {tpos pos : Pos} {op : Operator} {Q : Flow → St → Prop}
    (h : WP F (eval o F.env) (⟨fr₀, P₀, M₀⟩ : St) (kAugA F attr op value Q)) : WP F (exec (.AugAssign (.Attribute o attr tpos) op value pos) F.env) (⟨fr₀, P₀, M₀⟩ : St) Q :=
  fun s r => wpAny_AugAssign_AttributeAny (wpAny_mono (h s r) (fun _ s1 ez31 => ez31.elim fun _ pz31 => wpAny_mono (pz31.2 s1 pz31.1) (fun _ s2 ez32 => ez32.elim fun _ pz32 => wpAny_mono (pz32.2 s2 pz32.1) (fun _ s3 ez33 => ez33.elim fun _ pz33 => wpAny_mono (pz33.2 s3 pz33.1) (fun _ s4 ez34 => ez34.elim fun _ pz34 => pz34.2 s4 pz34.1)
    fun _ _ e => e) fun _ _ e => e) fun _ _ e => e) fun _ _ e => e)
end
section
variable {α β : Type} {c : Cx} {F : Frm c} {D : FnD} {n : Nat} {st : St}

inductive Stores : List (Str × Option Value) → List Str → List Value → List (Str × Option Value) → Prop
  | nil {fr} : Stores fr [] [] fr
  | cons {fr fr' fr'' x xs v vs} : Put x (some v) fr fr' → Stores fr' xs vs fr'' → Stores fr (x :: xs) (v :: vs) fr''
theorem wInOrderA (H : Ok F D n) {Q : Unit → St → Prop} {P₀ : Pset} {M₀ : List (Addr × Obj)} : ∀ {xs : List (Str × Pos)} {vs : List Value} {fr fr' : List (Str × Option Value)}, Stores fr (xs.map (·.1)) vs fr' → Q () ⟨fr', P₀, M₀⟩ →
    WP F (assignInOrder (xs.map fun x => assign (.Name x.1 x.2) F.env) vs) ⟨fr, P₀, M₀⟩ Q
  | _ :: _, _, _, _, .cons p h, hQ => fun s r =>
    assignInOrder_cons (PyProof.Rows.assign_Name (wpAny_mono (wStore H (Q := fun _ st' => st' = ⟨_, P₀, M₀⟩) p rfl s r) (fun _ s' ⟨_, r', e⟩ => by subst e; exact wInOrderA H h hQ s' r') fun _ _ e => e))
  | [], _, _, _, .nil, hQ => fun _ r => assignInOrder_nil ⟨_, r, hQ⟩
theorem Rp.ext (r : Rp F st s) {h' : Heap} (he : Heap.ExtBut s.heap.objs.size s.heap h') (t : Nat) : Rp F st { s with heap := h', toks := t } :=
  r.kept (fun b o e => he b o (Nat.ne_of_lt (Heap.lt_size e)) e) t
theorem wTargetTup {fr₀ : List (Str × Option Value)} {P₀ : Pset} {M₀ : List (Addr × Obj)} (H : Ok F D n) {elts : List Expr} {k : Nat} {pos : Pos} {xs : List (Str × Pos)} {t : Addr} {vs : List Value} {fr : List (Str × Option Value)} {Q : Unit → St → Prop} (hP : P₀ t (tupO vs)) (hS : Stores fr₀ (xs.map (·.1)) vs fr) (h : Q () ⟨fr, P₀, M₀⟩)
    (he : assignEach elts F.env = xs.map (fun x => (false, assign (.Name x.1 x.2) F.env))) (hl : xs.length = vs.length) : WP F (assign (.Tuple elts k pos) F.env (.ref t)) (⟨fr₀, P₀, M₀⟩ : St) Q := by
  refine ofQ ?_; simp (disch := (k_dflt (
  refine hold ?_
  intro s r
  refine assign_Tuple_tuple H.hh (r.tup hP) (by rw [he]; simp [hl]) (by rw [he]; simp [List.findIdx?_map, Function.comp_def]) fun h' e => ?_
  rw [he]
  have : ((xs.map fun x => (false, assign (Expr.Name x.1 x.2) F.env)).map (·.2)) = xs.map fun x => assign (.Name x.1 x.2) F.env := by simp [List.map_map, Function.comp_def]
  rw [this]
  exact wInOrderA H hS h _ (r.ext e _)
  ))) only [↓quiet]
theorem wTargetN {fr₀ : List (Str × Option Value)} {P₀ : Pset} {M₀ : List (Addr × Obj)} (H : Ok F D n) {x : Str} {pos : Pos} {v : Value} {fr' : List (Str × Option Value)} {Q : Unit → St → Prop} (p : Put x (some v) fr₀ fr') (h : Q () ⟨fr', P₀, M₀⟩) : WP F (assign (.Name x pos) F.env v) (⟨fr₀, P₀, M₀⟩ : St) Q :=
  fun s r => PyProof.Rows.assign_Name (wStore H p h s r)

noncomputable def TurnEnd (I : Addr) (o : Obj) (P₀ : Pset) (T : St → Prop) (Q : Flow → St → Prop) (f : Flow) (st : St) : Prop := ∃ M₂, st.M = M₂ ++ [(I, o)] ∧ (match f with
  | .next | .cont => Le P₀ st.P ∧ T ⟨st.fr, st.P, M₂⟩
  | .brk => Q .next ⟨st.fr, st.P, M₂⟩
  | .ret u => Q (.ret u) ⟨st.fr, st.P, M₂⟩)
section
variable {I : Addr} {o : Obj} {P₀ P : Pset} {T : St → Prop} {Q : Flow → St → Prop} {fr : List (Str × Option Value)} {M : List (Addr × Obj)}
theorem TurnEnd.nx (l : Le P₀ P) (h : T ⟨fr, P, M⟩) : TurnEnd I o P₀ T Q .next ⟨fr, P, M ++ [(I, o)]⟩ := ⟨M, rfl, l, h⟩
theorem TurnEnd.rt {u : Value} (h : Q (.ret u) ⟨fr, P, M⟩) : TurnEnd I o P₀ T Q (.ret u) ⟨fr, P, M ++ [(I, o)]⟩ := ⟨M, rfl, h⟩
end
noncomputable abbrev kBody {c : Cx} {α : Type} (F : Frm c) (body : List Stmt) (Q : Flow → St → Prop) (_ : α) (st : St) : Prop := WP F (execs body F.env) st Q
noncomputable def Turns (F : Frm c) (target : Expr) (body : List Stmt) (Q : Flow → St → Prop) (I : Addr) (P : Nat → Value → Prop) : Nat → Nat → St → Prop
  | 0, _, st => Q .next st
  | k + 1, i, st => ∀ v o, P i v → WP F (assign target F.env v) ⟨st.fr, st.P, st.M ++ [(I, o)]⟩ (kBody F body (TurnEnd I o st.P (Turns F target body Q I P k (i + 1)) Q))
theorem Turns.z {target : Expr} {body : List Stmt} {Q : Flow → St → Prop} {I : Addr} {P : Nat → Value → Prop} {i : Nat} (h : Q .next st) : Turns F target body Q I P 0 i st := h
theorem Turns.s {target : Expr} {body : List Stmt} {Q : Flow → St → Prop} {I : Addr} {P : Nat → Value → Prop} {k i : Nat} {fr₀ : List (Str × Option Value)} {P₀ : Pset} {M₀ : List (Addr × Obj)}
    (h : ∀ v o, P i v → WP F (assign target F.env v) ⟨fr₀, P₀, M₀ ++ [(I, o)]⟩ (kBody F body (TurnEnd I o P₀ (Turns F target body Q I P k (i + 1)) Q))) : Turns F target body Q I P (k + 1) i ⟨fr₀, P₀, M₀⟩ := h

theorem mdel_last (I : Addr) (o : Obj) (M : List (Addr × Obj)) : Mdel I o (M ++ [(I, o)]) M := by
  have : Mdel I o (M ++ [(I, o)]) (M ++ []) := .ap .hd
  rwa [List.append_nil] at this
theorem mp_last (I : Addr) (o o' : Obj) (M : List (Addr × Obj)) : Mp I o o' (M ++ [(I, o)]) (M ++ [(I, o')]) := .ap .hd
theorem Rp.only (r : Rp F st s) {I : Addr} {o o' : Obj} {M' : List (Addr × Obj)} (U : Mp I o o' st.M M') {h' : Heap} (hk : ∀ b q, b ≠ I → s.heap.get? b = some q → h'.get? b = some q) (ho : h'.get? I = some o') (t : Nat) :
    Rp F ⟨st.fr, st.P, M'⟩ { s with heap := h', toks := t } := by
  refine ofQ ?_; simp (disch := (k_dflt (
  refine hold ?_
  have N := r.mN _ U.mem
  obtain ⟨pre, post, e1, e2⟩ := U.split
  obtain ⟨oL, a1, a2, hL, a3⟩ := r.fr.ns
  have hIg : ∀ b q, F.g.get? b = some q → b ≠ I := fun b q e x => by have := N.2.2; rw [← x, e] at this; cases this
  have f' : Fr F.g F.env.locals h' (look st.fr) := ⟨⟨oL, a1, a2, hk _ _ (fun e => N.2.1 e.symm) hL, a3⟩, fun b q e => hk _ _ (hIg b q e) (r.fr.keep b q e), r.fr.above⟩
  have hK : M'.map (·.1) = st.M.map (·.1) := by rw [e1, e2]; simp
  have nd := r.mD
  rw [e1, List.map_append, List.map_cons, List.nodup_append, List.nodup_cons] at nd
  have n' : News F.g F.env.locals h' M' := fun p hp => by
    rw [e2] at hp
    rcases List.mem_append.mp hp with hp | hp
    · have Np := r.mN p (by rw [e1]; exact List.mem_append.mpr (.inl hp))
      exact ⟨hk _ _ (nd.2.2 p.1 (List.mem_map_of_mem (f := fun p : Addr × Obj => p.1) hp) I (.head _)) Np.1, Np.2⟩
    · rcases List.mem_cons.mp hp with rfl | hp
      · exact ⟨ho, N.2⟩
      · have Np := r.mN p (by rw [e1]; exact List.mem_append.mpr (.inr (.tail _ hp)))
        exact ⟨hk _ _ (fun e => nd.2.1.1 (List.mem_map.mpr ⟨p, hp, e⟩)) Np.1, Np.2⟩
  refine ⟨f', canon f' n' (hK ▸ r.mD) fun a q hP => ?_, r.z, r.ks, r.gens, r.os⟩
  have hpm := r.pM hP
  exact ⟨hk _ _ (fun e => hpm.2 (e ▸ List.mem_map_of_mem (f := fun p : Addr × Obj => p.1) U.mem)) (r.p hP), hpm.1, hK ▸ hpm.2⟩
  ))) only [↓quiet]
inductive LoopI {c : Cx} (F : Frm c) (target : Expr) (body : List Stmt) (Q : Flow → St → Prop) (I : Addr) (P : Nat → Value → Prop) (W : Nat → Heap → Prop) (m : Nat) (P₀ : Pset) (k : Nat) (s' : Shared) : Prop
  | mk (i : Nat) (st' : St) (o : Obj) : Rp F ⟨st'.fr, st'.P, st'.M ++ [(I, o)]⟩ s' → W i s'.heap → Le P₀ st'.P → Turns F target body Q I P (m - i) i st' → i ≤ m → k = m + 1 - i → LoopI F target body Q I P W m P₀ k s'
theorem loop_core {target : Expr} {body : List Stmt} {Q : Flow → St → Prop} {E : Result → Shared → Prop} {I : Addr} {fp wr : List Addr} {m : Nat} {P : Nat → Value → Prop} {W : Nat → Heap → Prop} (w : Walks P0 c.w F.A I fp wr m P W)
    (hwr : ∀ b ∈ wr, b = I) (hex : ∀ i h, W i h → ∃ o, h.get? I = some o) (hfp : ∀ b ∈ fp, b = I ∨ ∃ o, st.P b o)
    (hgo : ∀ i (s' : Shared) v (Q' : Unit → Shared → Prop) E', W i s'.heap → P (i - 1) v → Q' () s' → wpAny (model P0 c.w) F.A (letOwnedTupleGo target (.ref I) v) Q' E' s')
    (hE : ∀ f s', (∃ st', Rp F st' s' ∧ Q f st') → E (.ok f) s')
    {o : Obj} {s : Shared} (r : Rp F ⟨st.fr, st.P, st.M ++ [(I, o)]⟩ s) (hW : W 0 s.heap) (T : Turns F target body Q I P m 0 st) : codeAny (model P0 c.w) F.A (.forLoop target (.ref I) body [] F.env) E s := by
  refine ofQ ?_; simp (disch := (k_dflt (
  refine hold ?_
  refine codeAny_forLoop_any (LoopI F target body Q I P W m st.P) ?_ (m + 1) ⟨0, st, o, r, hW, Le.rfl, T, Nat.zero_le _, rfl⟩
  rintro k s' ⟨i, st', o, r', hW', hle, T', hi, rfl⟩
  have hkk : ∀ h' : Heap, (∀ b q, b ∉ wr → s'.heap.get? b = some q → h'.get? b = some q) → ∀ b q, b ≠ I → s'.heap.get? b = some q → h'.get? b = some q := fun h' hk b q hb e => hk b q (fun hm => hb (hwr b hm)) e
  by_cases hlt : i < m
  · refine w.item i _ _ _ hlt hW' fun v h₁ tk₁ hP hW₁ hk₁ => ?_
    obtain ⟨o₁, ho₁⟩ := hex _ _ hW₁
    have r₁ := r'.only (mp_last I o o₁ st'.M) (hkk h₁ hk₁) ho₁ tk₁
    have e : m - i = (m - (i + 1)) + 1 := by omega
    rw [e] at T'
    refine hgo (i + 1) _ v _ _ hW₁ (by simpa using hP) ?_
    refine wpAny_mono (T' v o₁ hP _ r₁) (fun _ s₂ ez37 => ez37.elim fun st₂ pz37 => wpAny_mono (pz37.2 s₂ pz37.1) (fun f s₃ ⟨st₃, r₃, h₃⟩ => ?_) fun _ _ e => e.elim) fun _ _ e => e.elim
    obtain ⟨M₂, eM, h₃⟩ := h₃
    have turn : (Le st'.P st₃.P ∧ Turns F target body Q I P (m - (i + 1)) (i + 1) ⟨st₃.fr, st₃.P, M₂⟩) → ∃ q, q < m + 1 - i ∧ LoopI F target body Q I P W m st.P q s₃ := by
      rintro ⟨hl, T₃⟩
      have r₃' : Rp F ⟨st₃.fr, st₃.P, M₂ ++ [(I, o₁)]⟩ s₃ := eM ▸ r₃
      refine ⟨m + 1 - (i + 1), by omega, i + 1, ⟨st₃.fr, st₃.P, M₂⟩, o₁, r₃', ?_, hle.trans hl, T₃, hlt, rfl⟩
      refine w.frame _ _ _ hW₁ fun b hb q e => ?_
      rcases hfp b hb with rfl | ⟨q', hq⟩
      · rw [ho₁] at e; cases e
        exact r₃'.m (List.mem_append.mpr (.inr (.head _)))
      · have h1 := r₁.p (hle _ _ hq)
        have h1' : h₁.get? b = some q' := h1
        have e' : h₁.get? b = some q := e
        rw [h1'] at e'; cases e'
        exact r₃.p (hl _ _ (hle _ _ hq))
    cases f with
    | next => exact turn h₃
    | cont => exact turn h₃
    | brk => exact hE _ _ ⟨_, (show Rp F ⟨st₃.fr, st₃.P, M₂ ++ [(I, o₁)]⟩ s₃ from eM ▸ r₃).drop (mdel_last I o₁ M₂), h₃⟩
    | ret u => exact hE _ _ ⟨_, (show Rp F ⟨st₃.fr, st₃.P, M₂ ++ [(I, o₁)]⟩ s₃ from eM ▸ r₃).drop (mdel_last I o₁ M₂), h₃⟩
  · have him : i = m := by omega
    subst him
    rw [Nat.sub_self] at T'
    refine w.done _ _ _ hW' fun h₁ tk₁ hk₁ => wpAny_execs_nil ?_
    have d := r'.drop (mdel_last I o st'.M)
    have N := r'.mN (I, o) (List.mem_append.mpr (.inr (.head _)))
    -- at the end the iterator may be turned once more; it is dropped
    obtain ⟨oL, a1, a2, hL, a3⟩ := d.fr.ns
    have hk := hkk h₁ hk₁
    have hIg : ∀ b q, F.g.get? b = some q → b ≠ I := fun b q e x => by have := N.2.2; rw [← x, e] at this; cases this
    have f' : Fr F.g F.env.locals h₁ (look st'.fr) := ⟨⟨oL, a1, a2, hk _ _ (fun e => N.2.1 e.symm) hL, a3⟩, fun b q e => hk _ _ (hIg b q e) (d.fr.keep b q e), d.fr.above⟩
    have nd := r'.mD
    rw [List.map_append, List.nodup_append] at nd
    have hIM : ∀ p ∈ st'.M, p.1 ≠ I := fun p hp => nd.2.2 p.1 (List.mem_map_of_mem (f := fun p : Addr × Obj => p.1) hp) I (.head _)
    have n' : News F.g F.env.locals h₁ st'.M := fun p hp => ⟨hk _ _ (hIM p hp) (d.mN p hp).1, (d.mN p hp).2⟩
    exact hE _ _ ⟨_, ⟨f', canon f' n' nd.1 fun a q hP => (by
      have hpm := r'.pM hP
      refine ⟨hk _ _ (fun e => hpm.2 ?_) (r'.p hP), hpm.1, (d.pM hP).2⟩
      rw [e]; simp), d.z, d.ks, d.gens, d.os⟩, T'⟩
  ))) only [↓quiet]
noncomputable def OverTup (F : Frm c) (target : Expr) (body : List Stmt) (Q : Flow → St → Prop) (x : Value) (st : St) : Prop := ∃ t vs, x = .ref t ∧ st.P t (tupO vs) ∧ ∀ I, Turns F target body Q I (fun i v => vs[i]? = some v) vs.length 0 st
theorem OverTup.mk {fr₀ : List (Str × Option Value)} {P₀ : Pset} {M₀ : List (Addr × Obj)} {target : Expr} {body : List Stmt} {Q : Flow → St → Prop} {t : Addr} {vs : List Value} (h : P₀ t (tupO vs)) (T : ∀ I, Turns F target body Q I (fun i v => vs[i]? = some v) vs.length 0 ⟨fr₀, P₀, M₀⟩) : OverTup F target body Q (.ref t) ⟨fr₀, P₀, M₀⟩ := ⟨t, vs, rfl, h, T⟩
noncomputable def OverList (F : Frm c) (target : Expr) (body : List Stmt) (Q : Flow → St → Prop) (x : Value) (st : St) : Prop := ∃ t vs k, x = .ref t ∧ st.P t (listOf vs k) ∧ ∀ I, Turns F target body Q I (fun i v => vs[i]? = some v) vs.size 0 st
theorem OverList.mk {fr₀ : List (Str × Option Value)} {P₀ : Pset} {M₀ : List (Addr × Obj)} {target : Expr} {body : List Stmt} {Q : Flow → St → Prop} {t : Addr} {vs : Array Value} {k : Nat} (h : P₀ t (listOf vs k)) (T : ∀ I, Turns F target body Q I (fun i v => vs[i]? = some v) vs.size 0 ⟨fr₀, P₀, M₀⟩) : OverList F target body Q (.ref t) ⟨fr₀, P₀, M₀⟩ := ⟨t, vs, k, rfl, h, T⟩
noncomputable def TurnsL (F : Frm c) (target : Expr) (body : List Stmt) (Q : Flow → St → Prop) (I : Addr) : List Value → St → Prop
  | [], st => Q .next st
  | v :: vs, st => ∀ o, WP F (assign target F.env v) ⟨st.fr, st.P, st.M ++ [(I, o)]⟩ (kBody F body (TurnEnd I o st.P (TurnsL F target body Q I vs) Q))
theorem TurnsL.nil {target : Expr} {body : List Stmt} {Q : Flow → St → Prop} {I : Addr} {st : St} (h : Q .next st) : TurnsL F target body Q I [] st := h
theorem TurnsL.cons {target : Expr} {body : List Stmt} {Q : Flow → St → Prop} {I : Addr} {v : Value} {vs : List Value} {fr₀ : List (Str × Option Value)} {P₀ : Pset} {M₀ : List (Addr × Obj)}
    (h : ∀ o, WP F (assign target F.env v) ⟨fr₀, P₀, M₀ ++ [(I, o)]⟩ (kBody F body (TurnEnd I o P₀ (TurnsL F target body Q I vs) Q))) : TurnsL F target body Q I (v :: vs) ⟨fr₀, P₀, M₀⟩ := h
theorem TurnEnd.mono {I : Addr} {o : Obj} {P₀ : Pset} {T T' : St → Prop} {Q : Flow → St → Prop} {f : Flow} {st : St} (h : TurnEnd I o P₀ T Q f st) (k : ∀ st, T st → T' st) : TurnEnd I o P₀ T' Q f st := by
  obtain ⟨M₂, e, h⟩ := h
  refine ⟨M₂, e, ?_⟩
  cases f with
  | next => exact ⟨h.1, k _ h.2⟩
  | cont => exact ⟨h.1, k _ h.2⟩
  | brk => exact h
  | ret v => exact h
theorem TurnsL.go {target : Expr} {body : List Stmt} {Q : Flow → St → Prop} {I : Addr} : ∀ (vs pre all : List Value) (st : St), all = pre ++ vs → TurnsL F target body Q I vs st → Turns F target body Q I (fun i v => all[i]? = some v) vs.length pre.length st
  | [], _, _, _, _, h => h
  | v :: vs, pre, all, st, e, h => fun v' o hv => by
    have : v' = v := by rw [e] at hv; simpa using hv.symm
    subst this
    refine (h o).mono fun _ st₁ h₁ => h₁.mono fun f st₂ h₂ => h₂.mono fun st₃ h₃ => ?_
    have := TurnsL.go vs (pre ++ [v']) all st₃ (by rw [e]; simp) h₃
    simpa using this
theorem OverTup.l {fr₀ : List (Str × Option Value)} {P₀ : Pset} {M₀ : List (Addr × Obj)} {target : Expr} {body : List Stmt} {Q : Flow → St → Prop} {t : Addr} {vs : List Value} (h : P₀ t (tupO vs)) (T : ∀ I, TurnsL F target body Q I vs ⟨fr₀, P₀, M₀⟩) : OverTup F target body Q (.ref t) ⟨fr₀, P₀, M₀⟩ := .mk h fun I => TurnsL.go vs [] vs _ rfl (T I)
theorem OverList.l {fr₀ : List (Str × Option Value)} {P₀ : Pset} {M₀ : List (Addr × Obj)} {target : Expr} {body : List Stmt} {Q : Flow → St → Prop} {t : Addr} {vs : List Value} {k : Nat} (h : P₀ t (listOf vs.toArray k)) (T : ∀ I, TurnsL F target body Q I vs ⟨fr₀, P₀, M₀⟩) : OverList F target body Q (.ref t) ⟨fr₀, P₀, M₀⟩ :=
  .mk h fun I => by
    have := TurnsL.go vs [] vs _ rfl (T I)
    simpa using this
theorem wForTup (H : Ok F D n) {target iter : Expr} {body : List Stmt} {pos : Pos} {Q : Flow → St → Prop}
    (h : WP F (eval iter F.env) st (OverTup F target body Q))
    (hgo : ∀ I t i (s' : Shared) v (Q' : Unit → Shared → Prop) E', s'.heap.IsTupleIter I t i → Q' () s' → wpAny (model P0 c.w) F.A (letOwnedTupleGo target (.ref I) v) Q' E' s')
    (hs : ∀ x, foldedSetIterable iter F.env x = pure x) : WP F (exec (.For target iter body [] pos) F.env) st Q :=
  fun s r => wpAny_For (wpAny_mono (h s r) (fun x s₁ ⟨st₁, r₁, t, vs, e, hP, T⟩ => by
    subst e
    have ht : s₁.heap.IsTuple t vs.toArray := Heap.IsTuple.at (r₁.tup hP) fun _ e => e
    refine wpAny_pyIter_tuple ht ?_
    have hne : t ≠ s₁.heap.objs.size := Nat.ne_of_lt (Heap.lt_size (r₁.p hP))
    refine loop_core (Q := Q) (st := st₁) (Walks.tuple H.hh _ t hne vs.toArray) (fun b hb => List.mem_singleton.mp hb) (fun i h hW => let ⟨o, e, _⟩ := hW.1; ⟨o, e⟩) (fun b hb => ?_) (fun i s' v Q' E' hW _ q => hgo _ _ _ s' v Q' E' hW.1 q) (fun f s' h => h) (r₁.pushM rfl _) ?_ ?_
    · rcases List.mem_cons.mp hb with e | hb
      · exact .inl e
      · exact .inr ⟨_, (List.mem_singleton.mp hb) ▸ hP⟩
    · exact ⟨⟨_, Heap.get?_push_size _ rfl, rfl, rfl⟩, ht.at fun o e => Heap.get?_push_of_some _ e⟩
    · have := T s₁.heap.objs.size
      simpa using this) fun _ _ e => e) hs
theorem wForList (H : Ok F D n) {target iter : Expr} {body : List Stmt} {pos : Pos} {Q : Flow → St → Prop}
    (h : WP F (eval iter F.env) st (OverList F target body Q))
    (hgo : ∀ I t i (s' : Shared) v (Q' : Unit → Shared → Prop) E', s'.heap.IsListIter I t i → Q' () s' → wpAny (model P0 c.w) F.A (letOwnedTupleGo target (.ref I) v) Q' E' s')
    (hs : ∀ x, foldedSetIterable iter F.env x = pure x) : WP F (exec (.For target iter body [] pos) F.env) st Q :=
  fun s r => wpAny_For (wpAny_mono (h s r) (fun x s₁ ⟨st₁, r₁, t, vs, k, e, hP, T⟩ => by
    subst e
    have ht : s₁.heap.IsList t vs := r₁.lstP hP
    refine wpAny_pyIter_list ht ?_
    have hne : t ≠ s₁.heap.objs.size := Nat.ne_of_lt (Heap.lt_size (r₁.p hP))
    refine loop_core (Q := Q) (st := st₁) (Walks.list H.hh _ t hne vs) (fun b hb => List.mem_singleton.mp hb) (fun i h hW => let ⟨o, e, _⟩ := hW.1; ⟨o, e⟩) (fun b hb => ?_) (fun i s' v Q' E' hW _ q => hgo _ _ _ s' v Q' E' hW.1 q) (fun f s' h => h) (r₁.pushM rfl _) ?_ (T _)
    · rcases List.mem_cons.mp hb with e | hb
      · exact .inl e
      · exact .inr ⟨_, (List.mem_singleton.mp hb) ▸ hP⟩
    · exact ⟨⟨_, Heap.get?_push_size _ rfl, rfl, rfl⟩, ht.at fun o e => Heap.get?_push_of_some _ e⟩) fun _ _ e => e) hs
noncomputable def OverRange (F : Frm c) (target : Expr) (body : List Stmt) (Q : Flow → St → Prop) (x : Value) (st : St) : Prop := ∃ (r : Addr) (k : Nat) (t u v : Tok), x = .ref r ∧ k < 2 ^ 62 ∧ st.P r { cls := .type "range", data := .fields #[.int 0 t, .int k u, .int 1 v] } ∧ ∀ I, Turns F target body Q I (fun i v => ∃ t, v = .int i t) k 0 st
theorem OverRange.mk {fr₀ : List (Str × Option Value)} {P₀ : Pset} {M₀ : List (Addr × Obj)} {target : Expr} {body : List Stmt} {Q : Flow → St → Prop} {r : Addr} {k : Nat} {t u v : Tok} (h : P₀ r { cls := .type "range", data := .fields #[.int 0 t, .int k u, .int 1 v] }) (hk : k < 2 ^ 62) (T : ∀ I, Turns F target body Q I (fun i v => ∃ t, v = .int i t) k 0 ⟨fr₀, P₀, M₀⟩) : OverRange F target body Q (.ref r) ⟨fr₀, P₀, M₀⟩ := ⟨r, k, t, u, v, rfl, hk, h, T⟩
theorem wRange (H : Ok F D n) {fr₀ : List (Str × Option Value)} {P₀ : Pset} {M₀ : List (Addr × Obj)} {k : Int} {t : Tok} {Q : Value → St → Prop} (h : ∀ r t' u' P', Le P₀ P' → P' r { cls := .type "range", data := .fields #[.int 0 t', .int k t, .int 1 u'] } → Q (.ref r) ⟨fr₀, P', M₀⟩) : WP F (call (.type "range") [.int k t]) ⟨fr₀, P₀, M₀⟩ Q := fun _ r =>
  call_range_1 ⟨_, r.pushP H rfl _, h _ _ _ _ (fun _ _ h => .inl h) (.inr ⟨rfl, rfl⟩)⟩
theorem wForRange (H : Ok F D n) {target iter : Expr} {body : List Stmt} {pos : Pos} {Q : Flow → St → Prop}
    (h : WP F (eval iter F.env) st (OverRange F target body Q))
    (hgo : ∀ I (s' : Shared) v (Q' : Unit → Shared → Prop) E', Q' () s' → wpAny (model P0 c.w) F.A (letOwnedTupleGo target (.ref I) v) Q' E' s')
    (hs : ∀ x, foldedSetIterable iter F.env x = pure x) : WP F (exec (.For target iter body [] pos) F.env) st Q :=
  fun s r => wpAny_For (wpAny_mono (h s r) (fun x s₁ ⟨st₁, r₁, a, k, t, u, v, e, hk, hP, T⟩ => by
    subst e
    have hr : IsRange s₁.heap a 0 k 1 t u v := r₁.p hP
    have hsz : Builtin.Range.rangeSize 0 k 1 = k := by
      unfold Builtin.Range.rangeSize
      simp
      intro e; rw [e]; rfl
    have h2 : (2:Nat) ^ 62 < 2 ^ 63 := by decide
    have h3 : (2:Nat) ^ 63 = (2:Int) ^ 63 := by decide
    refine wpAny_pyIter_range hr ?_ ?_
    · unfold Builtin.Range.small Builtin.Range.rangeFitsLong
      rw [hsz]
      simp
      omega
    refine loop_core (Q := Q) (st := st₁) (Walks.range H.hh s₁.heap.objs.size 0 1 k) (fun b hb => List.mem_singleton.mp hb) (fun i h hW => ⟨_, hW⟩) (fun b hb => .inl (List.mem_singleton.mp hb)) (fun i s' v Q' E' _ _ q => hgo _ s' v Q' E' q) (fun f s' h => h) (r₁.pushM rfl _) ?_ ?_
    · rw [hsz]
      have e : IsRangeIter (s₁.heap.push { cls := .type "range_iterator", data := .fields #[rawInt 0, rawInt k, rawInt 1] }) s₁.heap.objs.size (0 + ((0 : Nat) : Int) * 1) ((k : Int) - ((0 : Nat) : Int)) 1 := by
        simp
        exact Heap.get?_push_size _ rfl
      exact e
    · have := T s₁.heap.objs.size
      have e : (fun (i : Nat) v => ∃ t, v = Value.int (0 + (i : Int) * 1) t) = (fun (i : Nat) v => ∃ t, v = Value.int i t) := by funext i v; simp
      rw [e]; exact this) fun _ _ e => e) hs
end
section
open Sem (wp)
noncomputable abbrev RKey := Int × Int × Bool
section
variable {prog : Program} {w : World}
inductive RowIs (h : Heap) : RKey → List Value → Prop
  | two {a b : Int} {t u : Tok} : RowIs h (a, b, false) [.int a t, .int b u]
  | three {a b : Int} {t u : Tok} {e : Addr} : IsTupleKey (intKind prog w) h [] e → RowIs h (a, b, true) [.int a t, .int b u, .ref e]
noncomputable def IsRow (prog : Program) (w : World) (h : Heap) (k : RKey) (a : Addr) : Prop := ∃ o items n, h.get? a = some o ∧ o.cls = .type "tuple" ∧ o.data = .seq items n ∧ RowIs (prog := prog) (w := w) h k items.toList
theorem IsRow.typeIs {s : Shared} {k : RKey} {a : Addr} (x : IsRow prog w s.heap k a) : s.TypeIs (.ref a) "tuple" := let ⟨o, _, _, ho, hc, _⟩ := x; ⟨o, ho, hc⟩
theorem IsRow.inj {h : Heap} {a : Addr} {x y : RKey} (hx : IsRow prog w h x a) (hy : IsRow prog w h y a) : x = y := by
  refine ofQ ?_; simp (disch := (k_dflt (
  refine hold ?_
  obtain ⟨o, items, n, ho, _, hd, hi⟩ := hx
  obtain ⟨o', items', n', ho', _, hd', hi'⟩ := hy
  obtain rfl : o = o' := Option.some.inj (ho.symm.trans ho')
  rw [hd] at hd'
  injection hd' with h1 _
  subst h1
  generalize items.toList = l at hi hi'
  cases hi <;> cases hi' <;> rfl
  ))) only [↓quiet]
theorem IsRow.keeps {h h' : Heap} {k : RKey} {a d : Addr} {o : Obj} {es ep} (x : IsRow prog w h k a) (ho : h.get? d = some o) (hd : o.data = .dict es ep) (hs : Heap.SameBut d h h') : IsRow prog w h' k a := by
  refine ofQ ?_; simp (disch := (k_dflt (
  refine hold ?_
  obtain ⟨o', items, n, ho', hc, hd', hi⟩ := x
  have hne : a ≠ d := by
    rintro rfl
    obtain rfl : o' = o := Option.some.inj (ho'.symm.trans ho)
    rw [hd] at hd'; exact nomatch hd'
  refine ⟨o', items, n, (hs.2 a hne).trans ho', hc, hd', ?_⟩
  generalize items.toList = l at hi
  cases hi with
  | two => exact .two
  | three e => exact .three (e.keeps ho hd hs)
  ))) only [↓quiet]
noncomputable def rowHash (k : RKey) : Int := reduceHash (Builtin.Tuple.tupleHashOf ([hashInt k.1, hashInt k.2.1] ++ (if k.2.2 then [reduceHash (Builtin.Tuple.tupleHashOf [])] else [])))
noncomputable def rowDraws (k : RKey) : Nat := if k.2.2 then 4 else 3

variable {A : Around} {E : Value → Shared → Prop} {s : Shared}
theorem fin_hash (hs : List Int) {Q : Int → Shared → Prop} (h : Q (reduceHash (Builtin.Tuple.tupleHashOf hs)) s) : wpAny (model prog w) A (pyHashByItsType.reduced (Builtin.Tuple.tupleHashOf hs)) Q E s := by
  refine ofQ ?_; simp (disch := (k_dflt (
  refine hold ?_
  unfold pyHashByItsType.reduced
  unfold reduceHash at h
  by_cases hr : (decide (-(2 : Int) ^ 63 ≤ Builtin.Tuple.tupleHashOf hs) && decide (Builtin.Tuple.tupleHashOf hs < 2 ^ 63)) = true
  · rw [if_pos hr]
    rw [if_pos hr] at h
    exact wpAny_pure h
  · rw [if_neg hr]
    rw [if_neg hr] at h
    exact wpAny_bind (wpAny_rule (wpAny_pure h))
  ))) only [↓quiet]
theorem row_hash {k : RKey} {a : Addr} {Q : Int → Shared → Prop} (hu : A.units + 20 < cLine) (hk : IsRow prog w s.heap k a) (h : Q (rowHash k) { s with toks := s.toks + rowDraws k }) : wpAny (model prog w) A (pyHash (.ref a)) Q E s := by
  refine ofQ ?_; simp (disch := (k_dflt (
  refine hold ?_
  have hT := hk.typeIs
  obtain ⟨o, items, n, ho, _, hd, hi⟩ := hk
  unfold pyHash
  first | unfold pyHashByItsType | skip
  first | refine wpAny_bind (wpAny_cRoomFor_or (.inr (by lia)) ?_) | skip
  refine wpAny_bind (wpAny_specialOf hT F.slot_tuple_hash.lookup ?_)
  show wpAny _ _ (if (some (Value.builtin "tuple.__hash__") == some Value.none) = true then _ else _) Q E s
  rw [if_neg (by rw [beq_builtin_none]; exact Bool.false_ne_true)]
  refine wpAny_bind (wpAny_specialOf hT F.slot_tuple_hash.lookup ?_)
  show wpAny _ _ (callSpecialIfBoundUnlessNone? (.ref a) "__hash__" _ >>= _) Q E s
  refine wpAny_bind (wpAny_callSpecialIfBoundUnlessNone?_slot hT F.slot_tuple_hash (wpAny_call_entry F.slot_tuple_hash hT F.entry_tuple_hash ?_ (F.args_tuple_hash_1 _)))
  show wpAny _ _ (Builtin.Tuple.tupleItemsOf (.ref a) >>= _) _ _ s
  refine wpAny_bind (wpAny_tupleItemsOf ho hd ?_)
  refine wpAny_bind ?_
  rw [← Array.forIn_toList]
  generalize items.toList = l at hi ⊢
  cases hi with
  | two =>
    simp only [List.forIn_cons, List.forIn_nil]
    refine wpAny_bind (wpAny_bind (wpAny_pyHash_int (wpAny_pure ?_)))
    dsimp only
    refine wpAny_bind (wpAny_bind (wpAny_pyHash_int (wpAny_pure ?_)))
    dsimp only
    refine wpAny_pure ?_
    refine wpAny_ret_mkInt ?_
    have h' : Q (reduceHash (Builtin.Tuple.tupleHashOf [hashInt _, hashInt _])) { s with toks := s.toks + 1 + 1 + 1 } := h
    exact fin_hash _ h'
  | three e =>
    simp only [List.forIn_cons, List.forIn_nil]
    refine wpAny_bind (wpAny_bind (wpAny_pyHash_int (wpAny_pure ?_)))
    dsimp only
    refine wpAny_bind (wpAny_bind (wpAny_pyHash_int (wpAny_pure ?_)))
    dsimp only
    refine wpAny_bind (wpAny_bind (wpAny_pyHash_tuple (knd := intKind prog w) (ks := []) ?_ e (wpAny_pure ?_)))
    · show A.units + 1 < cLine
      lia
    dsimp only
    refine wpAny_pure ?_
    refine wpAny_ret_mkInt ?_
    have h' : Q (reduceHash (Builtin.Tuple.tupleHashOf [hashInt _, hashInt _, reduceHash (Builtin.Tuple.tupleHashOf [])])) { s with toks := s.toks + 1 + 1 + 1 + 1 } := h
    exact fin_hash _ h'
  ))) only [↓quiet]
inductive RowTl (h : Heap) : Bool → List Value → Prop
  | no : RowTl h false []
  | yes {e : Addr} : IsTupleKey (intKind prog w) h [] e → RowTl h true [.ref e]
theorem RowIs.split {h : Heap} {k : RKey} {l : List Value} (x : RowIs (prog := prog) (w := w) h k l) : ∃ t u tl, l = .int k.1 t :: .int k.2.1 u :: tl ∧ RowTl (prog := prog) (w := w) h k.2.2 tl := by
  cases x with
  | two => exact ⟨_, _, _, rfl, .no⟩
  | three e => exact ⟨_, _, _, rfl, .yes e⟩
theorem row_eq_tree {x y : RKey} {a b : Addr} {P : Fin → Shared → Prop} (hu : A.units + 20 < cLine) (hx : IsRow prog w s.heap x a) (hy : IsRow prog w s.heap y b) (h : P (.done (.ret (.bool (decide (x = y))))) s) :
    wpAny (model prog w) A (Builtin.«tuple.__eq__» ⟨[.ref a, .ref b], []⟩) P E s := by
  refine ofQ ?_; simp (disch := (k_dflt (
  refine hold ?_
  have hTb := hy.typeIs
  obtain ⟨oa, xs, na, hoa, _, hda, hia⟩ := hx
  obtain ⟨ob, ys, nb, hob, _, hdb, hib⟩ := hy
  show wpAny _ _ (isInstance (.ref b) (.type "tuple") >>= _) _ _ s
  refine wpAny_bind (wpAny_isInstance hTb isSubtype_tuple_tuple ?_)
  refine wpAny_ite_false rfl ?_
  refine wpAny_bind (wpAny_tupleItemsOf hoa hda ?_)
  refine wpAny_bind (wpAny_tupleItemsOf hob hdb ?_)
  obtain ⟨a₁, b₁, c₁⟩ := x
  obtain ⟨a₂, b₂, c₂⟩ := y
  obtain ⟨t₁, u₁, l, hl, hc⟩ := hia.split
  obtain ⟨t₂, u₂, l', hl', hc'⟩ := hib.split
  obtain rfl : xs = (.int a₁ t₁ :: .int b₁ u₁ :: l).toArray := by rw [← hl]
  obtain rfl : ys = (.int a₂ t₂ :: .int b₂ u₂ :: l').toArray := by rw [← hl']
  clear hia hib hl hl' hda hdb hoa hob
  refine wpAny_bind ?_
  have go : ∀ c, decide ((a₁, b₁, c₁) = (a₂, b₂, c₂)) = c → P (.done (.ret (.bool c))) s := fun c e => e ▸ h
  simp only [List.zip_cons_cons, List.forIn_cons]
  refine wpAny_bind (wpAny_bind (wpAny_eqBool_int ?_))
  by_cases h1 : a₁ = a₂
  · subst h1
    refine wpAny_ite_false (by simp) ?_
    refine wpAny_pure ?_
    refine wpAny_bind (wpAny_bind (wpAny_eqBool_int ?_))
    by_cases h2 : b₁ = b₂
    · subst h2
      refine wpAny_ite_false (by simp) ?_
      refine wpAny_pure ?_
      cases hc with
      | no =>
        cases hc' with
        | no => exact wpAny_pure (wpAny_pure (go true (by simp)))
        | yes => exact wpAny_pure (wpAny_pure (go false (by simp)))
      | yes q₁ =>
        cases hc' with
        | no => exact wpAny_pure (wpAny_pure (go false (by simp)))
        | yes q₂ =>
          refine wpAny_bind (wpAny_bind (wpAny_eqBool_tuple (knd := intKind prog w) (by lia) q₁ q₂ ?_))
          refine wpAny_ite_false (by simp) ?_
          exact wpAny_pure (wpAny_pure (wpAny_pure (go true (by simp))))
    · refine wpAny_ite_true (by simp [h2]) ?_
      exact wpAny_bind (wpAny_pure (wpAny_pure (wpAny_pure (wpAny_pure (go false (by simp [h2]))))))
  · refine wpAny_ite_true (by simp [h1]) ?_
    exact wpAny_bind (wpAny_pure (wpAny_pure (wpAny_pure (wpAny_pure (go false (by simp [h1]))))))
  ))) only [↓quiet]
theorem row_eq {x y : RKey} {a b : Addr} {Q : Bool → Shared → Prop} (hu : A.units + 40 < cLine) (hx : IsRow prog w s.heap x a) (hy : IsRow prog w s.heap y b) (h : Q (decide (x = y)) s) : wpAny (model prog w) A (eqBool (.ref a) (.ref b)) Q E s := by
  refine ofQ ?_; simp (disch := (k_dflt (
  refine hold ?_
  unfold eqBool
  try with_reducible refine wpAny_holding ?_
  show wpAny _ _ (if (Value.ref a == Value.ref b) = true then _ else _) Q E s
  by_cases hab : (Value.ref a == Value.ref b) = true
  · rw [if_pos hab]
    have e : a = b := by have := eq_of_beq hab; injection this
    subst e
    obtain rfl := hx.inj hy
    exact wpAny_bind (wpAny_rule (wpAny_pure (by simpa using h)))
  · rw [if_neg hab]
    exact wpAny_bind (wpAny_richCompare_same_room (op := .Eq) hx.typeIs hy.typeIs F.slot_tuple_eq
      (wpAny_call_entry F.slot_tuple_eq hx.typeIs F.entry_tuple_eq (row_eq_tree (by show A.units + _ + _ < _; lia) hx hy ⟨_, rfl, (fun e => nomatch e), wpAny_truthy_bool h⟩) (F.args_tuple_eq_2 _ _)) (by lia))
  ))) only [↓quiet]
theorem quiet_empty {e : Addr} {k : Nat} {Q : Bool → Shared → Prop} (hk : IsTupleKey (intKind prog w) s.heap [] e) (h : Q true s) : wpAny (model prog w) A (eqIsQuiet (k + 1) (.ref e)) Q E s := by
  refine ofQ ?_; simp (disch := (k_dflt (
  refine hold ?_
  have hT := hk.typeIs
  obtain ⟨o, items, n, ho, _, hd, hi⟩ := hk
  unfold eqIsQuiet
  refine wpAny_bind (wpAny_specialOf hT F.slot_tuple_eq.lookup ?_)
  show wpAny _ _ (isInstance (.ref e) (.type "tuple") >>= _) _ _ s
  refine wpAny_bind (wpAny_isInstance hT isSubtype_tuple_tuple ?_)
  refine wpAny_ite_false rfl ?_
  refine wpAny_bind (wpAny_seqItems ho hd ?_)
  refine wpAny_bind ?_
  show wpAny _ _ (forIn items _ _) _ _ s
  rw [← Array.forIn_toList]
  generalize items.toList = l at hi
  cases hi
  exact wpAny_pure (wpAny_pure h)
  ))) only [↓quiet]
theorem row_quiet {k : RKey} {a : Addr} {Q : Bool → Shared → Prop} (hk : IsRow prog w s.heap k a) (h : Q true s) : wpAny (model prog w) A (eqIsQuiet 8 (.ref a)) Q E s := by
  refine ofQ ?_; simp (disch := (k_dflt (
  refine hold ?_
  have hT := hk.typeIs
  obtain ⟨o, items, n, ho, _, hd, hi⟩ := hk
  unfold eqIsQuiet
  refine wpAny_bind (wpAny_specialOf hT F.slot_tuple_eq.lookup ?_)
  show wpAny _ _ (isInstance (.ref a) (.type "tuple") >>= _) _ _ s
  refine wpAny_bind (wpAny_isInstance hT isSubtype_tuple_tuple ?_)
  refine wpAny_ite_false rfl ?_
  refine wpAny_bind (wpAny_seqItems ho hd ?_)
  refine wpAny_bind ?_
  show wpAny _ _ (forIn items _ _) _ _ s
  rw [← Array.forIn_toList]
  generalize items.toList = l at hi
  cases hi with
  | two =>
    simp only [List.forIn_cons, List.forIn_nil, eqIsQuiet_byValue 7 (v := Value.int _ _) rfl]
    refine wpAny_bind (wpAny_bind (wpAny_pure ?_))
    refine wpAny_ite_false (by simp) ?_
    refine wpAny_pure ?_
    dsimp only
    refine wpAny_bind (wpAny_bind (wpAny_pure ?_))
    refine wpAny_ite_false (by simp) ?_
    refine wpAny_pure ?_
    exact wpAny_pure (wpAny_pure h)
  | three q =>
    simp only [List.forIn_cons, List.forIn_nil, eqIsQuiet_byValue 7 (v := Value.int _ _) rfl]
    refine wpAny_bind (wpAny_bind (wpAny_pure ?_))
    refine wpAny_ite_false (by simp) ?_
    refine wpAny_pure ?_
    dsimp only
    refine wpAny_bind (wpAny_bind (wpAny_pure ?_))
    refine wpAny_ite_false (by simp) ?_
    refine wpAny_pure ?_
    dsimp only
    refine wpAny_bind (wpAny_bind (quiet_empty q ?_))
    refine wpAny_ite_false (by simp) ?_
    refine wpAny_pure ?_
    exact wpAny_pure (wpAny_pure h)
  ))) only [↓quiet]
end
noncomputable def rowKind (prog : Program) (w : World) : HeapKind prog w RKey where
  is := IsRow prog w
  hash := rowHash
  draws := rowDraws
  room := fun A => A.units + 40 < cLine
  inj := fun hx hy => hx.inj hy
  keeps := fun x ho hd hs => x.keeps ho hd hs
  pyHash := fun hu hk h => row_hash (by lia) hk h
  eqBool := fun hu hx hy h => row_eq hu hx hy h
  quiet := fun hk h => row_quiet hk h
end
inductive Ob (P : Pset) (M : List (Addr × Obj)) (d : Addr) (o : Obj) : Prop
  | p : P d o → Ob P M d o
  | m : Mem d o M → Ob P M d o
theorem Rp.ob {c : Cx} {F : Frm c} {st : St} {s : Shared} (r : Rp F st s) {d : Addr} {o : Obj} (h : Ob st.P st.M d o) : s.heap.get? d = some o := by
  cases h with
  | p h => exact r.p h
  | m h => exact r.m h.mem
section
variable {α β : Type} {c : Cx} {F : Frm c} {D : FnD} {n : Nat} {fr₀ : List (Str × Option Value)} {P₀ : Pset} {M₀ : List (Addr × Obj)}
noncomputable def Lo (d : Addr) : Prop := (d == sysModules) = false

section
variable {K : Type} [DecidableEq K] {knd : KeyKind P0 c.w K} {d : Addr} {o : Obj} {kvs : List (K × Value)} {k : K} {key : Value}
theorem gItem {v : Value} {Q : Value → St → Prop} (ho : Ob P₀ M₀ d o) (hd : o.IsDictOf knd kvs) (hk : knd.is k key = true) (hv : valueAt kvs k = some v) (h : Q v (⟨fr₀, P₀, M₀⟩ : St)) : WP F (getItem (.ref d) key) (⟨fr₀, P₀, M₀⟩ : St) Q := fun _ r =>
  wpAny_getItem_of hk ((Heap.dictOf_iff.mpr ⟨o, r.ob ho, hd⟩).mapOf) hv ⟨(⟨fr₀, P₀, M₀⟩ : St), r.toks _, h⟩
theorem wItemD {value slice : Expr} {v : Value} {Q : Value → St → Prop} (ho : Ob P₀ M₀ d o) (hd : o.IsDictOf knd kvs) (hk : knd.is k key = true) (hv : valueAt kvs k = some v) (h : Q v (⟨fr₀, P₀, M₀⟩ : St))
    (hs : subscripted slice false (.ref d) key = operate [.ref d, key] (getItem (.ref d) key)) : WP F (subscriptTail value slice (.ref d) key) (⟨fr₀, P₀, M₀⟩ : St) Q := fun s r =>
  tail_any (Heap.dictOf_iff.mpr ⟨o, r.ob ho, hd⟩).typeIs slot_dict_getitem.lookup (gItem ho hd hk hv h s r) hs
theorem sItem {v : Value} {M' : Obj → List (Addr × Obj)} {Q : Unit → St → Prop} (U : ∀ o', Mp d o o' M₀ (M' o')) (hd : o.IsDictOf knd kvs) (hk : knd.is k key = true)
    (h : ∀ o', o'.IsDictOf knd (stored kvs k v) → Q () ⟨fr₀, P₀, M' o'⟩) (hsz : kvs.length ≤ sizeLine) : WP F (setItem (.ref d) key v) (⟨fr₀, P₀, M₀⟩ : St) Q := fun s r =>
  wpAny_setItem_pairs hk (Heap.dictOf_iff.mpr ⟨o, r.m (U o).mem, hd⟩) (fun h' hm hs => by
    obtain ⟨o', ho', hd'⟩ := Heap.dictOf_iff.mp hm
    exact ⟨_, r.sameBut (U o') hs ho' _, h o' hd'⟩) hsz
theorem oInD {Q : Value → St → Prop} (ho : Ob P₀ M₀ d o) (hd : o.IsDictOf knd kvs) (lo : Lo d) (hk : knd.is k key = true) (h : Q (.bool (valueAt kvs k).isSome) (⟨fr₀, P₀, M₀⟩ : St)) : WP F (compareOp .In key (.ref d)) (⟨fr₀, P₀, M₀⟩ : St) Q := fun _ r =>
  wpAny_in_of hk lo ((Heap.dictOf_iff.mpr ⟨o, r.ob ho, hd⟩).mapOf) ⟨(⟨fr₀, P₀, M₀⟩ : St), r.toks _, h⟩
theorem cGet1 {Q : Value → St → Prop} (ho : Ob P₀ M₀ d o) (hd : o.IsDictOf knd kvs) (lo : Lo d) (hk : knd.is k key = true) (h : Q ((valueAt kvs k).getD .none) (⟨fr₀, P₀, M₀⟩ : St)) : WP F (call (.builtin "dict.get") [.ref d, key]) (⟨fr₀, P₀, M₀⟩ : St) Q := fun _ r =>
  have hm := Heap.dictOf_iff.mpr ⟨o, r.ob ho, hd⟩
  call_meetsIn PySem.F.slot_dict_get hm.typeIs PySem.F.entry_dict_get (PySem.F.args_dict_get_2 _ _) (meets_dict_get knd d hk lo) ⟨_, hm.mapOf, (⟨fr₀, P₀, M₀⟩ : St), r.toks _, h⟩
theorem cGet2 {dflt : Value} {Q : Value → St → Prop} (ho : Ob P₀ M₀ d o) (hd : o.IsDictOf knd kvs) (lo : Lo d) (hk : knd.is k key = true) (h : Q ((valueAt kvs k).getD dflt) (⟨fr₀, P₀, M₀⟩ : St)) : WP F (call (.builtin "dict.get") [.ref d, key, dflt]) (⟨fr₀, P₀, M₀⟩ : St) Q := fun _ r =>
  have hm := Heap.dictOf_iff.mpr ⟨o, r.ob ho, hd⟩
  call_meetsIn PySem.F.slot_dict_get hm.typeIs PySem.F.entry_dict_get (PySem.F.args_dict_get_3 _ _ _) (meets_dict_get_default knd d hk lo dflt) ⟨_, hm.mapOf, (⟨fr₀, P₀, M₀⟩ : St), r.toks _, h⟩
end
theorem mDict {d : Addr} {o : Obj} {name : Str} {id : String} {pl : Sem Bool} {Q : Value × List Value → St → Prop} (ho : Ob P₀ M₀ d o) (he : o.ExactDict) (slot : Slot "dict" name id) (hty : typeOf (.builtin id) = pure (.type "method_descriptor"))
    (h : Q (.builtin id, [.ref d]) (⟨fr₀, P₀, M₀⟩ : St)) : WP F (getMethod (.ref d) name pl) (⟨fr₀, P₀, M₀⟩ : St) Q := fun _ r =>
  getMethod_builtin ⟨o, r.ob ho, he.1⟩ PySem.F.plainAttrs_dict slot hty (fun b e => by injection e with e; subst e; exact ⟨o, r.ob ho, he.2.1⟩) ⟨(⟨fr₀, P₀, M₀⟩ : St), r, h⟩
theorem mGet {d : Addr} {o : Obj} {pl : Sem Bool} {Q : Value × List Value → St → Prop} (ho : Ob P₀ M₀ d o) (he : o.ExactDict) (h : Q (.builtin "dict.get", [.ref d]) (⟨fr₀, P₀, M₀⟩ : St)) : WP F (getMethod (.ref d) (Str.ofString "get") pl) (⟨fr₀, P₀, M₀⟩ : St) Q :=
  mDict ho he PySem.F.slot_dict_get PySem.F.type_dict_get h

section
variable {K : Type} [DecidableEq K]
noncomputable def PKey (knd : HeapKind P0 c.w K) (P : Pset) (k : K) (a : Addr) : Prop := ∀ h : Heap, (∀ b q, P b q → h.get? b = some q) → knd.is h k a
theorem PKey.mono {knd : HeapKind P0 c.w K} {P P' : Pset} {k : K} {a : Addr} (l : Le P P') (h : PKey knd P k a) : PKey knd P' k a := fun hh e => h hh fun b q x => e b q (l b q x)
structure HTab (knd : HeapKind P0 c.w K) (P : Pset) (o : Obj) (xs : List (K × Addr × Value)) : Prop where
  ex : o.ExactDict
  es : ∃ es ep, o.data = .dict es ep ∧ es.toList = xs.map (entryOfKey knd)
  ks : ∀ x ∈ xs, PKey knd P x.1 x.2.1
  nd : (xs.map (·.1)).Nodup
theorem HTab.mono {knd : HeapKind P0 c.w K} {P P' : Pset} {o : Obj} {xs : List (K × Addr × Value)} (l : Le P P') (h : HTab knd P o xs) : HTab knd P' o xs := ⟨h.ex, h.es, fun x hx => (h.ks x hx).mono l, h.nd⟩
theorem HTab.at {knd : HeapKind P0 c.w K} {P : Pset} {o : Obj} {xs : List (K × Addr × Value)} (h : HTab knd P o xs) {hp : Heap} {d : Addr} (ho : hp.get? d = some o) (hP : ∀ b q, P b q → hp.get? b = some q) : hp.DictOfH knd d xs :=
  let ⟨es, ep, a, b⟩ := h.es; ⟨o, es, ep, ho, h.ex, a, b, fun x hx => h.ks x hx hp hP, h.nd⟩
theorem HTab.empty {knd : HeapKind P0 c.w K} {P : Pset} {k : Nat} : HTab knd P (dictOf [] k) [] := { ex := ⟨rfl, rfl, rfl⟩, es := ⟨_, _, rfl, rfl⟩, ks := fun _ h => (nomatch h), nd := List.nodup_nil }
variable {knd : HeapKind P0 c.w K} {d a : Addr} {o : Obj} {xs : List (K × Addr × Value)} {k : K}
theorem wItemH {value slice : Expr} {p : Addr × Value} {Q : Value → St → Prop} (hu : knd.room F.A.in1) (ho : Ob P₀ M₀ d o) (hd : HTab knd P₀ o xs) (hk : PKey knd P₀ k a) (hv : atKey xs k = some p) (h : Q p.2 (⟨fr₀, P₀, M₀⟩ : St))
    (hs : subscripted slice false (.ref d) (.ref a) = operate [.ref d, .ref a] (getItem (.ref d) (.ref a))) : WP F (subscriptTail value slice (.ref d) (.ref a)) (⟨fr₀, P₀, M₀⟩ : St) Q := fun _ r =>
  have hm := hd.at (r.ob ho) fun _ _ x => r.p x
  tail_any hm.typeIs slot_dict_getitem.lookup (wpAny_getItem_heap hu (hk _ fun _ _ x => r.p x) hm hv ⟨(⟨fr₀, P₀, M₀⟩ : St), r.toks _, h⟩) hs
theorem oInH {Q : Value → St → Prop} (hu : knd.room F.A.in1) (ho : Ob P₀ M₀ d o) (hd : HTab knd P₀ o xs) (lo : Lo d) (hk : PKey knd P₀ k a) (h : Q (.bool (atKey xs k).isSome) (⟨fr₀, P₀, M₀⟩ : St)) : WP F (compareOp .In (.ref a) (.ref d)) (⟨fr₀, P₀, M₀⟩ : St) Q := fun _ r =>
  wpAny_in_heap hu (hk _ fun _ _ x => r.p x) lo (hd.at (r.ob ho) fun _ _ x => r.p x) ⟨(⟨fr₀, P₀, M₀⟩ : St), r.toks _, h⟩
theorem cGetH {dflt : Value} {Q : Value → St → Prop} (hu : knd.room F.A.in1) (ho : Ob P₀ M₀ d o) (hd : HTab knd P₀ o xs) (lo : Lo d) (hk : PKey knd P₀ k a) (h : Q (((atKey xs k).map (·.2)).getD dflt) (⟨fr₀, P₀, M₀⟩ : St)) : WP F (call (.builtin "dict.get") [.ref d, .ref a, dflt]) (⟨fr₀, P₀, M₀⟩ : St) Q := fun _ r =>
  have hm := hd.at (r.ob ho) fun _ _ x => r.p x
  call_meetsIn PySem.F.slot_dict_get hm.typeIs PySem.F.entry_dict_get (PySem.F.args_dict_get_3 _ _ _) (meetsH_dict_get_default knd d a lo dflt) ⟨hu, k, xs, hk _ fun _ _ x => r.p x, hm, (⟨fr₀, P₀, M₀⟩ : St), r.toks _, h⟩
theorem sItemH {v : Value} {M' : Obj → List (Addr × Obj)} {Q : Unit → St → Prop} (hu : knd.room F.A.in1) (U : ∀ o', Mp d o o' M₀ (M' o')) (hd : HTab knd P₀ o xs) (hk : PKey knd P₀ k a) (hnew : atKey xs k = none)
    (h : ∀ o', HTab knd P₀ o' (xs ++ [(k, a, v)]) → Q () ⟨fr₀, P₀, M' o'⟩) (hsz : xs.length ≤ sizeLine) : WP F (setItem (.ref d) (.ref a) v) (⟨fr₀, P₀, M₀⟩ : St) Q := fun _ r =>
  have hm := hd.at (r.m (U o).mem) fun _ _ x => r.p x
  wpAny_setItem_heap hu (hk _ fun _ _ x => r.p x) hm (fun h' hm' hs => by
    rw [storedH_new hnew] at hm'
    obtain ⟨o', es, ep, ho', he, hdat, hes, hks, hnd⟩ := hm'
    refine ⟨_, r.sameBut (U o') hs ho' _, h o' ⟨he, ⟨es, ep, hdat, hes⟩, fun x hx => ?_, hnd⟩⟩
    rcases List.mem_append.mp hx with hx | hx
    · exact hd.ks x hx
    · rw [List.mem_singleton.mp hx]; exact hk) hsz
end
theorem room_row (H : Ok F D n) : (rowKind P0 c.w).room F.A.in1 := by
  have := H.un
  show F.A.units + 1 + 40 < cLine
  have e : cLine = 9900 := rfl
  lia
theorem room_tup (H : Ok F D n) : (tupleKind (intKind P0 c.w)).room F.A.in1 := by
  have := H.un
  show F.A.units + 1 < cLine
  have e : cLine = 9900 := rfl
  lia
theorem key_row2 {P : Pset} {a : Addr} {i j : Int} {t u : Tok} (h : P a (tupO [.int i t, .int j u])) : PKey (rowKind P0 c.w) P (i, j, false) a := fun _ e => ⟨_, _, _, e _ _ h, rfl, rfl, .two⟩
theorem key_row3 {P : Pset} {a b : Addr} {i j : Int} {t u : Tok} (h : P a (tupO [.int i t, .int j u, .ref b])) (hb : P b (tupO [])) : PKey (rowKind P0 c.w) P (i, j, true) a := fun _ e => ⟨_, _, _, e _ _ h, rfl, rfl, .three ⟨_, _, _, e _ _ hb, rfl, rfl, .nil⟩⟩
theorem key_tup2 {P : Pset} {a : Addr} {i j : Int} {t u : Tok} (h : P a (tupO [.int i t, .int j u])) : PKey (tupleKind (intKind P0 c.w)) P [i, j] a := fun _ e => ⟨_, _, _, e _ _ h, rfl, rfl, .cons (by simp [intKind, Value.isInt]) (.cons (by simp [intKind, Value.isInt]) .nil)⟩
theorem isI (w : World) (i : Int) (t : Tok) : (intKind P0 w).is i (.int i t) = true := by simp [intKind, Value.isInt]
theorem isS (w : World) (x : Str) (t : Tok) : (PySem.strKind P0 w).is x (.str x t) = true := by simp [PySem.strKind, Value.isStrOf]

theorem lo_new (H : Ok F D n) {s : Shared} (r : Rp F (⟨fr₀, P₀, M₀⟩ : St) s) : Lo s.heap.objs.size := r.fr.notModules (modules_low H.bs.t.nolimit)
theorem wDict0 (H : Ok F D n) {pos : Pos} {Q : Value → St → Prop} (h : ∀ d, Lo d → Q (.ref d) ⟨fr₀, P₀, M₀ ++ [(d, dictOf [] 0)]⟩) : WP F (eval (.Dict [] [] pos) F.env) (⟨fr₀, P₀, M₀⟩ : St) Q := fun s r =>
  wpAny_Dict_empty ⟨_, r.pushM (o := dictOf [] 0) rfl _, h _ (lo_new H r)⟩
theorem wDict0P (H : Ok F D n) {pos : Pos} {Q : Value → St → Prop} (h : ∀ d P', Lo d → Le P₀ P' → P' d (dictOf [] 0) → Q (.ref d) ⟨fr₀, P', M₀⟩) : WP F (eval (.Dict [] [] pos) F.env) (⟨fr₀, P₀, M₀⟩ : St) Q := fun s r =>
  wpAny_Dict_empty ⟨_, r.pushP H (o := dictOf [] 0) rfl _, h _ _ (lo_new H r) (fun _ _ h => .inl h) (.inr ⟨rfl, rfl⟩)⟩
theorem wPairs0 {Q : List (Value × Value) → St → Prop} (h : Q [] (⟨fr₀, P₀, M₀⟩ : St)) : WP F (evalPairs []) (⟨fr₀, P₀, M₀⟩ : St) Q := fun _ r => evalPairs_nil ⟨(⟨fr₀, P₀, M₀⟩ : St), r, h⟩
noncomputable abbrev kPair3 (kv vv : Value) (Q : List (Value × Value) → St → Prop) (vs : List (Value × Value)) : St → Prop := Q ((kv, vv) :: vs)
noncomputable abbrev kPair2 {c : Cx} (F : Frm c) (rest : List (Sem Value × Sem Value)) (kv : Value) (Q : List (Value × Value) → St → Prop) (vv : Value) (st : St) : Prop := WP F (evalPairs rest) st (kPair3 kv vv Q)
noncomputable abbrev kPair {c : Cx} (F : Frm c) (v : Sem Value) (rest : List (Sem Value × Sem Value)) (Q : List (Value × Value) → St → Prop) (kv : Value) (st : St) : Prop := WP F v st (kPair2 F rest kv Q)
theorem wPairsC {k v : Sem Value} {rest : List (Sem Value × Sem Value)} {Q : List (Value × Value) → St → Prop} (h : WP F k (⟨fr₀, P₀, M₀⟩ : St) (kPair F v rest Q)) : WP F (evalPairs ((k, v) :: rest)) (⟨fr₀, P₀, M₀⟩ : St) Q := fun s r =>
  evalPairs_cons (wpAny_mono (h s r) (fun _ s' ez35 => ez35.elim fun _ pz35 => wpAny_mono (pz35.2 s' pz35.1) (fun _ s'' ez36 => ez36.elim fun _ pz36 => pz36.2 s'' pz36.1) fun _ _ e => e) fun _ _ e => e)
theorem wStandThen {x : Sem Value} {pos : Pos} {Q : Value → St → Prop} (h : WP F x (⟨fr₀, P₀, M₀⟩ : St) Q) : WP F (do let v ← x; standAt pos; pure v) (⟨fr₀, P₀, M₀⟩ : St) Q := fun s r =>
  wpAny_bind (wpAny_mono (h s r) (fun _ _ q => wpAny_bind (wpAny_standAt (wpAny_pure q))) fun _ _ e => e)
noncomputable def MadeI (w : World) (d : Addr) (Q : Value → St → Prop) (vs : List (Value × Value)) (sx : St) : Prop := ∃ M₁, sx.M = M₁ ++ [(d, dictOf [] 0)] ∧ allIntKeys vs = true ∧ ((intKeyPairs vs).map (·.1)).Nodup ∧
  ∀ o', o'.IsDictOf (intKind P0 w) (intKeyPairs vs) → Q (.ref d) ⟨sx.fr, sx.P, M₁ ++ [(d, o')]⟩
theorem MadeI.mk {w : World} {d : Addr} {Q : Value → St → Prop} {vs : List (Value × Value)} (h1 : allIntKeys vs = true) (h2 : ((intKeyPairs vs).map (·.1)).Nodup) (h : ∀ o', o'.IsDictOf (intKind P0 w) (intKeyPairs vs) → Q (.ref d) ⟨fr₀, P₀, M₀ ++ [(d, o')]⟩) : MadeI w d Q vs ⟨fr₀, P₀, M₀ ++ [(d, dictOf [] 0)]⟩ := ⟨M₀, rfl, h1, h2, h⟩
theorem wDictI (H : Ok F D n) {keys : List (Option Expr)} {values : List Expr} {pos : Pos} {Q : Value → St → Prop} (hall : keys.all (·.isSome) = true) (hl : keys.length = values.length) (h0 : keys ≠ []) (hlen : keys.length ≤ 15)
    (h : ∀ d, Lo d → WP F (evalPairs (pairTrees keys values F.env pos)) ⟨fr₀, P₀, M₀ ++ [(d, dictOf [] 0)]⟩ (MadeI c.w d Q)) : WP F (eval (.Dict keys values pos) F.env) (⟨fr₀, P₀, M₀⟩ : St) Q := fun s r =>
  wpAny_Dict_walk (knd := intKind P0 c.w) hall hl h0 hlen (wpAny_mono (h s.heap.objs.size (lo_new H r) _ (r.pushM (o := dictOf [] 0) rfl _)) (fun vs s₁ ⟨st₁, r₁, M₁, e1, e2, e3, q⟩ => by
    have hm : (s.heap.objs.size, dictOf [] 0) ∈ st₁.M := by rw [e1]; simp
    have hd0 : s₁.heap.DictOf (intKind P0 c.w) s.heap.objs.size [] := ⟨_, _, _, r₁.m hm, ⟨rfl, rfl, rfl⟩, rfl, fun _ he => by simp at he, Pairs.nil, List.nodup_nil⟩
    exact display_done_int e2 e3 hd0 fun h' hm' hs => by
      obtain ⟨o', ho', hd'⟩ := Heap.dictOf_iff.mp hm'
      exact ⟨_, r₁.sameBut (e1 ▸ mp_last _ _ o' M₁) hs ho' _, q o' hd'⟩) fun _ _ e => e)
theorem emptyI (w : World) (k : Nat) : (dictOf [] k).IsDictOf (intKind P0 w) [] := ⟨_, _, ⟨rfl, rfl, rfl⟩, rfl, fun _ he => by simp at he, Pairs.nil, List.nodup_nil⟩
theorem exactOf {K : Type} [DecidableEq K] {knd : KeyKind P0 c.w K} {o : Obj} {kvs : List (K × Value)} (h : o.IsDictOf knd kvs) : o.ExactDict := let ⟨_, _, e, _⟩ := h; e

theorem mAppend {a : Addr} {its : Array Value} {k : Nat} {pl : Sem Bool} {Q : Value × List Value → St → Prop} (hm : Mem a (listOf its k) M₀) (h : Q (.builtin "list.append", [.ref a]) (⟨fr₀, P₀, M₀⟩ : St)) : WP F (getMethod (.ref a) (Str.ofString "append") pl) (⟨fr₀, P₀, M₀⟩ : St) Q := fun _ r =>
  getMethod_builtin ⟨_, r.m hm.mem, rfl⟩ PySem.F.plainAttrs_list PySem.F.slot_list_append PySem.F.type_list_append (fun b e => by cases e; exact ⟨_, r.m hm.mem, rfl⟩) ⟨(⟨fr₀, P₀, M₀⟩ : St), r, h⟩
theorem cAppend {a : Addr} {its : Array Value} {k : Nat} {x : Value} {M' : List (Addr × Obj)} {Q : Value → St → Prop} (U : Mp a (listOf its k) (listOf (its.push x) (k + 1)) M₀ M') (h : Q .none ⟨fr₀, P₀, M'⟩) (hsz : its.size ≤ sizeLine) :
    WP F (call (.builtin "list.append") [.ref a, x]) (⟨fr₀, P₀, M₀⟩ : St) Q := fun _ r =>
  append_at (r.m U.mem) (fun h' hs ho => ⟨_, r.sameBut U hs ho _, h⟩) hsz
theorem cLenTup {a : Addr} {vs : List Value} {Q : Value → St → Prop} (hP : P₀ a (tupO vs)) (hfit : vs.length < 2 ^ 62) (h : ∀ t, Q (.int vs.length t) (⟨fr₀, P₀, M₀⟩ : St)) : WP F (call (.builtin "len") [.ref a]) (⟨fr₀, P₀, M₀⟩ : St) Q := fun _ r => by
  have h2 : (2:Nat) ^ 62 < 2 ^ 63 := by decide
  have h3 : (2:Nat) ^ 63 = (2:Int) ^ 63 := by decide
  exact len_tuple (r.tup hP) (by simp; lia) ⟨(⟨fr₀, P₀, M₀⟩ : St), r.toks _, by simpa using h _⟩
theorem cLenListM {a : Addr} {vs : Array Value} {k : Nat} {Q : Value → St → Prop} (hm : Mem a (listOf vs k) M₀) (hfit : vs.size < 2 ^ 62) (h : ∀ t, Q (.int vs.size t) (⟨fr₀, P₀, M₀⟩ : St)) : WP F (call (.builtin "len") [.ref a]) (⟨fr₀, P₀, M₀⟩ : St) Q := fun _ r => by
  have h2 : (2:Nat) ^ 62 < 2 ^ 63 := by decide
  have h3 : (2:Nat) ^ 63 = (2:Int) ^ 63 := by decide
  exact len_list (r.lstM hm) (by lia) ⟨(⟨fr₀, P₀, M₀⟩ : St), r.toks _, h _⟩
theorem cLenListP {a : Addr} {vs : Array Value} {k : Nat} {Q : Value → St → Prop} (hm : P₀ a (listOf vs k)) (hfit : vs.size < 2 ^ 62) (h : ∀ t, Q (.int vs.size t) (⟨fr₀, P₀, M₀⟩ : St)) : WP F (call (.builtin "len") [.ref a]) (⟨fr₀, P₀, M₀⟩ : St) Q := fun _ r => by
  have h2 : (2:Nat) ^ 62 < 2 ^ 63 := by decide
  have h3 : (2:Nat) ^ 63 = (2:Int) ^ 63 := by decide
  exact len_list (r.lstP hm) (by lia) ⟨(⟨fr₀, P₀, M₀⟩ : St), r.toks _, h _⟩
theorem cStr {i : Int} {t : Tok} {Q : Value → St → Prop} (ha : i.natAbs.log2 < 1920) (h : ∀ t, Q (.str (Str.ofString (toString i)) t) (⟨fr₀, P₀, M₀⟩ : St)) : WP F (call (.type "str") [.int i t]) (⟨fr₀, P₀, M₀⟩ : St) Q := fun _ r => PySem.P.str_of_int ha ⟨(⟨fr₀, P₀, M₀⟩ : St), r.toks _, h _⟩
theorem cTupOf (H : Ok F D n) {a : Addr} {vs : List Value} {k : Nat} {Q : Value → St → Prop} (hm : Mem a (listOf vs.toArray k) M₀) (hsz : vs.length ≤ sizeLine) (h : ∀ b P', Le P₀ P' → P' b (tupO vs) → Q (.ref b) ⟨fr₀, P', M₀⟩) : WP F (call (.type "tuple") [.ref a]) (⟨fr₀, P₀, M₀⟩ : St) Q := fun s r =>
  call_tuple_list (r.lstM hm) (fun h' hk => by
    have r' := r.kept hk s.toks
    exact ⟨_, r'.pushP H (o := tupO vs) rfl _, h _ _ (fun _ _ h => .inl h) (.inr ⟨rfl, rfl⟩)⟩) (by simpa using hsz)
theorem tTruthL {a : Addr} {vs : Array Value} {k : Nat} {Q : Bool → St → Prop} (hm : P₀ a (listOf vs k)) (hfit : vs.size < 2 ^ 62) (h : Q (decide (vs.size ≠ 0)) (⟨fr₀, P₀, M₀⟩ : St)) : WP F (truthy (.ref a)) (⟨fr₀, P₀, M₀⟩ : St) Q := fun _ r => by
  have h2 : (2:Nat) ^ 62 < 2 ^ 63 := by decide
  have h3 : (2:Nat) ^ 63 = (2:Int) ^ 63 := by decide
  refine wpAny_truthy_list (r.lstP hm) (by lia) ⟨(⟨fr₀, P₀, M₀⟩ : St), r.toks _, ?_⟩
  have : (!vs.isEmpty) = decide (vs.size ≠ 0) := by rw [Array.isEmpty]; by_cases e : vs.size = 0 <;> simp [e]
  rw [this]; exact h
theorem tTruthI {i : Int} {t : Tok} {Q : Bool → St → Prop} (h : Q (decide (i ≠ 0)) ⟨fr₀, P₀, M₀⟩) : WP F (truthy (.int i t)) ⟨fr₀, P₀, M₀⟩ Q := fun _ r => by
  have e : (i != 0) = decide (i ≠ 0) := by by_cases e : i = 0 <;> simp [e]
  exact truthy_int ⟨_, r, e ▸ h⟩
end
noncomputable def stAt (i : Nat) : Stmt := P0.main.body.getD i default
noncomputable def clsAt (i j : Nat) : Stmt := match stAt i with | .ClassDef _ _ _ b _ _ _ _ _ _ _ => b.getD j default | s => s
noncomputable def fnPs (s : Stmt) : Arguments := match s with | .FunctionDef _ args _ _ _ _ _ _ _ _ => args | _ => default
noncomputable def fnB (s : Stmt) : List Stmt := match s with | .FunctionDef _ _ b _ _ _ _ _ _ _ => b | _ => []
noncomputable def fnS (s : Stmt) : Scope := match s with | .FunctionDef _ _ _ _ _ _ scope _ _ _ => scope | _ => default
theorem blt_len : bootBuiltins (Str.ofString "len") = some (.builtin "len") := by boot_by_name
theorem blt_str : bootBuiltins (Str.ofString "str") = some (.type "str") := by boot_by_name
theorem blt_tuple : bootBuiltins (Str.ofString "tuple") = some (.type "tuple") := by boot_by_name
theorem blt_range : bootBuiltins (Str.ofString "range") = some (.type "range") := by boot_by_name
noncomputable def blts : List (Str × Value) := [(Str.ofString "len", .builtin "len"), (Str.ofString "str", .type "str"), (Str.ofString "tuple", .type "tuple"), (Str.ofString "range", .type "range")]
theorem blts_ok : ∀ p ∈ blts, bootBuiltins p.1 = some p.2 := List.forall_mem_cons.mpr ⟨blt_len, List.forall_mem_cons.mpr ⟨blt_str, List.forall_mem_cons.mpr ⟨blt_tuple, List.forall_mem_cons.mpr ⟨blt_range, fun _ h => nomatch h⟩⟩⟩⟩
noncomputable def okB (δ : FnRec) : Bool := (!δ.scope.isCoroutine) && (!δ.scope.isGenerator) && decide (δ.scope.kind = .function) && decide (∀ x ∈ δ.scope.names, x.2 ≠ .cell) && decide ((δ.ps ++ δ.ls).Nodup) &&
  decide (∀ x ∈ δ.ps ++ δ.ls, δ.scope.names.lookup x = some .local ∧ (x == ("__debug__" : Str)) = false) && decide (∀ p ∈ δ.d.gl, δ.scope.names.lookup p.1 = some .globalImplicit ∧ (p.1 == ("__debug__" : Str)) = false) &&
  decide (∀ p ∈ δ.d.bl, δ.scope.names.lookup p.1 = some .globalImplicit ∧ (p.1 == ("__debug__" : Str)) = false ∧ p.1 ≠ ("__name__" : Str)) && decide (∀ p ∈ δ.d.bl, p ∈ blts) &&
  δ.params.posonlyargs.isEmpty && decide (δ.params.args.map (·.arg) = δ.ps) && δ.params.vararg.isNone && δ.params.kwonlyargs.isEmpty && δ.params.kwarg.isNone
theorem FnOk.of {δ : FnRec} (h : okB δ = true) : FnOk δ := by
  refine ofQ ?_; simp (disch := (k_dflt (
  refine hold ?_
  simp only [okB, Bool.and_eq_true, decide_eq_true_eq, Bool.not_eq_true', List.isEmpty_iff, Option.isNone_iff_eq_none] at h
  obtain ⟨⟨⟨⟨⟨⟨⟨⟨⟨⟨⟨⟨⟨h1, h2⟩, h3⟩, h4⟩, h5⟩, h6⟩, h7⟩, h8⟩, hb⟩, h9⟩, h10⟩, h11⟩, h12⟩, h13⟩ := h
  exact ⟨h1, h2, h3, h4, h5, h6, h7, fun p hp => ⟨(h8 p hp).1, (h8 p hp).2.1, blts_ok p (hb p hp), (h8 p hp).2.2⟩, h9, h10, h11, h12, h13⟩
  ))) only [↓quiet]
noncomputable abbrev R_KindTable_init : FnRec := ⟨Str.ofString "__init__", Str.ofString "KindTable.__init__", fnPs (clsAt 38 0), fnB (clsAt 38 0), fnS (clsAt 38 0), [Str.ofString "self"], [Str.ofString "number", Str.ofString "row"], ⟨[(Str.ofString "PRIM_END", .int 16 309), (Str.ofString "R_PRIM", .int 1 311)], [(Str.ofString "range", .type "range")]⟩⟩
noncomputable abbrev R_KindTable_row : FnRec := ⟨Str.ofString "row", Str.ofString "KindTable.row", fnPs (clsAt 38 1), fnB (clsAt 38 1), fnS (clsAt 38 1), [Str.ofString "self", Str.ofString "k"], [], ⟨[(Str.ofString "BadKind", .ref 51)], [(Str.ofString "len", .builtin "len")]⟩⟩
noncomputable abbrev R_KindTable_put : FnRec := ⟨Str.ofString "put", Str.ofString "KindTable.put", fnPs (clsAt 38 2), fnB (clsAt 38 2), fnS (clsAt 38 2), [Str.ofString "self", Str.ofString "row"], [Str.ofString "depth", Str.ofString "found", Str.ofString "inner", Str.ofString "k", Str.ofString "level", Str.ofString "opened", Str.ofString "weight"], ⟨[(Str.ofString "check_kind_row", .ref 141), (Str.ofString "R_VAR", .int 6 321), (Str.ofString "R_MVAR", .int 7 323), (Str.ofString "row_level", .ref 127), (Str.ofString "inner_kinds", .ref 120), (Str.ofString "DEEPEST_KIND", .int 24 333), (Str.ofString "BadKind", .ref 51), (Str.ofString "HEAVIEST_KIND", .int 4096 335)], [(Str.ofString "len", .builtin "len")]⟩⟩
noncomputable abbrev R_inner_kinds : FnRec := ⟨Str.ofString "inner_kinds", Str.ofString "inner_kinds", fnPs (stAt 39), fnB (stAt 39), fnS (stAt 39), [Str.ofString "row"], [Str.ofString "sort"], ⟨[(Str.ofString "R_CLASS", .int 2 313), (Str.ofString "R_VALUE", .int 3 315), (Str.ofString "R_ARRAY", .int 4 317), (Str.ofString "R_BYREF", .int 5 319), (Str.ofString "R_BOXED", .int 8 325), (Str.ofString "R_ROREF", .int 9 327), (Str.ofString "R_RAW", .int 11 331), (Str.ofString "R_FTN", .int 10 329)], []⟩⟩
noncomputable abbrev R_row_level : FnRec := ⟨Str.ofString "row_level", Str.ofString "row_level", fnPs (stAt 40), fnB (stAt 40), fnS (stAt 40), [Str.ofString "sort"], [], ⟨[(Str.ofString "R_CLASS", .int 2 313), (Str.ofString "R_VALUE", .int 3 315), (Str.ofString "R_ARRAY", .int 4 317)], []⟩⟩
noncomputable abbrev R_row_length : FnRec := ⟨Str.ofString "row_length", Str.ofString "row_length", fnPs (stAt 41), fnB (stAt 41), fnS (stAt 41), [Str.ofString "sort"], [], ⟨[(Str.ofString "R_CLASS", .int 2 313), (Str.ofString "R_VALUE", .int 3 315), (Str.ofString "R_FTN", .int 10 329)], []⟩⟩
noncomputable abbrev R_check_kind_row : FnRec := ⟨Str.ofString "check_kind_row", Str.ofString "check_kind_row", fnPs (stAt 42), fnB (stAt 42), fnS (stAt 42), [Str.ofString "kt", Str.ofString "row"], [Str.ofString "inner", Str.ofString "sort"], ⟨[(Str.ofString "R_PRIM", .int 1 311), (Str.ofString "R_RAW", .int 11 331), (Str.ofString "BadKind", .ref 51), (Str.ofString "row_length", .ref 134), (Str.ofString "inner_kinds", .ref 120), (Str.ofString "R_CLASS", .int 2 313), (Str.ofString "R_VALUE", .int 3 315), (Str.ofString "check_named", .ref 148), (Str.ofString "R_VAR", .int 6 321), (Str.ofString "R_MVAR", .int 7 323), (Str.ofString "R_FTN", .int 10 329), (Str.ofString "may_stand", .ref 162), (Str.ofString "check_args", .ref 155), (Str.ofString "R_BOXED", .int 8 325), (Str.ofString "is_value", .ref 176), (Str.ofString "is_var", .ref 190)], [(Str.ofString "len", .builtin "len")]⟩⟩
noncomputable abbrev R_check_named : FnRec := ⟨Str.ofString "check_named", Str.ofString "check_named", fnPs (stAt 43), fnB (stAt 43), fnS (stAt 43), [Str.ofString "kt", Str.ofString "row"], [], ⟨[(Str.ofString "TID_PRIM", .ref 78), (Str.ofString "BadKind", .ref 51), (Str.ofString "check_args", .ref 155)], []⟩⟩
noncomputable abbrev R_check_args : FnRec := ⟨Str.ofString "check_args", Str.ofString "check_args", fnPs (stAt 44), fnB (stAt 44), fnS (stAt 44), [Str.ofString "kt", Str.ofString "args"], [Str.ofString "arg"], ⟨[(Str.ofString "may_stand", .ref 162), (Str.ofString "BadKind", .ref 51)], []⟩⟩
noncomputable abbrev R_may_stand : FnRec := ⟨Str.ofString "may_stand", Str.ofString "may_stand", fnPs (stAt 45), fnB (stAt 45), fnS (stAt 45), [Str.ofString "kt", Str.ofString "k"], [Str.ofString "sort"], ⟨[(Str.ofString "VOID", .int 0 277), (Str.ofString "NULLK", .int 14 305), (Str.ofString "R_ARRAY", .int 4 317), (Str.ofString "R_VAR", .int 6 321), (Str.ofString "R_MVAR", .int 7 323)], []⟩⟩
noncomputable abbrev R_array_kind : FnRec := ⟨Str.ofString "array_kind", Str.ofString "array_kind", fnPs (stAt 46), fnB (stAt 46), fnS (stAt 46), [Str.ofString "kt", Str.ofString "elem"], [], ⟨[(Str.ofString "R_ARRAY", .int 4 317)], []⟩⟩
noncomputable abbrev R_is_ref : FnRec := ⟨Str.ofString "is_ref", Str.ofString "is_ref", fnPs (stAt 48), fnB (stAt 48), fnS (stAt 48), [Str.ofString "kt", Str.ofString "k"], [Str.ofString "sort"], ⟨[(Str.ofString "OBJECT", .int 12 301), (Str.ofString "STRING", .int 13 303), (Str.ofString "NULLK", .int 14 305), (Str.ofString "R_CLASS", .int 2 313), (Str.ofString "R_ARRAY", .int 4 317), (Str.ofString "R_BOXED", .int 8 325)], []⟩⟩
noncomputable abbrev R_Node_init : FnRec := ⟨Str.ofString "__init__", Str.ofString "Node.__init__", fnPs (clsAt 64 0), fnB (clsAt 64 0), fnS (clsAt 64 0), [Str.ofString "self", Str.ofString "kind", Str.ofString "a", Str.ofString "kids", Str.ofString "mods", Str.ofString "at"], [], ⟨[], []⟩⟩
noncomputable abbrev R_Diags_init : FnRec := ⟨Str.ofString "__init__", Str.ofString "Diags.__init__", fnPs (clsAt 65 0), fnB (clsAt 65 0), fnS (clsAt 65 0), [Str.ofString "self"], [], ⟨[], []⟩⟩
noncomputable abbrev R_Diags_put : FnRec := ⟨Str.ofString "put", Str.ofString "Diags.put", fnPs (clsAt 65 1), fnB (clsAt 65 1), fnS (clsAt 65 1), [Str.ofString "self", Str.ofString "number", Str.ofString "at", Str.ofString "words"], [], ⟨[], []⟩⟩
noncomputable abbrev R_Unit_init : FnRec := ⟨Str.ofString "__init__", Str.ofString "Unit.__init__", fnPs (clsAt 78 0), fnB (clsAt 78 0), fnS (clsAt 78 0), [Str.ofString "self", Str.ofString "store", Str.ofString "asm"], [], ⟨[(Str.ofString "Diags", .ref 247)], []⟩⟩
noncomputable abbrev R_TableRule_init : FnRec := ⟨Str.ofString "__init__", Str.ofString "TableRule.__init__", fnPs (clsAt 82 0), fnB (clsAt 82 0), fnS (clsAt 82 0), [Str.ofString "self", Str.ofString "rows"], [], ⟨[], []⟩⟩
noncomputable abbrev R_TableRule_bind : FnRec := ⟨Str.ofString "bind", Str.ofString "TableRule.bind", fnPs (clsAt 82 1), fnB (clsAt 82 1), fnS (clsAt 82 1), [Str.ofString "self", Str.ofString "cx", Str.ofString "node", Str.ofString "want"], [], ⟨[], []⟩⟩
noncomputable abbrev R_WordRule_kind : FnRec := ⟨Str.ofString "kind", Str.ofString "WordRule.kind", fnPs (clsAt 84 0), fnB (clsAt 84 0), fnS (clsAt 84 0), [Str.ofString "self", Str.ofString "cx", Str.ofString "node"], [], ⟨[(Str.ofString "BAD", .int 15 307)], []⟩⟩
noncomputable abbrev R_Turner_init : FnRec := ⟨Str.ofString "__init__", Str.ofString "Turner.__init__", fnPs (clsAt 86 0), fnB (clsAt 86 0), fnS (clsAt 86 0), [Str.ofString "self"], [], ⟨[], []⟩⟩
noncomputable abbrev R_Turner_convert : FnRec := ⟨Str.ofString "convert", Str.ofString "Turner.convert", fnPs (clsAt 86 1), fnB (clsAt 86 1), fnS (clsAt 86 1), [Str.ofString "self", Str.ofString "cx", Str.ofString "e", Str.ofString "k", Str.ofString "node", Str.ofString "explicit"], [], ⟨[(Str.ofString "turn_by_rows", .ref 726)], []⟩⟩
noncomputable abbrev R_Turner_under : FnRec := ⟨Str.ofString "under", Str.ofString "Turner.under", fnPs (clsAt 86 6), fnB (clsAt 86 6), fnS (clsAt 86 6), [Str.ofString "self", Str.ofString "cx", Str.ofString "k"], [], ⟨[], []⟩⟩
noncomputable abbrev R_Fitter_fit : FnRec := ⟨Str.ofString "fit", Str.ofString "Fitter.fit", fnPs (clsAt 87 0), fnB (clsAt 87 0), fnS (clsAt 87 0), [Str.ofString "self", Str.ofString "cx", Str.ofString "e", Str.ofString "k", Str.ofString "node"], [], ⟨[], []⟩⟩
noncomputable abbrev R_Yard_show : FnRec := ⟨Str.ofString "show", Str.ofString "Yard.show", fnPs (clsAt 89 3), fnB (clsAt 89 3), fnS (clsAt 89 3), [Str.ofString "self", Str.ofString "k"], [], ⟨[], [(Str.ofString "str", .type "str")]⟩⟩
noncomputable abbrev R_Seat_init : FnRec := ⟨Str.ofString "__init__", Str.ofString "Seat.__init__", fnPs (clsAt 91 0), fnB (clsAt 91 0), fnS (clsAt 91 0), [Str.ofString "self", Str.ofString "unit", Str.ofString "asm", Str.ofString "host"], [], ⟨[(Str.ofString "Judge", .ref 383), (Str.ofString "Turner", .ref 481), (Str.ofString "Fitter", .ref 502), (Str.ofString "Keeper", .ref 523)], []⟩⟩
noncomputable abbrev R_Seat_expr : FnRec := ⟨Str.ofString "expr", Str.ofString "Seat.expr", fnPs (clsAt 91 1), fnB (clsAt 91 1), fnS (clsAt 91 1), [Str.ofString "self", Str.ofString "node", Str.ofString "want"], [], ⟨[(Str.ofString "bind_expr", .ref 754)], []⟩⟩
noncomputable abbrev R_Seat_kind : FnRec := ⟨Str.ofString "kind", Str.ofString "Seat.kind", fnPs (clsAt 91 3), fnB (clsAt 91 3), fnS (clsAt 91 3), [Str.ofString "self", Str.ofString "node"], [], ⟨[(Str.ofString "bind_kind", .ref 761)], []⟩⟩
noncomputable abbrev R_Seat_fits : FnRec := ⟨Str.ofString "fits", Str.ofString "Seat.fits", fnPs (clsAt 91 4), fnB (clsAt 91 4), fnS (clsAt 91 4), [Str.ofString "self", Str.ofString "e", Str.ofString "k", Str.ofString "node"], [], ⟨[], []⟩⟩
noncomputable abbrev R_Seat_fault : FnRec := ⟨Str.ofString "fault", Str.ofString "Seat.fault", fnPs (clsAt 91 6), fnB (clsAt 91 6), fnS (clsAt 91 6), [Str.ofString "self", Str.ofString "number", Str.ofString "node", Str.ofString "words"], [], ⟨[(Str.ofString "at_of", .ref 740)], []⟩⟩
noncomputable abbrev R_bad : FnRec := ⟨Str.ofString "bad", Str.ofString "bad", fnPs (stAt 92), fnB (stAt 92), fnS (stAt 92), [Str.ofString "kind"], [], ⟨[(Str.ofString "X_CONST", .int 1 635), (Str.ofString "BAD", .int 15 307)], []⟩⟩
noncomputable abbrev R_turn_by_rows : FnRec := ⟨Str.ofString "turn_by_rows", Str.ofString "turn_by_rows", fnPs (stAt 93), fnB (stAt 93), fnS (stAt 93), [Str.ofString "table", Str.ofString "cx", Str.ofString "e", Str.ofString "k", Str.ofString "node"], [Str.ofString "cv"], ⟨[(Str.ofString "BAD", .int 15 307), (Str.ofString "X_CONV", .int 19 647), (Str.ofString "bad", .ref 719)], []⟩⟩
noncomputable abbrev R_is_bad : FnRec := ⟨Str.ofString "is_bad", Str.ofString "is_bad", fnPs (stAt 94), fnB (stAt 94), fnS (stAt 94), [Str.ofString "e"], [], ⟨[(Str.ofString "BAD", .int 15 307)], []⟩⟩
noncomputable abbrev R_at_of : FnRec := ⟨Str.ofString "at_of", Str.ofString "at_of", fnPs (stAt 95), fnB (stAt 95), fnS (stAt 95), [Str.ofString "cx", Str.ofString "node"], [], ⟨[], []⟩⟩
noncomputable abbrev R_deeper : FnRec := ⟨Str.ofString "deeper", Str.ofString "deeper", fnPs (stAt 96), fnB (stAt 96), fnS (stAt 96), [Str.ofString "cx", Str.ofString "node"], [], ⟨[(Str.ofString "CX_DEEPEST", .int 50 697), (Str.ofString "TooDeep", .ref 63)], []⟩⟩
noncomputable abbrev R_bind_expr : FnRec := ⟨Str.ofString "bind_expr", Str.ofString "bind_expr", fnPs (stAt 97), fnB (stAt 97), fnS (stAt 97), [Str.ofString "cx", Str.ofString "node", Str.ofString "want"], [Str.ofString "e", Str.ofString "rule"], ⟨[(Str.ofString "LeftOut", .ref 75), (Str.ofString "deeper", .ref 747)], []⟩⟩
noncomputable abbrev R_bind_kind : FnRec := ⟨Str.ofString "bind_kind", Str.ofString "bind_kind", fnPs (stAt 98), fnB (stAt 98), fnS (stAt 98), [Str.ofString "cx", Str.ofString "node"], [Str.ofString "k", Str.ofString "rule"], ⟨[(Str.ofString "LeftOut", .ref 75), (Str.ofString "deeper", .ref 747), (Str.ofString "BadKind", .ref 51), (Str.ofString "TooDeep", .ref 63)], []⟩⟩
noncomputable abbrev R_tell_fault : FnRec := ⟨Str.ofString "tell_fault", Str.ofString "tell_fault", fnPs (stAt 100), fnB (stAt 100), fnS (stAt 100), [Str.ofString "cx", Str.ofString "number", Str.ofString "node", Str.ofString "words"], [], ⟨[(Str.ofString "bad", .ref 719)], []⟩⟩
noncomputable abbrev R_index_number : FnRec := ⟨Str.ofString "index_number", Str.ofString "index_number", fnPs (stAt 102), fnB (stAt 102), fnS (stAt 102), [Str.ofString "cx", Str.ofString "e", Str.ofString "node"], [], ⟨[(Str.ofString "U4", .int 8 293), (Str.ofString "I8", .int 9 295), (Str.ofString "U8", .int 10 297), (Str.ofString "X_CONST", .int 1 635), (Str.ofString "I4", .int 7 291), (Str.ofString "X_CONV", .int 19 647), (Str.ofString "CV_NUM", .int 1 649)], []⟩⟩
noncomputable abbrev R_IntRule_bind : FnRec := ⟨Str.ofString "bind", Str.ofString "IntRule.bind", fnPs (clsAt 106 0), fnB (clsAt 106 0), fnS (clsAt 106 0), [Str.ofString "self", Str.ofString "cx", Str.ofString "node", Str.ofString "want"], [Str.ofString "k", Str.ofString "n", Str.ofString "word"], ⟨[(Str.ofString "INT_KINDS", .ref 776), (Str.ofString "INT_TOPS", .ref 781), (Str.ofString "X_CONST", .int 1 635), (Str.ofString "tell_fault", .ref 768)], []⟩⟩
noncomputable abbrev R_TextRule_bind : FnRec := ⟨Str.ofString "bind", Str.ofString "TextRule.bind", fnPs (clsAt 107 0), fnB (clsAt 107 0), fnS (clsAt 107 0), [Str.ofString "self", Str.ofString "cx", Str.ofString "node", Str.ofString "want"], [], ⟨[(Str.ofString "X_CONST", .int 1 635), (Str.ofString "STRING", .int 13 303)], []⟩⟩
noncomputable abbrev R_CharRule_bind : FnRec := ⟨Str.ofString "bind", Str.ofString "CharRule.bind", fnPs (clsAt 108 0), fnB (clsAt 108 0), fnS (clsAt 108 0), [Str.ofString "self", Str.ofString "cx", Str.ofString "node", Str.ofString "want"], [], ⟨[(Str.ofString "X_CONST", .int 1 635), (Str.ofString "CHAR", .int 2 281)], []⟩⟩
noncomputable abbrev R_TruthRule_init : FnRec := ⟨Str.ofString "__init__", Str.ofString "TruthRule.__init__", fnPs (clsAt 109 0), fnB (clsAt 109 0), fnS (clsAt 109 0), [Str.ofString "self", Str.ofString "value"], [], ⟨[], []⟩⟩
noncomputable abbrev R_TruthRule_bind : FnRec := ⟨Str.ofString "bind", Str.ofString "TruthRule.bind", fnPs (clsAt 109 1), fnB (clsAt 109 1), fnS (clsAt 109 1), [Str.ofString "self", Str.ofString "cx", Str.ofString "node", Str.ofString "want"], [], ⟨[(Str.ofString "X_CONST", .int 1 635), (Str.ofString "BOOL", .int 1 279)], []⟩⟩
noncomputable abbrev R_NullRule_bind : FnRec := ⟨Str.ofString "bind", Str.ofString "NullRule.bind", fnPs (clsAt 110 0), fnB (clsAt 110 0), fnS (clsAt 110 0), [Str.ofString "self", Str.ofString "cx", Str.ofString "node", Str.ofString "want"], [], ⟨[(Str.ofString "X_CONST", .int 1 635), (Str.ofString "NULLK", .int 14 305)], []⟩⟩
noncomputable abbrev R_install_x_literals : FnRec := ⟨Str.ofString "install_x_literals", Str.ofString "install_x_literals", fnPs (stAt 111), fnB (stAt 111), fnS (stAt 111), [Str.ofString "cx"], [], ⟨[(Str.ofString "N_INT", .int 1 517), (Str.ofString "IntRule", .ref 798), (Str.ofString "N_TEXT", .int 2 519), (Str.ofString "TextRule", .ref 817), (Str.ofString "N_CHARLIT", .int 3 521), (Str.ofString "CharRule", .ref 836), (Str.ofString "N_TRUE", .int 4 523), (Str.ofString "TruthRule", .ref 862), (Str.ofString "N_FALSE", .int 5 525), (Str.ofString "N_NULL", .int 6 527), (Str.ofString "NullRule", .ref 881)], []⟩⟩
noncomputable abbrev R_least_number : FnRec := ⟨Str.ofString "least_number", Str.ofString "least_number", fnPs (stAt 112), fnB (stAt 112), fnS (stAt 112), [Str.ofString "node"], [Str.ofString "inner", Str.ofString "n", Str.ofString "word"], ⟨[(Str.ofString "N_INT", .int 1 517), (Str.ofString "X_CONST", .int 1 635), (Str.ofString "I4", .int 7 291), (Str.ofString "I8", .int 9 295)], []⟩⟩
noncomputable abbrev R_DefaultRule_bind : FnRec := ⟨Str.ofString "bind", Str.ofString "DefaultRule.bind", fnPs (clsAt 113 0), fnB (clsAt 113 0), fnS (clsAt 113 0), [Str.ofString "self", Str.ofString "cx", Str.ofString "node", Str.ofString "want"], [Str.ofString "k"], ⟨[(Str.ofString "tell_fault", .ref 768), (Str.ofString "BAD", .int 15 307), (Str.ofString "bad", .ref 719), (Str.ofString "VOID", .int 0 277), (Str.ofString "default_expr", .ref 923)], []⟩⟩
noncomputable abbrev R_default_expr : FnRec := ⟨Str.ofString "default_expr", Str.ofString "default_expr", fnPs (stAt 114), fnB (stAt 114), fnS (stAt 114), [Str.ofString "cx", Str.ofString "k", Str.ofString "node"], [], ⟨[(Str.ofString "is_ref", .ref 183), (Str.ofString "X_CONST", .int 1 635), (Str.ofString "NULLK", .int 14 305), (Str.ofString "BOOL", .int 1 279), (Str.ofString "U8", .int 10 297), (Str.ofString "X_DEFAULT", .int 12 643)], []⟩⟩
noncomputable abbrev R_NewArrayRule_bind : FnRec := ⟨Str.ofString "bind", Str.ofString "NewArrayRule.bind", fnPs (clsAt 115 0), fnB (clsAt 115 0), fnS (clsAt 115 0), [Str.ofString "self", Str.ofString "cx", Str.ofString "node", Str.ofString "want"], [Str.ofString "elem", Str.ofString "k", Str.ofString "size"], ⟨[(Str.ofString "VOID", .int 0 277), (Str.ofString "tell_fault", .ref 768), (Str.ofString "array_size", .ref 949), (Str.ofString "BAD", .int 15 307), (Str.ofString "is_bad", .ref 733), (Str.ofString "bad", .ref 719), (Str.ofString "array_kind", .ref 169), (Str.ofString "X_NEWARR", .int 10 639), (Str.ofString "array_items", .ref 956)], []⟩⟩
noncomputable abbrev R_array_size : FnRec := ⟨Str.ofString "array_size", Str.ofString "array_size", fnPs (stAt 116), fnB (stAt 116), fnS (stAt 116), [Str.ofString "cx", Str.ofString "node"], [Str.ofString "e"], ⟨[(Str.ofString "is_bad", .ref 733), (Str.ofString "index_number", .ref 775), (Str.ofString "X_CONST", .int 1 635), (Str.ofString "tell_fault", .ref 768)], []⟩⟩
noncomputable abbrev R_array_items : FnRec := ⟨Str.ofString "array_items", Str.ofString "array_items", fnPs (stAt 117), fnB (stAt 117), fnS (stAt 117), [Str.ofString "cx", Str.ofString "k", Str.ofString "elem", Str.ofString "size", Str.ofString "node"], [Str.ofString "e", Str.ofString "items", Str.ofString "kid"], ⟨[(Str.ofString "is_bad", .ref 733), (Str.ofString "X_CONST", .int 1 635), (Str.ofString "tell_fault", .ref 768), (Str.ofString "X_ARRLIT", .int 11 641)], [(Str.ofString "len", .builtin "len"), (Str.ofString "tuple", .type "tuple")]⟩⟩
noncomputable abbrev R_install_x_arrays : FnRec := ⟨Str.ofString "install_x_arrays", Str.ofString "install_x_arrays", fnPs (stAt 118), fnB (stAt 118), fnS (stAt 118), [Str.ofString "cx"], [], ⟨[(Str.ofString "N_NEWARR", .int 16 533), (Str.ofString "NewArrayRule", .ref 940)], []⟩⟩
noncomputable abbrev R_Store_init : FnRec := ⟨Str.ofString "__init__", Str.ofString "Store.__init__", fnPs (clsAt 120 0), fnB (clsAt 120 0), fnS (clsAt 120 0), [Str.ofString "self"], [], ⟨[(Str.ofString "KindTable", .ref 109)], []⟩⟩
noncomputable abbrev R_law_take : FnRec := ⟨Str.ofString "_law_take", Str.ofString "_law_take", fnPs (stAt 122), fnB (stAt 122), fnS (stAt 122), [Str.ofString "w", Str.ofString "n"], [Str.ofString "gave"], ⟨[], [(Str.ofString "len", .builtin "len")]⟩⟩
noncomputable abbrev R_law_node : FnRec := ⟨Str.ofString "_law_node", Str.ofString "_law_node", fnPs (stAt 123), fnB (stAt 123), fnS (stAt 123), [Str.ofString "w", Str.ofString "kind", Str.ofString "a", Str.ofString "kids"], [Str.ofString "node"], ⟨[(Str.ofString "Node", .ref 207)], []⟩⟩
noncomputable abbrev R_law_number : FnRec := ⟨Str.ofString "_law_number", Str.ofString "_law_number", fnPs (stAt 124), fnB (stAt 124), fnS (stAt 124), [Str.ofString "w"], [Str.ofString "n"], ⟨[(Str.ofString "_law_take", .ref 991), (Str.ofString "_law_node", .ref 998), (Str.ofString "N_INT", .int 1 517)], []⟩⟩
noncomputable abbrev R_law_leaf : FnRec := ⟨Str.ofString "_law_leaf", Str.ofString "_law_leaf", fnPs (stAt 125), fnB (stAt 125), fnS (stAt 125), [Str.ofString "w", Str.ofString "k", Str.ofString "as_size"], [Str.ofString "node", Str.ofString "sort", Str.ofString "values"], ⟨[(Str.ofString "_law_take", .ref 991), (Str.ofString "_law_node", .ref 998), (Str.ofString "N_INT", .int 1 517), (Str.ofString "_law_number", .ref 1005), (Str.ofString "N_TEXT", .int 2 519), (Str.ofString "N_CHARLIT", .int 3 521), (Str.ofString "N_TRUE", .int 4 523), (Str.ofString "N_FALSE", .int 5 525), (Str.ofString "N_NULL", .int 6 527), (Str.ofString "N_DEFAULT", .int 27 537), (Str.ofString "N_NAME", .int 7 529), (Str.ofString "X_CONST", .int 1 635), (Str.ofString "I4", .int 7 291), (Str.ofString "X_LOCAL", .int 2 637), (Str.ofString "U4", .int 8 293), (Str.ofString "BAD", .int 15 307), (Str.ofString "I8", .int 9 295), (Str.ofString "U8", .int 10 297), (Str.ofString "U1", .int 4 285)], []⟩⟩
noncomputable abbrev R_law_item : FnRec := ⟨Str.ofString "_law_item", Str.ofString "_law_item", fnPs (stAt 126), fnB (stAt 126), fnS (stAt 126), [Str.ofString "w", Str.ofString "word", Str.ofString "deep"], [Str.ofString "k"], ⟨[(Str.ofString "BAD", .int 15 307), (Str.ofString "_law_take", .ref 991), (Str.ofString "_law_array", .ref 1024), (Str.ofString "_law_leaf", .ref 1012), (Str.ofString "VOID", .int 0 277), (Str.ofString "I4", .int 7 291)], []⟩⟩
noncomputable abbrev R_law_array : FnRec := ⟨Str.ofString "_law_array", Str.ofString "_law_array", fnPs (stAt 127), fnB (stAt 127), fnS (stAt 127), [Str.ofString "w", Str.ofString "word", Str.ofString "deep"], [Str.ofString "form", Str.ofString "items", Str.ofString "many", Str.ofString "size"], ⟨[(Str.ofString "_law_take", .ref 991), (Str.ofString "_law_leaf", .ref 1012), (Str.ofString "I4", .int 7 291), (Str.ofString "_law_node", .ref 998), (Str.ofString "N_INT", .int 1 517), (Str.ofString "N_LIST", .int 110 541), (Str.ofString "N_NEWARR", .int 16 533), (Str.ofString "N_TYPE", .int 40 539), (Str.ofString "_law_item", .ref 1019)], [(Str.ofString "range", .type "range")]⟩⟩
noncomputable abbrev R_law_tell : FnRec := ⟨Str.ofString "_law_tell", Str.ofString "_law_tell", fnPs (stAt 128), fnB (stAt 128), fnS (stAt 128), [Str.ofString "w", Str.ofString "number", Str.ofString "node", Str.ofString "words"], [], ⟨[(Str.ofString "X_CONST", .int 1 635), (Str.ofString "BAD", .int 15 307)], []⟩⟩
noncomputable abbrev R_law_turn : FnRec := ⟨Str.ofString "_law_turn", Str.ofString "_law_turn", fnPs (stAt 129), fnB (stAt 129), fnS (stAt 129), [Str.ofString "w", Str.ofString "e", Str.ofString "k", Str.ofString "node"], [], ⟨[(Str.ofString "BAD", .int 15 307), (Str.ofString "X_CONV", .int 19 647), (Str.ofString "_law_tell", .ref 1031)], [(Str.ofString "str", .type "str")]⟩⟩
noncomputable abbrev R_law_first : FnRec := ⟨Str.ofString "_law_first", Str.ofString "_law_first", fnPs (stAt 130), fnB (stAt 130), fnS (stAt 130), [Str.ofString "w", Str.ofString "node"], [Str.ofString "bits", Str.ofString "k", Str.ofString "n", Str.ofString "word", Str.ofString "words"], ⟨[(Str.ofString "I4", .int 7 291), (Str.ofString "U4", .int 8 293), (Str.ofString "I8", .int 9 295), (Str.ofString "U8", .int 10 297), (Str.ofString "X_CONST", .int 1 635), (Str.ofString "_law_tell", .ref 1031)], []⟩⟩
noncomputable abbrev R_law_empty : FnRec := ⟨Str.ofString "_law_empty", Str.ofString "_law_empty", fnPs (stAt 131), fnB (stAt 131), fnS (stAt 131), [Str.ofString "w", Str.ofString "node", Str.ofString "want"], [], ⟨[(Str.ofString "_law_turn", .ref 1038), (Str.ofString "X_CONST", .int 1 635), (Str.ofString "NULLK", .int 14 305), (Str.ofString "BOOL", .int 1 279), (Str.ofString "U8", .int 10 297), (Str.ofString "X_DEFAULT", .int 12 643)], []⟩⟩
noncomputable abbrev R_law_read : FnRec := ⟨Str.ofString "_law_read", Str.ofString "_law_read", fnPs (stAt 132), fnB (stAt 132), fnS (stAt 132), [Str.ofString "w", Str.ofString "node", Str.ofString "want"], [], ⟨[(Str.ofString "N_INT", .int 1 517), (Str.ofString "_law_first", .ref 1045), (Str.ofString "N_TEXT", .int 2 519), (Str.ofString "N_CHARLIT", .int 3 521), (Str.ofString "X_CONST", .int 1 635), (Str.ofString "STRING", .int 13 303), (Str.ofString "CHAR", .int 2 281), (Str.ofString "N_TRUE", .int 4 523), (Str.ofString "N_FALSE", .int 5 525), (Str.ofString "BOOL", .int 1 279), (Str.ofString "N_NULL", .int 6 527), (Str.ofString "NULLK", .int 14 305), (Str.ofString "N_DEFAULT", .int 27 537), (Str.ofString "_law_empty", .ref 1052), (Str.ofString "N_NAME", .int 7 529), (Str.ofString "_law_made", .ref 1073)], []⟩⟩
noncomputable abbrev R_law_size : FnRec := ⟨Str.ofString "_law_size", Str.ofString "_law_size", fnPs (stAt 133), fnB (stAt 133), fnS (stAt 133), [Str.ofString "w", Str.ofString "node"], [Str.ofString "e"], ⟨[(Str.ofString "_law_read", .ref 1059), (Str.ofString "U4", .int 8 293), (Str.ofString "I8", .int 9 295), (Str.ofString "U8", .int 10 297), (Str.ofString "X_CONST", .int 1 635), (Str.ofString "I4", .int 7 291), (Str.ofString "X_CONV", .int 19 647), (Str.ofString "CV_NUM", .int 1 649), (Str.ofString "_law_turn", .ref 1038), (Str.ofString "_law_tell", .ref 1031)], []⟩⟩
noncomputable abbrev R_law_made : FnRec := ⟨Str.ofString "_law_made", Str.ofString "_law_made", fnPs (stAt 134), fnB (stAt 134), fnS (stAt 134), [Str.ofString "w", Str.ofString "node"], [Str.ofString "e", Str.ofString "items", Str.ofString "k", Str.ofString "kid", Str.ofString "kind", Str.ofString "size"], ⟨[(Str.ofString "BAD", .int 15 307), (Str.ofString "VOID", .int 0 277), (Str.ofString "_law_tell", .ref 1031), (Str.ofString "_law_size", .ref 1066), (Str.ofString "X_CONST", .int 1 635), (Str.ofString "R_ARRAY", .int 4 317), (Str.ofString "X_NEWARR", .int 10 639), (Str.ofString "_law_turn", .ref 1038), (Str.ofString "_law_read", .ref 1059), (Str.ofString "X_ARRLIT", .int 11 641)], [(Str.ofString "len", .builtin "len"), (Str.ofString "tuple", .type "tuple")]⟩⟩
noncomputable abbrev R_law_sign : FnRec := ⟨Str.ofString "_law_sign", Str.ofString "_law_sign", fnPs (stAt 135), fnB (stAt 135), fnS (stAt 135), [Str.ofString "w", Str.ofString "sign", Str.ofString "inner"], [], ⟨[(Str.ofString "least_number", .ref 897), (Str.ofString "_law_node", .ref 998), (Str.ofString "N_UNARY", .int 17 535)], []⟩⟩
noncomputable abbrev R_law_least : FnRec := ⟨Str.ofString "_law_least", Str.ofString "_law_least", fnPs (stAt 136), fnB (stAt 136), fnS (stAt 136), [Str.ofString "w"], [Str.ofString "due", Str.ofString "inner", Str.ofString "k", Str.ofString "n", Str.ofString "word", Str.ofString "words"], ⟨[(Str.ofString "I4", .int 7 291), (Str.ofString "I8", .int 9 295), (Str.ofString "X_CONST", .int 1 635), (Str.ofString "_law_sign", .ref 1080), (Str.ofString "_law_node", .ref 998), (Str.ofString "N_INT", .int 1 517), (Str.ofString "N_PAREN", .int 10 531), (Str.ofString "N_NAME", .int 7 529)], []⟩⟩
noncomputable abbrev R_law : FnRec := ⟨Str.ofString "law", Str.ofString "law", fnPs (stAt 137), fnB (stAt 137), fnS (stAt 137), [Str.ofString "script"], [Str.ofString "cx", Str.ofString "enum", Str.ofString "i", Str.ofString "ints", Str.ofString "kt", Str.ofString "lost", Str.ofString "node", Str.ofString "plain", Str.ofString "root", Str.ofString "rows", Str.ofString "store", Str.ofString "struct", Str.ofString "texts", Str.ofString "w", Str.ofString "ways"], ⟨[(Str.ofString "Store", .ref 980), (Str.ofString "R_CLASS", .int 2 313), (Str.ofString "R_VALUE", .int 3 315), (Str.ofString "R_ARRAY", .int 4 317), (Str.ofString "I4", .int 7 291), (Str.ofString "STRING", .int 13 303), (Str.ofString "OBJECT", .int 12 301), (Str.ofString "I8", .int 9 295), (Str.ofString "U1", .int 4 285), (Str.ofString "R_VAR", .int 6 321), (Str.ofString "VOID", .int 0 277), (Str.ofString "U4", .int 8 293), (Str.ofString "CV_NUM", .int 1 649), (Str.ofString "CV_BOX", .int 4 653), (Str.ofString "CHAR", .int 2 281), (Str.ofString "CV_REF", .int 2 651), (Str.ofString "NULLK", .int 14 305), (Str.ofString "CV_NULL", .int 8 655), (Str.ofString "BOOL", .int 1 279), (Str.ofString "U8", .int 10 297), (Str.ofString "_law_take", .ref 991), (Str.ofString "Seat", .ref 710), (Str.ofString "Unit", .ref 268), (Str.ofString "N_TYPE", .int 40 539), (Str.ofString "WordRule", .ref 357), (Str.ofString "N_NAME", .int 7 529), (Str.ofString "TableRule", .ref 317), (Str.ofString "N_DEFAULT", .int 27 537), (Str.ofString "DefaultRule", .ref 914), (Str.ofString "install_x_literals", .ref 890), (Str.ofString "install_x_arrays", .ref 963), (Str.ofString "_law_number", .ref 1005), (Str.ofString "_law_read", .ref 1059), (Str.ofString "_law_array", .ref 1024), (Str.ofString "NewArrayRule", .ref 940), (Str.ofString "_law_made", .ref 1073), (Str.ofString "_law_least", .ref 1087)], [(Str.ofString "range", .type "range")]⟩⟩
noncomputable abbrev FT : List (Addr × FnRec) := [(92, R_KindTable_init), (99, R_KindTable_row), (106, R_KindTable_put), (120, R_inner_kinds), (127, R_row_level), (134, R_row_length), (141, R_check_kind_row), (148, R_check_named), (155, R_check_args), (162, R_may_stand), (169, R_array_kind), (183, R_is_ref), (204, R_Node_init), (225, R_Diags_init), (232, R_Diags_put), (265, R_Unit_init), (307, R_TableRule_init), (314, R_TableRule_bind), (354, R_WordRule_kind), (401, R_Turner_init), (408, R_Turner_convert), (443, R_Turner_under), (499, R_Fitter_fit), (562, R_Yard_show), (630, R_Seat_init), (637, R_Seat_expr), (651, R_Seat_kind), (658, R_Seat_fits), (672, R_Seat_fault), (719, R_bad), (726, R_turn_by_rows), (733, R_is_bad), (740, R_at_of), (747, R_deeper), (754, R_bind_expr), (761, R_bind_kind), (768, R_tell_fault), (775, R_index_number), (795, R_IntRule_bind), (814, R_TextRule_bind), (833, R_CharRule_bind), (852, R_TruthRule_init), (859, R_TruthRule_bind), (878, R_NullRule_bind), (890, R_install_x_literals), (897, R_least_number), (911, R_DefaultRule_bind), (923, R_default_expr), (937, R_NewArrayRule_bind), (949, R_array_size), (956, R_array_items), (963, R_install_x_arrays), (977, R_Store_init), (991, R_law_take), (998, R_law_node), (1005, R_law_number), (1012, R_law_leaf), (1019, R_law_item), (1031, R_law_tell), (1038, R_law_turn), (1045, R_law_first), (1052, R_law_empty), (1059, R_law_read), (1066, R_law_size), (1073, R_law_made), (1080, R_law_sign), (1087, R_law_least), (1092, R_law)]
noncomputable def GT : List (Str × Value) := [(Str.ofString "PRIM_END", .int 16 309), (Str.ofString "R_PRIM", .int 1 311), (Str.ofString "BadKind", .ref 51), (Str.ofString "check_kind_row", .ref 141), (Str.ofString "R_VAR", .int 6 321), (Str.ofString "R_MVAR", .int 7 323), (Str.ofString "row_level", .ref 127), (Str.ofString "inner_kinds", .ref 120), (Str.ofString "DEEPEST_KIND", .int 24 333), (Str.ofString "HEAVIEST_KIND", .int 4096 335), (Str.ofString "R_CLASS", .int 2 313), (Str.ofString "R_VALUE", .int 3 315), (Str.ofString "R_ARRAY", .int 4 317), (Str.ofString "R_BYREF", .int 5 319), (Str.ofString "R_BOXED", .int 8 325), (Str.ofString "R_ROREF", .int 9 327), (Str.ofString "R_RAW", .int 11 331), (Str.ofString "R_FTN", .int 10 329), (Str.ofString "row_length", .ref 134), (Str.ofString "check_named", .ref 148), (Str.ofString "may_stand", .ref 162), (Str.ofString "check_args", .ref 155), (Str.ofString "is_value", .ref 176), (Str.ofString "is_var", .ref 190), (Str.ofString "TID_PRIM", .ref 78), (Str.ofString "VOID", .int 0 277), (Str.ofString "NULLK", .int 14 305), (Str.ofString "OBJECT", .int 12 301), (Str.ofString "STRING", .int 13 303), (Str.ofString "Diags", .ref 247), (Str.ofString "BAD", .int 15 307), (Str.ofString "turn_by_rows", .ref 726), (Str.ofString "Judge", .ref 383), (Str.ofString "Turner", .ref 481), (Str.ofString "Fitter", .ref 502), (Str.ofString "Keeper", .ref 523), (Str.ofString "bind_expr", .ref 754), (Str.ofString "bind_kind", .ref 761), (Str.ofString "at_of", .ref 740), (Str.ofString "X_CONST", .int 1 635), (Str.ofString "X_CONV", .int 19 647), (Str.ofString "bad", .ref 719), (Str.ofString "CX_DEEPEST", .int 50 697), (Str.ofString "TooDeep", .ref 63), (Str.ofString "LeftOut", .ref 75), (Str.ofString "deeper", .ref 747), (Str.ofString "U4", .int 8 293), (Str.ofString "I8", .int 9 295), (Str.ofString "U8", .int 10 297), (Str.ofString "I4", .int 7 291), (Str.ofString "CV_NUM", .int 1 649), (Str.ofString "INT_KINDS", .ref 776), (Str.ofString "INT_TOPS", .ref 781), (Str.ofString "tell_fault", .ref 768), (Str.ofString "CHAR", .int 2 281), (Str.ofString "BOOL", .int 1 279), (Str.ofString "N_INT", .int 1 517), (Str.ofString "IntRule", .ref 798), (Str.ofString "N_TEXT", .int 2 519), (Str.ofString "TextRule", .ref 817), (Str.ofString "N_CHARLIT", .int 3 521), (Str.ofString "CharRule", .ref 836), (Str.ofString "N_TRUE", .int 4 523), (Str.ofString "TruthRule", .ref 862), (Str.ofString "N_FALSE", .int 5 525), (Str.ofString "N_NULL", .int 6 527), (Str.ofString "NullRule", .ref 881), (Str.ofString "default_expr", .ref 923), (Str.ofString "is_ref", .ref 183), (Str.ofString "X_DEFAULT", .int 12 643), (Str.ofString "array_size", .ref 949), (Str.ofString "is_bad", .ref 733), (Str.ofString "array_kind", .ref 169), (Str.ofString "X_NEWARR", .int 10 639), (Str.ofString "array_items", .ref 956), (Str.ofString "index_number", .ref 775), (Str.ofString "X_ARRLIT", .int 11 641), (Str.ofString "N_NEWARR", .int 16 533), (Str.ofString "NewArrayRule", .ref 940), (Str.ofString "KindTable", .ref 109), (Str.ofString "Node", .ref 207), (Str.ofString "_law_take", .ref 991), (Str.ofString "_law_node", .ref 998), (Str.ofString "_law_number", .ref 1005), (Str.ofString "N_DEFAULT", .int 27 537), (Str.ofString "N_NAME", .int 7 529), (Str.ofString "X_LOCAL", .int 2 637), (Str.ofString "U1", .int 4 285), (Str.ofString "_law_array", .ref 1024), (Str.ofString "_law_leaf", .ref 1012), (Str.ofString "N_LIST", .int 110 541), (Str.ofString "N_TYPE", .int 40 539), (Str.ofString "_law_item", .ref 1019), (Str.ofString "_law_tell", .ref 1031), (Str.ofString "_law_turn", .ref 1038), (Str.ofString "_law_first", .ref 1045), (Str.ofString "_law_empty", .ref 1052), (Str.ofString "_law_made", .ref 1073), (Str.ofString "_law_read", .ref 1059), (Str.ofString "_law_size", .ref 1066), (Str.ofString "least_number", .ref 897), (Str.ofString "N_UNARY", .int 17 535), (Str.ofString "_law_sign", .ref 1080), (Str.ofString "N_PAREN", .int 10 531), (Str.ofString "Store", .ref 980), (Str.ofString "CV_BOX", .int 4 653), (Str.ofString "CV_REF", .int 2 651), (Str.ofString "CV_NULL", .int 8 655), (Str.ofString "Seat", .ref 710), (Str.ofString "Unit", .ref 268), (Str.ofString "WordRule", .ref 357), (Str.ofString "TableRule", .ref 317), (Str.ofString "DefaultRule", .ref 914), (Str.ofString "install_x_literals", .ref 890), (Str.ofString "install_x_arrays", .ref 963), (Str.ofString "_law_least", .ref 1087)]
noncomputable abbrev CT : List (Addr × List Str) := [(109, [Str.ofString "rows", Str.ofString "index", Str.ofString "depths", Str.ofString "weights", Str.ofString "opens"]), (207, [Str.ofString "kind", Str.ofString "a", Str.ofString "kids", Str.ofString "mods", Str.ofString "at", Str.ofString "nid"]), (247, [Str.ofString "rows"]), (268, [Str.ofString "store", Str.ofString "asm", Str.ofString "fns", Str.ofString "vars", Str.ofString "of_mid", Str.ofString "diags", Str.ofString "inits", Str.ofString "sinits", Str.ofString "consts"]), (317, [Str.ofString "rows"]), (481, [Str.ofString "goes", Str.ofString "sames", Str.ofString "unders", Str.ofString "inners"]), (710, [Str.ofString "unit", Str.ofString "store", Str.ofString "kt", Str.ofString "host", Str.ofString "asm", Str.ofString "kinds", Str.ofString "unmet", Str.ofString "told", Str.ofString "diags", Str.ofString "exprs", Str.ofString "stmts", Str.ofString "types", Str.ofString "scopes", Str.ofString "rows", Str.ofString "closed", Str.ofString "fn", Str.ofString "owner", Str.ofString "mid", Str.ofString "static", Str.ofString "init", Str.ofString "checked", Str.ofString "free", Str.ofString "loops", Str.ofString "blocks", Str.ofString "tparams", Str.ofString "targets", Str.ofString "judge", Str.ofString "turner", Str.ofString "fitter", Str.ofString "keeper", Str.ofString "early", Str.ofString "deep", Str.ofString "at", Str.ofString "notes"]), (862, [Str.ofString "value"]), (980, [Str.ofString "kt", Str.ofString "types", Str.ofString "fields_", Str.ofString "methods", Str.ofString "names", Str.ofString "asms", Str.ofString "entry"])]
noncomputable abbrev MT : List (Addr × List (Str × Addr)) := [(109, [(Str.ofString "row", 99), (Str.ofString "put", 106)]), (247, [(Str.ofString "put", 232)]), (317, [(Str.ofString "bind", 314)]), (357, [(Str.ofString "kind", 354)]), (481, [(Str.ofString "convert", 408), (Str.ofString "under", 443)]), (502, [(Str.ofString "fit", 499)]), (710, [(Str.ofString "kind", 651), (Str.ofString "fault", 672), (Str.ofString "show", 562), (Str.ofString "expr", 637), (Str.ofString "fits", 658)]), (798, [(Str.ofString "bind", 795)]), (817, [(Str.ofString "bind", 814)]), (836, [(Str.ofString "bind", 833)]), (862, [(Str.ofString "bind", 859)]), (881, [(Str.ofString "bind", 878)]), (914, [(Str.ofString "bind", 911)]), (940, [(Str.ofString "bind", 937)])]
noncomputable abbrev KP : List Addr := [92, 99, 106, 109, 120, 127, 134, 141, 148, 155, 162, 169, 183, 204, 207, 225, 232, 247, 265, 268, 307, 314, 317, 354, 357, 383, 401, 408, 443, 481, 499, 502, 523, 562, 630, 637, 651, 658, 672, 710, 719, 726, 733, 740, 747, 754, 761, 768, 775, 795, 798, 814, 817, 833, 836, 852, 859, 862, 878, 881, 890, 897, 911, 914, 923, 937, 940, 949, 956, 963, 977, 980, 991, 998, 1005, 1012, 1019, 1024, 1031, 1038, 1045, 1052, 1059, 1066, 1073, 1080, 1087, 1092]
structure KF (K : Frag) : Prop where
  gl : ∀ p ∈ GT, nsIn K mainGlobals p.1 = some (some p.2)
  bl : ∀ p ∈ blts, nsIn K mainGlobals p.1 = some none
  f : ∀ p ∈ FT, FnAt K p.1 p.2
  f_law_array : FnAt K 1024 R_law_array
  keep : ∀ a ∈ KP, keepIn K (.ref a) = true
  ca : ∀ p ∈ CT, ∀ x ∈ p.2, ClsA K p.1 x
  cs : ∀ p ∈ CT, ∀ x ∈ p.2, ClsS K p.1 x
  cm : ∀ p ∈ MT, ∀ x ∈ p.2, ClsM K p.1 x.1 x.2
  i_KindTable : makesIn K 109 = true ∧ findIn K (.ref 109) "__init__" = some (some (.ref 92)) ∧ isFn K (.ref 92) = true
  i_Node : makesIn K 207 = true ∧ findIn K (.ref 207) "__init__" = some (some (.ref 204)) ∧ isFn K (.ref 204) = true
  i_Diags : makesIn K 247 = true ∧ findIn K (.ref 247) "__init__" = some (some (.ref 225)) ∧ isFn K (.ref 225) = true
  i_Unit : makesIn K 268 = true ∧ findIn K (.ref 268) "__init__" = some (some (.ref 265)) ∧ isFn K (.ref 265) = true
  i_TableRule : makesIn K 317 = true ∧ findIn K (.ref 317) "__init__" = some (some (.ref 307)) ∧ isFn K (.ref 307) = true
  i_WordRule : makesIn K 357 = true ∧ findIn K (.ref 357) "__init__" = some (some (.builtin "object.__init__"))
  i_Judge : makesIn K 383 = true ∧ findIn K (.ref 383) "__init__" = some (some (.builtin "object.__init__"))
  i_Turner : makesIn K 481 = true ∧ findIn K (.ref 481) "__init__" = some (some (.ref 401)) ∧ isFn K (.ref 401) = true
  i_Fitter : makesIn K 502 = true ∧ findIn K (.ref 502) "__init__" = some (some (.builtin "object.__init__"))
  i_Keeper : makesIn K 523 = true ∧ findIn K (.ref 523) "__init__" = some (some (.builtin "object.__init__"))
  i_Seat : makesIn K 710 = true ∧ findIn K (.ref 710) "__init__" = some (some (.ref 630)) ∧ isFn K (.ref 630) = true
  i_IntRule : makesIn K 798 = true ∧ findIn K (.ref 798) "__init__" = some (some (.builtin "object.__init__"))
  i_TextRule : makesIn K 817 = true ∧ findIn K (.ref 817) "__init__" = some (some (.builtin "object.__init__"))
  i_CharRule : makesIn K 836 = true ∧ findIn K (.ref 836) "__init__" = some (some (.builtin "object.__init__"))
  i_TruthRule : makesIn K 862 = true ∧ findIn K (.ref 862) "__init__" = some (some (.ref 852)) ∧ isFn K (.ref 852) = true
  i_NullRule : makesIn K 881 = true ∧ findIn K (.ref 881) "__init__" = some (some (.builtin "object.__init__"))
  i_DefaultRule : makesIn K 914 = true ∧ findIn K (.ref 914) "__init__" = some (some (.builtin "object.__init__"))
  i_NewArrayRule : makesIn K 940 = true ∧ findIn K (.ref 940) "__init__" = some (some (.builtin "object.__init__"))
  i_Store : makesIn K 980 = true ∧ findIn K (.ref 980) "__init__" = some (some (.ref 977)) ∧ isFn K (.ref 977) = true
theorem KF.a {K : Frag} (k : KF K) {C : Addr} {l : List Str} {x : Str} (h : (C, l) ∈ CT) (h' : x ∈ l) : ClsA K C x := k.ca _ h _ h'
theorem KF.s {K : Frag} (k : KF K) {C : Addr} {l : List Str} {x : Str} (h : (C, l) ∈ CT) (h' : x ∈ l) : ClsS K C x := k.cs _ h _ h'
theorem KF.m {K : Frag} (k : KF K) {C : Addr} {l : List (Str × Addr)} {x : Str} {f : Addr} (h : (C, l) ∈ MT) (h' : (x, f) ∈ l) : ClsM K C x f := k.cm _ h _ h'
theorem KF.kp {K : Frag} (k : KF K) {a : Addr} (h : KP.elem a = true) : keepIn K (.ref a) = true := k.keep a (List.mem_of_elem_eq_true h)
theorem FT_ok : ∀ p ∈ FT, okB p.2 = true ∧ (∀ q ∈ p.2.d.gl, q ∈ GT) ∧ (∀ q ∈ p.2.d.bl, q ∈ blts) := by decide +kernel
theorem fnGl {K : Frag} (k : KF K) {δ : FnRec} (h : decide (∀ p ∈ δ.d.gl, p ∈ GT) = true) (h' : decide (∀ p ∈ δ.d.bl, p ∈ blts) = true) : FnGl K δ :=
  ⟨fun p hp => k.gl p (of_decide_eq_true h p hp), fun p hp => k.bl p (of_decide_eq_true h' p hp)⟩
theorem Fn.nth {K : Frag} (k : KF K) {i : Nat} {a : Addr} {δ : FnRec} (h : FT[i]? = some (a, δ)) : Fn K a δ :=
  have hm := List.mem_of_getElem? h
  have ho := FT_ok _ hm
  ⟨k.f _ hm, FnOk.of ho.1, ⟨fun p hp => k.gl p (ho.2.1 p hp), fun p hp => k.bl p (ho.2.2 p hp)⟩⟩
section
variable {K : Frag} (k : KF K)
include k
theorem fn_KindTable_init : Fn K 92 R_KindTable_init := Fn.nth k (i := 0) rfl
theorem fn_KindTable_row : Fn K 99 R_KindTable_row := Fn.nth k (i := 1) rfl
theorem fn_KindTable_put : Fn K 106 R_KindTable_put := Fn.nth k (i := 2) rfl
theorem fn_inner_kinds : Fn K 120 R_inner_kinds := Fn.nth k (i := 3) rfl
theorem fn_row_level : Fn K 127 R_row_level := Fn.nth k (i := 4) rfl
theorem fn_row_length : Fn K 134 R_row_length := Fn.nth k (i := 5) rfl
theorem fn_check_kind_row : Fn K 141 R_check_kind_row := Fn.nth k (i := 6) rfl
theorem fn_check_named : Fn K 148 R_check_named := Fn.nth k (i := 7) rfl
theorem fn_check_args : Fn K 155 R_check_args := Fn.nth k (i := 8) rfl
theorem fn_may_stand : Fn K 162 R_may_stand := Fn.nth k (i := 9) rfl
theorem fn_array_kind : Fn K 169 R_array_kind := Fn.nth k (i := 10) rfl
theorem fn_is_ref : Fn K 183 R_is_ref := Fn.nth k (i := 11) rfl
theorem fn_Node_init : Fn K 204 R_Node_init := Fn.nth k (i := 12) rfl
theorem fn_Diags_init : Fn K 225 R_Diags_init := Fn.nth k (i := 13) rfl
theorem fn_Diags_put : Fn K 232 R_Diags_put := Fn.nth k (i := 14) rfl
theorem fn_Unit_init : Fn K 265 R_Unit_init := Fn.nth k (i := 15) rfl
theorem fn_TableRule_init : Fn K 307 R_TableRule_init := Fn.nth k (i := 16) rfl
theorem fn_TableRule_bind : Fn K 314 R_TableRule_bind := Fn.nth k (i := 17) rfl
theorem fn_WordRule_kind : Fn K 354 R_WordRule_kind := Fn.nth k (i := 18) rfl
theorem fn_Turner_init : Fn K 401 R_Turner_init := Fn.nth k (i := 19) rfl
theorem fn_Turner_convert : Fn K 408 R_Turner_convert := Fn.nth k (i := 20) rfl
theorem fn_Turner_under : Fn K 443 R_Turner_under := Fn.nth k (i := 21) rfl
theorem fn_Fitter_fit : Fn K 499 R_Fitter_fit := Fn.nth k (i := 22) rfl
theorem fn_Yard_show : Fn K 562 R_Yard_show := Fn.nth k (i := 23) rfl
theorem fn_Seat_init : Fn K 630 R_Seat_init := Fn.nth k (i := 24) rfl
theorem fn_Seat_expr : Fn K 637 R_Seat_expr := Fn.nth k (i := 25) rfl
theorem fn_Seat_kind : Fn K 651 R_Seat_kind := Fn.nth k (i := 26) rfl
theorem fn_Seat_fits : Fn K 658 R_Seat_fits := Fn.nth k (i := 27) rfl
theorem fn_Seat_fault : Fn K 672 R_Seat_fault := Fn.nth k (i := 28) rfl
theorem fn_bad : Fn K 719 R_bad := Fn.nth k (i := 29) rfl
theorem fn_turn_by_rows : Fn K 726 R_turn_by_rows := Fn.nth k (i := 30) rfl
theorem fn_is_bad : Fn K 733 R_is_bad := Fn.nth k (i := 31) rfl
theorem fn_at_of : Fn K 740 R_at_of := Fn.nth k (i := 32) rfl
theorem fn_deeper : Fn K 747 R_deeper := Fn.nth k (i := 33) rfl
theorem fn_bind_expr : Fn K 754 R_bind_expr := Fn.nth k (i := 34) rfl
theorem fn_bind_kind : Fn K 761 R_bind_kind := Fn.nth k (i := 35) rfl
theorem fn_tell_fault : Fn K 768 R_tell_fault := Fn.nth k (i := 36) rfl
theorem fn_index_number : Fn K 775 R_index_number := Fn.nth k (i := 37) rfl
theorem fn_IntRule_bind : Fn K 795 R_IntRule_bind := Fn.nth k (i := 38) rfl
theorem fn_TextRule_bind : Fn K 814 R_TextRule_bind := Fn.nth k (i := 39) rfl
theorem fn_CharRule_bind : Fn K 833 R_CharRule_bind := Fn.nth k (i := 40) rfl
theorem fn_TruthRule_init : Fn K 852 R_TruthRule_init := Fn.nth k (i := 41) rfl
theorem fn_TruthRule_bind : Fn K 859 R_TruthRule_bind := Fn.nth k (i := 42) rfl
theorem fn_NullRule_bind : Fn K 878 R_NullRule_bind := Fn.nth k (i := 43) rfl
theorem fn_install_x_literals : Fn K 890 R_install_x_literals := Fn.nth k (i := 44) rfl
theorem fn_least_number : Fn K 897 R_least_number := Fn.nth k (i := 45) rfl
theorem fn_DefaultRule_bind : Fn K 911 R_DefaultRule_bind := Fn.nth k (i := 46) rfl
theorem fn_default_expr : Fn K 923 R_default_expr := Fn.nth k (i := 47) rfl
theorem fn_NewArrayRule_bind : Fn K 937 R_NewArrayRule_bind := Fn.nth k (i := 48) rfl
theorem fn_array_size : Fn K 949 R_array_size := Fn.nth k (i := 49) rfl
theorem fn_array_items : Fn K 956 R_array_items := Fn.nth k (i := 50) rfl
theorem fn_install_x_arrays : Fn K 963 R_install_x_arrays := Fn.nth k (i := 51) rfl
theorem fn_Store_init : Fn K 977 R_Store_init := Fn.nth k (i := 52) rfl
theorem fn_law_take : Fn K 991 R_law_take := Fn.nth k (i := 53) rfl
theorem fn_law_node : Fn K 998 R_law_node := Fn.nth k (i := 54) rfl
theorem fn_law_number : Fn K 1005 R_law_number := Fn.nth k (i := 55) rfl
theorem fn_law_leaf : Fn K 1012 R_law_leaf := Fn.nth k (i := 56) rfl
theorem fn_law_item : Fn K 1019 R_law_item := Fn.nth k (i := 57) rfl
theorem fn_law_tell : Fn K 1031 R_law_tell := Fn.nth k (i := 58) rfl
theorem fn_law_turn : Fn K 1038 R_law_turn := Fn.nth k (i := 59) rfl
theorem fn_law_first : Fn K 1045 R_law_first := Fn.nth k (i := 60) rfl
theorem fn_law_empty : Fn K 1052 R_law_empty := Fn.nth k (i := 61) rfl
theorem fn_law_read : Fn K 1059 R_law_read := Fn.nth k (i := 62) rfl
theorem fn_law_size : Fn K 1066 R_law_size := Fn.nth k (i := 63) rfl
theorem fn_law_made : Fn K 1073 R_law_made := Fn.nth k (i := 64) rfl
theorem fn_law_sign : Fn K 1080 R_law_sign := Fn.nth k (i := 65) rfl
theorem fn_law_least : Fn K 1087 R_law_least := Fn.nth k (i := 66) rfl
theorem fn_law : Fn K 1092 R_law := Fn.nth k (i := 67) rfl
end
theorem After.nx {c : Cx} {F : Frm c} {st : St} {rest : List Stmt} {Q : Flow → St → Prop} (h : WP F (execs rest F.env) st Q) : After F rest Q .next st := h
theorem After.rt {c : Cx} {F : Frm c} {st : St} {rest : List Stmt} {v : Value} {Q : Flow → St → Prop} (h : Q (.ret v) st) : After F rest Q (.ret v) st := h
theorem Le.up {P P' : Pset} {a : Addr} {o : Obj} (h : P a o) (l : Le P P') : P' a o := l _ _ h
theorem pickT {b : Bool} {A B : Prop} (h : b = true) (k : A) : Br b A B := ⟨fun _ => k, fun e => absurd (e.symm.trans h) Bool.false_ne_true⟩
theorem pickF {b : Bool} {A B : Prop} (h : b = false) (k : B) : Br b A B := ⟨fun e => absurd (h.symm.trans e) Bool.false_ne_true, fun _ => k⟩
mutual
inductive Dt (P : Pset) : Value → PyData → Prop
  | int (i : Int) (t : Tok) : Dt P (.int i t) (.int i)
  | str (x : Str) (t : Tok) : PyData.strOk x = true → Dt P (.str x t) (.str x)
  | none : Dt P .none .none
  | tup {a : Addr} {vs : List Value} {ds : List PyData} : P a (tupO vs) → Dts P vs ds → Dt P (.ref a) (.tuple ds)
inductive Dts (P : Pset) : List Value → List PyData → Prop
  | nil : Dts P [] []
  | cons {v : Value} {d : PyData} {vs : List Value} {ds : List PyData} : Dt P v d → Dts P vs ds → Dts P (v :: vs) (d :: ds)
end
theorem Dt.mono {P P' : Pset} (l : Le P P') {v : Value} {d : PyData} (h : Dt P v d) : Dt P' v d :=
  Dt.rec (motive_1 := fun v d _ => Dt P' v d) (motive_2 := fun vs ds _ => Dts P' vs ds) (fun i t => .int i t) (fun x t h => .str x t h) .none (fun h _ k => .tup (l _ _ h) k) .nil (fun _ _ a b => .cons a b) h
theorem Dts.mono {P P' : Pset} (l : Le P P') {vs : List Value} {ds : List PyData} (h : Dts P vs ds) : Dts P' vs ds :=
  Dts.rec (motive_1 := fun v d _ => Dt P' v d) (motive_2 := fun vs ds _ => Dts P' vs ds) (fun i t => .int i t) (fun x t h => .str x t h) .none (fun h _ k => .tup (l _ _ h) k) .nil (fun _ _ a b => .cons a b) h
theorem Dt.reads {P : Pset} {h : Heap} (hP : ∀ a o, P a o → h.get? a = some o) {v : Value} {d : PyData} (k : Dt P v d) : ∃ as, Reads h v d as :=
  Dt.rec (motive_1 := fun v d _ => ∃ as, Reads h v d as) (motive_2 := fun vs ds _ => ∃ as, ReadsAll h vs ds as) (fun i t => ⟨_, .int i t⟩) (fun x t _ => ⟨_, .str x t⟩) ⟨_, .none⟩ (fun hp _ k => k.elim fun _ r => ⟨_, .tuple (hP _ _ hp) rfl rfl r⟩) ⟨_, .nil⟩ (fun _ _ a b => a.elim fun _ r => b.elim fun _ q => ⟨_, .cons r q⟩) k
theorem Dts.reads {P : Pset} {h : Heap} (hP : ∀ a o, P a o → h.get? a = some o) {vs : List Value} {ds : List PyData} (k : Dts P vs ds) : ∃ as, ReadsAll h vs ds as :=
  Dts.rec (motive_1 := fun v d _ => ∃ as, Reads h v d as) (motive_2 := fun vs ds _ => ∃ as, ReadsAll h vs ds as) (fun i t => ⟨_, .int i t⟩) (fun x t _ => ⟨_, .str x t⟩) ⟨_, .none⟩ (fun hp _ k => k.elim fun _ r => ⟨_, .tuple (hP _ _ hp) rfl rfl r⟩) ⟨_, .nil⟩ (fun _ _ a b => a.elim fun _ r => b.elim fun _ q => ⟨_, .cons r q⟩) k
theorem Dts.ind {P : Pset} {C : List Value → List PyData → Prop} (h0 : C [] []) (h1 : ∀ {v d vs ds}, Dt P v d → Dts P vs ds → C vs ds → C (v :: vs) (d :: ds)) {vs : List Value} {ds : List PyData} (k : Dts P vs ds) : C vs ds :=
  Dts.rec (motive_1 := fun _ _ _ => True) (motive_2 := fun vs ds _ => C vs ds) (fun _ _ => trivial) (fun _ _ _ => trivial) trivial (fun _ _ _ => trivial) h0 (fun a b _ q => h1 a b q) k
theorem Dts.length {P : Pset} {vs : List Value} {ds : List PyData} (k : Dts P vs ds) : vs.length = ds.length :=
  Dts.ind (C := fun vs ds => vs.length = ds.length) rfl (fun _ _ q => congrArg Nat.succ q) k
theorem Dts.app {P : Pset} {ws : List Value} {es : List PyData} (b : Dts P ws es) {vs : List Value} {ds : List PyData} (k : Dts P vs ds) : Dts P (vs ++ ws) (ds ++ es) :=
  Dts.ind (C := fun vs ds => Dts P (vs ++ ws) (ds ++ es)) b (fun h _ q => .cons h q) k
theorem Dt.can {P : Pset} {v : Value} {d : PyData} (k : Dt P v d) : d.canLay0 = true :=
  Dt.rec (motive_1 := fun _ d _ => d.canLay0 = true) (motive_2 := fun _ ds _ => PyData.canLayAll0 ds = true) (fun i t => by simp [PyData.canLay0]) (fun x t h => by simp only [PyData.canLay0]; exact h) (by simp [PyData.canLay0])
    (fun _ _ k => by simp only [PyData.canLay0]; exact k) (by simp [PyData.canLayAll0]) (fun _ _ a b => by simp [PyData.canLayAll0, a, b]) k
theorem Dts.can {P : Pset} {vs : List Value} {ds : List PyData} (k : Dts P vs ds) : PyData.canLayAll0 ds = true :=
  Dts.ind (C := fun _ ds => PyData.canLayAll0 ds = true) (by simp [PyData.canLayAll0]) (fun a _ b => by simp [PyData.canLayAll0, a.can, b]) k

structure Ex where
  s : Int
  k : Int
  r : List PyData
noncomputable def Ex.data (e : Ex) : PyData := .tuple (.int e.s :: .int e.k :: e.r)
noncomputable abbrev Xv (P : Pset) (v : Value) (e : Ex) : Prop := Dt P v e.data
inductive XvI (P : Pset) (v : Value) (e : Ex) : Prop
  | mk (a : Addr) (t u : Tok) (vr : List Value) : v = .ref a → P a (tupO (.int e.s t :: .int e.k u :: vr)) → Dts P vr e.r → XvI P v e
theorem Xv.inv {P : Pset} {v : Value} {e : Ex} (h : Xv P v e) : XvI P v e := by
  refine ofQ ?_; simp (disch := (k_dflt (
  refine hold ?_
  cases h with
  | @tup a vs _ hp k =>
    cases k with
    | @cons v1 _ vs1 _ h1 k1 =>
      cases k1 with
      | @cons v2 _ vs2 _ h2 k2 =>
        cases h1; cases h2
        exact ⟨a, _, _, vs2, rfl, hp, k2⟩
  ))) only [↓quiet]
theorem strOk_of (s : String) : PyData.strOk (Str.ofString s) = true := by
  refine ofQ ?_; simp (disch := (k_dflt (
  refine hold ?_
  unfold PyData.strOk
  rw [Str.ofString_eq_toList]
  simp only [List.all_toArray, List.all_map, List.all_eq_true]
  intro x _
  have := x.valid
  simp only [Function.comp_apply, decide_eq_true_eq]
  rcases this with h | h
  · show x.val.toNat < _
    lia
  · show x.val.toNat < _
    lia
  ))) only [↓quiet]
noncomputable def badE : Ex := ⟨1, 15, [.int 0]⟩
noncomputable abbrev S (x : String) : Str := Str.ofString x
noncomputable def flt (n at_ : Int) (ws : List PyData) : PyData := .tuple [.int n, .int at_, .tuple ws]
noncomputable def shown (k : Int) : PyData := .str (Str.ofString (toString k))
noncomputable abbrev Goes := List ((Int × Int) × Int)
structure Cfg where
  goes : Goes
  chk : Int
noncomputable def conv (c : Cfg) (e : Ex) (k at_ : Int) : Ex × List PyData :=
  if e.k = k ∨ e.k = 15 then (e, []) else
  match c.goes.lookup (e.k, k) with
  | some cv => (⟨19, k, [e.data, .int cv, .int c.chk]⟩, [])
  | none => (badE, [flt 29 at_ [shown e.k, shown k]])

inductive Leaf where
  | int (n : Int) (w : Str)
  | text (s : Str)
  | chr (n : Int)
  | tru | fls | null | dflt
  | name (e : Ex)
noncomputable def firstK (n : Int) (w : Str) : Option Int :=
  if n ≤ 2147483647 ∧ w = S "" then some 7
  else if n ≤ 4294967295 ∧ (w = S "" ∨ w = S "u") then some 8
  else if n ≤ 9223372036854775807 ∧ (w = S "" ∨ w = S "l") then some 9
  else if n ≤ 18446744073709551615 then some 10
  else none
noncomputable def rdInt (n : Int) (w : Str) (at_ : Int) : Ex × List PyData := match firstK n w with
  | some k => (⟨1, k, [.int n]⟩, [])
  | none => (badE, [flt 1021 at_ []])
noncomputable def isRefK (k : Int) : Bool := decide (k = 12 ∨ k = 13 ∨ k = 16 ∨ k = 19 ∨ k = 20 ∨ k = 21)
noncomputable def rdDef (c : Cfg) (want at_ : Int) : Ex × List PyData :=
  if isRefK want then conv c ⟨1, 14, [.none]⟩ want at_
  else if (1 ≤ want ∧ want ≤ 10) ∨ want = 18 then (⟨1, want, [.int 0]⟩, [])
  else (⟨12, want, []⟩, [])
noncomputable def rdLeaf (c : Cfg) (l : Leaf) (at_ want : Int) : Ex × List PyData := match l with
  | .int n w => rdInt n w at_
  | .text s => (⟨1, 13, [.str s]⟩, [])
  | .chr n => (⟨1, 2, [.int n]⟩, [])
  | .tru => (⟨1, 1, [.int 1]⟩, [])
  | .fls => (⟨1, 1, [.int 0]⟩, [])
  | .null => (⟨1, 14, [.none]⟩, [])
  | .dflt => rdDef c want at_
  | .name e => (e, [])
noncomputable def Ex.n (e : Ex) : Int := match e.r with | .int i :: _ => i | _ => 0
noncomputable def rdSize (c : Cfg) (l : Leaf) (at_ : Int) : Ex × List PyData :=
  let (e, f) := rdLeaf c l at_ (-1)
  if e.k = 8 ∨ e.k = 9 ∨ e.k = 10 then
    if e.s = 1 ∧ e.n ≤ 2147483647 then (⟨1, 7, [.int e.n]⟩, f) else (⟨19, 7, [e.data, .int 1, .int 1]⟩, f)
  else
    let (e', f') := conv c e 7 at_
    if e'.s = 1 ∧ e'.k = 7 ∧ e'.n < 0 then (badE, f ++ f' ++ [flt 248 at_ []]) else (e', f ++ f')
noncomputable def namedL : List (Str × Int) := [(S "int", 7), (S "object", 12), (S "long", 9), (S "string", 13), (S "A", 16), (S "byte", 4), (S "int[]", 19), (S "S", 17), (S "E", 18), (S "string[]", 20), (S "T", 22), (S "int[][]", 21), (S "void", 0), (S "uint", 8)]
noncomputable def named (w : Str) : Int := (namedL.lookup w).getD 15
noncomputable def fixedArr (k : Int) : Option Int := if k = 7 then some 19 else if k = 13 then some 20 else if k = 19 then some 21 else none
noncomputable def putA (A : List Int) (k : Int) : Int × List Int := match fixedArr k with
  | some i => (i, A)
  | none => if k ∈ A then (23 + A.idxOf k, A) else (23 + A.length, A ++ [k])
inductive Tr where
  | leaf (nid : Int) (l : Leaf)
  | arr (nid : Int) (w : Str) (size : Option (Int × Leaf)) (items : Option (List Tr))
noncomputable def Tr.nid : Tr → Int
  | .leaf n _ => n
  | .arr n _ _ _ => n
noncomputable def szData : Option Ex → PyData
  | none => .none
  | some e => e.data
noncomputable def rdItems (c : Cfg) (rec : Tr → Int → List Int → Ex × List PyData × List Int) (k : Int) : List Tr → List Ex → List Int → (Option Ex × List Ex) × List PyData × List Int
  | [], acc, A => ((none, acc), [], A)
  | t :: ts, acc, A =>
    let (e, f, A₁) := rec t k A
    let (e', f') := conv c e k (100 + t.nid)
    if e'.k = 15 then ((some e', acc), f ++ f', A₁)
    else
      let (r, f₂, A₂) := rdItems c rec k ts (acc ++ [e']) A₁
      (r, f ++ f' ++ f₂, A₂)
noncomputable def sizeOf (c : Cfg) : Option (Int × Leaf) → Option Ex × List PyData
  | none => (none, [])
  | some (n, l) => let (e, f) := rdSize c l (100 + n); (some e, f)
noncomputable def closeArr (kd at_ : Int) (sz : Option Ex) (xs : List Ex) : Ex × List PyData := match sz with
  | none => (⟨11, kd, [.tuple (xs.map Ex.data)]⟩, [])
  | some s => if s.s ≠ 1 then (badE, [flt 150 at_ []]) else if s.n ≠ xs.length then (badE, [flt 847 at_ [.int s.n]]) else (⟨11, kd, [.tuple (xs.map Ex.data)]⟩, [])
noncomputable def rdArr (c : Cfg) (rec : Tr → Int → List Int → Ex × List PyData × List Int) (nid : Int) (w : Str) (size : Option (Int × Leaf)) (items : Option (List Tr)) (A : List Int) : Ex × List PyData × List Int :=
  if named w = 0 then (badE, [flt 1547 (100 + nid) []], A) else
  let (sz, f) := sizeOf c size
  if named w = 15 ∨ (sz.any fun e => decide (e.k = 15)) = true then (badE, f, A) else
  let (kd, A₁) := putA A (named w)
  match items with
  | none => (⟨10, kd, [szData sz]⟩, f, A₁)
  | some ts => match rdItems c rec (named w) ts [] A₁ with
    | ((some e, _), f', A₂) => (e, f ++ f', A₂)
    | ((none, xs), f', A₂) => let (e, f₂) := closeArr kd (100 + nid) sz xs; (e, f ++ f' ++ f₂, A₂)
noncomputable def rd (c : Cfg) : Nat → Tr → Int → List Int → Ex × List PyData × List Int
  | _, .leaf nid l, want, A => let (e, f) := rdLeaf c l (100 + nid) want; (e, f, A)
  | 0, .arr .., _, A => (badE, [], A)
  | d + 1, .arr nid w size items, _, A => rdArr c (rd c d) nid w size items A

theorem putA_pre (A : List Int) (k : Int) : A <+: (putA A k).2 := by
  unfold putA
  cases fixedArr k with
  | some i => exact List.prefix_rfl
  | none =>
    dsimp only
    split
    · exact List.prefix_rfl
    · exact List.prefix_append _ _
theorem idx_app (k : Int) (l : List Int) : ∀ A : List Int, k ∈ A → (A ++ l).idxOf k = A.idxOf k := by
  intro A h
  rw [List.idxOf_append, if_pos h]
theorem putA_again {A B : List Int} {k : Int} (h : (putA A k).2 <+: B) : putA B k = ((putA A k).1, B) := by
  refine ofQ ?_; simp (disch := (k_dflt (
  refine hold ?_
  obtain ⟨l, rfl⟩ := h
  unfold putA
  cases fixedArr k with
  | some i => rfl
  | none =>
    dsimp only
    by_cases hk : k ∈ A
    · rw [if_pos hk, if_pos (List.mem_append.mpr (.inl hk)), idx_app k l A hk]
    · rw [if_neg hk]
      dsimp only
      rw [if_pos (by simp), idx_app k l (A ++ [k]) (by simp), List.idxOf_append, if_neg hk]
      simp
  ))) only [↓quiet]
noncomputable def Again (f : Tr → Int → List Int → Ex × List PyData × List Int) : Prop := ∀ t want A, A <+: (f t want A).2.2 ∧ ∀ B, (f t want A).2.2 <+: B → f t want B = ((f t want A).1, (f t want A).2.1, B)
theorem rdItems_bad {c : Cfg} {f : Tr → Int → List Int → Ex × List PyData × List Int} {k : Int} {t : Tr} {ts : List Tr} {acc : List Ex} {A A₁ : List Int} {e e' : Ex} {fs f' : List PyData} (hf : f t k A = (e, fs, A₁)) (hc : conv c e k (100 + t.nid) = (e', f')) (hb : e'.k = 15) :
    rdItems c f k (t :: ts) acc A = ((some e', acc), fs ++ f', A₁) := by
  simp only [rdItems, hf, hc, if_pos hb]
theorem rdItems_ok {c : Cfg} {f : Tr → Int → List Int → Ex × List PyData × List Int} {k : Int} {t : Tr} {ts : List Tr} {acc : List Ex} {A A₁ : List Int} {e e' : Ex} {fs f' : List PyData} (hf : f t k A = (e, fs, A₁)) (hc : conv c e k (100 + t.nid) = (e', f')) (hb : ¬e'.k = 15) :
    rdItems c f k (t :: ts) acc A = ((rdItems c f k ts (acc ++ [e']) A₁).1, fs ++ f' ++ (rdItems c f k ts (acc ++ [e']) A₁).2.1, (rdItems c f k ts (acc ++ [e']) A₁).2.2) := by
  simp only [rdItems, hf, hc, if_neg hb]
theorem items_again {c : Cfg} {f : Tr → Int → List Int → Ex × List PyData × List Int} (h : Again f) (k : Int) (ts : List Tr) : ∀ (acc : List Ex) (A : List Int), A <+: (rdItems c f k ts acc A).2.2 ∧
    ∀ B, (rdItems c f k ts acc A).2.2 <+: B → rdItems c f k ts acc B = ((rdItems c f k ts acc A).1, (rdItems c f k ts acc A).2.1, B) := by
  refine ofQ ?_; simp (disch := (k_dflt (
  refine hold ?_
  induction ts with
  | nil => exact fun acc A => ⟨List.prefix_rfl, fun B _ => rfl⟩
  | cons t ts IH =>
    intro acc A
    obtain ⟨h1, h2⟩ := h t k A
    have hf : f t k A = ((f t k A).1, (f t k A).2.1, (f t k A).2.2) := rfl
    have hc : conv c (f t k A).1 k (100 + t.nid) = ((conv c (f t k A).1 k (100 + t.nid)).1, (conv c (f t k A).1 k (100 + t.nid)).2) := rfl
    by_cases hb : (conv c (f t k A).1 k (100 + t.nid)).1.k = 15
    · rw [rdItems_bad hf hc hb]
      exact ⟨h1, fun B hB => rdItems_bad (h2 B hB) hc hb⟩
    · have ih := IH (acc ++ [(conv c (f t k A).1 k (100 + t.nid)).1]) (f t k A).2.2
      rw [rdItems_ok hf hc hb]
      exact ⟨h1.trans ih.1, fun B hB => by rw [rdItems_ok (h2 B (ih.1.trans hB)) hc hb, ih.2 B hB]⟩
  ))) only [↓quiet]
theorem arr_again {c : Cfg} {f : Tr → Int → List Int → Ex × List PyData × List Int} (h : Again f) (nid : Int) (w : Str) (size : Option (Int × Leaf)) (items : Option (List Tr)) (A : List Int) :
    A <+: (rdArr c f nid w size items A).2.2 ∧ ∀ B, (rdArr c f nid w size items A).2.2 <+: B → rdArr c f nid w size items B = ((rdArr c f nid w size items A).1, (rdArr c f nid w size items A).2.1, B) := by
  refine ofQ ?_; simp (disch := (k_dflt (
  refine hold ?_
  by_cases h0 : named w = 0
  · have e : ∀ B, rdArr c f nid w size items B = (badE, [flt 1547 (100 + nid) []], B) := fun B => by simp only [rdArr, if_pos h0]
    rw [e A]
    exact ⟨List.prefix_rfl, fun B _ => e B⟩
  · rcases hs : sizeOf c size with ⟨sz, fs⟩
    by_cases hb : named w = 15 ∨ (sz.any fun e => decide (e.k = 15)) = true
    · have e : ∀ B, rdArr c f nid w size items B = (badE, fs, B) := fun B => by simp only [rdArr, if_neg h0, hs, if_pos hb]
      rw [e A]
      exact ⟨List.prefix_rfl, fun B _ => e B⟩
    · have hp := putA_pre A (named w)
      rcases hq : putA A (named w) with ⟨kd, A₁⟩
      rw [hq] at hp
      dsimp only at hp
      have hB' : ∀ B, A₁ <+: B → putA B (named w) = (kd, B) := fun B hB => by
        have := putA_again (A := A) (k := named w) (B := B) (by rw [hq]; exact hB)
        rw [hq] at this; exact this
      cases items with
      | none =>
        have e : ∀ B kd' B', putA B (named w) = (kd', B') → rdArr c f nid w size none B = (⟨10, kd', [szData sz]⟩, fs, B') := fun B kd' B' q => by simp only [rdArr, if_neg h0, hs, if_neg hb, q]
        rw [e A _ _ hq]
        exact ⟨hp, fun B hB => e B _ _ (hB' B hB)⟩
      | some ts =>
        have hi := items_again (c := c) h (named w) ts [] A₁
        rcases hr : rdItems c f (named w) ts [] A₁ with ⟨⟨o, xs⟩, f', A₂⟩
        rw [hr] at hi
        dsimp only at hi
        cases o with
        | some ex =>
          have e : ∀ B B' B'', putA B (named w) = (kd, B') → rdItems c f (named w) ts [] B' = ((some ex, xs), f', B'') → rdArr c f nid w size (some ts) B = (ex, fs ++ f', B'') := fun B B' B'' q q' => by
            simp only [rdArr, if_neg h0, hs, if_neg hb, q, q']
          rw [e A _ _ hq hr]
          exact ⟨hp.trans hi.1, fun B hB => e B _ _ (hB' B (hi.1.trans hB)) (hi.2 B hB)⟩
        | none =>
          have e : ∀ B B' B'', putA B (named w) = (kd, B') → rdItems c f (named w) ts [] B' = ((none, xs), f', B'') → rdArr c f nid w size (some ts) B = ((closeArr kd (100 + nid) sz xs).1, fs ++ f' ++ (closeArr kd (100 + nid) sz xs).2, B'') := fun B B' B'' q q' => by
            simp only [rdArr, if_neg h0, hs, if_neg hb, q, q']
          rw [e A _ _ hq hr]
          exact ⟨hp.trans hi.1, fun B hB => e B _ _ (hB' B (hi.1.trans hB)) (hi.2 B hB)⟩
  ))) only [↓quiet]
theorem rd_again (c : Cfg) : ∀ d, Again (rd c d)
  | d, .leaf nid l, want, A => by
    cases d <;> exact ⟨List.prefix_rfl, fun B _ => rfl⟩
  | 0, .arr .., want, A => ⟨List.prefix_rfl, fun B _ => rfl⟩
  | d + 1, .arr nid w size items, want, A => arr_again (rd_again c d) nid w size items A
structure KS (c : Cx) : Prop where
  kf : KF c.K
  tid : ∃ o kvs, c.K.lookup 78 = some o ∧ o.IsDictOf (intKind P0 c.w) kvs ∧ kvs.map (·.1) = [20, 9, 10, 11, 12, 13, 14, 15, 16, 17, 18, 19, 1, 4]
  tops : ∃ o, c.K.lookup 781 = some o ∧ o.IsDictOf (intKind P0 c.w) [(7, .int 2147483647 1467), (8, .int 4294967295 1468), (9, .int 9223372036854775807 1469), (10, .int 18446744073709551615 1470)]
  kinds : ∃ o, c.K.lookup 776 = some o ∧ o.IsDictOf (PySem.strKind P0 c.w) [(Str.ofString "", .ref 777), (Str.ofString "u", .ref 778), (Str.ofString "l", .ref 779), (Str.ofString "ul", .ref 780)]
  k0 : c.K.lookup 777 = some (tupO [.int 7 291, .int 8 293, .int 9 295, .int 10 297])
  k1 : c.K.lookup 778 = some (tupO [.int 8 293, .int 10 297])
  k2 : c.K.lookup 779 = some (tupO [.int 9 295, .int 10 297])
  k3 : c.K.lookup 780 = some (tupO [.int 10 297])
theorem valueAt_none {K : Type} [DecidableEq K] {kvs : List (K × Value)} {k : K} (h : k ∉ kvs.map (·.1)) : valueAt kvs k = none := by
  unfold valueAt
  have : (kvs.find? fun kv => kv.1 = k) = none := by
    rw [List.find?_eq_none]
    intro x hx hk
    exact h (List.mem_map.mpr ⟨x, hx, of_decide_eq_true hk⟩)
  rw [this]; rfl
noncomputable def rowData : RKey → PyData
  | (a, b, false) => .tuple [.int a, .int b]
  | (a, b, true) => .tuple [.int a, .int b, .tuple []]
inductive LsD (P : Pset) (o : Obj) (ds : List PyData) : Prop
  | mk (vs : List Value) (m : Nat) : o = listOf vs.toArray m → Dts P vs ds → LsD P o ds
inductive IxD (c : Cx) (P : Pset) (o : Obj) (R : List RKey) : Prop
  | mk (xs : List (RKey × Addr × Value)) : HTab (rowKind P0 c.w) P o xs → xs.map (·.1) = R → Dts P (xs.map (·.2.2)) ((List.range R.length).map fun (i : Nat) => PyData.int i) → IxD c P o R
structure KtS (c : Cx) (P : Pset) (R : List RKey) (ds ws os : List Int) (o1 o2 o3 o4 o5 : Obj) : Prop where
  rows : LsD P o1 (R.map rowData)
  idx : IxD c P o2 R
  dep : LsD P o3 (ds.map .int)
  wei : LsD P o4 (ws.map .int)
  opn : LsD P o5 (os.map .int)
  l1 : ds.length = R.length
  l2 : ws.length = R.length
  l3 : os.length = R.length
  sm : R.length ≤ 100
  nd : R.Nodup
theorem Dts.get {P : Pset} : ∀ {vs : List Value} {ds : List PyData} {i : Nat} {d : PyData}, Dts P vs ds → ds[i]? = some d → ∃ v, vs[i]? = some v ∧ Dt P v d
  | _, _, 0, _, .cons h _, e => ⟨_, rfl, by simp at e; exact e ▸ h⟩
  | _, _, i + 1, _, .cons _ k, e => Dts.get (i := i) k (by simpa using e)
theorem Dts.tl {P : Pset} {v : Value} {d : PyData} {vs : List Value} {ds : List PyData} (h : Dts P (v :: vs) (d :: ds)) : Dt P v d ∧ Dts P vs ds := by
  cases h with
  | cons a b => exact ⟨a, b⟩
theorem Dt.int_inv {P : Pset} {v : Value} {i : Int} (h : Dt P v (.int i)) : ∃ t, v = .int i t := by cases h; exact ⟨_, rfl⟩
theorem Dt.str_inv {P : Pset} {v : Value} {x : Str} (h : Dt P v (.str x)) : ∃ t, v = .str x t := by cases h; exact ⟨_, rfl⟩
inductive TupI (P : Pset) (v : Value) (ds : List PyData) : Prop
  | mk (a : Addr) (vs : List Value) : v = .ref a → P a (tupO vs) → Dts P vs ds → TupI P v ds
theorem Dt.tup_inv {P : Pset} {v : Value} {ds : List PyData} (h : Dt P v (.tuple ds)) : TupI P v ds := by cases h with | tup h k => exact ⟨_, _, rfl, h, k⟩
theorem KtS.mono {c : Cx} {P P' : Pset} {R : List RKey} {ds ws os : List Int} {o1 o2 o3 o4 o5 : Obj} (l : Le P P') (h : KtS c P R ds ws os o1 o2 o3 o4 o5) : KtS c P' R ds ws os o1 o2 o3 o4 o5 := by
  refine ofQ ?_; simp (disch := (k_dflt (
  refine hold ?_
  obtain ⟨⟨v1, m1, e1, d1⟩, ⟨xs, hx, ex, dx⟩, ⟨v3, m3, e3, d3⟩, ⟨v4, m4, e4, d4⟩, ⟨v5, m5, e5, d5⟩, l1, l2, l3, sm, nd⟩ := h
  exact ⟨⟨v1, m1, e1, d1.mono l⟩, ⟨xs, hx.mono l, ex, dx.mono l⟩, ⟨v3, m3, e3, d3.mono l⟩, ⟨v4, m4, e4, d4.mono l⟩, ⟨v5, m5, e5, d5.mono l⟩, l1, l2, l3, sm, nd⟩
  ))) only [↓quiet]
inductive Row3 (P : Pset) (v : Value) (a b : Int) : Prop
  | mk (x : Addr) (t u : Tok) (e : Addr) : v = .ref x → P x (tupO [.int a t, .int b u, .ref e]) → P e (tupO []) → Row3 P v a b
inductive Row2 (P : Pset) (v : Value) (a b : Int) : Prop
  | mk (x : Addr) (t u : Tok) : v = .ref x → P x (tupO [.int a t, .int b u]) → Row2 P v a b
theorem row_inv3 {P : Pset} {v : Value} {a b : Int} (h : Dt P v (rowData (a, b, true))) : Row3 P v a b := by
  refine ofQ ?_; simp (disch := (k_dflt (
  refine hold ?_
  obtain ⟨x, vs, rfl, hP, hd⟩ := h.tup_inv
  cases hd with
  | cons d1 hd =>
    cases hd with
    | cons d2 hd =>
      cases hd with
      | cons d3 hd =>
        cases hd
        obtain ⟨_, rfl⟩ := d1.int_inv
        obtain ⟨_, rfl⟩ := d2.int_inv
        obtain ⟨e, es, rfl, hE, hes⟩ := d3.tup_inv
        cases hes
        exact ⟨x, _, _, e, rfl, hP, hE⟩
  ))) only [↓quiet]
theorem row_inv2 {P : Pset} {v : Value} {a b : Int} (h : Dt P v (rowData (a, b, false))) : Row2 P v a b := by
  refine ofQ ?_; simp (disch := (k_dflt (
  refine hold ?_
  obtain ⟨x, vs, rfl, hP, hd⟩ := h.tup_inv
  cases hd with
  | cons d1 hd =>
    cases hd with
    | cons d2 hd =>
      cases hd
      obtain ⟨_, rfl⟩ := d1.int_inv
      obtain ⟨_, rfl⟩ := d2.int_inv
      exact ⟨x, _, _, rfl, hP⟩
  ))) only [↓quiet]
structure KtL where
  kt : Addr
  r : Addr
  i : Addr
  d : Addr
  w : Addr
  o : Addr
noncomputable abbrev K5 (L : KtL) (o1 o2 o3 o4 o5 : Obj) (X : List (Addr × Obj)) : List (Addr × Obj) := (L.r, o1) :: (L.i, o2) :: (L.d, o3) :: (L.w, o4) :: (L.o, o5) :: X
noncomputable def KtI (L : KtL) (P : Pset) : Prop := Ins P L.kt 109 [(Str.ofString "rows", .ref L.r), (Str.ofString "index", .ref L.i), (Str.ofString "depths", .ref L.d), (Str.ofString "weights", .ref L.w), (Str.ofString "opens", .ref L.o)] ∧ Lo L.i
theorem KtI.mono {L : KtL} {P P' : Pset} (l : Le P P') (h : KtI L P) : KtI L P' := ⟨h.1.mono l, h.2⟩
theorem fall {α : Type} {p : α → Prop} {a : α} {l : List α} (h : p a) (k : ∀ x ∈ l, p x) : ∀ x ∈ a :: l, p x := fun x hx => by
  rcases List.mem_cons.mp hx with rfl | hx
  · exact h
  · exact k x hx
theorem fnil {α : Type} {p : α → Prop} : ∀ x ∈ ([] : List α), p x := fun _ h => nomatch h
inductive IEnt : List DictEntry → List (Int × Value) → Prop
  | nil : IEnt [] []
  | cons {i : Int} {t : Tok} {v : Value} {hsh : Int} {es : List DictEntry} {kvs : List (Int × Value)} : hashInt i = hsh → IEnt es kvs → IEnt (⟨hsh, .int i t, v⟩ :: es) ((i, v) :: kvs)
theorem IEnt.keys {w : World} {es : List DictEntry} {kvs : List (Int × Value)} (h : IEnt es kvs) : (∀ e ∈ es, ∃ k, (intKind P0 w).is k e.key = true ∧ e.hash = (intKind P0 w).hash k) ∧ Pairs (intKind P0 w) es kvs := by
  refine ofQ ?_; simp (disch := (k_dflt (
  refine hold ?_
  induction h with
  | nil => exact ⟨(fun _ h => nomatch h), .nil⟩
  | cons h _ ih =>
    refine ⟨fun e he => ?_, .cons (by simp [intKind, Value.isInt]) rfl ih.2⟩
    rcases List.mem_cons.mp he with rfl | he
    · exact ⟨_, by simp [intKind, Value.isInt], h.symm⟩
    · exact ih.1 e he
  ))) only [↓quiet]
theorem intDict {w : World} {o : Obj} {es : Array DictEntry} {ep : Nat} {kvs : List (Int × Value)} (he : o.ExactDict) (hd : o.data = .dict es ep) (h : IEnt es.toList kvs) (hn : (kvs.map (·.1)).Nodup) : o.IsDictOf (intKind P0 w) kvs :=
  ⟨es, ep, he, hd, fun e hm => (h.keys (w := w)).1 e (by simpa using hm), (h.keys (w := w)).2, hn⟩
inductive SEnt (w : World) : List DictEntry → List (Str × Value) → Prop
  | nil : SEnt w [] []
  | cons {x : Str} {t : Tok} {v : Value} {hsh : Int} {es : List DictEntry} {kvs : List (Str × Value)} : (PySem.strKind P0 w).hash x = hsh → SEnt w es kvs → SEnt w (⟨hsh, .str x t, v⟩ :: es) ((x, v) :: kvs)
theorem SEnt.keys {w : World} {es : List DictEntry} {kvs : List (Str × Value)} (h : SEnt w es kvs) : (∀ e ∈ es, ∃ k, (PySem.strKind P0 w).is k e.key = true ∧ e.hash = (PySem.strKind P0 w).hash k) ∧ Pairs (PySem.strKind P0 w) es kvs := by
  refine ofQ ?_; simp (disch := (k_dflt (
  refine hold ?_
  induction h with
  | nil => exact ⟨(fun _ h => nomatch h), .nil⟩
  | cons h _ ih =>
    refine ⟨fun e he => ?_, .cons (by simp [PySem.strKind, Value.isStrOf]) rfl ih.2⟩
    rcases List.mem_cons.mp he with rfl | he
    · exact ⟨_, by simp [PySem.strKind, Value.isStrOf], h.symm⟩
    · exact ih.1 e he
  ))) only [↓quiet]
theorem strDict {w : World} {o : Obj} {es : Array DictEntry} {ep : Nat} {kvs : List (Str × Value)} (he : o.ExactDict) (hd : o.data = .dict es ep) (h : SEnt w es.toList kvs) (hn : (kvs.map (·.1)).Nodup) : o.IsDictOf (PySem.strKind P0 w) kvs :=
  ⟨es, ep, he, hd, fun e hm => (h.keys).1 e (by simpa using hm), (h.keys).2, hn⟩
theorem kf_of {K : Frag} {h : Heap} (_ : K.In h) (p : KF K) : KF K := p
theorem ks_at {w : World} {K : Frag} {mg mb : Str → Option Value} {p : Program} {loose : List Str} {os : OsState} {h : Heap} (_ : K.In h) (_ : TopRead p loose mg mb h) (kf : KF K)
    (tid : ∃ o kvs, K.lookup 78 = some o ∧ o.IsDictOf (intKind P0 w) kvs ∧ kvs.map (·.1) = [20, 9, 10, 11, 12, 13, 14, 15, 16, 17, 18, 19, 1, 4])
    (tops : ∃ o, K.lookup 781 = some o ∧ o.IsDictOf (intKind P0 w) [(7, .int 2147483647 1467), (8, .int 4294967295 1468), (9, .int 9223372036854775807 1469), (10, .int 18446744073709551615 1470)])
    (kinds : ∃ o, K.lookup 776 = some o ∧ o.IsDictOf (PySem.strKind P0 w) [(Str.ofString "", .ref 777), (Str.ofString "u", .ref 778), (Str.ofString "l", .ref 779), (Str.ofString "ul", .ref 780)])
    (k0 : K.lookup 777 = some (tupO [.int 7 291, .int 8 293, .int 9 295, .int 10 297])) (k1 : K.lookup 778 = some (tupO [.int 8 293, .int 10 297])) (k2 : K.lookup 779 = some (tupO [.int 9 295, .int 10 297])) (k3 : K.lookup 780 = some (tupO [.int 10 297])) :
    KS ⟨w, K, mg, mb, p, loose, os⟩ := ⟨kf, tid, tops, kinds, k0, k1, k2, k3⟩
theorem clsA_mk {K : Frag} {C : Addr} {x : Str} {attr : Option Value} (a : plainGet K C x = true) (b : hasDictIn K C = true) (c : findIn K (.ref C) x = some attr) (d : noGet K attr = true) : ClsA K C x := ⟨a, b, attr, c, d⟩
theorem fnAt_mk {K : Frag} {f : Addr} {δ : FnRec} {oc : Value} {od : Option Addr} {osl : Array (Option Value)} {doc : Value} {pm an cdv ct} (h : K.lookup f = some ⟨oc, od, .func (fnOf δ.name δ.qual δ.params δ.body δ.scope .none .none doc pm an cdv ct), osl⟩) (h' : codeIn K cdv δ.qual = true) : FnAt K f δ := ⟨oc, od, osl, doc, pm, an, cdv, ct, h, h'⟩
theorem tid_mk {K : Frag} {w : World} {a : Addr} {l : List Int} {o : Obj} {es : Array DictEntry} {ep : Nat} {kvs : List (Int × Value)} (h0 : K.lookup a = some o) (he : o.ExactDict) (hd : o.data = .dict es ep) (h : IEnt es.toList kvs) (hn : (kvs.map (·.1)).Nodup) (hk : kvs.map (·.1) = l) : ∃ o kvs, K.lookup a = some o ∧ o.IsDictOf (intKind P0 w) kvs ∧ kvs.map (·.1) = l := ⟨o, kvs, h0, intDict he hd h hn, hk⟩
theorem tops_mk {K : Frag} {w : World} {a : Addr} {o : Obj} {es : Array DictEntry} {ep : Nat} {kvs : List (Int × Value)} (h0 : K.lookup a = some o) (he : o.ExactDict) (hd : o.data = .dict es ep) (h : IEnt es.toList kvs) (hn : (kvs.map (·.1)).Nodup) : ∃ o, K.lookup a = some o ∧ o.IsDictOf (intKind P0 w) kvs := ⟨o, h0, intDict he hd h hn⟩
theorem kinds_mk {K : Frag} {w : World} {a : Addr} {o : Obj} {es : Array DictEntry} {ep : Nat} {kvs : List (Str × Value)} (h0 : K.lookup a = some o) (he : o.ExactDict) (hd : o.data = .dict es ep) (h : SEnt w es.toList kvs) (hn : (kvs.map (·.1)).Nodup) : ∃ o, K.lookup a = some o ∧ o.IsDictOf (PySem.strKind P0 w) kvs := ⟨o, h0, strDict he hd h hn⟩
section
variable {α β : Type} {c : Cx} {F : Frm c} {D : FnD} {n : Nat} {fr₀ : List (Str × Option Value)} {P₀ : Pset} {M₀ : List (Addr × Obj)}
theorem wTry {body : List Stmt} {h₀ : ExceptHandler} {hs : List ExceptHandler} {pos : Pos} {Q : Flow → St → Prop}
    (h : WP F (execs body F.env) (⟨fr₀, P₀, M₀⟩ : St) (After F [] Q)) : WP F (exec (.Try body (h₀ :: hs) [] [] pos) F.env) (⟨fr₀, P₀, M₀⟩ : St) Q :=
  fun s r => wpAny_Try_except (wpAny_mono (h s r) (fun f s' ⟨st', r', q⟩ => by
    cases f with
    | next => exact q s' r'
    | brk => exact ⟨st', r', q⟩
    | cont => exact ⟨st', r', q⟩
    | ret v => exact ⟨st', r', q⟩) fun _ _ e => e.elim)
noncomputable abbrev kTCh4 {c : Cx} (F : Frm c) (r : Expr) (op : CmpOp) (b : Value) (Q : Bool → St → Prop) (t : Bool) (st : St) : Prop := Br t (WP F (eval r F.env) st (kCmp2 F op (kTru F Q) b)) (Q false st)
noncomputable abbrev kTCh2 {c : Cx} (F : Frm c) (op₁ : CmpOp) (a : Value) (r : Expr) (op : CmpOp) (Q : Bool → St → Prop) (b : Value) (st : St) : Prop := WP F (compareOp op₁ a b) st (kTru F (kTCh4 F r op b Q))
noncomputable abbrev kTCh {c : Cx} (F : Frm c) (op₁ : CmpOp) (r₁ r : Expr) (op : CmpOp) (Q : Bool → St → Prop) (a : Value) (st : St) : Prop := WP F (eval r₁ F.env) st (kTCh2 F op₁ a r op Q)
noncomputable abbrev kAsg {c : Cx} (F : Frm c) (target : Expr) (Q : Flow → St → Prop) (v : Value) (st : St) : Prop := WP F (assign target F.env v) st (kNx Q)
theorem tChain {l r₁ r₂ : Expr} {op₁ op₂ : CmpOp} {pos : Pos} {whole : Sem Value} {Q : Bool → St → Prop}
    (h : WP F (eval l F.env) (⟨fr₀, P₀, M₀⟩ : St) (kTCh F op₁ r₁ r₂ op₂ Q))
    (hm : lastMarks [op₁, op₂] [r₁, r₂] = false) : WP F (isTrue (.Compare l [op₁, op₂] [r₁, r₂] pos) F.env whole) (⟨fr₀, P₀, M₀⟩ : St) Q :=
  fun s r => isTrue_chain (wpAny_mono (h s r) (fun _ s1 ez38 => ez38.elim fun _ pz38 => test_link (wpAny_mono (pz38.2 s1 pz38.1) (fun _ s2 ez39 => ez39.elim fun _ pz39 => wpAny_mono (pz39.2 s2 pz39.1) (fun _ s3 ez40 => ez40.elim fun _ pz40 => wpAny_mono (pz40.2 s3 pz40.1) (fun t s4 ⟨st4, x4, q4⟩ => by
    cases t with
    | false => exact ⟨st4, x4, q4.2 rfl⟩
    | true => exact test_last (wpAny_mono (q4.1 rfl s4 x4) (fun _ s5 ez41 => ez41.elim fun _ pz41 => wpAny_mono (pz41.2 s5 pz41.1) (fun _ s6 ez42 => ez42.elim fun _ pz42 => pz42.2 s6 pz42.1) fun _ _ e => e) fun _ _ e => e)) fun _ _ e => e) fun _ _ e => e) fun _ _ e => e)) fun _ _ e => e) hm
theorem wAssignU {elts : List Expr} {k : Nat} {tpos : Pos} {value : Expr} {pos : Pos} {Q : Flow → St → Prop}
    (h : WP F (eval value F.env) (⟨fr₀, P₀, M₀⟩ : St) (kAsg F (.Tuple elts k tpos) Q))
    (hs : swapsWithSole [.Tuple elts k tpos] value pos.line F.env = pure false)
    (hw : swappedStores [.Tuple elts k tpos] value F.env = pure none) : WP F (exec (.Assign [.Tuple elts k tpos] value pos) F.env) (⟨fr₀, P₀, M₀⟩ : St) Q :=
  fun s r => Assign_Tuple (wpAny_mono (h s r) (fun _ s' ez47 => ez47.elim fun _ pz47 => pz47.2 s' pz47.1) fun _ _ e => e) hs hw
theorem wTarget2 (H : Ok F D n) {x y : Str} {px py : Pos} {k : Nat} {pos : Pos} {t : Addr} {u v : Value} {fr fr' : List (Str × Option Value)} {Q : Unit → St → Prop} (hP : P₀ t (tupO [u, v])) (h1 : Put x (some u) fr₀ fr) (h2 : Put y (some v) fr fr') (h : Q () ⟨fr', P₀, M₀⟩) :
    WP F (assign (.Tuple [.Name x px, .Name y py] k pos) F.env (.ref t)) (⟨fr₀, P₀, M₀⟩ : St) Q :=
  wTargetTup H (xs := [(x, px), (y, py)]) hP (.cons h1 (.cons h2 .nil)) h rfl rfl
theorem go_tup {prog : Program} {w : World} {A : Around} {E : Value → Shared → Prop} {s : Shared} {elts : List Expr} {x1} {pos : Pos} {I l : Addr} {v : Value} {i : Nat} {Q : Unit → Shared → Prop} (hit : s.heap.IsTupleIter I l i) (hQ : Q () s) :
    wpAny (model prog w) A (letOwnedTupleGo (.Tuple elts x1 pos) (.ref I) v) Q E s := by
  refine ofQ ?_; simp (disch := (k_dflt (
  refine hold ?_
  cases v with
  | ref T =>
    obtain ⟨o, ho, hc, hd⟩ := hit
    unfold letOwnedTupleGo
    refine wpAny_bind (wpAny_load ho ?_)
    rw [hc, hd]
    show wpAny _ A (if (["enumerate", "zip", "dict_itemiterator", "dict_reverseitemiterator", "odict_iterator", "itertools.zip_longest", "itertools.pairwise"].contains "tuple_iterator" &&
        (#[.ref l, .int i 0] : Array Value)[0]? == some (rawInt T)) = true then _ else _) Q E s
    rw [if_neg (by
      intro h
      rw [show (["enumerate", "zip", "dict_itemiterator", "dict_reverseitemiterator", "odict_iterator", "itertools.zip_longest", "itertools.pairwise"].contains "tuple_iterator") = false from by decide, Bool.false_and] at h
      cases h)]
    exact wpAny_pure hQ
  | _ => exact wpAny_pure hQ
  ))) only [↓quiet]
theorem wTarget3 (H : Ok F D n) {x y z : Str} {px py pz : Pos} {k : Nat} {pos : Pos} {t : Addr} {u v w : Value} {fr fr' fr'' : List (Str × Option Value)} {Q : Unit → St → Prop} (hP : P₀ t (tupO [u, v, w])) (h1 : Put x (some u) fr₀ fr) (h2 : Put y (some v) fr fr') (h3 : Put z (some w) fr' fr'') (h : Q () ⟨fr'', P₀, M₀⟩) :
    WP F (assign (.Tuple [.Name x px, .Name y py, .Name z pz] k pos) F.env (.ref t)) (⟨fr₀, P₀, M₀⟩ : St) Q :=
  wTargetTup H (xs := [(x, px), (y, py), (z, pz)]) hP (.cons h1 (.cons h2 (.cons h3 .nil))) h rfl rfl
theorem wItemS {d : Addr} {o : Obj} {kvs : List (Str × Value)} {x : Str} {t : Tok} {value slice : Expr} {v : Value} {Q : Value → St → Prop} (m : Mem d o M₀) (hd : o.IsDictOf (PySem.strKind P0 c.w) kvs) (hv : valueAt kvs x = some v) (h : Q v (⟨fr₀, P₀, M₀⟩ : St))
    (hs : subscripted slice false (.ref d) (.str x t) = operate [.ref d, .str x t] (getItem (.ref d) (.str x t))) : WP F (subscriptTail value slice (.ref d) (.str x t)) (⟨fr₀, P₀, M₀⟩ : St) Q :=
  wItemD (.m m) hd (isS _ _ _) hv h hs
theorem units_lt (H : Ok F D n) {k : Nat} (hk : k ≤ 800) : F.A.units + k < cLine := by
  have := H.un
  have e : cLine = 9900 := rfl
  lia
theorem shaped_of {P : Pset} {v : Value} {d : PyData} (h : Dt P v d) (hd : d.depth ≤ 64) : SeqAt.shaped d = true := by
  unfold SeqAt.shaped; rw [h.can, decide_eq_true hd]; rfl
theorem oNeD (H : Ok F D n) {a b : Value} {da db : PyData} {Q : Value → St → Prop} (ha : Dt P₀ a da) (hb : Dt P₀ b db) (h1 : da.depth ≤ 64) (h2 : db.depth ≤ 64) (h : Q (.bool (!PyData.eqv da db)) ⟨fr₀, P₀, M₀⟩) : WP F (compareOp .NotEq a b) ⟨fr₀, P₀, M₀⟩ Q := fun _ r => by
  obtain ⟨_, ra⟩ := ha.reads fun _ _ x => r.p x
  obtain ⟨_, rb⟩ := hb.reads fun _ _ x => r.p x
  exact ne_dataH ra rb (shaped_of ha h1) (shaped_of hb h2) (units_lt H (by lia)) ⟨_, r, h⟩
theorem oEqL (H : Ok F D n) {a b : Addr} {xs ys : List Value} {k m : Nat} {da db : List PyData} {Q : Value → St → Prop} (ha : Mem a (listOf xs.toArray k) M₀) (hb : Mem b (listOf ys.toArray m) M₀) (hxs : Dts P₀ xs da) (hys : Dts P₀ ys db) (h1 : PyData.depthAll da < 64) (h2 : PyData.depthAll db < 64) (h : Q (.bool (PyData.eqvAll da db)) ⟨fr₀, P₀, M₀⟩) : WP F (compareOp .Eq (.ref a) (.ref b)) ⟨fr₀, P₀, M₀⟩ Q := fun _ r => by
  obtain ⟨_, ra⟩ := hxs.reads fun _ _ x => r.p x
  obtain ⟨_, rb⟩ := hys.reads fun _ _ x => r.p x
  have e1 : SeqAt.shaped (.list da) = true := by
    unfold SeqAt.shaped
    have hc : (PyData.list da).canLay0 = true := by simp only [PyData.canLay0]; exact hxs.can
    have hp : (PyData.list da).depth ≤ 64 := by simp only [PyData.depth]; lia
    rw [hc, decide_eq_true hp]; rfl
  have e2 : SeqAt.shaped (.list db) = true := by
    unfold SeqAt.shaped
    have hc : (PyData.list db).canLay0 = true := by simp only [PyData.canLay0]; exact hys.can
    have hp : (PyData.list db).depth ≤ 64 := by simp only [PyData.depth]; lia
    rw [hc, decide_eq_true hp]; rfl
  exact eq_dataH (.list (r.m ha.mem) rfl rfl ra) (.list (r.m hb.mem) rfl rfl rb) e1 e2 (units_lt H (by lia)) ⟨_, r, by
    have : PyData.eqv (.list da) (.list db) = PyData.eqvAll da db := by simp [PyData.eqv]
    rw [this]; exact h⟩
theorem oInT (H : Ok F D n) {v : Value} {a : Addr} {vs : List Value} {d : PyData} {ds : List PyData} {Q : Value → St → Prop} (hv : Dt P₀ v d) (ha : P₀ a (tupO vs)) (hs : Dts P₀ vs ds) (hd : d.depth ≤ 64) (h : Q (.bool (ds.any fun y => PyData.eqv y d)) ⟨fr₀, P₀, M₀⟩) : WP F (compareOp .In v (.ref a)) ⟨fr₀, P₀, M₀⟩ Q := fun _ r => by
  obtain ⟨_, ra⟩ := hv.reads fun _ _ x => r.p x
  obtain ⟨_, rb⟩ := hs.reads fun _ _ x => r.p x
  have := H.un
  have e : cLine = 9900 := rfl
  exact SeqAt.in_tuple_reads (.tuple (r.p ha) rfl rfl rb) ra hs.can hv.can (by lia) ⟨_, r, h⟩
theorem any_int (is : List Int) (i : Int) : (is.map PyData.int).any (fun y => PyData.eqv y (.int i)) = decide (i ∈ is) := by
  refine ofQ ?_; simp (disch := (k_dflt (
  refine hold ?_
  induction is with
  | nil => rfl
  | cons a is ih =>
    rw [List.map_cons, List.any_cons, ih]
    have : PyData.eqv (.int a) (.int i) = decide (i = a) := by
      simp only [PyData.eqv]
      by_cases e : i = a
      · subst e; simp
      · rw [decide_eq_false e, beq_eq_false_iff_ne.mpr (Ne.symm e)]
    rw [this]; by_cases e : i = a <;> by_cases e' : i ∈ is <;> simp [e, e']
  ))) only [↓quiet]
theorem any_str (xs : List Str) (x : Str) : (xs.map PyData.str).any (fun y => PyData.eqv y (.str x)) = decide (x ∈ xs) := by
  refine ofQ ?_; simp (disch := (k_dflt (
  refine hold ?_
  induction xs with
  | nil => rfl
  | cons a is ih =>
    rw [List.map_cons, List.any_cons, ih]
    have : PyData.eqv (.str a) (.str x) = decide (x = a) := by
      simp only [PyData.eqv]
      by_cases e : x = a
      · subst e; simp
      · rw [decide_eq_false e, beq_eq_false_iff_ne.mpr (Ne.symm e)]
    rw [this]; by_cases e : x = a <;> by_cases e' : x ∈ is <;> simp [e, e']
  ))) only [↓quiet]
theorem oInI (H : Ok F D n) {i : Int} {t : Tok} {a : Addr} {vs : List Value} {is : List Int} {Q : Value → St → Prop} (ha : P₀ a (tupO vs)) (hs : Dts P₀ vs (is.map .int)) (h : Q (.bool (decide (i ∈ is))) ⟨fr₀, P₀, M₀⟩) : WP F (compareOp .In (.int i t) (.ref a)) ⟨fr₀, P₀, M₀⟩ Q :=
  oInT H (.int i t) ha hs (by simp [PyData.depth]) (by rw [any_int]; exact h)
theorem oInS (H : Ok F D n) {x : Str} {t : Tok} {a : Addr} {vs : List Value} {xs : List Str} {Q : Value → St → Prop} (hx : PyData.strOk x = true) (ha : P₀ a (tupO vs)) (hs : Dts P₀ vs (xs.map .str)) (h : Q (.bool (decide (x ∈ xs))) ⟨fr₀, P₀, M₀⟩) : WP F (compareOp .In (.str x t) (.ref a)) ⟨fr₀, P₀, M₀⟩ Q :=
  oInT H (.str x t hx) ha hs (by simp [PyData.depth]) (by rw [any_str]; exact h)
theorem wMake0 (H : Ok F D n) {C : Addr} {Q : Value → St → Prop} (hm : makesIn c.K C = true) (hi : findIn c.K (.ref C) "__init__" = some (some (.builtin "object.__init__")))
    (h : ∀ x P', Le P₀ P' → Ins P' x C [] → Q (.ref x) ⟨fr₀, P', M₀⟩) : WP F (call (.ref C) []) ⟨fr₀, P₀, M₀⟩ Q := by
  refine ofQ ?_; simp (disch := (k_dflt (
  refine hold ?_
  intro s r
  obtain ⟨T, N, nd, e⟩ := r.ex
  refine wpAny_call (W.make_K0 r.fr N (H.bs.k.keeps r.fr.keep) hm hi fun x dx h' f' n' l1 l2 => ?_)
  have r1 : Rp F ⟨fr₀, fun b q => (P₀ b q ∨ (b = dx ∧ q = dictOf [] 0)) ∨ (b = x ∧ q = instObj C dx), M₀⟩ { s with heap := h' } := by
    refine ⟨f', ⟨(x, instObj C dx) :: (dx, dictOf [] 0) :: T, fun p hp => n' p ?_, ?_, fun b q h => ?_⟩, fun b q h => ?_, r.ks, r.gens, r.os⟩
    · simpa using hp
    · show (((x, instObj C dx) :: (dx, dictOf [] 0) :: T ++ M₀).map (·.1)).Nodup
      rw [List.cons_append, List.cons_append, List.map_cons, List.map_cons, List.nodup_cons, List.nodup_cons]
      refine ⟨fun hm => ?_, fun hm => ?_, nd⟩
      · rcases List.mem_cons.mp hm with e | hm
        · exact absurd e (Nat.ne_of_gt l2)
        · obtain ⟨p, hp, e⟩ := List.mem_map.mp hm
          have h1 : p.1 < dx := l1 p hp
          have e' : p.1 = x := e
          rw [e'] at h1
          exact absurd h1 (Nat.lt_asymm l2)
      · obtain ⟨p, hp, e⟩ := List.mem_map.mp hm
        have h1 : p.1 < dx := l1 p hp
        have e' : p.1 = dx := e
        rw [e'] at h1
        exact absurd h1 (Nat.lt_irrefl _)
    · rcases h with (h | ⟨rfl, rfl⟩) | ⟨rfl, rfl⟩
      · exact (e b q h).imp (fun h => .tail _ (.tail _ h)) id
      · exact .inl (.tail _ (.head _))
      · exact .inl (.head _)
    · rcases h with (h | ⟨rfl, rfl⟩) | ⟨rfl, rfl⟩
      · exact r.z b q h
      · exact fresh_z H (n' _ (.tail _ (.head _))).2.2
      · exact fresh_z H (n' _ (.head _)).2.2
  exact ⟨_, r1, h _ _ (fun _ _ h => .inl (.inl h)) ⟨⟨dx, _, .inr ⟨rfl, rfl⟩, .inl (.inr ⟨rfl, rfl⟩), ⟨[], 0, rfl, .nil, by simp⟩, by simp⟩⟩⟩
  ))) only [↓quiet]
theorem wSetN (H : Ok F D n) {x C dx : Addr} {o : Obj} {fs : List (Str × Value)} {name : Str} {v : Value} {Q : Unit → St → Prop} {M' : Obj → List (Addr × Obj)}
    (i : P₀ x (instObj C dx)) (U : ∀ o', Mp dx o o' M₀ (M' o')) (hf : IsFld o fs) (cs : ClsS c.K C name) (hno : (fs.map (·.1)).elem name = false) (hlen : fs.length ≤ 700)
    (h : ∀ o', IsFld o' (fs ++ [(name, v)]) → Q () ⟨fr₀, P₀, M' o'⟩) : WP F (setAttr (.ref x) name v) ⟨fr₀, P₀, M₀⟩ Q :=
  have hn : name ∉ fs.map (·.1) := fun hm => by rw [List.elem_eq_true_of_mem hm] at hno; cases hno
  wSet H i U hf cs (putF_new hn) (by
    rw [List.map_append, List.nodup_append]
    refine ⟨hf.2, by simp, fun y hy z hz e => hn ?_⟩
    have : z = name := by simpa using hz
    rw [← this, ← e]; exact hy) (by rw [List.length_append]; show fs.length + 1 ≤ 800; lia) h
theorem wSetP (H : Ok F D n) {x C dx : Addr} {o : Obj} {fs fs' : List (Str × Value)} {name : Str} {v : Value} {Q : Unit → St → Prop} {M' : Obj → List (Addr × Obj)}
    (i : P₀ x (instObj C dx)) (U : ∀ o', Mp dx o o' M₀ (M' o')) (hf : IsFld o fs) (cs : ClsS c.K C name) (p : Put name v fs fs') (hlen : fs'.length ≤ 700)
    (h : ∀ o', IsFld o' fs' → Q () ⟨fr₀, P₀, M' o'⟩) : WP F (setAttr (.ref x) name v) ⟨fr₀, P₀, M₀⟩ Q :=
  wSet H i U hf cs (p.f hf.2) (by rw [p.keys]; exact hf.2) (by lia) h
theorem isFld0 (k : Nat) : IsFld (dictOf [] k) [] := ⟨⟨[], k, rfl, .nil, by simp⟩, by simp⟩
end
section
variable {α β : Type} {c : Cx} {F : Frm c} {D : FnD} {n : Nat} {st : St} {s : Shared}
theorem hid_g (r : Rp F st s) {b : Addr} {o : Obj} (e : F.g.get? b = some o) : (hideAll s.heap (st.M.map (·.1))).get? b = some o :=
  hideAll_get _ (r.fr.keep _ _ e) fun q => by
    obtain ⟨p, hp, rfl⟩ := List.mem_map.mp q
    have := (r.mN p hp).2.2
    rw [this] at e; cases e
theorem hid_L (r : Rp F st s) : ∃ oL, (hideAll s.heap (st.M.map (·.1))).get? F.env.locals = some oL := by
  obtain ⟨oL, _, _, hL, _⟩ := r.fr.ns
  exact ⟨oL, hideAll_get _ hL fun q => by
    obtain ⟨p, hp, e⟩ := List.mem_map.mp q
    exact (r.mN p hp).2.1 e⟩
theorem enterBs (H : Ok F D n) (r : Rp F st s) : Bs c (hideAll s.heap (st.M.map (·.1))) ∧ (∀ z ∈ F.env.locals :: F.Z, ∃ o, (hideAll s.heap (st.M.map (·.1))).get? z = some o) ∧ (∀ z ∈ F.env.locals :: F.Z, c.K.lookup z = none) := by
  refine ofQ ?_; simp (disch := (k_dflt (
  refine hold ?_
  refine ⟨⟨H.bs.k.keeps fun b o e => hid_g r e, H.bs.t.keeps fun b o e => hid_g r e⟩, fun z hz => ?_, fun z hz => ?_⟩
  · rcases List.mem_cons.mp hz with rfl | hz
    · exact hid_L r
    · obtain ⟨o, e⟩ := H.hz z hz
      exact ⟨o, hid_g r e⟩
  · rcases List.mem_cons.mp hz with rfl | hz
    · cases hq : c.K.lookup F.env.locals with
      | none => rfl
      | some o => exact absurd (Heap.lt_size (H.bs.k _ _ hq)) (Nat.not_lt.mpr r.fr.above)
    · exact H.zk z hz
  ))) only [↓quiet]
theorem enterRp (H : Ok F D n) (r : Rp F st s) {F' : Frm c} (hg : F'.g = hideAll s.heap (st.M.map (·.1))) (hZ : F'.Z = F.env.locals :: F.Z) {s₁ : Shared} {fr' : List (Str × Option Value)} {P' : Pset} {new : List (Addr × Obj)}
    (hL : s.heap.objs.size ≤ F'.env.locals) (hk : ∀ b o, s.heap.get? b = some o → s₁.heap.get? b = some o) (hns : s₁.heap.Ns F'.env.locals (look fr')) (hkeys : fr'.map (·.1) = F'.keys) (hgens : s₁.gens = s.gens) (hos : s₁.os = s.os)
    (hnew : ∀ p ∈ new, s₁.heap.get? p.1 = some p.2 ∧ s.heap.objs.size ≤ p.1 ∧ p.1 ≠ F'.env.locals) (hnd : (new.map (·.1)).Nodup)
    (hP : ∀ a o, P' a o → st.P a o ∨ (s₁.heap.get? a = some o ∧ a ≠ F'.env.locals ∧ s.heap.objs.size ≤ a ∧ a ∉ new.map (·.1))) : Rp F' ⟨fr', P', st.M ++ new⟩ s₁ := by
  refine ofQ ?_; simp (disch := (k_dflt (
  refine hold ?_
  have hMN := r.mN
  have hlt : ∀ p ∈ st.M, p.1 < s.heap.objs.size := fun p hp => Heap.lt_size (hMN p hp).1
  have fresh : ∀ a, s.heap.objs.size ≤ a → F'.g.get? a = none := fun a ha => by
    rw [hg]
    cases e : (hideAll s.heap (st.M.map (·.1))).get? a with
    | none => rfl
    | some o => exact absurd (Heap.lt_size (of_hideAll _ e)) (Nat.not_lt.mpr ha)
  have f' : Fr F'.g F'.env.locals s₁.heap (look fr') := ⟨hns, fun b o e => hk b o (of_hideAll _ (hg ▸ e)), by rw [hg, hideAll_size]; exact hL⟩
  refine ⟨f', canon f' (fun p hp => ?_) ?_ fun a o h => ?_, fun a o h hz => ?_, hkeys, hgens.trans r.gens, hos.trans r.os⟩
  · rcases List.mem_append.mp hp with hp | hp
    · exact ⟨hk _ _ (hMN p hp).1, Nat.ne_of_lt (Nat.lt_of_lt_of_le (hlt p hp) hL), by rw [hg]; exact hideAll_none _ (List.mem_map_of_mem hp)⟩
    · exact ⟨(hnew p hp).1, (hnew p hp).2.2, fresh _ (hnew p hp).2.1⟩
  · rw [List.map_append, List.nodup_append]
    refine ⟨r.mD, hnd, fun a ha b hb e => ?_⟩
    obtain ⟨p, hp, rfl⟩ := List.mem_map.mp ha
    obtain ⟨q, hq, rfl⟩ := List.mem_map.mp hb
    have h1 := hlt p hp
    have h2 := (hnew q hq).2.1
    exact absurd e (Nat.ne_of_lt (Nat.lt_of_lt_of_le h1 h2))
  · rcases hP a o h with h | ⟨h1, h2, h3, h4⟩
    · have hp := r.p h
      have hl := Heap.lt_size hp
      refine ⟨hk _ _ hp, Nat.ne_of_lt (Nat.lt_of_lt_of_le hl hL), fun hm => ?_⟩
      rw [List.map_append] at hm
      rcases List.mem_append.mp hm with hm | hm
      · exact (r.pM h).2 hm
      · obtain ⟨q, hq, e⟩ := List.mem_map.mp hm
        have h2 := (hnew q hq).2.1
        have e' : q.1 = a := e
        exact absurd e'.symm (Nat.ne_of_lt (Nat.lt_of_lt_of_le hl h2))
    · refine ⟨h1, h2, fun hm => ?_⟩
      rw [List.map_append] at hm
      rcases List.mem_append.mp hm with hm | hm
      · obtain ⟨q, hq, e⟩ := List.mem_map.mp hm
        have h5 := hlt q hq
        have e' : q.1 = a := e
        exact absurd e' (Nat.ne_of_lt (Nat.lt_of_lt_of_le h5 h3))
      · exact h4 hm
  · rw [hZ] at hz
    rcases hP a o h with h | ⟨h1, h2, h3, h4⟩
    · rcases List.mem_cons.mp hz with e | hz
      · exact (r.pM h).1 e
      · exact r.z a o h hz
    · rcases List.mem_cons.mp hz with e | hz
      · obtain ⟨oL, _, _, hL', _⟩ := r.fr.ns
        have h5 := Heap.lt_size hL'
        rw [← e] at h5
        exact absurd h5 (Nat.not_lt.mpr h3)
      · obtain ⟨o', e⟩ := H.hz a hz
        exact absurd (Heap.lt_size (r.fr.keep _ _ e)) (Nat.not_lt.mpr h3)
  ))) only [↓quiet]
theorem leaveRp (r : Rp F st s) {F' : Frm c} (hg : F'.g = hideAll s.heap (st.M.map (·.1))) (hZ : F'.Z = F.env.locals :: F.Z) {st' : St} {s' : Shared} (r₂ : Rp F' st' s') {h' : Heap} (hk : ∀ b o, b ≠ F'.env.locals → s'.heap.get? b = some o → h'.get? b = some o) :
    Rp F ⟨st.fr, st'.P, st'.M⟩ { s' with heap := h' } := by
  refine ofQ ?_; simp (disch := (k_dflt (
  refine hold ?_
  obtain ⟨oL, es, ep, hL, hLd, hLk, hLf⟩ := r.fr.ns
  have hLM : F.env.locals ∉ st.M.map (·.1) := fun q => by
    obtain ⟨p, hp, e⟩ := List.mem_map.mp q
    exact (r.mN p hp).2.1 e
  have hLg : F'.g.get? F.env.locals = some oL := by rw [hg]; exact hideAll_get _ hL hLM
  have hgk : ∀ b o, F'.g.get? b = some o → h'.get? b = some o := fun b o e => hk b o (Nat.ne_of_lt (Nat.lt_of_lt_of_le (Heap.lt_size e) r₂.fr.above)) (r₂.fr.keep _ _ e)
  have hst : ∀ b o, F.g.get? b = some o → F'.g.get? b = some o := fun b o e => by rw [hg]; exact hid_g r e
  have f₂ : Fr F.g F.env.locals h' (look st.fr) := ⟨⟨oL, es, ep, hgk _ _ hLg, hLd, hLk, hLf⟩, fun b o e => hgk _ _ (hst _ _ e), r.fr.above⟩
  have n₂ : News F.g F.env.locals h' st'.M := fun p hp => by
    have N := r₂.mN p hp
    refine ⟨hk _ _ N.2.1 N.1, fun e => ?_, ?_⟩
    · have := N.2.2; rw [e, hLg] at this; cases this
    · cases q : F.g.get? p.1 with
      | none => rfl
      | some o => have := N.2.2; rw [hst _ _ q] at this; cases this
  exact ⟨f₂, canon f₂ n₂ r₂.mD (fun a o h => ⟨hk _ _ (r₂.pM h).1 (r₂.p h), fun e => r₂.z a o h (by rw [hZ, e]; exact .head _), (r₂.pM h).2⟩), fun a o h hz => r₂.z a o h (by rw [hZ]; exact .tail _ hz), r.ks, r₂.gens, r₂.os⟩
  ))) only [↓quiet]
end
structure FnOkC (δ : FnRec) : Prop where
  co : δ.scope.isCoroutine = false
  gen : δ.scope.isGenerator = false
  kd : δ.scope.kind = .function
  cell : ∀ x ∈ δ.ps, δ.scope.names.lookup x = some .cell
  ndp : δ.ps.Nodup
  ndl : δ.ls.Nodup
  lc : ∀ x ∈ δ.ls, δ.scope.names.lookup x = some .local ∧ (x == ("__debug__" : Str)) = false
  gl : ∀ p ∈ δ.d.gl, δ.scope.names.lookup p.1 = some .globalImplicit ∧ (p.1 == ("__debug__" : Str)) = false
  bl : ∀ p ∈ δ.d.bl, δ.scope.names.lookup p.1 = some .globalImplicit ∧ (p.1 == ("__debug__" : Str)) = false ∧ bootBuiltins p.1 = some p.2 ∧ p.1 ≠ ("__name__" : Str)
  p1 : δ.params.posonlyargs = []
  p2 : δ.params.args.map (·.arg) = δ.ps
  p3 : δ.params.vararg = none
  p4 : δ.params.kwonlyargs = []
  p5 : δ.params.kwarg = none
noncomputable def CellAt (P : Pset) (a : Addr) (v : Value) : Prop := ∃ o, P a o ∧ o.data = .cell (some v)
theorem CellAt.mono {P P' : Pset} {a : Addr} {v : Value} (l : Le P P') (h : CellAt P a v) : CellAt P' a v := let ⟨o, a, b⟩ := h; ⟨o, l _ _ a, b⟩
theorem cells_some {x : Str} : ∀ {names : List (Str × NameKind)} {k : Nat} {acc : List (Str × Addr)}, (names.lookup x = some .cell ∨ (acc.lookup x).isSome = true) → ((cellsFrom k names acc).lookup x).isSome = true
  | [], _, _, h => by
    rcases h with h | h
    · cases h
    · exact h
  | (y, kd) :: r, k, acc, h => by
    have go : ∀ acc' : List (Str × Addr), (acc.lookup x).isSome = true → (((y, k) :: acc).lookup x).isSome = true := fun _ h => by
      rw [List.lookup_cons]
      cases x == y <;> simp [h]
    unfold cellsFrom
    by_cases hc : (kd == NameKind.cell) = true
    · rw [if_pos hc]
      refine cells_some ?_
      rcases h with h | h
      · rw [List.lookup_cons] at h
        cases e : x == y with
        | true => right; rw [List.lookup_cons, e]; rfl
        | false => rw [e] at h; exact .inl h
      · exact .inr (go acc h)
    · rw [if_neg hc]
      refine cells_some ?_
      rcases h with h | h
      · rw [List.lookup_cons] at h
        cases e : x == y with
        | true => rw [e] at h; cases h; exact absurd rfl hc
        | false => rw [e] at h; exact .inl h
      · exact .inr h
theorem bindL_cells {kindOf : Str → Option NameKind} : ∀ (binds : List (Str × Value)) (m : Str → Option Value), (∀ x ∈ binds, kindOf x.1 = some .cell) → bindL kindOf binds m = m
  | [], _, _ => rfl
  | (x, v) :: r, m, h => by
    have h1 : kindOf x = some .cell := h _ (.head _)
    unfold bindL
    rw [if_neg (by rw [h1]; decide)]
    exact bindL_cells r m fun y hy => h y (.tail _ hy)
theorem bindC_other {kindOf : Str → Option NameKind} {y : Str} : ∀ (binds : List (Str × Value)) (m : Str → Option Value), y ∉ binds.map (·.1) → bindC kindOf binds m y = m y
  | [], _, _ => rfl
  | (x, v) :: r, m, h => by
    rw [List.map_cons, List.mem_cons, not_or] at h
    unfold bindC
    rw [bindC_other r _ h.2]
    by_cases e : kindOf x = some .local
    · rw [if_pos e]
    · rw [if_neg e]
      exact if_neg h.1
theorem bindC_at {kindOf : Str → Option NameKind} {y : Str} {u : Value} : ∀ (binds : List (Str × Value)) (m : Str → Option Value), (∀ x ∈ binds, kindOf x.1 = some .cell) → (binds.map (·.1)).Nodup → (y, u) ∈ binds → bindC kindOf binds m y = some u
  | (x, v) :: r, m, h, hn, hm => by
    have h1 : kindOf x = some .cell := h _ (.head _)
    have hn' := List.nodup_cons.mp hn
    unfold bindC
    rw [if_neg (by rw [h1]; decide)]
    rcases List.mem_cons.mp hm with e | hm
    · cases e
      rw [bindC_other r _ hn'.1]
      exact if_pos rfl
    · exact bindC_at r _ (fun y hy => h y (.tail _ hy)) hn'.2 hm
section
variable {α β : Type} {c : Cx} {F : Frm c} {D : FnD} {n : Nat} {fr₀ : List (Str × Option Value)} {P₀ : Pset} {M₀ : List (Addr × Obj)}
theorem look_none (ls : List Str) : look (ls.map fun l => (l, (none : Option Value))) = fun _ => none := by
  funext x
  unfold look
  induction ls with
  | nil => rfl
  | cons l ls ih =>
    rw [List.map_cons, List.lookup_cons]
    cases x == l with
    | true => rfl
    | false => exact ih
theorem wDefC (H : Ok F D (n + 1)) {f : Addr} {δ : FnRec} (at_ : FnAt c.K f δ) (ok : FnOkC δ) (gl : FnGl c.K δ) {args : List Value} {Q : Value → St → Prop} (hl : args.length = δ.ps.length)
    (body : ∀ (F' : Frm c) (P' : Pset), Ok F' δ.d n → F'.env.scope = δ.scope → Le P₀ P' → (∀ x v, (x, v) ∈ δ.ps.zip args → ∃ a, F'.env.cells.lookup x = some a ∧ CellAt P' a v) → WP F' (execs δ.body F'.env) ⟨δ.ls.map fun l => (l, none), P', M₀⟩ (Ret fr₀ Q)) :
    WP F (call (.ref f) args) (⟨fr₀, P₀, M₀⟩ : St) Q := by
  refine ofQ ?_; simp (disch := (k_dflt (
  refine hold ?_
  intro s r
  refine wpAny_call ?_
  obtain ⟨oc, od, osl, doc, pm, an, cdv, ct, ho, hcd⟩ := at_
  have hX := H.bs.k.keeps r.fr.keep
  have hd1 := H.dp
  have hd2 := H.un
  have hbind := bind_pos (fd := fnOf δ.name δ.qual δ.params δ.body δ.scope .none .none doc pm an cdv ct) ok.p1 ok.p2 ok.p3 ok.p4 ok.p5 rfl ok.ndp hl
  have hzk := zip_keys δ.ps args hl
  have hcells : ∀ x ∈ δ.ps.zip args, δ.scope.names.lookup x.1 = some .cell := fun x hx => ok.cell x.1 (hzk ▸ List.mem_map_of_mem hx)
  refine codeAny_call_cells (fd := fnOf δ.name δ.qual δ.params δ.body δ.scope .none .none doc pm an cdv ct) (body := δ.body) (binds := δ.ps.zip args) (by show F.A.depth < 1000; omega) (hX _ _ ho) rfl
    (H.bs.t.nolimit.keeps r.fr.keep) (codeRec_of hX hcd) rfl hbind rfl (fun x hx => .inr ⟨hcells x hx, cells_some (.inl (hcells x hx))⟩) (fun s₁ X => ?_) ok.co ok.gen ok.kd
  let env' : Env := callEnvC (fnOf δ.name δ.qual δ.params δ.body δ.scope .none .none doc pm an cdv ct) s.heap.objs.size f
  let F' : Frm c := ⟨F.A.deeper env', env', hideAll s.heap (M₀.map (·.1)), δ.ls, F.env.locals :: F.Z⟩
  obtain ⟨b1, b2, b3⟩ := enterBs H r
  have ok' : Ok F' δ.d n := by
    refine ⟨b1, ok.kd, rfl, rfl, ok.ndl, ok.lc, fun p hp => ⟨(ok.gl p hp).1, (ok.gl p hp).2, gl.gl p hp⟩, fun p hp => ⟨(ok.bl p hp).1, (ok.bl p hp).2.1, gl.bl p hp, (ok.bl p hp).2.2.1, (ok.bl p hp).2.2.2⟩, H.hh, b2, b3, ?_, ?_⟩
    · show (F.A.depth + 1) + 4 * n < 900; omega
    · show (F.A.units + 3) + 16 * n < 9000; omega
  obtain ⟨h₁, tk, e1⟩ := X.toInCall.same
  have hkp := X.toInCall.keep
  have hm : bindL env'.kindOf (δ.ps.zip args) (fun _ => none) = fun _ => none := bindL_cells _ _ hcells
  let P' : Pset := fun a o => P₀ a o ∨ ((∃ x, (x, a) ∈ env'.cells) ∧ s₁.heap.get? a = some o)
  have r' : Rp F' ⟨δ.ls.map fun l => (l, none), P', M₀ ++ []⟩ s₁ := by
    refine enterRp H r (F' := F') rfl rfl (P' := P') (new := []) (Nat.le_refl _) hkp ?_ ?_ ?_ ?_ (fun p hp => nomatch hp) List.nodup_nil fun a o h => ?_
    · have := X.toInCall.ns
      rw [look_none, ← hm]; exact this
    · show (δ.ls.map fun l => (l, (none : Option Value))).map (·.1) = δ.ls
      rw [List.map_map]
      have : ((fun x : Str × Option Value => x.1) ∘ fun l : Str => (l, (none : Option Value))) = id := rfl
      rw [this, List.map_id]
    · rw [e1]
    · rw [e1]
    · rcases h with h | ⟨⟨x, hx⟩, h⟩
      · exact .inl h
      · have hab := X.above x a hx
        exact .inr ⟨h, Nat.ne_of_gt hab, Nat.le_of_lt hab, fun q => nomatch q⟩
  rw [List.append_nil] at r'
  refine wpAny_mono (body F' P' ok' rfl (fun _ _ h => .inl h) (fun x v hx => ?_) _ r') (fun fl s' hfl => ?_) fun _ _ e => e.elim
  · have hc : ((cellsFrom (s.heap.objs.size + 1) δ.scope.names []).lookup x).isSome = true := cells_some (.inl (hcells (x, v) hx))
    obtain ⟨a, ha⟩ := Option.isSome_iff_exists.mp hc
    refine ⟨a, ha, ?_⟩
    obtain ⟨o, ho', hd⟩ := X.cell x a ha
    have hval : bindC env'.kindOf (δ.ps.zip args) (fun _ => none) x = some v := bindC_at _ _ hcells (by rw [hzk]; exact ok.ndp) hx
    exact ⟨o, .inr ⟨⟨x, mem_of_lookup ha⟩, ho'⟩, by rw [← hval]; exact hd⟩
  · obtain ⟨st', r₂, q⟩ := hfl
    have rl := leaveRp r (F' := F') rfl rfl r₂ (h' := s'.heap) fun _ _ _ e => e
    suffices h9 : (fun r s => ∃ st', Rp F st' s ∧ Q r st') (retv fl) s' by
      cases fl <;> exact h9
    exact ⟨_, rl, q⟩
  ))) only [↓quiet]
theorem wCell (H : Ok F D n) {x : Str} {pos : Pos} {a : Addr} {v : Value} {Q : Value → St → Prop} (hk : F.env.kindOf x = some .cell) (hc : F.env.cells.lookup x = some a) (hP : CellAt P₀ a v) (h : Q v (⟨fr₀, P₀, M₀⟩ : St)) (hd : (x == ("__debug__" : Str)) = false) :
    WP F (eval (.Name x pos) F.env) (⟨fr₀, P₀, M₀⟩ : St) Q := fun s r =>
  let ⟨o, hp, hdt⟩ := hP
  wpAny_Name (wpAny_loadName_cell H.fn hk hc ⟨o, r.p hp, hdt⟩ ⟨_, r, h⟩) hd

theorem Rp.dropTo {st : St} {s : Shared} (r : Rp F st s) {I : Addr} {o : Obj} {M' : List (Addr × Obj)} (U : Mdel I o st.M M') {h' : Heap} (hk : ∀ b q, b ≠ I → s.heap.get? b = some q → h'.get? b = some q) (t : Nat) : Rp F ⟨st.fr, st.P, M'⟩ { s with heap := h', toks := t } := by
  refine ofQ ?_; simp (disch := (k_dflt (
  refine hold ?_
  obtain ⟨pre, post, e1, e2⟩ := U.split
  have hmem : (I, o) ∈ st.M := by rw [e1]; simp
  have N := r.mN (I, o) hmem
  have d := r.drop U
  obtain ⟨oL, a1, a2, hL, a3⟩ := d.fr.ns
  have hIg : ∀ b q, F.g.get? b = some q → b ≠ I := fun b q e x => by have := N.2.2; rw [← x, e] at this; cases this
  have f' : Fr F.g F.env.locals h' (look st.fr) := ⟨⟨oL, a1, a2, hk _ _ (fun e => N.2.1 e.symm) hL, a3⟩, fun b q e => hk _ _ (hIg b q e) (d.fr.keep b q e), d.fr.above⟩
  have nd := r.mD
  rw [e1, List.map_append, List.map_cons, List.nodup_append, List.nodup_cons] at nd
  have hIM : ∀ p ∈ M', p.1 ≠ I := fun p hp => by
    rw [e2] at hp
    rcases List.mem_append.mp hp with hp | hp
    · exact nd.2.2 p.1 (List.mem_map_of_mem (f := fun p : Addr × Obj => p.1) hp) I (.head _)
    · exact fun e => nd.2.1.1 (List.mem_map.mpr ⟨p, hp, e⟩)
  have n' : News F.g F.env.locals h' M' := fun p hp => ⟨hk _ _ (hIM p hp) (d.mN p hp).1, (d.mN p hp).2⟩
  refine ⟨f', canon f' n' d.mD fun a q hP => ?_, d.z, d.ks, d.gens, d.os⟩
  have hpm := r.pM hP
  exact ⟨hk _ _ (fun e => hpm.2 (e ▸ List.mem_map_of_mem (f := fun p : Addr × Obj => p.1) hmem)) (r.p hP), hpm.1, (d.pM hP).2⟩
  ))) only [↓quiet]
noncomputable def CTurns {c : Cx} (F : Frm c) (elt : Expr) (x : Str) (gr : List (Str × Option Value)) (Q : Value → St → Prop) (I Dl : Addr) : Nat → Nat → List Value → Nat → Pset → List (Addr × Obj) → Prop
  | 0, _, ys, m, P, M => Q (.ref Dl) ⟨gr, P, M ++ [(Dl, listOf ys.toArray m)]⟩
  | k + 1, i, ys, m, P, M => ∀ oI t, WP F (eval elt F.env) ⟨[(x, some (.int i t))], P, M ++ [(Dl, listOf ys.toArray m), (I, oI)]⟩ (fun y st₂ => ∃ M₂, st₂.fr = [(x, some (.int i t))] ∧ st₂.M = M₂ ++ [(Dl, listOf ys.toArray m), (I, oI)] ∧ CTurns F elt x gr Q I Dl k (i + 1) (ys ++ [y]) (m + 1) st₂.P M₂)
inductive CompI {c : Cx} (F' : Frm c) (elt : Expr) (x : Str) (gr : List (Str × Option Value)) (Q : Value → St → Prop) (I Dl : Addr) (k q : Nat) (s' : Shared) : Prop
  | mk (i : Nat) (ys : List Value) (m : Nat) (cur : Option Value) (P : Pset) (M : List (Addr × Obj)) (oI : Obj) : Rp F' ⟨[(x, cur)], P, M ++ [(Dl, listOf ys.toArray m), (I, oI)]⟩ s' → IsRangeIter s'.heap I (0 + (i : Nat) * 1) ((k : Int) - (i : Nat)) 1 → i ≤ k → ys.length = i → CTurns F' elt x gr Q I Dl (k - i) i ys m P M → q = k + 1 - i → CompI F' elt x gr Q I Dl k q s'
theorem wComp (H : Ok F D n) {elt iter : Expr} {x : Str} {px pos : Pos} {scope : Scope} {cl : List (Str × Addr)} {D2 : FnD} {Q : Value → St → Prop}
    (hclos : closureFor scope F.env = pure cl) (hcell : ∀ y ∈ scope.names, y.2 ≠ .cell) (hkind : scope.kind = .function) (hnames : ∀ y ∈ scope.names, y.2 = .local → scope.names.lookup y.1 = some .local) (hx : scope.names.lookup x = some .local) (hxd : (x == ("__debug__" : Str)) = false)
    (gl : ∀ p ∈ D2.gl, (relabel scope F.env).names.lookup p.1 = some .globalImplicit ∧ (p.1 == ("__debug__" : Str)) = false ∧ nsIn c.K mainGlobals p.1 = some (some p.2)) (bl : D2.bl = [])
    (h : WP F (eval iter F.env) (⟨fr₀, P₀, M₀⟩ : St) (fun v st₁ => ∃ (r : Addr) (k : Nat) (t u v' : Tok), v = .ref r ∧ k ≤ 1000 ∧ st₁.P r { cls := .type "range", data := .fields #[.int 0 t, .int k u, .int 1 v'] } ∧
      ∀ (F' : Frm c) I Dl, Ok F' D2 n → F'.env.scope = relabel scope F.env → F'.env.cells = cl → CTurns F' elt x st₁.fr Q I Dl k 0 [] 0 st₁.P st₁.M))
    (hs : ∀ x, foldedSetIterable iter F.env x = pure x) : WP F (eval (.ListComp elt [⟨.Name x px, iter, [], 0⟩] scope pos) F.env) (⟨fr₀, P₀, M₀⟩ : St) Q := by
  refine ofQ ?_; simp (disch := (k_dflt (
  refine hold ?_
  intro s r
  rw [eval_ListComp]
  refine wpAny_comprehension_free (use := none) rfl hs hclos hkind hnames (wpAny_mono (h s r) (fun v s₁ ⟨st₁, r₁, a, k, t, u, v', e, hk, hP, T⟩ => ?_) fun _ _ e => e)
  subst e
  have hr : IsRange s₁.heap a 0 k 1 t u v' := r₁.p hP
  have hsz : Builtin.Range.rangeSize 0 k 1 = k := by
    unfold Builtin.Range.rangeSize
    simp
    intro e; rw [e]; rfl
  have h3 : (2:Nat) ^ 63 = (2:Int) ^ 63 := by decide
  refine wpAny_pyIter_range hr ?_ ?_
  · unfold Builtin.Range.small Builtin.Range.rangeFitsLong
    rw [hsz]
    simp
    omega
  rw [hsz]
  generalize hI : s₁.heap.objs.size = I
  generalize hH1 : s₁.heap.push { cls := .type "range_iterator", data := .fields #[rawInt 0, rawInt k, rawInt 1] } = H1
  have sz1 : H1.objs.size = I + 1 := by rw [← hH1, Heap.size_push, hI]
  refine wpAny_newObj_type (wpAny_newFunctionEnv hcell (by intro y hy; simp at hy) (fun h₁ hns₁ hsb₁ => ?_) hkind)
  dsimp only at hns₁ hsb₁ ⊢
  generalize hH2 : H1.push { cls := .type "list", data := .seq #[] } = H2 at hns₁ hsb₁ ⊢
  have sz2 : H2.objs.size = I + 2 := by rw [← hH2, Heap.size_push, sz1]
  obtain ⟨b1, b2, b3⟩ := enterBs H r₁
  let F' : Frm c := ⟨F.A, compEnvC scope cl H2.objs.size F.env, hideAll s₁.heap (st₁.M.map (·.1)), [x], F.env.locals :: F.Z⟩
  have ok' : Ok F' D2 n := by
    refine ⟨b1, hkind, H.glb, H.blt, by simp [F'], fun y hy => ?_, gl, fun p hp => (by rw [bl] at hp; cases hp), H.hh, b2, b3, H.dp, H.un⟩
    have : y = x := by simpa [F'] using hy
    subst this
    exact ⟨lookup_relabel_local hx, hxd⟩
  have T' := T F' I H1.objs.size ok' rfl rfl
  have keepH1 : ∀ b o, H1.get? b = some o → h₁.get? b = some o := fun b o e => hsb₁.extBut b o (by
    have := Heap.lt_size e
    rw [sz1] at this; rw [sz2]
    exact Nat.ne_of_lt (Nat.lt_trans this (Nat.lt_succ_self _))) (Heap.get?_push_of_some _ (hH2 ▸ Heap.get?_push_of_some _ e))
  have gI : h₁.get? I = some { cls := .type "range_iterator", data := .fields #[rawInt 0, rawInt k, rawInt 1] } := keepH1 _ _ (by rw [← hH1, ← hI]; exact Heap.get?_push_size _ rfl)
  have gD : h₁.get? H1.objs.size = some (listOf #[] 0) := hsb₁.extBut _ _ (by rw [sz1, sz2]; exact Nat.ne_of_lt (Nat.lt_succ_self _)) (Heap.get?_push_of_some _ (by rw [← hH2]; exact Heap.get?_push_size _ rfl))
  have wk := Walks.range (prog := P0) (w := c.w) (A := F.A) H.hh I 0 1 k
  have loop : ∀ s₄ : Shared, Rp F' ⟨[(x, none)], st₁.P, st₁.M ++ [(H1.objs.size, listOf #[] 0), (I, { cls := .type "range_iterator", data := .fields #[rawInt 0, rawInt k, rawInt 1] })]⟩ s₄ →
      codeAny (model P0 c.w) F.A (.compLoop (.ListComp elt [⟨.Name x px, iter, [], 0⟩] scope pos) 0 (.ref I) (.ref H1.objs.size) (compEnvC scope cl H2.objs.size F.env))
        (compPost (model P0 c.w) F.A (fun _ _ => False) none (fun v s' => ∃ st', Rp F st' s' ∧ Q v st') (.ref H1.objs.size) H2.objs.size) s₄ := by
    intro s₄ r₄
    refine codeAny_compLoop_list (CompI F' elt x st₁.fr Q I H1.objs.size k) ?_ (k + 1)
      ⟨0, [], 0, none, st₁.P, st₁.M, _, r₄, by simpa using r₄.m (List.mem_append.mpr (.inr (.tail _ (.head _)))), Nat.zero_le _, rfl, T', rfl⟩
    rintro q s' ⟨i, ys, m, cur, P, M, oI, r', hW, hi, hys, C, rfl⟩
    have mpI : ∀ o o' (l : Value), Mp I o o' (M ++ [(H1.objs.size, listOf ys.toArray m), (I, o)]) (M ++ [(H1.objs.size, listOf ys.toArray m), (I, o')]) := fun o o' _ => .ap (.tl .hd)
    by_cases hlt : i < k
    · refine wk.item i _ _ _ hlt hW fun v h₂ tk₂ hPv hW₂ hk₂ => ?_
      obtain ⟨tv, rfl⟩ := hPv
      have ev : (0 + (i : Int) * 1) = i := by omega
      rw [ev]
      obtain ⟨oN, hN⟩ : ∃ oN, h₂.get? I = some oN := ⟨_, hW₂⟩
      have r₂ := r'.only (mpI oI oN .none) (fun b q hb e => hk₂ b q (by simpa using hb) e) hN tk₂
      have ek : k - i = (k - (i + 1)) + 1 := by omega
      rw [ek] at C
      refine wpAny_mono (wTargetN ok' (Q := fun _ st' => st' = ⟨[(x, some (.int i tv))], P, _⟩) .hd rfl _ r₂) (fun _ s₅ ⟨_, r₅, e5⟩ => ?_) fun _ _ e => e.elim
      subst e5
      refine wpAny_mono (C _ tv _ r₅) (fun y s₆ ⟨st₆, r₆, M₂, e1, e2, C₆⟩ => ?_) fun _ _ e => e.elim
      obtain ⟨fr6, P6, M6⟩ := st₆
      replace e1 : fr6 = _ := e1
      replace e2 : M6 = _ := e2
      subst e1 e2
      have hmD : (H1.objs.size, listOf ys.toArray m) ∈ M₂ ++ [(H1.objs.size, listOf ys.toArray m), (I, oN)] := List.mem_append.mpr (.inr (.head _))
      refine append_at (r₆.m hmD) (fun h₇ hs₇ ho₇ => ?_) (by rw [sizeLine_eq]; simp; omega)
      have r₇ := r₆.sameBut (M' := M₂ ++ [(H1.objs.size, listOf (ys.toArray.push y) (m + 1)), (I, oN)]) (.ap .hd) hs₇ ho₇ s₆.toks
      have ey : ys.toArray.push y = (ys ++ [y]).toArray := by simp
      rw [ey] at r₇
      refine ⟨k + 1 - (i + 1), by omega, i + 1, ys ++ [y], m + 1, some (.int i tv), _, M₂, _, r₇, ?_, hlt, by simp [hys], C₆, rfl⟩
      refine wk.frame _ h₂ _ hW₂ fun b hb o e => ?_
      have hb' : b = I := by simpa using hb
      subst hb'
      rw [hN] at e; cases e
      exact r₇.m (List.mem_append.mpr (.inr (.tail _ (.head _))))
    · have him : i = k := by omega
      subst him
      rw [Nat.sub_self] at C
      refine wk.done _ _ _ hW fun h₂ tk₂ hk₂ => ?_
      have r₂ := r'.dropTo (M' := M ++ [(H1.objs.size, listOf ys.toArray m)]) (.ap (.tl .hd)) (h' := h₂) (fun b q hb e => hk₂ b q (by simpa using hb) e) tk₂
      exact ⟨_, r₂.fr.ns, fun h₃ hs₃ => ⟨_, leaveRp r₁ (F' := F') rfl rfl r₂ (h' := h₃) (fun b o hb e => hs₃.extBut b o hb e), C⟩⟩
  have r₄ : ∀ tk, Rp F' ⟨[(x, none)], st₁.P, st₁.M ++ [(H1.objs.size, listOf #[] 0), (I, { cls := .type "range_iterator", data := .fields #[rawInt 0, rawInt k, rawInt 1] })]⟩ { s₁ with heap := h₁, toks := tk } := fun tk => by
    refine enterRp H r₁ (F' := F') rfl rfl ?_ (fun b o e => keepH1 b o (by rw [← hH1]; exact Heap.get?_push_of_some _ e)) ?_ rfl rfl rfl ?_ ?_ fun a o h => .inl h
    · show s₁.heap.objs.size ≤ H2.objs.size
      rw [hI, sz2]; exact Nat.le_add_right _ _
    · have e : (fun x => List.lookup x ([] : List (Str × Value)).reverse) = look [(x, none)] := by
        funext y
        unfold look
        rw [List.lookup_cons]
        cases y == x <;> rfl
      rw [← e]; exact hns₁
    · intro p hp
      rcases List.mem_cons.mp hp with rfl | hp
      · refine ⟨gD, ?_, ?_⟩
        · show s₁.heap.objs.size ≤ H1.objs.size
          rw [hI, sz1]; exact Nat.le_succ _
        · show H1.objs.size ≠ H2.objs.size
          rw [sz1, sz2]; exact Nat.ne_of_lt (Nat.lt_succ_self _)
      · rcases List.mem_cons.mp hp with rfl | hp
        · refine ⟨gI, ?_, ?_⟩
          · show s₁.heap.objs.size ≤ I
            rw [hI]; exact Nat.le_refl _
          · show I ≠ H2.objs.size
            rw [sz2]; exact Nat.ne_of_lt (Nat.lt_add_of_pos_right (by decide))
        · cases hp
    · show [H1.objs.size, I].Nodup
      rw [sz1]
      simp
  exact codeAny_compStart_list (loop _ (r₄ _)) (wk.self 0 _ _ _ (by simpa using gI) (loop _ (r₄ _)))
  ))) only [↓quiet]
end
noncomputable abbrev sliceO (u : Value) : Obj := { cls := .type "slice", data := .fields #[.none, u, .none] }
section
variable {prog : Program} {w : World} {A : Around} {E : Value → Shared → Prop} {s : Shared}
theorem sliceApplied_2 {sl : Addr} {u : Tok} {Q : Int × Int × Nat → Shared → Prop} (hs : s.heap.IsSliceOf sl .none (.int 2 u) .none) (h : Q ((0 : Int), 1, 2) s) :
    wpAny (model prog w) A (Builtin.Slice.sliceApplied (.ref sl) (pure (3 : Int))) Q E s := by
  refine ofQ ?_; simp (disch := (k_dflt (
  refine hold ?_
  obtain ⟨os, hos, hcs, hds⟩ := id hs
  unfold Builtin.Slice.sliceApplied Builtin.Slice.sliceFields
  refine wpAny_bind (wpAny_bind (wpAny_field hos hds (x := .none) rfl (wpAny_bind (wpAny_field hos hds (x := .int 2 u) rfl (wpAny_bind (wpAny_field hos hds (x := .none) rfl (wpAny_pure ?_)))))))
  refine wpAny_bind (slicePart_none ?_)
  show wpAny _ _ (if ((1 : Int) == 0) = true then _ else _) _ _ s
  rw [if_neg (by decide)]
  refine wpAny_bind (slicePart_none (wpAny_bind (slicePart_int (wpAny_bind (wpAny_pure ?_)))))
  show wpAny _ _ (match Builtin.Slice.sliceAdjust none (some (2 : Int)) 1 (3 : Int) with | (lo, hi) => pure (lo, (1 : Int), Builtin.Slice.slicePlaces lo hi 1)) _ _ s
  have e : Builtin.Slice.sliceAdjust none (some (2 : Int)) 1 (3 : Int) = (0, 2) := by decide +kernel
  rw [e]
  show wpAny _ _ (pure ((0 : Int), (1 : Int), Builtin.Slice.slicePlaces 0 2 1)) _ _ s
  have e2 : Builtin.Slice.slicePlaces 0 2 1 = 2 := by decide +kernel
  rw [e2]
  exact wpAny_pure h
  ))) only [↓quiet]
theorem getItem_tuple_2 {t sl : Addr} {x y z : Value} {u : Tok} {Q : Value → Shared → Prop} (ht : IsTup s.heap t #[x, y, z]) (hs : s.heap.IsSliceOf sl .none (.int 2 u) .none)
    (h : Q (.ref s.heap.objs.size) { s with heap := s.heap.push (tupO [x, y]) }) : wpAny (model prog w) A (getItem (.ref t) (.ref sl)) Q E s := by
  refine ofQ ?_; simp (disch := (k_dflt (
  refine hold ?_
  obtain ⟨os, hos, hcs, hds⟩ := id hs
  have hTs : s.TypeIs (.ref sl) "slice" := ⟨os, hos, hcs⟩
  have hdrop : sizeOk (.seq ([x, y] : List Value).toArray) := by
    show ([x, y] : List Value).toArray.size ≤ sizeLine
    rw [sizeLine_eq]; simp
  unfold getItem
  try with_reducible refine wpAny_holding ?_
  first | refine wpAny_bind (wpAny_pure ?_) | skip
  refine wpAny_bind (wpAny_sequenceKey ht.typeIs (by decide) ?_)
  refine wpAny_bind (wpAny_callSpecial?_slot (name := Str.ofString "__getitem__") ht.typeIs slot_tuple_getitem
    (wpAny_call_entry slot_tuple_getitem ht.typeIs entry_tuple_getitem ?_ (args_tuple_getitem _ _)))
  show wpAny _ _ (Builtin.Tuple.tupleItemsOf (.ref t) >>= _) _ _ s
  refine wpAny_bind (tupleItemsOf_ ht ?_)
  refine wpAny_bind (wpAny_typeOf hTs ?_)
  rw [if_pos (by decide)]
  refine wpAny_bind (sliceApplied_2 hs ?_)
  show wpAny _ _ (if ((0 : Int) == 0 && (1 : Int) == 1 && (2 == (#[x, y, z] : Array Value).size)) = true then _ else _) _ _ s
  rw [if_neg (by simp)]
  first
    | exact wpAny_bind (m := Builtin.Tuple.tupleExact _) (wpAny_newObj_type (wpAny_pure ⟨_, rfl, wpAny_pure h⟩) hdrop)
    | exact wpAny_bind (m := Builtin.Tuple.tupleExact _) (wpAny_newObj_type (wpAny_bind (wpAny_pure (wpAny_pure ⟨_, rfl, wpAny_pure h⟩))) hdrop)
    | exact wpAny_bind (wpAny_bind (m := Builtin.Tuple.tupleExact _) (wpAny_newObj_type (wpAny_pure (wpAny_pure ⟨_, rfl, wpAny_pure h⟩)) hdrop))
    | exact wpAny_bind (wpAny_bind (m := Builtin.Tuple.tupleExact _) (wpAny_newObj_type (wpAny_pure ⟨_, rfl, wpAny_pure h⟩) hdrop))
  ))) only [↓quiet]
end
section
variable {α β : Type} {c : Cx} {F : Frm c} {D : FnD} {n : Nat} {fr₀ : List (Str × Option Value)} {P₀ : Pset} {M₀ : List (Addr × Obj)}
noncomputable abbrev kSlice (Q : Value → St → Prop) (u : Value) (st : St) : Prop := ∀ sl P', Le st.P P' → P' sl (sliceO u) → Q (.ref sl) ⟨st.fr, P', st.M⟩
theorem wSliceUp (H : Ok F D n) {e : Expr} {p : Pos} {Q : Value → St → Prop} (h : WP F (eval e F.env) (⟨fr₀, P₀, M₀⟩ : St) (kSlice Q)) : WP F (eval (.Slice none (some e) none p) F.env) (⟨fr₀, P₀, M₀⟩ : St) Q := fun s r => by
  refine wpAny_Slice ?_
  rw [evalPart_none]
  refine wpAny_pure ?_
  rw [evalPart_some]
  refine wpAny_mono (h s r) (fun u s₁ ⟨st₁, r₁, q⟩ => ?_) fun _ _ e => e
  refine wpAny_pure ⟨_, r₁.pushP H (o := sliceO u) rfl _, q _ _ (fun _ _ h => .inl h) (.inr ⟨rfl, rfl⟩)⟩
theorem wTailSL (H : Ok F D n) {value slice : Expr} {l sl : Addr} {o : Obj} {vs : List Value} {m : Nat} {y : Int} {t : Tok} {Q : Value → St → Prop} (hl : P₀ l o) (hc : o.cls = .type "list") (hd : o.data = .seq vs.toArray m) (hs : P₀ sl (sliceO (.int y t))) (hlen : vs.length ≤ 1000)
    (h : ∀ b P', Le P₀ P' → P' b (listOf (slicePick vs.toArray none (some y) none) 0) → Q (.ref b) ⟨fr₀, P', M₀⟩)
    (hsub : subscripted slice false (.ref l) (.ref sl) = operate [.ref sl, .ref l] (getItem (.ref l) (.ref sl))) : WP F (subscriptTail value slice (.ref l) (.ref sl)) (⟨fr₀, P₀, M₀⟩ : St) Q := fun s r => by
  have hL : s.heap.IsList l vs.toArray := ⟨o, r.p hl, hc, _, hd⟩
  have hS : s.heap.IsSliceOf sl .none (.int y t) .none := ⟨_, r.p hs, rfl, rfl⟩
  refine tail_any hL.typeIs list_getitem_lookup (wpAny_getItem_list_slice hL hS .none (.int y t) .none (by simp) ?_ (by rw [sizeLine_eq]; simp; lia)) hsub
  exact ⟨_, r.pushP H (o := listOf (slicePick vs.toArray none (some y) none) 0) rfl _, h _ _ (fun _ _ h => .inl h) (.inr ⟨rfl, rfl⟩)⟩
theorem wTailST (H : Ok F D n) {value slice : Expr} {l sl : Addr} {x y z : Value} {t : Tok} {Q : Value → St → Prop} (hl : P₀ l (tupO [x, y, z])) (hs : P₀ sl (sliceO (.int 2 t)))
    (h : ∀ b P', Le P₀ P' → P' b (tupO [x, y]) → Q (.ref b) ⟨fr₀, P', M₀⟩)
    (hsub : subscripted slice false (.ref l) (.ref sl) = operate [.ref sl, .ref l] (getItem (.ref l) (.ref sl))) : WP F (subscriptTail value slice (.ref l) (.ref sl)) (⟨fr₀, P₀, M₀⟩ : St) Q := fun s r => by
  have hL : IsTup s.heap l #[x, y, z] := r.tup hl
  have hS : s.heap.IsSliceOf sl .none (.int 2 t) .none := ⟨_, r.p hs, rfl, rfl⟩
  refine tail_any hL.typeIs slot_tuple_getitem.lookup (getItem_tuple_2 hL hS ?_) hsub
  exact ⟨_, r.pushP H (o := tupO [x, y]) rfl _, h _ _ (fun _ _ h => .inl h) (.inr ⟨rfl, rfl⟩)⟩
theorem wCompMod (H : Ok F D n) {iter : Expr} {x : Str} {px p1 p2 p3 : Pos} {k1 : Nat} {b : Int} {scope : Scope} {pos : Pos} {Q : Value → St → Prop} (hb : 0 < b) (hfree : ∀ y ∈ scope.names, y.2 ≠ .free) (hcell : ∀ y ∈ scope.names, y.2 ≠ .cell) (hkind : scope.kind = .function) (hnames : ∀ y ∈ scope.names, y.2 = .local → scope.names.lookup y.1 = some .local) (hx : scope.names.lookup x = some .local) (hxd : (x == ("__debug__" : Str)) = false)
    (h : WP F (eval iter F.env) (⟨fr₀, P₀, M₀⟩ : St) (fun v st₁ => ∃ ax its m, v = .ref ax ∧ st₁.P ax (listOf its m) ∧ its.size ≤ 63 ∧ (∀ v ∈ its.toList, ∃ i t, v = Value.int i t) ∧ ∀ li (vs : List Value) m' P', Le st₁.P P' → P' li (listOf vs.toArray m') → vs.length ≤ 63 → (∀ v ∈ vs, ∃ i t, v = Value.int i t) → Q (.ref li) ⟨st₁.fr, P', st₁.M⟩))
    (hs : ∀ x, foldedSetIterable iter F.env x = pure x) :
    WP F (eval (.ListComp (.BinOp (.Name x p1) .Mod (.Constant (.int b) k1 p2) p3) [⟨.Name x px, iter, [], 0⟩] scope pos) F.env) (⟨fr₀, P₀, M₀⟩ : St) Q := by
  refine ofQ ?_; simp (disch := (k_dflt (
  refine hold ?_
  intro s r
  refine wpAny_ListComp_free (fun _ => true) (fun _ y => ∃ i t, y = Value.int i t) (closureFor_none hfree) hcell hkind hnames hx (wpAny_mono (h s r) (fun v s₁ ⟨st₁, r₁, ax, its, m, e, hP, hsz, hint, hQ⟩ => ?_) fun _ _ e => e) hs
  subst e
  have hL : s₁.heap.IsList ax its := r₁.lstP hP
  refine wpAny_pyIter_list hL ?_
  have hne : ax ≠ s₁.heap.objs.size := Nat.ne_of_lt (Heap.lt_size (r₁.p hP))
  refine ⟨s₁.heap.objs.size, _, _, _, _, _, rfl, Walks.list H.hh s₁.heap.objs.size ax hne its, by rw [sizeLine_eq]; lia, ⟨⟨_, Heap.get?_push_size _ rfl, rfl, rfl⟩, hL.at fun o e => Heap.get?_push_of_some _ e⟩, ?_, ?_, ?_⟩
  · intro b hb
    rcases List.mem_cons.mp hb with rfl | hb
    · show s₁.heap.objs.size < (s₁.heap.push _).objs.size
      rw [Heap.size_push]; exact Nat.lt_succ_self _
    · rw [List.mem_singleton.mp hb]
      show ax < (s₁.heap.push _).objs.size
      rw [Heap.size_push]; exact Nat.lt_succ_of_lt (Heap.lt_size (r₁.p hP))
  · refine ⟨fun C i v s₃ m₃ E' _ _ _ _ _ _ => wpAny_pure ⟨rfl, ?_⟩, fun C i v s₃ m₃ E' hC hv _ hn hm hk _ => ?_⟩
    · exact ⟨_, _, rfl, fun _ _ e => e⟩
    · have hv' : v ∈ its.toList := by
        obtain ⟨hi, e⟩ := Array.getElem?_eq_some_iff.mp hv
        rw [← e]; simp
      obtain ⟨iv, tv, rfl⟩ := hint v hv'
      refine wpAny_BinOp (wpAny_Name (wpAny_loadName_local (by show (relabel scope F.env).kind = _; exact hkind) (by show (relabel scope F.env).names.lookup x = _; exact lookup_relabel_local hx) hn hm ?_) hxd)
      refine wpAny_Constant_int ?_
      refine PySem.AutoIntOps.mod_1 (by simp; lia) ?_
      exact ⟨⟨_, _, rfl⟩, ⟨_, _, rfl, fun _ _ e => e⟩⟩
  · intro D h' tk ys vs hD _ hpl hlen _ hF hk
    obtain ⟨m', hDo⟩ := hpl
    have hD1 : s₁.heap.get? D = none := by
      cases e : s₁.heap.get? D with
      | none => rfl
      | some o =>
        have := Heap.get?_push_of_some { cls := .type "list_iterator", data := .fields #[.ref ax, .int 0 0] } e
        have hD' : (s₁.heap.push { cls := .type "list_iterator", data := .fields #[.ref ax, .int 0 0] }).get? D = none := hD
        rw [hD'] at this; cases this
    have hkeep : ∀ b o, s₁.heap.get? b = some o → h'.get? b = some o := fun b o e => hk b o (fun hm => by
      have hb : b = s₁.heap.objs.size := by simpa using hm
      exact absurd hb (Nat.ne_of_lt (Heap.lt_size e))) (Heap.get?_push_of_some _ e)
    have rk := r₁.kept hkeep tk
    have hDl : D ≠ F.env.locals := fun e => by
      obtain ⟨oL, _, _, hL, _⟩ := r₁.fr.ns
      rw [e, hL] at hD1; cases hD1
    have hDM : D ∉ st₁.M.map (·.1) := fun hm => by
      obtain ⟨p, hp, e⟩ := List.mem_map.mp hm
      have := (r₁.mN p hp).1
      rw [show p.1 = D from e, hD1] at this; cases this
    let P' : Pset := fun a o => st₁.P a o ∨ (a = D ∧ o = listOf ys m')
    have r' : Rp F ⟨st₁.fr, P', st₁.M⟩ { s₁ with heap := h', toks := tk } := by
      refine ⟨rk.fr, canon rk.fr rk.mN rk.mD fun a o hp => ?_, fun a o hp hz => ?_, rk.ks, rk.gens, rk.os⟩
      · rcases hp with hp | ⟨rfl, rfl⟩
        · exact ⟨rk.p hp, (rk.pM hp).1, (rk.pM hp).2⟩
        · exact ⟨hDo, hDl, hDM⟩
      · rcases hp with hp | ⟨rfl, rfl⟩
        · exact rk.z a o hp hz
        · obtain ⟨o', e⟩ := H.hz a hz
          have := r₁.fr.keep _ _ e
          rw [hD1] at this; cases this
    have hpr : ∀ {l1 l2 : List Value}, Paired (fun _ y => ∃ i t, y = Value.int i t) l1 l2 → l2.length = l1.length ∧ ∀ y ∈ l2, ∃ i t, y = Value.int i t := by
      intro l1 l2 hp
      induction hp with
      | nil => exact ⟨rfl, fun _ h => nomatch h⟩
      | cons a _ ih => exact ⟨by simp [ih.1], fun y hy => by
          rcases List.mem_cons.mp hy with rfl | hy
          · exact a
          · exact ih.2 y hy⟩
    obtain ⟨q1, q2⟩ := hpr hF
    have hfl : (vs.filter fun _ => true).length ≤ vs.length := List.length_filter_le _ _
    refine ⟨_, r', hQ D ys.toList m' P' (fun _ _ h => .inl h) (.inr ⟨rfl, by simp⟩) ?_ q2⟩
    lia
  ))) only [↓quiet]
noncomputable def MadeS2 (w : World) (d : Addr) (Q : Value → St → Prop) (vs : List (Value × Value)) (sx : St) : Prop := ∃ M' : Obj → List (Addr × Obj), (∀ o', Mp d (dictOf [] 0) o' sx.M (M' o')) ∧ allStrKeys vs = true ∧ ((strPairs vs).map (·.1)).Nodup ∧
  ∀ o', o'.IsDictOf (PySem.strKind P0 w) (strPairs vs) → Q (.ref d) ⟨sx.fr, sx.P, M' o'⟩
theorem wDictS2 (H : Ok F D n) {keys : List (Option Expr)} {values : List Expr} {pos : Pos} {Q : Value → St → Prop} (hall : keys.all (·.isSome) = true) (hl : keys.length = values.length) (h0 : keys ≠ []) (hlen : keys.length ≤ 15)
    (h : ∀ d, Lo d → WP F (evalPairs (pairTrees keys values F.env pos)) ⟨fr₀, P₀, M₀ ++ [(d, dictOf [] 0)]⟩ (MadeS2 c.w d Q)) : WP F (eval (.Dict keys values pos) F.env) (⟨fr₀, P₀, M₀⟩ : St) Q := fun s r =>
  wpAny_Dict_walk (knd := PySem.strKind P0 c.w) hall hl h0 hlen (wpAny_mono (h s.heap.objs.size (lo_new H r) _ (r.pushM (o := dictOf [] 0) rfl _)) (fun vs s₁ ⟨st₁, r₁, M', U, e2, e3, q⟩ => by
    have hm : (s.heap.objs.size, dictOf [] 0) ∈ st₁.M := (U (dictOf [] 0)).mem
    have hd0 : s₁.heap.DictOf (PySem.strKind P0 c.w) s.heap.objs.size [] := ⟨_, _, _, r₁.m hm, ⟨rfl, rfl, rfl⟩, rfl, fun _ he => by simp at he, Pairs.nil, List.nodup_nil⟩
    exact display_done_str e2 e3 hd0 fun h' hm' hs => by
      obtain ⟨o', ho', hd'⟩ := Heap.dictOf_iff.mp hm'
      exact ⟨_, r₁.sameBut (U o') hs ho' _, q o' hd'⟩) fun _ _ e => e)
theorem ints_all : ∀ {vs : List Value} {ns : List Int}, IntsAre vs ns → ∀ v ∈ vs, ∃ i t, v = Value.int i t
  | _, _, .nil, _, h => nomatch h
  | _, _, .cons _ _ k, v, h => by
    rcases List.mem_cons.mp h with rfl | h
    · exact ⟨_, _, rfl⟩
    · exact ints_all k v h
end
section
variable {c : Cx} {F : Frm c} {D : FnD} {n : Nat} {fr₀ : List (Str × Option Value)} {P₀ : Pset} {M₀ : List (Addr × Obj)}
noncomputable def Ev {c : Cx} (F : Frm c) (fr : List (Str × Option Value)) (P : Pset) (M : List (Addr × Obj)) (e : Expr) (v : Value) : Prop := ∀ Q : Value → St → Prop, Q v ⟨fr, P, M⟩ → WP F (eval e F.env) ⟨fr, P, M⟩ Q
noncomputable def EvI {c : Cx} (F : Frm c) (fr : List (Str × Option Value)) (P : Pset) (M : List (Addr × Obj)) (e : Expr) (i : Int) : Prop := ∀ Q : Value → St → Prop, (∀ t, Q (.int i t) ⟨fr, P, M⟩) → WP F (eval e F.env) ⟨fr, P, M⟩ Q
noncomputable def EvS {c : Cx} (F : Frm c) (fr : List (Str × Option Value)) (P : Pset) (M : List (Addr × Obj)) (e : Expr) (x : Str) : Prop := ∀ Q : Value → St → Prop, (∀ t, Q (.str x t) ⟨fr, P, M⟩) → WP F (eval e F.env) ⟨fr, P, M⟩ Q
noncomputable def EvL {c : Cx} (F : Frm c) (fr : List (Str × Option Value)) (P : Pset) (M : List (Addr × Obj)) (es : List Expr) (vs : List Value) : Prop := ∀ (pos : Pos) (Q : List Value → St → Prop), Q vs ⟨fr, P, M⟩ → WP F (wArgs F pos es) ⟨fr, P, M⟩ Q
theorem Ev.run {e : Expr} {v : Value} {Q : Value → St → Prop} (x : Ev F fr₀ P₀ M₀ e v) (h : Q v ⟨fr₀, P₀, M₀⟩) : WP F (eval e F.env) ⟨fr₀, P₀, M₀⟩ Q := x Q h
theorem vName (H : Ok F D n) {x : Str} {pos : Pos} {v : Value} (a : At x (some v) fr₀) : Ev F fr₀ P₀ M₀ (.Name x pos) v := fun _ h => wName H a h
theorem vGlob (H : Ok F D n) {x : Str} {pos : Pos} {v : Value} (a : At x v D.gl) : Ev F fr₀ P₀ M₀ (.Name x pos) v := fun _ h => wGlob H a h
theorem wAttrE {o : Expr} {name : Str} {pos : Pos} {Q : Value → St → Prop} (h : WP F (eval o F.env) ⟨fr₀, P₀, M₀⟩ (kAttr F name Q)) (he : eval (.Attribute o name pos) F.env = (do
      let ov ← eval o F.env
      standAt pos.atName
      let r ← holding [ov] (getAttr ov name true)
      letTemporaryGo o ov r
      pure r)) : WP F (eval (.Attribute o name pos) F.env) ⟨fr₀, P₀, M₀⟩ Q := WP.lift (fun _ _ _ h => Attribute_any_ h he) h
theorem vGet (H : Ok F D n) {o : Expr} {x C : Addr} {fs : List (Str × Value)} {name : Str} {pos : Pos} {v : Value} (e : Ev F fr₀ P₀ M₀ o (.ref x)) (i : Ins P₀ x C fs) (ca : ClsA c.K C name) (a : At name v fs) (hv : handedIn v = true) (he : eval (.Attribute o name pos) F.env = (do
      let ov ← eval o F.env
      standAt pos.atName
      let r ← holding [ov] (getAttr ov name true)
      letTemporaryGo o ov r
      pure r)) : Ev F fr₀ P₀ M₀ (.Attribute o name pos) v := fun Q h =>
  wAttrE (e (kAttr F name Q) (wGet H i ca a h hv)) he
theorem vGetD (H : Ok F D n) {o : Expr} {x C dx : Addr} {ob : Obj} {fs : List (Str × Value)} {name : Str} {pos : Pos} {v : Value} (e : Ev F fr₀ P₀ M₀ o (.ref x)) (i : P₀ x (instObj C dx)) (m : Mem dx ob M₀) (hf : IsFld ob fs) (ca : ClsA c.K C name) (a : At name v fs) (hv : handedIn v = true) (he : eval (.Attribute o name pos) F.env = (do
      let ov ← eval o F.env
      standAt pos.atName
      let r ← holding [ov] (getAttr ov name true)
      letTemporaryGo o ov r
      pure r)) : Ev F fr₀ P₀ M₀ (.Attribute o name pos) v := fun Q h =>
  wAttrE (e (kAttr F name Q) (wGetD H i (.m m hf) ca a h hv)) he
theorem sub_tup {o : Expr} {i : Int} {k : Nat} {p : Pos} {t : Addr} {l : List Value} {u : Tok} {x : Value} {Q : Value → St → Prop} (ht : P₀ t (tupO l)) (hx : l[i.toNat]? = some x) (hi : decide (0 ≤ i ∧ i < 1000) = true) (h : Q x ⟨fr₀, P₀, M₀⟩) :
    WP F (subscriptTail o (.Constant (.int i) k p) (.ref t) (.int i u)) ⟨fr₀, P₀, M₀⟩ Q := by
  obtain ⟨h0, h1⟩ := of_decide_eq_true hi
  obtain ⟨j, rfl⟩ := Int.eq_ofNat_of_zero_le h0
  exact wItemTup (k := j) ht hx h (by lia) (by with_unfolding_all rfl)
theorem sub_lst {o : Expr} {i : Int} {k : Nat} {p : Pos} {t : Addr} {l : List Value} {m : Nat} {u : Tok} {x : Value} {Q : Value → St → Prop} (ht : P₀ t (listOf l.toArray m)) (hx : l[i.toNat]? = some x) (hi : decide (0 ≤ i ∧ i < 1000) = true) (h : Q x ⟨fr₀, P₀, M₀⟩) :
    WP F (subscriptTail o (.Constant (.int i) k p) (.ref t) (.int i u)) ⟨fr₀, P₀, M₀⟩ Q := by
  obtain ⟨h0, h1⟩ := of_decide_eq_true hi
  obtain ⟨j, rfl⟩ := Int.eq_ofNat_of_zero_le h0
  exact wItemListP (k := j) ht hx h (by lia) (by with_unfolding_all rfl)
theorem vItem {o : Expr} {i : Int} {k : Nat} {p pos : Pos} {t : Addr} {l : List Value} {x : Value} (e : Ev F fr₀ P₀ M₀ o (.ref t)) (ht : P₀ t (tupO l)) (hx : l[i.toNat]? = some x) (hi : decide (0 ≤ i ∧ i < 1000) = true) : Ev F fr₀ P₀ M₀ (.Subscript o (.Constant (.int i) k p) pos) x := fun Q h =>
  wSub (e _ (wInt fun _ => sub_tup (Q := Q) ht hx hi h))
theorem vItemL {o : Expr} {i : Int} {k : Nat} {p pos : Pos} {t : Addr} {l : List Value} {m : Nat} {x : Value} (e : Ev F fr₀ P₀ M₀ o (.ref t)) (ht : P₀ t (listOf l.toArray m)) (hx : l[i.toNat]? = some x) (hi : decide (0 ≤ i ∧ i < 1000) = true) : Ev F fr₀ P₀ M₀ (.Subscript o (.Constant (.int i) k p) pos) x := fun Q h =>
  wSub (e _ (wInt fun _ => sub_lst (Q := Q) ht hx hi h))
theorem vItemS {e : Expr} {d : Addr} {o : Obj} {kvs : List (Str × Value)} {x : Str} {k : Nat} {p pos : Pos} {v : Value} (x' : Ev F fr₀ P₀ M₀ e (.ref d)) (m : Mem d o M₀) (hd : o.IsDictOf (PySem.strKind P0 c.w) kvs) (hv : valueAt kvs x = some v) : Ev F fr₀ P₀ M₀ (.Subscript e (.Constant (.str x) k p) pos) v := fun Q h =>
  wSub (x' _ (wStr fun _ => wItemS (Q := Q) m hd hv h (by with_unfolding_all rfl)))
theorem iLit {i : Int} {k : Nat} {pos : Pos} : EvI F fr₀ P₀ M₀ (.Constant (.int i) k pos) i := fun _ h => wInt h
theorem iOf {e : Expr} {i : Int} {t : Tok} (x : Ev F fr₀ P₀ M₀ e (.int i t)) : EvI F fr₀ P₀ M₀ e i := fun Q h => x Q (h t)
theorem iNeg {e : Expr} {i : Int} {pos : Pos} (x : EvI F fr₀ P₀ M₀ e i) : EvI F fr₀ P₀ M₀ (.UnaryOp .USub e pos) (-i) := fun Q h => wUn (x _ fun _ => oNeg (Q := Q) h)
theorem sLit {x : Str} {k : Nat} {pos : Pos} : EvS F fr₀ P₀ M₀ (.Constant (.str x) k pos) x := fun _ h => wStr h
theorem sOf {e : Expr} {x : Str} {t : Tok} (y : Ev F fr₀ P₀ M₀ e (.str x t)) : EvS F fr₀ P₀ M₀ e x := fun Q h => y Q (h t)
noncomputable def opB : CmpOp → Int → Int → Option Bool
  | .Eq, a, b => some (decide (a = b))
  | .NotEq, a, b => some (decide (a ≠ b))
  | .Lt, a, b => some (decide (a < b))
  | .LtE, a, b => some (decide (a ≤ b))
  | .Gt, a, b => some (decide (a > b))
  | .GtE, a, b => some (decide (a ≥ b))
  | _, _, _ => none
theorem cmp_int {op : CmpOp} {a b : Int} {t u : Tok} {bb : Bool} {Q : Value → St → Prop} (ho : opB op a b = some bb) (h : Q (.bool bb) ⟨fr₀, P₀, M₀⟩) : WP F (compareOp op (.int a t) (.int b u)) ⟨fr₀, P₀, M₀⟩ Q := by
  refine ofQ ?_; simp (disch := (k_dflt (
  refine hold ?_
  cases op with
  | Eq => cases ho; exact oEq h
  | NotEq => cases ho; exact oNe h
  | Lt => cases ho; exact oLt h
  | LtE => cases ho; exact oLe h
  | Gt => cases ho; exact oGt h
  | GtE => cases ho; exact oGe h
  | _ => cases ho
  ))) only [↓quiet]
theorem vCmp {l r : Expr} {op : CmpOp} {a b : Int} {bb : Bool} {pos : Pos} (x : EvI F fr₀ P₀ M₀ l a) (y : EvI F fr₀ P₀ M₀ r b) (ho : opB op a b = some bb) (hm : behindInMarks op r = false) : Ev F fr₀ P₀ M₀ (.Compare l [op] [r] pos) (.bool bb) := fun Q h =>
  wCmp (x _ fun _ => y _ fun _ => cmp_int (Q := Q) ho h) hm
theorem tvCmp {l r : Expr} {op : CmpOp} {a b : Int} {bb : Bool} {pos : Pos} {whole : Sem Value} {Q : Bool → St → Prop} (x : EvI F fr₀ P₀ M₀ l a) (y : EvI F fr₀ P₀ M₀ r b) (ho : opB op a b = some bb) (hm : behindInMarks op r = false) (h : Q bb ⟨fr₀, P₀, M₀⟩) : WP F (isTrue (.Compare l [op] [r] pos) F.env whole) ⟨fr₀, P₀, M₀⟩ Q :=
  tCmp (x _ fun _ => y _ fun _ => cmp_int ho (tTruthB h)) hm
noncomputable def opS : CmpOp → Str → Str → Option Bool
  | .Eq, a, b => some (decide (a = b))
  | .NotEq, a, b => some (decide (a ≠ b))
  | _, _, _ => none
theorem cmp_str {op : CmpOp} {a b : Str} {t u : Tok} {bb : Bool} {Q : Value → St → Prop} (ho : opS op a b = some bb) (h : Q (.bool bb) ⟨fr₀, P₀, M₀⟩) : WP F (compareOp op (.str a t) (.str b u)) ⟨fr₀, P₀, M₀⟩ Q := by
  cases op with
  | Eq => cases ho; exact oEqS h
  | NotEq => cases ho; exact oNeS h
  | _ => cases ho
theorem tvCmpS {l r : Expr} {op : CmpOp} {a b : Str} {bb : Bool} {pos : Pos} {whole : Sem Value} {Q : Bool → St → Prop} (x : EvS F fr₀ P₀ M₀ l a) (y : EvS F fr₀ P₀ M₀ r b) (ho : opS op a b = some bb) (hm : behindInMarks op r = false) (h : Q bb ⟨fr₀, P₀, M₀⟩) : WP F (isTrue (.Compare l [op] [r] pos) F.env whole) ⟨fr₀, P₀, M₀⟩ Q :=
  tCmp (x _ fun _ => y _ fun _ => cmp_str ho (tTruthB h)) hm
noncomputable def opN : CmpOp → Value → Option Bool
  | .Is, v => some (v == .none)
  | .IsNot, v => some (!(v == .none))
  | _, _ => none
theorem cmp_none {op : CmpOp} {v : Value} {bb : Bool} {Q : Value → St → Prop} (ho : opN op v = some bb) (hp : plainIs v .none = true) (h : Q (.bool bb) ⟨fr₀, P₀, M₀⟩) : WP F (compareOp op v .none) ⟨fr₀, P₀, M₀⟩ Q := by
  cases op with
  | Is => cases ho; exact oIsN hp h
  | IsNot => cases ho; exact oIsNotN hp h
  | _ => cases ho
theorem tvCmpN {l : Expr} {op : CmpOp} {v : Value} {bb : Bool} {k : Nat} {p pos : Pos} {whole : Sem Value} {Q : Bool → St → Prop} (x : Ev F fr₀ P₀ M₀ l v) (ho : opN op v = some bb) (hp : plainIs v .none = true) (hm : behindInMarks op (.Constant .none k p) = false) (h : Q bb ⟨fr₀, P₀, M₀⟩) : WP F (isTrue (.Compare l [op] [.Constant .none k p] pos) F.env whole) ⟨fr₀, P₀, M₀⟩ Q :=
  tCmp (x _ (wNone (cmp_none ho hp (tTruthB h)))) hm
theorem lNil : EvL F fr₀ P₀ M₀ [] [] := fun _ _ h => wArgs0 h
theorem lCons {e : Expr} {v : Value} {es : List Expr} {vs : List Value} (x : Ev F fr₀ P₀ M₀ e v) (y : EvL F fr₀ P₀ M₀ es vs) (he : starEach (e :: es) F.env = (false, eval e F.env) :: starEach es F.env) : EvL F fr₀ P₀ M₀ (e :: es) (v :: vs) := fun pos Q h => wArgsC (x _ (y pos (kCons v Q) h)) he
theorem wArgsV {es : List Expr} {vs : List Value} {pos : Pos} {Q : List Value → St → Prop} (y : EvL F fr₀ P₀ M₀ es vs) (h : Q vs ⟨fr₀, P₀, M₀⟩) : WP F (wArgs F pos es) ⟨fr₀, P₀, M₀⟩ Q := y pos Q h
theorem vCall (H : Ok F D n) {f : Str} {fp pos : Pos} {a : Addr} {e : Expr} {es : List Expr} {vs : List Value} {Q : Value → St → Prop} (hf : At f (.ref a) D.gl) (hk : keepIn c.K (.ref a) = true) (y : EvL F fr₀ P₀ M₀ (e :: es) vs) (h : WP F (call (.ref a) vs) ⟨fr₀, P₀, M₀⟩ Q)
    (h1 : eval (.Call (.Name f fp) (e :: es) [] pos) F.env = (do callWith pos (← eval (.Name f fp) F.env) [] (backTo pos (starEach (e :: es) F.env)) (backToKw pos (keywordEach [] F.env))))
    (h2 : starEach (e :: es) F.env = (false, eval e F.env) :: starEach es F.env) (h3 : (backTo pos (starEach es F.env)).any (·.1) = false) : WP F (eval (.Call (.Name f fp) (e :: es) [] pos) F.env) ⟨fr₀, P₀, M₀⟩ Q :=
  wCall (wGlob H hf (wWithKn H hk (y pos (kWithn F (.ref a) Q) h) h2 h3)) h1
theorem vCallM (H : Ok F D n) {o : Expr} {name : Str} {ap pos : Pos} {x C a : Addr} {fs : List (Str × Value)} {e : Expr} {es : List Expr} {vs : List Value} {pl : Sem Bool} {Q : Value → St → Prop} (ho : Ev F fr₀ P₀ M₀ o (.ref x)) (i : Ins P₀ x C fs) (cm : ClsM c.K C name a) (hno : (fs.map (·.1)).elem name = false) (y : EvL F fr₀ P₀ M₀ (e :: es) vs) (h : WP F (call (.ref a) (.ref x :: vs)) ⟨fr₀, P₀, M₀⟩ Q)
    (h1 : eval (.Call (.Attribute o name ap) (e :: es) [] pos) F.env = (do
      let ov ← eval o F.env
      standAt ap.atName
      let (f, first) ← holding [ov] (getMethod ov name pl)
      callWith pos f first (backTo pos (starEach (e :: es) F.env)) []))
    (h2 : starEach (e :: es) F.env = (false, eval e F.env) :: starEach es F.env) (h3 : (backTo pos (starEach es F.env)).any (·.1) = false) : WP F (eval (.Call (.Attribute o name ap) (e :: es) [] pos) F.env) ⟨fr₀, P₀, M₀⟩ Q :=
  wCallM (ho _ (wMeth H i cm hno (wWithK1 H cm.2.2.2 (y pos (kWith1 F (.ref a) (.ref x) Q) h) h2 h3))) h1
theorem vCallMD (H : Ok F D n) {o : Expr} {name : Str} {ap pos : Pos} {x C dx a : Addr} {ob : Obj} {fs : List (Str × Value)} {e : Expr} {es : List Expr} {vs : List Value} {pl : Sem Bool} {Q : Value → St → Prop} (ho : Ev F fr₀ P₀ M₀ o (.ref x)) (i : P₀ x (instObj C dx)) (m : Mem dx ob M₀) (hf : IsFld ob fs) (cm : ClsM c.K C name a) (hno : (fs.map (·.1)).elem name = false) (y : EvL F fr₀ P₀ M₀ (e :: es) vs) (h : WP F (call (.ref a) (.ref x :: vs)) ⟨fr₀, P₀, M₀⟩ Q)
    (h1 : eval (.Call (.Attribute o name ap) (e :: es) [] pos) F.env = (do
      let ov ← eval o F.env
      standAt ap.atName
      let (f, first) ← holding [ov] (getMethod ov name pl)
      callWith pos f first (backTo pos (starEach (e :: es) F.env)) []))
    (h2 : starEach (e :: es) F.env = (false, eval e F.env) :: starEach es F.env) (h3 : (backTo pos (starEach es F.env)).any (·.1) = false) : WP F (eval (.Call (.Attribute o name ap) (e :: es) [] pos) F.env) ⟨fr₀, P₀, M₀⟩ Q :=
  wCallM (ho _ (wMethD H i (.m m hf) cm hno (wWithK1 H cm.2.2.2 (y pos (kWith1 F (.ref a) (.ref x) Q) h) h2 h3))) h1
theorem vTup (H : Ok F D n) {es : List Expr} {vs : List Value} {k : Nat} {pos : Pos} {Q : Value → St → Prop} (y : EvL F fr₀ P₀ M₀ es vs) (hsz : Nat.ble vs.length 100 = true) (h : ∀ a P', Le P₀ P' → P' a (tupO vs) → Q (.ref a) ⟨fr₀, P', M₀⟩) : WP F (eval (.Tuple es k pos) F.env) ⟨fr₀, P₀, M₀⟩ Q :=
  wTuple (y pos (kTup F Q) (wNewTup H h (by have := Nat.le_of_ble_eq_true hsz; rw [sizeLine_eq]; lia)))
noncomputable def EvT {c : Cx} (F : Frm c) (fr : List (Str × Option Value)) (P : Pset) (M : List (Addr × Obj)) {T : Type} (es : List Expr) (V : T → List Value) : Prop := ∀ (pos : Pos) (Q : List Value → St → Prop), (∀ z, Q (V z) ⟨fr, P, M⟩) → WP F (wArgs F pos es) ⟨fr, P, M⟩ Q
theorem uNil : EvT F fr₀ P₀ M₀ (T := Unit) [] (fun _ => []) := fun _ _ h => wArgs0 (h ())
theorem uV {T : Type} {e : Expr} {v : Value} {es : List Expr} {V : T → List Value} (x : Ev F fr₀ P₀ M₀ e v) (y : EvT F fr₀ P₀ M₀ es V) (he : starEach (e :: es) F.env = (false, eval e F.env) :: starEach es F.env) : EvT F fr₀ P₀ M₀ (e :: es) (fun z => v :: V z) := fun pos Q h => wArgsC (x _ (y pos (kCons v Q) h)) he
theorem uI {T : Type} {e : Expr} {i : Int} {es : List Expr} {V : T → List Value} (x : EvI F fr₀ P₀ M₀ e i) (y : EvT F fr₀ P₀ M₀ es V) (he : starEach (e :: es) F.env = (false, eval e F.env) :: starEach es F.env) : EvT F fr₀ P₀ M₀ (T := Tok × T) (e :: es) (fun z => .int i z.1 :: V z.2) := fun pos Q h => wArgsC (x _ (fun t => y pos (kCons (.int i t) Q) (fun z => h (t, z)))) he
theorem uS {T : Type} {e : Expr} {i : Str} {es : List Expr} {V : T → List Value} (x : EvS F fr₀ P₀ M₀ e i) (y : EvT F fr₀ P₀ M₀ es V) (he : starEach (e :: es) F.env = (false, eval e F.env) :: starEach es F.env) : EvT F fr₀ P₀ M₀ (T := Tok × T) (e :: es) (fun z => .str i z.1 :: V z.2) := fun pos Q h => wArgsC (x _ (fun t => y pos (kCons (.str i t) Q) (fun z => h (t, z)))) he
theorem wArgsT {T : Type} {es : List Expr} {V : T → List Value} {pos : Pos} {Q : List Value → St → Prop} (y : EvT F fr₀ P₀ M₀ es V) (h : ∀ z, Q (V z) ⟨fr₀, P₀, M₀⟩) : WP F (wArgs F pos es) ⟨fr₀, P₀, M₀⟩ Q := y pos Q h
theorem vTupT (H : Ok F D n) {T : Type} {es : List Expr} {V : T → List Value} {k : Nat} {pos : Pos} {Q : Value → St → Prop} (y : EvT F fr₀ P₀ M₀ es V) (hsz : ∀ z, Nat.ble (V z).length 100 = true) (h : ∀ z a P', Le P₀ P' → P' a (tupO (V z)) → Q (.ref a) ⟨fr₀, P', M₀⟩) : WP F (eval (.Tuple es k pos) F.env) ⟨fr₀, P₀, M₀⟩ Q :=
  wTuple (y pos (kTup F Q) (fun z => wNewTup H (h z) (by have := Nat.le_of_ble_eq_true (hsz z); rw [sizeLine_eq]; lia)))
noncomputable def EvR {c : Cx} (F : Frm c) (fr : List (Str × Option Value)) (M : List (Addr × Obj)) (es : List Expr) (ds : List PyData) : Prop := ∀ (pos : Pos) (P : Pset) (Q : List Value → St → Prop), (∀ vs P', Le P P' → Dts P' vs ds → Q vs ⟨fr, P', M⟩) → WP F (wArgs F pos es) ⟨fr, P, M⟩ Q
theorem rNil : EvR F fr₀ M₀ [] [] := fun _ _ _ h => wArgs0 (h _ _ Le.rfl .nil)
theorem rTup (H : Ok F D n) {T : Type} {tes es : List Expr} {V : T → List Value} {d ds : List PyData} {k : Nat} {tp : Pos} (x : ∀ P, EvT F fr₀ P M₀ tes V) (hsz : ∀ z, Nat.ble (V z).length 100 = true) (hd : ∀ z P, Dts P (V z) d)
    (he : starEach (.Tuple tes k tp :: es) F.env = (false, eval (.Tuple tes k tp) F.env) :: starEach es F.env) (y : EvR F fr₀ M₀ es ds) : EvR F fr₀ M₀ (.Tuple tes k tp :: es) (.tuple d :: ds) :=
  fun pos P Q h => wArgsC (vTupT H (x P) hsz fun z a P' l hP => y pos P' (kCons (.ref a) Q) fun _ P'' l' hs => h _ P'' (l.trans l') (.cons (.tup (l' _ _ hP) (hd z _)) hs)) he
theorem wArgsR {e e' : Expr} {es : List Expr} {ds : List PyData} {pos : Pos} {Q : List Value → St → Prop} (y : EvR F fr₀ M₀ (e :: e' :: es) ds) (h : ∀ vs P', Le P₀ P' → Dts P' vs ds → Q vs ⟨fr₀, P', M₀⟩) : WP F (wArgs F pos (e :: e' :: es)) ⟨fr₀, P₀, M₀⟩ Q := y pos _ _ h
theorem szd {P : Pset} {vs : List Value} {ds : List PyData} (d : Dts P vs ds) (h : Nat.ble ds.length 1000 = true) : vs.length ≤ sizeLine := by have := Nat.le_of_ble_eq_true h; rw [sizeLine_eq, d.length]; lia
theorem vCallT (H : Ok F D n) {T : Type} {f : Str} {fp pos : Pos} {a : Addr} {e : Expr} {es : List Expr} {V : T → List Value} {Q : Value → St → Prop} (hf : At f (.ref a) D.gl) (hk : keepIn c.K (.ref a) = true) (y : EvT F fr₀ P₀ M₀ (e :: es) V) (h : ∀ z, WP F (call (.ref a) (V z)) ⟨fr₀, P₀, M₀⟩ Q)
    (h1 : eval (.Call (.Name f fp) (e :: es) [] pos) F.env = (do callWith pos (← eval (.Name f fp) F.env) [] (backTo pos (starEach (e :: es) F.env)) (backToKw pos (keywordEach [] F.env))))
    (h2 : starEach (e :: es) F.env = (false, eval e F.env) :: starEach es F.env) (h3 : (backTo pos (starEach es F.env)).any (·.1) = false) : WP F (eval (.Call (.Name f fp) (e :: es) [] pos) F.env) ⟨fr₀, P₀, M₀⟩ Q :=
  wCall (wGlob H hf (wWithKn H hk (y pos (kWithn F (.ref a) Q) h) h2 h3)) h1
theorem vCallMT (H : Ok F D n) {T : Type} {o : Expr} {name : Str} {ap pos : Pos} {x C a : Addr} {fs : List (Str × Value)} {e : Expr} {es : List Expr} {V : T → List Value} {pl : Sem Bool} {Q : Value → St → Prop} (ho : Ev F fr₀ P₀ M₀ o (.ref x)) (i : Ins P₀ x C fs) (cm : ClsM c.K C name a) (hno : (fs.map (·.1)).elem name = false) (y : EvT F fr₀ P₀ M₀ (e :: es) V) (h : ∀ z, WP F (call (.ref a) (.ref x :: V z)) ⟨fr₀, P₀, M₀⟩ Q)
    (h1 : eval (.Call (.Attribute o name ap) (e :: es) [] pos) F.env = (do
      let ov ← eval o F.env
      standAt ap.atName
      let (f, first) ← holding [ov] (getMethod ov name pl)
      callWith pos f first (backTo pos (starEach (e :: es) F.env)) []))
    (h2 : starEach (e :: es) F.env = (false, eval e F.env) :: starEach es F.env) (h3 : (backTo pos (starEach es F.env)).any (·.1) = false) : WP F (eval (.Call (.Attribute o name ap) (e :: es) [] pos) F.env) ⟨fr₀, P₀, M₀⟩ Q :=
  wCallM (ho _ (wMeth H i cm hno (wWithK1 H cm.2.2.2 (y pos (kWith1 F (.ref a) (.ref x) Q) h) h2 h3))) h1
theorem vCallMDT (H : Ok F D n) {T : Type} {o : Expr} {name : Str} {ap pos : Pos} {x C dx a : Addr} {ob : Obj} {fs : List (Str × Value)} {e : Expr} {es : List Expr} {V : T → List Value} {pl : Sem Bool} {Q : Value → St → Prop} (ho : Ev F fr₀ P₀ M₀ o (.ref x)) (i : P₀ x (instObj C dx)) (m : Mem dx ob M₀) (hf : IsFld ob fs) (cm : ClsM c.K C name a) (hno : (fs.map (·.1)).elem name = false) (y : EvT F fr₀ P₀ M₀ (e :: es) V) (h : ∀ z, WP F (call (.ref a) (.ref x :: V z)) ⟨fr₀, P₀, M₀⟩ Q)
    (h1 : eval (.Call (.Attribute o name ap) (e :: es) [] pos) F.env = (do
      let ov ← eval o F.env
      standAt ap.atName
      let (f, first) ← holding [ov] (getMethod ov name pl)
      callWith pos f first (backTo pos (starEach (e :: es) F.env)) []))
    (h2 : starEach (e :: es) F.env = (false, eval e F.env) :: starEach es F.env) (h3 : (backTo pos (starEach es F.env)).any (·.1) = false) : WP F (eval (.Call (.Attribute o name ap) (e :: es) [] pos) F.env) ⟨fr₀, P₀, M₀⟩ Q :=
  wCallM (ho _ (wMethD H i (.m m hf) cm hno (wWithK1 H cm.2.2.2 (y pos (kWith1 F (.ref a) (.ref x) Q) h) h2 h3))) h1
theorem szl {n : Nat} (h : Nat.ble n 1000 = true) : n ≤ sizeLine := by have := Nat.le_of_ble_eq_true h; rw [sizeLine_eq]; lia
theorem lt62 {n : Nat} (h : Nat.ble n 1000 = true) : n < 2 ^ 62 := Nat.lt_of_le_of_lt (Nat.le_of_ble_eq_true h) (by decide)
inductive FrOf : List Str → List Value → List Str → List (Str × Option Value) → Prop
  | nil : FrOf [] [] [] []
  | loc {l : Str} {ls : List Str} {fr : List (Str × Option Value)} : FrOf [] [] ls fr → FrOf [] [] (l :: ls) ((l, none) :: fr)
  | arg {p : Str} {ps : List Str} {v : Value} {vs : List Value} {ls : List Str} {fr : List (Str × Option Value)} : FrOf ps vs ls fr → FrOf (p :: ps) (v :: vs) ls ((p, some v) :: fr)
theorem FrOf.eq {ps : List Str} {vs : List Value} {ls : List Str} {fr : List (Str × Option Value)} (h : FrOf ps vs ls fr) : fr0 ps vs ls = fr := by
  induction h with
  | nil => rfl
  | loc _ ih => exact congrArg _ ih
  | arg _ ih => exact congrArg _ ih
theorem wIn {α : Type} {X : Sem α} {ps : List Str} {vs : List Value} {ls : List Str} {fr : List (Str × Option Value)} {Q : α → St → Prop} (h : FrOf ps vs ls fr) (k : WP F X ⟨fr, P₀, M₀⟩ Q) : WP F X ⟨fr0 ps vs ls, P₀, M₀⟩ Q := h.eq ▸ k
end
theorem valueAt_cons {K : Type} [DecidableEq K] (p : K × Value) (l : List (K × Value)) (k : K) : valueAt (p :: l) k = if p.1 = k then some p.2 else valueAt l k := by
  unfold valueAt
  rw [List.find?_cons]
  by_cases h : p.1 = k
  · simp [h]
  · simp [h]
theorem stored_keys {K : Type} [DecidableEq K] {l : List (K × Value)} {k : K} {v : Value} (h : k ∈ l.map (·.1)) : (stored l k v).map (·.1) = l.map (·.1) := by
  refine ofQ ?_; simp (disch := (k_dflt (
  refine hold ?_
  unfold stored
  rw [if_pos (by obtain ⟨p, hp, rfl⟩ := List.mem_map.mp h; rw [List.any_eq_true]; exact ⟨p, hp, by simp⟩), List.map_map]
  refine List.map_congr_left fun p _ => ?_
  by_cases e : p.1 = k <;> simp [e]
  ))) only [↓quiet]
theorem valueAt_map {K : Type} [DecidableEq K] (k k' : K) (v : Value) (l : List (K × Value)) : valueAt (l.map fun kv => if kv.1 = k then (kv.1, v) else kv) k' = if k' = k ∧ k ∈ l.map (·.1) then some v else valueAt l k' := by
  refine ofQ ?_; simp (disch := (k_dflt (
  refine hold ?_
  induction l with
  | nil => exact (if_neg (fun q => nomatch q.2)).symm
  | cons p l ih =>
    rw [List.map_cons, valueAt_cons, valueAt_cons, ih]
    by_cases e : p.1 = k
    · rw [if_pos e]
      by_cases e' : p.1 = k'
      · rw [if_pos e', if_pos ⟨e'.symm.trans e, e ▸ .head _⟩]
      · rw [if_neg e', if_neg e', if_neg (fun q => e' (e.trans q.1.symm)), if_neg (fun q => e' (e.trans q.1.symm))]
    · rw [if_neg e]
      by_cases e' : p.1 = k'
      · rw [if_pos e', if_pos e', if_neg (fun q => e (e'.trans q.1))]
      · rw [if_neg e', if_neg e']
        by_cases e2 : k' = k
        · by_cases hm : k ∈ l.map (·.1)
          · rw [if_pos ⟨e2, hm⟩, if_pos ⟨e2, List.mem_cons_of_mem _ hm⟩]
          · rw [if_neg (fun q => hm q.2), if_neg (fun q => (List.mem_cons.mp q.2).elim (fun h => e h.symm) hm)]
        · rw [if_neg (fun q => e2 q.1), if_neg (fun q => e2 q.1)]
  ))) only [↓quiet]
theorem valueAt_app {K : Type} [DecidableEq K] (k' : K) (q : K × Value) : ∀ l : List (K × Value), valueAt (l ++ [q]) k' = match valueAt l k' with | some v => some v | none => if q.1 = k' then some q.2 else none
  | [] => by rw [List.nil_append, valueAt_cons]; rfl
  | p :: l => by
    rw [List.cons_append, valueAt_cons, valueAt_cons, valueAt_app k' q l]
    by_cases e : p.1 = k'
    · rw [if_pos e, if_pos e]
    · rw [if_neg e, if_neg e]
theorem valueAt_stored {K : Type} [DecidableEq K] {l : List (K × Value)} {k k' : K} {v : Value} : valueAt (stored l k v) k' = if k' = k then some v else valueAt l k' := by
  refine ofQ ?_; simp (disch := (k_dflt (
  refine hold ?_
  by_cases h : k ∈ l.map (·.1)
  · unfold stored
    rw [if_pos (by obtain ⟨p, hp, rfl⟩ := List.mem_map.mp h; rw [List.any_eq_true]; exact ⟨p, hp, by simp⟩), valueAt_map]
    by_cases e : k' = k
    · rw [if_pos e, if_pos ⟨e, h⟩]
    · rw [if_neg e, if_neg (fun q => e q.1)]
  · unfold stored
    rw [if_neg (by rw [List.any_eq_true]; rintro ⟨p, hp, e⟩; exact h (List.mem_map.mpr ⟨p, hp, by simpa using e⟩)), valueAt_app]
    by_cases e : k' = k
    · subst e; rw [valueAt_none h]
    · rw [if_neg e, if_neg (Ne.symm e)]
      cases valueAt l k' <;> rfl
  ))) only [↓quiet]
theorem valueAt_new {K : Type} [DecidableEq K] {l : List (K × Value)} {k k' : K} {u v : Value} (h : valueAt l k' = some u) (hne : k' ≠ k) : valueAt (stored l k v) k' = some u := by rw [valueAt_stored, if_neg hne, h]
theorem At.put_ne {x y : Str} {v u : Value} {fs : List (Str × Value)} (h : At x v fs) (hne : x ≠ y) : At x v (putF y u fs) := by
  induction h with
  | hd => unfold putF; rw [if_neg hne]; exact .hd
  | @tl p l h ih =>
    unfold putF
    by_cases e : p.1 = y
    · rw [if_pos e]; exact .tl h
    · rw [if_neg e]; exact .tl ih
theorem At.put_eq {y : Str} {u v : Value} {fs : List (Str × Value)} (h : At y v fs) : At y u (putF y u fs) := by
  induction h with
  | hd => unfold putF; rw [if_pos rfl]; exact .hd
  | @tl p l h ih =>
    unfold putF
    by_cases e : p.1 = y
    · rw [if_pos e, e]; exact .hd
    · rw [if_neg e]; exact .tl ih
theorem putF_keys {y : Str} {u v : Value} : ∀ {fs : List (Str × Value)}, At y v fs → (putF y u fs).map (·.1) = fs.map (·.1)
  | (z, w) :: r, h => by
    unfold putF
    by_cases e : z = y
    · rw [if_pos e]; rfl
    · rw [if_neg e, List.map_cons, List.map_cons]
      cases h with
      | hd => exact absurd rfl e
      | tl h => rw [putF_keys h]
structure WL where
  L : KtL
  w : Addr
  rw : Addr
  du : Addr
  dg : Addr
  cx : Addr
  cxd : Addr
  nd : Addr
  gs : Addr
  un : Addr
  tu : Addr
  fi : Addr
  dgi : Addr
  ex : Addr
  ty : Addr
  rI : Addr
  rT : Addr
  rC : Addr
  rTr : Addr
  rF : Addr
  rN : Addr
  rNm : Addr
  rD : Addr
  rA : Addr
  rK : Addr
  rf : Addr
  wo : Addr
  inn : Addr
  li : Addr
structure Os where
  o1 : Obj
  o2 : Obj
  o3 : Obj
  o4 : Obj
  o5 : Obj
  w : Obj
  rw : Obj
  du : Obj
  dg : Obj
  cx : Obj
structure Sig where
  A : List Int
  fc : List PyData
  fl : List PyData
  rk : List (Int × Value)
  deep : Int
  at_ : Int
  left : Int
  nodes : Int
noncomputable abbrev mM (W : WL) (os : Os) (X : List (Addr × Obj)) : List (Addr × Obj) := K5 W.L os.o1 os.o2 os.o3 os.o4 os.o5 ((W.w, os.w) :: (W.rw, os.rw) :: (W.du, os.du) :: (W.dg, os.dg) :: (W.cxd, os.cx) :: X)
noncomputable def cxKeys : List Str := [S "unit", S "store", S "kt", S "host", S "asm", S "kinds", S "unmet", S "told", S "diags", S "exprs", S "stmts", S "types", S "scopes", S "rows", S "closed", S "fn", S "owner", S "mid", S "static", S "init", S "checked", S "free", S "loops", S "blocks", S "tparams", S "targets", S "judge", S "turner", S "fitter", S "keeper", S "early", S "deep", S "at", S "notes"]
structure CxF (W : WL) (cfg : Cfg) (deep : Int) (fs : List (Str × Value)) : Prop where
  keys : fs.map (·.1) = cxKeys
  kt : At (S "kt") (.ref W.L.kt) fs
  kinds : At (S "kinds") (.ref W.nd) fs
  diags : At (S "diags") (.ref W.dgi) fs
  exprs : At (S "exprs") (.ref W.ex) fs
  types : At (S "types") (.ref W.ty) fs
  turner : At (S "turner") (.ref W.tu) fs
  fitter : At (S "fitter") (.ref W.fi) fs
  chk : ∃ t, At (S "checked") (.int cfg.chk t) fs
  deep : ∃ t, At (S "deep") (.int deep t) fs
  at_ : ∃ i t, At (S "at") (.int i t) fs
theorem CxF.putDeep {W : WL} {cfg : Cfg} {d d' : Int} {t : Tok} {fs : List (Str × Value)} (h : CxF W cfg d fs) : CxF W cfg d' (putF (S "deep") (.int d' t) fs) := by
  refine ofQ ?_; simp (disch := (k_dflt (
  refine hold ?_
  obtain ⟨_, hd⟩ := h.deep
  obtain ⟨_, hc⟩ := h.chk
  obtain ⟨_, _, ha⟩ := h.at_
  exact ⟨(putF_keys hd).trans h.keys, h.kt.put_ne (by decide), h.kinds.put_ne (by decide), h.diags.put_ne (by decide), h.exprs.put_ne (by decide), h.types.put_ne (by decide), h.turner.put_ne (by decide), h.fitter.put_ne (by decide), ⟨_, hc.put_ne (by decide)⟩, ⟨_, hd.put_eq⟩, ⟨_, _, ha.put_ne (by decide)⟩⟩
  ))) only [↓quiet]
theorem CxF.putAt {W : WL} {cfg : Cfg} {d i : Int} {t : Tok} {fs : List (Str × Value)} (h : CxF W cfg d fs) : CxF W cfg d (putF (S "at") (.int i t) fs) := by
  refine ofQ ?_; simp (disch := (k_dflt (
  refine hold ?_
  obtain ⟨_, hd⟩ := h.deep
  obtain ⟨_, hc⟩ := h.chk
  obtain ⟨_, _, ha⟩ := h.at_
  exact ⟨(putF_keys ha).trans h.keys, h.kt.put_ne (by decide), h.kinds.put_ne (by decide), h.diags.put_ne (by decide), h.exprs.put_ne (by decide), h.types.put_ne (by decide), h.turner.put_ne (by decide), h.fitter.put_ne (by decide), ⟨_, hc.put_ne (by decide)⟩, ⟨_, hd.put_ne (by decide)⟩, ⟨_, _, ha.put_eq⟩⟩
  ))) only [↓quiet]
theorem cxKeys_nd : cxKeys.Nodup := by decide
inductive DO {K : Type} [DecidableEq K] {w : World} (knd : KeyKind P0 w K) (o : Obj) (l : List (K × Value)) : Prop
  | mk (v : List (K × Value)) : o.IsDictOf knd v → v.length ≤ l.length → (∀ (i : Nat) p, l[i]? = some p → valueAt v p.1 = some p.2) → DO knd o l
theorem sItemO {c : Cx} {F : Frm c} {fr₀ : List (Str × Option Value)} {P₀ : Pset} {M₀ : List (Addr × Obj)} {K : Type} [DecidableEq K] {knd : KeyKind P0 c.w K} {d : Addr} {o : Obj} {l : List (K × Value)} {k : K} {key v : Value} {M' : Obj → List (Addr × Obj)} {Q : Unit → St → Prop}
    (U : ∀ o', Mp d o o' M₀ (M' o')) (hd : DO knd o l) (hk : knd.is k key = true) (hn : (l.all fun p => decide (p.1 ≠ k)) = true) (hsz : Nat.ble l.length 1000 = true) (h : ∀ o', DO knd o' ((k, v) :: l) → Q () ⟨fr₀, P₀, M' o'⟩) : WP F (setItem (.ref d) key v) (⟨fr₀, P₀, M₀⟩ : St) Q := by
  refine ofQ ?_; simp (disch := (k_dflt (
  refine hold ?_
  obtain ⟨vs, h1, h2, h3⟩ := hd
  have hb := Nat.le_of_ble_eq_true hsz
  refine sItem U h1 hk (fun o' ho' => h o' ⟨_, ho', Nat.le_trans (stored_length_le _ _ _) (Nat.succ_le_succ h2), fun i p e => ?_⟩) (by rw [sizeLine_eq]; lia)
  cases i with
  | zero => cases e; rw [valueAt_stored, if_pos rfl]
  | succ i => exact valueAt_new (h3 i p e) (of_decide_eq_true (List.all_eq_true.mp hn p (List.mem_of_getElem? e)))
  ))) only [↓quiet]
theorem emptyO (w : World) (k : Nat) : DO (intKind P0 w) (dictOf [] k) [] := ⟨[], emptyI w k, Nat.le_refl _, fun i p e => by rw [List.getElem?_nil] at e; cases e⟩
theorem tac_a : True := by
  refine ofQ ?_; simp (disch := (k_dflt (
  refine hold ?_
  k_with "p" => repeat ((fail_if_success (refine of_eq_true ?_)); rotate_left)
  k_with "mem" => · ((with_reducible repeat first | exact List.mem_cons_self | apply List.mem_cons_of_mem); done)
  k_with "at" => · ((with_reducible repeat constructor); done)
  k_with "ins" => · first | assumption | ((refine' Ins.mono ?_ ?_); k_extra "p"; assumption; k_extra "p"; k_extra "ins")
  k_with "mm" => · with_reducible first | exact Mem.hd | (apply Mem.tl; k_extra "mm") | (apply Mem.pa; k_extra "mm") | (apply Mem.ap; k_extra "mm")
  k_with "mp" => · with_reducible first | exact Mp.hd | (apply Mp.tl; k_extra "mp") | (apply Mp.pa; k_extra "mp") | (apply Mp.ap; k_extra "mp")
  k_with "mpo" => · intro oZ; k_extra "mp"
  k_with "keep" => · exact KF.kp (by assumption) rfl
  k_with "dec" => · first | rfl | (simp; done) | (simp; lia) | (simp [*]; done)
  k_with "br" => focus first
    | ((with_reducible refine pickF ?_ ?_); k_extra "dec")
    | ((with_reducible refine pickT ?_ ?_); k_extra "dec")
  k_with "up" => · first | assumption | ((refine Le.up ?_ (by assumption)); k_extra "up")
  k_with "cel" => · first | assumption | ((refine' CellAt.mono ?_ ?_); k_extra "p"; assumption; k_extra "p"; k_extra "cel")
  k_with "in" => focus ((apply wIn); (· repeat constructor); refine wCons ?_)
  k_with "no" => · first | (rw [CxF.keys (by assumption)]; kernel_rfl) | kernel_rfl
  k_with "fld" => · first | assumption | k_extra "at"
  k_with "fla" => · first | k_extra "at" | assumption
  k_with "fl0" => · first | assumption | exact isFld0 _
  k_with "l62" => · first | exact lt62 rfl | (simp; done) | (simp; lia)
  k_with "l700" => · exact Nat.le_of_ble_eq_true rfl
  k_with "szl" => · first | exact szl rfl | exact szd (by assumption) rfl
  k_with "ievt" => · (intro _; k_extra "evt")
  k_with "dts" => · intro _ _; repeat (first | exact Dts.nil | (refine' Dts.cons (Dt.int _ _) ?_; k_extra "p"))
  k_with "szp" => · rw [sizeLine_eq]; simp; lia
  k_with "ki" => · intros; rfl
  k_with "hi" => · intro _; intros; rfl
  k_with "goT" => · intro _; intros; first | exact go_tup (by assumption) (by assumption) | with_unfolding_all exact PySem.wpAny_pure (by assumption)
  k_with "goL" => · intro _; intros; with_unfolding_all exact PySem.wpAny_pure (by assumption)
  k_with "sts" => · (simp only [List.reverse_cons, List.reverse_nil, List.nil_append, List.cons_append]); k_extra "stores"
  k_with "ir" => · intro _; rfl
  k_with "krf" => · kernel_rfl
  k_with "cls" => · first
    | ((with_reducible refine' KF.a ?_ ?_ ?_); k_extra "p"; assumption; k_extra "p"; k_extra "mem"; k_extra "p"; k_extra "mem")
    | ((with_reducible refine' KF.s ?_ ?_ ?_); k_extra "p"; assumption; k_extra "p"; k_extra "mem"; k_extra "p"; k_extra "mem")
  k_with "clm" => · first
    | ((with_reducible refine' KF.m ?_ ?_ ?_); k_extra "p"; assumption; k_extra "p"; k_extra "mem"; k_extra "p"; k_extra "mem")
  k_with "dcm" => · first
    | ((with_reducible refine' Dc.m ?_ ?_); k_extra "p"; k_extra "mm"; k_extra "p"; assumption)
  k_with "ev" => · first
    | ((with_reducible refine' vName ?_ ?_); k_extra "p"; assumption; k_extra "p"; k_extra "at")
    | ((with_reducible refine' vGlob ?_ ?_); k_extra "p"; assumption; k_extra "p"; k_extra "at")
    | ((with_reducible refine' vItem ?_ ?_ ?_ ?_); k_extra "p"; k_extra "ev"; k_extra "p"; k_extra "up"; k_extra "p"; rfl; k_extra "p"; rfl)
    | ((with_reducible refine' vItemL ?_ ?_ ?_ ?_); k_extra "p"; k_extra "ev"; k_extra "p"; k_extra "up"; k_extra "p"; rfl; k_extra "p"; rfl)
    | ((with_reducible refine' vItemS ?_ ?_ ?_ ?_); k_extra "p"; k_extra "ev"; k_extra "p"; k_extra "mm"; k_extra "p"; assumption; k_extra "p"; assumption)
    | ((with_reducible refine' vGet ?_ ?_ ?_ ?_ ?_ ?_ ?_); k_extra "p"; assumption; k_extra "p"; k_extra "ev"; k_extra "p"; k_extra "ins"; k_extra "p"; k_extra "cls"; k_extra "p"; k_extra "fla"; k_extra "p"; with_unfolding_all rfl; k_extra "p"; with_unfolding_all rfl)
    | ((with_reducible refine' vGetD ?_ ?_ ?_ ?_ ?_ ?_ ?_ ?_ ?_); k_extra "p"; assumption; k_extra "p"; k_extra "ev"; k_extra "p"; k_extra "up"; k_extra "p"; k_extra "mm"; k_extra "p"; assumption; k_extra "p"; k_extra "cls"; k_extra "p"; k_extra "fld"; k_extra "p"; with_unfolding_all rfl; k_extra "p"; with_unfolding_all rfl)
    | ((with_reducible refine' vCmp ?_ ?_ ?_ ?_); k_extra "p"; k_extra "iv"; k_extra "p"; k_extra "iv"; k_extra "p"; rfl; k_extra "p"; with_unfolding_all rfl)
  k_with "iv" => · first
    | with_reducible exact iLit
    | ((with_reducible refine' iNeg ?_); k_extra "p"; k_extra "iv")
    | ((with_reducible refine' iOf ?_); k_extra "p"; k_extra "ev")
  k_with "sv" => · first
    | with_reducible exact sLit
    | ((with_reducible refine' sOf ?_); k_extra "p"; k_extra "ev")
  k_with "evl" => · first
    | with_reducible exact lNil
    | ((with_reducible refine' lCons ?_ ?_ ?_); k_extra "p"; k_extra "ev"; k_extra "p"; k_extra "evl"; k_extra "p"; rfl)
  k_with "evr" => · first
    | with_reducible exact rNil
    | ((with_reducible refine' rTup ?_ ?_ ?_ ?_ ?_ ?_); k_extra "p"; assumption; k_extra "p"; k_extra "ievt"; k_extra "p"; k_extra "ir"; k_extra "p"; k_extra "dts"; k_extra "p"; rfl; k_extra "p"; k_extra "evr")
  k_with "evt" => · first
    | with_reducible exact uNil
    | ((with_reducible refine' uV ?_ ?_ ?_); k_extra "p"; k_extra "ev"; k_extra "p"; k_extra "evt"; k_extra "p"; rfl)
    | ((with_reducible refine' uI ?_ ?_ ?_); k_extra "p"; k_extra "iv"; k_extra "p"; k_extra "evt"; k_extra "p"; rfl)
    | ((with_reducible refine' uS ?_ ?_ ?_); k_extra "p"; k_extra "sv"; k_extra "p"; k_extra "evt"; k_extra "p"; rfl)
  k_with "stores" => · first
    | with_reducible exact Stores.nil
    | ((with_reducible refine' Stores.cons ?_ ?_); k_extra "p"; k_extra "at"; k_extra "p"; k_extra "stores")
  k_with "wEval" => focus first
    | ((with_reducible refine' Ev.run ?_ ?_); k_extra "p"; k_extra "ev"; k_extra "p")
    | ((with_reducible refine wInt ?_); intro _)
    | ((with_reducible refine' wBlt ?_ ?_ ?_); k_extra "p"; assumption; k_extra "p"; k_extra "at"; k_extra "p")
    | ((with_reducible refine' wCell ?_ ?_ ?_ ?_ ?_ ?_); k_extra "p"; assumption; k_extra "p"; assumption; k_extra "p"; assumption; k_extra "p"; k_extra "cel"; k_extra "p"; rotate_left; k_extra "p"; (decide); k_extra "p")
    | ((with_reducible refine' vCall ?_ ?_ ?_ ?_ ?_ ?_ ?_ ?_); k_extra "p"; assumption; k_extra "p"; k_extra "at"; k_extra "p"; k_extra "keep"; k_extra "p"; k_extra "evl"; k_extra "p"; rotate_left; k_extra "p"; rfl; k_extra "p"; rfl; k_extra "p"; rfl; k_extra "p")
    | ((with_reducible refine' vCallT ?_ ?_ ?_ ?_ ?_ ?_ ?_ ?_); k_extra "p"; assumption; k_extra "p"; k_extra "at"; k_extra "p"; k_extra "keep"; k_extra "p"; k_extra "evt"; k_extra "p"; rotate_left; k_extra "p"; rfl; k_extra "p"; rfl; k_extra "p"; rfl; k_extra "p"; intro _)
    | ((with_reducible refine' vCallM ?_ ?_ ?_ ?_ ?_ ?_ ?_ ?_ ?_ ?_); k_extra "p"; assumption; k_extra "p"; k_extra "ev"; k_extra "p"; k_extra "ins"; k_extra "p"; k_extra "clm"; k_extra "p"; k_extra "krf"; k_extra "p"; k_extra "evl"; k_extra "p"; rotate_left; k_extra "p"; rfl; k_extra "p"; rfl; k_extra "p"; rfl; k_extra "p")
    | ((with_reducible refine' vCallMT ?_ ?_ ?_ ?_ ?_ ?_ ?_ ?_ ?_ ?_); k_extra "p"; assumption; k_extra "p"; k_extra "ev"; k_extra "p"; k_extra "ins"; k_extra "p"; k_extra "clm"; k_extra "p"; k_extra "krf"; k_extra "p"; k_extra "evt"; k_extra "p"; rotate_left; k_extra "p"; rfl; k_extra "p"; rfl; k_extra "p"; rfl; k_extra "p"; intro _)
    | ((with_reducible refine' vCallMD ?_ ?_ ?_ ?_ ?_ ?_ ?_ ?_ ?_ ?_ ?_ ?_); k_extra "p"; assumption; k_extra "p"; k_extra "ev"; k_extra "p"; k_extra "up"; k_extra "p"; k_extra "mm"; k_extra "p"; assumption; k_extra "p"; k_extra "clm"; k_extra "p"; k_extra "no"; k_extra "p"; k_extra "evl"; k_extra "p"; rotate_left; k_extra "p"; rfl; k_extra "p"; rfl; k_extra "p"; rfl; k_extra "p")
    | ((with_reducible refine' vCallMDT ?_ ?_ ?_ ?_ ?_ ?_ ?_ ?_ ?_ ?_ ?_ ?_); k_extra "p"; assumption; k_extra "p"; k_extra "ev"; k_extra "p"; k_extra "up"; k_extra "p"; k_extra "mm"; k_extra "p"; assumption; k_extra "p"; k_extra "clm"; k_extra "p"; k_extra "no"; k_extra "p"; k_extra "evt"; k_extra "p"; rotate_left; k_extra "p"; rfl; k_extra "p"; rfl; k_extra "p"; rfl; k_extra "p"; intro _)
    | with_reducible refine wSub ?_
    | ((with_reducible refine' wCallM ?_ ?_); k_extra "p"; rotate_left; k_extra "p"; rfl; k_extra "p")
    | ((with_reducible refine' wCall ?_ ?_); k_extra "p"; rotate_left; k_extra "p"; rfl; k_extra "p")
    | ((with_reducible refine wStr ?_); intro _)
    | ((with_reducible refine' vTup ?_ ?_ ?_ ?_); k_extra "p"; assumption; k_extra "p"; k_extra "evl"; k_extra "p"; rfl; k_extra "p")
    | ((with_reducible refine' vTupT ?_ ?_ ?_ ?_); k_extra "p"; assumption; k_extra "p"; k_extra "evt"; k_extra "p"; k_extra "ir"; k_extra "p"; intro _)
    | with_reducible refine wTuple ?_
    | with_reducible refine wNone ?_
    | with_reducible refine wBool ?_
    | ((with_reducible refine' wCmp ?_ ?_); k_extra "p"; rotate_left; k_extra "p"; with_unfolding_all rfl; k_extra "p")
    | with_reducible refine wBin ?_
    | with_reducible refine wUn ?_
    | with_reducible refine wIfExp ?_
    | with_reducible refine wOr ?_
    | with_reducible refine wAnd ?_
    | with_reducible refine wOne ?_
  k_with "wExec" => focus first
    | with_reducible refine wReturn ?_
    | with_reducible refine wIf ?_
    | ((with_reducible refine' wAssign ?_ ?_ ?_); k_extra "p"; assumption; k_extra "p"; rotate_left; k_extra "p"; rfl; k_extra "p")
    | ((with_reducible refine' Mine.Internal.wExpr ?_ ?_ ?_); k_extra "p"; assumption; k_extra "p"; rotate_left; k_extra "p"; rfl; k_extra "p")
    | ((with_reducible refine' wSetAttr ?_ ?_); k_extra "p"; rotate_left; k_extra "p"; rfl; k_extra "p")
    | ((with_reducible refine' wSetItem ?_ ?_); k_extra "p"; rotate_left; k_extra "p"; rfl; k_extra "p")
    | ((with_reducible refine' wAugItem ?_ ?_); k_extra "p"; rotate_left; k_extra "p"; k_extra "hi"; k_extra "p")
    | with_reducible refine wAugAttr ?_
    | with_reducible refine wTry ?_
    | ((with_reducible refine' wAssignU ?_ ?_ ?_); k_extra "p"; rotate_left; k_extra "p"; rfl; k_extra "p"; rfl; k_extra "p")
    | ((with_reducible refine' wAugName ?_ ?_ ?_); k_extra "p"; assumption; k_extra "p"; k_extra "at"; k_extra "p")
  k_with "wTest" => focus first
    | ((with_reducible refine' tvCmp ?_ ?_ ?_ ?_ ?_); k_extra "p"; k_extra "iv"; k_extra "p"; k_extra "iv"; k_extra "p"; rfl; k_extra "p"; with_unfolding_all rfl; k_extra "p")
    | ((with_reducible refine' tvCmpS ?_ ?_ ?_ ?_ ?_); k_extra "p"; k_extra "sv"; k_extra "p"; k_extra "sv"; k_extra "p"; rfl; k_extra "p"; with_unfolding_all rfl; k_extra "p")
    | ((with_reducible refine' tvCmpN ?_ ?_ ?_ ?_ ?_); k_extra "p"; k_extra "ev"; k_extra "p"; rfl; k_extra "p"; rfl; k_extra "p"; with_unfolding_all rfl; k_extra "p")
    | ((with_reducible refine' tCmp ?_ ?_); k_extra "p"; rotate_left; k_extra "p"; with_unfolding_all rfl; k_extra "p")
    | ((with_reducible refine' tChain ?_ ?_); k_extra "p"; rotate_left; k_extra "p"; with_unfolding_all rfl; k_extra "p")
    | with_reducible refine tOr ?_
    | with_reducible refine tAnd ?_
    | with_reducible refine tOr0 ?_
    | with_reducible refine tAnd0 ?_
    | with_reducible refine tNot ?_
    | ((with_reducible refine' tPlain ?_ ?_); k_extra "p"; rotate_left; k_extra "p"; rfl; k_extra "p")
  k_with "wTail" => focus first
    | ((with_reducible refine' sub_tup ?_ ?_ ?_ ?_); k_extra "p"; k_extra "up"; k_extra "p"; rfl; k_extra "p"; rfl; k_extra "p")
    | ((with_reducible refine' wItemS ?_ ?_ ?_ ?_ ?_); k_extra "p"; k_extra "mm"; k_extra "p"; assumption; k_extra "p"; assumption; k_extra "p"; rotate_left; k_extra "p"; with_unfolding_all rfl; k_extra "p")
    | ((with_reducible refine' sub_lst ?_ ?_ ?_ ?_); k_extra "p"; k_extra "up"; k_extra "p"; rfl; k_extra "p"; rfl; k_extra "p")
  k_with "wWith" => focus first
    | ((with_reducible refine' wWithBn ?_ ?_ ?_); k_extra "p"; rotate_left; k_extra "p"; rfl; k_extra "p"; rfl; k_extra "p")
    | ((with_reducible refine' wWithB1 ?_ ?_ ?_); k_extra "p"; rotate_left; k_extra "p"; rfl; k_extra "p"; rfl; k_extra "p")
    | ((with_reducible refine' wWithT ?_ ?_ ?_); k_extra "p"; rotate_left; k_extra "p"; rfl; k_extra "p"; rfl; k_extra "p")
    | ((with_reducible refine' wWithKn ?_ ?_ ?_ ?_ ?_); k_extra "p"; assumption; k_extra "p"; k_extra "keep"; k_extra "p"; rotate_left; k_extra "p"; rfl; k_extra "p"; rfl; k_extra "p")
    | ((with_reducible refine' wWithK1 ?_ ?_ ?_ ?_ ?_); k_extra "p"; assumption; k_extra "p"; k_extra "keep"; k_extra "p"; rotate_left; k_extra "p"; rfl; k_extra "p"; rfl; k_extra "p")
    | ((with_reducible refine' wWithK0n ?_ ?_ ?_); k_extra "p"; assumption; k_extra "p"; k_extra "keep"; k_extra "p")
  k_with "wOp" => focus first
    | ((with_reducible refine' cmp_int ?_ ?_); k_extra "p"; rfl; k_extra "p")
    | ((with_reducible refine' cmp_str ?_ ?_); k_extra "p"; rfl; k_extra "p")
    | ((with_reducible refine' cmp_none ?_ ?_ ?_); k_extra "p"; rfl; k_extra "p"; rfl; k_extra "p")
  k_with "w" => focus first
    | ((guard_target = WP _ (eval _ _) _ _); k_extra "wEval")
    | ((guard_target = WP _ (wArgs _ _ _) _ _); first | ((with_reducible refine' wArgsV ?_ ?_); k_extra "p"; k_extra "evl"; k_extra "p") | ((with_reducible refine' wArgsT ?_ ?_); k_extra "p"; k_extra "evt"; k_extra "p"; intro _) | ((with_reducible refine' wArgsR ?_ ?_); k_extra "p"; k_extra "evr"; k_extra "p") | ((with_reducible refine' wArgsC ?_ ?_); k_extra "p"; rotate_left; k_extra "p"; rfl; k_extra "p"))
    | ((guard_target = WP _ (exec _ _) _ _); k_extra "wExec")
    | ((guard_target = WP _ (execs _ _) _ _); first | with_reducible refine wNil ?_ | with_reducible refine wCons ?_)
    | ((guard_target = WP _ (PySem.isTrue _ _ _) _ _); k_extra "wTest")
    | ((guard_target = WP _ (truthy _) _ _); first | with_reducible refine tTruthB ?_ | with_reducible refine tTruthI ?_ | ((with_reducible refine' tTruthL ?_ ?_ ?_); k_extra "p"; k_extra "up"; k_extra "p"; k_extra "l62"; k_extra "p"))
    | ((guard_target = WP _ (compareOp _ _ _) _ _); k_extra "wOp")
    | ((guard_target = WP _ (subscriptTail _ _ _ _) _ _); k_extra "wTail")
    | ((guard_target = WP _ (callWith _ _ _ _ _) _ _); k_extra "wWith")
    | ((guard_target = WP _ (getAttr _ _ _) _ _); first | ((with_reducible refine' wGet ?_ ?_ ?_ ?_ ?_ ?_); k_extra "p"; assumption; k_extra "p"; k_extra "ins"; k_extra "p"; k_extra "cls"; k_extra "p"; k_extra "fla"; k_extra "p"; rotate_left; k_extra "p"; rfl; k_extra "p") | ((with_reducible refine' wGetD ?_ ?_ ?_ ?_ ?_ ?_ ?_); k_extra "p"; assumption; k_extra "p"; k_extra "up"; k_extra "p"; k_extra "dcm"; k_extra "p"; k_extra "cls"; k_extra "p"; k_extra "fld"; k_extra "p"; rotate_left; k_extra "p"; rfl; k_extra "p"))
    | ((guard_target = WP _ (getMethod _ _ _) _ _); first | ((with_reducible refine' wMeth ?_ ?_ ?_ ?_ ?_); k_extra "p"; assumption; k_extra "p"; k_extra "ins"; k_extra "p"; k_extra "clm"; k_extra "p"; k_extra "krf"; k_extra "p") | ((with_reducible refine' wMethD ?_ ?_ ?_ ?_ ?_ ?_); k_extra "p"; assumption; k_extra "p"; k_extra "up"; k_extra "p"; k_extra "dcm"; k_extra "p"; k_extra "clm"; k_extra "p"; k_extra "no"; k_extra "p") | ((with_reducible refine' mAppend ?_ ?_); k_extra "p"; k_extra "mm"; k_extra "p"))
    | ((guard_target = WP _ (newTuple _) _ _); ((with_reducible refine' wNewTup ?_ ?_ ?_); k_extra "p"; assumption; k_extra "p"; rotate_left; k_extra "p"; k_extra "szl"; k_extra "p"))
    | ((guard_target = After _ _ _ _ _); first | with_reducible refine After.nx ?_ | with_reducible refine After.rt ?_)
    | ((guard_target = Ret _ _ _ _); first | with_reducible refine Ret.rt ?_ | with_reducible refine Ret.nx ?_)
    | ((guard_target = Stored _ _ _ _); ((with_reducible refine' Stored.mk ?_ ?_); k_extra "p"; k_extra "at"; k_extra "p"))
    | ((guard_target = WP _ (binaryOp _ _ _) _ _); first | ((with_reducible refine oAdd ?_); intro _) | ((with_reducible refine oSub ?_); intro _))
    | ((guard_target = WP _ (inplaceOp _ _ _) _ _); first | ((with_reducible refine oIAdd ?_); intro _) | ((with_reducible refine oISub ?_); intro _))
    | ((guard_target = WP _ (evalPairs _) _ _); first | refine wPairsC ?_ | refine wPairs0 ?_)
    | ((guard_target = WP _ (Bind.bind _ _) _ _); refine wStandThen ?_)
    | ((guard_target = WP _ (setAttr _ _ _) _ _); first | ((with_reducible refine' wSetP ?_ ?_ ?_ ?_ ?_ ?_ ?_ ?_); k_extra "p"; assumption; k_extra "p"; k_extra "up"; k_extra "p"; k_extra "mpo"; k_extra "p"; assumption; k_extra "p"; k_extra "cls"; k_extra "p"; k_extra "at"; k_extra "p"; k_extra "l700"; k_extra "p"; (intro _ _)) | ((with_reducible refine' wSetN ?_ ?_ ?_ ?_ ?_ ?_ ?_ ?_); k_extra "p"; assumption; k_extra "p"; k_extra "up"; k_extra "p"; k_extra "mpo"; k_extra "p"; k_extra "fl0"; k_extra "p"; k_extra "cls"; k_extra "p"; k_extra "krf"; k_extra "p"; k_extra "l700"; k_extra "p"; (intro oZ hZ); (try simp only [List.nil_append, List.cons_append] at hZ); (revert oZ hZ); (intro _ _)))
    | ((guard_target = WP _ (unaryOp _ _) _ _); ((with_reducible refine oNeg ?_); intro _))
    | ((guard_target = WP _ (assign _ _ _) _ _); first | ((with_reducible refine' wTargetN ?_ ?_ ?_); k_extra "p"; assumption; k_extra "p"; k_extra "at"; k_extra "p") | ((with_reducible refine' wTarget3 ?_ ?_ ?_ ?_ ?_ ?_); k_extra "p"; assumption; k_extra "p"; k_extra "up"; k_extra "p"; k_extra "at"; k_extra "p"; k_extra "at"; k_extra "p"; k_extra "at"; k_extra "p") | ((with_reducible refine' wTarget2 ?_ ?_ ?_ ?_ ?_); k_extra "p"; assumption; k_extra "p"; k_extra "up"; k_extra "p"; k_extra "at"; k_extra "p"; k_extra "at"; k_extra "p"))
    | ((guard_target = WP _ (call (Value.builtin _) _) _ _); first | ((with_reducible refine' cAppend ?_ ?_ ?_); k_extra "p"; k_extra "mp"; k_extra "p"; rotate_left; k_extra "p"; k_extra "szp"; k_extra "p") | ((with_reducible refine' cLenListM ?_ ?_ ?_); k_extra "p"; k_extra "mm"; k_extra "p"; k_extra "l62"; k_extra "p"; intro _) | ((with_reducible refine' cLenListP ?_ ?_ ?_); k_extra "p"; k_extra "up"; k_extra "p"; k_extra "l62"; k_extra "p"; intro _) | ((with_reducible refine' cLenTup ?_ ?_ ?_); k_extra "p"; k_extra "up"; k_extra "p"; k_extra "l62"; k_extra "p"; intro _))
    | k_extra "br"
  k_with "forT" => focus ((with_reducible refine' wForTup ?_ ?_ ?_ ?_); k_extra "p"; assumption; k_extra "p"; rotate_left; k_extra "p"; k_extra "goT"; k_extra "p"; k_extra "hs"; k_extra "p")
  k_with "forL" => focus ((with_reducible refine' wForList ?_ ?_ ?_ ?_); k_extra "p"; assumption; k_extra "p"; rotate_left; k_extra "p"; k_extra "goL"; k_extra "p"; k_extra "hs"; k_extra "p")
  k_with "forR" => focus ((with_reducible refine' wForRange ?_ ?_ ?_ ?_); k_extra "p"; assumption; k_extra "p"; rotate_left; k_extra "p"; k_extra "goL"; k_extra "p"; k_extra "hs"; k_extra "p")
  k_with "hs" => · intro _; rfl
  trivial
  ))) only [↓quiet]
section
variable {c : Cx} {F : Frm c} {D : FnD} {n : Nat} {fr₀ : List (Str × Option Value)} {P₀ : Pset} {M₀ : List (Addr × Obj)}
theorem c_bad (k : KF c.K) (H : Ok F D (n + 1)) {x : Value} {Q : Value → St → Prop} (h : ∀ v P', Le P₀ P' → Xv P' v badE → Q v ⟨fr₀, P', M₀⟩) : WP F (call (.ref 719) [x]) ⟨fr₀, P₀, M₀⟩ Q := by
  refine ofQ ?_; simp (disch := (k_dflt (
  refine hold ?_
  refine wDef H (fn_bad k) rfl fun F' H' => ?_
  k_extra "in"
  repeat k_extra "w"
  intro a P' l hP
  repeat k_extra "w"
  exact h _ _ l (.tup hP (.cons (.int _ _) (.cons (.int _ _) (.cons (.int _ _) .nil))))
  ))) only [↓quiet]
theorem c_is_bad (k : KF c.K) (H : Ok F D (n + 1)) {x : Value} {e : Ex} (he : Xv P₀ x e) {Q : Value → St → Prop} (h : Q (.bool (decide (e.k = 15))) ⟨fr₀, P₀, M₀⟩) : WP F (call (.ref 733) [x]) ⟨fr₀, P₀, M₀⟩ Q := by
  obtain ⟨a, t, u, vr, rfl, hP, hr⟩ := he.inv
  refine wDef H (fn_is_bad k) rfl fun F' H' => ?_
  k_extra "in"
  repeat k_extra "w"
  exact h
end
section
variable {c : Cx} {F : Frm c} {D : FnD} {n : Nat} {fr₀ : List (Str × Option Value)} {P₀ : Pset} {M₀ : List (Addr × Obj)}
theorem c_row (k : KF c.K) (H : Ok F D (n + 1)) {L : KtL} {R : List RKey} {ds ws os : List Int} {o1 o2 o3 o4 o5 : Obj} {X : List (Addr × Obj)} (hi : KtI L P₀) (hs : KtS c P₀ R ds ws os o1 o2 o3 o4 o5)
    {i : Nat} {t : Tok} {r : RKey} (hr : R[i]? = some r) {Q : Value → St → Prop} (h : ∀ v, Dt P₀ v (rowData r) → Q v ⟨fr₀, P₀, K5 L o1 o2 o3 o4 o5 X⟩) :
    WP F (call (.ref 99) [.ref L.kt, .int i t]) ⟨fr₀, P₀, K5 L o1 o2 o3 o4 o5 X⟩ Q := by
  refine ofQ ?_; simp (disch := (k_dflt (
  refine hold ?_
  obtain ⟨vs, m, rfl, hd⟩ := hs.rows
  have hlt : i < R.length := (List.getElem?_eq_some_iff.mp hr).1
  have hvl : vs.length = R.length := by simpa using hd.length
  have hsm := hs.sm
  obtain ⟨v, hv, hdv⟩ := hd.get (i := i) (d := rowData r) (by simp [hr])
  refine wDef H (fn_KindTable_row k) rfl fun F' H' => ?_
  obtain ⟨hI, -⟩ := hi
  k_extra "in"
  repeat k_extra "w"
  refine' wItemListM (k := i) (l := vs) ?hm hv ?_ (by lia) (hs := ?hs)
  case hm => k_extra "mm"
  case hs => with_unfolding_all rfl
  repeat k_extra "w"
  exact h _ hdv
  ))) only [↓quiet]
theorem c_row_level (k : KF c.K) (H : Ok F D (n + 1)) {s : Int} {t : Tok} {Q : Value → St → Prop} (h : ∀ t, Q (.int (if s = 2 ∨ s = 3 ∨ s = 4 then 1 else 0) t) ⟨fr₀, P₀, M₀⟩) : WP F (call (.ref 127) [.int s t]) ⟨fr₀, P₀, M₀⟩ Q := by
  refine ofQ ?_; simp (disch := (k_dflt (
  refine hold ?_
  refine wDef H (fn_row_level k) rfl fun F' H' => ?_
  k_extra "in"
  by_cases h2 : s = 2
  · subst h2; repeat k_extra "w"
    exact h _
  by_cases h3 : s = 3
  · subst h3; repeat k_extra "w"
    exact h _
  by_cases h4 : s = 4
  · subst h4; repeat k_extra "w"
    exact h _
  rw [if_neg (by simp [h2, h3, h4])] at h
  repeat k_extra "w"
  exact h _
  ))) only [↓quiet]
theorem c_row_length (k : KF c.K) (H : Ok F D (n + 1)) {s : Int} {t : Tok} {Q : Value → St → Prop} (h : ∀ t, Q (.int (if s = 2 ∨ s = 3 then 3 else if s = 10 then 4 else 2) t) ⟨fr₀, P₀, M₀⟩) : WP F (call (.ref 134) [.int s t]) ⟨fr₀, P₀, M₀⟩ Q := by
  refine ofQ ?_; simp (disch := (k_dflt (
  refine hold ?_
  refine wDef H (fn_row_length k) rfl fun F' H' => ?_
  k_extra "in"
  by_cases h2 : s = 2
  · subst h2; repeat k_extra "w"
    exact h _
  by_cases h3 : s = 3
  · subst h3; repeat k_extra "w"
    exact h _
  rw [if_neg (by simp [h2, h3])] at h
  by_cases h4 : s = 10
  · subst h4; repeat k_extra "w"
    exact h _
  rw [if_neg h4] at h
  repeat k_extra "w"
  exact h _
  ))) only [↓quiet]
inductive RowGo (len : Nat) : RKey → Prop
  | cls (b : Int) : 0 < b → b ∉ [20, 9, 10, 11, 12, 13, 14, 15, 16, 17, 18, 19, 1, 4] → RowGo len (2, b, true)
  | val (b : Int) : 0 < b → b ∉ [20, 9, 10, 11, 12, 13, 14, 15, 16, 17, 18, 19, 1, 4] → RowGo len (3, b, true)
  | arr (b : Nat) : b ≠ 0 → b ≠ 14 → b < len → RowGo len (4, b, false)
  | var (b : Int) : 0 ≤ b → RowGo len (6, b, false)
noncomputable def innerOf : RKey → List Int
  | (4, b, _) => [b]
  | _ => []
theorem c_inner (k : KF c.K) (H : Ok F D (n + 1)) {len : Nat} {r : RKey} (hr : RowGo len r) {v : Value} (hv : Dt P₀ v (rowData r)) {Q : Value → St → Prop} (h : ∀ a vs P', Le P₀ P' → P' a (tupO vs) → Dts P' vs ((innerOf r).map .int) → Q (.ref a) ⟨fr₀, P', M₀⟩) : WP F (call (.ref 120) [v]) ⟨fr₀, P₀, M₀⟩ Q := by
  refine ofQ ?_; simp (disch := (k_dflt (
  refine hold ?_
  refine wDef H (fn_inner_kinds k) rfl fun F' H' => ?_
  k_extra "in"
  cases hr with
  | cls b _ _ =>
    obtain ⟨a, t, u, e, rfl, hP, hE⟩ := row_inv3 hv
    repeat k_extra "w"
    exact h _ _ _ Le.rfl hE .nil
  | val b _ _ =>
    obtain ⟨a, t, u, e, rfl, hP, hE⟩ := row_inv3 hv
    repeat k_extra "w"
    exact h _ _ _ Le.rfl hE .nil
  | arr b _ _ _ =>
    obtain ⟨a, t, u, rfl, hP⟩ := row_inv2 hv
    repeat k_extra "w"
    intro x P' l hx
    repeat k_extra "w"
    exact h _ _ _ l hx (.cons (.int _ _) .nil)
  | var b _ =>
    obtain ⟨a, t, u, rfl, hP⟩ := row_inv2 hv
    repeat k_extra "w"
    intro x P' l hx
    repeat k_extra "w"
    exact h _ _ _ l hx .nil
  ))) only [↓quiet]
theorem c_may_stand (k : KF c.K) (H : Ok F D (n + 2)) {L : KtL} {R : List RKey} {ds ws os : List Int} {o1 o2 o3 o4 o5 : Obj} {X : List (Addr × Obj)} (hi : KtI L P₀) (hs : KtS c P₀ R ds ws os o1 o2 o3 o4 o5)
    {i : Nat} {t : Tok} {a b : Int} {f : Bool} (hr : R[i]? = some (a, b, f)) (h0 : i ≠ 0) (h14 : i ≠ 14) (ha : a ≤ 4 ∨ a = 6) {Q : Value → St → Prop} (h : Q (.bool true) ⟨fr₀, P₀, K5 L o1 o2 o3 o4 o5 X⟩) :
    WP F (call (.ref 162) [.ref L.kt, .int i t]) ⟨fr₀, P₀, K5 L o1 o2 o3 o4 o5 X⟩ Q := by
  refine ofQ ?_; simp (disch := (k_dflt (
  refine hold ?_
  obtain ⟨hI, -⟩ := id hi
  refine wDef H (fn_may_stand k) rfl fun F' H' => ?_
  k_extra "in"
  repeat k_extra "w"
  refine c_row k H' hi hs hr fun v hv => ?_
  have tail : ∀ x t rest, v = .ref x → P₀ x (tupO (.int a t :: rest)) → True := fun _ _ _ _ _ => trivial
  cases f with
  | false =>
    obtain ⟨x, t, u, rfl, hP⟩ := row_inv2 hv
    repeat k_extra "w"
    rcases ha with ha | rfl
    · repeat k_extra "w"
      rw [decide_eq_true ha]
      exact h
    · repeat k_extra "w"
      exact h
  | true =>
    obtain ⟨x, t, u, e, rfl, hP, hE⟩ := row_inv3 hv
    repeat k_extra "w"
    rcases ha with ha | rfl
    · repeat k_extra "w"
      rw [decide_eq_true ha]
      exact h
    · repeat k_extra "w"
      exact h
  ))) only [↓quiet]
theorem c_check_args0 (k : KF c.K) (H : Ok F D (n + 1)) {x : Value} {e : Addr} (hE : P₀ e (tupO [])) {Q : Value → St → Prop} (h : Q .none ⟨fr₀, P₀, M₀⟩) : WP F (call (.ref 155) [x, .ref e]) ⟨fr₀, P₀, M₀⟩ Q := by
  refine wDef H (fn_check_args k) rfl fun F' H' => ?_
  k_extra "in"
  k_extra "forT"
  repeat k_extra "w"
  refine OverTup.l hE fun I => TurnsL.nil ?_
  repeat k_extra "w"
  exact h
end
section
variable {c : Cx} {F : Frm c} {D : FnD} {n : Nat} {fr₀ : List (Str × Option Value)} {P₀ : Pset} {M₀ : List (Addr × Obj)}
theorem c_check_named (ks : KS c) (H : Ok F D (n + 2)) {x : Value} {a e : Addr} {s b : Int} {t u : Tok} (hP : P₀ a (tupO [.int s t, .int b u, .ref e])) (hE : P₀ e (tupO [])) (hb : 0 < b) (hb' : b ∉ [20, 9, 10, 11, 12, 13, 14, 15, 16, 17, 18, 19, 1, 4])
    {Q : Value → St → Prop} (h : ∀ P', Le P₀ P' → Q .none ⟨fr₀, P', M₀⟩) : WP F (call (.ref 148) [x, .ref a]) ⟨fr₀, P₀, M₀⟩ Q := by
  refine ofQ ?_; simp (disch := (k_dflt (
  refine hold ?_
  have k := ks.kf
  refine wDef H (fn_check_named k) rfl fun F' H' => ?_
  k_extra "in"
  repeat k_extra "w"
  obtain ⟨o, kvs, ho, hd, hk⟩ := ks.tid
  refine WP.kobj H' ho fun P' l hP' => ?_
  refine oInD (.p hP') hd (show Lo 78 from rfl) (isI _ _ _) ?_
  rw [valueAt_none (by rw [hk]; exact hb')]
  repeat k_extra "w"
  refine c_check_args0 k H' (l _ _ hE) ?_
  repeat k_extra "w"
  exact h _ l
  ))) only [↓quiet]
theorem c_check_kind_row (ks : KS c) (H : Ok F D (n + 4)) {L : KtL} {R : List RKey} {ds ws os : List Int} {o1 o2 o3 o4 o5 : Obj} {X : List (Addr × Obj)} (hi : KtI L P₀) (hs : KtS c P₀ R ds ws os o1 o2 o3 o4 o5)
    {r : RKey} (hr : RowGo R.length r) (hel : ∀ b : Nat, r = (4, (b : Int), false) → ∃ a i f, R[b]? = some (a, i, f) ∧ (a ≤ 4 ∨ a = 6)) {v : Value} (hv : Dt P₀ v (rowData r)) {Q : Value → St → Prop} (h : ∀ P', Le P₀ P' → Q .none ⟨fr₀, P', K5 L o1 o2 o3 o4 o5 X⟩) :
    WP F (call (.ref 141) [.ref L.kt, v]) ⟨fr₀, P₀, K5 L o1 o2 o3 o4 o5 X⟩ Q := by
  refine ofQ ?_; simp (disch := (k_dflt (
  refine hold ?_
  have k := ks.kf
  obtain ⟨hI, -⟩ := id hi
  refine wDef H (fn_check_kind_row k) rfl fun F' H' => ?_
  k_extra "in"
  cases hr with
  | cls b h1 h2 =>
    obtain ⟨a, t, u, e, rfl, hP, hE⟩ := row_inv3 hv
    repeat k_extra "w"
    refine c_row_length k H' fun _ => ?_
    repeat k_extra "w"
    k_extra "forT"
    repeat k_extra "w"
    refine c_inner k H' (len := 0) (.cls b h1 h2) hv fun x vs P' l hx hd => ?_
    cases hd
    refine OverTup.l hx fun I => TurnsL.nil ?_
    repeat k_extra "w"
    refine c_check_named ks H' (l _ _ hP) (l _ _ hE) h1 h2 fun P'' l' => ?_
    repeat k_extra "w"
    exact h _ (l.trans l')
  | val b h1 h2 =>
    obtain ⟨a, t, u, e, rfl, hP, hE⟩ := row_inv3 hv
    repeat k_extra "w"
    refine c_row_length k H' fun _ => ?_
    repeat k_extra "w"
    k_extra "forT"
    repeat k_extra "w"
    refine c_inner k H' (len := 0) (.val b h1 h2) hv fun x vs P' l hx hd => ?_
    cases hd
    refine OverTup.l hx fun I => TurnsL.nil ?_
    repeat k_extra "w"
    refine c_check_named ks H' (l _ _ hP) (l _ _ hE) h1 h2 fun P'' l' => ?_
    repeat k_extra "w"
    exact h _ (l.trans l')
  | arr b h1 h2 h3 =>
    obtain ⟨ra, ri, rf, hR, ha⟩ := hel b rfl
    obtain ⟨a, t, u, rfl, hP⟩ := row_inv2 hv
    repeat k_extra "w"
    refine c_row_length k H' fun _ => ?_
    repeat k_extra "w"
    k_extra "forT"
    repeat k_extra "w"
    refine c_inner k H' (.arr b h1 h2 h3) hv fun x vs P' l hx hd => ?_
    cases hd with
    | cons hd1 hd2 =>
    cases hd2
    obtain ⟨t', rfl⟩ := hd1.int_inv
    refine OverTup.l hx fun I => TurnsL.cons fun o => ?_
    repeat k_extra "w"
    refine c_row k H' (X := X ++ [(I, o)]) (hi.mono l) (hs.mono l) hR fun v hv' => ?_
    repeat k_extra "w"
    refine TurnEnd.nx (M := K5 L o1 o2 o3 o4 o5 X) Le.rfl (TurnsL.nil ?_)
    repeat k_extra "w"
    refine c_may_stand k H' (hi.mono l) (hs.mono l) hR (by omega) (by omega) ha ?_
    repeat k_extra "w"
    exact h _ l
  | var b h1 =>
    obtain ⟨a, t, u, rfl, hP⟩ := row_inv2 hv
    repeat k_extra "w"
    refine c_row_length k H' fun _ => ?_
    repeat k_extra "w"
    k_extra "forT"
    repeat k_extra "w"
    refine c_inner k H' (len := 0) (.var b h1) hv fun x vs P' l hx hd => ?_
    cases hd
    refine OverTup.l hx fun I => TurnsL.nil ?_
    repeat k_extra "w"
    exact h _ l
  ))) only [↓quiet]
end
section
variable {c : Cx} {F : Frm c} {D : FnD} {n : Nat} {fr₀ : List (Str × Option Value)} {P₀ : Pset} {M₀ : List (Addr × Obj)}
theorem map_get {K : Type} {xs : List (K × Addr × Value)} {R : List K} (h : xs.map (·.1) = R) {i : Nat} {k : K} (hr : R[i]? = some k) : ∃ p, xs[i]? = some (k, p) := by
  rw [← h, List.getElem?_map] at hr
  cases e : xs[i]? with
  | none => rw [e] at hr; cases hr
  | some x => rw [e] at hr; cases hr; exact ⟨x.2, rfl⟩
theorem c_put_old (k : KF c.K) (H : Ok F D (n + 1)) {L : KtL} {R : List RKey} {ds ws os : List Int} {o1 o2 o3 o4 o5 : Obj} {X : List (Addr × Obj)} (hi : KtI L P₀) (hs : KtS c P₀ R ds ws os o1 o2 o3 o4 o5)
    {i : Nat} {r : RKey} (hr : R[i]? = some r) {a : Addr} (hk : PKey (rowKind P0 c.w) P₀ r a) {Q : Value → St → Prop} (h : ∀ t, Q (.int i t) ⟨fr₀, P₀, K5 L o1 o2 o3 o4 o5 X⟩) :
    WP F (call (.ref 106) [.ref L.kt, .ref a]) ⟨fr₀, P₀, K5 L o1 o2 o3 o4 o5 X⟩ Q := by
  refine ofQ ?_; simp (disch := (k_dflt (
  refine hold ?_
  obtain ⟨hI, hlo⟩ := id hi
  obtain ⟨xs, hx, hxs, hxd⟩ := hs.idx
  obtain ⟨p, hp⟩ := map_get hxs hr
  have hlt : i < R.length := (List.getElem?_eq_some_iff.mp hr).1
  obtain ⟨v, hv, hvd⟩ := hxd.get (i := i) (d := .int i) (by simp [hlt])
  obtain ⟨t, rfl⟩ := hvd.int_inv
  have hp2 : p.2 = .int i t := by rw [List.getElem?_map, hp] at hv; exact Option.some.inj hv
  refine wDef H (fn_KindTable_put k) rfl fun F' H' => ?_
  k_extra "in"
  repeat k_extra "w"
  refine' mGet (.m ?m) hx.ex ?_
  case m => k_extra "mm"
  repeat k_extra "w"
  refine' cGetH (room_row H') (.m ?m) hx hlo hk ?_
  case m => k_extra "mm"
  rw [atKey_of_get (p := p) (by rw [hxs]; exact hs.nd) hp]
  simp only [Option.map_some, Option.getD_some, hp2]
  repeat k_extra "w"
  exact h _
  ))) only [↓quiet]
end
section
variable {c : Cx} {F : Frm c} {D : FnD} {n : Nat} {fr₀ : List (Str × Option Value)} {P₀ : Pset} {M₀ : List (Addr × Obj)}
theorem atKey_none {K : Type} [DecidableEq K] {xs : List (K × Addr × Value)} {R : List K} (h : xs.map (·.1) = R) {r : K} (hr : r ∉ R) : atKey xs r = none := by
  refine atKey_none_of_get fun j p e => hr ?_
  rw [← h]
  exact List.mem_map.mpr ⟨_, List.mem_of_getElem? e, rfl⟩
theorem KtS.push {P : Pset} {R : List RKey} {ds ws os : List Int} {v1 v3 v4 v5 : List Value} {m1 m3 m4 m5 : Nat} {o2 o2' : Obj} {r : RKey} {v : Value} {a : Addr} {d w o : Int} {t1 t2 t3 t4 : Tok} {xs : List (RKey × Addr × Value)}
    (hs : KtS c P R ds ws os (listOf v1.toArray m1) o2 (listOf v3.toArray m3) (listOf v4.toArray m4) (listOf v5.toArray m5)) (d1 : Dts P v1 (R.map rowData)) (d3 : Dts P v3 (ds.map .int)) (d4 : Dts P v4 (ws.map .int)) (d5 : Dts P v5 (os.map .int))
    (hxs : xs.map (·.1) = R) (hxd : Dts P (xs.map (·.2.2)) ((List.range R.length).map fun (i : Nat) => PyData.int i)) (hx2 : HTab (rowKind P0 c.w) P o2' (xs ++ [(r, a, .int R.length t1)]))
    (hv : Dt P v (rowData r)) (hnew : r ∉ R) (hlen : R.length < 100) :
    KtS c P (R ++ [r]) (ds ++ [d]) (ws ++ [w]) (os ++ [o]) (listOf (v1.toArray.push v) (m1 + 1)) o2' (listOf (v3.toArray.push (.int d t2)) (m3 + 1)) (listOf (v4.toArray.push (.int w t3)) (m4 + 1)) (listOf (v5.toArray.push (.int o t4)) (m5 + 1)) := by
  refine ofQ ?_; simp (disch := (k_dflt (
  refine hold ?_
  refine ⟨⟨v1 ++ [v], m1 + 1, by simp, ?_⟩, ⟨_, hx2, by simp [hxs], ?_⟩, ⟨v3 ++ [.int d t2], m3 + 1, by simp, ?_⟩, ⟨v4 ++ [.int w t3], m4 + 1, by simp, ?_⟩, ⟨v5 ++ [.int o t4], m5 + 1, by simp, ?_⟩, by simp [hs.l1], by simp [hs.l2], by simp [hs.l3], by simp; lia, ?_⟩
  · rw [List.map_append]; exact Dts.app (.cons hv .nil) d1
  · rw [List.map_append, List.length_append]
    show Dts P _ (List.map _ (List.range (R.length + 1)))
    rw [List.range_succ, List.map_append]
    exact Dts.app (.cons (.int _ _) .nil) hxd
  · rw [List.map_append]; exact Dts.app (.cons (.int _ _) .nil) d3
  · rw [List.map_append]; exact Dts.app (.cons (.int _ _) .nil) d4
  · rw [List.map_append]; exact Dts.app (.cons (.int _ _) .nil) d5
  · rw [List.nodup_append]
    refine ⟨hs.nd, by simp, fun x hx y hy e => hnew ?_⟩
    have : y = r := by simpa using hy
    rw [← this, ← e]; exact hx
  ))) only [↓quiet]
theorem c_put_leaf (ks : KS c) (H : Ok F D (n + 5)) {L : KtL} {R : List RKey} {ds ws os : List Int} {o1 o2 o3 o4 o5 : Obj} {X : List (Addr × Obj)} (hi : KtI L P₀) (hs : KtS c P₀ R ds ws os o1 o2 o3 o4 o5)
    {r : RKey} (hr : RowGo R.length r) (hl : ∀ b : Nat, r ≠ (4, (b : Int), false)) (hnew : r ∉ R) (hlen : R.length < 100) {v : Value} (hv : Dt P₀ v (rowData r)) {Q : Value → St → Prop}
    (h : ∀ P' o1' o2' o3' o4' o5' o t, Le P₀ P' → KtS c P' (R ++ [r]) (ds ++ [1]) (ws ++ [1]) (os ++ [o]) o1' o2' o3' o4' o5' → Q (.int R.length t) ⟨fr₀, P', K5 L o1' o2' o3' o4' o5' X⟩) :
    WP F (call (.ref 106) [.ref L.kt, v]) ⟨fr₀, P₀, K5 L o1 o2 o3 o4 o5 X⟩ Q := by
  refine ofQ ?_; simp (disch := (k_dflt (
  refine hold ?_
  have k := ks.kf
  obtain ⟨hI, hlo⟩ := id hi
  obtain ⟨xs, hx, hxs, hxd⟩ := hs.idx
  obtain ⟨v1, m1, rfl, d1⟩ := hs.rows
  obtain ⟨v3, m3, rfl, d3⟩ := hs.dep
  obtain ⟨v4, m4, rfl, d4⟩ := hs.wei
  obtain ⟨v5, m5, rfl, d5⟩ := hs.opn
  have e1 : v1.length = R.length := by simpa using d1.length
  have e3 : v3.length = R.length := by have := d3.length; have q := hs.l1; simp at this; lia
  have e4 : v4.length = R.length := by have := d4.length; have q := hs.l2; simp at this; lia
  have e5 : v5.length = R.length := by have := d5.length; have q := hs.l3; simp at this; lia
  have hxl : xs.length = R.length := by rw [← hxs]; simp
  refine wDef H (fn_KindTable_put k) rfl fun F' H' => ?_
  k_extra "in"
  cases hr with
  | cls b h1 h2 =>
    obtain ⟨a, t, u, e, rfl, hP, hE⟩ := row_inv3 hv
    repeat k_extra "w"
    refine' mGet (.m ?m) hx.ex ?_
    case m => k_extra "mm"
    repeat k_extra "w"
    refine' cGetH (room_row H') (.m ?m) hx hlo (key_row3 hP hE) ?_
    case m => k_extra "mm"
    rw [atKey_none hxs hnew]
    simp only [Option.map_none, Option.getD_none]
    repeat k_extra "w"
    refine c_check_kind_row ks H' hi hs (.cls b h1 h2) (fun b e => by cases e) hv fun P' l => ?_
    repeat k_extra "w"
    refine c_row_level k H' fun _ => ?_
    repeat k_extra "w"
    k_extra "forT"
    repeat k_extra "w"
    refine c_inner k H' (len := 0) (.cls b h1 h2) (hv.mono l) fun x vs P'' l' hx' hd => ?_
    cases hd
    refine OverTup.l hx' fun I => TurnsL.nil ?_
    repeat k_extra "w"
    have l2 := l.trans l'
    refine' sItemH (room_row H') (fun o' => ?U) (hx.mono l2) ((key_row3 hP hE).mono l2) (atKey_none hxs hnew) (fun o2' hx2 => ?_) (by rw [sizeLine_eq]; lia)
    case U => k_extra "mp"
    repeat k_extra "w"
    rw [show ((v1.toArray.size : Nat) : Int) = R.length from by simp [e1]] at *
    exact h P'' _ _ _ _ _ _ _ l2 ((hs.mono l2).push (d1.mono l2) (d3.mono l2) (d4.mono l2) (d5.mono l2) hxs (hxd.mono l2) hx2 (hv.mono l2) hnew hlen)
  | val b h1 h2 =>
    obtain ⟨a, t, u, e, rfl, hP, hE⟩ := row_inv3 hv
    repeat k_extra "w"
    refine' mGet (.m ?m) hx.ex ?_
    case m => k_extra "mm"
    repeat k_extra "w"
    refine' cGetH (room_row H') (.m ?m) hx hlo (key_row3 hP hE) ?_
    case m => k_extra "mm"
    rw [atKey_none hxs hnew]
    simp only [Option.map_none, Option.getD_none]
    repeat k_extra "w"
    refine c_check_kind_row ks H' hi hs (.val b h1 h2) (fun b e => by cases e) hv fun P' l => ?_
    repeat k_extra "w"
    refine c_row_level k H' fun _ => ?_
    repeat k_extra "w"
    k_extra "forT"
    repeat k_extra "w"
    refine c_inner k H' (len := 0) (.val b h1 h2) (hv.mono l) fun x vs P'' l' hx' hd => ?_
    cases hd
    refine OverTup.l hx' fun I => TurnsL.nil ?_
    repeat k_extra "w"
    have l2 := l.trans l'
    refine' sItemH (room_row H') (fun o' => ?U) (hx.mono l2) ((key_row3 hP hE).mono l2) (atKey_none hxs hnew) (fun o2' hx2 => ?_) (by rw [sizeLine_eq]; lia)
    case U => k_extra "mp"
    repeat k_extra "w"
    rw [show ((v1.toArray.size : Nat) : Int) = R.length from by simp [e1]] at *
    exact h P'' _ _ _ _ _ _ _ l2 ((hs.mono l2).push (d1.mono l2) (d3.mono l2) (d4.mono l2) (d5.mono l2) hxs (hxd.mono l2) hx2 (hv.mono l2) hnew hlen)
  | arr b h1 h2 h3 => exact absurd rfl (hl b)
  | var b h1 =>
    obtain ⟨a, t, u, rfl, hP⟩ := row_inv2 hv
    repeat k_extra "w"
    refine' mGet (.m ?m) hx.ex ?_
    case m => k_extra "mm"
    repeat k_extra "w"
    refine' cGetH (room_row H') (.m ?m) hx hlo (key_row2 hP) ?_
    case m => k_extra "mm"
    rw [atKey_none hxs hnew]
    simp only [Option.map_none, Option.getD_none]
    repeat k_extra "w"
    refine c_check_kind_row ks H' hi hs (.var b h1) (fun b e => by cases e) hv fun P' l => ?_
    repeat k_extra "w"
    refine c_row_level k H' fun _ => ?_
    repeat k_extra "w"
    k_extra "forT"
    repeat k_extra "w"
    refine c_inner k H' (len := 0) (.var b h1) (hv.mono l) fun x vs P'' l' hx' hd => ?_
    cases hd
    refine OverTup.l hx' fun I => TurnsL.nil ?_
    repeat k_extra "w"
    have l2 := l.trans l'
    refine' sItemH (room_row H') (fun o' => ?U) (hx.mono l2) ((key_row2 hP).mono l2) (atKey_none hxs hnew) (fun o2' hx2 => ?_) (by rw [sizeLine_eq]; lia)
    case U => k_extra "mp"
    repeat k_extra "w"
    rw [show ((v1.toArray.size : Nat) : Int) = R.length from by simp [e1]] at *
    exact h P'' _ _ _ _ _ _ _ l2 ((hs.mono l2).push (d1.mono l2) (d3.mono l2) (d4.mono l2) (d5.mono l2) hxs (hxd.mono l2) hx2 (hv.mono l2) hnew hlen)
  ))) only [↓quiet]
end
section
variable {c : Cx} {F : Frm c} {D : FnD} {n : Nat} {fr₀ : List (Str × Option Value)} {P₀ : Pset} {M₀ : List (Addr × Obj)}
theorem Dts.int_get {P : Pset} {vs : List Value} {is : List Int} {i : Nat} {x : Int} (h : Dts P vs (is.map .int)) (e : is[i]? = some x) : ∃ t, vs[i]? = some (.int x t) := by
  obtain ⟨v, hv, hd⟩ := h.get (i := i) (d := .int x) (by simp [e])
  obtain ⟨t, rfl⟩ := hd.int_inv
  exact ⟨t, hv⟩
theorem c_put_arr (ks : KS c) (H : Ok F D (n + 5)) {L : KtL} {R : List RKey} {ds ws os : List Int} {o1 o2 o3 o4 o5 : Obj} {X : List (Addr × Obj)} (hi : KtI L P₀) (hs : KtS c P₀ R ds ws os o1 o2 o3 o4 o5)
    {b : Nat} (h0 : b ≠ 0) (h14 : b ≠ 14) {a i : Int} {f : Bool} (hR : R[b]? = some (a, i, f)) (ha : a ≤ 4 ∨ a = 6) {d w : Int} (hd : ds[b]? = some d) (hw : ws[b]? = some w) (d1 : 1 ≤ d) (d2 : d ≤ 20) (w2 : w ≤ 20)
    (hnew : (4, (b : Int), false) ∉ R) (hlen : R.length < 100) {v : Value} (hv : Dt P₀ v (rowData (4, b, false))) {Q : Value → St → Prop}
    (h : ∀ P' o1' o2' o3' o4' o5' o t, Le P₀ P' → KtS c P' (R ++ [(4, (b : Int), false)]) (ds ++ [d + 1]) (ws ++ [1 + w]) (os ++ [o]) o1' o2' o3' o4' o5' → Q (.int R.length t) ⟨fr₀, P', K5 L o1' o2' o3' o4' o5' X⟩) :
    WP F (call (.ref 106) [.ref L.kt, v]) ⟨fr₀, P₀, K5 L o1 o2 o3 o4 o5 X⟩ Q := by
  refine ofQ ?_; simp (disch := (k_dflt (
  refine hold ?_
  have k := ks.kf
  obtain ⟨hI, hlo⟩ := id hi
  obtain ⟨xs, hx, hxs, hxd⟩ := hs.idx
  obtain ⟨v1, m1, rfl, d1'⟩ := hs.rows
  obtain ⟨v3, m3, rfl, d3⟩ := hs.dep
  obtain ⟨v4, m4, rfl, d4⟩ := hs.wei
  obtain ⟨v5, m5, rfl, d5⟩ := hs.opn
  have e1 : v1.length = R.length := by simpa using d1'.length
  have e3 : v3.length = R.length := by have := d3.length; have q := hs.l1; simp at this; lia
  have e4 : v4.length = R.length := by have := d4.length; have q := hs.l2; simp at this; lia
  have e5 : v5.length = R.length := by have := d5.length; have q := hs.l3; simp at this; lia
  have hxl : xs.length = R.length := by rw [← hxs]; simp
  have hb : b < R.length := (List.getElem?_eq_some_iff.mp hR).1
  obtain ⟨td, hvd⟩ := d3.int_get hd
  obtain ⟨tw, hvw⟩ := d4.int_get hw
  obtain ⟨o, ho⟩ : ∃ o, os[b]? = some o := ⟨_, List.getElem?_eq_getElem (by rw [hs.l3]; exact hb)⟩
  obtain ⟨to, hvo⟩ := d5.int_get ho
  have hgo : RowGo R.length (4, (b : Int), false) := .arr b h0 h14 hb
  have hel : ∀ b' : Nat, ((4, (b : Int), false) : RKey) = (4, (b' : Int), false) → ∃ a i f, R[b']? = some (a, i, f) ∧ (a ≤ 4 ∨ a = 6) := fun b' e => by
    have : b = b' := by injection e with _ e; injection e with e _; exact Int.ofNat.inj e
    subst this; exact ⟨a, i, f, hR, ha⟩
  obtain ⟨ad, t, u, rfl, hP⟩ := row_inv2 hv
  have hbl : b < 2 ^ 62 := by lia
  refine wDef H (fn_KindTable_put k) rfl fun F' H' => ?_
  k_extra "in"
  repeat k_extra "w"
  refine' mGet (.m ?m) hx.ex ?_
  case m => k_extra "mm"
  repeat k_extra "w"
  refine' cGetH (room_row H') (.m ?m) hx hlo (key_row2 hP) ?_
  case m => k_extra "mm"
  rw [atKey_none hxs hnew]
  simp only [Option.map_none, Option.getD_none]
  repeat k_extra "w"
  refine c_check_kind_row ks H' hi hs hgo hel hv fun P' l => ?_
  repeat k_extra "w"
  refine c_row_level k H' fun _ => ?_
  repeat k_extra "w"
  k_extra "forT"
  repeat k_extra "w"
  refine c_inner k H' hgo (hv.mono l) fun x vs P'' l' hx' hd => ?_
  cases hd with
  | cons hd1 hd2 =>
  cases hd2
  obtain ⟨ti, rfl⟩ := hd1.int_inv
  refine OverTup.l hx' fun I => TurnsL.cons fun oI => ?_
  repeat k_extra "w"
  refine' wItemListM (k := b) (l := v3) ?hm hvd ?_ hbl (hs := ?hs)
  case hm => k_extra "mm"
  case hs => with_unfolding_all rfl
  repeat k_extra "w"
  refine' wItemListM (k := b) (l := v3) ?hm hvd ?_ hbl (hs := ?hs)
  case hm => k_extra "mm"
  case hs => with_unfolding_all rfl
  repeat k_extra "w"
  refine' wItemListM (k := b) (l := v4) ?hm hvw ?_ hbl (hs := ?hs)
  case hm => k_extra "mm"
  case hs => with_unfolding_all rfl
  repeat k_extra "w"
  refine' wItemListM (k := b) (l := v5) ?hm hvo ?_ hbl (hs := ?hs)
  case hm => k_extra "mm"
  case hs => with_unfolding_all rfl
  repeat k_extra "w"
  have l2 := l.trans l'
  refine ⟨fun hq => ?_, fun hq => ?_⟩
  all_goals
    repeat k_extra "w"
    refine TurnEnd.nx (M := K5 L (listOf v1.toArray m1) o2 (listOf v3.toArray m3) (listOf v4.toArray m4) (listOf v5.toArray m5) X) Le.rfl (TurnsL.nil ?_)
    repeat k_extra "w"
    refine' sItemH (room_row H') (fun o' => ?U) (hx.mono l2) ((key_row2 hP).mono l2) (atKey_none hxs hnew) (fun o2' hx2 => ?_) (by rw [sizeLine_eq]; lia)
    case U => k_extra "mp"
    repeat k_extra "w"
    rw [show ((v1.toArray.size : Nat) : Int) = R.length from by simp [e1]] at *
    exact h P'' _ _ _ _ _ _ _ l2 ((hs.mono l2).push (d1'.mono l2) (d3.mono l2) (d4.mono l2) (d5.mono l2) hxs (hxd.mono l2) hx2 (hv.mono l2) hnew hlen)
  ))) only [↓quiet]
end
section
variable {c : Cx} {F : Frm c} {D : FnD} {n : Nat} {fr₀ : List (Str × Option Value)} {P₀ : Pset} {M₀ : List (Addr × Obj)}
noncomputable def R0 : List RKey := [(1, 0, false), (1, 1, false), (1, 2, false), (1, 3, false), (1, 4, false), (1, 5, false), (1, 6, false), (1, 7, false), (1, 8, false), (1, 9, false), (1, 10, false), (1, 11, false), (1, 12, false), (1, 13, false), (1, 14, false), (1, 15, false),
  (2, 64, true), (3, 65, true), (3, 66, true), (4, 7, false), (4, 13, false), (4, 19, false), (6, 0, false)]
noncomputable def D0 : List Int := [1, 1, 1, 1, 1, 1, 1, 1, 1, 1, 1, 1, 1, 1, 1, 1, 1, 1, 1, 2, 2, 3, 1]
noncomputable def W0 : List Int := [1, 1, 1, 1, 1, 1, 1, 1, 1, 1, 1, 1, 1, 1, 1, 1, 1, 1, 1, 2, 2, 3, 1]
noncomputable abbrev rowA (k : Int) : RKey := (4, k, false)
noncomputable abbrev RA (A : List Int) : List RKey := R0 ++ A.map rowA
noncomputable def goodK : List Int := [7, 12, 9, 13, 16, 4, 19, 17, 18, 20, 22, 21, 8]
noncomputable def newK : List Int := [12, 9, 16, 4, 17, 18, 20, 22, 21, 8]
structure AOk (A : List Int) : Prop where
  nd : A.Nodup
  sub : ∀ k ∈ A, k ∈ newK
theorem nodup_len {α : Type} [DecidableEq α] : ∀ {l m : List α}, l.Nodup → (∀ x ∈ l, x ∈ m) → l.length ≤ m.length
  | [], m, _, _ => Nat.zero_le _
  | a :: l, m, h, s => by
    have ha := s a (.head _)
    have h' := List.nodup_cons.mp h
    have := nodup_len (m := m.erase a) h'.2 (fun x hx => (List.mem_erase_of_ne (fun e : x = a => h'.1 (by rw [← e]; exact hx))).mpr (s x (.tail _ hx)))
    rw [List.length_erase_of_mem ha] at this
    have hp : 0 < m.length := List.length_pos_of_mem ha
    rw [List.length_cons]
    lia
theorem AOk.len {A : List Int} (h : AOk A) : A.length ≤ 10 := nodup_len (m := newK) h.nd h.sub
theorem AOk.app {A : List Int} {k : Int} (h : AOk A) (h1 : k ∈ newK) (h2 : k ∉ A) : AOk (A ++ [k]) := ⟨by
  rw [List.nodup_append]
  exact ⟨h.nd, by simp, fun x hx y hy e => h2 (by rw [List.mem_singleton] at hy; rw [← hy, ← e]; exact hx)⟩, fun x hx => by
  rcases List.mem_append.mp hx with hx | hx
  · exact h.sub x hx
  · rw [List.mem_singleton] at hx; exact hx ▸ h1⟩
inductive KtA (c : Cx) (P : Pset) (A : List Int) (o1 o2 o3 o4 o5 : Obj) : Prop
  | mk (a : AOk A) (ds ws os : List Int) : KtS c P (RA A) ds ws os o1 o2 o3 o4 o5 → D0 <+: ds → W0 <+: ws → KtA c P A o1 o2 o3 o4 o5
theorem KtA.mono {P P' : Pset} {A : List Int} {o1 o2 o3 o4 o5 : Obj} (l : Le P P') (h : KtA c P A o1 o2 o3 o4 o5) : KtA c P' A o1 o2 o3 o4 o5 := let ⟨x, ds, ws, os, a, b, d⟩ := h; ⟨x, ds, ws, os, a.mono l, b, d⟩
theorem RA_get {A : List Int} {i : Nat} {r : RKey} (h : R0[i]? = some r) : (RA A)[i]? = some r := by
  have hlt : i < R0.length := (List.getElem?_eq_some_iff.mp h).1
  rw [List.getElem?_append_left hlt, h]
theorem RA_len (A : List Int) : (RA A).length = 23 + A.length := by rw [List.length_append, List.length_map]; rfl
theorem pre_get {α : Type} {l m : List α} {i : Nat} {x : α} (h : l <+: m) (e : l[i]? = some x) : m[i]? = some x := by
  obtain ⟨t, rfl⟩ := h
  have hlt : i < l.length := (List.getElem?_eq_some_iff.mp e).1
  rw [List.getElem?_append_left hlt, e]
theorem rowA_new {A : List Int} {k : Int} (h1 : k ∈ newK) (h2 : k ∉ A) : rowA k ∉ RA A := by
  refine ofQ ?_; simp (disch := (k_dflt (
  refine hold ?_
  intro h
  rcases List.mem_append.mp h with h | h
  · exact (by decide : ∀ k ∈ newK, rowA k ∉ R0) k h1 h
  · obtain ⟨x, hx, e⟩ := List.mem_map.mp h
    injection e with _ e; injection e with e _
    exact h2 (e ▸ hx)
  ))) only [↓quiet]
theorem goodK_cases {k : Int} (h : k ∈ goodK) : (∃ i : Nat, fixedArr k = some (i : Int) ∧ R0[i]? = some (rowA k)) ∨ (fixedArr k = none ∧ k ∈ newK ∧ ∃ (b : Nat) (a i : Int) (f : Bool) (d w : Int), k = (b : Int) ∧ b ≠ 0 ∧ b ≠ 14 ∧ R0[b]? = some (a, i, f) ∧ (a ≤ 4 ∨ a = 6) ∧ D0[b]? = some d ∧ W0[b]? = some w ∧ 1 ≤ d ∧ d ≤ 20 ∧ w ≤ 20) := by
  refine ofQ ?_; simp (disch := (k_dflt (
  refine hold ?_
  simp only [goodK, List.mem_cons, List.not_mem_nil, or_false] at h
  rcases h with rfl | rfl | rfl | rfl | rfl | rfl | rfl | rfl | rfl | rfl | rfl | rfl | rfl
  · exact .inl ⟨19, rfl, rfl⟩
  · exact .inr ⟨rfl, by decide, 12, _, _, _, _, _, rfl, by decide, by decide, rfl, by decide, rfl, rfl, by decide, by decide, by decide⟩
  · exact .inr ⟨rfl, by decide, 9, _, _, _, _, _, rfl, by decide, by decide, rfl, by decide, rfl, rfl, by decide, by decide, by decide⟩
  · exact .inl ⟨20, rfl, rfl⟩
  · exact .inr ⟨rfl, by decide, 16, _, _, _, _, _, rfl, by decide, by decide, rfl, by decide, rfl, rfl, by decide, by decide, by decide⟩
  · exact .inr ⟨rfl, by decide, 4, _, _, _, _, _, rfl, by decide, by decide, rfl, by decide, rfl, rfl, by decide, by decide, by decide⟩
  · exact .inl ⟨21, rfl, rfl⟩
  · exact .inr ⟨rfl, by decide, 17, _, _, _, _, _, rfl, by decide, by decide, rfl, by decide, rfl, rfl, by decide, by decide, by decide⟩
  · exact .inr ⟨rfl, by decide, 18, _, _, _, _, _, rfl, by decide, by decide, rfl, by decide, rfl, rfl, by decide, by decide, by decide⟩
  · exact .inr ⟨rfl, by decide, 20, _, _, _, _, _, rfl, by decide, by decide, rfl, by decide, rfl, rfl, by decide, by decide, by decide⟩
  · exact .inr ⟨rfl, by decide, 22, _, _, _, _, _, rfl, by decide, by decide, rfl, by decide, rfl, rfl, by decide, by decide, by decide⟩
  · exact .inr ⟨rfl, by decide, 21, _, _, _, _, _, rfl, by decide, by decide, rfl, by decide, rfl, rfl, by decide, by decide, by decide⟩
  · exact .inr ⟨rfl, by decide, 8, _, _, _, _, _, rfl, by decide, by decide, rfl, by decide, rfl, rfl, by decide, by decide, by decide⟩
  ))) only [↓quiet]
theorem c_putA (ks : KS c) (H : Ok F D (n + 5)) {L : KtL} {A : List Int} {o1 o2 o3 o4 o5 : Obj} {X : List (Addr × Obj)} (hi : KtI L P₀) (hs : KtA c P₀ A o1 o2 o3 o4 o5)
    {k : Int} (hk : k ∈ goodK) {v : Value} (hv : Dt P₀ v (rowData (rowA k))) {Q : Value → St → Prop}
    (h : ∀ P' o1' o2' o3' o4' o5' t, Le P₀ P' → KtA c P' (putA A k).2 o1' o2' o3' o4' o5' → Q (.int (putA A k).1 t) ⟨fr₀, P', K5 L o1' o2' o3' o4' o5' X⟩) :
    WP F (call (.ref 106) [.ref L.kt, v]) ⟨fr₀, P₀, K5 L o1 o2 o3 o4 o5 X⟩ Q := by
  refine ofQ ?_; simp (disch := (k_dflt (
  refine hold ?_
  obtain ⟨hA, ds, ws, os, hS, hD, hW⟩ := id hs
  unfold putA at h
  obtain ⟨a, t, u, rfl, hP⟩ := row_inv2 hv
  rcases goodK_cases hk with ⟨i, e, hr⟩ | ⟨e, hn, b, ra, ri, rf, d, w, rfl, b0, b14, hr, har, hd, hw, d1, d2, w2⟩
  · rw [e] at h
    exact c_put_old ks.kf H hi hS (RA_get hr) (key_row2 hP) fun t => h _ _ _ _ _ _ t Le.rfl hs
  · rw [e] at h
    dsimp only at h
    by_cases hm : (b : Int) ∈ A
    · rw [if_pos hm] at h
      have hlt : A.idxOf (b : Int) < A.length := List.idxOf_lt_length_iff.mpr hm
      have hg : (RA A)[23 + A.idxOf (b : Int)]? = some (rowA b) := by
        show (R0 ++ A.map rowA)[23 + A.idxOf (b : Int)]? = _
        rw [List.getElem?_append_right (by simp [R0])]
        have e23 : 23 + A.idxOf (b : Int) - R0.length = A.idxOf (b : Int) := by show 23 + _ - 23 = _; lia
        rw [e23, List.getElem?_map, List.getElem?_eq_getElem hlt]
        simp
      exact c_put_old ks.kf H hi hS hg (key_row2 hP) fun t => by
        have := h _ _ _ _ _ _ t Le.rfl hs
        rw [show ((23 + A.idxOf (b : Int) : Nat) : Int) = 23 + (A.idxOf (b : Int) : Int) from by push_cast; rfl]
        exact this
    · rw [if_neg hm] at h
      have hlen := hA.len
      refine c_put_arr ks H hi hS b0 b14 (RA_get hr) har (pre_get hD hd) (pre_get hW hw) d1 d2 w2 (rowA_new hn hm) (by rw [RA_len]; lia) hv fun P' o1' o2' o3' o4' o5' o t l hS' => ?_
      have hg := h P' o1' o2' o3' o4' o5' t l ⟨hA.app hn hm, _, _, _, by
        show KtS c P' (R0 ++ (A ++ [(b : Int)]).map rowA) _ _ _ _ _ _ _ _
        rw [List.map_append, ← List.append_assoc]
        exact hS', hD.trans (List.prefix_append _ _), hW.trans (List.prefix_append _ _)⟩
      rw [RA_len, show ((23 + A.length : Nat) : Int) = 23 + (A.length : Int) from by push_cast; rfl]
      exact hg
  ))) only [↓quiet]
theorem c_array_kind (ks : KS c) (H : Ok F D (n + 6)) {L : KtL} {A : List Int} {o1 o2 o3 o4 o5 : Obj} {X : List (Addr × Obj)} (hi : KtI L P₀) (hs : KtA c P₀ A o1 o2 o3 o4 o5)
    {k : Int} {t : Tok} (hk : k ∈ goodK) {Q : Value → St → Prop}
    (h : ∀ P' o1' o2' o3' o4' o5' t, Le P₀ P' → KtA c P' (putA A k).2 o1' o2' o3' o4' o5' → Q (.int (putA A k).1 t) ⟨fr₀, P', K5 L o1' o2' o3' o4' o5' X⟩) :
    WP F (call (.ref 169) [.ref L.kt, .int k t]) ⟨fr₀, P₀, K5 L o1 o2 o3 o4 o5 X⟩ Q := by
  refine ofQ ?_; simp (disch := (k_dflt (
  refine hold ?_
  have kf := ks.kf
  obtain ⟨hI, -⟩ := id hi
  refine wDef H (fn_array_kind kf) rfl fun F' H' => ?_
  k_extra "in"
  repeat k_extra "w"
  intro a P' l hP
  repeat k_extra "w"
  refine c_putA ks H' (hi.mono l) (hs.mono l) hk (v := .ref a) (.tup hP (.cons (.int _ _) (.cons (.int _ _) .nil))) fun P'' o1' o2' o3' o4' o5' t l' hs' => ?_
  repeat k_extra "w"
  exact h _ _ _ _ _ _ _ (l.trans l') hs'
  ))) only [↓quiet]
end
structure WdF (W : WL) (cfg : Cfg) (at_ left nodes : Int) (kvs : List (Str × Value)) : Prop where
  inl : valueAt kvs (S "in") = some (.ref W.li)
  at_ : ∃ t, valueAt kvs (S "at") = some (.int at_ t)
  left : ∃ t, valueAt kvs (S "left") = some (.int left t)
  kt : valueAt kvs (S "kt") = some (.ref W.L.kt)
  nodes : ∃ t, valueAt kvs (S "nodes") = some (.int nodes t)
  rows : valueAt kvs (S "rows") = some (.ref W.rw)
  due : valueAt kvs (S "due") = some (.ref W.du)
  named : valueAt kvs (S "named") = some (.ref W.nd)
  words : valueAt kvs (S "words") = some (.ref W.wo)
  inner : valueAt kvs (S "inner") = some (.ref W.inn)
  plain : ∃ t, valueAt kvs (S "plain") = some (.int 16 t)
  enum : ∃ t, valueAt kvs (S "enum") = some (.int 18 t)
  refs : valueAt kvs (S "refs") = some (.ref W.rf)
  goes : valueAt kvs (S "goes") = some (.ref W.gs)
  chk : ∃ t, valueAt kvs (S "checked") = some (.int cfg.chk t)
noncomputable def GoesT (P : Pset) (xs : List (List Int × Addr × Value)) (g : Goes) : Prop := xs.map (·.1) = g.map (fun p => [p.1.1, p.1.2]) ∧ Dts P (xs.map (·.2.2)) (g.map fun p => .int p.2) ∧ ∀ p ∈ g, p.2 ≠ 0
theorem atKey_cons {K : Type} [DecidableEq K] (x : K × Addr × Value) (l : List (K × Addr × Value)) (k : K) : atKey (x :: l) k = if x.1 = k then some x.2 else atKey l k := by
  unfold atKey
  rw [List.find?_cons]
  by_cases h : x.1 = k
  · rw [if_pos h, decide_eq_true h]; rfl
  · rw [if_neg h, decide_eq_false h]
theorem GoesT.look {P : Pset} (a b : Int) {xs : List (List Int × Addr × Value)} {g : Goes} (h : GoesT P xs g) : (g.lookup (a, b) = none ∧ atKey xs [a, b] = none) ∨ ∃ cv p t, g.lookup (a, b) = some cv ∧ cv ≠ 0 ∧ atKey xs [a, b] = some (p, .int cv t) := by
  refine ofQ ?_; simp (disch := (k_dflt (
  refine hold ?_
  induction xs generalizing g with
  | nil =>
    cases g with
    | nil => exact .inl ⟨rfl, rfl⟩
    | cons q g => cases h.1
  | cons x xs IH =>
    cases g with
    | nil => cases h.1
    | cons q g =>
      have hk : x.1 = [q.1.1, q.1.2] := List.head_eq_of_cons_eq h.1
      have ih := IH (g := g) ⟨List.tail_eq_of_cons_eq h.1, (Dts.tl h.2.1).2, fun p hp => h.2.2 p (.tail _ hp)⟩
      rw [atKey_cons, List.lookup_cons, hk]
      by_cases e : (a, b) = q.1
      · obtain ⟨t, ht⟩ := (Dts.tl h.2.1).1.int_inv
        rw [if_pos (by rw [← e]), e, beq_self_eq_true]
        exact .inr ⟨q.2, x.2.1, t, rfl, h.2.2 q (.head _), by rw [← ht]⟩
      · rw [if_neg fun w => e (Prod.ext (List.head_eq_of_cons_eq w).symm (List.head_eq_of_cons_eq (List.tail_eq_of_cons_eq w)).symm), beq_eq_false_iff_ne.mpr e]
        exact ih
  ))) only [↓quiet]
noncomputable def wordsL : List Str := [S "int", S "object", S "long", S "string", S "A", S "byte", S "int[]", S "S", S "E", S "string[]", S "T", S "int[][]", S "void", S "uint", S "none"]
inductive NdT (c : Cx) (P : Pset) (a : Addr) : Prop
  | mk (o : Obj) (kvs : List (Str × Value)) : P a o → o.IsDictOf (PySem.strKind P0 c.w) kvs → kvs.map (·.1) = namedL.map (·.1) → Dts P (kvs.map (·.2)) (namedL.map fun p => .int p.2) → NdT c P a
inductive GsT (c : Cx) (P : Pset) (a : Addr) (g : Goes) : Prop
  | mk (o : Obj) (xs : List (List Int × Addr × Value)) : P a o → HTab (tupleKind (intKind P0 c.w)) P o xs → GoesT P xs g → GsT c P a g
inductive UnT (c : Cx) (P : Pset) (a : Addr) : Prop
  | mk (o : Obj) (t : Tok) : P a o → o.IsDictOf (intKind P0 c.w) [(18, .int 7 t)] → UnT c P a
inductive TuT (P : Pset) (W : WL) : Prop
  | mk (a b : Value) : Ins P W.tu 481 [(S "goes", .ref W.gs), (S "sames", a), (S "unders", .ref W.un), (S "inners", b)] → TuT P W
inductive TyT (c : Cx) (P : Pset) (W : WL) : Prop
  | mk (o : Obj) (kvs : List (Int × Value)) : P W.ty o → o.IsDictOf (intKind P0 c.w) kvs → valueAt kvs 40 = some (.ref W.rK) → TyT c P W
inductive ExT (c : Cx) (P : Pset) (W : WL) : Prop
  | mk (o : Obj) (kvs : List (Int × Value)) : P W.ex o → o.IsDictOf (intKind P0 c.w) kvs → valueAt kvs 1 = some (.ref W.rI) → valueAt kvs 2 = some (.ref W.rT) → valueAt kvs 3 = some (.ref W.rC) → valueAt kvs 4 = some (.ref W.rTr) → valueAt kvs 5 = some (.ref W.rF) → valueAt kvs 6 = some (.ref W.rN) → valueAt kvs 7 = some (.ref W.rNm) → valueAt kvs 27 = some (.ref W.rD) → valueAt kvs 16 = some (.ref W.rA) → ExT c P W
inductive DtL (P : Pset) (a : Addr) (ds : List PyData) : Prop
  | mk (vs : List Value) : P a (tupO vs) → Dts P vs ds → DtL P a ds
inductive LiT (P : Pset) (a : Addr) : Prop
  | mk (vs : List Value) (m : Nat) : P a (listOf vs.toArray m) → (∀ v ∈ vs, ∃ i t, v = Value.int i t) → vs.length ≤ 63 → LiT P a
inductive InT (c : Cx) (P : Pset) (a : Addr) : Prop
  | mk (o : Obj) (t1 t2 t3 : Tok) : P a o → o.IsDictOf (PySem.strKind P0 c.w) [(S "int[]", .str (S "int") t1), (S "string[]", .str (S "string") t2), (S "int[][]", .str (S "int[]") t3)] → InT c P a
structure Fx (c : Cx) (W : WL) (cfg : Cfg) (P : Pset) : Prop where
  kti : KtI W.L P
  cxi : P W.cx (instObj 710 W.cxd)
  nd : NdT c P W.nd
  ndl : Lo W.nd
  gs : GsT c P W.gs cfg.goes
  gsl : Lo W.gs
  un : UnT c P W.un
  unl : Lo W.un
  tu : TuT P W
  fi : Ins P W.fi 502 []
  dgi : Ins P W.dgi 247 [(S "rows", .ref W.dg)]
  ex : ExT c P W
  exl : Lo W.ex
  ty : TyT c P W
  tyl : Lo W.ty
  iI : Ins P W.rI 798 []
  iT : Ins P W.rT 817 []
  iC : Ins P W.rC 836 []
  iTr : ∃ t, Ins P W.rTr 862 [(S "value", .int 1 t)]
  iF : ∃ t, Ins P W.rF 862 [(S "value", .int 0 t)]
  iN : Ins P W.rN 881 []
  iNm : Ins P W.rNm 317 [(S "rows", .ref W.rw)]
  iD : Ins P W.rD 914 []
  iA : Ins P W.rA 940 []
  iK : Ins P W.rK 357 []
  rf : DtL P W.rf (([12, 13, 16, 19, 20, 21] : List Int).map .int)
  rwl : Lo W.rw
  wl : Lo W.w
  li : LiT P W.li
  wo : DtL P W.wo (wordsL.map .str)
  inn : InT c P W.inn
  innl : Lo W.inn
inductive WdX (c : Cx) (W : WL) (cfg : Cfg) (a l n : Int) (o : Obj) : Prop
  | mk (kvs : List (Str × Value)) : o.IsDictOf (PySem.strKind P0 c.w) kvs → WdF W cfg a l n kvs → kvs.length ≤ 30 → WdX c W cfg a l n o
inductive CxX (W : WL) (cfg : Cfg) (deep : Int) (o : Obj) : Prop
  | mk (fs : List (Str × Value)) : IsFld o fs → CxF W cfg deep fs → CxX W cfg deep o
structure Inv (c : Cx) (W : WL) (cfg : Cfg) (P : Pset) (σ : Sig) (os : Os) : Prop where
  ks : KS c
  fx : Fx c W cfg P
  kt : KtA c P σ.A os.o1 os.o2 os.o3 os.o4 os.o5
  w : WdX c W cfg σ.at_ σ.left σ.nodes os.w
  rw : os.rw.IsDictOf (intKind P0 c.w) σ.rk
  du : LsD P os.du σ.fl
  dg : LsD P os.dg σ.fc
  cx : CxX W cfg σ.deep os.cx
theorem Fx.mono {c : Cx} {W : WL} {cfg : Cfg} {P P' : Pset} (l : Le P P') (h : Fx c W cfg P) : Fx c W cfg P' where
  kti := h.kti.mono l
  cxi := l _ _ h.cxi
  nd := let ⟨o, k, a, b, e, d⟩ := h.nd; ⟨o, k, l _ _ a, b, e, d.mono l⟩
  ndl := h.ndl
  gs := let ⟨o, xs, a, b, g1, g2, g3⟩ := h.gs; ⟨o, xs, l _ _ a, b.mono l, g1, g2.mono l, g3⟩
  gsl := h.gsl
  un := let ⟨o, t, a, b⟩ := h.un; ⟨o, t, l _ _ a, b⟩
  unl := h.unl
  tu := let ⟨a, b, i⟩ := h.tu; ⟨a, b, i.mono l⟩
  fi := h.fi.mono l
  dgi := h.dgi.mono l
  ex := let ⟨o, k, a, b, e1, e2, e3, e4, e5, e6, e7, e8, e9⟩ := h.ex; ⟨o, k, l _ _ a, b, e1, e2, e3, e4, e5, e6, e7, e8, e9⟩
  exl := h.exl
  ty := let ⟨o, k, a, b, e⟩ := h.ty; ⟨o, k, l _ _ a, b, e⟩
  tyl := h.tyl
  iI := h.iI.mono l
  iT := h.iT.mono l
  iC := h.iC.mono l
  iTr := let ⟨t, i⟩ := h.iTr; ⟨t, i.mono l⟩
  iF := let ⟨t, i⟩ := h.iF; ⟨t, i.mono l⟩
  iN := h.iN.mono l
  iNm := h.iNm.mono l
  iD := h.iD.mono l
  iA := h.iA.mono l
  iK := h.iK.mono l
  rf := let ⟨v, a, b⟩ := h.rf; ⟨v, l _ _ a, b.mono l⟩
  rwl := h.rwl
  wl := h.wl
  li := let ⟨v, m, a, b, e⟩ := h.li; ⟨v, m, l _ _ a, b, e⟩
  wo := let ⟨v, a, b⟩ := h.wo; ⟨v, l _ _ a, b.mono l⟩
  inn := let ⟨o, t1, t2, t3, a, b⟩ := h.inn; ⟨o, t1, t2, t3, l _ _ a, b⟩
  innl := h.innl
theorem Inv.mono {c : Cx} {W : WL} {cfg : Cfg} {P P' : Pset} {σ : Sig} {os : Os} (l : Le P P') (h : Inv c W cfg P σ os) : Inv c W cfg P' σ os where
  ks := h.ks
  fx := h.fx.mono l
  kt := h.kt.mono l
  w := h.w
  rw := h.rw
  du := let ⟨v, m, a, b⟩ := h.du; ⟨v, m, a, b.mono l⟩
  dg := let ⟨v, m, a, b⟩ := h.dg; ⟨v, m, a, b.mono l⟩
  cx := h.cx
inductive Nd (P : Pset) (v : Value) (kind : Int) (av : Value) (ks : List Value) (nid : Int) : Prop
  | mk (x kl : Addr) (t1 t2 t3 t4 : Tok) (m : Nat) : v = .ref x → Ins P x 207 [(S "kind", .int kind t1), (S "a", av), (S "kids", .ref kl), (S "mods", .int 0 t2), (S "at", .int (100 + nid) t3), (S "nid", .int nid t4)] → P kl (listOf ks.toArray m) → ks.length ≤ 3 → Nd P v kind av ks nid
theorem Nd.mono {P P' : Pset} {v : Value} {kind : Int} {av : Value} {ks : List Value} {nid : Int} (l : Le P P') (h : Nd P v kind av ks nid) : Nd P' v kind av ks nid :=
  let ⟨x, kl, t1, t2, t3, t4, m, e, i, q, k⟩ := h; ⟨x, kl, t1, t2, t3, t4, m, e, i.mono l, l _ _ q, k⟩
inductive LfIs (P : Pset) (rk : List (Int × Value)) (v : Value) (nid : Int) : Leaf → Prop
  | int {n : Int} {w : Str} {av : Value} : Nd P v 1 av [] nid → Dt P av (.tuple [.int n, .str w]) → w ∈ [S "", S "u", S "l", S "ul"] → 0 ≤ n → LfIs P rk v nid (.int n w)
  | text {s : Str} {av : Value} : Nd P v 2 av [] nid → Dt P av (.str s) → LfIs P rk v nid (.text s)
  | chr {n : Int} {av : Value} : Nd P v 3 av [] nid → Dt P av (.int n) → LfIs P rk v nid (.chr n)
  | tru {av : Value} : Nd P v 4 av [] nid → LfIs P rk v nid .tru
  | fls {av : Value} : Nd P v 5 av [] nid → LfIs P rk v nid .fls
  | null {av : Value} : Nd P v 6 av [] nid → LfIs P rk v nid .null
  | dflt {av : Value} : Nd P v 27 av [] nid → LfIs P rk v nid .dflt
  | name {e : Ex} {av x : Value} : Nd P v 7 av [] nid → valueAt rk nid = some x → Xv P x e → (∃ i, e.r = [.int i] ∧ (e.s = 1 → e.k = 8 ∨ e.k = 9 ∨ e.k = 10 → 0 ≤ i)) → e.k.natAbs ≤ 100 → LfIs P rk v nid (.name e)
theorem LfIs.mono {P P' : Pset} {rk : List (Int × Value)} {v : Value} {nid : Int} {f : Leaf} (l : Le P P') (h : LfIs P rk v nid f) : LfIs P' rk v nid f := by
  refine ofQ ?_; simp (disch := (k_dflt (
  refine hold ?_
  cases h with
  | int a b d e => exact .int (a.mono l) (b.mono l) d e
  | text a b => exact .text (a.mono l) (b.mono l)
  | chr a b => exact .chr (a.mono l) (b.mono l)
  | tru a => exact .tru (a.mono l)
  | fls a => exact .fls (a.mono l)
  | null a => exact .null (a.mono l)
  | dflt a => exact .dflt (a.mono l)
  | name a b d e g => exact .name (a.mono l) b (d.mono l) e g
  ))) only [↓quiet]
inductive SzIs (P : Pset) (rk : List (Int × Value)) : Value → Option (Int × Leaf) → Prop
  | none : SzIs P rk .none none
  | some {v : Value} {nid : Int} {f : Leaf} : LfIs P rk v nid f → f ≠ .dflt → SzIs P rk v (some (nid, f))
theorem SzIs.mono {P P' : Pset} {rk : List (Int × Value)} {v : Value} {o : Option (Int × Leaf)} (l : Le P P') (h : SzIs P rk v o) : SzIs P' rk v o := by
  cases h with
  | none => exact .none
  | some a b => exact .some (a.mono l) b
mutual
inductive TrIs (P : Pset) (rk : List (Int × Value)) : Nat → Value → Tr → Prop
  | leaf {d : Nat} {v : Value} {nid : Int} {f : Leaf} : LfIs P rk v nid f → TrIs P rk d v (.leaf nid f)
  | arr {d : Nat} {v av tn wv sv iv : Value} {nid tnid : Int} {w : Str} {size : Option (Int × Leaf)} {items : Option (List Tr)} : Nd P v 16 av [tn, sv, iv] nid → Nd P tn 40 wv [] tnid → Dt P wv (.str w) → SzIs P rk sv size → ItIs P rk d iv items → TrIs P rk (d + 1) v (.arr nid w size items)
inductive ItIs (P : Pset) (rk : List (Int × Value)) : Nat → Value → Option (List Tr) → Prop
  | none {d : Nat} : ItIs P rk d .none none
  | some {d : Nat} {v av : Value} {vs : List Value} {nid : Int} {ts : List Tr} : Nd P v 110 av vs nid → TrsIs P rk d vs ts → ItIs P rk d v (some ts)
inductive TrsIs (P : Pset) (rk : List (Int × Value)) : Nat → List Value → List Tr → Prop
  | nil {d : Nat} : TrsIs P rk d [] []
  | cons {d : Nat} {v : Value} {vs : List Value} {t : Tr} {ts : List Tr} : TrIs P rk d v t → TrsIs P rk d vs ts → TrsIs P rk d (v :: vs) (t :: ts)
end
theorem TrIs.map {P P' : Pset} {rk rk' : List (Int × Value)} (f : ∀ {v nid f}, LfIs P rk v nid f → LfIs P' rk' v nid f) (nd : ∀ {v k av ks nid}, Nd P v k av ks nid → Nd P' v k av ks nid) (dt : ∀ {v d}, Dt P v d → Dt P' v d) (sz : ∀ {v o}, SzIs P rk v o → SzIs P' rk' v o)
    {d : Nat} {v : Value} {t : Tr} (h : TrIs P rk d v t) : TrIs P' rk' d v t :=
  TrIs.rec (motive_1 := fun d v t _ => TrIs P' rk' d v t) (motive_2 := fun d v t _ => ItIs P' rk' d v t) (motive_3 := fun d v t _ => TrsIs P' rk' d v t) (fun h => .leaf (f h)) (fun a b e s _ q => .arr (nd a) (nd b) (dt e) (sz s) q) .none (fun a _ q => .some (nd a) q) .nil (fun _ _ p q => .cons p q) h
theorem ItIs.map {P P' : Pset} {rk rk' : List (Int × Value)} (f : ∀ {v nid f}, LfIs P rk v nid f → LfIs P' rk' v nid f) (nd : ∀ {v k av ks nid}, Nd P v k av ks nid → Nd P' v k av ks nid) (dt : ∀ {v d}, Dt P v d → Dt P' v d) (sz : ∀ {v o}, SzIs P rk v o → SzIs P' rk' v o)
    {d : Nat} {v : Value} {t : Option (List Tr)} (h : ItIs P rk d v t) : ItIs P' rk' d v t :=
  ItIs.rec (motive_1 := fun d v t _ => TrIs P' rk' d v t) (motive_2 := fun d v t _ => ItIs P' rk' d v t) (motive_3 := fun d v t _ => TrsIs P' rk' d v t) (fun h => .leaf (f h)) (fun a b e s _ q => .arr (nd a) (nd b) (dt e) (sz s) q) .none (fun a _ q => .some (nd a) q) .nil (fun _ _ p q => .cons p q) h
theorem TrsIs.map {P P' : Pset} {rk rk' : List (Int × Value)} (f : ∀ {v nid f}, LfIs P rk v nid f → LfIs P' rk' v nid f) (nd : ∀ {v k av ks nid}, Nd P v k av ks nid → Nd P' v k av ks nid) (dt : ∀ {v d}, Dt P v d → Dt P' v d) (sz : ∀ {v o}, SzIs P rk v o → SzIs P' rk' v o)
    {d : Nat} {v : List Value} {t : List Tr} (h : TrsIs P rk d v t) : TrsIs P' rk' d v t :=
  TrsIs.rec (motive_1 := fun d v t _ => TrIs P' rk' d v t) (motive_2 := fun d v t _ => ItIs P' rk' d v t) (motive_3 := fun d v t _ => TrsIs P' rk' d v t) (fun h => .leaf (f h)) (fun a b e s _ q => .arr (nd a) (nd b) (dt e) (sz s) q) .none (fun a _ q => .some (nd a) q) .nil (fun _ _ p q => .cons p q) h
theorem TrIs.mono {P P' : Pset} {rk : List (Int × Value)} (l : Le P P') {d : Nat} {v : Value} {t : Tr} (h : TrIs P rk d v t) : TrIs P' rk d v t := h.map (·.mono l) (·.mono l) (·.mono l) (·.mono l)
theorem ItIs.mono {P P' : Pset} {rk : List (Int × Value)} (l : Le P P') {d : Nat} {v : Value} {t : Option (List Tr)} (h : ItIs P rk d v t) : ItIs P' rk d v t := h.map (·.mono l) (·.mono l) (·.mono l) (·.mono l)
theorem TrsIs.mono {P P' : Pset} {rk : List (Int × Value)} (l : Le P P') {d : Nat} {v : List Value} {t : List Tr} (h : TrsIs P rk d v t) : TrsIs P' rk d v t := h.map (·.mono l) (·.mono l) (·.mono l) (·.mono l)
noncomputable def RkLe (rk rk' : List (Int × Value)) : Prop := ∀ k v, valueAt rk k = some v → valueAt rk' k = some v
theorem RkLe.rfl {rk : List (Int × Value)} : RkLe rk rk := fun _ _ h => h
theorem RkLe.trans {a b d : List (Int × Value)} (h : RkLe a b) (k : RkLe b d) : RkLe a d := fun x v q => k x v (h x v q)
theorem LfIs.rk {P : Pset} {rk rk' : List (Int × Value)} {v : Value} {nid : Int} {f : Leaf} (l : RkLe rk rk') (h : LfIs P rk v nid f) : LfIs P rk' v nid f := by
  refine ofQ ?_; simp (disch := (k_dflt (
  refine hold ?_
  cases h with
  | int a b d e => exact .int a b d e
  | text a b => exact .text a b
  | chr a b => exact .chr a b
  | tru a => exact .tru a
  | fls a => exact .fls a
  | null a => exact .null a
  | dflt a => exact .dflt a
  | name a b d e g => exact .name a (l _ _ b) d e g
  ))) only [↓quiet]
theorem SzIs.rk {P : Pset} {rk rk' : List (Int × Value)} {v : Value} {o : Option (Int × Leaf)} (l : RkLe rk rk') (h : SzIs P rk v o) : SzIs P rk' v o := by
  cases h with
  | none => exact .none
  | some a b => exact .some (a.rk l) b
theorem ItIs.rk {P : Pset} {rk rk' : List (Int × Value)} (l : RkLe rk rk') {d : Nat} {v : Value} {t : Option (List Tr)} (h : ItIs P rk d v t) : ItIs P rk' d v t := h.map (·.rk l) id id (·.rk l)
theorem TrsIs.rk {P : Pset} {rk rk' : List (Int × Value)} (l : RkLe rk rk') {d : Nat} {v : List Value} {t : List Tr} (h : TrsIs P rk d v t) : TrsIs P rk' d v t := h.map (·.rk l) id id (·.rk l)
section
variable {c : Cx} {F : Frm c} {D : FnD} {n : Nat} {fr₀ : List (Str × Option Value)} {P₀ : Pset} {M₀ : List (Addr × Obj)}
theorem row_invG {P : Pset} {v : Value} {r : RKey} (h : Dt P v (rowData r)) : ∃ x t rest, v = .ref x ∧ P x (tupO (.int r.1 t :: rest)) := by
  refine ofQ ?_; simp (disch := (k_dflt (
  refine hold ?_
  obtain ⟨a, b, f⟩ := r
  cases f with
  | true =>
    obtain ⟨x, t, u, e, rfl, hP, hE⟩ := row_inv3 h
    exact ⟨x, t, _, rfl, hP⟩
  | false =>
    obtain ⟨x, t, u, rfl, hP⟩ := row_inv2 h
    exact ⟨x, t, _, rfl, hP⟩
  ))) only [↓quiet]
noncomputable def isRefChk (k : Int) : Bool := (R0[k.toNat]?).any fun r => decide (k = k.toNat) && (decide (k ≠ 14) && (decide (r.1 ≠ 8) && (isRefK k == (decide (k = 12) || (decide (k = 13) || (decide (r.1 = 2) || decide (r.1 = 4)))))))
theorem isRef_row {k : Int} (hk : k ∈ goodK) : ∃ (b : Nat) (r : RKey), k = (b : Int) ∧ R0[b]? = some r ∧ k ≠ 14 ∧ r.1 ≠ 8 ∧ isRefK k = (decide (k = 12) || (decide (k = 13) || (decide (r.1 = 2) || decide (r.1 = 4)))) := by
  refine ofQ ?_; simp (disch := (k_dflt (
  refine hold ?_
  have h := (by decide : ∀ k ∈ goodK, isRefChk k = true) k hk
  obtain ⟨r, e, h⟩ := (Option.any_eq_true _ _).mp h
  have h1 := (Bool.and_eq_true_iff.mp h)
  have h2 := (Bool.and_eq_true_iff.mp h1.2)
  have h3 := (Bool.and_eq_true_iff.mp h2.2)
  exact ⟨_, r, of_decide_eq_true h1.1, e, of_decide_eq_true h2.1, of_decide_eq_true h3.1, eq_of_beq h3.2⟩
  ))) only [↓quiet]
theorem c_is_ref (k : KF c.K) (H : Ok F D (n + 2)) {L : KtL} {A : List Int} {o1 o2 o3 o4 o5 : Obj} {X : List (Addr × Obj)} (hi : KtI L P₀) (hs : KtA c P₀ A o1 o2 o3 o4 o5)
    {kk : Int} {t : Tok} (hk : kk ∈ goodK) {Q : Value → St → Prop} (h : Q (.bool (isRefK kk)) ⟨fr₀, P₀, K5 L o1 o2 o3 o4 o5 X⟩) :
    WP F (call (.ref 183) [.ref L.kt, .int kk t]) ⟨fr₀, P₀, K5 L o1 o2 o3 o4 o5 X⟩ Q := by
  refine ofQ ?_; simp (disch := (k_dflt (
  refine hold ?_
  obtain ⟨hI, -⟩ := id hi
  obtain ⟨hA, ds, ws, os, hS, hD, hW⟩ := id hs
  obtain ⟨b, r, hb, hR, n14, n8, e⟩ := isRef_row hk
  refine wDef H (fn_is_ref k) rfl fun F' H' => ?_
  k_extra "in"
  rw [e] at h
  clear e hk
  repeat k_extra "w"
  refine ⟨fun hq => ?_, fun hq => ?_⟩
  · rw [hq] at h
    repeat k_extra "w"
    exact h
  rw [hq] at h
  repeat k_extra "w"
  refine ⟨fun hq => ?_, fun hq => ?_⟩
  · rw [hq] at h
    repeat k_extra "w"
    exact h
  rw [hq] at h
  clear hq
  repeat k_extra "w"
  rw [hb]
  refine c_row k H' (i := b) hi hS (RA_get hR) fun v hv => ?_
  obtain ⟨x, u, rest, rfl, hP⟩ := row_invG hv
  repeat k_extra "w"
  refine ⟨fun hq => ?_, fun hq => ?_⟩
  · rw [hq] at h ⊢
    exact h
  rw [hq] at h
  repeat k_extra "w"
  refine ⟨fun hq => ?_, fun hq => ?_⟩
  · rw [hq] at h ⊢
    exact h
  rw [hq] at h
  have n8 := decide_eq_false n8
  repeat k_extra "w"
  rw [n8]
  exact h
  ))) only [↓quiet]
end
section
variable {c : Cx} {F : Frm c} {D : FnD} {n : Nat} {fr₀ : List (Str × Option Value)} {P₀ : Pset} {M₀ : List (Addr × Obj)}
theorem c_show (k : KF c.K) (H : Ok F D (n + 1)) {x : Value} {i : Int} {t : Tok} (hi : i.natAbs ≤ 200) {Q : Value → St → Prop} (h : ∀ t, Q (.str (Str.ofString (toString i)) t) ⟨fr₀, P₀, M₀⟩) : WP F (call (.ref 562) [x, .int i t]) ⟨fr₀, P₀, M₀⟩ Q := by
  refine ofQ ?_; simp (disch := (k_dflt (
  refine hold ?_
  refine wDef H (fn_Yard_show k) rfl fun F' H' => ?_
  k_extra "in"
  repeat k_extra "w"
  refine cStr ?_ fun t => ?_
  · have : i.natAbs.log2 ≤ i.natAbs := by
      rcases Nat.eq_zero_or_pos i.natAbs with e | e
      · rw [e]; decide
      · exact Nat.le_of_lt ((Nat.log2_lt (by omega)).mpr Nat.lt_two_pow_self)
    omega
  repeat k_extra "w"
  exact h _
  ))) only [↓quiet]
theorem c_at_of (k : KF c.K) (H : Ok F D (n + 1)) {x v : Value} {kind nid : Int} {av : Value} {ks : List Value} (hn : Nd P₀ v kind av ks nid) {Q : Value → St → Prop} (h : ∀ t, Q (.int (100 + nid) t) ⟨fr₀, P₀, M₀⟩) : WP F (call (.ref 740) [x, v]) ⟨fr₀, P₀, M₀⟩ Q := by
  obtain ⟨y, kl, t1, t2, t3, t4, m, rfl, hI, hkl, hk3⟩ := hn
  refine wDef H (fn_at_of k) rfl fun F' H' => ?_
  k_extra "in"
  repeat k_extra "w"
  exact h _
theorem c_diags_put (k : KF c.K) (H : Ok F D (n + 1)) {x dg : Addr} (hI : Ins P₀ x 247 [(S "rows", .ref dg)]) {vs : List Value} {m : Nat} {M' : Obj → List (Addr × Obj)} (U : ∀ o', Mp dg (listOf vs.toArray m) o' M₀ (M' o')) (hl : vs.length ≤ 1000)
    {a b w : Value} {Q : Value → St → Prop} (h : ∀ y P', Le P₀ P' → P' y (tupO [a, b, w]) → Q .none ⟨fr₀, P', M' (listOf (vs.toArray.push (.ref y)) (m + 1))⟩) : WP F (call (.ref 232) [.ref x, a, b, w]) ⟨fr₀, P₀, M₀⟩ Q := by
  refine ofQ ?_; simp (disch := (k_dflt (
  refine hold ?_
  have hm : Mem dg (listOf vs.toArray m) M₀ := by
    obtain ⟨pre, post, e, _⟩ := (U (listOf vs.toArray m)).split
    rw [e]
    exact .ap .hd
  refine wDef H (fn_Diags_put k) rfl fun F' H' => ?_
  k_extra "in"
  repeat k_extra "w"
  refine mAppend hm ?_
  repeat k_extra "w"
  intro y P' l hP
  repeat k_extra "w"
  refine cAppend (U _) ?_ (by rw [sizeLine_eq]; simp; omega)
  repeat k_extra "w"
  exact h y P' l hP
  ))) only [↓quiet]
theorem Inv.addF {W : WL} {cfg : Cfg} {P : Pset} {σ : Sig} {o1 o2 o3 o4 o5 ow orw odu ocx : Obj} {vs : List Value} {m : Nat} (iv : Inv c W cfg P σ ⟨o1, o2, o3, o4, o5, ow, orw, odu, listOf vs.toArray m, ocx⟩) (hd : Dts P vs σ.fc) {y : Addr} {d : PyData} (hy : Dt P (.ref y) d) :
    Inv c W cfg P { σ with fc := σ.fc ++ [d] } ⟨o1, o2, o3, o4, o5, ow, orw, odu, listOf (vs.toArray.push (.ref y)) (m + 1), ocx⟩ :=
  ⟨iv.ks, iv.fx, iv.kt, iv.w, iv.rw, iv.du, ⟨vs ++ [.ref y], m + 1, by simp, Dts.app (.cons hy .nil) hd⟩, iv.cx⟩
theorem c_fault (H : Ok F D (n + 2)) {W : WL} {cfg : Cfg} {σ : Sig} {os : Os} {X : List (Addr × Obj)} (iv : Inv c W cfg P₀ σ os) {num : Int} {t : Tok} {v wv : Value} {kind nid : Int} {av : Value} {ks : List Value} (hn : Nd P₀ v kind av ks nid) {ws : List PyData} (hw : Dt P₀ wv (.tuple ws)) (hl : σ.fc.length ≤ 900)
    {Q : Value → St → Prop} (h : ∀ P' os', Le P₀ P' → Inv c W cfg P' { σ with fc := σ.fc ++ [flt num (100 + nid) ws] } os' → Q .none ⟨fr₀, P', mM W os' X⟩) :
    WP F (call (.ref 672) [.ref W.cx, .int num t, v, wv]) ⟨fr₀, P₀, mM W os X⟩ Q := by
  refine ofQ ?_; simp (disch := (k_dflt (
  refine hold ?_
  obtain ⟨o1, o2, o3, o4, o5, ow, orw, odu, odg, ocx⟩ := os
  have k := iv.ks.kf
  have hcx := iv.fx.cxi
  have hdi := iv.fx.dgi
  obtain ⟨vs, m, e, hd⟩ := id iv.dg
  replace e : odg = _ := e
  subst e
  obtain ⟨fs, hfs, hF⟩ := iv.cx
  replace hfs : IsFld ocx fs := hfs
  have a1 := hF.diags
  refine wDef H (fn_Seat_fault k) rfl fun F' H' => ?_
  k_extra "in"
  repeat k_extra "w"
  refine c_at_of k H' hn fun _ => ?_
  repeat k_extra "w"
  have hlen : vs.length = σ.fc.length := hd.length
  refine' c_diags_put k H' hdi (vs := vs) (m := m) (fun o' => ?U) (by omega) fun y P' l hP => ?_
  case U => k_extra "mp"
  repeat k_extra "w"
  exact h P' ⟨o1, o2, o3, o4, o5, ow, orw, odu, _, ocx⟩ l ((iv.mono l).addF (hd.mono l) (.tup hP (.cons (.int _ _) (.cons (.int _ _) (.cons (hw.mono l) .nil)))))
  ))) only [↓quiet]
theorem c_tell_fault (H : Ok F D (n + 3)) {W : WL} {cfg : Cfg} {σ : Sig} {os : Os} {X : List (Addr × Obj)} (iv : Inv c W cfg P₀ σ os) {num : Int} {t : Tok} {v wv : Value} {kind nid : Int} {av : Value} {ks : List Value} (hn : Nd P₀ v kind av ks nid) {ws : List PyData} (hw : Dt P₀ wv (.tuple ws)) (hl : σ.fc.length ≤ 900)
    {Q : Value → St → Prop} (h : ∀ x P' os', Le P₀ P' → Xv P' x badE → Inv c W cfg P' { σ with fc := σ.fc ++ [flt num (100 + nid) ws] } os' → Q x ⟨fr₀, P', mM W os' X⟩) :
    WP F (call (.ref 768) [.ref W.cx, .int num t, v, wv]) ⟨fr₀, P₀, mM W os X⟩ Q := by
  refine ofQ ?_; simp (disch := (k_dflt (
  refine hold ?_
  have k := iv.ks.kf
  have hcx := iv.fx.cxi
  obtain ⟨fs, hfs, hF⟩ := id iv.cx
  refine wDef H (fn_tell_fault k) rfl fun F' H' => ?_
  k_extra "in"
  repeat k_extra "w"
  refine c_fault H' iv hn hw hl fun P' os' l iv' => ?_
  repeat k_extra "w"
  refine c_bad k H' fun x P'' l' hx => ?_
  repeat k_extra "w"
  exact h x P'' os' (l.trans l') hx (iv'.mono l')
  ))) only [↓quiet]
theorem c_turn (H : Ok F D (n + 3)) {W : WL} {cfg : Cfg} {σ : Sig} {os : Os} {X : List (Addr × Obj)} (iv : Inv c W cfg P₀ σ os) {ev v : Value} {e : Ex} (he : Xv P₀ ev e) (hb : e.k.natAbs ≤ 100) {kk : Int} {t : Tok} (h15 : kk ≠ 15) (hkb : kk.natAbs ≤ 100)
    {kind nid : Int} {av : Value} {ks : List Value} (hn : Nd P₀ v kind av ks nid) (hl : σ.fc.length ≤ 900)
    {Q : Value → St → Prop} (h : ∀ x P' os', Le P₀ P' → Xv P' x (conv cfg e kk (100 + nid)).1 → Inv c W cfg P' { σ with fc := σ.fc ++ (conv cfg e kk (100 + nid)).2 } os' → Q x ⟨fr₀, P', mM W os' X⟩) :
    WP F (call (.ref 726) [.ref W.gs, .ref W.cx, ev, .int kk t, v]) ⟨fr₀, P₀, mM W os X⟩ Q := by
  refine ofQ ?_; simp (disch := (k_dflt (
  refine hold ?_
  have k := iv.ks.kf
  have hcx := iv.fx.cxi
  obtain ⟨og, xs, hog, hgt, hgo⟩ := iv.fx.gs
  obtain ⟨fs, hfs, hF⟩ := id iv.cx
  obtain ⟨tc, hchk⟩ := hF.chk
  obtain ⟨a, t1, t2, vr, rfl, hP, hr⟩ := he.inv
  unfold conv at h
  refine wDef H (fn_turn_by_rows k) rfl fun F' H' => ?_
  k_extra "in"
  by_cases h1 : e.k = kk
  · rw [if_pos (.inl h1)] at h
    repeat k_extra "w"
    exact h _ P₀ os Le.rfl he (by simpa using iv)
  by_cases h2 : e.k = 15
  · rw [if_pos (.inr h2)] at h
    repeat k_extra "w"
    exact h _ P₀ os Le.rfl he (by simpa using iv)
  rw [if_neg (by rw [not_or]; exact ⟨h1, h2⟩)] at h
  repeat k_extra "w"
  refine mGet (.p hog) hgt.ex ?_
  repeat k_extra "w"
  intro b P' l hb'
  repeat k_extra "w"
  refine cGetH (room_tup H') (.p (l _ _ hog)) (hgt.mono l) iv.fx.gsl (key_tup2 hb') ?_
  rcases hgo.look e.k kk with ⟨g1, g2⟩ | ⟨cv, p, tq, g1, g3, g2⟩
  · rw [g1] at h
    rw [g2]
    simp only [Option.map_none, Option.getD_none]
    repeat k_extra "w"
    refine c_show k H' (by omega) fun _ => ?_
    repeat k_extra "w"
    refine c_show k H' (by omega) fun _ => ?_
    repeat k_extra "w"
    intro y P'' l' hy
    repeat k_extra "w"
    refine c_fault H' (iv.mono (l.trans l')) (hn.mono (l.trans l')) (ws := [shown e.k, shown kk]) (.tup hy (.cons (.str _ _ (strOk_of _)) (.cons (.str _ _ (strOk_of _)) .nil))) hl fun P3 os' l3 iv' => ?_
    repeat k_extra "w"
    refine c_bad k H' fun x P4 l4 hx => ?_
    repeat k_extra "w"
    exact h x P4 os' (((l.trans l').trans l3).trans l4) hx (iv'.mono l4)
  · rw [g1] at h
    rw [g2]
    simp only [Option.map_some, Option.getD_some]
    repeat k_extra "w"
    intro y P'' l' hy
    repeat k_extra "w"
    exact h _ P'' os (l.trans l') (.tup hy (.cons (.int _ _) (.cons (.int _ _) (.cons (he.mono (l.trans l')) (.cons (.int _ _) (.cons (.int _ _) .nil)))))) (by simpa using iv.mono (l.trans l'))
  ))) only [↓quiet]
theorem c_convert (H : Ok F D (n + 4)) {W : WL} {cfg : Cfg} {σ : Sig} {os : Os} {X : List (Addr × Obj)} (iv : Inv c W cfg P₀ σ os) {ev v x : Value} {e : Ex} (he : Xv P₀ ev e) (hb : e.k.natAbs ≤ 100) {kk : Int} {t : Tok} (h15 : kk ≠ 15) (hkb : kk.natAbs ≤ 100)
    {kind nid : Int} {av : Value} {ks : List Value} (hn : Nd P₀ v kind av ks nid) (hl : σ.fc.length ≤ 900)
    {Q : Value → St → Prop} (h : ∀ x P' os', Le P₀ P' → Xv P' x (conv cfg e kk (100 + nid)).1 → Inv c W cfg P' { σ with fc := σ.fc ++ (conv cfg e kk (100 + nid)).2 } os' → Q x ⟨fr₀, P', mM W os' X⟩) :
    WP F (call (.ref 408) [.ref W.tu, .ref W.cx, ev, .int kk t, v, x]) ⟨fr₀, P₀, mM W os X⟩ Q := by
  refine ofQ ?_; simp (disch := (k_dflt (
  refine hold ?_
  have k := iv.ks.kf
  obtain ⟨ta, tb, htu⟩ := iv.fx.tu
  refine wDef H (fn_Turner_convert k) rfl fun F' H' => ?_
  k_extra "in"
  repeat k_extra "w"
  refine c_turn H' iv he hb h15 hkb hn hl fun x P' os' l hx iv' => ?_
  repeat k_extra "w"
  exact h x P' os' l hx iv'
  ))) only [↓quiet]
theorem c_fits (H : Ok F D (n + 6)) {W : WL} {cfg : Cfg} {σ : Sig} {os : Os} {X : List (Addr × Obj)} (iv : Inv c W cfg P₀ σ os) {ev v : Value} {e : Ex} (he : Xv P₀ ev e) (hb : e.k.natAbs ≤ 100) {kk : Int} {t : Tok} (h15 : kk ≠ 15) (hkb : kk.natAbs ≤ 100)
    {kind nid : Int} {av : Value} {ks : List Value} (hn : Nd P₀ v kind av ks nid) (hl : σ.fc.length ≤ 900)
    {Q : Value → St → Prop} (h : ∀ x P' os', Le P₀ P' → Xv P' x (conv cfg e kk (100 + nid)).1 → Inv c W cfg P' { σ with fc := σ.fc ++ (conv cfg e kk (100 + nid)).2 } os' → Q x ⟨fr₀, P', mM W os' X⟩) :
    WP F (call (.ref 658) [.ref W.cx, ev, .int kk t, v]) ⟨fr₀, P₀, mM W os X⟩ Q := by
  refine ofQ ?_; simp (disch := (k_dflt (
  refine hold ?_
  have k := iv.ks.kf
  have hcx := iv.fx.cxi
  have hfi := iv.fx.fi
  obtain ⟨ta, tb, htu⟩ := iv.fx.tu
  obtain ⟨fs, hfs, hF⟩ := id iv.cx
  have a1 := hF.fitter
  have a2 := hF.turner
  refine wDef H (fn_Seat_fits k) rfl fun F' H' => ?_
  k_extra "in"
  repeat k_extra "w"
  refine wDef H' (fn_Fitter_fit k) rfl fun F'' H'' => ?_
  k_extra "in"
  repeat k_extra "w"
  refine c_convert H'' iv he hb h15 hkb hn hl fun x P' os' l hx iv' => ?_
  repeat k_extra "w"
  exact h x P' os' l hx iv'
  ))) only [↓quiet]
end
section
variable {c : Cx} {F : Frm c} {D : FnD} {n : Nat} {fr₀ : List (Str × Option Value)} {P₀ : Pset} {M₀ : List (Addr × Obj)}
theorem c_under (k : KF c.K) (H : Ok F D (n + 1)) {W : WL} {cfg : Cfg} (fx : Fx c W cfg P₀) {x : Value} {i : Int} {t : Tok} {Q : Value → St → Prop} (h : ∀ t, Q (.int (if i = 18 then 7 else i) t) ⟨fr₀, P₀, M₀⟩) : WP F (call (.ref 443) [.ref W.tu, x, .int i t]) ⟨fr₀, P₀, M₀⟩ Q := by
  refine ofQ ?_; simp (disch := (k_dflt (
  refine hold ?_
  obtain ⟨ta, tb, htu⟩ := fx.tu
  obtain ⟨o, tu, ho, hd⟩ := fx.un
  refine wDef H (fn_Turner_under k) rfl fun F' H' => ?_
  k_extra "in"
  repeat k_extra "w"
  refine mGet (.p ho) (exactOf hd) ?_
  repeat k_extra "w"
  refine cGet2 (.p ho) hd fx.unl (isI _ _ _) ?_
  rw [valueAt_cons]
  by_cases e : i = 18
  · subst e
    rw [if_pos rfl] at h
    simp only [if_pos, Option.getD_some]
    repeat k_extra "w"
    exact h _
  · rw [if_neg e] at h
    rw [if_neg (fun q => e q.symm), valueAt_none (by simp), Option.getD_none]
    repeat k_extra "w"
    exact h _
  ))) only [↓quiet]
section
variable {W : WL} {cfg : Cfg} {σ : Sig} {os : Os} {X : List (Addr × Obj)} {v want : Value} {nid : Int}
theorem c_text (H : Ok F D (n + 1)) (iv : Inv c W cfg P₀ σ os) {s : Str} {av : Value} (hn : Nd P₀ v 2 av [] nid) (hs : Dt P₀ av (.str s)) {Q : Value → St → Prop} (h : ∀ x P', Le P₀ P' → Xv P' x ⟨1, 13, [.str s]⟩ → Q x ⟨fr₀, P', M₀⟩) : WP F (call (.ref 814) [.ref W.rT, .ref W.cx, v, want]) ⟨fr₀, P₀, M₀⟩ Q := by
  refine ofQ ?_; simp (disch := (k_dflt (
  refine hold ?_
  have k := iv.ks.kf
  obtain ⟨t, rfl⟩ := hs.str_inv
  obtain ⟨y, kl, t1, t2, t3, t4, m, rfl, hI, hkl, hk3⟩ := hn
  refine wDef H (fn_TextRule_bind k) rfl fun F' H' => ?_
  k_extra "in"
  repeat k_extra "w"
  intro a P' l hP
  repeat k_extra "w"
  exact h _ _ l (.tup hP (.cons (.int _ _) (.cons (.int _ _) (.cons (hs.mono l) .nil))))
  ))) only [↓quiet]
theorem c_char (H : Ok F D (n + 1)) (iv : Inv c W cfg P₀ σ os) {i : Int} {av : Value} (hn : Nd P₀ v 3 av [] nid) (hs : Dt P₀ av (.int i)) {Q : Value → St → Prop} (h : ∀ x P', Le P₀ P' → Xv P' x ⟨1, 2, [.int i]⟩ → Q x ⟨fr₀, P', M₀⟩) : WP F (call (.ref 833) [.ref W.rC, .ref W.cx, v, want]) ⟨fr₀, P₀, M₀⟩ Q := by
  refine ofQ ?_; simp (disch := (k_dflt (
  refine hold ?_
  have k := iv.ks.kf
  obtain ⟨t, rfl⟩ := hs.int_inv
  obtain ⟨y, kl, t1, t2, t3, t4, m, rfl, hI, hkl, hk3⟩ := hn
  refine wDef H (fn_CharRule_bind k) rfl fun F' H' => ?_
  k_extra "in"
  repeat k_extra "w"
  intro a P' l hP
  repeat k_extra "w"
  exact h _ _ l (.tup hP (.cons (.int _ _) (.cons (.int _ _) (.cons (.int _ _) .nil))))
  ))) only [↓quiet]
theorem c_truth (k : KF c.K) (H : Ok F D (n + 1)) {x y : Value} {r : Addr} {i : Int} {t : Tok} (hr : Ins P₀ r 862 [(S "value", .int i t)]) {Q : Value → St → Prop} (h : ∀ x P', Le P₀ P' → Xv P' x ⟨1, 1, [.int i]⟩ → Q x ⟨fr₀, P', M₀⟩) : WP F (call (.ref 859) [.ref r, x, y, want]) ⟨fr₀, P₀, M₀⟩ Q := by
  refine ofQ ?_; simp (disch := (k_dflt (
  refine hold ?_
  refine wDef H (fn_TruthRule_bind k) rfl fun F' H' => ?_
  k_extra "in"
  repeat k_extra "w"
  intro a P' l hP
  repeat k_extra "w"
  exact h _ _ l (.tup hP (.cons (.int _ _) (.cons (.int _ _) (.cons (.int _ _) .nil))))
  ))) only [↓quiet]
theorem c_null (k : KF c.K) (H : Ok F D (n + 1)) {x y z : Value} {Q : Value → St → Prop} (h : ∀ x P', Le P₀ P' → Xv P' x ⟨1, 14, [.none]⟩ → Q x ⟨fr₀, P', M₀⟩) : WP F (call (.ref 878) [z, x, y, want]) ⟨fr₀, P₀, M₀⟩ Q := by
  refine ofQ ?_; simp (disch := (k_dflt (
  refine hold ?_
  refine wDef H (fn_NullRule_bind k) rfl fun F' H' => ?_
  k_extra "in"
  repeat k_extra "w"
  intro a P' l hP
  repeat k_extra "w"
  exact h _ _ l (.tup hP (.cons (.int _ _) (.cons (.int _ _) (.cons .none .nil))))
  ))) only [↓quiet]
theorem c_table (H : Ok F D (n + 1)) (iv : Inv c W cfg P₀ σ os) {av x : Value} {kind : Int} (hn : Nd P₀ v kind av [] nid) (hx : valueAt σ.rk nid = some x) {Q : Value → St → Prop} (h : Q x ⟨fr₀, P₀, mM W os X⟩) : WP F (call (.ref 314) [.ref W.rNm, .ref W.cx, v, want]) ⟨fr₀, P₀, mM W os X⟩ Q := by
  refine ofQ ?_; simp (disch := (k_dflt (
  refine hold ?_
  have k := iv.ks.kf
  have hi := iv.fx.iNm
  obtain ⟨y, kl, t1, t2, t3, t4, m, rfl, hI, hkl, hk3⟩ := hn
  refine wDef H (fn_TableRule_bind k) rfl fun F' H' => ?_
  k_extra "in"
  repeat k_extra "w"
  refine wItemD (.m ?m) iv.rw (isI _ _ _) hx ?_ (hs := ?hs)
  case m => k_extra "mm"
  case hs => with_unfolding_all rfl
  repeat k_extra "w"
  exact h
  ))) only [↓quiet]
end
end
section
variable {c : Cx} {F : Frm c} {D : FnD} {n : Nat} {fr₀ : List (Str × Option Value)} {P₀ : Pset} {M₀ : List (Addr × Obj)}
theorem firstK_0 (n : Int) : firstK n (S "") = if n ≤ 2147483647 then some 7 else if n ≤ 4294967295 then some 8 else if n ≤ 9223372036854775807 then some 9 else if n ≤ 18446744073709551615 then some 10 else none := by
  simp [firstK]
theorem firstK_u (n : Int) : firstK n (S "u") = if n ≤ 4294967295 then some 8 else if n ≤ 18446744073709551615 then some 10 else none := by
  refine ofQ ?_; simp (disch := (k_dflt (
  refine hold ?_
  have e1 : (S "u" = S "") = False := by simp only [eq_iff_iff, iff_false]; decide
  have e2 : (S "u" = S "l") = False := by simp only [eq_iff_iff, iff_false]; decide
  simp only [firstK, e1, e2, and_false, if_false, or_true, and_true, or_self]
  ))) only [↓quiet]
theorem firstK_l (n : Int) : firstK n (S "l") = if n ≤ 9223372036854775807 then some 9 else if n ≤ 18446744073709551615 then some 10 else none := by
  refine ofQ ?_; simp (disch := (k_dflt (
  refine hold ?_
  have e1 : (S "l" = S "") = False := by simp only [eq_iff_iff, iff_false]; decide
  have e2 : (S "l" = S "u") = False := by simp only [eq_iff_iff, iff_false]; decide
  simp only [firstK, e1, e2, and_false, if_false, or_true, and_true, or_self]
  ))) only [↓quiet]
theorem firstK_ul (n : Int) : firstK n (S "ul") = if n ≤ 18446744073709551615 then some 10 else none := by
  refine ofQ ?_; simp (disch := (k_dflt (
  refine hold ?_
  have e1 : (S "ul" = S "") = False := by simp only [eq_iff_iff, iff_false]; decide
  have e2 : (S "ul" = S "u") = False := by simp only [eq_iff_iff, iff_false]; decide
  have e3 : (S "ul" = S "l") = False := by simp only [eq_iff_iff, iff_false]; decide
  simp only [firstK, e1, e2, e3, and_false, if_false, or_self]
  ))) only [↓quiet]
noncomputable def fK (i : Int) (l : List (Int × Tok × Int × Tok)) : Option Int := l.foldr (fun p r => if i ≤ p.2.2.1 then some p.1 else r) none
theorem fk1 {α : Type} {Z : α → Prop} {a : α} (ha : Z a) : ∀ p ∈ [a], Z p := List.forall_mem_cons.mpr ⟨ha, fun _ h => nomatch h⟩
theorem fk2 {α : Type} {Z : α → Prop} {a b : α} (ha : Z a) (hb : Z b) : ∀ p ∈ [a, b], Z p := List.forall_mem_cons.mpr ⟨ha, fk1 hb⟩
theorem fk4 {α : Type} {Z : α → Prop} {a b c d : α} (ha : Z a) (hb : Z b) (hc : Z c) (hd : Z d) : ∀ p ∈ [a, b, c, d], Z p := List.forall_mem_cons.mpr ⟨ha, List.forall_mem_cons.mpr ⟨hb, fk2 hc hd⟩⟩
section
variable {W : WL} {cfg : Cfg} {σ : Sig} {os : Os} {X : List (Addr × Obj)} {v want : Value} {nid : Int}
theorem c_int (H : Ok F D (n + 4)) (iv : Inv c W cfg P₀ σ os) {i : Int} {w : Str} {av : Value} (hn : Nd P₀ v 1 av [] nid) (hs : Dt P₀ av (.tuple [.int i, .str w])) (hw : w ∈ [S "", S "u", S "l", S "ul"]) (hl : σ.fc.length ≤ 900)
    {Q : Value → St → Prop} (h : ∀ x P' os', Le P₀ P' → Xv P' x (rdInt i w (100 + nid)).1 → Inv c W cfg P' { σ with fc := σ.fc ++ (rdInt i w (100 + nid)).2 } os' → Q x ⟨fr₀, P', mM W os' X⟩) :
    WP F (call (.ref 795) [.ref W.rI, .ref W.cx, v, want]) ⟨fr₀, P₀, mM W os X⟩ Q := by
  refine ofQ ?_; simp (disch := (k_dflt (
  refine hold ?_
  have ks := iv.ks
  have k := ks.kf
  obtain ⟨at_, as, rfl, hat, has⟩ := hs.tup_inv
  obtain ⟨t, w', e1, e2⟩ : ∃ t u, as = [.int i t, .str w u] ∧ True := by
    cases has with
    | cons a b =>
      cases b with
      | cons b c =>
        cases c
        obtain ⟨t, rfl⟩ := a.int_inv
        obtain ⟨u, rfl⟩ := b.str_inv
        exact ⟨t, u, rfl, trivial⟩
  subst e1
  obtain ⟨y, kl, t1, t2, t3, t4, m, rfl, hI, hkl, hk3⟩ := id hn
  obtain ⟨otops, ht1, ht2⟩ := ks.tops
  obtain ⟨okin, hk1, hk2⟩ := ks.kinds
  refine wDef H (fn_IntRule_bind k) rfl fun F' H' => ?_
  k_extra "in"
  refine WP.kobj H' ht1 fun Pa la htp => ?_
  refine WP.kobj H' hk1 fun Pb lb hki => ?_
  refine WP.kobj H' ks.k0 fun Pc lc h777 => ?_
  refine WP.kobj H' ks.k1 fun Pd ld h778 => ?_
  refine WP.kobj H' ks.k2 fun Pe le h779 => ?_
  refine WP.kobj H' ks.k3 fun Pf lf h780 => ?_
  have lall : Le P₀ Pf := ((((la.trans lb).trans lc).trans ld).trans le).trans lf
  have htp' : Pf 781 otops := (((lb.trans lc).trans ld).trans (le.trans lf)) _ _ htp
  have hki' : Pf 776 okin := (lc.trans (ld.trans (le.trans lf))) _ _ hki
  have hI' := hI.mono lall
  have hat' := lall _ _ hat
  have iv' := iv.mono lall
  have hn' := hn.mono lall
  have ok : ∀ (kk : Int) x P', Le Pf P' → firstK i w = some kk → P' x (tupO [.int 1 635, .int kk 0, .int i t]) → True := fun _ _ _ _ _ _ => trivial
  have good : ∀ (kk : Int) x P' ta tb tc, Le Pf P' → firstK i w = some kk → P' x (tupO [.int 1 ta, .int kk tb, .int i tc]) → Q (.ref x) ⟨fr₀, P', mM W os X⟩ := fun kk x P' ta tb tc l e hP => by
    unfold rdInt at h
    rw [e] at h
    exact h _ P' os (lall.trans l) (.tup hP (.cons (.int _ _) (.cons (.int _ _) (.cons (.int _ _) .nil)))) (by simpa using iv'.mono l)
  have badc : firstK i w = none → ∀ x P' os', Le Pf P' → Xv P' x badE → Inv c W cfg P' { σ with fc := σ.fc ++ [flt 1021 (100 + nid) []] } os' → Q x ⟨fr₀, P', mM W os' X⟩ := fun e x P' os' l hx iv2 => by
    unfold rdInt at h
    rw [e] at h
    exact h _ P' os' (lall.trans l) hx iv2
  clear ok h hat hI hn
  repeat k_extra "w"
  obtain ⟨ra, ls, hv, ht, hls, hf⟩ : ∃ ra ls, valueAt [(S "", .ref 777), (S "u", .ref 778), (S "l", .ref 779), (S "ul", .ref 780)] w = some (.ref ra) ∧ Pf ra (tupO (ls.map fun p => .int p.1 p.2.1)) ∧ (∀ p ∈ ls, valueAt [((7 : Int), .int 2147483647 1467), (8, .int 4294967295 1468), (9, .int 9223372036854775807 1469), (10, .int 18446744073709551615 1470)] p.1 = some (.int p.2.2.1 p.2.2.2)) ∧ firstK i w = fK i ls := by
    simp only [List.mem_cons, List.not_mem_nil, or_false] at hw
    rcases hw with rfl | rfl | rfl | rfl
    · exact ⟨777, [(7, 291, 2147483647, 1467), (8, 293, 4294967295, 1468), (9, 295, 9223372036854775807, 1469), (10, 297, 18446744073709551615, 1470)], rfl, (ld.trans (le.trans lf)) _ _ h777, fk4 rfl rfl rfl rfl, firstK_0 i⟩
    · exact ⟨778, [(8, 293, 4294967295, 1468), (10, 297, 18446744073709551615, 1470)], rfl, (le.trans lf) _ _ h778, fk2 rfl rfl, firstK_u i⟩
    · exact ⟨779, [(9, 295, 9223372036854775807, 1469), (10, 297, 18446744073709551615, 1470)], rfl, lf _ _ h779, fk2 rfl rfl, firstK_l i⟩
    · exact ⟨780, [(10, 297, 18446744073709551615, 1470)], rfl, h780, fk1 rfl, firstK_ul i⟩
  clear h777 h778 h779 h780 hw ld le lf lc lb la htp hki
  k_extra "forT"
  repeat k_extra "w"
  refine wItemD (.p hki') hk2 (isS _ _ _) hv ?_ (hs := ?hs)
  case hs => with_unfolding_all rfl
  refine OverTup.l ht fun I => ?_
  refine (?loop : ∀ (ls : List (Int × Tok × Int × Tok)) vk, (∀ p ∈ ls, valueAt [((7 : Int), .int 2147483647 1467), (8, .int 4294967295 1468), (9, .int 9223372036854775807 1469), (10, .int 18446744073709551615 1470)] p.1 = some (.int p.2.2.1 p.2.2.2)) → firstK i w = fK i ls → TurnsL _ _ _ _ _ (ls.map fun p => Value.int p.1 p.2.1) ⟨[(S "self", some (.ref W.rI)), (S "cx", some (.ref W.cx)), (S "node", some (.ref y)), (S "want", some want), (S "k", vk), (S "n", some (.int i t)), (S "word", some (.str w w'))], Pf, mM W os X⟩) ls none hls hf
  case loop =>
    clear hls hf ht hv ls ra
    intro ls
    induction ls with
    | nil =>
      intro vk hls hf
      refine TurnsL.nil ?_
      repeat k_extra "w"
      intro a P' l hP
      repeat k_extra "w"
      refine c_tell_fault H' (iv'.mono l) (hn'.mono l) (ws := []) (.tup hP .nil) hl fun x P2 os' l2 hx iv2 => ?_
      repeat k_extra "w"
      exact badc hf x P2 os' (l.trans l2) hx iv2
    | cons p r IH =>
      intro vk hls hf
      refine TurnsL.cons fun o0 => ?_
      repeat k_extra "w"
      refine wItemD (.p htp') ht2 (isI _ _ _) (hls p (.head _)) ?_ (hs := ?hs)
      case hs => with_unfolding_all rfl
      repeat k_extra "w"
      refine ⟨fun hq => ?_, fun hq => ?_⟩
      · have hq' := of_decide_eq_true hq
        repeat k_extra "w"
        intro a P' l hP
        repeat k_extra "w"
        refine TurnEnd.rt (M := mM W os X) ?_
        repeat k_extra "w"
        exact good p.1 _ _ _ _ _ l (hf.trans (if_pos hq')) hP
      have q0 := of_decide_eq_false hq
      repeat k_extra "w"
      refine TurnEnd.nx (M := mM W os X) Le.rfl ?_
      exact IH _ (fun q h => hls q (.tail _ h)) (hf.trans (if_neg q0))
  ))) only [↓quiet]
end
end
section
variable {c : Cx} {F : Frm c} {D : FnD} {n : Nat} {fr₀ : List (Str × Option Value)} {P₀ : Pset} {M₀ : List (Addr × Obj)}
section
variable {W : WL} {cfg : Cfg} {σ : Sig} {os : Os} {X : List (Addr × Obj)} {v : Value} {nid : Int}
theorem goodK_small {kk : Int} (h : kk ∈ goodK) : kk ≠ 15 ∧ kk.natAbs ≤ 100 ∧ 0 ≤ kk ∧ kk ≠ 0 := by
  exact (by decide : ∀ k ∈ goodK, k ≠ 15 ∧ k.natAbs ≤ 100 ∧ 0 ≤ k ∧ k ≠ 0) kk h
theorem c_default_expr (H : Ok F D (n + 7)) (iv : Inv c W cfg P₀ σ os) {kk : Int} {t : Tok} (hk : kk ∈ goodK) {kind : Int} {av : Value} {ks : List Value} (hn : Nd P₀ v kind av ks nid) (hl : σ.fc.length ≤ 900)
    {Q : Value → St → Prop} (h : ∀ x P' os', Le P₀ P' → Xv P' x (rdDef cfg kk (100 + nid)).1 → Inv c W cfg P' { σ with fc := σ.fc ++ (rdDef cfg kk (100 + nid)).2 } os' → Q x ⟨fr₀, P', mM W os' X⟩) :
    WP F (call (.ref 923) [.ref W.cx, .int kk t, v]) ⟨fr₀, P₀, mM W os X⟩ Q := by
  refine ofQ ?_; simp (disch := (k_dflt (
  refine hold ?_
  have k := iv.ks.kf
  have hcx := iv.fx.cxi
  obtain ⟨fs, hfs, hF⟩ := id iv.cx
  have a1 := hF.kt
  have a2 := hF.turner
  obtain ⟨ta, tb, htu⟩ := iv.fx.tu
  obtain ⟨g15, g100, g0, g00⟩ := goodK_small hk
  unfold rdDef at h
  refine wDef H (fn_default_expr k) rfl fun F' H' => ?_
  k_extra "in"
  repeat k_extra "w"
  refine c_is_ref k H' iv.fx.kti iv.kt hk ?_
  repeat k_extra "w"
  by_cases hr : isRefK kk = true
  · rw [if_pos hr] at h
    rw [hr]
    repeat k_extra "w"
    intro a P' l hP
    repeat k_extra "w"
    refine c_fits H' (iv.mono l) (e := ⟨1, 14, [.none]⟩) (.tup hP (.cons (.int _ _) (.cons (.int _ _) (.cons .none .nil)))) (by decide) g15 g100 (hn.mono l) hl fun x P2 os' l2 hx iv2 => ?_
    repeat k_extra "w"
    exact h x P2 os' (l.trans l2) hx iv2
  · rw [if_neg hr] at h
    have hr' : isRefK kk = false := by simpa using hr
    rw [hr']
    repeat k_extra "w"
    by_cases h10 : kk ≤ 10
    · rw [if_pos (.inl ⟨by omega, h10⟩)] at h
      repeat k_extra "w"
      intro a P' l hP
      repeat k_extra "w"
      exact h _ P' os l (.tup hP (.cons (.int _ _) (.cons (.int _ _) (.cons (.int _ _) .nil)))) (by simpa using iv.mono l)
    · repeat k_extra "w"
      refine c_under k H' iv.fx fun _ => ?_
      repeat k_extra "w"
      by_cases h18 : kk = 18
      · rw [if_pos (.inr h18)] at h
        subst h18
        repeat k_extra "w"
        intro a P' l hP
        repeat k_extra "w"
        exact h _ P' os l (.tup hP (.cons (.int _ _) (.cons (.int _ _) (.cons (.int _ _) .nil)))) (by simpa using iv.mono l)
      · rw [if_neg (by rw [not_or]; exact ⟨fun q => h10 q.2, h18⟩)] at h
        rw [if_neg h18]
        repeat k_extra "w"
        intro a P' l hP
        repeat k_extra "w"
        exact h _ P' os l (.tup hP (.cons (.int _ _) (.cons (.int _ _) .nil))) (by simpa using iv.mono l)
  ))) only [↓quiet]
theorem c_default (H : Ok F D (n + 8)) (iv : Inv c W cfg P₀ σ os) {kk : Int} {t : Tok} (hk : kk ∈ goodK) {av : Value} (hn : Nd P₀ v 27 av [] nid) (hl : σ.fc.length ≤ 900)
    {Q : Value → St → Prop} (h : ∀ x P' os', Le P₀ P' → Xv P' x (rdDef cfg kk (100 + nid)).1 → Inv c W cfg P' { σ with fc := σ.fc ++ (rdDef cfg kk (100 + nid)).2 } os' → Q x ⟨fr₀, P', mM W os' X⟩) :
    WP F (call (.ref 911) [.ref W.rD, .ref W.cx, v, .int kk t]) ⟨fr₀, P₀, mM W os X⟩ Q := by
  refine ofQ ?_; simp (disch := (k_dflt (
  refine hold ?_
  have k := iv.ks.kf
  obtain ⟨g15, g100, g0, g00⟩ := goodK_small hk
  obtain ⟨y, kl, t1, t2, t3, t4, m, rfl, hI, hkl, hk3⟩ := id hn
  refine wDef H (fn_DefaultRule_bind k) rfl fun F' H' => ?_
  k_extra "in"
  repeat k_extra "w"
  refine c_default_expr H' iv hk hn hl fun x P2 os' l2 hx iv2 => ?_
  repeat k_extra "w"
  exact h x P2 os' l2 hx iv2
  ))) only [↓quiet]
end
end
section
variable {c : Cx} {F : Frm c} {D : FnD} {n : Nat} {fr₀ : List (Str × Option Value)} {P₀ : Pset} {M₀ : List (Addr × Obj)}
section
variable {W : WL} {cfg : Cfg} {σ : Sig} {os : Os} {X : List (Addr × Obj)} {v want : Value} {nid : Int}
theorem CxF.nd {d : Int} {fs : List (Str × Value)} (h : CxF W cfg d fs) {name : Str} {u v : Value} (ha : At name u fs) : ((putF name v fs).map (·.1)).Nodup ∧ (putF name v fs).length ≤ 800 := by
  have e := putF_keys (u := v) ha
  refine ⟨by rw [e, h.keys]; exact cxKeys_nd, ?_⟩
  have : ((putF name v fs).map (·.1)).length = (putF name v fs).length := by simp
  rw [← this, e, h.keys]
  decide
theorem c_deeper (H : Ok F D (n + 1)) (iv : Inv c W cfg P₀ σ os) (hd : σ.deep < 50) {kind : Int} {av : Value} {ks : List Value} (hn : Nd P₀ v kind av ks nid)
    {Q : Value → St → Prop} (h : ∀ os', Inv c W cfg P₀ { σ with deep := σ.deep + 1 } os' → Q .none ⟨fr₀, P₀, mM W os' X⟩) :
    WP F (call (.ref 747) [.ref W.cx, v]) ⟨fr₀, P₀, mM W os X⟩ Q := by
  refine ofQ ?_; simp (disch := (k_dflt (
  refine hold ?_
  obtain ⟨o1, o2, o3, o4, o5, ow, orw, odu, odg, ocx⟩ := os
  have k := iv.ks.kf
  have hcx := iv.fx.cxi
  obtain ⟨fs, hfs, hF⟩ := id iv.cx
  replace hfs : IsFld ocx fs := hfs
  obtain ⟨td, a1⟩ := hF.deep
  obtain ⟨y, kl, t1, t2, t3, t4, m, rfl, hI, hkl, hk3⟩ := id hn
  refine wDef H (fn_deeper k) rfl fun F' H' => ?_
  k_extra "in"
  repeat k_extra "w"
  have nd1 := hF.nd (v := .int (σ.deep + 1) (by assumption)) a1
  refine' wSet H' hcx (fun o' => ?U) hfs ?cs rfl nd1.1 nd1.2 (fun o1' ho1' => ?_)
  case U => k_extra "mp"
  case cs => k_extra "cls"
  have hF1 := hF.putDeep (d' := σ.deep + 1) (t := by assumption)
  obtain ⟨ia, ta, a2⟩ := hF1.at_
  repeat k_extra "w"
  have nd2 := hF1.nd (v := .int (100 + nid) t3) a2
  refine' wSet H' hcx (fun o' => ?U) ho1' ?cs rfl nd2.1 nd2.2 (fun o2' ho2' => ?_)
  case U => k_extra "mp"
  case cs => k_extra "cls"
  repeat k_extra "w"
  exact h ⟨o1, o2, o3, o4, o5, ow, orw, odu, odg, o2'⟩ ⟨iv.ks, iv.fx, iv.kt, iv.w, iv.rw, iv.du, iv.dg, ⟨_, ho2', hF1.putAt⟩⟩
  ))) only [↓quiet]
theorem c_expr (H : Ok F D (n + 3)) (iv : Inv c W cfg P₀ σ os) (hd : σ.deep < 50) {kind : Int} {av : Value} {ks : List Value} (hn : Nd P₀ v kind av ks nid)
    {oe : Obj} {kvs : List (Int × Value)} (hoe : P₀ W.ex oe) (hdx : oe.IsDictOf (intKind P0 c.w) kvs) {r C fb : Addr} (hex : valueAt kvs kind = some (.ref r)) {rfs : List (Str × Value)} (hr : Ins P₀ r C rfs) (hcm : ClsM c.K C (S "bind") fb) (hno : (rfs.map (·.1)).elem (S "bind") = false)
    {A' : List Int} {fc' : List PyData} {e : Ex}
    (hb : ∀ (F' : Frm c) (D' : FnD), Ok F' D' (n + 1) → ∀ fr' os', Inv c W cfg P₀ { σ with deep := σ.deep + 1 } os' → ∀ Q' : Value → St → Prop, (∀ x P' os'', Le P₀ P' → Xv P' x e → Inv c W cfg P' { σ with A := A', fc := fc', deep := σ.deep + 1 } os'' → Q' x ⟨fr', P', mM W os'' X⟩) →
      WP F' (call (.ref fb) [.ref r, .ref W.cx, v, want]) ⟨fr', P₀, mM W os' X⟩ Q')
    {Q : Value → St → Prop} (h : ∀ x P' os', Le P₀ P' → Xv P' x e → Inv c W cfg P' { σ with A := A', fc := fc' } os' → Q x ⟨fr₀, P', mM W os' X⟩) :
    WP F (call (.ref 637) [.ref W.cx, v, want]) ⟨fr₀, P₀, mM W os X⟩ Q := by
  refine ofQ ?_; simp (disch := (k_dflt (
  refine hold ?_
  have k := iv.ks.kf
  have hcx := iv.fx.cxi
  obtain ⟨fs, hfs, hF⟩ := id iv.cx
  have a1 := hF.exprs
  obtain ⟨y, kl, t1, t2, t3, t4, m, rfl, hI, hkl, hk3⟩ := id hn
  refine wDef H (fn_Seat_expr k) rfl fun F' H' => ?_
  k_extra "in"
  repeat k_extra "w"
  refine wDef H' (fn_bind_expr k) rfl fun F'' H'' => ?_
  k_extra "in"
  repeat k_extra "w"
  refine mGet (.p hoe) (exactOf hdx) ?_
  repeat k_extra "w"
  refine cGet1 (.p hoe) hdx iv.fx.exl (isI _ _ _) ?_
  rw [hex]
  simp only [Option.getD_some]
  repeat k_extra "w"
  refine c_deeper H'' iv hd hn fun os1 iv1 => ?_
  repeat k_extra "w"
  refine' wMeth (by assumption) hr hcm hno ?_
  refine wWithK1 (by assumption) hcm.2.2.2 ?_ (he := ?he) (hplain := ?hp)
  case he => rfl
  case hp => rfl
  repeat k_extra "w"
  refine hb F'' _ H'' _ os1 iv1 _ fun x P1 os2 l1 hx iv2 => ?_
  obtain ⟨o1, o2, o3, o4, o5, ow, orw, odu, odg, ocx⟩ := os2
  have hcx2 := l1 _ _ hcx
  obtain ⟨fs2, hfs2, hF2⟩ := id iv2.cx
  replace hfs2 : IsFld ocx fs2 := hfs2
  obtain ⟨td, b1⟩ := hF2.deep
  repeat k_extra "w"
  have nd1 := hF2.nd (v := .int (σ.deep + 1 - 1) (by assumption)) b1
  refine' wSet H'' hcx2 (fun o' => ?U) hfs2 ?cs rfl nd1.1 nd1.2 (fun o1' ho1' => ?_)
  case U => k_extra "mp"
  case cs => k_extra "cls"
  have hF3 := hF2.putDeep (d' := σ.deep + 1 - 1) (t := by assumption)
  have ed : σ.deep + 1 - 1 = σ.deep := by omega
  repeat k_extra "w"
  exact h _ P1 ⟨o1, o2, o3, o4, o5, ow, orw, odu, odg, o1'⟩ l1 hx ⟨iv2.ks, iv2.fx, iv2.kt, iv2.w, iv2.rw, iv2.du, iv2.dg, ⟨_, ho1', by have := hF3; rw [ed] at this ⊢; exact this⟩⟩
  ))) only [↓quiet]
end
end
section
variable {c : Cx} {F : Frm c} {D : FnD} {n : Nat} {fr₀ : List (Str × Option Value)} {P₀ : Pset} {M₀ : List (Addr × Obj)}
section
variable {W : WL} {cfg : Cfg} {σ : Sig} {os : Os} {X : List (Addr × Obj)} {v : Value} {nid : Int}
theorem same_fc {os' : Os} {P : Pset} {d : Int} (iv : Inv c W cfg P { σ with deep := d } os') : Inv c W cfg P { σ with A := σ.A, fc := σ.fc ++ [], deep := d } os' := by
  rw [List.append_nil]; exact iv
theorem c_expr_leaf (H : Ok F D (n + 12)) (iv : Inv c W cfg P₀ σ os) (hd : σ.deep < 50) (hl : σ.fc.length ≤ 900) {f : Leaf} (hf : LfIs P₀ σ.rk v nid f) {want : Int} {t : Tok} (hw : f = .dflt → want ∈ goodK)
    {Q : Value → St → Prop} (h : ∀ x P' os', Le P₀ P' → Xv P' x (rdLeaf cfg f (100 + nid) want).1 → Inv c W cfg P' { σ with fc := σ.fc ++ (rdLeaf cfg f (100 + nid) want).2 } os' → Q x ⟨fr₀, P', mM W os' X⟩) :
    WP F (call (.ref 637) [.ref W.cx, v, .int want t]) ⟨fr₀, P₀, mM W os X⟩ Q := by
  refine ofQ ?_; simp (disch := (k_dflt (
  refine hold ?_
  have k := iv.ks.kf
  obtain ⟨oe, kvs, hoe, hdx, e1, e2, e3, e4, e5, e6, e7, e27, e16⟩ := iv.fx.ex
  cases hf with
  | int hn hs hw' h0 =>
    refine c_expr (n := n + 9) H iv hd hn hoe hdx e1 iv.fx.iI (k.m (by k_extra "mem") (.head _)) rfl (fun F' D' H' fr' os' iv' Q' hq => ?_) h
    exact c_int (n := n + 6) H' iv' hn hs hw' hl hq
  | text hn hs =>
    refine c_expr (n := n + 9) H iv hd hn hoe hdx e2 iv.fx.iT (k.m (by k_extra "mem") (.head _)) rfl (fun F' D' H' fr' os' iv' Q' hq => ?_) h
    exact c_text (n := n + 9) H' iv' hn hs fun x P' l hx => hq x P' os' l hx (same_fc (iv'.mono l))
  | chr hn hs =>
    refine c_expr (n := n + 9) H iv hd hn hoe hdx e3 iv.fx.iC (k.m (by k_extra "mem") (.head _)) rfl (fun F' D' H' fr' os' iv' Q' hq => ?_) h
    exact c_char (n := n + 9) H' iv' hn hs fun x P' l hx => hq x P' os' l hx (same_fc (iv'.mono l))
  | tru hn =>
    obtain ⟨tt, hi⟩ := iv.fx.iTr
    refine c_expr (n := n + 9) H iv hd hn hoe hdx e4 hi (k.m (by k_extra "mem") (.head _)) rfl (fun F' D' H' fr' os' iv' Q' hq => ?_) h
    exact c_truth (n := n + 9) k H' hi fun x P' l hx => hq x P' os' l hx (same_fc (iv'.mono l))
  | fls hn =>
    obtain ⟨tt, hi⟩ := iv.fx.iF
    refine c_expr (n := n + 9) H iv hd hn hoe hdx e5 hi (k.m (by k_extra "mem") (.head _)) rfl (fun F' D' H' fr' os' iv' Q' hq => ?_) h
    exact c_truth (n := n + 9) k H' hi fun x P' l hx => hq x P' os' l hx (same_fc (iv'.mono l))
  | null hn =>
    refine c_expr (n := n + 9) H iv hd hn hoe hdx e6 iv.fx.iN (k.m (by k_extra "mem") (.head _)) rfl (fun F' D' H' fr' os' iv' Q' hq => ?_) h
    exact c_null (n := n + 9) k H' fun x P' l hx => hq x P' os' l hx (same_fc (iv'.mono l))
  | dflt hn =>
    refine c_expr (n := n + 9) H iv hd hn hoe hdx e27 iv.fx.iD (k.m (by k_extra "mem") (.head _)) rfl (fun F' D' H' fr' os' iv' Q' hq => ?_) h
    exact c_default (n := n + 2) H' iv' (hw rfl) hn hl hq
  | name hn hx he hs hb =>
    refine c_expr (n := n + 9) H iv hd hn hoe hdx e7 iv.fx.iNm (k.m (by k_extra "mem") (.head _)) rfl (fun F' D' H' fr' os' iv' Q' hq => ?_) h
    exact c_table (n := n + 9) H' iv' hn hx (hq _ P₀ os' Le.rfl he (same_fc iv'))
  ))) only [↓quiet]
end
end
section
variable {c : Cx} {F : Frm c} {D : FnD} {n : Nat} {fr₀ : List (Str × Option Value)} {P₀ : Pset} {M₀ : List (Addr × Obj)}
theorem look_named {P : Pset} (w : Str) {kvs : List (Str × Value)} {l : List (Str × Int)} (h : kvs.map (·.1) = l.map (·.1)) (hd : Dts P (kvs.map (·.2)) (l.map fun p => .int p.2)) : (l.lookup w = none ∧ valueAt kvs w = none) ∨ ∃ i t, l.lookup w = some i ∧ valueAt kvs w = some (.int i t) := by
  refine ofQ ?_; simp (disch := (k_dflt (
  refine hold ?_
  induction kvs generalizing l with
  | nil =>
    cases l with
    | nil => exact .inl ⟨rfl, rfl⟩
    | cons q l => cases h
  | cons x kvs IH =>
    cases l with
    | nil => cases h
    | cons q l =>
      have hx : x.1 = q.1 := List.head_eq_of_cons_eq h
      have ih := IH (l := l) (List.tail_eq_of_cons_eq h) (Dts.tl hd).2
      rw [valueAt_cons, List.lookup_cons, hx]
      by_cases e : w = q.1
      · obtain ⟨t, ht⟩ := (Dts.tl hd).1.int_inv
        rw [if_pos e.symm, e, beq_self_eq_true]
        exact .inr ⟨q.2, t, rfl, by rw [← ht]⟩
      · rw [if_neg (Ne.symm e), beq_eq_false_iff_ne.mpr e]
        exact ih
  ))) only [↓quiet]
section
variable {W : WL} {cfg : Cfg} {σ : Sig} {os : Os} {X : List (Addr × Obj)} {v : Value} {nid : Int}
theorem named_get (fx : Fx c W cfg P₀) (w : Str) : ∃ o kvs, P₀ W.nd o ∧ o.IsDictOf (PySem.strKind P0 c.w) kvs ∧ ∀ t, ∃ t', (valueAt kvs w).getD (.int 15 t) = .int (named w) t' := by
  refine ofQ ?_; simp (disch := (k_dflt (
  refine hold ?_
  obtain ⟨o, kvs, h1, h2, h3, h4⟩ := fx.nd
  refine ⟨o, kvs, h1, h2, fun t => ?_⟩
  unfold named
  rcases look_named w h3 h4 with ⟨a, b⟩ | ⟨i, t', a, b⟩
  · rw [a, b]; exact ⟨t, rfl⟩
  · rw [a, b]; exact ⟨t', rfl⟩
  ))) only [↓quiet]
theorem c_kind (H : Ok F D (n + 4)) (iv : Inv c W cfg P₀ σ os) (hd : σ.deep < 50) {w : Str} {av : Value} {ks : List Value} (hn : Nd P₀ v 40 av ks nid) (hav : Dt P₀ av (.str w))
    {Q : Value → St → Prop} (h : ∀ t os', Inv c W cfg P₀ σ os' → Q (.int (named w) t) ⟨fr₀, P₀, mM W os' X⟩) :
    WP F (call (.ref 651) [.ref W.cx, v]) ⟨fr₀, P₀, mM W os X⟩ Q := by
  refine ofQ ?_; simp (disch := (k_dflt (
  refine hold ?_
  have k := iv.ks.kf
  have hcx := iv.fx.cxi
  have hK := iv.fx.iK
  obtain ⟨fs, hfs, hF⟩ := id iv.cx
  have a1 := hF.types
  obtain ⟨oy, kvs, hoy, hdy, e40⟩ := iv.fx.ty
  obtain ⟨on, nkv, hon, hdn, hnm⟩ := named_get iv.fx w
  obtain ⟨tw, rfl⟩ := hav.str_inv
  obtain ⟨y, kl, t1, t2, t3, t4, m, rfl, hI, hkl, hk3⟩ := id hn
  refine wDef H (fn_Seat_kind k) rfl fun F' H' => ?_
  k_extra "in"
  repeat k_extra "w"
  refine wDef H' (fn_bind_kind k) rfl fun F'' H'' => ?_
  k_extra "in"
  repeat k_extra "w"
  refine mGet (.p hoy) (exactOf hdy) ?_
  repeat k_extra "w"
  refine cGet1 (.p hoy) hdy iv.fx.tyl (isI _ _ _) ?_
  rw [e40]
  simp only [Option.getD_some]
  repeat k_extra "w"
  refine c_deeper H'' iv hd hn fun os1 iv1 => ?_
  repeat k_extra "w"
  obtain ⟨o1, o2, o3, o4, o5, ow, orw, odu, odg, ocx⟩ := os1
  obtain ⟨fs2, hfs2, hF2⟩ := id iv1.cx
  replace hfs2 : IsFld ocx fs2 := hfs2
  have b1 := hF2.kinds
  refine wDef H'' (fn_WordRule_kind k) rfl fun F3 H3 => ?_
  k_extra "in"
  repeat k_extra "w"
  refine mGet (.p hon) (exactOf hdn) ?_
  repeat k_extra "w"
  refine cGet2 (.p hon) hdn iv.fx.ndl (isS _ _ _) ?_
  obtain ⟨tr, er⟩ := hnm 307
  rw [er]
  repeat k_extra "w"
  obtain ⟨td, b2⟩ := hF2.deep
  repeat k_extra "w"
  have nd1 := hF2.nd (v := .int (σ.deep + 1 - 1) (by assumption)) b2
  refine' wSet H'' hcx (fun o' => ?U) hfs2 ?cs rfl nd1.1 nd1.2 (fun o1' ho1' => ?_)
  case U => k_extra "mp"
  case cs => k_extra "cls"
  have hF3 := hF2.putDeep (d' := σ.deep + 1 - 1) (t := by assumption)
  have ed : σ.deep + 1 - 1 = σ.deep := by lia
  repeat k_extra "w"
  exact h _ ⟨o1, o2, o3, o4, o5, ow, orw, odu, odg, o1'⟩ ⟨iv1.ks, iv1.fx, iv1.kt, iv1.w, iv1.rw, iv1.du, iv1.dg, ⟨_, ho1', by have := hF3; rw [ed] at this ⊢; exact this⟩⟩
  ))) only [↓quiet]
end
end
section
variable {c : Cx} {F : Frm c} {D : FnD} {n : Nat} {fr₀ : List (Str × Option Value)} {P₀ : Pset} {M₀ : List (Addr × Obj)}
noncomputable def SzOk (e : Ex) : Prop := e.s = 1 → e.k = 7 ∨ e.k = 8 ∨ e.k = 9 ∨ e.k = 10 → ∃ i, e.r = [.int i] ∧ (e.k = 8 ∨ e.k = 9 ∨ e.k = 10 → 0 ≤ i)
noncomputable def idxN (c : Cfg) (e : Ex) (at_ : Int) : Ex × List PyData :=
  if e.k = 8 ∨ e.k = 9 ∨ e.k = 10 then
    if e.s = 1 ∧ e.n ≤ 2147483647 then (⟨1, 7, [.int e.n]⟩, []) else (⟨19, 7, [e.data, .int 1, .int 1]⟩, [])
  else conv c e 7 at_
theorem conv_one {c : Cfg} {e : Ex} {k at_ : Int} (hs : (conv c e k at_).1.s = 1) (hb : (conv c e k at_).1.k ≠ 15) : (conv c e k at_).1 = e ∧ e.k = k := by
  refine ofQ ?_; simp (disch := (k_dflt (
  refine hold ?_
  unfold conv at hs hb ⊢
  by_cases h : e.k = k ∨ e.k = 15
  · rw [if_pos h] at hs hb ⊢
    exact ⟨rfl, h.resolve_right hb⟩
  · rw [if_neg h] at hs hb ⊢
    cases hg : c.goes.lookup (e.k, k) with
    | some cv => rw [hg] at hs; exact absurd hs (show ¬ (19 : Int) = 1 by decide)
    | none => rw [hg] at hb; exact absurd rfl hb
  ))) only [↓quiet]
theorem conv_k {c : Cfg} {e : Ex} {k at_ : Int} : (conv c e k at_).1.k = k ∨ (conv c e k at_).1.k = 15 := by
  unfold conv
  by_cases h : e.k = k ∨ e.k = 15
  · rw [if_pos h]; exact h
  · rw [if_neg h]
    cases hg : c.goes.lookup (e.k, k) with
    | some cv => exact .inl rfl
    | none => exact .inr rfl
section
variable {W : WL} {cfg : Cfg} {σ : Sig} {os : Os} {X : List (Addr × Obj)} {v : Value} {nid : Int}
theorem c_index (H : Ok F D (n + 7)) (iv : Inv c W cfg P₀ σ os) {ev : Value} {e : Ex} (he : Xv P₀ ev e) (hb : e.k.natAbs ≤ 100) (hz : SzOk e) {kind : Int} {av : Value} {ks : List Value} (hn : Nd P₀ v kind av ks nid) (hl : σ.fc.length ≤ 900)
    {Q : Value → St → Prop} (h : ∀ x P' os', Le P₀ P' → Xv P' x (idxN cfg e (100 + nid)).1 → Inv c W cfg P' { σ with fc := σ.fc ++ (idxN cfg e (100 + nid)).2 } os' → Q x ⟨fr₀, P', mM W os' X⟩) :
    WP F (call (.ref 775) [.ref W.cx, ev, v]) ⟨fr₀, P₀, mM W os X⟩ Q := by
  refine ofQ ?_; simp (disch := (k_dflt (
  refine hold ?_
  have k := iv.ks.kf
  have hcx := iv.fx.cxi
  obtain ⟨fs, hfs, hF⟩ := id iv.cx
  obtain ⟨a, t1, t2, vr, rfl, hP, hr⟩ := he.inv
  unfold idxN at h
  refine wDef H (fn_index_number k) rfl fun F' H' => ?_
  k_extra "in"
  repeat k_extra "w"
  intro b P1 l1 hP1
  repeat k_extra "w"
  refine oInI H' (is := [8, 9, 10]) hP1 (.cons (.int _ _) (.cons (.int _ _) (.cons (.int _ _) .nil))) ?_
  by_cases hk : e.k = 8 ∨ e.k = 9 ∨ e.k = 10
  · rw [if_pos hk] at h
    have hm : e.k ∈ ([8, 9, 10] : List Int) := by simpa using hk
    repeat k_extra "w"
    by_cases hs1 : e.s = 1
    · obtain ⟨i, hri, hi0⟩ := hz hs1 (.inr hk)
      have hen : e.n = i := by unfold Ex.n; rw [hri]
      rw [hri] at hr
      obtain ⟨ti, rfl⟩ : ∃ t, vr = [.int i t] := by
        cases hr with
        | cons p q => cases q; obtain ⟨t, rfl⟩ := p.int_inv; exact ⟨t, rfl⟩
      have h0 := hi0 hk
      by_cases htop : i ≤ 2147483647
      · rw [if_pos ⟨hs1, by rw [hen]; exact htop⟩] at h
        repeat k_extra "w"
        intro y P2 l2 hy
        repeat k_extra "w"
        exact h _ P2 os (l1.trans l2) (by rw [hen]; exact .tup hy (.cons (.int _ _) (.cons (.int _ _) (.cons (.int _ _) .nil)))) (by simpa using iv.mono (l1.trans l2))
      · rw [if_neg (by rintro ⟨_, q⟩; exact htop (by rw [hen] at q; exact q))] at h
        repeat k_extra "w"
        intro b' P2 l2 hP2
        repeat k_extra "w"
        refine oInI H' (is := [8, 9, 10]) hP2 (.cons (.int _ _) (.cons (.int _ _) (.cons (.int _ _) .nil))) ?_
        repeat k_extra "w"
        intro y P3 l3 hy
        repeat k_extra "w"
        have lt := (l1.trans l2).trans l3
        exact h _ P3 os lt (.tup hy (.cons (.int _ _) (.cons (.int _ _) (.cons (he.mono lt) (.cons (.int _ _) (.cons (.int _ _) .nil)))))) (by simpa using iv.mono lt)
    · rw [if_neg (by rintro ⟨q, _⟩; exact hs1 q)] at h
      repeat k_extra "w"
      intro b' P2 l2 hP2
      repeat k_extra "w"
      refine oInI H' (is := [8, 9, 10]) hP2 (.cons (.int _ _) (.cons (.int _ _) (.cons (.int _ _) .nil))) ?_
      repeat k_extra "w"
      intro y P3 l3 hy
      repeat k_extra "w"
      have lt := (l1.trans l2).trans l3
      exact h _ P3 os lt (.tup hy (.cons (.int _ _) (.cons (.int _ _) (.cons (he.mono lt) (.cons (.int _ _) (.cons (.int _ _) .nil)))))) (by simpa using iv.mono lt)
  · rw [if_neg hk] at h
    have hm : e.k ∉ ([8, 9, 10] : List Int) := by simpa using hk
    repeat k_extra "w"
    intro b' P2 l2 hP2
    repeat k_extra "w"
    refine oInI H' (is := [8, 9, 10]) hP2 (.cons (.int _ _) (.cons (.int _ _) (.cons (.int _ _) .nil))) ?_
    repeat k_extra "w"
    have lt := l1.trans l2
    refine c_fits H' (iv.mono lt) (he.mono lt) hb (by decide) (by decide) (hn.mono lt) hl fun x P3 os' l3 hx iv3 => ?_
    repeat k_extra "w"
    exact h x P3 os' (lt.trans l3) hx iv3
  ))) only [↓quiet]
end
end
section
variable {c : Cx} {F : Frm c} {D : FnD} {n : Nat} {fr₀ : List (Str × Option Value)} {P₀ : Pset} {M₀ : List (Addr × Obj)}
theorem conv_len {c : Cfg} {e : Ex} {k at_ : Int} : (conv c e k at_).2.length ≤ 1 := by
  unfold conv
  by_cases h : e.k = k ∨ e.k = 15
  · rw [if_pos h]; exact Nat.zero_le _
  · rw [if_neg h]
    cases c.goes.lookup (e.k, k) <;> simp
theorem rdInt_len {n : Int} {w : Str} {at_ : Int} : (rdInt n w at_).2.length ≤ 1 := by
  unfold rdInt
  cases firstK n w <;> simp
theorem rdDef_len {c : Cfg} {k at_ : Int} : (rdDef c k at_).2.length ≤ 1 := by
  refine ofQ ?_; simp (disch := (k_dflt (
  refine hold ?_
  unfold rdDef
  by_cases h : isRefK k = true
  · rw [if_pos h]; exact conv_len
  · rw [if_neg h]
    by_cases h' : (1 ≤ k ∧ k ≤ 10) ∨ k = 18
    · rw [if_pos h']; exact Nat.zero_le _
    · rw [if_neg h']; exact Nat.zero_le _
  ))) only [↓quiet]
theorem rdLeaf_len {c : Cfg} {f : Leaf} {at_ k : Int} : (rdLeaf c f at_ k).2.length ≤ 1 := by
  cases f <;> first | exact rdInt_len | exact rdDef_len | exact Nat.zero_le _
theorem idxN_len {c : Cfg} {e : Ex} {at_ : Int} : (idxN c e at_).2.length ≤ 1 := by
  refine ofQ ?_; simp (disch := (k_dflt (
  refine hold ?_
  unfold idxN
  by_cases h : e.k = 8 ∨ e.k = 9 ∨ e.k = 10
  · rw [if_pos h]
    by_cases h' : e.s = 1 ∧ e.n ≤ 2147483647
    · rw [if_pos h']; exact Nat.zero_le _
    · rw [if_neg h']; exact Nat.zero_le _
  · rw [if_neg h]; exact conv_len
  ))) only [↓quiet]
theorem sz_of {s k : Int} {r : List PyData} (hk : k ∈ ([13, 2, 1, 14, 15] : List Int)) : SzOk ⟨s, k, r⟩ ∧ k.natAbs ≤ 100 := by
  exact ⟨fun _ q => absurd q ((by decide : ∀ k ∈ ([13, 2, 1, 14, 15] : List Int), ¬ (k = 7 ∨ k = 8 ∨ k = 9 ∨ k = 10)) k hk), (by decide : ∀ k ∈ ([13, 2, 1, 14, 15] : List Int), k.natAbs ≤ 100) k hk⟩
theorem rdInt_ok {n : Int} {w : Str} {at_ : Int} (h : 0 ≤ n) : SzOk (rdInt n w at_).1 ∧ (rdInt n w at_).1.k.natAbs ≤ 100 := by
  refine ofQ ?_; simp (disch := (k_dflt (
  refine hold ?_
  unfold rdInt
  cases hf : firstK n w with
  | none => exact sz_of (s := 1) (k := 15) (by decide)
  | some k =>
    refine ⟨fun _ _ => ⟨n, rfl, fun _ => h⟩, ?_⟩
    show k.natAbs ≤ 100
    unfold firstK at hf
    split at hf
    · cases hf; decide
    split at hf
    · cases hf; decide
    split at hf
    · cases hf; decide
    split at hf
    · cases hf; decide
    cases hf
  ))) only [↓quiet]
section
variable {W : WL} {cfg : Cfg} {σ : Sig} {os : Os} {X : List (Addr × Obj)} {v : Value} {nid : Int}
theorem leaf_ok {f : Leaf} {rk : List (Int × Value)} {P : Pset} (hf : LfIs P rk v nid f) (hd : f ≠ .dflt) {at_ k : Int} : SzOk (rdLeaf cfg f at_ k).1 ∧ (rdLeaf cfg f at_ k).1.k.natAbs ≤ 100 := by
  refine ofQ ?_; simp (disch := (k_dflt (
  refine hold ?_
  cases hf with
  | int _ _ _ h0 => exact rdInt_ok h0
  | text => exact sz_of (s := 1) (k := 13) (by decide)
  | chr => exact sz_of (s := 1) (k := 2) (by decide)
  | tru => exact sz_of (s := 1) (k := 1) (by decide)
  | fls => exact sz_of (s := 1) (k := 1) (by decide)
  | null => exact sz_of (s := 1) (k := 14) (by decide)
  | dflt => exact absurd rfl hd
  | name hn hx he hs hb => exact ⟨fun q _ => let ⟨i, a, b⟩ := hs; ⟨i, a, b q⟩, hb⟩
  ))) only [↓quiet]
theorem leaf_k {f : Leaf} {rk : List (Int × Value)} {P : Pset} (hf : LfIs P rk v nid f) {at_ k : Int} (hk : k.natAbs ≤ 100) : (rdLeaf cfg f at_ k).1.k.natAbs ≤ 100 := by
  refine ofQ ?_; simp (disch := (k_dflt (
  refine hold ?_
  by_cases hd : f = .dflt
  · subst hd
    show (rdDef cfg k at_).1.k.natAbs ≤ 100
    unfold rdDef
    by_cases h : isRefK k = true
    · rw [if_pos h]
      rcases conv_k (c := cfg) (e := ⟨1, 14, [.none]⟩) (k := k) (at_ := at_) with e | e
      · rw [e]; exact hk
      · rw [e]; decide
    · rw [if_neg h]
      by_cases h' : (1 ≤ k ∧ k ≤ 10) ∨ k = 18
      · rw [if_pos h']; exact hk
      · rw [if_neg h']; exact hk
  · exact (leaf_ok hf hd).2
  ))) only [↓quiet]
theorem rdSize_eq {c : Cfg} {f : Leaf} {at_ : Int} (hz : SzOk (rdLeaf c f at_ (-1)).1) : rdSize c f at_ =
    if (idxN c (rdLeaf c f at_ (-1)).1 at_).1.s = 1 ∧ (idxN c (rdLeaf c f at_ (-1)).1 at_).1.k = 7 ∧ (idxN c (rdLeaf c f at_ (-1)).1 at_).1.n < 0 then (badE, (rdLeaf c f at_ (-1)).2 ++ (idxN c (rdLeaf c f at_ (-1)).1 at_).2 ++ [flt 248 at_ []])
    else ((idxN c (rdLeaf c f at_ (-1)).1 at_).1, (rdLeaf c f at_ (-1)).2 ++ (idxN c (rdLeaf c f at_ (-1)).1 at_).2) := by
  refine ofQ ?_; simp (disch := (k_dflt (
  refine hold ?_
  unfold rdSize
  rcases hr : rdLeaf c f at_ (-1) with ⟨e, f1⟩
  rw [hr] at hz
  dsimp only at hz ⊢
  unfold idxN
  by_cases hk : e.k = 8 ∨ e.k = 9 ∨ e.k = 10
  · rw [if_pos hk, if_pos hk]
    by_cases h1 : e.s = 1 ∧ e.n ≤ 2147483647
    · rw [if_pos h1, if_pos h1]
      obtain ⟨i, hri, hi0⟩ := hz h1.1 (.inr hk)
      have hen : e.n = i := by unfold Ex.n; rw [hri]
      have h0 : ¬ (({ s := 1, k := 7, r := [.int e.n] } : Ex).s = 1 ∧ ({ s := 1, k := 7, r := [.int e.n] } : Ex).k = 7 ∧ ({ s := 1, k := 7, r := [.int e.n] } : Ex).n < 0) := by
        rintro ⟨_, _, q⟩
        have q' : e.n < 0 := q
        have := hi0 hk
        lia
      rw [if_neg h0, List.append_nil]
    · rw [if_neg h1, if_neg h1]
      have h0 : ¬ (({ s := 19, k := 7, r := [e.data, .int 1, .int 1] } : Ex).s = 1 ∧ ({ s := 19, k := 7, r := [e.data, .int 1, .int 1] } : Ex).k = 7 ∧ ({ s := 19, k := 7, r := [e.data, .int 1, .int 1] } : Ex).n < 0) := by
        rintro ⟨q, _⟩
        exact absurd q (show ¬ (19 : Int) = 1 by decide)
      rw [if_neg h0, List.append_nil]
  · rw [if_neg hk, if_neg hk]
  ))) only [↓quiet]
theorem idx_ok {c : Cfg} {e : Ex} {at_ : Int} (hz : SzOk e) (hs : (idxN c e at_).1.s = 1) (hb : (idxN c e at_).1.k ≠ 15) : (idxN c e at_).1.k = 7 ∧ ∃ i, (idxN c e at_).1.r = [.int i] := by
  refine ofQ ?_; simp (disch := (k_dflt (
  refine hold ?_
  unfold idxN at hs hb ⊢
  by_cases hk : e.k = 8 ∨ e.k = 9 ∨ e.k = 10
  · rw [if_pos hk] at hs hb ⊢
    by_cases h1 : e.s = 1 ∧ e.n ≤ 2147483647
    · rw [if_pos h1]; exact ⟨rfl, _, rfl⟩
    · rw [if_neg h1] at hs; exact absurd hs (show ¬ (19 : Int) = 1 by decide)
  · rw [if_neg hk] at hs hb ⊢
    obtain ⟨e1, e2⟩ := conv_one hs hb
    rw [e1] at hs ⊢
    obtain ⟨i, hi, _⟩ := hz hs (.inl e2)
    exact ⟨e2, i, hi⟩
  ))) only [↓quiet]
theorem c_array_size (H : Ok F D (n + 13)) (iv : Inv c W cfg P₀ σ os) (hd : σ.deep < 50) (hl : σ.fc.length ≤ 800) {f : Leaf} (hf : LfIs P₀ σ.rk v nid f) (hnd : f ≠ .dflt)
    {Q : Value → St → Prop} (h : ∀ x P' os', Le P₀ P' → Xv P' x (rdSize cfg f (100 + nid)).1 → Inv c W cfg P' { σ with fc := σ.fc ++ (rdSize cfg f (100 + nid)).2 } os' → Q x ⟨fr₀, P', mM W os' X⟩) :
    WP F (call (.ref 949) [.ref W.cx, v]) ⟨fr₀, P₀, mM W os X⟩ Q := by
  refine ofQ ?_; simp (disch := (k_dflt (
  refine hold ?_
  have k := iv.ks.kf
  have hcx := iv.fx.cxi
  obtain ⟨fs, hfs, hF⟩ := id iv.cx
  obtain ⟨hz, hb⟩ := leaf_ok (cfg := cfg) hf hnd (at_ := 100 + nid) (k := -1)
  generalize hR : rdSize cfg f (100 + nid) = r at h
  rw [rdSize_eq hz] at hR
  have hlen1 := rdLeaf_len (c := cfg) (f := f) (at_ := 100 + nid) (k := -1)
  obtain ⟨kind, av, hn⟩ : ∃ kind av, Nd P₀ v kind av [] nid := by cases hf <;> exact ⟨_, _, by assumption⟩
  refine wDef H (fn_array_size k) rfl fun F' H' => ?_
  k_extra "in"
  repeat k_extra "w"
  refine c_expr_leaf (n := n) H' iv hd (by lia) hf (fun e => absurd e hnd) fun x P1 os1 l1 hx iv1 => ?_
  repeat k_extra "w"
  refine c_is_bad k H' hx ?_
  rcases hr : rdLeaf cfg f (100 + nid) (-1) with ⟨e, f1⟩
  rw [hr] at hR hz hb hx iv1 hlen1
  dsimp only at hR hz hb hx iv1 hlen1 ⊢
  by_cases h15 : e.k = 15
  · have ei : idxN cfg e (100 + nid) = (e, []) := by
      unfold idxN conv
      rw [if_neg (by lia), if_pos (.inr h15)]
    rw [ei] at hR
    dsimp only at hR
    rw [if_neg (by rintro ⟨_, q, _⟩; lia), List.append_nil] at hR
    subst hR
    repeat k_extra "w"
    exact h x P1 os1 l1 hx iv1
  · repeat k_extra "w"
    refine c_index (n := n + 5) H' iv1 hx hb hz (hn.mono l1) (by show (σ.fc ++ f1).length ≤ 900; rw [List.length_append]; lia) fun x2 P2 os2 l2 hx2 iv2 => ?_
    have hok := idx_ok (c := cfg) (at_ := 100 + nid) hz
    have hlen2 := idxN_len (c := cfg) (e := e) (at_ := 100 + nid)
    rcases hi : idxN cfg e (100 + nid) with ⟨e2, f2⟩
    rw [hi] at hR hx2 iv2 hok hlen2
    dsimp only at hR hx2 iv2 hok hlen2
    have iv2' : Inv c W cfg P2 { σ with fc := σ.fc ++ (f1 ++ f2) } os2 := by rw [← List.append_assoc]; exact iv2
    obtain ⟨a, t1, t2, vr, rfl, hP, hr⟩ := id hx2.inv
    repeat k_extra "w"
    by_cases hs1 : e2.s = 1
    · repeat k_extra "w"
      refine c_is_bad k H' hx2 ?_
      by_cases hb2 : e2.k = 15
      · rw [if_neg (by rintro ⟨_, q, _⟩; lia)] at hR
        subst hR
        repeat k_extra "w"
        exact h _ P2 os2 (l1.trans l2) hx2 iv2'
      · obtain ⟨e7, i, hri⟩ := hok hs1 hb2
        have hen : e2.n = i := by unfold Ex.n; rw [hri]
        rw [hri] at hr
        obtain ⟨ti, rfl⟩ : ∃ t, vr = [.int i t] := by
          cases hr with
          | cons p q => cases q; obtain ⟨t, rfl⟩ := p.int_inv; exact ⟨t, rfl⟩
        repeat k_extra "w"
        by_cases hneg : i < 0
        · rw [if_pos ⟨hs1, e7, by lia⟩] at hR
          subst hR
          repeat k_extra "w"
          intro y P3 l3 hy
          repeat k_extra "w"
          have lt := l1.trans l2
          refine c_tell_fault (n := n + 9) H' (iv2.mono l3) (hn.mono (lt.trans l3)) (ws := []) (.tup hy .nil) (by show (σ.fc ++ f1 ++ f2).length ≤ 900; rw [List.length_append, List.length_append]; lia) fun x4 P4 os4 l4 hx4 iv4 => ?_
          repeat k_extra "w"
          exact h _ P4 os4 ((lt.trans l3).trans l4) hx4 (by rw [← List.append_assoc, ← List.append_assoc]; exact iv4)
        · rw [if_neg (by rintro ⟨_, _, q⟩; lia)] at hR
          subst hR
          repeat k_extra "w"
          exact h _ P2 os2 (l1.trans l2) hx2 iv2'
    · rw [if_neg (fun q => hs1 q.1)] at hR
      subst hR
      repeat k_extra "w"
      exact h _ P2 os2 (l1.trans l2) hx2 iv2'
  ))) only [↓quiet]
end
end
section
variable {c : Cx} {F : Frm c} {D : FnD} {n : Nat} {fr₀ : List (Str × Option Value)} {P₀ : Pset} {M₀ : List (Addr × Obj)}
theorem Ok.le {m : Nat} (H : Ok F D n) (h : m ≤ n) : Ok F D m := ⟨H.bs, H.fn, H.glb, H.blt, H.nd, H.lc, H.gl, H.bl, H.hh, H.hz, H.zk, by have := H.dp; lia, by have := H.un; lia⟩
section
variable {W : WL} {cfg : Cfg}
noncomputable def ExprC (c : Cx) (W : WL) (cfg : Cfg) (d : Nat) : Prop := ∀ (F : Frm c) (D : FnD) (n : Nat) (fr₀ : List (Str × Option Value)) (P₀ : Pset) (σ : Sig) (os : Os) (X : List (Addr × Obj)) (v : Value) (t : Tr) (want : Int) (tw : Tok) (Q : Value → St → Prop),
  Ok F D (n + 12 + 20 * d) → Inv c W cfg P₀ σ os → σ.deep + d < 50 → TrIs P₀ σ.rk d v t → want ∈ goodK → σ.fc.length + (rd cfg d t want σ.A).2.1.length ≤ 800 →
  (∀ x P' os', Le P₀ P' → Xv P' x (rd cfg d t want σ.A).1 → (rd cfg d t want σ.A).1.k.natAbs ≤ 100 → Inv c W cfg P' { σ with A := (rd cfg d t want σ.A).2.2, fc := σ.fc ++ (rd cfg d t want σ.A).2.1 } os' → Q x ⟨fr₀, P', mM W os' X⟩) →
  WP F (call (.ref 637) [.ref W.cx, v, .int want tw]) ⟨fr₀, P₀, mM W os X⟩ Q
noncomputable def finI (cfg : Cfg) (rec : Tr → Int → List Int → Ex × List PyData × List Int) (k kd at_ : Int) (sz : Option Ex) : List Tr → List Ex → List Int → Ex × List PyData × List Int
  | [], acc, A => ((closeArr kd at_ sz acc).1, (closeArr kd at_ sz acc).2, A)
  | t :: ts, acc, A =>
    if (conv cfg (rec t k A).1 k (100 + t.nid)).1.k = 15 then ((conv cfg (rec t k A).1 k (100 + t.nid)).1, (rec t k A).2.1 ++ (conv cfg (rec t k A).1 k (100 + t.nid)).2, (rec t k A).2.2)
    else
      let r := finI cfg rec k kd at_ sz ts (acc ++ [(conv cfg (rec t k A).1 k (100 + t.nid)).1]) (rec t k A).2.2
      (r.1, (rec t k A).2.1 ++ (conv cfg (rec t k A).1 k (100 + t.nid)).2 ++ r.2.1, r.2.2)
theorem finI_eq (cfg : Cfg) (rec : Tr → Int → List Int → Ex × List PyData × List Int) (k kd at_ : Int) (sz : Option Ex) : ∀ (ts : List Tr) (acc : List Ex) (A : List Int),
    finI cfg rec k kd at_ sz ts acc A = (match rdItems cfg rec k ts acc A with
      | ((some e, _), f', A₂) => (e, f', A₂)
      | ((none, xs), f', A₂) => ((closeArr kd at_ sz xs).1, f' ++ (closeArr kd at_ sz xs).2, A₂))
  | [], acc, A => by simp [finI, rdItems]
  | t :: ts, acc, A => by
    unfold finI rdItems
    rcases rec t k A with ⟨e, f, A₁⟩
    dsimp only
    rcases conv cfg e k (100 + t.nid) with ⟨e', f'⟩
    dsimp only
    by_cases h : e'.k = 15
    · rw [if_pos h, if_pos h]
    · rw [if_neg h, if_neg h, finI_eq cfg rec k kd at_ sz ts]
      rcases rdItems cfg rec k ts (acc ++ [e']) A₁ with ⟨⟨o, xs⟩, f₂, A₂⟩
      cases o with
      | none => simp
      | some e₂ => simp
inductive SvIs (P : Pset) : Value → Option Ex → Prop
  | none : SvIs P .none none
  | some {v : Value} {e : Ex} : Xv P v e → (e.s = 1 → ∃ i, e.r = [.int i]) → SvIs P v (some e)
theorem TrsIs.len {P : Pset} {rk : List (Int × Value)} {d : Nat} {vs : List Value} {ts : List Tr} (h : TrsIs P rk d vs ts) : vs.length = ts.length :=
  TrsIs.rec (motive_1 := fun _ _ _ _ => True) (motive_2 := fun _ _ _ _ => True) (motive_3 := fun _ vs ts _ => vs.length = ts.length) (fun _ => trivial) (fun _ _ _ _ _ _ => trivial) trivial (fun _ _ _ => trivial) rfl (fun _ _ _ q => congrArg Nat.succ q) h
theorem TrIs.nd {P : Pset} {rk : List (Int × Value)} {d : Nat} {v : Value} {t : Tr} (h : TrIs P rk d v t) : ∃ kind av ks, Nd P v kind av ks t.nid := by
  cases h with
  | leaf h => cases h <;> exact ⟨_, _, _, by assumption⟩
  | arr h => exact ⟨_, _, _, h⟩
end
end
section
variable {c : Cx} {F : Frm c} {D : FnD} {n : Nat} {fr₀ : List (Str × Option Value)} {P₀ : Pset} {M₀ : List (Addr × Obj)}
section
variable {W : WL} {cfg : Cfg} {σ : Sig} {os : Os} {X : List (Addr × Obj)} {v : Value} {nid : Int}
theorem finI_len {rec : Tr → Int → List Int → Ex × List PyData × List Int} {k kd at_ : Int} {sz : Option Ex} {t : Tr} {ts : List Tr} {acc : List Ex} {A : List Int} :
    (rec t k A).2.1.length + (conv cfg (rec t k A).1 k (100 + t.nid)).2.length ≤ (finI cfg rec k kd at_ sz (t :: ts) acc A).2.1.length := by
  refine ofQ ?_; simp (disch := (k_dflt (
  refine hold ?_
  unfold finI
  split
  · exact Nat.le_of_eq List.length_append.symm
  · exact Nat.le_trans (Nat.le_of_eq List.length_append.symm) (by show _ ≤ (_ ++ _ : List PyData).length; rw [List.length_append (bs := (finI _ _ _ _ _ _ _ _ _).2.1)]; exact Nat.le_add_right _ _)
  ))) only [↓quiet]
theorem c_array_items {d : Nat} (hE : ExprC c W cfg d) (H : Ok F D (n + 14 + 20 * d)) (iv : Inv c W cfg P₀ σ os) (hd : σ.deep + d < 50) {kk : Int} (hk : kk ∈ goodK) {kd : Int} {tk te : Tok} {sv iv_ av av2 x0 x1 : Value} {sz : Option Ex} (hsv : SvIs P₀ sv sz) {kind : Int} {inid : Int} {vs : List Value} {ts : List Tr}
    (hn : Nd P₀ v kind av [x0, x1, iv_] nid) (hni : Nd P₀ iv_ 110 av2 vs inid) (hts : TrsIs P₀ σ.rk d vs ts)
    (hl : σ.fc.length + (finI cfg (rd cfg d) kk kd (100 + nid) sz ts [] σ.A).2.1.length ≤ 800)
    {Q : Value → St → Prop} (h : ∀ x P' os', Le P₀ P' → Xv P' x (finI cfg (rd cfg d) kk kd (100 + nid) sz ts [] σ.A).1 → Inv c W cfg P' { σ with A := (finI cfg (rd cfg d) kk kd (100 + nid) sz ts [] σ.A).2.2, fc := σ.fc ++ (finI cfg (rd cfg d) kk kd (100 + nid) sz ts [] σ.A).2.1 } os' → Q x ⟨fr₀, P', mM W os' X⟩) :
    WP F (call (.ref 956) [.ref W.cx, .int kd tk, .int kk te, sv, v]) ⟨fr₀, P₀, mM W os X⟩ Q := by
  refine ofQ ?_; simp (disch := (k_dflt (
  refine hold ?_
  have k := iv.ks.kf
  obtain ⟨g15, g100, g0, g00⟩ := goodK_small hk
  obtain ⟨y, kl, t1, t2, t3, t4, m, rfl, hI, hkl, hk3⟩ := id hn
  obtain ⟨yi, kli, ti1, ti2, ti3, ti4, mi, rfl, hIi, hkli, hki3⟩ := id hni
  have hcx := iv.fx.cxi
  obtain ⟨fs, hfs, hF⟩ := id iv.cx
  have H1 : Ok F D (n + 13 + 20 * d + 1) := H.le (by lia)
  refine wDef H1 (fn_array_items k) rfl fun F' H' => ?_
  k_extra "in"
  repeat k_extra "w"
  refine wList ?_
  repeat k_extra "w"
  refine wNewListM (fun a => ?_) (szl rfl)
  repeat k_extra "w"
  k_extra "forL"
  repeat k_extra "w"
  refine OverList.l hkli fun I => ?_
  refine (?key : ∀ (vs : List Value) (ts : List Tr) (acc : List Ex) (ys : List Value) (m : Nat) (P : Pset) (σ' : Sig) (os' : Os) (eo ko : Option Value), Le P₀ P → Inv c W cfg P σ' os' → σ'.deep + d < 50 → TrsIs P σ'.rk d vs ts → Dts P ys (acc.map Ex.data) → vs.length + ys.length ≤ 3 →
    ∀ r, finI cfg (rd cfg d) kk kd (100 + nid) sz ts acc σ'.A = r → σ'.fc.length + r.2.1.length ≤ 800 →
    (∀ x P' os'', Le P P' → Xv P' x r.1 → Inv c W cfg P' { σ' with A := r.2.2, fc := σ'.fc ++ r.2.1 } os'' → Q x ⟨fr₀, P', mM W os'' X⟩) →
    TurnsL F' _ _ _ I vs ⟨[(Str.ofString "cx", some (Value.ref W.cx)), (Str.ofString "k", some (Value.int kd tk)), (Str.ofString "elem", some (Value.int kk te)), (Str.ofString "size", some sv), (Str.ofString "node", some (Value.ref y)), (Str.ofString "e", eo), (Str.ofString "items", some (Value.ref a)), (Str.ofString "kid", ko)], P, mM W os' (X ++ [(a, listOf ys.toArray m)])⟩) vs ts [] [] 0 P₀ σ os none none Le.rfl iv hd hts .nil (by simpa using hki3) _ rfl hl h
  clear h hl hts hd hfs hF iv hkli hki3 hIi hni vs ts fs os σ
  intro vs
  induction vs with
  | nil =>
    intro ts acc ys m P σ os eo ko l0 iv hd hts hys hlen r hR hl h
    cases hts
    refine TurnsL.nil ?_
    have hcx := iv.fx.cxi
    have hn' := hn.mono l0
    have yl : ys.length = acc.length := by simpa using hys.length
    have hys3 : ys.length ≤ 3 := by lia
    simp only [finI] at hR
    unfold closeArr at hR
    have lit : ∀ x P' b, Le P P' → P' b (tupO ys) → P' x (tupO [.int 11 641, .int kd tk, .ref b]) → Inv c W cfg P' { σ with A := σ.A, fc := σ.fc ++ [] } os ∧ Xv P' (.ref x) ⟨11, kd, [.tuple (acc.map Ex.data)]⟩ := fun x P' b l hb hx =>
      ⟨by simpa using iv.mono l, .tup hx (.cons (.int _ _) (.cons (.int _ _) (.cons (.tup hb (hys.mono l)) .nil)))⟩
    have yl' : (ys.toArray.size : Int) = acc.length := by simp [yl]
    cases hsv with
    | none =>
      dsimp only at hR
      subst hR
      repeat k_extra "w"
      refine cTupOf H' (by k_extra "mm") (by rw [sizeLine_eq]; lia) fun b P1 l1 hb => ?_
      refine WP.drop (mdel_last a (listOf ys.toArray m) (mM W os X)) ?_
      repeat k_extra "w"
      intro x P2 l2 hx
      repeat k_extra "w"
      obtain ⟨q1, q2⟩ := lit x P2 b (l1.trans l2) (l2 _ _ hb) hx
      exact h _ P2 os (l1.trans l2) q2 q1
    | @some sv e he hz =>
      dsimp only at hR
      replace he := he.mono l0
      obtain ⟨sa, s1, s2, vr, rfl, hP, hr⟩ := Xv.inv he
      by_cases hs1 : e.s = 1
      · obtain ⟨i, hri⟩ := hz hs1
        have hen : e.n = i := by unfold Ex.n; rw [hri]
        rw [hri] at hr
        obtain ⟨ti, rfl⟩ : ∃ t, vr = [.int i t] := by
          cases hr with
          | cons p q => cases q; obtain ⟨t, rfl⟩ := p.int_inv; exact ⟨t, rfl⟩
        rw [if_neg (by rw [hs1]; simp)] at hR
        rw [hen] at hR
        repeat k_extra "w"
        rw [yl']
        by_cases hi : i = acc.length
        · rw [if_neg (by simp [hi])] at hR
          subst hR
          repeat k_extra "w"
          refine cTupOf H' (by k_extra "mm") (by rw [sizeLine_eq]; lia) fun b P1 l1 hb => ?_
          refine WP.drop (mdel_last a (listOf ys.toArray m) (mM W os X)) ?_
          repeat k_extra "w"
          intro x P2 l2 hx
          repeat k_extra "w"
          obtain ⟨q1, q2⟩ := lit x P2 b (l1.trans l2) (l2 _ _ hb) hx
          exact h _ P2 os (l1.trans l2) q2 q1
        · rw [if_pos (by simpa using hi)] at hR
          subst hR
          repeat k_extra "w"
          intro x P2 l2 hx
          repeat k_extra "w"
          refine WP.drop (mdel_last a (listOf ys.toArray m) (mM W os X)) ?_
          refine c_tell_fault (n := n) (H'.le (by lia)) (iv.mono l2) (hn'.mono l2) (ws := [.int i]) (.tup hx (.cons (.int _ _) .nil)) (by lia) fun x P3 os3 l3 hx3 iv3 => ?_
          repeat k_extra "w"
          exact h _ P3 os3 (l2.trans l3) hx3 iv3
      · rw [if_pos (by simpa using hs1)] at hR
        subst hR
        repeat k_extra "w"
        intro x P2 l2 hx
        repeat k_extra "w"
        refine WP.drop (mdel_last a (listOf ys.toArray m) (mM W os X)) ?_
        refine c_tell_fault (n := n) (H'.le (by lia)) (iv.mono l2) (hn'.mono l2) (ws := []) (.tup hx .nil) (by lia) fun x P3 os3 l3 hx3 iv3 => ?_
        repeat k_extra "w"
        exact h _ P3 os3 (l2.trans l3) hx3 iv3
  | cons v vs ih =>
    intro ts acc ys m P σ os eo ko l0 iv hd hts hys hlen r hR hl h
    cases hts with
    | cons ht hts =>
    rename_i t ts
    refine TurnsL.cons fun o => ?_
    have hcx := iv.fx.cxi
    obtain ⟨fs, hfs, hF⟩ := id iv.cx
    have hlr : (rd cfg d t kk σ.A).2.1.length + (conv cfg (rd cfg d t kk σ.A).1 kk (100 + t.nid)).2.length ≤ r.2.1.length := hR ▸ finI_len
    simp only [finI] at hR
    repeat k_extra "w"
    refine hE F' _ (n + 1) _ P σ os (X ++ [(a, listOf ys.toArray m)] ++ [(I, o)]) v t kk te _ (H'.le (by lia)) iv hd ht hk ?_ fun x P1 os1 l1 hx hxk iv1 => ?_
    · lia
    rcases hr : rd cfg d t kk σ.A with ⟨e, f, A1⟩
    rw [hr] at hR hlr hx hxk iv1
    dsimp only at hR hlr hx hxk iv1
    have hcx := iv1.fx.cxi
    obtain ⟨fs, hfs, hF⟩ := id iv1.cx
    repeat k_extra "w"
    obtain ⟨ckind, cav, cks, hcn⟩ := ht.nd
    have hf1 : (σ.fc ++ f).length ≤ 900 := by
      rw [List.length_append]
      lia
    refine c_fits (n := n) (H'.le (by lia)) iv1 hx hxk g15 g100 (hcn.mono l1) hf1 fun x2 P2 os2 l2 hx2 iv2 => ?_
    rcases hc : conv cfg e kk (100 + t.nid) with ⟨e2, f2⟩
    rw [hc] at hR hx2 iv2
    dsimp only at hR hx2 iv2
    repeat k_extra "w"
    refine c_is_bad (n := n) k (H'.le (by lia)) hx2 ?_
    have iv2' : Inv c W cfg P2 { σ with A := A1, fc := σ.fc ++ (f ++ f2) } os2 := by rw [← List.append_assoc]; exact iv2
    by_cases hb : e2.k = 15
    · rw [if_pos hb] at hR
      subst hR
      refine WP.drop (show Mdel a (listOf ys.toArray m) ((mM W os2 X ++ [(a, listOf ys.toArray m)]) ++ [(I, o)]) (mM W os2 X ++ [(I, o)]) from .pa (mdel_last _ _ _)) ?_
      repeat k_extra "w"
      refine TurnEnd.rt (M := mM W os2 X) ?_
      repeat k_extra "w"
      exact h x2 P2 os2 (l1.trans l2) hx2 iv2'
    · rw [if_neg hb] at hR
      generalize hR' : finI cfg (rd cfg d) kk kd (100 + nid) sz ts (acc ++ [e2]) A1 = r' at hR
      subst hR
      rw [List.length_cons] at hlen
      have hys3 : ys.length ≤ 3 := by lia
      repeat k_extra "w"
      have ey : ys.toArray.push x2 = (ys ++ [x2]).toArray := by simp
      refine TurnEnd.nx (M := mM W os2 (X ++ [(a, listOf (ys.toArray.push x2) (m + 1))])) (l1.trans l2) ?_
      rw [ey]
      replace hl : σ.fc.length + (f ++ f2 ++ r'.2.1).length ≤ 800 := hl
      have l12 := l1.trans l2
      refine ih ts (acc ++ [e2]) (ys ++ [x2]) (m + 1) P2 { σ with A := A1, fc := σ.fc ++ f ++ f2 } os2 (some x2) (some v) (l0.trans l12) iv2 hd (hts.mono l12) (by rw [List.map_append]; exact Dts.app (.cons hx2 .nil) (hys.mono l12)) (by rw [List.length_append]; simp; lia) r' hR' ?_ ?_
      · show (σ.fc ++ f ++ f2).length + _ ≤ 800
        rw [List.length_append, List.length_append] at hl ⊢
        lia
      · intro x P' os'' l hx iv3
        refine h x P' os'' (l12.trans l) hx ?_
        rw [← List.append_assoc, ← List.append_assoc]
        exact iv3
  ))) only [↓quiet]
end
end
section
variable {c : Cx} {F : Frm c} {D : FnD} {n : Nat} {fr₀ : List (Str × Option Value)} {P₀ : Pset} {M₀ : List (Addr × Obj)}
theorem lookup_memL {w : Str} {i : Int} : ∀ {l : List (Str × Int)}, l.lookup w = some i → i ∈ l.map (·.2)
  | (y, j) :: l, h => by
    rw [List.lookup_cons] at h
    cases e : w == y with
    | true => rw [e] at h; cases h; exact .head _
    | false => rw [e] at h; exact .tail _ (lookup_memL h)
theorem named_cases (w : Str) : named w = 0 ∨ named w = 15 ∨ named w ∈ goodK := by
  refine ofQ ?_; simp (disch := (k_dflt (
  refine hold ?_
  unfold named
  cases h : namedL.lookup w with
  | none => exact .inr (.inl rfl)
  | some i =>
    have hm := lookup_memL h
    exact (by decide : ∀ i ∈ ([7, 12, 9, 13, 16, 4, 19, 17, 18, 20, 22, 21, 0, 8] : List Int), i = 0 ∨ i = 15 ∨ i ∈ goodK) i hm
  ))) only [↓quiet]
theorem closeArr_k {kd at_ : Int} {sz : Option Ex} {xs : List Ex} : (closeArr kd at_ sz xs).1.k = 15 ∨ (closeArr kd at_ sz xs).1.k = kd := by
  refine ofQ ?_; simp (disch := (k_dflt (
  refine hold ?_
  unfold closeArr
  cases sz with
  | none => exact .inr rfl
  | some s =>
    dsimp only
    by_cases h : s.s ≠ 1
    · rw [if_pos h]; exact .inl rfl
    · rw [if_neg h]
      by_cases h' : s.n ≠ xs.length
      · rw [if_pos h']; exact .inl rfl
      · rw [if_neg h']; exact .inr rfl
  ))) only [↓quiet]
theorem finI_k (cfg : Cfg) (rec : Tr → Int → List Int → Ex × List PyData × List Int) (k kd at_ : Int) (sz : Option Ex) : ∀ (ts : List Tr) (acc : List Ex) (A : List Int),
    (finI cfg rec k kd at_ sz ts acc A).1.k = 15 ∨ (finI cfg rec k kd at_ sz ts acc A).1.k = kd
  | [], acc, A => closeArr_k
  | t :: ts, acc, A => by
    unfold finI
    by_cases h : (conv cfg (rec t k A).1 k (100 + t.nid)).1.k = 15
    · rw [if_pos h]; exact .inl h
    · rw [if_neg h]; exact finI_k cfg rec k kd at_ sz ts _ _
theorem putA_small {A : List Int} (h : A.length ≤ 10) (k : Int) : (putA A k).1.natAbs ≤ 100 := by
  refine ofQ ?_; simp (disch := (k_dflt (
  refine hold ?_
  unfold putA
  cases hf : fixedArr k with
  | some i =>
    unfold fixedArr at hf
    dsimp only
    split at hf
    · cases hf; decide
    split at hf
    · cases hf; decide
    split at hf
    · cases hf; decide
    cases hf
  | none =>
    dsimp only
    by_cases hm : k ∈ A
    · rw [if_pos hm]
      have : A.idxOf k < A.length := List.idxOf_lt_length_iff.mpr hm
      show (23 + (A.idxOf k : Int)).natAbs ≤ 100
      lia
    · rw [if_neg hm]
      show (23 + (A.length : Int)).natAbs ≤ 100
      lia
  ))) only [↓quiet]
theorem rdSize_len {c : Cfg} {f : Leaf} {at_ : Int} (hz : SzOk (rdLeaf c f at_ (-1)).1) : (rdSize c f at_).2.length ≤ 3 := by
  refine ofQ ?_; simp (disch := (k_dflt (
  refine hold ?_
  rw [rdSize_eq hz]
  have h1 := rdLeaf_len (c := c) (f := f) (at_ := at_) (k := -1)
  have h2 := idxN_len (c := c) (e := (rdLeaf c f at_ (-1)).1) (at_ := at_)
  split
  · rw [List.length_append, List.length_append]
    show _ + 1 ≤ 3
    lia
  · rw [List.length_append]; lia
  ))) only [↓quiet]
theorem rdSize_fin {c : Cfg} {f : Leaf} {at_ : Int} (hz : SzOk (rdLeaf c f at_ (-1)).1) (hs : (rdSize c f at_).1.s = 1) (hb : (rdSize c f at_).1.k ≠ 15) : ∃ i, (rdSize c f at_).1.r = [.int i] := by
  rw [rdSize_eq hz] at hs hb ⊢
  split
  · exact ⟨0, rfl⟩
  · rename_i h
    rw [if_neg h] at hs hb
    exact (idx_ok hz hs hb).2
section
variable {W : WL} {cfg : Cfg} {σ : Sig} {os : Os} {X : List (Addr × Obj)} {v want : Value} {nid : Int}
theorem rdArr_0 {rec : Tr → Int → List Int → Ex × List PyData × List Int} {w : Str} {size : Option (Int × Leaf)} {items : Option (List Tr)} {A : List Int} (h : named w = 0) : rdArr cfg rec nid w size items A = (badE, [flt 1547 (100 + nid) []], A) := by
  unfold rdArr; rw [if_pos h]
theorem rdArr_bad {rec : Tr → Int → List Int → Ex × List PyData × List Int} {w : Str} {size : Option (Int × Leaf)} {items : Option (List Tr)} {A : List Int} (h : named w ≠ 0) (hb : named w = 15 ∨ ((sizeOf cfg size).1.any fun e => decide (e.k = 15)) = true) : rdArr cfg rec nid w size items A = (badE, (sizeOf cfg size).2, A) := by
  unfold rdArr
  rw [if_neg h]
  rcases hsz : sizeOf cfg size with ⟨sz, f⟩
  rw [hsz] at hb
  dsimp only at hb ⊢
  rw [if_pos hb]
theorem rdArr_none {rec : Tr → Int → List Int → Ex × List PyData × List Int} {w : Str} {size : Option (Int × Leaf)} {A : List Int} (h : named w ≠ 0) (hb : ¬ (named w = 15 ∨ ((sizeOf cfg size).1.any fun e => decide (e.k = 15)) = true)) :
    rdArr cfg rec nid w size none A = (⟨10, (putA A (named w)).1, [szData (sizeOf cfg size).1]⟩, (sizeOf cfg size).2, (putA A (named w)).2) := by
  unfold rdArr
  rw [if_neg h]
  rcases hsz : sizeOf cfg size with ⟨sz, f⟩
  rw [hsz] at hb
  dsimp only at hb ⊢
  rw [if_neg hb]
theorem rdArr_some {rec : Tr → Int → List Int → Ex × List PyData × List Int} {w : Str} {size : Option (Int × Leaf)} {ts : List Tr} {A : List Int} (h : named w ≠ 0) (hb : ¬ (named w = 15 ∨ ((sizeOf cfg size).1.any fun e => decide (e.k = 15)) = true)) :
    rdArr cfg rec nid w size (some ts) A = ((finI cfg rec (named w) (putA A (named w)).1 (100 + nid) (sizeOf cfg size).1 ts [] (putA A (named w)).2).1, (sizeOf cfg size).2 ++ (finI cfg rec (named w) (putA A (named w)).1 (100 + nid) (sizeOf cfg size).1 ts [] (putA A (named w)).2).2.1, (finI cfg rec (named w) (putA A (named w)).1 (100 + nid) (sizeOf cfg size).1 ts [] (putA A (named w)).2).2.2) := by
  refine ofQ ?_; simp (disch := (k_dflt (
  refine hold ?_
  unfold rdArr
  rw [if_neg h, finI_eq]
  rcases hsz : sizeOf cfg size with ⟨sz, f⟩
  rw [hsz] at hb
  dsimp only at hb ⊢
  rw [if_neg hb]
  rcases putA A (named w) with ⟨kd, A₁⟩
  dsimp only
  rcases rdItems cfg rec (named w) ts [] A₁ with ⟨⟨o, xs⟩, f₂, A₂⟩
  cases o with
  | none => simp
  | some e₂ => simp
  ))) only [↓quiet]
inductive SzV (P : Pset) : Value → Option Ex → Prop
  | none : SzV P .none none
  | some {v : Value} {e : Ex} : Xv P v e → (e.s = 1 → e.k ≠ 15 → ∃ i, e.r = [.int i]) → SzV P v (some e)
theorem c_newarr_tail {d : Nat} (hE : ExprC c W cfg d) (H' : Ok F R_NewArrayRule_bind.d (n + 23 + 20 * d)) (iv : Inv c W cfg P₀ σ os) (hd : σ.deep + d < 50) {w : Str} (h0 : named w ≠ 0) {sv r iv_ av x0 x1 : Value} {sz : Option Ex} (hsv : SzV P₀ sv sz) {items : Option (List Tr)} {tk : Tok} {ko : Option Value}
    (hn : Nd P₀ v 16 av [x0, x1, iv_] nid) (hit : ItIs P₀ σ.rk d iv_ items) {gr : List (Str × Option Value)} {Q : Value → St → Prop}
    (hbad : (named w = 15 ∨ (sz.any fun e => decide (e.k = 15)) = true) → ∀ x P' os', Le P₀ P' → Xv P' x badE → Inv c W cfg P' σ os' → Q x ⟨gr, P', mM W os' X⟩)
    (hnone : ¬ (named w = 15 ∨ (sz.any fun e => decide (e.k = 15)) = true) → items = none → ∀ x P' os', Le P₀ P' → Xv P' x ⟨10, (putA σ.A (named w)).1, [szData sz]⟩ → Inv c W cfg P' { σ with A := (putA σ.A (named w)).2 } os' → Q x ⟨gr, P', mM W os' X⟩)
    (hsome : ¬ (named w = 15 ∨ (sz.any fun e => decide (e.k = 15)) = true) → ∀ ts, items = some ts → σ.fc.length + (finI cfg (rd cfg d) (named w) (putA σ.A (named w)).1 (100 + nid) sz ts [] (putA σ.A (named w)).2).2.1.length ≤ 800 ∧ ∀ x P' os', Le P₀ P' → Xv P' x (finI cfg (rd cfg d) (named w) (putA σ.A (named w)).1 (100 + nid) sz ts [] (putA σ.A (named w)).2).1 → Inv c W cfg P' { σ with A := (finI cfg (rd cfg d) (named w) (putA σ.A (named w)).1 (100 + nid) sz ts [] (putA σ.A (named w)).2).2.2, fc := σ.fc ++ (finI cfg (rd cfg d) (named w) (putA σ.A (named w)).1 (100 + nid) sz ts [] (putA σ.A (named w)).2).2.1 } os' → Q x ⟨gr, P', mM W os' X⟩) :
    WP F (execs (R_NewArrayRule_bind.body.drop 4) F.env) ⟨[(S "self", some r), (S "cx", some (.ref W.cx)), (S "node", some v), (S "want", some want), (S "elem", some (.int (named w) tk)), (S "k", ko), (S "size", some sv)], P₀, mM W os X⟩ (Ret gr Q) := by
  refine ofQ ?_; simp (disch := (k_dflt (
  refine hold ?_
  have k := iv.ks.kf
  obtain ⟨y, kl, t1, t2, t3, t4, m, rfl, hI, hkl, hk3⟩ := id hn
  have hcx := iv.fx.cxi
  obtain ⟨fs, hfs, hF⟩ := id iv.cx
  have a1 := hF.kt
  refine wCons ?_
  by_cases h15 : named w = 15
  · repeat k_extra "w"
    refine c_bad (n := n) k (H'.le (by lia)) fun x P1 l1 hx => ?_
    repeat k_extra "w"
    exact hbad (.inl h15) x P1 os l1 hx (iv.mono l1)
  have hg : named w ∈ goodK := ((named_cases w).resolve_left h0).resolve_left h15
  have go : ¬ (named w = 15 ∨ (sz.any fun e => decide (e.k = 15)) = true) → ∀ X', X' = X → True := fun _ _ _ => trivial
  clear go
  cases hsv with
  | none =>
    have hb : ¬ (named w = 15 ∨ ((none : Option Ex).any fun e => decide (e.k = 15)) = true) := by simp [h15]
    repeat k_extra "w"
    refine c_array_kind (n := n) iv.ks (H'.le (by lia)) iv.fx.kti iv.kt hg fun P1 o1' o2' o3' o4' o5' tq l1 hkt => ?_
    have iv2 : Inv c W cfg P1 { σ with A := (putA σ.A (named w)).2 } ⟨o1', o2', o3', o4', o5', os.w, os.rw, os.du, os.dg, os.cx⟩ := ⟨iv.ks, iv.fx.mono l1, hkt, iv.w, iv.rw, (iv.mono l1).du, (iv.mono l1).dg, iv.cx⟩
    have hn2 := hn.mono l1
    have hit2 := hit.mono l1
    cases hit2 with
    | none =>
      repeat k_extra "w"
      intro x P2 l2 hx
      repeat k_extra "w"
      exact hnone hb rfl _ P2 _ (l1.trans l2) (.tup hx (.cons (.int _ _) (.cons (.int _ _) (.cons .none .nil)))) (iv2.mono l2)
    | some hni hts =>
      obtain ⟨hl, hQ⟩ := hsome hb _ rfl
      obtain ⟨yi, kli, ti1, ti2, ti3, ti4, mi, rfl, hIi, hkli, hki3⟩ := id hni
      repeat k_extra "w"
      refine c_array_items (n := n) hE (H'.le (by lia)) iv2 hd hg .none hn2 hni hts hl fun x P2 os2 l2 hx iv3 => ?_
      repeat k_extra "w"
      exact hQ x P2 os2 (l1.trans l2) hx iv3
  | some he hz =>
    rename_i e
    obtain ⟨sa, s1, s2, vr, rfl, hP, hr⟩ := Xv.inv he
    repeat k_extra "w"
    refine c_is_bad (n := n) k (H'.le (by lia)) he ?_
    by_cases hb15 : e.k = 15
    · repeat k_extra "w"
      refine c_bad (n := n) k (H'.le (by lia)) fun x P1 l1 hx => ?_
      repeat k_extra "w"
      exact hbad (.inr (by simp [hb15])) x P1 os l1 hx (iv.mono l1)
    have hb : ¬ (named w = 15 ∨ ((some e : Option Ex).any fun e => decide (e.k = 15)) = true) := by simp [h15, hb15]
    repeat k_extra "w"
    refine c_array_kind (n := n) iv.ks (H'.le (by lia)) iv.fx.kti iv.kt hg fun P1 o1' o2' o3' o4' o5' tq l1 hkt => ?_
    have iv2 : Inv c W cfg P1 { σ with A := (putA σ.A (named w)).2 } ⟨o1', o2', o3', o4', o5', os.w, os.rw, os.du, os.dg, os.cx⟩ := ⟨iv.ks, iv.fx.mono l1, hkt, iv.w, iv.rw, (iv.mono l1).du, (iv.mono l1).dg, iv.cx⟩
    have hn2 := hn.mono l1
    have hit2 := hit.mono l1
    cases hit2 with
    | none =>
      repeat k_extra "w"
      intro x P2 l2 hx
      repeat k_extra "w"
      exact hnone hb rfl _ P2 _ (l1.trans l2) (.tup hx (.cons (.int _ _) (.cons (.int _ _) (.cons (he.mono (l1.trans l2)) .nil)))) (iv2.mono l2)
    | some hni hts =>
      obtain ⟨hl, hQ⟩ := hsome hb _ rfl
      obtain ⟨yi, kli, ti1, ti2, ti3, ti4, mi, rfl, hIi, hkli, hki3⟩ := id hni
      repeat k_extra "w"
      refine c_array_items (n := n) hE (H'.le (by lia)) iv2 hd hg (.some (he.mono l1) fun q => hz q hb15) hn2 hni hts hl fun x P2 os2 l2 hx iv3 => ?_
      repeat k_extra "w"
      exact hQ x P2 os2 (l1.trans l2) hx iv3
  ))) only [↓quiet]
theorem c_newarr {d : Nat} (hE : ExprC c W cfg d) (H : Ok F D (n + 24 + 20 * d)) (iv : Inv c W cfg P₀ σ os) (hd : σ.deep + d < 50) {w : Str} {size : Option (Int × Leaf)} {items : Option (List Tr)} (ht : TrIs P₀ σ.rk (d + 1) v (.arr nid w size items))
    (hl : σ.fc.length + (rdArr cfg (rd cfg d) nid w size items σ.A).2.1.length ≤ 800) {r : Value}
    {Q : Value → St → Prop} (h : ∀ x P' os', Le P₀ P' → Xv P' x (rdArr cfg (rd cfg d) nid w size items σ.A).1 → (rdArr cfg (rd cfg d) nid w size items σ.A).1.k.natAbs ≤ 100 → Inv c W cfg P' { σ with A := (rdArr cfg (rd cfg d) nid w size items σ.A).2.2, fc := σ.fc ++ (rdArr cfg (rd cfg d) nid w size items σ.A).2.1 } os' → Q x ⟨fr₀, P', mM W os' X⟩) :
    WP F (call (.ref 937) [r, .ref W.cx, v, want]) ⟨fr₀, P₀, mM W os X⟩ Q := by
  refine ofQ ?_; simp (disch := (k_dflt (
  refine hold ?_
  have k := iv.ks.kf
  obtain ⟨av, tn, wv, sv, iv_, tnid, hn, htn, hwv, hsv, hit⟩ : ∃ av tn wv sv iv_ tnid, Nd P₀ v 16 av [tn, sv, iv_] nid ∧ Nd P₀ tn 40 wv [] tnid ∧ Dt P₀ wv (.str w) ∧ SzIs P₀ σ.rk sv size ∧ ItIs P₀ σ.rk d iv_ items := by
    cases ht with
    | arr a b e f g => exact ⟨_, _, _, _, _, _, a, b, e, f, g⟩
  obtain ⟨y, kl, t1, t2, t3, t4, m, rfl, hI, hkl, hk3⟩ := id hn
  have hcx := iv.fx.cxi
  obtain ⟨fs, hfs, hF⟩ := id iv.cx
  have a1 := hF.kt
  have H1 : Ok F D (n + 23 + 20 * d + 1) := H.le (by lia)
  refine wDef H1 (fn_NewArrayRule_bind k) rfl fun F' H' => ?_
  k_extra "in"
  repeat k_extra "w"
  refine c_kind (n := n) (H'.le (by lia)) iv (by lia) htn hwv fun tk os1 iv1 => ?_
  repeat k_extra "w"
  by_cases h0 : named w = 0
  · rw [rdArr_0 h0] at h
    repeat k_extra "w"
    intro x P1 l1 hx
    repeat k_extra "w"
    refine c_tell_fault (n := n) (H'.le (by lia)) (iv1.mono l1) (hn.mono l1) (ws := []) (.tup hx .nil) (by lia) fun x2 P2 os2 l2 hx2 iv2 => ?_
    repeat k_extra "w"
    exact h x2 P2 os2 (l1.trans l2) hx2 (show badE.k.natAbs ≤ 100 by decide) iv2
  -- the size
  have hA0 := iv.kt.1.len
  have hfl : (sizeOf cfg size).2.length ≤ 3 ∧ σ.fc.length + (sizeOf cfg size).2.length ≤ 800 := by
    have h1 : (sizeOf cfg size).2.length ≤ 3 := by
      cases hsv with
      | none => exact Nat.zero_le _
      | some hf hnd => exact rdSize_len (leaf_ok (cfg := cfg) hf hnd).1
    refine ⟨h1, ?_⟩
    by_cases hb : named w = 15 ∨ ((sizeOf cfg size).1.any fun e => decide (e.k = 15)) = true
    · rw [rdArr_bad h0 hb] at hl; exact hl
    · cases items with
      | none => rw [rdArr_none h0 hb] at hl; exact hl
      | some ts =>
        rw [rdArr_some h0 hb] at hl
        dsimp only at hl
        rw [List.length_append] at hl
        lia
  have kb : ∀ ts, (finI cfg (rd cfg d) (named w) (putA σ.A (named w)).1 (100 + nid) (sizeOf cfg size).1 ts [] (putA σ.A (named w)).2).1.k.natAbs ≤ 100 := fun ts => by
    have hp := putA_small hA0 (named w)
    rcases finI_k cfg (rd cfg d) (named w) (putA σ.A (named w)).1 (100 + nid) (sizeOf cfg size).1 ts [] (putA σ.A (named w)).2 with e | e
    · rw [e]; decide
    · rw [e]; exact hp
  have fin : ∀ (F' : Frm c) (P1 : Pset) (os1 : Os) (sv' : Value) (ko : Option Value), Ok F' R_NewArrayRule_bind.d (n + 23 + 20 * d) → Le P₀ P1 → SzV P1 sv' (sizeOf cfg size).1 → Inv c W cfg P1 { σ with fc := σ.fc ++ (sizeOf cfg size).2 } os1 →
      WP F' (execs (R_NewArrayRule_bind.body.drop 4) F'.env) ⟨[(S "self", some r), (S "cx", some (.ref W.cx)), (S "node", some (.ref y)), (S "want", some want), (S "elem", some (.int (named w) tk)), (S "k", ko), (S "size", some sv')], P1, mM W os1 X⟩ (Ret fr₀ Q) := fun F' P1 os1 sv' ko H' l1 hs iv1 => by
    refine c_newarr_tail hE H' iv1 hd h0 hs (hn.mono l1) (hit.mono l1) ?_ ?_ ?_
    · intro hb x P' os' l hx iv2
      rw [rdArr_bad h0 hb] at h
      exact h x P' os' (l1.trans l) hx (show badE.k.natAbs ≤ 100 by decide) iv2
    · rintro hb rfl x P' os' l hx iv2
      rw [rdArr_none h0 hb] at h
      exact h x P' os' (l1.trans l) hx (putA_small hA0 _) iv2
    · rintro hb ts rfl
      rw [rdArr_some h0 hb] at h hl
      dsimp only at h hl
      refine ⟨?_, fun x P' os' l hx iv2 => h x P' os' (l1.trans l) hx (kb ts) (by rw [← List.append_assoc]; exact iv2)⟩
      show (σ.fc ++ (sizeOf cfg size).2).length + (finI cfg (rd cfg d) (named w) (putA σ.A (named w)).1 (100 + nid) (sizeOf cfg size).1 ts [] (putA σ.A (named w)).2).2.1.length ≤ 800
      rw [List.length_append] at hl ⊢
      lia
  clear h hl kb
  cases hsv with
  | none =>
    repeat (first | ((guard_target = WP _ (execs _ _) _ _); exact fin F' P₀ os1 .none none H' Le.rfl .none (same_fc (d := σ.deep) iv1)) | k_extra "w")
  | some hf hnd =>
    rename_i snid f
    obtain ⟨hz, hbk⟩ := leaf_ok (cfg := cfg) hf hnd (at_ := 100 + snid) (k := -1)
    obtain ⟨skind, sav, hsn⟩ : ∃ kind av, Nd P₀ sv kind av [] snid := by cases hf <;> exact ⟨_, _, by assumption⟩
    obtain ⟨sy, skl, s1, s2, s3, s4, sm, rfl, sI, shkl, shk3⟩ := id hsn
    repeat k_extra "w"
    refine c_array_size (n := n) (H'.le (by lia)) iv1 (by lia) (by lia) hf hnd fun x P1 os2 l1 hx iv2 => ?_
    repeat (first | ((guard_target = WP _ (execs _ _) _ _); exact fin F' P1 os2 x none H' l1 (.some hx fun q1 q2 => rdSize_fin hz q1 q2) iv2) | k_extra "w")
  ))) only [↓quiet]
end
end
section
variable {c : Cx} {F : Frm c} {D : FnD} {n : Nat} {fr₀ : List (Str × Option Value)} {P₀ : Pset} {M₀ : List (Addr × Obj)}
theorem rd_leaf (cfg : Cfg) (d : Nat) (nid : Int) (f : Leaf) (want : Int) (A : List Int) : rd cfg d (.leaf nid f) want A = ((rdLeaf cfg f (100 + nid) want).1, (rdLeaf cfg f (100 + nid) want).2, A) := by
  cases d <;> rfl
theorem TrIs.inv {P : Pset} {rk : List (Int × Value)} {d : Nat} {v : Value} {t : Tr} (h : TrIs P rk d v t) : (∃ nid f, t = .leaf nid f ∧ LfIs P rk v nid f) ∨ ∃ d' nid w size items av tn wv sv iv tnid, d = d' + 1 ∧ t = .arr nid w size items ∧ Nd P v 16 av [tn, sv, iv] nid ∧ Nd P tn 40 wv [] tnid ∧ Dt P wv (.str w) ∧ SzIs P rk sv size ∧ ItIs P rk d' iv items := by
  cases h with
  | leaf h => exact .inl ⟨_, _, rfl, h⟩
  | arr a b e f g => exact .inr ⟨_, _, _, _, _, _, _, _, _, _, _, rfl, rfl, a, b, e, f, g⟩
theorem rdArr_k {W : WL} {cfg : Cfg} {rec : Tr → Int → List Int → Ex × List PyData × List Int} {nid : Int} {w : Str} {size : Option (Int × Leaf)} {items : Option (List Tr)} {A : List Int} (hA0 : A.length ≤ 10) : (rdArr cfg rec nid w size items A).1.k.natAbs ≤ 100 := by
  refine ofQ ?_; simp (disch := (k_dflt (
  refine hold ?_
  by_cases h0 : named w = 0
  · rw [rdArr_0 h0]; exact (show badE.k.natAbs ≤ 100 by decide)
  by_cases hb : named w = 15 ∨ ((sizeOf cfg size).1.any fun e => decide (e.k = 15)) = true
  · rw [rdArr_bad h0 hb]; exact (show badE.k.natAbs ≤ 100 by decide)
  cases items with
  | none => rw [rdArr_none h0 hb]; exact putA_small hA0 _
  | some ts =>
    rw [rdArr_some h0 hb]
    have hp := putA_small hA0 (named w)
    rcases finI_k cfg rec (named w) (putA A (named w)).1 (100 + nid) (sizeOf cfg size).1 ts [] (putA A (named w)).2 with e | e
    · show (finI _ _ _ _ _ _ _ _ _).1.k.natAbs ≤ 100
      rw [e]; decide
    · show (finI _ _ _ _ _ _ _ _ _).1.k.natAbs ≤ 100
      rw [e]; exact hp
  ))) only [↓quiet]
theorem exprC_step (W : WL) (cfg : Cfg) (d : Nat) (ih : ∀ d', d = d' + 1 → ExprC c W cfg d') : ExprC c W cfg d := by
  refine ofQ ?_; simp (disch := (k_dflt (
  refine hold ?_
  intro F D n fr₀ P₀ σ os X v t want tw Q H iv hd ht hw hl h
  obtain ⟨g15, g100, g0, g00⟩ := goodK_small hw
  rcases ht.inv with ⟨nid, f, rfl, hf⟩ | ⟨d', nid, w, size, items, av, tn, wv, sv, iv_, tnid, rfl, rfl, hn, htn, hwv, hsv, hit⟩
  · rw [rd_leaf] at h hl
    exact c_expr_leaf (n := n) (H.le (by lia)) iv (by lia) (by dsimp only at hl; lia) hf (fun _ => hw) fun x P' os' l hx iv' => h x P' os' l hx (leaf_k hf g100) iv'
  · have k := iv.ks.kf
    obtain ⟨oe, kvs, hoe, hdx, e1, e2, e3, e4, e5, e6, e7, e27, e16⟩ := iv.fx.ex
    refine c_expr (n := n + 29 + 20 * d') (H.le (by lia)) iv (by lia) hn hoe hdx e16 iv.fx.iA (k.m (by k_extra "mem") (.head _)) rfl (A' := (rdArr cfg (rd cfg d') nid w size items σ.A).2.2) (fc' := σ.fc ++ (rdArr cfg (rd cfg d') nid w size items σ.A).2.1) (e := (rdArr cfg (rd cfg d') nid w size items σ.A).1) (fun F' D' H' fr' os' iv' Q' hq => ?_) fun x P' os' l hx iv' => h x P' os' l hx (rdArr_k (W := W) iv.kt.1.len) iv'
    refine c_newarr (n := n) (ih d' rfl) (H'.le (by lia)) iv' (by show σ.deep + 1 + d' < 50; push_cast at hd; lia) (.arr hn htn hwv hsv hit) hl fun x P' os' l hx _ iv2 => hq x P' os' l hx iv2
  ))) only [↓quiet]
theorem exprC (W : WL) (cfg : Cfg) : ∀ d, ExprC c W cfg d
  | 0 => exprC_step W cfg 0 fun _ e => nomatch e
  | d + 1 => exprC_step W cfg (d + 1) fun d' e => by cases e; exact exprC W cfg d
end
section
variable {c : Cx} {F : Frm c} {D : FnD} {n : Nat} {fr₀ : List (Str × Option Value)} {P₀ : Pset} {M₀ : List (Addr × Obj)}
section
variable {W : WL} {cfg : Cfg} {σ : Sig} {os : Os} {X : List (Addr × Obj)} {v : Value} {nid : Int}
theorem Inv.addL {P : Pset} {o1 o2 o3 o4 o5 ow orw odg ocx : Obj} {vs : List Value} {m : Nat} (iv : Inv c W cfg P σ ⟨o1, o2, o3, o4, o5, ow, orw, listOf vs.toArray m, odg, ocx⟩) (hd : Dts P vs σ.fl) {y : Addr} {d : PyData} (hy : Dt P (.ref y) d) :
    Inv c W cfg P { σ with fl := σ.fl ++ [d] } ⟨o1, o2, o3, o4, o5, ow, orw, listOf (vs.toArray.push (.ref y)) (m + 1), odg, ocx⟩ :=
  ⟨iv.ks, iv.fx, iv.kt, iv.w, iv.rw, ⟨vs ++ [.ref y], m + 1, by simp, Dts.app (.cons hy .nil) hd⟩, iv.dg, iv.cx⟩
theorem l_tell (H : Ok F D (n + 1)) (iv : Inv c W cfg P₀ σ os) {num : Int} {t : Tok} {wv : Value} {kind : Int} {av : Value} {ks : List Value} (hn : Nd P₀ v kind av ks nid) {ws : List PyData} (hw : Dt P₀ wv (.tuple ws)) (hl : σ.fl.length ≤ 900)
    {Q : Value → St → Prop} (h : ∀ x P' os', Le P₀ P' → Xv P' x badE → Inv c W cfg P' { σ with fl := σ.fl ++ [flt num (100 + nid) ws] } os' → Q x ⟨fr₀, P', mM W os' X⟩) :
    WP F (call (.ref 1031) [.ref W.w, .int num t, v, wv]) ⟨fr₀, P₀, mM W os X⟩ Q := by
  refine ofQ ?_; simp (disch := (k_dflt (
  refine hold ?_
  obtain ⟨o1, o2, o3, o4, o5, ow, orw, odu, odg, ocx⟩ := os
  have k := iv.ks.kf
  obtain ⟨vs, m, e, hd⟩ := id iv.du
  replace e : odu = _ := e
  subst e
  obtain ⟨kvs, hwd, hF, _⟩ := iv.w
  replace hwd : ow.IsDictOf _ kvs := hwd
  have w1 := hF.due
  have hlen : vs.length = σ.fl.length := hd.length
  obtain ⟨y, kl, t1, t2, t3, t4, m, rfl, hI, hkl, hk3⟩ := id hn
  refine wDef H (fn_law_tell k) rfl fun F' H' => ?_
  k_extra "in"
  repeat k_extra "w"
  intro y P' l hP
  repeat k_extra "w"
  intro z P2 l2 hz
  repeat k_extra "w"
  have lt := l.trans l2
  exact h _ P2 ⟨o1, o2, o3, o4, o5, ow, orw, _, odg, ocx⟩ lt (.tup hz (.cons (.int _ _) (.cons (.int _ _) (.cons (.int _ _) .nil)))) ((iv.mono lt).addL (hd.mono lt) (.tup (l2 _ _ hP) (.cons (.int _ _) (.cons (.int _ _) (.cons (hw.mono lt) .nil)))))
  ))) only [↓quiet]
theorem l_turn (H : Ok F D (n + 2)) (iv : Inv c W cfg P₀ σ os) {ev : Value} {e : Ex} (he : Xv P₀ ev e) (hb : e.k.natAbs ≤ 100) {kk : Int} {t : Tok} (hkb : kk.natAbs ≤ 100)
    {kind : Int} {av : Value} {ks : List Value} (hn : Nd P₀ v kind av ks nid) (hl : σ.fl.length ≤ 900)
    {Q : Value → St → Prop} (h : ∀ x P' os', Le P₀ P' → Xv P' x (conv cfg e kk (100 + nid)).1 → Inv c W cfg P' { σ with fl := σ.fl ++ (conv cfg e kk (100 + nid)).2 } os' → Q x ⟨fr₀, P', mM W os' X⟩) :
    WP F (call (.ref 1038) [.ref W.w, ev, .int kk t, v]) ⟨fr₀, P₀, mM W os X⟩ Q := by
  refine ofQ ?_; simp (disch := (k_dflt (
  refine hold ?_
  have k := iv.ks.kf
  obtain ⟨og, xs, hog, hgt, hgo⟩ := iv.fx.gs
  obtain ⟨kvs, hwd, hF, _⟩ := id iv.w
  have w1 := hF.goes
  obtain ⟨tc, w2⟩ := hF.chk
  obtain ⟨a, t1, t2, vr, rfl, hP, hr⟩ := he.inv
  unfold conv at h
  refine wDef H (fn_law_turn k) rfl fun F' H' => ?_
  k_extra "in"
  by_cases h1 : e.k = kk
  · rw [if_pos (.inl h1)] at h
    repeat k_extra "w"
    exact h _ P₀ os Le.rfl he (by simpa using iv)
  by_cases h2 : e.k = 15
  · rw [if_pos (.inr h2)] at h
    repeat k_extra "w"
    exact h _ P₀ os Le.rfl he (by simpa using iv)
  rw [if_neg (by rw [not_or]; exact ⟨h1, h2⟩)] at h
  repeat k_extra "w"
  intro b P' l hb'
  repeat k_extra "w"
  refine oInH (room_tup H') (.p (l _ _ hog)) (hgt.mono l) iv.fx.gsl (key_tup2 hb') ?_
  rcases hgo.look e.k kk with ⟨g1, g2⟩ | ⟨cv, p, tq, g1, g3, g2⟩
  · rw [g1] at h
    rw [g2]
    repeat k_extra "w"
    refine cStr ?_ fun _ => ?_
    · have : e.k.natAbs.log2 ≤ e.k.natAbs := by
        rcases Nat.eq_zero_or_pos e.k.natAbs with e | e
        · rw [e]; decide
        · exact Nat.le_of_lt ((Nat.log2_lt (by omega)).mpr Nat.lt_two_pow_self)
      omega
    repeat k_extra "w"
    refine cStr ?_ fun _ => ?_
    · have : kk.natAbs.log2 ≤ kk.natAbs := by
        rcases Nat.eq_zero_or_pos kk.natAbs with e | e
        · rw [e]; decide
        · exact Nat.le_of_lt ((Nat.log2_lt (by omega)).mpr Nat.lt_two_pow_self)
      omega
    repeat k_extra "w"
    intro y P'' l' hy
    repeat k_extra "w"
    refine l_tell H' (iv.mono (l.trans l')) (hn.mono (l.trans l')) (ws := [shown e.k, shown kk]) (.tup hy (.cons (.str _ _ (strOk_of _)) (.cons (.str _ _ (strOk_of _)) .nil))) hl fun x P3 os' l3 hx iv' => ?_
    repeat k_extra "w"
    exact h x P3 os' ((l.trans l').trans l3) hx iv'
  · rw [g1] at h
    rw [g2]
    repeat k_extra "w"
    intro b2 P2 l2 hb2
    repeat k_extra "w"
    refine wItemH (room_tup H') (.p ((l.trans l2) _ _ hog)) (hgt.mono (l.trans l2)) (key_tup2 hb2) g2 ?_ (hs := ?hs)
    case hs => with_unfolding_all rfl
    repeat k_extra "w"
    intro y P3 l3 hy
    repeat k_extra "w"
    have lt := (l.trans l2).trans l3
    exact h _ P3 os lt (.tup hy (.cons (.int _ _) (.cons (.int _ _) (.cons (he.mono lt) (.cons (.int _ _) (.cons (.int _ _) .nil)))))) (by simpa using iv.mono lt)
  ))) only [↓quiet]
end
end
section
variable {c : Cx} {F : Frm c} {D : FnD} {n : Nat} {fr₀ : List (Str × Option Value)} {P₀ : Pset} {M₀ : List (Addr × Obj)}
inductive RowsF (P : Pset) : List Value → List (Int × Nat × List Str) → Prop
  | nil : RowsF P [] []
  | cons {a b : Addr} {k : Int} {tk tb : Tok} {n : Nat} {wvs vs : List Value} {ws : List Str} {ls : List (Int × Nat × List Str)} (h : P a (tupO [.int k tk, .int n tb, .ref b])) (hb : P b (tupO wvs)) (hd : Dts P wvs (ws.map .str)) (hn : (Nat.ble 1 n && Nat.ble n 64) = true) (r : RowsF P vs ls) : RowsF P (.ref a :: vs) ((k, n, ws) :: ls)
noncomputable def fF (i : Int) (w : Str) (l : List (Int × Nat × List Str)) : Option Int := l.foldr (fun p r => if i < 2 ^ p.2.1 ∧ w ∈ p.2.2 then some p.1 else r) none
section
variable {W : WL} {cfg : Cfg} {σ : Sig} {os : Os} {X : List (Addr × Obj)} {v : Value} {nid : Int}
theorem l_first (H : Ok F D (n + 2)) (iv : Inv c W cfg P₀ σ os) {i : Int} {w : Str} {av : Value} (hn : Nd P₀ v 1 av [] nid) (hs : Dt P₀ av (.tuple [.int i, .str w])) (hw : w ∈ [S "", S "u", S "l", S "ul"]) (hl : σ.fl.length ≤ 900)
    {Q : Value → St → Prop} (h : ∀ x P' os', Le P₀ P' → Xv P' x (rdInt i w (100 + nid)).1 → Inv c W cfg P' { σ with fl := σ.fl ++ (rdInt i w (100 + nid)).2 } os' → Q x ⟨fr₀, P', mM W os' X⟩) :
    WP F (call (.ref 1045) [.ref W.w, v]) ⟨fr₀, P₀, mM W os X⟩ Q := by
  refine ofQ ?_; simp (disch := (k_dflt (
  refine hold ?_
  have ks := iv.ks
  have k := ks.kf
  obtain ⟨at_, as, rfl, hat, has⟩ := hs.tup_inv
  obtain ⟨t, w', e1, hwo⟩ : ∃ t u, as = [.int i t, .str w u] ∧ PyData.strOk w = true := by
    cases has with
    | cons a b =>
      cases b with
      | cons b c =>
        cases c
        obtain ⟨t, rfl⟩ := a.int_inv
        cases b
        exact ⟨t, _, rfl, by assumption⟩
  subst e1
  obtain ⟨y, kl, t1, t2, t3, t4, m, rfl, hI, hkl, hk3⟩ := id hn
  refine wDef H (fn_law_first k) rfl fun F' H' => ?_
  k_extra "in"
  repeat k_extra "w"
  k_extra "forT"
  repeat k_extra "w"
  intro b1 P1 l1 hb1
  repeat k_extra "w"
  intro a1 P2 l2 ha1
  repeat k_extra "w"
  intro b2 P3 l3 hb2
  repeat k_extra "w"
  intro a2 P4 l4 ha2
  repeat k_extra "w"
  intro b3 P5 l5 hb3
  repeat k_extra "w"
  intro a3 P6 l6 ha3
  repeat k_extra "w"
  intro b4 P7 l7 hb4
  repeat k_extra "w"
  intro a4 P8 l8 ha4
  repeat k_extra "w"
  intro a5 P9 l9 ha5
  repeat k_extra "w"
  have lall : Le P₀ P9 := l1.trans (l2.trans (l3.trans (l4.trans (l5.trans (l6.trans (l7.trans (l8.trans (l9))))))))
  have kb1 := (l2.trans (l3.trans (l4.trans (l5.trans (l6.trans (l7.trans (l8.trans (l9)))))))) _ _ hb1
  have ka1 := (l3.trans (l4.trans (l5.trans (l6.trans (l7.trans (l8.trans (l9))))))) _ _ ha1
  have kb2 := (l4.trans (l5.trans (l6.trans (l7.trans (l8.trans (l9)))))) _ _ hb2
  have ka2 := (l5.trans (l6.trans (l7.trans (l8.trans (l9))))) _ _ ha2
  have kb3 := (l6.trans (l7.trans (l8.trans (l9)))) _ _ hb3
  have ka3 := (l7.trans (l8.trans (l9))) _ _ ha3
  have kb4 := (l8.trans (l9)) _ _ hb4
  have ka4 := (l9) _ _ ha4
  have iv' := iv.mono lall
  have hn' := hn.mono lall
  have good : ∀ (kk : Int) x P' ta tb tc, Le P9 P' → firstK i w = some kk → P' x (tupO [.int 1 ta, .int kk tb, .int i tc]) → Q (.ref x) ⟨fr₀, P', mM W os X⟩ := fun kk x P' ta tb tc l e hP => by
    unfold rdInt at h
    rw [e] at h
    exact h _ P' os (lall.trans l) (.tup hP (.cons (.int _ _) (.cons (.int _ _) (.cons (.int _ _) .nil)))) (by simpa using iv'.mono l)
  have badc : firstK i w = none → ∀ x P' os', Le P9 P' → Xv P' x badE → Inv c W cfg P' { σ with fl := σ.fl ++ [flt 1021 (100 + nid) []] } os' → Q x ⟨fr₀, P', mM W os' X⟩ := fun e x P' os' l hx iv2 => by
    unfold rdInt at h
    rw [e] at h
    exact h _ P' os' (lall.trans l) hx iv2
  have hfk : firstK i w = fF i w [(7, 31, [S ""]), (8, 32, [S "", S "u"]), (9, 63, [S "", S "l"]), (10, 64, [S "", S "u", S "l", S "ul"])] := by
    have e0 : (i < 2 ^ 31) = (i ≤ 2147483647) := propext ⟨fun _ => by omega, fun _ => by omega⟩
    have e1 : (i < 2 ^ 32) = (i ≤ 4294967295) := propext ⟨fun _ => by omega, fun _ => by omega⟩
    have e2 : (i < 2 ^ 63) = (i ≤ 9223372036854775807) := propext ⟨fun _ => by omega, fun _ => by omega⟩
    have e3 : (i < 2 ^ 64) = (i ≤ 18446744073709551615) := propext ⟨fun _ => by omega, fun _ => by omega⟩
    simp only [fF, List.foldr_cons, List.foldr_nil, e0, e1, e2, e3, hw, and_true]
    simp only [firstK, List.mem_cons, List.not_mem_nil, or_false]
  have rows : RowsF P9 [.ref a1, .ref a2, .ref a3, .ref a4] [(7, 31, [S ""]), (8, 32, [S "", S "u"]), (9, 63, [S "", S "l"]), (10, 64, [S "", S "u", S "l", S "ul"])] :=
    .cons ka1 kb1 (.cons (.str _ _ (strOk_of _)) .nil) rfl (.cons ka2 kb2 (.cons (.str _ _ (strOk_of _)) (.cons (.str _ _ (strOk_of _)) .nil)) rfl (.cons ka3 kb3 (.cons (.str _ _ (strOk_of _)) (.cons (.str _ _ (strOk_of _)) .nil)) rfl (.cons ka4 kb4 (.cons (.str _ _ (strOk_of _)) (.cons (.str _ _ (strOk_of _)) (.cons (.str _ _ (strOk_of _)) (.cons (.str _ _ (strOk_of _)) .nil)))) rfl .nil)))
  clear h hs hI hn iv hw
  clear hb1 ha1 hb2 ha2 hb3 ha3 hb4 ha4
  clear l1 l2 l3 l4 l5 l6 l7 l8 l9
  refine OverTup.l ha5 fun I => ?_
  refine (?loop : ∀ ls vs vb vk vw, RowsF P9 vs ls → firstK i w = fF i w ls → TurnsL _ _ _ _ _ vs ⟨[(S "w", some (.ref W.w)), (S "node", some (.ref y)), (S "bits", vb), (S "k", vk), (S "n", some (.int i t)), (S "word", some (.str w w')), (S "words", vw)], P9, mM W os X⟩) _ _ none none none rows hfk
  case loop =>
    clear rows hfk ka1 kb1 ka2 kb2 ka3 kb3 ka4 kb4 ha5
    intro ls
    induction ls with
    | nil =>
      intro vs vb vk vw hr hf
      cases hr
      refine TurnsL.nil ?_
      repeat k_extra "w"
      intro a P' l hP
      repeat k_extra "w"
      refine l_tell (n := n) H' (iv'.mono l) (hn'.mono l) (ws := []) (.tup hP .nil) hl fun x P2 os' l2 hx iv2 => ?_
      repeat k_extra "w"
      exact badc hf x P2 os' (l.trans l2) hx iv2
    | cons p ls IH =>
      intro vs vb vk vw hr hf
      cases hr with
      | cons ha hb hd hb64 hr =>
      rename_i b kk tk tb bn wvs vs ws
      refine TurnsL.cons fun o => ?_
      repeat k_extra "w"
      refine oPow (k := bn) (Nat.le_of_ble_eq_true (Bool.and_eq_true_iff.mp hb64).1) (Nat.le_of_ble_eq_true (Bool.and_eq_true_iff.mp hb64).2) fun _ => ?_
      repeat k_extra "w"
      refine ⟨fun hq => ?_, fun hq => ?_⟩
      · repeat k_extra "w"
        refine oInS H' hwo (xs := ws) hb hd ?_
        by_cases hin : w ∈ ws
        · rw [decide_eq_true hin]
          repeat k_extra "w"
          intro a P' l hP
          repeat k_extra "w"
          refine TurnEnd.rt (M := mM W os X) ?_
          repeat k_extra "w"
          exact good kk _ _ _ _ _ l (hf.trans (if_pos ⟨of_decide_eq_true hq, hin⟩)) hP
        · rw [decide_eq_false hin]
          repeat k_extra "w"
          refine TurnEnd.nx (M := mM W os X) Le.rfl ?_
          exact IH _ _ _ _ hr (hf.trans (if_neg fun q => hin q.2))
      · repeat k_extra "w"
        refine TurnEnd.nx (M := mM W os X) Le.rfl ?_
        exact IH _ _ _ _ hr (hf.trans (if_neg fun q => of_decide_eq_false hq q.1))
  ))) only [↓quiet]
end
end
section
variable {c : Cx} {F : Frm c} {D : FnD} {n : Nat} {fr₀ : List (Str × Option Value)} {P₀ : Pset} {M₀ : List (Addr × Obj)}
section
variable {W : WL} {cfg : Cfg} {σ : Sig} {os : Os} {X : List (Addr × Obj)} {v : Value} {nid : Int}
theorem same_fl {os' : Os} {P : Pset} (iv : Inv c W cfg P σ os') : Inv c W cfg P { σ with A := σ.A, fl := σ.fl ++ [] } os' := by
  rw [List.append_nil]; exact iv
theorem l_empty (H : Ok F D (n + 3)) (iv : Inv c W cfg P₀ σ os) {kk : Int} {t : Tok} (hk : kk ∈ goodK) {kind : Int} {av : Value} {ks : List Value} (hn : Nd P₀ v kind av ks nid) (hl : σ.fl.length ≤ 900)
    {Q : Value → St → Prop} (h : ∀ x P' os', Le P₀ P' → Xv P' x (rdDef cfg kk (100 + nid)).1 → Inv c W cfg P' { σ with fl := σ.fl ++ (rdDef cfg kk (100 + nid)).2 } os' → Q x ⟨fr₀, P', mM W os' X⟩) :
    WP F (call (.ref 1052) [.ref W.w, v, .int kk t]) ⟨fr₀, P₀, mM W os X⟩ Q := by
  refine ofQ ?_; simp (disch := (k_dflt (
  refine hold ?_
  have k := iv.ks.kf
  obtain ⟨kvs, hwd, hF, _⟩ := id iv.w
  have w1 := hF.refs
  obtain ⟨te, w2⟩ := hF.enum
  obtain ⟨vs, hrf, hrd⟩ := iv.fx.rf
  obtain ⟨g15, g100, g0, g00⟩ := goodK_small hk
  unfold rdDef at h
  refine wDef H (fn_law_empty k) rfl fun F' H' => ?_
  k_extra "in"
  repeat k_extra "w"
  refine oInI H' (is := [12, 13, 16, 19, 20, 21]) hrf hrd ?_
  by_cases hr : kk ∈ ([12, 13, 16, 19, 20, 21] : List Int)
  · have hr' : isRefK kk = true := by
      simp only [List.mem_cons, List.not_mem_nil, or_false] at hr
      unfold isRefK; exact decide_eq_true hr
    rw [if_pos hr'] at h
    rw [decide_eq_true hr]
    repeat k_extra "w"
    intro a P' l hP
    repeat k_extra "w"
    refine l_turn (n := n) H' (iv.mono l) (e := ⟨1, 14, [.none]⟩) (.tup hP (.cons (.int _ _) (.cons (.int _ _) (.cons .none .nil)))) (by decide) g100 (hn.mono l) hl fun x P2 os' l2 hx iv2 => ?_
    repeat k_extra "w"
    exact h x P2 os' (l.trans l2) hx iv2
  · have hr' : ¬ isRefK kk = true := by
      simp only [List.mem_cons, List.not_mem_nil, or_false] at hr
      unfold isRefK; simpa using hr
    rw [if_neg hr'] at h
    rw [decide_eq_false hr]
    repeat k_extra "w"
    by_cases h10 : kk ≤ 10
    · rw [if_pos (.inl ⟨by lia, h10⟩)] at h
      repeat k_extra "w"
      intro a P' l hP
      repeat k_extra "w"
      exact h _ P' os l (.tup hP (.cons (.int _ _) (.cons (.int _ _) (.cons (.int _ _) .nil)))) (same_fl (iv.mono l))
    · by_cases h18 : kk = 18
      · rw [if_pos (.inr h18)] at h
        subst h18
        repeat k_extra "w"
        intro a P' l hP
        repeat k_extra "w"
        exact h _ P' os l (.tup hP (.cons (.int _ _) (.cons (.int _ _) (.cons (.int _ _) .nil)))) (same_fl (iv.mono l))
      · rw [if_neg (by rw [not_or]; exact ⟨fun q => h10 q.2, h18⟩)] at h
        repeat k_extra "w"
        intro a P' l hP
        repeat k_extra "w"
        exact h _ P' os l (.tup hP (.cons (.int _ _) (.cons (.int _ _) .nil))) (same_fl (iv.mono l))
  ))) only [↓quiet]
theorem l_read_leaf (H : Ok F D (n + 4)) (iv : Inv c W cfg P₀ σ os) (hl : σ.fl.length ≤ 900) {f : Leaf} (hf : LfIs P₀ σ.rk v nid f) {want : Int} {t : Tok} (hw : f = .dflt → want ∈ goodK)
    {Q : Value → St → Prop} (h : ∀ x P' os', Le P₀ P' → Xv P' x (rdLeaf cfg f (100 + nid) want).1 → Inv c W cfg P' { σ with fl := σ.fl ++ (rdLeaf cfg f (100 + nid) want).2 } os' → Q x ⟨fr₀, P', mM W os' X⟩) :
    WP F (call (.ref 1059) [.ref W.w, v, .int want t]) ⟨fr₀, P₀, mM W os X⟩ Q := by
  refine ofQ ?_; simp (disch := (k_dflt (
  refine hold ?_
  have k := iv.ks.kf
  obtain ⟨kvs, hwd, hF, _⟩ := id iv.w
  have w1 := hF.rows
  refine wDef H (fn_law_read k) rfl fun F' H' => ?_
  k_extra "in"
  cases hf with
  | int hn hs hw' h0 =>
    obtain ⟨y, kl, t1, t2, t3, t4, m, rfl, hI, hkl, hk3⟩ := id hn
    repeat k_extra "w"
    refine l_first (n := n + 1) H' iv hn hs hw' hl fun x P' os' l hx iv' => ?_
    repeat k_extra "w"
    exact h x P' os' l hx iv'
  | text hn hs =>
    obtain ⟨y, kl, t1, t2, t3, t4, m, rfl, hI, hkl, hk3⟩ := id hn
    obtain ⟨ts, rfl⟩ := hs.str_inv
    repeat k_extra "w"
    intro a P' l hP
    repeat k_extra "w"
    exact h _ P' os l (.tup hP (.cons (.int _ _) (.cons (.int _ _) (.cons (hs.mono l) .nil)))) (same_fl (iv.mono l))
  | chr hn hs =>
    obtain ⟨y, kl, t1, t2, t3, t4, m, rfl, hI, hkl, hk3⟩ := id hn
    obtain ⟨ts, rfl⟩ := hs.int_inv
    repeat k_extra "w"
    intro a P' l hP
    repeat k_extra "w"
    exact h _ P' os l (.tup hP (.cons (.int _ _) (.cons (.int _ _) (.cons (hs.mono l) .nil)))) (same_fl (iv.mono l))
  | tru hn =>
    obtain ⟨y, kl, t1, t2, t3, t4, m, rfl, hI, hkl, hk3⟩ := id hn
    repeat k_extra "w"
    intro a P' l hP
    repeat k_extra "w"
    exact h _ P' os l (.tup hP (.cons (.int _ _) (.cons (.int _ _) (.cons (.int _ _) .nil)))) (same_fl (iv.mono l))
  | fls hn =>
    obtain ⟨y, kl, t1, t2, t3, t4, m, rfl, hI, hkl, hk3⟩ := id hn
    repeat k_extra "w"
    intro a P' l hP
    repeat k_extra "w"
    exact h _ P' os l (.tup hP (.cons (.int _ _) (.cons (.int _ _) (.cons (.int _ _) .nil)))) (same_fl (iv.mono l))
  | null hn =>
    obtain ⟨y, kl, t1, t2, t3, t4, m, rfl, hI, hkl, hk3⟩ := id hn
    repeat k_extra "w"
    intro a P' l hP
    repeat k_extra "w"
    exact h _ P' os l (.tup hP (.cons (.int _ _) (.cons (.int _ _) (.cons .none .nil)))) (same_fl (iv.mono l))
  | dflt hn =>
    obtain ⟨y, kl, t1, t2, t3, t4, m, rfl, hI, hkl, hk3⟩ := id hn
    repeat k_extra "w"
    refine l_empty (n := n) H' iv (hw rfl) hn hl fun x P' os' l hx iv' => ?_
    repeat k_extra "w"
    exact h x P' os' l hx iv'
  | name hn hx he hs hb =>
    obtain ⟨y, kl, t1, t2, t3, t4, m, rfl, hI, hkl, hk3⟩ := id hn
    repeat k_extra "w"
    refine wItemD (.m ?m) iv.rw (isI _ _ _) hx ?_ (hs := ?hs)
    case m => k_extra "mm"
    case hs => with_unfolding_all rfl
    repeat k_extra "w"
    exact h _ P₀ os Le.rfl he (same_fl iv)
  ))) only [↓quiet]
theorem l_size (H : Ok F D (n + 5)) (iv : Inv c W cfg P₀ σ os) (hl : σ.fl.length ≤ 800) {f : Leaf} (hf : LfIs P₀ σ.rk v nid f) (hnd : f ≠ .dflt)
    {Q : Value → St → Prop} (h : ∀ x P' os', Le P₀ P' → Xv P' x (rdSize cfg f (100 + nid)).1 → Inv c W cfg P' { σ with fl := σ.fl ++ (rdSize cfg f (100 + nid)).2 } os' → Q x ⟨fr₀, P', mM W os' X⟩) :
    WP F (call (.ref 1066) [.ref W.w, v]) ⟨fr₀, P₀, mM W os X⟩ Q := by
  refine ofQ ?_; simp (disch := (k_dflt (
  refine hold ?_
  have k := iv.ks.kf
  obtain ⟨hz, hb⟩ := leaf_ok (cfg := cfg) hf hnd (at_ := 100 + nid) (k := -1)
  generalize hR : rdSize cfg f (100 + nid) = r at h
  rw [rdSize_eq hz] at hR
  have hlen1 := rdLeaf_len (c := cfg) (f := f) (at_ := 100 + nid) (k := -1)
  obtain ⟨kind, av, hn⟩ : ∃ kind av, Nd P₀ v kind av [] nid := by cases hf <;> exact ⟨_, _, by assumption⟩
  refine wDef H (fn_law_size k) rfl fun F' H' => ?_
  k_extra "in"
  repeat k_extra "w"
  refine l_read_leaf (n := n) H' iv (by lia) hf (fun e => absurd e hnd) fun x P1 os1 l1 hx iv1 => ?_
  rcases hr : rdLeaf cfg f (100 + nid) (-1) with ⟨e, f1⟩
  rw [hr] at hR hz hb hx iv1 hlen1
  dsimp only at hR hz hb hx iv1 hlen1
  obtain ⟨a, t1, t2, vr, rfl, hP, hr⟩ := id hx.inv
  repeat k_extra "w"
  intro b P2 l2 hb2
  repeat k_extra "w"
  refine oInI H' (is := [8, 9, 10]) hb2 (.cons (.int _ _) (.cons (.int _ _) (.cons (.int _ _) .nil))) ?_
  by_cases hk : e.k = 8 ∨ e.k = 9 ∨ e.k = 10
  · have hm : e.k ∈ ([8, 9, 10] : List Int) := by simpa using hk
    rw [decide_eq_true hm]
    by_cases hs1 : e.s = 1
    · obtain ⟨i, hri, hi0⟩ := hz hs1 (.inr hk)
      have hen : e.n = i := by unfold Ex.n; rw [hri]
      rw [hri] at hr
      obtain ⟨ti, rfl⟩ : ∃ t, vr = [.int i t] := by
        cases hr with
        | cons p q => cases q; obtain ⟨t, rfl⟩ := p.int_inv; exact ⟨t, rfl⟩
      have h0 := hi0 hk
      repeat k_extra "w"
      refine oPow (k := 31) (by decide) (by decide) fun _ => ?_
      repeat k_extra "w"
      by_cases htop : i ≤ 2147483647
      · have hlt : i < 2 ^ 31 := by lia
        have ei : idxN cfg e (100 + nid) = (⟨1, 7, [.int e.n]⟩, []) := by unfold idxN; rw [if_pos hk, if_pos ⟨hs1, by rw [hen]; exact htop⟩]
        rw [ei] at hR
        dsimp only at hR
        rw [if_neg (by rintro ⟨_, _, q⟩; have q' : e.n < 0 := q; lia)] at hR
        subst hR
        repeat k_extra "w"
        intro y P3 l3 hy
        repeat k_extra "w"
        have lt := l2.trans l3
        exact h _ P3 os1 (l1.trans lt) (by rw [hen]; exact .tup hy (.cons (.int _ _) (.cons (.int _ _) (.cons (.int _ _) .nil)))) (by rw [List.append_nil]; exact iv1.mono lt)
      · have hlt : ¬ i < 2 ^ 31 := by lia
        have ei : idxN cfg e (100 + nid) = (⟨19, 7, [e.data, .int 1, .int 1]⟩, []) := by unfold idxN; rw [if_pos hk, if_neg (by rintro ⟨_, q⟩; exact htop (by rw [hen] at q; exact q))]
        rw [ei] at hR
        dsimp only at hR
        rw [if_neg (by rintro ⟨q, _⟩; exact absurd q (show ¬ (19 : Int) = 1 by decide))] at hR
        subst hR
        repeat k_extra "w"
        intro y P3 l3 hy
        repeat k_extra "w"
        have lt := l2.trans l3
        exact h _ P3 os1 (l1.trans lt) (.tup hy (.cons (.int _ _) (.cons (.int _ _) (.cons (hx.mono lt) (.cons (.int _ _) (.cons (.int _ _) .nil)))))) (by rw [List.append_nil]; exact iv1.mono lt)
    · have ei : idxN cfg e (100 + nid) = (⟨19, 7, [e.data, .int 1, .int 1]⟩, []) := by unfold idxN; rw [if_pos hk, if_neg (by rintro ⟨q, _⟩; exact hs1 q)]
      rw [ei] at hR
      dsimp only at hR
      rw [if_neg (by rintro ⟨q, _⟩; exact absurd q (show ¬ (19 : Int) = 1 by decide))] at hR
      subst hR
      repeat k_extra "w"
      intro y P3 l3 hy
      repeat k_extra "w"
      have lt := l2.trans l3
      exact h _ P3 os1 (l1.trans lt) (.tup hy (.cons (.int _ _) (.cons (.int _ _) (.cons (hx.mono lt) (.cons (.int _ _) (.cons (.int _ _) .nil)))))) (by rw [List.append_nil]; exact iv1.mono lt)
  · have hm : e.k ∉ ([8, 9, 10] : List Int) := by simpa using hk
    rw [decide_eq_false hm]
    have ei : idxN cfg e (100 + nid) = conv cfg e 7 (100 + nid) := by unfold idxN; rw [if_neg hk]
    have hok := idx_ok (c := cfg) (at_ := 100 + nid) hz
    rw [ei] at hR hok
    repeat k_extra "w"
    refine l_turn (n := n + 2) H' (iv1.mono l2) (hx.mono l2) hb (by decide) (hn.mono (l1.trans l2)) (by show (σ.fl ++ f1).length ≤ 900; rw [List.length_append]; lia) fun x2 P3 os3 l3 hx3 iv3 => ?_
    have hlen2 := conv_len (c := cfg) (e := e) (k := 7) (at_ := 100 + nid)
    have hck := conv_k (c := cfg) (e := e) (k := 7) (at_ := 100 + nid)
    rcases hi : conv cfg e 7 (100 + nid) with ⟨e2, f2⟩
    rw [hi] at hR hx3 iv3 hok hlen2 hck
    dsimp only at hR hx3 iv3 hok hlen2 hck
    have iv3' : Inv c W cfg P3 { σ with fl := σ.fl ++ (f1 ++ f2) } os3 := by rw [← List.append_assoc]; exact iv3
    have lt := l1.trans (l2.trans l3)
    obtain ⟨a3, s1, s2, vr3, rfl, hP3, hr3⟩ := id hx3.inv
    repeat k_extra "w"
    by_cases hs1 : e2.s = 1
    · by_cases h7 : e2.k = 7
      · obtain ⟨_, i, hri⟩ := hok hs1 (by lia)
        have hen : e2.n = i := by unfold Ex.n; rw [hri]
        rw [hri] at hr3
        obtain ⟨ti, rfl⟩ : ∃ t, vr3 = [.int i t] := by
          cases hr3 with
          | cons p q => cases q; obtain ⟨t, rfl⟩ := p.int_inv; exact ⟨t, rfl⟩
        repeat k_extra "w"
        by_cases hneg : i < 0
        · rw [if_pos ⟨hs1, h7, by lia⟩] at hR
          subst hR
          repeat k_extra "w"
          intro y P4 l4 hy
          repeat k_extra "w"
          refine l_tell (n := n + 3) H' (iv3.mono l4) (hn.mono (lt.trans l4)) (ws := []) (.tup hy .nil) (by show (σ.fl ++ f1 ++ f2).length ≤ 900; rw [List.length_append, List.length_append]; lia) fun x4 P5 os4 l5 hx4 iv4 => ?_
          repeat k_extra "w"
          exact h _ P5 os4 ((lt.trans l4).trans l5) hx4 (by rw [← List.append_assoc, ← List.append_assoc]; exact iv4)
        · rw [if_neg (by rintro ⟨_, _, q⟩; lia)] at hR
          subst hR
          repeat k_extra "w"
          exact h _ P3 os3 lt hx3 iv3'
      · rw [if_neg (fun q => h7 q.2.1)] at hR
        subst hR
        repeat k_extra "w"
        exact h _ P3 os3 lt hx3 iv3'
    · rw [if_neg (fun q => hs1 q.1)] at hR
      subst hR
      repeat k_extra "w"
      exact h _ P3 os3 lt hx3 iv3'
  ))) only [↓quiet]
end
end
section
variable {c : Cx} {F : Frm c} {D : FnD} {n : Nat} {fr₀ : List (Str × Option Value)} {P₀ : Pset} {M₀ : List (Addr × Obj)}
section
variable {W : WL} {cfg : Cfg}
noncomputable def ReadC (c : Cx) (W : WL) (cfg : Cfg) (d : Nat) : Prop := ∀ (F : Frm c) (D : FnD) (n : Nat) (fr₀ : List (Str × Option Value)) (P₀ : Pset) (σ : Sig) (os : Os) (X : List (Addr × Obj)) (v : Value) (t : Tr) (want : Int) (tw : Tok) (Q : Value → St → Prop),
  Ok F D (n + 12 + 20 * d) → Inv c W cfg P₀ σ os → TrIs P₀ σ.rk d v t → want ∈ goodK → σ.fl.length + (rd cfg d t want σ.A).2.1.length ≤ 800 →
  (∀ x P' os', Le P₀ P' → Xv P' x (rd cfg d t want σ.A).1 → (rd cfg d t want σ.A).1.k.natAbs ≤ 100 → Inv c W cfg P' { σ with A := (rd cfg d t want σ.A).2.2, fl := σ.fl ++ (rd cfg d t want σ.A).2.1 } os' → Q x ⟨fr₀, P', mM W os' X⟩) →
  WP F (call (.ref 1059) [.ref W.w, v, .int want tw]) ⟨fr₀, P₀, mM W os X⟩ Q
variable {σ : Sig} {os : Os} {X : List (Addr × Obj)} {v : Value} {nid : Int}
theorem l_items {d : Nat} (hE : ReadC c W cfg d) (H' : Ok F R_law_made.d (n + 13 + 20 * d)) (iv : Inv c W cfg P₀ σ os) {kk : Int} (hk : kk ∈ goodK) {kd : Int} {tk te : Tok} {sv iv_ av av2 x0 x1 : Value} {sz : Option Ex} (hsv : SvIs P₀ sv sz) {kind : Int} {inid : Int} {vs : List Value} {ts : List Tr}
    (hn : Nd P₀ v kind av [x0, x1, iv_] nid) (hni : Nd P₀ iv_ 110 av2 vs inid) (hts : TrsIs P₀ σ.rk d vs ts)
    (hl : σ.fl.length + (finI cfg (rd cfg d) kk kd (100 + nid) sz ts [] σ.A).2.1.length ≤ 800) {gr : List (Str × Option Value)}
    {Q : Value → St → Prop} (h : ∀ x P' os', Le P₀ P' → Xv P' x (finI cfg (rd cfg d) kk kd (100 + nid) sz ts [] σ.A).1 → Inv c W cfg P' { σ with A := (finI cfg (rd cfg d) kk kd (100 + nid) sz ts [] σ.A).2.2, fl := σ.fl ++ (finI cfg (rd cfg d) kk kd (100 + nid) sz ts [] σ.A).2.1 } os' → Q x ⟨gr, P', mM W os' X⟩) :
    WP F (execs (R_law_made.body.drop 6) F.env) ⟨[(S "w", some (.ref W.w)), (S "node", some v), (S "e", none), (S "items", none), (S "k", some (.int kk te)), (S "kid", none), (S "kind", some (.int kd tk)), (S "size", some sv)], P₀, mM W os X⟩ (Ret gr Q) := by
  refine ofQ ?_; simp (disch := (k_dflt (
  refine hold ?_
  have k := iv.ks.kf
  obtain ⟨g15, g100, g0, g00⟩ := goodK_small hk
  obtain ⟨y, kl, t1, t2, t3, t4, m, rfl, hI, hkl, hk3⟩ := id hn
  obtain ⟨yi, kli, ti1, ti2, ti3, ti4, mi, rfl, hIi, hkli, hki3⟩ := id hni
  refine wCons ?_
  repeat k_extra "w"
  refine wList ?_
  repeat k_extra "w"
  refine wNewListM (fun a => ?_) (szl rfl)
  repeat k_extra "w"
  k_extra "forL"
  repeat k_extra "w"
  refine OverList.l hkli fun I => ?_
  refine (?key : ∀ (vs : List Value) (ts : List Tr) (acc : List Ex) (ys : List Value) (m : Nat) (P : Pset) (σ' : Sig) (os' : Os) (eo ko : Option Value), Le P₀ P → Inv c W cfg P σ' os' → TrsIs P σ'.rk d vs ts → Dts P ys (acc.map Ex.data) → vs.length + ys.length ≤ 3 →
    ∀ r, finI cfg (rd cfg d) kk kd (100 + nid) sz ts acc σ'.A = r → σ'.fl.length + r.2.1.length ≤ 800 →
    (∀ x P' os'', Le P P' → Xv P' x r.1 → Inv c W cfg P' { σ' with A := r.2.2, fl := σ'.fl ++ r.2.1 } os'' → Q x ⟨gr, P', mM W os'' X⟩) →
    TurnsL F _ _ _ I vs ⟨[(Str.ofString "w", some (Value.ref W.w)), (Str.ofString "node", some (Value.ref y)), (Str.ofString "e", eo), (Str.ofString "items", some (Value.ref a)), (Str.ofString "k", some (Value.int kk te)), (Str.ofString "kid", ko), (Str.ofString "kind", some (Value.int kd tk)), (Str.ofString "size", some sv)], P, mM W os' (X ++ [(a, listOf ys.toArray m)])⟩) vs ts [] [] 0 P₀ σ os none none Le.rfl iv hts .nil (by simpa using hki3) _ rfl hl h
  clear h hl hts iv hkli hki3 hIi hni vs ts os σ
  intro vs
  induction vs with
  | nil =>
    intro ts acc ys m P σ os eo ko l0 iv hts hys hlen r hR hl h
    cases hts
    refine TurnsL.nil ?_
    have hn' := hn.mono l0
    have yl : ys.length = acc.length := by simpa using hys.length
    have hys3 : ys.length ≤ 3 := by lia
    simp only [finI] at hR
    unfold closeArr at hR
    have lit : ∀ x P' b, Le P P' → P' b (tupO ys) → P' x (tupO [.int 11 641, .int kd tk, .ref b]) → Inv c W cfg P' { σ with A := σ.A, fl := σ.fl ++ [] } os ∧ Xv P' (.ref x) ⟨11, kd, [.tuple (acc.map Ex.data)]⟩ := fun x P' b l hb hx =>
      ⟨by simpa using iv.mono l, .tup hx (.cons (.int _ _) (.cons (.int _ _) (.cons (.tup hb (hys.mono l)) .nil)))⟩
    have yl' : (ys.toArray.size : Int) = acc.length := by simp [yl]
    cases hsv with
    | none =>
      dsimp only at hR
      subst hR
      repeat k_extra "w"
      refine cTupOf H' (by k_extra "mm") (by rw [sizeLine_eq]; lia) fun b P1 l1 hb => ?_
      refine WP.drop (mdel_last a (listOf ys.toArray m) (mM W os X)) ?_
      repeat k_extra "w"
      intro x P2 l2 hx
      repeat k_extra "w"
      obtain ⟨q1, q2⟩ := lit x P2 b (l1.trans l2) (l2 _ _ hb) hx
      exact h _ P2 os (l1.trans l2) q2 q1
    | @some sv e he hz =>
      dsimp only at hR
      replace he := he.mono l0
      obtain ⟨sa, s1, s2, vr, rfl, hP, hr⟩ := Xv.inv he
      by_cases hs1 : e.s = 1
      · obtain ⟨i, hri⟩ := hz hs1
        have hen : e.n = i := by unfold Ex.n; rw [hri]
        rw [hri] at hr
        obtain ⟨ti, rfl⟩ : ∃ t, vr = [.int i t] := by
          cases hr with
          | cons p q => cases q; obtain ⟨t, rfl⟩ := p.int_inv; exact ⟨t, rfl⟩
        rw [if_neg (by rw [hs1]; simp)] at hR
        rw [hen] at hR
        repeat k_extra "w"
        rw [yl']
        by_cases hi : i = acc.length
        · rw [if_neg (by simp [hi])] at hR
          subst hR
          repeat k_extra "w"
          refine cTupOf H' (by k_extra "mm") (by rw [sizeLine_eq]; lia) fun b P1 l1 hb => ?_
          refine WP.drop (mdel_last a (listOf ys.toArray m) (mM W os X)) ?_
          repeat k_extra "w"
          intro x P2 l2 hx
          repeat k_extra "w"
          obtain ⟨q1, q2⟩ := lit x P2 b (l1.trans l2) (l2 _ _ hb) hx
          exact h _ P2 os (l1.trans l2) q2 q1
        · rw [if_pos (by simpa using hi)] at hR
          subst hR
          repeat k_extra "w"
          intro x P2 l2 hx
          repeat k_extra "w"
          refine WP.drop (mdel_last a (listOf ys.toArray m) (mM W os X)) ?_
          refine l_tell (n := n) (H'.le (by lia)) (iv.mono l2) (hn'.mono l2) (ws := [.int i]) (.tup hx (.cons (.int _ _) .nil)) (by lia) fun x P3 os3 l3 hx3 iv3 => ?_
          repeat k_extra "w"
          exact h _ P3 os3 (l2.trans l3) hx3 iv3
      · rw [if_pos (by simpa using hs1)] at hR
        subst hR
        repeat k_extra "w"
        intro x P2 l2 hx
        repeat k_extra "w"
        refine WP.drop (mdel_last a (listOf ys.toArray m) (mM W os X)) ?_
        refine l_tell (n := n) (H'.le (by lia)) (iv.mono l2) (hn'.mono l2) (ws := []) (.tup hx .nil) (by lia) fun x P3 os3 l3 hx3 iv3 => ?_
        repeat k_extra "w"
        exact h _ P3 os3 (l2.trans l3) hx3 iv3
  | cons v vs ih =>
    intro ts acc ys m P σ os eo ko l0 iv hts hys hlen r hR hl h
    cases hts with
    | cons ht hts =>
    rename_i t ts
    refine TurnsL.cons fun o => ?_
    have hlr : (rd cfg d t kk σ.A).2.1.length + (conv cfg (rd cfg d t kk σ.A).1 kk (100 + t.nid)).2.length ≤ r.2.1.length := hR ▸ finI_len
    simp only [finI] at hR
    repeat k_extra "w"
    refine hE F _ (n + 1) _ P σ os (X ++ [(a, listOf ys.toArray m)] ++ [(I, o)]) v t kk te _ (H'.le (by lia)) iv ht hk ?_ fun x P1 os1 l1 hx hxk iv1 => ?_
    · lia
    rcases hr : rd cfg d t kk σ.A with ⟨e, f, A1⟩
    rw [hr] at hR hlr hx hxk iv1
    dsimp only at hR hlr hx hxk iv1
    repeat k_extra "w"
    obtain ⟨ckind, cav, cks, hcn⟩ := ht.nd
    have hf1 : (σ.fl ++ f).length ≤ 900 := by
      rw [List.length_append]
      lia
    refine l_turn (n := n) (H'.le (by lia)) iv1 hx hxk g100 (hcn.mono l1) hf1 fun x2 P2 os2 l2 hx2 iv2 => ?_
    rcases hc : conv cfg e kk (100 + t.nid) with ⟨e2, f2⟩
    rw [hc] at hR hx2 iv2
    dsimp only at hR hx2 iv2
    have iv2' : Inv c W cfg P2 { σ with A := A1, fl := σ.fl ++ (f ++ f2) } os2 := by rw [← List.append_assoc]; exact iv2
    obtain ⟨xa, xs1, xs2, xvr, rfl, hxP, hxr⟩ := Xv.inv hx2
    by_cases hb : e2.k = 15
    · rw [if_pos hb] at hR
      subst hR
      k_extra "w"
      k_extra "w"
      refine WP.drop (show Mdel a (listOf ys.toArray m) ((mM W os2 X ++ [(a, listOf ys.toArray m)]) ++ [(I, o)]) (mM W os2 X ++ [(I, o)]) from .pa (mdel_last _ _ _)) ?_
      repeat k_extra "w"
      refine TurnEnd.rt (M := mM W os2 X) ?_
      repeat k_extra "w"
      exact h _ P2 os2 (l1.trans l2) hx2 iv2'
    · rw [if_neg hb] at hR
      generalize hR' : finI cfg (rd cfg d) kk kd (100 + nid) sz ts (acc ++ [e2]) A1 = r' at hR
      subst hR
      rw [List.length_cons] at hlen
      have hys3 : ys.length ≤ 3 := by lia
      repeat k_extra "w"
      have ey : ys.toArray.push (Value.ref xa) = (ys ++ [Value.ref xa]).toArray := by simp
      refine TurnEnd.nx (M := mM W os2 (X ++ [(a, listOf (ys.toArray.push (.ref xa)) (m + 1))])) (l1.trans l2) ?_
      rw [ey]
      replace hl : σ.fl.length + (f ++ f2 ++ r'.2.1).length ≤ 800 := hl
      have l12 := l1.trans l2
      refine ih ts (acc ++ [e2]) (ys ++ [.ref xa]) (m + 1) P2 { σ with A := A1, fl := σ.fl ++ f ++ f2 } os2 (some (.ref xa)) (some v) (l0.trans l12) iv2 (hts.mono l12) (by rw [List.map_append]; exact Dts.app (.cons hx2 .nil) (hys.mono l12)) (by rw [List.length_append]; simp; lia) r' hR' ?_ ?_
      · show (σ.fl ++ f ++ f2).length + _ ≤ 800
        rw [List.length_append, List.length_append] at hl ⊢
        lia
      · intro x P' os'' l hx iv3
        refine h x P' os'' (l12.trans l) hx ?_
        rw [← List.append_assoc, ← List.append_assoc]
        exact iv3
  ))) only [↓quiet]
end
end
section
variable {c : Cx} {F : Frm c} {D : FnD} {n : Nat} {fr₀ : List (Str × Option Value)} {P₀ : Pset} {M₀ : List (Addr × Obj)}
section
variable {W : WL} {cfg : Cfg} {σ : Sig} {os : Os} {X : List (Addr × Obj)} {v : Value} {nid : Int}
theorem l_made_tail {d : Nat} (hE : ReadC c W cfg d) (H' : Ok F R_law_made.d (n + 23 + 20 * d)) (iv : Inv c W cfg P₀ σ os) {w : Str} (h0 : named w ≠ 0) {sv iv_ av x0 x1 : Value} {sz : Option Ex} (hsv : SzV P₀ sv sz) {items : Option (List Tr)} {tk : Tok}
    (hn : Nd P₀ v 16 av [x0, x1, iv_] nid) (hit : ItIs P₀ σ.rk d iv_ items) {gr : List (Str × Option Value)} {Q : Value → St → Prop}
    (hbad : (named w = 15 ∨ (sz.any fun e => decide (e.k = 15)) = true) → ∀ x P' os', Le P₀ P' → Xv P' x badE → Inv c W cfg P' σ os' → Q x ⟨gr, P', mM W os' X⟩)
    (hnone : ¬ (named w = 15 ∨ (sz.any fun e => decide (e.k = 15)) = true) → items = none → ∀ x P' os', Le P₀ P' → Xv P' x ⟨10, (putA σ.A (named w)).1, [szData sz]⟩ → Inv c W cfg P' { σ with A := (putA σ.A (named w)).2 } os' → Q x ⟨gr, P', mM W os' X⟩)
    (hsome : ¬ (named w = 15 ∨ (sz.any fun e => decide (e.k = 15)) = true) → ∀ ts, items = some ts → σ.fl.length + (finI cfg (rd cfg d) (named w) (putA σ.A (named w)).1 (100 + nid) sz ts [] (putA σ.A (named w)).2).2.1.length ≤ 800 ∧ ∀ x P' os', Le P₀ P' → Xv P' x (finI cfg (rd cfg d) (named w) (putA σ.A (named w)).1 (100 + nid) sz ts [] (putA σ.A (named w)).2).1 → Inv c W cfg P' { σ with A := (finI cfg (rd cfg d) (named w) (putA σ.A (named w)).1 (100 + nid) sz ts [] (putA σ.A (named w)).2).2.2, fl := σ.fl ++ (finI cfg (rd cfg d) (named w) (putA σ.A (named w)).1 (100 + nid) sz ts [] (putA σ.A (named w)).2).2.1 } os' → Q x ⟨gr, P', mM W os' X⟩) :
    WP F (execs (R_law_made.body.drop 3) F.env) ⟨[(S "w", some (.ref W.w)), (S "node", some v), (S "e", none), (S "items", none), (S "k", some (.int (named w) tk)), (S "kid", none), (S "kind", none), (S "size", some sv)], P₀, mM W os X⟩ (Ret gr Q) := by
  refine ofQ ?_; simp (disch := (k_dflt (
  refine hold ?_
  have k := iv.ks.kf
  obtain ⟨y, kl, t1, t2, t3, t4, m, rfl, hI, hkl, hk3⟩ := id hn
  obtain ⟨kvs, hwd, hF, _⟩ := id iv.w
  have w1 := hF.kt
  obtain ⟨hKI, -⟩ := iv.fx.kti
  refine wCons ?_
  by_cases h15 : named w = 15
  · repeat k_extra "w"
    intro x P1 l1 hx
    repeat k_extra "w"
    exact hbad (.inl h15) _ P1 os l1 (.tup hx (.cons (.int _ _) (.cons (.int _ _) (.cons (.int _ _) .nil)))) (iv.mono l1)
  have hg : named w ∈ goodK := ((named_cases w).resolve_left h0).resolve_left h15
  cases hsv with
  | none =>
    have hb : ¬ (named w = 15 ∨ ((none : Option Ex).any fun e => decide (e.k = 15)) = true) := by simp [h15]
    repeat k_extra "w"
    intro x P0 l0 hx
    repeat k_extra "w"
    refine c_putA (n := n) iv.ks (H'.le (by lia)) (iv.fx.kti.mono l0) (iv.kt.mono l0) hg (v := .ref x) (.tup hx (.cons (.int _ _) (.cons (.int _ _) .nil))) fun P1' o1' o2' o3' o4' o5' tq l1' hkt => ?_
    have l1 := l0.trans l1'
    have iv2 : Inv c W cfg P1' { σ with A := (putA σ.A (named w)).2 } ⟨o1', o2', o3', o4', o5', os.w, os.rw, os.du, os.dg, os.cx⟩ := ⟨iv.ks, iv.fx.mono l1, hkt, iv.w, iv.rw, (iv.mono l1).du, (iv.mono l1).dg, iv.cx⟩
    have hn2 := hn.mono l1
    have hit2 := hit.mono l1
    cases hit2 with
    | none =>
      repeat k_extra "w"
      intro x P2 l2 hx
      repeat k_extra "w"
      exact hnone hb rfl _ P2 _ (l1.trans l2) (.tup hx (.cons (.int _ _) (.cons (.int _ _) (.cons .none .nil)))) (iv2.mono l2)
    | some hni hts =>
      obtain ⟨hl, hQ⟩ := hsome hb _ rfl
      obtain ⟨yi, kli, ti1, ti2, ti3, ti4, mi, rfl, hIi, hkli, hki3⟩ := id hni
      repeat (first | ((guard_target = WP _ (execs _ _) _ _); exact l_items (n := n) hE (H'.le (by lia)) iv2 hg .none hn2 hni hts hl fun x P2 os2 l2 hx iv3 => hQ x P2 os2 (l1.trans l2) hx iv3) | k_extra "w")
  | some he hz =>
    rename_i e
    obtain ⟨sa, s1, s2, vr, rfl, hP, hr⟩ := Xv.inv he
    by_cases hb15 : e.k = 15
    · repeat k_extra "w"
      intro x P1 l1 hx
      repeat k_extra "w"
      exact hbad (.inr (by simp [hb15])) _ P1 os l1 (.tup hx (.cons (.int _ _) (.cons (.int _ _) (.cons (.int _ _) .nil)))) (iv.mono l1)
    have hb : ¬ (named w = 15 ∨ ((some e : Option Ex).any fun e => decide (e.k = 15)) = true) := by simp [h15, hb15]
    repeat k_extra "w"
    intro x P0 l0 hx
    repeat k_extra "w"
    refine c_putA (n := n) iv.ks (H'.le (by lia)) (iv.fx.kti.mono l0) (iv.kt.mono l0) hg (v := .ref x) (.tup hx (.cons (.int _ _) (.cons (.int _ _) .nil))) fun P1' o1' o2' o3' o4' o5' tq l1' hkt => ?_
    have l1 := l0.trans l1'
    have iv2 : Inv c W cfg P1' { σ with A := (putA σ.A (named w)).2 } ⟨o1', o2', o3', o4', o5', os.w, os.rw, os.du, os.dg, os.cx⟩ := ⟨iv.ks, iv.fx.mono l1, hkt, iv.w, iv.rw, (iv.mono l1).du, (iv.mono l1).dg, iv.cx⟩
    have hn2 := hn.mono l1
    have hit2 := hit.mono l1
    cases hit2 with
    | none =>
      repeat k_extra "w"
      intro x P2 l2 hx
      repeat k_extra "w"
      exact hnone hb rfl _ P2 _ (l1.trans l2) (.tup hx (.cons (.int _ _) (.cons (.int _ _) (.cons (he.mono (l1.trans l2)) .nil)))) (iv2.mono l2)
    | some hni hts =>
      obtain ⟨hl, hQ⟩ := hsome hb _ rfl
      obtain ⟨yi, kli, ti1, ti2, ti3, ti4, mi, rfl, hIi, hkli, hki3⟩ := id hni
      repeat (first | ((guard_target = WP _ (execs _ _) _ _); exact l_items (n := n) hE (H'.le (by lia)) iv2 hg (.some (he.mono l1) fun q => hz q hb15) hn2 hni hts hl fun x P2 os2 l2 hx iv3 => hQ x P2 os2 (l1.trans l2) hx iv3) | k_extra "w")
  ))) only [↓quiet]
theorem l_made {d : Nat} (hE : ReadC c W cfg d) (H : Ok F D (n + 24 + 20 * d)) (iv : Inv c W cfg P₀ σ os) {w : Str} {size : Option (Int × Leaf)} {items : Option (List Tr)} (ht : TrIs P₀ σ.rk (d + 1) v (.arr nid w size items))
    (hl : σ.fl.length + (rdArr cfg (rd cfg d) nid w size items σ.A).2.1.length ≤ 800)
    {Q : Value → St → Prop} (h : ∀ x P' os', Le P₀ P' → Xv P' x (rdArr cfg (rd cfg d) nid w size items σ.A).1 → (rdArr cfg (rd cfg d) nid w size items σ.A).1.k.natAbs ≤ 100 → Inv c W cfg P' { σ with A := (rdArr cfg (rd cfg d) nid w size items σ.A).2.2, fl := σ.fl ++ (rdArr cfg (rd cfg d) nid w size items σ.A).2.1 } os' → Q x ⟨fr₀, P', mM W os' X⟩) :
    WP F (call (.ref 1073) [.ref W.w, v]) ⟨fr₀, P₀, mM W os X⟩ Q := by
  refine ofQ ?_; simp (disch := (k_dflt (
  refine hold ?_
  have k := iv.ks.kf
  rcases ht.inv with ⟨_, _, e, _⟩ | ⟨d', nid', w', size', items', av, tn, wv, sv, iv_, tnid, e1, e2, hn, htn, hwv, hsv, hit⟩
  · cases e
  cases e1
  cases e2
  obtain ⟨tw, rfl⟩ := hwv.str_inv
  obtain ⟨y, kl, t1, t2, t3, t4, m, rfl, hI, hkl, hk3⟩ := id hn
  obtain ⟨ty, tkl, u1, u2, u3, u4, tm, rfl, tI, tkl', tk3⟩ := id htn
  obtain ⟨kvs, hwd, hF, _⟩ := id iv.w
  have w1 := hF.named
  obtain ⟨on, nkv, hon, hdn, hnm⟩ := named_get iv.fx w
  have H1 : Ok F D (n + 23 + 20 * d + 1) := H.le (by lia)
  have hA0 := iv.kt.1.len
  have hfl : (sizeOf cfg size).2.length ≤ 3 ∧ (named w ≠ 0 → σ.fl.length + (sizeOf cfg size).2.length ≤ 800) := by
    have h1 : (sizeOf cfg size).2.length ≤ 3 := by
      cases hsv with
      | none => exact Nat.zero_le _
      | some hf hnd => exact rdSize_len (leaf_ok (cfg := cfg) hf hnd).1
    refine ⟨h1, fun h0 => ?_⟩
    by_cases hb : named w = 15 ∨ ((sizeOf cfg size).1.any fun e => decide (e.k = 15)) = true
    · rw [rdArr_bad h0 hb] at hl; exact hl
    · cases items with
      | none => rw [rdArr_none h0 hb] at hl; exact hl
      | some ts =>
        rw [rdArr_some h0 hb] at hl
        dsimp only at hl
        rw [List.length_append] at hl
        lia
  refine wDef H1 (fn_law_made k) rfl fun F' H' => ?_
  k_extra "in"
  repeat k_extra "w"
  refine mGet (.p hon) (exactOf hdn) ?_
  repeat k_extra "w"
  refine cGet2 (.p hon) hdn iv.fx.ndl (isS _ _ _) ?_
  obtain ⟨tk, er⟩ := hnm 307
  rw [er]
  repeat k_extra "w"
  by_cases h0 : named w = 0
  · rw [rdArr_0 h0] at h
    repeat k_extra "w"
    intro x P1 l1 hx
    repeat k_extra "w"
    refine l_tell (n := n) (H'.le (by lia)) (iv.mono l1) (hn.mono l1) (ws := []) (.tup hx .nil) (by lia) fun x2 P2 os2 l2 hx2 iv2 => ?_
    repeat k_extra "w"
    exact h x2 P2 os2 (l1.trans l2) hx2 (show badE.k.natAbs ≤ 100 by decide) iv2
  have hfl2 := hfl.2 h0
  have kb : ∀ ts, (finI cfg (rd cfg d) (named w) (putA σ.A (named w)).1 (100 + nid) (sizeOf cfg size).1 ts [] (putA σ.A (named w)).2).1.k.natAbs ≤ 100 := fun ts => by
    have hp := putA_small hA0 (named w)
    rcases finI_k cfg (rd cfg d) (named w) (putA σ.A (named w)).1 (100 + nid) (sizeOf cfg size).1 ts [] (putA σ.A (named w)).2 with e | e
    · rw [e]; decide
    · rw [e]; exact hp
  have fin : ∀ (F' : Frm c) (P1 : Pset) (os1 : Os) (sv' : Value), Ok F' R_law_made.d (n + 23 + 20 * d) → Le P₀ P1 → SzV P1 sv' (sizeOf cfg size).1 → Inv c W cfg P1 { σ with fl := σ.fl ++ (sizeOf cfg size).2 } os1 →
      WP F' (execs (R_law_made.body.drop 3) F'.env) ⟨[(S "w", some (.ref W.w)), (S "node", some (.ref y)), (S "e", none), (S "items", none), (S "k", some (.int (named w) tk)), (S "kid", none), (S "kind", none), (S "size", some sv')], P1, mM W os1 X⟩ (Ret fr₀ Q) := fun F' P1 os1 sv' H' l1 hs iv1 => by
    refine l_made_tail hE H' iv1 h0 hs (hn.mono l1) (hit.mono l1) ?_ ?_ ?_
    · intro hb x P' os' l hx iv2
      rw [rdArr_bad h0 hb] at h
      exact h x P' os' (l1.trans l) hx (show badE.k.natAbs ≤ 100 by decide) iv2
    · rintro hb rfl x P' os' l hx iv2
      rw [rdArr_none h0 hb] at h
      exact h x P' os' (l1.trans l) hx (putA_small hA0 _) iv2
    · rintro hb ts rfl
      rw [rdArr_some h0 hb] at h hl
      dsimp only at h hl
      refine ⟨?_, fun x P' os' l hx iv2 => h x P' os' (l1.trans l) hx (kb ts) (by rw [← List.append_assoc]; exact iv2)⟩
      show (σ.fl ++ (sizeOf cfg size).2).length + (finI cfg (rd cfg d) (named w) (putA σ.A (named w)).1 (100 + nid) (sizeOf cfg size).1 ts [] (putA σ.A (named w)).2).2.1.length ≤ 800
      rw [List.length_append] at hl ⊢
      lia
  clear h hl kb
  cases hsv with
  | none =>
    repeat (first | ((guard_target = WP _ (execs _ _) _ _); exact fin F' P₀ os .none H' Le.rfl .none (same_fl iv)) | k_extra "w")
  | some hf hnd =>
    rename_i snid f
    obtain ⟨hz, hbk⟩ := leaf_ok (cfg := cfg) hf hnd (at_ := 100 + snid) (k := -1)
    obtain ⟨skind, sav, hsn⟩ : ∃ kind av, Nd P₀ sv kind av [] snid := by cases hf <;> exact ⟨_, _, by assumption⟩
    obtain ⟨sy, skl, s1, s2, s3, s4, sm, rfl, sI, shkl, shk3⟩ := id hsn
    repeat k_extra "w"
    refine l_size (n := n) (H'.le (by lia)) iv (by lia) hf hnd fun x P1 os2 l1 hx iv2 => ?_
    repeat (first | ((guard_target = WP _ (execs _ _) _ _); exact fin F' P1 os2 x H' l1 (.some hx fun q1 q2 => rdSize_fin hz q1 q2) iv2) | k_extra "w")
  ))) only [↓quiet]
end
theorem readC_step (W : WL) (cfg : Cfg) (d : Nat) (ih : ∀ d', d = d' + 1 → ReadC c W cfg d') : ReadC c W cfg d := by
  refine ofQ ?_; simp (disch := (k_dflt (
  refine hold ?_
  intro F D n fr₀ P₀ σ os X v t want tw Q H iv ht hw hl h
  obtain ⟨g15, g100, g0, g00⟩ := goodK_small hw
  rcases ht.inv with ⟨nid, f, rfl, hf⟩ | ⟨d', nid, w, size, items, av, tn, wv, sv, iv_, tnid, rfl, rfl, hn, htn, hwv, hsv, hit⟩
  · rw [rd_leaf] at h hl
    exact l_read_leaf (n := n) (H.le (by lia)) iv (by dsimp only at hl; lia) hf (fun _ => hw) fun x P' os' l hx iv' => h x P' os' l hx (leaf_k hf g100) iv'
  · have k := iv.ks.kf
    obtain ⟨y, kl, t1, t2, t3, t4, m, rfl, hI, hkl, hk3⟩ := id hn
    have H1 : Ok F D (n + 31 + 20 * d' + 1) := H.le (by lia)
    refine wDef H1 (fn_law_read k) rfl fun F' H' => ?_
    k_extra "in"
    repeat k_extra "w"
    refine l_made (n := n) (ih d' rfl) (H'.le (by lia)) iv (.arr hn htn hwv hsv hit) hl fun x P' os' l hx hk iv2 => ?_
    repeat k_extra "w"
    exact h x P' os' l hx hk iv2
  ))) only [↓quiet]
theorem readC (W : WL) (cfg : Cfg) : ∀ d, ReadC c W cfg d
  | 0 => readC_step W cfg 0 fun _ e => nomatch e
  | d + 1 => readC_step W cfg (d + 1) fun d' e => by cases e; exact readC W cfg d
end
section
variable {c : Cx} {F : Frm c} {D : FnD} {n : Nat} {fr₀ : List (Str × Option Value)} {P₀ : Pset} {M₀ : List (Addr × Obj)}
theorem Mp.mem2 {d : Addr} {M' : Obj → List (Addr × Obj)} (U : ∀ o o', Mp d o o' (M' o) (M' o')) (o : Obj) : Mem d o (M' o) := by
  obtain ⟨pre, post, e, _⟩ := (U o o).split
  rw [e]; exact .ap .hd
structure Draw (kvs : List (Str × Value)) (li : Addr) : Prop where
  inl : valueAt kvs (S "in") = some (.ref li)
  at_ : ∃ a t, valueAt kvs (S "at") = some (.int a t) ∧ 0 ≤ a
  left : ∃ a t, valueAt kvs (S "left") = some (.int a t)
theorem mem_of_valueAt {K : Type} [DecidableEq K] {k : K} {v : Value} : ∀ {kvs : List (K × Value)}, valueAt kvs k = some v → k ∈ kvs.map (·.1)
  | p :: l, h => by
    rw [valueAt_cons] at h
    by_cases e : p.1 = k
    · rw [List.map_cons, e]; exact .head _
    · rw [if_neg e] at h; exact .tail _ (mem_of_valueAt h)
theorem stored_len {K : Type} [DecidableEq K] {k : K} {u v : Value} {kvs : List (K × Value)} (h : valueAt kvs k = some u) : (stored kvs k v).length = kvs.length := by
  have := congrArg List.length (stored_keys (v := v) (mem_of_valueAt h))
  simpa using this
theorem Draw.putAt {kvs : List (Str × Value)} {li : Addr} (h : Draw kvs li) {a : Int} {t : Tok} (ha : 0 ≤ a) : Draw (stored kvs (S "at") (.int a t)) li := by
  obtain ⟨l, tl, hl⟩ := h.left
  exact ⟨valueAt_new h.inl (by decide), ⟨a, t, by rw [valueAt_stored, if_pos rfl], ha⟩, ⟨l, tl, valueAt_new hl (by decide)⟩⟩
theorem Draw.putLeft {kvs : List (Str × Value)} {li : Addr} (h : Draw kvs li) {a : Int} {t : Tok} : Draw (stored kvs (S "left") (.int a t)) li := by
  obtain ⟨l, tl, hl, h0⟩ := h.at_
  exact ⟨valueAt_new h.inl (by decide), ⟨l, tl, valueAt_new hl (by decide), h0⟩, ⟨a, t, by rw [valueAt_stored, if_pos rfl]⟩⟩
theorem l_take (k : KF c.K) (H : Ok F D (n + 1)) {wd li : Addr} {ow : Obj} {kvs : List (Str × Value)} {M' : Obj → List (Addr × Obj)} (U : ∀ o o', Mp wd o o' (M' o) (M' o')) (hd : ow.IsDictOf (PySem.strKind P0 c.w) kvs) (hD : Draw kvs li) (hk : kvs.length ≤ 30)
    {vs : List Value} {m : Nat} (hli : P₀ li (listOf vs.toArray m)) (hvs : ∀ v ∈ vs, ∃ i t, v = .int i t) (hvl : vs.length ≤ 63) {b : Int} {tb : Tok} (hb : 0 < b) (hb' : b < 100)
    {Q : Value → St → Prop} (h : ∀ g t o' kvs', 0 ≤ g → g < b → o'.IsDictOf (PySem.strKind P0 c.w) kvs' → Draw kvs' li → kvs'.length = kvs.length → (∀ x v, x ≠ S "at" → x ≠ S "left" → valueAt kvs x = some v → valueAt kvs' x = some v) → Q (.int g t) ⟨fr₀, P₀, M' o'⟩) :
    WP F (call (.ref 991) [.ref wd, .int b tb]) ⟨fr₀, P₀, M' ow⟩ Q := by
  refine ofQ ?_; simp (disch := (k_dflt (
  refine hold ?_
  have hm := fun o => Mp.mem2 U o
  refine wDef H (fn_law_take k) rfl fun F' H' => ?_
  have tail : ∀ (ow : Obj) (kvs : List (Str × Value)) (fr : List (Str × Option Value)), ow.IsDictOf (PySem.strKind P0 c.w) kvs → Draw kvs li → kvs.length ≤ 30 → (∀ g t o' kvs', 0 ≤ g → g < b → o'.IsDictOf (PySem.strKind P0 c.w) kvs' → Draw kvs' li → kvs'.length = kvs.length → (∀ x v, x ≠ S "at" → x ≠ S "left" → valueAt kvs x = some v → valueAt kvs' x = some v) → Q (.int g t) ⟨fr₀, P₀, M' o'⟩) →
      WP F' (execs (R_law_take.body.drop 1) F'.env) ⟨[(S "w", some (.ref wd)), (S "n", some (.int b tb)), (S "gave", none)], P₀, M' ow⟩ (Ret fr₀ Q) := by
    intro ow kvs fr hd hD hk h
    obtain ⟨l, tl, hl⟩ := hD.left
    refine wCons ?_
    repeat k_extra "w"
    refine wItemS (hm _) hd hl ?_ (hs := ?hs)
    case hs => with_unfolding_all rfl
    repeat k_extra "w"
    refine oMod hb fun _ => ?_
    repeat k_extra "w"
    refine wItemS (hm _) hd hl ?_ (hs := ?hs)
    case hs => with_unfolding_all rfl
    repeat k_extra "w"
    refine oDiv hb hb' fun _ => ?_
    repeat k_extra "w"
    refine sItem (U _) hd (isS _ _ _) (fun o' ho' => ?_) (by rw [sizeLine_eq]; lia)
    repeat k_extra "w"
    exact h _ _ _ _ (Int.emod_nonneg _ (by lia)) (Int.emod_lt_of_pos _ hb) ho' hD.putLeft (stored_len hl) fun x v h1 h2 hv => valueAt_new hv h2
  obtain ⟨l, tl, hl⟩ := hD.left
  obtain ⟨a, ta, ha, ha0⟩ := hD.at_
  k_extra "in"
  repeat k_extra "w"
  refine wItemS (hm _) hd hl ?_ (hs := ?hs)
  case hs => with_unfolding_all rfl
  repeat k_extra "w"
  by_cases h0 : l = 0
  · repeat k_extra "w"
    refine gItem (.m (hm _)) hd (isS _ _ _) ha ?_
    repeat k_extra "w"
    refine sItem (U _) hd (isS _ _ _) (fun o1 ho0 => ?_) (by rw [sizeLine_eq]; lia)
    obtain ⟨tq, ho1⟩ : ∃ tq, o1.IsDictOf (PySem.strKind P0 c.w) (stored kvs (S "at") (.int (a + 1) tq)) := ⟨_, ho0⟩
    clear ho0
    have hD1 := hD.putAt (a := a + 1) (t := tq) (by lia)
    have hk1 : (stored kvs (S "at") (.int (a + 1) tq)).length ≤ 30 := by rw [stored_len ha]; exact hk
    have hk1e : (stored kvs (S "at") (.int (a + 1) tq)).length = kvs.length := stored_len ha
    have ha1 : valueAt (stored kvs (S "at") (.int (a + 1) tq)) (S "at") = some (.int (a + 1) tq) := by rw [valueAt_stored, if_pos rfl]
    have hx1 : ∀ x v, x ≠ S "at" → valueAt kvs x = some v → valueAt (stored kvs (S "at") (.int (a + 1) tq)) x = some v := fun x v x1 hv => valueAt_new hv x1
    generalize stored kvs (S "at") (.int (a + 1) tq) = kvs1 at *
    have fin : ∀ (i : Int) (t : Tok) (o2 : Obj), o2.IsDictOf (PySem.strKind P0 c.w) (stored kvs1 (S "left") (.int i t)) → WP F' (execs (R_law_take.body.drop 1) F'.env) ⟨[(S "w", some (.ref wd)), (S "n", some (.int b tb)), (S "gave", none)], P₀, M' o2⟩ (Ret fr₀ Q) := fun i t o2 ho2 =>
      tail o2 _ [] ho2 hD1.putLeft (by obtain ⟨_, _, hl1⟩ := hD1.left; rw [stored_len hl1]; exact hk1) fun g t o' kvs' g0 g1 ho' hD' hk' hsame => h g t o' kvs' g0 g1 ho' hD' (by obtain ⟨_, _, hl1⟩ := hD1.left; rw [hk', stored_len hl1, hk1e]) fun x v x1 x2 hv => hsame x v x1 x2 (valueAt_new (hx1 x v x1 hv) x2)
    repeat k_extra "w"
    refine wItemS (hm _) ho1 ha1 ?_ (hs := ?hs)
    case hs => with_unfolding_all rfl
    repeat k_extra "w"
    refine wItemS (hm _) ho1 hD1.inl ?_ (hs := ?hs)
    case hs => with_unfolding_all rfl
    repeat k_extra "w"
    by_cases hle : a + 1 ≤ vs.length
    · have hle' : a + 1 ≤ (vs.toArray.size : Int) := by simpa using hle
      repeat k_extra "w"
      refine wItemS (hm _) ho1 hD1.inl ?_ (hs := ?hs)
      case hs => with_unfolding_all rfl
      repeat k_extra "w"
      refine wItemS (hm _) ho1 ha1 ?_ (hs := ?hs)
      case hs => with_unfolding_all rfl
      repeat k_extra "w"
      obtain ⟨j, rfl⟩ := Int.eq_ofNat_of_zero_le ha0
      have ej : ((j : Int) + 1 - 1) = (j : Int) := by lia
      rw [ej]
      have hj : j < vs.length := by lia
      obtain ⟨i, ti, hvi⟩ := hvs vs[j] (List.getElem_mem hj)
      have hget : vs[j]? = some (.int i ti) := by rw [List.getElem?_eq_getElem hj, hvi]
      refine wItemListP (k := j) hli hget ?_ (by lia) (hs := ?hs)
      case hs => with_unfolding_all rfl
      repeat k_extra "w"
      refine sItem (U _) ho1 (isS _ _ _) (fun o2 ho2 => ?_) (by rw [sizeLine_eq]; lia)
      repeat (first | ((guard_target = WP _ (execs _ _) _ _); exact fin _ _ o2 ho2) | k_extra "w")
    · have hle' : ¬ a + 1 ≤ (vs.toArray.size : Int) := by simpa using hle
      repeat k_extra "w"
      refine wItemS (hm _) ho1 ha1 ?_ (hs := ?hs)
      case hs => with_unfolding_all rfl
      repeat k_extra "w"
      refine sItem (U _) ho1 (isS _ _ _) (fun o2 ho2 => ?_) (by rw [sizeLine_eq]; lia)
      repeat (first | ((guard_target = WP _ (execs _ _) _ _); exact fin _ _ o2 ho2) | k_extra "w")
  · repeat (first | ((guard_target = WP _ (execs _ _) _ _); exact tail ow kvs [] hd hD hk h) | k_extra "w")
  ))) only [↓quiet]
end
section
variable {c : Cx} {F : Frm c} {D : FnD} {n : Nat} {fr₀ : List (Str × Option Value)} {P₀ : Pset} {M₀ : List (Addr × Obj)}
structure Grow (σ σ' : Sig) (r : Nat) : Prop where
  a : σ'.A = σ.A
  fc : σ'.fc = σ.fc
  fl : σ'.fl = σ.fl
  dp : σ'.deep = σ.deep
  rk : RkLe σ.rk σ'.rk
  len : σ'.rk.length ≤ σ.rk.length + r
theorem Grow.rfl {σ : Sig} : Grow σ σ 0 := ⟨Eq.refl _, Eq.refl _, Eq.refl _, Eq.refl _, RkLe.rfl, Nat.le_refl _⟩
theorem Grow.trans {σ σ' σ'' : Sig} {r r' : Nat} (h : Grow σ σ' r) (k : Grow σ' σ'' r') : Grow σ σ'' (r + r') := ⟨k.a.trans h.a, k.fc.trans h.fc, k.fl.trans h.fl, k.dp.trans h.dp, h.rk.trans k.rk, by have := h.len; have := k.len; lia⟩
theorem Grow.up {σ σ' : Sig} {r r' : Nat} (h : Grow σ σ' r) (l : r ≤ r') : Grow σ σ' r' := ⟨h.a, h.fc, h.fl, h.dp, h.rk, Nat.le_trans h.len (by lia)⟩
structure BInv (c : Cx) (W : WL) (cfg : Cfg) (P : Pset) (σ : Sig) (os : Os) : Prop where
  iv : Inv c W cfg P σ os
  at0 : 0 ≤ σ.at_
  n0 : 0 ≤ σ.nodes
  fresh : ∀ k, σ.nodes < k → valueAt σ.rk k = none
theorem BInv.mono {W : WL} {cfg : Cfg} {P P' : Pset} {σ : Sig} {os : Os} (l : Le P P') (h : BInv c W cfg P σ os) : BInv c W cfg P' σ os := ⟨h.iv.mono l, h.at0, h.n0, h.fresh⟩
section
variable {W : WL} {cfg : Cfg} {σ : Sig} {os : Os} {X : List (Addr × Obj)}
theorem WdF.of {a l nd : Int} {kvs kvs' : List (Str × Value)} (h : WdF W cfg a l nd kvs) (hs : ∀ x v, x ≠ S "at" → x ≠ S "left" → valueAt kvs x = some v → valueAt kvs' x = some v) {a' l' : Int} {t t' : Tok} (h1 : valueAt kvs' (S "at") = some (.int a' t)) (h2 : valueAt kvs' (S "left") = some (.int l' t')) : WdF W cfg a' l' nd kvs' := by
  refine ofQ ?_; simp (disch := (k_dflt (
  refine hold ?_
  obtain ⟨tn, hn⟩ := h.nodes
  obtain ⟨tp, hp⟩ := h.plain
  obtain ⟨te, he⟩ := h.enum
  obtain ⟨tc, hc⟩ := h.chk
  exact ⟨hs _ _ (by decide) (by decide) h.inl, ⟨_, h1⟩, ⟨_, h2⟩, hs _ _ (by decide) (by decide) h.kt, ⟨_, hs _ _ (by decide) (by decide) hn⟩, hs _ _ (by decide) (by decide) h.rows, hs _ _ (by decide) (by decide) h.due, hs _ _ (by decide) (by decide) h.named, hs _ _ (by decide) (by decide) h.words, hs _ _ (by decide) (by decide) h.inner, ⟨_, hs _ _ (by decide) (by decide) hp⟩, ⟨_, hs _ _ (by decide) (by decide) he⟩, hs _ _ (by decide) (by decide) h.refs, hs _ _ (by decide) (by decide) h.goes, ⟨_, hs _ _ (by decide) (by decide) hc⟩⟩
  ))) only [↓quiet]
theorem WdF.putNodes {a l nd nd' : Int} {t : Tok} {kvs : List (Str × Value)} (h : WdF W cfg a l nd kvs) : WdF W cfg a l nd' (stored kvs (S "nodes") (.int nd' t)) := by
  refine ofQ ?_; simp (disch := (k_dflt (
  refine hold ?_
  obtain ⟨ta, ha⟩ := h.at_
  obtain ⟨tl, hl⟩ := h.left
  obtain ⟨tp, hp⟩ := h.plain
  obtain ⟨te, he⟩ := h.enum
  obtain ⟨tc, hc⟩ := h.chk
  exact ⟨valueAt_new h.inl (by decide), ⟨_, valueAt_new ha (by decide)⟩, ⟨_, valueAt_new hl (by decide)⟩, valueAt_new h.kt (by decide), ⟨t, by rw [valueAt_stored, if_pos rfl]⟩, valueAt_new h.rows (by decide), valueAt_new h.due (by decide), valueAt_new h.named (by decide), valueAt_new h.words (by decide), valueAt_new h.inner (by decide), ⟨_, valueAt_new hp (by decide)⟩, ⟨_, valueAt_new he (by decide)⟩, valueAt_new h.refs (by decide), valueAt_new h.goes (by decide), ⟨_, valueAt_new hc (by decide)⟩⟩
  ))) only [↓quiet]
theorem b_take (H : Ok F D (n + 1)) (iv : BInv c W cfg P₀ σ os) {b : Int} {tb : Tok} (hb : 0 < b) (hb' : b < 100)
    {Q : Value → St → Prop} (h : ∀ g t σ' os', 0 ≤ g → g < b → Grow σ σ' 0 → (σ'.nodes = σ.nodes ∧ σ'.rk = σ.rk) → BInv c W cfg P₀ σ' os' → Q (.int g t) ⟨fr₀, P₀, mM W os' X⟩) :
    WP F (call (.ref 991) [.ref W.w, .int b tb]) ⟨fr₀, P₀, mM W os X⟩ Q := by
  refine ofQ ?_; simp (disch := (k_dflt (
  refine hold ?_
  obtain ⟨o1, o2, o3, o4, o5, ow, orw, odu, odg, ocx⟩ := os
  obtain ⟨⟨ks, fx, kt, ⟨kvs, hw, hF, hk⟩, hrw, hdu, hdg, hcx⟩, at0, n0, fresh⟩ := iv
  obtain ⟨vs, m, hli, hvs, hvl⟩ := fx.li
  obtain ⟨ta, ha⟩ := hF.at_
  obtain ⟨tl, hl⟩ := hF.left
  refine l_take ks.kf H (M' := fun o => mM W ⟨o1, o2, o3, o4, o5, o, orw, odu, odg, ocx⟩ X) (fun o o' => ?_) hw ⟨hF.inl, ⟨_, _, ha, at0⟩, ⟨_, _, hl⟩⟩ hk hli hvs hvl hb hb' fun g t o' kvs' g0 g1 ho' hD' hk' hs => ?_
  · k_extra "mp"
  · obtain ⟨a', t1, e1, a0⟩ := hD'.at_
    obtain ⟨l', t2, e2⟩ := hD'.left
    exact h g t { σ with at_ := a', left := l' } ⟨o1, o2, o3, o4, o5, o', orw, odu, odg, ocx⟩ g0 g1 ⟨Eq.refl _, Eq.refl _, Eq.refl _, Eq.refl _, RkLe.rfl, Nat.le_refl _⟩ ⟨rfl, rfl⟩ ⟨⟨ks, fx, kt, ⟨kvs', ho', hF.of hs e1 e2, by rw [hk']; exact hk⟩, hrw, hdu, hdg, hcx⟩, a0, n0, fresh⟩
  ))) only [↓quiet]
theorem b_node (H : Ok F D (n + 2)) (iv : BInv c W cfg P₀ σ os) {kind : Int} {tk : Tok} {av : Value} {kl : Addr} {ks : List Value} {mk : Nat} (hkl : P₀ kl (listOf ks.toArray mk)) (hk3 : ks.length ≤ 3)
    {Q : Value → St → Prop} (h : ∀ v P' σ' os', Le P₀ P' → Grow σ σ' 0 → BInv c W cfg P' σ' os' → Nd P' v kind av ks σ'.nodes → valueAt σ'.rk σ'.nodes = none → Q v ⟨fr₀, P', mM W os' X⟩) :
    WP F (call (.ref 998) [.ref W.w, .int kind tk, av, .ref kl]) ⟨fr₀, P₀, mM W os X⟩ Q := by
  refine ofQ ?_; simp (disch := (k_dflt (
  refine hold ?_
  obtain ⟨o1, o2, o3, o4, o5, ow, orw, odu, odg, ocx⟩ := os
  obtain ⟨⟨ks', fx, kt, ⟨kvs, hw, hF, hk⟩, hrw, hdu, hdg, hcx⟩, at0, n0, fresh⟩ := id iv
  replace hw : ow.IsDictOf _ kvs := hw
  have k := ks'.kf
  obtain ⟨tn, hn⟩ := hF.nodes
  refine wDef H (fn_law_node k) rfl fun F' H' => ?_
  k_extra "in"
  repeat k_extra "w"
  refine gItem (.m ?m) hw (isS _ _ _) hn ?_
  case m => k_extra "mm"
  repeat k_extra "w"
  refine' sItem (fun o' => ?U) hw (isS _ _ _) (fun o' ho0 => ?_) (by rw [sizeLine_eq]; lia)
  case U => k_extra "mp"
  obtain ⟨tq, ho'⟩ : ∃ tq, o'.IsDictOf (PySem.strKind P0 c.w) (stored kvs (S "nodes") (.int (σ.nodes + 1) tq)) := ⟨_, ho0⟩
  clear ho0
  have hF' := hF.putNodes (nd' := σ.nodes + 1) (t := tq)
  have hk' : (stored kvs (S "nodes") (.int (σ.nodes + 1) tq)).length ≤ 30 := by rw [stored_len hn]; exact hk
  generalize stored kvs (S "nodes") (.int (σ.nodes + 1) tq) = kvs' at *
  obtain ⟨tn', hn'⟩ := hF'.nodes
  repeat k_extra "w"
  refine wMake H' k.i_Node.1 k.i_Node.2.1 k.i_Node.2.2 (fn_Node_init k) rfl fun x dx P1 l1 hx F2 H2 => ?_
  k_extra "in"
  repeat k_extra "w"
  refine ⟨rfl, ?_⟩
  repeat ((fail_if_success guard_target = WP _ (exec (Stmt.Return _ _) _) _ _); k_extra "w")
  refine WP.freeze H' (show Mdel dx _ (mM W ⟨o1, o2, o3, o4, o5, o', orw, odu, odg, ocx⟩ X ++ [(dx, _)]) _ from mdel_last _ _ _) fun P2 l2 hP2 => ?_
  repeat k_extra "w"
  have lt := l1.trans l2
  exact h _ P2 { σ with nodes := σ.nodes + 1 } ⟨o1, o2, o3, o4, o5, o', orw, odu, odg, ocx⟩ lt ⟨Eq.refl _, Eq.refl _, Eq.refl _, Eq.refl _, RkLe.rfl, Nat.le_refl _⟩ ⟨⟨ks', fx.mono lt, kt.mono lt, ⟨_, ho', hF', hk'⟩, hrw, (iv.iv.mono lt).du, (iv.iv.mono lt).dg, hcx⟩, at0, (show 0 ≤ σ.nodes + 1 by lia), fun q hq => fresh q (show σ.nodes < q by have : σ.nodes + 1 < q := hq; lia)⟩
    ⟨x, kl, _, _, _, _, mk, rfl, ⟨⟨dx, _, l2 _ _ hx, hP2, by assumption⟩⟩, lt _ _ hkl, hk3⟩ (fresh _ (show σ.nodes < σ.nodes + 1 by lia))
  ))) only [↓quiet]
end
end
section
variable {c : Cx} {F : Frm c} {D : FnD} {n : Nat} {fr₀ : List (Str × Option Value)} {P₀ : Pset} {M₀ : List (Addr × Obj)}
theorem pick_tup {P : Pset} {a : Addr} {vs : List Value} (_ : P a (tupO vs)) {g : Int} (h0 : 0 ≤ g) (h1 : g < vs.length) (hs : vs.length ≤ 100) {p : Value → Prop} (hp : ∀ v ∈ vs, p v) : ∃ (j : Nat) (v : Value), g = (j : Int) ∧ vs[j]? = some v ∧ p v ∧ j < 2 ^ 62 := by
  obtain ⟨j, rfl⟩ := Int.eq_ofNat_of_zero_le h0
  have hj : j < vs.length := by lia
  exact ⟨j, vs[j], rfl, List.getElem?_eq_getElem hj, hp _ (List.getElem_mem hj), by lia⟩
theorem all_nil {p : Value → Prop} : ∀ v ∈ ([] : List Value), p v := fun _ h => nomatch h
theorem all_cons {p : Value → Prop} {a : Value} {l : List Value} (h : p a) (k : ∀ v ∈ l, p v) : ∀ v ∈ a :: l, p v := fun v hv => by
  rcases List.mem_cons.mp hv with rfl | hv
  · exact h
  · exact k v hv
noncomputable def isW (v : Value) : Prop := ∃ x t, v = .str x t ∧ x ∈ [S "", S "u", S "l", S "ul"]
theorem words_ok {t1 t2 t3 t4 : Tok} : ∀ v ∈ [Value.str (Str.ofString "") t1, Value.str (Str.ofString "u") t2, Value.str (Str.ofString "l") t3, Value.str (Str.ofString "ul") t4], isW v :=
  all_cons ⟨_, _, rfl, by simp⟩ (all_cons ⟨_, _, rfl, by simp⟩ (all_cons ⟨_, _, rfl, by simp⟩ (all_cons ⟨_, _, rfl, by simp⟩ all_nil)))
theorem w_strOk {x : Str} (h : x ∈ [S "", S "u", S "l", S "ul"]) : PyData.strOk x = true := by
  simp only [List.mem_cons, List.not_mem_nil, or_false] at h
  rcases h with rfl | rfl | rfl | rfl <;> exact strOk_of _
section
variable {W : WL} {cfg : Cfg} {σ : Sig} {os : Os} {X : List (Addr × Obj)}
theorem b_number (H : Ok F D (n + 3)) (iv : BInv c W cfg P₀ σ os)
    {Q : Value → St → Prop} (h : ∀ v P' σ' os' i w, Le P₀ P' → Grow σ σ' 0 → BInv c W cfg P' σ' os' → LfIs P' σ'.rk v σ'.nodes (.int i w) → Q v ⟨fr₀, P', mM W os' X⟩) :
    WP F (call (.ref 1005) [.ref W.w]) ⟨fr₀, P₀, mM W os X⟩ Q := by
  refine ofQ ?_; simp (disch := (k_dflt (
  refine hold ?_
  have k := iv.iv.ks.kf
  refine wDef H (fn_law_number k) rfl fun F' H' => ?_
  k_extra "in"
  repeat k_extra "w"
  intro a1 P1 l1 h1
  repeat k_extra "w"
  refine b_take (n := n + 1) H' (iv.mono l1) (by decide) (by decide) fun g tg σ1 os1 g0 g1 gr1 _ iv1 => ?_
  repeat k_extra "w"
  obtain ⟨j, v, rfl, hv, ⟨n1, tn1, rfl, hn1⟩, hj⟩ := pick_tup h1 g0 g1 (by simp) (p := fun v => ∃ i t, v = Value.int i t ∧ 0 ≤ i) (all_cons ⟨_, _, rfl, by decide⟩ (all_cons ⟨_, _, rfl, by decide⟩ (all_cons ⟨_, _, rfl, by decide⟩ (all_cons ⟨_, _, rfl, by decide⟩ (all_cons ⟨_, _, rfl, by decide⟩ all_nil)))))
  refine wItemTup h1 hv ?_ hj (hs := ?hs)
  case hs => with_unfolding_all rfl
  repeat k_extra "w"
  intro a2 P2 l2 h2
  repeat k_extra "w"
  refine b_take (n := n + 1) H' (iv1.mono l2) (by decide) (by decide) fun g tg σ2 os2 g0 g1 gr2 _ iv2 => ?_
  repeat k_extra "w"
  obtain ⟨j2, v2, rfl, hv2, ⟨n2, tn2, rfl, hn2⟩, hj2⟩ := pick_tup h2 g0 g1 (by simp) (p := fun v => ∃ i t, v = Value.int i t ∧ -1 ≤ i) (all_cons ⟨_, _, rfl, by decide⟩ (all_cons ⟨_, _, rfl, by decide⟩ (all_cons ⟨_, _, rfl, by decide⟩ (all_cons ⟨_, _, rfl, by decide⟩ all_nil))))
  refine wItemTup h2 hv2 ?_ hj2 (hs := ?hs)
  case hs => with_unfolding_all rfl
  repeat k_extra "w"
  have fin : ∀ (i : Int) (ti : Tok) (F' : Frm c), 0 ≤ i → True := fun _ _ _ _ => trivial
  clear fin
  by_cases hneg : n1 + n2 ≥ 0
  all_goals
    repeat k_extra "w"
    intro a3 P3 l3 h3
    repeat k_extra "w"
    refine b_take (n := n + 1) H' (iv2.mono l3) (by decide) (by decide) fun g tg σ3 os3 g0 g1 gr3 _ iv3 => ?_
    repeat k_extra "w"
    obtain ⟨j3, v3, rfl, hv3, ⟨x, tx, rfl, hx⟩, hj3⟩ := pick_tup h3 g0 g1 (by simp) words_ok
    refine wItemTup h3 hv3 ?_ hj3 (hs := ?hs)
    case hs => with_unfolding_all rfl
    repeat k_extra "w"
    intro a4 P4 l4 h4
    repeat k_extra "w"
    refine wList ?_
    repeat k_extra "w"
    refine wNewListP H' (fun a5 P5 l5 h5 => ?_) (szl rfl)
    repeat k_extra "w"
    refine b_node (n := n) H' (iv3.mono (l4.trans l5)) (ks := []) h5 (by decide) fun v P6 σ6 os6 l6 gr6 iv6 hnd _ => ?_
    repeat k_extra "w"
    refine h v P6 σ6 os6 _ x (l1.trans (l2.trans (l3.trans (l4.trans (l5.trans l6))))) (((gr1.trans gr2).trans gr3).trans gr6) iv6 (.int hnd (.tup ((l5.trans l6) _ _ h4) (.cons (.int _ _) (.cons (.str _ _ (w_strOk hx)) .nil))) hx (by lia))
  ))) only [↓quiet]
end
end
section
variable {c : Cx} {F : Frm c} {D : FnD} {n : Nat} {fr₀ : List (Str × Option Value)} {P₀ : Pset} {M₀ : List (Addr × Obj)}
noncomputable def NmV (P : Pset) (v : Value) : Prop := ∃ e, Xv P v e ∧ (∃ i, e.r = [.int i] ∧ (e.s = 1 → e.k = 8 ∨ e.k = 9 ∨ e.k = 10 → 0 ≤ i)) ∧ e.k.natAbs ≤ 100
inductive NmD : List PyData → Prop
  | nil : NmD []
  | cons {s k i : Int} {ds : List PyData} (h1 : s = 1 → k = 8 ∨ k = 9 ∨ k = 10 → 0 ≤ i) (hk : k.natAbs ≤ 100) (h : NmD ds) : NmD (.tuple [.int s, .int k, .int i] :: ds)
theorem nmVs {P : Pset} {vs : List Value} {ds : List PyData} (d : Dts P vs ds) : NmD ds → ∀ v ∈ vs, NmV P v :=
  Dts.ind (C := fun vs ds => NmD ds → ∀ v ∈ vs, NmV P v) (fun _ _ h => nomatch h) (fun {v d vs ds} a _ IH h => by
    cases h with
    | cons h1 hk h =>
      exact List.forall_mem_cons.mpr ⟨⟨⟨_, _, [.int _]⟩, a, ⟨_, rfl, h1⟩, hk⟩, IH h⟩) d
section
variable {W : WL} {cfg : Cfg} {σ : Sig} {os : Os} {X : List (Addr × Obj)}
theorem BInv.putRow {P : Pset} {os' : Os} (iv : BInv c W cfg P σ os) {v : Value} {o : Obj} (ho : o.IsDictOf (intKind P0 c.w) (stored σ.rk σ.nodes v)) (he : os' = { os with rw := o }) : BInv c W cfg P { σ with rk := stored σ.rk σ.nodes v } os' := by
  refine ofQ ?_; simp (disch := (k_dflt (
  refine hold ?_
  subst he
  obtain ⟨⟨ks, fx, kt, hw, hrw, hdu, hdg, hcx⟩, at0, n0, fresh⟩ := iv
  exact ⟨⟨ks, fx, kt, hw, ho, hdu, hdg, hcx⟩, at0, n0, fun q hq => by
    have hq : σ.nodes < q := hq
    show valueAt (stored σ.rk σ.nodes v) q = none
    rw [valueAt_stored, if_neg (by lia)]
    exact fresh q hq⟩
  ))) only [↓quiet]
theorem Grow.putRow {v : Value} (hn : valueAt σ.rk σ.nodes = none) : Grow σ { σ with rk := stored σ.rk σ.nodes v } 1 :=
  ⟨Eq.refl _, Eq.refl _, Eq.refl _, Eq.refl _, fun q u hq => by
    show valueAt (stored σ.rk σ.nodes v) q = some u
    rw [valueAt_stored, if_neg (fun e => by rw [e, hn] at hq; cases hq)]
    exact hq, stored_length_le _ _ _⟩
theorem b_leaf (H : Ok F D (n + 4)) (iv : BInv c W cfg P₀ σ os) (hr : σ.rk.length ≤ 10000) {kk : Int} {tk : Tok} (hk : kk.natAbs ≤ 100) {b : Bool}
    {Q : Value → St → Prop} (h : ∀ v P' σ' os' nid f, Le P₀ P' → Grow σ σ' 1 → BInv c W cfg P' σ' os' → LfIs P' σ'.rk v nid f → (b = true → f ≠ .dflt) → Q v ⟨fr₀, P', mM W os' X⟩) :
    WP F (call (.ref 1012) [.ref W.w, .int kk tk, .bool b]) ⟨fr₀, P₀, mM W os X⟩ Q := by
  refine ofQ ?_; simp (disch := (k_dflt (
  refine hold ?_
  have k := iv.iv.ks.kf
  refine wDef H (fn_law_leaf k) rfl fun F' H' => ?_
  k_extra "in"
  repeat k_extra "w"
  refine b_take (n := n + 2) H' iv (by decide) (by decide) fun g tg σ0 os0 g0 g1 gr0 _ iv0 => ?_
  repeat k_extra "w"
  clear iv
  repeat k_extra "w"
  refine ⟨fun hq => ?_, fun hq => ?_⟩
  · clear hq
    repeat k_extra "w"
    refine b_take (n := n + 2) H' iv0 (by decide) (by decide) fun g tg σ1 os1 g0 g1 gr1 _ iv1 => ?_
    repeat k_extra "w"
    intro a2 P2 l2 h2
    repeat k_extra "w"
    refine b_take (n := n + 2) H' (iv1.mono l2) (by decide) (by decide) fun g' tg' σ2 os2 g0' g1' gr2 _ iv2 => ?_
    repeat k_extra "w"
    obtain ⟨j3, v3, rfl, hv3, ⟨x, tx, rfl, hx⟩, hj3⟩ := pick_tup h2 g0' g1' (by simp) words_ok
    refine wItemTup h2 hv3 ?_ hj3 (hs := ?hs)
    case hs => with_unfolding_all rfl
    repeat k_extra "w"
    intro a4 P4 l4 h4
    repeat k_extra "w"
    refine wList ?_
    repeat k_extra "w"
    refine wNewListP H' (fun a9 P9 l9 h9 => ?_) (szl rfl)
    repeat k_extra "w"
    refine b_node (n := n + 1) H' ((iv2.mono l4).mono l9) (ks := []) h9 (by decide) fun v PA σA osA lA grA ivA hnd hnn => ?_
    repeat k_extra "w"
    exact h v PA σA osA _ _ (l2.trans (l4.trans (l9.trans lA))) ((((gr0.trans gr1).trans gr2).trans grA).up (by decide)) ivA (.int hnd (.tup ((l9.trans lA) _ _ h4) (.cons (.int _ _) (.cons (.str _ _ (w_strOk hx)) .nil))) hx g0) (fun _ => by intro e; cases e)
  have n0 := of_decide_eq_false hq
  clear hq
  repeat k_extra "w"
  refine ⟨fun hq => ?_, fun hq => ?_⟩
  · clear hq
    repeat k_extra "w"
    refine b_number (n := n) H' iv0 fun v P' σ' os' i w l gr iv' hf => ?_
    repeat k_extra "w"
    exact h v P' σ' os' _ _ l ((gr0.trans gr).up (by decide)) iv' hf (fun _ => by intro e; cases e)
  have n1 := of_decide_eq_false hq
  clear hq
  repeat k_extra "w"
  refine ⟨fun hq => ?_, fun hq => ?_⟩
  · clear hq
    repeat k_extra "w"
    intro a2 P2 l2 h2
    repeat k_extra "w"
    refine b_take (n := n + 2) H' (iv0.mono l2) (by decide) (by decide) fun g' tg' σ2 os2 g0' g1' gr2 _ iv2 => ?_
    repeat k_extra "w"
    obtain ⟨j3, v3, rfl, hv3, ⟨x, tx, rfl, hx⟩, hj3⟩ := pick_tup h2 g0' g1' (by simp) (p := fun v => ∃ x t, v = Value.str x t ∧ PyData.strOk x = true) (all_cons ⟨_, _, rfl, strOk_of _⟩ (all_cons ⟨_, _, rfl, strOk_of _⟩ (all_cons ⟨_, _, rfl, strOk_of _⟩ all_nil)))
    refine wItemTup h2 hv3 ?_ hj3 (hs := ?hs)
    case hs => with_unfolding_all rfl
    repeat k_extra "w"
    refine wList ?_
    repeat k_extra "w"
    refine wNewListP H' (fun a9 P9 l9 h9 => ?_) (szl rfl)
    repeat k_extra "w"
    refine b_node (n := n + 1) H' (iv2.mono l9) (ks := []) h9 (by decide) fun v PA σA osA lA grA ivA hnd hnn => ?_
    repeat k_extra "w"
    exact h v PA σA osA _ _ (l2.trans (l9.trans lA)) (((gr0.trans gr2).trans grA).up (by decide)) ivA (.text hnd (.str _ _ hx)) (fun _ => by intro e; cases e)
  have n2 := of_decide_eq_false hq
  clear hq
  repeat k_extra "w"
  refine ⟨fun hq => ?_, fun hq => ?_⟩
  · clear hq
    repeat k_extra "w"
    intro a2 P2 l2 h2
    repeat k_extra "w"
    refine b_take (n := n + 2) H' (iv0.mono l2) (by decide) (by decide) fun g' tg' σ2 os2 g0' g1' gr2 _ iv2 => ?_
    repeat k_extra "w"
    obtain ⟨j3, v3, rfl, hv3, ⟨x, tx, rfl⟩, hj3⟩ := pick_tup h2 g0' g1' (by simp) (p := fun v => ∃ x t, v = Value.int x t) (all_cons ⟨_, _, rfl⟩ (all_cons ⟨_, _, rfl⟩ (all_cons ⟨_, _, rfl⟩ all_nil)))
    refine wItemTup h2 hv3 ?_ hj3 (hs := ?hs)
    case hs => with_unfolding_all rfl
    repeat k_extra "w"
    refine wList ?_
    repeat k_extra "w"
    refine wNewListP H' (fun a9 P9 l9 h9 => ?_) (szl rfl)
    repeat k_extra "w"
    refine b_node (n := n + 1) H' (iv2.mono l9) (ks := []) h9 (by decide) fun v PA σA osA lA grA ivA hnd hnn => ?_
    repeat k_extra "w"
    exact h v PA σA osA _ _ (l2.trans (l9.trans lA)) (((gr0.trans gr2).trans grA).up (by decide)) ivA (.chr hnd (.int _ _)) (fun _ => by intro e; cases e)
  have n3 := of_decide_eq_false hq
  clear hq
  repeat k_extra "w"
  refine ⟨fun hq => ?_, fun hq => ?_⟩
  · clear hq
    repeat k_extra "w"
    intro a2 P2 l2 h2
    repeat k_extra "w"
    refine b_take (n := n + 2) H' (iv0.mono l2) (by decide) (by decide) fun g' tg' σ2 os2 g0' g1' gr2 _ iv2 => ?_
    repeat k_extra "w"
    obtain ⟨j3, v3, rfl, hv3, ⟨x, tx, rfl, hx⟩, hj3⟩ := pick_tup h2 g0' g1' (by simp) (p := fun v => ∃ x t, v = Value.int x t ∧ (x = 4 ∨ x = 5)) (all_cons ⟨_, _, rfl, .inl rfl⟩ (all_cons ⟨_, _, rfl, .inr rfl⟩ all_nil))
    refine wItemTup h2 hv3 ?_ hj3 (hs := ?hs)
    case hs => with_unfolding_all rfl
    repeat k_extra "w"
    refine wList ?_
    repeat k_extra "w"
    refine wNewListP H' (fun a9 P9 l9 h9 => ?_) (szl rfl)
    repeat k_extra "w"
    refine b_node (n := n + 1) H' (iv2.mono l9) (ks := []) h9 (by decide) fun v PA σA osA lA grA ivA hnd hnn => ?_
    repeat k_extra "w"
    rcases hx with rfl | rfl
    · exact h v PA σA osA _ _ (l2.trans (l9.trans lA)) (((gr0.trans gr2).trans grA).up (by decide)) ivA (.tru hnd) (fun _ => by intro e; cases e)
    · exact h v PA σA osA _ _ (l2.trans (l9.trans lA)) (((gr0.trans gr2).trans grA).up (by decide)) ivA (.fls hnd) (fun _ => by intro e; cases e)
  have n4 := of_decide_eq_false hq
  clear hq
  have hg : g = 5 ∨ g = 6 ∨ 7 ≤ g := by clear iv0; lia
  clear g1 n0 n1 n2 n3 n4
  rcases hg with rfl | rfl | g7
  · repeat k_extra "w"
    refine wList ?_
    repeat k_extra "w"
    refine wNewListP H' (fun a9 P9 l9 h9 => ?_) (szl rfl)
    repeat k_extra "w"
    refine b_node (n := n + 1) H' (iv0.mono l9) (ks := []) h9 (by decide) fun v PA σA osA lA grA ivA hnd hnn => ?_
    repeat k_extra "w"
    exact h v PA σA osA _ _ (l9.trans lA) ((gr0.trans grA).up (by decide)) ivA (.null hnd) (fun _ => by intro e; cases e)
  · cases b with
    | true =>
      repeat k_extra "w"
      refine wList ?_
      repeat k_extra "w"
      refine wNewListP H' (fun a9 P9 l9 h9 => ?_) (szl rfl)
      repeat k_extra "w"
      refine b_node (n := n + 1) H' (iv0.mono l9) (ks := []) h9 (by decide) fun v PA σA osA lA grA ivA hnd hnn => ?_
      repeat k_extra "w"
      exact h v PA σA osA _ _ (l9.trans lA) ((gr0.trans grA).up (by decide)) ivA (.null hnd) (fun _ => by intro e; cases e)
    | false =>
      repeat k_extra "w"
      refine wList ?_
      repeat k_extra "w"
      refine wNewListP H' (fun a9 P9 l9 h9 => ?_) (szl rfl)
      repeat k_extra "w"
      refine b_node (n := n + 1) H' (iv0.mono l9) (ks := []) h9 (by decide) fun v PA σA osA lA grA ivA hnd hnn => ?_
      repeat k_extra "w"
      exact h v PA σA osA _ _ (l9.trans lA) ((gr0.trans grA).up (by decide)) ivA (.dflt hnd) (fun e => nomatch e)
  · skip
    repeat k_extra "w"
    refine wList ?_
    repeat k_extra "w"
    refine wNewListP H' (fun a9 P9 l9 h9 => ?_) (szl rfl)
    repeat k_extra "w"
    refine b_node (n := n + 1) H' (iv0.mono l9) (ks := []) h9 (by decide) fun v PA σA osA lA grA ivA hnd hnn => ?_
    obtain ⟨o1, o2, o3, o4, o5, ow, orw, odu, odg, ocx⟩ := osA
    obtain ⟨y, kl, u1, u2, u3, u4, um, rfl, hI, hkl, hk3⟩ := id hnd
    obtain ⟨kvs, hwd, hF, hkk⟩ := id ivA.iv.w
    have w1 := hF.rows
    obtain ⟨tp, w2⟩ := hF.plain
    replace hwd : ow.IsDictOf _ kvs := hwd
    have hrk : σA.rk.length ≤ 10000 := by have := gr0.len; have := grA.len; lia
    repeat k_extra "w"
    intro ws R1 m1 d1
    repeat k_extra "w"
    intro b13 R13 m13 k13
    repeat k_extra "w"
    have mall : Le PA R13 := m1.trans m13
    by_cases h7 : g = 7
    · subst h7
      repeat k_extra "w"
      refine b_take (n := n + 2) H' (ivA.mono mall) (by decide) (by decide) fun g' tg' σB osB g0' g1' grB ⟨hnB, hkB⟩ ivB => ?_
      repeat k_extra "w"
      obtain ⟨j3, v3, rfl, hv3, ⟨e, he, he1, he2⟩, hj3⟩ := pick_tup k13 g0' (by rw [d1.length]; exact g1') (by rw [d1.length]; exact Nat.le_of_ble_eq_true rfl) (p := NmV R13) (nmVs (d1.mono m13) (by repeat (first | exact .nil | refine .cons (by decide) (by decide) ?_)))
      refine wItemTup k13 hv3 ?_ hj3 (hs := ?hs)
      case hs => with_unfolding_all rfl
      obtain ⟨q1, q2, q3, q4, q5, qw, qrw, qdu, qdg, qcx⟩ := osB
      obtain ⟨kvs', hwd', hF', hkk'⟩ := id ivB.iv.w
      have w1' := hF'.rows
      replace hwd' : qw.IsDictOf _ kvs' := hwd'
      have hrkB : σB.rk.length ≤ 10000 := by have := grB.len; have := gr0.len; have := grA.len; lia
      repeat k_extra "w"
      have hor := ivB.iv.rw
      replace hor : qrw.IsDictOf _ σB.rk := hor
      refine' sItem (fun o' => ?U) hor (isI _ _ _) (fun o' ho' => ?_) (by rw [sizeLine_eq]; lia)
      case U => k_extra "mp"
      have hnB2 : valueAt σB.rk σB.nodes = none := by rw [hnB, hkB]; exact hnn
      rw [← hnB] at ho'
      repeat k_extra "w"
      have hnd' := hnd.mono mall
      rw [← hnB] at hnd'
      exact h _ R13 _ ⟨q1, q2, q3, q4, q5, qw, o', qdu, qdg, qcx⟩ σB.nodes (.name e) (l9.trans (lA.trans mall)) ((((gr0.trans grA).trans grB).trans (.putRow hnB2)).up (by decide)) (ivB.putRow ho' rfl) (.name hnd' (by show valueAt (stored σB.rk σB.nodes v3) σB.nodes = _; rw [valueAt_stored, if_pos rfl]) he he1 he2) (fun _ => by intro e; cases e)
    · repeat k_extra "w"
      intro b14 R14 m14 k14
      repeat k_extra "w"
      have hor := ivA.iv.rw
      replace hor : orw.IsDictOf _ σA.rk := hor
      refine' sItem (fun o' => ?U) hor (isI _ _ _) (fun o' ho' => ?_) (by rw [sizeLine_eq]; lia)
      case U => k_extra "mp"
      repeat k_extra "w"
      have lt := mall.trans m14
      exact h _ R14 _ ⟨o1, o2, o3, o4, o5, ow, o', odu, odg, ocx⟩ σA.nodes (.name ⟨2, kk, [.int 9]⟩) (l9.trans (lA.trans lt)) (((gr0.trans grA).trans (.putRow hnn)).up (by decide)) ((ivA.mono lt).putRow ho' rfl) (.name (hnd.mono lt) (by show valueAt (stored σA.rk σA.nodes _) σA.nodes = _; rw [valueAt_stored, if_pos rfl]) (.tup k14 (.cons (.int _ _) (.cons (.int _ _) (.cons (.int _ _) .nil)))) ⟨9, rfl, fun q => absurd q (show ¬ (2 : Int) = 1 by decide)⟩ hk) (fun _ => by intro e; cases e)
  ))) only [↓quiet]
end
end
section
variable {c : Cx} {F : Frm c} {D : FnD} {n : Nat} {fr₀ : List (Str × Option Value)} {P₀ : Pset} {M₀ : List (Addr × Obj)}
noncomputable abbrev R_arr : FnRec := ⟨Str.ofString "_law_array", Str.ofString "_law_array", fnPs (stAt 127), fnB (stAt 127), fnS (stAt 127), [Str.ofString "w", Str.ofString "word", Str.ofString "deep"], [Str.ofString "form", Str.ofString "items", Str.ofString "many", Str.ofString "size"], ⟨[(Str.ofString "_law_take", .ref 991), (Str.ofString "_law_leaf", .ref 1012), (Str.ofString "I4", .int 7 291), (Str.ofString "_law_node", .ref 998), (Str.ofString "N_INT", .int 1 517), (Str.ofString "N_LIST", .int 110 541), (Str.ofString "N_NEWARR", .int 16 533), (Str.ofString "N_TYPE", .int 40 539)], [(Str.ofString "range", .type "range")]⟩⟩
noncomputable abbrev D_arr : FnD := ⟨[(Str.ofString "_law_item", .ref 1019)], []⟩
theorem okC_arr : FnOkC R_arr where
  co := by decide +kernel
  gen := by decide +kernel
  kd := by decide +kernel
  cell := by decide +kernel
  ndp := by decide +kernel
  ndl := by decide +kernel
  lc := by decide +kernel
  gl := by decide +kernel
  bl := fun p hp => by
    have e : p = (Str.ofString "range", .type "range") := by simpa [R_arr] using hp
    subst e
    exact ⟨by decide +kernel, by decide +kernel, blt_range, by decide +kernel⟩
  p1 := by decide +kernel
  p2 := by decide +kernel
  p3 := by decide +kernel
  p4 := by decide +kernel
  p5 := by decide +kernel
noncomputable def cap : Nat → Nat
  | 0 => 1
  | d + 1 => 1 + 3 * cap d
theorem cap_pos : ∀ d, 1 ≤ cap d
  | 0 => Nat.le_refl _
  | d + 1 => by unfold cap; lia
section
variable (c) (W : WL) (cfg : Cfg)
noncomputable def ItemB (d : Nat) : Prop := ∀ (F : Frm c) (D : FnD) (n : Nat) (fr₀ : List (Str × Option Value)) (P₀ : Pset) (σ : Sig) (os : Os) (X : List (Addr × Obj)) (word : Str) (tw td : Tok) (deep : Int) (Q : Value → St → Prop),
  Ok F D (n + 20 + 20 * d) → BInv c W cfg P₀ σ os → σ.rk.length + cap d ≤ 10000 → word ∈ wordsL → deep + d = 2 →
  (∀ v P' σ' os' t, Le P₀ P' → Grow σ σ' (cap d) → BInv c W cfg P' σ' os' → TrIs P' σ'.rk d v t → Q v ⟨fr₀, P', mM W os' X⟩) →
  WP F (call (.ref 1019) [.ref W.w, .str word tw, .int deep td]) ⟨fr₀, P₀, mM W os X⟩ Q
noncomputable def ArrB (d : Nat) : Prop := ∀ (F : Frm c) (D : FnD) (n : Nat) (fr₀ : List (Str × Option Value)) (P₀ : Pset) (σ : Sig) (os : Os) (X : List (Addr × Obj)) (word : Str) (tw td : Tok) (deep : Int) (Q : Value → St → Prop),
  Ok F D (n + 30 + 20 * d) → BInv c W cfg P₀ σ os → σ.rk.length + cap (d + 1) ≤ 10000 → word ∈ wordsL → deep + d = 2 →
  (∀ v P' σ' os' nid w size items, Le P₀ P' → Grow σ σ' (cap (d + 1)) → BInv c W cfg P' σ' os' → TrIs P' σ'.rk (d + 1) v (.arr nid w size items) → Q v ⟨fr₀, P', mM W os' X⟩) →
  WP F (call (.ref 1024) [.ref W.w, .str word tw, .int deep td]) ⟨fr₀, P₀, mM W os X⟩ Q
end
theorem words_strOk {w : Str} (h : w ∈ wordsL) : PyData.strOk w = true := by
  refine ofQ ?_; simp (disch := (k_dflt (
  refine hold ?_
  have e : wordsL = (["int", "object", "long", "string", "A", "byte", "int[]", "S", "E", "string[]", "T", "int[][]", "void", "uint", "none"] : List String).map S := rfl
  rw [e] at h
  obtain ⟨x, _, rfl⟩ := List.mem_map.mp h
  exact strOk_of x
  ))) only [↓quiet]
theorem named_small (w : Str) : (named w).natAbs ≤ 100 := by
  rcases named_cases w with e | e | e
  · rw [e]; decide
  · rw [e]; decide
  · exact (goodK_small e).2.1
theorem inner_look (word : Str) (i1 i2 i3 : Tok) : (∃ x t, valueAt [(S "int[]", Value.str (S "int") i1), (S "string[]", .str (S "string") i2), (S "int[][]", .str (S "int[]") i3)] word = some (.str x t) ∧ x ∈ wordsL) ∨ valueAt [(S "int[]", Value.str (S "int") i1), (S "string[]", .str (S "string") i2), (S "int[][]", .str (S "int[]") i3)] word = none := by
  refine ofQ ?_; simp (disch := (k_dflt (
  refine hold ?_
  rw [valueAt_cons, valueAt_cons, valueAt_cons]
  by_cases h1 : S "int[]" = word
  · rw [if_pos h1]; exact .inl ⟨_, _, rfl, by decide⟩
  by_cases h2 : S "string[]" = word
  · rw [if_neg h1, if_pos h2]; exact .inl ⟨_, _, rfl, by decide⟩
  by_cases h3 : S "int[][]" = word
  · rw [if_neg h1, if_neg h2, if_pos h3]; exact .inl ⟨_, _, rfl, by decide⟩
  · rw [if_neg h1, if_neg h2, if_neg h3]; exact .inr rfl
  ))) only [↓quiet]
section
variable {W : WL} {cfg : Cfg} {σ : Sig} {os : Os} {X : List (Addr × Obj)}
theorem itemB_step (d : Nat) (hA : ∀ d', d = d' + 1 → ArrB c W cfg d') : ItemB c W cfg d := by
  refine ofQ ?_; simp (disch := (k_dflt (
  refine hold ?_
  intro F D n fr₀ P₀ σ os X word tw td deep Q H iv hrk hw hdd h
  have k := iv.iv.ks.kf
  have H1 : Ok F D (n + 19 + 20 * d + 1) := H.le (by lia)
  obtain ⟨kvs, hwd, hF, _⟩ := id iv.iv.w
  have w1 := hF.named
  have w2 := hF.inner
  obtain ⟨on, nkv, hon, hdn, hnm⟩ := named_get iv.iv.fx word
  obtain ⟨oi, i1, i2, i3, hoi, hdi⟩ := iv.iv.fx.inn
  have capd := cap_pos d
  refine wDef H1 (fn_law_item k) rfl fun F' H' => ?_
  have leaf : ∀ (P : Pset) (σ' : Sig) (os' : Os) (t : Tok), Le P₀ P → Grow σ σ' 0 → BInv c W cfg P σ' os' →
      WP F' (execs (R_law_item.body.drop 3) F'.env) ⟨[(S "w", some (.ref W.w)), (S "word", some (.str word tw)), (S "deep", some (.int deep td)), (S "k", some (.int (named word) t))], P, mM W os' X⟩ (Ret fr₀ Q) := by
    intro P σ' os' t l0 gr iv'
    refine wCons ?_
    repeat k_extra "w"
    intro b P1 l1 hb
    repeat k_extra "w"
    refine oInI H' (is := [15, 0]) hb (.cons (.int _ _) (.cons (.int _ _) .nil)) ?_
    have hrl := gr.len
    by_cases hm : named word ∈ ([15, 0] : List Int)
    all_goals
      repeat k_extra "w"
      refine b_leaf (n := n) (H'.le (by lia)) (iv'.mono l1) (by lia) (by first | decide | exact named_small word) fun v P2 σ2 os2 nid f l2 gr2 iv2 hf _ => ?_
      repeat k_extra "w"
      exact h v P2 σ2 os2 _ (l0.trans (l1.trans l2)) ((gr.trans gr2).up (by lia)) iv2 (.leaf hf)
  have two : ∀ (P : Pset) (σ' : Sig) (os' : Os) (t : Tok), Le P₀ P → Grow σ σ' 0 → BInv c W cfg P σ' os' →
      WP F' (execs (R_law_item.body.drop 2) F'.env) ⟨[(S "w", some (.ref W.w)), (S "word", some (.str word tw)), (S "deep", some (.int deep td)), (S "k", some (.int (named word) t))], P, mM W os' X⟩ (Ret fr₀ Q) := by
    intro P σ' os' t l0 gr iv'
    refine wCons ?_
    cases d with
    | zero =>
      have hdp : ¬ deep < 2 := by lia
      repeat (first | ((guard_target = WP _ (execs _ _) _ _); exact leaf P σ' os' t l0 gr iv') | k_extra "w")
    | succ d' =>
      have hdp : deep < 2 := by lia
      obtain ⟨kvs2, hwd2, hF2, _⟩ := id iv'.iv.w
      have w3 := hF2.words
      obtain ⟨wvs, hwo, hwd⟩ := iv'.iv.fx.wo
      repeat k_extra "w"
      refine b_take (n := n) (H'.le (by lia)) iv' (by decide) (by decide) fun g tg σ1 os1 g0 g1 gr1 _ iv1 => ?_
      obtain ⟨kvs3, hwd3, hF3, _⟩ := id iv1.iv.w
      have w4 := hF3.words
      repeat k_extra "w"
      by_cases h6 : g = 6
      · subst h6
        repeat k_extra "w"
        refine b_take (n := n) (H'.le (by lia)) iv1 (by decide) (by decide) fun g tg σ2 os2 g0 g1 gr2 _ iv2 => ?_
        repeat k_extra "w"
        obtain ⟨j, rfl⟩ := Int.eq_ofNat_of_zero_le g0
        have hj : j < wordsL.length := by show j < 15; lia
        obtain ⟨v, hv, hvd⟩ := hwd.get (i := j) (d := .str wordsL[j]) (by rw [List.getElem?_map, List.getElem?_eq_getElem hj]; rfl)
        obtain ⟨tv, rfl⟩ := hvd.str_inv
        refine wItemTup hwo hv ?_ (by lia) (hs := ?hs)
        case hs => with_unfolding_all rfl
        repeat k_extra "w"
        have hg1 := gr.len
        have hg2 := gr1.len
        have hg3 := gr2.len
        refine hA d' rfl F' _ n _ P σ2 os2 X _ _ _ _ _ (H'.le (by lia)) iv2 (by lia) (List.getElem_mem hj) (by push_cast at hdd; lia) fun v P2 σ3 os3 nid w size items l2 gr3 iv3 ht => ?_
        repeat k_extra "w"
        exact h v P2 σ3 os3 _ (l0.trans l2) ((((gr.trans gr1).trans gr2).trans gr3).up (by lia)) iv3 ht
      · repeat (first | ((guard_target = WP _ (execs _ _) _ _); exact leaf P σ1 os1 t l0 ((gr.trans gr1).up (by lia)) iv1) | k_extra "w")
  k_extra "in"
  repeat k_extra "w"
  refine mGet (.p hon) (exactOf hdn) ?_
  repeat k_extra "w"
  refine cGet2 (.p hon) hdn iv.iv.fx.ndl (isS _ _ _) ?_
  obtain ⟨tk, er⟩ := hnm 307
  rw [er]
  repeat k_extra "w"
  cases d with
  | zero =>
    have hdp : ¬ deep < 2 := by lia
    repeat (first | ((guard_target = WP _ (execs _ _) _ _); exact two P₀ σ os tk Le.rfl .rfl iv) | k_extra "w")
  | succ d' =>
    have hdp : deep < 2 := by lia
    repeat k_extra "w"
    refine oInD (.p hoi) hdi iv.iv.fx.innl (isS _ _ _) ?_
    rcases inner_look word i1 i2 i3 with ⟨x, tx, hx, hxw⟩ | hx
    · rw [hx]
      repeat k_extra "w"
      refine b_take (n := n) (H'.le (by lia)) iv (by decide) (by decide) fun g tg σ1 os1 g0 g1 gr1 _ iv1 => ?_
      obtain ⟨kvs3, hwd3, hF3, _⟩ := id iv1.iv.w
      have w4 := hF3.inner
      repeat k_extra "w"
      by_cases hg : g > 0
      · repeat k_extra "w"
        refine wItemD (.p hoi) hdi (isS _ _ _) hx ?_ (hs := ?hs)
        case hs => with_unfolding_all rfl
        repeat k_extra "w"
        have hg1 := gr1.len
        refine hA d' rfl F' _ n _ P₀ σ1 os1 X _ _ _ _ _ (H'.le (by lia)) iv1 (by lia) hxw (by push_cast at hdd; lia) fun v P2 σ3 os3 nid w size items l2 gr3 iv3 ht => ?_
        repeat k_extra "w"
        exact h v P2 σ3 os3 _ l2 ((gr1.trans gr3).up (by lia)) iv3 ht
      · repeat (first | ((guard_target = WP _ (execs _ _) _ _); exact two P₀ σ1 os1 tk Le.rfl gr1 iv1) | k_extra "w")
    · rw [hx]
      repeat (first | ((guard_target = WP _ (execs _ _) _ _); exact two P₀ σ os tk Le.rfl .rfl iv) | k_extra "w")
  ))) only [↓quiet]
end
end
section
variable {c : Cx} {F : Frm c} {D : FnD} {n : Nat} {fr₀ : List (Str × Option Value)} {P₀ : Pset} {M₀ : List (Addr × Obj)}
structure CellsE (F : Frm c) (P : Pset) (v1 v2 v3 : Value) : Prop where
  k1 : F.env.kindOf (S "w") = some .cell
  k2 : F.env.kindOf (S "word") = some .cell
  k3 : F.env.kindOf (S "deep") = some .cell
  c1 : ∃ a, F.env.cells.lookup (S "w") = some a ∧ CellAt P a v1
  c2 : ∃ a, F.env.cells.lookup (S "word") = some a ∧ CellAt P a v2
  c3 : ∃ a, F.env.cells.lookup (S "deep") = some a ∧ CellAt P a v3
theorem CellsE.mono {F : Frm c} {P P' : Pset} {v1 v2 v3 : Value} (l : Le P P') (h : CellsE F P v1 v2 v3) : CellsE F P' v1 v2 v3 :=
  ⟨h.k1, h.k2, h.k3, let ⟨a, b, d⟩ := h.c1; ⟨a, b, d.mono l⟩, let ⟨a, b, d⟩ := h.c2; ⟨a, b, d.mono l⟩, let ⟨a, b, d⟩ := h.c3; ⟨a, b, d.mono l⟩⟩
section
variable {W : WL} {cfg : Cfg} {σ : Sig} {os : Os} {X : List (Addr × Obj)}
theorem b_arr_ret {d : Nat} (k : KF c.K) (H : Ok F R_arr.d (n + 3)) {word : Str} {tw : Tok} {v3 : Value} (ce : CellsE F P₀ (.ref W.w) (.str word tw) v3) (hw : word ∈ wordsL) (iv : BInv c W cfg P₀ σ os) {sv iv_ f1 f2 : Value} {size : Option (Int × Leaf)} {items : Option (List Tr)} (hsv : SzIs P₀ σ.rk sv size) (hit : ItIs P₀ σ.rk d iv_ items)
    {gr : List (Str × Option Value)} {Q : Value → St → Prop} (h : ∀ v P' σ' os' nid, Le P₀ P' → Grow σ σ' 0 → BInv c W cfg P' σ' os' → TrIs P' σ'.rk (d + 1) v (.arr nid word size items) → Q v ⟨gr, P', mM W os' X⟩) :
    WP F (execs (R_arr.body.drop 7) F.env) ⟨[(S "form", some f1), (S "items", some iv_), (S "many", some f2), (S "size", some sv)], P₀, mM W os X⟩ (Ret gr Q) := by
  refine ofQ ?_; simp (disch := (k_dflt (
  refine hold ?_
  obtain ⟨k1, k2, k3, ⟨a1, c1, p1⟩, ⟨a2, c2, p2⟩, ⟨a3, c3, p3⟩⟩ := ce
  refine wCons ?_
  repeat k_extra "w"
  refine wList ?_
  repeat k_extra "w"
  refine wList ?_
  repeat k_extra "w"
  refine wNewListP H (fun b1 P1 l1 h1 => ?_) (szl rfl)
  repeat k_extra "w"
  refine b_node (n := n) (H.le (by lia)) (iv.mono l1) (ks := []) h1 (by decide) fun tn P2 σ2 os2 l2 gr2 iv2 hnd2 _ => ?_
  repeat k_extra "w"
  refine wNewListP H (fun b3 P3 l3 h3 => ?_) (szl rfl)
  repeat k_extra "w"
  refine b_node (n := n) (H.le (by lia)) (iv2.mono l3) (ks := [tn, sv, iv_]) h3 (by simp) fun v P4 σ4 os4 l4 gr4 iv4 hnd4 _ => ?_
  repeat k_extra "w"
  have lt := l1.trans (l2.trans (l3.trans l4))
  have grt := gr2.trans gr4
  exact h v P4 σ4 os4 _ lt grt iv4 (.arr hnd4 (hnd2.mono (l3.trans l4)) (.str _ _ (words_strOk hw)) ((hsv.mono lt).rk grt.rk) ((hit.mono lt).rk grt.rk))
  ))) only [↓quiet]
theorem b_arr_row {d : Nat} (hI : ItemB c W cfg d) (k : KF c.K) {F' : Frm c} (H : Ok F' D_arr (n + 20 + 20 * d)) {word : Str} {tw td : Tok} {deep : Int} (hw : word ∈ wordsL) (hdd : deep + d = 2) {gr : List (Str × Option Value)} {Q : Value → St → Prop} {I Dl : Addr} {w_ : Addr} (hw_ : w_ = W.w) :
    ∀ (j i : Nat) (ys : List Value) (ts : List Tr) (m : Nat) (P : Pset) (σ : Sig) (os : Os), CellsE F' P (.ref w_) (.str word tw) (.int deep td) → BInv c W cfg P σ os → TrsIs P σ.rk d ys ts → ys.length + j ≤ 3 → σ.rk.length + j * cap d ≤ 10000 →
    (∀ P' σ' os' ys' ts' m', Le P P' → Grow σ σ' (j * cap d) → BInv c W cfg P' σ' os' → TrsIs P' σ'.rk d ys' ts' → ys'.length ≤ 3 → Q (.ref Dl) ⟨gr, P', mM W os' X ++ [(Dl, listOf ys'.toArray m')]⟩) →
    CTurns F' (.Call (.Name (Str.ofString "_law_item") ⟨650, 42, 650, 51⟩) [.Name (Str.ofString "w") ⟨650, 52, 650, 53⟩, .Name (Str.ofString "word") ⟨650, 55, 650, 59⟩, .Name (Str.ofString "deep") ⟨650, 61, 650, 65⟩] [] ⟨650, 42, 650, 66⟩) (Str.ofString "i") gr Q I Dl j i ys m P (mM W os X) := by
  refine ofQ ?_; simp (disch := (k_dflt (
  refine hold ?_
  subst hw_
  intro j
  induction j with
  | zero =>
    intro i ys ts m P σ os ce iv hts hlen hr h
    exact h P σ os ys ts m Le.rfl (Grow.rfl.up (by lia)) iv hts (by lia)
  | succ j ih =>
    intro i ys ts m P σ os ce iv hts hlen hr h oI t
    obtain ⟨k1, k2, k3, ⟨a1, c1, p1⟩, ⟨a2, c2, p2⟩, ⟨a3, c3, p3⟩⟩ := id ce
    have hmul : (j + 1) * cap d = cap d + j * cap d := by rw [Nat.succ_mul, Nat.add_comm]
    rw [hmul] at hr h
    repeat k_extra "w"
    refine hI F' _ n _ P σ os (X ++ [(Dl, listOf ys.toArray m), (I, oI)]) word tw td deep _ H iv (by lia) hw hdd fun v P1 σ1 os1 t1 l1 gr1 iv1 ht1 => ?_
    have hg := gr1.len
    refine ⟨mM W os1 X, rfl, rfl, ih (i + 1) (ys ++ [v]) (ts ++ [t1]) (m + 1) P1 σ1 os1 (ce.mono l1) iv1 ?_ (by rw [List.length_append]; simp; lia) (by lia) ?_⟩
    · have app : ∀ {vs : List Value} {us : List Tr}, TrsIs P1 σ1.rk d vs us → TrsIs P1 σ1.rk d (vs ++ [v]) (us ++ [t1]) := by
        intro vs
        induction vs with
        | nil => intro us h; cases h; exact .cons ht1 .nil
        | cons a vs ih2 => intro us h; cases h with | cons x y => exact .cons x (ih2 y)
      exact app ((hts.mono l1).rk gr1.rk)
    · intro P' σ' os' ys' ts' m' l gr iv' hts' hy'
      exact h P' σ' os' ys' ts' m' (l1.trans l) (gr1.trans gr) iv' hts' hy'
  ))) only [↓quiet]
end
end
section
variable {c : Cx} {F : Frm c} {D : FnD} {n : Nat} {fr₀ : List (Str × Option Value)} {P₀ : Pset} {M₀ : List (Addr × Obj)}
theorem relabel_free {scope : Scope} {env : Env} {x : Str} (hf : env.scope.kind = .function) (hk : env.kindOf x = some .cell) (h : scope.names.lookup x = some .free) : (relabel scope env).names.lookup x = some .cell := by
  refine ofQ ?_; simp (disch := (k_dflt (
  refine hold ?_
  unfold relabel
  show List.lookup x (scope.names.map _) = _
  revert h
  induction scope.names with
  | nil => intro h; cases h
  | cons p r ih =>
    obtain ⟨y, kd⟩ := p
    intro h
    rw [List.lookup_cons] at h
    rw [List.map_cons]
    cases e : x == y with
    | true =>
      rw [e] at h; cases h
      have e' : x = y := eq_of_beq e
      subst e'
      simp [List.lookup_cons, hf, hk]
    | false =>
      rw [e] at h
      have := ih h
      show List.lookup x ((if (kd == NameKind.free && env.scope.kind == .function && env.kindOf y == some .cell) = true then (y, NameKind.cell) else (y, kd)) :: _) = _
      by_cases hc : (kd == NameKind.free && env.scope.kind == .function && env.kindOf y == some .cell) = true
      · rw [if_pos hc]; simp only [List.lookup_cons, e]; exact this
      · rw [if_neg hc]; simp only [List.lookup_cons, e]; exact this
  ))) only [↓quiet]
theorem relabel_other {scope : Scope} {env : Env} {x : Str} {kd : NameKind} (hn : kd ≠ .free) (h : scope.names.lookup x = some kd) : (relabel scope env).names.lookup x = some kd := by
  refine ofQ ?_; simp (disch := (k_dflt (
  refine hold ?_
  unfold relabel
  show List.lookup x (scope.names.map _) = _
  revert h
  induction scope.names with
  | nil => intro h; cases h
  | cons p r ih =>
    obtain ⟨y, kd'⟩ := p
    intro h
    rw [List.lookup_cons] at h
    rw [List.map_cons]
    cases e : x == y with
    | true =>
      rw [e] at h; cases h
      have hc : (kd == NameKind.free) = false := by cases kd <;> first | rfl | exact absurd rfl hn
      simp [List.lookup_cons, e, hc]
    | false =>
      rw [e] at h
      have := ih h
      show List.lookup x ((if (kd' == NameKind.free && env.scope.kind == .function && env.kindOf y == some .cell) = true then (y, NameKind.cell) else (y, kd')) :: _) = _
      by_cases hc : (kd' == NameKind.free && env.scope.kind == .function && env.kindOf y == some .cell) = true
      · rw [if_pos hc]; simp only [List.lookup_cons, e]; exact this
      · rw [if_neg hc]; simp only [List.lookup_cons, e]; exact this
  ))) only [↓quiet]
section
variable {W : WL} {cfg : Cfg} {σ : Sig} {os : Os} {X : List (Addr × Obj)}
theorem b_arr_items {d : Nat} (hI : ItemB c W cfg d) (k : KF c.K) (H : Ok F R_arr.d (n + 29 + 20 * d)) {word : Str} {tw td : Tok} {deep : Int} (ce : CellsE F P₀ (.ref W.w) (.str word tw) (.int deep td)) (hw : word ∈ wordsL) (hdd : deep + d = 2) (iv : BInv c W cfg P₀ σ os) (hrk : σ.rk.length + 3 * cap d ≤ 10000) {sv : Value} {size : Option (Int × Leaf)} (hsv : SzIs P₀ σ.rk sv size)
    {g many : Int} {tf tm : Tok} (g0 : 0 ≤ g) (m0 : 0 ≤ many) (m1 : many < 4)
    {gr : List (Str × Option Value)} {Q : Value → St → Prop} (h : ∀ v P' σ' os' nid items, Le P₀ P' → Grow σ σ' (3 * cap d) → BInv c W cfg P' σ' os' → TrIs P' σ'.rk (d + 1) v (.arr nid word size items) → Q v ⟨gr, P', mM W os' X⟩) :
    WP F (execs (R_arr.body.drop 6) F.env) ⟨[(S "form", some (.int g tf)), (S "items", some .none), (S "many", some (.int many tm)), (S "size", some sv)], P₀, mM W os X⟩ (Ret gr Q) := by
  refine ofQ ?_; simp (disch := (k_dflt (
  refine hold ?_
  obtain ⟨k1, k2, k3, ⟨a1, c1, p1⟩, ⟨a2, c2, p2⟩, ⟨a3, c3, p3⟩⟩ := id ce
  refine wCons ?_
  by_cases hg : g > 0
  · repeat k_extra "w"
    obtain ⟨kk, rfl⟩ := Int.eq_ofNat_of_zero_le m0
    have hk3 : kk ≤ 3 := by lia
    refine wComp H (cl := [(S "word", a2), (S "w", a1), (S "deep", a3)]) (D2 := D_arr) ?hclos (by decide +kernel) rfl (by decide +kernel) (by decide +kernel) (by decide +kernel) ?gl rfl ?_ (hs := ?hs)
    case hs => intro _; rfl
    case hclos => simp [closureFor, cellOf, c1, c2, c3]
    case gl =>
      intro p hp
      have e : p = (Str.ofString "_law_item", .ref 1019) := by simpa using hp
      subst e
      exact ⟨relabel_other (kd := .globalImplicit) (by decide) (by decide +kernel), by decide +kernel, k.gl _ (by decide +kernel)⟩
    repeat k_extra "w"
    refine wRange H fun r t' u' P1 l1 hP => ?_
    refine ⟨r, kk, t', tm, u', rfl, by lia, hP, fun F2 I Dl ok2 hsc hcl => ?_⟩
    have hmul : kk * cap d ≤ 3 * cap d := Nat.mul_le_mul_right _ hk3
    have ce2 : CellsE F2 P1 (.ref W.w) (.str word tw) (.int deep td) := by
      refine ⟨?_, ?_, ?_, ⟨a1, by rw [hcl]; kernel_rfl, p1.mono l1⟩, ⟨a2, by rw [hcl]; kernel_rfl, p2.mono l1⟩, ⟨a3, by rw [hcl]; kernel_rfl, p3.mono l1⟩⟩
      · show F2.env.scope.names.lookup _ = _
        rw [hsc]; exact relabel_free H.fn k1 (by decide +kernel)
      · show F2.env.scope.names.lookup _ = _
        rw [hsc]; exact relabel_free H.fn k2 (by decide +kernel)
      · show F2.env.scope.names.lookup _ = _
        rw [hsc]; exact relabel_free H.fn k3 (by decide +kernel)
    refine b_arr_row (n := n) hI k (ok2.le (by lia)) hw hdd rfl kk 0 [] [] 0 P1 σ os ce2 (iv.mono l1) .nil (by show 0 + kk ≤ 3; lia) (by lia) fun P2 σ2 os2 ys ts m2 l2 gr2 iv2 hts hy => ?_
    refine WP.freeze H (mdel_last _ _ _) fun P3 l3 hD => ?_
    repeat k_extra "w"
    refine b_node (n := n) (H.le (by lia)) (iv2.mono l3) (ks := ys) hD hy fun v P4 σ4 os4 l4 gr4 iv4 hnd4 _ => ?_
    have lt := l1.trans (l2.trans (l3.trans l4))
    have grt := gr2.trans gr4
    repeat (first | ((guard_target = WP _ (execs _ _) _ _); exact b_arr_ret (d := d) (n := n) k (H.le (by lia)) (ce.mono lt) hw iv4 ((hsv.mono lt).rk grt.rk) (.some hnd4 ((hts.mono (l3.trans l4)).rk gr4.rk)) fun v P' σ' os' nid l gr iv' ht => h v P' σ' os' nid _ (lt.trans l) ((grt.trans gr).up (by lia)) iv' ht) | k_extra "w")
  · repeat (first | ((guard_target = WP _ (execs _ _) _ _); exact b_arr_ret (d := d) (n := n) k (H.le (by lia)) ce hw iv hsv .none fun v P' σ' os' nid l gr iv' ht => h v P' σ' os' nid _ l (gr.up (by lia)) iv' ht) | k_extra "w")
  ))) only [↓quiet]
theorem arrB (d : Nat) (hI : ItemB c W cfg d) : ArrB c W cfg d := by
  refine ofQ ?_; simp (disch := (k_dflt (
  refine hold ?_
  intro F D n fr₀ P₀ σ os X word tw td deep Q H iv hrk hw hdd h
  have k := iv.iv.ks.kf
  have H1 : Ok F D (n + 29 + 20 * d + 1) := H.le (by lia)
  have hcap : cap (d + 1) = 1 + 3 * cap d := rfl
  rw [hcap] at hrk h
  refine wDefC H1 (δ := R_arr) k.f_law_array okC_arr (fnGl k (by decide +kernel) (by decide +kernel)) rfl fun F' P1 H' hsc l1 hcells => ?_
  have ce : CellsE F' P1 (.ref W.w) (.str word tw) (.int deep td) := by
    refine ⟨?_, ?_, ?_, hcells _ _ (.head _), hcells _ _ (.tail _ (.head _)), hcells _ _ (.tail _ (.tail _ (.head _)))⟩
    · show F'.env.scope.names.lookup _ = _
      rw [hsc]; decide +kernel
    · show F'.env.scope.names.lookup _ = _
      rw [hsc]; decide +kernel
    · show F'.env.scope.names.lookup _ = _
      rw [hsc]; decide +kernel
  obtain ⟨k1, k2, k3, ⟨a1, c1, p1⟩, ⟨a2, c2, p2⟩, ⟨a3, c3, p3⟩⟩ := id ce
  have iv := iv.mono l1
  simp only [List.map_cons, List.map_nil]
  refine wCons ?_
  repeat k_extra "w"
  refine b_take (n := n) (H'.le (by lia)) iv (by decide) (by decide) fun g tg σ1 os1 g0 g1 gr1 _ iv1 => ?_
  repeat k_extra "w"
  refine b_take (n := n) (H'.le (by lia)) iv1 (by decide) (by decide) fun many tm σ2 os2 m0 m1 gr2 _ iv2 => ?_
  have gr12 := gr1.trans gr2
  have hg12 := gr12.len
  repeat k_extra "w"
  by_cases hl : g = 0 ∨ g = 3
  · rcases hl with rfl | rfl
    all_goals
      repeat k_extra "w"
      refine b_leaf (n := n) (H'.le (by lia)) iv2 (by lia) (by decide) fun v P3 σ3 os3 nid f l3 gr3 iv3 hf hnd => ?_
      have hg3 := gr3.len
      repeat (first | ((guard_target = WP _ (execs _ _) _ _); exact b_arr_items (n := n) hI k H' (ce.mono l3) hw hdd iv3 (by lia) (.some hf (hnd rfl)) g0 m0 m1 fun v P' σ' os' nid items l gr iv' ht => h v P' σ' os' nid word _ items (l1.trans (l3.trans l)) (((gr12.trans gr3).trans gr).up (by lia)) iv' ht) | k_extra "w")
  · have h0 : g ≠ 0 := fun e => hl (.inl e)
    have h3 : g ≠ 3 := fun e => hl (.inr e)
    by_cases h2 : g = 2
    · subst h2
      repeat k_extra "w"
      intro b1 P3 l3 hb1
      repeat k_extra "w"
      refine b_take (n := n) (H'.le (by lia)) (iv2.mono l3) (by decide) (by decide) fun q tq σ3 os3 q0 q1 gr3 _ iv3 => ?_
      repeat k_extra "w"
      obtain ⟨j3, v3, rfl, hv3, ⟨x, tx, rfl, hx⟩, hj3⟩ := pick_tup hb1 q0 q1 (by simp) words_ok
      refine wItemTup hb1 hv3 ?_ hj3 (hs := ?hs)
      case hs => with_unfolding_all rfl
      repeat k_extra "w"
      intro b4 P4 l4 hb4
      repeat k_extra "w"
      refine wList ?_
      repeat k_extra "w"
      refine wNewListP H' (fun b5 P5 l5 hb5 => ?_) (szl rfl)
      repeat k_extra "w"
      refine b_node (n := n) (H'.le (by lia)) (iv3.mono (l4.trans l5)) (ks := []) hb5 (by decide) fun v P6 σ6 os6 l6 gr6 iv6 hnd _ => ?_
      have lt := l3.trans (l4.trans (l5.trans l6))
      have hlf : LfIs P6 σ6.rk v σ6.nodes (.int many x) := .int hnd (.tup ((l5.trans l6) _ _ hb4) (.cons (.int _ _) (.cons (.str _ _ (w_strOk hx)) .nil))) hx m0
      have hg3 := gr3.len
      have hg6 := gr6.len
      repeat (first | ((guard_target = WP _ (execs _ _) _ _); exact b_arr_items (n := n) hI k H' (ce.mono lt) hw hdd iv6 (by lia) (.some hlf (by intro e; cases e)) g0 m0 m1 fun v P' σ' os' nid items l gr iv' ht => h v P' σ' os' nid word _ items (l1.trans (lt.trans l)) ((((gr12.trans gr3).trans gr6).trans gr).up (by lia)) iv' ht) | k_extra "w")
    · repeat (first | ((guard_target = WP _ (execs _ _) _ _); exact b_arr_items (n := n) hI k H' ce hw hdd iv2 (by lia) .none g0 m0 m1 fun v P' σ' os' nid items l gr iv' ht => h v P' σ' os' nid word _ items (l1.trans l) ((gr12.trans gr).up (by lia)) iv' ht) | k_extra "w")
  ))) only [↓quiet]
end
theorem itemB (W : WL) (cfg : Cfg) : ∀ d, ItemB c W cfg d
  | 0 => itemB_step 0 fun _ e => nomatch e
  | d + 1 => itemB_step (d + 1) fun d' e => by cases e; exact arrB d (itemB W cfg d)
end
section
variable {c : Cx} {F : Frm c} {D : FnD} {n : Nat} {fr₀ : List (Str × Option Value)} {P₀ : Pset} {M₀ : List (Addr × Obj)}
noncomputable def leastD (i : Int) (w : Str) : PyData :=
  if i = 2147483648 ∧ w = S "" then .tuple [.int 1, .int 7, .int (-i)] else if i = 9223372036854775808 ∧ w ∈ [S "", S "l"] then .tuple [.int 1, .int 9, .int (-i)] else .none
section
variable {W : WL} {cfg : Cfg} {σ : Sig} {os : Os} {X : List (Addr × Obj)} {v : Value} {nid : Int}
theorem c_least_int (k : KF c.K) (H : Ok F D (n + 1)) {av0 : Value} {ts : Tok} {ks0 : List Value} {nid0 : Int} {u : Value} (hu : Nd P₀ u 17 (.str (S "-") ts) (v :: ks0) nid0) {i : Int} {w : Str} {av : Value} {ks : List Value} (hn : Nd P₀ v 1 av ks nid) (hs : Dt P₀ av (.tuple [.int i, .str w]))
    {Q : Value → St → Prop} (h : ∀ x P', Le P₀ P' → Dt P' x (leastD i w) → Q x ⟨fr₀, P', M₀⟩) : WP F (call (.ref 897) [u]) ⟨fr₀, P₀, M₀⟩ Q := by
  refine ofQ ?_; simp (disch := (k_dflt (
  refine hold ?_
  obtain ⟨y0, kl0, s1, s2, s3, s4, m0, rfl, hI0, hkl0, hk30⟩ := id hu
  obtain ⟨y, kl, t1, t2, t3, t4, m, rfl, hI, hkl, hk3⟩ := id hn
  obtain ⟨at_, as, rfl, hat, has⟩ := hs.tup_inv
  obtain ⟨t, w', e1, hwo⟩ : ∃ t u, as = [.int i t, .str w u] ∧ PyData.strOk w = true := by
    cases has with
    | cons a b =>
      cases b with
      | cons b c =>
        cases c
        obtain ⟨t, rfl⟩ := a.int_inv
        cases b
        exact ⟨t, _, rfl, by assumption⟩
  subst e1
  refine wDef H (fn_least_number k) rfl fun F' H' => ?_
  k_extra "in"
  repeat k_extra "w"
  have fin1 : ¬ (i = 9223372036854775808 ∧ w ∈ [S "", S "l"]) → ¬ (i = 2147483648 ∧ w = S "") → ∀ P', Le P₀ P' → Q .none ⟨fr₀, P', M₀⟩ := fun n2 n1 P' l => h _ P' l (by unfold leastD; rw [if_neg n1, if_neg n2]; exact .none)
  by_cases h1 : i = 2147483648
  · by_cases hw : w = S ""
    · subst hw
      repeat k_extra "w"
      intro b P1 l1 hb
      repeat k_extra "w"
      exact h _ P1 l1 (by unfold leastD; rw [if_pos ⟨h1, rfl⟩]; exact .tup hb (.cons (.int _ _) (.cons (.int _ _) (.cons (.int _ _) .nil))))
    · have h2 : i ≠ 9223372036854775808 := by omega
      repeat k_extra "w"
      exact fin1 (fun q => h2 q.1) (fun q => hw q.2) P₀ Le.rfl
  · by_cases h2 : i = 9223372036854775808
    · repeat k_extra "w"
      intro b P1 l1 hb
      repeat k_extra "w"
      refine oInS H' hwo (xs := [S "", S "l"]) hb (.cons (.str _ _ (strOk_of _)) (.cons (.str _ _ (strOk_of _)) .nil)) ?_
      by_cases hw : w ∈ [S "", S "l"]
      · rw [decide_eq_true hw]
        repeat k_extra "w"
        intro b2 P2 l2 hb2
        repeat k_extra "w"
        exact h _ P2 (l1.trans l2) (by unfold leastD; rw [if_neg (fun q => h1 q.1), if_pos ⟨h2, hw⟩]; exact .tup hb2 (.cons (.int _ _) (.cons (.int _ _) (.cons (.int _ _) .nil))))
      · rw [decide_eq_false hw]
        repeat k_extra "w"
        exact fin1 (fun q => hw q.2) (fun q => h1 q.1) P1 l1
    · repeat k_extra "w"
      exact fin1 (fun q => h2 q.1) (fun q => h1 q.1) P₀ Le.rfl
  ))) only [↓quiet]
theorem c_least_none (k : KF c.K) (H : Ok F D (n + 1)) {sign : Str} {ts : Tok} {ks0 : List Value} {nid0 : Int} {u : Value} {kind : Int} {av : Value} {ks : List Value} (hu : Nd P₀ u 17 (.str sign ts) (v :: ks0) nid0) (hn : Nd P₀ v kind av ks nid) (hne : sign ≠ S "-" ∨ kind ≠ 1)
    {Q : Value → St → Prop} (h : Q .none ⟨fr₀, P₀, M₀⟩) : WP F (call (.ref 897) [u]) ⟨fr₀, P₀, M₀⟩ Q := by
  refine ofQ ?_; simp (disch := (k_dflt (
  refine hold ?_
  obtain ⟨y0, kl0, s1, s2, s3, s4, m0, rfl, hI0, hkl0, hk30⟩ := id hu
  obtain ⟨y, kl, t1, t2, t3, t4, m, rfl, hI, hkl, hk3⟩ := id hn
  refine wDef H (fn_least_number k) rfl fun F' H' => ?_
  k_extra "in"
  by_cases hs : sign = S "-"
  · subst hs
    have hk : kind ≠ 1 := hne.resolve_left (fun q => q rfl)
    repeat k_extra "w"
    exact h
  · repeat k_extra "w"
    exact h
  ))) only [↓quiet]
theorem l_sign (H : Ok F D (n + 4)) (iv : BInv c W cfg P₀ σ os) {sign : Str} {ts : Tok} {kind : Int} {av : Value} {ks : List Value} (hn : Nd P₀ v kind av ks nid) {d : PyData} (hd : ((sign ≠ S "-" ∨ kind ≠ 1) ∧ d = .none) ∨ (sign = S "-" ∧ kind = 1 ∧ ∃ i w, Dt P₀ av (.tuple [.int i, .str w]) ∧ d = leastD i w))
    {Q : Value → St → Prop} (h : ∀ x P' σ' os', Le P₀ P' → Grow σ σ' 0 → BInv c W cfg P' σ' os' → Dt P' x d → Q x ⟨fr₀, P', mM W os' X⟩) : WP F (call (.ref 1080) [.ref W.w, .str sign ts, v]) ⟨fr₀, P₀, mM W os X⟩ Q := by
  refine ofQ ?_; simp (disch := (k_dflt (
  refine hold ?_
  have k := iv.iv.ks.kf
  refine wDef H (fn_law_sign k) rfl fun F' H' => ?_
  k_extra "in"
  repeat k_extra "w"
  refine wList ?_
  repeat k_extra "w"
  refine wNewListP H' (fun b P1 l1 hb => ?_) (szl rfl)
  repeat k_extra "w"
  refine b_node (n := n) (H'.le (by omega)) (iv.mono l1) (ks := [v]) hb (by simp) fun u P2 σ2 os2 l2 gr2 iv2 hu _ => ?_
  repeat k_extra "w"
  have lt := l1.trans l2
  rcases hd with ⟨hne, rfl⟩ | ⟨rfl, rfl, i, w, hi, rfl⟩
  · refine c_least_none (n := n) k (H'.le (by omega)) hu (hn.mono lt) hne ?_
    repeat k_extra "w"
    exact h _ P2 σ2 os2 lt gr2 iv2 .none
  · refine c_least_int (n := n) (av0 := .none) k (H'.le (by omega)) hu (hn.mono lt) (hi.mono lt) fun x P3 l3 hx => ?_
    repeat k_extra "w"
    exact h x P3 σ2 os2 (lt.trans l3) gr2 (iv2.mono l3) hx
  ))) only [↓quiet]
end
end
section
variable {c : Cx} {F : Frm c} {D : FnD} {n : Nat} {fr₀ : List (Str × Option Value)} {P₀ : Pset} {M₀ : List (Addr × Obj)}
inductive RowOk (P : Pset) (v : Value) : Prop
  | mk (a : Addr) (i : Int) (t : Tok) (b : Addr) (kd : Int) (u : Tok) (wv : List Value) (ws : List Str) : v = .ref a → P a (tupO [.int i t, .ref b, .int kd u]) → P b (tupO wv) → Dts P wv (List.map PyData.str ws) → (∀ w ∈ [S "", S "u", S "l", S "ul"], leastD i w = if w ∈ ws then .tuple [.int 1, .int kd, .int (-i)] else .none) → RowOk P v
theorem RowOk.mono {P P' : Pset} {v : Value} (l : Le P P') (h : RowOk P v) : RowOk P' v := by
  obtain ⟨a, i, t, b, kd, u, wv, ws, e, p, q, r, f⟩ := h
  exact ⟨a, i, t, b, kd, u, wv, ws, e, l _ _ p, l _ _ q, r.mono l, f⟩
theorem leastD_depth (i : Int) (w : Str) : (leastD i w).depth ≤ 64 := by
  unfold leastD
  split
  · simp [PyData.depth, PyData.depthAll]
  · split
    · simp [PyData.depth, PyData.depthAll]
    · simp [PyData.depth]
theorem eqv_self {P : Pset} {v : Value} {d : PyData} (h : Dt P v d) : PyData.eqv d d = true := SeqAt.eqv_refl d h.can
theorem row_1 : ∀ w ∈ [S "", S "u", S "l", S "ul"], leastD 2147483648 w = if w ∈ [S ""] then .tuple [.int 1, .int 7, .int (-2147483648)] else .none := by
  intro w hw
  simp only [List.mem_cons, List.not_mem_nil, or_false] at hw
  rcases hw with rfl | rfl | rfl | rfl <;> kernel_rfl
theorem row_2 : ∀ w ∈ [S "", S "u", S "l", S "ul"], leastD 9223372036854775808 w = if w ∈ [S "", S "l"] then .tuple [.int 1, .int 9, .int (-9223372036854775808)] else .none := by
  intro w hw
  simp only [List.mem_cons, List.not_mem_nil, or_false] at hw
  rcases hw with rfl | rfl | rfl | rfl <;> kernel_rfl
theorem row_3 : ∀ w ∈ [S "", S "u", S "l", S "ul"], leastD 2147483647 w = if w ∈ ([] : List Str) then .tuple [.int 1, .int 7, .int (-2147483647)] else .none := by
  intro w hw
  simp only [List.mem_cons, List.not_mem_nil, or_false] at hw
  rcases hw with rfl | rfl | rfl | rfl <;> kernel_rfl
section
variable {W : WL} {cfg : Cfg} {σ : Sig} {os : Os} {X : List (Addr × Obj)} {v : Value} {nid : Int}
theorem l_least (H : Ok F D (n + 5)) (iv : BInv c W cfg P₀ σ os)
    {Q : Value → St → Prop} (h : ∀ P' os', Q (.bool true) ⟨fr₀, P', mM W os' X⟩) : WP F (call (.ref 1087) [.ref W.w]) ⟨fr₀, P₀, mM W os X⟩ Q := by
  refine ofQ ?_; simp (disch := (k_dflt (
  refine hold ?_
  have k := iv.iv.ks.kf
  refine wDef H (fn_law_least k) rfl fun F' H' => ?_
  k_extra "in"
  k_extra "forT"
  repeat k_extra "w"
  intro a1 P1 l1 h1
  repeat k_extra "w"
  intro a2 P2 l2 h2
  repeat k_extra "w"
  intro a3 P3 l3 h3
  repeat k_extra "w"
  intro a4 P4 l4 h4
  repeat k_extra "w"
  intro a5 P5 l5 h5
  repeat k_extra "w"
  intro a6 P6 l6 h6
  repeat k_extra "w"
  intro a7 P7 l7 h7
  repeat k_extra "w"
  have q2 := (l3.trans (l4.trans (l5.trans (l6.trans l7)))) _ _ h2
  have q1 := (l2.trans (l3.trans (l4.trans (l5.trans (l6.trans l7))))) _ _ h1
  have q3 := (l4.trans (l5.trans (l6.trans l7))) _ _ h3
  have q4 := (l5.trans (l6.trans l7)) _ _ h4
  have q5 := (l6.trans l7) _ _ h5
  have q6 := l7 _ _ h6
  have lt := l1.trans (l2.trans (l3.trans (l4.trans (l5.trans (l6.trans l7)))))
  have hrows : ∀ v ∈ [Value.ref a2, .ref a4, .ref a6], RowOk P7 v := by
    refine all_cons ⟨a2, _, _, a1, _, _, _, [S ""], rfl, q2, q1, .cons (.str _ _ (strOk_of _)) .nil, row_1⟩ (all_cons ⟨a4, _, _, a3, _, _, _, [S "", S "l"], rfl, q4, q3, .cons (.str _ _ (strOk_of _)) (.cons (.str _ _ (strOk_of _)) .nil), row_2⟩ (all_cons ⟨a6, _, _, a5, _, _, _, [], rfl, q6, q5, .nil, row_3⟩ all_nil))
  clear h1 h2 h3 h4 h5 h6 q1 q2 q3 q4 q5 q6 l1 l2 l3 l4 l5 l6 l7
  refine OverTup.l h7 fun I => ?_
  refine (?key : ∀ (vs : List Value) (P : Pset) (σ' : Sig) (os' : Os) (d1 d2 d3 d4 d5 d6 : Option Value), (∀ v ∈ vs, RowOk P v) → Le P7 P → BInv c W cfg P σ' os' → TurnsL F' _ _ _ I vs ⟨[(Str.ofString "w", some (.ref W.w)), (Str.ofString "due", d1), (Str.ofString "inner", d2), (Str.ofString "k", d3), (Str.ofString "n", d4), (Str.ofString "word", d5), (Str.ofString "words", d6)], P, mM W os' X⟩) _ P7 σ os none none none none none none hrows Le.rfl (iv.mono lt)
  clear hrows h7 iv lt
  intro vs
  induction vs with
  | nil =>
    intro P σ os d1 d2 d3 d4 d5 d6 _ l0 iv
    refine TurnsL.nil ?_
    repeat k_extra "w"
    refine wList ?_
    repeat k_extra "w"
    refine wNewListP H' (fun b P1 l1 hb => ?_) (szl rfl)
    repeat k_extra "w"
    refine b_node (n := n) (H'.le (by lia)) (iv.mono l1) (ks := []) hb (by simp) fun u P2 σ2 os2 l2 gr2 iv2 hu _ => ?_
    repeat k_extra "w"
    refine l_sign (n := n) (H'.le (by lia)) iv2 hu (.inl ⟨.inr (by decide), rfl⟩) fun x P3 σ3 os3 l3 gr3 iv3 hx => ?_
    cases hx
    repeat k_extra "w"
    exact h P3 os3
  | cons v vs ih =>
    intro P σ os d1 d2 d3 d4 d5 d6 hrows l0 iv
    obtain ⟨a, i, t, b, kd, u, wv, ws, rfl, ha, hb, hws, hrow⟩ := hrows _ (.head _)
    refine TurnsL.cons fun o => ?_
    repeat k_extra "w"
    k_extra "forT"
    repeat k_extra "w"
    intro a8 P8 l8 h8
    repeat k_extra "w"
    refine OverTup.l h8 fun I2 => ?_
    refine (?key2 : ∀ (us : List Value) (P' : Pset) (σ' : Sig) (os' : Os) (d1 d5 : Option Value), (∀ v ∈ us, isW v) → Le P8 P' → BInv c W cfg P' σ' os' → TurnsL F' _ _ _ I2 us ⟨[(Str.ofString "w", some (.ref W.w)), (Str.ofString "due", d1), (Str.ofString "inner", d2), (Str.ofString "k", some (.int kd u)), (Str.ofString "n", some (.int i t)), (Str.ofString "word", d5), (Str.ofString "words", some (.ref b))], P', mM W os' (X ++ [(I, o)])⟩) _ P8 σ os d1 d5 (by exact words_ok) Le.rfl (iv.mono l8)
    clear h8
    intro us
    induction us with
    | nil =>
      intro P' σ' os' d1 d5 _ l9 iv'
      refine TurnsL.nil ?_
      repeat k_extra "w"
      intro b1 P1 l1 hb1
      repeat k_extra "w"
      refine wList ?_
      repeat k_extra "w"
      refine wNewListP H' (fun b2 P2 l2 hb2 => ?_) (szl rfl)
      repeat k_extra "w"
      refine b_node (n := n) (H'.le (by lia)) (iv'.mono (l1.trans l2)) (ks := []) hb2 (by simp) fun inner P3 σ3 os3 l3 gr3 iv3 hin _ => ?_
      repeat k_extra "w"
      refine l_sign (n := n) (H'.le (by lia)) iv3 hin (.inl ⟨.inl (by decide), rfl⟩) fun x P4 σ4 os4 l4 gr4 iv4 hx => ?_
      cases hx
      repeat k_extra "w"
      refine wList ?_
      repeat k_extra "w"
      refine wNewListP H' (fun b5 P5 l5 hb5 => ?_) (szl rfl)
      repeat k_extra "w"
      refine b_node (n := n) (H'.le (by lia)) (iv4.mono l5) (ks := [inner]) hb5 (by simp) fun par P6 σ6 os6 l6 gr6 iv6 hpar _ => ?_
      repeat k_extra "w"
      refine l_sign (n := n) (H'.le (by lia)) iv6 hpar (.inl ⟨.inr (by decide), rfl⟩) fun x P9 σ9 os9 l9' gr9 iv9 hx => ?_
      cases hx
      repeat k_extra "w"
      have lt := l8.trans (l9.trans (l1.trans (l2.trans (l3.trans (l4.trans (l5.trans (l6.trans l9')))))))
      refine TurnEnd.nx (M := mM W os9 X) lt ?_
      exact ih P9 σ9 os9 _ _ _ _ _ _ (fun v hv => (hrows v (.tail _ hv)).mono lt) (l0.trans lt) iv9
    | cons u us ih2 =>
      intro P' σ' os' d1 d5 hus l9 iv'
      obtain ⟨x, tx, rfl, hx⟩ := hus _ (.head _)
      have hxo := w_strOk hx
      have hr := hrow x hx
      have hdd := leastD_depth i x
      have lb := l8.trans l9
      refine TurnsL.cons fun o2 => ?_
      repeat k_extra "w"
      refine oInS H' hxo (lb _ _ hb) (hws.mono lb) ?_
      by_cases hm : x ∈ ws
      · rw [if_pos hm] at hr
        rw [decide_eq_true hm]
        repeat k_extra "w"
        intro b1 P1 l1 hb1
        repeat k_extra "w"
        intro b2 P2 l2 hb2
        repeat k_extra "w"
        refine wList ?_
        repeat k_extra "w"
        refine wNewListP H' (fun b3 P3 l3 hb3 => ?_) (szl rfl)
        repeat k_extra "w"
        refine b_node (X := X ++ [(I, o)] ++ [(I2, o2)]) (n := n) (H'.le (by lia)) (iv'.mono (l1.trans (l2.trans l3))) (ks := []) hb3 (by simp) fun nd P4 σ4 os4 l4 gr4 iv4 hnd _ => ?_
        repeat k_extra "w"
        refine l_sign (n := n) (H'.le (by lia)) iv4 hnd (.inr ⟨rfl, rfl, i, x, .tup ((l3.trans l4) _ _ hb2) (.cons (.int _ _) (.cons (.str _ _ hxo) .nil)), rfl⟩) fun y P5 σ5 os5 l5 gr5 iv5 hy => ?_
        repeat k_extra "w"
        have hdue : Dt P5 (.ref b1) (leastD i x) := by rw [hr]; exact .tup ((l2.trans (l3.trans (l4.trans l5))) _ _ hb1) (.cons (.int _ _) (.cons (.int _ _) (.cons (.int _ _) .nil)))
        refine oNeD H' hy hdue hdd hdd ?_
        rw [eqv_self hdue]
        repeat k_extra "w"
        refine TurnEnd.nx (M := mM W os5 (X ++ [(I, o)])) (l1.trans (l2.trans (l3.trans (l4.trans l5)))) ?_
        exact ih2 P5 σ5 os5 _ _ (fun v hv => hus v (.tail _ hv)) (l9.trans (l1.trans (l2.trans (l3.trans (l4.trans l5))))) iv5
      · rw [if_neg hm] at hr
        rw [decide_eq_false hm]
        repeat k_extra "w"
        intro b2 P2 l2 hb2
        repeat k_extra "w"
        refine wList ?_
        repeat k_extra "w"
        refine wNewListP H' (fun b3 P3 l3 hb3 => ?_) (szl rfl)
        repeat k_extra "w"
        refine b_node (X := X ++ [(I, o)] ++ [(I2, o2)]) (n := n) (H'.le (by lia)) (iv'.mono (l2.trans l3)) (ks := []) hb3 (by simp) fun nd P4 σ4 os4 l4 gr4 iv4 hnd _ => ?_
        repeat k_extra "w"
        refine l_sign (n := n) (H'.le (by lia)) iv4 hnd (.inr ⟨rfl, rfl, i, x, .tup ((l3.trans l4) _ _ hb2) (.cons (.int _ _) (.cons (.str _ _ hxo) .nil)), rfl⟩) fun y P5 σ5 os5 l5 gr5 iv5 hy => ?_
        repeat k_extra "w"
        have hdue : Dt P5 .none (leastD i x) := by rw [hr]; exact .none
        refine oNeD H' hy hdue hdd hdd ?_
        rw [eqv_self hdue]
        repeat k_extra "w"
        refine TurnEnd.nx (M := mM W os5 (X ++ [(I, o)])) (l2.trans (l3.trans (l4.trans l5))) ?_
        exact ih2 P5 σ5 os5 _ _ (fun v hv => hus v (.tail _ hv)) (l9.trans (l2.trans (l3.trans (l4.trans l5)))) iv5
  ))) only [↓quiet]
end
end
section
variable {c : Cx} {F : Frm c} {D : FnD} {n : Nat} {fr₀ : List (Str × Option Value)} {P₀ : Pset} {M₀ : List (Addr × Obj)}
noncomputable def Rn (i : Nat) : List RKey := (List.range i).map fun (j : Nat) => (1, (j : Int), false)
theorem Rn_succ (i : Nat) : Rn (i + 1) = Rn i ++ [(1, (i : Int), false)] := by
  unfold Rn; rw [List.range_succ, List.map_append]; rfl
theorem Rn_new (i : Nat) : (1, (i : Int), false) ∉ Rn i := by
  unfold Rn
  intro h
  obtain ⟨j, hj, e⟩ := List.mem_map.mp h
  injection e with _ e; injection e with e _
  have hj' := List.mem_range.mp hj
  have : j = i := Int.ofNat.inj e
  lia
theorem Rn_len (i : Nat) : (Rn i).length = i := by unfold Rn; simp
theorem rep_succ {α : Type} (i : Nat) (x : α) : List.replicate (i + 1) x = List.replicate i x ++ [x] := by rw [List.replicate_succ']
theorem c_KindTable (ks : KS c) (H : Ok F D (n + 2)) {Q : Value → St → Prop}
    (h : ∀ L P' o1 o2 o3 o4 o5, Le P₀ P' → KtI L P' → KtS c P' (Rn 16) (List.replicate 16 1) (List.replicate 16 1) (List.replicate 16 0) o1 o2 o3 o4 o5 → Q (.ref L.kt) ⟨fr₀, P', M₀ ++ [(L.r, o1), (L.i, o2), (L.d, o3), (L.w, o4), (L.o, o5)]⟩) :
    WP F (call (.ref 109) []) ⟨fr₀, P₀, M₀⟩ Q := by
  refine ofQ ?_; simp (disch := (k_dflt (
  refine hold ?_
  have k := ks.kf
  refine wMake H k.i_KindTable.1 k.i_KindTable.2.1 k.i_KindTable.2.2 (fn_KindTable_init k) rfl fun x dx P1 l1 hx F' H' => ?_
  k_extra "in"
  repeat k_extra "w"
  refine wList ?_
  repeat k_extra "w"
  refine wNewListM (fun r => ?_) (szl rfl)
  repeat k_extra "w"
  refine wDict0 H' fun i hlo => ?_
  repeat k_extra "w"
  refine wList ?_
  repeat k_extra "w"
  refine wNewListM (fun d => ?_) (szl rfl)
  repeat k_extra "w"
  refine wList ?_
  repeat k_extra "w"
  refine wNewListM (fun w => ?_) (szl rfl)
  repeat k_extra "w"
  refine wList ?_
  repeat k_extra "w"
  refine wNewListM (fun op => ?_) (szl rfl)
  repeat ((fail_if_success guard_target = WP _ (exec (Stmt.For _ _ _ _ _) _) _ _); k_extra "w")
  simp only [List.append_assoc, List.cons_append, List.nil_append]
  k_extra "forR"
  repeat k_extra "w"
  refine wRange H' fun ra t' u' P2 l2 hra => ?_
  refine OverRange.mk (k := 16) hra (by decide) fun I => ?_
  rename_i od hod
  have hks0 : KtS c P2 (Rn 0) (List.replicate 0 1) (List.replicate 0 1) (List.replicate 0 0) (listOf #[] 0) (dictOf [] 0) (listOf #[] 0) (listOf #[] 0) (listOf #[] 0) :=
    ⟨⟨[], 0, rfl, .nil⟩, ⟨[], HTab.empty, rfl, .nil⟩, ⟨[], 0, rfl, .nil⟩, ⟨[], 0, rfl, .nil⟩, ⟨[], 0, rfl, .nil⟩, rfl, rfl, rfl, Nat.zero_le _, List.nodup_nil⟩
  refine (?key : ∀ (j q : Nat) (P : Pset) (o1 o2 o3 o4 o5 : Obj) (c1 c2 : Option Value), q + j = 16 → Le P2 P → KtS c P (Rn q) (List.replicate q 1) (List.replicate q 1) (List.replicate q 0) o1 o2 o3 o4 o5 → Turns F' _ _ _ I _ j q ⟨[(Str.ofString "self", some (Value.ref x)), (Str.ofString "number", c1), (Str.ofString "row", c2)], P, M₀ ++ [(dx, od), (r, o1), (i, o2), (d, o3), (w, o4), (op, o5)]⟩) 16 0 P2 _ _ _ _ _ none none rfl Le.rfl hks0
  clear hks0
  intro j
  induction j with
  | zero =>
    intro q P o1 o2 o3 o4 o5 c1 c2 hq l3 hk
    have hq : q = 16 := hq
    subst hq
    refine Turns.z ?_
    k_extra "w"
    refine WP.freeze H' (show Mdel dx od (M₀ ++ [(dx, od), (r, o1), (i, o2), (d, o3), (w, o4), (op, o5)]) (M₀ ++ [(r, o1), (i, o2), (d, o3), (w, o4), (op, o5)]) from .ap .hd) fun P4 l4 hd => ?_
    repeat k_extra "w"
    refine ⟨rfl, ?_⟩
    have lt := l1.trans (l2.trans (l3.trans l4))
    exact h ⟨x, r, i, d, w, op⟩ P4 o1 o2 o3 o4 o5 lt ⟨⟨⟨dx, od, (l2.trans (l3.trans l4)) _ _ hx, hd, hod⟩⟩, hlo⟩ (hk.mono l4)
  | succ j ih =>
    intro q P o1 o2 o3 o4 o5 c1 c2 hq l3 hk
    refine Turns.s fun v oI hv => ?_
    obtain ⟨tv, rfl⟩ := hv
    have hxP := (l2.trans l3) _ _ hx
    obtain ⟨xs, hx2, hxs, hxd⟩ := hk.idx
    obtain ⟨v1, m1, rfl, d1⟩ := hk.rows
    obtain ⟨v3, m3, rfl, d3⟩ := hk.dep
    obtain ⟨v4, m4, rfl, d4⟩ := hk.wei
    obtain ⟨v5, m5, rfl, d5⟩ := hk.opn
    have e1 : v1.length = q := by simpa [Rn_len] using d1.length
    have e3 : v3.length = q := by simpa using d3.length
    have e4 : v4.length = q := by simpa using d4.length
    have e5 : v5.length = q := by simpa using d5.length
    have hxl : xs.length = q := by rw [← Rn_len q, ← hxs]; simp
    repeat k_extra "w"
    intro ar P4 l4 har
    repeat k_extra "w"
    refine' sItemH (room_row H') (fun o' => ?U) (hx2.mono l4) (key_row2 har) (atKey_none hxs (Rn_new q)) (fun o2' hx2' => ?_) (by rw [sizeLine_eq]; lia)
    case U => k_extra "mp"
    repeat k_extra "w"
    refine TurnEnd.nx (M := M₀ ++ [(dx, od), (r, listOf (v1.toArray.push (.ref ar)) (m1 + 1)), (i, o2'), (d, listOf (v3.toArray.push (.int 1 _)) (m3 + 1)), (w, listOf (v4.toArray.push (.int 1 _)) (m4 + 1)), (op, listOf (v5.toArray.push (.int 0 _)) (m5 + 1))]) l4 ?_
    refine ih (q + 1) P4 _ _ _ _ _ _ _ (by lia) (l3.trans l4) ?_
    rw [Rn_succ, rep_succ, rep_succ]
    exact (hk.mono l4).push (d := 1) (w := 1) (o := 0) (r := (1, (q : Int), false)) (v := .ref ar) (a := ar) (t1 := tv) (o2' := o2') (d1.mono l4) (d3.mono l4) (d4.mono l4) (d5.mono l4) hxs (hxd.mono l4) (by rw [Rn_len]; exact hx2') (.tup har (.cons (.int _ _) (.cons (.int _ _) .nil))) (Rn_new q) (by rw [Rn_len]; lia)
  ))) only [↓quiet]
end
section
variable {c : Cx} {F : Frm c} {D : FnD} {n : Nat} {fr₀ : List (Str × Option Value)} {P₀ : Pset} {M₀ : List (Addr × Obj)}
theorem c_Store (ks : KS c) (H : Ok F D (n + 4)) {Q : Value → St → Prop}
    (h : ∀ x L rest P' o1 o2 o3 o4 o5, Le P₀ P' → Ins P' x 980 ((S "kt", .ref L.kt) :: rest) → KtI L P' → KtS c P' (Rn 16) (List.replicate 16 1) (List.replicate 16 1) (List.replicate 16 0) o1 o2 o3 o4 o5 → Q (.ref x) ⟨fr₀, P', M₀ ++ [(L.r, o1), (L.i, o2), (L.d, o3), (L.w, o4), (L.o, o5)]⟩) :
    WP F (call (.ref 980) []) ⟨fr₀, P₀, M₀⟩ Q := by
  refine ofQ ?_; simp (disch := (k_dflt (
  refine hold ?_
  have k := ks.kf
  refine wMake H k.i_Store.1 k.i_Store.2.1 k.i_Store.2.2 (fn_Store_init k) rfl fun x dx P1 l1 hx F' H' => ?_
  k_extra "in"
  repeat k_extra "w"
  refine c_KindTable (n := n + 1) ks H' fun L P2 o1 o2 o3 o4 o5 l2 hKI hK => ?_
  repeat k_extra "w"
  refine wList ?_
  repeat k_extra "w"
  refine wNewListP H' (fun b1 P3 l3 hb1 => ?_) (szl rfl)
  repeat k_extra "w"
  refine wList ?_
  repeat k_extra "w"
  refine wNewListP H' (fun b2 P4 l4 hb2 => ?_) (szl rfl)
  repeat k_extra "w"
  refine wList ?_
  repeat k_extra "w"
  refine wNewListP H' (fun b9 P9 l9 hb9 => ?_) (szl rfl)
  repeat k_extra "w"
  refine wDict0P H' fun b3 P5 hlo3 l5 hb3 => ?_
  repeat k_extra "w"
  refine wList ?_
  repeat k_extra "w"
  refine wNewListP H' (fun b4 P6 l6 hb4 => ?_) (szl rfl)
  repeat ((fail_if_success guard_target = WP _ (execs [] _) _ _); k_extra "w")
  refine WP.freeze H' (Mdel.pa (mdel_last dx _ M₀)) fun P7 l7 hd => ?_
  repeat k_extra "w"
  refine ⟨rfl, ?_⟩
  have lt := l3.trans (l4.trans (l9.trans (l5.trans (l6.trans l7))))
  exact h x L _ P7 o1 o2 o3 o4 o5 (l1.trans (l2.trans lt)) ⟨⟨dx, _, (l2.trans lt) _ _ hx, hd, by assumption⟩⟩ (hKI.mono lt) (hK.mono lt)
  ))) only [↓quiet]
theorem c_Diags (k : KF c.K) (H : Ok F D (n + 1)) {Q : Value → St → Prop}
    (h : ∀ x dg P', Le P₀ P' → Ins P' x 247 [(S "rows", .ref dg)] → Q (.ref x) ⟨fr₀, P', M₀ ++ [(dg, listOf #[] 0)]⟩) : WP F (call (.ref 247) []) ⟨fr₀, P₀, M₀⟩ Q := by
  refine ofQ ?_; simp (disch := (k_dflt (
  refine hold ?_
  refine wMake H k.i_Diags.1 k.i_Diags.2.1 k.i_Diags.2.2 (fn_Diags_init k) rfl fun x dx P1 l1 hx F' H' => ?_
  k_extra "in"
  repeat k_extra "w"
  refine wList ?_
  repeat k_extra "w"
  refine wNewListM (fun dg => ?_) (szl rfl)
  repeat ((fail_if_success guard_target = WP _ (execs [] _) _ _); k_extra "w")
  refine WP.freeze H' (Mdel.pa (mdel_last dx _ M₀)) fun P7 l7 hd => ?_
  repeat k_extra "w"
  refine ⟨rfl, ?_⟩
  exact h x dg P7 (l1.trans l7) ⟨⟨dx, _, l7 _ _ hx, hd, by assumption⟩⟩
  ))) only [↓quiet]
theorem c_Unit (k : KF c.K) (H : Ok F D (n + 2)) {store asm : Value} {Q : Value → St → Prop}
    (h : ∀ x dgi dg fs P', Le P₀ P' → Ins P' x 268 fs → At (S "store") store fs → At (S "diags") (.ref dgi) fs → Ins P' dgi 247 [(S "rows", .ref dg)] → Q (.ref x) ⟨fr₀, P', M₀ ++ [(dg, listOf #[] 0)]⟩) : WP F (call (.ref 268) [store, asm]) ⟨fr₀, P₀, M₀⟩ Q := by
  refine ofQ ?_; simp (disch := (k_dflt (
  refine hold ?_
  refine wMake H k.i_Unit.1 k.i_Unit.2.1 k.i_Unit.2.2 (fn_Unit_init k) rfl fun x dx P1 l1 hx F' H' => ?_
  k_extra "in"
  repeat k_extra "w"
  refine wList ?_
  repeat k_extra "w"
  refine wNewListP H' (fun b1 P3 l3 hb1 => ?_) (szl rfl)
  repeat k_extra "w"
  refine wList ?_
  repeat k_extra "w"
  refine wNewListP H' (fun b2 P4 l4 hb2 => ?_) (szl rfl)
  repeat k_extra "w"
  refine wDict0P H' fun b3 P5 hlo3 l5 hb3 => ?_
  repeat k_extra "w"
  refine c_Diags (n := n) k H' fun dgi dg P6 l6 hdi => ?_
  repeat k_extra "w"
  refine wDict0P H' fun b4 P7 hlo4 l7 hb4 => ?_
  repeat k_extra "w"
  refine wDict0P H' fun b5 P8 hlo5 l8 hb5 => ?_
  repeat k_extra "w"
  refine wDict0P H' fun b6 P9 hlo6 l9 hb6 => ?_
  repeat ((fail_if_success guard_target = WP _ (execs [] _) _ _); k_extra "w")
  refine WP.freeze H' (Mdel.pa (mdel_last dx _ M₀)) fun PA lA hd => ?_
  repeat k_extra "w"
  refine ⟨rfl, ?_⟩
  have l69 := l7.trans (l8.trans (l9.trans lA))
  have lt := l3.trans (l4.trans (l5.trans (l6.trans l69)))
  exact h x dgi dg _ PA (l1.trans lt) ⟨⟨dx, _, lt _ _ hx, hd, by assumption⟩⟩ (by k_extra "at") (by k_extra "at") (hdi.mono l69)
  ))) only [↓quiet]
theorem c_Turner (k : KF c.K) (H : Ok F D (n + 1)) {Q : Value → St → Prop}
    (h : ∀ x dx o a1 a2 a3 a4 P', Le P₀ P' → P' x (instObj 481 dx) → IsFld o [(S "goes", a1), (S "sames", a2), (S "unders", a3), (S "inners", a4)] → Q (.ref x) ⟨fr₀, P', M₀ ++ [(dx, o)]⟩) : WP F (call (.ref 481) []) ⟨fr₀, P₀, M₀⟩ Q := by
  refine ofQ ?_; simp (disch := (k_dflt (
  refine hold ?_
  refine wMake H k.i_Turner.1 k.i_Turner.2.1 k.i_Turner.2.2 (fn_Turner_init k) rfl fun x dx P1 l1 hx F' H' => ?_
  k_extra "in"
  repeat k_extra "w"
  refine wDict0P H' fun b3 P5 hlo3 l5 hb3 => ?_
  repeat k_extra "w"
  refine wDict0P H' fun b4 P7 hlo4 l7 hb4 => ?_
  repeat k_extra "w"
  refine wDict0P H' fun b5 P8 hlo5 l8 hb5 => ?_
  repeat k_extra "w"
  refine wDict0P H' fun b6 P9 hlo6 l9 hb6 => ?_
  repeat k_extra "w"
  refine ⟨rfl, ?_⟩
  have lt := l5.trans (l7.trans (l8.trans l9))
  exact h x dx _ _ _ _ _ P9 (l1.trans lt) (lt _ _ hx) (by assumption)
  ))) only [↓quiet]
theorem c_TableRule (k : KF c.K) (H : Ok F D (n + 1)) {rows : Value} {Q : Value → St → Prop}
    (h : ∀ x P', Le P₀ P' → Ins P' x 317 [(S "rows", rows)] → Q (.ref x) ⟨fr₀, P', M₀⟩) : WP F (call (.ref 317) [rows]) ⟨fr₀, P₀, M₀⟩ Q := by
  refine ofQ ?_; simp (disch := (k_dflt (
  refine hold ?_
  refine wMake H k.i_TableRule.1 k.i_TableRule.2.1 k.i_TableRule.2.2 (fn_TableRule_init k) rfl fun x dx P1 l1 hx F' H' => ?_
  k_extra "in"
  repeat ((fail_if_success guard_target = WP _ (execs [] _) _ _); k_extra "w")
  refine WP.freeze H' (mdel_last dx _ M₀) fun P7 l7 hd => ?_
  repeat k_extra "w"
  refine ⟨rfl, ?_⟩
  exact h x P7 (l1.trans l7) ⟨⟨dx, _, l7 _ _ hx, hd, by assumption⟩⟩
  ))) only [↓quiet]
theorem c_TruthRule (k : KF c.K) (H : Ok F D (n + 1)) {v : Value} {Q : Value → St → Prop}
    (h : ∀ x P', Le P₀ P' → Ins P' x 862 [(S "value", v)] → Q (.ref x) ⟨fr₀, P', M₀⟩) : WP F (call (.ref 862) [v]) ⟨fr₀, P₀, M₀⟩ Q := by
  refine ofQ ?_; simp (disch := (k_dflt (
  refine hold ?_
  refine wMake H k.i_TruthRule.1 k.i_TruthRule.2.1 k.i_TruthRule.2.2 (fn_TruthRule_init k) rfl fun x dx P1 l1 hx F' H' => ?_
  k_extra "in"
  repeat ((fail_if_success guard_target = WP _ (execs [] _) _ _); k_extra "w")
  refine WP.freeze H' (mdel_last dx _ M₀) fun P7 l7 hd => ?_
  repeat k_extra "w"
  refine ⟨rfl, ?_⟩
  exact h x P7 (l1.trans l7) ⟨⟨dx, _, l7 _ _ hx, hd, by assumption⟩⟩
  ))) only [↓quiet]
end
section
variable {c : Cx} {F : Frm c} {D : FnD} {n : Nat} {fr₀ : List (Str × Option Value)} {P₀ : Pset} {M₀ : List (Addr × Obj)}
theorem c_Seat (k : KF c.K) (H : Ok F D (n + 2)) {un st : Addr} {dga kta : Addr} {asm host : Value} {fsU rest : List (Str × Value)} (hU : Ins P₀ un 268 fsU) (hUs : At (S "store") (.ref st) fsU) (hUd : At (S "diags") (.ref dga) fsU) (hS : Ins P₀ st 980 ((S "kt", .ref kta) :: rest)) {Q : Value → St → Prop}
    (h : ∀ x dx o fs ex ty tu tud otu a1 a2 a3 a4 fi P', Le P₀ P' → P' x (instObj 710 dx) → IsFld o fs → fs.map (·.1) = cxKeys → At (S "kt") (.ref kta) fs → At (S "diags") (.ref dga) fs → At (S "exprs") (.ref ex) fs → At (S "types") (.ref ty) fs → At (S "turner") (.ref tu) fs → At (S "fitter") (.ref fi) fs →
      (∃ v, At (S "kinds") v fs) → (∃ v, At (S "checked") v fs) → (∃ t, At (S "deep") (.int 0 t) fs) → (∃ t, At (S "at") (.int 0 t) fs) → Lo ex → Lo ty → P' tu (instObj 481 tud) → IsFld otu [(S "goes", a1), (S "sames", a2), (S "unders", a3), (S "inners", a4)] → Ins P' fi 502 [] →
      Q (.ref x) ⟨fr₀, P', M₀ ++ [(dx, o), (ex, dictOf [] 0), (ty, dictOf [] 0), (tud, otu)]⟩) : WP F (call (.ref 710) [.ref un, asm, host]) ⟨fr₀, P₀, M₀⟩ Q := by
  refine ofQ ?_; simp (disch := (k_dflt (
  refine hold ?_
  refine wMake H k.i_Seat.1 k.i_Seat.2.1 k.i_Seat.2.2 (fn_Seat_init k) rfl fun x dx P1 l1 hx F' H' => ?_
  have hU := hU.mono l1
  have hS := hS.mono l1
  k_extra "in"
  repeat k_extra "w"
  refine wDict0P H' fun b2 P2 hlo2 l2 hb2 => ?_
  repeat k_extra "w"
  refine wDict0P H' fun b3 P3 hlo3 l3 hb3 => ?_
  repeat k_extra "w"
  refine wList ?_
  repeat k_extra "w"
  refine wNewListP H' (fun b4 P4 l4 hb4 => ?_) (szl rfl)
  repeat k_extra "w"
  refine wDict0 H' fun ex hlox => ?_
  repeat k_extra "w"
  refine wDict0P H' fun b6 P6 hlo6 l6 hb6 => ?_
  repeat k_extra "w"
  refine wDict0 H' fun ty hloy => ?_
  repeat k_extra "w"
  refine wList ?_
  repeat k_extra "w"
  refine wNewListP H' (fun b8 P8 l8 hb8 => ?_) (szl rfl)
  repeat k_extra "w"
  refine wList ?_
  repeat k_extra "w"
  refine wNewListP H' (fun b9 P9 l9 hb9 => ?_) (szl rfl)
  repeat k_extra "w"
  refine wDict0P H' fun b10 P10 hlo10 l10 hb10 => ?_
  repeat k_extra "w"
  refine wList ?_
  repeat k_extra "w"
  refine wNewListP H' (fun b11 P11 l11 hb11 => ?_) (szl rfl)
  repeat k_extra "w"
  refine wDict0P H' fun b12 P12 hlo12 l12 hb12 => ?_
  repeat k_extra "w"
  refine wList ?_
  repeat k_extra "w"
  refine wNewListP H' (fun b13 P13 l13 hb13 => ?_) (szl rfl)
  repeat k_extra "w"
  refine wMake0 H' k.i_Judge.1 k.i_Judge.2 fun b14 P14 l14 hb14 => ?_
  repeat k_extra "w"
  refine c_Turner (n := n) k H' fun tu tud otu a1 a2 a3 a4 P15 l15 htu hotu => ?_
  repeat k_extra "w"
  refine wMake0 H' k.i_Fitter.1 k.i_Fitter.2 fun fi P16 l16 hfi => ?_
  repeat k_extra "w"
  refine wMake0 H' k.i_Keeper.1 k.i_Keeper.2 fun b17 P17 l17 hb17 => ?_
  repeat k_extra "w"
  refine wDict0P H' fun b18 P18 hlo18 l18 hb18 => ?_
  repeat k_extra "w"
  refine ⟨rfl, ?_⟩
  simp only [List.append_assoc, List.cons_append, List.nil_append]
  have lt := l2.trans (l3.trans (l4.trans (l6.trans (l8.trans (l9.trans (l10.trans (l11.trans (l12.trans (l13.trans (l14.trans (l15.trans (l16.trans (l17.trans (l18))))))))))))))
  have ltu := l16.trans (l17.trans (l18))
  have lfi := l17.trans (l18)
  exact h x dx _ _ ex ty tu tud otu a1 a2 a3 a4 fi _ (l1.trans lt) (lt _ _ hx) (by assumption) (by kernel_rfl) (by k_extra "at") (by k_extra "at") (by k_extra "at") (by k_extra "at") (by k_extra "at") (by k_extra "at") ⟨_, by k_extra "at"⟩ ⟨_, by k_extra "at"⟩ ⟨_, by k_extra "at"⟩ ⟨_, by k_extra "at"⟩ hlox hloy (ltu _ _ htu) hotu (hfi.mono lfi)
  ))) only [↓quiet]
end
section
variable {c : Cx} {F : Frm c} {D : FnD} {n : Nat} {fr₀ : List (Str × Option Value)} {P₀ : Pset} {M₀ : List (Addr × Obj)}
noncomputable def isF (x : PyData) : Prop := ∃ n at_ ws, x = flt n at_ ws ∧ PyData.depthAll ws = 0
theorem isF.dp {x : PyData} (h : isF x) : x.depth ≤ 2 := by
  obtain ⟨n, a, ws, rfl, h⟩ := h
  simp [flt, PyData.depth, PyData.depthAll, h]
theorem isF0 (n a : Int) : isF (flt n a []) := ⟨n, a, [], rfl, by simp [PyData.depthAll]⟩
noncomputable def Ex.dp (e : Ex) : Nat := PyData.depthAll e.r
theorem Ex.dp_data (e : Ex) : e.data.depth = e.dp + 1 := by simp [Ex.data, Ex.dp, PyData.depth, PyData.depthAll]
theorem bad_dp : badE.dp = 0 := by simp [Ex.dp, badE, PyData.depthAll, PyData.depth]
theorem conv_dp {c : Cfg} {e : Ex} {k at_ : Int} : (conv c e k at_).1.dp ≤ e.dp + 1 ∧ ∀ x ∈ (conv c e k at_).2, isF x := by
  refine ofQ ?_; simp (disch := (k_dflt (
  refine hold ?_
  unfold conv
  by_cases h : e.k = k ∨ e.k = 15
  · rw [if_pos h]; exact ⟨Nat.le_succ _, fun _ h => nomatch h⟩
  · rw [if_neg h]
    cases c.goes.lookup (e.k, k) with
    | some cv =>
      refine ⟨?_, fun _ h => nomatch h⟩
      show PyData.depthAll [e.data, .int cv, .int c.chk] ≤ e.dp + 1
      simp [PyData.depthAll, PyData.depth, Ex.dp_data]
    | none =>
      refine ⟨by show badE.dp ≤ _; rw [bad_dp]; exact Nat.zero_le _, fun x hx => ?_⟩
      have : x = flt 29 at_ [shown e.k, shown k] := by simpa using hx
      exact ⟨_, _, _, this, by simp [PyData.depthAll, shown, PyData.depth]⟩
  ))) only [↓quiet]
theorem rdInt_dp {n : Int} {w : Str} {at_ : Int} : (rdInt n w at_).1.dp ≤ 0 ∧ ∀ x ∈ (rdInt n w at_).2, isF x := by
  refine ofQ ?_; simp (disch := (k_dflt (
  refine hold ?_
  unfold rdInt
  cases firstK n w with
  | some k => exact ⟨Nat.le_of_ble_eq_true rfl, fun _ h => nomatch h⟩
  | none =>
    refine ⟨by show badE.dp ≤ 0; rw [bad_dp]; exact Nat.le_refl _, fun x hx => ?_⟩
    have : x = flt 1021 at_ [] := by simpa using hx
    exact this ▸ isF0 _ _
  ))) only [↓quiet]
theorem rdDef_dp {c : Cfg} {k at_ : Int} : (rdDef c k at_).1.dp ≤ 1 ∧ ∀ x ∈ (rdDef c k at_).2, isF x := by
  refine ofQ ?_; simp (disch := (k_dflt (
  refine hold ?_
  unfold rdDef
  by_cases h : isRefK k = true
  · rw [if_pos h]
    have := conv_dp (c := c) (e := ⟨1, 14, [.none]⟩) (k := k) (at_ := at_)
    exact ⟨Nat.le_trans this.1 (by simp [Ex.dp, PyData.depthAll, PyData.depth]), this.2⟩
  · rw [if_neg h]
    by_cases h' : (1 ≤ k ∧ k ≤ 10) ∨ k = 18
    · rw [if_pos h']; exact ⟨Nat.le_of_ble_eq_true rfl, fun _ h => nomatch h⟩
    · rw [if_neg h']; exact ⟨Nat.le_of_ble_eq_true rfl, fun _ h => nomatch h⟩
  ))) only [↓quiet]
theorem rdLeaf_dp {c : Cfg} {P : Pset} {rk : List (Int × Value)} {v : Value} {nid : Int} {f : Leaf} (hf : LfIs P rk v nid f) {at_ k : Int} : (rdLeaf c f at_ k).1.dp ≤ 1 ∧ ∀ x ∈ (rdLeaf c f at_ k).2, isF x := by
  refine ofQ ?_; simp (disch := (k_dflt (
  refine hold ?_
  cases hf with
  | int => exact ⟨Nat.le_trans rdInt_dp.1 (by lia), rdInt_dp.2⟩
  | text => exact ⟨Nat.le_of_ble_eq_true rfl, fun _ h => nomatch h⟩
  | chr => exact ⟨Nat.le_of_ble_eq_true rfl, fun _ h => nomatch h⟩
  | tru => exact ⟨Nat.le_of_ble_eq_true rfl, fun _ h => nomatch h⟩
  | fls => exact ⟨Nat.le_of_ble_eq_true rfl, fun _ h => nomatch h⟩
  | null => exact ⟨Nat.le_of_ble_eq_true rfl, fun _ h => nomatch h⟩
  | dflt => exact rdDef_dp
  | name hn hx he hs hb =>
    obtain ⟨i, hi, _⟩ := hs
    exact ⟨by simp [rdLeaf, Ex.dp, hi, PyData.depthAll, PyData.depth], fun _ h => nomatch h⟩
  ))) only [↓quiet]
theorem idxN_dp {c : Cfg} {e : Ex} {at_ : Int} : (idxN c e at_).1.dp ≤ e.dp + 1 ∧ ∀ x ∈ (idxN c e at_).2, isF x := by
  refine ofQ ?_; simp (disch := (k_dflt (
  refine hold ?_
  unfold idxN
  by_cases h : e.k = 8 ∨ e.k = 9 ∨ e.k = 10
  · rw [if_pos h]
    by_cases h' : e.s = 1 ∧ e.n ≤ 2147483647
    · rw [if_pos h']; exact ⟨Nat.le_of_ble_eq_true rfl, fun _ h => nomatch h⟩
    · rw [if_neg h']; exact ⟨by
        show PyData.depthAll [e.data, .int 1, .int 1] ≤ e.dp + 1
        simp [PyData.depthAll, PyData.depth, Ex.dp_data], fun _ h => nomatch h⟩
  · rw [if_neg h]; exact conv_dp
  ))) only [↓quiet]
theorem app_isF {a b : List PyData} (h : ∀ x ∈ a, isF x) (k : ∀ x ∈ b, isF x) : ∀ x ∈ a ++ b, isF x := fun x hx => (List.mem_append.mp hx).elim (h x) (k x)
theorem rdSize_dp {c : Cfg} {P : Pset} {rk : List (Int × Value)} {v : Value} {nid : Int} {f : Leaf} (hf : LfIs P rk v nid f) (hd : f ≠ .dflt) {at_ : Int} : (rdSize c f at_).1.dp ≤ 2 ∧ ∀ x ∈ (rdSize c f at_).2, isF x := by
  refine ofQ ?_; simp (disch := (k_dflt (
  refine hold ?_
  rw [rdSize_eq (leaf_ok (cfg := c) hf hd).1]
  have h1 := rdLeaf_dp (c := c) hf (at_ := at_) (k := -1)
  have h2 := idxN_dp (c := c) (e := (rdLeaf c f at_ (-1)).1) (at_ := at_)
  split
  · exact ⟨by show badE.dp ≤ 2; rw [bad_dp]; lia, app_isF (app_isF h1.2 h2.2) fun x hx => by
      have : x = flt 248 at_ [] := by simpa using hx
      exact this ▸ isF0 _ _⟩
  · exact ⟨by have := h1.1; have := h2.1; show (idxN _ _ _).1.dp ≤ 2; lia, app_isF h1.2 h2.2⟩
  ))) only [↓quiet]
noncomputable def fcap : Nat → Nat
  | 0 => 1
  | d + 1 => 4 + 3 * (fcap d + 1)
theorem map_dp : ∀ {xs : List Ex} {m : Nat}, (∀ x ∈ xs, x.dp ≤ m) → PyData.depthAll (xs.map Ex.data) ≤ m + 1
  | [], _, _ => by simp [PyData.depthAll]
  | x :: xs, m, h => by
    have h1 := h x (.head _)
    have h2 := map_dp (xs := xs) (m := m) fun y hy => h y (.tail _ hy)
    rw [List.map_cons]
    simp only [PyData.depthAll, Ex.dp_data]
    lia
theorem closeArr_dp {kd at_ : Int} {sz : Option Ex} {xs : List Ex} {m : Nat} (h : ∀ x ∈ xs, x.dp ≤ m) : (closeArr kd at_ sz xs).1.dp ≤ m + 2 ∧ (∀ x ∈ (closeArr kd at_ sz xs).2, isF x) ∧ (closeArr kd at_ sz xs).2.length ≤ 1 := by
  refine ofQ ?_; simp (disch := (k_dflt (
  refine hold ?_
  have hm := map_dp h
  have lit : (⟨11, kd, [.tuple (xs.map Ex.data)]⟩ : Ex).dp ≤ m + 2 := by
    show PyData.depthAll [.tuple (xs.map Ex.data)] ≤ m + 2
    simp only [PyData.depthAll, PyData.depth]
    lia
  unfold closeArr
  cases sz with
  | none => exact ⟨lit, (fun _ h => nomatch h), Nat.zero_le _⟩
  | some s =>
    dsimp only
    by_cases h1 : s.s ≠ 1
    · rw [if_pos h1]
      exact ⟨by show badE.dp ≤ _; rw [bad_dp]; exact Nat.zero_le _, fun x hx => by have : x = flt 150 at_ [] := by simpa using hx
                                                                                   exact this ▸ isF0 _ _, Nat.le_refl _⟩
    · rw [if_neg h1]
      by_cases h2 : s.n ≠ xs.length
      · rw [if_pos h2]
        exact ⟨by show badE.dp ≤ _; rw [bad_dp]; exact Nat.zero_le _, fun x hx => by have : x = flt 847 at_ [.int s.n] := by simpa using hx
                                                                                     exact ⟨_, _, _, this, by simp [PyData.depthAll, PyData.depth]⟩, Nat.le_refl _⟩
      · rw [if_neg h2]; exact ⟨lit, (fun _ h => nomatch h), Nat.zero_le _⟩
  ))) only [↓quiet]
theorem finI_good {cfg : Cfg} {rec : Tr → Int → List Int → Ex × List PyData × List Int} {k kd at_ : Int} {sz : Option Ex} {m f : Nat} : ∀ {ts : List Tr} (acc : List Ex) (A : List Int), (∀ t ∈ ts, ∀ A, (rec t k A).1.dp ≤ m ∧ (∀ x ∈ (rec t k A).2.1, isF x) ∧ (rec t k A).2.1.length ≤ f) → (∀ x ∈ acc, x.dp ≤ m + 1) →
    (finI cfg rec k kd at_ sz ts acc A).1.dp ≤ m + 3 ∧ (∀ x ∈ (finI cfg rec k kd at_ sz ts acc A).2.1, isF x) ∧ (finI cfg rec k kd at_ sz ts acc A).2.1.length ≤ 1 + ts.length * (f + 1)
  | [], acc, A, _, ha => by
    have := closeArr_dp (kd := kd) (at_ := at_) (sz := sz) (m := m + 1) ha
    exact ⟨this.1, this.2.1, by simpa [finI] using this.2.2⟩
  | t :: ts, acc, A, h, ha => by
    obtain ⟨h1, h2, h3⟩ := h t (.head _) A
    have hc := conv_dp (c := cfg) (e := (rec t k A).1) (k := k) (at_ := 100 + t.nid)
    have hcl := conv_len (c := cfg) (e := (rec t k A).1) (k := k) (at_ := 100 + t.nid)
    unfold finI
    by_cases hb : (conv cfg (rec t k A).1 k (100 + t.nid)).1.k = 15
    · rw [if_pos hb]
      refine ⟨by have := hc.1; show (conv _ _ _ _).1.dp ≤ m + 3; lia, app_isF h2 hc.2, ?_⟩
      show (_ ++ _ : List PyData).length ≤ _
      rw [List.length_append, List.length_cons, Nat.succ_mul]
      lia
    · rw [if_neg hb]
      have ih := finI_good (cfg := cfg) (rec := rec) (k := k) (kd := kd) (at_ := at_) (sz := sz) (m := m) (f := f) (ts := ts) (acc ++ [(conv cfg (rec t k A).1 k (100 + t.nid)).1]) (rec t k A).2.2 (fun u hu => h u (.tail _ hu)) fun x hx => by
        rcases List.mem_append.mp hx with hx | hx
        · exact ha x hx
        · have : x = (conv cfg (rec t k A).1 k (100 + t.nid)).1 := by simpa using hx
          rw [this]; have := hc.1; lia
      refine ⟨ih.1, app_isF (app_isF h2 hc.2) ih.2.1, ?_⟩
      show (_ ++ _ ++ _ : List PyData).length ≤ _
      have i3 := ih.2.2
      rw [List.length_append, List.length_append, List.length_cons, Nat.succ_mul]
      lia
theorem sizeOf_good {c : Cfg} {P : Pset} {rk : List (Int × Value)} {sv : Value} {size : Option (Int × Leaf)} (h : SzIs P rk sv size) : (∀ e, (sizeOf c size).1 = some e → e.dp ≤ 2) ∧ (∀ x ∈ (sizeOf c size).2, isF x) ∧ (sizeOf c size).2.length ≤ 3 := by
  refine ofQ ?_; simp (disch := (k_dflt (
  refine hold ?_
  cases h with
  | none => exact ⟨(fun _ h => by cases h), (fun _ h => by cases h), Nat.zero_le _⟩
  | some hf hnd =>
    rename_i nid f
    refine ⟨fun e he => ?_, (rdSize_dp hf hnd).2, rdSize_len (leaf_ok (cfg := c) hf hnd).1⟩
    have h1 := (rdSize_dp (c := c) hf hnd (at_ := 100 + nid)).1
    have he' : (rdSize c f (100 + nid)).1 = e := Option.some.inj he
    rw [← he']; exact h1
  ))) only [↓quiet]
theorem TrsIs.mem {P : Pset} {rk : List (Int × Value)} {d : Nat} {vs : List Value} {ts : List Tr} (h : TrsIs P rk d vs ts) : ∀ t ∈ ts, ∃ v, TrIs P rk d v t :=
  TrsIs.rec (motive_1 := fun _ _ _ _ => True) (motive_2 := fun _ _ _ _ => True) (motive_3 := fun d _ ts _ => ∀ t ∈ ts, ∃ v, TrIs P rk d v t) (fun _ => trivial) (fun _ _ _ _ _ _ => trivial) trivial (fun _ _ _ => trivial) (fun _ h => nomatch h)
    (fun a _ _ q t h => (List.mem_cons.mp h).elim (fun e => ⟨_, e ▸ a⟩) (q t)) h
theorem rdArr_good {W : WL} {cfg : Cfg} {P : Pset} {rk : List (Int × Value)} {d : Nat} {v : Value} {nid : Int} {w : Str} {size : Option (Int × Leaf)} {items : Option (List Tr)} (ih : ∀ v t want A, TrIs P rk d v t → (rd cfg d t want A).1.dp ≤ 3 + 3 * d ∧ (∀ x ∈ (rd cfg d t want A).2.1, isF x) ∧ (rd cfg d t want A).2.1.length ≤ fcap d) (ht : TrIs P rk (d + 1) v (.arr nid w size items)) (A : List Int) :
    (rdArr cfg (rd cfg d) nid w size items A).1.dp ≤ 3 + 3 * (d + 1) ∧ (∀ x ∈ (rdArr cfg (rd cfg d) nid w size items A).2.1, isF x) ∧ (rdArr cfg (rd cfg d) nid w size items A).2.1.length ≤ fcap (d + 1) := by
  refine ofQ ?_; simp (disch := (k_dflt (
  refine hold ?_
  rcases ht.inv with ⟨_, _, e, _⟩ | ⟨d', nid', w', size', items', av, tn, wv, sv, iv_, tnid, e1, e2, hn, htn, hwv, hsv, hit⟩
  · cases e
  cases e1
  cases e2
  obtain ⟨s1, s2, s3⟩ := sizeOf_good (c := cfg) hsv
  have hf : fcap (d + 1) = 4 + 3 * (fcap d + 1) := rfl
  rw [hf]
  by_cases h0 : named w = 0
  · rw [rdArr_0 h0]
    exact ⟨by show badE.dp ≤ _; rw [bad_dp]; exact Nat.zero_le _, fun x hx => by have : x = flt 1547 (100 + nid) [] := by simpa using hx
                                                                                 exact this ▸ isF0 _ _, by show 1 ≤ _; lia⟩
  by_cases hb : named w = 15 ∨ ((sizeOf cfg size).1.any fun e => decide (e.k = 15)) = true
  · rw [rdArr_bad h0 hb]
    exact ⟨by show badE.dp ≤ _; rw [bad_dp]; exact Nat.zero_le _, s2, by show (sizeOf cfg size).2.length ≤ _; lia⟩
  cases items with
  | none =>
    rw [rdArr_none h0 hb]
    refine ⟨?_, s2, by show (sizeOf cfg size).2.length ≤ _; lia⟩
    show PyData.depthAll [szData (sizeOf cfg size).1] ≤ _
    cases hs : (sizeOf cfg size).1 with
    | none => simp [szData, PyData.depthAll, PyData.depth]
    | some e =>
      have := s1 e hs
      simp only [szData, PyData.depthAll, Ex.dp_data]
      lia
  | some ts =>
    rw [rdArr_some h0 hb]
    cases hit with
    | some hni hts =>
      obtain ⟨yi, kli, ti1, ti2, ti3, ti4, mi, _, _, _, hki3⟩ := hni
      have hlen := hts.len
      have := finI_good (cfg := cfg) (rec := rd cfg d) (k := named w) (kd := (putA A (named w)).1) (at_ := 100 + nid) (sz := (sizeOf cfg size).1) (m := 3 + 3 * d) (f := fcap d) (ts := ts) [] (putA A (named w)).2 (fun t ht A => let ⟨v, hv⟩ := hts.mem t ht; ih v t _ A hv) (fun _ h => nomatch h)
      refine ⟨by show (finI _ _ _ _ _ _ _ _ _).1.dp ≤ _; have := this.1; lia, app_isF s2 this.2.1, ?_⟩
      show (_ ++ _ : List PyData).length ≤ _
      rw [List.length_append]
      have h3 := this.2.2
      have hm : ts.length * (fcap d + 1) ≤ 3 * (fcap d + 1) := Nat.mul_le_mul_right _ (by lia)
      lia
  ))) only [↓quiet]
theorem rd_good (W : WL) (cfg : Cfg) {P : Pset} {rk : List (Int × Value)} : ∀ (d : Nat) (v : Value) (t : Tr) (want : Int) (A : List Int), TrIs P rk d v t → (rd cfg d t want A).1.dp ≤ 3 + 3 * d ∧ (∀ x ∈ (rd cfg d t want A).2.1, isF x) ∧ (rd cfg d t want A).2.1.length ≤ fcap d := by
  refine ofQ ?_; simp (disch := (k_dflt (
  refine hold ?_
  intro d
  induction d with
  | zero =>
    intro v t want A ht
    rcases ht.inv with ⟨nid, f, rfl, hf⟩ | ⟨d', _, _, _, _, _, _, _, _, _, _, e, _⟩
    · rw [rd_leaf]
      have h := rdLeaf_dp (c := cfg) hf (at_ := 100 + nid) (k := want)
      exact ⟨by have := h.1; show (rdLeaf _ _ _ _).1.dp ≤ _; lia, h.2, rdLeaf_len⟩
    · cases e
  | succ d ih =>
    intro v t want A ht
    rcases ht.inv with ⟨nid, f, rfl, hf⟩ | ⟨d', nid, w, size, items, av, tn, wv, sv, iv_, tnid, e, rfl, hn, htn, hwv, hsv, hit⟩
    · rw [rd_leaf]
      have h := rdLeaf_dp (c := cfg) hf (at_ := 100 + nid) (k := want)
      refine ⟨by have := h.1; show (rdLeaf _ _ _ _).1.dp ≤ _; lia, h.2, ?_⟩
      have := rdLeaf_len (c := cfg) (f := f) (at_ := 100 + nid) (k := want)
      show (rdLeaf _ _ _ _).2.length ≤ 4 + 3 * (fcap d + 1)
      lia
    · cases e
      exact rdArr_good (W := W) ih ht A
  ))) only [↓quiet]
end
section
variable {c : Cx} {F : Frm c} {D : FnD} {n : Nat} {fr₀ : List (Str × Option Value)} {P₀ : Pset} {M₀ : List (Addr × Obj)}
theorem allF_depth : ∀ {l : List PyData}, (∀ x ∈ l, isF x) → PyData.depthAll l < 64
  | [], _ => by simp [PyData.depthAll]
  | x :: l, h => by
    have h1 := (h x (.head _)).dp
    have h2 := allF_depth (l := l) fun y hy => h y (.tail _ hy)
    simp only [PyData.depthAll]
    lia
theorem eqvAll_self {P : Pset} : ∀ {vs : List Value} {ds : List PyData}, Dts P vs ds → PyData.eqvAll ds ds = true
  | _, _, .nil => by simp [PyData.eqvAll]
  | _, _, .cons h k => by simp only [PyData.eqvAll, Bool.and_eq_true]; exact ⟨eqv_self h, eqvAll_self k⟩
section
variable {W : WL} {cfg : Cfg} {σ : Sig} {os : Os} {X : List (Addr × Obj)}
theorem BInv.of {P P' : Pset} {σ' : Sig} {os' : Os} (h : BInv c W cfg P σ os) (iv : Inv c W cfg P' σ' os') (e1 : σ'.at_ = σ.at_) (e2 : σ'.nodes = σ.nodes) (e3 : σ'.rk = σ.rk) : BInv c W cfg P' σ' os' :=
  ⟨iv, e1 ▸ h.at0, e2 ▸ h.n0, by rw [e2, e3]; exact h.fresh⟩
structure LoopS (σ : Sig) (m r : Nat) : Prop where
  dp : σ.deep = 0
  eq : σ.fc = σ.fl
  len : σ.fc.length ≤ m
  all : ∀ x ∈ σ.fc, isF x
  rk : σ.rk.length ≤ r
theorem LoopS.grow {σ' : Sig} {m r r' : Nat} (h : LoopS σ m r) (g : Grow σ σ' r') : LoopS σ' m (r + r') :=
  ⟨g.dp.trans h.dp, by rw [g.fc, g.fl]; exact h.eq, by rw [g.fc]; exact h.len, by rw [g.fc]; exact h.all, by have := g.len; have := h.rk; lia⟩
theorem law_end (H : Ok F R_law.d (n + 100)) (iv : BInv c W cfg P₀ σ os) (hs : LoopS σ 400 200) {c1 c2 c3 c4 c5 c6 c7 c8 c9 d1 d2 d3 d4 d5 : Option Value} {gr : List (Str × Option Value)} {Q : Value → St → Prop} (h : ∀ P' os', Q (.bool true) ⟨gr, P', mM W os' X⟩) :
    WP F (execs (R_law.body.drop 32) F.env) ⟨[(S "script", d5), (S "cx", some (.ref W.cx)), (S "enum", c1), (S "i", c2), (S "ints", c3), (S "kt", c4), (S "lost", c5), (S "node", c6), (S "plain", c7), (S "root", c8), (S "rows", c9), (S "store", d1), (S "struct", d2), (S "texts", d3), (S "w", some (.ref W.w)), (S "ways", d4)], P₀, mM W os X⟩ (Ret gr Q) := by
  refine ofQ ?_; simp (disch := (k_dflt (
  refine hold ?_
  have k := iv.iv.ks.kf
  obtain ⟨o1, o2, o3, o4, o5, ow, orw, odu, odg, ocx⟩ := os
  obtain ⟨v1, m1, e1, hdu⟩ := id iv.iv.du
  obtain ⟨v2, m2, e2, hdg⟩ := id iv.iv.dg
  replace e1 : odu = _ := e1
  replace e2 : odg = _ := e2
  subst e1 e2
  obtain ⟨kvs, hwd, hF, _⟩ := id iv.iv.w
  replace hwd : ow.IsDictOf _ kvs := hwd
  have w1 := hF.due
  have hcx := iv.iv.fx.cxi
  have hdi := iv.iv.fx.dgi
  obtain ⟨fs, hfs, hF⟩ := id iv.iv.cx
  replace hfs : IsFld ocx fs := hfs
  have a1 := hF.diags
  refine wCons ?_
  repeat k_extra "w"
  refine oEqL H (xs := v2) (ys := v1) (by k_extra "mm") (by k_extra "mm") hdg hdu (allF_depth hs.all) (allF_depth (hs.eq ▸ hs.all)) ?_
  have et : PyData.eqvAll σ.fc σ.fl = true := by rw [← hs.eq]; exact eqvAll_self hdg
  rw [et]
  repeat k_extra "w"
  refine l_least (n := n + 95) (H.le (by lia)) (os := ⟨o1, o2, o3, o4, o5, ow, orw, listOf v1.toArray m1, listOf v2.toArray m2, ocx⟩) iv fun P' os' => ?_
  repeat k_extra "w"
  exact h P' os'
  ))) only [↓quiet]
end
end
section
variable {c : Cx} {F : Frm c} {D : FnD} {n : Nat} {fr₀ : List (Str × Option Value)} {P₀ : Pset} {M₀ : List (Addr × Obj)}
section
variable {W : WL} {cfg : Cfg} {σ : Sig} {os : Os} {X : List (Addr × Obj)}
noncomputable abbrev lawFr (W : WL) (c1 c2 c3 c4 c5 c6 c7 c8 c9 d1 d2 d3 d4 d5 : Option Value) : List (Str × Option Value) := [(Str.ofString "script", d5), (Str.ofString "cx", some (Value.ref W.cx)), (Str.ofString "enum", c1), (Str.ofString "i", c2), (Str.ofString "ints", c3), (Str.ofString "kt", c4), (Str.ofString "lost", c5), (Str.ofString "node", c6), (Str.ofString "plain", c7), (Str.ofString "root", c8), (Str.ofString "rows", c9), (Str.ofString "store", d1), (Str.ofString "struct", d2), (Str.ofString "texts", d3), (Str.ofString "w", some (Value.ref W.w)), (Str.ofString "ways", d4)]
theorem law_arrays (H : Ok F R_law.d (n + 100)) (iv : BInv c W cfg P₀ σ os) (hs : LoopS σ 4 0) {c1 c2 c4 c5 c6 c7 c8 c9 d1 d2 d3 d4 d5 : Option Value} {ti : Tok} {gr : List (Str × Option Value)} {Q : Value → St → Prop} (h : ∀ P' os', Q (.bool true) ⟨gr, P', mM W os' X⟩) :
    WP F (execs (R_law.body.drop 31) F.env) ⟨lawFr W c1 c2 (some (.int 19 ti)) c4 c5 c6 c7 c8 c9 d1 d2 d3 d4 d5, P₀, mM W os X⟩ (Ret gr Q) := by
  refine ofQ ?_; simp (disch := (k_dflt (
  refine hold ?_
  have k := iv.iv.ks.kf
  unfold lawFr
  refine wCons ?_
  k_extra "forR"
  repeat k_extra "w"
  refine wRange H fun ra t' u' P1 l1 hra => ?_
  refine OverRange.mk (k := 3) hra (by decide) fun I => ?_
  refine (?key : ∀ (j q : Nat) (P : Pset) (σ' : Sig) (os' : Os) (b1 b2 : Option Value), q + j = 3 → Le P1 P → BInv c W cfg P σ' os' → LoopS σ' (4 + q * 118) (q * 40) → Turns F _ _ _ I _ j q ⟨lawFr W c1 b1 (some (.int 19 ti)) c4 c5 c6 c7 b2 c9 d1 d2 d3 d4 d5, P, mM W os' X⟩) 3 0 P1 σ os _ _ rfl Le.rfl (iv.mono l1) hs
  clear hs iv
  intro j
  induction j with
  | zero =>
    intro q P σ os b1 b2 hq l2 iv hs
    have hq : q = 3 := hq
    subst hq
    refine Turns.z ?_
    refine After.nx ?_
    exact law_end H iv ⟨hs.dp, hs.eq, by have := hs.len; lia, hs.all, by have := hs.rk; lia⟩ h
  | succ j ih =>
    intro q P σ os b1 b2 hq l2 iv hs
    refine Turns.s fun v oI hv => ?_
    obtain ⟨tv, rfl⟩ := hv
    obtain ⟨kvs, hwd, hF, _⟩ := id iv.iv.w
    have w1 := hF.words
    obtain ⟨wvs, hwo, hwdd⟩ := iv.iv.fx.wo
    have hslen := hs.len
    have hsrk := hs.rk
    unfold lawFr
    repeat k_extra "w"
    refine b_take (X := X ++ [(I, oI)]) (n := n) (H.le (by lia)) iv (by decide) (by decide) fun g tg σ1 os1 g0 g1 gr1 _ iv1 => ?_
    repeat k_extra "w"
    obtain ⟨jw, rfl⟩ := Int.eq_ofNat_of_zero_le g0
    have hj : jw < wordsL.length := by show jw < 15; lia
    obtain ⟨v, hv, hvd⟩ := hwdd.get (i := jw) (d := .str wordsL[jw]) (by rw [List.getElem?_map, List.getElem?_eq_getElem hj]; rfl)
    obtain ⟨tw, rfl⟩ := hvd.str_inv
    refine wItemTup hwo hv ?_ (by lia) (hs := ?hs)
    case hs => with_unfolding_all rfl
    repeat k_extra "w"
    have hg1 := gr1.len
    have hcap : cap 3 = 40 := rfl
    refine arrB 2 (itemB W cfg 2) F _ (n + 30) _ P σ1 os1 (X ++ [(I, oI)]) _ _ _ _ _ (H.le (by lia)) iv1 (by show σ1.rk.length + cap 3 ≤ 10000; lia) (List.getElem_mem hj) rfl fun root P2 σ2 os2 nid w size items l3 gr2 iv2 ht => ?_
    have hs2 : LoopS σ2 (4 + q * 118) (q * 40 + 0 + 40) := (hs.grow gr1).grow gr2
    have hs2len := hs2.len
    obtain ⟨good1, good2, good3⟩ := rdArr_good (W := W) (cfg := cfg) (fun v t want A h => rd_good W cfg 2 v t want A h) ht σ2.A
    have hfc : fcap (2 + 1) = 118 := rfl
    rw [hfc] at good3
    have hcx := iv2.iv.fx.cxi
    obtain ⟨fs, hfs, hFx⟩ := id iv2.iv.cx
    repeat k_extra "w"
    refine wMake0 H k.i_NewArrayRule.1 k.i_NewArrayRule.2 fun r P3 l4 hr => ?_
    repeat k_extra "w"
    intro a1 P4 l5 ha1
    repeat k_extra "w"
    obtain ⟨jq, v5, hjq, hv5, ⟨i5, t5, rfl⟩, hj5⟩ := pick_tup ha1 (g := (q : Int)) (by lia) (by simp; lia) (by simp) (p := fun v => ∃ x t, v = Value.int x t) (all_cons ⟨_, _, rfl⟩ (all_cons ⟨_, _, rfl⟩ (all_cons ⟨_, _, rfl⟩ all_nil)))
    rw [hjq]
    refine wItemTup ha1 hv5 ?_ hj5 (hs := ?hs)
    case hs => with_unfolding_all rfl
    repeat k_extra "w"
    have l45 := l4.trans l5
    refine c_newarr (n := n + 30) (exprC W cfg 2) (H.le (by lia)) (iv2.iv.mono l45) (by rw [hs2.dp]; decide) (ht.mono l45) (by lia) fun x P5 os5 l6 hx hxk iv5 => ?_
    have again := arr_again (c := cfg) (rd_again cfg 2) nid w size items σ2.A
    have hrep := again.2 (rdArr cfg (rd cfg 2) nid w size items σ2.A).2.2 List.prefix_rfl
    rcases hrd : rdArr cfg (rd cfg 2) nid w size items σ2.A with ⟨e, f, A'⟩
    rw [hrd] at hx hxk iv5 hrep good1 good2 good3
    dsimp only at hx hxk iv5 hrep good1 good2 good3
    repeat k_extra "w"
    have hfl2 : σ2.fl.length ≤ 4 + q * 118 := by rw [← hs2.eq]; exact hs2.len
    refine l_made (d := 2) (n := n + 30) (readC W cfg 2) (H.le (by lia)) iv5 (ht.mono (l45.trans l6)) (by show σ2.fl.length + (rdArr cfg (rd cfg 2) nid w size items A').2.1.length ≤ 800; rw [hrep]; show σ2.fl.length + f.length ≤ 800; lia) fun x2 P6 os6 l7 hx2 _ iv6 => ?_
    rw [show (rdArr cfg (rd cfg 2) nid w size items A').1 = e by rw [hrep]] at hx2
    have iv6' : Inv c W cfg P6 { σ2 with A := A', fc := σ2.fc ++ f, fl := σ2.fl ++ f } os6 := by
      have := iv6
      dsimp only at this
      rw [hrep] at this
      exact this
    repeat k_extra "w"
    have hdd : e.data.depth ≤ 64 := by rw [Ex.dp_data]; lia
    refine oNeD H (hx.mono l7) hx2 hdd hdd ?_
    rw [eqv_self hx2]
    repeat k_extra "w"
    have lt := l3.trans (l45.trans (l6.trans l7))
    refine TurnEnd.nx (M := mM W os6 X) lt ?_
    refine ih (q + 1) P6 _ os6 _ _ (by lia) (l2.trans lt) (iv2.of iv6' rfl rfl rfl) ⟨hs2.dp, ?_, ?_, ?_, ?_⟩
    · show σ2.fc ++ f = σ2.fl ++ f
      rw [hs2.eq]
    · show (σ2.fc ++ f).length ≤ _
      rw [List.length_append, Nat.succ_mul]; lia
    · exact app_isF hs2.all good2
    · show σ2.rk.length ≤ _
      have := hs2.rk
      rw [Nat.succ_mul]; lia
  ))) only [↓quiet]
end
end
section
variable {c : Cx} {F : Frm c} {D : FnD} {n : Nat} {fr₀ : List (Str × Option Value)} {P₀ : Pset} {M₀ : List (Addr × Obj)}
section
variable {W : WL} {cfg : Cfg} {σ : Sig} {os : Os} {X : List (Addr × Obj)}
theorem law_numbers (H : Ok F R_law.d (n + 100)) (iv : BInv c W cfg P₀ σ os) (hs : LoopS σ 0 0) {c1 c2 c4 c5 c6 c7 c8 c9 d1 d2 d3 d4 d5 : Option Value} {ti : Tok} {gr : List (Str × Option Value)} {Q : Value → St → Prop} (h : ∀ P' os', Q (.bool true) ⟨gr, P', mM W os' X⟩) :
    WP F (execs (R_law.body.drop 30) F.env) ⟨lawFr W c1 c2 (some (.int 19 ti)) c4 c5 c6 c7 c8 c9 d1 d2 d3 d4 d5, P₀, mM W os X⟩ (Ret gr Q) := by
  refine ofQ ?_; simp (disch := (k_dflt (
  refine hold ?_
  have k := iv.iv.ks.kf
  unfold lawFr
  refine wCons ?_
  k_extra "forR"
  repeat k_extra "w"
  refine wRange H fun ra t' u' P1 l1 hra => ?_
  refine OverRange.mk (k := 4) hra (by decide) fun I => ?_
  refine (?key : ∀ (j q : Nat) (P : Pset) (σ' : Sig) (os' : Os) (b1 b2 : Option Value), q + j = 4 → Le P1 P → BInv c W cfg P σ' os' → LoopS σ' q 0 → Turns F _ _ _ I _ j q ⟨lawFr W c1 b1 (some (.int 19 ti)) c4 c5 b2 c7 c8 c9 d1 d2 d3 d4 d5, P, mM W os' X⟩) 4 0 P1 σ os _ _ rfl Le.rfl (iv.mono l1) hs
  clear hs iv
  intro j
  induction j with
  | zero =>
    intro q P σ os b1 b2 hq l2 iv hs
    have hq : q = 4 := hq
    subst hq
    refine Turns.z ?_
    refine After.nx ?_
    exact law_arrays H iv hs h
  | succ j ih =>
    intro q P σ os b1 b2 hq l2 iv hs
    refine Turns.s fun v oI hv => ?_
    obtain ⟨tv, rfl⟩ := hv
    have hslen := hs.len
    unfold lawFr
    repeat k_extra "w"
    refine b_number (X := X ++ [(I, oI)]) (n := n) (H.le (by lia)) iv fun node P2 σ2 os2 i w l3 gr2 iv2 hf => ?_
    have hs2 : LoopS σ2 q (0 + 0) := hs.grow gr2
    have hs2len := hs2.len
    have hdp := hs2.dp
    have hcx := iv2.iv.fx.cxi
    obtain ⟨fs, hfs, hFx⟩ := id iv2.iv.cx
    obtain ⟨kind, av, hn⟩ : ∃ kind av, Nd P2 node kind av [] σ2.nodes := by cases hf; exact ⟨_, _, by assumption⟩
    repeat k_extra "w"
    intro a1 P4 l5 ha1
    repeat k_extra "w"
    obtain ⟨jq, v5, hjq, hv5, ⟨i5, t5, rfl⟩, hj5⟩ := pick_tup ha1 (g := (q : Int)) (by lia) (by simp; lia) (by simp) (p := fun v => ∃ x t, v = Value.int x t) (all_cons ⟨_, _, rfl⟩ (all_cons ⟨_, _, rfl⟩ (all_cons ⟨_, _, rfl⟩ (all_cons ⟨_, _, rfl⟩ all_nil))))
    rw [hjq]
    refine wItemTup ha1 hv5 ?_ hj5 (hs := ?hs)
    case hs => with_unfolding_all rfl
    repeat k_extra "w"
    have g1 := rdInt_dp (n := i) (w := w) (at_ := 100 + σ2.nodes)
    have g2 := rdInt_len (n := i) (w := w) (at_ := 100 + σ2.nodes)
    refine c_expr_leaf (n := n) (H.le (by lia)) (iv2.iv.mono l5) (by lia) (by lia) (hf.mono l5) (fun e => nomatch e) fun x P5 os5 l6 hx iv5 => ?_
    replace hx : Xv P5 x (rdInt i w (100 + σ2.nodes)).1 := hx
    replace iv5 : Inv c W cfg P5 { σ2 with fc := σ2.fc ++ (rdInt i w (100 + σ2.nodes)).2 } os5 := iv5
    repeat k_extra "w"
    refine l_read_leaf (n := n) (H.le (by lia)) iv5 (by show σ2.fl.length ≤ 900; rw [← hs2.eq]; lia) (hf.mono (l5.trans l6)) (fun e => nomatch e) fun x2 P6 os6 l7 hx2 iv6 => ?_
    replace hx2 : Xv P6 x2 (rdInt i w (100 + σ2.nodes)).1 := hx2
    replace iv6 : Inv c W cfg P6 { σ2 with fc := σ2.fc ++ (rdInt i w (100 + σ2.nodes)).2, fl := σ2.fl ++ (rdInt i w (100 + σ2.nodes)).2 } os6 := iv6
    repeat k_extra "w"
    have hdd : (rdInt i w (100 + σ2.nodes)).1.data.depth ≤ 64 := by rw [Ex.dp_data]; have := g1.1; lia
    refine oNeD H (hx.mono l7) hx2 hdd hdd ?_
    rw [eqv_self hx2]
    repeat k_extra "w"
    have lt := l3.trans (l5.trans (l6.trans l7))
    refine TurnEnd.nx (M := mM W os6 X) lt ?_
    refine ih (q + 1) P6 _ os6 _ _ (by lia) (l2.trans lt) (iv2.of iv6 rfl rfl rfl) ⟨hdp, ?_, ?_, ?_, ?_⟩
    · show σ2.fc ++ _ = σ2.fl ++ _
      rw [hs2.eq]
    · show (σ2.fc ++ _).length ≤ _
      rw [List.length_append]; lia
    · exact app_isF hs2.all g1.2
    · exact hs2.rk
  ))) only [↓quiet]
end
end
section
variable {c : Cx} {F : Frm c} {D : FnD} {n : Nat} {fr₀ : List (Str × Option Value)} {P₀ : Pset} {M₀ : List (Addr × Obj)}
theorem keys_nd {fs : List (Str × Value)} (hk : fs.map (·.1) = cxKeys) {name : Str} {u v : Value} (ha : At name u fs) : ((putF name v fs).map (·.1)).Nodup ∧ (putF name v fs).length ≤ 800 ∧ (putF name v fs).map (·.1) = cxKeys := by
  refine ofQ ?_; simp (disch := (k_dflt (
  refine hold ?_
  have e := putF_keys (u := v) ha
  refine ⟨by rw [e, hk]; exact cxKeys_nd, ?_, e.trans hk⟩
  have : ((putF name v fs).map (·.1)).length = (putF name v fs).length := by simp
  rw [← this, e, hk]
  decide
  ))) only [↓quiet]
structure Pre (c : Cx) (W : WL) (cfg : Cfg) (P : Pset) (o1 o2 o3 o4 o5 ow : Obj) : Prop where
  ks : KS c
  kti : KtI W.L P
  kt : KtA c P [] o1 o2 o3 o4 o5
  w : ∃ kvs a l, ow.IsDictOf (PySem.strKind P0 c.w) kvs ∧ WdF W cfg a l 0 kvs ∧ 0 ≤ a ∧ kvs.length ≤ 30
  nd : NdT c P W.nd
  ndl : Lo W.nd
  gs : GsT c P W.gs cfg.goes
  gsl : Lo W.gs
  rf : DtL P W.rf (([12, 13, 16, 19, 20, 21] : List Int).map .int)
  rwl : Lo W.rw
  wl : Lo W.w
  li : LiT P W.li
  wo : DtL P W.wo (wordsL.map .str)
  inn : InT c P W.inn
  innl : Lo W.inn
theorem Pre.mono {W : WL} {cfg : Cfg} {P P' : Pset} {o1 o2 o3 o4 o5 ow : Obj} (l : Le P P') (h : Pre c W cfg P o1 o2 o3 o4 o5 ow) : Pre c W cfg P' o1 o2 o3 o4 o5 ow where
  ks := h.ks
  kti := h.kti.mono l
  kt := h.kt.mono l
  w := h.w
  nd := let ⟨o, k, a, b, e, d⟩ := h.nd; ⟨o, k, l _ _ a, b, e, d.mono l⟩
  ndl := h.ndl
  gs := let ⟨o, xs, a, b, g1, g2, g3⟩ := h.gs; ⟨o, xs, l _ _ a, b.mono l, g1, g2.mono l, g3⟩
  gsl := h.gsl
  rf := let ⟨v, a, b⟩ := h.rf; ⟨v, l _ _ a, b.mono l⟩
  rwl := h.rwl
  wl := h.wl
  li := let ⟨v, m, a, b, e⟩ := h.li; ⟨v, m, l _ _ a, b, e⟩
  wo := let ⟨v, a, b⟩ := h.wo; ⟨v, l _ _ a, b.mono l⟩
  inn := let ⟨o, t1, t2, t3, a, b⟩ := h.inn; ⟨o, t1, t2, t3, l _ _ a, b⟩
  innl := h.innl
theorem law_seat (H : Ok F R_law.d (n + 100)) {W : WL} {cfg : Cfg} {o1 o2 o3 o4 o5 ow : Obj} (pre : Pre c W cfg P₀ o1 o2 o3 o4 o5 ow) {st : Addr} {rest : List (Str × Value)} (hS : Ins P₀ st 980 ((S "kt", .ref W.L.kt) :: rest)) {c0 c2 c4 c5 c6 c7 c8 c9 d2 d3 d4 d5 : Option Value} {ti te : Tok} {gr : List (Str × Option Value)} {Q : Value → St → Prop} (h : ∀ W' P' os', Q (.bool true) ⟨gr, P', mM W' os' []⟩) :
    WP F (execs (R_law.body.drop 20) F.env) ⟨[(S "script", d5), (S "cx", c0), (S "enum", some (.int 18 te)), (S "i", c2), (S "ints", some (.int 19 ti)), (S "kt", c4), (S "lost", c5), (S "node", c6), (S "plain", c7), (S "root", c8), (S "rows", c9), (S "store", some (.ref st)), (S "struct", d2), (S "texts", d3), (S "w", some (.ref W.w)), (S "ways", d4)], P₀, K5 W.L o1 o2 o3 o4 o5 [(W.w, ow), (W.rw, dictOf [] 0), (W.du, listOf #[] 0)]⟩ (Ret gr Q) := by
  refine ofQ ?_; simp (disch := (k_dflt (
  refine hold ?_
  have k := pre.ks.kf
  obtain ⟨kvs, aa, ll, hwd, hF, haa, hkl⟩ := id pre.w
  have w1 := hF.named
  have w2 := hF.goes
  have w3 := hF.rows
  obtain ⟨tc, w4⟩ := hF.chk
  refine wCons ?_
  repeat k_extra "w"
  refine c_Unit (n := n) k (H.le (by lia)) fun un dgi dg fsU P1 l1 hU hUs hUd hdi => ?_
  repeat k_extra "w"
  refine c_Seat (n := n) k (H.le (by lia)) hU hUs hUd (hS.mono l1) fun cx cxd ocx fs ex ty tu tud otu a1 a2 a3 a4 fi P2 l2 hcx hfs hkeys f1 f2 f3 f4 f5 f6 ⟨v7, f7⟩ ⟨v8, f8⟩ ⟨t9, f9⟩ ⟨t10, f10⟩ hlox hloy htu hotu hfi => ?_
  simp only [List.cons_append, List.nil_append]
  repeat k_extra "w"
  have g7 := keys_nd hkeys (v := .ref W.nd) f7
  refine' wSet H hcx (fun o' => ?U) hfs ?cs rfl g7.1 g7.2.1 (fun oc1 hc1 => ?_)
  case U => k_extra "mp"
  case cs => k_extra "cls"
  have p8 : At (S "checked") v8 (putF (S "kinds") (.ref W.nd) fs) := f8.put_ne (by decide)
  have g8 := keys_nd g7.2.2 (v := .int cfg.chk tc) p8
  repeat k_extra "w"
  refine' wSet H hcx (fun o' => ?U) hc1 ?cs rfl g8.1 g8.2.1 (fun oc2 hc2 => ?_)
  case U => k_extra "mp"
  case cs => k_extra "cls"
  have hkeys2 : (putF (S "checked") (.int cfg.chk tc) (putF (S "kinds") (.ref W.nd) fs)).map (·.1) = cxKeys := g8.2.2
  have e1 : At (S "kt") (.ref W.L.kt) (putF (S "checked") (.int cfg.chk tc) (putF (S "kinds") (.ref W.nd) fs)) := (f1.put_ne (by decide)).put_ne (by decide)
  have e2 : At (S "diags") (.ref dgi) (putF (S "checked") (.int cfg.chk tc) (putF (S "kinds") (.ref W.nd) fs)) := (f2.put_ne (by decide)).put_ne (by decide)
  have e3 : At (S "exprs") (.ref ex) (putF (S "checked") (.int cfg.chk tc) (putF (S "kinds") (.ref W.nd) fs)) := (f3.put_ne (by decide)).put_ne (by decide)
  have e4 : At (S "types") (.ref ty) (putF (S "checked") (.int cfg.chk tc) (putF (S "kinds") (.ref W.nd) fs)) := (f4.put_ne (by decide)).put_ne (by decide)
  have e5 : At (S "turner") (.ref tu) (putF (S "checked") (.int cfg.chk tc) (putF (S "kinds") (.ref W.nd) fs)) := (f5.put_ne (by decide)).put_ne (by decide)
  have e6 : At (S "fitter") (.ref fi) (putF (S "checked") (.int cfg.chk tc) (putF (S "kinds") (.ref W.nd) fs)) := (f6.put_ne (by decide)).put_ne (by decide)
  have e7 : At (S "kinds") (.ref W.nd) (putF (S "checked") (.int cfg.chk tc) (putF (S "kinds") (.ref W.nd) fs)) := f7.put_eq.put_ne (by decide)
  have e8 : At (S "checked") (.int cfg.chk tc) (putF (S "checked") (.int cfg.chk tc) (putF (S "kinds") (.ref W.nd) fs)) := p8.put_eq
  have e9 : At (S "deep") (.int 0 t9) (putF (S "checked") (.int cfg.chk tc) (putF (S "kinds") (.ref W.nd) fs)) := (f9.put_ne (by decide)).put_ne (by decide)
  have e10 : At (S "at") (.int 0 t10) (putF (S "checked") (.int cfg.chk tc) (putF (S "kinds") (.ref W.nd) fs)) := (f10.put_ne (by decide)).put_ne (by decide)
  generalize putF (S "checked") (.int cfg.chk tc) (putF (S "kinds") (.ref W.nd) fs) = fs2 at *
  clear hfs hc1 g7 g8 p8 f1 f2 f3 f4 f5 f6 f7 f8 f9 f10
  repeat k_extra "w"
  refine wDictI H rfl rfl (by simp) (by simp) fun un0 hlou => ?_
  repeat k_extra "w"
  refine MadeI.mk (M₀ := [(W.L.r, o1), (W.L.i, o2), (W.L.d, o3), (W.L.w, o4), (W.L.o, o5), (W.w, ow), (W.rw, dictOf [] 0), (W.du, listOf #[] 0), (dg, listOf #[] 0), (cxd, oc2), (ex, dictOf [] 0), (ty, dictOf [] 0), (tud, _)]) rfl (by simp [intKeyPairs]) fun ou hou => ?_
  refine WP.freeze H (mdel_last _ _ _) fun P3 l3 hun => ?_
  have hcx3 := l3 _ _ hcx
  repeat k_extra "w"
  refine wMake0 H k.i_WordRule.1 k.i_WordRule.2 fun rK P4 l4 hrK => ?_
  repeat k_extra "w"
  refine' sItem (fun o' => ?U) (emptyI c.w 0) (isI _ _ _) (fun ot hot => ?_) (by rw [sizeLine_eq]; simp)
  case U => k_extra "mp"
  repeat k_extra "w"
  refine c_TableRule (n := n) k (H.le (by lia)) fun rNm P5 l5 hrNm => ?_
  repeat k_extra "w"
  refine' sItemO (fun o' => ?U) (emptyO c.w 0) (isI _ _ _) rfl rfl (fun x1 hx1 => ?_)
  case U => k_extra "mp"
  repeat k_extra "w"
  refine wMake0 H k.i_DefaultRule.1 k.i_DefaultRule.2 fun rD P6 l6 hrD => ?_
  repeat k_extra "w"
  refine' sItemO (fun o' => ?U) hx1 (isI _ _ _) rfl rfl (fun x2 hx2 => ?_)
  case U => k_extra "mp"
  have hcx6 := (l4.trans (l5.trans l6)) _ _ hcx3
  repeat k_extra "w"
  have H1 : Ok F R_law.d (n + 50 + 1) := H.le (by lia)
  refine wDef H1 (fn_install_x_literals k) rfl fun F2 H2 => ?_
  k_extra "in"
  repeat k_extra "w"
  refine wMake0 H2 k.i_IntRule.1 k.i_IntRule.2 fun rI P7 l7 hrI => ?_
  have hcx7 := l7 _ _ hcx6
  repeat k_extra "w"
  refine' sItemO (fun o' => ?U) hx2 (isI _ _ _) rfl rfl (fun x3 hx3 => ?_)
  case U => k_extra "mp"
  repeat k_extra "w"
  refine wMake0 H2 k.i_TextRule.1 k.i_TextRule.2 fun rT P8 l8 hrT => ?_
  have hcx8 := l8 _ _ hcx7
  repeat k_extra "w"
  refine' sItemO (fun o' => ?U) hx3 (isI _ _ _) rfl rfl (fun x4 hx4 => ?_)
  case U => k_extra "mp"
  repeat k_extra "w"
  refine wMake0 H2 k.i_CharRule.1 k.i_CharRule.2 fun rC P9 l9 hrC => ?_
  have hcx9 := l9 _ _ hcx8
  repeat k_extra "w"
  refine' sItemO (fun o' => ?U) hx4 (isI _ _ _) rfl rfl (fun x5 hx5 => ?_)
  case U => k_extra "mp"
  repeat k_extra "w"
  refine c_TruthRule (n := n) k (H2.le (by lia)) fun rTr P10 l10 hrTr => ?_
  have hcx10 := l10 _ _ hcx9
  repeat k_extra "w"
  refine' sItemO (fun o' => ?U) hx5 (isI _ _ _) rfl rfl (fun x6 hx6 => ?_)
  case U => k_extra "mp"
  repeat k_extra "w"
  refine c_TruthRule (n := n) k (H2.le (by lia)) fun rF P11 l11 hrF => ?_
  have hcx11 := l11 _ _ hcx10
  repeat k_extra "w"
  refine' sItemO (fun o' => ?U) hx6 (isI _ _ _) rfl rfl (fun x7 hx7 => ?_)
  case U => k_extra "mp"
  repeat k_extra "w"
  refine wMake0 H2 k.i_NullRule.1 k.i_NullRule.2 fun rN P12 l12 hrN => ?_
  have hcx12 := l12 _ _ hcx11
  repeat k_extra "w"
  refine' sItemO (fun o' => ?U) hx7 (isI _ _ _) rfl rfl (fun x8 hx8 => ?_)
  case U => k_extra "mp"
  repeat k_extra "w"
  have H3 : Ok F R_law.d (n + 50 + 1) := H.le (by lia)
  refine wDef H3 (fn_install_x_arrays k) rfl fun F3 H4 => ?_
  k_extra "in"
  repeat k_extra "w"
  refine wMake0 H4 k.i_NewArrayRule.1 k.i_NewArrayRule.2 fun rA P13 l13 hrA => ?_
  have hcx13 := l13 _ _ hcx12
  repeat k_extra "w"
  refine' sItemO (fun o' => ?U) hx8 (isI _ _ _) rfl rfl (fun x9 hx9 => ?_)
  case U => k_extra "mp"
  repeat ((fail_if_success guard_target = WP _ (execs (Stmt.For _ _ _ _ _ :: _) _) _ _); k_extra "w")
  refine WP.freeze H (.tl (.tl (.tl (.tl (.tl (.tl (.tl (.tl (.tl (.tl (.tl (.tl (.hd))))))))))))) fun P14 l14 htud => ?_
  refine WP.freeze H (.tl (.tl (.tl (.tl (.tl (.tl (.tl (.tl (.tl (.tl (.tl (.hd)))))))))))) fun P15 l15 hty => ?_
  refine WP.freeze H (.tl (.tl (.tl (.tl (.tl (.tl (.tl (.tl (.tl (.tl (.hd))))))))))) fun P16 l16 hex => ?_
  obtain ⟨v9, hv9, -, at9⟩ := hx9
  have lall := l1.trans (l2.trans (l3.trans (l4.trans (l5.trans (l6.trans (l7.trans (l8.trans (l9.trans (l10.trans (l11.trans (l12.trans (l13.trans (l14.trans (l15.trans (l16)))))))))))))))
  have pr := pre.mono lall
  let W' : WL := { W with dg := dg, cx := cx, cxd := cxd, un := un0, tu := tu, fi := fi, dgi := dgi, ex := ex, ty := ty, rI := rI, rT := rT, rC := rC, rTr := rTr, rF := rF, rN := rN, rNm := rNm, rD := rD, rA := rA, rK := rK }
  have fx : Fx c W' cfg P16 := {
    kti := pr.kti
    cxi := (l14.trans (l15.trans (l16))) _ _ hcx13
    nd := pr.nd
    ndl := pr.ndl
    gs := pr.gs
    gsl := pr.gsl
    un := ⟨ou, _, (l4.trans (l5.trans (l6.trans (l7.trans (l8.trans (l9.trans (l10.trans (l11.trans (l12.trans (l13.trans (l14.trans (l15.trans (l16))))))))))))) _ _ hun, hou⟩
    unl := hlou
    tu := ⟨_, _, ⟨⟨tud, _, (l3.trans (l4.trans (l5.trans (l6.trans (l7.trans (l8.trans (l9.trans (l10.trans (l11.trans (l12.trans (l13.trans (l14.trans (l15.trans (l16)))))))))))))) _ _ htu, (l15.trans l16) _ _ htud, by assumption⟩⟩⟩
    fi := hfi.mono (l3.trans (l4.trans (l5.trans (l6.trans (l7.trans (l8.trans (l9.trans (l10.trans (l11.trans (l12.trans (l13.trans (l14.trans (l15.trans (l16))))))))))))))
    dgi := hdi.mono (l2.trans (l3.trans (l4.trans (l5.trans (l6.trans (l7.trans (l8.trans (l9.trans (l10.trans (l11.trans (l12.trans (l13.trans (l14.trans (l15.trans (l16)))))))))))))))
    ex := ⟨x9, v9, hex, hv9, at9 6 _ rfl, at9 5 _ rfl, at9 4 _ rfl, at9 3 _ rfl, at9 2 _ rfl, at9 1 _ rfl, at9 8 _ rfl, at9 7 _ rfl, at9 0 _ rfl⟩
    exl := hlox
    ty := ⟨ot, _, l16 _ _ hty, hot, by rw [valueAt_stored, if_pos rfl]⟩
    tyl := hloy
    iI := hrI.mono (l8.trans (l9.trans (l10.trans (l11.trans (l12.trans (l13.trans (l14.trans (l15.trans (l16)))))))))
    iT := hrT.mono (l9.trans (l10.trans (l11.trans (l12.trans (l13.trans (l14.trans (l15.trans (l16))))))))
    iC := hrC.mono (l10.trans (l11.trans (l12.trans (l13.trans (l14.trans (l15.trans (l16)))))))
    iTr := ⟨_, hrTr.mono (l11.trans (l12.trans (l13.trans (l14.trans (l15.trans (l16))))))⟩
    iF := ⟨_, hrF.mono (l12.trans (l13.trans (l14.trans (l15.trans (l16)))))⟩
    iN := hrN.mono (l13.trans (l14.trans (l15.trans (l16))))
    iNm := hrNm.mono (l6.trans (l7.trans (l8.trans (l9.trans (l10.trans (l11.trans (l12.trans (l13.trans (l14.trans (l15.trans (l16)))))))))))
    iD := hrD.mono (l7.trans (l8.trans (l9.trans (l10.trans (l11.trans (l12.trans (l13.trans (l14.trans (l15.trans (l16))))))))))
    iA := hrA.mono (l14.trans (l15.trans (l16)))
    iK := hrK.mono (l5.trans (l6.trans (l7.trans (l8.trans (l9.trans (l10.trans (l11.trans (l12.trans (l13.trans (l14.trans (l15.trans (l16))))))))))))
    rf := pr.rf
    rwl := pr.rwl
    wl := pr.wl
    li := pr.li
    wo := pr.wo
    inn := pr.inn
    innl := pr.innl }
  have iv : Inv c W' cfg P16 ⟨[], [], [], [], 0, aa, ll, 0⟩ ⟨o1, o2, o3, o4, o5, ow, dictOf [] 0, listOf #[] 0, listOf #[] 0, oc2⟩ := {
    ks := pr.ks
    fx := fx
    kt := pr.kt
    w := ⟨kvs, hwd, ⟨hF.inl, hF.at_, hF.left, hF.kt, hF.nodes, hF.rows, hF.due, hF.named, hF.words, hF.inner, hF.plain, hF.enum, hF.refs, hF.goes, hF.chk⟩, hkl⟩
    rw := emptyI c.w 0
    du := ⟨[], 0, rfl, .nil⟩
    dg := ⟨[], 0, rfl, .nil⟩
    cx := ⟨fs2, hc2, ⟨hkeys2, e1, e7, e2, e3, e4, e5, e6, ⟨_, e8⟩, ⟨_, e9⟩, ⟨_, _, e10⟩⟩⟩ }
  exact law_numbers (W := W') (cfg := cfg) (X := []) H ⟨iv, haa, Int.le_refl 0, fun _ _ => rfl⟩ ⟨rfl, rfl, Nat.le_refl 0, (fun _ h => nomatch h), Nat.le_refl 0⟩ fun P' os' => h W' P' os'
  ))) only [↓quiet]
end
section
variable {c : Cx} {F : Frm c} {D : FnD} {n : Nat} {fr₀ : List (Str × Option Value)} {P₀ : Pset} {M₀ : List (Addr × Obj)}
noncomputable def waysL : List (Int × Int × Int) := [(7, 9, 1), (7, 12, 4), (4, 7, 1), (2, 7, 1), (13, 12, 2), (14, 12, 8), (14, 13, 8), (14, 16, 8), (14, 19, 8), (16, 12, 2), (19, 12, 2), (7, 4, 1), (1, 12, 4), (8, 9, 1), (7, 8, 1), (14, 20, 8), (10, 7, 4)]
theorem waysL_nd : (waysL.map fun p => (p.1, p.2.1)).Nodup := by decide
theorem waysL_cv : ∀ p ∈ waysL, p.2.2 ≠ 0 := by decide
structure WdP (W : WL) (kvs : List (Str × Value)) : Prop where
  kt : valueAt kvs (S "kt") = some (.ref W.L.kt)
  nodes : ∃ t, valueAt kvs (S "nodes") = some (.int 0 t)
  rows : valueAt kvs (S "rows") = some (.ref W.rw)
  due : valueAt kvs (S "due") = some (.ref W.du)
  named : valueAt kvs (S "named") = some (.ref W.nd)
  words : valueAt kvs (S "words") = some (.ref W.wo)
  inner : valueAt kvs (S "inner") = some (.ref W.inn)
  plain : ∃ t, valueAt kvs (S "plain") = some (.int 16 t)
  enum : ∃ t, valueAt kvs (S "enum") = some (.int 18 t)
  refs : valueAt kvs (S "refs") = some (.ref W.rf)
theorem WdP.of {W : WL} {kvs kvs' : List (Str × Value)} (h : WdP W kvs) (hs : ∀ x v, x ≠ S "at" → x ≠ S "left" → x ≠ S "goes" → x ≠ S "checked" → valueAt kvs x = some v → valueAt kvs' x = some v) : WdP W kvs' := by
  refine ofQ ?_; simp (disch := (k_dflt (
  refine hold ?_
  obtain ⟨tn, hn⟩ := h.nodes
  obtain ⟨tp, hp⟩ := h.plain
  obtain ⟨te, he⟩ := h.enum
  exact ⟨hs _ _ (by decide) (by decide) (by decide) (by decide) h.kt, ⟨_, hs _ _ (by decide) (by decide) (by decide) (by decide) hn⟩, hs _ _ (by decide) (by decide) (by decide) (by decide) h.rows, hs _ _ (by decide) (by decide) (by decide) (by decide) h.due, hs _ _ (by decide) (by decide) (by decide) (by decide) h.named, hs _ _ (by decide) (by decide) (by decide) (by decide) h.words, hs _ _ (by decide) (by decide) (by decide) (by decide) h.inner, ⟨_, hs _ _ (by decide) (by decide) (by decide) (by decide) hp⟩, ⟨_, hs _ _ (by decide) (by decide) (by decide) (by decide) he⟩, hs _ _ (by decide) (by decide) (by decide) (by decide) h.refs⟩
  ))) only [↓quiet]
structure Pre1 (c : Cx) (W : WL) (P : Pset) (o1 o2 o3 o4 o5 : Obj) : Prop where
  ks : KS c
  kti : KtI W.L P
  kt : KtA c P [] o1 o2 o3 o4 o5
  nd : NdT c P W.nd
  ndl : Lo W.nd
  rf : DtL P W.rf (([12, 13, 16, 19, 20, 21] : List Int).map .int)
  rwl : Lo W.rw
  wl : Lo W.w
  li : LiT P W.li
  wo : DtL P W.wo (wordsL.map .str)
  inn : InT c P W.inn
  innl : Lo W.inn
theorem Pre1.mono {W : WL} {P P' : Pset} {o1 o2 o3 o4 o5 : Obj} (l : Le P P') (h : Pre1 c W P o1 o2 o3 o4 o5) : Pre1 c W P' o1 o2 o3 o4 o5 where
  ks := h.ks
  kti := h.kti.mono l
  kt := h.kt.mono l
  nd := let ⟨o, k, a, b, e, d⟩ := h.nd; ⟨o, k, l _ _ a, b, e, d.mono l⟩
  ndl := h.ndl
  rf := let ⟨v, a, b⟩ := h.rf; ⟨v, l _ _ a, b.mono l⟩
  rwl := h.rwl
  wl := h.wl
  li := let ⟨v, m, a, b, e⟩ := h.li; ⟨v, m, l _ _ a, b, e⟩
  wo := let ⟨v, a, b⟩ := h.wo; ⟨v, l _ _ a, b.mono l⟩
  inn := let ⟨o, t1, t2, t3, a, b⟩ := h.inn; ⟨o, t1, t2, t3, l _ _ a, b⟩
  innl := h.innl
noncomputable def wayD (p : Int × Int × Int) : PyData := .tuple [.int p.1, .int p.2.1, .int p.2.2]
inductive WayI (P : Pset) (v : Value) (p : Int × Int × Int) : Prop
  | mk (x : Addr) (t u s : Tok) : v = .ref x → P x (tupO [.int p.1 t, .int p.2.1 u, .int p.2.2 s]) → WayI P v p
theorem way_inv {P : Pset} {v : Value} {p : Int × Int × Int} (h : Dt P v (wayD p)) : WayI P v p := by
  refine ofQ ?_; simp (disch := (k_dflt (
  refine hold ?_
  obtain ⟨x, vs, rfl, hP, hd⟩ := h.tup_inv
  cases hd with
  | cons d1 hd =>
    cases hd with
    | cons d2 hd =>
      cases hd with
      | cons d3 hd =>
        cases hd
        obtain ⟨_, rfl⟩ := d1.int_inv
        obtain ⟨_, rfl⟩ := d2.int_inv
        obtain ⟨_, rfl⟩ := d3.int_inv
        exact ⟨x, _, _, _, rfl, hP⟩
  ))) only [↓quiet]
theorem lookup_none_of {g : Goes} {a b : Int} (h : ∀ p ∈ g, p.1 ≠ (a, b)) : g.lookup (a, b) = none := by
  refine ofQ ?_; simp (disch := (k_dflt (
  refine hold ?_
  induction g with
  | nil => rfl
  | cons p g ih =>
    obtain ⟨q, cv⟩ := p
    have h1 := h _ (.head _)
    rw [List.lookup_cons, beq_eq_false_iff_ne.mpr (Ne.symm h1)]
    exact ih fun p hp => h p (.tail _ hp)
  ))) only [↓quiet]
theorem law_goes (H : Ok F R_law.d (n + 100)) {W : WL} {o1 o2 o3 o4 o5 ow : Obj} (pre : Pre1 c W P₀ o1 o2 o3 o4 o5) {kvs : List (Str × Value)} (hwd : ow.IsDictOf (PySem.strKind P0 c.w) kvs) (hF : WdP W kvs) (hD : Draw kvs W.li) (hkl : kvs.length ≤ 20)
    {wy : Addr} {wvs : List Value} {mw : Nat} (hwy : P₀ wy (listOf wvs.toArray mw)) (hwv : Dts P₀ wvs (waysL.map wayD))
    {st : Addr} {rest : List (Str × Value)} (hS : Ins P₀ st 980 ((S "kt", .ref W.L.kt) :: rest)) {c0 c2 c4 c5 c6 c7 c8 c9 d2 d3 d5 : Option Value} {ti te : Tok} {gr : List (Str × Option Value)} {Q : Value → St → Prop} (h : ∀ W' P' os', Q (.bool true) ⟨gr, P', mM W' os' []⟩) :
    WP F (execs (R_law.body.drop 16) F.env) ⟨[(S "script", d5), (S "cx", c0), (S "enum", some (.int 18 te)), (S "i", c2), (S "ints", some (.int 19 ti)), (S "kt", c4), (S "lost", c5), (S "node", c6), (S "plain", c7), (S "root", c8), (S "rows", c9), (S "store", some (.ref st)), (S "struct", d2), (S "texts", d3), (S "w", some (.ref W.w)), (S "ways", some (.ref wy))], P₀, K5 W.L o1 o2 o3 o4 o5 [(W.w, ow), (W.rw, dictOf [] 0), (W.du, listOf #[] 0)]⟩ (Ret gr Q) := by
  refine ofQ ?_; simp (disch := (k_dflt (
  refine hold ?_
  have k := pre.ks.kf
  obtain ⟨lvs, lm, hli, hlv, hll⟩ := pre.li
  refine wCons ?_
  repeat k_extra "w"
  refine l_take (n := n) k (H.le (by lia)) (M' := fun o => K5 W.L o1 o2 o3 o4 o5 [(W.w, o), (W.rw, dictOf [] 0), (W.du, listOf #[] 0)]) (fun o o' => by k_extra "mp") hwd hD (by lia) hli hlv hll (by decide) (by decide) fun lost tl ow1 kvs1 l0 l1 hwd1 hD1 hk1 hs1 => ?_
  repeat k_extra "w"
  refine wDict0 H fun gs hlog => ?_
  repeat k_extra "w"
  refine' sItem (fun o' => ?U) hwd1 (isS _ _ _) (fun ow2 hwd2 => ?_) (by rw [sizeLine_eq]; lia)
  case U => k_extra "mp"
  have hF2 : WdP W (stored kvs1 (S "goes") (.ref gs)) := hF.of fun x v x1 x2 x3 x4 hv => valueAt_new (hs1 x v x1 x2 hv) x3
  have hgo : valueAt (stored kvs1 (S "goes") (.ref gs)) (S "goes") = some (.ref gs) := by rw [valueAt_stored, if_pos rfl]
  have hD2 : Draw (stored kvs1 (S "goes") (.ref gs)) W.li := by
    obtain ⟨a, t, ha, h0⟩ := hD1.at_
    obtain ⟨b, u, hb⟩ := hD1.left
    exact ⟨valueAt_new hD1.inl (by decide), ⟨a, t, valueAt_new ha (by decide), h0⟩, ⟨b, u, valueAt_new hb (by decide)⟩⟩
  have hk2 := stored_length_le kvs1 (S "goes") (.ref gs)
  replace hwd2 : ow2.IsDictOf (PySem.strKind P0 c.w) (stored kvs1 (S "goes") (.ref gs)) := hwd2
  generalize stored kvs1 (S "goes") (.ref gs) = kvs2 at *
  repeat ((fail_if_success guard_target = WP _ (exec (Stmt.For _ _ _ _ _) _) _ _); k_extra "w")
  k_extra "forR"
  repeat k_extra "w"
  refine wRange H fun ra t' u' P1 la hra => ?_
  refine OverRange.mk (k := 17) hra (by decide) fun I => ?_
  refine (?key : ∀ (j q : Nat) (P : Pset) (og : Obj) (b1 : Option Value) (g : Goes) (xs : List (List Int × Addr × Value)), q + j = 17 → Le P1 P → HTab (tupleKind (intKind P0 c.w)) P og xs → GoesT P xs g → (∀ p ∈ g, ∃ i, i < q ∧ waysL[i]? = some (p.1.1, p.1.2, p.2)) →
    Turns F _ _ _ I _ j q ⟨[(Str.ofString "script", d5), (Str.ofString "cx", c0), (Str.ofString "enum", some (.int 18 te)), (Str.ofString "i", b1), (Str.ofString "ints", some (.int 19 ti)), (Str.ofString "kt", c4), (Str.ofString "lost", some (.int lost tl)), (Str.ofString "node", c6), (Str.ofString "plain", c7), (Str.ofString "root", c8), (Str.ofString "rows", c9), (Str.ofString "store", some (.ref st)), (Str.ofString "struct", d2), (Str.ofString "texts", d3), (Str.ofString "w", some (.ref W.w)), (Str.ofString "ways", some (.ref wy))], P, K5 W.L o1 o2 o3 o4 o5 [(W.w, ow2), (W.rw, dictOf [] 0), (W.du, listOf #[] 0), (gs, og)]⟩) 17 0 P1 _ _ [] [] rfl Le.rfl HTab.empty ⟨rfl, .nil, fun _ h => nomatch h⟩ (fun _ h => nomatch h)
  intro j
  induction j with
  | zero =>
    intro q P og b1 g xs hq l2 hg hG _
    have hq : q = 17 := hq
    subst hq
    refine Turns.z ?_
    refine After.nx ?_
    refine WP.freeze H (M' := K5 W.L o1 o2 o3 o4 o5 [(W.w, ow2), (W.rw, dictOf [] 0), (W.du, listOf #[] 0)]) (d := gs) (o := og) (.tl (.tl (.tl (.tl (.tl (.tl (.tl (.tl .hd)))))))) fun P2 l3 hgs => ?_
    have lt := la.trans (l2.trans l3)
    refine wCons ?_
    repeat k_extra "w"
    refine l_take (n := n) k (H.le (by lia)) (M' := fun o => K5 W.L o1 o2 o3 o4 o5 [(W.w, o), (W.rw, dictOf [] 0), (W.du, listOf #[] 0)]) (fun o o' => by k_extra "mp") hwd2 hD2 (by lia) (lt _ _ hli) hlv hll (by decide) (by decide) fun chk tc ow3 kvs3 c0' c1' hwd3 hD3 hk3 hs3 => ?_
    repeat k_extra "w"
    refine' sItem (fun o' => ?U) hwd3 (isS _ _ _) (fun ow4 hwd4 => ?_) (by rw [sizeLine_eq]; lia)
    case U => k_extra "mp"
    have hF4 : WdP W (stored kvs3 (S "checked") (.int chk tc)) := hF2.of fun x v x1 x2 x3 x4 hv => valueAt_new (hs3 x v x1 x2 hv) x4
    obtain ⟨a, t, ha, h0⟩ := hD3.at_
    obtain ⟨b, u, hb⟩ := hD3.left
    have hk4 : (stored kvs3 (S "checked") (.int chk tc)).length ≤ kvs3.length + 1 := stored_length_le _ _ _
    replace hwd4 : ow4.IsDictOf (PySem.strKind P0 c.w) (stored kvs3 (S "checked") (.int chk tc)) := hwd4
    obtain ⟨W0, hW0⟩ : ∃ W0 : WL, W0 = { W with gs := gs } := ⟨_, rfl⟩
    have hWF : WdF { W with gs := gs } ⟨g, chk⟩ a b 0 (stored kvs3 (S "checked") (.int chk tc)) := ⟨valueAt_new hD3.inl (by decide), ⟨t, valueAt_new ha (by decide)⟩, ⟨u, valueAt_new hb (by decide)⟩, hF4.kt, hF4.nodes, hF4.rows, hF4.due, hF4.named, hF4.words, hF4.inner, hF4.plain, hF4.enum, hF4.refs, valueAt_new (hs3 _ _ (by decide) (by decide) hgo) (by decide), ⟨tc, by rw [valueAt_stored, if_pos rfl]⟩⟩
    have pr := pre.mono lt
    have pre4 : Pre c { W with gs := gs } ⟨g, chk⟩ P2 o1 o2 o3 o4 o5 ow4 := ⟨pr.ks, pr.kti, pr.kt, ⟨_, a, b, hwd4, hWF, h0, by lia⟩, pr.nd, pr.ndl, ⟨og, xs, hgs, hg.mono l3, ⟨hG.1, hG.2.1.mono l3, hG.2.2⟩⟩, hlog, pr.rf, pr.rwl, pr.wl, pr.li, pr.wo, pr.inn, pr.innl⟩
    repeat (first | ((guard_target = WP _ (execs _ _) _ _); exact law_seat (W := { W with gs := gs }) H pre4 (hS.mono lt) h) | k_extra "w")
  | succ j ih =>
    intro q P og b1 g xs hq l2 hg hG hgq
    refine Turns.s fun v oI hv => ?_
    obtain ⟨tv, rfl⟩ := hv
    have hqw : q < waysL.length := by show q < 17; lia
    obtain ⟨v, hv, hvd⟩ := hwv.get (i := q) (d := wayD waysL[q]) (by rw [List.getElem?_map, List.getElem?_eq_getElem hqw]; rfl)
    obtain ⟨x, t1, t2, t3, rfl, hx⟩ := way_inv hvd
    have hwyP := (la.trans l2) _ _ hwy
    have hxP := (la.trans l2) _ _ hx
    by_cases hql : (q : Int) = lost
    · repeat k_extra "w"
      refine TurnEnd.nx (M := K5 W.L o1 o2 o3 o4 o5 [(W.w, ow2), (W.rw, dictOf [] 0), (W.du, listOf #[] 0), (gs, og)]) Le.rfl ?_
      exact ih (q + 1) P og _ g xs (by lia) l2 hg hG fun p hp => let ⟨i, a, b⟩ := hgq p hp; ⟨i, by lia, b⟩
    · repeat k_extra "w"
      refine wItemListP (k := q) hwyP hv ?_ (by lia) (hs := ?hs)
      case hs => with_unfolding_all rfl
      repeat k_extra "w"
      refine wItemListP (k := q) hwyP hv ?_ (by lia) (hs := ?hs)
      case hs => with_unfolding_all rfl
      repeat k_extra "w"
      refine wSliceUp H ?_
      repeat k_extra "w"
      intro sl P3 l3 hsl
      refine wTailST H (l3 _ _ hxP) hsl (fun b P4 l4 hb => ?_) (hsub := ?hs)
      case hs => with_unfolding_all rfl
      have l34 := l3.trans l4
      have hnone : atKey xs [waysL[q].1, waysL[q].2.1] = none := by
        rcases hG.look waysL[q].1 waysL[q].2.1 with ⟨_, e⟩ | ⟨cv, p, t, e, _, _⟩
        · exact e
        · rw [lookup_none_of] at e
          · cases e
          · intro p hp e
            obtain ⟨i, hi, hw⟩ := hgq p hp
            have e1 : (waysL.map fun p => (p.1, p.2.1))[i]? = some p.1 := by rw [List.getElem?_map, hw]; rfl
            have e2 : (waysL.map fun p => (p.1, p.2.1))[q]? = some p.1 := by rw [List.getElem?_map, List.getElem?_eq_getElem hqw, e]; rfl
            have hil : i < (waysL.map fun p => (p.1, p.2.1)).length := (List.getElem?_eq_some_iff.mp e1).1
            have := (List.getElem?_inj hil waysL_nd).mp (e1.trans e2.symm)
            lia
      have hxl : xs.length ≤ 17 := by
        have h1 : xs.length = g.length := by have := congrArg List.length hG.1; simpa using this
        have h2 : (xs.map (·.1)).Nodup := hg.nd
        rw [hG.1] at h2
        have h3 : g.length ≤ waysL.length := by
          have : (g.map fun p => ([p.1.1, p.1.2] : List Int)).length ≤ (waysL.map fun p => ([p.1, p.2.1] : List Int)).length := nodup_len h2 fun y hy => by
            obtain ⟨p, hp, rfl⟩ := List.mem_map.mp hy
            obtain ⟨i, _, hw⟩ := hgq p hp
            exact List.mem_map.mpr ⟨_, List.mem_of_getElem? hw, rfl⟩
          simpa using this
        have h4 : waysL.length = 17 := rfl
        lia
      refine' sItemH (room_tup H) (fun o' => ?U) (hg.mono l34) (key_tup2 hb) hnone (fun og' hg' => ?_) (by rw [sizeLine_eq]; lia)
      case U => k_extra "mp"
      repeat k_extra "w"
      refine TurnEnd.nx (M := K5 W.L o1 o2 o3 o4 o5 [(W.w, ow2), (W.rw, dictOf [] 0), (W.du, listOf #[] 0), (gs, og')]) l34 ?_
      refine ih (q + 1) P4 og' _ (g ++ [((waysL[q].1, waysL[q].2.1), waysL[q].2.2)]) _ (by lia) (l2.trans l34) hg' ⟨?_, ?_, ?_⟩ ?_
      · rw [List.map_append, List.map_append, hG.1]; rfl
      · rw [List.map_append, List.map_append]; exact Dts.app (.cons (.int _ _) .nil) (hG.2.1.mono l34)
      · intro p hp
        rcases List.mem_append.mp hp with hp | hp
        · exact hG.2.2 p hp
        · have : p = ((waysL[q].1, waysL[q].2.1), waysL[q].2.2) := by simpa using hp
          subst this
          exact waysL_cv _ (List.getElem_mem hqw)
      · intro p hp
        rcases List.mem_append.mp hp with hp | hp
        · obtain ⟨i, a, b⟩ := hgq p hp
          exact ⟨i, by lia, b⟩
        · have : p = ((waysL[q].1, waysL[q].2.1), waysL[q].2.2) := by simpa using hp
          subst this
          exact ⟨q, by lia, List.getElem?_eq_getElem hqw⟩
  ))) only [↓quiet]
end
section
variable {c : Cx} {F : Frm c} {D : FnD} {n : Nat} {fr₀ : List (Str × Option Value)} {P₀ : Pset} {M₀ : List (Addr × Obj)}

section
theorem law_tables (H : Ok F R_law.d (n + 100)) (ks : KS c) {L : KtL} {o1 o2 o3 o4 o5 : Obj} (hKI : KtI L P₀) {ds ws os : List Int} (hK : KtS c P₀ (R0.take 22) ds ws os o1 o2 o3 o4 o5) (hds : ds = D0.take 22) (hws : ws = W0.take 22)
    {l : Addr} {ol : Obj} {vals : List Value} {lm : Nat} {zs : List Int} (hl : P₀ l ol) (hlc : ol.cls = .type "list") (hld : ol.data = .seq vals.toArray lm) (hints : IntsAre vals zs) (hlen : vals.length ≤ 63)
    {st : Addr} {rest : List (Str × Value)} (hS : Ins P₀ st 980 ((S "kt", .ref L.kt) :: rest)) {t1 t2 t3 t4 t5 t6 : Tok} {gr : List (Str × Option Value)} {Q : Value → St → Prop} (h : ∀ W' P' os', Q (.bool true) ⟨gr, P', mM W' os' []⟩) :
    WP F (execs (R_law.body.drop 8) F.env) ⟨[(S "script", some (.ref l)), (S "cx", none), (S "enum", some (.int 18 t1)), (S "i", none), (S "ints", some (.int 19 t2)), (S "kt", some (.ref L.kt)), (S "lost", none), (S "node", none), (S "plain", some (.int 16 t3)), (S "root", none), (S "rows", some (.int 21 t4)), (S "store", some (.ref st)), (S "struct", some (.int 17 t5)), (S "texts", some (.int 20 t6)), (S "w", none), (S "ways", none)], P₀, K5 L o1 o2 o3 o4 o5 []⟩ (Ret gr Q) := by
  refine ofQ ?_; simp (disch := (k_dflt (
  refine hold ?_
  have k := ks.kf
  obtain ⟨hKI1, -⟩ := id hKI
  refine wCons ?_
  repeat k_extra "w"
  refine wDictS2 H rfl rfl (List.cons_ne_nil _ _) (Nat.le_of_ble_eq_true rfl) fun wd hlow => ?_
  repeat k_extra "w"
  refine wCompMod H (by decide) (by decide +kernel) (by decide +kernel) rfl (by decide +kernel) (by decide +kernel) (by decide +kernel) ?_ (hs := ?hs)
  case hs => intro _; rfl
  repeat k_extra "w"
  refine wSliceUp H ?_
  repeat k_extra "w"
  intro sl P1 l1 hsl
  refine wTailSL H (l1 _ _ hl) hlc hld hsl (by lia) (fun b P2 l2 hb => ?_) (hsub := ?hs)
  case hs => with_unfolding_all rfl
  have hsz := slice_size_upto hints (y := 40) (by decide)
  have hil : zs.length = vals.length := (IntsAre.length hints).symm
  refine ⟨b, _, 0, rfl, hb, by rw [hsz, hil]; lia, ints_all (slice_ints_uptoW hints (by decide)), fun li lvs lm' P3 l3 hli hlvl hlvi => ?_⟩
  have hKI3 := (hKI.mono (l1.trans (l2.trans l3)))
  repeat k_extra "w"
  refine wDict0 H fun rw hlorw => ?_
  repeat k_extra "w"
  refine wList ?_
  repeat k_extra "w"
  refine wNewListM (fun du => ?_) (szl rfl)
  repeat k_extra "w"
  show MadeS2 _ _ _ _ ⟨[(S "script", some (.ref l)), (S "cx", none), (S "enum", some (.int 18 t1)), (S "i", none), (S "ints", some (.int 19 t2)), (S "kt", some (.ref L.kt)), (S "lost", none), (S "node", none), (S "plain", some (.int 16 t3)), (S "root", none), (S "rows", some (.int 21 t4)), (S "store", some (.ref st)), (S "struct", some (.int 17 t5)), (S "texts", some (.int 20 t6)), (S "w", none), (S "ways", none)], P3, K5 L o1 o2 o3 o4 o5 [(wd, dictOf [] 0), (rw, dictOf [] 0), (du, listOf #[] 0)]⟩
  refine ⟨fun o => K5 L o1 o2 o3 o4 o5 [(wd, o), (rw, dictOf [] 0), (du, listOf #[] 0)], fun o' => .tl (.tl (.tl (.tl (.tl .hd)))), rfl, (by decide : ([S "in", S "at", S "left", S "kt", S "nodes", S "rows", S "due"] : List Str).Nodup), fun ow hwd => ?_⟩
  obtain ⟨kvs, hkl, hwd, f1, f2, f3, f4, f5, f6, f7⟩ : ∃ kvs, kvs.length = 7 ∧ ow.IsDictOf (PySem.strKind P0 c.w) kvs ∧ valueAt kvs (S "in") = some (.ref li) ∧ (∃ t, valueAt kvs (S "at") = some (.int 0 t)) ∧ (∃ t, valueAt kvs (S "left") = some (.int 0 t)) ∧ valueAt kvs (S "kt") = some (.ref L.kt) ∧ (∃ t, valueAt kvs (S "nodes") = some (.int 0 t)) ∧ valueAt kvs (S "rows") = some (.ref rw) ∧ valueAt kvs (S "due") = some (.ref du) := ⟨_, rfl, hwd, rfl, ⟨_, rfl⟩, ⟨_, rfl⟩, rfl, ⟨_, rfl⟩, rfl, rfl⟩
  show Stored _ _ _ ⟨[(S "script", some (.ref l)), (S "cx", none), (S "enum", some (.int 18 t1)), (S "i", none), (S "ints", some (.int 19 t2)), (S "kt", some (.ref L.kt)), (S "lost", none), (S "node", none), (S "plain", some (.int 16 t3)), (S "root", none), (S "rows", some (.int 21 t4)), (S "store", some (.ref st)), (S "struct", some (.int 17 t5)), (S "texts", some (.int 20 t6)), (S "w", none), (S "ways", none)], P3, K5 L o1 o2 o3 o4 o5 [(wd, ow), (rw, dictOf [] 0), (du, listOf #[] 0)]⟩
  repeat k_extra "w"
  refine (?named : ∀ Z : Value → St → Prop, (∀ nd P4 o1' o2' o3' o4' o5' on kvn, Lo nd → Le P3 P4 → KtA c P4 [] o1' o2' o3' o4' o5' → on.IsDictOf (PySem.strKind P0 c.w) kvn → kvn.map (·.1) = namedL.map (·.1) → Dts P4 (kvn.map (·.2)) (namedL.map fun p => .int p.2) → Z (.ref nd) ⟨[(S "script", some (.ref l)), (S "cx", none), (S "enum", some (.int 18 t1)), (S "i", none), (S "ints", some (.int 19 t2)), (S "kt", some (.ref L.kt)), (S "lost", none), (S "node", none), (S "plain", some (.int 16 t3)), (S "root", none), (S "rows", some (.int 21 t4)), (S "store", some (.ref st)), (S "struct", some (.int 17 t5)), (S "texts", some (.int 20 t6)), (S "w", some (.ref wd)), (S "ways", none)], P4, K5 L o1' o2' o3' o4' o5' [(wd, ow), (rw, dictOf [] 0), (du, listOf #[] 0), (nd, on)]⟩) → WP F (eval _ F.env) ⟨[(S "script", some (.ref l)), (S "cx", none), (S "enum", some (.int 18 t1)), (S "i", none), (S "ints", some (.int 19 t2)), (S "kt", some (.ref L.kt)), (S "lost", none), (S "node", none), (S "plain", some (.int 16 t3)), (S "root", none), (S "rows", some (.int 21 t4)), (S "store", some (.ref st)), (S "struct", some (.int 17 t5)), (S "texts", some (.int 20 t6)), (S "w", some (.ref wd)), (S "ways", none)], P3, K5 L o1 o2 o3 o4 o5 [(wd, ow), (rw, dictOf [] 0), (du, listOf #[] 0)]⟩ Z) _ ?_
  case named =>
    intro Z hZ
    with_reducible refine' wDictS2 H ?ha ?hb ?hc ?hd fun nd hlond => ?_
    case ha => rfl
    case hb => rfl
    case hc => exact List.cons_ne_nil _ _
    case hd => exact Nat.le_of_ble_eq_true rfl
    repeat k_extra "w"
    intro a P5 l5 ha
    repeat k_extra "w"
    refine c_put_leaf (n := n) ks (H.le (by lia)) (X := [(wd, ow), (rw, dictOf [] 0), (du, listOf #[] 0), (nd, dictOf [] 0)]) (hKI3.mono l5) (hK.mono (l1.trans (l2.trans (l3.trans l5)))) (r := (6, 0, false)) (.var 0 (by decide)) (fun b e => by cases e) (by decide) (by decide) (.tup ha (.cons (.int _ _) (.cons (.int _ _) .nil))) fun P6 o1' o2' o3' o4' o5' o t l6 hK' => ?_
    repeat k_extra "w"
    refine ⟨fun o => K5 L o1' o2' o3' o4' o5' [(wd, ow), (rw, dictOf [] 0), (du, listOf #[] 0), (nd, o)], fun o' => .tl (.tl (.tl (.tl (.tl (.tl (.tl (.tl .hd))))))), rfl, (by decide : (namedL.map (·.1)).Nodup), fun on hon => hZ nd P6 o1' o2' o3' o4' o5' on _ hlond (l5.trans l6) ⟨⟨List.nodup_nil, fun _ h => nomatch h⟩, _, _, _, hK', ⟨[], ?_⟩, ⟨[], ?_⟩⟩ hon rfl ?_⟩
    · rw [hds]; rfl
    · rw [hws]; rfl
    · repeat (first | exact .nil | refine .cons (.int _ _) ?_)
  intro nd P4 o1' o2' o3' o4' o5' on kvn hlond l4 hKA hon hkn hvn
  refine WP.freeze H (M' := K5 L o1' o2' o3' o4' o5' [(wd, ow), (rw, dictOf [] 0), (du, listOf #[] 0)]) (d := nd) (o := on) (.tl (.tl (.tl (.tl (.tl (.tl (.tl (.tl .hd)))))))) fun P7 l7 hndP => ?_
  repeat k_extra "w"
  refine' sItem (fun o' => ?U) hwd (isS _ _ _) (fun owA hdA => ?_) (by rw [sizeLine_eq]; lia)
  case U => k_extra "mp"
  replace hdA : owA.IsDictOf (PySem.strKind P0 c.w) (stored kvs (S "named") (.ref nd)) := hdA
  have kA : (stored kvs (S "named") (.ref nd)).length ≤ 8 := by have := stored_length_le kvs (S "named") (.ref nd); lia
  have uA : ∀ x v, x ≠ S "named" → valueAt kvs x = some v → valueAt (stored kvs (S "named") (.ref nd)) x = some v := fun x v n h => valueAt_new h n
  have nA : valueAt (stored kvs (S "named") (.ref nd)) (S "named") = some (.ref nd) := by rw [valueAt_stored, if_pos rfl]
  generalize stored kvs (S "named") (.ref nd) = kvA at *
  repeat k_extra "w"
  intro wo P8 l8 hwo
  repeat k_extra "w"
  refine' sItem (fun o' => ?U) hdA (isS _ _ _) (fun owB hdB => ?_) (by rw [sizeLine_eq]; lia)
  case U => k_extra "mp"
  replace hdB : owB.IsDictOf (PySem.strKind P0 c.w) (stored kvA (S "words") (.ref wo)) := hdB
  have kB : (stored kvA (S "words") (.ref wo)).length ≤ 9 := by have := stored_length_le kvA (S "words") (.ref wo); lia
  have uB : ∀ x v, x ≠ S "words" → valueAt kvA x = some v → valueAt (stored kvA (S "words") (.ref wo)) x = some v := fun x v n h => valueAt_new h n
  have nB : valueAt (stored kvA (S "words") (.ref wo)) (S "words") = some (.ref wo) := by rw [valueAt_stored, if_pos rfl]
  generalize stored kvA (S "words") (.ref wo) = kvB at *
  repeat k_extra "w"
  with_reducible refine' wDictS2 H ?ha ?hb ?hc ?hd fun inn hloin => ?_
  case ha => rfl
  case hb => rfl
  case hc => exact List.cons_ne_nil _ _
  case hd => exact Nat.le_of_ble_eq_true rfl
  repeat k_extra "w"
  show MadeS2 _ _ _ _ ⟨[(S "script", some (.ref l)), (S "cx", none), (S "enum", some (.int 18 t1)), (S "i", none), (S "ints", some (.int 19 t2)), (S "kt", some (.ref L.kt)), (S "lost", none), (S "node", none), (S "plain", some (.int 16 t3)), (S "root", none), (S "rows", some (.int 21 t4)), (S "store", some (.ref st)), (S "struct", some (.int 17 t5)), (S "texts", some (.int 20 t6)), (S "w", some (.ref wd)), (S "ways", none)], P8, K5 L o1' o2' o3' o4' o5' [(wd, owB), (rw, dictOf [] 0), (du, listOf #[] 0), (inn, dictOf [] 0)]⟩
  refine ⟨fun o => K5 L o1' o2' o3' o4' o5' [(wd, owB), (rw, dictOf [] 0), (du, listOf #[] 0), (inn, o)], fun o' => .tl (.tl (.tl (.tl (.tl (.tl (.tl (.tl .hd))))))), rfl, (by decide : ([S "int[]", S "string[]", S "int[][]"] : List Str).Nodup), fun oin hoin => ?_⟩
  show WP F _ ⟨[(S "script", some (.ref l)), (S "cx", none), (S "enum", some (.int 18 t1)), (S "i", none), (S "ints", some (.int 19 t2)), (S "kt", some (.ref L.kt)), (S "lost", none), (S "node", none), (S "plain", some (.int 16 t3)), (S "root", none), (S "rows", some (.int 21 t4)), (S "store", some (.ref st)), (S "struct", some (.int 17 t5)), (S "texts", some (.int 20 t6)), (S "w", some (.ref wd)), (S "ways", none)], P8, K5 L o1' o2' o3' o4' o5' [(wd, owB), (rw, dictOf [] 0), (du, listOf #[] 0), (inn, oin)]⟩ _
  refine WP.freeze H (M' := K5 L o1' o2' o3' o4' o5' [(wd, owB), (rw, dictOf [] 0), (du, listOf #[] 0)]) (d := inn) (o := oin) (.tl (.tl (.tl (.tl (.tl (.tl (.tl (.tl .hd)))))))) fun P9 l9 hinP => ?_
  repeat k_extra "w"
  refine' sItem (fun o' => ?U) hdB (isS _ _ _) (fun owC hdC => ?_) (by rw [sizeLine_eq]; lia)
  case U => k_extra "mp"
  replace hdC : owC.IsDictOf (PySem.strKind P0 c.w) (stored kvB (S "inner") (.ref inn)) := hdC
  have kC : (stored kvB (S "inner") (.ref inn)).length ≤ 10 := by have := stored_length_le kvB (S "inner") (.ref inn); lia
  have uC : ∀ x v, x ≠ S "inner" → valueAt kvB x = some v → valueAt (stored kvB (S "inner") (.ref inn)) x = some v := fun x v n h => valueAt_new h n
  have nC : valueAt (stored kvB (S "inner") (.ref inn)) (S "inner") = some (.ref inn) := by rw [valueAt_stored, if_pos rfl]
  generalize stored kvB (S "inner") (.ref inn) = kvC at *
  repeat k_extra "w"
  refine' sItem (fun o' => ?U) hdC (isS _ _ _) (fun owD hdD => ?_) (by rw [sizeLine_eq]; lia)
  case U => k_extra "mp"
  replace hdD : owD.IsDictOf (PySem.strKind P0 c.w) (stored kvC (S "plain") (.int 16 t3)) := hdD
  have kD : (stored kvC (S "plain") (.int 16 t3)).length ≤ 11 := by have := stored_length_le kvC (S "plain") (.int 16 t3); lia
  have uD : ∀ x v, x ≠ S "plain" → valueAt kvC x = some v → valueAt (stored kvC (S "plain") (.int 16 t3)) x = some v := fun x v n h => valueAt_new h n
  have nD : valueAt (stored kvC (S "plain") (.int 16 t3)) (S "plain") = some (.int 16 t3) := by rw [valueAt_stored, if_pos rfl]
  generalize stored kvC (S "plain") (.int 16 t3) = kvD at *
  repeat k_extra "w"
  refine' sItem (fun o' => ?U) hdD (isS _ _ _) (fun owE hdE => ?_) (by rw [sizeLine_eq]; lia)
  case U => k_extra "mp"
  replace hdE : owE.IsDictOf (PySem.strKind P0 c.w) (stored kvD (S "enum") (.int 18 t1)) := hdE
  have kE : (stored kvD (S "enum") (.int 18 t1)).length ≤ 12 := by have := stored_length_le kvD (S "enum") (.int 18 t1); lia
  have uE : ∀ x v, x ≠ S "enum" → valueAt kvD x = some v → valueAt (stored kvD (S "enum") (.int 18 t1)) x = some v := fun x v n h => valueAt_new h n
  have nE : valueAt (stored kvD (S "enum") (.int 18 t1)) (S "enum") = some (.int 18 t1) := by rw [valueAt_stored, if_pos rfl]
  generalize stored kvD (S "enum") (.int 18 t1) = kvE at *
  repeat k_extra "w"
  intro rf P10 l10 hrf
  repeat k_extra "w"
  refine' sItem (fun o' => ?U) hdE (isS _ _ _) (fun owG hdG => ?_) (by rw [sizeLine_eq]; lia)
  case U => k_extra "mp"
  replace hdG : owG.IsDictOf (PySem.strKind P0 c.w) (stored kvE (S "refs") (.ref rf)) := hdG
  have kG : (stored kvE (S "refs") (.ref rf)).length ≤ 13 := by have := stored_length_le kvE (S "refs") (.ref rf); lia
  have uG : ∀ x v, x ≠ S "refs" → valueAt kvE x = some v → valueAt (stored kvE (S "refs") (.ref rf)) x = some v := fun x v n h => valueAt_new h n
  have nG : valueAt (stored kvE (S "refs") (.ref rf)) (S "refs") = some (.ref rf) := by rw [valueAt_stored, if_pos rfl]
  generalize stored kvE (S "refs") (.ref rf) = kvG at *
  repeat k_extra "w"
  refine wList ?_
  repeat k_extra "w"
  intro ws Q0 m0 d0
  refine wNewListP H (fun wy P11 l11 hwy => ?_) (szd d0 rfl)
  have lA : Le P10 P11 := m0.trans l11
  have lB : Le P9 P11 := l10.trans lA
  have lC : Le P8 P11 := l9.trans lB
  have lD : Le P7 P11 := l8.trans lC
  have lE : Le P4 P11 := l7.trans lD
  have lF : Le P3 P11 := l4.trans lE
  have lG : Le P₀ P11 := (l1.trans (l2.trans l3)).trans lF
  have vv : ∀ x v, x ≠ S "named" → x ≠ S "words" → x ≠ S "inner" → x ≠ S "plain" → x ≠ S "enum" → x ≠ S "refs" → valueAt kvs x = some v → valueAt kvG x = some v := fun x v a b e d f g h => uG x v g (uE x v f (uD x v d (uC x v e (uB x v b (uA x v a h)))))
  obtain ⟨ta, f2⟩ := f2
  obtain ⟨tl, f3⟩ := f3
  obtain ⟨tn, f5⟩ := f5
  have hD : Draw kvG li := ⟨vv _ _ (by decide) (by decide) (by decide) (by decide) (by decide) (by decide) f1, ⟨0, ta, vv _ _ (by decide) (by decide) (by decide) (by decide) (by decide) (by decide) f2, by decide⟩, ⟨0, tl, vv _ _ (by decide) (by decide) (by decide) (by decide) (by decide) (by decide) f3⟩⟩
  have hFF : WdP ⟨L, wd, rw, du, 0, 0, 0, nd, 0, 0, 0, 0, 0, 0, 0, 0, 0, 0, 0, 0, 0, 0, 0, 0, 0, rf, wo, inn, li⟩ kvG := by
    refine ⟨vv _ _ (by decide) (by decide) (by decide) (by decide) (by decide) (by decide) f4, ⟨tn, vv _ _ (by decide) (by decide) (by decide) (by decide) (by decide) (by decide) f5⟩, vv _ _ (by decide) (by decide) (by decide) (by decide) (by decide) (by decide) f6, vv _ _ (by decide) (by decide) (by decide) (by decide) (by decide) (by decide) f7, ?_, ?_, ?_, ⟨t3, ?_⟩, ⟨t1, ?_⟩, nG⟩
    · exact uG _ _ (by decide) (uE _ _ (by decide) (uD _ _ (by decide) (uC _ _ (by decide) (uB _ _ (by decide) nA))))
    · exact uG _ _ (by decide) (uE _ _ (by decide) (uD _ _ (by decide) (uC _ _ (by decide) nB)))
    · exact uG _ _ (by decide) (uE _ _ (by decide) (uD _ _ (by decide) nC))
    · exact uG _ _ (by decide) (uE _ _ (by decide) nD)
    · exact uG _ _ (by decide) nE
  have pre : Pre1 c ⟨L, wd, rw, du, 0, 0, 0, nd, 0, 0, 0, 0, 0, 0, 0, 0, 0, 0, 0, 0, 0, 0, 0, 0, 0, rf, wo, inn, li⟩ P11 o1' o2' o3' o4' o5' := by
    refine ⟨ks, hKI3.mono lF, hKA.mono lE, ⟨on, kvn, lD _ _ hndP, hon, hkn, hvn.mono lE⟩, hlond, ⟨_, lA _ _ hrf, ?_⟩, hlorw, hlow, ⟨lvs, lm', lF _ _ hli, hlvi, hlvl⟩, ⟨_, lC _ _ hwo, ?_⟩, ⟨oin, _, _, _, lB _ _ hinP, hoin⟩, hloin⟩
    · repeat (first | exact .nil | refine .cons (.int _ _) ?_)
    · repeat (first | exact .nil | refine .cons (.str _ _ (strOk_of _)) ?_)
  repeat (first | ((guard_target = WP _ (execs _ _) _ _); exact law_goes (W := ⟨L, wd, rw, du, 0, 0, 0, nd, 0, 0, 0, 0, 0, 0, 0, 0, 0, 0, 0, 0, 0, 0, 0, 0, 0, rf, wo, inn, li⟩) H pre hdG hFF hD (by lia) hwy (d0.mono l11) (hS.mono lG) h) | k_extra "w")
  ))) only [↓quiet]
end
end
section
variable {c : Cx} {F : Frm c} {D : FnD} {n : Nat} {fr₀ : List (Str × Option Value)} {P₀ : Pset} {M₀ : List (Addr × Obj)}
theorem law_top (H : Ok F R_law.d (n + 100)) (ks : KS c)
    {l : Addr} {ol : Obj} {vals : List Value} {lm : Nat} {zs : List Int} (hl : P₀ l ol) (hlc : ol.cls = .type "list") (hld : ol.data = .seq vals.toArray lm) (hints : IntsAre vals zs) (hlen : vals.length ≤ 63)
    {gr : List (Str × Option Value)} {Q : Value → St → Prop} (h : ∀ W' P' os', Q (.bool true) ⟨gr, P', mM W' os' []⟩) :
    WP F (execs R_law.body F.env) ⟨[(S "script", some (.ref l)), (S "cx", none), (S "enum", none), (S "i", none), (S "ints", none), (S "kt", none), (S "lost", none), (S "node", none), (S "plain", none), (S "root", none), (S "rows", none), (S "store", none), (S "struct", none), (S "texts", none), (S "w", none), (S "ways", none)], P₀, []⟩ (Ret gr Q) := by
  refine ofQ ?_; simp (disch := (k_dflt (
  refine hold ?_
  have k := ks.kf
  refine wCons ?_
  repeat k_extra "w"
  refine c_Store (n := n) ks (H.le (by lia)) fun st L rest P1 o1 o2 o3 o4 o5 l1 hS hKI hK => ?_
  simp only [List.nil_append]
  obtain ⟨hKI1, -⟩ := id hKI
  repeat k_extra "w"
  have hK16 : KtS c P1 (R0.take 16) (D0.take 16) (W0.take 16) (List.replicate 16 0) o1 o2 o3 o4 o5 := hK
  intro e0 P2 l2 he0
  repeat k_extra "w"
  intro a0 P3 l3 ha0
  repeat k_extra "w"
  refine c_put_leaf (n := n) ks (H.le (by lia)) (X := []) (hKI.mono (l2.trans l3)) (hK16.mono (l2.trans l3)) (r := (2, 64, true)) (.cls 64 (by decide) (by decide)) (fun b e => by cases e) (by decide) (by decide) (.tup ha0 (.cons (.int _ _) (.cons (.int _ _) (.cons (.tup (l3 _ _ he0) .nil) .nil)))) fun P4 q01 q02 q03 q04 q05 z0 t0 l4 hz0 => ?_
  replace hz0 : KtS c P4 (R0.take 17) (D0.take 17) (W0.take 17) (List.replicate 16 0 ++ [z0]) q01 q02 q03 q04 q05 := hz0
  rw [show (((R0.take 16).length : Nat) : Int) = 16 from rfl]
  repeat k_extra "w"
  intro e1 P5 l5 he1
  repeat k_extra "w"
  intro a1 P6 l6 ha1
  repeat k_extra "w"
  refine c_put_leaf (n := n) ks (H.le (by lia)) (X := []) (hKI.mono (l2.trans (l3.trans (l4.trans (l5.trans l6))))) (hz0.mono (l5.trans l6)) (r := (3, 65, true)) (.val 65 (by decide) (by decide)) (fun b e => by cases e) (by decide) (by decide) (.tup ha1 (.cons (.int _ _) (.cons (.int _ _) (.cons (.tup (l6 _ _ he1) .nil) .nil)))) fun P7 q11 q12 q13 q14 q15 z1 t1 l7 hz1 => ?_
  replace hz1 : KtS c P7 (R0.take 18) (D0.take 18) (W0.take 18) ((List.replicate 16 0 ++ [z0]) ++ [z1]) q11 q12 q13 q14 q15 := hz1
  rw [show (((R0.take 17).length : Nat) : Int) = 17 from rfl]
  repeat k_extra "w"
  intro e2 P8 l8 he2
  repeat k_extra "w"
  intro a2 P9 l9 ha2
  repeat k_extra "w"
  refine c_put_leaf (n := n) ks (H.le (by lia)) (X := []) (hKI.mono (l2.trans (l3.trans (l4.trans (l5.trans (l6.trans (l7.trans (l8.trans l9)))))))) (hz1.mono (l8.trans l9)) (r := (3, 66, true)) (.val 66 (by decide) (by decide)) (fun b e => by cases e) (by decide) (by decide) (.tup ha2 (.cons (.int _ _) (.cons (.int _ _) (.cons (.tup (l9 _ _ he2) .nil) .nil)))) fun P10 q21 q22 q23 q24 q25 z2 t2 l10 hz2 => ?_
  replace hz2 : KtS c P10 (R0.take 19) (D0.take 19) (W0.take 19) (((List.replicate 16 0 ++ [z0]) ++ [z1]) ++ [z2]) q21 q22 q23 q24 q25 := hz2
  rw [show (((R0.take 18).length : Nat) : Int) = 18 from rfl]
  repeat k_extra "w"
  intro a3 P11 l11 ha3
  repeat k_extra "w"
  refine c_put_arr (n := n) ks (H.le (by lia)) (X := []) (hKI.mono (l2.trans (l3.trans (l4.trans (l5.trans (l6.trans (l7.trans (l8.trans (l9.trans (l10.trans l11)))))))))) (hz2.mono l11) (b := 7) (by decide) (by decide) (rfl : (R0.take 19)[7]? = some (1, 7, false)) (by decide) (rfl : (D0.take 19)[7]? = some 1) (rfl : (W0.take 19)[7]? = some 1) (by decide) (by decide) (by decide) (by decide) (by decide) (.tup ha3 (.cons (.int _ _) (.cons (.int _ _) .nil))) fun P12 q31 q32 q33 q34 q35 z3 t3 l12 hz3 => ?_
  replace hz3 : KtS c P12 (R0.take 20) (D0.take 20) (W0.take 20) ((((List.replicate 16 0 ++ [z0]) ++ [z1]) ++ [z2]) ++ [z3]) q31 q32 q33 q34 q35 := hz3
  rw [show (((R0.take 19).length : Nat) : Int) = 19 from rfl]
  repeat k_extra "w"
  intro a4 P13 l13 ha4
  repeat k_extra "w"
  refine c_put_arr (n := n) ks (H.le (by lia)) (X := []) (hKI.mono (l2.trans (l3.trans (l4.trans (l5.trans (l6.trans (l7.trans (l8.trans (l9.trans (l10.trans (l11.trans (l12.trans l13)))))))))))) (hz3.mono l13) (b := 13) (by decide) (by decide) (rfl : (R0.take 20)[13]? = some (1, 13, false)) (by decide) (rfl : (D0.take 20)[13]? = some 1) (rfl : (W0.take 20)[13]? = some 1) (by decide) (by decide) (by decide) (by decide) (by decide) (.tup ha4 (.cons (.int _ _) (.cons (.int _ _) .nil))) fun P14 q41 q42 q43 q44 q45 z4 t4 l14 hz4 => ?_
  replace hz4 : KtS c P14 (R0.take 21) (D0.take 21) (W0.take 21) (((((List.replicate 16 0 ++ [z0]) ++ [z1]) ++ [z2]) ++ [z3]) ++ [z4]) q41 q42 q43 q44 q45 := hz4
  rw [show (((R0.take 20).length : Nat) : Int) = 20 from rfl]
  repeat k_extra "w"
  intro a5 P15 l15 ha5
  repeat k_extra "w"
  refine c_put_arr (n := n) ks (H.le (by lia)) (X := []) (hKI.mono (l2.trans (l3.trans (l4.trans (l5.trans (l6.trans (l7.trans (l8.trans (l9.trans (l10.trans (l11.trans (l12.trans (l13.trans (l14.trans l15)))))))))))))) (hz4.mono l15) (b := 19) (by decide) (by decide) (rfl : (R0.take 21)[19]? = some (4, 7, false)) (by decide) (rfl : (D0.take 21)[19]? = some 2) (rfl : (W0.take 21)[19]? = some 2) (by decide) (by decide) (by decide) (by decide) (by decide) (.tup ha5 (.cons (.int _ _) (.cons (.int _ _) .nil))) fun P16 q51 q52 q53 q54 q55 z5 t5 l16 hz5 => ?_
  replace hz5 : KtS c P16 (R0.take 22) (D0.take 22) (W0.take 22) ((((((List.replicate 16 0 ++ [z0]) ++ [z1]) ++ [z2]) ++ [z3]) ++ [z4]) ++ [z5]) q51 q52 q53 q54 q55 := hz5
  rw [show (((R0.take 21).length : Nat) : Int) = 21 from rfl]
  repeat (first | ((guard_target = WP _ (execs _ _) _ _); exact law_tables (n := n) H ks (hKI.mono (l2.trans (l3.trans (l4.trans (l5.trans (l6.trans (l7.trans (l8.trans (l9.trans (l10.trans (l11.trans (l12.trans (l13.trans (l14.trans (l15.trans l16))))))))))))))) hz5 rfl rfl ((l1.trans (l2.trans (l3.trans (l4.trans (l5.trans (l6.trans (l7.trans (l8.trans (l9.trans (l10.trans (l11.trans (l12.trans (l13.trans (l14.trans (l15.trans l16))))))))))))))) _ _ hl) hlc hld hints hlen (hS.mono (l2.trans (l3.trans (l4.trans (l5.trans (l6.trans (l7.trans (l8.trans (l9.trans (l10.trans (l11.trans (l12.trans (l13.trans (l14.trans (l15.trans l16))))))))))))))) h) | k_extra "w")
  ))) only [↓quiet]
end
section
variable {c : Cx} {F : Frm c} {D : FnD} {n : Nat} {fr₀ : List (Str × Option Value)} {P₀ : Pset} {M₀ : List (Addr × Obj)}
theorem law_in (ks : KS c) {s : Shared} (hK : c.K.In s.heap) (hT : TopRead c.p c.loose c.mg c.mb s.heap) (hg : s.gens = #[]) (hos : s.os = c.os) {fa : Addr} {o : Obj} (ho : s.heap.get? fa = some o) {fd : FuncData} (hd : o.data = .func fd)
    (h1 : fd.body = .stmts R_law.body) (h2 : fd.scope = R_law.scope) (h3 : fd.params = R_law.params) (h4 : fd.globals = mainGlobals) (h5 : fd.builtins = builtinsNs) (h6 : fd.defaults = .none) (hcd : s.heap.CodeRec fd.code fd.qualname)
    {l : Addr} {vals : List Value} {zs : List Int} (hl : s.heap.IsList l vals.toArray) (hints : IntsAre vals zs) (hlen : vals.length ≤ 63)
    {R : Result → Shared → Prop} (hR : ∀ s', (∀ b q, s.heap.get? b = some q → s'.heap.get? b = some q) → s'.os = s.os → s'.gens = #[] → R (.ok (.ret (.bool true))) s') :
    codeAny (model P0 c.w) callerA (.call (.ref fa) ⟨[.ref l], []⟩) R s := by
  refine ofQ ?_; simp (disch := (k_dflt (
  refine hold ?_
  have ok := (fn_law ks.kf).ok
  have gl := (fn_law ks.kf).gl
  have hlk : ∀ x, fd.scope.names.lookup x = R_law.scope.names.lookup x := fun x => by rw [h2]
  have hbind := bind_pos (fd := fd) (args := [.ref l]) (by rw [h3]; exact ok.p1) (by rw [h3]; exact ok.p2) (by rw [h3]; exact ok.p3) (by rw [h3]; exact ok.p4) (by rw [h3]; exact ok.p5) h6 (List.nodup_append.mp ok.nd).1 rfl
  refine codeAny_call_def (fd := fd) (body := R_law.body) (binds := R_law.ps.zip [.ref l]) (by decide) ho hd hT.nolimit hcd h1 (BindsTo.of_eq hbind) (by rw [h2]; exact ok.cell)
    (fun x hx => by rw [hlk]; exact (ok.lc x.1 (List.mem_append.mpr (.inl (List.mem_map_of_mem (f := fun q : Str × Value => q.1) hx)))).1) (fun hh hns hk₁ => ?_) (by rw [h2]; exact ok.co) (by rw [h2]; exact ok.gen) (by rw [h2]; exact ok.kd)
  let F' : Frm c := ⟨callerA.deeper (callEnv fd s.heap.objs.size fa), callEnv fd s.heap.objs.size fa, s.heap, R_law.ps ++ R_law.ls, []⟩
  have ok' : Ok F' R_law.d 100 := by
    refine ⟨⟨hK, hT⟩, (congrArg Scope.kind h2).trans ok.kd, h4, h5, ok.nd, fun x hx => ?_, fun p hp => ?_, fun p hp => ?_, rfl, fun z hz => ?_, fun z hz => ?_, ?_, ?_⟩
    · exact ⟨(hlk x).trans (ok.lc x hx).1, (ok.lc x hx).2⟩
    · exact ⟨(hlk _).trans (ok.gl p hp).1, (ok.gl p hp).2, gl.gl p hp⟩
    · exact ⟨(hlk _).trans (ok.bl p hp).1, (ok.bl p hp).2.1, gl.bl p hp, (ok.bl p hp).2.2.1, (ok.bl p hp).2.2.2⟩
    · cases hz
    · cases hz
    · show (callerA.depth + 1) + 4 * 100 < 900; decide
    · show (callerA.units + 3) + 16 * 100 < 9000; decide
  obtain ⟨ol, lm, hol, hlc, hld⟩ : ∃ ol lm, s.heap.get? l = some ol ∧ ol.cls = .type "list" ∧ ol.data = .seq vals.toArray lm := let ⟨a, b, d, e, f⟩ := hl; ⟨a, e, b, d, f⟩
  have r' : Rp F' ⟨fr0 R_law.ps [.ref l] R_law.ls, fun a q => s.heap.get? a = some q, []⟩ { s with heap := hh, toks := s.toks + (R_law.ps.zip [Value.ref l]).length } := by
    refine ⟨⟨?_, hk₁, Nat.le_refl _⟩, ⟨[], fun p hp => absurd hp List.not_mem_nil, List.nodup_nil, fun a q h => .inr h⟩, fun a q h hz => absurd hz List.not_mem_nil, fr0_keys _ _ _ rfl, hg, hos⟩
    have e : (fun x => (R_law.ps.zip [Value.ref l]).reverse.lookup x) = look (fr0 R_law.ps [.ref l] R_law.ls) := by
      funext x
      rw [lookup_rev (by rw [zip_keys R_law.ps [Value.ref l] rfl]; exact (List.nodup_append.mp ok.nd).1)]
      exact fr0_look _ _ _ x
    rw [← e]; exact hns
  have main := law_top (n := 0) (F := F') ok' ks (P₀ := fun a q => s.heap.get? a = some q) hol hlc hld hints hlen (gr := []) (Q := fun v _ => v = .bool true) (fun _ _ _ => rfl)
  refine wpAny_mono (main _ r') (fun fl s' hfl => ?_) fun _ _ e => e.elim
  obtain ⟨st', r₂, q⟩ := hfl
  have q : retv fl = .bool true := q
  suffices h9 : R (.ok (.ret (retv fl))) s' by
    cases fl <;> exact h9
  rw [q]
  exact hR s' r₂.fr.keep (r₂.os.trans hos.symm) r₂.gens
  ))) only [↓quiet]
end
theorem tac_z : True := by
  k_with_none
  trivial
theorem law_good {s₁ s' : Shared} {cl : Str → Option Addr} {mean : ExcName → Option Value} {args : List WData} (k : ∀ b q, s₁.heap.get? b = some q → s'.heap.get? b = some q) (ho : s'.os = s₁.os) (hg : s'.gens = #[]) :
    GoodW PySem.Challenge.rw_sz0048_01.row.claim cl mean args s₁ (.ok (.ret (.bool true))) s' :=
  ⟨.inl ⟨_, .bool true, [], rfl, fun _ => rfl, .bool true, postW_of rfl (X := true) (by show WTm.value [] (.eq .res (.lit (.bool true))) _ = _; simp [WTm.value]; decide +kernel) rfl, fun _ => ⟨List.nodup_nil, fun _ h => nomatch h⟩⟩, k, ho, hg⟩
theorem tac_m : True := by
  k_with "kl" => first
    | ((refine' fnAt_mk ?_ ?_); (repeat ((fail_if_success (refine of_eq_true ?_)); rotate_left)); k_is; k_is)
    | ((refine' clsA_mk ?_ ?_ ?_ ?_); (repeat ((fail_if_success (refine of_eq_true ?_)); rotate_left)); k_is; k_is; k_is; k_is)
    | k_is
    | ((refine And.intro ?_ ?_); (· k_extra "kl"); (· k_extra "kl"))
  k_with "kall" => first | exact fnil | ((refine fall ?_ ?_); (· first | k_extra "kl" | k_extra "kall"); k_extra "kall")
  k_with "kone" => · first | (unfold GT; k_extra "kall") | (unfold blts; k_extra "kall") | k_extra "kall" | k_extra "kl"
  trivial
theorem main.tw10021318391393745522 : True := trivial
theorem main.tw10023216429234749859 : True := trivial
theorem main.tw10040650592145808960 : True := trivial
theorem main.tw10043645473394411141 : True := trivial
theorem main.tw10046393564091023420 : True := trivial
theorem main.tw10046727809161031378 : True := trivial
theorem main.tw10053362868999418749 : True := trivial
theorem main.tw10053753761261000652 : True := trivial
theorem main.tw10069043383181002187 : True := trivial
theorem main.tw10073194965291257537 : True := trivial
theorem main.tw10120841507784995530 : True := trivial
theorem main.tw1013997585769912673 : True := trivial
theorem main.tw10149069435098878876 : True := trivial
theorem main.tw10161402112437779436 : True := trivial
theorem main.tw10180515696109083177 : True := trivial
theorem main.tw10250287229669958417 : True := trivial
theorem main.tw1025130396011242515 : True := trivial
theorem main.tw10256161422542490201 : True := trivial
theorem main.tw10271462561417333343 : True := trivial
theorem main.tw10288650158458768753 : True := trivial
theorem main.tw10297972270295956009 : True := trivial
theorem main.tw10303968668570466222 : True := trivial
theorem main.tw10308895420299081216 : True := trivial
theorem main.tw10309699142624141507 : True := trivial
theorem main.tw10322969633853836883 : True := trivial
theorem main.tw10328587823670452498 : True := trivial
theorem main.tw1038547464879363397 : True := trivial
theorem main.tw10385684711634392909 : True := trivial
theorem main.tw10390374173888912449 : True := trivial
theorem main.tw10434708572517896522 : True := trivial
theorem main.tw10436078037754071431 : True := trivial
theorem main.tw10440920105907014920 : True := trivial
theorem main.tw10444014163959751716 : True := trivial
theorem main.tw10444647068345236073 : True := trivial
theorem main.tw1045693732057055122 : True := trivial
theorem main.tw10480133599824989816 : True := trivial
theorem main.tw10492438308582190394 : True := trivial
theorem main.tw10498526579032192438 : True := trivial
theorem main.tw1050166501530494423 : True := trivial
theorem main.tw10517235262075802054 : True := trivial
theorem main.tw10523394492770496998 : True := trivial
theorem main.tw10560464971613371954 : True := trivial
theorem main.tw10580527313916683865 : True := trivial
theorem main.tw10583265868896537019 : True := trivial
theorem main.tw1062289972186488545 : True := trivial
theorem main.tw10653169788537623322 : True := trivial
theorem main.tw10678755418281806533 : True := trivial
theorem main.tw10687909447789387113 : True := trivial
theorem main.tw1068812231199707816 : True := trivial
theorem main.tw10694066461022140834 : True := trivial
theorem main.tw10700250215688701388 : True := trivial
theorem main.tw10705968754666226739 : True := trivial
theorem main.tw10721812130144496980 : True := trivial
theorem main.tw1073955365300943949 : True := trivial
theorem main.tw10758804782543124382 : True := trivial
theorem main.tw1078662318413408276 : True := trivial
theorem main.tw1079905461274796363 : True := trivial
theorem main.tw10804134724067085259 : True := trivial
theorem main.tw10815909221013692612 : True := trivial
theorem main.tw10833408379140661266 : True := trivial
theorem main.tw10835955332524744044 : True := trivial
theorem main.tw10871293036084005087 : True := trivial
theorem main.tw10899094029452054437 : True := trivial
theorem main.tw10916717783038204558 : True := trivial
theorem main.tw10934798296316075956 : True := trivial
theorem main.tw10938402098977778470 : True := trivial
theorem main.tw10980123507247645758 : True := trivial
theorem main.tw11001622385964810982 : True := trivial
theorem main.tw11012129470220845136 : True := trivial
theorem main.tw1105270846461842697 : True := trivial
theorem main.tw11077837550520376705 : True := trivial
theorem main.tw11110832240473757052 : True := trivial
theorem main.tw11116706314288256233 : True := trivial
theorem main.tw11118022616448068574 : True := trivial
theorem main.tw11122251452892550798 : True := trivial
theorem main.tw111231791877217785 : True := trivial
theorem main.tw11126551447899587804 : True := trivial
theorem main.tw1112963673480286534 : True := trivial
theorem main.tw11145402791356267719 : True := trivial
theorem main.tw11148867138117186242 : True := trivial
theorem main.tw11163015120005115923 : True := trivial
theorem main.tw11175315845038103690 : True := trivial
theorem main.tw11188727169584135823 : True := trivial
theorem main.tw11191541064600109780 : True := trivial
theorem main.tw11209188420962459506 : True := trivial
theorem main.tw11214402113823378998 : True := trivial
theorem main.tw11226398635885796613 : True := trivial
theorem main.tw11287953397327612774 : True := trivial
theorem main.tw11292786071654124186 : True := trivial
theorem main.tw11298728380432393515 : True := trivial
theorem main.tw11299022181482971071 : True := trivial
theorem main.tw11320765536956949449 : True := trivial
theorem main.tw11339586780553552703 : True := trivial
theorem main.tw11343196335435003072 : True := trivial
theorem main.tw11343223855656382485 : True := trivial
theorem main.tw11377735282057770108 : True := trivial
theorem main.tw11391020510418979679 : True := trivial
theorem main.tw11430227923769662454 : True := trivial
theorem main.tw11432336502311485580 : True := trivial
theorem main.tw11433839876275594823 : True := trivial
theorem main.tw11456961127571516775 : True := trivial
theorem main.tw11481020460698763666 : True := trivial
theorem main.tw11527100260467649386 : True := trivial
theorem main.tw11537956683338630383 : True := trivial
theorem main.tw11543472635058493794 : True := trivial
theorem main.tw11547382934132139519 : True := trivial
theorem main.tw11547664358567294100 : True := trivial
theorem main.tw11573176164066078722 : True := trivial
theorem main.tw11575372170564075653 : True := trivial
theorem main.tw11576230927637898173 : True := trivial
theorem main.tw11601682451327219109 : True := trivial
theorem main.tw11604271529852985930 : True := trivial
theorem main.tw11605412728090389508 : True := trivial
theorem main.tw11613439357962438320 : True := trivial
theorem main.tw1162353465806818218 : True := trivial
theorem main.tw11638875634453789168 : True := trivial
theorem main.tw11646022107631321490 : True := trivial
theorem main.tw11648469112263746088 : True := trivial
theorem main.tw11650857210656308808 : True := trivial
theorem main.tw11651895032536297775 : True := trivial
theorem main.tw11656252529945786486 : True := trivial
theorem main.tw11665721926869280828 : True := trivial
theorem main.tw11680215110899198993 : True := trivial
theorem main.tw11722210702713326297 : True := trivial
theorem main.tw11751638361083799241 : True := trivial
theorem main.tw11760354278640644859 : True := trivial
theorem main.tw1177658166500609482 : True := trivial
theorem main.tw117865787843134301 : True := trivial
theorem main.tw11801641480320592950 : True := trivial
theorem main.tw11804117523773053968 : True := trivial
theorem main.tw11807584938254393009 : True := trivial
theorem main.tw11822278912455534105 : True := trivial
theorem main.tw11827359447094427065 : True := trivial
theorem main.tw11830923810597764417 : True := trivial
theorem main.tw11874431644581681229 : True := trivial
theorem main.tw11888923222419618904 : True := trivial
theorem main.tw11910221601743685753 : True := trivial
theorem main.tw11915975209450370505 : True := trivial
theorem main.tw11923579568519453046 : True := trivial
theorem main.tw11926908473165273671 : True := trivial
theorem main.tw11930365855874596552 : True := trivial
theorem main.tw11985843751818611632 : True := trivial
theorem main.tw11998975423125869188 : True := trivial
theorem main.tw12022603931562804212 : True := trivial
theorem main.tw12028935686920467596 : True := trivial
theorem main.tw12050710921934823414 : True := trivial
theorem main.tw12055929568288920360 : True := trivial
theorem main.tw12057684487817480140 : True := trivial
theorem main.tw12097270978576341016 : True := trivial
theorem main.tw12105363282288363319 : True := trivial
theorem main.tw12112399904496239578 : True := trivial
theorem main.tw12144329760196138050 : True := trivial
theorem main.tw12148787975849213767 : True := trivial
theorem main.tw12184192518910918996 : True := trivial
theorem main.tw12186387220061091099 : True := trivial
theorem main.tw12195588698423795295 : True := trivial
theorem main.tw12203398309255512033 : True := trivial
theorem main.tw12246392102278154071 : True := trivial
theorem main.tw12266321265796822618 : True := trivial
theorem main.tw1227082755455209162 : True := trivial
theorem main.tw12284946303946176864 : True := trivial
theorem main.tw12287596359008651027 : True := trivial
theorem main.tw12290903976309136502 : True := trivial
theorem main.tw12291804085094793745 : True := trivial
theorem main.tw12294913915507317621 : True := trivial
theorem main.tw12299871085003494253 : True := trivial
theorem main.tw12334257995491581405 : True := trivial
theorem main.tw12353813775906059566 : True := trivial
theorem main.tw1236811265002389578 : True := trivial
theorem main.tw12370082323872129008 : True := trivial
theorem main.tw12371532057331614620 : True := trivial
theorem main.tw12382416113807773583 : True := trivial
theorem main.tw12405428267636687703 : True := trivial
theorem main.tw12425137391138224907 : True := trivial
theorem main.tw12428166251546661703 : True := trivial
theorem main.tw12435918809077080684 : True := trivial
theorem main.tw12443200472840579779 : True := trivial
theorem main.tw12456801561626644367 : True := trivial
theorem main.tw12476972291821639335 : True := trivial
theorem main.tw12493883692557333044 : True := trivial
theorem main.tw12494496518044278946 : True := trivial
theorem main.tw1251932400071406003 : True := trivial
theorem main.tw12529423308544993278 : True := trivial
theorem main.tw12534608690982565052 : True := trivial
theorem main.tw12543439000638923522 : True := trivial
theorem main.tw12577089576051996047 : True := trivial
theorem main.tw12608305039502615393 : True := trivial
theorem main.tw12656116102701854620 : True := trivial
theorem main.tw12664087920147988344 : True := trivial
theorem main.tw12677194279139255481 : True := trivial
theorem main.tw12681416834507466817 : True := trivial
theorem main.tw12685957366688819421 : True := trivial
theorem main.tw12719230891847962442 : True := trivial
theorem main.tw12719672853640835143 : True := trivial
theorem main.tw12723535852535152271 : True := trivial
theorem main.tw12724878309271642292 : True := trivial
theorem main.tw12756708965680825608 : True := trivial
theorem main.tw12765236646740177294 : True := trivial
theorem main.tw1277607685379289845 : True := trivial
theorem main.tw12788416446577500793 : True := trivial
theorem main.tw12793961455207843180 : True := trivial
theorem main.tw12812171766507625038 : True := trivial
theorem main.tw12820903949589551787 : True := trivial
theorem main.tw12830911758012122131 : True := trivial
theorem main.tw1283526657002427284 : True := trivial
theorem main.tw12839939129518166449 : True := trivial
theorem main.tw1284343163701477698 : True := trivial
theorem main.tw1284967617690943513 : True := trivial
theorem main.tw12866327798292885407 : True := trivial
theorem main.tw12872673566709696761 : True := trivial
theorem main.tw12903161261186272290 : True := trivial
theorem main.tw12903915928643529109 : True := trivial
theorem main.tw12917821375779496827 : True := trivial
theorem main.tw12930125569691871565 : True := trivial
theorem main.tw12953558148630380205 : True := trivial
theorem main.tw12967587422831333594 : True := trivial
theorem main.tw12968591962578011314 : True := trivial
theorem main.tw12970252948059191858 : True := trivial
theorem main.tw12985563455672729498 : True := trivial
theorem main.tw13025341945748906136 : True := trivial
theorem main.tw13036930404576180707 : True := trivial
theorem main.tw1303870235021155574 : True := trivial
theorem main.tw13046646069208072009 : True := trivial
theorem main.tw13075224623111268215 : True := trivial
theorem main.tw13082016621023770337 : True := trivial
theorem main.tw13090235224947412142 : True := trivial
theorem main.tw13109910849429753268 : True := trivial
theorem main.tw13120829950233360018 : True := trivial
theorem main.tw13121950329725443542 : True := trivial
theorem main.tw13123296091798268284 : True := trivial
theorem main.tw13142099442745301093 : True := trivial
theorem main.tw13150642230695257992 : True := trivial
theorem main.tw13155686724948042960 : True := trivial
theorem main.tw13173194763038928779 : True := trivial
theorem main.tw13175212335891660237 : True := trivial
theorem main.tw13176017210958811282 : True := trivial
theorem main.tw1318229201235836783 : True := trivial
theorem main.tw13212620538318516488 : True := trivial
theorem main.tw13234269625008490304 : True := trivial
theorem main.tw13261660738576256540 : True := trivial
theorem main.tw13273283706769089801 : True := trivial
theorem main.tw13276111058516223524 : True := trivial
theorem main.tw13278140520634309705 : True := trivial
theorem main.tw13308840040871830018 : True := trivial
theorem main.tw13320777612471585035 : True := trivial
theorem main.tw13323652809882095824 : True := trivial
theorem main.tw13337567399299638939 : True := trivial
theorem main.tw13342351911977509785 : True := trivial
theorem main.tw13393594064635449608 : True := trivial
theorem main.tw1339686672531063493 : True := trivial
theorem main.tw13403097662674176414 : True := trivial
theorem main.tw13404827177951782280 : True := trivial
theorem main.tw13432773469830023195 : True := trivial
theorem main.tw13432973819337260183 : True := trivial
theorem main.tw13435976712825821128 : True := trivial
theorem main.tw13437355924590775721 : True := trivial
theorem main.tw1344006961642217165 : True := trivial
theorem main.tw13442519625005806600 : True := trivial
theorem main.tw13442586663619943417 : True := trivial
theorem main.tw13517744194886268553 : True := trivial
theorem main.tw13525269375820829941 : True := trivial
theorem main.tw13526917470146073910 : True := trivial
theorem main.tw13535308556146904540 : True := trivial
theorem main.tw13560165558294956042 : True := trivial
theorem main.tw13562059985172378005 : True := trivial
theorem main.tw13562436471200600701 : True := trivial
theorem main.tw13580096092930110239 : True := trivial
theorem main.tw13600565011557826895 : True := trivial
theorem main.tw13612386364232354495 : True := trivial
theorem main.tw13621224405178569035 : True := trivial
theorem main.tw13621330554479564797 : True := trivial
theorem main.tw13681261787169959198 : True := trivial
theorem main.tw13685464850760795979 : True := trivial
theorem main.tw13742246020466748627 : True := trivial
theorem main.tw13748651382086619886 : True := trivial
theorem main.tw13750510376383286988 : True := trivial
theorem main.tw13761123172137178225 : True := trivial
theorem main.tw13779700907665231049 : True := trivial
theorem main.tw13783381036380690036 : True := trivial
theorem main.tw13790279956208770657 : True := trivial
theorem main.tw13791738579797958002 : True := trivial
theorem main.tw13814721228485765036 : True := trivial
theorem main.tw1381488885977479087 : True := trivial
theorem main.tw13817299995192029894 : True := trivial
theorem main.tw1382604328053016238 : True := trivial
theorem main.tw13834035904778713892 : True := trivial
theorem main.tw13858439898230071391 : True := trivial
theorem main.tw13865402017588289906 : True := trivial
theorem main.tw13889870629125409607 : True := trivial
theorem main.tw13898727854132262300 : True := trivial
theorem main.tw1390720707977671279 : True := trivial
theorem main.tw1391527577248789681 : True := trivial
theorem main.tw13934254615512129870 : True := trivial
theorem main.tw13952998626185534419 : True := trivial
theorem main.tw13975928471340527547 : True := trivial
theorem main.tw13977479495569725478 : True := trivial
theorem main.tw14006705621855905977 : True := trivial
theorem main.tw14010230154986326984 : True := trivial
theorem main.tw1403793049032158309 : True := trivial
theorem main.tw140484726810584974 : True := trivial
theorem main.tw14070738237383849611 : True := trivial
theorem main.tw14070985297238078344 : True := trivial
theorem main.tw14086299949540897200 : True := trivial
theorem main.tw14116258901397501558 : True := trivial
theorem main.tw14116783088108353342 : True := trivial
theorem main.tw14120260080095136841 : True := trivial
theorem main.tw14121201860285194534 : True := trivial
theorem main.tw14131743086799626953 : True := trivial
theorem main.tw1417174764347108541 : True := trivial
theorem main.tw14187207832079272398 : True := trivial
theorem main.tw1419027338852513248 : True := trivial
theorem main.tw14227087324130724127 : True := trivial
theorem main.tw14230426198074974781 : True := trivial
theorem main.tw1426165739836719336 : True := trivial
theorem main.tw14279578667054351857 : True := trivial
theorem main.tw14292037427810857913 : True := trivial
theorem main.tw14295980150073339262 : True := trivial
theorem main.tw14319998408292451620 : True := trivial
theorem main.tw14332694767430785208 : True := trivial
theorem main.tw14352292278703085770 : True := trivial
theorem main.tw14368548984795427624 : True := trivial
theorem main.tw14386624947042787071 : True := trivial
theorem main.tw14409748654668726151 : True := trivial
theorem main.tw14415632762500767900 : True := trivial
theorem main.tw14417502097949002917 : True := trivial
theorem main.tw144500467268121906 : True := trivial
theorem main.tw14452046468698080874 : True := trivial
theorem main.tw14458546566710942977 : True := trivial
theorem main.tw14464972848891808287 : True := trivial
theorem main.tw14466154142425863955 : True := trivial
theorem main.tw1446694761647268009 : True := trivial
theorem main.tw14492489044821966026 : True := trivial
theorem main.tw14502488901099396501 : True := trivial
theorem main.tw14522938668971434885 : True := trivial
theorem main.tw14537450019153051991 : True := trivial
theorem main.tw14548371465575333668 : True := trivial
theorem main.tw14578142047689139454 : True := trivial
theorem main.tw14627560896615758001 : True := trivial
theorem main.tw14673909670066941863 : True := trivial
theorem main.tw14681639400702691960 : True := trivial
theorem main.tw14706854907117038628 : True := trivial
theorem main.tw14720004185528982391 : True := trivial
theorem main.tw14766382537209830674 : True := trivial
theorem main.tw14775469409186757945 : True := trivial
theorem main.tw14852706074398868582 : True := trivial
theorem main.tw14858570723701920263 : True := trivial
theorem main.tw14880191616899788239 : True := trivial
theorem main.tw14891094757345406116 : True := trivial
theorem main.tw14903051288947113723 : True := trivial
theorem main.tw14953484359197247582 : True := trivial
theorem main.tw14955899357275167909 : True := trivial
theorem main.tw1496641351508231228 : True := trivial
theorem main.tw15015111288849602867 : True := trivial
theorem main.tw15018590129030264998 : True := trivial
theorem main.tw15023922410315973641 : True := trivial
theorem main.tw15036140292866834066 : True := trivial
theorem main.tw15037739224470176305 : True := trivial
theorem main.tw15056359852086789922 : True := trivial
theorem main.tw15065305084719027114 : True := trivial
theorem main.tw15073143240194224712 : True := trivial
theorem main.tw15091636007760851431 : True := trivial
theorem main.tw15119470463916845940 : True := trivial
theorem main.tw15124233344536562547 : True := trivial
theorem main.tw15131217093995405917 : True := trivial
theorem main.tw15145321199161939454 : True := trivial
theorem main.tw15146226633581336011 : True := trivial
theorem main.tw15159490273619958664 : True := trivial
theorem main.tw15163031477218665325 : True := trivial
theorem main.tw15182042088927537698 : True := trivial
theorem main.tw15183165575251545298 : True := trivial
theorem main.tw15193263178978695244 : True := trivial
theorem main.tw15208815566122129715 : True := trivial
theorem main.tw15218124028859059513 : True := trivial
theorem main.tw15220798369095227235 : True := trivial
theorem main.tw15250807170023008163 : True := trivial
theorem main.tw15252723141234360556 : True := trivial
theorem main.tw15261414580505006758 : True := trivial
theorem main.tw15264592618256317423 : True := trivial
theorem main.tw15268511505221204785 : True := trivial
theorem main.tw15272384756033816549 : True := trivial
theorem main.tw15303979147524680413 : True := trivial
theorem main.tw15318522569413922966 : True := trivial
theorem main.tw15320287906085699310 : True := trivial
theorem main.tw15343563003513159698 : True := trivial
theorem main.tw15349743947800654751 : True := trivial
theorem main.tw15389327945418215068 : True := trivial
theorem main.tw15443453874323421859 : True := trivial
theorem main.tw15444968558782299529 : True := trivial
theorem main.tw15449954396954739307 : True := trivial
theorem main.tw15460443108094267759 : True := trivial
theorem main.tw1546536443401856809 : True := trivial
theorem main.tw15468000139907181785 : True := trivial
theorem main.tw15471704449587110807 : True := trivial
theorem main.tw15472740278469042264 : True := trivial
theorem main.tw15474422221286975002 : True := trivial
theorem main.tw15502279438172492361 : True := trivial
theorem main.tw15507944958647477950 : True := trivial
theorem main.tw15521857191610671232 : True := trivial
theorem main.tw15525705244753957535 : True := trivial
theorem main.tw1554912440253531867 : True := trivial
theorem main.tw15564934884189797170 : True := trivial
theorem main.tw15593932114248601048 : True := trivial
theorem main.tw156074481368604375 : True := trivial
theorem main.tw15610144658242746549 : True := trivial
theorem main.tw15643031011164770099 : True := trivial
theorem main.tw15649593469263226892 : True := trivial
theorem main.tw15662467652954760656 : True := trivial
theorem main.tw1568190611963401656 : True := trivial
theorem main.tw15689039764200711428 : True := trivial
theorem main.tw15693878858091441903 : True := trivial
theorem main.tw15743930626855181957 : True := trivial
theorem main.tw15744198569236010029 : True := trivial
theorem main.tw15823801904750430661 : True := trivial
theorem main.tw15834369386406258128 : True := trivial
theorem main.tw15852780608557602579 : True := trivial
theorem main.tw15886317987272897667 : True := trivial
theorem main.tw15886878293761681940 : True := trivial
theorem main.tw15887338096939263381 : True := trivial
theorem main.tw15893691471082726865 : True := trivial
theorem main.tw15901911785326686457 : True := trivial
theorem main.tw15939135216810644357 : True := trivial
theorem main.tw1596678615197881325 : True := trivial
theorem main.tw15968557084061499276 : True := trivial
theorem main.tw15968590688784803213 : True := trivial
theorem main.tw15980538880093490129 : True := trivial
theorem main.tw16005078268224939753 : True := trivial
theorem main.tw16028392598184163056 : True := trivial
theorem main.tw16046785832879142669 : True := trivial
theorem main.tw1605168168120692133 : True := trivial
theorem main.tw16053404413617535587 : True := trivial
theorem main.tw16103328417691970683 : True := trivial
theorem main.tw16136480149535285781 : True := trivial
theorem main.tw16136933308854893207 : True := trivial
theorem main.tw16156162450810372841 : True := trivial
theorem main.tw16176231961500713579 : True := trivial
theorem main.tw16203443089297424273 : True := trivial
theorem main.tw16204744479138647222 : True := trivial
theorem main.tw16210668033245960438 : True := trivial
theorem main.tw16218993716828157846 : True := trivial
theorem main.tw16229319474554376097 : True := trivial
theorem main.tw1623195853881501448 : True := trivial
theorem main.tw16238369109891383347 : True := trivial
theorem main.tw16238430190936666235 : True := trivial
theorem main.tw16239573490109993236 : True := trivial
theorem main.tw16255761817772565937 : True := trivial
theorem main.tw16264370154056066 : True := trivial
theorem main.tw16276725121630806347 : True := trivial
theorem main.tw16288908156278691609 : True := trivial
theorem main.tw16300817170888368660 : True := trivial
theorem main.tw16308858863361778103 : True := trivial
theorem main.tw16343906396252043406 : True := trivial
theorem main.tw16365892746055586307 : True := trivial
theorem main.tw16427579589696508901 : True := trivial
theorem main.tw16429711005651463799 : True := trivial
theorem main.tw16435655699322316512 : True := trivial
theorem main.tw16438014652984670090 : True := trivial
theorem main.tw16438527106512547009 : True := trivial
theorem main.tw16441979001879675393 : True := trivial
theorem main.tw16447890188593340600 : True := trivial
theorem main.tw16501684553446707135 : True := trivial
theorem main.tw16502267668958568077 : True := trivial
theorem main.tw16515390481915438290 : True := trivial
theorem main.tw16525614771705244615 : True := trivial
theorem main.tw16536999046426117148 : True := trivial
theorem main.tw16543867283486197484 : True := trivial
theorem main.tw16556096624374403914 : True := trivial
theorem main.tw16614730806028959055 : True := trivial
theorem main.tw16624888252642348018 : True := trivial
theorem main.tw16672347593970394415 : True := trivial
theorem main.tw16706546988946613818 : True := trivial
theorem main.tw16725587710940879688 : True := trivial
theorem main.tw16726855816971509234 : True := trivial
theorem main.tw16741365473365742500 : True := trivial
theorem main.tw16744341766133690325 : True := trivial
theorem main.tw16747871750915486772 : True := trivial
theorem main.tw16765954575990112803 : True := trivial
theorem main.tw1676724375430865335 : True := trivial
theorem main.tw16768480050744178236 : True := trivial
theorem main.tw16775770572179878173 : True := trivial
theorem main.tw16777114165694142054 : True := trivial
theorem main.tw16778000889299214070 : True := trivial
theorem main.tw16781784789281860958 : True := trivial
theorem main.tw16784418740890956393 : True := trivial
theorem main.tw1679806311347427774 : True := trivial
theorem main.tw16798859928846278210 : True := trivial
theorem main.tw16838189389307913904 : True := trivial
theorem main.tw16850627312601078577 : True := trivial
theorem main.tw16859033189492256807 : True := trivial
theorem main.tw1687537637806219265 : True := trivial
theorem main.tw16876558867659480788 : True := trivial
theorem main.tw16891615732304830211 : True := trivial
theorem main.tw16899061783259940836 : True := trivial
theorem main.tw16903022900691281159 : True := trivial
theorem main.tw16928811664248450436 : True := trivial
theorem main.tw16978793380469540624 : True := trivial
theorem main.tw16985988459906744398 : True := trivial
theorem main.tw17008886415857585682 : True := trivial
theorem main.tw17009848309113948296 : True := trivial
theorem main.tw17023186693513284007 : True := trivial
theorem main.tw17045747750064514181 : True := trivial
theorem main.tw17065970260752692450 : True := trivial
theorem main.tw17079325164956456438 : True := trivial
theorem main.tw17094576705328918404 : True := trivial
theorem main.tw17103107722225059336 : True := trivial
theorem main.tw17122517981654190023 : True := trivial
theorem main.tw17142218151182921267 : True := trivial
theorem main.tw17145312859027392966 : True := trivial
theorem main.tw17179648164711320676 : True := trivial
theorem main.tw17180643386855433878 : True := trivial
theorem main.tw17189560309898352479 : True := trivial
theorem main.tw17205431337810411811 : True := trivial
theorem main.tw17210058121205660539 : True := trivial
theorem main.tw17210249984954947657 : True := trivial
theorem main.tw17222532714639596944 : True := trivial
theorem main.tw1724344740107316381 : True := trivial
theorem main.tw17263027491776874984 : True := trivial
theorem main.tw17293040134813132398 : True := trivial
theorem main.tw17294303086990883594 : True := trivial
theorem main.tw17299735379877282444 : True := trivial
theorem main.tw17326606277831057050 : True := trivial
theorem main.tw17339586565340491930 : True := trivial
theorem main.tw17342739349943993621 : True := trivial
theorem main.tw17344839780428942418 : True := trivial
theorem main.tw1734708372850746524 : True := trivial
theorem main.tw17349828507643174764 : True := trivial
theorem main.tw17367629061461438135 : True := trivial
theorem main.tw17370264474060839139 : True := trivial
theorem main.tw17393246987506242659 : True := trivial
theorem main.tw1743345963533338969 : True := trivial
theorem main.tw17437174277582430087 : True := trivial
theorem main.tw17439343132499600656 : True := trivial
theorem main.tw17442377672721089886 : True := trivial
theorem main.tw1745101480760909229 : True := trivial
theorem main.tw17467276233706154064 : True := trivial
theorem main.tw17469336949988102395 : True := trivial
theorem main.tw17518984032136438799 : True := trivial
theorem main.tw17524808815578175191 : True := trivial
theorem main.tw17546056657857302062 : True := trivial
theorem main.tw17557205499575929874 : True := trivial
theorem main.tw17583313224497399901 : True := trivial
theorem main.tw17616163897125503702 : True := trivial
theorem main.tw17624342890857993125 : True := trivial
theorem main.tw17624737479687991818 : True := trivial
theorem main.tw17638393399531288113 : True := trivial
theorem main.tw17669468712313380877 : True := trivial
theorem main.tw1767629848817652594 : True := trivial
theorem main.tw17677493551680049499 : True := trivial
theorem main.tw17681501543332686566 : True := trivial
theorem main.tw1769571156964328020 : True := trivial
theorem main.tw1770443798944706555 : True := trivial
theorem main.tw177207074890175080 : True := trivial
theorem main.tw17732091104000413229 : True := trivial
theorem main.tw17732451789624135708 : True := trivial
theorem main.tw17748314641421745711 : True := trivial
theorem main.tw17752110009877786670 : True := trivial
theorem main.tw17775395293607656282 : True := trivial
theorem main.tw17781153961316730533 : True := trivial
theorem main.tw1779850407545558931 : True := trivial
theorem main.tw17809477105219444030 : True := trivial
theorem main.tw17853243665478741750 : True := trivial
theorem main.tw17868245453418582169 : True := trivial
theorem main.tw1790015737594900885 : True := trivial
theorem main.tw17900695361700684923 : True := trivial
theorem main.tw1792248080742510491 : True := trivial
theorem main.tw17924518473618601469 : True := trivial
theorem main.tw18004917794731790759 : True := trivial
theorem main.tw18022016729943910643 : True := trivial
theorem main.tw18027279399861113557 : True := trivial
theorem main.tw18084886155079811712 : True := trivial
theorem main.tw18085039293197393909 : True := trivial
theorem main.tw18191531320663667130 : True := trivial
theorem main.tw18235984252551956240 : True := trivial
theorem main.tw18238190117704969506 : True := trivial
theorem main.tw18243912793331470855 : True := trivial
theorem main.tw18250705095706459558 : True := trivial
theorem main.tw1825977663594718130 : True := trivial
theorem main.tw18267052350312620909 : True := trivial
theorem main.tw18270773166306141978 : True := trivial
theorem main.tw18283768689549374540 : True := trivial
theorem main.tw18288797166873144076 : True := trivial
theorem main.tw1829363785552158327 : True := trivial
theorem main.tw18301661331662831443 : True := trivial
theorem main.tw18302860413485724842 : True := trivial
theorem main.tw18303307991560051295 : True := trivial
theorem main.tw18320578867353144272 : True := trivial
theorem main.tw18337712513834754415 : True := trivial
theorem main.tw18345942743439504426 : True := trivial
theorem main.tw18350620168412646394 : True := trivial
theorem main.tw1835169261126040926 : True := trivial
theorem main.tw18356235372429024265 : True := trivial
theorem main.tw18369451303578182252 : True := trivial
theorem main.tw18370884914743140272 : True := trivial
theorem main.tw18371382607465720849 : True := trivial
theorem main.tw18382997825090318735 : True := trivial
theorem main.tw18396120882820736952 : True := trivial
theorem main.tw18398800829542192811 : True := trivial
theorem main.tw18420004603335881977 : True := trivial
theorem main.tw1845388188213433419 : True := trivial
theorem main.tw1848521739074249968 : True := trivial
theorem main.tw1855208217236249986 : True := trivial
theorem main.tw1860108991126048101 : True := trivial
theorem main.tw1863683800879511184 : True := trivial
theorem main.tw1882103967715803896 : True := trivial
theorem main.tw1887654273250841056 : True := trivial
theorem main.tw1888927802343683488 : True := trivial
theorem main.tw1901868530813872047 : True := trivial
theorem main.tw1907168138500459487 : True := trivial
theorem main.tw1912606427515319379 : True := trivial
theorem main.tw1976350527869358923 : True := trivial
theorem main.tw2008451683862899579 : True := trivial
theorem main.tw202123991815840445 : True := trivial
theorem main.tw202461495639692907 : True := trivial
theorem main.tw2057716341744399545 : True := trivial
theorem main.tw2069051144779121576 : True := trivial
theorem main.tw2072547788070596129 : True := trivial
theorem main.tw2072994404298036584 : True := trivial
theorem main.tw2081042875132773427 : True := trivial
theorem main.tw2082333889016646126 : True := trivial
theorem main.tw2088574598992667849 : True := trivial
theorem main.tw2142373446539770622 : True := trivial
theorem main.tw2178821199819612820 : True := trivial
theorem main.tw2184172125623563289 : True := trivial
theorem main.tw2184209005104366138 : True := trivial
theorem main.tw2190744131759121538 : True := trivial
theorem main.tw2221555247795474028 : True := trivial
theorem main.tw2228332982408152750 : True := trivial
theorem main.tw2240190111855364321 : True := trivial
theorem main.tw2250921402389314877 : True := trivial
theorem main.tw225424674734612040 : True := trivial
theorem main.tw2261421588700274638 : True := trivial
theorem main.tw2298914082760217031 : True := trivial
theorem main.tw2310633646459873002 : True := trivial
theorem main.tw2352082045080494391 : True := trivial
theorem main.tw2379228892226148013 : True := trivial
theorem main.tw2417395900657985767 : True := trivial
theorem main.tw2434013755359952725 : True := trivial
theorem main.tw2435090854577023546 : True := trivial
theorem main.tw244272740328328915 : True := trivial
theorem main.tw2443227327843618036 : True := trivial
theorem main.tw2468735287043536190 : True := trivial
theorem main.tw2468790571148522658 : True := trivial
theorem main.tw2509485771696236314 : True := trivial
theorem main.tw2515330213975016769 : True := trivial
theorem main.tw2525166076998268935 : True := trivial
theorem main.tw2528932580032954879 : True := trivial
theorem main.tw2531834563650271798 : True := trivial
theorem main.tw2540495820296734350 : True := trivial
theorem main.tw2544298430078641640 : True := trivial
theorem main.tw2552694252491474378 : True := trivial
theorem main.tw2553129172841505705 : True := trivial
theorem main.tw2561493234371994082 : True := trivial
theorem main.tw2591018911419354267 : True := trivial
theorem main.tw2613873015034283888 : True := trivial
theorem main.tw2615157128260120931 : True := trivial
theorem main.tw2619486844233121682 : True := trivial
theorem main.tw2633433360531680643 : True := trivial
theorem main.tw2650101136147908316 : True := trivial
theorem main.tw2673703584191709704 : True := trivial
theorem main.tw2680804952358657892 : True := trivial
theorem main.tw2689936240190302673 : True := trivial
theorem main.tw2691526960798580178 : True := trivial
theorem main.tw2703845700531461890 : True := trivial
theorem main.tw2723686050631992617 : True := trivial
theorem main.tw272789946186954341 : True := trivial
theorem main.tw2737031353948269604 : True := trivial
theorem main.tw2737750725896957826 : True := trivial
theorem main.tw280481874740558024 : True := trivial
theorem main.tw2813829026317290181 : True := trivial
theorem main.tw2818215913512838189 : True := trivial
theorem main.tw2853208382243579297 : True := trivial
theorem main.tw2864606846018454059 : True := trivial
theorem main.tw2868879096931255247 : True := trivial
theorem main.tw2905523575628026659 : True := trivial
theorem main.tw2911433417487810430 : True := trivial
theorem main.tw2922722088657812038 : True := trivial
theorem main.tw2925776425995894714 : True := trivial
theorem main.tw2928028564007261197 : True := trivial
theorem main.tw2939239021250373633 : True := trivial
theorem main.tw2940311884806191311 : True := trivial
theorem main.tw294303095251978911 : True := trivial
theorem main.tw2978360442360904238 : True := trivial
theorem main.tw2978445311985771476 : True := trivial
theorem main.tw2992056685137445369 : True := trivial
theorem main.tw3016572388942527259 : True := trivial
theorem main.tw3030710199521473918 : True := trivial
theorem main.tw3038580940099593087 : True := trivial
theorem main.tw3051166587225777028 : True := trivial
theorem main.tw3055327740479581089 : True := trivial
theorem main.tw3059808732461744397 : True := trivial
theorem main.tw3064736170607065939 : True := trivial
theorem main.tw3107410153937982541 : True := trivial
theorem main.tw3121664453712097879 : True := trivial
theorem main.tw3131981697515881112 : True := trivial
theorem main.tw3139610863597827358 : True := trivial
theorem main.tw3146034541042422592 : True := trivial
theorem main.tw3146979741847770951 : True := trivial
theorem main.tw320557751311579839 : True := trivial
theorem main.tw3209920909162520122 : True := trivial
theorem main.tw3216743727515912729 : True := trivial
theorem main.tw3222773171329885704 : True := trivial
theorem main.tw3230919538582532175 : True := trivial
theorem main.tw3256599692197748821 : True := trivial
theorem main.tw3306849197303780159 : True := trivial
theorem main.tw3310860890811097582 : True := trivial
theorem main.tw332726020879770688 : True := trivial
theorem main.tw3379215592710810542 : True := trivial
theorem main.tw3379733461541436291 : True := trivial
theorem main.tw3394368681878965627 : True := trivial
theorem main.tw3396264588904235675 : True := trivial
theorem main.tw3403611876695301538 : True := trivial
theorem main.tw3408827457947758924 : True := trivial
theorem main.tw3460471527071742462 : True := trivial
theorem main.tw3469070634007033221 : True := trivial
theorem main.tw3515887516252319269 : True := trivial
theorem main.tw3519620770301490914 : True := trivial
theorem main.tw3531981540585742146 : True := trivial
theorem main.tw3539627628400702853 : True := trivial
theorem main.tw3554724492371011600 : True := trivial
theorem main.tw3563127853227517201 : True := trivial
theorem main.tw3596915852536691534 : True := trivial
theorem main.tw362101514219434311 : True := trivial
theorem main.tw3630406633451347070 : True := trivial
theorem main.tw3648130295315601696 : True := trivial
theorem main.tw364906518795052587 : True := trivial
theorem main.tw3692609847910103577 : True := trivial
theorem main.tw3695579603394428622 : True := trivial
theorem main.tw3701781727558240115 : True := trivial
theorem main.tw3708749935247036590 : True := trivial
theorem main.tw3719543078226671225 : True := trivial
theorem main.tw3748819449962869491 : True := trivial
theorem main.tw376203692812584351 : True := trivial
theorem main.tw3783848015190637625 : True := trivial
theorem main.tw3861505120740964055 : True := trivial
theorem main.tw3879943568281281997 : True := trivial
theorem main.tw3898492766431878890 : True := trivial
theorem main.tw3960082729609334633 : True := trivial
theorem main.tw3965608284049720903 : True := trivial
theorem main.tw3977090291491947485 : True := trivial
theorem main.tw3985482593949860782 : True := trivial
theorem main.tw3992928203939203036 : True := trivial
theorem main.tw3993828384424069463 : True := trivial
theorem main.tw4029223130386273766 : True := trivial
theorem main.tw4059333162808307507 : True := trivial
theorem main.tw4091930637953755879 : True := trivial
theorem main.tw4094807246124668419 : True := trivial
theorem main.tw4100163327406334815 : True := trivial
theorem main.tw4120760224539185370 : True := trivial
theorem main.tw4125460202920646613 : True := trivial
theorem main.tw4130779263140762978 : True := trivial
theorem main.tw4147908343893158748 : True := trivial
theorem main.tw4153403021248529786 : True := trivial
theorem main.tw4156003519774020744 : True := trivial
theorem main.tw4159460275628221608 : True := trivial
theorem main.tw4177671621994559311 : True := trivial
theorem main.tw4236263444705798571 : True := trivial
theorem main.tw4239280963099970540 : True := trivial
theorem main.tw4247289365847900405 : True := trivial
theorem main.tw4261401600855317551 : True := trivial
theorem main.tw4262874740152647446 : True := trivial
theorem main.tw426753873613716006 : True := trivial
theorem main.tw4273008386439780810 : True := trivial
theorem main.tw4304834178718691396 : True := trivial
theorem main.tw4310228878472284329 : True := trivial
theorem main.tw4326401904490494673 : True := trivial
theorem main.tw4328267247735480603 : True := trivial
theorem main.tw4331608280046720368 : True := trivial
theorem main.tw4335910966286959084 : True := trivial
theorem main.tw4351411162792525490 : True := trivial
theorem main.tw4357975833179775930 : True := trivial
theorem main.tw4395466900922544890 : True := trivial
theorem main.tw4406860569794426617 : True := trivial
theorem main.tw4433602467837400570 : True := trivial
theorem main.tw4454792828321621372 : True := trivial
theorem main.tw4462190400977132941 : True := trivial
theorem main.tw4479242934683457324 : True := trivial
theorem main.tw4509215696152744449 : True := trivial
theorem main.tw4511402922630066149 : True := trivial
theorem main.tw4538774211291661145 : True := trivial
theorem main.tw4588738799956414479 : True := trivial
theorem main.tw4592004706911863615 : True := trivial
theorem main.tw4606060024949568140 : True := trivial
theorem main.tw4609130545533016343 : True := trivial
theorem main.tw4615647095033124473 : True := trivial
theorem main.tw4617153069496556252 : True := trivial
theorem main.tw4634538438036118838 : True := trivial
theorem main.tw465116046465340929 : True := trivial
theorem main.tw469107726730205931 : True := trivial
theorem main.tw4703324592164959565 : True := trivial
theorem main.tw4711006893311753447 : True := trivial
theorem main.tw4730134336746295413 : True := trivial
theorem main.tw4798913882091802099 : True := trivial
theorem main.tw4799217392094311150 : True := trivial
theorem main.tw4840137780045317266 : True := trivial
theorem main.tw4867594002200624942 : True := trivial
theorem main.tw488895473941219216 : True := trivial
theorem main.tw4891462983210470464 : True := trivial
theorem main.tw4931471645776620852 : True := trivial
theorem main.tw4952695281440224590 : True := trivial
theorem main.tw4960754326464356880 : True := trivial
theorem main.tw4975598923679135864 : True := trivial
theorem main.tw5013185972428660573 : True := trivial
theorem main.tw5021990489002946995 : True := trivial
theorem main.tw5022756136425776485 : True := trivial
theorem main.tw5039935704646711612 : True := trivial
theorem main.tw5053277156089862147 : True := trivial
theorem main.tw5054592681714628026 : True := trivial
theorem main.tw5055280753450627128 : True := trivial
theorem main.tw5076374387644958804 : True := trivial
theorem main.tw5096790010580003632 : True := trivial
theorem main.tw5102537645505000496 : True := trivial
theorem main.tw5103255586642191990 : True := trivial
theorem main.tw510803128440017388 : True := trivial
theorem main.tw5142021981082635793 : True := trivial
theorem main.tw5145756777116517348 : True := trivial
theorem main.tw5147269608146345041 : True := trivial
theorem main.tw5152671152167812776 : True := trivial
theorem main.tw5159528265767506360 : True := trivial
theorem main.tw517253545763640812 : True := trivial
theorem main.tw5172733860109081237 : True := trivial
theorem main.tw5197162745757122531 : True := trivial
theorem main.tw5198365556900276182 : True := trivial
theorem main.tw5213527953253087353 : True := trivial
theorem main.tw5230818847713347254 : True := trivial
theorem main.tw5231500133666706133 : True := trivial
theorem main.tw5242006674047390409 : True := trivial
theorem main.tw5267375287539190161 : True := trivial
theorem main.tw5293604023752008139 : True := trivial
theorem main.tw5330137482974297522 : True := trivial
theorem main.tw5451521477706531147 : True := trivial
theorem main.tw5458665417225551837 : True := trivial
theorem main.tw548545010330813591 : True := trivial
theorem main.tw5498605039287053057 : True := trivial
theorem main.tw5501828711072196883 : True := trivial
theorem main.tw5522973689866154034 : True := trivial
theorem main.tw5561763199174522734 : True := trivial
theorem main.tw5588223478592534593 : True := trivial
theorem main.tw5600465124246279690 : True := trivial
theorem main.tw5630227607048996149 : True := trivial
theorem main.tw564327466094411562 : True := trivial
theorem main.tw5667051821671876906 : True := trivial
theorem main.tw5702855569557996282 : True := trivial
theorem main.tw5714297817612945589 : True := trivial
theorem main.tw571647785228454943 : True := trivial
theorem main.tw5735058541856893287 : True := trivial
theorem main.tw5746062570634479219 : True := trivial
theorem main.tw5764495316440919179 : True := trivial
theorem main.tw5768708046682631051 : True := trivial
theorem main.tw5783281256696232768 : True := trivial
theorem main.tw5791107954587784898 : True := trivial
theorem main.tw5800097197477307618 : True := trivial
theorem main.tw5818237970382791039 : True := trivial
theorem main.tw5836199513425854279 : True := trivial
theorem main.tw5840107092408520212 : True := trivial
theorem main.tw5901833263323351908 : True := trivial
theorem main.tw5902712137599589837 : True := trivial
theorem main.tw5903828528775644053 : True := trivial
theorem main.tw5926302414813513775 : True := trivial
theorem main.tw5992685852653226855 : True := trivial
theorem main.tw6020624907299633524 : True := trivial
theorem main.tw6020760485785902299 : True := trivial
theorem main.tw6046914484701750178 : True := trivial
theorem main.tw6081752106558320710 : True := trivial
theorem main.tw6093991748022998109 : True := trivial
theorem main.tw6109326565077728654 : True := trivial
theorem main.tw6178081710517948605 : True := trivial
theorem main.tw6201567601347304338 : True := trivial
theorem main.tw6250745803369192323 : True := trivial
theorem main.tw6258868486430859879 : True := trivial
theorem main.tw6271459789768422213 : True := trivial
theorem main.tw6312091815898468018 : True := trivial
theorem main.tw6319109525331840513 : True := trivial
theorem main.tw632543874583851743 : True := trivial
theorem main.tw633595507753179303 : True := trivial
theorem main.tw6345274498042001246 : True := trivial
theorem main.tw6387438950001232582 : True := trivial
theorem main.tw6408195481249254913 : True := trivial
theorem main.tw6413990621102604288 : True := trivial
theorem main.tw6436565089868888508 : True := trivial
theorem main.tw6471150222350279623 : True := trivial
theorem main.tw6498197727744454919 : True := trivial
theorem main.tw6498212960163673866 : True := trivial
theorem main.tw6502167394331606738 : True := trivial
theorem main.tw6520672519035416240 : True := trivial
theorem main.tw6521165335183232846 : True := trivial
theorem main.tw6524254272908164914 : True := trivial
theorem main.tw652957937968812882 : True := trivial
theorem main.tw653998813826172256 : True := trivial
theorem main.tw6542570496510093371 : True := trivial
theorem main.tw6558027226490960009 : True := trivial
theorem main.tw6566217594389758689 : True := trivial
theorem main.tw6566655913747789440 : True := trivial
theorem main.tw6595750602137734652 : True := trivial
theorem main.tw6601557695192066909 : True := trivial
theorem main.tw6624525471130968221 : True := trivial
theorem main.tw6640572285913146048 : True := trivial
theorem main.tw6658326349803785021 : True := trivial
theorem main.tw6663807924280617270 : True := trivial
theorem main.tw6707823426313396741 : True := trivial
theorem main.tw6710621909758068527 : True := trivial
theorem main.tw6732683342976120483 : True := trivial
theorem main.tw6742474295446658380 : True := trivial
theorem main.tw6744150564754420234 : True := trivial
theorem main.tw6756261132437940486 : True := trivial
theorem main.tw6759289808592882343 : True := trivial
theorem main.tw6771591437671112567 : True := trivial
theorem main.tw6773626534007703490 : True := trivial
theorem main.tw6795767014284890813 : True := trivial
theorem main.tw6810670158800780086 : True := trivial
theorem main.tw686864128682677561 : True := trivial
theorem main.tw6876659525886429291 : True := trivial
theorem main.tw688393452642708001 : True := trivial
theorem main.tw6885390927442937195 : True := trivial
theorem main.tw6889469565048147906 : True := trivial
theorem main.tw6899241544822910019 : True := trivial
theorem main.tw6956365070816283294 : True := trivial
theorem main.tw6958343538655003287 : True := trivial
theorem main.tw6968316724324862529 : True := trivial
theorem main.tw6982158505162667209 : True := trivial
theorem main.tw6990565588677296644 : True := trivial
theorem main.tw6991051906849787811 : True := trivial
theorem main.tw7002617117321725329 : True := trivial
theorem main.tw7009055538952385103 : True := trivial
theorem main.tw701254493566490903 : True := trivial
theorem main.tw7033201789201947253 : True := trivial
theorem main.tw7035012547776903383 : True := trivial
theorem main.tw7040763872302975501 : True := trivial
theorem main.tw704156152089372795 : True := trivial
theorem main.tw7064039134278724442 : True := trivial
theorem main.tw7074714167717794031 : True := trivial
theorem main.tw7079346319486233637 : True := trivial
theorem main.tw7098780427933102582 : True := trivial
theorem main.tw7118179723604996413 : True := trivial
theorem main.tw7121938363519269900 : True := trivial
theorem main.tw7133214772809181467 : True := trivial
theorem main.tw7157635386191443901 : True := trivial
theorem main.tw720133340251979740 : True := trivial
theorem main.tw7210885811916109378 : True := trivial
theorem main.tw7218384944330780783 : True := trivial
theorem main.tw7225521102398529633 : True := trivial
theorem main.tw7240273481961495799 : True := trivial
theorem main.tw7249698444530863382 : True := trivial
theorem main.tw7250014487561225280 : True := trivial
theorem main.tw7253165384714449309 : True := trivial
theorem main.tw7253517103421118539 : True := trivial
theorem main.tw7257662411179477739 : True := trivial
theorem main.tw7264783172807538105 : True := trivial
theorem main.tw727201121964547221 : True := trivial
theorem main.tw7285142449084795479 : True := trivial
theorem main.tw7291201710529191399 : True := trivial
theorem main.tw7313032115926921718 : True := trivial
theorem main.tw735178950134859665 : True := trivial
theorem main.tw7366966349755769390 : True := trivial
theorem main.tw7379146703158643333 : True := trivial
theorem main.tw7380543148635903028 : True := trivial
theorem main.tw738249695139976460 : True := trivial
theorem main.tw7387095368875260393 : True := trivial
theorem main.tw7406679989375695003 : True := trivial
theorem main.tw7445014851313175896 : True := trivial
theorem main.tw7450521685299207930 : True := trivial
theorem main.tw7462917681035090600 : True := trivial
theorem main.tw7466017828420861538 : True := trivial
theorem main.tw7495849268563445211 : True := trivial
theorem main.tw750194992705927200 : True := trivial
theorem main.tw7548181410930959757 : True := trivial
theorem main.tw7561484092936559524 : True := trivial
theorem main.tw7566708949256337297 : True := trivial
theorem main.tw757969810983933903 : True := trivial
theorem main.tw7603176780129216889 : True := trivial
theorem main.tw7617009271068750286 : True := trivial
theorem main.tw7626924688829213036 : True := trivial
theorem main.tw7646311210486026410 : True := trivial
theorem main.tw7646987749624205320 : True := trivial
theorem main.tw7659335649736619204 : True := trivial
theorem main.tw7659538399061980777 : True := trivial
theorem main.tw7664301653060593791 : True := trivial
theorem main.tw7670179019842844407 : True := trivial
theorem main.tw7684331834570509447 : True := trivial
theorem main.tw7689180539567665754 : True := trivial
theorem main.tw7711332181109331799 : True := trivial
theorem main.tw7722278204354554604 : True := trivial
theorem main.tw7732462732143710745 : True := trivial
theorem main.tw7748162344757003694 : True := trivial
theorem main.tw7784495168435344669 : True := trivial
theorem main.tw7789222688201250933 : True := trivial
theorem main.tw7821556884541040040 : True := trivial
theorem main.tw7822347148725292140 : True := trivial
theorem main.tw783142212168057530 : True := trivial
theorem main.tw7840089511392720015 : True := trivial
theorem main.tw7840474142351391399 : True := trivial
theorem main.tw7848025740061029041 : True := trivial
theorem main.tw785891212050648866 : True := trivial
theorem main.tw7859541408058562095 : True := trivial
theorem main.tw7898563742332601926 : True := trivial
theorem main.tw7904360318250872725 : True := trivial
theorem main.tw7914966534203543394 : True := trivial
theorem main.tw7924682654823194982 : True := trivial
theorem main.tw7945186787910683591 : True := trivial
theorem main.tw798216768049687659 : True := trivial
theorem main.tw8015141027936346662 : True := trivial
theorem main.tw8019843255630367578 : True := trivial
theorem main.tw8028819869400628128 : True := trivial
theorem main.tw8054615355715169965 : True := trivial
theorem main.tw8055458335546875267 : True := trivial
theorem main.tw8070636952655222270 : True := trivial
theorem main.tw8074177808019917933 : True := trivial
theorem main.tw8077453887928653128 : True := trivial
theorem main.tw8123531230628939902 : True := trivial
theorem main.tw8132178498146976934 : True := trivial
theorem main.tw8198635786116184702 : True := trivial
theorem main.tw8211863448347881248 : True := trivial
theorem main.tw8239597784800911592 : True := trivial
theorem main.tw8256147894513522171 : True := trivial
theorem main.tw8262367462955680934 : True := trivial
theorem main.tw8270690936462906749 : True := trivial
theorem main.tw8286811204976691927 : True := trivial
theorem main.tw8312138161847466698 : True := trivial
theorem main.tw832957702251805650 : True := trivial
theorem main.tw833366181672599839 : True := trivial
theorem main.tw8349605561674548153 : True := trivial
theorem main.tw8354859942247524186 : True := trivial
theorem main.tw836902708638354373 : True := trivial
theorem main.tw8372432500344545951 : True := trivial
theorem main.tw8385910273146961337 : True := trivial
theorem main.tw8404755488631334696 : True := trivial
theorem main.tw8440722530245238888 : True := trivial
theorem main.tw84514281460927790 : True := trivial
theorem main.tw8456221942631779472 : True := trivial
theorem main.tw8462904984302344767 : True := trivial
theorem main.tw8463454761793374742 : True := trivial
theorem main.tw8470317417958147442 : True := trivial
theorem main.tw8507845264902481460 : True := trivial
theorem main.tw8511639783363027448 : True := trivial
theorem main.tw8512846599769640567 : True := trivial
theorem main.tw853316654700182947 : True := trivial
theorem main.tw8541053843603864128 : True := trivial
theorem main.tw8543199408427174664 : True := trivial
theorem main.tw8547467832328499049 : True := trivial
theorem main.tw8547835018877277807 : True := trivial
theorem main.tw8561292540247648604 : True := trivial
theorem main.tw8567849941878843836 : True := trivial
theorem main.tw8571558186958321949 : True := trivial
theorem main.tw8594527841530898396 : True := trivial
theorem main.tw8595304795500500992 : True := trivial
theorem main.tw8598726330529460532 : True := trivial
theorem main.tw8632067484033081962 : True := trivial
theorem main.tw8633142351281238600 : True := trivial
theorem main.tw8648143778464435181 : True := trivial
theorem main.tw865080752176190197 : True := trivial
theorem main.tw867116294927962039 : True := trivial
theorem main.tw8674768394056432931 : True := trivial
theorem main.tw868957009881194517 : True := trivial
theorem main.tw869616941618530944 : True := trivial
theorem main.tw8699049650045938238 : True := trivial
theorem main.tw8731464644100033418 : True := trivial
theorem main.tw8748545815342134148 : True := trivial
theorem main.tw8757057635001978316 : True := trivial
theorem main.tw8776703023565459014 : True := trivial
theorem main.tw8784027004274634639 : True := trivial
theorem main.tw878727644738817739 : True := trivial
theorem main.tw8805413051807045613 : True := trivial
theorem main.tw8809643391664033257 : True := trivial
theorem main.tw8810294567309271235 : True := trivial
theorem main.tw8820234087358819619 : True := trivial
theorem main.tw8826075148503451808 : True := trivial
theorem main.tw8836684673375585528 : True := trivial
theorem main.tw8844696511426020488 : True := trivial
theorem main.tw8855353683325394927 : True := trivial
theorem main.tw8858540271125762992 : True := trivial
theorem main.tw8864801995293489557 : True := trivial
theorem main.tw8872105718554685360 : True := trivial
theorem main.tw8874004035559458439 : True := trivial
theorem main.tw8889909036490683537 : True := trivial
theorem main.tw8979861127389934948 : True := trivial
theorem main.tw9002507580857799536 : True := trivial
theorem main.tw9033397364740992468 : True := trivial
theorem main.tw9069977719596667413 : True := trivial
theorem main.tw9075827205167002984 : True := trivial
theorem main.tw9088192990142457327 : True := trivial
theorem main.tw9097544619300778498 : True := trivial
theorem main.tw9133342197399196234 : True := trivial
theorem main.tw9144134622846900584 : True := trivial
theorem main.tw9149475249158978189 : True := trivial
theorem main.tw9154938123599455950 : True := trivial
theorem main.tw9202362961687656120 : True := trivial
theorem main.tw9203716534745708512 : True := trivial
theorem main.tw9248355606524233013 : True := trivial
theorem main.tw925267241579179362 : True := trivial
theorem main.tw9257701769616213584 : True := trivial
theorem main.tw9272406366132598344 : True := trivial
theorem main.tw9299876090191300334 : True := trivial
theorem main.tw9329782625190375798 : True := trivial
theorem main.tw9335689295537598954 : True := trivial
theorem main.tw935179541032769765 : True := trivial
theorem main.tw9369852123599154598 : True := trivial
theorem main.tw9386645067147707984 : True := trivial
theorem main.tw9410493436074027243 : True := trivial
theorem main.tw9420458945464693125 : True := trivial
theorem main.tw9432906754913100419 : True := trivial
theorem main.tw9440510433579211515 : True := trivial
theorem main.tw9441134871347383685 : True := trivial
theorem main.tw9443520617062693981 : True := trivial
theorem main.tw944561791812335471 : True := trivial
theorem main.tw9456837133736449868 : True := trivial
theorem main.tw94607088446320870 : True := trivial
theorem main.tw9482119057786834193 : True := trivial
theorem main.tw9482223327213914921 : True := trivial
theorem main.tw9491493954292461150 : True := trivial
theorem main.tw9493952402113393094 : True := trivial
theorem main.tw9521946210082406153 : True := trivial
theorem main.tw9537812907215041040 : True := trivial
theorem main.tw9558001594617236124 : True := trivial
theorem main.tw9565188630546683335 : True := trivial
theorem main.tw9601020550826809897 : True := trivial
theorem main.tw9612118164168700870 : True := trivial
theorem main.tw961370681766752028 : True := trivial
theorem main.tw9620926646237751989 : True := trivial
theorem main.tw9638020300069440398 : True := trivial
theorem main.tw9639872857315793279 : True := trivial
theorem main.tw9653041577274385481 : True := trivial
theorem main.tw9663910302974732577 : True := trivial
theorem main.tw9666586416613377686 : True := trivial
theorem main.tw9668748204012174322 : True := trivial
theorem main.tw9687061429480002727 : True := trivial
theorem main.tw9690013620090670815 : True := trivial
theorem main.tw9699293133549217295 : True := trivial
theorem main.tw9719202250092448289 : True := trivial
theorem main.tw9746696674357601180 : True := trivial
theorem main.tw9794519201099739783 : True := trivial
theorem main.tw9836801404997342575 : True := trivial
theorem main.tw9849011053649894758 : True := trivial
theorem main.tw9870349952446189086 : True := trivial
theorem main.tw9881309371292612907 : True := trivial
theorem main.tw9954550400196453248 : True := trivial
theorem main.tw9957052238193980713 : True := trivial
theorem main.tw99894942109057259 : True := trivial
theorem main.tw12942894273064134190 : True := trivial
theorem main.tw15453744338904811197 : True := trivial
set_option Elab.async true in
theorem main : PySem.Challenge.rw_sz0048_01.Holds := by
  w_on; o_law; k_head; (case hw => w_witness2)
  k_fill
  intro w s₀ s₁ mg mb G Y fa o pm cd doc dV kV ho hd hcd hD hmg hg args vals as hpre hlay hrd hwl hlo
  have KX := kIn_of Y
  have X := (Ground.X G).1
  have V := (Ground.X G).2
  refine Ground.open G ?_
  intro T B D TE TW
  have TA := at_of_top T
  have hT := topRead_of T
  have kf := kf_of KX (by constructor <;> k_extra "kone")
  have ks := ks_at (w := w) (os := s₁.os) KX hT kf ?tt ?oo ?kk ?aa ?bb ?cc ?dd
  case tt =>
    refine' tid_mk (kvs := [(20, .int 0 277), (9, .int 1 279), (10, .int 2 281), (11, .int 3 283), (12, .int 4 285), (13, .int 5 287), (14, .int 6 289), (15, .int 7 291), (16, .int 8 293), (17, .int 9 295), (18, .int 10 297), (19, .int 11 299), (1, .int 12 301), (4, .int 13 303)]) ?h0 ?he ?hd ?h ?hn ?hk
    case h0 => k_is
    case he => exact ⟨rfl, rfl, rfl⟩
    case hd => rfl
    case h => repeat (first | exact .nil | refine .cons rfl ?_)
    case hn => decide
    case hk => rfl
  case oo =>
    refine' tops_mk ?h0 ?he ?hd ?h ?hn
    case h0 => k_is
    case he => exact ⟨rfl, rfl, rfl⟩
    case hd => rfl
    case h => repeat (first | exact .nil | refine .cons rfl ?_)
    case hn => decide
  case kk =>
    refine' kinds_mk ?h0 ?he ?hd ?h ?hn
    case h0 => k_is
    case he => exact ⟨rfl, rfl, rfl⟩
    case hd => rfl
    case h => repeat (first | exact .nil | refine .cons rfl ?_)
    case hn => decide
  case aa => k_is
  case bb => k_is
  case cc => k_is
  case dd => k_is
  have hdf : dV = .none := by
    rcases hD.pos with ⟨_, e⟩ | ⟨e, _⟩
    · exact e
    · exact absurd rfl e
  wrow_args hpre hlay hrd hwl hlo
  refine enter_call ?_
  refine codeAny_mono ?_ (fun _ _ g => GoodW.toG g)
  rename_i hL _ _ _ hI _ hc _
  refine law_in ks KX hT hg rfl ho hd rfl rfl rfl rfl rfl hdf hcd hL hI ?hlen (fun s' k o g => law_good k o g)
  have := hI.length
  omega
end Mine.Internal
end
theorem PySem.Challenge.cw_sz0048_01_holds : PySem.Challenge.rw_sz0048_01.Holds :=
  Mine.Internal.main

