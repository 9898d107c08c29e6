import PyProof.Rows.All
import Wide.All
import OpenK.AllK
import Wide.FinOn
import Lean
import PySem.Challenge.RW_ot0006_01
set_option Elab.async false
set_option maxRecDepth 100000
set_option compiler.extract_closed false
namespace Mine
open PySem PySem.W PySem.Calls PyProof.Rows
noncomputable abbrev PM := Addr → Option Obj
noncomputable def Le (B B' : PM) : Prop := ∀ a o, B a = some o → B' a = some o
theorem Le.refl (B : PM) : Le B B := fun _ _ e => e
theorem Le.trans {B B' B'' : PM} (x : Le B B') (y : Le B' B'') : Le B B'' := fun a o e => y a o (x a o e)
noncomputable abbrev HP (h : Heap) : PM := h.get?
noncomputable abbrev Cell := Addr × (Obj → Prop)
structure Cx where
  prog : Program
  w : World
  g : Heap
  mg : Str → Option Value
  mb : Str → Option Value
  r : Shared
  K : Frag
  C : Addr
noncomputable abbrev Cx.M (c : Cx) : Model := model c.prog c.w
noncomputable abbrev NE : Value → Shared → Prop := fun _ _ => False
structure Room (A : Around) (n : Nat) : Prop where
  hd : A.handled = none
  depth : A.depth + n < recursionLimit
  units : A.units + 20 * n + 300 < cLine
theorem Room.deeper {A : Around} {n : Nat} (R : Room A (n + 1)) (env : Env) : Room (A.deeper env) n :=
  ⟨R.hd, by have := R.depth; show A.depth + 1 + n < _; omega, by have := R.units; show A.units + 3 + 20 * n + 300 < _; omega⟩
theorem Room.le {A : Around} {n m : Nat} (R : Room A n) (h : m ≤ n) : Room A m :=
  ⟨R.hd, by have := R.depth; omega, by have := R.units; omega⟩
theorem Room.d {A : Around} {n : Nat} (R : Room A n) : A.depth < recursionLimit := by have := R.depth; omega
theorem Room.u {A : Around} {n : Nat} (R : Room A n) : A.units + 64 < cLine := by have := R.units; omega
theorem Room.u0 {A : Around} {n : Nat} (R : Room A n) : A.units < cLine := by have := R.units; omega
theorem Room.u1 {A : Around} {n : Nat} (R : Room A n) : A.in1.units < cLine := by have := R.units; show A.units + 1 < _; omega
structure Own (c : Cx) (H B : PM) (cs : List Cell) (s : Shared) : Prop where
  sh : s = { c.r with heap := s.heap, toks := s.toks }
  base : ∀ a o, c.g.get? a = some o → B a = some o
  hH : Le H (HP s.heap)
  hB : Le B (HP s.heap)
  hC : ∀ p ∈ cs, ∃ o, s.heap.get? p.1 = some o ∧ p.2 o
  dHB : ∀ a o, H a = some o → B a = none
  dC : ∀ p ∈ cs, H p.1 = none ∧ B p.1 = none
  nd : (cs.map (·.1)).Nodup
namespace Own
variable {c : Cx} {H B : PM} {cs : List Cell} {s : Shared}
theorem keepG (S : Own c H B cs s) : ∀ a o, c.g.get? a = some o → s.heap.get? a = some o := fun a o e => S.hB a o (S.base a o e)
theorem tok (S : Own c H B cs s) (t : Nat) : Own c H B cs { s with toks := t } where
  sh := by have := S.sh; rw [this]
  base := S.base
  hH := S.hH
  hB := S.hB
  hC := S.hC
  dHB := S.dHB
  dC := S.dC
  nd := S.nd
theorem ltB (S : Own c H B cs s) {a : Addr} {o : Obj} (e : B a = some o) : a < s.heap.objs.size := Heap.lt_size (S.hB a o e)
theorem newB (S : Own c H B cs s) : B s.heap.objs.size = none := by
  cases e : B s.heap.objs.size with
  | none => rfl
  | some o => exact absurd (S.ltB e) (Nat.lt_irrefl _)
theorem newH (S : Own c H B cs s) : H s.heap.objs.size = none := by
  cases e : H s.heap.objs.size with
  | none => rfl
  | some o => exact absurd (Heap.lt_size (S.hH _ _ e)) (Nat.lt_irrefl _)
theorem newC (S : Own c H B cs s) {p : Cell} (hp : p ∈ cs) : p.1 < s.heap.objs.size := let ⟨_, ho, _⟩ := S.hC p hp; Heap.lt_size ho
theorem keeps (S : Own c H B cs s) {h' : Heap} {t : Nat} (hk : ∀ a o, s.heap.get? a = some o → h'.get? a = some o) : Own c H B cs { s with heap := h', toks := t } where
  sh := by have := S.sh; rw [this]
  base := S.base
  hH := fun a o e => hk a o (S.hH a o e)
  hB := fun a o e => hk a o (S.hB a o e)
  hC := fun p hp => let ⟨o, ho, h⟩ := S.hC p hp; ⟨o, hk _ _ ho, h⟩
  dHB := S.dHB
  dC := S.dC
  nd := S.nd
theorem add (S : Own c H B cs s) {h' : Heap} {t : Nat} {a : Addr} {P : Obj → Prop} (hk : ∀ a o, s.heap.get? a = some o → h'.get? a = some o) (hn : s.heap.get? a = none)
    (ho : ∃ o, h'.get? a = some o ∧ P o) : Own c H B ((a, P) :: cs) { s with heap := h', toks := t } where
  sh := by have := S.sh; rw [this]
  base := S.base
  hH := fun a o e => hk a o (S.hH a o e)
  hB := fun a o e => hk a o (S.hB a o e)
  hC := fun p hp => by
    rcases List.mem_cons.mp hp with rfl | hp
    · exact ho
    · obtain ⟨o, ho, h⟩ := S.hC p hp; exact ⟨o, hk _ _ ho, h⟩
  dHB := S.dHB
  dC := fun p hp => by
    rcases List.mem_cons.mp hp with rfl | hp
    · constructor
      · cases e : H a with
        | none => rfl
        | some o => have q : s.heap.get? a = some o := S.hH _ _ e; rw [hn] at q; cases q
      · cases e : B a with
        | none => rfl
        | some o => have q : s.heap.get? a = some o := S.hB _ _ e; rw [hn] at q; cases q
    · exact S.dC p hp
  nd := by
    rw [List.map_cons, List.nodup_cons]
    refine ⟨fun hm => ?_, S.nd⟩
    obtain ⟨p, hp, e⟩ := List.mem_map.mp hm
    obtain ⟨o, ho', _⟩ := S.hC p hp
    rw [e] at ho'
    have : s.heap.get? a = some o := ho'
    rw [hn] at this; cases this
theorem push (S : Own c H B cs s) {t : Nat} {o : Obj} {P : Obj → Prop} (hp : P o) (hf : o.isFreed = false) :
    Own c H B ((s.heap.objs.size, P) :: cs) { s with heap := s.heap.push o, toks := t } := by
  refine S.add (fun a o' e => Heap.get?_push_of_some _ e) ?_ ⟨o, Heap.get?_push_size _ hf, hp⟩
  cases e : s.heap.get? s.heap.objs.size with
  | none => rfl
  | some o' => exact absurd (Heap.lt_size e) (Nat.lt_irrefl _)
theorem freeze {a : Addr} {P : Obj → Prop} (S : Own c H B ((a, P) :: cs) s) : ∃ B' o, Le B B' ∧ B' a = some o ∧ P o ∧ B a = none ∧ Own c H B' cs s := by
  obtain ⟨o, ho, hP⟩ := S.hC _ (List.mem_cons_self ..)
  have hd := S.dC _ (List.mem_cons_self ..)
  have hnd := List.nodup_cons.mp S.nd
  refine ⟨fun b => if b = a then some o else B b, o, fun b ob e => ?_, by simp, hP, hd.2, ?_⟩
  · show (if b = a then some o else B b) = some ob
    split
    · rename_i q; subst q; rw [hd.2] at e; cases e
    · exact e
  · exact {
      sh := S.sh
      base := fun b ob e => by
        show (if b = a then some o else B b) = some ob
        split
        · rename_i q; subst q; have := S.base _ _ e; rw [hd.2] at this; cases this
        · exact S.base b ob e
      hH := S.hH
      hB := fun b ob e => by
        dsimp only at e
        split at e
        · rename_i q; cases e; subst q; exact ho
        · exact S.hB b ob e
      hC := fun p hp => S.hC p (List.mem_cons_of_mem _ hp)
      dHB := fun b ob e => by
        show (if b = a then some o else B b) = none
        split
        · rename_i q; subst q; rw [hd.1] at e; cases e
        · exact S.dHB b ob e
      dC := fun p hp => by
        refine ⟨(S.dC p (List.mem_cons_of_mem _ hp)).1, ?_⟩
        show (if p.1 = a then some o else B p.1) = none
        split
        · rename_i q; exact absurd (List.mem_map.mpr ⟨p, hp, q⟩) hnd.1
        · exact (S.dC p (List.mem_cons_of_mem _ hp)).2
      nd := hnd.2 }
theorem drop {p : Cell} (S : Own c H B (p :: cs) s) : Own c H B cs s where
  sh := S.sh
  base := S.base
  hH := S.hH
  hB := S.hB
  hC := fun q hq => S.hC q (List.mem_cons_of_mem _ hq)
  dHB := S.dHB
  dC := fun q hq => S.dC q (List.mem_cons_of_mem _ hq)
  nd := (List.nodup_cons.mp S.nd).2
theorem perm {cs' : List Cell} (S : Own c H B cs s) (hp : cs.Perm cs') : Own c H B cs' s where
  sh := S.sh
  base := S.base
  hH := S.hH
  hB := S.hB
  hC := fun q hq => S.hC q (hp.mem_iff.mpr hq)
  dHB := S.dHB
  dC := fun q hq => S.dC q (hp.mem_iff.mpr hq)
  nd := (hp.map (·.1)).nodup_iff.mp S.nd
theorem swap {p q : Cell} (S : Own c H B (p :: q :: cs) s) : Own c H B (q :: p :: cs) s := S.perm (List.Perm.swap ..)
theorem weak {a : Addr} {P P' : Obj → Prop} (S : Own c H B ((a, P) :: cs) s) (h : ∀ o, P o → P' o) : Own c H B ((a, P') :: cs) s where
  sh := S.sh
  base := S.base
  hH := S.hH
  hB := S.hB
  hC := fun q hq => by
    rcases List.mem_cons.mp hq with rfl | hq
    · obtain ⟨o, ho, hp⟩ := S.hC _ (List.mem_cons_self ..); exact ⟨o, ho, h o hp⟩
    · exact S.hC q (List.mem_cons_of_mem _ hq)
  dHB := S.dHB
  dC := fun q hq => by
    rcases List.mem_cons.mp hq with rfl | hq
    · exact S.dC (a, P) (List.mem_cons_self ..)
    · exact S.dC q (List.mem_cons_of_mem _ hq)
  nd := S.nd
end Own
inductive Upd (a : Addr) (P P' : Obj → Prop) : List Cell → List Cell → Prop
  | head {r} : Upd a P P' ((a, P) :: r) ((a, P') :: r)
  | tail {p r r'} : Upd a P P' r r' → Upd a P P' (p :: r) (p :: r')
theorem Upd.mem {a : Addr} {P P' : Obj → Prop} : ∀ {cs cs' : List Cell}, Upd a P P' cs cs' → (a, P) ∈ cs
  | _, _, .head => List.mem_cons_self ..
  | _, _, .tail h => List.mem_cons_of_mem _ h.mem
theorem Upd.map {a : Addr} {P P' : Obj → Prop} : ∀ {cs cs' : List Cell}, Upd a P P' cs cs' → cs'.map (·.1) = cs.map (·.1)
  | _, _, .head => rfl
  | _, _, .tail h => by rw [List.map_cons, List.map_cons, h.map]
theorem Upd.back {a : Addr} {P P' : Obj → Prop} : ∀ {cs cs' : List Cell}, Upd a P P' cs cs' → (cs.map (·.1)).Nodup → ∀ q ∈ cs', q = (a, P') ∨ (q ∈ cs ∧ q.1 ≠ a)
  | _, _, .head, nd, q, hq => by
    rcases List.mem_cons.mp hq with rfl | hq
    · exact .inl rfl
    · exact .inr ⟨List.mem_cons_of_mem _ hq, fun e => (List.nodup_cons.mp nd).1 (List.mem_map.mpr ⟨q, hq, e⟩)⟩
  | _, _, .tail (p := p) h, nd, q, hq => by
    rcases List.mem_cons.mp hq with rfl | hq
    · exact .inr ⟨List.mem_cons_self .., fun e => (List.nodup_cons.mp nd).1 (List.mem_map.mpr ⟨_, h.mem, e.symm⟩)⟩
    · rcases h.back (List.nodup_cons.mp nd).2 q hq with e | ⟨e, n⟩
      · exact .inl e
      · exact .inr ⟨List.mem_cons_of_mem _ e, n⟩
theorem Own.cell {c : Cx} {H B : PM} {cs : List Cell} {s : Shared} {a : Addr} {P : Obj → Prop} (S : Own c H B cs s) (hm : (a, P) ∈ cs) : ∃ o, s.heap.get? a = some o ∧ P o := S.hC _ hm
theorem Own.upd {c : Cx} {H B : PM} {cs cs' : List Cell} {s : Shared} {a : Addr} {P P' : Obj → Prop} {h' : Heap} {t : Nat} (S : Own c H B cs s) (U : Upd a P P' cs cs')
    (hs : Heap.ExtBut a s.heap h') (ho : ∃ o, h'.get? a = some o ∧ P' o) : Own c H B cs' { s with heap := h', toks := t } where
  sh := by have := S.sh; rw [this]
  base := S.base
  hH := fun b ob e => hs b ob (fun q => by subst q; have := (S.dC _ U.mem).1; rw [e] at this; cases this) (S.hH b ob e)
  hB := fun b ob e => hs b ob (fun q => by subst q; have := (S.dC _ U.mem).2; rw [e] at this; cases this) (S.hB b ob e)
  hC := fun q hq => by
    rcases U.back S.nd q hq with rfl | ⟨hq, hn⟩
    · exact ho
    · obtain ⟨o, ho, hp⟩ := S.hC q hq; exact ⟨o, hs _ _ hn ho, hp⟩
  dHB := S.dHB
  dC := fun q hq => by
    rcases U.back S.nd q hq with rfl | ⟨hq, _⟩
    · exact S.dC (a, P) U.mem
    · exact S.dC q hq
  nd := by rw [U.map]; exact S.nd
theorem Own.frameOut {c : Cx} {H B : PM} {cs rest : List Cell} {s : Shared} (S : Own c H B (cs ++ rest) s) :
    ∃ H', Own c H' B cs s ∧ ∀ B' cs' s', Own c H' B' cs' s' → Own c H B' (cs' ++ rest) s' := by
  classical
  have nd := S.nd
  rw [List.map_append, List.nodup_append] at nd
  obtain ⟨n1, n2, n3⟩ := nd
  let H' : PM := fun a => if a ∈ rest.map (·.1) then s.heap.get? a else H a
  have inR : ∀ p ∈ rest, H' p.1 = s.heap.get? p.1 := fun p hp => if_pos (List.mem_map.mpr ⟨p, hp, rfl⟩)
  have offR : ∀ a, a ∉ rest.map (·.1) → H' a = H a := fun a ha => if_neg ha
  have hle : Le H H' := fun a o e => by
    by_cases q : a ∈ rest.map (·.1)
    · obtain ⟨p, hp, rfl⟩ := List.mem_map.mp q
      have := (S.dC p (List.mem_append_right _ hp)).1
      rw [e] at this; cases this
    · rw [offR a q]; exact e
  refine ⟨H', ⟨S.sh, S.base, ?_, S.hB, fun p hp => S.hC p (List.mem_append_left _ hp), ?_, ?_, n1⟩, ?_⟩
  · intro a o e
    by_cases q : a ∈ rest.map (·.1)
    · have e' : s.heap.get? a = some o := by rw [show H' a = s.heap.get? a from if_pos q] at e; exact e
      exact e'
    · rw [offR a q] at e; exact S.hH a o e
  · intro a o e
    by_cases q : a ∈ rest.map (·.1)
    · obtain ⟨p, hp, rfl⟩ := List.mem_map.mp q
      exact (S.dC p (List.mem_append_right _ hp)).2
    · rw [offR a q] at e; exact S.dHB a o e
  · intro p hp
    refine ⟨?_, (S.dC p (List.mem_append_left _ hp)).2⟩
    rw [offR p.1 fun q => n3 p.1 (List.mem_map.mpr ⟨p, hp, rfl⟩) p.1 q rfl]
    exact (S.dC p (List.mem_append_left _ hp)).1
  · intro B' cs' s' T
    have rest' : ∀ p ∈ rest, ∃ o, H' p.1 = some o ∧ p.2 o := fun p hp => by
      obtain ⟨o, ho, hP⟩ := S.hC p (List.mem_append_right _ hp)
      exact ⟨o, (inR p hp).trans ho, hP⟩
    refine ⟨T.sh, T.base, fun a o e => T.hH a o (hle a o e), T.hB, ?_, fun a o e => T.dHB a o (hle a o e), ?_, ?_⟩
    · intro p hp
      rcases List.mem_append.mp hp with hp | hp
      · exact T.hC p hp
      · obtain ⟨o, ho, hP⟩ := rest' p hp
        exact ⟨o, T.hH _ _ ho, hP⟩
    · intro p hp
      rcases List.mem_append.mp hp with hp | hp
      · refine ⟨?_, (T.dC p hp).2⟩
        cases e : H p.1 with
        | none => rfl
        | some o => have := hle _ _ e; rw [(T.dC p hp).1] at this; cases this
      · obtain ⟨o, ho, hP⟩ := rest' p hp
        exact ⟨(S.dC p (List.mem_append_right _ hp)).1, T.dHB _ _ ho⟩
    · rw [List.map_append, List.nodup_append]
      refine ⟨T.nd, n2, ?_⟩
      intro a ha b hb e
      subst e
      obtain ⟨p, hp, rfl⟩ := List.mem_map.mp ha
      obtain ⟨q, hq, e⟩ := List.mem_map.mp hb
      obtain ⟨o, ho, _⟩ := rest' q hq
      rw [e, (T.dC p hp).1] at ho; cases ho
noncomputable def frameP (bs : List (Str × Value)) (o : Obj) : Prop := ∃ es ep, o.data = .dict es ep ∧ StrKeys es ∧ ∀ x v, bs.lookup x = some v → nsFind es x = some v
noncomputable def listP (vs : List Value) (o : Obj) : Prop := ∃ n, o = { cls := .type "list", data := .seq vs.toArray n }
noncomputable def listW (vs : List Value) (o : Obj) : Prop := o.cls = .type "list" ∧ ∃ n, o.data = .seq vs.toArray n
theorem listP.w {vs : List Value} {o : Obj} (h : listP vs o) : listW vs o := by obtain ⟨n, rfl⟩ := h; exact ⟨rfl, n, rfl⟩
noncomputable def tupP (vs : List Value) (o : Obj) : Prop := ∃ n, o = { cls := .type "tuple", data := .seq vs.toArray n }
theorem tupP.w {vs : List Value} {o : Obj} (h : tupP vs o) : o.cls = .type "tuple" ∧ ∃ n, o.data = .seq vs.toArray n := by obtain ⟨n, rfl⟩ := h; exact ⟨rfl, n, rfl⟩
noncomputable def varP (v : Option Value) (o : Obj) : Prop := o.data = .cell v
section
variable {c : Cx} {H B : PM} {cs cs' : List Cell} {s : Shared} {A : Around} {env : Env} {bs : List (Str × Value)} {x : Str} {v : Value} {pos : Pos}
theorem frame_ns (S : Own c H B cs s) {L : Addr} (hm : (L, frameP bs) ∈ cs) : ∃ m, s.heap.Ns L m ∧ ∀ x v, bs.lookup x = some v → m x = some v := by
  obtain ⟨o, ho, es, ep, hd, hk, hf⟩ := S.cell hm
  exact ⟨nsFind es, ⟨o, es, ep, ho, hd, hk, fun _ => rfl⟩, hf⟩
theorem frameP_sub {bs' : List (Str × Value)} (h : ∀ p ∈ bs', bs.lookup p.1 = some p.2) : ∀ o, frameP bs o → frameP bs' o := by
  rintro o ⟨es, ep, hd, hk, hf⟩
  refine ⟨es, ep, hd, hk, fun x v e => hf x v ?_⟩
  exact h (x, v) (mem_of_lookup e)
theorem ldn {Q : Value → Shared → Prop} (S : Own c H B cs s) (hm : (env.locals, frameP bs) ∈ cs) (hv : bs.lookup x = some v) (h : Q v s)
    (hk : env.scope.kind = .function) (hl : env.kindOf x = some .local) : wpAny c.M A (loadName env x) Q NE s := by
  obtain ⟨m, hn, hf⟩ := frame_ns S hm
  exact wpAny_loadName_local hk hl hn (hf _ _ hv) h
theorem ld {Q : Value → Shared → Prop} (S : Own c H B cs s) (hm : (env.locals, frameP bs) ∈ cs) (hv : bs.lookup x = some v) (h : Q v s)
    (hk : env.scope.kind = .function) (hl : env.kindOf x = some .local) (hd : (x == ("__debug__" : Str)) = false) : wpAny c.M A (eval (.Name x pos) env) Q NE s :=
  wpAny_Name (ldn S hm hv h hk hl) hd
theorem ldc {Q : Value → Shared → Prop} {a : Addr} (S : Own c H B cs s) (hc : env.cells.lookup x = some a) (hm : (a, varP (some v)) ∈ cs) (h : Q v s)
    (hk : env.scope.kind = .function) (hl : env.kindOf x = some .cell) (hd : (x == ("__debug__" : Str)) = false) : wpAny c.M A (eval (.Name x pos) env) Q NE s :=
  wpAny_Name (wpAny_loadName_cell hk hl hc (S.cell hm) h) hd
theorem ldcB {Q : Value → Shared → Prop} {a : Addr} {o : Obj} (S : Own c H B cs s) (hc : env.cells.lookup x = some a) (hm : B a = some o) (ho : varP (some v) o) (h : Q v s)
    (hk : env.scope.kind = .function) (hl : env.kindOf x = some .cell) (hd : (x == ("__debug__" : Str)) = false) : wpAny c.M A (eval (.Name x pos) env) Q NE s :=
  wpAny_Name (wpAny_loadName_cell hk hl hc ⟨o, S.hB _ _ hm, ho⟩ h) hd
theorem ldfB {Q : Value → Shared → Prop} {a : Addr} {o : Obj} (S : Own c H B cs s) (hc : env.cells.lookup x = some a) (hm : B a = some o) (ho : varP (some v) o) (h : Q v s)
    (hk : env.scope.kind = .function) (hl : env.kindOf x = some .free) (hd : (x == ("__debug__" : Str)) = false) (hn : (x == ("__classdict__" : Str)) = false) : wpAny c.M A (eval (.Name x pos) env) Q NE s :=
  wpAny_Name (wpAny_loadName_free hk hl hc ⟨o, S.hB _ _ hm, ho⟩ h hn) hd
structure Glb (c : Cx) : Prop where
  g : c.g.Ns mainGlobals c.mg
  b : c.g.Ns builtinsNs c.mb
  nolimit : c.g.NoLimit
  bt : ∀ x : Str, x ≠ "__name__" → c.mb x = bootBuiltins x
  sys : ∃ o, c.g.get? sysModules = some o
theorem ldg {Q : Value → Shared → Prop} (G : Glb c) (S : Own c H B cs s) (hv : c.mg x = some v) (h : Q v s)
    (hk : env.scope.kind = .function) (hl : env.kindOf x = some .globalImplicit) (hg : env.globals = mainGlobals) (hd : (x == ("__debug__" : Str)) = false) :
    wpAny c.M A (eval (.Name x pos) env) Q NE s :=
  Name_function_global hk hl (loadGlobal_global (hg ▸ G.g.keeps S.keepG) hv h) hd
theorem ldb {Q : Value → Shared → Prop} (G : Glb c) (S : Own c H B cs s) (hm : c.mg x = none) (hv : bootBuiltins x = some v) (h : Q v s)
    (hk : env.scope.kind = .function) (hl : env.kindOf x = some .globalImplicit) (hg : env.globals = mainGlobals) (hb : env.builtins = builtinsNs) (hn : x ≠ "__name__") (hd : (x == ("__debug__" : Str)) = false) :
    wpAny c.M A (eval (.Name x pos) env) Q NE s :=
  Name_function_global hk hl (loadGlobal_builtin (hg ▸ G.g.keeps S.keepG) hm (hb ▸ G.b.keeps S.keepG) ((G.bt x hn).trans hv) h) hd
noncomputable def NmGoal (k : NameKind) (M : Model) (A : Around) (x : Str) (pos : Pos) (env : Env) (Q : Value → Shared → Prop) (s : Shared) : Prop := env.kindOf x = some k → wpAny M A (eval (.Name x pos) env) Q NE s
theorem nm {M : Model} {k : NameKind} {Q : Value → Shared → Prop} (hk : env.kindOf x = some k) (h : NmGoal k M A x pos env Q s) : wpAny M A (eval (.Name x pos) env) Q NE s := h hk
theorem nmL {Q : Value → Shared → Prop} (S : Own c H B cs s) (hm : (env.locals, frameP bs) ∈ cs) (hv : bs.lookup x = some v) (h : Q v s)
    (hk : env.scope.kind = .function) (hd : (x == ("__debug__" : Str)) = false) : NmGoal .local c.M A x pos env Q s := fun hl => ld S hm hv h hk hl hd
theorem nmC {Q : Value → Shared → Prop} {a : Addr} (S : Own c H B cs s) (hc : env.cells.lookup x = some a) (hm : (a, varP (some v)) ∈ cs) (h : Q v s)
    (hk : env.scope.kind = .function) (hd : (x == ("__debug__" : Str)) = false) : NmGoal .cell c.M A x pos env Q s := fun hl => ldc S hc hm h hk hl hd
theorem nmCB {Q : Value → Shared → Prop} {a : Addr} {o : Obj} (S : Own c H B cs s) (hc : env.cells.lookup x = some a) (hm : B a = some o) (ho : varP (some v) o) (h : Q v s)
    (hk : env.scope.kind = .function) (hd : (x == ("__debug__" : Str)) = false) : NmGoal .cell c.M A x pos env Q s := fun hl => ldcB S hc hm ho h hk hl hd
theorem nmFB {Q : Value → Shared → Prop} {a : Addr} {o : Obj} (S : Own c H B cs s) (hc : env.cells.lookup x = some a) (hm : B a = some o) (ho : varP (some v) o) (h : Q v s)
    (hk : env.scope.kind = .function) (hd : (x == ("__debug__" : Str)) = false) (hn : (x == ("__classdict__" : Str)) = false) : NmGoal .free c.M A x pos env Q s := fun hl => ldfB S hc hm ho h hk hl hd hn
theorem nmG {Q : Value → Shared → Prop} (G : Glb c) (S : Own c H B cs s) (hv : c.mg x = some v) (h : Q v s)
    (hk : env.scope.kind = .function) (hg : env.globals = mainGlobals) (hd : (x == ("__debug__" : Str)) = false) : NmGoal .globalImplicit c.M A x pos env Q s := fun hl => ldg G S hv h hk hl hg hd
theorem nmB {Q : Value → Shared → Prop} (G : Glb c) (S : Own c H B cs s) (hm : c.mg x = none) (hv : bootBuiltins x = some v) (h : Q v s)
    (hk : env.scope.kind = .function) (hg : env.globals = mainGlobals) (hb : env.builtins = builtinsNs) (hn : (x == ("__name__" : Str)) = false) (hd : (x == ("__debug__" : Str)) = false) :
    NmGoal .globalImplicit c.M A x pos env Q s := fun hl => ldb G S hm hv h hk hl hg hb (fun e => by rw [e] at hn; simp at hn) hd
noncomputable def StGoal (k : NameKind) (M : Model) (A : Around) (x : Str) (v : Value) (env : Env) (Q : Unit → Shared → Prop) (s : Shared) : Prop := env.kindOf x = some k → wpAny M A (storeName env x v) Q NE s
theorem sm {M : Model} {k : NameKind} {Q : Unit → Shared → Prop} (hk : env.kindOf x = some k) (h : StGoal k M A x v env Q s) : wpAny M A (storeName env x v) Q NE s := h hk
theorem st {Q : Unit → Shared → Prop} (S : Own c H B cs s) (U : Upd env.locals (frameP bs) (frameP ((x, v) :: bs)) cs cs')
    (h : ∀ s', Own c H B cs' s' → Q () s') (hk : env.scope.kind = .function) (hl : env.kindOf x = some .local) : wpAny c.M A (storeName env x v) Q NE s := by
  obtain ⟨m, hn, hf⟩ := frame_ns S U.mem
  refine wpAny_storeName_local hl hn (fun h' hn' hs => h _ (S.upd U hs.extBut ?_)) (by rw [hk]; rfl)
  obtain ⟨o, es, ep, ho, hd, hsk, hfm⟩ := hn'
  refine ⟨o, ho, es, ep, hd, hsk, fun y u e => ?_⟩
  rw [hfm y]
  show (if y = x then some v else m y) = some u
  by_cases q : y = x
  · subst q; rw [if_pos rfl]; rw [List.lookup_cons_self] at e; exact e
  · rw [if_neg q]
    have q' : (y == x) = false := beq_eq_false_iff_ne.mpr q
    rw [List.lookup_cons, q'] at e
    exact hf y u e
theorem stc {Q : Unit → Shared → Prop} {a : Addr} {v₀ : Option Value} (S : Own c H B cs s) (hc : env.cells.lookup x = some a) (U : Upd a (varP v₀) (varP (some v)) cs cs')
    (h : ∀ s', Own c H B cs' s' → Q () s') (hk : env.scope.kind = .function) (hl : env.kindOf x = some .cell) : wpAny c.M A (storeName env x v) Q NE s :=
  wpAny_storeName_cell hk hl hc (S.cell U.mem) fun _ hv hs => h _ (by simpa using S.upd (t := s.toks) U hs.extBut hv)
theorem smL {Q : Unit → Shared → Prop} (S : Own c H B cs s) (U : Upd env.locals (frameP bs) (frameP ((x, v) :: bs)) cs cs')
    (h : ∀ s', Own c H B cs' s' → Q () s') (hk : env.scope.kind = .function) : StGoal .local c.M A x v env Q s := fun hl => st S U h hk hl
theorem smC {Q : Unit → Shared → Prop} {a : Addr} {v₀ : Option Value} (S : Own c H B cs s) (hc : env.cells.lookup x = some a) (U : Upd a (varP v₀) (varP (some v)) cs cs')
    (h : ∀ s', Own c H B cs' s' → Q () s') (hk : env.scope.kind = .function) : StGoal .cell c.M A x v env Q s := fun hl => stc S hc U h hk hl
theorem c_int {i : Int} {k : Nat} {Q : Value → Shared → Prop} (S : Own c H B cs s) (h : ∀ t s', Own c H B cs s' → Q (.int i t) s') : wpAny c.M A (eval (.Constant (.int i) k pos) env) Q NE s :=
  wpAny_Constant_int (h _ _ (S.tok _))
theorem c_str {i : Str} {k : Nat} {Q : Value → Shared → Prop} (S : Own c H B cs s) (h : ∀ t s', Own c H B cs s' → Q (.str i t) s') : wpAny c.M A (eval (.Constant (.str i) k pos) env) Q NE s :=
  Constant_str (h _ _ (S.tok _))
theorem c_bool {i : Bool} {k : Nat} {Q : Value → Shared → Prop} (h : Q (.bool i) s) : wpAny c.M A (eval (.Constant (.bool i) k pos) env) Q NE s := wpAny_pure h
theorem c_none {k : Nat} {Q : Value → Shared → Prop} (h : Q .none s) : wpAny c.M A (eval (.Constant .none k pos) env) Q NE s := wpAny_pure h
theorem add_i {a b : Int} {t u : Tok} {Q : Value → Shared → Prop} (S : Own c H B cs s) (h : ∀ t s', Own c H B cs s' → Q (.int (a + b) t) s') : wpAny c.M A (binaryOp .Add (.int a t) (.int b u)) Q NE s := add_int (h _ _ (S.tok _))
theorem sub_i {a b : Int} {t u : Tok} {Q : Value → Shared → Prop} (S : Own c H B cs s) (h : ∀ t s', Own c H B cs s' → Q (.int (a - b) t) s') : wpAny c.M A (binaryOp .Sub (.int a t) (.int b u)) Q NE s := sub_int (h _ _ (S.tok _))
theorem mul_i {a b : Int} {t u : Tok} {Q : Value → Shared → Prop} (S : Own c H B cs s) (hm : IntMulOk a b) (h : ∀ t s', Own c H B cs s' → Q (.int (a * b) t) s') : wpAny c.M A (binaryOp .Mult (.int a t) (.int b u)) Q NE s := mul_int (h _ _ (S.tok _)) hm
theorem mod_i {a b : Int} {t u : Tok} {Q : Value → Shared → Prop} (S : Own c H B cs s) (hb : 0 < b) (h : ∀ t s', Own c H B cs s' → Q (.int (a % b) t) s') : wpAny c.M A (binaryOp .Mod (.int a t) (.int b u)) Q NE s := by
  refine mod_int (by omega) ?_
  rw [Int.fmod_eq_emod_of_nonneg a (by omega)]
  exact h _ _ (S.tok _)
theorem fdiv_i {a b : Int} {t u : Tok} {Q : Value → Shared → Prop} (S : Own c H B cs s) (hb : 0 < b) (hs : b < 1000000) (h : ∀ t s', Own c H B cs s' → Q (.int (a / b) t) s') : wpAny c.M A (binaryOp .FloorDiv (.int a t) (.int b u)) Q NE s := by
  refine floordiv_int (by omega) ?_ (Or.inl (PyProof.noPylong_small (by omega)))
  rw [Int.fdiv_eq_ediv_of_nonneg a (by omega)]
  exact h _ _ (S.tok _)
theorem isList_cellW (S : Own c H B cs s) {a : Addr} {vs : List Value} (hm : (a, listW vs) ∈ cs) : s.heap.IsList a vs.toArray := let ⟨o, ho, h1, h2⟩ := S.cell hm; ⟨o, ho, h1, h2⟩
theorem isList_cell (S : Own c H B cs s) {a : Addr} {vs : List Value} (hm : (a, listP vs) ∈ cs) : s.heap.IsList a vs.toArray := let ⟨o, ho, h⟩ := S.cell hm; ⟨o, ho, h.w.1, h.w.2⟩
theorem isList_B (S : Own c H B cs s) {a : Addr} {o : Obj} {vs : List Value} (hb : B a = some o) (hl : listP vs o) : s.heap.IsList a vs.toArray := ⟨o, S.hB _ _ hb, hl.w.1, hl.w.2⟩
theorem isTup_B (S : Own c H B cs s) {a : Addr} {o : Obj} {vs : List Value} (hb : B a = some o) (hl : tupP vs o) : IsTup s.heap a vs.toArray := ⟨o, S.hB _ _ hb, hl.w.1, hl.w.2⟩
theorem newListC {vs : List Value} {Q : Value → Shared → Prop} (S : Own c H B cs s) (hsz : vs.length ≤ sizeLine)
    (h : ∀ a s', B a = none → Own c H B ((a, listP vs) :: cs) s' → Q (.ref a) s') : wpAny c.M A (newList vs) Q NE s :=
  wpAny_newObj_type (h _ _ S.newB (S.push (t := s.toks) ⟨0, rfl⟩ rfl)) (by show vs.toArray.size ≤ sizeLine; simpa using hsz)
theorem newTupleB {vs : List Value} {Q : Value → Shared → Prop} (S : Own c H B cs s) (hsz : vs.length ≤ sizeLine)
    (h : ∀ a o B' s', Le B B' → B' a = some o → tupP vs o → Own c H B' cs s' → Q (.ref a) s') : wpAny c.M A (newTuple vs) Q NE s := by
  refine wpAny_newObj_type ?_ (by show vs.toArray.size ≤ sizeLine; simpa using hsz)
  have T := S.push (t := s.toks) (P := tupP vs) (o := { cls := .type "tuple", data := .seq vs.toArray }) ⟨0, rfl⟩ rfl
  obtain ⟨B', o, hle, hb, hp, _, T'⟩ := T.freeze
  exact h _ o B' _ hle hb hp T'
end
noncomputable def topStmts : List Stmt := PySem.Challenge.pw_ot0006_01.main.body
noncomputable def stAt (i : Nat) : Stmt := topStmts.getD i (.Pass ⟨0, 0, 0, 0⟩)
noncomputable def stParams : Stmt → Arguments
  | .FunctionDef _ a .. => a
  | _ => ⟨[], [], none, [], [], none, []⟩
noncomputable def stBody : Stmt → List Stmt
  | .FunctionDef _ _ b .. => b
  | .ClassDef _ _ _ b .. => b
  | _ => []
noncomputable def stScope : Stmt → Scope
  | .FunctionDef _ _ _ _ _ _ sc .. => sc
  | _ => { kind := .module, names := [], isGenerator := false, isCoroutine := false, more := [] }
noncomputable def methAt (i : Nat) : Stmt := (stBody (stAt 2)).getD i (.Pass ⟨0, 0, 0, 0⟩)
noncomputable abbrev fnM (name qual : Str) (st : Stmt) (cl : List (Str × Addr)) (dV kV doc pm : Value) (an : Option Addr) (cdv ct : Value) : FuncData :=
  fnX name qual (stParams st) (stBody st) (stScope st) cl dV kV doc pm an cdv ct
noncomputable def FnAt (c : Cx) (fa : Addr) (name qual : Str) (st : Stmt) (dV : Value) : Prop :=
  ∃ o kV doc pm an cdv ct, c.g.get? fa = some o ∧ o.data = .func (fnM name qual st [] dV kV doc pm an cdv ct) ∧ c.g.CodeRec cdv qual
noncomputable def FnC (c : Cx) (fa : Addr) (name qual : Str) (st : Stmt) (dV cdv : Value) : Prop :=
  ∃ o kV doc pm an ct, c.g.get? fa = some o ∧ o.data = .func (fnM name qual st [] dV kV doc pm an cdv ct) ∧ c.g.CodeRec cdv qual
noncomputable def fEnv (sc : Scope) (q : Str) (L fa : Addr) (cd : Value) (cl : List (Str × Addr)) : Env :=
  { scope := sc, locals := L, globals := mainGlobals, cells := cl, qual := q ++ ".<locals>.", func := some fa, code := cd, frame := some L, builtins := builtinsNs }
noncomputable abbrev retv (f : Flow) : Value := match f with | .ret v => v | _ => .none
section
variable {c : Cx} {H B : PM} {cs : List Cell} {s : Shared} {A : Around} {n : Nat} {fa : Addr} {name qual : Str} {st : Stmt} {dV : Value} {args : List Value} {binds : List (Str × Value)} {Q : Value → Shared → Prop}
theorem reverse_lookup_frame {h : Heap} {L : Addr} (hn : h.Ns L fun x => binds.reverse.lookup x) : ∃ o, h.get? L = some o ∧ frameP binds.reverse o := by
  obtain ⟨o, es, ep, ho, hd, hk, hf⟩ := hn
  exact ⟨o, ho, es, ep, hd, hk, fun x v e => (hf x).trans e⟩
theorem enter (R : Room A (n + 1)) (G : Glb c) (F : FnAt c fa name qual st dV) (S : Own c H B cs s) {names : List (Str × NameKind)} {more : List (Str × Const)} {b : Stmt} {bs : List Stmt}
    (hsc : stScope st = ⟨.function, names, false, false, more⟩) (hb : stBody st = b :: bs)
    (hbind : ∀ kV doc pm an cdv ct, BindsTo s (fnM name qual st [] dV kV doc pm an cdv ct) ⟨args, []⟩ binds)
    (hcell : ∀ x ∈ names, x.2 ≠ .cell) (hloc : (binds.all fun x => decide (names.lookup x.1 = some .local)) = true)
    (h : ∀ A' L cd s', Room A' n → Own c H B ((L, frameP binds.reverse) :: cs) s' →
      wpAny c.M A' (execs (b :: bs) (fEnv ⟨.function, names, false, false, more⟩ qual L fa cd [])) (fun f s'' => Q (retv f) s'') NE s') :
    wpAny c.M A (call (.ref fa) args) Q NE s := by
  obtain ⟨o, kV, doc, pm, an, cdv, ct, ho, hd, hcd⟩ := F
  have hloc : ∀ x ∈ binds, (stScope st).names.lookup x.1 = some .local := by rw [hsc]; exact fun x hx => of_decide_eq_true (List.all_eq_true.mp hloc x hx)
  have hcell : ∀ x ∈ (stScope st).names, x.2 ≠ .cell := by rw [hsc]; exact hcell
  have hco : (stScope st).isCoroutine = false := by rw [hsc]
  have hgen : (stScope st).isGenerator = false := by rw [hsc]
  have hk : (stScope st).kind = .function := by rw [hsc]
  rw [← hsc, ← hb] at h
  refine wpAny_call (codeAny_call_def (body := stBody st) (binds := binds) R.d (S.keepG _ _ ho) hd (G.nolimit.keeps S.keepG) (hcd.keeps S.keepG) rfl (hbind _ _ _ _ _ _) hcell hloc (fun h₀ hn hk₀ => ?_) hco hgen hk)
  refine wpAny_mono (h _ _ _ _ (R.deeper _) (S.add (t := s.toks + binds.length) hk₀ ?_ (reverse_lookup_frame hn))) (fun f s'' q => q) (fun _ _ q => q.elim)
  cases e : s.heap.get? s.heap.objs.size with
  | none => rfl
  | some o' => exact absurd (Heap.lt_size e) (Nat.lt_irrefl _)
noncomputable def cellsOf (cm : Str → Option Value) (cl : List (Str × Addr)) : List Cell := cl.map fun p => (p.2, varP (cm p.1))
theorem enterD0 (R : Room A (n + 1)) (G : Glb c) {cdv : Value} (F : FnC c fa name qual st dV cdv) (S : Own c H B cs s) {lb : List (Str × Value)}
    (hbind : ∀ kV doc pm an cdv ct, bindArgs (fnM name qual st [] dV kV doc pm an cdv ct) ⟨args, []⟩ = pure binds)
    (hkind : ∀ L, ∀ x ∈ binds, (stScope st).names.lookup x.1 = some .local ∨ ((stScope st).names.lookup x.1 = some .cell ∧ ((cellsFrom (L + 1) (stScope st).names []).lookup x.1).isSome = true))
    (hnd : ∀ L, ((cellsFrom (L + 1) (stScope st).names []).map (·.1)).Nodup)
    (hlb : ∀ p ∈ lb, bindL (fun x => (stScope st).names.lookup x) binds (fun _ => none) p.1 = some p.2)
    (hco : (stScope st).isCoroutine = false) (hgen : (stScope st).isGenerator = false) (hk : (stScope st).kind = .function)
    (h : ∀ A' L s', Room A' n → Own c H B ((L, frameP lb) :: (cellsOf (bindC (fun x => (stScope st).names.lookup x) binds fun _ => none) (cellsFrom (L + 1) (stScope st).names []) ++ cs)) s' →
      wpAny c.M A' (execs (stBody st) (fEnv (stScope st) qual L fa cdv (cellsFrom (L + 1) (stScope st).names []))) (fun f s'' => Q (retv f) s'') NE s') :
    wpAny c.M A (call (.ref fa) args) Q NE s := by
  obtain ⟨o, kV, doc, pm, an, ct, ho, hd, hcd⟩ := F
  refine wpAny_call (codeAny_call_cells (body := stBody st) (binds := binds) R.d (S.keepG _ _ ho) hd (G.nolimit.keeps S.keepG) (hcd.keeps S.keepG) rfl (hbind _ _ _ _ _ _) rfl (hkind _) (fun s₁ X => ?_) hco hgen hk)
  refine wpAny_mono (h _ s.heap.objs.size _ (R.deeper _) ?_) (fun f s'' q => q) (fun _ _ q => q.elim)
  obtain ⟨h', tk, e, keep⟩ := X.done
  subst e
  have hn := X.toInCall.ns
  have hnew : s.heap.get? s.heap.objs.size = none := by
    cases e : s.heap.get? s.heap.objs.size with
    | none => rfl
    | some o' => exact absurd (Heap.lt_size e) (Nat.lt_irrefl _)
  have fr : ∃ o, h'.get? s.heap.objs.size = some o ∧ frameP lb o := by
    obtain ⟨o, es, ep, ho, hd, hk, hf⟩ := hn
    exact ⟨o, ho, es, ep, hd, hk, fun x v e => (hf x).trans (hlb (x, v) (mem_of_lookup e))⟩
  have T : ∀ cl : List (Str × Addr), (∀ p ∈ cl, h'.IsCell p.2 (bindC (fun x => (stScope st).names.lookup x) binds (fun _ => none) p.1)) → (∀ p ∈ cl, s.heap.objs.size < p.2) → (cl.map (·.2)).Nodup →
      Own c H B ((s.heap.objs.size, frameP lb) :: (cellsOf (bindC (fun x => (stScope st).names.lookup x) binds fun _ => none) cl ++ cs)) { s with heap := h', toks := tk } := by
    intro cl h1 h2 h3
    have S' : Own c H B (cellsOf (bindC (fun x => (stScope st).names.lookup x) binds fun _ => none) cl ++ cs) { s with heap := h', toks := tk } := by
      induction cl with
      | nil => exact S.keeps keep
      | cons p cl ih =>
        have T := ih (fun q hq => h1 q (List.mem_cons_of_mem _ hq)) (fun q hq => h2 q (List.mem_cons_of_mem _ hq)) (List.nodup_cons.mp h3).2
        have hp : s.heap.get? p.2 = none := by
          cases e : s.heap.get? p.2 with
          | none => rfl
          | some o' => exact absurd (Heap.lt_size e) (Nat.not_lt.mpr (Nat.le_of_lt (h2 p (List.mem_cons_self ..))))
        refine ⟨T.sh, T.base, T.hH, T.hB, ?_, T.dHB, ?_, ?_⟩
        · intro q hq
          rcases List.mem_cons.mp hq with rfl | hq
          · exact h1 p (List.mem_cons_self ..)
          · exact T.hC q hq
        · intro q hq
          rcases List.mem_cons.mp hq with rfl | hq
          · constructor
            · cases e : H p.2 with
              | none => rfl
              | some o => have q : s.heap.get? p.2 = some o := S.hH _ _ e; rw [hp] at q; cases q
            · cases e : B p.2 with
              | none => rfl
              | some o => have q : s.heap.get? p.2 = some o := S.hB _ _ e; rw [hp] at q; cases q
          · exact T.dC q hq
        · show ((p.2 :: (cellsOf (bindC (fun x => (stScope st).names.lookup x) binds fun _ => none) cl ++ cs).map (·.1))).Nodup
          rw [List.nodup_cons]
          refine ⟨fun hm => ?_, T.nd⟩
          rw [List.map_append] at hm
          rcases List.mem_append.mp hm with hm | hm
          · have : (cellsOf (bindC (fun x => (stScope st).names.lookup x) binds fun _ => none) cl).map (·.1) = cl.map (·.2) := by simp [cellsOf]
            rw [this] at hm
            exact (List.nodup_cons.mp h3).1 hm
          · obtain ⟨q, hq, e⟩ := List.mem_map.mp hm
            obtain ⟨o, ho, _⟩ := S.hC q hq
            rw [e, hp] at ho; cases ho
    refine ⟨S'.sh, S'.base, S'.hH, S'.hB, ?_, S'.dHB, ?_, ?_⟩
    · intro q hq
      rcases List.mem_cons.mp hq with rfl | hq
      · exact fr
      · exact S'.hC q hq
    · intro q hq
      rcases List.mem_cons.mp hq with rfl | hq
      · exact ⟨S.newH, S.newB⟩
      · exact S'.dC q hq
    · show ((s.heap.objs.size :: (cellsOf (bindC (fun x => (stScope st).names.lookup x) binds fun _ => none) cl ++ cs).map (·.1))).Nodup
      rw [List.nodup_cons]
      refine ⟨fun hm => ?_, S'.nd⟩
      rw [List.map_append] at hm
      rcases List.mem_append.mp hm with hm | hm
      · have : (cellsOf (bindC (fun x => (stScope st).names.lookup x) binds fun _ => none) cl).map (·.1) = cl.map (·.2) := by simp [cellsOf]
        rw [this] at hm
        obtain ⟨q, hq, e⟩ := List.mem_map.mp hm
        exact absurd (h2 q hq) (e ▸ Nat.lt_irrefl _)
      · obtain ⟨q, hq, e⟩ := List.mem_map.mp hm
        obtain ⟨o, ho, _⟩ := S.hC q hq
        rw [e, hnew] at ho; cases ho
  refine T _ (fun p hp => X.cell p.1 p.2 (lookup_of_mem_nodup (hnd _) hp)) (fun p hp => X.above p.1 p.2 hp) ?_
  exact List.pairwise_map.mpr X.apart
theorem enterC0 (R : Room A (n + 1)) (G : Glb c) (F : FnAt c fa name qual st dV) (S : Own c H B cs s) {lb : List (Str × Value)}
    (hbind : ∀ kV doc pm an cdv ct, bindArgs (fnM name qual st [] dV kV doc pm an cdv ct) ⟨args, []⟩ = pure binds)
    (hkind : ∀ L, ∀ x ∈ binds, (stScope st).names.lookup x.1 = some .local ∨ ((stScope st).names.lookup x.1 = some .cell ∧ ((cellsFrom (L + 1) (stScope st).names []).lookup x.1).isSome = true))
    (hnd : ∀ L, ((cellsFrom (L + 1) (stScope st).names []).map (·.1)).Nodup)
    (hlb : ∀ p ∈ lb, bindL (fun x => (stScope st).names.lookup x) binds (fun _ => none) p.1 = some p.2)
    (hco : (stScope st).isCoroutine = false) (hgen : (stScope st).isGenerator = false) (hk : (stScope st).kind = .function)
    (h : ∀ A' L cd s', Room A' n → Own c H B ((L, frameP lb) :: (cellsOf (bindC (fun x => (stScope st).names.lookup x) binds fun _ => none) (cellsFrom (L + 1) (stScope st).names []) ++ cs)) s' →
      wpAny c.M A' (execs (stBody st) (fEnv (stScope st) qual L fa cd (cellsFrom (L + 1) (stScope st).names []))) (fun f s'' => Q (retv f) s'') NE s') :
    wpAny c.M A (call (.ref fa) args) Q NE s := by
  obtain ⟨o, kV, doc, pm, an, cdv, ct, ho, hd, hcd⟩ := F
  exact enterD0 (cdv := cdv) R G ⟨o, kV, doc, pm, an, ct, ho, hd, hcd⟩ S hbind hkind hnd hlb hco hgen hk fun A' L s' => h A' L cdv s'
theorem enterC (R : Room A (n + 1)) (G : Glb c) (F : FnAt c fa name qual st dV) (S : Own c H B cs s) {lb : List (Str × Value)} {names : List (Str × NameKind)} {more : List (Str × Const)} {b : Stmt} {bs : List Stmt}
    (hsc : stScope st = ⟨.function, names, false, false, more⟩) (hb : stBody st = b :: bs)
    (hbind : ∀ kV doc pm an cdv ct, bindArgs (fnM name qual st [] dV kV doc pm an cdv ct) ⟨args, []⟩ = pure binds)
    (hkind : (binds.all fun y => names.lookup y.1 == some .local || names.lookup y.1 == some .cell) = true)
    (hnd : ((cellsFrom 0 names []).map (·.1)).Nodup)
    (hlb : ∀ p ∈ lb, bindL (fun x => names.lookup x) binds (fun _ => none) p.1 = some p.2)
    (h : ∀ A' L cd s', Room A' n → Own c H B ((L, frameP lb) :: (cellsOf (bindC (fun x => names.lookup x) binds fun _ => none) (cellsFrom (L + 1) names []) ++ cs)) s' →
      wpAny c.M A' (execs (b :: bs) (fEnv ⟨.function, names, false, false, more⟩ qual L fa cd (cellsFrom (L + 1) names []))) (fun f s'' => Q (retv f) s'') NE s') :
    wpAny c.M A (call (.ref fa) args) Q NE s := by
  refine enterC0 (lb := lb) R G F S hbind ?_ ?_ ?_ (by rw [hsc]) (by rw [hsc]) (by rw [hsc]) ?_
  · intro L x hx
    rw [hsc]
    exact kindsX (scope := ⟨.function, names, false, false, more⟩) hkind _ x hx
  · intro L
    rw [hsc]
    exact cellsFrom_names names 0 (L + 1) [] [] rfl ▸ hnd
  · rw [hsc]; exact hlb
  · rw [hsc, hb]; exact h
end
section
variable {M : Model} {A : Around} {E : Value → Shared → Prop} {s : Shared} {env : Env}
theorem execs_append (rest : List Stmt) : ∀ xs : List Stmt, execs (xs ++ rest) env = (do match ← execs xs env with | .next => execs rest env | f => pure f)
  | [] => rfl
  | x :: xs => by
    have e : execs ((x :: xs) ++ rest) env = (do match ← exec x env with | .next => execs (xs ++ rest) env | f => pure f) := rfl
    have e' : execs (x :: xs) env = (do match ← exec x env with | .next => execs xs env | f => pure f) := rfl
    rw [e, e', execs_append rest xs, bind_assoc]
    congr 1
    funext f
    cases f <;> rfl
noncomputable def runs (ls : List (List Stmt)) (env : Env) : Sem Flow := execs ls.flatten env
theorem runs_of {xs : List Stmt} {Q : Flow → Shared → Prop} (h : wpAny M A (runs [xs] env) Q E s) : wpAny M A (execs xs env) Q E s := by
  have e : runs [xs] env = execs xs env := by unfold runs; rw [List.flatten_cons, List.flatten_nil, List.append_nil]
  rw [e] at h; exact h
theorem x_done {Q : Flow → Shared → Prop} (h : Q .next s) : wpAny M A (runs [] env) Q E s := wpAny_execs_nil h
theorem x_nil {ls : List (List Stmt)} {Q : Flow → Shared → Prop} (h : wpAny M A (runs ls env) Q E s) : wpAny M A (runs ([] :: ls) env) Q E s := h
theorem x_if {test : Expr} {body orelse rest : List Stmt} {ls : List (List Stmt)} {pos : Pos} {Q : Flow → Shared → Prop}
    (h : wpAny M A (isTrue test env (eval test env)) (fun b s₂ => if b = true then wpAny M A (runs (body :: rest :: ls) env) Q E s₂ else wpAny M A (runs (orelse :: rest :: ls) env) Q E s₂) E s) :
    wpAny M A (runs ((.If test body orelse pos :: rest) :: ls) env) Q E s := by
  have e : runs ((.If test body orelse pos :: rest) :: ls) env = (do standAt pos; let b ← isTrue test env (eval test env); if b = true then runs (body :: rest :: ls) env else runs (orelse :: rest :: ls) env) := by
    have q : runs ((.If test body orelse pos :: rest) :: ls) env = execs (.If test body orelse pos :: (rest ++ ls.flatten)) env := rfl
    have qb : ∀ b : List Stmt, runs (b :: rest :: ls) env = execs (b ++ (rest ++ ls.flatten)) env := fun _ => rfl
    rw [q, qb, qb]
    generalize rest ++ ls.flatten = tl
    rw [execs_cons, exec_If, execs_append, execs_append, bind_assoc]
    congr 1
    funext _
    rw [bind_assoc]
    congr 1
    funext b
    cases b <;> rfl
  rw [e]
  refine wpAny_bind (wpAny_standAt (wpAny_bind (wpAny_mono h (fun b s₂ q => ?_) fun _ _ q => q)))
  cases b <;> exact q
theorem x_next {st : Stmt} {rest : List Stmt} {ls : List (List Stmt)} {Q : Flow → Shared → Prop} (h : wpAny M A (exec st env) (fun f s' => f = .next ∧ wpAny M A (runs (rest :: ls) env) Q E s') E s) :
    wpAny M A (runs ((st :: rest) :: ls) env) Q E s :=
  wpAny_execs_cons (wpAny_mono h (fun f s' q => by obtain ⟨rfl, q⟩ := q; exact q) fun _ _ q => q)
theorem x_ret {e : Expr} {pos : Pos} {rest : List Stmt} {ls : List (List Stmt)} {Q : Flow → Shared → Prop} (h : wpAny M A (eval e env) (fun v s' => Q (.ret v) s') E s) :
    wpAny M A (runs ((.Return (some e) pos :: rest) :: ls) env) Q E s :=
  wpAny_execs_cons (wpAny_Return_some h)
theorem x_set {x : Str} {p pos : Pos} {value : Expr} {rest : List Stmt} {ls : List (List Stmt)} {Q : Flow → Shared → Prop}
    (h : wpAny M A (eval value env) (fun v s₁ => wpAny M A (storeName env x v) (fun _ s₂ => wpAny M A (runs (rest :: ls) env) Q E s₂) E s₁) E s)
    (hs : swapsWith value (some (.Name x p)) pos.line env = pure false := by rfl) :
    wpAny M A (runs ((.Assign [.Name x p] value pos :: rest) :: ls) env) Q E s :=
  wpAny_execs_cons (wpAny_Assign_Name h hs)
theorem x_setitem {o i : Expr} {p pos : Pos} {value : Expr} {rest : List Stmt} {ls : List (List Stmt)} {Q : Flow → Shared → Prop}
    (h : wpAny M A (eval value env) (fun v s₁ => wpAny M A (eval o env) (fun ov s₂ => wpAny M A (eval i env) (fun iv s₃ => wpAny M A (setItem ov iv v) (fun _ s₄ => wpAny M A (runs (rest :: ls) env) Q E s₄) E s₃) E s₂) E s₁) E s)
    (hs : swapsWith value (some (.Subscript o i p)) pos.line env = pure false := by rfl) :
    wpAny M A (runs ((.Assign [.Subscript o i p] value pos :: rest) :: ls) env) Q E s :=
  wpAny_execs_cons (wpAny_Assign_Subscript h hs)
theorem x_expr {e : Expr} {pos : Pos} {rest : List Stmt} {ls : List (List Stmt)} {c : Cx} {s : Shared} {Q : Flow → Shared → Prop} {E : Value → Shared → Prop}
    (h : wpAny c.M A (eval e env) (fun _ s' => wpAny c.M A (runs (rest :: ls) env) Q E s') E s)
    (hi : interactive env = false := by rfl) (hs : swapsWith e none pos.line env = pure false := by rfl) :
    wpAny c.M A (runs ((.Expr e pos :: rest) :: ls) env) Q E s :=
  wpAny_execs_cons (wpAny_Expr_any h hi hs)
theorem a_nil {pos : Pos} {Q : List Value → Shared → Prop} (h : Q [] s) : wpAny M A (spliced (backTo pos (starEach [] env))) Q E s := spliced_nil h
theorem a_cons {e : Expr} {rest : List Expr} {pos : Pos} {Q : List Value → Shared → Prop}
    (h : wpAny M A (eval e env) (fun v s₁ => wpAny M A (spliced (backTo pos (starEach rest env))) (fun vs s₂ => Q (v :: vs) s₂) E s₁) E s)
    (he : starEach (e :: rest) env = (false, eval e env) :: starEach rest env := by rfl) : wpAny M A (spliced (backTo pos (starEach (e :: rest) env))) Q E s := by
  rw [he]
  exact spliced_cons h
end
section
variable {c : Cx} {H B : PM} {cs cs' : List Cell} {s : Shared} {A : Around} {env : Env}
theorem call_n {x : Str} {p pos : Pos} {args : List Expr} {Q : Value → Shared → Prop}
    (h : wpAny c.M A (eval (.Name x p) env) (fun f s₁ => wpAny c.M A (callWith pos f [] (backTo pos (starEach args env)) []) Q NE s₁) NE s) :
    wpAny c.M A (eval (.Call (.Name x p) args [] pos) env) Q NE s := wpAny_Call_NameR h
noncomputable def Live (c : Cx) (s : Shared) : Prop := ∃ H B cs, Own c H B cs s
theorem Own.live {c : Cx} {H B : PM} {cs : List Cell} {s : Shared} (S : Own c H B cs s) : Live c s := ⟨H, B, cs, S⟩
theorem cw_fnG {fa : Addr} {name qual : Str} {st : Stmt} {dV : Value} {pos : Pos} {first : List Value} {e : Expr} {args : List Expr} {Q : Value → Shared → Prop} (F : FnAt c fa name qual st dV)
    (h : wpAny c.M A (spliced (backTo pos (starEach (e :: args) env))) (fun vs s₁ => Live c s₁ ∧ wpAny c.M A (call (.ref fa) (first ++ vs)) Q NE s₁) NE s)
    (he : starEach (e :: args) env = (false, eval e env) :: starEach args env := by rfl) :
    wpAny c.M A (callWith pos (.ref fa) first (backTo pos (starEach (e :: args) env)) []) Q NE s := by
  obtain ⟨o, kV, doc, pm, an, cdv, ct, ho, hd, hcd⟩ := F
  rw [he] at h ⊢
  refine callWith_function (o := o) (fd := fnM name qual st [] dV kV doc pm an cdv ct) (evalArgs_plain (wpAny_mono h (fun vs s₁ q => ?_) fun _ _ q => q))
  obtain ⟨⟨H', B', cs', T⟩, q⟩ := q
  exact ⟨⟨T.keepG _ _ ho, hd⟩, q⟩
theorem cw_tyG {T : String} {pos : Pos} {first : List Value} {e : Expr} {args : List Expr} {Q : Value → Shared → Prop}
    (h : wpAny c.M A (spliced (backTo pos (starEach (e :: args) env))) (fun vs s₁ => wpAny c.M A (call (.type T) (first ++ vs)) Q NE s₁) NE s)
    (he : starEach (e :: args) env = (false, eval e env) :: starEach args env := by rfl) (hp : (backTo pos (starEach (e :: args) env)).any (·.1) = false := by rfl) :
    wpAny c.M A (callWith pos (.type T) first (backTo pos (starEach (e :: args) env)) []) Q NE s := by
  rw [he] at h hp ⊢
  exact PyProof.Rows.callWith_type hp (evalArgs_plain h)
theorem cw_biG {id : String} {pos : Pos} {first : List Value} {e : Expr} {args : List Expr} {Q : Value → Shared → Prop}
    (h : wpAny c.M A (spliced (backTo pos (starEach (e :: args) env))) (fun vs s₁ => wpAny c.M A (call (.builtin id) (first ++ vs)) Q NE s₁) NE s)
    (he : starEach (e :: args) env = (false, eval e env) :: starEach args env := by rfl) (hp : (backTo pos (starEach (e :: args) env)).any (·.1) = false := by rfl) :
    wpAny c.M A (callWith pos (.builtin id) first (backTo pos (starEach (e :: args) env)) []) Q NE s := by
  rw [he] at h hp ⊢
  exact callWith_builtin hp (evalArgs_plain h)
theorem cw_fn {fa : Addr} {name qual : Str} {st : Stmt} {dV : Value} {pos : Pos} {e : Expr} {args : List Expr} {Q : Value → Shared → Prop} (F : FnAt c fa name qual st dV)
    (h : wpAny c.M A (spliced (backTo pos (starEach (e :: args) env))) (fun vs s₁ => Live c s₁ ∧ wpAny c.M A (call (.ref fa) vs) Q NE s₁) NE s)
    (he : starEach (e :: args) env = (false, eval e env) :: starEach args env := by rfl) : wpAny c.M A (callWith pos (.ref fa) [] (backTo pos (starEach (e :: args) env)) []) Q NE s := cw_fnG F h he
theorem cw_fn1 {fa : Addr} {name qual : Str} {st : Stmt} {dV : Value} {pos : Pos} {x : Value} {e : Expr} {args : List Expr} {Q : Value → Shared → Prop} (F : FnAt c fa name qual st dV)
    (h : wpAny c.M A (spliced (backTo pos (starEach (e :: args) env))) (fun vs s₁ => Live c s₁ ∧ wpAny c.M A (call (.ref fa) (x :: vs)) Q NE s₁) NE s)
    (he : starEach (e :: args) env = (false, eval e env) :: starEach args env := by rfl) : wpAny c.M A (callWith pos (.ref fa) [x] (backTo pos (starEach (e :: args) env)) []) Q NE s := cw_fnG F h he
theorem cw_ty {T : String} {pos : Pos} {e : Expr} {args : List Expr} {Q : Value → Shared → Prop}
    (h : wpAny c.M A (spliced (backTo pos (starEach (e :: args) env))) (fun vs s₁ => wpAny c.M A (call (.type T) vs) Q NE s₁) NE s)
    (he : starEach (e :: args) env = (false, eval e env) :: starEach args env := by rfl) (hp : (backTo pos (starEach (e :: args) env)).any (·.1) = false := by rfl) :
    wpAny c.M A (callWith pos (.type T) [] (backTo pos (starEach (e :: args) env)) []) Q NE s := cw_tyG h he hp
theorem cw_bi {id : String} {pos : Pos} {e : Expr} {args : List Expr} {Q : Value → Shared → Prop}
    (h : wpAny c.M A (spliced (backTo pos (starEach (e :: args) env))) (fun vs s₁ => wpAny c.M A (call (.builtin id) vs) Q NE s₁) NE s)
    (he : starEach (e :: args) env = (false, eval e env) :: starEach args env := by rfl) (hp : (backTo pos (starEach (e :: args) env)).any (·.1) = false := by rfl) :
    wpAny c.M A (callWith pos (.builtin id) [] (backTo pos (starEach (e :: args) env)) []) Q NE s := cw_biG h he hp
theorem cw_bi1 {id : String} {pos : Pos} {x : Value} {e : Expr} {args : List Expr} {Q : Value → Shared → Prop}
    (h : wpAny c.M A (spliced (backTo pos (starEach (e :: args) env))) (fun vs s₁ => wpAny c.M A (call (.builtin id) (x :: vs)) Q NE s₁) NE s)
    (he : starEach (e :: args) env = (false, eval e env) :: starEach args env := by rfl) (hp : (backTo pos (starEach (e :: args) env)).any (·.1) = false := by rfl) :
    wpAny c.M A (callWith pos (.builtin id) [x] (backTo pos (starEach (e :: args) env)) []) Q NE s := cw_biG h he hp
theorem cw_bi10 {id : String} {pos : Pos} {x : Value} {Q : Value → Shared → Prop} (h : wpAny c.M A (call (.builtin id) [x]) Q NE s) : wpAny c.M A (callWith pos (.builtin id) [x] (backTo pos (starEach [] env)) []) Q NE s := callWith_method0 h
theorem sub_ {value slice : Expr} {pos : Pos} {Q : Value → Shared → Prop}
    (h : wpAny c.M A (eval value env) (fun o s₁ => wpAny c.M A (eval slice env) (fun i s₂ => wpAny c.M A (subscriptTail value slice o i) Q NE s₂) NE s₁) NE s) :
    wpAny c.M A (eval (.Subscript value slice pos) env) Q NE s := Subscript_ h
theorem item_l {value slice : Expr} {l : Addr} {vs : List Value} {k : Int} {t : Tok} {v : Value} {Q : Value → Shared → Prop} (hl : s.heap.IsList l vs.toArray) (h0 : 0 ≤ k) (hhi : k < 2 ^ 63) (hx : vs[k.toNat]? = some v) (h : Q v s)
    (hs : subscripted slice false (.ref l) (.int k t) = operate [.ref l, .int k t] (getItem (.ref l) (.int k t)) := by with_unfolding_all rfl) :
    wpAny c.M A (subscriptTail value slice (.ref l) (.int k t)) Q NE s :=
  tail_any hl.typeIs slot_list_getitem.lookup (wpAny_getItem_list hl h0 hhi (by simpa using hx) h) hs
theorem set_lW {l : Addr} {vs : List Value} {k : Int} {t : Tok} {v : Value} {Q : Unit → Shared → Prop} (S : Own c H B cs s) (U : Upd l (listW vs) (listW (vs.set k.toNat v)) cs cs') (h0 : 0 ≤ k) (hhi : k < 2 ^ 63) (hn : k.toNat < vs.length)
    (h : ∀ s', Own c H B cs' s' → Q () s') : wpAny c.M A (setItem (.ref l) (.int k t) v) Q NE s := by
  refine wpAny_setItem_list (isList_cellW S U.mem) h0 hhi (by rw [List.size_toArray]; omega) fun h' hl hs => h _ (S.upd (t := s.toks) U hs.extBut ?_)
  obtain ⟨o, ho, h1, n, h2⟩ := hl
  exact ⟨o, ho, h1, n, by simpa using h2⟩
theorem set_l {l : Addr} {vs : List Value} {k : Int} {t : Tok} {v : Value} {Q : Unit → Shared → Prop} (S : Own c H B cs s) (U : Upd l (listP vs) (listW (vs.set k.toNat v)) cs cs') (h0 : 0 ≤ k) (hhi : k < 2 ^ 63) (hn : k.toNat < vs.length)
    (h : ∀ s', Own c H B cs' s' → Q () s') : wpAny c.M A (setItem (.ref l) (.int k t) v) Q NE s := by
  refine wpAny_setItem_list (isList_cell S U.mem) h0 hhi (by rw [List.size_toArray]; omega) fun h' hl hs => h _ (S.upd (t := s.toks) U hs.extBut ?_)
  obtain ⟨o, ho, h1, n, h2⟩ := hl
  exact ⟨o, ho, h1, n, by simpa using h2⟩
theorem b_len_l (S : Own c H B cs s) {l : Addr} {vs : List Value} {Q : Value → Shared → Prop} (hl : s.heap.IsList l vs.toArray) (hf : vs.length < 2 ^ 62) (h : ∀ t s', Own c H B cs s' → Q (.int vs.length t) s') :
    wpAny c.M A (call (.builtin "len") [.ref l]) Q NE s := by
  refine call_len_list hl (by simp only [List.size_toArray]; omega) ?_
  have := h (s.toks + 1) _ (S.tok (s.toks + 1 + 1))
  simpa using this
theorem b_int {i : Int} {t : Tok} {Q : Value → Shared → Prop} (h : Q (.int i t) s) : wpAny c.M A (call (.type "int") [.int i t]) Q NE s := call_int_int h
theorem b_intb (S : Own c H B cs s) {b : Bool} {Q : Value → Shared → Prop} (h : ∀ t s', Own c H B cs s' → Q (.int (if b then 1 else 0) t) s') : wpAny c.M A (call (.type "int") [.bool b]) Q NE s := call_int_bool (h _ _ (S.tok _))
theorem ite_w {b : Bool} {X Y : Prop} (h1 : b = true → X) (h2 : b = false → Y) : if b = true then X else Y := by
  cases b
  · exact (if_neg Bool.false_ne_true).mpr (h2 rfl)
  · exact (if_pos rfl).mpr (h1 rfl)
theorem ite_t {b : Bool} {X Y : Prop} (hb : b = true) (h1 : X) : if b = true then X else Y := by rw [if_pos hb]; exact h1
theorem ite_f {b : Bool} {X Y : Prop} (hb : b = false) (h1 : Y) : if b = true then X else Y := by rw [hb]; exact h1
theorem Own.openC {a : Addr} {P : Obj → Prop} (S : Own c H B cs s) (hm : (a, P) ∈ cs) :
    ∃ o cs₀, P o ∧ Own c H B ((a, fun o' => o' = o) :: cs₀) s ∧ ∀ H B s', Own c H B ((a, P) :: cs₀) s' → Own c H B cs s' := by
  obtain ⟨l, r, rfl⟩ := List.append_of_mem hm
  have p : (l ++ (a, P) :: r).Perm ((a, P) :: (l ++ r)) := List.perm_middle
  have T := S.perm p
  obtain ⟨o, ho, hP⟩ := T.cell (List.mem_cons_self ..)
  refine ⟨o, l ++ r, hP, ⟨T.sh, T.base, T.hH, T.hB, ?_, T.dHB, ?_, T.nd⟩, fun H B s' T' => T'.perm p.symm⟩
  · intro q hq
    rcases List.mem_cons.mp hq with rfl | hq
    · exact ⟨o, ho, rfl⟩
    · exact T.hC q (List.mem_cons_of_mem _ hq)
  · intro q hq
    rcases List.mem_cons.mp hq with rfl | hq
    · exact T.dC (a, P) (List.mem_cons_self ..)
    · exact T.dC q (List.mem_cons_of_mem _ hq)
end
theorem nat_of {g : Int} (h : 0 ≤ g) : ∃ j : Nat, g = j := ⟨g.toNat, by omega⟩
theorem blk_of {α : Type} {bs : List α} {j : Nat} (h : (j : Int) < bs.length) : ∃ b, bs[j]? = some b := ⟨bs[j]'(by omega), by simp⟩
theorem bb_len : bootBuiltins (Str.ofString "len") = some (.builtin "len") := by kernel_rfl
theorem bb_max : bootBuiltins (Str.ofString "max") = some (.builtin "max") := by kernel_rfl
theorem bb_sorted : bootBuiltins (Str.ofString "sorted") = some (.builtin "sorted") := by kernel_rfl
theorem bb_int : bootBuiltins (Str.ofString "int") = some (.type "int") := by kernel_rfl
theorem bb_range : bootBuiltins (Str.ofString "range") = some (.type "range") := by kernel_rfl
theorem bb_list : bootBuiltins (Str.ofString "list") = some (.type "list") := by kernel_rfl
theorem bb_dict : bootBuiltins (Str.ofString "dict") = some (.type "dict") := by kernel_rfl
theorem bb_tuple : bootBuiltins (Str.ofString "tuple") = some (.type "tuple") := by kernel_rfl
theorem bb_enum : bootBuiltins (Str.ofString "enumerate") = some (.type "enumerate") := by kernel_rfl
noncomputable def Gfn (c : Cx) (name : Str) (i : Nat) : Prop := ∃ fa, c.mg name = some (.ref fa) ∧ FnAt c fa name name (stAt i) .none
structure World (c : Cx) : Prop where
  glb : Glb c
  nlen : c.mg (Str.ofString "len") = none
  nmax : c.mg (Str.ofString "max") = none
  nsorted : c.mg (Str.ofString "sorted") = none
  nint : c.mg (Str.ofString "int") = none
  nrange : c.mg (Str.ofString "range") = none
  nlist : c.mg (Str.ofString "list") = none
  ndict : c.mg (Str.ofString "dict") = none
  ntuple : c.mg (Str.ofString "tuple") = none
  nenum : c.mg (Str.ofString "enumerate") = none
  points : Gfn c (Str.ofString "points") 3
  successors : Gfn c (Str.ofString "successors") 4
  predecessors : Gfn c (Str.ofString "predecessors") 5
  next_points : Gfn c (Str.ofString "next_points") 6
  retargeted : Gfn c (Str.ofString "retargeted") 7
  reachable : Gfn c (Str.ofString "reachable") 8
  with_blocks : Gfn c (Str.ofString "with_blocks") 9
  copied : Gfn c (Str.ofString "copied") 10
  pool : Gfn c (Str.ofString "_law_pool") 13
  take : Gfn c (Str.ofString "_law_take") 14
  one : Gfn c (Str.ofString "_law_one") 15
  end_ : Gfn c (Str.ofString "_law_end") 16
  once : Gfn c (Str.ofString "_law_once") 17
  closed : Gfn c (Str.ofString "_law_closed") 18
  shown : Gfn c (Str.ofString "_law_shown") 19
  led : Gfn c (Str.ofString "_law_led") 20
  pright : Gfn c (Str.ofString "_law_points_right") 21
  kright : Gfn c (Str.ofString "_law_kept_right") 22
mutual
inductive Rd (B : PM) : Value → PyData → Prop
  | none : Rd B .none .none
  | bool (b) : Rd B (.bool b) (.bool b)
  | int (i t) : Rd B (.int i t) (.int i)
  | str (x t) : Rd B (.str x t) (.str x)
  | list {a o vs xs} : B a = some o → listP vs o → RdAll B vs xs → Rd B (.ref a) (.list xs)
  | tuple {a o vs xs} : B a = some o → tupP vs o → RdAll B vs xs → Rd B (.ref a) (.tuple xs)
inductive RdAll (B : PM) : List Value → List PyData → Prop
  | nil : RdAll B [] []
  | cons {v vs d ds} : Rd B v d → RdAll B vs ds → RdAll B (v :: vs) (d :: ds)
end
mutual
theorem Rd.mono {B B' : PM} (h : Le B B') : ∀ {v : Value} {d : PyData}, Rd B v d → Rd B' v d
  | _, _, .none => .none
  | _, _, .bool b => .bool b
  | _, _, .int i t => .int i t
  | _, _, .str x t => .str x t
  | _, _, .list h1 h2 h3 => .list (h _ _ h1) h2 (RdAll.mono h h3)
  | _, _, .tuple h1 h2 h3 => .tuple (h _ _ h1) h2 (RdAll.mono h h3)
theorem RdAll.mono {B B' : PM} (h : Le B B') : ∀ {vs : List Value} {ds : List PyData}, RdAll B vs ds → RdAll B' vs ds
  | _, _, .nil => .nil
  | _, _, .cons h1 h2 => .cons (Rd.mono h h1) (RdAll.mono h h2)
end
mutual
theorem Rd.reads {B : PM} {s : Shared} (h : Le B (HP s.heap)) : ∀ {v : Value} {d : PyData}, Rd B v d → ∃ as, Reads s.heap v d as
  | _, _, .none => ⟨_, .none⟩
  | _, _, .bool b => ⟨_, .bool b⟩
  | _, _, .int i t => ⟨_, .int i t⟩
  | _, _, .str x t => ⟨_, .str x t⟩
  | _, _, .list h1 h2 h3 => by
    obtain ⟨as, r⟩ := RdAll.reads h h3
    obtain ⟨hc, n, hd⟩ := h2.w
    exact ⟨_, .list (h _ _ h1) hc hd (by simpa using r)⟩
  | _, _, .tuple h1 h2 h3 => by
    obtain ⟨as, r⟩ := RdAll.reads h h3
    obtain ⟨hc, n, hd⟩ := h2.w
    exact ⟨_, .tuple (h _ _ h1) hc hd (by simpa using r)⟩
theorem RdAll.reads {B : PM} {s : Shared} (h : Le B (HP s.heap)) : ∀ {vs : List Value} {ds : List PyData}, RdAll B vs ds → ∃ as, ReadsAll s.heap vs ds as
  | _, _, .nil => ⟨_, .nil⟩
  | _, _, .cons h1 h2 => by
    obtain ⟨a, r⟩ := Rd.reads h h1
    obtain ⟨as, rs⟩ := RdAll.reads h h2
    exact ⟨_, .cons r rs⟩
end
theorem RdAll.length {B : PM} : ∀ {vs : List Value} {ds : List PyData}, RdAll B vs ds → vs.length = ds.length
  | _, _, .nil => rfl
  | _, _, .cons _ h => by simp [RdAll.length h]
theorem RdAll.get {B : PM} : ∀ {vs : List Value} {ds : List PyData}, RdAll B vs ds → ∀ (i : Nat) (d : PyData), ds[i]? = some d → ∃ v, vs[i]? = some v ∧ Rd B v d
  | _, _, .nil, i, d, e => by simp at e
  | _, _, .cons h1 h2, 0, d, e => by simp at e; subst e; exact ⟨_, rfl, h1⟩
  | _, _, .cons h1 h2, i + 1, d, e => by
    obtain ⟨v, hv, r⟩ := RdAll.get h2 i d (by simpa using e)
    exact ⟨v, by simpa using hv, r⟩
theorem RdAll.append {B : PM} : ∀ {vs ws : List Value} {ds es : List PyData}, RdAll B vs ds → RdAll B ws es → RdAll B (vs ++ ws) (ds ++ es)
  | _, _, _, _, .nil, h => h
  | _, _, _, _, .cons h1 h2, h => .cons h1 (RdAll.append h2 h)
theorem RdAll.snoc {B : PM} {vs : List Value} {ds : List PyData} {v : Value} {d : PyData} (h : RdAll B vs ds) (r : Rd B v d) : RdAll B (vs ++ [v]) (ds ++ [d]) := h.append (.cons r .nil)
theorem RdAll.reverse {B : PM} : ∀ {vs : List Value} {ds : List PyData}, RdAll B vs ds → RdAll B vs.reverse ds.reverse
  | _, _, .nil => .nil
  | _, _, .cons h1 h2 => by rw [List.reverse_cons, List.reverse_cons]; exact (RdAll.reverse h2).snoc h1
theorem RdAll.take {B : PM} : ∀ {vs : List Value} {ds : List PyData} (n : Nat), RdAll B vs ds → RdAll B (vs.take n) (ds.take n)
  | _, _, _, .nil => by simp; exact .nil
  | _, _, 0, .cons h1 h2 => by simp; exact .nil
  | _, _, n + 1, .cons h1 h2 => by simp only [List.take_succ_cons]; exact .cons h1 (RdAll.take n h2)
theorem RdAll.drop {B : PM} : ∀ {vs : List Value} {ds : List PyData} (n : Nat), RdAll B vs ds → RdAll B (vs.drop n) (ds.drop n)
  | _, _, _, .nil => by simp; exact .nil
  | _, _, 0, h => h
  | _, _, n + 1, .cons h1 h2 => by simp only [List.drop_succ_cons]; exact RdAll.drop n h2
theorem RdAll.cons_inv {B : PM} {vs : List Value} {d : PyData} {ds : List PyData} (h : RdAll B vs (d :: ds)) : ∃ v r, vs = v :: r ∧ Rd B v d ∧ RdAll B r ds := by
  cases h with | cons h1 h2 => exact ⟨_, _, rfl, h1, h2⟩
theorem RdAll.nil_inv {B : PM} {vs : List Value} (h : RdAll B vs []) : vs = [] := by cases h; rfl
theorem Rd.list_inv {B : PM} {v : Value} {xs : List PyData} (h : Rd B v (.list xs)) : ∃ a o vs, v = .ref a ∧ B a = some o ∧ listP vs o ∧ RdAll B vs xs := by
  cases h with | list h1 h2 h3 => exact ⟨_, _, _, rfl, h1, h2, h3⟩
theorem Rd.tuple_inv {B : PM} {v : Value} {xs : List PyData} (h : Rd B v (.tuple xs)) : ∃ a o vs, v = .ref a ∧ B a = some o ∧ tupP vs o ∧ RdAll B vs xs := by
  cases h with | tuple h1 h2 h3 => exact ⟨_, _, _, rfl, h1, h2, h3⟩
theorem Rd.int_inv {B : PM} {v : Value} {i : Int} (h : Rd B v (.int i)) : ∃ t, v = .int i t := by cases h; exact ⟨_, rfl⟩
theorem Rd.str_inv {B : PM} {v : Value} {i : Str} (h : Rd B v (.str i)) : ∃ t, v = .str i t := by cases h; exact ⟨_, rfl⟩
theorem Rd.none_inv {B : PM} {v : Value} (h : Rd B v .none) : v = .none := by cases h; rfl
theorem Rd.bool_inv {B : PM} {v : Value} {b : Bool} (h : Rd B v (.bool b)) : v = .bool b := by cases h; rfl
section
variable {c : Cx} {H B : PM} {cs cs' : List Cell} {s : Shared} {A : Around} {env : Env}
theorem Own.frameOut' {rest : List Cell} (S : Own c H B (rest ++ cs) s) :
    ∃ H', Own c H' B cs s ∧ ∀ B' cs' s', Own c H' B' cs' s' → Own c H B' (rest ++ cs') s' := by
  obtain ⟨H', T, back⟩ := (S.perm List.perm_append_comm).frameOut
  exact ⟨H', T, fun B' cs' s' T' => (back _ _ _ T').perm List.perm_append_comm⟩
theorem neE {α : Type} {t : Sem α} {Q : α → Shared → Prop} {E : Value → Shared → Prop} (h : wpAny c.M A t Q NE s) : wpAny c.M A t Q E s := wpAny_mono h (fun _ _ q => q) fun _ _ q => q.elim
structure Walk (c : Cx) (A : Around) (B₀ : PM) (it : Addr) (n : Nat) (V : PM → Nat → Value → Prop) (St : Nat → List Cell) : Prop where
  next : ∀ (k : Nat) (H B : PM) (cs : List Cell) (s : Shared) (target : Expr) (Q : Value → Shared → Prop), k < n → Le B₀ B → Own c H B (St k ++ cs) s →
    (∀ v B' s', Le B B' → V B' k v → Own c H B' (St (k + 1) ++ cs) s' → Q v s') →
    wpAny c.M A (pyNext (.ref it)) (fun r s₁ => ∃ v, r = some v ∧ wpAny c.M A (letOwnedTupleGo target (.ref it) v) (fun _ s₂ => Q v s₂) NE s₁) NE s
  done : ∀ (H B : PM) (cs : List Cell) (s : Shared) (Q : Option Value → Shared → Prop), Le B₀ B → Own c H B (St n ++ cs) s → (∀ s', Own c H B cs s' → Q none s') → wpAny c.M A (pyNext (.ref it)) Q NE s
  self : ∀ (k : Nat) (H B : PM) (cs : List Cell) (s : Shared) (Q : Value → Shared → Prop), Own c H B (St k ++ cs) s → Q (.ref it) s → wpAny c.M A (pyIter (.ref it)) Q NE s
  mono : ∀ B B' k v, Le B B' → V B k v → V B' k v
noncomputable def liP (l : Addr) (i : Nat) (o : Obj) : Prop := o.cls = .type "list_iterator" ∧ o.data = .fields #[.ref l, .int i 0]
noncomputable def tiP (l : Addr) (i : Nat) (o : Obj) : Prop := o.cls = .type "tuple_iterator" ∧ o.data = .fields #[.ref l, .int i 0]
noncomputable def riP (i left : Int) (o : Obj) : Prop := o = { cls := .type "range_iterator", data := .fields #[rawInt i, rawInt left, rawInt 1] }
theorem go_plain {it : Addr} {o : Obj} {T : String} {v : Value} {target : Expr} {Q : Unit → Shared → Prop} (ho : s.heap.get? it = some o) (hc : o.cls = .type T)
    (hT : ["enumerate", "zip", "dict_itemiterator", "dict_reverseitemiterator", "odict_iterator", "itertools.zip_longest", "itertools.pairwise"].contains T = false) (hQ : Q () s) :
    wpAny c.M A (letOwnedTupleGo target (.ref it) v) Q NE s := by
  cases target
  case Tuple elts x1 pos =>
    cases v
    case ref a =>
      unfold letOwnedTupleGo
      refine wpAny_bind (wpAny_load ho ?_)
      rw [hc]
      cases o.data
      case fields vs =>
        dsimp only
        rw [hT, Bool.false_and]
        exact wpAny_pure hQ
      all_goals exact wpAny_pure hQ
    all_goals exact wpAny_pure hQ
  case List elts pos =>
    cases v
    case ref a =>
      unfold letOwnedTupleGo
      refine wpAny_bind (wpAny_load ho ?_)
      rw [hc]
      cases o.data
      case fields vs =>
        dsimp only
        rw [hT, Bool.false_and]
        exact wpAny_pure hQ
      all_goals exact wpAny_pure hQ
    all_goals exact wpAny_pure hQ
  all_goals exact wpAny_pure hQ
theorem walk_list (hh : A.handled = none) {it l : Addr} {o : Obj} {vs : List Value} (hb : B l = some o) (hl : listP vs o) :
    Walk c A B it vs.length (fun _ k v => vs[k]? = some v) (fun k => [(it, liP l k)]) where
  next := fun k H B' cs s target Q hk hle S h => by
    obtain ⟨v, hv⟩ : ∃ v, vs[k]? = some v := ⟨vs[k], by simp [hk]⟩
    refine wpAny_pyNext_list_item (S.cell (List.mem_cons_self ..)) (isList_B S (hle _ _ hb) hl) (x := v) (by simpa using hv) fun h' hit hs => ⟨v, rfl, ?_⟩
    have T := S.upd (t := s.toks) (P' := liP l (k + 1)) .head hs.extBut hit
    obtain ⟨o', ho', hc, _⟩ := hit
    exact go_plain (c := c) ho' hc rfl (h v B' _ (Le.refl _) hv T)
  done := fun H B' cs s Q hle S h => by
    refine wpAny_pyNext_list_end hh (S.cell (List.mem_cons_self ..)) (isList_B S (hle _ _ hb) hl) (by simp) fun h' hs => ?_
    have S₀ := S.drop
    refine h _ ⟨by have := S.sh; rw [this], S.base, fun a o e => ?_, fun a o e => ?_, fun p hp => ?_, S.dHB, S₀.dC, S₀.nd⟩
    · exact hs a o (fun q => by subst q; have := (S.dC _ (List.mem_cons_self ..)).1; rw [e] at this; cases this) (S.hH a o e)
    · exact hs a o (fun q => by subst q; have := (S.dC _ (List.mem_cons_self ..)).2; rw [e] at this; cases this) (S.hB a o e)
    · obtain ⟨o, ho, hP⟩ := S₀.hC p hp
      exact ⟨o, hs _ _ (fun q => (List.nodup_cons.mp S.nd).1 (List.mem_map.mpr ⟨p, hp, q⟩)) ho, hP⟩
  self := fun k H B cs s Q S h => wpAny_pyIter_listiter (S.cell (List.mem_cons_self ..)) h
  mono := fun _ _ _ _ _ h => h
theorem Own.gone {a : Addr} {P : Obj → Prop} {h' : Heap} {t : Nat} (S : Own c H B ((a, P) :: cs) s) (hs : Heap.ExtBut a s.heap h') : Own c H B cs { s with heap := h', toks := t } := by
  have S₀ := S.drop
  refine ⟨by have := S.sh; rw [this], S.base, fun b o e => ?_, fun b o e => ?_, fun p hp => ?_, S.dHB, S₀.dC, S₀.nd⟩
  · exact hs b o (fun q => by subst q; have := (S.dC _ (List.mem_cons_self ..)).1; rw [e] at this; cases this) (S.hH b o e)
  · exact hs b o (fun q => by subst q; have := (S.dC _ (List.mem_cons_self ..)).2; rw [e] at this; cases this) (S.hB b o e)
  · obtain ⟨o, ho, hP⟩ := S₀.hC p hp
    exact ⟨o, hs _ _ (fun q => (List.nodup_cons.mp S.nd).1 (List.mem_map.mpr ⟨p, hp, q⟩)) ho, hP⟩
theorem walk_tuple (hh : A.handled = none) {it l : Addr} {o : Obj} {vs : List Value} (hb : B l = some o) (hl : tupP vs o) :
    Walk c A B it vs.length (fun _ k v => vs[k]? = some v) (fun k => [(it, tiP l k)]) where
  next := fun k H B' cs s target Q hk hle S h => by
    obtain ⟨v, hv⟩ : ∃ v, vs[k]? = some v := ⟨vs[k], by simp [hk]⟩
    refine next_tuple_item (S.cell (List.mem_cons_self ..)) (isTup_B S (hle _ _ hb) hl) (x := v) (by simpa using hv) fun h' hit hs => ⟨v, rfl, ?_⟩
    have T := S.upd (t := s.toks) (P' := tiP l (k + 1)) .head hs.extBut hit
    obtain ⟨o', ho', hc, _⟩ := hit
    exact go_plain (c := c) ho' hc rfl (h v B' _ (Le.refl _) hv T)
  done := fun H B' cs s Q hle S h => by
    exact next_tuple_end hh (S.cell (List.mem_cons_self ..)) (isTup_B S (hle _ _ hb) hl) (by simp) fun h' hs => h _ (S.gone (t := s.toks) hs)
  self := fun k H B cs s Q S h => by
    refine wpAny_pyIter_tupleiter (it := it) (t := l) (i := k) (S.cell (List.mem_cons_self ..)) h
  mono := fun _ _ _ _ _ h => h
theorem walk_range (hh : A.handled = none) {it : Addr} {n : Nat} (B : PM) :
    Walk c A B it n (fun _ k v => ∃ t, v = .int k t) (fun k => [(it, riP k (n - k : Int))]) where
  next := fun k H B' cs s target Q hk hle S h => by
    obtain ⟨o, ho, rfl⟩ := S.cell (List.mem_cons_self ..)
    refine wpAny_pyNext_range_item ho (by omega) fun h' hit hs => ⟨_, rfl, ?_⟩
    have hit' : h'.get? it = _ := hit
    have e : ((n : Int) - (k : Int) - 1) = (n : Int) - ((k + 1 : Nat) : Int) := by omega
    rw [e] at hit'
    have T := S.upd (t := s.toks + 1) (P' := riP ((k + 1 : Nat) : Int) ((n : Int) - ((k + 1 : Nat) : Int))) .head hs.extBut ⟨_, hit', rfl⟩
    exact go_plain (c := c) hit' rfl rfl (h _ B' _ (Le.refl _) ⟨_, rfl⟩ T)
  done := fun H B' cs s Q hle S h => by
    obtain ⟨o, ho, rfl⟩ := S.cell (List.mem_cons_self ..)
    exact wpAny_pyNext_range_end hh ho (by omega) fun h' hs => h _ (S.gone (t := s.toks) hs)
  self := fun k H B cs s Q S h => by
    obtain ⟨o, ho, rfl⟩ := S.cell (List.mem_cons_self ..)
    exact wpAny_pyIter_rangeiter ho h
  mono := fun _ _ _ _ _ h => h
end
noncomputable def VD (ds : List PyData) (B : PM) (k : Nat) (v : Value) : Prop := ∃ d, ds[k]? = some d ∧ Rd B v d
noncomputable def nats (n : Nat) : List PyData := (List.range n).map fun (k : Nat) => PyData.int (k : Int)
theorem nats_len (n : Nat) : (nats n).length = n := by simp [nats]
theorem nats_get {n k : Nat} (h : k < n) : (nats n)[k]? = some (PyData.int (k : Int)) := by simp [nats, h]
noncomputable def rangeP (n : Nat) (o : Obj) : Prop := ∃ t u v, o = { cls := .type "range", data := .fields #[.int 0 t, .int n u, .int 1 v] }
noncomputable def RangeAt (B : PM) (x : Value) (n : Nat) : Prop := ∃ a o, x = .ref a ∧ B a = some o ∧ rangeP n o
section
variable {c : Cx} {H B : PM} {cs cs' : List Cell} {s : Shared} {A : Around} {env : Env}
theorem plain_cell {a : Addr} {vs : List Value} (S : Own c H B cs s) (hm : (a, listP vs) ∈ cs) : s.heap.PlainList a vs.toArray := by
  obtain ⟨o, ho, n, rfl⟩ := S.cell hm; exact ⟨n, ho⟩
theorem it_list {x : Value} {ds : List PyData} {Q : Value → Shared → Prop} (S : Own c H B cs s) (hh : A.handled = none) (r : Rd B x (.list ds))
    (h : ∀ it (I : Nat → Obj → Prop) s', Walk c A B it ds.length (VD ds) (fun k => [(it, I k)]) → Own c H B ([(it, I 0)] ++ cs) s' → Q (.ref it) s') : wpAny c.M A (pyIter x) Q NE s := by
  obtain ⟨l, o, vs, rfl, hb, hl, hr⟩ := r.list_inv
  refine wpAny_pyIter_list (isList_B S hb hl) (h _ (liP l) _ ?_ (S.push (t := s.toks) ⟨rfl, rfl⟩ rfl))
  have W := walk_list (c := c) (it := s.heap.objs.size) hh hb hl
  rw [hr.length] at W
  refine ⟨fun k H B' cs s target Q hk hle T h => W.next k H B' cs s target Q hk hle T fun v B'' s' hle' hv T' => h v B'' s' hle' ?_ T', W.done, W.self, fun B B' k v hle hv => ?_⟩
  · obtain ⟨d, hd⟩ : ∃ d, ds[k]? = some d := ⟨ds[k], by simp [hk]⟩
    obtain ⟨v', hv', rv⟩ := hr.get k d hd
    rw [hv] at hv'; cases hv'
    exact ⟨d, hd, (rv.mono hle).mono hle'⟩
  · obtain ⟨d, hd, rv⟩ := hv; exact ⟨d, hd, rv.mono hle⟩
theorem it_tuple {x : Value} {ds : List PyData} {Q : Value → Shared → Prop} (S : Own c H B cs s) (hh : A.handled = none) (r : Rd B x (.tuple ds))
    (h : ∀ it (I : Nat → Obj → Prop) s', Walk c A B it ds.length (VD ds) (fun k => [(it, I k)]) → Own c H B ([(it, I 0)] ++ cs) s' → Q (.ref it) s') : wpAny c.M A (pyIter x) Q NE s := by
  obtain ⟨l, o, vs, rfl, hb, hl, hr⟩ := r.tuple_inv
  refine iter_tuple (isTup_B S hb hl) (h _ (tiP l) _ ?_ (S.push (t := s.toks) ⟨rfl, rfl⟩ rfl))
  have W := walk_tuple (c := c) (it := s.heap.objs.size) hh hb hl
  rw [hr.length] at W
  refine ⟨fun k H B' cs s target Q hk hle T h => W.next k H B' cs s target Q hk hle T fun v B'' s' hle' hv T' => h v B'' s' hle' ?_ T', W.done, W.self, fun B B' k v hle hv => ?_⟩
  · obtain ⟨d, hd⟩ : ∃ d, ds[k]? = some d := ⟨ds[k], by simp [hk]⟩
    obtain ⟨v', hv', rv⟩ := hr.get k d hd
    rw [hv] at hv'; cases hv'
    exact ⟨d, hd, (rv.mono hle).mono hle'⟩
  · obtain ⟨d, hd, rv⟩ := hv; exact ⟨d, hd, rv.mono hle⟩
theorem it_range {x : Value} {n : Nat} {Q : Value → Shared → Prop} (S : Own c H B cs s) (hh : A.handled = none) (r : RangeAt B x n) (hn : n < 2 ^ 60)
    (h : ∀ it (I : Nat → Obj → Prop) s', Walk c A B it (nats n).length (VD (nats n)) (fun k => [(it, I k)]) → Own c H B ([(it, I 0)] ++ cs) s' → Q (.ref it) s') : wpAny c.M A (pyIter x) Q NE s := by
  obtain ⟨a, o, rfl, hb, t, u, v, rfl⟩ := r
  have hz : Builtin.Range.rangeSize 0 n 1 = n := by
    unfold Builtin.Range.rangeSize
    rw [if_pos (by decide)]
    split
    · rw [Int.ediv_one]; omega
    · omega
  refine wpAny_pyIter_range (a := 0) (b := n) (c := 1) (t := t) (u := u) (v := v) (S.hB _ _ hb) ?_ (h _ (fun k => riP k (n - k : Int)) _ ?_ (S.push (t := s.toks) ?_ rfl))
  · exact small_one (by omega) (by omega) (by omega) (by omega)
  · have W := walk_range (c := c) (it := s.heap.objs.size) (n := n) hh B
    rw [nats_len]
    refine ⟨fun k H B' cs s target Q hk hle T h => W.next k H B' cs s target Q hk hle T fun v B'' s' hle' hv T' => h v B'' s' hle' ?_ T', W.done, W.self, fun B B' k v hle hv => ?_⟩
    · obtain ⟨t, rfl⟩ := hv; exact ⟨_, nats_get hk, .int _ _⟩
    · obtain ⟨d, hd, rv⟩ := hv; exact ⟨d, hd, rv.mono hle⟩
  · show riP ((0 : Nat) : Int) ((n : Int) - ((0 : Nat) : Int)) _
    rw [hz]; simp [riP]
noncomputable def Loop (c : Cx) (A : Around) (target : Expr) (it : Value) (body : List Stmt) (env : Env) (K : Shared → Prop) (s : Shared) : Prop :=
  codeAny c.M A (.forLoop target it body [] env) (fun r s' => match r with | .ok f => f = .next ∧ K s' | .error _ => False) s
theorem x_for {target iter : Expr} {body rest : List Stmt} {ls : List (List Stmt)} {pos : Pos} {Q : Flow → Shared → Prop}
    (h : wpAny c.M A (eval iter env) (fun x s₁ => wpAny c.M A (pyIter x) (fun it s₂ => Loop c A target it body env (fun s₃ => wpAny c.M A (runs (rest :: ls) env) Q NE s₃) s₂) NE s₁) NE s)
    (hs : ∀ x, foldedSetIterable iter env x = pure x := by intro _; rfl) :
    wpAny c.M A (runs ((.For target iter body [] pos :: rest) :: ls) env) Q NE s := by
  refine x_next (wpAny_For (wpAny_mono h (fun x s₁ h₁ => wpAny_mono h₁ (fun it s₂ h₂ => codeAny_mono h₂ fun r s' hr => ?_) fun _ _ q => q) fun _ _ q => q) hs)
  cases r with
  | ok f => exact hr
  | error e => exact hr.elim
structure WalkT (c : Cx) (A : Around) (B₀ : PM) (it : Addr) (n : Nat) (V : PM → Nat → Value → Prop) (St : Nat → List Cell) (target : Expr) : Prop where
  next : ∀ (k : Nat) (H B : PM) (cs : List Cell) (s : Shared) (Q : Value → Shared → Prop), k < n → Le B₀ B → Own c H B (St k ++ cs) s →
    (∀ v B' s', Le B B' → V B' k v → Own c H B' (St (k + 1) ++ cs) s' → Q v s') →
    wpAny c.M A (pyNext (.ref it)) (fun r s₁ => ∃ v, r = some v ∧ wpAny c.M A (letOwnedTupleGo target (.ref it) v) (fun _ s₂ => Q v s₂) NE s₁) NE s
  done : ∀ (H B : PM) (cs : List Cell) (s : Shared) (Q : Option Value → Shared → Prop), Le B₀ B → Own c H B (St n ++ cs) s → (∀ s', Own c H B cs s' → Q none s') → wpAny c.M A (pyNext (.ref it)) Q NE s
  self : ∀ (k : Nat) (H B : PM) (cs : List Cell) (s : Shared) (Q : Value → Shared → Prop), Own c H B (St k ++ cs) s → Q (.ref it) s → wpAny c.M A (pyIter (.ref it)) Q NE s
  mono : ∀ B B' k v, Le B B' → V B k v → V B' k v
theorem Walk.toT {c : Cx} {A : Around} {B₀ : PM} {it : Addr} {n : Nat} {V : PM → Nat → Value → Prop} {St : Nat → List Cell} (W : Walk c A B₀ it n V St) (target : Expr) : WalkT c A B₀ it n V St target :=
  ⟨fun k H B cs s Q => W.next k H B cs s target Q, W.done, W.self, W.mono⟩
theorem loop_T {target : Expr} {body : List Stmt} {it : Addr} {n : Nat} {V : PM → Nat → Value → Prop} {St : Nat → List Cell} {K : Shared → Prop} {B₀ : PM}
    (W : WalkT c A B₀ it n V St target) (S : Own c H B (St 0 ++ cs) s) (hle : Le B₀ B) (J : Nat → PM → List Cell → Prop) (h0 : J 0 B cs)
    (turn : ∀ k v H' B' cs' s', k < n → Le B B' → V B' k v → J k B' cs' → Own c H' B' cs' s' →
      wpAny c.M A (assign target env v) (fun _ s₁ => wpAny c.M A (runs [body] env) (fun f s₂ => f = .next ∧ ∃ B'' cs'', Le B' B'' ∧ J (k + 1) B'' cs'' ∧ Own c H' B'' cs'' s₂) NE s₁) NE s')
    (hJ : ∀ k B' B'' cs, Le B' B'' → J k B' cs → J k B'' cs)
    (after : ∀ B' cs' s', Le B B' → J n B' cs' → Own c H B' cs' s' → K s') : Loop c A target (.ref it) body env K s := by
  refine codeAny_forLoop_any (fun m s' => ∃ k B' cs', k ≤ n ∧ m = n - k ∧ Le B B' ∧ J k B' cs' ∧ Own c H B' (St k ++ cs') s') ?_ n ⟨0, B, cs, Nat.zero_le _, rfl, Le.refl _, h0, S⟩
  rintro m s' ⟨k, B', cs', hk, rfl, hB, hj, T⟩
  rcases Nat.lt_or_ge k n with hlt | hge
  · refine neE (wpAny_mono (W.next k H B' cs' s' (fun v s₂ => wpAny c.M A (assign target env v) (fun _ s₁ => wpAny c.M A (runs [body] env) (fun f s₃ => f = .next ∧ ∃ m, m < n - k ∧
        ∃ k B' cs', k ≤ n ∧ m = n - k ∧ Le B B' ∧ J k B' cs' ∧ Own c H B' (St k ++ cs') s₃) NE s₁) NE s₂) hlt (hle.trans hB) T ?_) ?_ (fun _ _ q => q.elim))
    · intro v B'' s'' hle'' hv T'
      obtain ⟨H', T₂, back⟩ := T'.frameOut'
      refine wpAny_mono (turn k v H' B'' cs' s'' hlt (hB.trans hle'') hv (hJ _ _ _ _ hle'' hj) T₂) (fun _ s₁ h₁ => wpAny_mono h₁ (fun f s₂ h₂ => ?_) fun _ _ q => q) fun _ _ q => q
      obtain ⟨rfl, B₃, cs₃, hle₃, hj₃, T₃⟩ := h₂
      exact ⟨rfl, n - (k + 1), by omega, k + 1, B₃, cs₃, hlt, rfl, (hB.trans hle'').trans hle₃, hj₃, back _ _ _ T₃⟩
    · rintro r s₁ ⟨v, rfl, h₁⟩
      refine neE (wpAny_mono h₁ (fun _ s₂ h₂ => neE (wpAny_mono h₂ (fun _ s₃ h₃ => ?_) fun _ _ q => q)) fun _ _ q => q)
      have e : runs [body] env = execs body env := by unfold runs; rw [List.flatten_cons, List.flatten_nil, List.append_nil]
      rw [e] at h₃
      refine neE (wpAny_mono h₃ (fun f s₄ h₄ => ?_) fun _ _ q => q)
      obtain ⟨rfl, h₄⟩ := h₄
      exact h₄
  · have ek : k = n := Nat.le_antisymm hk hge
    subst ek
    exact neE (W.done H B' cs' s' _ (hle.trans hB) T fun s'' T' => wpAny_execs_nil ⟨rfl, after B' cs' s'' hB hj T'⟩)
theorem loop_ {target : Expr} {body : List Stmt} {it : Addr} {n : Nat} {V : PM → Nat → Value → Prop} {St : Nat → List Cell} {K : Shared → Prop} {B₀ : PM}
    (W : Walk c A B₀ it n V St) (S : Own c H B (St 0 ++ cs) s) (hle : Le B₀ B) (J : Nat → PM → List Cell → Prop) (h0 : J 0 B cs)
    (turn : ∀ k v H' B' cs' s', k < n → Le B B' → V B' k v → J k B' cs' → Own c H' B' cs' s' →
      wpAny c.M A (assign target env v) (fun _ s₁ => wpAny c.M A (runs [body] env) (fun f s₂ => f = .next ∧ ∃ B'' cs'', Le B' B'' ∧ J (k + 1) B'' cs'' ∧ Own c H' B'' cs'' s₂) NE s₁) NE s')
    (hJ : ∀ k B' B'' cs, Le B' B'' → J k B' cs → J k B'' cs)
    (after : ∀ B' cs' s', Le B B' → J n B' cs' → Own c H B' cs' s' → K s') : Loop c A target (.ref it) body env K s :=
  loop_T (W.toT _) S hle J h0 turn hJ after
noncomputable def Tests (ifs : List Expr) (env : Env) : Sem Bool := forIn ifs true fun c r => if r = true then do let ok ← isTrue c env (eval c env); pure (ForInStep.yield ok) else pure (ForInStep.yield r)
theorem tests_nil {Q : Bool → Shared → Prop} (h : Q true s) : wpAny c.M A (Tests [] env) Q NE s := wpAny_tests_nil h
theorem tests_one {e : Expr} {Q : Bool → Shared → Prop} (h : wpAny c.M A (isTrue e env (eval e env)) Q NE s) : wpAny c.M A (Tests [e] env) Q NE s := wpAny_tests_one h
theorem comp_loop_any {elt target iter : Expr} {ifs : List Expr} {scope : Scope} {pos : Pos} {it acc : Value} {R : Result → Shared → Prop} (I : Nat → Shared → Prop)
    (turn : ∀ n s, I n s → wpAny c.M A (pyNext it) (fun r s₁ => match r with
      | none => R (.ok .next) s₁
      | some v => wpAny c.M A (letOwnedTupleGo target it v) (fun _ s₁' => wpAny c.M A (assign target env v) (fun _ s₂ =>
          wpAny c.M A (Tests ifs env) (fun ok s₃ =>
            if ok = true then wpAny c.M A (eval elt env) (fun x s₄ => wpAny c.M A (call (.builtin "list.append") [acc, x]) (fun _ s₅ => ∃ m, m < n ∧ I m s₅) NE s₄) NE s₃
            else ∃ m, m < n ∧ I m s₃) NE s₂) NE s₁') NE s₁) NE s)
    (n : Nat) (h : I n s) : codeAny c.M A (.compLoop (.ListComp elt [⟨target, iter, ifs, 0⟩] scope pos) 0 it acc env) R s := by
  refine codeAny_loop rfl I (fun n s hI => ?_) n h
  show wpAny _ A ((compTurn (.ListComp elt [⟨target, iter, ifs, 0⟩] scope pos) 0 it acc env).onRaise (fun x => do noteFrame x env; theTreesLotGoes x)) _ _ s
  refine wpAny_noted ?_
  rw [compTurn_list]
  refine wpAny_bind (wpAny_standAt (wpAny_bind (neE (wpAny_mono (turn n s hI) (fun r s₁ h₁ => ?_) fun _ _ h' => h'))))
  cases r with
  | none => exact wpAny_pure h₁
  | some v =>
    refine wpAny_bind (neE (wpAny_mono h₁ (fun _ s₁' h₁' => ?_) fun _ _ h' => h'))
    refine wpAny_bind (neE (wpAny_mono h₁' (fun _ s₂ h₂ => wpAny_bind (neE (wpAny_mono h₂ (fun ok s₃ h₃ => ?_) fun _ _ h' => h'))) fun _ _ h' => h'))
    cases ok with
    | false => exact wpAny_pure ⟨rfl, h₃⟩
    | true =>
      exact wpAny_bind (wpAny_bind (neE (wpAny_mono h₃ (fun x s₄ h₄ => wpAny_bind (neE (wpAny_mono h₄ (fun _ s₅ h₅ => wpAny_pure (wpAny_pure ⟨rfl, h₅⟩)) fun _ _ h' => h'))) fun _ _ h' => h')))
noncomputable def Comp (c : Cx) (A : Around) (elt target : Expr) (ifs : List Expr) (scope : Scope) (cl : List (Str × Addr)) (it : Value) (env : Env) (K : Value → Shared → Prop) (s : Shared) : Prop :=
  ∀ (iter : Expr) (pos : Pos), wpAny c.M A (newList []) (fun acc s₃ =>
      wpAny c.M A (newFunctionEnv scope env.globals cl [] env.qual none .none (some env)) (fun cenv s₄ =>
        codeAny c.M A (.compStart (.ListComp elt [⟨target, iter, ifs, 0⟩] scope pos) 0 it acc { cenv with scope := relabel scope env }) (compPost c.M A NE none K acc cenv.locals) s₄) NE s₃) NE s
theorem e_comp {elt target iter : Expr} {ifs : List Expr} {names : List (Str × NameKind)} {ig ic : Bool} {more : List (Str × Const)} {pos : Pos} {cl : List (Str × Addr)} {Q : Value → Shared → Prop}
    (h : wpAny c.M A (eval iter env) (fun x s₁ => wpAny c.M A (pyIter x) (fun it s₂ => Comp c A elt target ifs ⟨.function, names, ig, ic, more⟩ cl it env Q s₂) NE s₁) NE s)
    (hnames : (names.all fun x => !(x.2 == .local) || names.lookup x.1 == some .local) = true := by rfl)
    (hclos : closureFor ⟨.function, names, ig, ic, more⟩ env = pure cl := by rfl) (hs : ∀ x, foldedSetIterable iter env x = pure x := by intro _; rfl) :
    wpAny c.M A (eval (.ListComp elt [⟨target, iter, ifs, 0⟩] ⟨.function, names, ig, ic, more⟩ pos) env) Q NE s := by
  rw [eval_ListComp]
  refine wpAny_comprehension_free (use := none) rfl hs hclos rfl (fun x hx hl => ?_) (wpAny_mono h (fun x s₁ h₁ => wpAny_mono h₁ (fun it s₂ h₂ => h₂ iter pos) fun _ _ q => q) fun _ _ q => q)
  have := List.all_eq_true.mp hnames x hx
  rw [hl] at this
  simpa using this
noncomputable def CompG (c : Cx) (A : Around) (elt target : Expr) (ifs : List Expr) (scope : Scope) (cl : List (Str × Addr)) (it : Value) (env : Env) (use : Option (Value → Sem Unit)) (K : Value → Shared → Prop) (s : Shared) : Prop :=
  ∀ (iter : Expr) (pos : Pos), wpAny c.M A (newList []) (fun acc s₃ =>
      wpAny c.M A (newFunctionEnv scope env.globals cl [] env.qual none .none (some env)) (fun cenv s₄ =>
        codeAny c.M A (.compStart (.ListComp elt [⟨target, iter, ifs, 0⟩] scope pos) 0 it acc { cenv with scope := relabel scope env }) (compPost c.M A NE use K acc cenv.locals) s₄) NE s₃) NE s
theorem comp_mainT {elt target : Expr} {ifs : List Expr} {scope : Scope} {cl : List (Str × Addr)} {it : Addr} {n : Nat} {V : PM → Nat → Value → Prop} {St : Nat → List Cell} {K : Value → Shared → Prop} {B₀ : PM} {use : Option (Value → Sem Unit)}
    (W : WalkT c A B₀ it n V St target) {C D : Addr} {iter : Expr} {pos : Pos} (S₂ : Own c H B ((C, frameP []) :: (D, listP []) :: (St 0 ++ cs)) s) (hle : Le B₀ B) (J : Nat → List Value → PM → List Cell → Prop) (h0 : J 0 [] B cs)
    (turn : ∀ k v ys H' B' cs' s', k < n → Le B B' → V B' k v → J k ys B' cs' → Own c H' B' ((C, frameP []) :: cs') s' →
      wpAny c.M A (assign target (compEnvC scope cl C env) v) (fun _ s₁ => wpAny c.M A (Tests ifs (compEnvC scope cl C env)) (fun ok s₂ =>
        if ok = true then wpAny c.M A (eval elt (compEnvC scope cl C env)) (fun y s₃ => ∃ B'' cs'' bs, Le B' B'' ∧ J (k + 1) (ys ++ [y]) B'' cs'' ∧ Own c H' B'' ((C, frameP bs) :: cs'') s₃) NE s₂
        else ∃ B'' cs'' bs, Le B' B'' ∧ J (k + 1) ys B'' cs'' ∧ Own c H' B'' ((C, frameP bs) :: cs'') s₂) NE s₁) NE s')
    (hJ : ∀ k ys B' B'' cs, Le B' B'' → J k ys B' cs → J k ys B'' cs)
    (after : ∀ ys B' cs' s', Le B B' → B' D = none → ys.length ≤ n → J n ys B' cs' → Own c H B' ((D, listP ys) :: (C, frameP []) :: cs') s' → compPost c.M A NE use K (.ref D) C (.ok .next) s')
    (hsz : n ≤ sizeLine) : codeAny c.M A (.compStart (.ListComp elt [⟨target, iter, ifs, 0⟩] scope pos) 0 (.ref it) (.ref D) (compEnvC scope cl C env)) (compPost c.M A NE use K (.ref D) C) s := by
  have P₀ : Own c H B ([(D, listP [])] ++ (St 0 ++ ((C, frameP []) :: cs))) s := by
    refine S₂.perm ?_
    refine (List.Perm.swap ..).trans (List.Perm.cons _ ?_)
    exact List.perm_middle.symm
  have main : ∀ s₃, Own c H B ([(D, listP [])] ++ (St 0 ++ ((C, frameP []) :: cs))) s₃ →
      codeAny c.M A (.compLoop (.ListComp elt [⟨target, iter, ifs, 0⟩] scope pos) 0 (.ref it) (.ref D) (compEnvC scope cl C env)) (compPost c.M A NE use K (.ref D) C) s₃ := by
    intro s₃ T₃
    refine comp_loop_any (fun m s' => ∃ k ys B' cs', k ≤ n ∧ m = n - k ∧ Le B B' ∧ ys.length ≤ k ∧ J k ys B' cs' ∧ Own c H B' ([(D, listP ys)] ++ (St k ++ ((C, frameP []) :: cs'))) s') ?_ n
      ⟨0, [], B, cs, Nat.zero_le _, rfl, Le.refl _, Nat.le_refl _, h0, T₃⟩
    rintro m s' ⟨k, ys, B', cs', hk, rfl, hB, hys, hj, T⟩
    rcases Nat.lt_or_ge k n with hlt | hge
    · have T' : Own c H B' (St k ++ ((D, listP ys) :: (C, frameP []) :: cs')) s' := (show Own c H B' ((D, listP ys) :: (St k ++ ((C, frameP []) :: cs'))) s' from T).perm List.perm_middle.symm
      refine wpAny_mono (W.next k H B' _ s' (fun v s₂ => wpAny c.M A (assign target (compEnvC scope cl C env) v) (fun _ s₁ => wpAny c.M A (Tests ifs (compEnvC scope cl C env)) (fun ok s₃ =>
          if ok = true then wpAny c.M A (eval elt (compEnvC scope cl C env)) (fun x s₄ => wpAny c.M A (call (.builtin "list.append") [.ref D, x]) (fun _ s₅ => ∃ m, m < n - k ∧
            ∃ k ys B' cs', k ≤ n ∧ m = n - k ∧ Le B B' ∧ ys.length ≤ k ∧ J k ys B' cs' ∧ Own c H B' ([(D, listP ys)] ++ (St k ++ ((C, frameP []) :: cs'))) s₅) NE s₄) NE s₃
          else ∃ m, m < n - k ∧ ∃ k ys B' cs', k ≤ n ∧ m = n - k ∧ Le B B' ∧ ys.length ≤ k ∧ J k ys B' cs' ∧ Own c H B' ([(D, listP ys)] ++ (St k ++ ((C, frameP []) :: cs'))) s₃) NE s₁) NE s₂) hlt (hle.trans hB) T' ?_) ?_ (fun _ _ q => q.elim)
      · intro v B'' s'' hle'' hv T₁
        have T₂ : Own c H B'' (((D, listP ys) :: St (k + 1)) ++ ((C, frameP []) :: cs')) s'' := T₁.perm List.perm_middle
        obtain ⟨H', T₄, back⟩ := T₂.frameOut'
        refine wpAny_mono (turn k v ys H' B'' cs' s'' hlt (hB.trans hle'') hv (hJ _ _ _ _ _ hle'' hj) T₄) (fun _ s₁ h₁ => wpAny_mono h₁ (fun ok s₂ h₂ => ?_) fun _ _ q => q) fun _ _ q => q
        cases ok with
        | true =>
          simp only [if_true] at h₂ ⊢
          refine wpAny_mono h₂ (fun y s₄ h₄ => ?_) fun _ _ q => q
          obtain ⟨B₃, cs₃, bs, hle₃, hj₃, T₅⟩ := h₄
          have T₆ : Own c H B₃ ((D, listP ys) :: (St (k + 1) ++ ((C, frameP []) :: cs₃))) s₄ := back _ _ _ (T₅.weak (frameP_sub (bs' := []) (by intro p hp; simp at hp)))
          refine wpAny_list_append_plain (plain_cell T₆ (List.mem_cons_self ..)) (fun h' hl' hs' => ?_) (by rw [List.size_toArray]; omega)
          refine ⟨n - (k + 1), by omega, k + 1, ys ++ [y], B₃, cs₃, hlt, rfl, (hB.trans hle'').trans hle₃, by simp; omega, hj₃, ?_⟩
          refine T₆.upd (t := s₄.toks) .head hs'.extBut ?_
          obtain ⟨n, ho⟩ := hl'
          exact ⟨_, ho, n, by simp⟩
        | false =>
          simp only [Bool.false_eq_true, if_false] at h₂ ⊢
          obtain ⟨B₃, cs₃, bs, hle₃, hj₃, T₅⟩ := h₂
          exact ⟨n - (k + 1), by omega, k + 1, ys, B₃, cs₃, hlt, rfl, (hB.trans hle'').trans hle₃, by omega, hj₃, back _ _ _ (T₅.weak (frameP_sub (bs' := []) (by intro p hp; simp at hp)))⟩
      · rintro r s₁ ⟨v, rfl, h₁⟩
        exact h₁
    · have ek : k = n := Nat.le_antisymm hk hge
      subst ek
      have T' : Own c H B' (St k ++ ((D, listP ys) :: (C, frameP []) :: cs')) s' := (show Own c H B' ((D, listP ys) :: (St k ++ ((C, frameP []) :: cs'))) s' from T).perm List.perm_middle.symm
      refine W.done H B' _ s' _ (hle.trans hB) T' fun s'' T'' => ?_
      exact after ys B' cs' _ hB (T''.dC _ (List.mem_cons_self ..)).2 hys hj T''
  refine codeAny_compStart_list (main _ P₀) (neE ?_)
  exact W.self 0 H B _ _ _ ((show Own c H B ((D, listP []) :: (St 0 ++ ((C, frameP []) :: cs))) _ from P₀).perm List.perm_middle.symm) (main _ P₀)
theorem comp_gT {elt target : Expr} {ifs : List Expr} {scope : Scope} {cl : List (Str × Addr)} {it : Addr} {n : Nat} {V : PM → Nat → Value → Prop} {St : Nat → List Cell} {K : Value → Shared → Prop} {B₀ : PM} {use : Option (Value → Sem Unit)}
    (W : WalkT c A B₀ it n V St target) (S : Own c H B (St 0 ++ cs) s) (hle : Le B₀ B) (J : Nat → List Value → PM → List Cell → Prop) (h0 : J 0 [] B cs)
    (turn : ∀ k v ys H' B' cs' s' C, k < n → Le B B' → V B' k v → J k ys B' cs' → Own c H' B' ((C, frameP []) :: cs') s' →
      wpAny c.M A (assign target (compEnvC scope cl C env) v) (fun _ s₁ => wpAny c.M A (Tests ifs (compEnvC scope cl C env)) (fun ok s₂ =>
        if ok = true then wpAny c.M A (eval elt (compEnvC scope cl C env)) (fun y s₃ => ∃ B'' cs'' bs, Le B' B'' ∧ J (k + 1) (ys ++ [y]) B'' cs'' ∧ Own c H' B'' ((C, frameP bs) :: cs'') s₃) NE s₂
        else ∃ B'' cs'' bs, Le B' B'' ∧ J (k + 1) ys B'' cs'' ∧ Own c H' B'' ((C, frameP bs) :: cs'') s₂) NE s₁) NE s')
    (hJ : ∀ k ys B' B'' cs, Le B' B'' → J k ys B' cs → J k ys B'' cs)
    (after : ∀ D ys B' cs' s' C, Le B B' → B' D = none → ys.length ≤ n → J n ys B' cs' → Own c H B' ((D, listP ys) :: (C, frameP []) :: cs') s' → compPost c.M A NE use K (.ref D) C (.ok .next) s')
    (hcell : (scope.names.all fun x => !(x.2 == .cell)) = true := by rfl) (hsz : n ≤ sizeLine := by size_fits) (hk : scope.kind = .function := by rfl) : CompG c A elt target ifs scope cl (.ref it) env use K s := by
  intro iter pos
  refine newListC S (Nat.zero_le _) fun D s₁ hD S₁ => ?_
  refine wpAny_newFunctionEnv (fun x hx e => by have := List.all_eq_true.mp hcell x hx; rw [e] at this; exact nomatch this) (by intro y hy; simp at hy) (fun h₁ hns₁ hsb₁ => ?_) hk
  try dsimp only at hns₁ hsb₁ ⊢
  have hnew : s₁.heap.get? s₁.heap.objs.size = none := by
    cases e : s₁.heap.get? s₁.heap.objs.size with
    | none => rfl
    | some o' => exact absurd (Heap.lt_size e) (Nat.lt_irrefl _)
  have S₂ : Own c H B ((s₁.heap.objs.size, frameP []) :: (D, listP []) :: (St 0 ++ cs)) { s₁ with heap := h₁, toks := s₁.toks + ([] : List (Str × Value)).length } := by
    refine S₁.add (fun a o e => ?_) hnew ?_
    · have hlt := Heap.lt_size e
      exact hsb₁.extBut a o (Nat.ne_of_lt hlt) (Heap.get?_push_of_some _ e)
    · obtain ⟨o, es, ep, ho, hd, hk, hf⟩ := hns₁
      exact ⟨o, ho, es, ep, hd, hk, fun x v e => by simp at e⟩
  generalize hC : s₁.heap.objs.size = C at S₂ ⊢
  exact comp_mainT (K := K) (use := use) (iter := iter) (pos := pos) W S₂ hle J h0 (fun k v ys H' B' cs' s' => turn k v ys H' B' cs' s' C) hJ (fun ys B' cs' s' a b d e f => after D ys B' cs' s' C a b d e f) hsz
theorem comp_T {elt target : Expr} {ifs : List Expr} {scope : Scope} {cl : List (Str × Addr)} {it : Addr} {n : Nat} {V : PM → Nat → Value → Prop} {St : Nat → List Cell} {K : Value → Shared → Prop} {B₀ : PM}
    (W : WalkT c A B₀ it n V St target) (S : Own c H B (St 0 ++ cs) s) (hle : Le B₀ B) (J : Nat → List Value → PM → List Cell → Prop) (h0 : J 0 [] B cs)
    (turn : ∀ k v ys H' B' cs' s' C, k < n → Le B B' → V B' k v → J k ys B' cs' → Own c H' B' ((C, frameP []) :: cs') s' →
      wpAny c.M A (assign target (compEnvC scope cl C env) v) (fun _ s₁ => wpAny c.M A (Tests ifs (compEnvC scope cl C env)) (fun ok s₂ =>
        if ok = true then wpAny c.M A (eval elt (compEnvC scope cl C env)) (fun y s₃ => ∃ B'' cs'' bs, Le B' B'' ∧ J (k + 1) (ys ++ [y]) B'' cs'' ∧ Own c H' B'' ((C, frameP bs) :: cs'') s₃) NE s₂
        else ∃ B'' cs'' bs, Le B' B'' ∧ J (k + 1) ys B'' cs'' ∧ Own c H' B'' ((C, frameP bs) :: cs'') s₂) NE s₁) NE s')
    (hJ : ∀ k ys B' B'' cs, Le B' B'' → J k ys B' cs → J k ys B'' cs)
    (after : ∀ D ys B' cs' s', Le B B' → B' D = none → ys.length ≤ n → J n ys B' cs' → Own c H B' ((D, listP ys) :: cs') s' → K (.ref D) s')
    (hcell : (scope.names.all fun x => !(x.2 == .cell)) = true := by rfl) (hsz : n ≤ sizeLine := by size_fits) (hk : scope.kind = .function := by rfl) : Comp c A elt target ifs scope cl (.ref it) env K s := by
  refine comp_gT (use := none) W S hle J h0 turn hJ ?_ hcell hsz hk
  intro D ys B' cs' s' C hB hD hys hj T''
  obtain ⟨mm, hn, _⟩ := frame_ns T'' (List.mem_cons_of_mem _ (List.mem_cons_self ..))
  exact ⟨mm, hn, fun h' hs' => after D ys B' cs' _ hB hD hys hj (T''.swap.gone (t := s'.toks) hs'.extBut)⟩
theorem comp_ {elt target : Expr} {ifs : List Expr} {scope : Scope} {cl : List (Str × Addr)} {it : Addr} {n : Nat} {V : PM → Nat → Value → Prop} {St : Nat → List Cell} {K : Value → Shared → Prop} {B₀ : PM}
    (W : Walk c A B₀ it n V St) (S : Own c H B (St 0 ++ cs) s) (hle : Le B₀ B) (J : Nat → List Value → PM → List Cell → Prop) (h0 : J 0 [] B cs)
    (turn : ∀ k v ys H' B' cs' s' C, k < n → Le B B' → V B' k v → J k ys B' cs' → Own c H' B' ((C, frameP []) :: cs') s' →
      wpAny c.M A (assign target (compEnvC scope cl C env) v) (fun _ s₁ => wpAny c.M A (Tests ifs (compEnvC scope cl C env)) (fun ok s₂ =>
        if ok = true then wpAny c.M A (eval elt (compEnvC scope cl C env)) (fun y s₃ => ∃ B'' cs'' bs, Le B' B'' ∧ J (k + 1) (ys ++ [y]) B'' cs'' ∧ Own c H' B'' ((C, frameP bs) :: cs'') s₃) NE s₂
        else ∃ B'' cs'' bs, Le B' B'' ∧ J (k + 1) ys B'' cs'' ∧ Own c H' B'' ((C, frameP bs) :: cs'') s₂) NE s₁) NE s')
    (hJ : ∀ k ys B' B'' cs, Le B' B'' → J k ys B' cs → J k ys B'' cs)
    (after : ∀ D ys B' cs' s', Le B B' → B' D = none → ys.length ≤ n → J n ys B' cs' → Own c H B' ((D, listP ys) :: cs') s' → K (.ref D) s')
    (hcell : (scope.names.all fun x => !(x.2 == .cell)) = true := by rfl) (hsz : n ≤ sizeLine := by size_fits) (hk : scope.kind = .function := by rfl) : Comp c A elt target ifs scope cl (.ref it) env K s :=
  comp_T (W.toT _) S hle J h0 turn hJ after hcell hsz hk
theorem comp_cT {elt target : Expr} {ifs : List Expr} {scope : Scope} {cl : List (Str × Addr)} {it : Addr} {n : Nat} {V : PM → Nat → Value → Prop} {St : Nat → List Cell} {K : Value → Shared → Prop} {B₀ : PM}
    (W : WalkT c A B₀ it n V St target) (S : Own c H B (St 0 ++ cs) s) (hle : Le B₀ B) (J : Nat → List Value → PM → Prop) (h0 : J 0 [] B)
    (turn : ∀ k v ys H' B' s' C, k < n → Le B B' → V B' k v → J k ys B' → Own c H' B' ((C, frameP []) :: cs) s' →
      wpAny c.M A (assign target (compEnvC scope cl C env) v) (fun _ s₁ => wpAny c.M A (Tests ifs (compEnvC scope cl C env)) (fun ok s₂ =>
        if ok = true then wpAny c.M A (eval elt (compEnvC scope cl C env)) (fun y s₃ => ∃ B'' bs, Le B' B'' ∧ J (k + 1) (ys ++ [y]) B'' ∧ Own c H' B'' ((C, frameP bs) :: cs) s₃) NE s₂
        else ∃ B'' bs, Le B' B'' ∧ J (k + 1) ys B'' ∧ Own c H' B'' ((C, frameP bs) :: cs) s₂) NE s₁) NE s')
    (hJ : ∀ k ys B' B'', Le B' B'' → J k ys B' → J k ys B'')
    (after : ∀ D ys B' s', Le B B' → B' D = none → ys.length ≤ n → J n ys B' → Own c H B' ((D, listP ys) :: cs) s' → K (.ref D) s')
    (hcell : (scope.names.all fun x => !(x.2 == .cell)) = true := by rfl) (hsz : n ≤ sizeLine := by size_fits) (hk : scope.kind = .function := by rfl) : Comp c A elt target ifs scope cl (.ref it) env K s := by
  refine comp_T W S hle (fun k ys B' cs' => J k ys B' ∧ cs' = cs) ⟨h0, rfl⟩ ?_ ?_ ?_ hcell hsz hk
  · rintro k v ys H' B' cs' s' C hk hle hv ⟨hj, rfl⟩ S'
    refine wpAny_mono (turn k v ys H' B' s' C hk hle hv hj S') (fun _ s₁ h₁ => wpAny_mono h₁ (fun ok s₂ h₂ => ?_) fun _ _ q => q) fun _ _ q => q
    cases ok with
    | true =>
      simp only [if_true] at h₂ ⊢
      refine wpAny_mono h₂ (fun y s₃ h₃ => ?_) fun _ _ q => q
      obtain ⟨B'', bs, a, b, d⟩ := h₃
      exact ⟨B'', _, bs, a, ⟨b, rfl⟩, d⟩
    | false =>
      simp only [Bool.false_eq_true, if_false] at h₂ ⊢
      obtain ⟨B'', bs, a, b, d⟩ := h₂
      exact ⟨B'', _, bs, a, ⟨b, rfl⟩, d⟩
  · rintro k ys B' B'' cs' hle ⟨hj, rfl⟩
    exact ⟨hJ _ _ _ _ hle hj, rfl⟩
  · rintro D ys B' cs' s' hle hD hl ⟨hj, rfl⟩ S'
    exact after D ys B' s' hle hD hl hj S'
theorem comp_c {elt target : Expr} {ifs : List Expr} {scope : Scope} {cl : List (Str × Addr)} {it : Addr} {n : Nat} {V : PM → Nat → Value → Prop} {St : Nat → List Cell} {K : Value → Shared → Prop} {B₀ : PM}
    (W : Walk c A B₀ it n V St) (S : Own c H B (St 0 ++ cs) s) (hle : Le B₀ B) (J : Nat → List Value → PM → Prop) (h0 : J 0 [] B)
    (turn : ∀ k v ys H' B' s' C, k < n → Le B B' → V B' k v → J k ys B' → Own c H' B' ((C, frameP []) :: cs) s' →
      wpAny c.M A (assign target (compEnvC scope cl C env) v) (fun _ s₁ => wpAny c.M A (Tests ifs (compEnvC scope cl C env)) (fun ok s₂ =>
        if ok = true then wpAny c.M A (eval elt (compEnvC scope cl C env)) (fun y s₃ => ∃ B'' bs, Le B' B'' ∧ J (k + 1) (ys ++ [y]) B'' ∧ Own c H' B'' ((C, frameP bs) :: cs) s₃) NE s₂
        else ∃ B'' bs, Le B' B'' ∧ J (k + 1) ys B'' ∧ Own c H' B'' ((C, frameP bs) :: cs) s₂) NE s₁) NE s')
    (hJ : ∀ k ys B' B'', Le B' B'' → J k ys B' → J k ys B'')
    (after : ∀ D ys B' s', Le B B' → B' D = none → ys.length ≤ n → J n ys B' → Own c H B' ((D, listP ys) :: cs) s' → K (.ref D) s')
    (hcell : (scope.names.all fun x => !(x.2 == .cell)) = true := by rfl) (hsz : n ≤ sizeLine := by size_fits) (hk : scope.kind = .function := by rfl) : Comp c A elt target ifs scope cl (.ref it) env K s :=
  comp_cT (W.toT _) S hle J h0 turn hJ after hcell hsz hk
end
section
variable {c : Cx} {H B : PM} {cs cs' : List Cell} {s : Shared} {A : Around} {env : Env} {pos : Pos}
theorem newTupleR {vs : List Value} {ds : List PyData} {Q : Value → Shared → Prop} (S : Own c H B cs s) (r : RdAll B vs ds)
    (h : ∀ a B' s', Le B B' → Rd B' (.ref a) (.tuple ds) → Own c H B' cs s' → Q (.ref a) s') (hsz : vs.length ≤ sizeLine := by size_fits) : wpAny c.M A (newTuple vs) Q NE s :=
  newTupleB S hsz fun a o B' s' hle hb hp S' => h a B' s' hle (.tuple hb hp (r.mono hle)) S'
theorem newListR {vs : List Value} {ds : List PyData} {Q : Value → Shared → Prop} (S : Own c H B cs s) (r : RdAll B vs ds)
    (h : ∀ a B' s', Le B B' → Rd B' (.ref a) (.list ds) → Own c H B' cs s' → Q (.ref a) s') (hsz : vs.length ≤ sizeLine := by size_fits) : wpAny c.M A (newList vs) Q NE s :=
  newListC S hsz fun a s' _ S' => by
    obtain ⟨B', o, hle, hb, hp, _, S''⟩ := S'.freeze
    exact h a B' s' hle (.list hb hp (r.mono hle)) S''
theorem Own.frz {a : Addr} {vs : List Value} {ds : List PyData} (S : Own c H B ((a, listP vs) :: cs) s) (r : RdAll B vs ds) : ∃ B', Le B B' ∧ Rd B' (.ref a) (.list ds) ∧ Own c H B' cs s := by
  obtain ⟨B', o, hle, hb, hp, _, S'⟩ := S.freeze
  exact ⟨B', hle, .list hb hp (r.mono hle), S'⟩
theorem e_tuple {elts : List Expr} {k : Nat} {Q : Value → Shared → Prop} (h : wpAny c.M A (spliced (backTo pos (starEach elts env))) (fun vs s₁ => wpAny c.M A (newTuple vs) Q NE s₁) NE s) :
    wpAny c.M A (eval (.Tuple elts k pos) env) Q NE s := Tuple_ h
theorem e_list {elts : List Expr} {Q : Value → Shared → Prop} (h : wpAny c.M A (spliced (backTo pos (starEach elts env))) (fun vs s₁ => wpAny c.M A (newList vs) Q NE s₁) NE s) :
    wpAny c.M A (eval (.List elts pos) env) Q NE s := List_ h
theorem item_R {value slice : Expr} {x : Value} {ds : List PyData} {k : Int} {t : Tok} {d : PyData} {Q : Value → Shared → Prop} (S : Own c H B cs s) (r : Rd B x (.list ds)) (h0 : 0 ≤ k) (hhi : k < 2 ^ 63)
    (hx : ds[k.toNat]? = some d) (h : ∀ v, Rd B v d → Q v s)
    (hs : ∀ l, subscripted slice false (.ref l) (.int k t) = operate [.ref l, .int k t] (getItem (.ref l) (.int k t)) := by intro _; with_unfolding_all rfl) :
    wpAny c.M A (subscriptTail value slice x (.int k t)) Q NE s := by
  obtain ⟨l, o, vs, rfl, hb, hl, hr⟩ := r.list_inv
  obtain ⟨v, hv, rv⟩ := hr.get _ _ hx
  exact tail_any (isList_B S hb hl).typeIs slot_list_getitem.lookup (wpAny_getItem_list (isList_B S hb hl) h0 hhi (by simpa using hv) (h v rv)) (hs l)
theorem item_T {value slice : Expr} {x : Value} {ds : List PyData} {k : Int} {t : Tok} {d : PyData} {j : Nat} {Q : Value → Shared → Prop} (S : Own c H B cs s) (r : Rd B x (.tuple ds)) (h0 : -(2 ^ 63) ≤ k) (hhi : k < 2 ^ 63)
    (hj : seqIndex? k ds.length = some j) (hx : ds[j]? = some d) (h : ∀ v, Rd B v d → Q v s)
    (hs : ∀ l, subscripted slice false (.ref l) (.int k t) = operate [.ref l, .int k t] (getItem (.ref l) (.int k t)) := by intro _; with_unfolding_all rfl) :
    wpAny c.M A (subscriptTail value slice x (.int k t)) Q NE s := by
  obtain ⟨l, o, vs, rfl, hb, hl, hr⟩ := r.tuple_inv
  obtain ⟨v, hv, rv⟩ := hr.get _ _ hx
  exact tail_any (isTup_B S hb hl).typeIs slot_tuple_getitem.lookup (getItem_tuple (isTup_B S hb hl) h0 hhi (by rw [List.size_toArray, hr.length]; exact hj) (by simpa using hv) (h v rv)) (hs l)
theorem eq_R {v u : Value} {d e : PyData} {Q : Value → Shared → Prop} (S : Own c H B cs s) (hu : A.units + 64 < cLine) (r : Rd B v d) (r' : Rd B u e) (h1 : SeqAt.shaped d = true) (h2 : SeqAt.shaped e = true)
    (h : Q (.bool (PyData.eqv d e)) s) : wpAny c.M A (compareOp .Eq v u) Q NE s := by
  obtain ⟨_, a⟩ := r.reads S.hB
  obtain ⟨_, b⟩ := r'.reads S.hB
  exact eq_dataH a b h1 h2 hu h
theorem ne_R {v u : Value} {d e : PyData} {Q : Value → Shared → Prop} (S : Own c H B cs s) (hu : A.units + 64 < cLine) (r : Rd B v d) (r' : Rd B u e) (h1 : SeqAt.shaped d = true) (h2 : SeqAt.shaped e = true)
    (h : Q (.bool (!PyData.eqv d e)) s) : wpAny c.M A (compareOp .NotEq v u) Q NE s := by
  obtain ⟨_, a⟩ := r.reads S.hB
  obtain ⟨_, b⟩ := r'.reads S.hB
  exact ne_dataH a b h1 h2 hu h
theorem isnone {v : Value} {Q : Value → Shared → Prop} (h : Q (.bool (v == .none)) s) : wpAny c.M A (compareOp .Is v .none) Q NE s := is_none h
theorem isnotnone {v : Value} {Q : Value → Shared → Prop} (h : Q (.bool (!(v == .none))) s) : wpAny c.M A (compareOp .IsNot v .none) Q NE s := isNot_none h
theorem canInts (ns : List Int) : PyData.canLayAll0 (ns.map PyData.int) = true := by
  induction ns with
  | nil => rfl
  | cons n ns ih => simp only [List.map_cons, PyData.canLayAll0, PyData.canLay0, ih]; rfl
theorem anyInts (ns : List Int) (i : Int) : ((ns.map PyData.int).any fun y => PyData.eqv y (.int i)) = decide (i ∈ ns) := by
  induction ns with
  | nil => rfl
  | cons n ns ih =>
    rw [List.map_cons, List.any_cons, ih]
    have e : PyData.eqv (.int n) (.int i) = decide (i = n) := by
      simp only [PyData.eqv]
      by_cases q : i = n
      · subst q; simp
      · have q' : n ≠ i := fun h => q h.symm
        simp [q, q']
    rw [e]
    by_cases q : i = n <;> simp [q]
noncomputable def IntsL (s : Shared) (x : Value) (ns : List Int) : Prop := ∃ as, Reads s.heap x (.list (ns.map PyData.int)) as
theorem intsL_R {x : Value} {ns : List Int} (S : Own c H B cs s) (r : Rd B x (.list (ns.map PyData.int))) : IntsL s x ns := r.reads S.hB
theorem intsL_C {a : Addr} {vs : List Value} {ns : List Int} (S : Own c H B cs s) (hm : (a, listP vs) ∈ cs) (r : RdAll B vs (ns.map PyData.int)) : IntsL s (.ref a) ns := by
  obtain ⟨o, ho, n, rfl⟩ := S.cell hm
  obtain ⟨as, ra⟩ := r.reads S.hB
  exact ⟨_, .list ho rfl rfl (by simpa using ra)⟩
theorem in_ints {x : Value} {ns : List Int} {i : Int} {t : Tok} {Q : Value → Shared → Prop} (L : IntsL s x ns) (hu : A.units + 64 < cLine) (h : Q (.bool (decide (i ∈ ns))) s) : wpAny c.M A (compareOp .In (.int i t) x) Q NE s := by
  obtain ⟨as, r⟩ := L
  refine SeqAt.in_list_reads r (.int i t) (canInts ns) rfl ?_ (by rw [anyInts]; exact h)
  have : min (PyData.depthAll (ns.map PyData.int)) (PyData.int i).depth ≤ (PyData.int i).depth := Nat.min_le_right _ _
  have e : (PyData.int i).depth = 0 := rfl
  omega
theorem notin_ints {x : Value} {ns : List Int} {i : Int} {t : Tok} {Q : Value → Shared → Prop} (L : IntsL s x ns) (hu : A.units + 64 < cLine) (h : Q (.bool (!decide (i ∈ ns))) s) : wpAny c.M A (compareOp .NotIn (.int i t) x) Q NE s := by
  obtain ⟨as, r⟩ := L
  refine SeqAt.notIn_list_reads r (.int i t) (canInts ns) rfl ?_ (by rw [anyInts]; exact h)
  have : min (PyData.depthAll (ns.map PyData.int)) (PyData.int i).depth ≤ (PyData.int i).depth := Nat.min_le_right _ _
  have e : (PyData.int i).depth = 0 := rfl
  omega
theorem cellP {a : Addr} {vs : List Value} (S : Own c H B cs s) (hm : (a, listP vs) ∈ cs) : ∃ n, s.heap.get? a = some { cls := .type "list", data := .seq vs.toArray n } := by
  obtain ⟨o, ho, n, rfl⟩ := S.cell hm; exact ⟨n, ho⟩
theorem updSeq {a : Addr} {vs ws : List Value} {f : Array Value → Array Value} {t : Nat} {n : Nat} (S : Own c H B cs s) (U : Upd a (listP vs) (listP ws) cs cs') (ho : s.heap.get? a = some { cls := .type "list", data := .seq vs.toArray n })
    (hf : f vs.toArray = ws.toArray) : Own c H B cs' { s with heap := s.heap.update a (Obj.mapSeq f), toks := t } := by
  obtain ⟨m, hm⟩ : ∃ m, Obj.mapSeq f ({ cls := .type "list", data := .seq vs.toArray n } : Obj) = { cls := .type "list", data := .seq (f vs.toArray) m } := ⟨_, rfl⟩
  refine S.upd U (Heap.SameBut.update ..).extBut ⟨_, Heap.get?_update_self _ ho (by rw [hm]; rfl), m, ?_⟩
  rw [hm, hf]
theorem gm_list {name : Str} {id : String} {pl : Sem Bool} {a : Addr} {vs : List Value} {Q : Value × List Value → Shared → Prop} (S : Own c H B cs s) (hm : (a, listP vs) ∈ cs) (slot : Slot "list" name id)
    (hty : typeOf (.builtin id) = pure (.type "method_descriptor")) (h : Q (.builtin id, [.ref a]) s) : wpAny c.M A (getMethod (.ref a) name pl) Q NE s := by
  obtain ⟨n, ho⟩ := cellP S hm
  exact getMethod_builtin ⟨_, ho, rfl⟩ PySem.F.plainAttrs_list slot hty (fun b e => by cases e; exact ⟨_, ho, rfl⟩) h
theorem l_append {a : Addr} {vs : List Value} {x : Value} {Q : Value → Shared → Prop} (S : Own c H B cs s) (U : Upd a (listP vs) (listP (vs ++ [x])) cs cs') (hsz : vs.length ≤ sizeLine) (h : ∀ s', Own c H B cs' s' → Q .none s') :
    wpAny c.M A (call (.builtin "list.append") [.ref a, x]) Q NE s := by
  refine wpAny_list_append_plain (plain_cell S U.mem) (fun h' hl' hs' => h _ (S.upd (t := s.toks) U hs'.extBut ?_)) (by simpa using hsz)
  obtain ⟨n, ho⟩ := hl'
  exact ⟨_, ho, n, by simp⟩
theorem l_extend {a b : Addr} {vs ws : List Value} {n2 : Nat} {Q : Value → Shared → Prop} (S : Own c H B cs s) (U : Upd a (listP vs) (listP (vs ++ ws)) cs cs') (hb : s.heap.get? b = some { cls := .type "list", data := .seq ws.toArray n2 })
    (hsz : vs.length + ws.length ≤ sizeLine) (h : ∀ s', Own c H B cs' s' → Q .none s') : wpAny c.M A (call (.builtin "list.extend") [.ref a, .ref b]) Q NE s := by
  obtain ⟨n, ho⟩ := cellP S U.mem
  exact call_meets PySem.F.slot_list_extend ⟨_, ho, rfl⟩ PySem.F.entry_list_extend (PySem.F.args_list_extend_2 _ _) (AutoSeq1.list_extend_list_list_0 a vs.toArray n b ws.toArray n2 (extend_door (by simpa using hsz)) (by simp; omega) (by simp; omega))
    ⟨ho, hb, h _ (updSeq S U ho (by simp))⟩
theorem l_extendC {a b : Addr} {vs ws : List Value} {Q : Value → Shared → Prop} (S : Own c H B cs s) (U : Upd a (listP vs) (listP (vs ++ ws)) cs cs') (hb : (b, listP ws) ∈ cs)
    (hsz : vs.length + ws.length ≤ sizeLine) (h : ∀ s', Own c H B cs' s' → Q .none s') : wpAny c.M A (call (.builtin "list.extend") [.ref a, .ref b]) Q NE s := by
  obtain ⟨n, ho⟩ := cellP S hb
  exact l_extend S U ho hsz h
theorem l_extendR {a : Addr} {x : Value} {vs : List Value} {ds : List PyData} {Q : Value → Shared → Prop} (S : Own c H B cs s) (r : Rd B x (.list ds)) (hsz : vs.length + ds.length ≤ sizeLine)
    (U : ∀ ws, RdAll B ws ds → ∃ cs', Upd a (listP vs) (listP (vs ++ ws)) cs cs' ∧ ∀ s', Own c H B cs' s' → Q .none s') : wpAny c.M A (call (.builtin "list.extend") [.ref a, x]) Q NE s := by
  obtain ⟨l, o, ws, rfl, hb, ⟨n, rfl⟩, hr⟩ := r.list_inv
  obtain ⟨cs', U, h⟩ := U ws hr
  exact l_extend S U (S.hB _ _ hb) (by rw [hr.length]; exact hsz) h
theorem l_pop {a : Addr} {vs : List Value} {y : Value} {Q : Value → Shared → Prop} (S : Own c H B cs s) (U : Upd a (listP (vs ++ [y])) (listP vs) cs cs') (hsz : vs.length < sizeLine) (h : ∀ s', Own c H B cs' s' → Q y s') :
    wpAny c.M A (call (.builtin "list.pop") [.ref a]) Q NE s := by
  obtain ⟨n, ho⟩ := cellP S U.mem
  exact call_meets PySem.F.slot_list_pop ⟨_, ho, rfl⟩ PySem.F.entry_list_pop (PySem.F.args_list_pop_1 _) (MeetsSeq.list_pop_last a (vs ++ [y]).toArray n y (by simp) (by simp; omega)) ⟨ho, h _ (updSeq S U ho (by simp [List.eraseIdx_append_of_length_le]))⟩
theorem l_popAt {a : Addr} {vs : List Value} {k : Nat} {i : Int} {t : Tok} {y : Value} {Q : Value → Shared → Prop} (hi : i = (k : Int)) (S : Own c H B cs s) (U : Upd a (listP vs) (listP (vs.eraseIdx k)) cs cs') (hy : vs[k]? = some y) (hsz : vs.length < 1000000)
    (h : ∀ s', Own c H B cs' s' → Q y s') : wpAny c.M A (call (.builtin "list.pop") [.ref a, .int i t]) Q NE s := by
  obtain ⟨n, ho⟩ := cellP S U.mem
  have hlt : k < vs.length := by
    rcases Nat.lt_or_ge k vs.length with q | q
    · exact q
    · rw [List.getElem?_eq_none q] at hy; cases hy
  have h1 : Builtin.List.listFitsIndex i = true := fitsIndex_of (by omega) (by omega)
  have h2 : seqIndex? i vs.toArray.size = some k := by
    rw [hi]
    unfold seqIndex?
    simp; omega
  have h3 : vs.toArray[k]? = some y := by rw [List.getElem?_toArray]; exact hy
  have h4 : vs.toArray.size ≤ sizeLine := by rw [List.size_toArray, sizeLine_eq]; omega
  have h5 : vs.toArray.eraseIdxIfInBounds k = (vs.eraseIdx k).toArray := by rw [List.eraseIdxIfInBounds_toArray]
  have g := MeetsSeq.list_pop_at a vs.toArray n i t k y h1 h2 h3 h4
  exact call_meets PySem.F.slot_list_pop ⟨_, ho, rfl⟩ PySem.F.entry_list_pop (PySem.F.args_list_pop_2 _ _) g ⟨ho, h _ (updSeq S U ho h5)⟩
end
noncomputable def attrP (bs : List (Str × Value)) (o : Obj) : Prop := ∃ es ep, o.data = .dict es ep ∧ StrKeys es ∧ UniqKeys es ∧ ∀ x, nsFind es x = bs.lookup x
noncomputable def BodyAt (c : Cx) (B : PM) (x : Addr) (bs : List (Str × Value)) : Prop := ∃ dx od, B x = some (instObj c.C dx) ∧ B dx = some od ∧ attrP bs od
theorem BodyAt.mono {c : Cx} {B B' : PM} {x : Addr} {bs : List (Str × Value)} (h : Le B B') (I : BodyAt c B x bs) : BodyAt c B' x bs := let ⟨dx, od, a, b, d⟩ := I; ⟨dx, od, h _ _ a, h _ _ b, d⟩
structure ClsW (c : Cx) : Prop where
  kin : c.K.In c.g
  hga : findIn c.K (.ref c.C) (Str.ofString "__getattribute__") = some (some (.builtin "object.__getattribute__"))
  hgt : findIn c.K (.ref c.C) (Str.ofString "__getattr__") = some none
  hset : findIn c.K (.ref c.C) (Str.ofString "__setattr__") = some (some (.builtin "object.__setattr__"))
  dict : hasDictIn c.K c.C = true
  over : plainOver c.K c.C = true
  makes : makesIn c.K c.C = true
  fname : findIn c.K (.ref c.C) (Str.ofString "name") = some none
  farg : findIn c.K (.ref c.C) (Str.ofString "arg_count") = some none
  flocals : findIn c.K (.ref c.C) (Str.ofString "locals") = some none
  fblocks : findIn c.K (.ref c.C) (Str.ofString "blocks") = some none
  fspots : findIn c.K (.ref c.C) (Str.ofString "spots") = some none
noncomputable def Meth (c : Cx) (name qual : Str) (i : Nat) (dV : Value) : Prop := ∃ f, findIn c.K (.ref c.C) name = some (some (.ref f)) ∧ typeIn c.K (.ref f) = some (.type "function") ∧ FnAt c f name qual (methAt i) dV
section
variable {c : Cx} {H B : PM} {cs cs' : List Cell} {s : Shared} {A : Around} {env : Env} {pos : Pos} {x : Addr} {bs : List (Str × Value)} {name : Str} {v : Value}
theorem lookIn_attr {o : Obj} (h : attrP bs o) : lookIn name o = some (bs.lookup name) := by
  obtain ⟨es, ep, hd, hk, _, hf⟩ := h
  have hf := hf name
  unfold lookIn
  rw [hd]
  dsimp only
  have e : nsFind es name = (es.toList.find? (·.key.isStr name)).map (·.val) := by
    unfold nsFind findBy
    rw [Array.find?_toList]
  rw [← hf, e]
  cases q : es.toList.find? (·.key.isStr name) with
  | some en => rfl
  | none =>
    dsimp only
    rw [if_neg]; · rfl
    intro h
    obtain ⟨en, he, hr⟩ := List.any_eq_true.mp h
    obtain ⟨n, t, hs⟩ := hk en (by simpa using he)
    simp [DictEntry.refKey, hs] at hr
theorem body_inst (S : Own c H B cs s) (I : BodyAt c B x bs) : ∃ dx od, InstAt s.heap x (instObj c.C dx) c.C (some od) ∧ attrP bs od :=
  let ⟨dx, od, a, b, d⟩ := I; ⟨dx, od, ⟨S.hB _ _ a, rfl, rfl, S.hB _ _ b⟩, d⟩
theorem ga {Q : Value → Shared → Prop} (W : ClsW c) (S : Own c H B cs s) (I : BodyAt c B x bs) (hf : findIn c.K (.ref c.C) name = some none) (hv : bs.lookup name = some v) (hh : handedIn v = true)
    (h : ∀ s', Own c H B cs s' → Q v s') : wpAny c.M A (getAttr (.ref x) name true) Q NE s := by
  obtain ⟨dx, od, I', d⟩ := body_inst S I
  exact get_value (W.kin.keeps S.keepG) I' W.hga (findObj_own W.dict hf rfl (by rw [lookIn_attr d, hv])) hh (h _ (S.tok _))
theorem e_attr {value : Expr} {attr : Str} {Q : Value → Shared → Prop} (h : wpAny c.M A (eval value env) (fun o s₁ => wpAny c.M A (getAttr o attr true) Q NE s₁) NE s)
    (he : eval (.Attribute value attr pos) env = (do
      let o ← eval value env
      standAt pos.atName
      let r ← holding [o] (getAttr o attr true)
      letTemporaryGo value o r
      pure r) := by with_unfolding_all rfl) : wpAny c.M A (eval (.Attribute value attr pos) env) Q NE s := Attribute_any_ h he
theorem gm_inst {pl : Sem Bool} {f : Addr} {Q : Value × List Value → Shared → Prop} (W : ClsW c) (S : Own c H B cs s) (I : BodyAt c B x bs) (hf : findIn c.K (.ref c.C) name = some (some (.ref f))) (ht : typeIn c.K (.ref f) = some (.type "function"))
    (hv : bs.lookup name = none) (h : Q (.ref f, [.ref x]) s) : wpAny c.M A (getMethod (.ref x) name pl) Q NE s := by
  obtain ⟨dx, od, I', d⟩ := body_inst S I
  exact method_fn (W.kin.keeps S.keepG) I' W.hga W.hgt hf ht (by show (lookIn name od).map _ = _; rw [lookIn_attr d, hv]; rfl) h
theorem e_meth {o : Expr} {apos : Pos} {args : List Expr} {pl : Sem Bool} {Q : Value → Shared → Prop}
    (h : wpAny c.M A (eval o env) (fun ov s₁ => wpAny c.M A (getMethod ov name pl) (fun fx s₂ => wpAny c.M A (callWith pos fx.1 fx.2 (backTo pos (starEach args env)) []) Q NE s₂) NE s₁) NE s)
    (he : eval (.Call (.Attribute o name apos) args [] pos) env = (do
      let ov ← eval o env
      standAt apos.atName
      let (f, first) ← holding [ov] (getMethod ov name pl)
      callWith pos f first (backTo pos (starEach args env)) []) := by rfl) : wpAny c.M A (eval (.Call (.Attribute o name apos) args [] pos) env) Q NE s := MethodCall_ h he
theorem sa {dx : Addr} {Q : Unit → Shared → Prop} (W : ClsW c) (S : Own c H B cs s) (hx : B x = some (instObj c.C dx)) (U : Upd dx (attrP bs) (attrP ((name, v) :: bs)) cs cs') (hlen : bs.length ≤ 100)
    (hf : findIn c.K (.ref c.C) name = some none) (h : ∀ s', Own c H B cs' s' → Q () s') : wpAny c.M A (setAttr (.ref x) name v) Q NE s := by
  obtain ⟨od, hod, hat⟩ := S.cell U.mem
  have X := W.kin.keeps S.keepG
  have hX := S.hB _ _ hx
  have hod' : s.heap.get? dx = some od := hod
  refine set_plain (od := some od) X ⟨hX, rfl, rfl, hod'⟩ W.hset ?_
  refine osa_open (s := { s with toks := s.toks + 1 }) (od := some od) (r := none) X ⟨hX, rfl, rfl, hod'⟩ W.over (by unfold takerIn; rw [hf]; rfl) fun b => ?_
  obtain ⟨cd, hc, hd'⟩ : ∃ cd, clsIn c.K c.C = some cd ∧ cd.hasDict = true := by
    have := W.dict
    unfold hasDictIn at this
    cases q : clsIn c.K c.C with
    | none => rw [q] at this; cases this
    | some cd => rw [q] at this; exact ⟨cd, rfl, this⟩
  have hX' : s.heap.get? x = some ⟨.ref c.C, some dx, .plain, #[]⟩ := hX
  refine wpAny_bind (wpAny_pure (wpAny_bind (wpAny_bind (wpAny_loadPart hX' (wpAny_bind (Looks.here (s := { s with toks := s.toks + 1 }) (looks_clsIn X hc) ?_))))))
  rw [hd']
  have hn : s.heap.Ns1 dx (fun x => bs.lookup x) := by
    obtain ⟨es, ep, e1, e2, e3, e4⟩ := hat
    exact ⟨od, es, ep, hod', e1, e2, e3, e4⟩
  have hw : Within (fun x => bs.lookup x) (bs.map (·.1)) := fun y hy => by
    cases q : bs.lookup y with
    | none => exact absurd q hy
    | some u => exact List.mem_map.mpr ⟨(y, u), mem_of_lookup q, rfl⟩
  refine wpAny_pure (a := some dx) (wpAny_bind (wpAny_pure (wpAny_bind (wpAny_nsSet1 (s := { s with toks := s.toks + 1 }) hn fun h' hn' hs => ?_))))
  obtain ⟨oD, esD, epD, hoD, hdD, hcD⟩ := hn'.count (Within.cons name v hw)
  refine wpAny_bind (wpAny_lookBehind hoD (by rw [hdD]; exact pastItsLine_dict (Nat.le_trans hcD (by rw [List.length_cons, List.length_map, sizeLine_eq]; omega))) ?_)
  refine wpAny_pure (h _ (S.upd (t := s.toks + 1 + 1) U hs.extBut ?_))
  obtain ⟨o, es, ep, ho, e1, e2, e3, e4⟩ := hn'
  refine ⟨o, ho, es, ep, e1, e2, e3, fun y => ?_⟩
  rw [e4 y]
  show (if y = name then some v else bs.lookup y) = _
  by_cases q : y = name
  · subst q; rw [if_pos rfl, List.lookup_cons_self]
  · rw [if_neg q, List.lookup_cons, beq_eq_false_iff_ne.mpr q]
theorem x_setattr {o : Expr} {attr : Str} {p pos : Pos} {value : Expr} {rest : List Stmt} {ls : List (List Stmt)} {Q : Flow → Shared → Prop}
    (h : wpAny c.M A (eval value env) (fun v s₁ => wpAny c.M A (eval o env) (fun ov s₂ => wpAny c.M A (setAttr ov attr v) (fun _ s₄ => wpAny c.M A (runs (rest :: ls) env) Q NE s₄) NE s₂) NE s₁) NE s)
    (hs : swapsWith value (some (.Attribute o attr p)) pos.line env = pure false := by rfl) :
    wpAny c.M A (runs ((.Assign [.Attribute o attr p] value pos :: rest) :: ls) env) Q NE s :=
  wpAny_execs_cons (plainObj_wpAny_Assign_Attribute h hs)
theorem tc_w (C : Addr) (ps : List Value) (kw : List (Str × Value)) : (Code.builtin "type.__call__" ⟨.ref C :: ps, kw⟩).weight = 1 := by kernel_rfl
theorem tc_u (C : Addr) (ps : List Value) (kw : List (Str × Value)) : (Code.builtin "type.__call__" ⟨.ref C :: ps, kw⟩).cUnits = 1 := by kernel_rfl
theorem room_under {n : Nat} {C : Addr} {ps : List Value} {kw : List (Str × Value)} (R : Room A (n + 1)) : Room (A.under (.builtin "type.__call__" ⟨.ref C :: ps, kw⟩)) n where
  hd := R.hd
  depth := by
    have := R.depth
    show A.depth + (Code.builtin "type.__call__" ⟨.ref C :: ps, kw⟩).weight + n < recursionLimit
    rw [tc_w]; omega
  units := by
    have := R.units
    show A.units + (Code.builtin "type.__call__" ⟨.ref C :: ps, kw⟩).cUnits + 20 * n + 300 < cLine
    rw [tc_u]; omega
end
section
variable {c : Cx} {H B : PM} {cs cs' : List Cell} {s : Shared} {A : Around} {env : Env} {pos : Pos}
theorem Own.none_new (S : Own c H B cs s) : s.heap.get? s.heap.objs.size = none := by
  cases e : s.heap.get? s.heap.objs.size with
  | none => rfl
  | some o' => exact absurd (Heap.lt_size e) (Nat.lt_irrefl _)
theorem b_list {x : Value} {ds : List PyData} {Q : Value → Shared → Prop} (S : Own c H B cs s) (r : Rd B x (.list ds))
    (h : ∀ a vs s', RdAll B vs ds → B a = none → Own c H B ((a, listP vs) :: cs) s' → Q (.ref a) s') (hsz : ds.length ≤ sizeLine := by size_fits) : wpAny c.M A (call (.type "list") [x]) Q NE s := by
  obtain ⟨l, o, vs, rfl, hb, ⟨n, rfl⟩, hr⟩ := r.list_inv
  refine call_list_seq l (T := "list") (.inl rfl) (S.hB _ _ hb) rfl rfl (fun h' c' hk hg => h _ vs _ hr S.newB (S.add (t := s.toks) hk S.none_new ⟨_, hg, c', rfl⟩)) (by rw [List.size_toArray, hr.length]; exact hsz)
theorem b_tuple_of {l : Addr} {vs : List Value} {ds : List PyData} {Q : Value → Shared → Prop} (S : Own c H B cs s) (hl : s.heap.IsList l vs.toArray) (r : RdAll B vs ds)
    (h : ∀ a B' s', Le B B' → Rd B' (.ref a) (.tuple ds) → Own c H B' cs s' → Q (.ref a) s') (hsz : ds.length ≤ sizeLine := by size_fits) : wpAny c.M A (call (.type "tuple") [.ref l]) Q NE s := by
  refine call_tuple_list hl (fun h' hk => ?_) (by rw [List.size_toArray, r.length]; exact hsz)
  have S₁ := S.keeps (t := s.toks) hk
  have S₂ := S₁.push (t := s.toks) (P := tupP vs) (o := { cls := .type "tuple", data := .seq vs.toArray }) ⟨0, rfl⟩ rfl
  obtain ⟨B', o, hle, hb, hp, _, S₃⟩ := S₂.freeze
  exact h _ B' _ hle (.tuple hb hp (r.mono hle)) S₃
theorem b_tuple {x : Value} {ds : List PyData} {Q : Value → Shared → Prop} (S : Own c H B cs s) (r : Rd B x (.list ds))
    (h : ∀ a B' s', Le B B' → Rd B' (.ref a) (.tuple ds) → Own c H B' cs s' → Q (.ref a) s') (hsz : ds.length ≤ sizeLine := by size_fits) : wpAny c.M A (call (.type "tuple") [x]) Q NE s := by
  obtain ⟨l, o, vs, rfl, hb, hl, hr⟩ := r.list_inv
  exact b_tuple_of S (isList_B S hb hl) hr h hsz
theorem b_range {n : Nat} {i : Int} {t : Tok} {Q : Value → Shared → Prop} (hi : i = (n : Int)) (S : Own c H B cs s) (h : ∀ a B' s', Le B B' → RangeAt B' (.ref a) n → Own c H B' cs s' → Q (.ref a) s') :
    wpAny c.M A (call (.type "range") [.int i t]) Q NE s := by
  refine call_range_1 ?_
  have S₂ := S.push (t := s.toks + 1 + 1) (P := rangeP n) (o := { cls := .type "range", data := .fields #[.int 0 s.toks, .int i t, .int 1 (s.toks + 1)] }) ⟨_, _, _, by rw [hi]⟩ rfl
  obtain ⟨B', o, hle, hb, hp, _, S₃⟩ := S₂.freeze
  exact h _ B' _ hle ⟨_, o, rfl, hb, hp⟩ S₃
theorem b_len_R {x : Value} {ds : List PyData} {Q : Value → Shared → Prop} (S : Own c H B cs s) (r : Rd B x (.list ds)) (h : ∀ t s', Own c H B cs s' → Q (.int ds.length t) s') (hf : ds.length < 2 ^ 62 := by size_fits) :
    wpAny c.M A (call (.builtin "len") [x]) Q NE s := by
  obtain ⟨l, o, vs, rfl, hb, hl, hr⟩ := r.list_inv
  exact b_len_l S (isList_B S hb hl) (by rw [hr.length]; exact hf) (fun t s' S' => by rw [hr.length]; exact h t s' S')
theorem b_len_C {l : Addr} {vs : List Value} {Q : Value → Shared → Prop} (S : Own c H B cs s) (hm : (l, listP vs) ∈ cs) (h : ∀ t s', Own c H B cs s' → Q (.int vs.length t) s') (hf : vs.length < 2 ^ 62) :
    wpAny c.M A (call (.builtin "len") [.ref l]) Q NE s := b_len_l S (isList_cell S hm) hf h
theorem b_len_T {x : Value} {ds : List PyData} {Q : Value → Shared → Prop} (S : Own c H B cs s) (r : Rd B x (.tuple ds)) (h : ∀ t s', Own c H B cs s' → Q (.int ds.length t) s') (hf : ds.length < 2 ^ 62 := by size_fits) :
    wpAny c.M A (call (.builtin "len") [x]) Q NE s := by
  obtain ⟨l, o, vs, rfl, hb, hl, hr⟩ := r.tuple_inv
  refine len_tuple (isTup_B S hb hl) (by rw [List.size_toArray, hr.length]; omega) ?_
  rw [List.size_toArray, hr.length]
  exact h _ _ (S.tok _)
theorem b_max {a b : Int} {t u : Tok} {Q : Value → Shared → Prop} (S : Own c H B cs s) (hh : A.handled = none) (h : ∀ t s', Own c H B cs s' → Q (.int (if b > a then b else a) t) s') : wpAny c.M A (call (.builtin "max") [.int a t, .int b u]) Q NE s := by
  refine max_two_ints hh fun h' tk hk => ?_
  have S' := S.keeps (t := tk) hk
  by_cases q : b > a
  · rw [if_pos q]; have := h u _ S'; rw [if_pos q] at this; exact this
  · rw [if_neg q]; have := h t _ S'; rw [if_neg q] at this; exact this
theorem pow_i {a n : Int} {t u : Tok} {Q : Value → Shared → Prop} (S : Own c H B cs s) (hn : 0 ≤ n) (hn2 : n ≤ 1000000) (ha : a.natAbs < 2 ^ 64) (h : ∀ t s', Own c H B cs s' → Q (.int (a ^ n.toNat) t) s') :
    wpAny c.M A (binaryOp .Pow (.int a t) (.int n u)) Q NE s := pow_int_small hn hn2 ha (h _ _ (S.tok _))
theorem neg_i {a : Int} {t : Tok} {Q : Value → Shared → Prop} (S : Own c H B cs s) (h : ∀ t s', Own c H B cs s' → Q (.int (-a) t) s') : wpAny c.M A (unaryOp .USub (.int a t)) Q NE s := PyProof.Rows.neg_int (h _ _ (S.tok _))
theorem eq_s {a b : Str} {t u : Tok} {Q : Value → Shared → Prop} (h : Q (.bool (a == b)) s) : wpAny c.M A (compareOp .Eq (.str a t) (.str b u)) Q NE s := eq_str h
theorem RdAll.ints {B : PM} : ∀ {vs : List Value} {ns : List Int}, RdAll B vs (ns.map PyData.int) → IntsAre vs ns
  | _, [], h => by rw [h.nil_inv]; exact .nil
  | _, n :: ns, h => by
    obtain ⟨v, r, rfl, h1, h2⟩ := h.cons_inv
    obtain ⟨t, rfl⟩ := h1.int_inv
    exact .cons _ _ (RdAll.ints h2)
theorem RdAll.of_ints {B : PM} : ∀ {vs : List Value} {ns : List Int}, IntsAre vs ns → RdAll B vs (ns.map PyData.int)
  | _, _, .nil => .nil
  | _, _, .cons _ _ h => .cons (.int _ _) (RdAll.of_ints h)
theorem b_sorted {l : Addr} {vs : List Value} {ns : List Int} {Q : Value → Shared → Prop} (S : Own c H B cs s) (hl : s.heap.IsList l vs.toArray) (r : RdAll B vs (ns.map PyData.int)) (h64 : ns.length < 64)
    (h : ∀ (a : Addr) (ms : List Int) B' s', ms.Perm ns → ms.Pairwise (· ≤ ·) → Le B B' → Rd B' (.ref a) (.list (ms.map PyData.int)) → Own c H B' cs s' → Q (.ref a) s') : wpAny c.M A (call (.builtin "sorted") [.ref l]) Q NE s := by
  refine sorted_ints hl r.ints (by rw [r.length, List.length_map]; exact h64) fun out ms hI hp hs => ?_
  obtain ⟨e, he⟩ := sortedAll_at s.heap vs out
  have hn : s.heap.get? (s.heap.objs.size + 1) = none := by
    cases q : s.heap.get? (s.heap.objs.size + 1) with
    | none => rfl
    | some o' => exact absurd (Heap.lt_size q) (Nat.not_lt.mpr (Nat.le_succ _))
  have S₂ := S.add (t := s.toks) (a := s.heap.objs.size + 1) (P := listP out.toList) (fun a o e => sortedAll_old e) hn ⟨_, he, e, rfl⟩
  obtain ⟨B', hle, hr, S₃⟩ := S₂.frz (RdAll.of_ints hI)
  exact h _ ms B' _ hp hs hle hr S₃
theorem mul_l {l : Addr} {vs : List Value} {n : Nat} {x : Int} {u : Tok} {Q : Value → Shared → Prop} (S : Own c H B cs s) (hl : s.heap.get? l = some { cls := .type "list", data := .seq vs.toArray n }) (hlo : 0 ≤ x) (hhi : x < 1000) (hsz : vs.length < 1000)
    (h : ∀ a s', B a = none → Own c H B ((a, listP (List.replicate x.toNat vs).flatten) :: cs) s' → Q (.ref a) s') : wpAny c.M A (binaryOp .Mult (.ref l) (.int x u)) Q NE s := by
  have hb : vs.toArray.size * x.toNat ≤ 1000 * 1000 := Nat.mul_le_mul (by rw [List.size_toArray]; omega) (by omega)
  refine wpAny_binaryOp_repeat_ref (T := "list") (U := "int") (by decide) ⟨_, hl, rfl⟩ (fun s' => typeIs_int s' x u) noFill_list_mul PySem.F.fills_int_mul PySem.F.slot_int_rmul repeat_list PySem.F.slot_int_index.lookup
    (call_meets PySem.F.slot_int_rmul (typeIs_int s x u) PySem.F.entry_int_rmul (PySem.F.args_int_rmul_2 _ _) (int___rmul___int_list x u l vs.toArray n)
      ⟨hl, rfl, ⟨_, hl, rfl⟩, call_meets PySem.F.slot_list_mul ⟨_, hl, rfl⟩ PySem.F.entry_list_mul (PySem.F.args_list_mul_2 _ _)
        (AutoListH.list___mul___list_int_3 l vs.toArray n x u (by simp [Builtin.List.listFitsIndex]; omega) (by omega) (by simp [Builtin.List.listTooLong, sizeLine] at *; omega))
        ⟨hl, h _ _ S.newB (S.push (t := s.toks) ?_ rfl)⟩⟩)
  exact ⟨0, by rw [listMul_foldl_if]⟩
theorem add_l {l b : Addr} {vs ws : List Value} {n n2 : Nat} {Q : Value → Shared → Prop} (S : Own c H B cs s) (hl : s.heap.get? l = some { cls := .type "list", data := .seq vs.toArray n }) (hb : s.heap.get? b = some { cls := .type "list", data := .seq ws.toArray n2 })
    (h : ∀ a s', B a = none → Own c H B ((a, listP (vs ++ ws)) :: cs) s' → Q (.ref a) s') (hsz : vs.length + ws.length ≤ sizeLine) : wpAny c.M A (binaryOp .Add (.ref l) (.ref b)) Q NE s :=
  P.add_list hl hb (h _ _ S.newB (S.push (t := s.toks) ⟨0, by simp⟩ rfl)) (by simpa using hsz)
theorem add_C {l b : Addr} {vs ws : List Value} {Q : Value → Shared → Prop} (S : Own c H B cs s) (hl : (l, listP vs) ∈ cs) (hb : (b, listP ws) ∈ cs)
    (h : ∀ a s', B a = none → Own c H B ((a, listP (vs ++ ws)) :: cs) s' → Q (.ref a) s') (hsz : vs.length + ws.length ≤ sizeLine) : wpAny c.M A (binaryOp .Add (.ref l) (.ref b)) Q NE s := by
  obtain ⟨n, h1⟩ := cellP S hl
  obtain ⟨m, h2⟩ := cellP S hb
  exact add_l S h1 h2 h hsz
theorem add_T {x y : Value} {ds es : List PyData} {Q : Value → Shared → Prop} (S : Own c H B cs s) (r : Rd B x (.tuple ds)) (r' : Rd B y (.tuple es)) (h1 : ds ≠ []) (h2 : es ≠ []) (hsz : ds.length + es.length ≤ sizeLine)
    (h : ∀ a B' s', Le B B' → Rd B' (.ref a) (.tuple (ds ++ es)) → Own c H B' cs s' → Q (.ref a) s') : wpAny c.M A (binaryOp .Add x y) Q NE s := by
  obtain ⟨l, o, vs, rfl, hb, ⟨n, rfl⟩, hr⟩ := r.tuple_inv
  obtain ⟨l', o', ws, rfl, hb', ⟨n', rfl⟩, hr'⟩ := r'.tuple_inv
  refine P.add_tuple (S.hB _ _ hb) (S.hB _ _ hb') ?_ ?_ ?_ (by simpa [hr.length, hr'.length] using hsz)
  · intro e
    have : vs = [] := by simpa using e
    subst this; have := hr.length; simp at this; exact h1 (List.eq_nil_of_length_eq_zero this.symm)
  · intro e
    have : ws = [] := by simpa using e
    subst this; have := hr'.length; simp at this; exact h2 (List.eq_nil_of_length_eq_zero this.symm)
  · have S₂ := S.push (t := s.toks) (P := tupP (vs ++ ws)) (o := { cls := .type "tuple", data := .seq (vs.toArray ++ ws.toArray) }) ⟨0, by simp⟩ rfl
    obtain ⟨B', o, hle, hb, hp, _, S₃⟩ := S₂.freeze
    exact h _ B' _ hle (.tuple hb hp ((hr.append hr').mono hle)) S₃
end
section
variable {c : Cx} {H B : PM} {cs cs' : List Cell} {s : Shared} {A : Around} {env : Env} {pos : Pos}
theorem draw_l {it l : Addr} {items : Array Value} (hne : l ≠ it) : ∀ (n i : Nat) (s : Shared) (Q : List Value → Shared → Prop), s.heap.IsListIter it l i → s.heap.IsList l items → i + n ≤ items.size →
    (∀ h', h'.IsListIter it l (i + n) → Heap.SameBut it s.heap h' → Q ((items.toList.drop i).take n) { s with heap := h' }) → wpAny c.M A (draw (.ref it) n) Q NE s
  | 0, i, s, Q, hit, _, _, hQ => by
    show wpAny _ _ (pure []) Q NE s
    exact wpAny_pure (by simpa using hQ s.heap hit (Heap.SameBut.refl ..))
  | n + 1, i, s, Q, hit, hl, hle, hQ => by
    have hlt : i < items.size := by omega
    show wpAny _ _ (pyNext (.ref it) >>= _) Q NE s
    refine wpAny_bind (wpAny_pyNext_list_item hit hl (x := items[i]) (by simp [hlt]) fun h₁ hit₁ hs₁ => ?_)
    refine wpAny_bind (wpAny_holding (draw_l hne n (i + 1) _ _ hit₁ (hl.extBut hs₁.extBut hne) (by omega) fun h₂ hit₂ hs₂ => wpAny_pure ?_))
    have hd : items.toList.drop i = items[i] :: items.toList.drop (i + 1) := by simp [List.drop_eq_getElem_cons, hlt]
    have := hQ h₂ (by rw [show i + (n + 1) = i + 1 + n by omega]; exact hit₂) (hs₁.trans hs₂)
    rw [hd, List.take_succ_cons] at this
    exact this
theorem unpackItems_l {l : Addr} {items : Array Value} {Q : List Value → Shared → Prop} (hh : A.handled = none) (hl : s.heap.IsList l items)
    (hQ : ∀ h', Heap.ExtBut s.heap.objs.size s.heap h' → Q items.toList { s with heap := h' }) : wpAny c.M A (unpackItems (.ref l) items.size none) Q NE s := by
  have hlt : l ≠ s.heap.objs.size := by obtain ⟨o, ho, _⟩ := hl; exact Nat.ne_of_lt (Heap.lt_size ho)
  unfold unpackItems
  refine wpAny_bind ?_
  unfold notIterableAtAll
  refine wpAny_bind (wpAny_specialOf hl.typeIs slot_list_iter.lookup ?_)
  refine wpAny_pure ?_
  simp only [Bool.false_eq_true, if_false]
  refine wpAny_bind (wpAny_holding (wpAny_pyIter_list hl ?_))
  refine wpAny_bind (wpAny_holding (draw_l hlt items.size 0 _ _ ⟨_, Heap.get?_push_size _ rfl, rfl, rfl⟩ (hl.push _) (by omega) fun h₁ hit₁ hs₁ => ?_))
  have hall : List.take items.size (List.drop 0 items.toList) = items.toList := by
    rw [List.drop_zero]; exact List.take_of_length_le (by simp)
  rw [hall]
  rw [if_neg (by simp)]
  have hl₁ : h₁.IsList l items := (hl.push _).extBut hs₁.extBut hlt
  refine wpAny_bind (wpAny_holding (wpAny_pyNext_list_end hh hit₁ hl₁ (by simp) fun h₂ he₂ => ?_))
  simp only [Option.isSome_none, Bool.false_eq_true, if_false]
  refine wpAny_pure (hQ h₂ fun b o hb e => he₂ b o hb (hs₁.extBut b o hb (Heap.get?_push_of_some _ e)))
theorem Own.ext (S : Own c H B cs s) {h' : Heap} (he : Heap.ExtBut s.heap.objs.size s.heap h') : Own c H B cs { s with heap := h' } :=
  S.keeps (t := s.toks) fun a o e => he a o (Nat.ne_of_lt (Heap.lt_size e)) e
theorem as_T {elts : List Expr} {k} {x : Value} {ds : List PyData} {Q : Unit → Shared → Prop} (S : Own c H B cs s) (hh : A.handled = none) (r : Rd B x (.tuple ds))
    (h : ∀ vs s', RdAll B vs ds → Own c H B cs s' → wpAny c.M A (assignInOrder ((assignEach elts env).map (·.2)) vs) Q NE s')
    (hn : (assignEach elts env).length = ds.length := by rfl) (hstar : (assignEach elts env).findIdx? (·.1) = none := by rfl) : wpAny c.M A (assign (.Tuple elts k pos) env x) Q NE s := by
  obtain ⟨l, o, vs, rfl, hb, hl, hr⟩ := r.tuple_inv
  refine assign_Tuple_tuple hh (isTup_B S hb hl) (by rw [hn, List.size_toArray, hr.length]) hstar fun h' he => ?_
  have := h vs _ hr (S.ext he)
  simpa using this
theorem as_L {elts : List Expr} {k} {x : Value} {ds : List PyData} {Q : Unit → Shared → Prop} (S : Own c H B cs s) (hh : A.handled = none) (r : Rd B x (.list ds))
    (h : ∀ vs s', RdAll B vs ds → Own c H B cs s' → wpAny c.M A (assignInOrder ((assignEach elts env).map (·.2)) vs) Q NE s')
    (hn : (assignEach elts env).length = ds.length := by rfl) (hstar : (assignEach elts env).findIdx? (·.1) = none := by rfl) : wpAny c.M A (assign (.Tuple elts k pos) env x) Q NE s := by
  obtain ⟨l, o, vs, rfl, hb, hl, hr⟩ := r.list_inv
  rw [PyProof.Rows.assign_Tuple]
  refine wpAny_bind (wpAny_standAt ?_)
  unfold unpack
  have e1 : (assignEach elts env).length = vs.toArray.size := by rw [hn, List.size_toArray, hr.length]
  rw [e1, hstar]
  refine wpAny_bind (wpAny_holding (unpackItems_l hh (isList_B S hb hl) fun h' he => ?_))
  have := h vs _ hr (S.ext he)
  simpa using this
theorem as_T2 {elts : List Expr} {k} {x : Value} {d e : PyData} {Q : Unit → Shared → Prop} (S : Own c H B cs s) (hh : A.handled = none) (r : Rd B x (.tuple [d, e]))
    (h : ∀ v u s', Rd B v d → Rd B u e → Own c H B cs s' → wpAny c.M A (assignInOrder ((assignEach elts env).map (·.2)) [v, u]) Q NE s')
    (hn : (assignEach elts env).length = 2 := by rfl) (hstar : (assignEach elts env).findIdx? (·.1) = none := by rfl) : wpAny c.M A (assign (.Tuple elts k pos) env x) Q NE s :=
  as_T S hh r (fun vs s' hr S' => by
    obtain ⟨v, r1, rfl, h1, h2⟩ := hr.cons_inv
    obtain ⟨u, r2, rfl, h3, h4⟩ := h2.cons_inv
    rw [h4.nil_inv]
    exact h v u s' h1 h3 S') hn hstar
theorem as_L2 {elts : List Expr} {k} {x : Value} {d e : PyData} {Q : Unit → Shared → Prop} (S : Own c H B cs s) (hh : A.handled = none) (r : Rd B x (.list [d, e]))
    (h : ∀ v u s', Rd B v d → Rd B u e → Own c H B cs s' → wpAny c.M A (assignInOrder ((assignEach elts env).map (·.2)) [v, u]) Q NE s')
    (hn : (assignEach elts env).length = 2 := by rfl) (hstar : (assignEach elts env).findIdx? (·.1) = none := by rfl) : wpAny c.M A (assign (.Tuple elts k pos) env x) Q NE s :=
  as_L S hh r (fun vs s' hr S' => by
    obtain ⟨v, r1, rfl, h1, h2⟩ := hr.cons_inv
    obtain ⟨u, r2, rfl, h3, h4⟩ := h2.cons_inv
    rw [h4.nil_inv]
    exact h v u s' h1 h3 S') hn hstar
theorem take_succ_map {ds : List PyData} {f : PyData → PyData} {k : Nat} {d : PyData} (h : ds[k]? = some d) : (ds.take (k + 1)).map f = (ds.take k).map f ++ [f d] := by
  rw [List.take_add_one, h]; simp
theorem comp_mapT {elt target : Expr} {scope : Scope} {cl : List (Str × Addr)} {it : Addr} {ds : List PyData} {St : Nat → List Cell} {K : Value → Shared → Prop} {B₀ : PM}
    (W : WalkT c A B₀ it ds.length (VD ds) St target) (S : Own c H B (St 0 ++ cs) s) (hle : Le B₀ B) (f : PyData → PyData)
    (turn : ∀ d v H' B' s' C, d ∈ ds → Rd B' v d → Own c H' B' ((C, frameP []) :: cs) s' → Le B B' →
      wpAny c.M A (assign target (compEnvC scope cl C env) v) (fun _ s₁ => wpAny c.M A (eval elt (compEnvC scope cl C env)) (fun y s₃ => ∃ B'' bs, Own c H' B'' ((C, frameP bs) :: cs) s₃ ∧ Le B' B'' ∧ Rd B'' y (f d)) NE s₁) NE s')
    (after : ∀ D ys B' s', B' D = none → RdAll B' ys (ds.map f) → Own c H B' ((D, listP ys) :: cs) s' → Le B B' → K (.ref D) s')
    (hsz : ds.length ≤ sizeLine) (hcell : (scope.names.all fun x => !(x.2 == .cell)) = true := by rfl) (hk : scope.kind = .function := by rfl) : Comp c A elt target [] scope cl (.ref it) env K s := by
  refine comp_cT W S hle (fun k ys B' => RdAll B' ys ((ds.take k).map f)) (by simp; exact .nil) ?_ (fun k ys B' B'' hle h => h.mono hle) ?_ hcell hsz hk
  · intro k v ys H' B' s' C hk hle hv hj S'
    obtain ⟨d, hd, rv⟩ := hv
    refine wpAny_mono (turn d v H' B' s' C (List.mem_of_getElem? hd) rv S' hle) (fun _ s₁ h₁ => tests_nil (ite_t rfl (wpAny_mono h₁ (fun y s₂ h₂ => ?_) fun _ _ q => q))) fun _ _ q => q
    obtain ⟨B'', bs, a, b, r⟩ := h₂
    refine ⟨B'', bs, b, ?_, a⟩
    rw [take_succ_map hd]
    exact (hj.mono b).snoc r
  · intro D ys B' s' hle hD hlen hj S'
    rw [List.take_of_length_le (Nat.le_refl _)] at hj
    exact after D ys B' s' hD hj S' hle
theorem comp_map {elt target : Expr} {scope : Scope} {cl : List (Str × Addr)} {it : Addr} {ds : List PyData} {St : Nat → List Cell} {K : Value → Shared → Prop} {B₀ : PM}
    (W : Walk c A B₀ it ds.length (VD ds) St) (S : Own c H B (St 0 ++ cs) s) (hle : Le B₀ B) (f : PyData → PyData)
    (turn : ∀ d v H' B' s' C, d ∈ ds → Rd B' v d → Own c H' B' ((C, frameP []) :: cs) s' → Le B B' →
      wpAny c.M A (assign target (compEnvC scope cl C env) v) (fun _ s₁ => wpAny c.M A (eval elt (compEnvC scope cl C env)) (fun y s₃ => ∃ B'' bs, Own c H' B'' ((C, frameP bs) :: cs) s₃ ∧ Le B' B'' ∧ Rd B'' y (f d)) NE s₁) NE s')
    (after : ∀ D ys B' s', B' D = none → RdAll B' ys (ds.map f) → Own c H B' ((D, listP ys) :: cs) s' → Le B B' → K (.ref D) s')
    (hsz : ds.length ≤ sizeLine) (hcell : (scope.names.all fun x => !(x.2 == .cell)) = true := by rfl) (hk : scope.kind = .function := by rfl) : Comp c A elt target [] scope cl (.ref it) env K s :=
  comp_mapT (W.toT _) S hle f turn after hsz hcell hk
theorem x_unpack {elts k tpos value} {rest : List Stmt} {ls : List (List Stmt)} {Q : Flow → Shared → Prop}
    (h : wpAny c.M A (eval value env) (fun v s₁ => wpAny c.M A (assign (.Tuple elts k tpos) env v) (fun _ s₂ => wpAny c.M A (runs (rest :: ls) env) Q NE s₂) NE s₁) NE s)
    (hs : swapsWithSole [.Tuple elts k tpos] value pos.line env = pure false := by rfl)
    (hw : swappedStores [.Tuple elts k tpos] value env = pure none := by rfl) : wpAny c.M A (runs ((.Assign [.Tuple elts k tpos] value pos :: rest) :: ls) env) Q NE s :=
  wpAny_execs_cons (Assign_Tuple h hs hw)
theorem x_swap {elts elts' k k' tpos vpos} {names : List Str} {rest : List Stmt} {ls : List (List Stmt)} {Q : Flow → Shared → Prop}
    (hs : swapsWithSole [.Tuple elts k tpos] (.Tuple elts' k' vpos) pos.line env = pure false)
    (hw : swappedStores [.Tuple elts k tpos] (.Tuple elts' k' vpos) env = pure (some names)) (hh : A.handled = none)
    (h : wpAny c.M A (spliced (backTo vpos (starEach elts' env))) (fun vs s₁ => vs.length = names.length ∧ vs.length ≤ 10 ∧ ∃ H B cs, Own c H B cs s₁ ∧ ∀ s₂, Own c H B cs s₂ →
      wpAny c.M A (assignInOrder (names.reverse.map fun n => bindName env n) vs.reverse) (fun _ s₃ => wpAny c.M A (runs (rest :: ls) env) Q NE s₃) NE s₂) NE s) :
    wpAny c.M A (runs ((.Assign [.Tuple elts k tpos] (.Tuple elts' k' vpos) pos :: rest) :: ls) env) Q NE s := by
  refine wpAny_execs_cons (Assign_Tuple_swapped (Tuple_ (wpAny_mono h (fun vs s₁ h₁ => ?_) fun _ _ q => q)) hs hw)
  obtain ⟨h1, h2, H, B, cs, S, hq⟩ := h₁
  refine wpAny_newObj_type ?_ (by show vs.toArray.size ≤ sizeLine; rw [List.size_toArray, sizeLine_eq]; omega)
  have S₂ := S.push (t := s₁.toks) (P := tupP vs) (o := { cls := .type "tuple", data := .seq vs.toArray }) ⟨0, rfl⟩ rfl
  have e1 : names.length = vs.toArray.size := by rw [List.size_toArray, h1]
  rw [e1]
  refine unpackItems_tuple hh ⟨_, Heap.get?_push_size _ rfl, rfl, 0, rfl⟩ fun h' he => ?_
  have := hq _ (S₂.ext he).drop
  rw [List.toList_toArray]
  exact this
theorem x_swap3 {a b d : Str} {pa pb pd : Pos} {elts' k k' tpos vpos} {rest : List Stmt} {ls : List (List Stmt)} {Q : Flow → Shared → Prop}
    (hs : swapsWithSole [.Tuple [.Name a pa, .Name b pb, .Name d pd] k tpos] (.Tuple elts' k' vpos) pos.line env = pure false)
    (hw : swappedStores [.Tuple [.Name a pa, .Name b pb, .Name d pd] k tpos] (.Tuple elts' k' vpos) env = pure (some [a, b, d])) (hh : A.handled = none)
    (h : wpAny c.M A (spliced (backTo vpos (starEach elts' env))) (fun vs s₁ => ∃ v1 v2 v3, vs = [v1, v2, v3] ∧ ∃ H B cs, Own c H B cs s₁ ∧ ∀ s₂, Own c H B cs s₂ →
      wpAny c.M A (storeName env d v3) (fun _ s₃ => wpAny c.M A (storeName env b v2) (fun _ s₄ => wpAny c.M A (storeName env a v1) (fun _ s₅ => wpAny c.M A (runs (rest :: ls) env) Q NE s₅) NE s₄) NE s₃) NE s₂) NE s) :
    wpAny c.M A (runs ((.Assign [.Tuple [.Name a pa, .Name b pb, .Name d pd] k tpos] (.Tuple elts' k' vpos) pos :: rest) :: ls) env) Q NE s := by
  refine x_swap hs hw hh (wpAny_mono h (fun vs s₁ h₁ => ?_) fun _ _ q => q)
  obtain ⟨v1, v2, v3, rfl, H, B, cs, S, hq⟩ := h₁
  refine ⟨rfl, by simp, H, B, cs, S, fun s₂ S₂ => ?_⟩
  exact assignInOrder_cons (bindName_ (wpAny_mono (hq s₂ S₂) (fun _ s₃ h₃ => assignInOrder_cons (bindName_ (wpAny_mono h₃ (fun _ s₄ h₄ => assignInOrder_cons (bindName_ (wpAny_mono h₄ (fun _ s₅ h₅ => assignInOrder_nil h₅) fun _ _ q => q))) fun _ _ q => q))) fun _ _ q => q))
theorem x_swap2 {a b : Str} {pa pb : Pos} {elts' k k' tpos vpos} {rest : List Stmt} {ls : List (List Stmt)} {Q : Flow → Shared → Prop}
    (hs : swapsWithSole [.Tuple [.Name a pa, .Name b pb] k tpos] (.Tuple elts' k' vpos) pos.line env = pure false)
    (hw : swappedStores [.Tuple [.Name a pa, .Name b pb] k tpos] (.Tuple elts' k' vpos) env = pure (some [a, b])) (hh : A.handled = none)
    (h : wpAny c.M A (spliced (backTo vpos (starEach elts' env))) (fun vs s₁ => ∃ v1 v2, vs = [v1, v2] ∧ ∃ H B cs, Own c H B cs s₁ ∧ ∀ s₂, Own c H B cs s₂ →
      wpAny c.M A (storeName env b v2) (fun _ s₄ => wpAny c.M A (storeName env a v1) (fun _ s₅ => wpAny c.M A (runs (rest :: ls) env) Q NE s₅) NE s₄) NE s₂) NE s) :
    wpAny c.M A (runs ((.Assign [.Tuple [.Name a pa, .Name b pb] k tpos] (.Tuple elts' k' vpos) pos :: rest) :: ls) env) Q NE s := by
  refine x_swap hs hw hh (wpAny_mono h (fun vs s₁ h₁ => ?_) fun _ _ q => q)
  obtain ⟨v1, v2, rfl, H, B, cs, S, hq⟩ := h₁
  refine ⟨rfl, by simp, H, B, cs, S, fun s₂ S₂ => ?_⟩
  exact assignInOrder_cons (bindName_ (wpAny_mono (hq s₂ S₂) (fun _ s₄ h₄ => assignInOrder_cons (bindName_ (wpAny_mono h₄ (fun _ s₅ h₅ => assignInOrder_nil h₅) fun _ _ q => q))) fun _ _ q => q))
theorem cut {α : Type} {t : Sem α} {Q' Q : α → Shared → Prop} (h : wpAny c.M A t Q' NE s) (k : ∀ v s', Q' v s' → Q v s') : wpAny c.M A t Q NE s := wpAny_mono h k fun _ _ q => q
noncomputable def Res (c : Cx) (H B : PM) (cs : List Cell) (P : PM → Value → Prop) (v : Value) (s' : Shared) : Prop := ∃ B', Own c H B' cs s' ∧ Le B B' ∧ P B' v
theorem cut_v {t : Sem Value} {Q : Value → Shared → Prop} (_S : Own c H B cs s) (P : PM → Value → Prop) (h : wpAny c.M A t (Res c H B cs P) NE s)
    (k : ∀ v B' s', P B' v → Own c H B' cs s' → Le B B' → Q v s') : wpAny c.M A t Q NE s :=
  wpAny_mono h (fun v s' ⟨B', a, b, d⟩ => k v B' s' d a b) fun _ _ q => q
theorem loop_fT {target : Expr} {body : List Stmt} {it : Addr} {n : Nat} {V : PM → Nat → Value → Prop} {St : Nat → List Cell} {K : Shared → Prop} {B₀ : PM} {L : Addr} {bs : List (Str × Value)}
    (W : WalkT c A B₀ it n V St target) (S : Own c H B (St 0 ++ ((L, frameP bs) :: cs)) s) (hle : Le B₀ B) (bs₀ : List (Str × Value)) (hbs : ∀ p ∈ bs₀, bs.lookup p.1 = some p.2) (J : Nat → PM → List Cell → Prop) (h0 : J 0 B cs)
    (hJ : ∀ k B' B'' cs, Le B' B'' → J k B' cs → J k B'' cs)
    (turn : ∀ k v H' B' cs' s', k < n → V B' k v → J k B' cs' → Own c H' B' ((L, frameP bs₀) :: cs') s' → Le B B' →
      wpAny c.M A (assign target env v) (fun _ s₁ => wpAny c.M A (runs [body] env) (fun f s₂ => f = .next ∧ ∃ B'' cs'' bs, Own c H' B'' ((L, frameP bs) :: cs'') s₂ ∧ Le B' B'' ∧ J (k + 1) B'' cs'' ∧ ∀ p ∈ bs₀, bs.lookup p.1 = some p.2) NE s₁) NE s')
    (after : ∀ B' cs' s', J n B' cs' → Own c H B' ((L, frameP bs₀) :: cs') s' → Le B B' → K s') : Loop c A target (.ref it) body env K s := by
  have S₁ : Own c H B (St 0 ++ ((L, frameP bs₀) :: cs)) s := (((S.perm List.perm_middle).weak (frameP_sub hbs)).perm List.perm_middle.symm)
  refine loop_T W S₁ hle (fun k B' cs' => ∃ cs'', cs' = (L, frameP bs₀) :: cs'' ∧ J k B' cs'') ⟨cs, rfl, h0⟩ ?_ ?_ ?_
  · rintro k v H' B' cs' s' hk hle hv ⟨cs'', rfl, hj⟩ S'
    refine wpAny_mono (turn k v H' B' cs'' s' hk hv hj S' hle) (fun _ s₁ h₁ => wpAny_mono h₁ (fun f s₂ h₂ => ?_) fun _ _ q => q) fun _ _ q => q
    obtain ⟨rfl, B'', cs₃, bs', a, b, d, e⟩ := h₂
    exact ⟨rfl, B'', _, b, ⟨cs₃, rfl, d⟩, a.weak (frameP_sub e)⟩
  · rintro k B' B'' cs' hle ⟨cs'', rfl, hj⟩
    exact ⟨cs'', rfl, hJ _ _ _ _ hle hj⟩
  · rintro B' cs' s' hle ⟨cs'', rfl, hj⟩ S'
    exact after B' cs'' s' hj S' hle
theorem loop_f {target : Expr} {body : List Stmt} {it : Addr} {n : Nat} {V : PM → Nat → Value → Prop} {St : Nat → List Cell} {K : Shared → Prop} {B₀ : PM} {L : Addr} {bs : List (Str × Value)}
    (W : Walk c A B₀ it n V St) (S : Own c H B (St 0 ++ ((L, frameP bs) :: cs)) s) (hle : Le B₀ B) (bs₀ : List (Str × Value)) (hbs : ∀ p ∈ bs₀, bs.lookup p.1 = some p.2) (J : Nat → PM → List Cell → Prop) (h0 : J 0 B cs)
    (hJ : ∀ k B' B'' cs, Le B' B'' → J k B' cs → J k B'' cs)
    (turn : ∀ k v H' B' cs' s', k < n → V B' k v → J k B' cs' → Own c H' B' ((L, frameP bs₀) :: cs') s' → Le B B' →
      wpAny c.M A (assign target env v) (fun _ s₁ => wpAny c.M A (runs [body] env) (fun f s₂ => f = .next ∧ ∃ B'' cs'' bs, Own c H' B'' ((L, frameP bs) :: cs'') s₂ ∧ Le B' B'' ∧ J (k + 1) B'' cs'' ∧ ∀ p ∈ bs₀, bs.lookup p.1 = some p.2) NE s₁) NE s')
    (after : ∀ B' cs' s', J n B' cs' → Own c H B' ((L, frameP bs₀) :: cs') s' → Le B B' → K s') : Loop c A target (.ref it) body env K s :=
  loop_fT (W.toT _) S hle bs₀ hbs J h0 hJ turn after
theorem sub_nil {bs : List (Str × Value)} : ∀ p ∈ ([] : List (Str × Value)), bs.lookup p.1 = some p.2 := fun _ h => nomatch h
theorem sub_cons {bs r : List (Str × Value)} {x : Str} {v : Value} (h : bs.lookup x = some v) (hr : ∀ p ∈ r, bs.lookup p.1 = some p.2) : ∀ p ∈ ((x, v) :: r), bs.lookup p.1 = some p.2 := List.forall_mem_cons.mpr ⟨h, hr⟩
theorem with_list {l r : List Stmt} {a : Stmt} {sc : Scope} {names : List (Str × NameKind)} {more : List (Str × Const)} {q : Str} {L fa : Addr} {cd : Value} {cl : List (Str × Addr)} {Q : Flow → Shared → Prop} (hl : l = a :: r) (hs : sc = ⟨.function, names, false, false, more⟩)
    (h : wpAny c.M A (runs [a :: r] (fEnv ⟨.function, names, false, false, more⟩ q L fa cd cl)) Q NE s) : wpAny c.M A (runs [l] (fEnv sc q L fa cd cl)) Q NE s := by
  rw [hl, hs]; exact h
theorem ao_nil {xs : List Value} {Q : Unit → Shared → Prop} (h : Q () s) : wpAny c.M A (assignInOrder [] xs) Q NE s := assignInOrder_nil h
theorem ao_cons {t : Value → Sem Unit} {ts : List (Value → Sem Unit)} {x : Value} {xs : List Value} {Q : Unit → Shared → Prop}
    (h : wpAny c.M A (t x) (fun _ s₁ => wpAny c.M A (assignInOrder ts xs) Q NE s₁) NE s) : wpAny c.M A (assignInOrder (t :: ts) (x :: xs)) Q NE s := assignInOrder_cons h
end
inductive End
  | goto (g : Int) | switch (rows : List (PyData × Int)) (rest : Option Int) | call1 (g : Int) | call0 | drop (g : Int) | asrt (g : Int) | ret | panic | unreach
noncomputable abbrev sD (x : String) : PyData := .str (Str.ofString x)
noncomputable def placeD : PyData := .tuple [.int 1, .tuple []]
noncomputable def copyD : PyData := .tuple [sD "copy", placeD]
noncomputable def fnD : PyData := .tuple [sD "fn", sD "g", .tuple []]
noncomputable def optD : Option Int → PyData
  | none => .none
  | some g => .int g
noncomputable def rowD (p : PyData × Int) : PyData := .tuple [p.1, .int p.2]
noncomputable def End.d : End → PyData
  | .goto g => .tuple [sD "goto", .int g]
  | .switch rows rest => .tuple [sD "switch", copyD, .tuple (rows.map rowD), optD rest]
  | .call1 g => .tuple [sD "call", fnD, .tuple [copyD], placeD, .int g]
  | .call0 => .tuple [sD "call", fnD, .tuple [], placeD, .none]
  | .drop g => .tuple [sD "drop", placeD, .int g]
  | .asrt g => .tuple [sD "assert", copyD, .bool false, sD "goes over", .int g]
  | .ret => .tuple [sD "return"]
  | .panic => .tuple [sD "panic", sD "p"]
  | .unreach => .tuple [sD "unreachable"]
noncomputable def End.told : End → List (Option Int)
  | .goto g => [some g]
  | .switch rows rest => rows.map (fun p => some p.2) ++ [rest]
  | .call1 g => [some g]
  | .call0 => [none]
  | .drop g => [some g]
  | .asrt g => [some g]
  | _ => []
noncomputable def addOnce (found : List Int) : Option Int → List Int
  | none => found
  | some g => if g ∈ found then found else found ++ [g]
noncomputable def once (l : List (Option Int)) : List Int := l.foldl addOnce []
noncomputable def End.succs (e : End) : List Int := once e.told
noncomputable def End.map (f : Int → Int) : End → End
  | .goto g => .goto (f g)
  | .switch rows rest => .switch (rows.map fun p => (p.1, f p.2)) (rest.map f)
  | .call1 g => .call1 (f g)
  | .call0 => .call0
  | .drop g => .drop (f g)
  | .asrt g => .asrt (f g)
  | .ret => .ret
  | .panic => .panic
  | .unreach => .unreach
noncomputable def Sh (n : Nat) (d : PyData) : Prop := d.canLay0 = true ∧ d.depth ≤ n
theorem Sh.shaped {n : Nat} {d : PyData} (h : Sh n d) (hn : n ≤ 64 := by decide) : SeqAt.shaped d = true := by
  unfold SeqAt.shaped; rw [h.1, decide_eq_true (Nat.le_trans h.2 hn)]; rfl
theorem Sh.mono {n m : Nat} {d : PyData} (h : Sh n d) (hn : n ≤ m := by decide) : Sh m d := ⟨h.1, Nat.le_trans h.2 hn⟩
theorem ShAll {n : Nat} : ∀ {xs : List PyData}, (∀ x ∈ xs, Sh n x) → PyData.canLayAll0 xs = true ∧ PyData.depthAll xs ≤ n
  | [], _ => ⟨rfl, Nat.zero_le _⟩
  | x :: xs, h => by
    obtain ⟨a, b⟩ := ShAll (xs := xs) fun y hy => h y (List.mem_cons_of_mem _ hy)
    obtain ⟨a', b'⟩ := h x (List.mem_cons_self ..)
    refine ⟨by simp only [PyData.canLayAll0, a, a']; rfl, ?_⟩
    simp only [PyData.depthAll]
    exact Nat.max_le.mpr ⟨b', b⟩
theorem Sh.list {n : Nat} {xs : List PyData} (h : ∀ x ∈ xs, Sh n x) : Sh (n + 1) (.list xs) := by
  obtain ⟨a, b⟩ := ShAll h
  refine ⟨by simp only [PyData.canLay0]; exact a, ?_⟩
  simp only [PyData.depth]; omega
theorem Sh.tuple {n : Nat} {xs : List PyData} (h : ∀ x ∈ xs, Sh n x) : Sh (n + 1) (.tuple xs) := by
  obtain ⟨a, b⟩ := ShAll h
  refine ⟨by simp only [PyData.canLay0]; exact a, ?_⟩
  simp only [PyData.depth]; omega
theorem Sh.int {n : Nat} {i : Int} : Sh n (.int i) := ⟨rfl, Nat.zero_le _⟩
theorem Sh.lit {n : Nat} (x : Str) (h : PyData.strOk x = true) : Sh n (.str x) := ⟨by simp only [PyData.canLay0]; exact h, Nat.zero_le _⟩
theorem all_nil {P : PyData → Prop} : ∀ x ∈ ([] : List PyData), P x := fun _ h => nomatch h
theorem all_cons {P : PyData → Prop} {d : PyData} {ds : List PyData} (h : P d) (hs : ∀ x ∈ ds, P x) : ∀ x ∈ (d :: ds), P x := List.forall_mem_cons.mpr ⟨h, hs⟩
theorem Sh.none {n : Nat} : Sh n .none := ⟨rfl, Nat.zero_le _⟩
theorem Sh.bool {n : Nat} {i : Bool} : Sh n (.bool i) := ⟨rfl, Nat.zero_le _⟩
theorem Sh.opt {n : Nat} : ∀ {o : Option Int}, Sh n (optD o)
  | .none => Sh.none
  | .some _ => Sh.int
local macro_rules | `(tactic| row_room_at sh) => `(tactic| first | assumption | exact Sh.int | exact Sh.none | exact Sh.bool | exact Sh.opt | exact Sh.lit _ (by decide +kernel) | exact Sh.tuple (by row_room_at shl) | exact Sh.list (by row_room_at shl))
local macro_rules | `(tactic| row_room_at shl) => `(tactic| first | exact all_nil | exact all_cons (by row_room_at sh) (by row_room_at shl))
theorem sh_copy : Sh 3 copyD := by unfold copyD placeD; row_room_at sh
theorem sh_place : Sh 2 placeD := by unfold placeD; row_room_at sh
theorem sh_fn : Sh 2 fnD := by unfold fnD; row_room_at sh
noncomputable def End.keys : End → List PyData
  | .switch rows _ => rows.map (·.1)
  | _ => []
theorem End.sh {e : End} (hk : ∀ k ∈ e.keys, Sh 0 k) : Sh 5 e.d := by
  cases e with
  | switch rows rest =>
    refine Sh.tuple (n := 4) fun x hx => ?_
    simp only [List.mem_cons, List.not_mem_nil, or_false] at hx
    rcases hx with rfl | rfl | rfl | rfl
    · exact Sh.lit _ (by decide +kernel)
    · exact sh_copy.mono
    · refine (Sh.tuple (n := 1) fun y hy => ?_).mono
      obtain ⟨p, hp, rfl⟩ := List.mem_map.mp hy
      refine Sh.tuple (n := 0) fun z hz => ?_
      simp only [List.mem_cons, List.not_mem_nil, or_false] at hz
      rcases hz with rfl | rfl
      · exact hk _ (List.mem_map.mpr ⟨p, hp, rfl⟩)
      · exact Sh.int
    · exact Sh.opt
  | _ => unfold End.d; (try unfold copyD); (try unfold fnD); (try unfold placeD); row_room_at sh
noncomputable def End.given (e : End) : List (Option Int) := match e with | .call0 => [] | e => e.told
structure End.Ok (e : End) (many : Int) : Prop where
  told : ∀ g, some g ∈ e.told → 0 ≤ g ∧ g < many
  keys : ∀ k ∈ e.keys, Sh 0 k
  rows : ∀ rows rest, e = .switch rows rest → rows.length ≤ 2
theorem eqv_self {n : Nat} {d : PyData} (h : Sh n d) : PyData.eqv d d = true := SeqAt.eqv_refl d h.1
noncomputable def lawIntD : PyData := .tuple [sD "int", sD "u8"]
structure Wd (c : Cx) : Prop where
  w : World c
  cls : ClsW c
  init : ∃ T o n, c.g.get? T = some o ∧ o.data = .seq #[.none, .none] n ∧ Meth c (Str.ofString "__init__") (Str.ofString "Body.__init__") 0 (.ref T)
  mst : Meth c (Str.ofString "statements") (Str.ofString "Body.statements") 3 .none
  mte : Meth c (Str.ofString "terminator") (Str.ofString "Body.terminator") 4 .none
  msp : Meth c (Str.ofString "spot") (Str.ofString "Body.spot") 5 .none
  gbody : c.mg (Str.ofString "Body") = some (.ref c.C)
  glawint : ∃ v, c.mg (Str.ofString "_law_int") = some v ∧ Rd (HP c.g) v lawIntD
noncomputable abbrev bodyEnv (sp bl lo : Addr) (ac nm : Value) : List (Str × Value) :=
  [(Str.ofString "spots", .ref sp), (Str.ofString "blocks", .ref bl), (Str.ofString "locals", .ref lo), (Str.ofString "arg_count", ac), (Str.ofString "name", nm)]
structure Blk where
  marks : List PyData
  e : End
noncomputable abbrev blkD (b : Blk) : PyData := .list [.list b.marks, b.e.d]
structure Blk.Ok (b : Blk) (n : Nat) : Prop where
  e : b.e.Ok n
  marks : ∀ d ∈ b.marks, Sh 3 d
  len : b.marks.length ≤ 3
structure BodyB (c : Cx) (B : PM) (x : Addr) (bs : List Blk) (sp bl lo : Addr) (ac nm : Value) : Prop where
  at_ : BodyAt c B x (bodyEnv sp bl lo ac nm)
  rd : Rd B (.ref bl) (.list (bs.map blkD))
theorem BodyB.mono {c : Cx} {B B' : PM} {x : Addr} {bs : List Blk} {sp bl lo : Addr} {ac nm : Value} (I : BodyB c B x bs sp bl lo ac nm) (h : Le B B') : BodyB c B' x bs sp bl lo ac nm := ⟨I.at_.mono h, I.rd.mono h⟩
theorem blk_get {bs : List Blk} {k : Nat} {b : Blk} (h : bs[k]? = some b) : (bs.map blkD)[(k : Int).toNat]? = some (blkD b) := by
  rw [Int.toNat_natCast, List.getElem?_map, h]; rfl
section
variable {c : Cx} {H B : PM} {cs : List Cell} {s : Shared} {A : Around}
theorem b_range1 {n : Nat} {t : Tok} {Q : Value → Shared → Prop} (S : Own c H B cs s) (h : ∀ a B' s', Le B B' → RangeAt B' (.ref a) (n + 1) → Own c H B' cs s' → Q (.ref a) s') :
    wpAny c.M A (call (.type "range") [.int ((n : Int) + 1) t]) Q NE s := b_range (by omega) S h
end
theorem any_strs (x : Str) (ds : List Str) : ((ds.map PyData.str).any fun y => PyData.eqv y (.str x)) = ds.any (· == x) := by
  induction ds with
  | nil => rfl
  | cons d ds ih => simp [PyData.eqv, ih]
theorem any2 (x a b : Str) : ([PyData.str a, .str b].any fun y => PyData.eqv y (.str x)) = [a, b].any (· == x) := any_strs x [a, b]
section
variable {c : Cx} {H B : PM} {cs cs' : List Cell} {s : Shared} {A : Around} {env : Env} {pos : Pos}
noncomputable def sliceP (l u st : Value) (o : Obj) : Prop := o = { cls := .type "slice", data := .fields #[l, u, st] }
theorem sliceApplied_to {sl : Addr} {k : Int} {n m : Nat} {u : Tok} {Q : Int × Int × Nat → Shared → Prop} (hs : s.heap.IsSliceOf sl .none (.int k u) .none)
    (ha : Builtin.Slice.sliceAdjust none (some k) 1 (n : Int) = (0, (m : Int))) (h : Q ((0 : Int), 1, m) s) :
    wpAny c.M A (Builtin.Slice.sliceApplied (.ref sl) (pure (n : Int))) Q NE s := by
  obtain ⟨os, hos, hcs, hds⟩ := id hs
  unfold Builtin.Slice.sliceApplied Builtin.Slice.sliceFields
  refine wpAny_bind (wpAny_bind (wpAny_field hos hds (x := .none) rfl (wpAny_bind (wpAny_field hos hds (x := .int k u) rfl (wpAny_bind (wpAny_field hos hds (x := .none) rfl (wpAny_pure ?_)))))))
  refine wpAny_bind (slicePart_none ?_)
  show wpAny _ _ (if ((1 : Int) == 0) = true then _ else _) _ _ s
  rw [if_neg (by decide)]
  refine wpAny_bind (slicePart_none (wpAny_bind (slicePart_int (wpAny_bind (wpAny_pure ?_)))))
  show wpAny _ _ (match Builtin.Slice.sliceAdjust none (some k) 1 (n : Int) with | (lo, hi) => pure (lo, (1 : Int), Builtin.Slice.slicePlaces lo hi 1)) _ _ s
  rw [ha]
  show wpAny _ _ (pure ((0 : Int), (1 : Int), Builtin.Slice.slicePlaces (0 : Int) (m : Int) 1)) _ _ s
  have e : Builtin.Slice.slicePlaces (0 : Int) (m : Int) 1 = m := by
    have := places_from 0 m (Nat.zero_le _)
    simpa using this
  rw [e]
  exact wpAny_pure h
theorem pick_to (xs : Array Value) (m : Nat) (_ha : m ≤ xs.size) : ((List.range m).filterMap fun (k : Nat) => xs[((0 : Int) + (k : Int) * 1).toNat]?).toArray = (xs.toList.take m).toArray := by
  have e : (fun (k : Nat) => xs[((0 : Int) + (k : Int) * 1).toNat]?) = fun k => xs[0 + k]? := by
    funext k
    have : ((0 : Int) + (k : Int) * 1).toNat = 0 + k := by omega
    rw [this]
  rw [e]
  have := pick_run xs 0 m
  rw [List.filterMap_map] at this
  have e2 : ((fun x => xs[x]?) ∘ fun x => 0 + x) = fun k => xs[0 + k]? := rfl
  rw [e2] at this
  rw [this, List.drop_zero]
theorem getItem_tuple_to {t sl : Addr} {items : Array Value} {k : Int} {m : Nat} {u : Tok} {Q : Value → Shared → Prop} (ht : IsTup s.heap t items) (hs : s.heap.IsSliceOf sl .none (.int k u) .none)
    (ha : Builtin.Slice.sliceAdjust none (some k) 1 (items.size : Int) = (0, (m : Int))) (hm : m < items.size)
    (h : Q (.ref s.heap.objs.size) { s with heap := s.heap.push { cls := .type "tuple", data := .seq (items.toList.take m).toArray } })
    (hsz : items.size ≤ sizeLine) : wpAny c.M A (getItem (.ref t) (.ref sl)) Q NE s := by
  have htake : sizeOk (.seq (items.toList.take m).toArray) := by
    show (items.toList.take m).toArray.size ≤ sizeLine
    rw [List.size_toArray, List.length_take, Array.length_toList]
    omega
  obtain ⟨os, hos, hcs, hds⟩ := id hs
  have hTs : s.TypeIs (.ref sl) "slice" := ⟨os, hos, hcs⟩
  unfold getItem
  try with_reducible refine wpAny_holding ?_
  first | refine wpAny_bind (wpAny_pure ?_) | skip
  refine wpAny_bind (wpAny_sequenceKey ht.typeIs (by decide) ?_)
  refine wpAny_bind (wpAny_callSpecial?_slot (name := Str.ofString "__getitem__") ht.typeIs slot_tuple_getitem
    (wpAny_call_entry slot_tuple_getitem ht.typeIs entry_tuple_getitem ?_ (args_tuple_getitem _ _)))
  show wpAny _ _ (Builtin.Tuple.tupleItemsOf (.ref t) >>= _) _ _ s
  refine wpAny_bind (tupleItemsOf_ ht ?_)
  refine wpAny_bind (wpAny_typeOf hTs ?_)
  rw [if_pos (by decide)]
  refine wpAny_bind (neE (sliceApplied_to hs ha ?_))
  have hno : ¬ (((0 : Int) == 0 && (1 : Int) == 1 && m == items.size) = true) := by
    have : (m == items.size) = false := by rw [beq_eq_false_iff_ne]; omega
    rw [this]; simp
  show wpAny _ _ (if ((0 : Int) == 0 && (1 : Int) == 1 && m == items.size) = true then _ else _) _ _ s
  rw [if_neg hno, pick_to items m (Nat.le_of_lt hm)]
  first
    | exact wpAny_bind (m := Builtin.Tuple.tupleExact _) (wpAny_newObj_type (wpAny_pure ⟨_, rfl, wpAny_pure h⟩) htake)
    | exact wpAny_bind (m := Builtin.Tuple.tupleExact _) (wpAny_newObj_type (wpAny_bind (wpAny_pure (wpAny_pure ⟨_, rfl, wpAny_pure h⟩))) htake)
    | exact wpAny_bind (wpAny_bind (m := Builtin.Tuple.tupleExact _) (wpAny_newObj_type (wpAny_pure (wpAny_pure ⟨_, rfl, wpAny_pure h⟩)) htake))
    | exact wpAny_bind (wpAny_bind (m := Builtin.Tuple.tupleExact _) (wpAny_newObj_type (wpAny_pure ⟨_, rfl, wpAny_pure h⟩) htake))
theorem e_sliceTo {e : Expr} {Q : Value → Shared → Prop}
    (h : wpAny c.M A (eval e env) (fun v s₁ => ∃ H B cs, Own c H B cs s₁ ∧ ∀ sl B' s', Le B B' → (∃ o, B' sl = some o ∧ sliceP .none v .none o) → Own c H B' cs s' → Q (.ref sl) s') NE s) :
    wpAny c.M A (eval (.Slice none (some e) none pos) env) Q NE s := by
  refine wpAny_Slice (wpAny_pure (wpAny_mono h (fun v s₁ h₁ => wpAny_pure ?_) fun _ _ q => q))
  obtain ⟨H, B, cs, S, hq⟩ := h₁
  have T := S.push (t := s₁.toks) (P := sliceP .none v .none) (o := { cls := .type "slice", data := .fields #[.none, v, .none] }) rfl rfl
  obtain ⟨B', o, hle, hb, hp, _, T'⟩ := T.freeze
  exact hq _ B' _ hle ⟨o, hb, hp⟩ T'
theorem item_To0 {value slice : Expr} {x : Value} {sl : Addr} {ds : List PyData} {k : Int} {t : Tok} {m : Nat} {Q : Value → Shared → Prop} (S : Own c H B cs s) (r : Rd B x (.tuple ds)) (hs : ∃ o, B sl = some o ∧ sliceP .none (.int k t) .none o)
    (ha : Builtin.Slice.sliceAdjust none (some k) 1 (ds.length : Int) = (0, (m : Int))) (hm : m < ds.length) (hsz : ds.length < 1000)
    (h : ∀ a B' s', Le B B' → Rd B' (.ref a) (.tuple (ds.take m)) → Own c H B' cs s' → Q (.ref a) s')
    (he : ∀ l, subscripted slice false (.ref l) (.ref sl) = operate [.ref sl, .ref l] (getItem (.ref l) (.ref sl)) := by intro _; with_unfolding_all rfl) :
    wpAny c.M A (subscriptTail value slice x (.ref sl)) Q NE s := by
  obtain ⟨l, o, vs, rfl, hb, hl, hr⟩ := r.tuple_inv
  obtain ⟨os, hos, rfl⟩ := hs
  have e1 : (vs.toArray.size : Int) = ds.length := by rw [List.size_toArray, hr.length]
  have hlen := hr.length
  refine tail_any (isTup_B S hb hl).typeIs slot_tuple_getitem.lookup (getItem_tuple_to (m := m) (isTup_B S hb hl) ⟨_, S.hB _ _ hos, rfl, rfl⟩ (by rw [e1]; exact ha) (by rw [List.size_toArray, hlen]; exact hm) ?_ (by rw [List.size_toArray, sizeLine_eq]; omega)) (he l)
  have T := S.push (t := s.toks) (P := tupP (vs.take m)) (o := { cls := .type "tuple", data := .seq (vs.toArray.toList.take m).toArray }) ⟨0, by rw [List.toList_toArray]⟩ rfl
  obtain ⟨B', o, hle, hb', hp, _, T'⟩ := T.freeze
  exact h _ B' _ hle (.tuple hb' hp ((hr.take m).mono hle)) T'
theorem adj_m1 (n : Nat) (hn : 0 < n) : Builtin.Slice.sliceAdjust none (some (-1)) 1 (n : Int) = (0, ((n - 1 : Nat) : Int)) := by
  unfold Builtin.Slice.sliceAdjust
  simp
  omega
theorem adj_k (k n : Nat) (hn : k ≤ n) : Builtin.Slice.sliceAdjust none (some (k : Int)) 1 (n : Int) = (0, (k : Int)) := by
  unfold Builtin.Slice.sliceAdjust
  simp
  omega
theorem item_To {value slice : Expr} {x : Value} {sl : Addr} {ds : List PyData} {k : Int} {t : Tok} {Q : Value → Shared → Prop} (m : Nat) (S : Own c H B cs s) (r : Rd B x (.tuple ds)) (hs : ∃ o, B sl = some o ∧ sliceP .none (.int k t) .none o)
    (hk : (k = -1 ∧ m + 1 = ds.length) ∨ (k = (m : Int) ∧ m < ds.length)) (hsz : ds.length < 1000)
    (h : ∀ a B' s', Le B B' → Rd B' (.ref a) (.tuple (ds.take m)) → Own c H B' cs s' → Q (.ref a) s')
    (he : ∀ l, subscripted slice false (.ref l) (.ref sl) = operate [.ref sl, .ref l] (getItem (.ref l) (.ref sl)) := by intro _; with_unfolding_all rfl) :
    wpAny c.M A (subscriptTail value slice x (.ref sl)) Q NE s := by
  refine item_To0 S r hs ?_ ?_ hsz h he
  · rcases hk with ⟨rfl, e⟩ | ⟨rfl, e⟩
    · rw [adj_m1 _ (by omega), show ds.length - 1 = m by omega]
    · exact adj_k m _ (Nat.le_of_lt e)
  · rcases hk with ⟨_, e⟩ | ⟨_, e⟩ <;> omega
theorem in_strs {x : Value} {ds : List PyData} {i : Str} {t : Tok} {Q : Value → Shared → Prop} (S : Own c H B cs s) (r : Rd B x (.list ds)) (hd : PyData.canLayAll0 ds = true) (hi : PyData.strOk i = true) (hu : A.units + 64 < cLine)
    (h : Q (.bool (ds.any fun y => PyData.eqv y (.str i))) s) : wpAny c.M A (compareOp .In (.str i t) x) Q NE s := by
  obtain ⟨as, rr⟩ := r.reads S.hB
  refine SeqAt.in_list_reads rr (.str i t) hd (by simp only [PyData.canLay0]; exact hi) ?_ h
  have : min (PyData.depthAll ds) (PyData.str i).depth ≤ (PyData.str i).depth := Nat.min_le_right _ _
  have e : (PyData.str i).depth = 0 := rfl
  omega
noncomputable def Look (c : Cx) (B₀ : PM) (nv : Value) (f : Int → Int) (P : Int → Prop) : Prop :=
  ∀ (A : Around) (H B : PM) (cs : List Cell) (s : Shared) (g : Int) (t : Tok) (value slice : Expr) (Q : Value → Shared → Prop), A.handled = none → A.units + 64 < cLine → Le B₀ B → Own c H B cs s → P g → (∀ t s', Own c H B cs s' → Q (.int (f g) t) s') →
    (∀ l, subscripted slice false (.ref l) (.int g t) = operate [.ref l, .int g t] (getItem (.ref l) (.int g t))) → wpAny c.M A (subscriptTail value slice nv (.int g t)) Q NE s
theorem Look.mono {B B' : PM} {nv : Value} {f : Int → Int} {P : Int → Prop} (L : Look c B nv f P) (h : Le B B') : Look c B' nv f P := fun A H B₂ cs s g t v sl Q h1 h2 hle => L A H B₂ cs s g t v sl Q h1 h2 (h.trans hle)
theorem Look.use {B₀ : PM} {nv : Value} {f : Int → Int} {P : Int → Prop} {n : Nat} {g : Int} {t : Tok} {value slice : Expr} {Q : Value → Shared → Prop} (L : Look c B₀ nv f P) (R : Room A n) (S : Own c H B cs s) (hle : Le B₀ B) (hp : P g)
    (h : ∀ t s', Own c H B cs s' → Q (.int (f g) t) s')
    (he : ∀ l, subscripted slice false (.ref l) (.int g t) = operate [.ref l, .int g t] (getItem (.ref l) (.int g t)) := by intro _; with_unfolding_all rfl) : wpAny c.M A (subscriptTail value slice nv (.int g t)) Q NE s :=
  L A H B cs s g t value slice Q R.hd R.u hle S hp h he
theorem look_list {x : Value} {ns : List Int} (r : Rd B x (.list (ns.map PyData.int))) : Look c B x (fun g => ns.getD g.toNat 0) (fun g => 0 ≤ g ∧ g.toNat < ns.length ∧ g < 1000) := by
  intro A H B' cs s g t value slice Q hh hu hle S hP h he
  obtain ⟨h0, h1, h2⟩ := hP
  refine item_R S (r.mono hle) h0 (by omega) (d := .int (ns.getD g.toNat 0)) ?_ (fun v rv => ?_) he
  · rw [List.getElem?_map, List.getD_eq_getElem?_getD, List.getElem?_eq_getElem h1]; rfl
  · obtain ⟨tv, rfl⟩ := rv.int_inv
    exact h _ _ S
end
section
variable {c : Cx} {H B : PM} {cs cs' : List Cell} {s : Shared} {A : Around} {env : Env} {pos : Pos}
theorem x_while {test : Expr} {body rest : List Stmt} {ls : List (List Stmt)} {Q : Flow → Shared → Prop} (I : Nat → Shared → Prop)
    (turn : ∀ n s, I n s → wpAny c.M A (isTrue test env (eval test env)) (fun b s₂ => if b = true then wpAny c.M A (runs [body] env) (fun f s₃ => f = .next ∧ ∃ m, m < n ∧ I m s₃) NE s₂
      else wpAny c.M A (runs (rest :: ls) env) Q NE s₂) NE s) (n : Nat) (h : I n s) :
    wpAny c.M A (runs ((.While test body [] pos :: rest) :: ls) env) Q NE s := by
  refine x_next (wpAny_While (codeAny_mono (R := fun r s' => match r with | .ok f => f = .next ∧ wpAny c.M A (runs (rest :: ls) env) Q NE s' | .error _ => False) (codeAny_whileLoop I (fun n s hI => ?_) n h) fun r s' hr => ?_))
  · refine neE (wpAny_mono (turn n s hI) (fun b s₂ h₂ => ?_) fun _ _ q => q)
    cases b with
    | true =>
      simp only [if_true] at h₂ ⊢
      have e : runs [body] env = execs body env := by unfold runs; rw [List.flatten_cons, List.flatten_nil, List.append_nil]
      rw [e] at h₂
      refine neE (wpAny_mono h₂ (fun f s₃ h₃ => ?_) fun _ _ q => q)
      obtain ⟨rfl, h₃⟩ := h₃
      exact h₃
    | false =>
      simp only [Bool.false_eq_true, if_false] at h₂ ⊢
      exact wpAny_execs_nil ⟨rfl, h₂⟩
  · cases r with
    | ok f => exact hr
    | error e => exact hr.elim
theorem Own.weakAt {l r : List Cell} {a : Addr} {P P' : Obj → Prop} (S : Own c H B (l ++ (a, P) :: r) s) (h : ∀ o, P o → P' o) : Own c H B (l ++ (a, P') :: r) s :=
  ((S.perm List.perm_middle).weak h).perm List.perm_middle.symm
theorem sh_ints (ns : List Int) : Sh 1 (.list (ns.map PyData.int)) := Sh.list fun x hx => by obtain ⟨i, _, rfl⟩ := List.mem_map.mp hx; exact Sh.int
theorem ne_nil {x : Value} {e : Value} {ns : List Int} {Q : Value → Shared → Prop} (L : IntsL s x ns) (L' : IntsL s e []) (hu : A.units + 64 < cLine) (h : Q (.bool (!ns.isEmpty)) s) : wpAny c.M A (compareOp .NotEq x e) Q NE s := by
  obtain ⟨_, a⟩ := L
  obtain ⟨_, b⟩ := L'
  refine ne_dataH a b (sh_ints ns).shaped (sh_ints []).shaped hu ?_
  have e : PyData.eqv (.list (ns.map PyData.int)) (.list (([] : List Int).map PyData.int)) = ns.isEmpty := by
    cases ns <;> simp [PyData.eqv, PyData.eqvAll]
  rw [e]; exact h
theorem e_slice3 {l u st : Option Expr} {Q : Value → Shared → Prop}
    (h : wpAny c.M A (evalPart l env) (fun lv s₁ => wpAny c.M A (evalPart u env) (fun uv s₂ => wpAny c.M A (evalPart st env) (fun sv s₃ =>
      ∃ H B cs, Own c H B cs s₃ ∧ ∀ sl B' s', Le B B' → (∃ o, B' sl = some o ∧ sliceP lv uv sv o) → Own c H B' cs s' → Q (.ref sl) s') NE s₂) NE s₁) NE s) :
    wpAny c.M A (eval (.Slice l u st pos) env) Q NE s := by
  refine wpAny_Slice (wpAny_mono h (fun lv s₁ h₁ => wpAny_mono h₁ (fun uv s₂ h₂ => wpAny_mono h₂ (fun sv s₃ h₃ => ?_) fun _ _ q => q) fun _ _ q => q) fun _ _ q => q)
  obtain ⟨H, B, cs, S, hq⟩ := h₃
  have T := S.push (t := s₃.toks) (P := sliceP lv uv sv) (o := { cls := .type "slice", data := .fields #[lv, uv, sv] }) rfl rfl
  obtain ⟨B', o, hle, hb, hp, _, T'⟩ := T.freeze
  exact hq _ B' _ hle ⟨o, hb, hp⟩ T'
theorem item_slB {value slice : Expr} {x : Value} {sl : Addr} {ds : List PyData} {lv uv sv : Value} {lo hi st : Option Int} {Q : Value → Shared → Prop} (ops : Addr → List Value) (S : Own c H B cs s) (r : Rd B x (.list ds)) (hs : ∃ o, B sl = some o ∧ sliceP lv uv sv o)
    (pl : IsPart lv lo) (pu : IsPart uv hi) (ps : IsPart sv st) (h0 : st ≠ some 0) (hsz : ds.length < 1000)
    (h : ∀ a vs s', vs.toArray.size = ds.length → RdAll B vs ds → B a = none → Own c H B ((a, listP (slicePick vs.toArray lo hi st).toList) :: cs) s' → Q (.ref a) s')
    (he : ∀ l, subscripted slice false (.ref l) (.ref sl) = operate (ops l) (getItem (.ref l) (.ref sl))) :
    wpAny c.M A (subscriptTail value slice x (.ref sl)) Q NE s := by
  obtain ⟨l, o, vs, rfl, hb, hl, hr⟩ := r.list_inv
  obtain ⟨os, hos, rfl⟩ := hs
  have hlen := hr.length
  have main : wpAny c.M A (getItem (.ref l) (.ref sl)) Q NE s := by
    refine wpAny_getItem_list_slice (isList_B S hb hl) ⟨_, S.hB _ _ hos, rfl, rfl⟩ pl pu ps h0 ?_ (by rw [List.size_toArray, sizeLine_eq]; omega)
    have T := S.push (t := s.toks) (P := listP (slicePick vs.toArray lo hi st).toList) (o := { cls := .type "list", data := .seq (slicePick vs.toArray lo hi st) }) ⟨0, by simp⟩ rfl
    exact h _ vs _ (by rw [List.size_toArray, hlen]) hr S.newB T
  exact tail_any (isList_B S hb hl).typeIs slot_list_getitem.lookup main (he l)
theorem item_slL {value slice : Expr} {x : Value} {sl : Addr} {ds : List PyData} {lv uv sv : Value} {lo hi st : Option Int} {Q : Value → Shared → Prop} (S : Own c H B cs s) (r : Rd B x (.list ds)) (hs : ∃ o, B sl = some o ∧ sliceP lv uv sv o)
    (pl : IsPart lv lo) (pu : IsPart uv hi) (ps : IsPart sv st) (h0 : st ≠ some 0) (hsz : ds.length < 1000)
    (h : ∀ a vs s', vs.toArray.size = ds.length → RdAll B vs ds → B a = none → Own c H B ((a, listP (slicePick vs.toArray lo hi st).toList) :: cs) s' → Q (.ref a) s')
    (he : ∀ l, subscripted slice false (.ref l) (.ref sl) = operate [.ref sl, .ref l] (getItem (.ref l) (.ref sl)) := by intro _; with_unfolding_all rfl) :
    wpAny c.M A (subscriptTail value slice x (.ref sl)) Q NE s := item_slB (fun l => [.ref sl, .ref l]) S r hs pl pu ps h0 hsz h he
theorem item_slS {value slice : Expr} {x : Value} {sl : Addr} {ds : List PyData} {lv uv sv : Value} {lo hi st : Option Int} {Q : Value → Shared → Prop} (S : Own c H B cs s) (r : Rd B x (.list ds)) (hs : ∃ o, B sl = some o ∧ sliceP lv uv sv o)
    (pl : IsPart lv lo) (pu : IsPart uv hi) (ps : IsPart sv st) (h0 : st ≠ some 0) (hsz : ds.length < 1000)
    (h : ∀ a vs s', vs.toArray.size = ds.length → RdAll B vs ds → B a = none → Own c H B ((a, listP (slicePick vs.toArray lo hi st).toList) :: cs) s' → Q (.ref a) s')
    (he : ∀ l, subscripted slice false (.ref l) (.ref sl) = operate [.ref l, .ref sl] (getItem (.ref l) (.ref sl)) := by intro _; with_unfolding_all rfl) :
    wpAny c.M A (subscriptTail value slice x (.ref sl)) Q NE s := item_slB (fun l => [.ref l, .ref sl]) S r hs pl pu ps h0 hsz h he
end
section
variable {c : Cx} {H B : PM} {cs cs' : List Cell} {s : Shared} {A : Around} {env : Env} {pos : Pos}
theorem it_cell {l : Addr} {vs : List Value} {Q : Value → Shared → Prop} (S : Own c H B cs s) (hm : (l, listP vs) ∈ cs) (h : ∀ it s', Own c H B ((it, liP l 0) :: cs) s' → Q (.ref it) s') : wpAny c.M A (pyIter (.ref l)) Q NE s :=
  wpAny_pyIter_list (isList_cell S hm) (h _ _ (S.push (t := s.toks) ⟨rfl, rfl⟩ rfl))
theorem loop_grow {target : Expr} {body : List Stmt} {it l L : Addr} {K : Shared → Prop} {bs : List (Str × Value)} {ys₀ : List Value} (N : Nat) (hh : A.handled = none)
    (S : Own c H B ((it, liP l 0) :: (L, frameP bs) :: (l, listP ys₀) :: cs) s) (bs₀ : List (Str × Value)) (hbs : ∀ p ∈ bs₀, bs.lookup p.1 = some p.2) (J : Nat → PM → List Value → Prop) (h0 : J 0 B ys₀)
    (hb : ∀ k B' ys, J k B' ys → k ≤ ys.length ∧ ys.length ≤ N) (hJ : ∀ k B' B'' ys, Le B' B'' → J k B' ys → J k B'' ys)
    (turn : ∀ k v H' B' ys s', ys[k]? = some v → J k B' ys → Own c H' B' ((L, frameP bs₀) :: (l, listP ys) :: cs) s' → Le B B' →
      wpAny c.M A (assign target env v) (fun _ s₁ => wpAny c.M A (runs [body] env) (fun f s₂ => f = .next ∧ ∃ B'' ys' bs, Own c H' B'' ((L, frameP bs) :: (l, listP ys') :: cs) s₂ ∧ Le B' B'' ∧ J (k + 1) B'' ys' ∧ ∀ p ∈ bs₀, bs.lookup p.1 = some p.2) NE s₁) NE s')
    (after : ∀ B' ys s', J ys.length B' ys → Own c H B' ((L, frameP bs₀) :: (l, listP ys) :: cs) s' → Le B B' → K s') : Loop c A target (.ref it) body env K s := by
  have S₁ : Own c H B ((it, liP l 0) :: (L, frameP bs₀) :: (l, listP ys₀) :: cs) s := S.weakAt (l := [_]) (frameP_sub hbs)
  refine codeAny_forLoop_any (fun m s' => ∃ k B' ys, m = N - k ∧ Le B B' ∧ J k B' ys ∧ Own c H B' ((it, liP l k) :: (L, frameP bs₀) :: (l, listP ys) :: cs) s') ?_ N ⟨0, B, ys₀, rfl, Le.refl _, h0, S₁⟩
  rintro m s' ⟨k, B', ys, rfl, hB, hj, T⟩
  obtain ⟨hk1, hk2⟩ := hb _ _ _ hj
  have hl := isList_cell T (List.mem_cons_of_mem _ (List.mem_cons_of_mem _ (List.mem_cons_self ..)))
  rcases Nat.lt_or_ge k ys.length with hlt | hge
  · obtain ⟨v, hv⟩ : ∃ v, ys[k]? = some v := ⟨ys[k], by simp [hlt]⟩
    refine wpAny_pyNext_list_item (T.cell (List.mem_cons_self ..)) hl (x := v) (by simpa using hv) fun h' hit hs => ?_
    have T₁ := T.upd (t := s'.toks) (P' := liP l (k + 1)) .head hs.extBut hit
    obtain ⟨o', ho', hc, _⟩ := hit
    refine neE (go_plain (c := c) ho' hc rfl ?_)
    have T₂ : Own c H B' ([(it, liP l (k + 1))] ++ ((L, frameP bs₀) :: (l, listP ys) :: cs)) _ := T₁
    obtain ⟨H', T₃, back⟩ := T₂.frameOut'
    refine neE (wpAny_mono (turn k v H' B' ys _ hv hj T₃ hB) (fun _ s₁ h₁ => neE ?_) fun _ _ q => q)
    have e : runs [body] env = execs body env := by unfold runs; rw [List.flatten_cons, List.flatten_nil, List.append_nil]
    rw [e] at h₁
    refine wpAny_mono h₁ (fun f s₂ h₂ => ?_) fun _ _ q => q
    obtain ⟨rfl, B'', ys', bs', a, b, d, q⟩ := h₂
    have hn := hb _ _ _ d
    exact ⟨N - (k + 1), by omega, k + 1, B'', ys', rfl, hB.trans b, d, (back _ _ _ (a.weak (frameP_sub q)))⟩
  · have ek : k = ys.length := Nat.le_antisymm hk1 hge
    subst ek
    exact wpAny_pyNext_list_end hh (T.cell (List.mem_cons_self ..)) hl (by simp) fun h' hs => wpAny_execs_nil ⟨rfl, after B' ys _ hj (T.gone (t := s'.toks) hs) hB⟩
end
noncomputable def cellsL : List Addr → List (List Value) → List Cell
  | a :: as, vs :: vss => (a, listP vs) :: cellsL as vss
  | _, _ => []
theorem cellsL_snoc {a : Addr} {vs : List Value} : ∀ {as : List Addr} {vss : List (List Value)}, as.length = vss.length → cellsL (as ++ [a]) (vss ++ [vs]) = cellsL as vss ++ [(a, listP vs)]
  | [], [], _ => rfl
  | b :: as, us :: vss, h => by
    show (b, listP us) :: cellsL (as ++ [a]) (vss ++ [vs]) = (b, listP us) :: (cellsL as vss ++ _)
    rw [cellsL_snoc (by simpa using h)]
  | [], _ :: _, h => by simp at h
  | _ :: _, [], h => by simp at h
theorem cellsL_upd {cs : List Cell} {a : Addr} {vs ws : List Value} : ∀ {as : List Addr} {vss : List (List Value)} {j : Nat}, as[j]? = some a → vss[j]? = some vs → Upd a (listP vs) (listP ws) (cellsL as vss ++ cs) (cellsL as (vss.set j ws) ++ cs)
  | b :: as, us :: vss, 0, h, h' => by
    simp at h h'
    subst h h'
    exact .head
  | b :: as, us :: vss, j + 1, h, h' => by
    have := cellsL_upd (cs := cs) (ws := ws) (as := as) (vss := vss) (j := j) (by simpa using h) (by simpa using h')
    exact .tail this
  | [], _, _, h, _ => by simp at h
  | _ :: _, [], _, _, h => by simp at h
inductive AllL (B : PM) : List (List Value) → List (List PyData) → Prop
  | nil : AllL B [] []
  | cons {vs ds vss dss} : RdAll B vs ds → AllL B vss dss → AllL B (vs :: vss) (ds :: dss)
theorem AllL.mono {B B' : PM} (h : Le B B') : ∀ {vss : List (List Value)} {dss : List (List PyData)}, AllL B vss dss → AllL B' vss dss
  | _, _, .nil => .nil
  | _, _, .cons r rs => .cons (r.mono h) (rs.mono h)
theorem AllL.length {B : PM} : ∀ {vss : List (List Value)} {dss : List (List PyData)}, AllL B vss dss → vss.length = dss.length
  | _, _, .nil => rfl
  | _, _, .cons _ rs => by simp [rs.length]
theorem AllL.get {B : PM} : ∀ {vss : List (List Value)} {dss : List (List PyData)} {j : Nat} {ds : List PyData}, AllL B vss dss → dss[j]? = some ds → ∃ vs, vss[j]? = some vs ∧ RdAll B vs ds
  | _, _, _, _, .nil, h => by simp at h
  | _, _, 0, _, .cons r _, h => by simp at h; subst h; exact ⟨_, rfl, r⟩
  | _, _, j + 1, _, .cons _ rs, h => by
    obtain ⟨vs, a, b⟩ := rs.get (j := j) (by simpa using h)
    exact ⟨vs, by simpa using a, b⟩
theorem AllL.set {B : PM} {vs : List Value} {ds : List PyData} (r : RdAll B vs ds) : ∀ {vss : List (List Value)} {dss : List (List PyData)} {j : Nat}, AllL B vss dss → AllL B (vss.set j vs) (dss.set j ds)
  | _, _, _, .nil => by simp; exact .nil
  | _, _, 0, .cons _ rs => .cons r rs
  | _, _, j + 1, .cons r' rs => .cons r' (rs.set r)
theorem frzAll {c : Cx} {H : PM} {cs : List Cell} {s : Shared} : ∀ {as : List Addr} {vss : List (List Value)} {dss : List (List PyData)} {B : PM}, Own c H B (cellsL as vss ++ cs) s → as.length = vss.length → AllL B vss dss →
    ∃ B', Le B B' ∧ RdAll B' (as.map Value.ref) (dss.map PyData.list) ∧ Own c H B' cs s
  | [], _, _, B, S, h, .nil => ⟨B, Le.refl _, .nil, S⟩
  | [], _ :: _, _, _, _, h, _ => by simp at h
  | _ :: _, [], _, _, _, h, _ => by simp at h
  | a :: as, vs :: vss, _, B, S, h, .cons r rs => by
    have S' : Own c H B ((a, listP vs) :: (cellsL as vss ++ cs)) s := S
    obtain ⟨B₁, hle, hr, S₁⟩ := S'.frz r
    obtain ⟨B₂, hle₂, hrs, S₂⟩ := frzAll S₁ (by simpa using h) (rs.mono hle)
    exact ⟨B₂, hle.trans hle₂, .cons (hr.mono hle₂) hrs, S₂⟩
section
variable {c : Cx} {H B : PM} {cs cs' : List Cell} {s : Shared} {A : Around}
theorem item_C {value slice : Expr} {l : Addr} {vs : List Value} {k : Nat} {t : Tok} {v : Value} {Q : Value → Shared → Prop} (S : Own c H B cs s) (hm : (l, listP vs) ∈ cs) (hk : k < 100000) (hx : vs[k]? = some v) (h : Q v s)
    (hs : subscripted slice false (.ref l) (.int k t) = operate [.ref l, .int k t] (getItem (.ref l) (.int k t)) := by with_unfolding_all rfl) :
    wpAny c.M A (subscriptTail value slice (.ref l) (.int k t)) Q NE s := item_l (isList_cell S hm) (by omega) (by omega) (by rw [Int.toNat_natCast]; exact hx) h hs
end
theorem Upd.right {a : Addr} {P P' : Obj → Prop} {r r' : List Cell} (h : Upd a P P' r r') : ∀ l : List Cell, Upd a P P' (l ++ r) (l ++ r')
  | [] => h
  | _ :: l => .tail (h.right l)
section
variable {c : Cx} {H B : PM} {cs cs' : List Cell} {s : Shared} {A : Around} {env : Env}
theorem comp_g {elt target : Expr} {ifs : List Expr} {scope : Scope} {cl : List (Str × Addr)} {it : Addr} {n : Nat} {V : PM → Nat → Value → Prop} {St : Nat → List Cell} {K : Value → Shared → Prop} {B₀ : PM} {use : Option (Value → Sem Unit)}
    (W : Walk c A B₀ it n V St) (S : Own c H B (St 0 ++ cs) s) (hle : Le B₀ B) (J : Nat → List Value → PM → List Cell → Prop) (h0 : J 0 [] B cs)
    (turn : ∀ k v ys H' B' cs' s' C, k < n → Le B B' → V B' k v → J k ys B' cs' → Own c H' B' ((C, frameP []) :: cs') s' →
      wpAny c.M A (assign target (compEnvC scope cl C env) v) (fun _ s₁ => wpAny c.M A (Tests ifs (compEnvC scope cl C env)) (fun ok s₂ =>
        if ok = true then wpAny c.M A (eval elt (compEnvC scope cl C env)) (fun y s₃ => ∃ B'' cs'' bs, Le B' B'' ∧ J (k + 1) (ys ++ [y]) B'' cs'' ∧ Own c H' B'' ((C, frameP bs) :: cs'') s₃) NE s₂
        else ∃ B'' cs'' bs, Le B' B'' ∧ J (k + 1) ys B'' cs'' ∧ Own c H' B'' ((C, frameP bs) :: cs'') s₂) NE s₁) NE s')
    (hJ : ∀ k ys B' B'' cs, Le B' B'' → J k ys B' cs → J k ys B'' cs)
    (after : ∀ D ys B' cs' s' C, Le B B' → B' D = none → ys.length ≤ n → J n ys B' cs' → Own c H B' ((D, listP ys) :: (C, frameP []) :: cs') s' → compPost c.M A NE use K (.ref D) C (.ok .next) s')
    (hcell : (scope.names.all fun x => !(x.2 == .cell)) = true := by rfl) (hsz : n ≤ sizeLine := by size_fits) (hk : scope.kind = .function := by rfl) : CompG c A elt target ifs scope cl (.ref it) env use K s :=
  comp_gT (W.toT _) S hle J h0 turn hJ after hcell hsz hk
noncomputable def CompS (c : Cx) (A : Around) (elt target : Expr) (ifs : List Expr) (scope : Scope) (cl : List (Str × Addr)) (it : Value) (env : Env) (x : Str) (p : Pos) (K : Shared → Prop) (s : Shared) : Prop :=
  CompG c A elt target ifs scope cl it env (some (assign (.Name x p) env)) (fun _ => K) s
theorem x_comp {x : Str} {p pos cpos : Pos} {elt target iter : Expr} {ifs : List Expr} {names : List (Str × NameKind)} {ig ic : Bool} {more : List (Str × Const)} {cl : List (Str × Addr)} {rest : List Stmt} {ls : List (List Stmt)} {Q : Flow → Shared → Prop}
    (hsw : swapsWith (.ListComp elt [⟨target, iter, ifs, 0⟩] ⟨.function, names, ig, ic, more⟩ cpos) (some (.Name x p)) pos.line env = pure true)
    (h : wpAny c.M A (eval iter env) (fun v s₁ => wpAny c.M A (pyIter v) (fun it s₂ => CompS c A elt target ifs ⟨.function, names, ig, ic, more⟩ cl it env x p (fun s₃ => wpAny c.M A (runs (rest :: ls) env) Q NE s₃) s₂) NE s₁) NE s)
    (hnames : (names.all fun x => !(x.2 == .local) || names.lookup x.1 == some .local) = true := by rfl)
    (hclos : closureFor ⟨.function, names, ig, ic, more⟩ env = pure cl := by rfl) (hs : ∀ x, foldedSetIterable iter env x = pure x := by intro _; rfl) :
    wpAny c.M A (runs ((.Assign [.Name x p] (.ListComp elt [⟨target, iter, ifs, 0⟩] ⟨.function, names, ig, ic, more⟩ cpos) pos :: rest) :: ls) env) Q NE s := by
  refine wpAny_execs_cons ?_
  rw [exec_Assign_Name_used _ _ _ _ hsw]
  refine wpAny_bind (wpAny_standAt (wpAny_bind ?_))
  show wpAny c.M A (comprehension _ _ _ _ _ _ _ _ >>= fun _ => pure ()) _ _ _
  refine wpAny_bind (wpAny_comprehension_free (use := some (assign (.Name x p) env)) (Q := fun _ s₃ => wpAny c.M A (pure () : Sem Unit) (fun _ s₄ => wpAny c.M A (pure Flow.next : Sem Flow) _ NE s₄) NE s₃) rfl hs hclos rfl (fun y hy hl => ?_)
    (wpAny_mono h (fun v s₁ h₁ => wpAny_mono h₁ (fun it s₂ h₂ => ?_) fun _ _ q => q) fun _ _ q => q))
  · have := List.all_eq_true.mp hnames y hy
    rw [hl] at this
    simpa using this
  · refine wpAny_mono (h₂ iter cpos) (fun acc s₃ h₃ => wpAny_mono h₃ (fun cenv s₄ h₄ => codeAny_mono h₄ fun r s' hr => ?_) fun _ _ q => q) fun _ _ q => q
    cases r with
    | ok f => exact wpAny_mono hr (fun _ s'' ⟨m, hn, hk⟩ => ⟨m, hn, fun h' hs' => wpAny_pure (wpAny_pure (hk h' hs'))⟩) fun _ _ q => q
    | error e =>
      obtain ⟨m, hn, hk⟩ := hr
      exact ⟨m, hn, hk⟩
theorem comp_s {elt target : Expr} {ifs : List Expr} {scope : Scope} {cl : List (Str × Addr)} {it : Addr} {n : Nat} {V : PM → Nat → Value → Prop} {St : Nat → List Cell} {K : Shared → Prop} {B₀ : PM} {x : Str} {p : Pos}
    (W : Walk c A B₀ it n V St) (S : Own c H B (St 0 ++ cs) s) (hle : Le B₀ B) (J : Nat → List Value → PM → List Cell → Prop) (h0 : J 0 [] B cs)
    (turn : ∀ k v ys H' B' cs' s' C, k < n → Le B B' → V B' k v → J k ys B' cs' → Own c H' B' ((C, frameP []) :: cs') s' →
      wpAny c.M A (assign target (compEnvC scope cl C env) v) (fun _ s₁ => wpAny c.M A (Tests ifs (compEnvC scope cl C env)) (fun ok s₂ =>
        if ok = true then wpAny c.M A (eval elt (compEnvC scope cl C env)) (fun y s₃ => ∃ B'' cs'' bs, Le B' B'' ∧ J (k + 1) (ys ++ [y]) B'' cs'' ∧ Own c H' B'' ((C, frameP bs) :: cs'') s₃) NE s₂
        else ∃ B'' cs'' bs, Le B' B'' ∧ J (k + 1) ys B'' cs'' ∧ Own c H' B'' ((C, frameP bs) :: cs'') s₂) NE s₁) NE s')
    (hJ : ∀ k ys B' B'' cs, Le B' B'' → J k ys B' cs → J k ys B'' cs)
    (after : ∀ D ys B' cs', Le B B' → B' D = none → ys.length ≤ n → J n ys B' cs' →
      ∃ bs cs₂, Upd env.locals (frameP bs) (frameP ((x, .ref D) :: bs)) ((D, listP ys) :: cs') cs₂ ∧ ∀ s₂, Own c H B' cs₂ s₂ → K s₂)
    (hk' : env.scope.kind = .function) (hl : env.kindOf x = some .local)
    (hcell : (scope.names.all fun x => !(x.2 == .cell)) = true := by rfl) (hsz : n ≤ sizeLine := by size_fits) (hk : scope.kind = .function := by rfl) : CompS c A elt target ifs scope cl (.ref it) env x p K s := by
  refine comp_g W S hle J h0 turn hJ ?_ hcell hsz hk
  intro D ys B' cs' s' C hle' hD hlen hj T
  obtain ⟨bs, cs₂, U, hK⟩ := after D ys B' cs' hle' hD hlen hj
  have T₁ : Own c H B' ([(C, frameP [])] ++ ((D, listP ys) :: cs')) s' := T.swap
  obtain ⟨H', T₂, back⟩ := T₁.frameOut'
  show wpAny c.M A (assign (.Name x p) env (.ref D)) _ NE s'
  refine wpAny_assign_Name (st T₂ U (fun s₂ S₂ => ?_) hk' hl)
  have S₃ : Own c H B' ((C, frameP []) :: cs₂) s₂ := back _ _ _ S₂
  obtain ⟨m, hn, _⟩ := frame_ns S₃ (List.mem_cons_self ..)
  exact ⟨m, hn, fun h' hs' => hK _ (S₃.gone (t := s₂.toks) hs'.extBut)⟩
end
section
variable {c : Cx} {H B : PM} {cs : List Cell} {s : Shared} {A : Around} {env : Env}
theorem nfe1 {scope : Scope} {cl : List (Str × Addr)} {y : Str} {Q : Env → Shared → Prop} (S : Own c H B cs s) (h1 : ∀ n, cellsFrom n scope.names cl = (y, n) :: cl) (h2 : ∀ h, pushCells h scope.names = h.push { cls := .type "cell", data := .cell none })
    (hQ : ∀ C s', Own c H B ((C + 1, varP none) :: (C, frameP []) :: cs) s' → Q { scope, locals := C, globals := env.globals, cells := (y, C + 1) :: cl, qual := env.qual, func := none, code := env.code, frame := env.frame, builtins := env.builtins } s') :
    wpAny c.M A (newFunctionEnv scope env.globals cl [] env.qual none .none (some env)) Q NE s := by
  unfold newFunctionEnv
  refine wpAny_bind (wpAny_alloc ?_)
  refine wpAny_bind (wpAny_layCells _ (fun name kind cells => by cases hkc : kind == NameKind.cell <;> simp [hkc]) _ _ _ _ ?_)
  have S₁ := S.push (t := s.toks) (P := frameP []) (o := { cls := .type "dict", data := .dict #[] }) ⟨#[], _, rfl, (fun e he => absurd he (by simp)), fun x v e => by simp at e⟩ rfl
  have S₂ := S₁.push (t := s.toks) (P := varP none) (o := { cls := .type "cell", data := .cell none }) rfl rfl
  rw [h1, h2]
  refine wpAny_bind (wpAny_pure (wpAny_pure ?_))
  have e : (s.heap.push { cls := .type "dict", data := .dict #[] }).objs.size = s.heap.objs.size + 1 := Heap.size_push ..
  have S₃ : Own c H B ((s.heap.objs.size + 1, varP none) :: (s.heap.objs.size, frameP []) :: cs) _ := e ▸ S₂
  have := hQ s.heap.objs.size _ S₃
  simpa [e] using this
end
section
variable {c : Cx} {H B : PM} {cs cs' : List Cell} {s : Shared} {A : Around} {env : Env}
theorem comp_main {elt target : Expr} {ifs : List Expr} {scope : Scope} {cl : List (Str × Addr)} {it : Addr} {n : Nat} {V : PM → Nat → Value → Prop} {St : Nat → List Cell} {K : Value → Shared → Prop} {B₀ : PM} {use : Option (Value → Sem Unit)}
    (W : Walk c A B₀ it n V St) {C D : Addr} {iter : Expr} {pos : Pos} (S₂ : Own c H B ((C, frameP []) :: (D, listP []) :: (St 0 ++ cs)) s) (hle : Le B₀ B) (J : Nat → List Value → PM → List Cell → Prop) (h0 : J 0 [] B cs)
    (turn : ∀ k v ys H' B' cs' s', k < n → Le B B' → V B' k v → J k ys B' cs' → Own c H' B' ((C, frameP []) :: cs') s' →
      wpAny c.M A (assign target (compEnvC scope cl C env) v) (fun _ s₁ => wpAny c.M A (Tests ifs (compEnvC scope cl C env)) (fun ok s₂ =>
        if ok = true then wpAny c.M A (eval elt (compEnvC scope cl C env)) (fun y s₃ => ∃ B'' cs'' bs, Le B' B'' ∧ J (k + 1) (ys ++ [y]) B'' cs'' ∧ Own c H' B'' ((C, frameP bs) :: cs'') s₃) NE s₂
        else ∃ B'' cs'' bs, Le B' B'' ∧ J (k + 1) ys B'' cs'' ∧ Own c H' B'' ((C, frameP bs) :: cs'') s₂) NE s₁) NE s')
    (hJ : ∀ k ys B' B'' cs, Le B' B'' → J k ys B' cs → J k ys B'' cs)
    (after : ∀ ys B' cs' s', Le B B' → B' D = none → ys.length ≤ n → J n ys B' cs' → Own c H B' ((D, listP ys) :: (C, frameP []) :: cs') s' → compPost c.M A NE use K (.ref D) C (.ok .next) s')
    (hsz : n ≤ sizeLine) : codeAny c.M A (.compStart (.ListComp elt [⟨target, iter, ifs, 0⟩] scope pos) 0 (.ref it) (.ref D) (compEnvC scope cl C env)) (compPost c.M A NE use K (.ref D) C) s :=
  comp_mainT (W.toT _) S₂ hle J h0 turn hJ after hsz
theorem comp_sc {elt target : Expr} {ifs : List Expr} {scope : Scope} {cl : List (Str × Addr)} {it : Addr} {n : Nat} {V : PM → Nat → Value → Prop} {St : Nat → List Cell} {K : Shared → Prop} {B₀ : PM} {x y : Str} {p : Pos}
    (W : Walk c A B₀ it n V St) (S : Own c H B (St 0 ++ cs) s) (hle : Le B₀ B) (h1 : ∀ n, cellsFrom n scope.names cl = (y, n) :: cl) (h2 : ∀ h, pushCells h scope.names = h.push { cls := .type "cell", data := .cell none })
    (J : Addr → Nat → List Value → PM → List Cell → Prop) (h0 : ∀ C, J C 0 [] B ((C + 1, varP none) :: cs))
    (turn : ∀ C k v ys H' B' cs' s', k < n → Le B B' → V B' k v → J C k ys B' cs' → Own c H' B' ((C, frameP []) :: cs') s' →
      wpAny c.M A (assign target (compEnvC scope ((y, C + 1) :: cl) C env) v) (fun _ s₁ => wpAny c.M A (Tests ifs (compEnvC scope ((y, C + 1) :: cl) C env)) (fun ok s₂ =>
        if ok = true then wpAny c.M A (eval elt (compEnvC scope ((y, C + 1) :: cl) C env)) (fun z s₃ => ∃ B'' cs'' bs, Le B' B'' ∧ J C (k + 1) (ys ++ [z]) B'' cs'' ∧ Own c H' B'' ((C, frameP bs) :: cs'') s₃) NE s₂
        else ∃ B'' cs'' bs, Le B' B'' ∧ J C (k + 1) ys B'' cs'' ∧ Own c H' B'' ((C, frameP bs) :: cs'') s₂) NE s₁) NE s')
    (hJ : ∀ C k ys B' B'' cs, Le B' B'' → J C k ys B' cs → J C k ys B'' cs)
    (after : ∀ C D ys B' cs', Le B B' → B' D = none → ys.length ≤ n → J C n ys B' cs' →
      ∃ bs cs₂, Upd env.locals (frameP bs) (frameP ((x, .ref D) :: bs)) ((D, listP ys) :: cs') cs₂ ∧ ∀ s₂, Own c H B' cs₂ s₂ → K s₂)
    (hk' : env.scope.kind = .function) (hl : env.kindOf x = some .local) (hsz : n ≤ sizeLine) : CompS c A elt target ifs scope cl (.ref it) env x p K s := by
  intro iter pos
  refine newListC S (Nat.zero_le _) fun D s₁ hD S₁ => ?_
  refine nfe1 S₁ h1 h2 fun C s₂ S₂ => ?_
  have S₃ : Own c H B ((C, frameP []) :: (D, listP []) :: (St 0 ++ ((C + 1, varP none) :: cs))) s₂ :=
    S₂.perm ((List.Perm.swap ..).trans (.cons _ ((List.Perm.swap ..).trans (.cons _ List.perm_middle.symm))))
  refine comp_main W S₃ hle (J C) (h0 C) (turn C) (hJ C) ?_ hsz
  intro ys B' cs' s' hle' hD' hlen hj T
  obtain ⟨bs, cs₂, U, hK⟩ := after C D ys B' cs' hle' hD' hlen hj
  have T₁ : Own c H B' ([(C, frameP [])] ++ ((D, listP ys) :: cs')) s' := T.swap
  obtain ⟨H', T₂, back⟩ := T₁.frameOut'
  show wpAny c.M A (assign (.Name x p) env (.ref D)) _ NE s'
  refine wpAny_assign_Name (st T₂ U (fun s₂ S₂ => ?_) hk' hl)
  have S₃ : Own c H B' ((C, frameP []) :: cs₂) s₂ := back _ _ _ S₂
  obtain ⟨m, hn, _⟩ := frame_ns S₃ (List.mem_cons_self ..)
  exact ⟨m, hn, fun h' hs' => hK _ (S₃.gone (t := s₂.toks) hs'.extBut)⟩
end
local macro_rules | `(tactic| row_room_at m_fat) => `(tactic| with_reducible first | exact ClsW.fname (by assumption) | exact ClsW.farg (by assumption) | exact ClsW.flocals (by assumption) | exact ClsW.fblocks (by assumption) | exact ClsW.fspots (by assumption) | fail "m_fat")
local macro_rules | `(tactic| row_room_at ar) => `(tactic| first | decide | omega)
local macro_rules | `(tactic| row_room_at m_sub) => `(tactic| first | exact sub_nil | exact sub_cons rfl (by row_room_at m_sub) | fail "m_sub")
local macro_rules | `(tactic| row_room_at m_le) => `(tactic| first | exact Le.refl _ | with_reducible assumption | (refine Le.trans ?_ (by with_reducible assumption); row_room_at m_le) | fail "m_le")
local macro_rules | `(tactic| row_room_at m_get) => `(tactic| first | with_reducible assumption | exact rfl | assumption | fail "m_get")
local macro_rules | `(tactic| row_room_at m_rd) => `(tactic| first | with_reducible assumption | with_reducible exact Rd.none | with_reducible exact Rd.int _ _ | with_reducible exact Rd.str _ _ | with_reducible exact Rd.bool _ | with_reducible exact Rd.mono (by assumption) (by row_room_at m_rd) | fail "m_rd")
local macro_rules | `(tactic| row_room_at m_rdall) => `(tactic| with_reducible first | exact RdAll.nil | exact RdAll.cons (by row_room_at m_rd) (by row_room_at m_rdall) | assumption | exact RdAll.mono (by assumption) (by row_room_at m_rdall) | fail "m_rdall")
local macro_rules | `(tactic| row_room_at m_body) => `(tactic| with_reducible first | assumption | exact BodyAt.mono (by assumption) (by row_room_at m_body) | fail "m_body")
local macro_rules | `(tactic| row_room_at m_shaped) => `(tactic| first | assumption | exact Sh.shaped (by assumption) (by decide) | decide | rfl | fail "m_shaped")
local macro_rules | `(tactic| row_room_at m_ints) => `(tactic| first | exact intsL_R (by assumption) (by row_room_at m_rd) | exact intsL_C (by assumption) (by row_room_at m_mem) (by row_room_at m_rdall) | fail "m_ints")
local macro_rules | `(tactic| row_room_at m_mem) => `(tactic| first | exact List.mem_cons_self .. | assumption | exact List.mem_cons_of_mem _ (by row_room_at m_mem) | fail "m_mem")
local macro_rules | `(tactic| row_room_at m_upd) => `(tactic| first | exact Upd.head | exact Upd.tail (by row_room_at m_upd) | fail "m_upd")
local macro_rules | `(tactic| row_room_at m_isl) => `(tactic| first
  | exact isList_cell (by assumption) (by row_room_at m_mem)
  | exact isList_cellW (by assumption) (by row_room_at m_mem)
  | exact isList_B (by assumption) (by assumption) (by assumption)
  | fail "m isl")
local macro_rules | `(tactic| row_room_at m_fact) => `(tactic| first | with_reducible assumption | omega | decide | exact Nat.le_of_ble_eq_true rfl | fail "m_fact")
local macro_rules | `(tactic| row_room_at m_none) => `(tactic| with_reducible first | exact World.nlen (by assumption) | exact World.nrange (by assumption) | exact World.nint (by assumption) | exact World.nlist (by assumption) | exact World.ndict (by assumption) | exact World.ntuple (by assumption) | exact World.nenum (by assumption) | exact World.nsorted (by assumption) | exact World.nmax (by assumption) | fail "m_none")
local macro_rules | `(tactic| row_room_at m_boot) => `(tactic| with_reducible first | exact bb_len | exact bb_range | exact bb_int | exact bb_list | exact bb_dict | exact bb_tuple | exact bb_enum | exact bb_sorted | exact bb_max | fail "m_boot")
local macro_rules | `(tactic| row_room_at m_nm) => `(tactic| first
  | ((with_reducible show NmGoal NameKind.local _ _ _ _ _ _ _); refine nmL (by assumption) (by row_room_at m_mem) (by exact rfl) ?_ (by exact rfl) (by exact rfl))
  | ((with_reducible show NmGoal NameKind.globalImplicit _ _ _ _ _ _ _); first
    | refine nmG (World.glb (by assumption)) (by assumption) (by with_reducible assumption) ?_ (by exact rfl) (by exact rfl) (by exact rfl)
    | refine nmB (World.glb (by assumption)) (by assumption) (by row_room_at m_none) (by row_room_at m_boot) ?_ (by exact rfl) (by exact rfl) (by exact rfl) (by exact rfl) (by exact rfl))
  | ((with_reducible show NmGoal NameKind.cell _ _ _ _ _ _ _); first
    | refine nmC (by assumption) (by exact rfl) (by row_room_at m_mem) ?_ (by exact rfl) (by exact rfl)
    | refine nmCB (by assumption) (by exact rfl) (by assumption) (by assumption) ?_ (by exact rfl) (by exact rfl))
  | ((with_reducible show NmGoal NameKind.free _ _ _ _ _ _ _); refine nmFB (by assumption) (by exact rfl) (by assumption) (by assumption) ?_ (by exact rfl) (by exact rfl) (by exact rfl))
  | fail "m nm")
local macro_rules | `(tactic| row_room_at m_sm) => `(tactic| first
  | ((with_reducible show StGoal NameKind.local _ _ _ _ _ _ _); refine smL (by assumption) (by row_room_at m_upd) ?_ (by exact rfl); intro _ _)
  | ((with_reducible show StGoal NameKind.cell _ _ _ _ _ _ _); refine smC (by assumption) (by exact rfl) (by row_room_at m_upd) ?_ (by exact rfl); intro _ _)
  | fail "m sm")
local macro_rules | `(tactic| row_room_at m_e) => `(tactic| first
  | ((with_reducible show wpAny _ _ (eval (Expr.Name _ _) _) _ _ _); (refine nm (by exact rfl) ?_; row_room_at m_nm))
  | ((with_reducible show wpAny _ _ (eval (Expr.Constant (Const.int _) _ _) _) _ _ _); refine c_int (by assumption) ?_; intro _ _ _)
  | ((with_reducible show wpAny _ _ (eval (Expr.Constant (Const.str _) _ _) _) _ _ _); refine c_str (by assumption) ?_; intro _ _ _)
  | ((with_reducible show wpAny _ _ (eval (Expr.Constant (Const.bool _) _ _) _) _ _ _); refine c_bool ?_)
  | ((with_reducible show wpAny _ _ (eval (Expr.Constant Const.none _ _) _) _ _ _); refine c_none ?_)
  | with_reducible refine wpAny_BinOp ?_
  | with_reducible refine sub_ ?_
  | ((with_reducible show wpAny _ _ (eval (Expr.Tuple _ _ _) _) _ _ _); refine e_tuple ?_)
  | ((with_reducible show wpAny _ _ (eval (Expr.UnaryOp _ _ _) _) _ _ _); refine UnaryOp_ ?_)
  | ((with_reducible show wpAny _ _ (eval (Expr.List _ _) _) _ _ _); refine e_list ?_)
  | ((with_reducible show wpAny _ _ (eval (Expr.Slice none (some _) none _) _) _ _ _); refine e_sliceTo ?_)
  | ((with_reducible show wpAny _ _ (eval (Expr.Slice _ _ _ _) _) _ _ _); refine e_slice3 ?_)
  | ((with_reducible show wpAny _ _ (eval (Expr.Attribute _ _ _) _) _ _ _); refine e_attr ?_)
  | ((with_reducible show wpAny _ _ (eval (Expr.Call (Expr.Attribute _ _ _) _ _ _) _) _ _ _); refine e_meth ?_)
  | ((with_reducible show wpAny _ _ (eval (Expr.ListComp _ _ _ _) _) _ _ _); refine e_comp ?_)
  | ((with_reducible show wpAny _ _ (eval (Expr.Compare _ [_] [_] _) _) _ _ _); refine wpAny_Compare1 ?_)
  | ((with_reducible show wpAny _ _ (eval (Expr.BoolOp BoolOp.And [_] _) _) _ _ _); refine BoolOp_one ?_)
  | ((with_reducible show wpAny _ _ (eval (Expr.BoolOp BoolOp.And (_ :: _ :: _) _) _) _ _ _); refine BoolOp_and ?_)
  | with_reducible refine call_n ?_
  | fail "m e: no step")
local macro_rules | `(tactic| row_room_at m_s) => `(tactic| first
  | with_reducible refine x_ret ?_
  | ((with_reducible show wpAny _ _ (runs ((Stmt.Assign [Expr.Name _ _] (Expr.ListComp _ _ _ _) _ :: _) :: _) _) _ _ _); refine x_comp (by exact rfl) ?_)
  | ((with_reducible show wpAny _ _ (runs ((Stmt.Assign [Expr.Name _ _] _ _ :: _) :: _) _) _ _ _); refine x_set ?_)
  | with_reducible refine x_if ?_
  | ((with_reducible show wpAny _ _ (runs ((Stmt.Assign [Expr.Subscript _ _ _] _ _ :: _) :: _) _) _ _ _); refine x_setitem ?_)
  | ((with_reducible show wpAny _ _ (runs ((Stmt.Expr _ _ :: _) :: _) _) _ _ _); refine x_expr ?_)
  | with_reducible refine x_nil ?_
  | with_reducible refine x_done ?_
  | ((with_reducible show wpAny _ _ (runs ((Stmt.Assign [Expr.Tuple [_, _, _] _ _] (Expr.Tuple _ _ _) _ :: _) :: _) _) _ _ _); refine x_swap3 (by exact rfl) (by exact rfl) (Room.hd (by assumption)) ?_)
  | ((with_reducible show wpAny _ _ (runs ((Stmt.Assign [Expr.Tuple [_, _] _ _] (Expr.Tuple _ _ _) _ :: _) :: _) _) _ _ _); refine x_swap2 (by exact rfl) (by exact rfl) (Room.hd (by assumption)) ?_)
  | ((with_reducible show wpAny _ _ (runs ((Stmt.Assign [Expr.Tuple _ _ _] _ _ :: _) :: _) _) _ _ _); refine x_unpack ?_)
  | ((with_reducible show wpAny _ _ (runs ((Stmt.For _ _ _ _ _ :: _) :: _) _) _ _ _); refine x_for ?_)
  | ((with_reducible show wpAny _ _ (runs ((Stmt.Assign [Expr.Attribute _ _ _] _ _ :: _) :: _) _) _ _ _); refine x_setattr ?_)
  | fail "m s: no step")
local macro_rules | `(tactic| row_room_at m_item) => `(tactic| first
  | ((with_reducible show wpAny _ _ (subscriptTail _ _ _ (Value.int _ _)) _ _ _); refine item_R (by assumption) (by row_room_at m_rd) (by row_room_at m_fact) (by row_room_at m_fact) (by row_room_at m_get) ?_; (intro v r; first | (obtain ⟨w, e⟩ := Rd.int_inv r; subst e) | (obtain ⟨w, e⟩ := Rd.str_inv r; subst e) | (have e := Rd.none_inv r; subst e) | (have e := Rd.bool_inv r; subst e) | skip))
  | ((with_reducible show wpAny _ _ (subscriptTail _ _ _ (Value.int _ _)) _ _ _); refine item_T (by assumption) (by row_room_at m_rd) (by decide) (by decide) (by exact rfl) (by exact rfl) ?_; (intro v r; first | (obtain ⟨w, e⟩ := Rd.int_inv r; subst e) | (obtain ⟨w, e⟩ := Rd.str_inv r; subst e) | (have e := Rd.none_inv r; subst e) | (have e := Rd.bool_inv r; subst e) | skip))
  | ((with_reducible show wpAny _ _ (subscriptTail _ _ _ (Value.ref _)) _ _ _); first
      | (refine item_To 4 (by assumption) (by row_room_at m_rd) (by assumption) (by first | exact .inl ⟨rfl, rfl⟩ | exact .inr ⟨rfl, by exact Nat.le_of_ble_eq_true rfl⟩) (by exact Nat.le_of_ble_eq_true rfl) ?_; intro _ _ _ _ _ _)
      | (refine item_To 2 (by assumption) (by row_room_at m_rd) (by assumption) (by first | exact .inl ⟨rfl, rfl⟩ | exact .inr ⟨rfl, by exact Nat.le_of_ble_eq_true rfl⟩) (by exact Nat.le_of_ble_eq_true rfl) ?_; intro _ _ _ _ _ _)
      | (refine item_To 1 (by assumption) (by row_room_at m_rd) (by assumption) (by first | exact .inl ⟨rfl, rfl⟩ | exact .inr ⟨rfl, by exact Nat.le_of_ble_eq_true rfl⟩) (by exact Nat.le_of_ble_eq_true rfl) ?_; intro _ _ _ _ _ _))
  | ((with_reducible show wpAny _ _ (subscriptTail _ _ (Value.ref _) (Value.int _ _)) _ _ _); refine item_l (by row_room_at m_isl) (by decide) (by decide) (by exact rfl) ?_)
  | fail "m item")
local macro_rules | `(tactic| row_room_at m_call) => `(tactic| first
  | ((with_reducible show wpAny _ _ (call (Value.type "int") [Value.int _ _] _) _ _ _); refine b_int ?_)
  | ((with_reducible show wpAny _ _ (call (Value.type "int") [Value.bool _] _) _ _ _); refine b_intb (by assumption) ?_; intro _ _ _)
  | ((with_reducible show wpAny _ _ (call (Value.builtin "max") _ _) _ _ _); refine b_max (by assumption) (Room.hd (by assumption)) ?_; intro _ _ _)
  | ((with_reducible show wpAny _ _ (call (Value.builtin "len") _ _) _ _ _); first
      | (refine b_len_R (by assumption) (by row_room_at m_rd) ?_ (by row_room_at m_fact); intro _ _ _)
      | (refine b_len_T (by assumption) (by row_room_at m_rd) ?_ (by row_room_at m_fact); intro _ _ _)
      | (refine b_len_C (by assumption) (by row_room_at m_mem) ?_ (by row_room_at m_fact); intro _ _ _))
  | ((with_reducible show wpAny _ _ (call (Value.type "range") _ _) _ _ _); (first | with_reducible refine b_range1 (by assumption) ?_ | refine b_range rfl (by assumption) ?_); intro _ _ _ _ _ _)
  | ((with_reducible show wpAny _ _ (call (Value.type "list") _ _) _ _ _); refine b_list (by assumption) (by row_room_at m_rd) ?_ (by row_room_at m_fact); intro _ _ _ _ _ _)
  | ((with_reducible show wpAny _ _ (call (Value.type "tuple") _ _) _ _ _); first | (refine b_tuple (by assumption) (by row_room_at m_rd) ?_ (by row_room_at m_fact); intro _ _ _ _ _ _) | (refine b_tuple_of (by assumption) (by row_room_at m_isl) (by row_room_at m_rdall) ?_ (by row_room_at m_fact); intro _ _ _ _ _ _))
  | fail "m call")
local macro_rules | `(tactic| row_room_at m_cmp) => `(tactic| first
  | with_reducible refine gt_int ?_
  | with_reducible refine lt_int ?_
  | with_reducible refine eq_int ?_
  | with_reducible refine ne_int ?_
  | with_reducible refine ge_int ?_
  | with_reducible refine isnone ?_
  | with_reducible refine isnotnone ?_
  | ((with_reducible show wpAny _ _ (compareOp CmpOp.In (Value.int _ _) _) _ _ _); refine in_ints (by row_room_at m_ints) (Room.u (by assumption)) ?_)
  | ((with_reducible show wpAny _ _ (compareOp CmpOp.NotIn (Value.int _ _) _) _ _ _); refine notin_ints (by row_room_at m_ints) (Room.u (by assumption)) ?_)
  | ((with_reducible show wpAny _ _ (compareOp CmpOp.In (Value.str _ _) _) _ _ _); refine in_strs (by assumption) (by row_room_at m_rd) (by decide +kernel) (by decide +kernel) (Room.u (by assumption)) ?_)
  | ((with_reducible show wpAny _ _ (compareOp CmpOp.Eq (Value.str _ _) (Value.str _ _)) _ _ _); refine eq_s ?_)
  | ((with_reducible show wpAny _ _ (compareOp CmpOp.Eq _ _) _ _ _); refine eq_R (by assumption) (Room.u (by assumption)) (by row_room_at m_rd) (by row_room_at m_rd) (by row_room_at m_shaped) (by row_room_at m_shaped) ?_)
  | ((with_reducible show wpAny _ _ (compareOp CmpOp.NotEq _ _) _ _ _); refine ne_R (by assumption) (Room.u (by assumption)) (by row_room_at m_rd) (by row_room_at m_rd) (by row_room_at m_shaped) (by row_room_at m_shaped) ?_)
  | fail "m cmp")
local macro_rules | `(tactic| row_room_at m_bin) => `(tactic| first
  | ((with_reducible show wpAny _ _ (binaryOp Operator.Add (Value.int _ _) (Value.int _ _)) _ _ _); refine add_i (by assumption) ?_; intro _ _ _)
  | ((with_reducible show wpAny _ _ (binaryOp Operator.Sub (Value.int _ _) (Value.int _ _)) _ _ _); refine sub_i (by assumption) ?_; intro _ _ _)
  | ((with_reducible show wpAny _ _ (binaryOp Operator.Mod _ _) _ _ _); refine mod_i (by assumption) (by row_room_at m_fact) ?_; intro _ _ _)
  | ((with_reducible show wpAny _ _ (binaryOp Operator.FloorDiv _ _) _ _ _); refine fdiv_i (by assumption) (by row_room_at m_fact) (by row_room_at m_fact) ?_; intro _ _ _)
  | ((with_reducible show wpAny _ _ (binaryOp Operator.Mult (Value.int _ _) (Value.int _ _)) _ _ _); refine mul_i (by assumption) (IntMulOk.of_right (intBits_le_64 (by omega) (by omega))) ?_; intro _ _ _)
  | ((with_reducible show wpAny _ _ (binaryOp Operator.Pow (Value.int _ _) (Value.int _ _)) _ _ _); refine pow_i (by assumption) (by decide) (by decide) (by decide) ?_; intro _ _ _)
  | ((with_reducible show wpAny _ _ (binaryOp Operator.Add (Value.ref _) (Value.ref _)) _ _ _); refine add_T (by assumption) (by row_room_at m_rd) (by row_room_at m_rd) (by simp) (by simp) (by row_room_at m_fact) ?_; intro _ _ _ _ _ _)
  | fail "m bin")
local macro_rules | `(tactic| row_room_at m_set) => `(tactic| first
  | (refine set_lW (by assumption) (by row_room_at m_upd) (by decide) (by decide) (by exact Nat.le_of_ble_eq_true rfl) ?_; intro _ _)
  | (refine set_l (by assumption) (by row_room_at m_upd) (by decide) (by decide) (by exact Nat.le_of_ble_eq_true rfl) ?_; intro _ _)
  | fail "m set")
local macro_rules | `(tactic| row_room_at m) => `(tactic| first
  | ((with_reducible show wpAny _ _ (eval _ _) _ _ _); row_room_at m_e)
  | ((with_reducible show wpAny _ _ (runs _ _) _ _ _); row_room_at m_s)
  | ((with_reducible show wpAny _ _ (spliced _) _ _ _); first | refine a_cons ?_ | refine a_nil ?_)
  | ((with_reducible show wpAny _ _ (storeName _ _ _) _ _ _); (refine sm (by exact rfl) ?_; row_room_at m_sm))
  | ((with_reducible show wpAny _ _ (subscriptTail _ _ _ _) _ _ _); row_room_at m_item)
  | ((with_reducible show wpAny _ _ (callWith _ (Value.type _) _ _ _) _ _ _); refine cw_ty ?_)
  | ((with_reducible show wpAny _ _ (callWith _ (Value.builtin _) [] _ _) _ _ _); refine cw_bi ?_)
  | ((with_reducible show wpAny _ _ (callWith _ (Value.builtin _) [_] (backTo _ (starEach [] _)) _) _ _ _); refine cw_bi10 ?_)
  | ((with_reducible show wpAny _ _ (callWith _ (Value.builtin _) [_] _ _) _ _ _); refine cw_bi1 ?_)
  | ((with_reducible show wpAny _ _ (callWith _ (Value.ref _) [] _ _) _ _ _); first | with_reducible refine cw_fn (by assumption) ?_ (by with_unfolding_all rfl) | refine cw_fn (by assumption) ?_)
  | ((with_reducible show wpAny _ _ (callWith _ (Value.ref _) [_] _ _) _ _ _); first | with_reducible refine cw_fn1 (by assumption) ?_ (by with_unfolding_all rfl) | refine cw_fn1 (by assumption) ?_)
  | ((with_reducible show wpAny _ _ (call _ _ _) _ _ _); row_room_at m_call)
  | ((with_reducible show wpAny _ _ (isTrue (Expr.Compare _ [_] [_] _) _ _) _ _ _); refine wpAny_isTrue_Compare1 ?_)
  | ((with_reducible show wpAny _ _ (truthy (Value.bool _)) _ _ _); refine wpAny_truthy_bool ?_)
  | ((with_reducible show wpAny _ _ (compareOp _ _ _) _ _ _); row_room_at m_cmp)
  | ((with_reducible show wpAny _ _ (binaryOp _ _ _) _ _ _); row_room_at m_bin)
  | ((with_reducible show wpAny _ _ (setItem _ (Value.int _ _) _) _ _ _); row_room_at m_set)
  | ((with_reducible show wpAny _ _ (newTuple _) _ _ _); refine newTupleR (by assumption) (by row_room_at m_rdall) ?_ (by exact Nat.le_of_ble_eq_true rfl); intro _ _ _ _ _ _)
  | ((with_reducible show wpAny _ _ (isTrue (Expr.BoolOp BoolOp.And [] _) _ _) _ _ _); refine isTrue_and_nil ?_)
  | ((with_reducible show wpAny _ _ (isTrue (Expr.BoolOp BoolOp.And _ _) _ _) _ _ _); refine isTrue_and ?_)
  | ((with_reducible show wpAny _ _ (isTrue (Expr.BoolOp BoolOp.Or [] _) _ _) _ _ _); refine isTrue_or_nil ?_)
  | ((with_reducible show wpAny _ _ (isTrue (Expr.BoolOp BoolOp.Or _ _) _ _) _ _ _); refine isTrue_or ?_)
  | ((with_reducible show wpAny _ _ (isTrue (Expr.UnaryOp UnaryOp.Not _ _) _ _) _ _ _); refine isTrue_not ?_)
  | ((with_reducible show wpAny _ _ (isTrue _ _ _) _ _ _); refine isTrue_plain ?_)
  | ((with_reducible show wpAny _ _ (assign (Expr.Name _ _) _ _) _ _ _); refine wpAny_assign_Name ?_)
  | ((with_reducible show wpAny _ _ (unaryOp UnaryOp.USub (Value.int _ _)) _ _ _); refine neg_i (by assumption) ?_; intro _ _ _)
  | ((with_reducible show wpAny _ _ (assign (Expr.Tuple _ _ _) _ _) _ _ _); (first | (refine as_T2 (by assumption) (Room.hd (by assumption)) (by row_room_at m_rd) ?_) | (refine as_L2 (by assumption) (Room.hd (by assumption)) (by row_room_at m_rd) ?_)); (intro v u s' r q S'; (first | (obtain ⟨w, e⟩ := Rd.int_inv r; subst e) | (obtain ⟨w, e⟩ := Rd.str_inv r; subst e) | (have e := Rd.none_inv r; subst e) | (have e := Rd.bool_inv r; subst e) | skip); (first | (obtain ⟨w, e⟩ := Rd.int_inv q; subst e) | (obtain ⟨w, e⟩ := Rd.str_inv q; subst e) | (have e := Rd.none_inv q; subst e) | (have e := Rd.bool_inv q; subst e) | skip)))
  | ((with_reducible show wpAny _ _ (assignInOrder _ _) _ _ _); first | refine ao_cons ?_ | refine ao_nil ?_)
  | ((with_reducible show wpAny _ _ (bindName _ _ _) _ _ _); refine bindName_ ?_)
  | ((with_reducible show ∃ _ _ _, Own _ _ _ _ _ ∧ _); refine ⟨_, _, _, by assumption, ?_⟩; intro _ _ _ _ _ _)
  | ((with_reducible show ∃ _ _ _, _ = [_, _, _] ∧ _); refine ⟨_, _, _, rfl, _, _, _, by assumption, ?_⟩; intro _ _)
  | ((with_reducible show ∃ _ _, _ = [_, _] ∧ _); refine ⟨_, _, rfl, _, _, _, by assumption, ?_⟩; intro _ _)
  | ((with_reducible show wpAny _ _ (Tests [] _) _ _ _); refine tests_nil ?_)
  | ((with_reducible show wpAny _ _ (Tests [_] _) _ _ _); refine tests_one ?_)
  | ((with_reducible show if (Str.ofString _ == Str.ofString _) = true then _ else _); first | refine ite_t (by decide +kernel) ?_ | refine ite_f (by decide +kernel) ?_)
  | ((with_reducible show if true = true then _ else _); refine ite_t rfl ?_)
  | ((with_reducible show if false = true then _ else _); refine ite_f rfl ?_)
  | ((with_reducible show wpAny _ _ (getMethod (Value.ref _) (Str.ofString "append") _) _ _ _); refine gm_list (by assumption) (by row_room_at m_mem) PySem.slot_list_append PySem.F.type_list_append ?_)
  | ((with_reducible show wpAny _ _ (getMethod (Value.ref _) (Str.ofString "extend") _) _ _ _); refine gm_list (by assumption) (by row_room_at m_mem) PySem.F.slot_list_extend PySem.F.type_list_extend ?_)
  | ((with_reducible show wpAny _ _ (getMethod (Value.ref _) (Str.ofString "pop") _) _ _ _); refine gm_list (by assumption) (by row_room_at m_mem) PySem.F.slot_list_pop PySem.F.type_list_pop ?_)
  | ((with_reducible show wpAny _ _ (call (Value.builtin "list.append") [_, _] _) _ _ _); refine l_append (by assumption) (by row_room_at m_upd) (by row_room_at m_fact) ?_; intro _ _)
  | ((with_reducible show wpAny _ _ (getAttr (Value.ref _) _ _) _ _ _); refine ga (by assumption) (by assumption) (by row_room_at m_body) (by row_room_at m_fat) rfl (by first | rfl | assumption) ?_; intro _ _)
  | ((with_reducible show wpAny _ _ (getMethod (Value.ref _) _ _) _ _ _); refine gm_inst (by assumption) (by assumption) (by row_room_at m_body) (by assumption) (by assumption) rfl ?_)
  | ((with_reducible show wpAny _ _ (call (Value.builtin "list.extend") [_, _] _) _ _ _); refine l_extendC (by assumption) (by row_room_at m_upd) (by row_room_at m_mem) (by row_room_at m_fact) ?_; intro _ _)
  | ((with_reducible show wpAny _ _ (setAttr (Value.ref _) _ _) _ _ _); refine sa (by assumption) (by assumption) (by assumption) (by row_room_at m_upd) (by simp) (by row_room_at m_fat) ?_; intro _ _)
  | ((with_reducible show wpAny _ _ (evalPart none _) _ _ _); refine wpAny_pure ?_)
  | ((with_reducible show wpAny _ _ (evalPart (some _) _) _ _ _); rw [evalPart_some])
  | ((with_reducible show Live _ _ ∧ _); refine ⟨Own.live (by assumption), ?_⟩)
  | fail "m: no step")
local macro_rules | `(tactic| row_room_at listC) => `(tactic| (refine newListC (by assumption) (by exact Nat.le_of_ble_eq_true rfl) ?_; intro _ _ _ _))
local macro_rules | `(tactic| row_room_at listR) => `(tactic| (refine newListR (by assumption) (by row_room_at m_rdall) ?_ (by exact Nat.le_of_ble_eq_true rfl); intro _ _ _ _ _ _))
local macro_rules | `(tactic| row_room_at ifx) => `(tactic| refine wpAny_IfExp ?_)
local macro_rules | `(tactic| row_room_at look) => `(tactic| (refine Look.use (by assumption) (by assumption) (by assumption) (by row_room_at m_le) ?_ ?_))
local macro_rules | `(tactic| row_room_at inT) => `(tactic| refine ite_t (by rw [any2]; decide +kernel) ?_)
local macro_rules | `(tactic| row_room_at inF) => `(tactic| refine ite_f (by rw [any2]; decide +kernel) ?_)
noncomputable def srcP (o : Obj) : Prop := ∃ a b t u, 0 ≤ b ∧ b < 2147483647 ∧ listW [.int a t, .int b u] o
section
variable {c : Cx} {H B : PM} {cs : List Cell} {s : Shared} {A : Around}
theorem take_spec {src fa : Addr} {top : Int} {t : Tok} {Q : Value → Shared → Prop} (W : World c) (R : Room A 1) (F : FnAt c fa (Str.ofString "_law_take") (Str.ofString "_law_take") (stAt 14) .none) (S : Own c H B cs s)
    (hm : (src, srcP) ∈ cs) (h0 : 0 < top) (h1 : top < 1000000) (h : ∀ d t s', 0 ≤ d → d < top → Own c H B cs s' → Q (.int d t) s') :
    wpAny c.M A (call (.ref fa) [.ref src, .int top t]) Q NE s := by
  obtain ⟨o, cs₀, ⟨a, b, ta, tb, hb0, hb1, hl⟩, S₀, back⟩ := S.openC hm
  have S₁ := S₀.weak (P' := listW [.int a ta, .int b tb]) (fun o' e => e ▸ hl)
  refine enter (binds := [(Str.ofString "source", .ref src), (Str.ofString "top", .int top t)]) R W.glb F S₁ rfl rfl (fun _ _ _ _ _ _ => BindsTo.of_eq rfl) (by decide) rfl ?_
  intro A' L cd s' R' S'
  refine runs_of ?_
  repeat (row_room_at m)
  refine ite_w (fun hb => ?_) (fun hb => ?_)
  · replace hb := of_decide_eq_true hb
    repeat (row_room_at m)
    rename_i S''
    exact h _ _ _ (Int.emod_nonneg _ (by row_room_at ar)) (Int.emod_lt_of_pos _ (by row_room_at ar)) (back _ _ _ (S''.drop.weak fun o q => ⟨_, _, _, _, hb0, hb1, q⟩))
  · have hq : 0 ≤ (b * 39373 + 7) % 2147483647 ∧ (b * 39373 + 7) % 2147483647 < 2147483647 := ⟨Int.emod_nonneg _ (by row_room_at ar), Int.emod_lt_of_pos _ (by row_room_at ar)⟩
    repeat (row_room_at m)
    rename_i S''
    exact h _ _ _ (Int.emod_nonneg _ (by row_room_at ar)) (Int.emod_lt_of_pos _ (by row_room_at ar)) (back _ _ _ (S''.drop.weak fun o q => ⟨_, _, _, _, hq.1, hq.2, q⟩))
end
section
variable {c : Cx} {H B : PM} {cs : List Cell} {s : Shared} {A : Around}
theorem one_spec {src fa : Addr} {x : Value} {ds : List PyData} {Q : Value → Shared → Prop} (W : World c) (R : Room A 2) (F : FnAt c fa (Str.ofString "_law_one") (Str.ofString "_law_one") (stAt 15) .none) (S : Own c H B cs s)
    (hm : (src, srcP) ∈ cs) (r : Rd B x (.list ds)) (h0 : 0 < ds.length) (h1 : ds.length < 1000000) (h : ∀ v d s', d ∈ ds → Rd B v d → Own c H B cs s' → Q v s') :
    wpAny c.M A (call (.ref fa) [.ref src, x]) Q NE s := by
  obtain ⟨ft, hft, Ft⟩ := W.take
  refine enter (binds := [(Str.ofString "source", .ref src), (Str.ofString "things", x)]) R W.glb F S rfl rfl (fun _ _ _ _ _ _ => BindsTo.of_eq rfl) (by decide) rfl ?_
  intro A' L cd s' R' S'
  refine runs_of ?_
  repeat (row_room_at m)
  refine take_spec W (R'.le (by decide)) Ft (by assumption) (List.mem_cons_of_mem _ hm) (by row_room_at ar) (by row_room_at ar) fun d t s₁ hd0 hd1 S₁ => ?_
  obtain ⟨e, he⟩ : ∃ e, ds[d.toNat]? = some e := ⟨ds[d.toNat]'(by row_room_at ar), by simp⟩
  refine item_R S₁ r hd0 (by row_room_at ar) he fun v rv => h v e _ (List.mem_of_getElem? he) rv S₁.drop
end
section
variable {c : Cx} {H B : PM} {cs : List Cell} {s : Shared} {A : Around}
theorem ok_one {many g : Int} (h0 : 0 ≤ g) (h1 : g < many) {e : End} (h : e.told = [.some g]) (hk : e.keys = []) (hr : ∀ rows rest, e ≠ .switch rows rest) : e.Ok many :=
  ⟨fun x hx => by rw [h] at hx; simp at hx; subst hx; exact ⟨h0, h1⟩, fun k hk' => by rw [hk] at hk'; simp at hk', fun rows rest q => absurd q (hr rows rest)⟩
theorem ok_none {many : Int} {e : End} (h : ∀ g, .some g ∉ e.told) (hk : e.keys = []) (hr : ∀ rows rest, e ≠ .switch rows rest) : e.Ok many :=
  ⟨fun x hx => absurd hx (h x), fun k hk' => by rw [hk] at hk'; simp at hk', fun rows rest q => absurd q (hr rows rest)⟩
set_option maxHeartbeats 4000000 in
theorem end_spec {src fa : Addr} {many : Int} {t : Tok} {Q : Value → Shared → Prop} (W : World c) (R : Room A 3) (F : FnAt c fa (Str.ofString "_law_end") (Str.ofString "_law_end") (stAt 16) .none) (S : Own c H B cs s)
    (hm : (src, srcP) ∈ cs) (h0 : 0 < many) (h1 : many < 1000)
    (h : ∀ v (e : End) B' s', e.Ok many → Rd B' v (.tuple [e.d, .list (e.given.map optD)]) → Own c H B' cs s' → Le B B' → Q v s') :
    wpAny c.M A (call (.ref fa) [.ref src, .int many t]) Q NE s := by
  obtain ⟨ft, hft, Ft⟩ := W.take
  obtain ⟨fo, hfo, Fo⟩ := W.one
  refine enterC (binds := [(Str.ofString "source", .ref src), (Str.ofString "many", .int many t)]) (lb := []) R W.glb F S rfl rfl (fun _ _ _ _ _ _ => rfl) rfl (by decide) (by intro p hp; simp at hp) ?_
  intro A' L cd s' R' S'
  replace S' : Own c H B ((L, frameP []) :: (L + 1 + 1, varP (some (.int many t))) :: (L + 1, varP (some (.ref src))) :: cs) s' := S'
  refine runs_of ?_
  repeat (row_room_at m)
  refine take_spec W (R'.le (by decide)) Ft (by assumption) (by row_room_at m_mem) (by row_room_at ar) (by row_room_at ar) fun way tw s₁ w0 w1 S₁ => ?_
  repeat (row_room_at m)
  refine take_spec W (R'.le (by decide)) Ft (by assumption) (by row_room_at m_mem) (by row_room_at ar) (by row_room_at ar) fun one to s₂ o0 o1 S₂ => ?_
  repeat (row_room_at m)
  refine take_spec W (R'.le (by decide)) Ft (by assumption) (by row_room_at m_mem) (by row_room_at ar) (by row_room_at ar) fun other tt s₃ r0 r1 S₃ => ?_
  repeat (row_room_at m)
  refine ite_w (fun hb => ?_) (fun hb => ?_)
  · repeat (row_room_at m)
    row_room_at listR
    repeat (row_room_at m)
    exact h _ (.goto one) _ _ (ok_one o0 o1 rfl rfl (fun _ _ q => nomatch q)) (by assumption) (by rename_i T; exact T.drop.drop.drop) (by row_room_at m_le)
  repeat (row_room_at m)
  refine ite_w (fun hb => ?_) (fun hb => ?_)
  · repeat (row_room_at m)
    refine take_spec W (R'.le (by decide)) Ft (by assumption) (by row_room_at m_mem) (by row_room_at ar) (by row_room_at ar) fun nk tn s₄ k0 k1 S₄ => ?_
    obtain ⟨n, rfl⟩ : ∃ n : Nat, nk = n := nat_of (by assumption)
    repeat (row_room_at m)
    refine it_range (by assumption) R'.hd (by assumption) (by row_room_at ar) fun it I s₅ Wk S₅ => ?_
    refine comp_c Wk S₅ (Le.refl _) (fun k ys B' => ∃ rows : List (PyData × Int), rows.length = k ∧ RdAll B' ys (rows.map rowD) ∧ ∀ p ∈ rows, Sh 0 p.1 ∧ 0 ≤ p.2 ∧ p.2 < many) ⟨[], rfl, .nil, by simp⟩ ?_ ?_ ?_ rfl (by rw [nats_len, sizeLine_eq]; omega)
    · rintro k v ys H' B' s' C hk hle hv ⟨rows, hl, hr, hp⟩ S
      rw [nats_len] at hk
      obtain ⟨d, hd, rv⟩ := hv
      rw [nats_get hk] at hd
      cases hd
      obtain ⟨tk, rfl⟩ := rv.int_inv
      repeat (row_room_at m)
      refine take_spec W (R'.le (by decide)) Ft (by assumption) (by row_room_at m_mem) (by row_room_at ar) (by row_room_at ar) fun g tg s₆ g0 g1 S₆ => ?_
      repeat (row_room_at m)
      refine ⟨_, _, by assumption, ⟨rows ++ [(.int k, g)], by simp [hl], ?_, ?_⟩, by assumption⟩
      · rw [List.map_append]
        exact RdAll.snoc (RdAll.mono (by assumption) hr) (by assumption)
      · intro p hp'
        rcases List.mem_append.mp hp' with q | q
        · exact hp p q
        · rw [List.mem_singleton.mp q]; exact ⟨Sh.int, g0, g1⟩
    · rintro k ys B' B'' hle ⟨rows, hl, hr, hp⟩
      exact ⟨rows, hl, hr.mono hle, hp⟩
    · rintro D ys B' s' hle hD hlen ⟨rows, hl, hr, hp⟩ S
      rw [nats_len] at hl hlen
      have hz : (rows.map rowD).length ≤ sizeLine := by rw [List.length_map, hl, sizeLine_eq]; omega
      repeat (row_room_at m)
      have sh : Sh 2 (.tuple (rows.map rowD)) := Sh.tuple (n := 1) fun x hx => by
        obtain ⟨p, hp', rfl⟩ := List.mem_map.mp hx
        exact Sh.tuple (n := 0) (all_cons (hp p hp').1 (all_cons Sh.int all_nil))
      rename_i T
      refine cut_v T (fun B' v => ∃ o, Rd B' v (optD o) ∧ ∀ g, o = some g → 0 ≤ g ∧ g < many) ?_ ?_
      · have hn : ∀ B', ∃ o, Rd B' .none (optD o) ∧ ∀ g, o = some g → 0 ≤ g ∧ g < many := fun B' => ⟨none, .none, fun _ q => nomatch q⟩
        have hs : ∀ B' t, ∃ o, Rd B' (.int other t) (optD o) ∧ ∀ g, o = some g → 0 ≤ g ∧ g < many := fun B' t => ⟨some other, .int _ _, fun g q => by cases q; exact ⟨r0, r1⟩⟩
        row_room_at ifx
        repeat (row_room_at m)
        refine ite_w (fun hb => ?_) (fun hb => ?_)
        · repeat (row_room_at m)
          refine ite_w (fun hb => ?_) (fun hb => ?_)
          · repeat (row_room_at m)
            exact ⟨_, by assumption, by row_room_at m_le, hn _⟩
          · repeat (row_room_at m)
            exact ⟨_, by assumption, by row_room_at m_le, hs _ _⟩
        · repeat (row_room_at m)
          exact ⟨_, by assumption, by row_room_at m_le, hs _ _⟩
      · rintro v B₈ s₈ ⟨o, hv, ho'⟩ S₈ hle₈
        repeat (row_room_at m)
        refine it_tuple (by assumption) R'.hd (by row_room_at m_rd) fun it I s₉ Wk S₉ => ?_
        refine comp_map Wk S₉ (Le.refl _) (fun d => match d with | .tuple [_, g] => g | _ => .none) ?_ ?_ (by assumption)
        · intro d v H' B' s' C hd rv S hle
          obtain ⟨p, hp', rfl⟩ := List.mem_map.mp hd
          unfold rowD at rv
          repeat (row_room_at m)
          exact ⟨_, _, by assumption, by row_room_at m_le, .int _ _⟩
        · intro D ys B' s' hD hr S hle
          repeat (row_room_at m)
          row_room_at listC
          have hys := hr.length
          rw [List.length_map, List.length_map, hl] at hys
          refine add_C (by assumption) (by row_room_at m_mem) (by row_room_at m_mem) (fun a s' _ S' => ?_) (by rw [hys, sizeLine_eq, List.length_singleton]; omega)
          obtain ⟨B₉, hle₉, hr₉, S₉⟩ := S'.frz (hr.snoc (Rd.mono (by row_room_at m_le) hv))
          have e : ((rows.map rowD).map fun d => match d with | .tuple [_, g] => g | _ => .none) ++ [optD o] = (End.switch rows o).given.map optD := by
            simp [End.given, End.told, rowD, optD, Function.comp_def]
          rw [e] at hr₉
          repeat (row_room_at m)
          refine h _ (.switch rows o) _ _ ⟨?_, ?_, ?_⟩ (by assumption) (by rename_i T; exact T.drop.drop.drop.drop.drop.drop) (by row_room_at m_le)
          · intro g hg
            rcases List.mem_append.mp hg with q | q
            · obtain ⟨p, hp', e⟩ := List.mem_map.mp q
              cases e
              exact (hp p hp').2
            · exact ho' g (List.mem_singleton.mp q).symm
          · intro k hk
            obtain ⟨p, hp', rfl⟩ := List.mem_map.mp hk
            exact (hp p hp').1
          · intro rows' rest' e
            cases e
            omega
  repeat (row_room_at m)
  refine ite_w (fun hb => ?_) (fun hb => ?_)
  · repeat (row_room_at m)
    row_room_at listR
    repeat (row_room_at m)
    exact h _ (.call1 one) _ _ (ok_one o0 o1 rfl rfl (fun _ _ q => nomatch q)) (by assumption) (by rename_i T; exact T.drop.drop.drop) (by row_room_at m_le)
  repeat (row_room_at m)
  refine ite_w (fun hb => ?_) (fun hb => ?_)
  · repeat (row_room_at m)
    row_room_at listR
    repeat (row_room_at m)
    exact h _ (.drop one) _ _ (ok_one o0 o1 rfl rfl (fun _ _ q => nomatch q)) (by assumption) (by rename_i T; exact T.drop.drop.drop) (by row_room_at m_le)
  repeat (row_room_at m)
  refine ite_w (fun hb => ?_) (fun hb => ?_)
  · repeat (row_room_at m)
    row_room_at listR
    repeat (row_room_at m)
    exact h _ (.asrt one) _ _ (ok_one o0 o1 rfl rfl (fun _ _ q => nomatch q)) (by assumption) (by rename_i T; exact T.drop.drop.drop) (by row_room_at m_le)
  repeat (row_room_at m)
  refine ite_w (fun hb => ?_) (fun hb => ?_)
  · repeat (row_room_at m)
    row_room_at listR
    repeat (row_room_at m)
    exact h _ .call0 _ _ (ok_none (fun g q => by simp [End.told] at q) rfl (fun _ _ q => nomatch q)) (by assumption) (by rename_i T; exact T.drop.drop.drop) (by row_room_at m_le)
  repeat (row_room_at m)
  row_room_at listR
  repeat (row_room_at m)
  refine one_spec W (R'.le (by decide)) Fo (by assumption) (by row_room_at m_mem) (by assumption) (by decide) (by decide) fun v d s₇ hd rv S₇ => ?_
  repeat (row_room_at m)
  row_room_at listR
  repeat (row_room_at m)
  rename_i T
  simp only [List.mem_cons, List.not_mem_nil, or_false] at hd
  rcases hd with rfl | rfl | rfl | rfl
  · exact h _ .ret _ _ (ok_none (fun g q => by simp [End.told] at q) rfl (fun _ _ q => nomatch q)) (by assumption) T.drop.drop.drop (by row_room_at m_le)
  · exact h _ .ret _ _ (ok_none (fun g q => by simp [End.told] at q) rfl (fun _ _ q => nomatch q)) (by assumption) T.drop.drop.drop (by row_room_at m_le)
  · exact h _ .panic _ _ (ok_none (fun g q => by simp [End.told] at q) rfl (fun _ _ q => nomatch q)) (by assumption) T.drop.drop.drop (by row_room_at m_le)
  · exact h _ .unreach _ _ (ok_none (fun g q => by simp [End.told] at q) rfl (fun _ _ q => nomatch q)) (by assumption) T.drop.drop.drop (by row_room_at m_le)
end
section
variable {c : Cx} {H B : PM} {cs : List Cell} {s : Shared} {A : Around}
theorem once_len_le : ∀ (os : List (Option Int)) (f : List Int), (os.foldl addOnce f).length ≤ f.length + os.length
  | [], f => by simp
  | o :: os, f => by
    rw [List.foldl_cons]
    refine Nat.le_trans (once_len_le os _) ?_
    have : (addOnce f o).length ≤ f.length + 1 := by
      cases o with
      | none => simp [addOnce]
      | some g => unfold addOnce; dsimp only; split <;> simp
    simp only [List.length_cons]; omega
theorem fold_take {os : List (Option Int)} {k : Nat} {o : Option Int} (h : os[k]? = some o) : (os.take (k + 1)).foldl addOnce [] = addOnce ((os.take k).foldl addOnce []) o := by
  rw [List.take_add_one, h, List.foldl_append]; rfl
set_option maxHeartbeats 4000000 in
theorem once_spec {fa : Addr} {x : Value} {os : List (Option Int)} {Q : Value → Shared → Prop} (W : World c) (R : Room A 1) (F : FnAt c fa (Str.ofString "_law_once") (Str.ofString "_law_once") (stAt 17) .none) (S : Own c H B cs s)
    (r : Rd B x (.list (os.map optD))) (hlen : os.length < 1000) (h : ∀ v B' s', Rd B' v (.list ((once os).map PyData.int)) → Own c H B' cs s' → Le B B' → Q v s') :
    wpAny c.M A (call (.ref fa) [x]) Q NE s := by
  refine enter (binds := [(Str.ofString "some", x)]) R W.glb F S rfl rfl (fun _ _ _ _ _ _ => BindsTo.of_eq rfl) (by decide) rfl ?_
  intro A' L cd s' R' S'
  refine runs_of ?_
  repeat (row_room_at m)
  row_room_at listC
  rename_i D s₁ hD S₁
  replace S₁ := S₁.swap
  repeat (row_room_at m)
  refine it_list (by assumption) R'.hd (by row_room_at m_rd) fun it I s₂ Wk S₂ => ?_
  refine loop_f Wk S₂ (Le.refl _) [(Str.ofString "found", .ref D)] (by row_room_at m_sub) (fun k B' cs' => ∃ ys, cs' = (D, listP ys) :: cs ∧ RdAll B' ys (((os.take k).foldl addOnce []).map PyData.int)) ⟨[], rfl, .nil⟩ ?_ ?_ ?_
  · rintro k B' B'' cs hle ⟨ys, e, hr⟩
    exact ⟨ys, e, hr.mono hle⟩
  · rintro k v H' B' cs' s' hk ⟨d, hd, rv⟩ ⟨ys, rfl, hr⟩ S hle
    rw [List.getElem?_map] at hd
    obtain ⟨o, ho, rfl⟩ := Option.map_eq_some_iff.mp hd
    have hl := hr.length
    rw [List.length_map] at hl
    have hb := once_len_le (os.take k) []
    rw [List.length_take] at hb
    have hz : ys.length ≤ sizeLine := by rw [sizeLine_eq, hl]; simp at hb; omega
    have e := fold_take ho
    rw [e]
    cases o with
    | none =>
      have := rv.none_inv
      subst this
      repeat (row_room_at m)
      refine ite_f rfl ?_
      repeat (row_room_at m)
      exact ⟨rfl, _, _, _, by assumption, by row_room_at m_le, ⟨ys, rfl, hr⟩, by row_room_at m_sub⟩
    | some g =>
      obtain ⟨tg, rfl⟩ := rv.int_inv
      repeat (row_room_at m)
      refine ite_t rfl ?_
      repeat (row_room_at m)
      refine ite_w (fun hb => ?_) (fun hb => ?_)
      · repeat (row_room_at m)
        refine ⟨rfl, _, _, _, by assumption, by row_room_at m_le, ⟨ys ++ [.int g tg], rfl, ?_⟩, by row_room_at m_sub⟩
        have hg : g ∉ (os.take k).foldl addOnce [] := by simpa using hb
        have e' : addOnce ((os.take k).foldl addOnce []) (some g) = (os.take k).foldl addOnce [] ++ [g] := if_neg hg
        rw [e', List.map_append]
        exact hr.snoc (.int _ _)
      · repeat (row_room_at m)
        refine ⟨rfl, _, _, _, by assumption, by row_room_at m_le, ⟨ys, rfl, ?_⟩, by row_room_at m_sub⟩
        have hg : g ∈ (os.take k).foldl addOnce [] := by simpa using hb
        have e' : addOnce ((os.take k).foldl addOnce []) (some g) = (os.take k).foldl addOnce [] := if_pos hg
        rw [e']
        exact hr
  · rintro B' cs' s' ⟨ys, rfl, hr⟩ S hle
    rw [List.length_map, List.take_of_length_le (Nat.le_refl _)] at hr
    repeat (row_room_at m)
    obtain ⟨B₉, hle₉, hr₉, S₉⟩ := S.swap.frz hr
    exact h _ B₉ _ hr₉ S₉.drop (hle.trans hle₉)
end
section
variable {c : Cx} {H B : PM} {cs : List Cell} {s : Shared} {A : Around}
set_option maxHeartbeats 4000000 in
theorem succ_tail {L fa : Addr} {cd x : Value} {os : List (Option Int)} {Q : Flow → Shared → Prop} (W : World c) (R : Room A 0) (S : Own c H B ((L, frameP [(Str.ofString "told", x)]) :: cs) s)
    (r : Rd B x (.list (os.map optD))) (hlen : os.length < 1000) (h : ∀ v B' s', Rd B' v (.list ((once os).map PyData.int)) → Own c H B' cs s' → Le B B' → Q (.ret v) s') :
    wpAny c.M A (runs [(stBody (stAt 4)).drop 2] (fEnv (stScope (stAt 4)) (Str.ofString "successors") L fa cd [])) Q NE s := by
  refine with_list rfl rfl ?_
  have R' := R
  repeat (row_room_at m)
  row_room_at listC
  rename_i D s₁ hD S₁
  replace S₁ := S₁.swap
  repeat (row_room_at m)
  refine it_list (by assumption) R'.hd (by row_room_at m_rd) fun it I s₂ Wk S₂ => ?_
  refine loop_f Wk S₂ (Le.refl _) [(Str.ofString "found", .ref D)] (by row_room_at m_sub) (fun k B' cs' => ∃ ys, cs' = (D, listP ys) :: cs ∧ RdAll B' ys (((os.take k).foldl addOnce []).map PyData.int)) ⟨[], rfl, .nil⟩ ?_ ?_ ?_
  · rintro k B' B'' cs hle ⟨ys, e, hr⟩
    exact ⟨ys, e, hr.mono hle⟩
  · rintro k v H' B' cs' s' hk ⟨d, hd, rv⟩ ⟨ys, rfl, hr⟩ S hle
    rw [List.getElem?_map] at hd
    obtain ⟨o, ho, rfl⟩ := Option.map_eq_some_iff.mp hd
    have hl := hr.length
    rw [List.length_map] at hl
    have hb := once_len_le (os.take k) []
    rw [List.length_take] at hb
    have hz : ys.length ≤ sizeLine := by rw [sizeLine_eq, hl]; simp at hb; omega
    have e := fold_take ho
    rw [e]
    cases o with
    | none =>
      have := rv.none_inv
      subst this
      repeat (row_room_at m)
      refine ite_f rfl ?_
      repeat (row_room_at m)
      exact ⟨rfl, _, _, _, by assumption, by row_room_at m_le, ⟨ys, rfl, hr⟩, by row_room_at m_sub⟩
    | some g =>
      obtain ⟨tg, rfl⟩ := rv.int_inv
      repeat (row_room_at m)
      refine ite_t rfl ?_
      repeat (row_room_at m)
      refine ite_w (fun hb => ?_) (fun hb => ?_)
      · repeat (row_room_at m)
        refine ⟨rfl, _, _, _, by assumption, by row_room_at m_le, ⟨ys ++ [.int g tg], rfl, ?_⟩, by row_room_at m_sub⟩
        have hg : g ∉ (os.take k).foldl addOnce [] := by simpa using hb
        have e' : addOnce ((os.take k).foldl addOnce []) (some g) = (os.take k).foldl addOnce [] ++ [g] := if_neg hg
        rw [e', List.map_append]
        exact hr.snoc (.int _ _)
      · repeat (row_room_at m)
        refine ⟨rfl, _, _, _, by assumption, by row_room_at m_le, ⟨ys, rfl, ?_⟩, by row_room_at m_sub⟩
        have hg : g ∈ (os.take k).foldl addOnce [] := by simpa using hb
        have e' : addOnce ((os.take k).foldl addOnce []) (some g) = (os.take k).foldl addOnce [] := if_pos hg
        rw [e']
        exact hr
  · rintro B' cs' s' ⟨ys, rfl, hr⟩ S hle
    rw [List.length_map, List.take_of_length_le (Nat.le_refl _)] at hr
    repeat (row_room_at m)
    obtain ⟨B₉, hle₉, hr₉, S₉⟩ := S.swap.frz hr
    exact h _ B₉ _ hr₉ S₉.drop (hle.trans hle₉)
noncomputable def End.small (e : End) : Prop := ∀ rows rest, e = .switch rows rest → rows.length ≤ 2
set_option maxHeartbeats 4000000 in
theorem succ_spec {fa : Addr} {x : Value} {e : End} {Q : Value → Shared → Prop} (W : World c) (R : Room A 1) (F : FnAt c fa (Str.ofString "successors") (Str.ofString "successors") (stAt 4) .none) (S : Own c H B cs s)
    (r : Rd B x e.d) (hsm : e.small) (h : ∀ v B' s', Rd B' v (.list (e.succs.map PyData.int)) → Own c H B' cs s' → Le B B' → Q v s') :
    wpAny c.M A (call (.ref fa) [x]) Q NE s := by
  refine enter (binds := [(Str.ofString "terminator", x)]) R W.glb F S rfl rfl (fun _ _ _ _ _ _ => BindsTo.of_eq rfl) (by decide) rfl ?_
  intro A' L cd s' R' S'
  refine runs_of ?_
  cases e with
  | goto g =>
    unfold End.d at r
    repeat (row_room_at m)
    row_room_at listR
    row_room_at m
    repeat (with_reducible refine x_nil ?_)
    rename_i T
    exact succ_tail (os := [some g]) W (R'.le (by decide)) (T.weak (frameP_sub (by row_room_at m_sub))) (by assumption) (by simp) fun v B' s' a b d => h v B' s' a b (by row_room_at m_le)
  | call1 g =>
    unfold End.d at r
    repeat (row_room_at m)
    row_room_at listR
    row_room_at m
    repeat (with_reducible refine x_nil ?_)
    rename_i T
    exact succ_tail (os := [some g]) W (R'.le (by decide)) (T.weak (frameP_sub (by row_room_at m_sub))) (by assumption) (by simp) fun v B' s' a b d => h v B' s' a b (by row_room_at m_le)
  | call0 =>
    unfold End.d at r
    repeat (row_room_at m)
    row_room_at listR
    row_room_at m
    repeat (with_reducible refine x_nil ?_)
    rename_i T
    exact succ_tail (os := [none]) W (R'.le (by decide)) (T.weak (frameP_sub (by row_room_at m_sub))) (by assumption) (by simp) fun v B' s' a b d => h v B' s' a b (by row_room_at m_le)
  | drop g =>
    unfold End.d at r
    repeat (row_room_at m)
    row_room_at listR
    row_room_at m
    repeat (with_reducible refine x_nil ?_)
    rename_i T
    exact succ_tail (os := [some g]) W (R'.le (by decide)) (T.weak (frameP_sub (by row_room_at m_sub))) (by assumption) (by simp) fun v B' s' a b d => h v B' s' a b (by row_room_at m_le)
  | asrt g =>
    unfold End.d at r
    repeat (row_room_at m)
    row_room_at listR
    row_room_at m
    repeat (with_reducible refine x_nil ?_)
    rename_i T
    exact succ_tail (os := [some g]) W (R'.le (by decide)) (T.weak (frameP_sub (by row_room_at m_sub))) (by assumption) (by simp) fun v B' s' a b d => h v B' s' a b (by row_room_at m_le)
  | ret =>
    unfold End.d at r
    repeat (row_room_at m)
    row_room_at listR
    row_room_at m
    repeat (with_reducible refine x_nil ?_)
    rename_i T
    exact succ_tail (os := []) W (R'.le (by decide)) (T.weak (frameP_sub (by row_room_at m_sub))) (by assumption) (by simp) fun v B' s' a b d => h v B' s' a b (by row_room_at m_le)
  | panic =>
    unfold End.d at r
    repeat (row_room_at m)
    row_room_at listR
    row_room_at m
    repeat (with_reducible refine x_nil ?_)
    rename_i T
    exact succ_tail (os := []) W (R'.le (by decide)) (T.weak (frameP_sub (by row_room_at m_sub))) (by assumption) (by simp) fun v B' s' a b d => h v B' s' a b (by row_room_at m_le)
  | unreach =>
    unfold End.d at r
    repeat (row_room_at m)
    row_room_at listR
    row_room_at m
    repeat (with_reducible refine x_nil ?_)
    rename_i T
    exact succ_tail (os := []) W (R'.le (by decide)) (T.weak (frameP_sub (by row_room_at m_sub))) (by assumption) (by simp) fun v B' s' a b d => h v B' s' a b (by row_room_at m_le)
  | switch rows rest =>
    have hrows := hsm rows rest rfl
    unfold End.d at r
    have hz : (rows.map rowD).length ≤ sizeLine := by rw [List.length_map, sizeLine_eq]; omega
    repeat (row_room_at m)
    refine it_tuple (by assumption) R'.hd (by row_room_at m_rd) fun it I s₉ Wk S₉ => ?_
    refine comp_map Wk S₉ (Le.refl _) (fun d => match d with | .tuple [_, g] => g | _ => .none) ?_ ?_ (by assumption)
    · intro d v H' B' s' C hd rv S hle
      obtain ⟨p, hp', rfl⟩ := List.mem_map.mp hd
      unfold rowD at rv
      repeat (row_room_at m)
      exact ⟨_, _, by assumption, by row_room_at m_le, .int _ _⟩
    · intro D ys B' s' hD hr S hle
      repeat (row_room_at m)
      --?
      row_room_at listC
      have hys := hr.length
      rw [List.length_map, List.length_map] at hys
      rename_i v rv _ _ _ _ _
      refine add_C (by assumption) (by row_room_at m_mem) (by row_room_at m_mem) (fun a s' _ S' => ?_) (by rw [hys, sizeLine_eq, List.length_singleton]; omega)
      obtain ⟨B₉, hle₉, hr₉, S₉⟩ := S'.frz (hr.snoc (Rd.mono (by row_room_at m_le) (by assumption)))
      have e : ((rows.map rowD).map fun d => match d with | .tuple [_, g] => g | _ => .none) ++ [optD rest] = (rows.map (fun p => some p.2) ++ [rest]).map optD := by
        simp [rowD, optD, Function.comp_def]
      rw [e] at hr₉
      replace S₉ := S₉.drop.drop
      row_room_at m
      repeat (with_reducible refine x_nil ?_)
      rename_i T
      exact succ_tail (os := rows.map (fun p => some p.2) ++ [rest]) W (R'.le (by decide)) (T.weak (frameP_sub (by row_room_at m_sub))) (by assumption) (by simp; omega) fun v B' s' a b d => h v B' s' a b (by row_room_at m_le)
end
section
variable {c : Cx} {H B : PM} {cs : List Cell} {s : Shared} {A : Around} {x : Addr} {bs : List Blk} {sp bl lo : Addr} {ac nm : Value}
set_option maxHeartbeats 1000000 in
theorem st_spec {fa : Addr} {k : Nat} {t : Tok} {b : Blk} {Q : Value → Shared → Prop} (V : Wd c) (R : Room A 1) (F : FnAt c fa (Str.ofString "statements") (Str.ofString "Body.statements") (methAt 3) .none) (S : Own c H B cs s)
    (I : BodyB c B x bs sp bl lo ac nm) (hb : bs[k]? = some b) (hk : k < 100000) (h : ∀ v s', Rd B v (.list b.marks) → Own c H B cs s' → Q v s') :
    wpAny c.M A (call (.ref fa) [.ref x, .int k t]) Q NE s := by
  have W := V.w
  have Wc := V.cls
  have Ia := I.at_
  have Ir := I.rd
  have hg := blk_get hb
  refine enter (binds := [(Str.ofString "self", .ref x), (Str.ofString "block", .int k t)]) R W.glb F S rfl rfl (fun _ _ _ _ _ _ => BindsTo.of_eq rfl) (by decide) rfl ?_
  intro A' L cd s' R' S'
  refine runs_of ?_
  --?
  repeat (row_room_at m)
  rename_i T _ r
  exact h _ _ r T.drop
set_option maxHeartbeats 1000000 in
theorem te_spec {fa : Addr} {k : Nat} {t : Tok} {b : Blk} {Q : Value → Shared → Prop} (V : Wd c) (R : Room A 1) (F : FnAt c fa (Str.ofString "terminator") (Str.ofString "Body.terminator") (methAt 4) .none) (S : Own c H B cs s)
    (I : BodyB c B x bs sp bl lo ac nm) (hb : bs[k]? = some b) (hk : k < 100000) (h : ∀ v s', Rd B v b.e.d → Own c H B cs s' → Q v s') :
    wpAny c.M A (call (.ref fa) [.ref x, .int k t]) Q NE s := by
  have W := V.w
  have Wc := V.cls
  have Ia := I.at_
  have Ir := I.rd
  have hg := blk_get hb
  refine enter (binds := [(Str.ofString "self", .ref x), (Str.ofString "block", .int k t)]) R W.glb F S rfl rfl (fun _ _ _ _ _ _ => BindsTo.of_eq rfl) (by decide) rfl ?_
  intro A' L cd s' R' S'
  refine runs_of ?_
  --?
  repeat (row_room_at m)
  rename_i T _ r
  exact h _ _ r T.drop
end
noncomputable abbrev ptD (k i : Int) : PyData := .tuple [.int k, .int i]
noncomputable def rowPts (k : Nat) (b : Blk) : List PyData := (List.range (b.marks.length + 1)).map fun (i : Nat) => ptD k i
noncomputable def ptsFrom : Nat → List Blk → List PyData
  | _, [] => []
  | k, b :: bs => rowPts k b ++ ptsFrom (k + 1) bs
noncomputable def pts (bs : List Blk) : List PyData := ptsFrom 0 bs
theorem ptsFrom_append (b : List Blk) : ∀ (a : List Blk) (k : Nat), ptsFrom k (a ++ b) = ptsFrom k a ++ ptsFrom (k + a.length) b
  | [], k => rfl
  | x :: a, k => by
    show rowPts k x ++ ptsFrom (k + 1) (a ++ b) = (rowPts k x ++ ptsFrom (k + 1) a) ++ _
    rw [ptsFrom_append b a (k + 1), List.append_assoc, List.length_cons, show k + 1 + a.length = k + (a.length + 1) by omega]
theorem pts_take {bs : List Blk} {k : Nat} {b : Blk} (h : bs[k]? = some b) : pts (bs.take (k + 1)) = pts (bs.take k) ++ rowPts k b := by
  unfold pts
  have hk : k < bs.length := by
    rcases Nat.lt_or_ge k bs.length with q | q
    · exact q
    · rw [List.getElem?_eq_none q] at h; cases h
  rw [List.take_add_one, h, ptsFrom_append, List.length_take, Nat.min_eq_left (Nat.le_of_lt hk), Nat.zero_add]
  simp [ptsFrom]
theorem ptsFrom_len : ∀ (bs : List Blk) (k : Nat), (∀ b ∈ bs, b.marks.length ≤ 3) → (ptsFrom k bs).length ≤ 4 * bs.length
  | [], _, _ => by simp [ptsFrom]
  | b :: bs, k, h => by
    have h1 := ptsFrom_len bs (k + 1) fun x hx => h x (List.mem_cons_of_mem _ hx)
    have h2 := h b (List.mem_cons_self ..)
    simp only [ptsFrom, List.length_append, rowPts, List.length_map, List.length_range, List.length_cons]
    omega
structure BodyOk (bs : List Blk) : Prop where
  pos : 0 < bs.length
  len : bs.length ≤ 6
  ok : ∀ b ∈ bs, b.Ok bs.length
theorem get_lt {α : Type} {l : List α} {k : Nat} {a : α} (h : l[k]? = some a) : k < l.length := by
  rcases Nat.lt_or_ge k l.length with q | q
  · exact q
  · rw [List.getElem?_eq_none q] at h; cases h
section
variable {c : Cx} {H B : PM} {cs : List Cell} {s : Shared} {A : Around} {x : Addr} {bs : List Blk} {sp bl lo : Addr} {ac nm : Value}
set_option maxHeartbeats 4000000 in
theorem points_spec {fa : Addr} {Q : Value → Shared → Prop} (V : Wd c) (R : Room A 2) (F : FnAt c fa (Str.ofString "points") (Str.ofString "points") (stAt 3) .none) (S : Own c H B cs s)
    (I : BodyB c B x bs sp bl lo ac nm) (ok : BodyOk bs) (h : ∀ v B' s', Rd B' v (.list (pts bs)) → Own c H B' cs s' → Le B B' → Q v s') :
    wpAny c.M A (call (.ref fa) [.ref x]) Q NE s := by
  have W := V.w
  have Wc := V.cls
  have Ia := I.at_
  have Ir := I.rd
  obtain ⟨fs, hfs, hts, Fs⟩ := V.mst
  have hl6 := ok.len
  have hl : (bs.map blkD).length < 2 ^ 62 := by rw [List.length_map]; omega
  refine enterC (binds := [(Str.ofString "body", .ref x)]) (lb := [(Str.ofString "body", .ref x)]) R W.glb F S rfl rfl (fun _ _ _ _ _ _ => rfl) rfl (by decide) (fun p hp => by rw [List.mem_singleton.mp hp]; rfl) ?_
  intro A' L cd s' R' S'
  replace S' : Own c H B ((L, frameP [(Str.ofString "body", .ref x)]) :: (L + 1, varP none) :: cs) s' := S'
  refine runs_of ?_
  repeat (row_room_at m)
  row_room_at listC
  rename_i D s₁ hD S₁
  replace S₁ := S₁.swap
  repeat (row_room_at m)
  refine it_range (by assumption) R'.hd (by assumption) (by rw [List.length_map]; omega) fun it I₁ s₂ Wk S₂ => ?_
  refine loop_f Wk S₂ (Le.refl _) [(Str.ofString "found", .ref D), (Str.ofString "body", .ref x)] (by row_room_at m_sub)
    (fun k B' cs' => ∃ ys v, cs' = (D, listP ys) :: (L + 1, varP v) :: cs ∧ RdAll B' ys (pts (bs.take k))) ⟨[], none, rfl, .nil⟩ ?_ ?_ ?_
  · rintro k B' B'' cs' hle ⟨ys, v, e, hr⟩
    exact ⟨ys, v, e, hr.mono hle⟩
  · rintro k v H' B' cs' s' hk ⟨d, hd, rv⟩ ⟨ys, v₀, rfl, hr⟩ S hle
    rw [nats_len, List.length_map] at hk
    rw [nats_get (by rw [List.length_map]; exact hk)] at hd
    cases hd
    obtain ⟨tk, rfl⟩ := rv.int_inv
    obtain ⟨b, hb⟩ : ∃ b, bs[k]? = some b := ⟨bs[k], by simp [hk]⟩
    have bok := ok.ok b (List.mem_of_getElem? hb)
    have bl3 := bok.len
    have hlm : b.marks.length < 2 ^ 62 := by omega
    repeat (row_room_at m)
    refine st_spec V (R'.le (by decide)) Fs (by assumption) (I.mono (by row_room_at m_le)) hb (by row_room_at ar) fun v₁ s₃ rm S₃ => ?_
    repeat (row_room_at m)
    refine it_range (by assumption) R'.hd (by assumption) (by row_room_at ar) fun it I₁ s₄ Wk₁ S₄ => ?_
    refine comp_map Wk₁ S₄ (Le.refl _) (fun d => match d with | .int i => ptD k i | _ => .none) ?_ ?_ (by rw [nats_len, sizeLine_eq]; omega)
    · intro d v H' B' s' C hd rv S hle
      obtain ⟨i, hi, rfl⟩ := List.mem_map.mp hd
      obtain ⟨ti, rfl⟩ := rv.int_inv
      repeat (row_room_at m)
      exact ⟨_, _, by assumption, by row_room_at m_le, by assumption⟩
    · intro D' zs B' s' hD hz S hle
      have e : (nats (b.marks.length + 1)).map (fun d => match d with | .int i => ptD k i | _ => .none) = rowPts k b := by
        simp [nats, rowPts, Function.comp_def]
      rw [e] at hz
      have h1 := hr.length
      have h2 := hz.length
      have h3 := ptsFrom_len (bs.take k) 0 fun b hb => (ok.ok b (List.mem_of_mem_take hb)).len
      have h4 : (pts (bs.take k)).length ≤ 24 := Nat.le_trans h3 (by rw [List.length_take]; omega)
      have h5 : (rowPts k b).length ≤ 4 := by simp [rowPts]; omega
      have h6 : ys.length + zs.length ≤ sizeLine := by rw [h1, h2, sizeLine_eq]; omega
      --?
      repeat (row_room_at m)
      rename_i T
      refine ⟨rfl, _, _, _, T.drop, by row_room_at m_le, ⟨ys ++ zs, _, rfl, ?_⟩, by row_room_at m_sub⟩
      rw [pts_take hb]
      exact (RdAll.mono (by row_room_at m_le) hr).append hz
  · rintro B' cs' s' ⟨ys, v₀, rfl, hr⟩ S hle
    rw [nats_len, List.length_map, List.take_of_length_le (Nat.le_refl _)] at hr
    repeat (row_room_at m)
    obtain ⟨B₉, hle₉, hr₉, S₉⟩ := S.swap.frz hr
    exact h _ B₉ _ hr₉ S₉.drop.drop (by row_room_at m_le)
end
noncomputable def nextD (b : Blk) (k i : Nat) : List PyData := if i < b.marks.length then [ptD k (i + 1)] else b.e.succs.map fun g => ptD g 0
section
variable {c : Cx} {H B : PM} {cs : List Cell} {s : Shared} {A : Around} {x : Addr} {bs : List Blk} {sp bl lo : Addr} {ac nm : Value}
theorem once_len (os : List (Option Int)) : (once os).length ≤ os.length := by have := once_len_le os []; simpa [once] using this
theorem small_of {e : End} {n : Int} (h : e.Ok n) : e.small := fun rows rest q => h.rows rows rest q
theorem told_len {e : End} (h : e.small) : e.told.length ≤ 3 := by
  cases e with
  | switch rows rest => have := h rows rest rfl; simp [End.told]; omega
  | _ => simp [End.told]
theorem succs_len {e : End} (h : e.small) : e.succs.length ≤ 3 := Nat.le_trans (once_len _) (told_len h)
set_option maxHeartbeats 4000000 in
theorem next_spec {fa : Addr} {p : Value} {k i : Nat} {b : Blk} {Q : Value → Shared → Prop} (V : Wd c) (R : Room A 2) (F : FnAt c fa (Str.ofString "next_points") (Str.ofString "next_points") (stAt 6) .none) (S : Own c H B cs s)
    (I : BodyB c B x bs sp bl lo ac nm) (ok : BodyOk bs) (rp : Rd B p (ptD k i)) (hb : bs[k]? = some b) (h : ∀ v B' s', Rd B' v (.list (nextD b k i)) → Own c H B' cs s' → Le B B' → Q v s') :
    wpAny c.M A (call (.ref fa) [.ref x, p]) Q NE s := by
  have W := V.w
  have Wc := V.cls
  have Ia := I.at_
  have Ir := I.rd
  obtain ⟨fs, hfs, hts, Fs⟩ := V.mst
  obtain ⟨ft, hft, htt, Ft⟩ := V.mte
  obtain ⟨fu, hfu, Fu⟩ := W.successors
  have hl6 := ok.len
  have hk := get_lt hb
  have bok := ok.ok b (List.mem_of_getElem? hb)
  have bl3 := bok.len
  have hlm : b.marks.length < 2 ^ 62 := by omega
  refine enter (binds := [(Str.ofString "body", .ref x), (Str.ofString "point", p)]) R W.glb F S rfl rfl (fun _ _ _ _ _ _ => BindsTo.of_eq rfl) (by decide) rfl ?_
  intro A' L cd s' R' S'
  refine runs_of ?_
  repeat (row_room_at m)
  refine st_spec V (R'.le (by decide)) Fs (by assumption) (I.mono (by row_room_at m_le)) hb (by row_room_at ar) fun v₁ s₃ rm S₃ => ?_
  repeat (row_room_at m)
  refine ite_w (fun hq => ?_) (fun hq => ?_)
  · repeat (row_room_at m)
    row_room_at listR
    rename_i r T
    have hi : i < b.marks.length := by simpa using hq
    refine h _ _ _ ?_ T.drop (by row_room_at m_le)
    unfold nextD
    rw [if_pos hi]
    exact r
  · have hi : ¬ i < b.marks.length := by simpa using hq
    repeat (row_room_at m)
    refine te_spec V (R'.le (by decide)) Ft (by assumption) (I.mono (by row_room_at m_le)) hb (by row_room_at ar) fun v₂ s₄ re S₄ => ?_
    repeat (row_room_at m)
    refine succ_spec W (R'.le (by decide)) Fu (by assumption) re (small_of bok.e) fun v₃ B₅ s₅ rs S₅ hle₅ => ?_
    repeat (row_room_at m)
    refine it_list (by assumption) R'.hd (by row_room_at m_rd) fun it I₁ s₄ Wk₁ S₄ => ?_
    have h3 := succs_len (small_of bok.e)
    refine comp_map Wk₁ S₄ (Le.refl _) (fun d => match d with | .int i => ptD i 0 | _ => .none) ?_ ?_ (by rw [List.length_map, sizeLine_eq]; omega)
    · intro d v H' B' s' C hd rv S hle
      obtain ⟨i, hi, rfl⟩ := List.mem_map.mp hd
      obtain ⟨ti, rfl⟩ := rv.int_inv
      repeat (row_room_at m)
      exact ⟨_, _, by assumption, by row_room_at m_le, by assumption⟩
    · intro D' zs B' s' hD hz S hle
      have e : (b.e.succs.map PyData.int).map (fun d => match d with | .int i => ptD i 0 | _ => .none) = nextD b k i := by
        unfold nextD; rw [if_neg hi]; simp [Function.comp_def]
      rw [e] at hz
      repeat (row_room_at m)
      obtain ⟨B₉, hle₉, hr₉, S₉⟩ := S.frz hz
      exact h _ B₉ _ hr₉ S₉.drop (by row_room_at m_le)
end
inductive Reach (sc : Int → List Int) : Int → Prop
  | zero : Reach sc 0
  | step {g h : Int} : Reach sc g → h ∈ sc g → Reach sc h
noncomputable def scOf (bs : List Blk) (g : Int) : List Int := (bs[g.toNat]?.map fun b => b.e.succs).getD []
theorem mem_fold {g : Int} : ∀ (os : List (Option Int)) (f : List Int), g ∈ os.foldl addOnce f ↔ g ∈ f ∨ some g ∈ os
  | [], f => by simp
  | o :: os, f => by
    rw [List.foldl_cons, mem_fold os]
    cases o with
    | none => simp [addOnce]
    | some x =>
      have ea : addOnce f (some x) = if x ∈ f then f else f ++ [x] := rfl
      rw [ea]
      split
      · rename_i hx
        constructor
        · rintro (h | h)
          · exact .inl h
          · exact .inr (List.mem_cons_of_mem _ h)
        · rintro (h | h)
          · exact .inl h
          · rcases List.mem_cons.mp h with e | e
            · cases e; exact .inl hx
            · exact .inr e
      · constructor
        · rintro (h | h)
          · rcases List.mem_append.mp h with h | h
            · exact .inl h
            · rw [List.mem_singleton.mp h]; exact .inr (List.mem_cons_self ..)
          · exact .inr (List.mem_cons_of_mem _ h)
        · rintro (h | h)
          · exact .inl (List.mem_append_left _ h)
          · rcases List.mem_cons.mp h with e | e
            · cases e; exact .inl (List.mem_append_right _ (List.mem_singleton.mpr rfl))
            · exact .inr e
theorem mem_succs {g : Int} {e : End} : g ∈ e.succs ↔ some g ∈ e.told := by
  unfold End.succs once; rw [mem_fold]; simp
theorem nodup_le : ∀ (l l' : List Int), l.Nodup → (∀ a ∈ l, a ∈ l') → l.length ≤ l'.length
  | [], _, _, _ => Nat.zero_le _
  | a :: l, l', nd, h => by
    have hm := h a (List.mem_cons_self ..)
    have hd := List.nodup_cons.mp nd
    have := nodup_le l (l'.erase a) hd.2 fun b hb => (List.mem_erase_of_ne (fun e => hd.1 (by rw [← e]; exact hb))).mpr (h b (List.mem_cons_of_mem _ hb))
    rw [List.length_erase_of_mem hm] at this
    have hp := List.length_pos_of_mem hm
    rw [List.length_cons]; omega
theorem bounded_len {fs : List Int} {n : Nat} (nd : fs.Nodup) (h : ∀ g ∈ fs, 0 ≤ g ∧ g < n) : fs.length ≤ n := by
  have h1 := nodup_le fs ((List.range n).map fun (k : Nat) => (k : Int)) nd fun g hg => by
    obtain ⟨a, b⟩ := h g hg
    exact List.mem_map.mpr ⟨g.toNat, List.mem_range.mpr (by omega), by omega⟩
  simpa using h1
structure RInv (bs : List Blk) (fs ws : List Int) : Prop where
  nd : fs.Nodup
  f : ∀ g ∈ fs, Reach (scOf bs) g ∧ 0 ≤ g ∧ g < bs.length
  w : ∀ g ∈ ws, Reach (scOf bs) g ∧ 0 ≤ g ∧ g < bs.length
  cl : ∀ g ∈ fs, ∀ h ∈ scOf bs g, h ∈ fs ∨ h ∈ ws
  hd : (fs = [] ∧ ws = [0]) ∨ fs.head? = some 0
  len : ws.length ≤ 3 * fs.length + 1
theorem RInv.skip {bs : List Blk} {fs ws : List Int} {g : Int} (I : RInv bs fs (ws ++ [g])) (h : g ∈ fs) : RInv bs fs ws where
  nd := I.nd
  f := I.f
  w := fun x hx => I.w x (List.mem_append_left _ hx)
  cl := fun x hx y hy => by
    rcases I.cl x hx y hy with q | q
    · exact .inl q
    · rcases List.mem_append.mp q with q | q
      · exact .inr q
      · rw [List.mem_singleton.mp q]; exact .inl h
  hd := by
    rcases I.hd with ⟨e, _⟩ | e
    · rw [e] at h; cases h
    · exact .inr e
  len := by have := I.len; simp at this; omega
theorem scOf_get {bs : List Blk} {k : Nat} {b : Blk} (hb : bs[k]? = some b) : scOf bs k = b.e.succs := by unfold scOf; rw [Int.toNat_natCast, hb]; rfl
theorem RInv.new {bs : List Blk} {fs ws : List Int} {k : Nat} {b : Blk} (ok : BodyOk bs) (hb : bs[k]? = some b) (I : RInv bs fs (ws ++ [(k : Int)])) (h : (k : Int) ∉ fs) : RInv bs (fs ++ [(k : Int)]) (ws ++ b.e.succs.reverse) where
  nd := by rw [List.nodup_append]; exact ⟨I.nd, by simp, fun a ha b hb e => by rw [List.mem_singleton.mp hb] at e; exact h (e ▸ ha)⟩
  f := fun x hx => by
    rcases List.mem_append.mp hx with q | q
    · exact I.f x q
    · rw [List.mem_singleton.mp q]; exact I.w _ (List.mem_append_right _ (List.mem_singleton.mpr rfl))
  w := fun x hx => by
    rcases List.mem_append.mp hx with q | q
    · exact I.w x (List.mem_append_left _ q)
    · have q := List.mem_reverse.mp q
      have hr := (I.w k (List.mem_append_right _ (List.mem_singleton.mpr rfl))).1
      obtain ⟨a, d⟩ := (ok.ok b (List.mem_of_getElem? hb)).e.told x (mem_succs.mp q)
      exact ⟨.step hr (by rw [scOf_get hb]; exact q), a, d⟩
  cl := fun x hx y hy => by
    rcases List.mem_append.mp hx with q | q
    · rcases I.cl x q y hy with r | r
      · exact .inl (List.mem_append_left _ r)
      · rcases List.mem_append.mp r with r | r
        · exact .inr (List.mem_append_left _ r)
        · rw [List.mem_singleton.mp r]; exact .inl (List.mem_append_right _ (List.mem_singleton.mpr rfl))
    · rw [List.mem_singleton.mp q, scOf_get hb] at hy
      exact .inr (List.mem_append_right _ (List.mem_reverse.mpr hy))
  hd := by
    rcases I.hd with ⟨e, e'⟩ | e
    · refine .inr ?_
      rw [e, List.nil_append, List.head?_cons]
      have : ws = [] ∧ (k : Int) = 0 := by
        cases ws with
        | nil => simpa using e'
        | cons a ws => simp at e'
      rw [this.2]
    · refine .inr ?_
      cases fs with
      | nil => simp at e
      | cons a fs => simpa using e
  len := by
    have h1 := I.len
    have h2 := succs_len (small_of (ok.ok b (List.mem_of_getElem? hb)).e)
    simp at h1 ⊢; omega
theorem addOnce_nodup {f : List Int} {o : Option Int} (h : f.Nodup) : (addOnce f o).Nodup := by
  cases o with
  | none => exact h
  | some x =>
    have ea : addOnce f (some x) = if x ∈ f then f else f ++ [x] := rfl
    rw [ea]
    split
    · exact h
    · rename_i hx
      rw [List.nodup_append]
      exact ⟨h, by simp, fun a ha b hb e => by rw [List.mem_singleton.mp hb] at e; exact hx (e ▸ ha)⟩
theorem fold_nodup : ∀ (os : List (Option Int)) (f : List Int), f.Nodup → (os.foldl addOnce f).Nodup
  | [], f, h => h
  | o :: os, f, h => by rw [List.foldl_cons]; exact fold_nodup os _ (addOnce_nodup h)
theorem once_nodup (os : List (Option Int)) : (once os).Nodup := fold_nodup os [] List.nodup_nil
structure CInv (bs : List Blk) (k : Nat) (fs : List Int) : Prop where
  nd : fs.Nodup
  f : ∀ g ∈ fs, Reach (scOf bs) g ∧ 0 ≤ g ∧ g < bs.length
  z : (0 : Int) ∈ fs
  klen : k ≤ fs.length
  cl : ∀ i g, i < k → fs[i]? = some g → ∀ h ∈ scOf bs g, h ∈ fs
theorem CInv.new {bs : List Blk} {k g : Nat} {fs : List Int} {b : Blk} (ok : BodyOk bs) (I : CInv bs k fs) (hg : fs[k]? = some (g : Int)) (hb : bs[g]? = some b) : CInv bs (k + 1) (fs ++ b.e.succs.filter fun h => !decide (h ∈ fs)) where
  nd := by
    rw [List.nodup_append]
    refine ⟨I.nd, (once_nodup _).filter _, fun a ha c hc e => ?_⟩
    have := (List.mem_filter.mp hc).2
    subst e
    simp [ha] at this
  f := fun x hx => by
    rcases List.mem_append.mp hx with q | q
    · exact I.f x q
    · have q := (List.mem_filter.mp q).1
      obtain ⟨a, d⟩ := (ok.ok b (List.mem_of_getElem? hb)).e.told x (mem_succs.mp q)
      exact ⟨.step (I.f g (List.mem_of_getElem? hg)).1 (by rw [scOf_get hb]; exact q), a, d⟩
  z := List.mem_append_left _ I.z
  klen := by have := get_lt hg; simp; omega
  cl := fun i x hi hx h hh => by
    have hk := get_lt hg
    rw [List.getElem?_append_left (by omega)] at hx
    rcases Nat.lt_or_ge i k with q | q
    · exact List.mem_append_left _ (I.cl i x q hx h hh)
    · have : i = k := by omega
      subst this
      rw [hg] at hx; cases hx
      rw [scOf_get hb] at hh
      by_cases hm : h ∈ fs
      · exact List.mem_append_left _ hm
      · exact List.mem_append_right _ (List.mem_filter.mpr ⟨hh, by simp [hm]⟩)
theorem CInv.all {bs : List Blk} {fs : List Int} (I : CInv bs fs.length fs) (g : Int) : g ∈ fs ↔ Reach (scOf bs) g := by
  refine ⟨fun h => (I.f g h).1, fun h => ?_⟩
  induction h with
  | zero => exact I.z
  | step _ hm ih =>
    obtain ⟨i, hi⟩ := List.getElem?_of_mem ih
    exact I.cl i _ (get_lt hi) hi _ hm
noncomputable def preD (bs : List Blk) (k j : Nat) : List PyData := ((List.range k).filter fun (m : Nat) => decide ((j : Int) ∈ scOf bs m)).map fun (m : Nat) => PyData.int m
noncomputable def preI (bs : List Blk) (k : Nat) (l : List Int) (j : Nat) : List PyData := preD bs k j ++ if (j : Int) ∈ l then [.int k] else []
theorem preD_succ {bs : List Blk} {k j : Nat} : preD bs (k + 1) j = preI bs k (scOf bs k) j := by
  unfold preI preD
  rw [List.range_succ, List.filter_append, List.map_append]
  congr 1
  simp only [List.filter_cons, List.filter_nil]
  by_cases h : (j : Int) ∈ scOf bs k <;> simp [h]
theorem map_range_set {α : Type} {n j : Nat} {F F' : Nat → α} (hF : ∀ i, i ≠ j → F' i = F i) : ((List.range n).map F).set j (F' j) = (List.range n).map F' := by
  apply List.ext_getElem?
  intro i
  rw [List.getElem?_set]
  by_cases h : j = i
  · subst h
    rw [if_pos rfl]
    by_cases hn : j < n
    · simp [hn]
    · simp [hn]
  · rw [if_neg h]
    simp only [List.getElem?_map]
    by_cases hn : i < n
    · simp [hn, hF i (Ne.symm h)]
    · simp [hn]
theorem preI_step {bs : List Blk} {n k i j : Nat} {l : List Int} (nd : l.Nodup) (hg : l[i]? = some (j : Int)) :
    ((List.range n).map (preI bs k (l.take i))).set j (preD bs k j ++ [.int k]) = (List.range n).map (preI bs k (l.take (i + 1))) := by
  have e : preI bs k (l.take (i + 1)) j = preD bs k j ++ [.int k] := by
    unfold preI
    rw [if_pos]
    rw [List.take_add_one, hg]; simp
  rw [← e]
  refine map_range_set fun x hx => ?_
  unfold preI
  have : ((x : Int) ∈ l.take (i + 1)) ↔ ((x : Int) ∈ l.take i) := by
    rw [List.take_add_one, hg, List.mem_append]
    simp only [Option.toList, List.mem_singleton]
    constructor
    · rintro (h | h)
      · exact h
      · exact absurd (by exact_mod_cast h) hx
    · exact .inl
  by_cases h : (x : Int) ∈ l.take i
  · rw [if_pos h, if_pos (this.mpr h)]
  · rw [if_neg h, if_neg (fun q => h (this.mp q))]
theorem preI_at {bs : List Blk} {k i j : Nat} {l : List Int} (nd : l.Nodup) (hg : l[i]? = some (j : Int)) : preI bs k (l.take i) j = preD bs k j := by
  unfold preI
  rw [if_neg, List.append_nil]
  intro h
  obtain ⟨a, ha, he⟩ := List.mem_take_iff_getElem.mp h
  have h1 := get_lt hg
  have hg' : l[i] = (j : Int) := by rw [List.getElem?_eq_getElem h1] at hg; exact Option.some.inj hg
  have := (List.getElem_inj (h₀ := by omega) (h₁ := h1) nd).mp (he.trans hg'.symm)
  omega
theorem preD_len {bs : List Blk} {k j : Nat} : (preD bs k j).length ≤ k := by
  unfold preD
  rw [List.length_map]
  exact Nat.le_trans (List.length_filter_le _ _) (by simp)
noncomputable def predD (bs : List Blk) : PyData := .list ((List.range bs.length).map fun j => .list (preD bs bs.length j))
noncomputable abbrev TK := List Int × Addr × Value
noncomputable abbrev Cx.kn (c : Cx) : HeapKind c.prog c.w (List Int) := tupleKind (intKind c.prog c.w)
noncomputable def tdP (c : Cx) (xs : List TK) (o : Obj) : Prop := o.ExactDict ∧ ∃ es ep, o.data = .dict es ep ∧ es.toList = xs.map (entryOfKey c.kn)
noncomputable abbrev Pt := Nat × Nat
noncomputable abbrev keyI (p : Pt) : List Int := [(p.1 : Int), (p.2 : Int)]
inductive TdR (B : PM) : List TK → List (Pt × Int) → Prop
  | nil : TdR B [] []
  | cons {a p v t xs ps} : Rd B (.ref a) (ptD p.1 p.2) → TdR B xs ps → TdR B ((keyI p, a, .int v t) :: xs) ((p, v) :: ps)
structure Td (B : PM) (xs : List TK) (ps : List (Pt × Int)) : Prop where
  r : TdR B xs ps
  nd : (ps.map (·.1)).Nodup
theorem keyI_inj {p q : Pt} (h : keyI p = keyI q) : p = q := by
  obtain ⟨a, b⟩ := p
  obtain ⟨a', b'⟩ := q
  simp only [keyI, List.cons.injEq, Int.natCast_inj, and_true] at h
  rw [h.1, h.2]
theorem TdR.mono {B B' : PM} (h : Le B B') {xs ps} (x : TdR B xs ps) : TdR B' xs ps := by
  induction x with
  | nil => exact .nil
  | cons r _ ih => exact .cons (r.mono h) ih
theorem Td.mono {B B' : PM} {xs ps} (T : Td B xs ps) (h : Le B B') : Td B' xs ps := ⟨T.r.mono h, T.nd⟩
theorem TdR.length {B : PM} {xs ps} (x : TdR B xs ps) : xs.length = ps.length := by
  induction x with
  | nil => rfl
  | cons _ _ ih => exact congrArg (· + 1) ih
theorem TdR.keys {B : PM} {xs ps} (x : TdR B xs ps) : xs.map (·.1) = ps.map fun p => keyI p.1 := by
  induction x with
  | nil => rfl
  | cons _ _ ih => exact congrArg (_ :: ·) ih
theorem Td.nodup {B : PM} {xs ps} (T : Td B xs ps) : (xs.map (·.1)).Nodup := by
  rw [T.r.keys]
  have := T.nd
  clear T
  induction ps with
  | nil => exact List.nodup_nil
  | cons p ps ih =>
    rw [List.map_cons, List.nodup_cons] at this ⊢
    refine ⟨fun hm => ?_, ih this.2⟩
    obtain ⟨q, hq, e⟩ := List.mem_map.mp hm
    exact this.1 (List.mem_map.mpr ⟨q, hq, keyI_inj e⟩)
theorem TdR.at_none {B : PM} {p : Pt} {xs ps} (x : TdR B xs ps) : ps.lookup p = none → atKey xs (keyI p) = none := by
  induction x with
  | nil => exact fun _ => rfl
  | @cons a q v t xs ps r rs ih =>
    intro h
    rw [List.lookup_cons] at h
    by_cases e : p = q
    · subst e; simp at h
    · rw [show (p == q) = false from beq_eq_false_iff_ne.mpr e] at h
      have ih := ih h
      have nk : ¬ keyI q = keyI p := fun x => e (keyI_inj x).symm
      unfold atKey at ih ⊢
      rw [List.find?_cons]
      simp only [decide_eq_false nk]
      exact ih
theorem TdR.at_some {B : PM} {p : Pt} {i : Int} {xs ps} (x : TdR B xs ps) : ps.lookup p = some i → ∃ a t, atKey xs (keyI p) = some (a, .int i t) := by
  induction x with
  | nil => intro h; simp at h
  | @cons a q v t xs ps r rs ih =>
    intro h
    rw [List.lookup_cons] at h
    by_cases e : p = q
    · subst e
      simp at h
      subst h
      exact ⟨a, t, by simp [atKey]⟩
    · rw [show (p == q) = false from beq_eq_false_iff_ne.mpr e] at h
      obtain ⟨a', t', ih⟩ := ih h
      have nk : ¬ keyI q = keyI p := fun x => e (keyI_inj x).symm
      refine ⟨a', t', ?_⟩
      unfold atKey at ih ⊢
      rw [List.find?_cons]
      simp only [decide_eq_false nk]
      exact ih
noncomputable def putP (ps : List (Pt × Int)) (p : Pt) (v : Int) : List (Pt × Int) := if (ps.lookup p).isSome then ps.map (fun q => if q.1 = p then (q.1, v) else q) else ps ++ [(p, v)]
theorem TdR.putMap {B : PM} {p : Pt} {v : Int} {t : Tok} {xs ps} (x : TdR B xs ps) : TdR B (xs.map (putAt (keyI p) (.int v t))) (ps.map fun q => if q.1 = p then (q.1, v) else q) := by
  induction x with
  | nil => exact .nil
  | @cons a q v' t' xs ps r rs ih =>
    rw [List.map_cons, List.map_cons]
    by_cases e : q = p
    · subst e
      rw [if_pos rfl]
      unfold putAt
      rw [if_pos rfl]
      exact .cons r ih
    · rw [if_neg e]
      have nk : ¬ keyI q = keyI p := fun x => e (keyI_inj x)
      rw [show putAt (keyI p) (.int v t) (keyI q, a, .int v' t') = (keyI q, a, .int v' t') from if_neg nk]
      exact .cons r ih
theorem TdR.snoc {B : PM} {a : Addr} {p : Pt} {v : Int} {t : Tok} (r : Rd B (.ref a) (ptD p.1 p.2)) {xs ps} (x : TdR B xs ps) : TdR B (xs ++ [(keyI p, a, .int v t)]) (ps ++ [(p, v)]) := by
  induction x with
  | nil => exact .cons r .nil
  | cons r' _ ih => exact .cons r' ih
theorem Td.put {B : PM} {xs ps} {a : Addr} {p : Pt} {v : Int} {t : Tok} (T : Td B xs ps) (r : Rd B (.ref a) (ptD p.1 p.2)) : Td B (storedH xs (keyI p) a (.int v t)) (putP ps p v) := by
  cases h : ps.lookup p with
  | none =>
    have h1 := T.r.at_none h
    rw [storedH_new h1]
    unfold putP
    rw [h]
    refine ⟨T.r.snoc r, ?_⟩
    show ((ps ++ [(p, v)]).map (·.1)).Nodup
    rw [List.map_append, List.nodup_append]
    refine ⟨T.nd, by simp, ?_⟩
    intro x hx y hy e
    simp only [List.map_cons, List.map_nil, List.mem_singleton] at hy
    subst hy; subst e
    obtain ⟨q, hq, rfl⟩ := List.mem_map.mp hx
    have : ∀ l : List (Pt × Int), q ∈ l → l.lookup q.1 ≠ none := by
      intro l
      induction l with
      | nil => intro h; cases h
      | cons z l ih =>
        intro hm he
        rw [List.lookup_cons] at he
        cases hz : q.1 == z.1 with
        | true => rw [hz] at he; simp at he
        | false =>
          rw [hz] at he
          rcases List.mem_cons.mp hm with rfl | hm
          · simp at hz
          · exact ih hm he
    exact this ps hq h
  | some i =>
    obtain ⟨a', t', h1⟩ := T.r.at_some h
    rw [storedH_old h1]
    unfold putP
    rw [h]
    refine ⟨T.r.putMap, ?_⟩
    show ((ps.map fun q => if q.1 = p then (q.1, v) else q).map (·.1)).Nodup
    have : (ps.map fun q => if q.1 = p then (q.1, v) else q).map (·.1) = ps.map (·.1) := by
      rw [List.map_map]
      refine List.map_congr_left fun q _ => ?_
      show (if q.1 = p then (q.1, v) else q).1 = q.1
      split <;> rfl
    rw [this]
    exact T.nd
section
variable {c : Cx} {H B : PM} {cs cs' : List Cell} {s : Shared} {A : Around} {n : Nat}
theorem isInt_self (i : Int) (t : Tok) : (intKind c.prog c.w).is i (.int i t) = true := by show Value.isInt i (.int i t) = true; simp [Value.isInt]
theorem tkey (S : Own c H B cs s) {a : Addr} {p : Pt} (r : Rd B (.ref a) (ptD p.1 p.2)) : c.kn.is s.heap (keyI p) a := by
  obtain ⟨l, o, vs, e, hb, hl, hr⟩ := r.tuple_inv
  cases e
  obtain ⟨v1, r1, rfl, h1, h2⟩ := hr.cons_inv
  obtain ⟨v2, r2, rfl, h3, h4⟩ := h2.cons_inv
  obtain rfl := h4.nil_inv
  obtain ⟨t1, rfl⟩ := h1.int_inv
  obtain ⟨t2, rfl⟩ := h3.int_inv
  obtain ⟨m, rfl⟩ := hl
  refine ⟨_, _, m, S.hB _ _ hb, rfl, rfl, ?_⟩
  exact .cons (isInt_self _ _) (.cons (isInt_self _ _) .nil)
theorem TdR.mem {B : PM} {xs ps} (h : TdR B xs ps) : ∀ x ∈ xs, ∃ p v t, x.1 = keyI p ∧ x.2.2 = .int v t ∧ Rd B (.ref x.2.1) (ptD p.1 p.2) := by
  induction h with
  | nil => exact fun _ h => nomatch h
  | cons r _ ih =>
    intro x h
    rcases List.mem_cons.mp h with rfl | h
    · exact ⟨_, _, _, rfl, rfl, r⟩
    · exact ih x h
theorem td_heap (S : Own c H B cs s) {d : Addr} {o : Obj} {xs ps} (ho : s.heap.get? d = some o) (hp : tdP c xs o) (T : Td B xs ps) : s.heap.DictOfH c.kn d xs := by
  obtain ⟨hx, es, ep, hd, he⟩ := hp
  refine ⟨o, es, ep, ho, hx, hd, he, fun x hxm => ?_, T.nodup⟩
  obtain ⟨p, v, t, e1, _, r⟩ := T.r.mem x hxm
  rw [e1]
  exact tkey S r
theorem td_back {h : Heap} {d : Addr} {xs : List TK} (x : h.DictOfH c.kn d xs) : ∃ o, h.get? d = some o ∧ tdP c xs o := by
  obtain ⟨o, es, ep, ho, hx, hd, he, _, _⟩ := x
  exact ⟨o, ho, hx, es, ep, hd, he⟩
noncomputable def DictAt (c : Cx) (B : PM) (s : Shared) (d : Addr) (ps : List (Pt × Int)) : Prop := (d == sysModules) = false ∧ ∃ xs o, s.heap.get? d = some o ∧ tdP c xs o ∧ Td B xs ps
noncomputable def SpB (c : Cx) (B : PM) (d : Addr) (ps : List (Pt × Int)) : Prop := (d == sysModules) = false ∧ ∃ xs o, B d = some o ∧ tdP c xs o ∧ Td B xs ps
theorem SpB.mono {B B' : PM} {d ps} (h : Le B B') (x : SpB c B d ps) : SpB c B' d ps := by obtain ⟨a, xs, o, b, e, f⟩ := x; exact ⟨a, xs, o, h _ _ b, e, f.mono h⟩
theorem SpB.at_ {d ps} (S : Own c H B cs s) (x : SpB c B d ps) : DictAt c B s d ps := by obtain ⟨a, xs, o, b, e, f⟩ := x; exact ⟨a, xs, o, S.hB _ _ b, e, f⟩
theorem ne_sys (G : Glb c) (S : Own c H B cs s) {d : Addr} (hd : B d = none) : (d == sysModules) = false := by
  refine beq_eq_false_iff_ne.mpr fun e => ?_
  subst e
  obtain ⟨o, ho⟩ := G.sys
  rw [S.base _ _ ho] at hd
  cases hd
theorem cell_at (G : Glb c) (S : Own c H B cs s) {d : Addr} {xs ps} (hm : (d, tdP c xs) ∈ cs) (T : Td B xs ps) : DictAt c B s d ps := by
  obtain ⟨o, ho, hp⟩ := S.cell hm
  exact ⟨ne_sys G S (S.dC _ hm).2, xs, o, ho, hp, T⟩
theorem frz_td (G : Glb c) {d : Addr} {xs ps} (S : Own c H B ((d, tdP c xs) :: cs) s) (T : Td B xs ps) : ∃ B', Le B B' ∧ SpB c B' d ps ∧ Own c H B' cs s := by
  obtain ⟨B', o, hle, hb, hp, hn, S'⟩ := S.freeze
  exact ⟨B', hle, ⟨ne_sys G S hn, xs, o, hb, hp, T.mono hle⟩, S'⟩
theorem e_dict0 {env : Env} {pos : Pos} {Q : Value → Shared → Prop} (S : Own c H B cs s) (h : ∀ d s', B d = none → Own c H B ((d, fun o => o = { cls := .type "dict", data := .dict #[] }) :: cs) s' → Q (.ref d) s') :
    wpAny c.M A (eval (.Dict [] [] pos) env) Q NE s :=
  wpAny_Dict_empty (h _ _ S.newB (S.push (t := s.toks) rfl rfl))
theorem tdP_new {o : Obj} (h : o = { cls := .type "dict", data := .dict #[] }) : tdP c [] o := by subst h; exact ⟨⟨rfl, rfl, rfl⟩, #[], _, rfl, rfl⟩
theorem td_nil {B : PM} : Td B [] [] := ⟨.nil, List.nodup_nil⟩
theorem td_in {d a : Addr} {p : Pt} {ps} {Q : Value → Shared → Prop} (D : DictAt c B s d ps) (R : Room A n) (S : Own c H B cs s) (r : Rd B (.ref a) (ptD p.1 p.2)) (h : ∀ s', Own c H B cs s' → Q (.bool (ps.lookup p).isSome) s') :
    wpAny c.M A (compareOp .In (.ref a) (.ref d)) Q NE s := by
  obtain ⟨hd, xs, o, ho, hp, T⟩ := D
  refine wpAny_in_heap (knd := c.kn) (k := keyI p) (by exact R.u1) (tkey S r) hd (td_heap S ho hp T) ?_
  have e : (atKey xs (keyI p)).isSome = (ps.lookup p).isSome := by
    cases q : ps.lookup p with
    | none => rw [T.r.at_none q]; rfl
    | some i => obtain ⟨a', t', q'⟩ := T.r.at_some q; rw [q']; rfl
  rw [e]
  exact h _ (S.tok _)
theorem td_get {d a : Addr} {p : Pt} {ps} {i : Int} {Q : Value → Shared → Prop} (D : DictAt c B s d ps) (R : Room A n) (S : Own c H B cs s) (r : Rd B (.ref a) (ptD p.1 p.2)) (hi : ps.lookup p = some i) (h : ∀ t s', Own c H B cs s' → Q (.int i t) s') :
    wpAny c.M A (getItem (.ref d) (.ref a)) Q NE s := by
  obtain ⟨hd, xs, o, ho, hp, T⟩ := D
  obtain ⟨a', t', q⟩ := T.r.at_some hi
  exact wpAny_getItem_heap (knd := c.kn) (k := keyI p) (by exact R.u1) (tkey S r) (td_heap S ho hp T) q (h _ _ (S.tok _))
theorem td_set {d a : Addr} {p : Pt} {xs ps} {i : Int} {t : Tok} {Q : Unit → Shared → Prop} (T : Td B xs ps) (R : Room A n) (S : Own c H B cs s) (U : Upd d (tdP c xs) (tdP c (storedH xs (keyI p) a (.int i t))) cs cs') (r : Rd B (.ref a) (ptD p.1 p.2)) (hl : ps.length ≤ 1000)
    (h : ∀ s', Own c H B cs' s' → Td B (storedH xs (keyI p) a (.int i t)) (putP ps p i) → Q () s') : wpAny c.M A (setItem (.ref d) (.ref a) (.int i t)) Q NE s := by
  obtain ⟨o, ho, hp⟩ := S.cell U.mem
  refine wpAny_setItem_heap (knd := c.kn) (k := keyI p) (by exact R.u1) (tkey S r) (td_heap S ho hp T) (fun h' hd' hs => h _ (S.upd U hs.extBut (td_back hd')) (T.put r)) (by rw [T.r.length, sizeLine_eq]; omega)
theorem td_getd {d a : Addr} {p : Pt} {ps} {i : Int} {t : Tok} {Q : Value → Shared → Prop} (D : DictAt c B s d ps) (R : Room A n) (S : Own c H B cs s) (r : Rd B (.ref a) (ptD p.1 p.2)) (h : ∀ t s', Own c H B cs s' → Q (.int ((ps.lookup p).getD i) t) s') :
    wpAny c.M A (call (.builtin "dict.get") [.ref d, .ref a, .int i t]) Q NE s := by
  obtain ⟨hd, xs, o, ho, hp, T⟩ := D
  refine call_meetsIn PySem.F.slot_dict_get (td_heap S ho hp T).typeIs PySem.F.entry_dict_get (PySem.F.args_dict_get_3 _ _ _) (meetsH_dict_get_default c.kn d a hd (.int i t)) ⟨by exact R.u1, keyI p, xs, tkey S r, td_heap S ho hp T, ?_⟩
  cases q : ps.lookup p with
  | none =>
    rw [T.r.at_none q]
    have := h t _ (S.tok (s.toks + c.kn.draws (keyI p)))
    rw [q] at this
    exact this
  | some j =>
    obtain ⟨a', t', q'⟩ := T.r.at_some q
    rw [q']
    have := h t' _ (S.tok (s.toks + c.kn.draws (keyI p)))
    rw [q] at this
    exact this
end
noncomputable def thash (ks : List Int) : Int := reduceHash (Builtin.Tuple.tupleHashOf (ks.map hashInt))
noncomputable def allKeys : List (List Int) := (List.range 6).flatMap fun k => (List.range 4).map fun i => keyI (k, i)
theorem thash_nodup : (allKeys.map thash).Nodup := by decide +kernel
theorem mem_allKeys {p : Pt} (h1 : p.1 < 6) (h2 : p.2 < 4) : keyI p ∈ allKeys :=
  List.mem_flatMap.mpr ⟨p.1, List.mem_range.mpr h1, List.mem_map.mpr ⟨p.2, List.mem_range.mpr h2, rfl⟩⟩
theorem thash_inj {p q : Pt} (h1 : p.1 < 6) (h2 : p.2 < 4) (h3 : q.1 < 6) (h4 : q.2 < 4) (h : thash (keyI p) = thash (keyI q)) : p = q := by
  refine keyI_inj ?_
  have a := mem_allKeys h1 h2
  have b := mem_allKeys h3 h4
  obtain ⟨i, hi, ei⟩ := List.mem_iff_getElem.mp a
  obtain ⟨j, hj, ej⟩ := List.mem_iff_getElem.mp b
  have : (allKeys.map thash)[i]'(by simpa using hi) = (allKeys.map thash)[j]'(by simpa using hj) := by simp [ei, ej, h]
  have := (List.getElem_inj thash_nodup).mp this
  subst this
  rw [← ei, ← ej]
section
variable {c : Cx} {H B : PM} {cs cs' : List Cell} {s : Shared} {A : Around} {n : Nat}
noncomputable def Small (ps : List (Pt × Int)) : Prop := ps ≠ [] ∧ ps.length ≤ 24 ∧ ∀ q ∈ ps, q.1.1 < 6 ∧ q.1.2 < 4
theorem filter_one {xs : List TK} {ps : List (Pt × Int)} (T : Td B xs ps) (sm : Small ps) (es : Array DictEntry) (he : es.toList = xs.map (entryOfKey c.kn)) (e : DictEntry) : ¬ (es.filter (·.hash == e.hash)).size > 1 := by
  have hs : (es.filter (·.hash == e.hash)).size = ((xs.map (entryOfKey c.kn)).filter (·.hash == e.hash)).length := by
    rw [← he, ← Array.length_toList, Array.toList_filter]
  rw [hs]
  have nd : ((xs.map (entryOfKey c.kn)).map (·.hash)).Nodup := by
    have e2 : (xs.map (entryOfKey c.kn)).map (·.hash) = ps.map fun q => thash (keyI q.1) := by
      rw [List.map_map]
      have : xs.map ((·.hash) ∘ entryOfKey c.kn) = (xs.map (·.1)).map thash := by rw [List.map_map]; rfl
      rw [this, T.r.keys, List.map_map]; rfl
    rw [e2]
    have hn := T.nd
    have hsm := sm.2.2
    clear e2 T hs he sm
    induction ps with
    | nil => exact List.nodup_nil
    | cons p ps ih =>
      rw [List.map_cons, List.nodup_cons] at hn ⊢
      refine ⟨fun hm => ?_, ih hn.2 fun q hq => hsm q (List.mem_cons_of_mem _ hq)⟩
      obtain ⟨q, hq, e⟩ := List.mem_map.mp hm
      have h1 := hsm q (List.mem_cons_of_mem _ hq)
      have h2 := hsm p (List.mem_cons_self ..)
      have := thash_inj h1.1 h1.2 h2.1 h2.2 e
      exact hn.1 (List.mem_map.mpr ⟨q, hq, this⟩)
  generalize xs.map (entryOfKey c.kn) = l at nd
  intro hgt
  match hf : l.filter (·.hash == e.hash) with
  | [] => rw [hf] at hgt; simp at hgt
  | [_] => rw [hf] at hgt; simp at hgt
  | a :: b :: r =>
    have h1 : ((l.filter (·.hash == e.hash)).map (·.hash)).Nodup := nd.sublist ((List.filter_sublist).map _)
    rw [hf, List.map_cons, List.map_cons, List.nodup_cons] at h1
    have ha : a ∈ l.filter (·.hash == e.hash) := by rw [hf]; exact List.mem_cons_self ..
    have hb : b ∈ l.filter (·.hash == e.hash) := by rw [hf]; exact List.mem_cons_of_mem _ (List.mem_cons_self ..)
    have ea : a.hash = e.hash := by simpa using (List.mem_filter.mp ha).2
    have eb : b.hash = e.hash := by simpa using (List.mem_filter.mp hb).2
    exact h1.1 (by rw [ea, ← eb]; exact List.mem_cons_self ..)
theorem quiet_ref {a : Addr} {p : Pt} {Q : Bool → Shared → Prop} (S : Own c H B cs s) (r : Rd B (.ref a) (ptD p.1 p.2)) (h : ∀ b, Q b s) : wpAny c.M A (Builtin.Dict.quietEq (.ref a)) Q NE s := by
  have hT : s.TypeIs (.ref a) "tuple" := (tkey (c := c) S r).typeIs
  unfold Builtin.Dict.quietEq
  exact wpAny_bind (wpAny_specialOf hT PySem.F.slot_tuple_eq.lookup (wpAny_pure (h _)))
theorem td_copy {d : Addr} {ps} {Q : Value → Shared → Prop} (G : Glb c) (D : DictAt c B s d ps) (S : Own c H B cs s) (sm : Small ps)
    (h : ∀ d' xs s', B d' = none → Td B xs ps → Own c H B ((d', tdP c xs) :: cs) s' → Q (.ref d') s') : wpAny c.M A (call (.type "dict") [.ref d]) Q NE s := by
  obtain ⟨hdS, xs, o, ho, hp, T⟩ := D
  refine callType_codes (Q₁ := fun obj s₁ => obj = .ref s.heap.objs.size ∧ s₁ = { s with heap := s.heap.push { cls := .type "dict", data := .dict #[] } }) F.kt_called_dict (F.kt_typeCall_dict_1 _) F.entry_dict_init (kt_code_dict_new _ ⟨rfl, rfl⟩) ?_
  rintro obj s₁ ⟨rfl, rfl⟩
  have S₁ := S.push (t := s.toks) (P := tdP c []) (o := { cls := .type "dict", data := .dict #[] }) ⟨⟨rfl, rfl, rfl⟩, #[], _, rfl, rfl⟩ rfl
  have hB := S.newB
  generalize hN : s.heap.objs.size = N at S₁ hB
  have hnew : (s.heap.push { cls := .type "dict", data := .dict #[] }).get? N = some { cls := .type "dict", data := .dict #[] } := by rw [← hN]; exact Heap.get?_push_size _ rfl
  have ho' : (s.heap.push { cls := .type "dict", data := .dict #[] }).get? d = some o := Heap.get?_push_of_some _ ho
  have hdo : N ≠ d := fun e => absurd (Heap.lt_size ho) (by rw [← e, hN]; exact Nat.lt_irrefl _)
  generalize (s.heap.push { cls := .type "dict", data := .dict #[] }) = h1 at *
  obtain ⟨hx, es, ep, hd, he⟩ := hp
  have hTn : Shared.TypeIs { s with heap := h1 } (.ref N) "dict" := ⟨_, hnew, rfl⟩
  have hTd : Shared.TypeIs { s with heap := h1 } (.ref d) "dict" := ⟨_, ho', hx.1⟩
  have hsz : es.size = ps.length := by rw [← Array.length_toList, he, List.length_map, T.r.length]
  refine ⟨hTn, F.args_dict_init_2 _ _, ?_⟩
  unfold Builtin.«dict.__init__»
  refine wpAny_bind ?_
  unfold Builtin.Dict.selfAndRest
  refine wpAny_bind (wpAny_notOrdered_dict hTn ?_)
  show wpAny _ _ (pure (N, [Value.ref d])) _ _ _
  refine wpAny_pure ?_
  show wpAny _ _ (Builtin.Dict.updateFrom "dict.__init__" N (.ref d) [] .none) _ _ _
  unfold Builtin.Dict.updateFrom
  refine wpAny_bind (wpAny_typeOf hTd ?_)
  rw [if_neg (by decide)]
  refine wpAny_bind ?_
  unfold Builtin.Dict.merge
  refine wpAny_bind ?_
  unfold Builtin.Dict.readDirectly
  refine wpAny_bind (wpAny_isInstance hTd isSubtype_dict_dict ?_)
  simp only [Bool.not_true, Bool.false_eq_true, if_false]
  refine wpAny_bind (wpAny_specialOf hTd F.slot_dict_iter.lookup (wpAny_pure ?_))
  simp only [beq_self_eq_true, if_true]
  refine wpAny_bind (wpAny_pure ?_)
  unfold Builtin.Dict.mergeDict
  rw [if_neg (by simpa using hdo)]
  unfold Builtin.Dict.showsAll
  rw [if_neg (by rw [hdS]; exact Bool.false_ne_true)]
  refine wpAny_bind (wpAny_pure ?_)
  refine wpAny_bind (wpAny_dictEntries ho' hd ?_)
  have h0 : 0 < es.size := by rw [hsz]; exact List.length_pos_iff.mpr sm.1
  have hkeys : ∀ e ∈ es.toList, ∃ a p, e.key = .ref a ∧ Rd B (.ref a) (ptD (Prod.fst p : Nat) (Prod.snd p : Nat)) := fun e hm => by
    rw [he] at hm
    obtain ⟨x, hxm, rfl⟩ := List.mem_map.mp hm
    obtain ⟨p, v, t, _, _, r⟩ := T.r.mem x hxm
    exact ⟨x.2.1, p, rfl, r⟩
  have hfew : (decide (es.size ≤ 8) && es.all fun e => (keyPart e.key).isSome) = false := by
    have : (es.all fun e => (keyPart e.key).isSome) = false := by
      rw [← Array.all_toList]
      refine List.all_eq_false.mpr ⟨es[0], by simp, ?_⟩
      obtain ⟨a, p, e, _⟩ := hkeys es[0] (by simp)
      rw [e]; exact Bool.false_ne_true
    rw [this, Bool.and_false]
  dsimp only
  rw [if_pos (by rw [hfew]; rfl)]
  refine wpAny_bind (wpAny_dictEntries hnew rfl ?_)
  rw [if_pos (by rfl)]
  unfold Builtin.Dict.entriesForEmpty
  refine wpAny_bind (wpAny_bind (wpAny_dictEntries ho' hd ?_))
  refine wpAny_bind ?_
  rw [← Array.forIn_toList]
  refine wpAny_forIn_list _ (fun rest _ s' => s' = { s with heap := h1 } ∧ ∀ e ∈ rest, e ∈ es.toList) _ ?_ ?_ _ _ ⟨rfl, fun _ h => h⟩
  · rintro x rest b s' ⟨rfl, hr⟩
    obtain ⟨a, p, e, r⟩ := hkeys x (hr x (List.mem_cons_self ..))
    rw [e]
    refine wpAny_bind (neE (quiet_ref S₁ r fun b => ?_))
    have hr' : ∀ e ∈ rest, e ∈ es.toList := fun e h => hr e (List.mem_cons_of_mem _ h)
    cases b with
    | true => simp only [Bool.not_true, Bool.false_eq_true, if_false]; exact wpAny_pure ⟨rfl, hr'⟩
    | false =>
      simp only [Bool.not_false, if_true]
      rw [if_neg (filter_one T sm es he x)]
      exact wpAny_pure ⟨rfl, hr'⟩
  · rintro b s' ⟨rfl, _⟩
    refine wpAny_pure ?_
    rw [if_pos (by simpa using (fun e => by rw [e] at h0; simp at h0 : ¬ es = #[]))]
    refine wpAny_bind (wpAny_updateDictKeysTo hnew rfl (wpAny_pure ?_) (by rw [hsz, sizeLine_eq]; have := sm.2.1; omega))
    show wpAny _ _ (Builtin.Dict.addKeywords N [] >>= _) _ _ _
    refine wpAny_bind (wpAny_pure (wpAny_pure ⟨rfl, ?_⟩))
    refine h N xs _ hB T (S₁.upd (t := s.toks) .head (Heap.SameBut.update ..).extBut ⟨_, Heap.get?_update_self _ hnew rfl, ⟨rfl, rfl, rfl⟩, es, _, rfl, he⟩)
end
section
variable {prog : Program} {w : PySem.World} {A : Around} {E : Value → Shared → Prop} {s : Shared}
theorem same_td {nm : String} {a b : Addr} {xs ys : List TK} {Q : Bool → Shared → Prop} (hu : A.units < cLine) (ha : (a == sysModules) = false) (hb : (b == sysModules) = false)
    (da : s.heap.DictOfH (tupleKind (intKind prog w)) a xs) (db : s.heap.DictOfH (tupleKind (intKind prog w)) b ys) (hl : xs.length = ys.length)
    (hits : ∀ x ∈ xs, ∃ b' i t t', x.2.2 = .int i t ∧ (x.1, b', .int i t') ∈ ys) (h : Q true s) : wpAny (model prog w) A (Builtin.Dict.samePairs nm a b) Q E s := by
  obtain ⟨oa, es, ep, hoa, _, hda, hea, hia, hna⟩ := da
  obtain ⟨ob, es', ep', hob, _, hdb, heb, hib, hnb⟩ := db
  have hla : es.size = xs.length := size_of_entries hea
  have hlb : es'.size = ys.length := size_of_entries heb
  unfold Builtin.Dict.samePairs Builtin.Dict.showsAll
  rw [if_neg (show ¬ (a == sysModules) = true by rw [ha]; exact Bool.false_ne_true), if_neg (show ¬ (b == sysModules) = true by rw [hb]; exact Bool.false_ne_true)]
  refine wpAny_bind (wpAny_pure (wpAny_bind (wpAny_pure ?_)))
  refine wpAny_bind (wpAny_dictEntries hoa hda ?_)
  dsimp only
  refine wpAny_bind (wpAny_dictEntries hob hdb ?_)
  have hsz : es.size = es'.size := by rw [hla, hlb, hl]
  rw [if_neg (by rw [hsz]; simp)]
  refine wpAny_bind (wpAny_dictEpoch hoa hda ?_)
  refine wpAny_bind ?_
  rw [Std.Legacy.Range.forIn_eq_forIn_range']
  simp only [Std.Legacy.Range.size, Nat.sub_zero, Nat.add_sub_cancel, Nat.div_one]
  refine wpAny_forIn_list _
    (fun rest q s' => s' = s ∧ q = (none, ()) ∧ ∃ i, rest = List.range' i (es.size - i) ∧ i ≤ es.size)
    _ ?_ ?_ _ _ ⟨rfl, rfl, 0, by simp, Nat.zero_le _⟩
  · rintro x rest q s' ⟨rfl, rfl, i, hr, hi⟩
    have hlt : i < es.size := by
      rcases Nat.lt_or_ge i es.size with h | h
      · exact h
      · rw [Nat.sub_eq_zero_of_le h] at hr; simp at hr
    obtain ⟨rfl, hrest⟩ : x = i ∧ rest = List.range' (i + 1) (es.size - (i + 1)) := by
      have e : es.size - i = (es.size - (i + 1)) + 1 := by omega
      rw [e, List.range'_succ] at hr
      injection hr with h1 h2
      exact ⟨h1, h2⟩
    refine wpAny_bind (wpAny_dictEntries hoa hda ?_)
    obtain ⟨⟨k, a', v⟩, hkv⟩ : ∃ y, xs[x]? = some y := ⟨xs[x]'(by rw [← hla]; exact hlt), List.getElem?_eq_getElem _⟩
    rw [entry_at hea x, hkv]
    show wpAny _ _ (holding [Value.ref a', v] _ >>= _) _ _ _
    have hm : (k, a', v) ∈ xs := List.mem_of_getElem? hkv
    obtain ⟨b', j0, t, t', ev, hy⟩ := hits _ hm
    dsimp only at ev hy
    obtain ⟨j', hj'⟩ := List.mem_iff_getElem?.mp hy
    refine wpAny_bind (wpAny_holding (wpAny_bind (wpAny_dictFind_heap (knd := tupleKind (intKind prog w)) (by exact hu) (hia _ hm) hob hdb heb hib hnb ?_ ?_)))
    · intro hno
      exact absurd hj' (hno j' _)
    · intro j p hj
      obtain rfl := idxH_unique hnb hj hj'
      rw [hj] at hj'
      obtain rfl : p = (b', .int j0 t') := by
        have := Option.some.inj hj'
        exact (Prod.mk.inj this).2
      dsimp only
      refine wpAny_bind (wpAny_dictEntries hob hdb ?_)
      rw [entry_at heb j, hj]
      refine wpAny_holding ?_
      show wpAny _ _ (eqBool v (.int j0 t')) _ _ _
      rw [ev]
      refine SeqAt.EqAt.int_int (A := A) (s := s') j0 t j0 t' prog w _ _ ?_
      rw [beq_self_eq_true]
      show wpAny _ _ (if (!true) = true then _ else _) _ _ _
      rw [if_neg (by decide)]
      refine wpAny_bind (wpAny_dictEpoch hoa hda ?_)
      rw [if_neg (by simp)]
      exact wpAny_pure ⟨rfl, rfl, x + 1, hrest, hlt⟩
  · rintro q s' ⟨rfl, rfl, i, hr, hi⟩
    exact wpAny_pure h
theorem rc_td {a b : Addr} {xs ys : List TK} {Q : Value → Shared → Prop} (hu : A.units + 1 < cLine) (ha : (a == sysModules) = false) (hb : (b == sysModules) = false)
    (da : s.heap.DictOfH (tupleKind (intKind prog w)) a xs) (db : s.heap.DictOfH (tupleKind (intKind prog w)) b ys) (hl : xs.length = ys.length)
    (hits : ∀ x ∈ xs, ∃ b' i t t', x.2.2 = .int i t ∧ (x.1, b', .int i t') ∈ ys) (h : Q (.bool true) s) : wpAny (model prog w) A (richCompare .Eq (.ref a) (.ref b)) Q E s := by
  refine wpAny_richCompare_same_room (op := .Eq) da.typeIs db.typeIs PySem.F.slot_dict_eq (wpAny_call_entry PySem.F.slot_dict_eq da.typeIs PySem.F.entry_dict_eq ?_ (PySem.F.args_dict_eq_2 _ _)) (by omega)
  show wpAny _ _ (Builtin.Dict.dictSlotArgs "__eq__" ⟨[.ref a, .ref b], []⟩ >>= _) _ _ s
  refine wpAny_bind ?_
  unfold Builtin.Dict.dictSlotArgs
  refine wpAny_bind (wpAny_notOrdered_dict da.typeIs ?_)
  show wpAny _ _ (pure (Value.ref a, Value.ref b)) _ _ s
  refine wpAny_pure ?_
  refine wpAny_bind (wpAny_isInstance (T := "dict") db.typeIs PySem.F.sub_dict_dict ?_)
  simp only [Bool.not_true, Bool.false_eq_true, if_false]
  refine wpAny_bind (wpAny_pure (wpAny_bind (wpAny_pure ?_)))
  refine wpAny_bind (same_td (by show A.units + 1 < _; omega) ha hb da db hl hits ?_)
  refine wpAny_pure ⟨_, rfl, ?_, ?_⟩
  · exact fun x => nomatch x
  · simpa using h
end
theorem items_conv {prog prog' : Program} {w w' : PySem.World} {ks : List Int} {vs : List Value} (h : ItemsAre (intKind prog w) ks vs) : ItemsAre (intKind prog' w') ks vs := by
  induction h with
  | nil => exact .nil
  | cons h1 _ ih => exact .cons h1 ih
theorem dict_conv {prog prog' : Program} {w w' : PySem.World} {h : Heap} {d : Addr} {xs : List TK} (x : h.DictOfH (tupleKind (intKind prog w)) d xs) : h.DictOfH (tupleKind (intKind prog' w')) d xs := by
  obtain ⟨o, es, ep, h1, h2, h3, h4, h5, h6⟩ := x
  refine ⟨o, es, ep, h1, h2, h3, h4, fun y hy => ?_, h6⟩
  obtain ⟨o', items, n, a, b, d, e⟩ := h5 y hy
  exact ⟨o', items, n, a, b, d, items_conv e⟩
theorem TdR.match {B : PM} {ys : List TK} {xs : List TK} {ps} (h : TdR B xs ps) (h' : TdR B ys ps) : ∀ x ∈ xs, ∃ b' i t t', x.2.2 = .int i t ∧ (x.1, b', .int i t') ∈ ys := by
  induction h generalizing ys with
  | nil => exact fun _ h => nomatch h
  | cons r rs ih =>
    intro x h
    cases h' with
    | cons r' rs' =>
      rcases List.mem_cons.mp h with rfl | h
      · exact ⟨_, _, _, _, rfl, List.mem_cons_self ..⟩
      · obtain ⟨b', i, t, t', a, b⟩ := ih rs' x h
        exact ⟨b', i, t, t', a, List.mem_cons_of_mem _ b⟩
section
variable {c : Cx} {H B : PM} {cs cs' : List Cell} {s : Shared} {A : Around} {n : Nat}
theorem eqAt_td {a b : Addr} {ps} (S : Own c H B cs s) (D : DictAt c B s a ps) (D' : DictAt c B s b ps) (hu : A.units + 64 < cLine) : SeqAt.EqAt A s (.ref a) (.ref b) true := by
  by_cases e : a = b
  · subst e; exact SeqAt.EqAt.same _
  · refine SeqAt.EqAt.of_refs e fun prog w E Q hq => ?_
    obtain ⟨ha, xs, oa, hoa, hpa, Ta⟩ := D
    obtain ⟨hb, ys, ob, hob, hpb, Tb⟩ := D'
    have d1 : s.heap.DictOfH (tupleKind (intKind prog w)) a xs := dict_conv (td_heap S hoa hpa Ta)
    have d2 : s.heap.DictOfH (tupleKind (intKind prog w)) b ys := dict_conv (td_heap S hob hpb Tb)
    exact rc_td (by omega) ha hb d1 d2 (by rw [Ta.r.length, Tb.r.length]) (Ta.r.match Tb.r) hq
theorem eqAt_Rd {v u : Value} {d : PyData} (S : Own c H B cs s) (r : Rd B v d) (r' : Rd B u d) (h : SeqAt.shaped d = true) (hu : A.units + 64 < cLine) : SeqAt.EqAt A s v u true := by
  obtain ⟨as, ra⟩ := r.reads S.hB
  obtain ⟨bs, rb⟩ := r'.reads S.hB
  have := SeqAt.eqAt_reads d d A s v u as bs ra rb (SeqAt.canLay_of_shaped h) (SeqAt.canLay_of_shaped h) (SeqAt.room_of_shaped h hu)
  rw [SeqAt.eqv_refl d (SeqAt.canLay_of_shaped h)] at this
  exact this
structure ShownAt (c : Cx) (B : PM) (x : Value) (d : PyData) (ps : List (Pt × Int)) : Prop where
  h : ∃ a o v sp, x = .ref a ∧ B a = some o ∧ tupP [v, .ref sp] o ∧ Rd B v d ∧ SpB c B sp ps
theorem ShownAt.mono {B B' : PM} {x d ps} (h : Le B B') (X : ShownAt c B x d ps) : ShownAt c B' x d ps := by obtain ⟨a, o, v, sp, e, b, t, r, p⟩ := X.h; exact ⟨⟨a, o, v, sp, e, h _ _ b, t, r.mono h, p.mono h⟩⟩
theorem ShownAt.isTup {x d ps} (S : Own c H B cs s) (X : ShownAt c B x d ps) : ∃ a v sp, x = .ref a ∧ s.heap.IsTuple a #[v, .ref sp] ∧ Rd B v d ∧ SpB c B sp ps := by
  obtain ⟨a, o, v, sp, e, b, t, r, p⟩ := X.h
  exact ⟨a, v, sp, e, ⟨o, S.hB _ _ b, t.w.1, by simpa using t.w.2⟩, r, p⟩
theorem shown_items {v v' : Value} {sp sp' : Addr} {d : PyData} {ps} (S : Own c H B cs s) (R : Room A n) (hd : SeqAt.shaped d = true) (r : Rd B v d) (r' : Rd B v' d) (p : SpB c B sp ps) (p' : SpB c B sp' ps) :
    ∀ j (h1 : j < (#[v, .ref sp] : Array Value).size) (h2 : j < (#[v', .ref sp'] : Array Value).size), SeqAt.EqAt A.in1 s (#[v, .ref sp] : Array Value)[j] (#[v', .ref sp'] : Array Value)[j] ((fun _ => true) j) := by
  intro j h1 h2
  have hu : A.in1.units + 64 < cLine := by have := R.units; show A.units + 1 + 64 < _; omega
  match j, h1, h2 with
  | 0, _, _ => exact eqAt_Rd S r r' hd hu
  | 1, _, _ => exact eqAt_td S (p.at_ S) (p'.at_ S) hu
  | n + 2, h1, _ => exact absurd h1 (by simp)
theorem eq_shown {x y : Value} {d : PyData} {ps} {Q : Value → Shared → Prop} (S : Own c H B cs s) (R : Room A n) (hd : SeqAt.shaped d = true) (X : ShownAt c B x d ps) (Y : ShownAt c B y d ps) (h : Q (.bool true) s) :
    wpAny c.M A (compareOp .Eq x y) Q NE s := by
  obtain ⟨a, v, sp, rfl, ha, r, p⟩ := X.isTup S
  obtain ⟨a', v', sp', rfl, ha', r', p'⟩ := Y.isTup S
  exact SeqAt.eq_tupleAt (e := fun _ => true) ha ha' R.u0 (shown_items S R hd r r' p p') h
theorem ne_shown {x y : Value} {d : PyData} {ps} {Q : Value → Shared → Prop} (S : Own c H B cs s) (R : Room A n) (hd : SeqAt.shaped d = true) (X : ShownAt c B x d ps) (Y : ShownAt c B y d ps) (h : Q (.bool false) s) :
    wpAny c.M A (compareOp .NotEq x y) Q NE s := by
  obtain ⟨a, v, sp, rfl, ha, r, p⟩ := X.isTup S
  obtain ⟨a', v', sp', rfl, ha', r', p'⟩ := Y.isTup S
  exact SeqAt.RcNeAt.tuples (e := fun _ => true) ha ha' R.u0 (shown_items S R hd r r' p p') c.prog c.w NE Q h
end
noncomputable abbrev Cx.ik (c : Cx) : KeyKind c.prog c.w Int := intKind c.prog c.w
noncomputable abbrev IK := Int × Value
noncomputable def idP (c : Cx) (kvs : List IK) (o : Obj) : Prop := o.IsDictOf c.ik kvs
structure Plc (ks : List Int) (kvs : List IK) : Prop where
  keys : kvs.map (·.1) = ks
  vals : ∀ (i : Nat) k v, kvs[i]? = some (k, v) → ∃ t, v = .int i t
theorem Plc.nil : Plc [] [] := ⟨rfl, fun i k v h => by simp at h⟩
theorem Plc.len {ks kvs} (P : Plc ks kvs) : kvs.length = ks.length := by rw [← P.keys, List.length_map]
theorem Plc.none {ks kvs} (P : Plc ks kvs) {k : Int} (h : k ∉ ks) : valueAt kvs k = none := by
  unfold valueAt
  cases q : kvs.find? fun kv => kv.1 = k with
  | none => rfl
  | some p =>
    have h1 := List.find?_some q
    have h2 := List.mem_of_find?_eq_some q
    simp only [decide_eq_true_eq] at h1
    exact absurd (by rw [← P.keys]; exact List.mem_map.mpr ⟨p, h2, h1⟩) h
theorem Plc.snoc {ks kvs} (P : Plc ks kvs) {k : Int} {t : Tok} (h : k ∉ ks) : stored kvs k (.int ks.length t) = kvs ++ [(k, .int ks.length t)] ∧ Plc (ks ++ [k]) (kvs ++ [(k, .int ks.length t)]) := by
  refine ⟨stored_absent (P.none h) _, by rw [List.map_append, P.keys]; rfl, fun i k' v hi => ?_⟩
  rcases Nat.lt_or_ge i kvs.length with hlt | hge
  · rw [List.getElem?_append_left hlt] at hi
    exact P.vals i k' v hi
  · rw [List.getElem?_append_right hge] at hi
    cases e : i - kvs.length with
    | zero =>
      rw [e] at hi
      simp only [List.getElem?_cons_zero, Option.some.injEq, Prod.mk.injEq] at hi
      have : i = ks.length := by have := P.len; omega
      subst this
      exact ⟨t, hi.2.symm⟩
    | succ n => rw [e] at hi; simp at hi
theorem idxOf_find : ∀ (kvs : List IK) (g : Int), g ∈ kvs.map (·.1) → ∃ v, kvs[(kvs.map (·.1)).idxOf g]? = some (g, v) ∧ valueAt kvs g = some v
  | [], g, h => by simp at h
  | (k, v) :: kvs, g, h => by
    by_cases e : k = g
    · subst e
      refine ⟨v, by simp, ?_⟩
      unfold valueAt
      simp
    · have hm : g ∈ kvs.map (·.1) := by
        rcases List.mem_cons.mp h with rfl | h
        · exact absurd rfl e
        · exact h
      obtain ⟨v', h1, h2⟩ := idxOf_find kvs g hm
      refine ⟨v', ?_, ?_⟩
      · rw [List.map_cons, List.idxOf_cons, beq_eq_false_iff_ne.mpr e]; exact h1
      · unfold valueAt at h2 ⊢
        rw [List.find?_cons]
        simp only [decide_eq_false e]
        exact h2
theorem Plc.at_ {ks kvs} (P : Plc ks kvs) {g : Int} (h : g ∈ ks) : ∃ t, valueAt kvs g = some (.int (ks.idxOf g : Nat) t) := by
  obtain ⟨v, h1, h2⟩ := idxOf_find kvs g (by rw [P.keys]; exact h)
  obtain ⟨t, rfl⟩ := P.vals _ _ _ h1
  rw [P.keys] at h2
  exact ⟨t, h2⟩
section
variable {c : Cx} {H B : PM} {cs cs' : List Cell} {s : Shared} {A : Around} {n : Nat}
theorem idP_new {o : Obj} (h : o = { cls := .type "dict", data := .dict #[] }) : idP c [] o := by
  subst h; exact ⟨#[], _, ⟨rfl, rfl, rfl⟩, rfl, fun _ he => by simp at he, Pairs.nil, List.nodup_nil⟩
theorem id_heap {d : Addr} {o : Obj} {kvs} (ho : s.heap.get? d = some o) (hp : idP c kvs o) : s.heap.DictOf c.ik d kvs := Heap.dictOf_iff.mpr ⟨o, ho, hp⟩
theorem ii (i : Int) (t : Tok) : c.ik.is i (.int i t) = true := intKind_is _ _ _ _
theorem id_set {d : Addr} {kvs} {k : Int} {u : Tok} {v : Value} {Q : Unit → Shared → Prop} (S : Own c H B cs s) (U : Upd d (idP c kvs) (idP c (stored kvs k v)) cs cs') (hl : kvs.length ≤ 1000)
    (h : ∀ s', Own c H B cs' s' → Q () s') : wpAny c.M A (setItem (.ref d) (.int k u) v) Q NE s := by
  obtain ⟨o, ho, hp⟩ := S.cell U.mem
  exact wpAny_setItem_pairs (knd := c.ik) (ii k u) (id_heap ho hp) (fun h' hd' hs => h _ (S.upd U hs.extBut (Heap.dictOf_iff.mp hd'))) (by rw [sizeLine_eq]; omega)
theorem id_dset {d : Addr} {kvs} {k : Int} {u : Tok} {v : Value} {Q : Unit → Shared → Prop} (S : Own c H B cs s) (U : Upd d (idP c kvs) (idP c (stored kvs k v)) cs cs') (hl : kvs.length ≤ 1000)
    (h : ∀ s', Own c H B cs' s' → Q () s') : wpAny c.M A (dictSet d (.int k u) v) Q NE s := by
  obtain ⟨o, ho, hp⟩ := S.cell U.mem
  exact wpAny_dictSet_pairs (knd := c.ik) (ii k u) (id_heap ho hp) (fun h' hd' hs => h _ (S.upd U hs.extBut (Heap.dictOf_iff.mp hd'))) (by rw [sizeLine_eq]; omega)
theorem id_len {d : Addr} {kvs} {Q : Value → Shared → Prop} (G : Glb c) (S : Own c H B cs s) (hm : (d, idP c kvs) ∈ cs) (hl : kvs.length ≤ 1000)
    (h : ∀ t s', Own c H B cs s' → Q (.int kvs.length t) s') : wpAny c.M A (call (.builtin "len") [.ref d]) Q NE s := by
  obtain ⟨o, ho, hp⟩ := S.cell hm
  exact call_len_dict (knd := c.ik) (ne_sys G S (S.dC _ hm).2) (id_heap ho hp) (by omega) (h _ _ (S.tok _))
noncomputable def IdB (c : Cx) (B : PM) (x : Value) (ks : List Int) : Prop := ∃ d o kvs, x = .ref d ∧ B d = some o ∧ idP c kvs o ∧ Plc ks kvs
theorem IdB.mono {B B' : PM} {x ks} (h : Le B B') (I : IdB c B x ks) : IdB c B' x ks := by obtain ⟨d, o, kvs, e, b, p, q⟩ := I; exact ⟨d, o, kvs, e, h _ _ b, p, q⟩
theorem frz_id {d : Addr} {ks kvs} (S : Own c H B ((d, idP c kvs) :: cs) s) (P : Plc ks kvs) : ∃ B', Le B B' ∧ IdB c B' (.ref d) ks ∧ Own c H B' cs s := by
  obtain ⟨B', o, hle, hb, hp, hn, S'⟩ := S.freeze
  exact ⟨B', hle, ⟨d, o, kvs, rfl, hb, hp, P⟩, S'⟩
theorem id_get {x : Value} {ks : List Int} {g : Int} {t : Tok} {value slice : Expr} {Q : Value → Shared → Prop} (I : IdB c B x ks) (S : Own c H B cs s) (hg : g ∈ ks) (h : ∀ t s', Own c H B cs s' → Q (.int (ks.idxOf g : Nat) t) s')
    (he : ∀ l, subscripted slice false (.ref l) (.int g t) = operate [.ref l, .int g t] (getItem (.ref l) (.int g t)) := by intro _; with_unfolding_all rfl) : wpAny c.M A (subscriptTail value slice x (.int g t)) Q NE s := by
  obtain ⟨d, o, kvs, rfl, hb, hp, P⟩ := I
  obtain ⟨t', hv⟩ := P.at_ hg
  have hD := id_heap (S.hB _ _ hb) hp
  exact tail_any hD.typeIs slot_dict_getitem.lookup (wpAny_getItem_of (knd := c.ik) (ii g t) hD.mapOf hv (h _ _ (S.tok _))) (he d)
theorem look_id {x : Value} {ks : List Int} (I : IdB c B x ks) : Look c B x (fun g => (ks.idxOf g : Nat)) (fun g => g ∈ ks) := by
  intro A H B' cs s g t value slice Q hh hu hle S hP h he
  exact id_get (I.mono hle) S hP h he
theorem F.plain_dict_update_loop : plainId "dict.update.loop" = true := by decide +kernel
theorem F.entry_dict_update_loop : entryFor table "dict.update.loop" = some Builtin.«dict.update.loop» := entryFor_of_tree (by kernel_rfl)
theorem miss_keys : typeLookup (.type "list") (Str.ofString "keys") = pure none := am_miss_of_fast (by kernel_rfl)
theorem list_nokeys {a : Addr} {xs : Array Value} {k : Nat} {Q : Option Value → Shared → Prop} (S : Own c H B cs s) (hh : A.handled = none) (hx : s.heap.get? a = some { cls := .type "list", data := .seq xs k })
    (h : ∀ s', Own c H B cs s' → Q none s') : wpAny c.M A (getAttr? (.ref a) (Str.ofString "keys")) Q NE s := by
  have h₀ : ∀ h' tk e, Heap.NewExcOf s.heap h' e "AttributeError" → Q none { s with heap := h', toks := tk } := fun h' tk e x => h _ (S.keeps (t := tk) x.keeps)
  clear h
  obtain ⟨hp, g, d, tk, os⟩ := s
  have hT : ∀ tk', (⟨hp, g, d, tk', os⟩ : Shared).TypeIs (.ref a) "list" := fun _ => ⟨_, hx, rfl⟩
  have f1 := sub_AttributeError
  have f3 := PySem.F.slot_list_getattribute.lookup
  have f4 := PySem.F.slot_list_getattribute.bind (.ref a)
  have f5 := am_list_getattr_none
  unfold getAttr? getAttrBy? getAttrBy
  repeat (any_goals (first | assumption | exact hT _ | ((with_reducible show wpAny _ _ (call (Value.builtin "list.__getattribute__") _ _) _ _ _); refine call_meets PySem.F.slot_list_getattribute (hT _) am_entry_list_getattribute (PySem.F.args_list_getattribute_2 _ _) (meets_getattribute_miss_list a xs k #[] _ _ miss_keys (by decide +kernel) (by size_fits)) ⟨hx, hh, fun h' tk' e hx' => ?_⟩) | wp_step))
  obtain ⟨t', u', he⟩ := hx'.there
  show wpAny _ _ (getattributeRaised _ _ _ _ _ _ _) _ _ _
  unfold getattributeRaised
  repeat (any_goals (first | assumption | wp_step))
  exact h₀ _ _ _ hx'.of
noncomputable def prD (p : Int × Nat) : PyData := .tuple [.int p.1, .int (p.2 : Nat)]
noncomputable def prs (ks : List Int) : List PyData := ks.zipIdx.map prD
theorem prs_get {ks : List Int} {i : Nat} {k : Int} (h : ks[i]? = some k) : (prs ks)[i]? = some (.tuple [.int k, .int i]) := by
  unfold prs
  rw [List.getElem?_map, List.getElem?_zipIdx, h]
  simp [prD]
theorem pairs_loop {it l d : Addr} {o : Obj} {vs : List Value} {ks : List Int} {res : Value} {R : Result → Shared → Prop} (hh : A.handled = none) (hnd : ks.Nodup) (hlen : ks.length ≤ 1000) (hb : B l = some o) (hl : listP vs o) (hr : RdAll B vs (prs ks)) :
    ∀ (m i : Nat) (kvs : List IK) (s : Shared), ks.length - i = m → i ≤ ks.length → Plc (ks.take i) kvs → Own c H B ((it, liP l i) :: (d, idP c kvs) :: cs) s →
      (∀ kvs s', Plc ks kvs → Own c H B ((d, idP c kvs) :: cs) s' → R (.ok (.ret res)) s') →
      codeAny c.M A (.builtin "dict.update.loop" ⟨[.ref d, .ref it, rawInt i, res], []⟩) R s := by
  have hlv : vs.length = ks.length := by rw [hr.length]; simp [prs]
  intro m
  induction m with
  | zero =>
    intro i kvs s hm hi P S h
    have e : i = ks.length := by omega
    subst e
    refine codeAny_builtin F.entry_dict_update_loop ?_
    rw [Around.under_plainId F.plain_dict_update_loop _]
    show wpAny _ A.in1 (pyNext (.ref it) >>= _) _ _ s
    obtain ⟨oi, hoi, hc, hd⟩ := S.cell (List.mem_cons_self ..)
    refine wpAny_bind (wpAny_pyNext_list_end (by exact hh) ⟨oi, hoi, hc, hd⟩ (isList_B S hb hl) (by rw [List.getElem?_toArray]; exact List.getElem?_eq_none (by omega)) fun h' hs => ?_)
    have S₂ := S.gone (t := s.toks) hs
    show wpAny _ _ (Builtin.Dict.addKeywords d [] >>= _) _ _ _
    refine wpAny_bind (wpAny_pure (wpAny_pure ?_))
    rw [List.take_of_length_le (Nat.le_refl _)] at P
    exact h _ _ P S₂
  | succ m ih =>
    intro i kvs s hm hi P S h
    have hlt : i < ks.length := by omega
    refine codeAny_builtin F.entry_dict_update_loop ?_
    rw [Around.under_plainId F.plain_dict_update_loop _]
    show wpAny _ A.in1 (pyNext (.ref it) >>= _) _ _ s
    obtain ⟨oi, hoi, hc, hd⟩ := S.cell (List.mem_cons_self ..)
    obtain ⟨k, hk⟩ : ∃ k, ks[i]? = some k := ⟨ks[i], by simp [hlt]⟩
    obtain ⟨x, hx, rx⟩ := hr.get _ _ (prs_get hk)
    refine wpAny_bind (wpAny_pyNext_list_item ⟨oi, hoi, hc, hd⟩ (isList_B S hb hl) (by rw [List.getElem?_toArray]; exact hx) fun h' hit hs => ?_)
    have S₂ : Own c H B ((it, liP l (i + 1)) :: (d, idP c kvs) :: cs) _ := S.upd (t := s.toks) .head hs.extBut hit
    obtain ⟨a, oa, us, rfl, hba, hla, hra⟩ := rx.tuple_inv
    obtain ⟨v1, r1, rfl, h1, h2⟩ := hra.cons_inv
    obtain ⟨v2, r2, rfl, h3, h4⟩ := h2.cons_inv
    obtain rfl := h4.nil_inv
    obtain ⟨t1, rfl⟩ := h1.int_inv
    obtain ⟨t2, rfl⟩ := h3.int_inv
    obtain ⟨na, rfl⟩ := hla
    have hoa := S₂.hB _ _ hba
    show wpAny _ _ (holding [Value.ref a] _ >>= _) _ _ _
    refine wpAny_bind (wpAny_holding (wpAny_bind (wpAny_tryCatch ?_)))
    unfold Builtin.Dict.pairItems
    refine wpAny_bind (wpAny_typeOf (T := "tuple") ⟨_, hoa, rfl⟩ ?_)
    rw [if_pos (by decide)]
    refine wpAny_bind (wpAny_seqItems hoa rfl (wpAny_pure ?_))
    show wpAny _ _ (holding [Value.int k t1, Value.int i t2] (dictSet d (.int k t1) (.int i t2))) _ _ _
    have hnk : k ∉ ks.take i := fun hm => by
      obtain ⟨j, hj, ej⟩ := List.mem_iff_getElem.mp hm
      rw [List.length_take] at hj
      rw [List.getElem_take] at ej
      have hk' : ks[i] = k := by rw [List.getElem?_eq_getElem hlt] at hk; exact Option.some.inj hk
      have := (List.getElem_inj hnd).mp (ej.trans hk'.symm)
      omega
    obtain ⟨e1, P₂⟩ := P.snoc (t := t2) hnk
    have hti : (ks.take i).length = i := by rw [List.length_take]; omega
    rw [hti] at e1 P₂
    have hkl := P.len
    rw [hti] at hkl
    refine wpAny_holding (neE (id_dset (kvs := kvs) (cs' := (it, liP l (i + 1)) :: (d, idP c (stored kvs k (.int i t2))) :: cs) S₂ (.tail .head) (by omega) fun s' S₃ => ?_))
    rw [e1] at S₃
    refine wpAny_pure ⟨plainId_quiet F.plain_dict_update_loop _, ?_⟩
    show codeAny _ _ (.builtin "dict.update.loop" ⟨[.ref d, .ref it, rawInt ((i + 1 : Nat) : Int), res], []⟩) _ _
    refine ih (i + 1) _ _ (by omega) (by omega) ?_ S₃ h
    rw [List.take_add_one, hk]
    exact P₂
end
section
variable {c : Cx} {H B : PM} {cs cs' : List Cell} {s : Shared} {A : Around} {n : Nat}
theorem id_of {x : Value} {ks : List Int} {Q : Value → Shared → Prop} (S : Own c H B cs s) (hh : A.handled = none) (r : Rd B x (.list (prs ks))) (hnd : ks.Nodup) (hlen : ks.length ≤ 1000)
    (h : ∀ d kvs s', Plc ks kvs → B d = none → Own c H B ((d, idP c kvs) :: cs) s' → Q (.ref d) s') : wpAny c.M A (call (.type "dict") [x]) Q NE s := by
  obtain ⟨l, o, vs, rfl, hb, hl, hr⟩ := r.list_inv
  refine callType_codes (Q₁ := fun obj s₁ => obj = .ref s.heap.objs.size ∧ s₁ = { s with heap := s.heap.push { cls := .type "dict", data := .dict #[] } }) F.kt_called_dict (F.kt_typeCall_dict_1 _) F.entry_dict_init (kt_code_dict_new _ ⟨rfl, rfl⟩) ?_
  rintro obj s₁ ⟨rfl, rfl⟩
  have S₁ := S.push (t := s.toks) (P := idP c []) (o := { cls := .type "dict", data := .dict #[] }) (idP_new rfl) rfl
  have hB := S.newB
  generalize hN : s.heap.objs.size = N at S₁ hB
  have hnew : (s.heap.push { cls := .type "dict", data := .dict #[] }).get? N = some { cls := .type "dict", data := .dict #[] } := by rw [← hN]; exact Heap.get?_push_size _ rfl
  have hTn : Shared.TypeIs { s with heap := s.heap.push { cls := .type "dict", data := .dict #[] } } (.ref N) "dict" := ⟨_, hnew, rfl⟩
  refine ⟨hTn, F.args_dict_init_2 _ _, ?_⟩
  unfold Builtin.«dict.__init__»
  refine wpAny_bind ?_
  unfold Builtin.Dict.selfAndRest
  refine wpAny_bind (wpAny_notOrdered_dict hTn ?_)
  show wpAny _ _ (pure (N, [Value.ref l])) _ _ _
  refine wpAny_pure ?_
  show wpAny _ _ (Builtin.Dict.updateFrom "dict.__init__" N (.ref l) [] .none) _ _ _
  obtain ⟨nl, rfl⟩ := id hl
  have hx := S₁.hB _ _ hb
  unfold Builtin.Dict.updateFrom
  refine wpAny_bind (wpAny_typeOf (T := "list") ⟨_, hx, rfl⟩ ?_)
  rw [if_pos (by decide)]
  refine wpAny_bind (neE (list_nokeys S₁ (by exact hh) hx fun s₂ S₂ => ?_))
  rw [if_pos (by rfl)]
  refine wpAny_bind (wpAny_rule ?_)
  refine wpAny_bind (wpAny_pyIter_list (isList_B S₂ hb hl) ?_)
  have S₃ : Own c H B ((s₂.heap.objs.size, liP l 0) :: (N, idP c []) :: cs) _ := S₂.push (t := s₂.toks) (o := { cls := .type "list_iterator", data := .fields #[.ref l, .int 0 0] }) ⟨rfl, rfl⟩ rfl
  refine wpAny_pure ⟨plainId_quiet F.plain_dict_update_loop _, ?_⟩
  refine pairs_loop (A := A.in1) (res := .none) (by exact hh) hnd hlen hb hl hr ks.length 0 [] _ (by omega) (Nat.zero_le _) (by rw [List.take_zero]; exact Plc.nil) S₃ fun kvs s' P S' => ?_
  exact ⟨rfl, h N kvs s' P hB S'⟩
end
noncomputable def tabP (ps : Array Value) (o : Obj) : Prop := o = tabObj ps
noncomputable def RecB (B : PM) (cv : Value) (q : Str) : Prop := ∃ a o vs t, cv = .ref a ∧ B a = some o ∧ o.data = .fields vs ∧ vs[1]? = some (.str q t)
theorem RecB.mono {B B' : PM} {cv : Value} {q : Str} (h : Le B B') (x : RecB B cv q) : RecB B' cv q := by obtain ⟨a, o, vs, t, e, g, r⟩ := x; exact ⟨a, o, vs, t, e, h _ _ g, r⟩
structure TabOk (B : PM) (q : Str) (ps : Array Value) : Prop where
  tr : TriplesOk ps.toList
  rec_ : ∀ pos cv, codeAmong pos ps.toList = some cv → RecB B cv q
theorem TabOk.nil {B : PM} {q : Str} : TabOk B q #[] := ⟨trivial, fun pos cv h => by cases h⟩
theorem TabOk.mono {B B' : PM} {q : Str} {ps : Array Value} (h : Le B B') (x : TabOk B q ps) : TabOk B' q ps := ⟨x.tr, fun pos cv e => (x.rec_ pos cv e).mono h⟩
theorem triples_snoc {pos : Pos} {cv : Value} : ∀ (l : List Value), TriplesOk l → TriplesOk (l ++ [rawInt pos.line, rawInt pos.col, cv])
  | [], _ => trivial
  | .int _ _ :: .int _ _ :: _ :: rest, h => triples_snoc (pos := pos) (cv := cv) rest h
theorem among_snoc {pos pos' : Pos} {cv x : Value} : ∀ (l : List Value), TriplesOk l → codeAmong pos' (l ++ [rawInt pos.line, rawInt pos.col, cv]) = some x → codeAmong pos' l = some x ∨ x = cv
  | [], _, h => by
    right
    simp only [List.nil_append, rawInt, codeAmong] at h
    split at h
    · cases h; rfl
    · cases h
  | .int a ta :: .int b tb :: d :: rest, ht, h => by
    simp only [List.cons_append, codeAmong] at h ⊢
    split at h
    · rename_i q
      left
      rw [if_pos q]; exact h
    · rename_i q
      rw [if_neg q]
      exact among_snoc rest ht h
theorem TabOk.snoc {B : PM} {q : Str} {ps : Array Value} {pos : Pos} {cv : Value} (x : TabOk B q ps) (r : RecB B cv q) : TabOk B q (ps ++ #[rawInt pos.line, rawInt pos.col, cv]) := by
  have e : (ps ++ #[rawInt pos.line, rawInt pos.col, cv]).toList = ps.toList ++ [rawInt pos.line, rawInt pos.col, cv] := by simp
  refine ⟨by rw [e]; exact triples_snoc _ x.tr, fun pos' cv' h => ?_⟩
  rw [e] at h
  rcases among_snoc _ x.tr h with h | rfl
  · exact x.rec_ _ _ h
  · exact r
section
variable {c : Cx} {H B : PM} {cs cs' : List Cell} {s : Shared} {A : Around} {n : Nat} {env : Env}
theorem Own.claim {a b : Addr} {P P' P₂ : Obj → Prop} {h' : Heap} {t : Nat} (S : Own c H B ((a, P) :: cs) s) (hs : Heap.ExtBut a s.heap h') (hp : ∃ o, h'.get? a = some o ∧ P' o)
    (hn : s.heap.get? b = none) (hb : ∃ o, h'.get? b = some o ∧ P₂ o) : Own c H B ((b, P₂) :: (a, P') :: cs) { s with heap := h', toks := t } := by
  have S' := S.upd (t := t) .head hs hp
  have hB : B b = none := by
    cases e : B b with
    | none => rfl
    | some o => have := S.hB _ _ e; rw [show HP s.heap b = s.heap.get? b from rfl, hn] at this; cases this
  have hH : H b = none := by
    cases e : H b with
    | none => rfl
    | some o => have := S.hH _ _ e; rw [show HP s.heap b = s.heap.get? b from rfl, hn] at this; cases this
  refine ⟨S'.sh, S'.base, S'.hH, S'.hB, ?_, S'.dHB, ?_, ?_⟩
  · intro p hp
    rcases List.mem_cons.mp hp with rfl | hp
    · exact hb
    · exact S'.hC p hp
  · intro p hp
    rcases List.mem_cons.mp hp with rfl | hp
    · exact ⟨hH, hB⟩
    · exact S'.dC p hp
  · show (b :: ((a, P') :: cs).map (·.1)).Nodup
    rw [List.nodup_cons]
    refine ⟨fun hm => ?_, S'.nd⟩
    have hm' : b ∈ ((a, P) :: cs).map (·.1) := hm
    obtain ⟨q, hq, e⟩ := List.mem_map.mp hm'
    obtain ⟨o, ho, _⟩ := S.hC q hq
    rw [e, hn] at ho; cases ho
theorem none_ge {b : Addr} (h : s.heap.objs.size ≤ b) : s.heap.get? b = none := Heap.get?_none_of_le h
noncomputable def LamB (c : Cx) (B : PM) (f : Addr) (qual : Str) (params : Arguments) (body : Expr) (scope : Scope) (cl : List (Str × Addr)) : Prop :=
  ∃ pm c' ctv, B f = some (kla_obj "<lambda>" qual params body scope cl pm c' ctv) ∧ RecB B (.ref c') qual
theorem LamB.mono {B B' : PM} {f : Addr} {qual params body scope cl} (h : Le B B') (x : LamB c B f qual params body scope cl) : LamB c B' f qual params body scope cl :=
  by obtain ⟨pm, c', ctv, e, r⟩ := x; exact ⟨pm, c', ctv, h _ _ e, r.mono h⟩
theorem lam_ {params : Arguments} {body : Expr} {scope : Scope} {pos : Pos} {P cc : Addr} {ps : Array Value} {cl : List (Str × Addr)} {Q : Value → Shared → Prop} (G : Glb c) (hb : c.g.BuiltinsAt c.mg P) (C : CodeHd c.g cc P) (S : Own c H B ((P, tabP ps) :: cs) s) (T : TabOk B (env.qual ++ "<lambda>") ps)
    (hdef : defaultsOf params env = ([], [])) (hcl : closureFor scope env = pure cl) (hge : env.globals = mainGlobals) (hcode : env.code = .ref cc)
    (h : ∀ f ps' B' s', LamB c B' f (env.qual ++ "<lambda>") params body scope cl → TabOk B' (env.qual ++ "<lambda>") ps' → Le B B' → Own c H B' ((P, tabP ps') :: cs) s' → Q (.ref f) s') :
    wpAny c.M A (eval (.Lambda params body scope pos) env) Q NE s := by
  refine kla_eval hdef ?_
  have hgP : mainGlobals ≠ P := fun e => by
    subst e
    obtain ⟨o, _, _, ho, _⟩ := G.g
    have h1 := S.base _ _ ho
    have h2 := (S.dC _ (List.mem_cons_self ..)).2
    rw [h1] at h2; cases h2
  obtain ⟨oP, hP, hPo⟩ := S.cell (List.mem_cons_self ..)
  unfold tabP at hPo
  subst hPo
  have hg := G.g.keeps S.keepG
  obtain ⟨bm, ob, b1, b2, b3, b4, b5, b6⟩ := hb
  have hb' : s.heap.BuiltinsAt c.mg P := ⟨bm, ob, b1, b2, b3, b4, S.keepG _ _ b5, b6⟩
  cases hf : codeAmong pos ps.toList with
  | some cv =>
    obtain ⟨c', oc, vs, t, rfl, g1, g2, g3⟩ := T.rec_ _ _ hf
    refine kla_makeFunctionHit (mg := c.mg) hcl hge hg hcode (C.keeps S.keepG) hP T.tr hf hb' fun ctv h' tk hk hsz => ?_
    have S₁ := S.keeps (h' := h') (t := tk) hk
    have S₂ := S₁.push (t := tk) (P := fun o => o = kla_obj "<lambda>" (env.qual ++ "<lambda>") params body scope cl ((c.mg "__name__").getD .none) c' ctv) (o := kla_obj "<lambda>" (env.qual ++ "<lambda>") params body scope cl ((c.mg "__name__").getD .none) c' ctv) rfl rfl
    obtain ⟨B', o, hle, hbf, rfl, _, S₃⟩ := S₂.freeze
    exact h _ ps B' _ ⟨_, _, _, hbf, ⟨_, _, _, _, rfl, hle _ _ g1, g2, g3⟩⟩ (T.mono hle) hle S₃
  | none =>
    refine kla_makeFunction (mg := c.mg) hcl hge hg hcode (C.keeps S.keepG) hP T.tr hf hgP hb' fun c' ctv h' tk hx hgc hlt hrec htb => ?_
    obtain ⟨c₂, oc, vs, t, e2, hoc, hd, hv⟩ := hrec
    cases e2
    have S₁ := S.claim (t := tk) (P' := tabP (ps ++ #[rawInt pos.line, rawInt pos.col, .ref c'])) (P₂ := fun o => o = oc) hx ⟨_, htb, rfl⟩ (none_ge hgc) ⟨_, hoc, rfl⟩
    obtain ⟨B₁, o₁, hle₁, hb₁, rfl, _, S₂⟩ := S₁.freeze
    have S₃ := S₂.push (t := tk) (P := fun o => o = kla_obj "<lambda>" (env.qual ++ "<lambda>") params body scope cl ((c.mg "__name__").getD .none) c' ctv) (o := kla_obj "<lambda>" (env.qual ++ "<lambda>") params body scope cl ((c.mg "__name__").getD .none) c' ctv) rfl rfl
    obtain ⟨B', o, hle, hbf, rfl, _, S₄⟩ := S₃.freeze
    have r : RecB B' (.ref c') (env.qual ++ "<lambda>") := ⟨_, _, _, _, rfl, hle _ _ hb₁, hd, hv⟩
    exact h _ _ B' _ ⟨_, _, _, hbf, r⟩ ((T.mono (hle₁.trans hle)).snoc r) (hle₁.trans hle) S₄
theorem lam_call {f : Addr} {qual : Str} {params : Arguments} {body : Expr} {scope : Scope} {cl : List (Str × Addr)} {args : List Value} {binds : List (Str × Value)} {Q : Value → Shared → Prop} (G : Glb c) (R : Room A (n + 1)) (F : LamB c B f qual params body scope cl) (S : Own c H B cs s)
    (hbind : ∀ pm cdv ctv, bindArgs (kla_fn "<lambda>" qual params body scope cl pm cdv ctv) ⟨args, []⟩ = pure binds) (hloc : ∀ y ∈ binds, scope.names.lookup y.1 = some .local)
    (h : ∀ A' L cd s', Room A' n → Own c H B ((L, frameP binds.reverse) :: cs) s' → wpAny c.M A' (eval body (fEnv scope qual L f cd cl)) Q NE s')
    (hco : scope.isCoroutine = false := by rfl) (hgen : scope.isGenerator = false := by rfl) (hk : scope.kind = .function := by rfl)
    (hcell : ∀ x ∈ scope.names, x.2 ≠ .cell := by decide) : wpAny c.M A (call (.ref f) args) Q NE s := by
  obtain ⟨pm, c', ctv, hf, c₂, oc, vs, t, e2, hoc, hd, hv⟩ := F
  cases e2
  refine wpAny_call (kla_callFunE R.d (S.hB _ _ hf) rfl hco hgen rfl ⟨_, _, _, _, rfl, S.hB _ _ hoc, hd, hv⟩ ?_)
  rw [hbind]
  refine wpAny_pure (wpAny_newFunctionEnv hcell hloc (fun h₁ hns hsb => ⟨(G.nolimit.keeps S.keepG).fresh _ hsb, ?_⟩) hk)
  have hk₁ : ∀ b o, s.heap.get? b = some o → h₁.get? b = some o := fun b o e => hsb.extBut b o (Nat.ne_of_lt (Heap.lt_size e)) (Heap.get?_push_of_some _ e)
  show codeAny _ _ (.expr body (fEnv scope qual s.heap.objs.size f (.ref c') cl)) _ _
  exact kla_codeExpr (wpAny_mono (h _ s.heap.objs.size (.ref c') _ (R.deeper _) (S.add (t := s.toks + binds.length) hk₁ (none_ge (Nat.le_refl _)) (reverse_lookup_frame hns))) (fun v s' q => q) (fun _ _ q => q.elim))
end
section
variable {c : Cx} {H B : PM} {cs : List Cell} {s : Shared} {A : Around} {n : Nat} {fa : Addr} {name qual : Str} {st : Stmt} {dV : Value} {args : List Value} {binds : List (Str × Value)} {Q : Value → Shared → Prop} {cdv : Value}
theorem enterD (R : Room A (n + 1)) (G : Glb c) (F : FnC c fa name qual st dV cdv) (S : Own c H B cs s) {lb : List (Str × Value)} {names : List (Str × NameKind)} {more : List (Str × Const)} {b : Stmt} {bs : List Stmt}
    (hsc : stScope st = ⟨.function, names, false, false, more⟩) (hb : stBody st = b :: bs)
    (hbind : ∀ kV doc pm an cdv ct, bindArgs (fnM name qual st [] dV kV doc pm an cdv ct) ⟨args, []⟩ = pure binds)
    (hkind : (binds.all fun y => names.lookup y.1 == some .local || names.lookup y.1 == some .cell) = true)
    (hnd : ((cellsFrom 0 names []).map (·.1)).Nodup)
    (hlb : ∀ p ∈ lb, bindL (fun x => names.lookup x) binds (fun _ => none) p.1 = some p.2)
    (h : ∀ A' L s', Room A' n → Own c H B ((L, frameP lb) :: (cellsOf (bindC (fun x => names.lookup x) binds fun _ => none) (cellsFrom (L + 1) names []) ++ cs)) s' →
      wpAny c.M A' (execs (b :: bs) (fEnv ⟨.function, names, false, false, more⟩ qual L fa cdv (cellsFrom (L + 1) names []))) (fun f s'' => Q (retv f) s'') NE s') :
    wpAny c.M A (call (.ref fa) args) Q NE s := by
  refine enterD0 (lb := lb) R G F S hbind ?_ ?_ ?_ (by rw [hsc]) (by rw [hsc]) (by rw [hsc]) ?_
  · intro L x hx
    rw [hsc]
    exact kindsX (scope := ⟨.function, names, false, false, more⟩) hkind _ x hx
  · intro L
    rw [hsc]
    exact cellsFrom_names names 0 (L + 1) [] [] rfl ▸ hnd
  · rw [hsc]; exact hlb
  · rw [hsc, hb]; exact h
end
section
variable {c : Cx} {H B : PM} {cs : List Cell} {s : Shared} {A : Around}
set_option maxHeartbeats 4000000 in
theorem led_spec {fa : Addr} {x nv : Value} {e : End} {f : Int → Int} {P : Int → Prop} {Q : Value → Shared → Prop} (W : World c) (R : Room A 1) (F : FnAt c fa (Str.ofString "_law_led") (Str.ofString "_law_led") (stAt 20) .none) (S : Own c H B cs s)
    (r : Rd B x e.d) (hsm : e.small) (hL : Look c B nv f P) (hP : ∀ g, some g ∈ e.told → P g) (h : ∀ v B' s', Rd B' v (e.map f).d → Own c H B' cs s' → Le B B' → Q v s') :
    wpAny c.M A (call (.ref fa) [x, nv]) Q NE s := by
  refine enterC (binds := [(Str.ofString "end", x), (Str.ofString "numbers", nv)]) (lb := [(Str.ofString "end", x)]) R W.glb F S rfl rfl (fun _ _ _ _ _ _ => rfl) rfl (by decide) (fun p hp => by rw [List.mem_singleton.mp hp]; rfl) ?_
  intro A' L cd s' R' S'
  replace S' : Own c H B ((L, frameP [(Str.ofString "end", x)]) :: (L + 1, varP (some nv)) :: cs) s' := S'
  refine runs_of ?_
  cases e with
  | goto g =>
    unfold End.d at r
    repeat (row_room_at m)
    row_room_at listR
    repeat (row_room_at m)
    row_room_at inT
    repeat (row_room_at m)
    row_room_at look
    · exact hP g (by simp [End.told])
    intro tg s₉ S₉
    repeat (row_room_at m)
    rename_i rr T
    exact h _ _ _ (by assumption) T.drop.drop (by row_room_at m_le)
  | drop g =>
    unfold End.d at r
    repeat (row_room_at m)
    row_room_at listR
    repeat (row_room_at m)
    row_room_at inT
    repeat (row_room_at m)
    row_room_at look
    · exact hP g (by simp [End.told])
    intro tg s₉ S₉
    repeat (row_room_at m)
    rename_i rr T
    exact h _ _ _ (by assumption) T.drop.drop (by row_room_at m_le)
  | call1 g =>
    unfold End.d at r
    repeat (row_room_at m)
    row_room_at listR
    repeat (row_room_at m)
    row_room_at inF
    repeat (row_room_at m)
    row_room_at listR
    repeat (row_room_at m)
    row_room_at inT
    repeat (row_room_at m)
    row_room_at ifx
    repeat (row_room_at m)
    refine ite_f rfl ?_
    repeat (row_room_at m)
    row_room_at look
    · exact hP g (by simp [End.told])
    intro tg s₉ S₉
    repeat (row_room_at m)
    rename_i rr T
    exact h _ _ _ (by assumption) T.drop.drop (by row_room_at m_le)
  | asrt g =>
    unfold End.d at r
    repeat (row_room_at m)
    row_room_at listR
    repeat (row_room_at m)
    row_room_at inF
    repeat (row_room_at m)
    row_room_at listR
    repeat (row_room_at m)
    row_room_at inT
    repeat (row_room_at m)
    row_room_at ifx
    repeat (row_room_at m)
    refine ite_f rfl ?_
    repeat (row_room_at m)
    row_room_at look
    · exact hP g (by simp [End.told])
    intro tg s₉ S₉
    repeat (row_room_at m)
    rename_i rr T
    exact h _ _ _ (by assumption) T.drop.drop (by row_room_at m_le)
  | call0 =>
    unfold End.d at r
    repeat (row_room_at m)
    row_room_at listR
    repeat (row_room_at m)
    row_room_at inF
    repeat (row_room_at m)
    row_room_at listR
    repeat (row_room_at m)
    row_room_at inT
    repeat (row_room_at m)
    row_room_at ifx
    repeat (row_room_at m)
    refine ite_t rfl ?_
    repeat (row_room_at m)
    rename_i rr T
    exact h _ _ _ (by assumption) T.drop.drop (by row_room_at m_le)
  | ret =>
    unfold End.d at r
    repeat (row_room_at m)
    row_room_at listR
    repeat (row_room_at m)
    row_room_at inF
    repeat (row_room_at m)
    row_room_at listR
    repeat (row_room_at m)
    row_room_at inF
    repeat (row_room_at m)
    rename_i T
    exact h _ _ _ (Rd.mono (by row_room_at m_le) r) T.drop.drop (by row_room_at m_le)
  | panic =>
    unfold End.d at r
    repeat (row_room_at m)
    row_room_at listR
    repeat (row_room_at m)
    row_room_at inF
    repeat (row_room_at m)
    row_room_at listR
    repeat (row_room_at m)
    row_room_at inF
    repeat (row_room_at m)
    rename_i T
    exact h _ _ _ (Rd.mono (by row_room_at m_le) r) T.drop.drop (by row_room_at m_le)
  | unreach =>
    unfold End.d at r
    repeat (row_room_at m)
    row_room_at listR
    repeat (row_room_at m)
    row_room_at inF
    repeat (row_room_at m)
    row_room_at listR
    repeat (row_room_at m)
    row_room_at inF
    repeat (row_room_at m)
    rename_i T
    exact h _ _ _ (Rd.mono (by row_room_at m_le) r) T.drop.drop (by row_room_at m_le)
  | switch rows rest =>
    have hrows := hsm rows rest rfl
    have hz : (rows.map rowD).length ≤ sizeLine := by rw [List.length_map, sizeLine_eq]; omega
    unfold End.d at r
    repeat (row_room_at m)
    row_room_at listR
    repeat (row_room_at m)
    row_room_at inF
    repeat (row_room_at m)
    refine it_tuple (by assumption) R'.hd (by row_room_at m_rd) fun it I s₉ Wk S₉ => ?_
    refine comp_map Wk S₉ (Le.refl _) (fun d => match d with | .tuple [k, .int g] => .tuple [k, .int (f g)] | _ => .none) ?_ ?_ (by assumption)
    · intro d v H' B' s' C hd rv S hle
      obtain ⟨p, hp', rfl⟩ := List.mem_map.mp hd
      unfold rowD at rv
      repeat (row_room_at m)
      row_room_at look
      · exact hP p.2 (List.mem_append_left _ (List.mem_map.mpr ⟨p, hp', rfl⟩))
      intro tg s₈ S₈
      repeat (row_room_at m)
      exact ⟨_, _, by assumption, by row_room_at m_le, by assumption⟩
    · intro D ys B' s' hD hr S hle
      have e : ((rows.map rowD).map fun d => match d with | .tuple [k, .int g] => .tuple [k, .int (f g)] | _ => .none) = (rows.map fun p => (p.1, f p.2)).map rowD := by
        simp [rowD, Function.comp_def]
      rw [e] at hr
      have hz' : ((rows.map fun p => (p.1, f p.2)).map rowD).length ≤ sizeLine := by rw [List.length_map, List.length_map, sizeLine_eq]; omega
      repeat (row_room_at m)
      cases rest with
      | none =>
        unfold optD at r
        row_room_at ifx
        repeat (row_room_at m)
        refine ite_t rfl ?_
        repeat (row_room_at m)
        rename_i rr T
        exact h _ _ _ (by assumption) T.drop.drop.drop (by row_room_at m_le)
      | some g =>
        unfold optD at r
        row_room_at ifx
        repeat (row_room_at m)
        refine ite_f rfl ?_
        repeat (row_room_at m)
        row_room_at look
        · exact hP g (List.mem_append_right _ (List.mem_singleton.mpr rfl))
        intro tg s₈ S₈
        repeat (row_room_at m)
        rename_i rr T
        exact h _ _ _ (by assumption) T.drop.drop.drop (by row_room_at m_le)
end
structure Turns (c : Cx) (B₀ : PM) (fv : Value) (f : Int → Int) (P : Int → Prop) : Prop where
  fn : ∃ fa o fd, fv = .ref fa ∧ B₀ fa = some o ∧ o.data = .func fd
  call : ∀ (A : Around) (H B : PM) (cs : List Cell) (s : Shared) (g : Int) (t : Tok) (Q : Value → Shared → Prop), Room A 1 → Le B₀ B → Own c H B cs s → P g → (∀ t s', Own c H B cs s' → Q (.int (f g) t) s') →
    wpAny c.M A (call fv [.int g t]) Q NE s
section
variable {c : Cx} {H B : PM} {cs : List Cell} {s : Shared} {A : Around} {env : Env}
theorem cw_turn {B₀ : PM} {fv : Value} {f : Int → Int} {P : Int → Prop} {pos : Pos} {e : Expr} {Q : Value → Shared → Prop} (T : Turns c B₀ fv f P) (R : Room A 1)
    (h : wpAny c.M A (eval e env) (fun v s₁ => ∃ g t H B cs, v = .int g t ∧ Own c H B cs s₁ ∧ Le B₀ B ∧ P g ∧ ∀ t s', Own c H B cs s' → Q (.int (f g) t) s') NE s)
    (he : starEach [e] env = (false, eval e env) :: starEach [] env := by rfl) : wpAny c.M A (callWith pos fv [] (backTo pos (starEach [e] env)) []) Q NE s := by
  obtain ⟨fa, o, fd, rfl, ho, hd⟩ := T.fn
  rw [he]
  refine callWith_function (o := o) (fd := fd) (evalArgs_plain (spliced_cons (wpAny_mono h (fun v s₁ q => spliced_nil ?_) fun _ _ q => q)))
  obtain ⟨g, t, H, B, cs, rfl, S, hle, hp, hq⟩ := q
  exact ⟨⟨S.hB _ _ (hle _ _ ho), hd⟩, T.call A H B cs s₁ g t Q R hle S hp hq⟩
local macro_rules | `(tactic| row_room_at turn) => `(tactic| (refine cw_turn (by assumption) (Room.le (by assumption) (by decide)) ?_))
local macro_rules | `(tactic| row_room_at turned) => `(tactic| (refine ⟨_, _, _, _, _, rfl, by assumption, by row_room_at m_le, ?_, ?_⟩))
set_option maxHeartbeats 8000000 in
theorem retarg_spec {fa : Addr} {x fv : Value} {e : End} {f : Int → Int} {P : Int → Prop} {Q : Value → Shared → Prop} (W : World c) (R : Room A 2) (F : FnAt c fa (Str.ofString "retargeted") (Str.ofString "retargeted") (stAt 7) .none) (S : Own c H B cs s)
    (r : Rd B x e.d) (hsm : e.small) (hT : Turns c B fv f P) (hP : ∀ g, some g ∈ e.told → P g) (h : ∀ v B' s', Rd B' v (e.map f).d → Own c H B' cs s' → Le B B' → Q v s') :
    wpAny c.M A (call (.ref fa) [x, fv]) Q NE s := by
  refine enterC (binds := [(Str.ofString "terminator", x), (Str.ofString "turned", fv)]) (lb := [(Str.ofString "terminator", x)]) R W.glb F S rfl rfl (fun _ _ _ _ _ _ => rfl) rfl (by decide) (fun p hp => by rw [List.mem_singleton.mp hp]; rfl) ?_
  intro A' L cd s' R' S'
  replace S' : Own c H B ((L, frameP [(Str.ofString "terminator", x)]) :: (L + 1, varP (some fv)) :: cs) s' := S'
  refine runs_of ?_
  cases e with
  | goto g =>
    unfold End.d at r
    repeat (row_room_at m)
    row_room_at turn
    repeat (row_room_at m)
    row_room_at turned
    · exact hP g (by simp [End.told])
    intro tg s₉ S₉
    repeat (row_room_at m)
    rename_i rr T
    exact h _ _ _ (by assumption) T.drop.drop (by row_room_at m_le)
  | drop g =>
    unfold End.d at r
    repeat (row_room_at m)
    row_room_at turn
    repeat (row_room_at m)
    row_room_at turned
    · exact hP g (by simp [End.told])
    intro tg s₉ S₉
    repeat (row_room_at m)
    rename_i rr T
    exact h _ _ _ (by assumption) T.drop.drop (by row_room_at m_le)
  | call1 g =>
    unfold End.d at r
    repeat (row_room_at m)
    row_room_at ifx
    repeat (row_room_at m)
    refine ite_f rfl ?_
    repeat (row_room_at m)
    row_room_at turn
    repeat (row_room_at m)
    row_room_at turned
    · exact hP g (by simp [End.told])
    intro tg s₉ S₉
    repeat (row_room_at m)
    rename_i rr T
    exact h _ _ _ (by assumption) T.drop.drop (by row_room_at m_le)
  | call0 =>
    unfold End.d at r
    repeat (row_room_at m)
    row_room_at ifx
    repeat (row_room_at m)
    refine ite_t rfl ?_
    repeat (row_room_at m)
    rename_i rr T
    exact h _ _ _ (by assumption) T.drop.drop (by row_room_at m_le)
  | asrt g =>
    unfold End.d at r
    repeat (row_room_at m)
    row_room_at turn
    repeat (row_room_at m)
    row_room_at turned
    · exact hP g (by simp [End.told])
    intro tg s₉ S₉
    repeat (row_room_at m)
    rename_i rr T
    exact h _ _ _ (by assumption) T.drop.drop (by row_room_at m_le)
  | ret =>
    unfold End.d at r
    repeat (row_room_at m)
    rename_i T
    exact h _ _ _ (Rd.mono (by row_room_at m_le) r) T.drop.drop (by row_room_at m_le)
  | panic =>
    unfold End.d at r
    repeat (row_room_at m)
    rename_i T
    exact h _ _ _ (Rd.mono (by row_room_at m_le) r) T.drop.drop (by row_room_at m_le)
  | unreach =>
    unfold End.d at r
    repeat (row_room_at m)
    rename_i T
    exact h _ _ _ (Rd.mono (by row_room_at m_le) r) T.drop.drop (by row_room_at m_le)
  | switch rows rest =>
    have hrows := hsm rows rest rfl
    have hz : (rows.map rowD).length ≤ sizeLine := by rw [List.length_map, sizeLine_eq]; omega
    unfold End.d at r
    repeat (row_room_at m)
    refine it_tuple (by assumption) R'.hd (by row_room_at m_rd) fun it I s₉ Wk S₉ => ?_
    refine comp_map Wk S₉ (Le.refl _) (fun d => match d with | .tuple [k, .int g] => .tuple [k, .int (f g)] | _ => .none) ?_ ?_ (by assumption)
    · intro d v H' B' s' C hd rv S hle
      obtain ⟨p, hp', rfl⟩ := List.mem_map.mp hd
      unfold rowD at rv
      repeat (row_room_at m)
      row_room_at turn
      repeat (row_room_at m)
      row_room_at turned
      · exact hP p.2 (List.mem_append_left _ (List.mem_map.mpr ⟨p, hp', rfl⟩))
      intro tg s₈ S₈
      repeat (row_room_at m)
      exact ⟨_, _, by assumption, by row_room_at m_le, by assumption⟩
    · intro D ys B' s' hD hr S hle
      have e : ((rows.map rowD).map fun d => match d with | .tuple [k, .int g] => .tuple [k, .int (f g)] | _ => .none) = (rows.map fun p => (p.1, f p.2)).map rowD := by
        simp [rowD, Function.comp_def]
      rw [e] at hr
      have hz' : ((rows.map fun p => (p.1, f p.2)).map rowD).length ≤ sizeLine := by rw [List.length_map, List.length_map, sizeLine_eq]; omega
      repeat (row_room_at m)
      cases rest with
      | none =>
        unfold optD at r
        row_room_at ifx
        repeat (row_room_at m)
        refine ite_t rfl ?_
        repeat (row_room_at m)
        rename_i rr T
        exact h _ _ _ (by assumption) (by first | exact T.drop.drop | exact T.drop.drop.drop) (by row_room_at m_le)
      | some g =>
        unfold optD at r
        row_room_at ifx
        repeat (row_room_at m)
        refine ite_f rfl ?_
        repeat (row_room_at m)
        row_room_at turn
        repeat (row_room_at m)
        row_room_at turned
        · exact hP g (List.mem_append_right _ (List.mem_singleton.mpr rfl))
        intro tg s₈ S₈
        repeat (row_room_at m)
        rename_i rr T
        exact h _ _ _ (by assumption) (by first | exact T.drop.drop | exact T.drop.drop.drop) (by row_room_at m_le)
end
section
variable {c : Cx} {H B : PM} {cs : List Cell} {s : Shared} {A : Around} {x : Addr} {bs : List Blk} {sp bl lo : Addr} {ac nm : Value}
set_option maxHeartbeats 4000000 in
theorem reach_spec {fa : Addr} {Q : Value → Shared → Prop} (V : Wd c) (R : Room A 2) (F : FnAt c fa (Str.ofString "reachable") (Str.ofString "reachable") (stAt 8) .none) (S : Own c H B cs s)
    (I : BodyB c B x bs sp bl lo ac nm) (ok : BodyOk bs)
    (h : ∀ v (fs : List Int) B' s', fs.Nodup → fs.head? = some 0 → (∀ g, g ∈ fs ↔ Reach (scOf bs) g) → (∀ g ∈ fs, 0 ≤ g ∧ g < bs.length) → Rd B' v (.list (fs.map PyData.int)) → Own c H B' cs s' → Le B B' → Q v s') :
    wpAny c.M A (call (.ref fa) [.ref x]) Q NE s := by
  have W := V.w
  have Wc := V.cls
  have Ia := I.at_
  have Ir := I.rd
  obtain ⟨ft, hft, htt, Ft⟩ := V.mte
  obtain ⟨fu, hfu, Fu⟩ := W.successors
  have hl6 := ok.len
  refine enter (binds := [(Str.ofString "body", .ref x)]) R W.glb F S rfl rfl (fun _ _ _ _ _ _ => BindsTo.of_eq rfl) (by decide) rfl ?_
  intro A' L cd s' R' S'
  refine runs_of ?_
  repeat (row_room_at m)
  row_room_at listC
  rename_i D s₁ hD S₁
  repeat (row_room_at m)
  row_room_at listC
  rename_i E s₂ hE S₂
  repeat (row_room_at m)
  repeat (row_room_at m)
  rename_i t₀ _ _ _ S₃
  refine x_while (fun n s => ∃ B' ys zs fs ws, Own c H B' ((E, listP zs) :: (D, listP ys) :: (L, frameP [(Str.ofString "found", .ref D), (Str.ofString "waiting", .ref E), (Str.ofString "body", .ref x)]) :: cs) s ∧ Le B B' ∧
    RdAll B' ys (fs.map PyData.int) ∧ RdAll B' zs (ws.map PyData.int) ∧ RInv bs fs ws ∧ n = 4 * (bs.length - fs.length) + ws.length) ?_ (4 * bs.length + 1)
    ⟨B, [], [.int 0 _], [], [0], S₃, Le.refl _, .nil, .cons (.int _ _) .nil, ?_, rfl⟩
  · rintro n s ⟨B', ys, zs, fs, ws, S, hle, hy, hz, inv, rfl⟩
    repeat (row_room_at m)
    row_room_at listR
    repeat (row_room_at m)
    refine ne_nil (intsL_C (by assumption) (by row_room_at m_mem) (RdAll.mono (by row_room_at m_le) hz)) (intsL_R (ns := []) (by assumption) (by assumption)) (Room.u (by assumption)) ?_
    repeat (row_room_at m)
    refine ite_w (fun hb => ?_) (fun hb => ?_)
    · have hne : ws ≠ [] := by intro e; rw [e] at hb; simp at hb
      obtain ⟨ws', g, rfl⟩ : ∃ ws' g, ws = ws' ++ [g] := ⟨ws.dropLast, ws.getLast hne, (List.dropLast_concat_getLast hne).symm⟩
      obtain ⟨gw, g0, g1⟩ := inv.w g (List.mem_append_right _ (List.mem_singleton.mpr rfl))
      obtain ⟨k, rfl⟩ : ∃ k : Nat, g = k := nat_of (by assumption)
      obtain ⟨zs', v, rfl, hz', hv⟩ : ∃ zs' v, zs = zs' ++ [v] ∧ RdAll B' zs' (ws'.map PyData.int) ∧ Rd B' v (.int k) := by
        have hr := hz.reverse
        rw [List.map_append, List.reverse_append] at hr
        obtain ⟨v, r, e, h1, h2⟩ := hr.cons_inv
        have e' : zs = r.reverse ++ [v] := by rw [← List.reverse_reverse (as := zs), e, List.reverse_cons]
        refine ⟨r.reverse, v, e', ?_, h1⟩
        have := h2.reverse
        have e2 : (([] : List PyData).append (ws'.map PyData.int).reverse).reverse = ws'.map PyData.int := by
          show (ws'.map PyData.int).reverse.reverse = _
          rw [List.reverse_reverse]
        exact e2 ▸ this
      obtain ⟨tv, rfl⟩ := hv.int_inv
      obtain ⟨b, hb'⟩ : ∃ b, bs[k]? = some b := blk_of (by assumption)
      have bok := ok.ok b (List.mem_of_getElem? hb')
      have hfl := bounded_len inv.nd fun g hg => (inv.f g hg).2
      have hwl := inv.len
      have hyl := hy.length
      have hzl := hz'.length
      rw [List.length_map] at hyl hzl
      rw [List.length_append, List.length_singleton] at hwl
      repeat (row_room_at m)
      refine l_pop (vs := zs') (y := .int k tv) (by assumption) (by row_room_at m_upd) (by rw [sizeLine_eq]; omega) fun s₅ S₅ => ?_
      repeat (row_room_at m)
      refine ite_w (fun hq => ?_) (fun hq => ?_)
      · have hnf : (k : Int) ∉ fs := by simpa using hq
        have hlen : fs.length < bs.length := by
          have := bounded_len (fs := fs ++ [(k : Int)]) (n := bs.length) (inv.new ok hb' hnf).nd fun g hg => ((inv.new ok hb' hnf).f g hg).2
          simp at this; omega
        have hyz : ys.length ≤ sizeLine := by rw [sizeLine_eq]; omega
        repeat (row_room_at m)
        refine te_spec V (R'.le (by decide)) Ft (by assumption) (I.mono (by row_room_at m_le)) hb' (by row_room_at ar) fun v₂ s₆ re S₆ => ?_
        repeat (row_room_at m)
        refine succ_spec W (R'.le (by decide)) Fu (by assumption) re (small_of bok.e) fun v₃ B₅ s₇ rs S₇ hle₅ => ?_
        repeat (row_room_at m)
        have h3 := succs_len (small_of bok.e)
        --?
        refine item_slS (by assumption) (Rd.mono (by row_room_at m_le) rs) (by assumption) .none .none (.int _ _) (by decide) (by rw [List.length_map]; omega) fun a vs s₈ hvs hr _ S₈ => ?_
        rw [krv_pick] at S₈
        have hvl := hr.length
        rw [List.length_map] at hvl
        have hz2 : zs'.length + (vs.toArray.toList.reverse.toArray.toList).length ≤ sizeLine := by simp; rw [sizeLine_eq]; omega
        repeat (row_room_at m)
        rename_i T
        refine ⟨rfl, _, ?_, _, ys ++ [.int k tv], zs' ++ vs.toArray.toList.reverse.toArray.toList, fs ++ [(k : Int)], ws' ++ b.e.succs.reverse, T.drop.weakAt (l := [_, _]) (frameP_sub (by row_room_at m_sub)), by row_room_at m_le, ?_, ?_, inv.new ok hb' hnf, rfl⟩
        · simp only [List.length_append, List.length_singleton, List.length_reverse]; omega
        · rw [List.map_append]; exact (RdAll.mono (by row_room_at m_le) hy).snoc (.int _ _)
        · rw [List.map_append, List.map_reverse]
          refine (RdAll.mono (by row_room_at m_le) hz').append ?_
          have := RdAll.mono (B' := ?_) (by row_room_at m_le) hr.reverse
          simpa using this
      · have hf : (k : Int) ∈ fs := by simpa using hq
        repeat (row_room_at m)
        rename_i T
        refine ⟨rfl, _, ?_, _, ys, zs', fs, ws', T.weakAt (l := [_, _]) (frameP_sub (by row_room_at m_sub)), by row_room_at m_le, RdAll.mono (by row_room_at m_le) hy, RdAll.mono (by row_room_at m_le) hz', inv.skip hf, rfl⟩
        rw [List.length_append, List.length_singleton]; omega
    · have e : ws = [] := by simpa using hb
      subst e
      have hcl : ∀ g, Reach (scOf bs) g → g ∈ fs := by
        have h0 : (0 : Int) ∈ fs := by
          rcases inv.hd with ⟨_, q⟩ | q
          · simp at q
          · exact List.mem_of_mem_head? q
        intro g hg
        induction hg with
        | zero => exact h0
        | step _ hm ih =>
          rcases inv.cl _ ih _ hm with q | q
          · exact q
          · simp at q
      have hhd : fs.head? = some 0 := by
        rcases inv.hd with ⟨_, q⟩ | q
        · simp at q
        · exact q
      repeat (row_room_at m)
      rename_i T
      obtain ⟨B₉, hle₉, hr₉, S₉⟩ := T.drop.frz (RdAll.mono (by row_room_at m_le) hy)
      exact h _ fs B₉ _ inv.nd hhd (fun g => ⟨fun q => (inv.f g q).1, hcl g⟩) (fun g q => (inv.f g q).2) hr₉ S₉.drop (by row_room_at m_le)
  · refine ⟨List.nodup_nil, (fun _ h => nomatch h), fun g hg => ?_, (fun _ h => nomatch h), .inl ⟨rfl, rfl⟩, by simp⟩
    rw [List.mem_singleton.mp hg]
    have := ok.pos
    exact ⟨.zero, Int.le_refl _, by omega⟩
end
noncomputable def goalsD (bs : List Blk) : PyData := .list (bs.map fun b => .list (b.e.succs.map PyData.int))
theorem goals_get {bs : List Blk} {g : Nat} {b : Blk} (hb : bs[g]? = some b) : (bs.map fun b => PyData.list (b.e.succs.map PyData.int))[(g : Int).toNat]? = some (.list (b.e.succs.map PyData.int)) := by
  rw [Int.toNat_natCast, List.getElem?_map, hb]; rfl
section
variable {c : Cx} {H B : PM} {cs : List Cell} {s : Shared} {A : Around} {bs : List Blk}
set_option maxHeartbeats 4000000 in
theorem closed_spec {fa : Addr} {x : Value} {Q : Value → Shared → Prop} (W : World c) (R : Room A 1) (F : FnAt c fa (Str.ofString "_law_closed") (Str.ofString "_law_closed") (stAt 18) .none) (S : Own c H B cs s)
    (r : Rd B x (goalsD bs)) (ok : BodyOk bs)
    (h : ∀ v (ms : List Int) B' s', ms.Nodup → ms.Pairwise (· ≤ ·) → (∀ g, g ∈ ms ↔ Reach (scOf bs) g) → (∀ g ∈ ms, 0 ≤ g ∧ g < bs.length) → Rd B' v (.list (ms.map PyData.int)) → Own c H B' cs s' → Le B B' → Q v s') :
    wpAny c.M A (call (.ref fa) [x]) Q NE s := by
  unfold goalsD at r
  have hl6 := ok.len
  refine enterC (binds := [(Str.ofString "goals", x)]) (lb := [(Str.ofString "goals", x)]) R W.glb F S rfl rfl (fun _ _ _ _ _ _ => rfl) rfl (by decide) (fun p hp => by rw [List.mem_singleton.mp hp]; rfl) ?_
  intro A' L cd s' R' S'
  replace S' : Own c H B ((L, frameP [(Str.ofString "goals", x)]) :: (L + 1, varP none) :: cs) s' := S'
  refine runs_of ?_
  repeat (row_room_at m)
  row_room_at listC
  rename_i D s₁ hD S₁
  replace S₁ := S₁.swap
  repeat (row_room_at m)
  refine it_cell (by assumption) (by row_room_at m_mem) fun it s₂ S₂ => ?_
  refine loop_grow bs.length R'.hd S₂ [(Str.ofString "goals", x)] (by row_room_at m_sub) (fun k B' ys => ∃ fs, RdAll B' ys (fs.map PyData.int) ∧ CInv bs k fs) ⟨[0], .cons (.int _ _) .nil, ?_⟩ ?_ ?_ ?_ ?_
  · refine ⟨by simp, fun g hg => ?_, List.mem_singleton.mpr rfl, Nat.zero_le _, fun i g hi => absurd hi (Nat.not_lt_zero _)⟩
    rw [List.mem_singleton.mp hg]
    have := ok.pos
    exact ⟨.zero, Int.le_refl _, by omega⟩
  · rintro k B' ys ⟨fs, hr, inv⟩
    have h1 := hr.length
    rw [List.length_map] at h1
    have h2 := bounded_len inv.nd fun g hg => (inv.f g hg).2
    have h3 := inv.klen
    omega
  · rintro k B' B'' ys hle ⟨fs, hr, inv⟩
    exact ⟨fs, hr.mono hle, inv⟩
  · rintro k v H' B' ys s' hv ⟨fs, hr, inv⟩ S hle
    have hyl := hr.length
    rw [List.length_map] at hyl
    obtain ⟨g, hg⟩ : ∃ g, fs[k]? = some g := ⟨fs[k]'(by have := get_lt hv; omega), by simp⟩
    obtain ⟨v', hv', rv⟩ := hr.get k (.int g) (by rw [List.getElem?_map, hg]; rfl)
    rw [hv] at hv'
    cases hv'
    obtain ⟨gw, g0, g1⟩ := inv.f g (List.mem_of_getElem? hg)
    obtain ⟨n, rfl⟩ : ∃ n : Nat, g = n := nat_of (by assumption)
    obtain ⟨tg, rfl⟩ := rv.int_inv
    obtain ⟨b, hb⟩ : ∃ b, bs[n]? = some b := ⟨bs[n]'(by row_room_at ar), by simp⟩
    have bok := ok.ok b (List.mem_of_getElem? hb)
    have hgb := goals_get hb
    have h3 := succs_len (small_of bok.e)
    have hfl := bounded_len inv.nd fun g hg => (inv.f g hg).2
    --?
    repeat (row_room_at m)
    refine it_list (by assumption) R'.hd (by assumption) fun it₂ I₂ s₄ Wk₂ S₄ => ?_
    refine comp_c Wk₂ S₄ (Le.refl _) (fun k zs B'' => RdAll B'' zs (((b.e.succs.take k).filter fun h => !decide (h ∈ fs)).map PyData.int)) (by simp; exact .nil) ?_ (fun k ys B' B'' hle h => h.mono hle) ?_ rfl (by rw [List.length_map, sizeLine_eq]; omega)
    · intro j v zs H'' B₃ s₅ C hj hle₃ hvd hz S₅
      obtain ⟨d, hd, rd⟩ := hvd
      rw [List.getElem?_map] at hd
      obtain ⟨y, hy, rfl⟩ := Option.map_eq_some_iff.mp hd
      obtain ⟨ty, rfl⟩ := rd.int_inv
      have et : (b.e.succs.take (j + 1)).filter (fun h => !decide (h ∈ fs)) = (b.e.succs.take j).filter (fun h => !decide (h ∈ fs)) ++ if (!decide (y ∈ fs)) = true then [y] else [] := by
        rw [List.take_add_one, hy, List.filter_append]
        congr 1
        simp only [Option.toList, List.filter_cons, List.filter_nil]
      rw [et]
      repeat (row_room_at m)
      refine ite_w (fun hq => ?_) (fun hq => ?_)
      · repeat (row_room_at m)
        refine ⟨_, _, by row_room_at m_le, ?_, by assumption⟩
        rw [if_pos hq, List.map_append]
        exact hz.snoc (.int _ _)
      · refine ⟨_, _, by row_room_at m_le, ?_, by assumption⟩
        rw [if_neg (by rw [hq]; exact Bool.false_ne_true), List.append_nil]
        exact hz
    · intro D' zs B₃ s₅ hle₃ hD' hzl hz S₅
      rw [List.length_map, List.take_of_length_le (Nat.le_refl _)] at hz
      rw [List.length_map] at hzl
      have hyz : ys.length + zs.length ≤ sizeLine := by rw [sizeLine_eq]; omega
      repeat (row_room_at m)
      rename_i T
      refine ⟨rfl, _, ys ++ zs, _, T.drop, by row_room_at m_le, ⟨_, ?_, inv.new ok hg hb⟩, by row_room_at m_sub⟩
      rw [List.map_append]
      exact (RdAll.mono (by row_room_at m_le) hr).append hz
  · rintro B' ys s' ⟨fs, hr, inv⟩ S hle
    have hyl := hr.length
    rw [List.length_map] at hyl
    rw [hyl] at inv
    have hfl := bounded_len inv.nd fun g hg => (inv.f g hg).2
    repeat (row_room_at m)
    refine b_sorted (by assumption) (by row_room_at m_isl) hr (by row_room_at ar) fun a ms B₃ s₃ hp hs hle₃ hr₃ S₃ => ?_
    exact h _ ms B₃ _ (hp.nodup_iff.mpr inv.nd) hs (fun g => (hp.mem_iff).trans (inv.all g)) (fun g hg => (inv.f g (hp.mem_iff.mp hg)).2) hr₃ S₃.drop.drop.drop (by row_room_at m_le)
end
noncomputable def bk (bs : List Blk) (g : Int) : Blk := bs[g.toNat]?.getD ⟨[], .ret⟩
theorem bk_get {bs : List Blk} {k : Nat} {b : Blk} (hb : bs[k]? = some b) : bk bs (k : Int) = b := by unfold bk; rw [Int.toNat_natCast, hb]; rfl
noncomputable def nb (bs : List Blk) (ks : List Int) (g : Int) : Blk := ⟨(bk bs g).marks, (bk bs g).e.map fun h => (ks.idxOf h : Nat)⟩
noncomputable def newBs (bs : List Blk) (ks : List Int) : List Blk := ks.map (nb bs ks)
noncomputable def spRow (ps : List (Pt × Int)) (g p n : Nat) : List (Pt × Int) := (List.range n).map fun i => ((p, i), (ps.lookup (g, i)).getD 0)
noncomputable def nsp (bs : List Blk) (ps : List (Pt × Int)) : Nat → List Int → List (Pt × Int)
  | _, [] => []
  | p, g :: gs => spRow ps g.toNat p ((bk bs g).marks.length + 1) ++ nsp bs ps (p + 1) gs
theorem nsp_append {bs : List Blk} {ps : List (Pt × Int)} (r : List Int) : ∀ (l : List Int) (a : Nat), nsp bs ps a (l ++ r) = nsp bs ps a l ++ nsp bs ps (a + l.length) r
  | [], a => rfl
  | g :: l, a => by
    show spRow _ _ _ _ ++ nsp bs ps (a + 1) (l ++ r) = (spRow _ _ _ _ ++ nsp bs ps (a + 1) l) ++ _
    rw [nsp_append r l (a + 1), List.append_assoc, List.length_cons, show a + 1 + l.length = a + (l.length + 1) by omega]
theorem nsp_take {bs : List Blk} {ps : List (Pt × Int)} {ks : List Int} {k : Nat} {g : Int} (h : ks[k]? = some g) :
    nsp bs ps 0 (ks.take (k + 1)) = nsp bs ps 0 (ks.take k) ++ spRow ps g.toNat k ((bk bs g).marks.length + 1) := by
  have hk := get_lt h
  rw [List.take_add_one, h, nsp_append, List.length_take, Nat.min_eq_left (Nat.le_of_lt hk), Nat.zero_add]
  simp [nsp]
theorem spRow_succ {ps : List (Pt × Int)} {g p n : Nat} : spRow ps g p (n + 1) = spRow ps g p n ++ [((p, n), (ps.lookup (g, n)).getD 0)] := by
  unfold spRow; rw [List.range_succ, List.map_append]; rfl
theorem spRow_key {ps : List (Pt × Int)} {g p n : Nat} {q : Pt × Int} (h : q ∈ spRow ps g p n) : q.1.1 = p ∧ q.1.2 < n := by
  obtain ⟨i, hi, rfl⟩ := List.mem_map.mp h
  exact ⟨rfl, List.mem_range.mp hi⟩
theorem nsp_key {bs : List Blk} {ps : List (Pt × Int)} (hm : ∀ g, (bk bs g).marks.length ≤ 3) : ∀ (gs : List Int) (a : Nat) (q : Pt × Int), q ∈ nsp bs ps a gs → q.1.1 < a + gs.length ∧ q.1.2 < 4
  | [], _, _, h => nomatch h
  | g :: gs, a, q, h => by
    rcases List.mem_append.mp h with h | h
    · have := spRow_key h; have := hm g; rw [List.length_cons]; omega
    · have := nsp_key hm gs (a + 1) q h; rw [List.length_cons]; omega
theorem nsp_len {bs : List Blk} {ps : List (Pt × Int)} (hm : ∀ g, (bk bs g).marks.length ≤ 3) : ∀ (gs : List Int) (a : Nat), (nsp bs ps a gs).length ≤ 4 * gs.length
  | [], _ => Nat.le_refl _
  | g :: gs, a => by
    have h1 := nsp_len (ps := ps) hm gs (a + 1)
    have h2 := hm g
    simp only [nsp, spRow, List.length_append, List.length_map, List.length_range, List.length_cons]
    omega
theorem row_len {bs : List Blk} {ps : List (Pt × Int)} {ks : List Int} {j k i : Nat} (hm : ∀ g, (bk bs g).marks.length ≤ 3) (h6 : ks.length ≤ 6) (hi : i ≤ 4) : (nsp bs ps 0 (ks.take k) ++ spRow ps j k i).length ≤ 1000 := by
  have h1 := nsp_len (ps := ps) hm (ks.take k) 0
  rw [List.length_take] at h1
  rw [List.length_append, spRow, List.length_map, List.length_range]
  omega
theorem lookup_none {ps : List (Pt × Int)} {p : Pt} (h : ∀ q ∈ ps, q.1 ≠ p) : ps.lookup p = none := by
  induction ps with
  | nil => rfl
  | cons q ps ih =>
    rw [List.lookup_cons, beq_eq_false_iff_ne.mpr (fun e => h q (List.mem_cons_self ..) e.symm)]
    exact ih fun q hq => h q (List.mem_cons_of_mem _ hq)
theorem put_new {ps : List (Pt × Int)} {p : Pt} {v : Int} (h : ∀ q ∈ ps, q.1 ≠ p) : putP ps p v = ps ++ [(p, v)] := by
  unfold putP; rw [lookup_none h]; rfl
theorem put_row {bs : List Blk} {ps : List (Pt × Int)} (hm : ∀ g, (bk bs g).marks.length ≤ 3) {ks : List Int} {k g i : Nat} (hk : k ≤ ks.length) {v : Int} (hv : v = (ps.lookup (g, i)).getD 0) :
    putP (nsp bs ps 0 (ks.take k) ++ spRow ps g k i) (k, i) v = nsp bs ps 0 (ks.take k) ++ spRow ps g k (i + 1) := by
  rw [put_new, spRow_succ, ← List.append_assoc, hv]
  intro q hq e
  rcases List.mem_append.mp hq with h | h
  · have := (nsp_key hm _ _ q h).1
    rw [e, List.length_take, Nat.min_eq_left hk] at this
    simp at this
  · have := (spRow_key h).2
    rw [e] at this
    simp at this
theorem bk_marks {bs : List Blk} (ok : BodyOk bs) (g : Int) : (bk bs g).marks.length ≤ 3 := by
  unfold bk
  cases e : bs[g.toNat]? with
  | none => simp
  | some b => exact (ok.ok b (List.mem_of_getElem? e)).len
theorem nsp_small {bs : List Blk} {ps : List (Pt × Int)} {ks : List Int} (ok : BodyOk bs) (h1 : ks ≠ []) (h2 : ks.length ≤ 6) : Small (nsp bs ps 0 ks) := by
  have hm := bk_marks ok
  refine ⟨?_, ?_, fun q hq => ?_⟩
  · cases ks with
    | nil => exact absurd rfl h1
    | cons g gs => simp [nsp, spRow]
  · have := nsp_len (ps := ps) hm ks 0; omega
  · have := nsp_key hm ks 0 q hq; omega
theorem map_told (f : Int → Int) : ∀ e : End, (e.map f).told = e.told.map (Option.map f)
  | .goto g | .call1 g | .drop g | .asrt g => rfl
  | .call0 | .ret | .panic | .unreach => rfl
  | .switch rows rest => by
    simp only [End.map, End.told, List.map_append, List.map_map]
    rfl
theorem map_keys (f : Int → Int) : ∀ e : End, (e.map f).keys = e.keys
  | .goto g | .call1 g | .drop g | .asrt g => rfl
  | .call0 | .ret | .panic | .unreach => rfl
  | .switch rows rest => by simp only [End.map, End.keys, List.map_map]; rfl
theorem map_ok {e : End} {n m : Int} {f : Int → Int} (ok : e.Ok n) (h : ∀ g, some g ∈ e.told → 0 ≤ f g ∧ f g < m) : (e.map f).Ok m where
  told := fun g hg => by
    rw [map_told] at hg
    obtain ⟨o, ho, e'⟩ := List.mem_map.mp hg
    cases o with
    | none => cases e'
    | some x => cases e'; exact h x ho
  keys := by rw [map_keys]; exact ok.keys
  rows := fun rows rest q => by
    cases e with
    | switch r r' => simp only [End.map, End.switch.injEq] at q; rw [← q.1, List.length_map]; exact ok.rows r r' rfl
    | _ => cases q
theorem newBs_ok {bs : List Blk} {ks : List Int} (ok : BodyOk bs) (h1 : ks ≠ []) (h2 : ks.length ≤ 6) (hr : ∀ g ∈ ks, 0 ≤ g ∧ g < bs.length) (hc : ∀ g ∈ ks, ∀ h, some h ∈ (bk bs g).e.told → h ∈ ks) : BodyOk (newBs bs ks) where
  pos := by unfold newBs; rw [List.length_map]; exact List.length_pos_iff.mpr h1
  len := by unfold newBs; rw [List.length_map]; exact h2
  ok := fun b hb => by
    obtain ⟨g, hg, rfl⟩ := List.mem_map.mp hb
    obtain ⟨g0, g1⟩ := hr g hg
    obtain ⟨b, hb⟩ : ∃ b, bs[g.toNat]? = some b := ⟨bs[g.toNat]'(by omega), by simp⟩
    have e : bk bs g = b := by unfold bk; rw [hb]; rfl
    have bok := ok.ok b (List.mem_of_getElem? hb)
    refine ⟨?_, by show ∀ d ∈ (bk bs g).marks, _; rw [e]; exact bok.marks, by show (bk bs g).marks.length ≤ 3; rw [e]; exact bok.len⟩
    show ((bk bs g).e.map _).Ok _
    have hc' := hc g hg
    rw [e] at hc' ⊢
    refine map_ok bok.e fun h hh => ?_
    have := List.idxOf_lt_length_of_mem (hc' h hh)
    unfold newBs
    rw [List.length_map]
    omega
section
variable {c : Cx} {H B : PM} {cs cs' : List Cell} {s : Shared} {A : Around} {n : Nat}
theorem td_item {d a : Addr} {p : Pt} {ps} {i : Int} {value slice : Expr} {Q : Value → Shared → Prop} (D : DictAt c B s d ps) (R : Room A n) (S : Own c H B cs s) (r : Rd B (.ref a) (ptD p.1 p.2)) (hi : ps.lookup p = some i) (h : ∀ t s', Own c H B cs s' → Q (.int i t) s')
    (he : ∀ l, subscripted slice false (.ref l) (.ref a) = operate [.ref l, .ref a] (getItem (.ref l) (.ref a)) := by intro _; with_unfolding_all rfl) : wpAny c.M A (subscriptTail value slice (.ref d) (.ref a)) Q NE s := by
  have D' := D
  obtain ⟨hd, xs, o, ho, hp, T⟩ := D
  exact tail_any (td_heap S ho hp T).typeIs slot_dict_getitem.lookup (td_get D' R S r hi h) (he d)
end
theorem Own.two {c : Cx} {H B : PM} {cs : List Cell} {s : Shared} {a b t : Addr} {P P' R R' T : Obj → Prop} {h' : Heap} {tk : Nat} (S : Own c H B ((a, P) :: (b, R) :: cs) s)
    (hs : ∀ x o, x ≠ a → x ≠ b → s.heap.get? x = some o → h'.get? x = some o) (ha : ∃ o, h'.get? a = some o ∧ P' o) (hb : ∃ o, h'.get? b = some o ∧ R' o)
    (hn : s.heap.get? t = none) (ht : ∃ o, h'.get? t = some o ∧ T o) : Own c H B ((t, T) :: (a, P') :: (b, R') :: cs) { s with heap := h', toks := tk } := by
  have hB : B t = none := by
    cases e : B t with
    | none => rfl
    | some o => have := S.hB _ _ e; rw [show HP s.heap t = s.heap.get? t from rfl, hn] at this; cases this
  have hH : H t = none := by
    cases e : H t with
    | none => rfl
    | some o => have := S.hH _ _ e; rw [show HP s.heap t = s.heap.get? t from rfl, hn] at this; cases this
  have da := S.dC _ (List.mem_cons_self ..)
  have db := S.dC _ (List.mem_cons_of_mem _ (List.mem_cons_self ..))
  have nd := S.nd
  rw [List.map_cons, List.map_cons, List.nodup_cons, List.nodup_cons] at nd
  refine ⟨by have := S.sh; rw [this], S.base, fun x o e => ?_, fun x o e => ?_, ?_, S.dHB, ?_, ?_⟩
  · exact hs x o (fun q => by subst q; rw [da.1] at e; cases e) (fun q => by subst q; rw [db.1] at e; cases e) (S.hH x o e)
  · exact hs x o (fun q => by subst q; rw [da.2] at e; cases e) (fun q => by subst q; rw [db.2] at e; cases e) (S.hB x o e)
  · intro p hp
    rcases List.mem_cons.mp hp with rfl | hp
    · exact ht
    rcases List.mem_cons.mp hp with rfl | hp
    · exact ha
    rcases List.mem_cons.mp hp with rfl | hp
    · exact hb
    obtain ⟨o, ho, hP⟩ := S.hC p (List.mem_cons_of_mem _ (List.mem_cons_of_mem _ hp))
    exact ⟨o, hs _ _ (fun q => nd.1 (List.mem_cons_of_mem _ (List.mem_map.mpr ⟨p, hp, q⟩))) (fun q => nd.2.1 (List.mem_map.mpr ⟨p, hp, q⟩)) ho, hP⟩
  · intro p hp
    rcases List.mem_cons.mp hp with rfl | hp
    · exact ⟨hH, hB⟩
    rcases List.mem_cons.mp hp with rfl | hp
    · exact da
    rcases List.mem_cons.mp hp with rfl | hp
    · exact db
    exact S.dC p (List.mem_cons_of_mem _ (List.mem_cons_of_mem _ hp))
  · show (t :: ((a, P) :: (b, R) :: cs).map (·.1)).Nodup
    rw [List.nodup_cons]
    refine ⟨fun hm => ?_, S.nd⟩
    obtain ⟨q, hq, e⟩ := List.mem_map.mp hm
    obtain ⟨o, ho, _⟩ := S.hC q hq
    rw [e, hn] at ho; cases ho
noncomputable def enP (it : Addr) (k : Nat) (o : Obj) : Prop := ∃ old, o = { cls := .type "enumerate", dict := none, data := .fields #[.none, .bool false, .ref it, rawInt (k : Int), .none, old], slots := #[] }
noncomputable def enD (ds : List PyData) : List PyData := ds.zipIdx.map fun p => .tuple [.int (p.2 : Nat), p.1]
theorem enD_get {ds : List PyData} {k : Nat} {d : PyData} (h : ds[k]? = some d) : (enD ds)[k]? = some (.tuple [.int k, d]) := by
  unfold enD; rw [List.getElem?_map, List.getElem?_zipIdx, h]; simp
theorem enD_len (ds : List PyData) : (enD ds).length = ds.length := by simp [enD]
section
variable {c : Cx} {H B : PM} {cs : List Cell} {s : Shared} {A : Around}
theorem walk_enum {e it l : Addr} {o : Obj} {vs : List Value} {ds : List PyData} {elts : List Expr} {x1 : _} {pos : Pos} (hh : A.handled = none) (hb : B l = some o) (hl : listP vs o) (hr : RdAll B vs ds) :
    WalkT c A B e (enD ds).length (VD (enD ds)) (fun k => [(e, enP it k), (it, liP l k)]) (.Tuple elts x1 pos) where
  next := fun k H B' cs s Q hk hle S h => by
    rw [enD_len] at hk
    obtain ⟨v, hv⟩ : ∃ v, vs[k]? = some v := ⟨vs[k]'(by rw [hr.length]; exact hk), by simp⟩
    obtain ⟨d, hd⟩ : ∃ d, ds[k]? = some d := ⟨ds[k], by simp [hk]⟩
    obtain ⟨v', hv', rv⟩ := hr.get k d hd
    rw [hv] at hv'; cases hv'
    obtain ⟨oe, he, old, rfl⟩ := S.cell (List.mem_cons_self ..)
    have hit := S.cell (List.mem_cons_of_mem _ (List.mem_cons_self ..))
    have hne : e ≠ it := fun q => by
      have nd := S.nd
      rw [show (fun k => [(e, enP it k), (it, liP l k)]) k ++ cs = (e, enP it k) :: (it, liP l k) :: cs from rfl, List.map_cons, List.map_cons, List.nodup_cons] at nd
      exact nd.1 (by rw [q]; exact List.mem_cons_self ..)
    refine wpAny_pyNext_enum_item he hit (isList_B S (hle _ _ hb) hl) (x := v) (by simpa using hv) hne fun h' he' hit' ht' hsz' hs' => ⟨_, rfl, ?_⟩
    have T₀ : Own c H B' ((s.heap.objs.size, tupP [.int k s.toks, v]) :: (e, fun o => o = { cls := .type "enumerate", dict := none, data := .fields #[rawInt s.heap.objs.size, .bool false, .ref it, rawInt ((k : Int) + 1), .none, v], slots := #[] }) :: (it, liP l (k + 1)) :: cs) { s with heap := h', toks := s.toks + 1 } :=
      S.two hs' ⟨_, he', rfl⟩ hit' (none_ge (Nat.le_refl _)) ⟨_, ht', 0, rfl⟩
    obtain ⟨B₁, ot, hle₁, hbt, hpt, _, T₁⟩ := T₀.freeze
    refine wpAny_letOwnedTupleGo_enum (s := { s with heap := h', toks := s.toks + 1 }) he' fun h'' he'' hs'' => ?_
    have T₂ := T₁.upd (t := s.toks + 1) (P' := enP it (k + 1)) .head hs''.extBut ⟨_, he'', v, rfl⟩
    refine h _ B₁ _ hle₁ ⟨_, enD_get hd, ?_⟩ T₂
    exact Rd.tuple hbt hpt (.cons (.int _ _) (.cons ((rv.mono hle).mono hle₁) .nil))
  done := fun H B' cs s Q hle S h => by
    obtain ⟨oe, he, old, rfl⟩ := S.cell (List.mem_cons_self ..)
    have hit := S.cell (List.mem_cons_of_mem _ (List.mem_cons_self ..))
    refine wpAny_pyNext_enum_end hh he hit (isList_B S (hle _ _ hb) hl) (by simp [enD_len, hr.length]) fun h' hs => ?_
    exact h _ ((show Own c H B' ((e, enP it _) :: (it, liP l _) :: cs) s from S).swap.gone (t := s.toks) hs).drop
  self := fun k H B cs s Q S h => by
    obtain ⟨oe, he, old, rfl⟩ := S.cell (List.mem_cons_self ..)
    exact wpAny_pyIter_enum he h
  mono := fun _ _ _ _ hle ⟨d, hd, r⟩ => ⟨d, hd, r.mono hle⟩
theorem it_enum {x : Value} {ds : List PyData} {Q : Value → Shared → Prop} (S : Own c H B cs s) (hh : A.handled = none) (r : Rd B x (.list ds))
    (h : ∀ e (I : Nat → List Cell) s', (∀ elts x1 pos, WalkT c A B e (enD ds).length (VD (enD ds)) I (.Tuple elts x1 pos)) → Own c H B (I 0 ++ cs) s' → Q (.ref e) s') : wpAny c.M A (call (.type "enumerate") [x]) Q NE s := by
  obtain ⟨l, o, vs, rfl, hb, hl, hr⟩ := r.list_inv
  refine call_enumerate_list (isList_B S hb hl) fun h' he hit hsz hk => ?_
  refine h _ (fun k => [(s.heap.objs.size + 1, enP s.heap.objs.size k), (s.heap.objs.size, liP l k)]) _ (fun elts x1 pos => walk_enum hh hb hl hr) ?_
  have T₀ := S.add (t := s.toks) (a := s.heap.objs.size) (P := liP l 0) hk (none_ge (Nat.le_refl _)) hit
  refine ⟨T₀.sh, T₀.base, T₀.hH, T₀.hB, ?_, T₀.dHB, ?_, ?_⟩
  · intro p hp
    rcases List.mem_cons.mp hp with rfl | hp
    · exact ⟨_, he, _, rfl⟩
    · exact T₀.hC p hp
  · intro p hp
    rcases List.mem_cons.mp hp with rfl | hp
    · constructor
      · cases e : H (s.heap.objs.size + 1) with
        | none => rfl
        | some o => have := S.hH _ _ e; rw [show HP s.heap (s.heap.objs.size + 1) = s.heap.get? (s.heap.objs.size + 1) from rfl, none_ge (Nat.le_succ _)] at this; cases this
      · cases e : B (s.heap.objs.size + 1) with
        | none => rfl
        | some o => have := S.hB _ _ e; rw [show HP s.heap (s.heap.objs.size + 1) = s.heap.get? (s.heap.objs.size + 1) from rfl, none_ge (Nat.le_succ _)] at this; cases this
    · exact T₀.dC p hp
  · show ((s.heap.objs.size + 1) :: ((s.heap.objs.size, liP l 0) :: cs).map (·.1)).Nodup
    rw [List.nodup_cons]
    refine ⟨fun hm => ?_, T₀.nd⟩
    rcases List.mem_cons.mp hm with q | hm
    · exact absurd q (Nat.succ_ne_self _)
    · obtain ⟨q, hq, e⟩ := List.mem_map.mp hm
      have := S.newC hq
      rw [e] at this
      exact absurd this (Nat.not_lt.mpr (Nat.le_succ _))
end
section
variable {c : Cx} {H B : PM} {cs : List Cell} {s : Shared} {A : Around} {x : Addr} {bs : List Blk} {sp bl lo : Addr} {ac nm : Value}
set_option maxHeartbeats 4000000 in
theorem pred_spec {fa : Addr} {Q : Value → Shared → Prop} (V : Wd c) (R : Room A 2) (F : FnAt c fa (Str.ofString "predecessors") (Str.ofString "predecessors") (stAt 5) .none) (S : Own c H B cs s)
    (I : BodyB c B x bs sp bl lo ac nm) (ok : BodyOk bs) (h : ∀ v B' s', Rd B' v (predD bs) → Own c H B' cs s' → Le B B' → Q v s') :
    wpAny c.M A (call (.ref fa) [.ref x]) Q NE s := by
  have W := V.w
  have Wc := V.cls
  have Ia := I.at_
  have Ir := I.rd
  obtain ⟨ft, hft, htt, Ft⟩ := V.mte
  obtain ⟨fu, hfu, Fu⟩ := W.successors
  have hl6 := ok.len
  have hl : (bs.map blkD).length < 2 ^ 62 := by rw [List.length_map]; omega
  refine enter (binds := [(Str.ofString "body", .ref x)]) R W.glb F S rfl rfl (fun _ _ _ _ _ _ => BindsTo.of_eq rfl) (by decide) rfl ?_
  intro A' L cd s' R' S'
  replace S' : Own c H B ((L, frameP [(Str.ofString "body", .ref x)]) :: cs) s' := S'
  refine runs_of ?_
  repeat (row_room_at m)
  refine it_list (by assumption) R'.hd (by row_room_at m_rd) fun it I₁ s₂ Wk S₂ => ?_
  refine comp_s Wk S₂ (Le.refl _) (fun k ys B' cs' => ∃ as, ys = as.map Value.ref ∧ as.length = k ∧ cs' = cellsL as (List.replicate k []) ++ ((L, frameP [(Str.ofString "body", .ref x)]) :: cs)) ⟨[], rfl, rfl, rfl⟩ ?_ ?_ ?_ rfl rfl rfl (by rw [List.length_map, sizeLine_eq]; omega)
  · rintro k v ys H' B' cs' s' C hk hle hv ⟨as, rfl, hl, rfl⟩ S
    repeat (row_room_at m)
    row_room_at listC
    rename_i a s₃ ha T
    refine ⟨_, cellsL (as ++ [a]) (List.replicate (k + 1) []) ++ ((L, frameP [(Str.ofString "body", .ref x)]) :: cs), [(Str.ofString "block", v)], Le.refl _, ⟨as ++ [a], by simp, by simp [hl], rfl⟩, ?_⟩
    rw [List.replicate_succ', cellsL_snoc (by simp [hl])]
    refine T.perm ((List.Perm.swap ..).trans (.cons _ ?_))
    rw [List.append_assoc]
    exact List.perm_middle.symm
  · rintro k ys B' B'' cs' hle ⟨as, a, b, d⟩
    exact ⟨as, a, b, d⟩
  · rintro D ys B' cs' hle hD hlen ⟨as, rfl, hal, rfl⟩
    rw [List.length_map] at hal
    refine ⟨[(Str.ofString "body", .ref x)], (D, listP (as.map Value.ref)) :: (cellsL as (List.replicate (bs.map blkD).length []) ++ ((L, frameP [(Str.ofString "found", .ref D), (Str.ofString "body", .ref x)]) :: cs)), ?_, fun s₃ S₃ => ?_⟩
    · exact .tail (Upd.right .head _)
    rw [List.length_map] at S₃
    replace S₃ : Own c H B' ((L, frameP [(Str.ofString "found", .ref D), (Str.ofString "body", .ref x)]) :: (D, listP (as.map Value.ref)) :: (cellsL as (List.replicate bs.length []) ++ cs)) s₃ :=
      S₃.perm ((List.Perm.cons _ List.perm_middle).trans (List.Perm.swap ..))
    repeat (row_room_at m)
    refine it_range (by assumption) R'.hd (by assumption) (by rw [List.length_map]; omega) fun it I₁ s₄ Wk₁ S₄ => ?_
    refine loop_f Wk₁ S₄ (Le.refl _) [(Str.ofString "found", .ref D), (Str.ofString "body", .ref x)] (by row_room_at m_sub)
      (fun k B' cs' => ∃ vss, cs' = (D, listP (as.map Value.ref)) :: (cellsL as vss ++ cs) ∧ AllL B' vss ((List.range bs.length).map (preD bs k))) ⟨_, rfl, ?_⟩ ?_ ?_ ?_
    · have e : (List.range bs.length).map (preD bs 0) = List.replicate bs.length [] := by
        rw [List.eq_replicate_iff]
        exact ⟨by simp, fun b hb => by obtain ⟨j, _, rfl⟩ := List.mem_map.mp hb; rfl⟩
      rw [e]
      generalize bs.length = n
      induction n with
      | zero => exact .nil
      | succ n ih => exact .cons .nil ih
    · rintro k B' B'' cs' hle ⟨vss, a, b⟩
      exact ⟨vss, a, b.mono hle⟩
    · rintro k v H' B' cs' s' hk ⟨d, hd, rv⟩ ⟨vss, rfl, hr⟩ S hle
      rw [nats_len, List.length_map] at hk
      rw [nats_get (by rw [List.length_map]; exact hk)] at hd
      cases hd
      obtain ⟨tk, rfl⟩ := rv.int_inv
      obtain ⟨b, hb⟩ : ∃ b, bs[k]? = some b := ⟨bs[k], by simp⟩
      have bok := ok.ok b (List.mem_of_getElem? hb)
      repeat (row_room_at m)
      refine te_spec V (R'.le (by decide)) Ft (by assumption) (I.mono (by row_room_at m_le)) hb (by row_room_at ar) fun v₂ s₆ re S₆ => ?_
      repeat (row_room_at m)
      refine succ_spec W (R'.le (by decide)) Fu (by assumption) re (small_of bok.e) fun v₃ B₅ s₇ rs S₇ hle₅ => ?_
      repeat (row_room_at m)
      refine it_list (by assumption) R'.hd (by assumption) fun it₂ I₂ s₈ Wk₂ S₈ => ?_
      refine loop_f Wk₂ S₈ (Le.refl _) [(Str.ofString "block", .int k tk), (Str.ofString "found", .ref D), (Str.ofString "body", .ref x)] (by row_room_at m_sub)
        (fun i B' cs' => ∃ vss, cs' = (D, listP (as.map Value.ref)) :: (cellsL as vss ++ cs) ∧ AllL B' vss ((List.range bs.length).map (preI bs k (b.e.succs.take i)))) ⟨vss, rfl, ?_⟩ ?_ ?_ ?_
      · have e : preI bs k (b.e.succs.take 0) = preD bs k := by funext j; unfold preI; simp
        rw [e]
        exact hr.mono (by row_room_at m_le)
      · rintro k B' B'' cs' hle ⟨vss, a, b⟩
        exact ⟨vss, a, b.mono hle⟩
      · rintro i v H'' B₆ cs' s₉ hi ⟨d, hd, rg⟩ ⟨wss, rfl, hw⟩ S₉ hle₆
        rw [List.getElem?_map] at hd
        obtain ⟨g, hg, rfl⟩ := Option.map_eq_some_iff.mp hd
        obtain ⟨tg, rfl⟩ := rg.int_inv
        obtain ⟨g0, g1⟩ := bok.e.told g (mem_succs.mp (List.mem_of_getElem? hg))
        obtain ⟨j, rfl⟩ : ∃ j : Nat, g = j := nat_of (by assumption)
        have hj : j < bs.length := by omega
        obtain ⟨ws, hws, rws⟩ := hw.get (j := j) (ds := preI bs k (b.e.succs.take i) j) (by simp [hj])
        have nd : b.e.succs.Nodup := once_nodup _
        rw [preI_at nd hg] at rws
        obtain ⟨a, ha⟩ : ∃ a, as[j]? = some a := ⟨as[j]'(by row_room_at ar), by simp⟩
        have hwl := rws.length
        have hpl := preD_len (bs := bs) (k := k) (j := j)
        repeat (row_room_at m)
        rename_i T
        refine item_C T (by row_room_at m_mem) (by row_room_at ar) (by rw [List.getElem?_map, ha]; rfl) ?_
        have hmem := List.mem_cons_of_mem (L, frameP [(Str.ofString "goal", Value.int j tg), (Str.ofString "block", Value.int k tk), (Str.ofString "found", Value.ref D), (Str.ofString "body", Value.ref x)])
          (List.mem_cons_of_mem (D, listP (as.map Value.ref)) (Upd.mem (cellsL_upd (cs := cs) (ws := []) ha hws)))
        refine gm_list T hmem PySem.slot_list_append PySem.F.type_list_append ?_
        iterate 4 (row_room_at m)
        refine l_append T (.tail (.tail (cellsL_upd ha hws))) (by rw [sizeLine_eq]; omega) fun s₁₀ S₁₀ => ?_
        repeat (row_room_at m)
        refine ⟨rfl, _, _, _, S₁₀, by row_room_at m_le, ⟨_, rfl, ?_⟩, by row_room_at m_sub⟩
        rw [← preI_step nd hg]
        exact (AllL.mono (by row_room_at m_le) hw).set ((RdAll.mono (by row_room_at m_le) rws).snoc (.int _ _))
      · rintro B₆ cs' s₉ ⟨wss, rfl, hw⟩ S₉ hle₆
        rw [List.length_map, List.take_of_length_le (Nat.le_refl _)] at hw
        have e : preI bs k b.e.succs = preD bs (k + 1) := by funext j; rw [preD_succ, scOf_get hb]
        rw [e] at hw
        repeat (row_room_at m)
        refine ⟨rfl, _, _, _, S₉, by row_room_at m_le, ⟨wss, rfl, hw⟩, by row_room_at m_sub⟩
    · rintro B' cs' s' ⟨vss, rfl, hr⟩ S hle
      rw [nats_len, List.length_map] at hr
      repeat (row_room_at m)
      have h1 := hr.length
      rw [List.length_map, List.length_range] at h1
      obtain ⟨B₈, hle₈, hr₈, S₈⟩ := frzAll (as := as) (vss := vss) (cs := (D, listP (as.map Value.ref)) :: (L, frameP [(Str.ofString "found", .ref D), (Str.ofString "body", .ref x)]) :: cs)
        (S.perm (by
          exact ((List.Perm.cons _ List.perm_middle.symm).trans (List.perm_middle.symm.trans (List.Perm.append_left _ (List.Perm.swap ..)))))) (by row_room_at ar) hr
      obtain ⟨B₉, hle₉, hr₉, S₉⟩ := S₈.frz hr₈
      refine h _ B₉ _ ?_ S₉.drop (by row_room_at m_le)
      unfold predD
      rw [List.map_map] at hr₉
      exact hr₉
end
theorem sh_rows : ∀ (bs : List Blk) (k : Nat), ∀ y ∈ ptsFrom k bs, Sh 1 y
  | [], _, _, h => nomatch h
  | b :: bs, k, y, h => by
    rcases List.mem_append.mp h with h | h
    · obtain ⟨i, _, rfl⟩ := List.mem_map.mp h
      exact Sh.tuple (n := 0) (all_cons Sh.int (all_cons Sh.int all_nil))
    · exact sh_rows bs (k + 1) y h
theorem sh_pts (bs : List Blk) : Sh 2 (.list (pts bs)) := Sh.list (sh_rows bs 0)
theorem sh_pred (bs : List Blk) : Sh 2 (predD bs) := by
  refine Sh.list (n := 1) fun y hy => ?_
  obtain ⟨j, _, rfl⟩ := List.mem_map.mp hy
  refine Sh.list (n := 0) fun z hz => ?_
  obtain ⟨m, _, rfl⟩ := List.mem_map.mp hz
  exact Sh.int
section
variable {c : Cx} {H B : PM} {cs : List Cell} {s : Shared} {A : Around} {x : Addr} {bs : List Blk} {sp bl lo : Addr} {ac nm : Value}
set_option maxHeartbeats 8000000 in
theorem pright_spec {fa : Addr} {gv : Value} {Q : Value → Shared → Prop} (V : Wd c) (R : Room A 3) (F : FnAt c fa (Str.ofString "_law_points_right") (Str.ofString "_law_points_right") (stAt 21) .none) (S : Own c H B cs s)
    (I : BodyB c B x bs sp bl lo ac nm) (ok : BodyOk bs) (rg : Rd B gv (goalsD bs)) (h : ∀ B' s', Own c H B' cs s' → Le B B' → Q (.bool true) s') :
    wpAny c.M A (call (.ref fa) [.ref x, gv]) Q NE s := by
  have W := V.w
  have Wc := V.cls
  have Ia := I.at_
  have Ir := I.rd
  unfold goalsD at rg
  obtain ⟨fn, hfn, Fn⟩ := W.next_points
  obtain ⟨fp, hfp, Fp⟩ := W.points
  obtain ⟨fq, hfq, Fq⟩ := W.predecessors
  have hl6 := ok.len
  have hl : (bs.map blkD).length < 2 ^ 62 := by rw [List.length_map]; omega
  refine enterC (binds := [(Str.ofString "body", .ref x), (Str.ofString "goals", gv)]) (lb := []) R W.glb F S rfl rfl (fun _ _ _ _ _ _ => rfl) rfl (by decide) (fun p hp => nomatch hp) ?_
  intro A' L cd s' R' S'
  replace S' : Own c H B ((L, frameP []) :: (L + 1 + 1 + 1, varP none) :: (L + 1 + 1, varP (some gv)) :: (L + 1, varP (some (.ref x))) :: cs) s' := S'
  refine runs_of ?_
  repeat (row_room_at m)
  row_room_at listC
  rename_i D s₁ hD S₁
  replace S₁ := S₁.swap
  repeat (row_room_at m)
  refine it_range (by assumption) R'.hd (by assumption) (by rw [List.length_map]; omega) fun it I₁ s₂ Wk S₂ => ?_
  refine loop_f Wk S₂ (Le.refl _) [(Str.ofString "due", .ref D)] (by row_room_at m_sub)
    (fun k B' cs' => ∃ ys v, cs' = (D, listP ys) :: (L + 1 + 1 + 1, varP v) :: (L + 1 + 1, varP (some gv)) :: (L + 1, varP (some (.ref x))) :: cs ∧ RdAll B' ys (pts (bs.take k))) ⟨[], none, rfl, .nil⟩ ?_ ?_ ?_
  · rintro k B' B'' cs' hle ⟨ys, v, e, hr⟩
    exact ⟨ys, v, e, hr.mono hle⟩
  · rintro k v H' B' cs' s' hk ⟨d, hd, rv⟩ ⟨ys, v₀, rfl, hr⟩ S hle
    rw [nats_len, List.length_map] at hk
    rw [nats_get (by rw [List.length_map]; exact hk)] at hd
    cases hd
    obtain ⟨tk, rfl⟩ := rv.int_inv
    obtain ⟨b, hb⟩ : ∃ b, bs[k]? = some b := ⟨bs[k], by simp⟩
    have bok := ok.ok b (List.mem_of_getElem? hb)
    have bl3 := bok.len
    have hlm : b.marks.length < 2 ^ 62 := by omega
    have hgb := goals_get hb
    have hbb := blk_get hb
    repeat (row_room_at m)
    refine it_range (by assumption) R'.hd (by assumption) (by row_room_at ar) fun it I₁ s₄ Wk₁ S₄ => ?_
    refine comp_map Wk₁ S₄ (Le.refl _) (fun d => match d with | .int i => ptD k i | _ => .none) ?_ ?_ (by rw [nats_len, sizeLine_eq]; omega)
    · intro d v H' B' s' C hd rv S hle
      obtain ⟨i, hi, rfl⟩ := List.mem_map.mp hd
      obtain ⟨ti, rfl⟩ := rv.int_inv
      repeat (row_room_at m)
      exact ⟨_, _, by assumption, by row_room_at m_le, by assumption⟩
    · intro D' zs B' s' hD hz S hle
      have e : (nats (b.marks.length + 1)).map (fun d => match d with | .int i => ptD k i | _ => .none) = rowPts k b := by
        simp [nats, rowPts, Function.comp_def]
      rw [e] at hz
      have h1 := hr.length
      have h2 := hz.length
      have h3 := ptsFrom_len (bs.take k) 0 fun b hb => (ok.ok b (List.mem_of_mem_take hb)).len
      have h4 : (pts (bs.take k)).length ≤ 24 := Nat.le_trans h3 (by rw [List.length_take]; omega)
      have h5 : (rowPts k b).length ≤ 4 := by simp [rowPts]; omega
      have h6 : ys.length + zs.length ≤ sizeLine := by rw [h1, h2, sizeLine_eq]; omega
      repeat (row_room_at m)
      refine next_spec (k := k) (i := b.marks.length) V (R'.le (by decide)) Fn (by assumption) (I.mono (by row_room_at m_le)) ok (by assumption) hb fun v₃ B₃ s₃ rn S₃ hle₃ => ?_
      repeat (row_room_at m)
      refine it_list (by assumption) R'.hd (by row_room_at m_rd) fun it I₁ s₅ Wk₅ S₅ => ?_
      have h3s := succs_len (small_of bok.e)
      refine comp_map Wk₅ S₅ (Le.refl _) (fun d => match d with | .int i => ptD i 0 | _ => .none) ?_ ?_ (by rw [List.length_map, sizeLine_eq]; omega)
      · intro d v H' B' s' C hd rv S hle
        obtain ⟨i, hi, rfl⟩ := List.mem_map.mp hd
        obtain ⟨ti, rfl⟩ := rv.int_inv
        repeat (row_room_at m)
        exact ⟨_, _, by assumption, by row_room_at m_le, by assumption⟩
      · intro D₆ ws B₆ s₆ hD₆ hw S₆ hle₆
        have e2 : (b.e.succs.map PyData.int).map (fun d => match d with | .int i => ptD i 0 | _ => .none) = nextD b k b.marks.length := by
          unfold nextD; rw [if_neg (Nat.lt_irrefl _)]; simp [Function.comp_def]
        rw [e2] at hw
        obtain ⟨B₇, hle₇, hr₇, S₇⟩ := S₆.frz hw
        have shn : Sh 2 (.list (nextD b k b.marks.length)) := by
          refine Sh.list (n := 1) fun y hy => ?_
          unfold nextD at hy
          rw [if_neg (Nat.lt_irrefl _)] at hy
          obtain ⟨g, _, rfl⟩ := List.mem_map.mp hy
          exact Sh.tuple (n := 0) (all_cons Sh.int (all_cons Sh.int all_nil))
        repeat (row_room_at m)
        refine ite_f (by rw [eqv_self shn]; rfl) ?_
        repeat (row_room_at m)
        have shm : Sh 3 (.list ((nats b.marks.length).map fun d => match d with | .int i => .list [ptD k (i + 1)] | _ => .none)) := by
          refine Sh.list (n := 2) fun y hy => ?_
          obtain ⟨d, hd, rfl⟩ := List.mem_map.mp hy
          obtain ⟨i, _, rfl⟩ := List.mem_map.mp hd
          exact Sh.list (n := 1) (all_cons (Sh.tuple (n := 0) (all_cons Sh.int (all_cons Sh.int all_nil))) all_nil)
        refine it_range (by assumption) R'.hd (by assumption) (by row_room_at ar) fun it I₁ s₈ Wk₈ S₈ => ?_
        refine comp_map Wk₈ S₈ (Le.refl _) (fun d => match d with | .int i => .list [ptD k (i + 1)] | _ => .none) ?_ ?_ (by rw [nats_len, sizeLine_eq]; omega)
        · intro d v H' B' s' C hd rv S hle
          obtain ⟨i, hi, rfl⟩ := List.mem_map.mp hd
          have hi' := List.mem_range.mp hi
          obtain ⟨ti, rfl⟩ := rv.int_inv
          repeat (row_room_at m)
          refine next_spec (k := k) (i := i) V (R'.le (by decide)) Fn (by assumption) (I.mono (by row_room_at m_le)) ok (by assumption) hb fun v₃ B₃ s₃ rn S₃ hle₃ => ?_
          unfold nextD at rn
          rw [if_pos hi'] at rn
          exact ⟨_, _, S₃, by row_room_at m_le, rn⟩
        · intro D₉ us B₉ s₉ hD₉ hu S₉ hle₉
          obtain ⟨B₁₀, hle₁₀, hr₁₀, S₁₀⟩ := S₉.frz hu
          repeat (row_room_at m)
          refine it_range (by assumption) R'.hd (by assumption) (by row_room_at ar) fun it I₁ s₁₁ Wk₁₁ S₁₁ => ?_
          refine comp_map Wk₁₁ S₁₁ (Le.refl _) (fun d => match d with | .int i => .list [ptD k (i + 1)] | _ => .none) ?_ ?_ (by rw [nats_len, sizeLine_eq]; omega)
          · intro d v H' B' s' C hd rv S hle
            obtain ⟨i, hi, rfl⟩ := List.mem_map.mp hd
            obtain ⟨ti, rfl⟩ := rv.int_inv
            repeat (row_room_at m)
            row_room_at listR
            exact ⟨_, _, by assumption, by row_room_at m_le, by assumption⟩
          · intro D₁₂ ws₂ B₁₂ s₁₂ hD₁₂ hw₂ S₁₂ hle₁₂
            obtain ⟨B₁₃, hle₁₃, hr₁₃, S₁₃⟩ := S₁₂.frz hw₂
            repeat (row_room_at m)
            refine ite_f (by rw [eqv_self shm]; rfl) ?_
            repeat (row_room_at m)
            refine ⟨rfl, _, _, _, S₁₃.drop, by row_room_at m_le, ⟨ys ++ zs, _, rfl, ?_⟩, by row_room_at m_sub⟩
            rw [pts_take hb]
            exact (RdAll.mono (by row_room_at m_le) hr).append (RdAll.mono (by row_room_at m_le) hz)
  · rintro B' cs' s' ⟨ys, v₀, rfl, hr⟩ S hle
    rw [nats_len, List.length_map, List.take_of_length_le (Nat.le_refl _)] at hr
    have hgl : (bs.map fun b => PyData.list (b.e.succs.map PyData.int)).length < 2 ^ 62 := by rw [List.length_map]; omega
    repeat (row_room_at m)
    refine it_range (by assumption) R'.hd (by assumption) (by rw [List.length_map]; omega) fun it I₁ s₄ Wk₁ S₄ => ?_
    refine comp_sc (y := Str.ofString "goal") Wk₁ S₄ (Le.refl _) (fun _ => rfl) (fun _ => rfl)
      (fun C k us B' cs' => ∃ w, cs' = (C + 1, varP w) :: (L, frameP [(Str.ofString "due", .ref D)]) :: (D, listP ys) :: (L + 1 + 1 + 1, varP v₀) :: (L + 1 + 1, varP (some gv)) :: (L + 1, varP (some (.ref x))) :: cs ∧ RdAll B' us ((List.range k).map fun j => .list (preD bs bs.length j)))
      (fun C => ⟨none, rfl, .nil⟩) ?_ ?_ ?_ rfl rfl (by rw [nats_len, List.length_map, sizeLine_eq]; omega)
    · rintro C k v us H' B' cs' s' hk hle' ⟨d, hd, rv⟩ ⟨w, rfl, hu⟩ S
      rw [nats_len, List.length_map] at hk
      rw [nats_get (by rw [List.length_map]; exact hk)] at hd
      cases hd
      obtain ⟨tk, rfl⟩ := rv.int_inv
      repeat (row_room_at m)
      refine it_range (by assumption) R'.hd (by assumption) (by rw [List.length_map]; omega) fun it₂ I₂ s₅ Wk₂ S₅ => ?_
      refine comp_c Wk₂ S₅ (Le.refl _) (fun m zs B'' => RdAll B'' zs (preD bs m k)) .nil ?_ (fun k ys B' B'' hle h => h.mono hle) ?_ rfl (by rw [nats_len, List.length_map, sizeLine_eq]; omega)
      · rintro m v zs H'' B₃ s₆ C₂ hm hle₃ ⟨d, hd, rd⟩ hz S₆
        rw [nats_len, List.length_map] at hm
        rw [nats_get (by rw [List.length_map]; exact hm)] at hd
        cases hd
        obtain ⟨tm, rfl⟩ := rd.int_inv
        obtain ⟨b, hb⟩ : ∃ b, bs[m]? = some b := ⟨bs[m], by simp⟩
        have bok := ok.ok b (List.mem_of_getElem? hb)
        have hgb := goals_get hb
        have h3 := succs_len (small_of bok.e)
        have e : preD bs (m + 1) k = preD bs m k ++ if (k : Int) ∈ b.e.succs then [.int m] else [] := by rw [preD_succ, scOf_get hb]; rfl
        rw [e]
        repeat (row_room_at m)
        refine ite_w (fun hq => ?_) (fun hq => ?_)
        · have hq := of_decide_eq_true hq
          repeat (row_room_at m)
          refine ⟨_, _, by row_room_at m_le, ?_, by assumption⟩
          rw [if_pos hq]
          exact hz.snoc (.int _ _)
        · have hq := of_decide_eq_false hq
          refine ⟨_, _, by row_room_at m_le, ?_, by assumption⟩
          rw [if_neg hq, List.append_nil]
          exact hz
      · intro D₂ zs B₃ s₆ hle₃ hD₂ hzl hz S₆
        rw [nats_len, List.length_map] at hz
        obtain ⟨B₄, hle₄, hr₄, S₇⟩ := S₆.frz hz
        refine ⟨B₄, _, _, by row_room_at m_le, ⟨_, rfl, ?_⟩, S₇⟩
        rw [List.range_succ, List.map_append]
        exact (RdAll.mono (by row_room_at m_le) hu).snoc hr₄
    · rintro C k us B' B'' cs' hle' ⟨w, rfl, hu⟩
      exact ⟨w, rfl, hu.mono hle'⟩
    · rintro C E us B' cs' hle' hE hul ⟨w, rfl, hu⟩
      rw [nats_len, List.length_map] at hu
      refine ⟨_, _, by row_room_at m_upd, fun s₂ S₂ => ?_⟩
      have S₃ : Own c H B' ((E, listP us) :: (C + 1, varP w) :: (L, frameP [(Str.ofString "ahead", .ref E), (Str.ofString "due", .ref D)]) :: (D, listP ys) :: (L + 1 + 1 + 1, varP v₀) :: (L + 1 + 1, varP (some gv)) :: (L + 1, varP (some (.ref x))) :: cs) s₂ := S₂
      obtain ⟨B₄, hle₄, hr₄, S₅⟩ := S₃.frz hu
      have S₆ : Own c H B₄ ((D, listP ys) :: (C + 1, varP w) :: (L, frameP [(Str.ofString "ahead", .ref E), (Str.ofString "due", .ref D)]) :: (L + 1 + 1 + 1, varP v₀) :: (L + 1 + 1, varP (some gv)) :: (L + 1, varP (some (.ref x))) :: cs) s₂ := S₅.perm (List.perm_middle (l₁ := [_, _]))
      obtain ⟨B₅, hle₅, hr₅, S₇⟩ := S₆.frz (hr.mono (by row_room_at m_le))
      clear S₂ S₃ S₅ S₆
      repeat (row_room_at m)
      refine points_spec V (R'.le (by decide)) Fp (by assumption) (I.mono (by row_room_at m_le)) ok fun v₈ B₈ s₈ rn₈ S₈ hle₈ => ?_
      have shp : Sh 2 (.list (pts bs)) := sh_pts bs
      repeat (row_room_at m)
      refine ite_t (eqv_self shp) ?_
      repeat (row_room_at m)
      refine pred_spec V (R'.le (by decide)) Fq (by assumption) (I.mono (by row_room_at m_le)) ok fun v₉ B₉ s₉ rn₉ S₉ hle₉ => ?_
      have shq : Sh 2 (predD bs) := sh_pred bs
      unfold predD at shq rn₉
      repeat (row_room_at m)
      rw [eqv_self shq]
      exact h _ _ S₉.drop.drop.drop.drop.drop (by row_room_at m_le)
end
theorem keep_of {K : Frag} {C : Addr} (h : makesIn K C = true) : keepIn K (.ref C) = true := by
  unfold makesIn at h
  unfold keepIn
  split at h
  · rename_i q
    simp only [Bool.and_eq_true] at h
    dsimp only
    rw [q]
    dsimp only
    exact h.1.2
  · cases h
section
variable {c : Cx} {H B : PM} {cs : List Cell} {s : Shared} {A : Around} {x dx : Addr} {env : Env} {pos : Pos}
theorem cw_cls {e : Expr} {args : List Expr} {Q : Value → Shared → Prop} (Wc : ClsW c)
    (h : wpAny c.M A (spliced (backTo pos (starEach (e :: args) env))) (fun vs s₁ => Live c s₁ ∧ wpAny c.M A (call (.ref c.C) vs) Q NE s₁) NE s)
    (he : starEach (e :: args) env = (false, eval e env) :: starEach args env := by rfl) (hp : (backTo pos (starEach args env)).any (·.1) = false := by rfl) :
    wpAny c.M A (callWith pos (.ref c.C) [] (backTo pos (starEach (e :: args) env)) []) Q NE s := by
  refine callWith_K Wc.kin (keep_of Wc.makes) (wpAny_mono h (fun vs s₁ q => ?_) fun _ _ q => q) he hp
  obtain ⟨⟨H', B', cs', T⟩, q⟩ := q
  exact ⟨Wc.kin.keeps T.keepG, q⟩
theorem enterK {n : Nat} {fa : Addr} {name qual : Str} {st : Stmt} {dV : Value} {args : List Value} {binds : List (Str × Value)} {Q : Value → Shared → Prop} (R : Room A (n + 1)) (G : Glb c) (F : FnAt c fa name qual st dV) (S : Own c H B cs s) {names : List (Str × NameKind)} {more : List (Str × Const)} {b : Stmt} {bs : List Stmt}
    (hsc : stScope st = ⟨.function, names, false, false, more⟩) (hb : stBody st = b :: bs)
    (hbind : ∀ kV doc pm an cdv ct, BindsTo s (fnM name qual st [] dV kV doc pm an cdv ct) ⟨args, []⟩ binds)
    (hcell : ∀ x ∈ names, x.2 ≠ .cell) (hloc : (binds.all fun x => decide (names.lookup x.1 = some .local)) = true)
    (h : ∀ A' L cd s', Room A' n → Own c H B ((L, frameP binds.reverse) :: cs) s' →
      wpAny c.M A' (execs (b :: bs) (fEnv ⟨.function, names, false, false, more⟩ qual L fa cd [])) (fun f s'' => Q (retv f) s'') NE s') :
    codeAny c.M A (.call (.ref fa) ⟨args, []⟩) (fun r s' => match r with | .ok (.ret v) => Q v s' | .ok _ => False | .error e => NE e s') s := by
  obtain ⟨o, kV, doc, pm, an, cdv, ct, ho, hd, hcd⟩ := F
  have hloc : ∀ x ∈ binds, (stScope st).names.lookup x.1 = some .local := by rw [hsc]; exact fun x hx => of_decide_eq_true (List.all_eq_true.mp hloc x hx)
  have hcell : ∀ x ∈ (stScope st).names, x.2 ≠ .cell := by rw [hsc]; exact hcell
  have hco : (stScope st).isCoroutine = false := by rw [hsc]
  have hgen : (stScope st).isGenerator = false := by rw [hsc]
  have hk : (stScope st).kind = .function := by rw [hsc]
  rw [← hsc, ← hb] at h
  refine codeAny_call_def (body := stBody st) (binds := binds) R.d (S.keepG _ _ ho) hd (G.nolimit.keeps S.keepG) (hcd.keeps S.keepG) rfl (hbind _ _ _ _ _ _) hcell hloc (fun h₀ hn hk₀ => ?_) hco hgen hk
  refine wpAny_mono (h _ _ _ _ (R.deeper _) (S.add (t := s.toks + binds.length) hk₀ ?_ (reverse_lookup_frame hn))) (fun f s'' q => q) (fun _ _ q => q.elim)
  cases e : s.heap.get? s.heap.objs.size with
  | none => rfl
  | some o' => exact absurd (Heap.lt_size e) (Nat.lt_irrefl _)
theorem make_ {rest : List Value} {n : Nat} {dV : Value} {Q : Value → Shared → Prop} (Wc : ClsW c) (R : Room A (n + 1)) (S : Own c H B cs s) (M : Meth c (Str.ofString "__init__") (Str.ofString "Body.__init__") 0 dV)
    (h : ∀ A' fI x dx B' s', Room A' n → FnAt c fI (Str.ofString "__init__") (Str.ofString "Body.__init__") (methAt 0) dV → Le B B' → B' x = some (instObj c.C dx) → Own c H B' ((dx, attrP []) :: cs) s' →
      codeAny c.M A' (.call (.ref fI) ⟨.ref x :: rest, []⟩) (fun r s' => match r with | .ok (.ret v) => v = .none ∧ Q (.ref x) s' | .ok _ => False | .error e => NE e s') s') :
    wpAny c.M A (call (.ref c.C) rest) Q NE s := by
  obtain ⟨f, hf, ht, F⟩ := M
  have X := Wc.kin.keeps S.keepG
  have S₁ := S.push (t := s.toks) (P := attrP []) (o := emptyDict) ⟨#[], _, rfl, fun _ he => by simp at he, by simp [UniqKeys], fun _ => rfl⟩ rfl
  have S₂ := S₁.push (t := s.toks) (P := fun o => o = instObj c.C s.heap.objs.size) (o := instObj c.C s.heap.objs.size) rfl rfl
  obtain ⟨B', o, hle, hb, rfl, hn, S₃⟩ := S₂.freeze
  dsimp only at hb S₃
  rw [Heap.size_push] at hb
  have hX := h (A.under (.builtin "type.__call__" ⟨.ref c.C :: rest, []⟩)) f _ _ B' _ (room_under R) F hle hb S₃
  clear S₁ S₂ S₃ h
  obtain ⟨hh, g, d, t, os⟩ := s
  refine wpAny_call (make_core (makes_of X Wc.makes) (looks_findIn X hf) (fun self => bind_fn X self ht) (.inl rfl) (codeAny_mono hX fun r s' q => ?_))
  cases r with
  | ok fl =>
    cases fl with
    | ret v => exact q
    | _ => exact q.elim
  | error e => exact q.elim
end
section
variable {c : Cx} {H B : PM} {cs : List Cell} {s : Shared} {A : Around} {x dx : Addr} {env : Env} {pos : Pos}
set_option maxHeartbeats 4000000 in
theorem init5_spec {nm ac lt : Value} {ls : List PyData} {bl sp : Addr} {Q : Value → Shared → Prop} (V : Wd c) (R : Room A 3) (S : Own c H B cs s) (rl : Rd B lt (.list ls)) (hl : ls.length ≤ sizeLine)
    (h : ∀ x lo B' s', BodyAt c B' x (bodyEnv sp bl lo ac nm) → Rd B' (.ref lo) (.list ls) → Own c H B' cs s' → Le B B' → Q (.ref x) s') :
    wpAny c.M A (call (.ref c.C) [nm, ac, lt, .ref bl, .ref sp]) Q NE s := by
  have W := V.w
  have Wc := V.cls
  obtain ⟨T, oT, nT, hT, hoT, M⟩ := V.init
  refine make_ Wc R S M fun A' fI x dx B' s' R' FI hle hx S' => ?_
  refine enterK (binds := [(Str.ofString "self", .ref x), (Str.ofString "name", nm), (Str.ofString "arg_count", ac), (Str.ofString "locals_told", lt), (Str.ofString "blocks", .ref bl), (Str.ofString "spots", .ref sp)]) (Q := fun v s' => v = .none ∧ Q (.ref x) s') R' W.glb FI S' rfl rfl (fun _ _ _ _ _ _ => BindsTo.of_defaults rfl (S'.keepG _ _ hT) hoT rfl rfl) (by decide) rfl ?_
  intro A'' L cd s'' R'' S''
  refine runs_of ?_
  repeat (row_room_at m)
  row_room_at ifx
  repeat (row_room_at m)
  refine ite_f rfl ?_
  repeat (row_room_at m)
  row_room_at ifx
  repeat (row_room_at m)
  refine ite_f rfl ?_
  repeat (row_room_at m)
  rename_i T
  obtain ⟨B₁, hle₁, rlo, S₁⟩ := T.frz (ds := ls) (by assumption)
  obtain ⟨B₂, o, hle₂, hb, hp, _, S₂⟩ := S₁.drop.freeze
  exact ⟨rfl, h x _ B₂ _ ⟨dx, o, hle₂ _ _ (hle₁ _ _ hx), hb, hp⟩ (rlo.mono hle₂) S₂ (by row_room_at m_le)⟩
set_option maxHeartbeats 4000000 in
theorem init3_spec {nm ac lt : Value} {ls : List PyData} {Q : Value → Shared → Prop} (V : Wd c) (R : Room A 3) (S : Own c H B cs s) (rl : Rd B lt (.list ls)) (hl : ls.length ≤ sizeLine)
    (h : ∀ x lo bl sp B' s', BodyAt c B' x (bodyEnv sp bl lo ac nm) → Rd B' (.ref lo) (.list ls) → Own c H B' ((sp, tdP c []) :: (bl, listP []) :: cs) s' → Le B B' → Q (.ref x) s') :
    wpAny c.M A (call (.ref c.C) [nm, ac, lt]) Q NE s := by
  have W := V.w
  have Wc := V.cls
  obtain ⟨T, oT, nT, hT, hoT, M⟩ := V.init
  refine make_ Wc R S M fun A' fI x dx B' s' R' FI hle hx S' => ?_
  refine enterK (binds := [(Str.ofString "self", .ref x), (Str.ofString "name", nm), (Str.ofString "arg_count", ac), (Str.ofString "locals_told", lt), (Str.ofString "blocks", .none), (Str.ofString "spots", .none)]) (Q := fun v s' => v = .none ∧ Q (.ref x) s') R' W.glb FI S' rfl rfl (fun _ _ _ _ _ _ => BindsTo.of_defaults rfl (S'.keepG _ _ hT) hoT rfl rfl) (by decide) rfl ?_
  intro A'' L cd s'' R'' S''
  refine runs_of ?_
  repeat (row_room_at m)
  row_room_at ifx
  repeat (row_room_at m)
  refine ite_t rfl ?_
  repeat (row_room_at m)
  row_room_at listC
  repeat (row_room_at m)
  row_room_at ifx
  repeat (row_room_at m)
  refine ite_t rfl ?_
  refine e_dict0 (by assumption) ?_
  intro spd s₅ hsp S₅
  replace S₅ := S₅.weak (fun o e => tdP_new (c := c) e)
  repeat (row_room_at m)
  rename_i T
  obtain ⟨B₁, hle₁, rlo, S₁⟩ := (T.perm (List.perm_middle (l₁ := [_, _]))).frz (ds := ls) (by assumption)
  obtain ⟨B₂, o, hle₂, hb, hp, _, S₂⟩ := ((S₁.perm (List.perm_middle (l₁ := [_, _]))).drop.perm (List.perm_middle (l₁ := [_, _]))).freeze
  exact ⟨rfl, h x _ _ _ B₂ _ ⟨dx, o, hle₂ _ _ (hle₁ _ _ hx), hb, hp⟩ (rlo.mono hle₂) S₂ (by row_room_at m_le)⟩
theorem gm_get {pl : Sem Bool} {d : Addr} {ps} {Q : Value × List Value → Shared → Prop} (D : DictAt c B s d ps) (h : Q (.builtin "dict.get", [.ref d]) s) : wpAny c.M A (getMethod (.ref d) (Str.ofString "get") pl) Q NE s := by
  obtain ⟨_, xs, o, ho, ⟨hx, _⟩, _⟩ := D
  exact getMethod_builtin ⟨_, ho, hx.1⟩ PySem.F.plainAttrs_dict PySem.F.slot_dict_get PySem.F.type_dict_get (fun b e => by cases e; exact ⟨_, ho, hx.2.1⟩) h
theorem spot_spec {fs : Addr} {x : Addr} {sp bl lo : Addr} {ac nm : Value} {a : Addr} {p : Pt} {ps : List (Pt × Int)} {Q : Value → Shared → Prop} (V : Wd c) (R : Room A 2) (F : FnAt c fs (Str.ofString "spot") (Str.ofString "Body.spot") (methAt 5) .none) (S : Own c H B cs s)
    (I : BodyAt c B x (bodyEnv sp bl lo ac nm)) (D : SpB c B sp ps) (r : Rd B (.ref a) (ptD p.1 p.2)) (h : ∀ t s', Own c H B cs s' → Q (.int ((ps.lookup p).getD 0) t) s') :
    wpAny c.M A (call (.ref fs) [.ref x, .ref a]) Q NE s := by
  have W := V.w
  have Wc := V.cls
  refine enter (binds := [(Str.ofString "self", .ref x), (Str.ofString "point", .ref a)]) R W.glb F S rfl rfl (fun _ _ _ _ _ _ => BindsTo.of_eq rfl) (by decide) rfl ?_
  intro A' L cd s' R' S'
  refine runs_of ?_
  repeat (row_room_at m)
  rename_i S₁
  refine gm_get (D.at_ S₁) ?_
  repeat (row_room_at m)
  rename_i S₂
  refine td_getd (D.at_ S₂) R' S₂ r fun t s₃ S₃ => h t s₃ S₃.drop
end
section
variable {c : Cx} {H B : PM} {cs : List Cell} {s : Shared} {A : Around} {x : Addr} {bs : List Blk} {sp bl lo : Addr} {ac nm : Value}
set_option maxHeartbeats 4000000 in
theorem copied_spec {fa : Addr} {ls : List PyData} {ps : List (Pt × Int)} {Q : Value → Shared → Prop} (V : Wd c) (R : Room A 4) (F : FnAt c fa (Str.ofString "copied") (Str.ofString "copied") (stAt 10) .none) (S : Own c H B cs s)
    (I : BodyB c B x bs sp bl lo ac nm) (ok : BodyOk bs) (D : SpB c B sp ps) (sm : Small ps) (rl : Rd B (.ref lo) (.list ls)) (hl : ls.length ≤ sizeLine) (hnm : handedIn nm = true) (hac : handedIn ac = true)
    (h : ∀ y bl' r0 m0 t0 vs rest sp' xs lo' B' s', BodyAt c B' y (bodyEnv sp' bl' lo' ac nm) → Td B' xs ps → vs.length ≤ 3 → Own c H B' ((sp', tdP c xs) :: (bl', listP (.ref r0 :: rest)) :: (r0, listP [.ref m0, t0]) :: (m0, listP vs) :: cs) s' → Le B B' → Q (.ref y) s') :
    wpAny c.M A (call (.ref fa) [.ref x]) Q NE s := by
  have W := V.w
  have Wc := V.cls
  have Ia := I.at_
  have Ir := I.rd
  have hl6 := ok.len
  have hp := ok.pos
  refine enter (binds := [(Str.ofString "body", .ref x)]) R W.glb F S rfl rfl (fun _ _ _ _ _ _ => BindsTo.of_eq rfl) (by decide) rfl ?_
  intro A' L cd s' R' S'
  replace S' : Own c H B ((L, frameP [(Str.ofString "body", .ref x)]) :: cs) s' := S'
  refine runs_of ?_
  repeat (row_room_at m)
  refine it_list (by assumption) R'.hd (by row_room_at m_rd) fun it I₁ s₂ Wk S₂ => ?_
  refine comp_s Wk S₂ (Le.refl _) (fun k ys B' cs' => (k = 0 ∧ ys = [] ∧ cs' = (L, frameP [(Str.ofString "body", .ref x)]) :: cs) ∨
    ∃ r0 m0 t0 vs rest, 0 < k ∧ ys = .ref r0 :: rest ∧ vs.length ≤ 3 ∧ cs' = (r0, listP [.ref m0, t0]) :: (m0, listP vs) :: (L, frameP [(Str.ofString "body", .ref x)]) :: cs) (.inl ⟨rfl, rfl, rfl⟩) ?_ ?_ ?_ rfl rfl rfl (by rw [List.length_map, sizeLine_eq]; omega)
  · rintro k v ys H' B' cs' s₃ C hk hle ⟨d, hd, rv⟩ hj S₃
    rw [List.getElem?_map] at hd
    obtain ⟨b, hb, rfl⟩ := Option.map_eq_some_iff.mp hd
    have bok := ok.ok b (List.mem_of_getElem? hb)
    have hlm : b.marks.length ≤ sizeLine := by have := bok.len; rw [sizeLine_eq]; omega
    repeat (row_room_at m)
    row_room_at listC
    rename_i T
    have hv3 := RdAll.length (by assumption : RdAll _ _ b.marks)
    have hb3 := bok.len
    rcases hj with ⟨rfl, rfl, rfl⟩ | ⟨r0, m0, t0, vs, rest, h1, rfl, h2, rfl⟩
    · exact ⟨_, _, _, Le.refl _, .inr ⟨_, _, _, _, [], by omega, rfl, by omega, rfl⟩, T.perm (List.perm_middle (l₁ := [_, _]))⟩
    · exact ⟨_, _, _, Le.refl _, .inr ⟨r0, m0, t0, vs, rest ++ [_], by omega, rfl, h2, rfl⟩, T.drop.drop⟩
  · rintro k ys B' B'' cs' hle hj
    exact hj
  · rintro D' ys B' cs' hle hD hlen hj
    rw [List.length_map] at hj
    rcases hj with ⟨h1, rfl, rfl⟩ | ⟨r0, m0, t0, vs, rest, h1, rfl, h2, rfl⟩
    · omega
    refine ⟨_, _, .tail (.tail (.tail .head)), fun s₅ S₅ => ?_⟩
    have gb := V.gbody
    have D₁ := D.mono hle
    replace S₅ : Own c H B' ((D', listP (.ref r0 :: rest)) :: (r0, listP [.ref m0, t0]) :: (m0, listP vs) :: (L, frameP [(Str.ofString "blocks", Value.ref D'), (Str.ofString "body", Value.ref x)]) :: cs) s₅ := S₅
    repeat (row_room_at m)
    refine cw_cls Wc ?_
    repeat (row_room_at m)
    rename_i T
    refine td_copy W.glb (D₁.at_ T) T sm fun d' xs s₆ hd' hxs S₆ => ?_
    repeat (row_room_at m)
    refine init5_spec V R' S₆ (ls := ls) (by row_room_at m_rd) hl fun y lo' B₇ s₇ hy hlo S₇ hle₇ => ?_
    refine h y D' r0 m0 t0 vs rest d' xs lo' B₇ _ hy (hxs.mono hle₇) h2 ?_ (by row_room_at m_le)
    exact (S₇.perm (List.perm_middle (l₁ := [_, _, _, _]))).drop
end
noncomputable abbrev shB (b : Blk) : PyData := .list [.tuple b.marks, b.e.d]
noncomputable def shD (bs : List Blk) : PyData := .list (bs.map shB)
noncomputable def shF (d : PyData) : PyData := match d with | .list [.list ms, e] => .list [.tuple ms, e] | _ => .none
section
variable {c : Cx} {H B : PM} {cs : List Cell} {s : Shared} {A : Around} {x : Addr} {bs : List Blk} {sp bl lo : Addr} {ac nm : Value}
set_option maxHeartbeats 4000000 in
theorem shown_spec {fa : Addr} {ps : List (Pt × Int)} {Q : Value → Shared → Prop} (V : Wd c) (R : Room A 2) (F : FnAt c fa (Str.ofString "_law_shown") (Str.ofString "_law_shown") (stAt 19) .none) (S : Own c H B cs s)
    (I : BodyB c B x bs sp bl lo ac nm) (ok : BodyOk bs) (D : SpB c B sp ps) (sm : Small ps)
    (h : ∀ v B' s', ShownAt c B' v (shD bs) ps → Own c H B' cs s' → Le B B' → Q v s') :
    wpAny c.M A (call (.ref fa) [.ref x]) Q NE s := by
  have W := V.w
  have Wc := V.cls
  have Ia := I.at_
  have Ir := I.rd
  have hl6 := ok.len
  refine enter (binds := [(Str.ofString "body", .ref x)]) R W.glb F S rfl rfl (fun _ _ _ _ _ _ => BindsTo.of_eq rfl) (by decide) rfl ?_
  intro A' L cd s' R' S'
  replace S' : Own c H B ((L, frameP [(Str.ofString "body", .ref x)]) :: cs) s' := S'
  refine runs_of ?_
  repeat (row_room_at m)
  refine it_list (by assumption) R'.hd (by row_room_at m_rd) fun it I₁ s₂ Wk S₂ => ?_
  refine comp_map Wk S₂ (Le.refl _) shF ?_ ?_ (by rw [List.length_map, sizeLine_eq]; omega)
  · intro d v H' B' s₃ C hd rv S₃ hle
    obtain ⟨b, hb, rfl⟩ := List.mem_map.mp hd
    have bok := ok.ok b hb
    have hlm : b.marks.length ≤ sizeLine := by have := bok.len; rw [sizeLine_eq]; omega
    repeat (row_room_at m)
    row_room_at listR
    exact ⟨_, _, by assumption, by row_room_at m_le, by assumption⟩
  · intro D' ys B' s₃ hD hy S₃ hle
    have e : (bs.map blkD).map shF = bs.map shB := by rw [List.map_map]; rfl
    rw [e] at hy
    obtain ⟨B₁, hle₁, rD, S₄⟩ := S₃.frz hy
    have D₁ := D.mono (hle.trans hle₁)
    repeat (row_room_at m)
    rename_i T
    refine td_copy W.glb (D₁.at_ T) T sm fun d' xs s₆ hd' hxs S₆ => ?_
    obtain ⟨B₂, hle₂, hsp, S₇⟩ := frz_td W.glb S₆ hxs
    repeat (row_room_at m)
    refine newTupleB S₇ (Nat.le_of_ble_eq_true rfl) fun a o B₃ s₈ hle₃ hb hp S₈ => ?_
    exact h _ B₃ _ ⟨a, o, _, d', rfl, hb, hp, rD.mono (hle₂.trans hle₃), hsp.mono hle₃⟩ S₈.drop (by row_room_at m_le)
end
theorem sorted_eq : ∀ {l l' : List Int}, l.Pairwise (· ≤ ·) → l'.Pairwise (· ≤ ·) → l.Nodup → l'.Nodup → (∀ a, a ∈ l ↔ a ∈ l') → l = l'
  | [], [], _, _, _, _, _ => rfl
  | [], b :: _, _, _, _, _, h => nomatch (h b).mpr (List.mem_cons_self ..)
  | a :: _, [], _, _, _, _, h => nomatch (h a).mp (List.mem_cons_self ..)
  | a :: l, b :: l', p, p', n, n', h => by
    have p := List.pairwise_cons.mp p
    have p' := List.pairwise_cons.mp p'
    have n := List.nodup_cons.mp n
    have n' := List.nodup_cons.mp n'
    have e : a = b := by
      rcases List.mem_cons.mp ((h a).mp (List.mem_cons_self ..)) with q | q
      · exact q
      rcases List.mem_cons.mp ((h b).mpr (List.mem_cons_self ..)) with r | r
      · exact r.symm
      have := p.1 b r
      have := p'.1 a q
      omega
    subst e
    rw [sorted_eq p.2 p'.2 n.2 n'.2 fun x => ⟨fun hx => ?_, fun hx => ?_⟩]
    · rcases List.mem_cons.mp ((h x).mp (List.mem_cons_of_mem _ hx)) with q | q
      · subst q; exact absurd hx n.1
      · exact q
    · rcases List.mem_cons.mp ((h x).mpr (List.mem_cons_of_mem _ hx)) with q | q
      · subst q; exact absurd hx n'.1
      · exact q
theorem sh_shown {bs : List Blk} (ok : BodyOk bs) : Sh 7 (shD bs) := by
  refine Sh.list (n := 6) fun d hd => ?_
  obtain ⟨b, hb, rfl⟩ := List.mem_map.mp hd
  have bok := ok.ok b hb
  refine Sh.list (n := 5) (all_cons ?_ (all_cons (End.sh bok.e.keys) all_nil))
  exact (Sh.tuple (n := 3) bok.marks).mono
noncomputable def pl : Nat → List Blk → List Pt
  | _, [] => []
  | k, b :: bs => (List.range (b.marks.length + 1)).map (fun i => (k, i)) ++ pl (k + 1) bs
theorem pts_pl : ∀ (bs : List Blk) (k : Nat), ptsFrom k bs = (pl k bs).map fun p => ptD p.1 p.2
  | [], _ => rfl
  | b :: bs, k => by
    show rowPts k b ++ ptsFrom (k + 1) bs = _
    rw [pts_pl bs (k + 1)]
    simp [pl, rowPts, Function.comp_def]
theorem pl_mem : ∀ (bs : List Blk) (k : Nat) (p : Pt), p ∈ pl k bs → ∃ b, k ≤ p.1 ∧ bs[p.1 - k]? = some b ∧ p.2 ≤ b.marks.length
  | [], _, _, h => nomatch h
  | b :: bs, k, p, h => by
    rcases List.mem_append.mp h with h | h
    · obtain ⟨i, hi, rfl⟩ := List.mem_map.mp h
      have := List.mem_range.mp hi
      exact ⟨b, Nat.le_refl _, by simp, by dsimp only; omega⟩
    · obtain ⟨b', h1, h2, h3⟩ := pl_mem bs (k + 1) p h
      refine ⟨b', by omega, ?_, h3⟩
      rw [show p.1 - k = (p.1 - (k + 1)) + 1 by omega, List.getElem?_cons_succ]
      exact h2
theorem mem_pl : ∀ (bs : List Blk) (k j i : Nat) (b : Blk), bs[j]? = some b → i ≤ b.marks.length → (k + j, i) ∈ pl k bs
  | [], _, _, _, _, h, _ => by simp at h
  | b :: bs, k, 0, i, b', h, hi => by
    simp at h; subst h
    exact List.mem_append_left _ (List.mem_map.mpr ⟨i, List.mem_range.mpr (by omega), rfl⟩)
  | b :: bs, k, j + 1, i, b', h, hi => by
    have := mem_pl bs (k + 1) j i b' (by simpa using h) hi
    rw [show k + 1 + j = k + (j + 1) by omega] at this
    exact List.mem_append_right _ this
theorem pl_nodup : ∀ (bs : List Blk) (k : Nat), (pl k bs).Nodup
  | [], _ => List.nodup_nil
  | b :: bs, k => by
    show (_ ++ pl (k + 1) bs).Nodup
    rw [List.nodup_append]
    refine ⟨?_, pl_nodup bs (k + 1), ?_⟩
    · exact List.nodup_range.map (fun x => (k, x)) (fun i j hij e => hij (Prod.mk.inj e).2)
    · intro x hx y hy e
      subst e
      obtain ⟨i, _, rfl⟩ := List.mem_map.mp hx
      obtain ⟨_, h1, _⟩ := pl_mem bs (k + 1) _ hy
      dsimp only at h1; omega
theorem pl_len {bs : List Blk} (h : ∀ b ∈ bs, b.marks.length ≤ 3) (k : Nat) : (pl k bs).length ≤ 4 * bs.length := by
  have := ptsFrom_len bs k h
  rw [pts_pl, List.length_map] at this
  exact this
noncomputable def spo (l : List Pt) : List (Pt × Int) := l.zipIdx.map fun q => (q.1, 100 + (q.2 : Int))
theorem spo_key {l : List Pt} {q : Pt × Int} (h : q ∈ spo l) : q.1 ∈ l := by
  obtain ⟨⟨p, i⟩, hm, rfl⟩ := List.mem_map.mp h
  exact List.fst_mem_of_mem_zipIdx hm
theorem spo_keys (l : List Pt) : (spo l).map (·.1) = l := by
  unfold spo
  rw [List.map_map]
  exact List.zipIdx_map_fst 0 l
theorem spo_take {l : List Pt} {k : Nat} {p : Pt} (nd : l.Nodup) (h : l[k]? = some p) : putP (spo (l.take k)) p (100 + (k : Int)) = spo (l.take (k + 1)) := by
  have hk := get_lt h
  rw [put_new]
  · rw [List.take_add_one, h]
    unfold spo
    rw [Option.toList_some, List.zipIdx_append, List.map_append, List.length_take, Nat.min_eq_left (Nat.le_of_lt hk)]
    simp
  · intro q hq e
    have hm := spo_key hq
    rw [e] at hm
    obtain ⟨j, hj, ej⟩ := List.mem_iff_getElem.mp hm
    rw [List.length_take] at hj
    rw [List.getElem_take] at ej
    have hk' : l[k] = p := by rw [List.getElem?_eq_getElem hk] at h; exact Option.some.inj h
    have := (List.getElem_inj nd).mp (ej.trans hk'.symm)
    omega
theorem lookup_some {ps : List (Pt × Int)} {p : Pt} (h : p ∈ ps.map (·.1)) : (ps.lookup p).isSome = true := by
  induction ps with
  | nil => simp at h
  | cons q ps ih =>
    rw [List.lookup_cons]
    cases e : p == q.1 with
    | true => rfl
    | false =>
      rcases List.mem_cons.mp h with rfl | h
      · simp at e
      · exact ih h
theorem spo_some {l : List Pt} {p : Pt} (h : p ∈ l) : ((spo l).lookup p).isSome = true := lookup_some (by rw [spo_keys]; exact h)
theorem spo_small {bs : List Blk} (ok : BodyOk bs) : Small (spo (pl 0 bs)) := by
  have h1 := pl_len (fun b hb => (ok.ok b hb).len) 0
  have h2 := ok.len
  refine ⟨fun e => ?_, by unfold spo; rw [List.length_map, List.length_zipIdx]; omega, fun q hq => ?_⟩
  · obtain ⟨b, hb⟩ : ∃ b, bs[0]? = some b := ⟨bs[0]'ok.pos, by simp⟩
    have := mem_pl bs 0 0 0 b hb (Nat.zero_le _)
    rw [← spo_keys (pl 0 bs), e] at this
    simp at this
  · obtain ⟨b, h3, h4, h5⟩ := pl_mem bs 0 _ (spo_key hq)
    have h6 := get_lt h4
    have h7 := (ok.ok b (List.mem_of_getElem? h4)).len
    omega
theorem map_map (f g : Int → Int) : ∀ e : End, (e.map f).map g = e.map (fun x => g (f x))
  | .goto _ | .call1 _ | .drop _ | .asrt _ | .call0 | .ret | .panic | .unreach => rfl
  | .switch rows rest => by simp [End.map, Function.comp_def]
theorem map_id (e : End) : e.map (fun x => x) = e := by cases e <;> simp [End.map]
theorem map_congr {f g : Int → Int} : ∀ (e : End), (∀ x, some x ∈ e.told → f x = g x) → e.map f = e.map g
  | .goto x, h | .call1 x, h | .drop x, h | .asrt x, h => by simp only [End.map]; rw [h x (List.mem_singleton.mpr rfl)]
  | .call0, _ | .ret, _ | .panic, _ | .unreach, _ => rfl
  | .switch rows rest, h => by
    simp only [End.map, End.switch.injEq]
    constructor
    · refine List.map_congr_left fun p hp => ?_
      rw [h p.2 (List.mem_append_left _ (List.mem_map.mpr ⟨p, hp, rfl⟩))]
    · cases rest with
      | none => rfl
      | some r => simp only [Option.map_some]; rw [h r (List.mem_append_right _ (List.mem_singleton.mpr rfl))]
theorem nine_nine (e : End) : (e.map fun g => 9 - g).map (fun g => 9 - g) = e := by
  rw [map_map]
  have : (fun x : Int => 9 - (9 - x)) = fun x => x := by funext x; omega
  rw [this, map_id]
theorem map_small {e : End} {f : Int → Int} (h : e.small) : (e.map f).small := fun rows rest q => by
  cases e with
  | switch r r' => simp only [End.map, End.switch.injEq] at q; rw [← q.1, List.length_map]; exact h r r' rfl
  | _ => cases q
section
variable {c : Cx} {H B : PM} {cs : List Cell} {s : Shared} {A : Around} {x : Addr} {bs : List Blk} {sp bl lo : Addr} {ac nm : Value}
noncomputable def wbQual : Str := Str.ofString "with_blocks" ++ ".<locals>." ++ "<lambda>"
set_option maxHeartbeats 8000000 in
theorem wblocks_spec {fa cc P : Addr} {kv : Value} {ks : List Int} {tps : Array Value} {ls : List PyData} {ps : List (Pt × Int)} {Q : Value → Shared → Prop} (V : Wd c) (R : Room A 4) (F : FnC c fa (Str.ofString "with_blocks") (Str.ofString "with_blocks") (stAt 9) .none (.ref cc)) (C : CodeHd c.g cc P) (hbt : c.g.BuiltinsAt c.mg P)
    (S : Own c H B ((P, tabP tps) :: cs) s) (hT : TabOk B wbQual tps)
    (I : BodyB c B x bs sp bl lo ac nm) (ok : BodyOk bs) (D : SpB c B sp ps) (rl : Rd B (.ref lo) (.list ls)) (hl : ls.length ≤ sizeLine) (hnm : handedIn nm = true) (hac : handedIn ac = true)
    (rk : Rd B kv (.list (ks.map PyData.int))) (hnd : ks.Nodup) (hk6 : ks.length ≤ 6) (hr : ∀ g ∈ ks, 0 ≤ g ∧ g < bs.length) (hc : ∀ g ∈ ks, ∀ h, some h ∈ (bk bs g).e.told → h ∈ ks)
    (hf : ∀ g ∈ ks, ∀ i, i ≤ (bk bs g).marks.length → (ps.lookup (g.toNat, i)).isSome = true)
    (h : ∀ y bl' lo' sp' tps' B' s', BodyB c B' y (newBs bs ks) sp' bl' lo' ac nm → SpB c B' sp' (nsp bs ps 0 ks) → TabOk B' wbQual tps' → Own c H B' ((P, tabP tps') :: cs) s' → Le B B' → Q (.ref y) s') :
    wpAny c.M A (call (.ref fa) [.ref x, kv]) Q NE s := by
  have W := V.w
  have Wc := V.cls
  have Ia := I.at_
  have Ir := I.rd
  obtain ⟨fr, hfr, Fr⟩ := W.retargeted
  have hl6 := ok.len
  have hp := ok.pos
  refine enterD (binds := [(Str.ofString "body", .ref x), (Str.ofString "kept", kv)]) (lb := [(Str.ofString "kept", kv), (Str.ofString "body", .ref x)]) R W.glb F S rfl rfl (fun _ _ _ _ _ _ => rfl) rfl (by decide) ?_ ?_
  · intro p hp
    rcases List.mem_cons.mp hp with rfl | hp
    · rfl
    · rw [List.mem_singleton.mp hp]; rfl
  intro A' L s' R' S'
  replace S' : Own c H B ((L, frameP [(Str.ofString "kept", kv), (Str.ofString "body", .ref x)]) :: (L + 1, varP none) :: (P, tabP tps) :: cs) s' := S'
  refine runs_of ?_
  repeat (row_room_at m)
  refine e_dict0 (by assumption) ?_
  intro pd s₁ hpd S₁
  replace S₁ := S₁.weak (fun o e => idP_new (c := c) e)
  replace S₁ : Own c H B ((pd, idP c []) :: (L, frameP [(Str.ofString "kept", kv), (Str.ofString "body", .ref x)]) :: (L + 1, varP none) :: (P, tabP tps) :: cs) s₁ := S₁
  repeat (row_room_at m)
  rename_i S₂
  refine it_list S₂ R'.hd (by row_room_at m_rd) fun it I₁ s₃ Wk S₃ => ?_
  have S₃' : Own c H B ([(it, I₁ 0)] ++ (L, frameP [(Str.ofString "kept", kv), (Str.ofString "body", .ref x)]) :: (pd, idP c []) :: (L + 1, varP (some (.ref pd))) :: (P, tabP tps) :: cs) s₃ := S₃.perm (List.Perm.cons _ (List.Perm.swap ..))
  refine loop_f Wk S₃' (Le.refl _) [(Str.ofString "kept", kv), (Str.ofString "body", .ref x)] (by row_room_at m_sub)
    (fun k B' cs' => ∃ kvs, cs' = (pd, idP c kvs) :: (L + 1, varP (some (.ref pd))) :: (P, tabP tps) :: cs ∧ Plc (ks.take k) kvs) ⟨[], rfl, Plc.nil⟩ ?_ ?_ ?_
  · rintro k B' B'' cs' hle hj
    exact hj
  · rintro k v H' B' cs' s' hk ⟨d, hd, rv⟩ ⟨kvs, rfl, hP⟩ S hle
    rw [List.length_map] at hk
    rw [List.getElem?_map] at hd
    obtain ⟨g, hg, rfl⟩ := Option.map_eq_some_iff.mp hd
    obtain ⟨tg, rfl⟩ := rv.int_inv
    have hgn : g ∉ ks.take k := fun hm => by
      obtain ⟨j, hj, e⟩ := List.mem_iff_getElem.mp hm
      rw [List.length_take] at hj
      rw [List.getElem_take] at e
      have h1 : ks[k]? = some g := hg
      have h2 : ks[k]'hk = g := by rw [List.getElem?_eq_getElem hk] at h1; exact Option.some.inj h1
      have := (List.getElem_inj hnd (h₀ := by omega) (h₁ := hk)).mp (e.trans h2.symm)
      omega
    have hkl := hP.len
    have htl : (ks.take k).length = k := by rw [List.length_take]; omega
    iterate 9 (row_room_at m)
    rename_i S₄
    refine id_len W.glb S₄ (.tail _ (.head _)) (by row_room_at ar) fun t₅ s₅ S₅ => ?_
    iterate 2 (row_room_at m)
    refine id_set S₅ (.tail (.head)) (by row_room_at ar) fun s₆ S₆ => ?_
    repeat (row_room_at m)
    rw [hkl, (hP.snoc hgn).1] at S₆
    refine ⟨rfl, _, _, _, S₆, Le.refl _, ⟨_, rfl, ?_⟩, by row_room_at m_sub⟩
    rw [List.take_add_one, hg]
    exact (hP.snoc hgn).2
  · rintro B₁ cs' s₄ ⟨kvs, rfl, hP⟩ S₄ hle₁
    rw [List.length_map, List.take_of_length_le (Nat.le_refl _)] at hP
    obtain ⟨B₂, hle₂, hid, S₅⟩ := frz_id S₄.swap hP
    obtain ⟨B₃, oc, hle₃, hbc, hoc, _, S₆⟩ := S₅.swap.freeze
    replace hid := hid.mono hle₃
    clear S₁ S₃' S₄ S₅
    repeat (row_room_at m)
    row_room_at listC
    rename_i bd s₇ hbd S₇
    repeat (row_room_at m)
    refine e_dict0 (by assumption) ?_
    intro sd s₈ hsd S₈
    replace S₈ := S₈.weak (fun o e => tdP_new (c := c) e)
    replace S₈ : Own c H B₃ ((sd, tdP c []) :: (bd, listP []) :: (L, frameP [(Str.ofString "kept", kv), (Str.ofString "body", Value.ref x)]) :: (P, tabP tps) :: cs) s₈ := S₈
    repeat (row_room_at m)
    rename_i T
    refine it_list T R'.hd (by row_room_at m_rd) fun it I₂ s₉ Wk₂ S₉ => ?_
    have S₉' : Own c H B₃ ([(it, I₂ 0)] ++ (L, frameP [(Str.ofString "blocks", .ref bd), (Str.ofString "spots", .ref sd), (Str.ofString "kept", kv), (Str.ofString "body", .ref x)]) :: (sd, tdP c []) :: (bd, listP []) :: (P, tabP tps) :: cs) s₉ :=
      (show Own c H B₃ ((it, I₂ 0) :: (sd, tdP c []) :: (bd, listP []) :: (L, frameP [(Str.ofString "blocks", .ref bd), (Str.ofString "spots", .ref sd), (Str.ofString "kept", kv), (Str.ofString "body", .ref x)]) :: (P, tabP tps) :: cs) s₉ from S₉).perm (List.Perm.cons _ (List.perm_middle (l₁ := [_, _])))
    clear S₉ T S₈ S₇ S₆
    have hle₀ : Le B B₃ := by row_room_at m_le
    refine loop_f Wk₂ S₉' (Le.refl _) [(Str.ofString "spots", .ref sd), (Str.ofString "blocks", .ref bd), (Str.ofString "kept", kv), (Str.ofString "body", .ref x)] (by row_room_at m_sub)
      (fun k B' cs' => ∃ xs ys tps, cs' = (sd, tdP c xs) :: (bd, listP ys) :: (P, tabP tps) :: cs ∧ Td B' xs (nsp bs ps 0 (ks.take k)) ∧ RdAll B' ys ((ks.take k).map fun g => blkD (nb bs ks g)) ∧ TabOk B' wbQual tps) ⟨[], [], tps, rfl, td_nil, .nil, hT.mono hle₀⟩ ?_ ?_ ?_
    · rintro k B' B'' cs' hle ⟨xs, ys, tps, e, h1, h2, h3⟩
      exact ⟨xs, ys, tps, e, h1.mono hle, h2.mono hle, h3.mono hle⟩
    · rintro k v H' B' cs' s' hk ⟨d, hd, rv⟩ ⟨xs, ys, tps₁, rfl, hxs, hys, htp⟩ S hle
      rw [List.length_map] at hk
      rw [List.getElem?_map] at hd
      obtain ⟨g, hg, rfl⟩ := Option.map_eq_some_iff.mp hd
      obtain ⟨tg, rfl⟩ := rv.int_inv
      have hgm := List.mem_of_getElem? hg
      obtain ⟨g0, g1⟩ := hr g hgm
      obtain ⟨j, rfl⟩ : ∃ j : Nat, g = j := nat_of (by assumption)
      obtain ⟨b, hb⟩ : ∃ b, bs[j]? = some b := blk_of (by assumption)
      have hbk := bk_get hb
      have bok := ok.ok b (List.mem_of_getElem? hb)
      have bl3 := bok.len
      have hbb := blk_get hb
      have hidx : ks.idxOf (j : Int) = k := by
        have h1 := List.idxOf_lt_length_of_mem hgm
        have h2 : ks[ks.idxOf (j : Int)]'h1 = (j : Int) := List.getElem_idxOf h1
        have h3 : ks[k]'hk = (j : Int) := by rw [List.getElem?_eq_getElem hk] at hg; exact Option.some.inj hg
        exact (List.getElem_inj hnd).mp (h2.trans h3.symm)
      have hlm : b.marks.length ≤ sizeLine := by rw [sizeLine_eq]; omega
      repeat (row_room_at m)
      rename_i m0 vs hvs hm0 T
      obtain ⟨B₄, hle₄, rm, T₁⟩ := T.frz hvs
      have T₂ := T₁.perm (List.perm_middle (l₁ := [_, _, _]))
      refine lam_ W.glb hbt C T₂ (htp.mono hle₄) rfl rfl rfl rfl ?_
      intro f tps₂ B₅ s₁₀ hlam htp₅ hle₅ T₃
      have hbc₅ : B₅ (L + 1) = some oc := (hle.trans (hle₄.trans hle₅)) _ _ hbc
      have hid₅ := hid.mono (hle.trans (hle₄.trans hle₅))
      have hTurn : Turns c B₅ (.ref f) (fun h => (ks.idxOf h : Nat)) (· ∈ ks) := by
        refine ⟨?_, ?_⟩
        · obtain ⟨pm, c', ctv, e, _⟩ := hlam
          exact ⟨f, _, _, rfl, e, rfl⟩
        intro A₁ H₁ B₁ cs₁ s₁ g t Q R₁ hleT ST hg hq
        refine lam_call (n := 0) (binds := [(Str.ofString "goal", .int g t)]) W.glb R₁ (hlam.mono hleT) ST (fun _ _ _ => rfl) (by intro y hy; rw [List.mem_singleton.mp hy]; rfl) ?_
        intro A₂ L₂ cd₂ s₂ R₂ ST₂
        replace hbc₅ := hleT _ _ hbc₅
        replace hid₅ := hid₅.mono hleT
        clear T T₁ T₂ T₃ ST
        repeat (row_room_at m)
        exact id_get hid₅ ST₂ hg fun t s' S' => hq t s' S'.drop
      have T₄ := T₃.perm (List.perm_middle (l₁ := [_, _, _])).symm
      clear T T₁ T₂ T₃
      replace T₄ : Own c H' B₅ ((L, frameP [(Str.ofString "terminator", _), (Str.ofString "statements", _), (Str.ofString "block", Value.int j tg), (Str.ofString "spots", Value.ref sd), (Str.ofString "blocks", Value.ref bd), (Str.ofString "kept", kv), (Str.ofString "body", Value.ref x)]) :: (sd, tdP c xs) :: (bd, listP ys) :: (P, tabP tps₂) :: cs) s₁₀ := T₄
      repeat (row_room_at m)
      refine retarg_spec V.w (R'.le (by decide)) Fr T₄ (by row_room_at m_rd) (small_of bok.e) hTurn (fun h hh => hc _ hgm _ (by rw [hbk]; exact hh)) fun v₁ B₆ s₁₁ re T₅ hle₆ => ?_
      have hyl := hys.length
      rw [List.length_map, List.length_take] at hyl
      repeat (row_room_at m)
      have hys6 : ys.length ≤ sizeLine := by rw [sizeLine_eq]; omega
      have hlm2 : b.marks.length < 2 ^ 62 := by omega
      row_room_at listR
      rename_i rw_ B₇ s₁₂ hle₇ rrow T₇
      clear T₄ T₅
      repeat (row_room_at m)
      rename_i ra B₈ s₁₃ hle₈ hra T₈
      have hleX : Le B₃ B₈ := by row_room_at m_le
      have hxs₈ := hxs.mono (show Le B' B₈ by (clear hleX; row_room_at m_le))
      have hleB := hle₀.trans hleX
      have D₈ := D.mono hleB
      have hbc₈ : B₈ (L + 1) = some oc := hleX _ _ hbc
      have hid₈ := hid.mono hleX
      refine it_range T₈ R'.hd hra (by row_room_at ar) fun it₃ I₃ s₁₄ Wk₃ S₁₄ => ?_
      refine loop_f Wk₃ S₁₄ (Le.refl _) [(Str.ofString "block", .int j tg), (Str.ofString "spots", .ref sd), (Str.ofString "blocks", .ref bd), (Str.ofString "kept", kv), (Str.ofString "body", .ref x)] (by row_room_at m_sub)
        (fun i B' cs' => ∃ xs, cs' = (sd, tdP c xs) :: (bd, listP (ys ++ [.ref rw_])) :: (P, tabP tps₂) :: cs ∧ Td B' xs (nsp bs ps 0 (ks.take k) ++ spRow ps j k i))
        ⟨xs, rfl, by rw [show spRow ps j k 0 = [] from rfl, List.append_nil]; exact hxs₈⟩ ?_ ?_ ?_
      · rintro i B' B'' cs' hle ⟨xs, e, h1⟩
        exact ⟨xs, e, h1.mono hle⟩
      · rintro i v H'' B₉ cs' s' hi ⟨d, hd, rv⟩ ⟨xs', rfl, hx⟩ S hle₉
        rw [nats_len] at hi
        rw [nats_get hi] at hd
        cases hd
        obtain ⟨ti, rfl⟩ := rv.int_inv
        obtain ⟨w, hw⟩ : ∃ w, ps.lookup (j, i) = some w := Option.isSome_iff_exists.mp (hf _ hgm i (by rw [hbk]; omega))
        have D₉ := D₈.mono hle₉
        have hbc₉ := hle₉ _ _ hbc₈
        have hid₉ := hid₈.mono hle₉
        have Ia₉ := Ia.mono (hleB.trans hle₉)
        clear T₇ T₈ S₁₄
        repeat (row_room_at m)
        rename_i a₁ B₁₀ s₁₅ hle₁₀ rt T₈ s₁₆ T₉
        refine td_in (p := (j, i)) ((D₉.mono hle₁₀).at_ T₉) R' T₉ rt fun s₁₇ T₁₀ => ?_
        rw [hw]
        refine wpAny_truthy_bool ?_
        refine ite_t rfl ?_
        clear T₈ T₉
        repeat (row_room_at m)
        rename_i a₂ B₁₁ s₁₈ hle₁₁ rt₂ T₁₁
        refine td_item (p := (j, i)) (((D₉.mono hle₁₀).mono hle₁₁).at_ T₁₁) R' T₁₁ rt₂ hw fun tw s₁₉ T₁₂ => ?_
        have hbc₁₁ := (hle₁₀.trans hle₁₁) _ _ hbc₉
        have hid₁₁ := hid₉.mono (hle₁₀.trans hle₁₁)
        clear T₁₀ T₁₁
        repeat (row_room_at m)
        refine id_get hid₁₁ T₁₂ hgm fun tp s₂₀ T₁₃ => ?_
        rw [hidx]
        clear T₁₂
        repeat (row_room_at m)
        rename_i a₃ B₁₂ s₂₁ hle₁₂ rt₃ T₁₄
        have hlen := row_len (ps := ps) (ks := ks) (j := j) (k := k) (bk_marks ok) hk6 (Nat.le_trans (Nat.le_of_lt hi) (Nat.succ_le_succ bl3))
        refine td_set (p := (k, i)) (hx.mono (hle₁₀.trans (hle₁₁.trans hle₁₂))) R' T₁₄ (.tail .head) rt₃ hlen fun s₂₂ T₁₅ hx' => ?_
        rw [put_row (bk_marks ok) (Nat.le_of_lt hk) (by rw [hw]; rfl)] at hx'
        repeat (row_room_at m)
        exact ⟨rfl, _, _, _, T₁₅, hle₁₀.trans (hle₁₁.trans hle₁₂), ⟨_, rfl, hx'⟩, by row_room_at m_sub⟩
      · rintro B₉ cs' s₂₃ ⟨xs', rfl, hx⟩ S₂₃ hle₉
        rw [nats_len] at hx
        repeat (row_room_at m)
        have l79 := hle₈.trans hle₉
        have l59 := hle₆.trans (hle₇.trans l79)
        have l9 := hle₄.trans (hle₅.trans l59)
        refine ⟨rfl, _, _, _, S₂₃, l9, ⟨xs', _, _, rfl, ?_, ?_, htp₅.mono l59⟩, by row_room_at m_sub⟩
        · rw [nsp_take hg, hbk, Int.toNat_natCast]; exact hx
        · have e : blkD (nb bs ks (j : Int)) = .list [.list b.marks, (b.e.map fun h => (ks.idxOf h : Nat)).d] := by unfold nb; rw [hbk]
          rw [List.take_add_one, hg, List.map_append]
          show RdAll _ _ (_ ++ [blkD (nb bs ks (j : Int))])
          rw [e]
          exact (hys.mono l9).snoc (rrow.mono l79)
    · rintro B₄ cs' s₁₀ ⟨xs, ys, tps₁, rfl, hxs, hys, htp⟩ S₁₀ hle₄
      rw [List.length_map, List.take_of_length_le (Nat.le_refl _)] at hxs hys
      have gb := V.gbody
      have hleB := hle₀.trans hle₄
      have Ia₄ := Ia.mono hleB
      have rl₄ := rl.mono hleB
      clear S₉'
      repeat (row_room_at m)
      refine cw_cls Wc ?_
      repeat (row_room_at m)
      rename_i T
      refine init5_spec V R' T (ls := ls) rl₄ hl fun y lo' B₇ s₇ hy hlo S₇ hle₇ => ?_
      have T₁ : Own c H B₇ ((sd, tdP c xs) :: (bd, listP ys) :: (P, tabP tps₁) :: cs) s₇ := (S₇.swap.perm (List.Perm.refl _)).swap.drop
      obtain ⟨B₈, hle₈, hsp, T₂⟩ := frz_td W.glb T₁ (hxs.mono hle₇)
      obtain ⟨B₉, hle₉, hbl, T₃⟩ := T₂.frz ((hys.mono hle₇).mono hle₈)
      refine h y bd lo' sd tps₁ B₉ _ ⟨hy.mono (hle₈.trans hle₉), ?_⟩ (hsp.mono hle₉) (htp.mono (hle₇.trans (hle₈.trans hle₉))) T₃ (hleB.trans (hle₇.trans (hle₈.trans hle₉)))
      unfold newBs
      rw [List.map_map]
      exact hbl
end
theorem FnC.at {c : Cx} {fa : Addr} {name qual : Str} {st : Stmt} {dV cdv : Value} (F : FnC c fa name qual st dV cdv) : FnAt c fa name qual st dV :=
  by obtain ⟨o, kV, doc, pm, an, ct, a, b, d⟩ := F; exact ⟨o, kV, doc, pm, an, cdv, ct, a, b, d⟩
theorem all_cons' {α : Type} {P : α → Prop} {a : α} {l : List α} (h : P a) (hs : ∀ x ∈ l, P x) : ∀ x ∈ a :: l, P x := List.forall_mem_cons.mpr ⟨h, hs⟩
noncomputable def swapD (d : PyData) : PyData := match d with | .tuple [a, b] => .tuple [b, a] | _ => .none
theorem swap_en (ks : List Int) : (enD (ks.map PyData.int)).map swapD = prs ks := by
  unfold enD prs
  rw [List.zipIdx_map, List.map_map, List.map_map]
  rfl
theorem RdAll.erase {B : PM} : ∀ {vs : List Value} {ds : List PyData} (k : Nat), RdAll B vs ds → RdAll B (vs.eraseIdx k) (ds.eraseIdx k)
  | _, _, _, .nil => .nil
  | _, _, 0, .cons _ rs => rs
  | _, _, k + 1, .cons r rs => .cons r (RdAll.erase k rs)
theorem erase_map {α β : Type} (f : α → β) : ∀ (l : List α) (k : Nat), (l.map f).eraseIdx k = (l.eraseIdx k).map f
  | [], _ => rfl
  | _ :: _, 0 => rfl
  | a :: l, k + 1 => congrArg (f a :: ·) (erase_map f l k)
theorem erase_perm {α : Type} {l : List α} {k : Nat} {a : α} (h : l[k]? = some a) : (a :: l.eraseIdx k).Perm l := by
  induction l generalizing k with
  | nil => simp at h
  | cons b l ih =>
    cases k with
    | zero => simp at h; subst h; exact List.Perm.refl _
    | succ k => exact (List.Perm.swap ..).trans (List.Perm.cons _ (ih (by simpa using h)))
section
variable {c : Cx} {H B : PM} {cs : List Cell} {s : Shared} {A : Around} {x : Addr} {bs : List Blk} {sp bl lo : Addr} {ac nm : Value}
set_option maxHeartbeats 8000000 in
theorem kright_spec {fa cc P fw src : Addr} {gv : Value} {tps : Array Value} {ls : List PyData} {ps : List (Pt × Int)} {Q : Value → Shared → Prop} (V : Wd c) (R : Room A 5) (F : FnAt c fa (Str.ofString "_law_kept_right") (Str.ofString "_law_kept_right") (stAt 22) .none)
    (hfw : c.mg (Str.ofString "with_blocks") = some (.ref fw)) (Fw : FnC c fw (Str.ofString "with_blocks") (Str.ofString "with_blocks") (stAt 9) .none (.ref cc)) (C : CodeHd c.g cc P) (hbt : c.g.BuiltinsAt c.mg P)
    (S : Own c H B ((P, tabP tps) :: (src, srcP) :: cs) s) (hT : TabOk B wbQual tps)
    (I : BodyB c B x bs sp bl lo ac nm) (ok : BodyOk bs) (D : SpB c B sp ps) (rl : Rd B (.ref lo) (.list ls)) (hl : ls.length ≤ sizeLine) (hnm : handedIn nm = true) (hac : handedIn ac = true)
    (hf : ∀ (k : Nat) b, bs[k]? = some b → ∀ i, i ≤ b.marks.length → (ps.lookup (k, i)).isSome = true) (rg : Rd B gv (goalsD bs))
    (h : ∀ tps' B' s', TabOk B' wbQual tps' → Own c H B' ((P, tabP tps') :: (src, srcP) :: cs) s' → Le B B' → Q (.bool true) s') :
    wpAny c.M A (call (.ref fa) [.ref src, .ref x, gv]) Q NE s := by
  have W := V.w
  have Wc := V.cls
  have Ia := I.at_
  have Ir := I.rd
  have hl6 := ok.len
  have hp := ok.pos
  obtain ⟨fc, hfc, Fc⟩ := W.closed
  obtain ⟨ft, hft, Ft⟩ := W.take
  obtain ⟨fl, hfl, Fl⟩ := W.led
  obtain ⟨fsh, hfsh, Fsh⟩ := W.shown
  obtain ⟨fre, hfre, Fre⟩ := W.reachable
  obtain ⟨fsp, hfsp, htsp, Fsp⟩ := V.msp
  have Fwa := Fw.at
  refine enterC (binds := [(Str.ofString "source", .ref src), (Str.ofString "body", .ref x), (Str.ofString "goals", gv)]) (lb := [(Str.ofString "source", .ref src), (Str.ofString "goals", gv)]) R W.glb F S rfl rfl (fun _ _ _ _ _ _ => rfl) rfl (by decide) (all_cons' rfl (all_cons' rfl (fun _ h => nomatch h))) ?_
  intro A' L cd s' R' S'
  replace S' : Own c H B ((L, frameP [(Str.ofString "source", .ref src), (Str.ofString "goals", gv)]) :: (L + 1 + 1, varP none) :: (L + 1, varP (some (.ref x))) :: (P, tabP tps) :: (src, srcP) :: cs) s' := S'
  refine runs_of ?_
  repeat (row_room_at m)
  refine closed_spec W (R'.le (by decide)) Fc (by assumption) rg ok fun kv ms B₁ s₁ nd₁ so₁ re₁ ra₁ rk₁ S₁ hle₁ => ?_
  obtain ⟨ms, rfl⟩ : ∃ r, ms = 0 :: r := by
    have h0 : (0 : Int) ∈ ms := (re₁ 0).mpr .zero
    cases ms with
    | nil => cases h0
    | cons a r =>
      have ha := (ra₁ a (List.mem_cons_self ..)).1
      rcases List.mem_cons.mp h0 with e | e
      · exact ⟨r, by rw [← e]⟩
      · have := (List.pairwise_cons.mp so₁).1 0 e
        exact ⟨r, by rw [show a = 0 by omega]⟩
  have hms := bounded_len nd₁ ra₁
  rw [List.length_cons] at hms
  repeat (row_room_at m)
  refine item_slL (by assumption) (Rd.mono (by row_room_at m_le) rk₁) (by assumption) (.int _ _) .none .none (by decide) (by rw [List.length_map, List.length_cons]; omega) fun ld vs s₂ hvs hr hB S₂ => ?_
  have hL0 : IntsAre (slicePick vs.toArray (some 1) none none).toList ms := kmk_from (x := 1) hr.ints (by decide)
  generalize (slicePick vs.toArray (some 1) none none).toList = ws₀ at S₂ hL0
  repeat (row_room_at m)
  row_room_at listC
  rename_i od s₃ hod S₃
  repeat (row_room_at m)
  rename_i s₄ S₄
  refine x_while (fun n s => ∃ B' ys zs qs ns, Own c H B' ((od, listP ys) :: (ld, listP zs) :: (L, frameP [(Str.ofString "order", .ref od), (Str.ofString "late", .ref ld), (Str.ofString "kept", kv), (Str.ofString "source", .ref src), (Str.ofString "goals", gv)]) :: (L + 1 + 1, varP none) :: (L + 1, varP (some (.ref x))) :: (P, tabP tps) :: (src, srcP) :: cs) s ∧ Le B₁ B' ∧
    RdAll B' ys (qs.map PyData.int) ∧ RdAll B' zs (ns.map PyData.int) ∧ (qs ++ ns).Perm (0 :: ms) ∧ qs.head? = some 0 ∧ n = ns.length) ?_ ms.length
    ⟨_, _, ws₀, [0], ms, S₄, by row_room_at m_le, .cons (.int _ _) .nil, RdAll.of_ints hL0, List.Perm.refl _, rfl, rfl⟩
  clear S₁ S₂ S₃ S₄ S'
  rintro n s ⟨B', ys, zs, qs, ns, S, hle, hy, hz, hpm, hhd, rfl⟩
  have hleB := hle₁.trans hle
  have hyl := hy.length
  have hzl := hz.length
  have hpl := hpm.length_eq
  rw [List.length_map] at hyl hzl
  rw [List.length_append, List.length_cons] at hpl
  repeat (row_room_at m)
  row_room_at listR
  repeat (row_room_at m)
  refine ne_nil (intsL_C (by assumption) (by row_room_at m_mem) (RdAll.mono (by row_room_at m_le) hz)) (intsL_R (ns := []) (by assumption) (by assumption)) (Room.u (by assumption)) ?_
  repeat (row_room_at m)
  refine ite_w (fun hb => ?_) (fun hb => ?_)
  · have hne : ns ≠ [] := by intro e; rw [e] at hb; simp at hb
    have hnl : 0 < ns.length := List.length_pos_iff.mpr hne
    have hys : ys.length ≤ sizeLine := by rw [sizeLine_eq]; omega
    repeat (row_room_at m)
    rename_i S₅
    refine take_spec W (R'.le (by decide)) Ft S₅ (by row_room_at m_mem) (by row_room_at ar) (by row_room_at ar) fun d td s₆ d0 d1 S₆ => ?_
    obtain ⟨k, rfl⟩ : ∃ k : Nat, d = k := nat_of (by assumption)
    obtain ⟨g, hg⟩ : ∃ g, ns[k]? = some g := ⟨ns[k]'(by row_room_at ar), by simp⟩
    obtain ⟨v, hv, rv⟩ := hz.get k (.int g) (by rw [List.getElem?_map, hg]; rfl)
    obtain ⟨tv, rfl⟩ := rv.int_inv
    repeat (row_room_at m)
    refine l_popAt (k := k) rfl S₆ (by row_room_at m_upd) hv (by row_room_at ar) fun s₇ S₇ => ?_
    repeat (row_room_at m)
    rename_i T
    have hek := List.length_eraseIdx_of_lt (l := ns) (i := k) (by row_room_at ar)
    refine ⟨rfl, _, ?_, _, _, _, qs ++ [g], ns.eraseIdx k, T, by row_room_at m_le, ?_, ?_, ?_, ?_, rfl⟩
    · omega
    · rw [List.map_append]; exact (RdAll.mono (by row_room_at m_le) hy).snoc (.int _ _)
    · rw [← erase_map]; exact RdAll.erase k (RdAll.mono (by row_room_at m_le) hz)
    · refine List.Perm.trans ?_ hpm
      rw [List.append_assoc]
      exact List.Perm.append_left _ (erase_perm hg)
    · cases qs with
      | nil => cases hhd
      | cons a r => exact hhd
  · have e : ns = [] := by simpa using hb
    subst e
    rw [List.append_nil] at hpm
    have hnd := hpm.nodup_iff.mpr nd₁
    have hra : ∀ g ∈ qs, 0 ≤ g ∧ g < bs.length := fun g hg => ra₁ g (hpm.mem_iff.mp hg)
    have hre : ∀ g, g ∈ qs ↔ Reach (scOf bs) g := fun g => hpm.mem_iff.trans (re₁ g)
    have hq6 : qs.length ≤ 6 := by simp at hpl; omega
    have hqn : qs ≠ [] := by intro e; rw [e] at hhd; cases hhd
    rename_i ea B₂ s₅ hle₂ re₂ S₅
    obtain ⟨B₃, hle₃, ro, S₆⟩ := S₅.frz (hy.mono hle₂)
    have S₇ := S₆.drop
    clear S S₅ S₆
    have hleB3 := hleB.trans (hle₂.trans hle₃)
    have rk3 := rk₁.mono (hle.trans (hle₂.trans hle₃))
    repeat (row_room_at m)
    refine it_enum S₇ R'.hd ro fun e I₁ s₈ hW S₈ => ?_
    refine (hW [] 0 ⟨0, 0, 0, 0⟩).self 0 _ _ _ _ _ S₈ ?_
    refine comp_mapT (hW _ _ _) S₈ (Le.refl _) swapD ?_ ?_ (by rw [enD_len, List.length_map, sizeLine_eq]; omega)
    · intro d v H' B' s' C hd rv S hle
      obtain ⟨⟨d', i⟩, hm, rfl⟩ := List.mem_map.mp hd
      obtain ⟨g, _, rfl⟩ := List.mem_map.mp (List.fst_mem_of_mem_zipIdx hm)
      repeat (row_room_at m)
      exact ⟨_, _, by assumption, by row_room_at m_le, by assumption⟩
    · intro D' zs' B' s' hD hz' S hle
      rw [swap_en] at hz'
      obtain ⟨B₄, hle₄, rp, S₉⟩ := S.frz hz'
      have ro₄ := ro.mono (hle.trans hle₄)
      have hleB4 := hleB3.trans (hle.trans hle₄)
      have rk4 := rk3.mono (hle.trans hle₄)
      clear S S₇ S₈
      repeat (row_room_at m)
      refine id_of S₉ R'.hd rp hnd (by row_room_at ar) ?_
      intro nd_ kvs s₁₀ hPlc _ S₁₀
      obtain ⟨B₅, hle₅, hid, S₁₁⟩ := frz_id S₁₀ hPlc
      have ro₅ := ro₄.mono hle₅
      have hleB5 := hleB4.trans hle₅
      have rk5 := rk4.mono hle₅
      clear S₉ S₁₀
      repeat (row_room_at m)
      rename_i S₁₂
      have hT₅ : TabOk B₅ wbQual tps := hT.mono hleB5
      have hcl : ∀ g ∈ qs, ∀ h, some h ∈ (bk bs g).e.told → h ∈ qs := by
        intro g hg h hh
        obtain ⟨g0, g1⟩ := hra g hg
        obtain ⟨k, rfl⟩ : ∃ k : Nat, g = k := nat_of (by assumption)
        obtain ⟨b, hb⟩ : ∃ b, bs[k]? = some b := blk_of (by assumption)
        rw [bk_get hb] at hh
        exact (hre h).mpr (.step ((hre _).mp hg) (by rw [scOf_get hb]; exact mem_succs.mpr hh))
      have hfq : ∀ g ∈ qs, ∀ i, i ≤ (bk bs g).marks.length → (ps.lookup (g.toNat, i)).isSome = true := by
        intro g hg i hi
        obtain ⟨g0, g1⟩ := hra g hg
        obtain ⟨k, rfl⟩ : ∃ k : Nat, g = k := nat_of (by assumption)
        obtain ⟨b, hb⟩ : ∃ b, bs[k]? = some b := blk_of (by assumption)
        rw [bk_get hb] at hi
        exact hf k b hb i hi
      refine wblocks_spec V R' Fw C hbt (S₁₂.perm (List.perm_middle (l₁ := [_, _, _]))) hT₅ (I.mono hleB5) ok (D.mono hleB5) (rl.mono hleB5) hl hnm hac ro₅ hnd hq6 hra hcl hfq
        fun y bl' lo' sp' tps' B₆ s₁₃ I₆ D₆ hT₆ S₁₃ hle₆ => ?_
      have S₁₄ := S₁₃.perm (List.perm_middle (l₁ := [_, _, _])).symm
      have ok' := newBs_ok ok hqn hq6 hra hcl
      have ro₆ := ro₅.mono hle₆
      have hid₆ := hid.mono hle₆
      have hleB6 := hleB5.trans hle₆
      have rk6 := rk5.mono hle₆
      clear S₁₁ S₁₂ S₁₃
      repeat (row_room_at m)
      rename_i s₁₅ S₁₅
      replace S₁₅ : Own c H B₆ ((L, frameP [(Str.ofString "found", .ref y), (Str.ofString "order", .ref od), (Str.ofString "late", .ref ld), (Str.ofString "kept", kv), (Str.ofString "source", .ref src), (Str.ofString "goals", gv)]) :: (L + 1 + 1, varP (some (.ref nd_))) :: (L + 1, varP (some (.ref x))) :: (P, tabP tps') :: (src, srcP) :: cs) s₁₅ := S₁₅
      clear S₁₄
      refine it_list S₁₅ R'.hd ro₆ fun it I₃ s₁₆ Wk S₁₆ => ?_
      refine comp_s Wk S₁₆ (Le.refl _) (fun k ys B' cs' => cs' = (L, frameP [(Str.ofString "found", .ref y), (Str.ofString "order", .ref od), (Str.ofString "late", .ref ld), (Str.ofString "kept", kv), (Str.ofString "source", .ref src), (Str.ofString "goals", gv)]) :: (L + 1 + 1, varP (some (.ref nd_))) :: (L + 1, varP (some (.ref x))) :: (P, tabP tps') :: (src, srcP) :: cs ∧
        RdAll B' ys ((qs.take k).map fun g => shB (nb bs qs g))) ⟨rfl, .nil⟩ ?_ ?_ ?_ rfl rfl rfl (by rw [List.length_map, sizeLine_eq]; omega)
      · rintro k v ys' H' B' cs' s' C_ hk hle₇ ⟨d, hd, rv⟩ ⟨rfl, hys'⟩ S
        rw [List.getElem?_map] at hd
        obtain ⟨g, hg, rfl⟩ := Option.map_eq_some_iff.mp hd
        obtain ⟨tg, rfl⟩ := rv.int_inv
        have hgm := List.mem_of_getElem? hg
        obtain ⟨g0, g1⟩ := hra g hgm
        obtain ⟨j, rfl⟩ : ∃ j : Nat, g = j := nat_of (by assumption)
        obtain ⟨b, hb⟩ : ∃ b, bs[j]? = some b := blk_of (by assumption)
        have hbk := bk_get hb
        have bok := ok.ok b (List.mem_of_getElem? hb)
        have bl3 := bok.len
        have hbb := blk_get hb
        have hlm : b.marks.length ≤ sizeLine := by rw [sizeLine_eq]; omega
        have hleB7 := hleB6.trans hle₇
        clear S₁₅ S₁₆
        repeat (row_room_at m)
        rename_i ev re_
        refine led_spec W (R'.le (by decide)) Fl (by assumption) re_ (small_of bok.e) ((look_id hid₆).mono (by row_room_at m_le)) (fun h hh => hcl _ hgm h (by rw [hbk]; exact hh)) fun v₁ B₇ s₁₇ rv₁ S₁₇ hle₈ => ?_
        repeat (row_room_at m)
        row_room_at listR
        rename_i T
        have e : shB (nb bs qs (j : Int)) = .list [.tuple b.marks, (b.e.map fun h => (qs.idxOf h : Nat)).d] := by unfold nb; rw [hbk]
        refine ⟨_, _, _, by row_room_at m_le, ⟨rfl, ?_⟩, T⟩
        rw [List.take_add_one, hg, List.map_append]
        show RdAll _ _ (_ ++ [shB (nb bs qs (j : Int))])
        rw [e]
        exact (hys'.mono (by row_room_at m_le)).snoc (by assumption)
      · rintro k ys' B' B'' cs' hle₇ ⟨rfl, h1⟩
        exact ⟨rfl, h1.mono hle₇⟩
      · rintro D₂ ys₂ B₇ cs' hle₇ hD₂ hlen₂ ⟨rfl, hys₂⟩
        rw [List.length_map, List.take_of_length_le (Nat.le_refl _)] at hys₂
        refine ⟨_, _, .tail .head, fun s₁₈ S₁₈ => ?_⟩
        obtain ⟨B₈, hle₈, rD₂, S₁₉⟩ := S₁₈.frz hys₂
        have hle68 := hle₇.trans hle₈
        have hleB8 := hleB6.trans hle68
        have ro₈ := ro₆.mono hle68
        have hid₈ := hid₆.mono hle68
        have hT₈ := hT₆.mono hle68
        clear S₁₅ S₁₆ S₁₈
        repeat (row_room_at m)
        refine e_dict0 (by assumption) ?_
        intro md s₂₀ hmd S₂₀
        replace S₂₀ := S₂₀.weak (fun o e => tdP_new (c := c) e)
        repeat (row_room_at m)
        rename_i s₂₁ S₂₁
        replace S₂₁ : Own c H B₈ ((md, tdP c []) :: (L, frameP [(Str.ofString "marks", .ref md), (Str.ofString "due", .ref D₂), (Str.ofString "found", .ref y), (Str.ofString "order", .ref od), (Str.ofString "late", .ref ld), (Str.ofString "kept", kv), (Str.ofString "source", .ref src), (Str.ofString "goals", gv)]) :: (L + 1 + 1, varP (some (.ref nd_))) :: (L + 1, varP (some (.ref x))) :: (P, tabP tps') :: (src, srcP) :: cs) s₂₁ := S₂₁
        clear S₁₉ S₂₀
        refine it_list S₂₁ R'.hd ro₈ fun it₂ I₄ s₂₂ Wk₂ S₂₂ => ?_
        have S₂₃ : Own c H B₈ ([(it₂, I₄ 0)] ++ (L, frameP [(Str.ofString "marks", .ref md), (Str.ofString "due", .ref D₂), (Str.ofString "found", .ref y), (Str.ofString "order", .ref od), (Str.ofString "late", .ref ld), (Str.ofString "kept", kv), (Str.ofString "source", .ref src), (Str.ofString "goals", gv)]) :: (md, tdP c []) :: (L + 1 + 1, varP (some (.ref nd_))) :: (L + 1, varP (some (.ref x))) :: (P, tabP tps') :: (src, srcP) :: cs) s₂₂ := S₂₂.perm (List.Perm.cons _ (List.Perm.swap ..))
        clear S₂₁ S₂₂
        refine loop_f Wk₂ S₂₃ (Le.refl _) [(Str.ofString "marks", .ref md), (Str.ofString "due", .ref D₂), (Str.ofString "found", .ref y), (Str.ofString "order", .ref od), (Str.ofString "kept", kv)] (by row_room_at m_sub)
          (fun k B' cs' => ∃ xs, cs' = (md, tdP c xs) :: (L + 1 + 1, varP (some (.ref nd_))) :: (L + 1, varP (some (.ref x))) :: (P, tabP tps') :: (src, srcP) :: cs ∧ Td B' xs (nsp bs ps 0 (qs.take k))) ⟨[], rfl, td_nil⟩ ?_ ?_ ?_
        · rintro k B' B'' cs' hle ⟨xs, e, h1⟩
          exact ⟨xs, e, h1.mono hle⟩
        · rintro k v H' B' cs' s' hk ⟨d, hd, rv⟩ ⟨xs, rfl, hxs⟩ S hle₉
          rw [List.length_map] at hk
          rw [List.getElem?_map] at hd
          obtain ⟨g, hg, rfl⟩ := Option.map_eq_some_iff.mp hd
          obtain ⟨tg, rfl⟩ := rv.int_inv
          have hgm := List.mem_of_getElem? hg
          obtain ⟨g0, g1⟩ := hra g hgm
          obtain ⟨j, rfl⟩ : ∃ j : Nat, g = j := nat_of (by assumption)
          obtain ⟨b, hb⟩ : ∃ b, bs[j]? = some b := blk_of (by assumption)
          have hbk := bk_get hb
          have bok := ok.ok b (List.mem_of_getElem? hb)
          have bl3 := bok.len
          have hbb := blk_get hb
          have hidx : qs.idxOf (j : Int) = k := by
            have h1 := List.idxOf_lt_length_of_mem hgm
            have h2 : qs[qs.idxOf (j : Int)]'h1 = (j : Int) := List.getElem_idxOf h1
            have h3 : qs[k]'hk = (j : Int) := by rw [List.getElem?_eq_getElem hk] at hg; exact Option.some.inj hg
            exact (List.getElem_inj hnd).mp (h2.trans h3.symm)
          have hlm2 : b.marks.length < 2 ^ 62 := by omega
          have hleB9 := hleB8.trans hle₉
          have hid₉ := hid₈.mono hle₉
          clear S₂₃
          repeat (row_room_at m)
          rename_i ra B₁₀ s₂₄ hle₁₀ hrg T₁₀
          have hid₁₀ := hid₉.mono hle₁₀
          have hleB10 := hleB9.trans hle₁₀
          refine it_range T₁₀ R'.hd hrg (by row_room_at ar) fun it₃ I₅ s₂₅ Wk₃ S₂₅ => ?_
          refine loop_f Wk₃ S₂₅ (Le.refl _) [(Str.ofString "block", .int j tg), (Str.ofString "marks", .ref md), (Str.ofString "due", .ref D₂), (Str.ofString "found", .ref y), (Str.ofString "order", .ref od), (Str.ofString "kept", kv)] (by row_room_at m_sub)
            (fun i B' cs' => ∃ xs, cs' = (md, tdP c xs) :: (L + 1 + 1, varP (some (.ref nd_))) :: (L + 1, varP (some (.ref x))) :: (P, tabP tps') :: (src, srcP) :: cs ∧ Td B' xs (nsp bs ps 0 (qs.take k) ++ spRow ps j k i))
            ⟨xs, rfl, by rw [show spRow ps j k 0 = [] from rfl, List.append_nil]; exact hxs.mono hle₁₀⟩ ?_ ?_ ?_
          · rintro i B' B'' cs' hle ⟨xs, e, h1⟩
            exact ⟨xs, e, h1.mono hle⟩
          · rintro i v H'' B₁₁ cs' s' hi ⟨d, hd, rv⟩ ⟨xs', rfl, hx⟩ S hle₁₁
            rw [nats_len] at hi
            rw [nats_get hi] at hd
            cases hd
            obtain ⟨ti, rfl⟩ := rv.int_inv
            have hid₁₁ := hid₁₀.mono hle₁₁
            have hleB11 := hleB10.trans hle₁₁
            have Ia₁₁ := Ia.mono hleB11
            clear T₁₀ S₂₅
            repeat (row_room_at m)
            rename_i a₁ B₁₂ s₂₆ hle₁₂ rt T₁₁
            refine spot_spec (p := (j, i)) V (R'.le (by decide)) Fsp T₁₁ (Ia₁₁.mono hle₁₂) (D.mono (hleB11.trans hle₁₂)) rt fun tw s₂₇ T₁₂ => ?_
            have hid₁₂ := hid₁₁.mono hle₁₂
            clear T₁₁
            repeat (row_room_at m)
            refine id_get hid₁₂ T₁₂ hgm fun tp s₂₈ T₁₃ => ?_
            rw [hidx]
            clear T₁₂
            repeat (row_room_at m)
            rename_i a₃ B₁₃ s₂₉ hle₁₃ rt₃ T₁₄
            have hlen := row_len (ps := ps) (ks := qs) (j := j) (k := k) (bk_marks ok) hq6 (Nat.le_trans (Nat.le_of_lt hi) (Nat.succ_le_succ bl3))
            refine td_set (p := (k, i)) (hx.mono (hle₁₂.trans hle₁₃)) R' T₁₄ (.tail .head) rt₃ hlen fun s₃₀ T₁₅ hx' => ?_
            rw [put_row (bk_marks ok) (Nat.le_of_lt hk) rfl] at hx'
            repeat (row_room_at m)
            exact ⟨rfl, _, _, _, T₁₅, hle₁₂.trans hle₁₃, ⟨_, rfl, hx'⟩, by row_room_at m_sub⟩
          · rintro B₁₁ cs' s₃₁ ⟨xs', rfl, hx⟩ S₃₁ hle₁₁
            rw [nats_len] at hx
            repeat (row_room_at m)
            refine ⟨rfl, _, _, _, S₃₁, hle₁₀.trans hle₁₁, ⟨xs', rfl, ?_⟩, by row_room_at m_sub⟩
            rw [nsp_take hg, hbk, Int.toNat_natCast]; exact hx
        · rintro B₉ cs' s₃₂ ⟨xs, rfl, hxs⟩ S₃₂ hle₉
          rw [List.length_map, List.take_of_length_le (Nat.le_refl _)] at hxs
          obtain ⟨B₁₀, hle₁₀, hmd, S₃₃⟩ := frz_td W.glb S₃₂.swap hxs
          have hle8 := hle₉.trans hle₁₀
          have rD := rD₂.mono hle8
          have I₁₀ := I₆.mono (hle68.trans hle8)
          have D₁₀ := D₆.mono (hle68.trans hle8)
          have hTf := hT₈.mono hle8
          have hleB10 := hleB8.trans hle8
          have Ib := I.mono hleB10
          have rk10 := rk6.mono (hle68.trans hle8)
          clear S₂₃ S₃₂
          repeat (row_room_at m)
          refine shown_spec V (R'.le (by decide)) Fsh S₃₃ I₁₀ ok' D₁₀ (nsp_small ok hqn hq6) fun v₁ B₁₁ s₃₄ X₁ S₃₄ hle₁₁ => ?_
          clear S₃₃
          repeat (row_room_at m)
          refine newTupleB S₃₄ (Nat.le_of_ble_eq_true rfl) fun ta o B₁₂ s₃₅ hle₁₂ hbt₂ hpt S₃₅ => ?_
          have Y : ShownAt c B₁₂ (.ref ta) (shD (newBs bs qs)) (nsp bs ps 0 qs) := by
            refine ⟨ta, o, .ref D₂, md, rfl, hbt₂, hpt, ?_, hmd.mono (hle₁₁.trans hle₁₂)⟩
            have := rD.mono (hle₁₁.trans hle₁₂)
            unfold shD newBs
            rw [List.map_map]
            exact this
          refine eq_shown S₃₅ R' (sh_shown ok').shaped (X₁.mono hle₁₂) Y ?_
          have rk12 := rk10.mono (hle₁₁.trans hle₁₂)
          have hleB12 := hleB10.trans (hle₁₁.trans hle₁₂)
          have I₁₂ := I.mono hleB12
          clear S₃₄
          repeat (row_room_at m)
          refine reach_spec V (R'.le (by decide)) Fre S₃₅ I₁₂ ok fun v₂ fs B₁₃ s₃₆ fnd fhd fre_ fra rf S₃₆ hle₁₃ => ?_
          clear S₃₅
          repeat (row_room_at m)
          obtain ⟨fl_, fo, fvs, rfl, hbf, hlf, hrf⟩ := rf.list_inv
          have hf6 := bounded_len fnd fra
          refine b_sorted S₃₆ (isList_B S₃₆ hbf hlf) hrf (by row_room_at ar) fun sa ss B₁₄ s₃₇ hps hss hle₁₄ rs S₃₇ => ?_
          have es : ss = 0 :: ms := sorted_eq hss so₁ (hps.nodup_iff.mpr fnd) nd₁ fun g => hps.mem_iff.trans ((fre_ g).trans (re₁ g).symm)
          subst es
          have rk14 := rk12.mono (hle₁₃.trans hle₁₄)
          have hleB14 := hleB12.trans (hle₁₃.trans hle₁₄)
          have I₁₄ := I.mono hleB14
          have shk := sh_ints (0 :: ms)
          clear S₃₆
          repeat (row_room_at m)
          refine ite_t (eqv_self shk) ?_
          repeat (row_room_at m)
          refine reach_spec V (R'.le (by decide)) Fre S₃₇ I₁₄ ok fun v₃ fs' B₁₅ s₃₉ _ fhd' _ _ rf' S₃₉ hle₁₅ => ?_
          have h00 : (fs'.map PyData.int)[(0 : Int).toNat]? = some (.int 0) := by
            cases fs' with
            | nil => cases fhd'
            | cons a r => cases fhd'; rfl
          have hleB15 := hleB14.trans hle₁₅
          have hTf15 := hTf.mono (hle₁₁.trans (hle₁₂.trans (hle₁₃.trans (hle₁₄.trans hle₁₅))))
          clear S₃₇
          repeat (row_room_at m)
          rename_i T
          exact h tps' B₁₅ _ hTf15 T.drop.drop.drop hleB15
end
section
variable {c : Cx} {H B : PM} {cs : List Cell} {s : Shared} {A : Around}
theorem listG (S : Own c H B cs s) {l : Addr} {xs : Array Value} (hl : c.g.IsList l xs) : s.heap.IsList l xs := by
  obtain ⟨o, ho, h1, h2⟩ := hl
  exact ⟨o, S.keepG _ _ ho, h1, h2⟩
set_option maxHeartbeats 400000 in
theorem poolL_spec {fa l : Addr} {vs : List Value} {ns : List Int} {Q : Value → Shared → Prop} (W : World c) (R : Room A 1) (F : FnAt c fa (Str.ofString "_law_pool") (Str.ofString "_law_pool") (stAt 13) .none) (S : Own c H B cs s)
    (hl : c.g.IsList l vs.toArray) (hv : IntsAre vs ns) (hlen : vs.length < 1000) (h : ∀ a s', Own c H B ((a, srcP) :: cs) s' → Q (.ref a) s') :
    wpAny c.M A (call (.ref fa) [.ref l]) Q NE s := by
  refine enter (binds := [(Str.ofString "script", .ref l)]) R W.glb F S rfl rfl (fun _ _ _ _ _ _ => BindsTo.of_eq rfl) (by decide) rfl ?_
  intro A' L cd s' R' S'
  refine runs_of ?_
  repeat (row_room_at m)
  row_room_at ifx
  iterate 7 (row_room_at m)
  refine b_len_l S' (listG S' hl) (by row_room_at ar) fun t s₁ S₁ => ?_
  repeat (row_room_at m)
  rename_i S₂
  cases hv with
  | nil =>
    refine ite_f (by simp) ?_
    repeat (row_room_at m)
    row_room_at listC
    rename_i T
    exact h _ _ (T.swap.drop.weak fun o q => ⟨_, _, _, _, Int.emod_nonneg _ (by row_room_at ar), Int.emod_lt_of_pos _ (by row_room_at ar), q.w⟩)
  | cons i t hv =>
    refine ite_t (by simp) ?_
    iterate 3 (row_room_at m)
    refine item_l (listG (by assumption) hl) (by decide) (by decide) (by exact rfl) ?_
    repeat (row_room_at m)
    row_room_at listC
    rename_i T
    exact h _ _ (T.swap.drop.weak fun o q => ⟨_, _, _, _, Int.emod_nonneg _ (by row_room_at ar), Int.emod_lt_of_pos _ (by row_room_at ar), q.w⟩)
end
section
variable {c : Cx} {H B : PM} {cs : List Cell} {s : Shared} {A : Around} {x : Addr} {bs : List Blk} {sp bl lo : Addr} {ac nm : Value}
noncomputable def lawQual : Str := Str.ofString "law" ++ ".<locals>." ++ "<lambda>"
noncomputable abbrev lawEnv (L fa lc : Addr) : Env := fEnv (stScope (stAt 23)) (Str.ofString "law") L fa (.ref lc) (cellsFrom (L + 1) (stScope (stAt 23)).names [])
theorem turns9 {f : Addr} {qual : Str} {p p1 p2 p3 : Pos} {k : Nat} (W : World c) (F : LamB c B f qual { posonlyargs := [], args := [{ arg := Str.ofString "goal", annotation := none, pos := p }], vararg := none, kwonlyargs := [], kw_defaults := [], kwarg := none, defaults := [] }
    (.BinOp (.Constant (.int 9) k p1) .Sub (.Name (Str.ofString "goal") p2) p3) { kind := .function, names := [(Str.ofString "goal", .local)], isGenerator := false, isCoroutine := false } []) : Turns c B (.ref f) (fun g => 9 - g) (fun _ => True) := by
  refine ⟨?_, ?_⟩
  · obtain ⟨pm, c', ctv, e, _⟩ := F
    exact ⟨f, _, _, rfl, e, rfl⟩
  intro A₁ H₁ B₁ cs₁ s₁ g t Q R₁ hleT ST hg hq
  refine lam_call (n := 0) (binds := [(Str.ofString "goal", .int g t)]) W.glb R₁ (F.mono hleT) ST (fun _ _ _ => rfl) (by intro y hy; rw [List.mem_singleton.mp hy]; rfl) ?_
  intro A₂ L₂ cd₂ s₂ R₂ ST₂
  repeat (row_room_at m)
  rename_i T
  exact hq _ _ T.drop
theorem turns5 {f : Addr} {qual : Str} {p p1 p2 p3 : Pos} {k : Nat} (W : World c) (F : LamB c B f qual { posonlyargs := [], args := [{ arg := Str.ofString "goal", annotation := none, pos := p }], vararg := none, kwonlyargs := [], kw_defaults := [], kwarg := none, defaults := [] }
    (.BinOp (.Name (Str.ofString "goal") p2) .Add (.Constant (.int 5) k p1) p3) { kind := .function, names := [(Str.ofString "goal", .local)], isGenerator := false, isCoroutine := false } []) : Turns c B (.ref f) (fun g => g + 5) (fun _ => True) := by
  refine ⟨?_, ?_⟩
  · obtain ⟨pm, c', ctv, e, _⟩ := F
    exact ⟨f, _, _, rfl, e, rfl⟩
  intro A₁ H₁ B₁ cs₁ s₁ g t Q R₁ hleT ST hg hq
  refine lam_call (n := 0) (binds := [(Str.ofString "goal", .int g t)]) W.glb R₁ (F.mono hleT) ST (fun _ _ _ => rfl) (by intro y hy; rw [List.mem_singleton.mp hy]; rfl) ?_
  intro A₂ L₂ cd₂ s₂ R₂ ST₂
  repeat (row_room_at m)
  rename_i T
  exact hq _ _ T.drop
set_option maxHeartbeats 8000000 in
theorem law_C {L fa lc LP src : Addr} {tm : Tok} {tps : Array Value} {Q : Flow → Shared → Prop} (V : Wd c) (R : Room A 5)
    (CL : CodeHd c.g lc LP) (hbtL : c.g.BuiltinsAt c.mg LP)
    (S : Own c H B ((L, frameP [(Str.ofString "body", .ref x)]) :: (L + 1 + 1, varP (some (.int bs.length tm))) :: (L + 1, varP (some (.ref src))) :: (LP, tabP tps) :: cs) s)
    (hT : TabOk B lawQual tps) (I : BodyB c B x bs sp bl lo ac nm) (ok : BodyOk bs)
    (h : ∀ tps' B' s', Own c H B' ((LP, tabP tps') :: cs) s' → Q (.ret (.bool true)) s') :
    wpAny c.M A (runs [(stBody (stAt 23)).drop 12] (lawEnv L fa lc)) Q NE s := by
  have W := V.w
  have Wc := V.cls
  have Ia := I.at_
  have Ir := I.rd
  have hl6 := ok.len
  obtain ⟨fre, hfre, Fre⟩ := W.retargeted
  obtain ⟨fle, hfle, Fle⟩ := W.led
  refine with_list rfl rfl ?_
  repeat (row_room_at m)
  rename_i s₁ S₁
  refine it_list S₁ R.hd (by row_room_at m_rd) fun it I₁ s₂ Wk S₂ => ?_
  refine comp_s Wk S₂ (Le.refl _) (fun k ys B' cs' => ∃ tps, cs' = (L, frameP [(Str.ofString "body", .ref x)]) :: (L + 1 + 1, varP (some (.int bs.length tm))) :: (L + 1, varP (some (.ref src))) :: (LP, tabP tps) :: cs ∧ TabOk B' lawQual tps ∧
    RdAll B' ys ((bs.take k).map fun b => (b.e.map fun g => 9 - g).d)) ⟨tps, rfl, hT, .nil⟩ ?_ ?_ ?_ rfl rfl rfl (by rw [List.length_map, sizeLine_eq]; omega)
  · rintro k v ys H' B' cs' s₃ C hk hle ⟨d, hd, rv⟩ ⟨tps₁, rfl, hT₁, hy⟩ S₃
    rw [List.getElem?_map] at hd
    obtain ⟨b, hb, rfl⟩ := Option.map_eq_some_iff.mp hd
    have bok := ok.ok b (List.mem_of_getElem? hb)
    clear S S₁ S₂
    repeat (row_room_at m)
    rename_i s₄ S₄ ev re_
    refine lam_ W.glb hbtL CL (S₄.perm (List.perm_middle (l₁ := [_, _, _, _]))) hT₁ rfl rfl rfl rfl fun f tps₂ B₅ s₁₀ hlam hT₂ hle₅ T₃ => ?_
    have hTurn : Turns c B₅ (.ref f) (fun g => 9 - g) (fun _ => True) := turns9 W hlam
    have T₄ := T₃.perm (List.perm_middle (l₁ := [_, _, _, _])).symm
    clear T₃ S₄
    repeat (row_room_at m)
    refine retarg_spec W (R.le (by decide)) Fre T₄ (by row_room_at m_rd) (small_of bok.e) hTurn (fun _ _ => trivial) fun v₁ B₆ s₁₁ re T₅ hle₆ => ?_
    refine ⟨B₆, _, _, hle₅.trans hle₆, ⟨tps₂, rfl, hT₂.mono hle₆, ?_⟩, T₅⟩
    rw [List.take_add_one, hb, List.map_append]
    exact (hy.mono (hle₅.trans hle₆)).snoc re
  · rintro k ys B' B'' cs' hle ⟨tps₁, rfl, h1, h2⟩
    exact ⟨tps₁, rfl, h1.mono hle, h2.mono hle⟩
  · rintro D ys B₁ cs' hle₁ hD hlen ⟨tps₁, rfl, hT₁, hy⟩
    rw [List.length_map, List.take_of_length_le (Nat.le_refl _)] at hy
    refine ⟨_, _, .tail .head, fun s₃ S₃ => ?_⟩
    obtain ⟨B₂, hle₂, rD, S₄⟩ := S₃.frz hy
    have hT₂ := hT₁.mono hle₂
    have hle12 := hle₁.trans hle₂
    replace S₄ : Own c H B₂ ((L, frameP [(Str.ofString "turned", .ref D), (Str.ofString "body", .ref x)]) :: (L + 1 + 1, varP (some (.int bs.length tm))) :: (L + 1, varP (some (.ref src))) :: (LP, tabP tps₁) :: cs) s₃ := S₄
    clear S S₁ S₂ S₃
    repeat (row_room_at m)
    rename_i s₅ S₅
    refine it_list S₅ R.hd (by row_room_at m_rd) fun it₂ I₂ s₆ Wk₂ S₆ => ?_
    refine comp_c Wk₂ S₆ (Le.refl _) (fun k ys B' => RdAll B' ys ((bs.take k).map fun b => (b.e.map fun g => 9 - g).d)) .nil ?_ ?_ ?_ rfl (by rw [List.length_map, sizeLine_eq]; omega)
    · rintro k v zs H' B₃ s₇ C hk hle₃ ⟨d, hd, rv⟩ hz S₇
      rw [List.getElem?_map] at hd
      obtain ⟨b, hb, rfl⟩ := Option.map_eq_some_iff.mp hd
      have bok := ok.ok b (List.mem_of_getElem? hb)
      clear S₄ S₅ S₆
      repeat (row_room_at m)
      rename_i hrg T₁
      refine it_range T₁ R.hd hrg (by row_room_at ar) fun it₃ I₃ s₈ Wk₃ S₈ => ?_
      refine comp_map Wk₃ S₈ (Le.refl _) (fun d => match d with | .int i => .int (9 - i) | _ => .none) ?_ ?_ (by rw [nats_len, sizeLine_eq]; omega)
      · intro d v H' B' s' C hd rv S hle
        obtain ⟨i, hi, rfl⟩ := List.mem_map.mp hd
        obtain ⟨ti, rfl⟩ := rv.int_inv
        repeat (row_room_at m)
        exact ⟨_, _, by assumption, by row_room_at m_le, .int _ _⟩
      · intro D₂ us B₄ s₉ hD₂ hu S₉ hle₄
        have e : (nats bs.length).map (fun d => match d with | .int i => .int (9 - i) | _ => .none) = (((List.range bs.length).map fun (i : Nat) => 9 - (i : Int)).map PyData.int) := by
          simp [nats, Function.comp_def]
        rw [e] at hu
        obtain ⟨B₅, hle₅, rN, S₁₀⟩ := S₉.frz hu
        clear S₇ S₈ S₉ T₁
        repeat (row_room_at m)
        refine led_spec W (R.le (by decide)) Fle S₁₀ (Rd.mono (by row_room_at m_le) (by with_reducible assumption : Rd B₃ _ b.e.d)) (small_of bok.e) (look_list rN) ?_ fun v₁ B₆ s₁₂ rv₁ S₁₂ hle₆ => ?_
        · intro g hg
          have := bok.e.told g hg
          rw [List.length_map, List.length_range]
          omega
        have e2 : (b.e.map fun g => ((List.range bs.length).map fun (i : Nat) => 9 - (i : Int)).getD g.toNat 0) = b.e.map fun g => 9 - g := by
          refine map_congr _ fun g hg => ?_
          have := bok.e.told g hg
          rw [List.getD_eq_getElem?_getD, List.getElem?_map, List.getElem?_range (by row_room_at ar)]
          simp; omega
        rw [e2] at rv₁
        refine ⟨B₆, _, by row_room_at m_le, ?_, S₁₂⟩
        rw [List.take_add_one, hb, List.map_append]
        exact (hz.mono (by row_room_at m_le)).snoc rv₁
    · rintro k ys B' B'' hle h
      exact h.mono hle
    · rintro D₂ zs B₃ s₇ hle₃ hD₂ _ hz S₇
      rw [List.length_map, List.take_of_length_le (Nat.le_refl _)] at hz
      obtain ⟨B₄, hle₄, rZ, S₈⟩ := S₇.frz hz
      clear S₄ S₅ S₆ S₇
      have shE : Sh 6 (.list (bs.map fun b => (b.e.map fun g => 9 - g).d)) := by
        refine Sh.list (n := 5) fun y hy => ?_
        obtain ⟨b, hb, rfl⟩ := List.mem_map.mp hy
        exact End.sh (by rw [map_keys]; exact (ok.ok b hb).e.keys)
      repeat (row_room_at m)
      refine ite_f (by rw [eqv_self shE]; rfl) ?_
      repeat (row_room_at m)
      rename_i a₉ B₉ s₉ hle₉ rsw S₉
      have hle29 : Le B₂ B₉ := by clear hle12; row_room_at m_le
      have hT₄ : TabOk B₉ lawQual tps₁ := hT₂.mono hle29
      have hleB9 : Le B B₉ := hle12.trans hle29
      have rD₉ := rD.mono hle29
      refine lam_ W.glb hbtL CL (S₉.perm (List.perm_middle (l₁ := [_, _, _]))) hT₄ rfl rfl rfl rfl fun f tps₂ B₅ s₁₀ hlam hT₅ hle₅ T₃ => ?_
      have hTurn : Turns c B₅ (.ref f) (fun g => g + 5) (fun _ => True) := turns5 W hlam
      have T₄ := T₃.perm (List.perm_middle (l₁ := [_, _, _])).symm
      replace T₄ : Own c H B₅ ((L, frameP [(Str.ofString "turned", .ref D), (Str.ofString "body", .ref x)]) :: (L + 1 + 1, varP (some (.int bs.length tm))) :: (L + 1, varP (some (.ref src))) :: (LP, tabP tps₂) :: cs) s₁₀ := T₄
      replace hT₅ : TabOk B₅ lawQual tps₂ := hT₅
      clear T₃ S₉ S₈ hlam
      repeat (row_room_at m)
      refine retarg_spec (e := End.switch [(.bool false, 2)] (some 3)) W (R.le (by decide)) Fre T₄ (rsw.mono hle₅) (fun rows rest q => by cases q; decide) hTurn (fun _ _ => trivial) fun v₁ B₆ s₁₁ re T₅ hle₆ => ?_
      have shR : Sh 5 (.tuple [sD "switch", .tuple [sD "copy", .tuple [.int 1, .tuple []]], .tuple [.tuple [.bool false, .int 7]], .int 8]) := End.sh (e := End.switch [(.bool false, 7)] (some 8)) (fun k hk => by rw [List.mem_singleton.mp hk]; exact Sh.bool)
      replace re : Rd B₆ v₁ (.tuple [sD "switch", .tuple [sD "copy", .tuple [.int 1, .tuple []]], .tuple [.tuple [.bool false, .int 7]], .int 8]) := re
      have hleB6 := hleB9.trans (hle₅.trans hle₆)
      have rD₆ := rD₉.mono (hle₅.trans hle₆)
      have hT₆ := hT₅.mono hle₆
      clear T₄
      repeat (row_room_at m)
      rename_i a₇ B₇ s₇ hle₇ rE S₇
      have hle67 : Le B₆ B₇ := by clear hleB6; row_room_at m_le
      have hleB7 : Le B B₇ := hleB6.trans hle67
      have rD₇ := rD₆.mono hle67
      have hT₇ : TabOk B₇ lawQual tps₂ := hT₆.mono hle67
      refine ite_t (eqv_self shR) ?_
      have Ia₇ := Ia.mono hleB7
      have Ir₇ := Ir.mono hleB7
      replace S₇ : Own c H B₇ ((L, frameP [(Str.ofString "rest", v₁), (Str.ofString "turned", .ref D), (Str.ofString "body", .ref x)]) :: (L + 1 + 1, varP (some (.int bs.length tm))) :: (L + 1, varP (some (.ref src))) :: (LP, tabP tps₂) :: cs) s₇ := S₇
      clear T₅ hle₅ hle₆ hle₂ hle₃ hle₄ hle12
      repeat (row_room_at m)
      refine it_list S₇ R.hd rD₇ fun it₃ I₃ s₈ Wk₃ S₈ => ?_
      refine comp_ Wk₃ S₈ (Le.refl _) (fun k ys B' cs' => ∃ tps, cs' = (L, frameP [(Str.ofString "rest", v₁), (Str.ofString "turned", .ref D), (Str.ofString "body", .ref x)]) :: (L + 1 + 1, varP (some (.int bs.length tm))) :: (L + 1, varP (some (.ref src))) :: (LP, tabP tps) :: cs ∧ TabOk B' lawQual tps ∧
        RdAll B' ys ((bs.take k).map fun b => b.e.d)) ⟨tps₂, rfl, hT₇, .nil⟩ ?_ ?_ ?_ rfl (by rw [List.length_map, sizeLine_eq]; omega)
      · rintro k v ys H' B' cs' s₃ C hk hle ⟨d, hd, rv⟩ ⟨tps₁, rfl, hT₁, hy⟩ S₃
        rw [List.getElem?_map] at hd
        obtain ⟨b, hb, rfl⟩ := Option.map_eq_some_iff.mp hd
        have bok := ok.ok b (List.mem_of_getElem? hb)
        clear S₇ S₈
        repeat (row_room_at m)
        rename_i s₄ S₄
        refine lam_ W.glb hbtL CL (S₄.perm (List.perm_middle (l₁ := [_, _, _, _]))) hT₁ rfl rfl rfl rfl fun f tps₂ B₅ s₁₀ hlam hT₂ hle₅ T₃ => ?_
        have hTurn : Turns c B₅ (.ref f) (fun g => 9 - g) (fun _ => True) := turns9 W hlam
        have T₄ := T₃.perm (List.perm_middle (l₁ := [_, _, _, _])).symm
        clear T₃ S₄
        repeat (row_room_at m)
        refine retarg_spec W (R.le (by decide)) Fre T₄ (rv.mono hle₅) (map_small (small_of bok.e)) hTurn (fun _ _ => trivial) fun v₁ B₆ s₁₁ re T₅ hle₆ => ?_
        rw [nine_nine] at re
        refine ⟨B₆, _, _, hle₅.trans hle₆, ⟨tps₂, rfl, hT₂.mono hle₆, ?_⟩, T₅⟩
        rw [List.take_add_one, hb, List.map_append]
        exact (hy.mono (hle₅.trans hle₆)).snoc re
      · rintro k ys B' B'' cs' hle ⟨tps₁, rfl, h1, h2⟩
        exact ⟨tps₁, rfl, h1.mono hle, h2.mono hle⟩
      · rintro D₃ us B₈ cs' s₉ hle₈ _ _ ⟨tps₃, rfl, _, hu⟩ S₉
        rw [List.length_map, List.take_of_length_le (Nat.le_refl _)] at hu
        obtain ⟨B₉, hle₉, rU, S₁₀⟩ := S₉.frz hu
        have Ia₉ := Ia₇.mono (hle₈.trans hle₉)
        have Ir₉ := Ir₇.mono (hle₈.trans hle₉)
        clear S₇ S₈ S₉
        repeat (row_room_at m)
        rename_i s₁₁ S₁₁
        refine it_list S₁₁ R.hd Ir₉ fun it₄ I₄ s₁₂ Wk₄ S₁₂ => ?_
        refine comp_map Wk₄ S₁₂ (Le.refl _) (fun d => match d with | .list [_, e] => e | _ => .none) ?_ ?_ (by rw [List.length_map, sizeLine_eq]; omega)
        · intro d v H' B' s' C hd rv S hle
          obtain ⟨b, hb, rfl⟩ := List.mem_map.mp hd
          clear S₁₀ S₁₁ S₁₂
          repeat (row_room_at m)
          exact ⟨_, _, by assumption, by row_room_at m_le, by assumption⟩
        · intro D₄ ws B₁₀ s₁₃ _ hw S₁₃ hle₁₀
          have e : (bs.map blkD).map (fun d => match d with | .list [_, e] => e | _ => .none) = bs.map fun b => b.e.d := by rw [List.map_map]; rfl
          rw [e] at hw
          obtain ⟨B₁₁, hle₁₁, rW, S₁₄⟩ := S₁₃.frz hw
          have rU₁ := rU.mono (hle₁₀.trans hle₁₁)
          have shU : Sh 6 (.list (bs.map fun b => b.e.d)) := by
            refine Sh.list (n := 5) fun y hy => ?_
            obtain ⟨b, hb, rfl⟩ := List.mem_map.mp hy
            exact End.sh (ok.ok b hb).e.keys
          clear S₁₀ S₁₁ S₁₂ S₁₃
          repeat (row_room_at m)
          rw [eqv_self shU]
          exact h tps₃ B₁₁ _ S₁₄.drop.drop.drop
end
section
variable {c : Cx} {H B : PM} {cs : List Cell} {s : Shared} {A : Around} {x : Addr} {bs : List Blk} {sp bl lo : Addr} {ac nm : Value}
set_option maxHeartbeats 8000000 in
theorem law_B {L fa cc P lc LP fw src : Addr} {gv : Value} {ls : List PyData} {tm : Tok} {Q : Flow → Shared → Prop} (V : Wd c) (R : Room A 5)
    (hfw : c.mg (Str.ofString "with_blocks") = some (.ref fw)) (Fw : FnC c fw (Str.ofString "with_blocks") (Str.ofString "with_blocks") (stAt 9) .none (.ref cc)) (C : CodeHd c.g cc P) (hbt : c.g.BuiltinsAt c.mg P)
    (CL : CodeHd c.g lc LP) (hbtL : c.g.BuiltinsAt c.mg LP)
    (S : Own c H B ((L, frameP [(Str.ofString "goals", gv), (Str.ofString "body", .ref x)]) :: (L + 1 + 1, varP (some (.int bs.length tm))) :: (L + 1, varP (some (.ref src))) :: (P, tabP #[]) :: (src, srcP) :: (LP, tabP #[]) :: cs) s)
    (I : BodyB c B x bs sp bl lo ac nm) (ok : BodyOk bs) (D : SpB c B sp (spo (pl 0 bs))) (rl : Rd B (.ref lo) (.list ls)) (hl : ls.length ≤ sizeLine) (hnm : handedIn nm = true) (hac : handedIn ac = true)
    (rg : Rd B gv (goalsD bs))
    (h : ∀ tps tps' B' s', Own c H B' ((P, tabP tps) :: (LP, tabP tps') :: cs) s' → Q (.ret (.bool true)) s') :
    wpAny c.M A (runs [(stBody (stAt 23)).drop 5] (lawEnv L fa lc)) Q NE s := by
  have W := V.w
  have Wc := V.cls
  have Ia := I.at_
  have Ir := I.rd
  have hl6 := ok.len
  have sm := spo_small ok
  obtain ⟨fsu, hfsu, Fsu⟩ := W.successors
  obtain ⟨fpr, hfpr, Fpr⟩ := W.pright
  obtain ⟨fsh, hfsh, Fsh⟩ := W.shown
  obtain ⟨fco, hfco, Fco⟩ := W.copied
  obtain ⟨fkr, hfkr, Fkr⟩ := W.kright
  refine with_list rfl rfl ?_
  repeat (row_room_at m)
  rename_i s₁ S₁
  refine it_list S₁ R.hd Ir fun it I₁ s₂ Wk S₂ => ?_
  refine comp_c Wk S₂ (Le.refl _) (fun k ys B' => RdAll B' ys ((bs.take k).map fun b => .list (b.e.succs.map PyData.int))) .nil ?_ ?_ ?_ rfl (by rw [List.length_map, sizeLine_eq]; omega)
  · rintro k v zs H' B₃ s₇ C hk hle₃ ⟨d, hd, rv⟩ hz S₇
    rw [List.getElem?_map] at hd
    obtain ⟨b, hb, rfl⟩ := Option.map_eq_some_iff.mp hd
    have bok := ok.ok b (List.mem_of_getElem? hb)
    clear S S₁ S₂
    repeat (row_room_at m)
    rename_i s₄ S₄ ev re_
    refine succ_spec W (R.le (by decide)) Fsu S₄ re_ (small_of bok.e) fun v₁ B₅ s₅ rv₁ S₅ hle₅ => ?_
    refine ⟨B₅, _, hle₅, ?_, S₅⟩
    rw [List.take_add_one, hb, List.map_append]
    exact (hz.mono hle₅).snoc rv₁
  · rintro k ys B' B'' hle h
    exact h.mono hle
  · rintro D₂ zs B₃ s₇ hle₃ hD₂ _ hz S₇
    rw [List.length_map, List.take_of_length_le (Nat.le_refl _)] at hz
    obtain ⟨B₄, hle₄, rZ, S₈⟩ := S₇.frz hz
    have shG : Sh 2 (goalsD bs) := by
      refine Sh.list (n := 1) fun y hy => ?_
      obtain ⟨b, hb, rfl⟩ := List.mem_map.mp hy
      exact sh_ints _
    have hleB4 := hle₃.trans hle₄
    have rg₄ := rg.mono hleB4
    have I₄ := I.mono hleB4
    replace rZ : Rd B₄ (.ref D₂) (goalsD bs) := rZ
    clear S S₁ S₂ S₇ hle₃ hle₄
    repeat (row_room_at m)
    refine ite_f (by rw [eqv_self shG]; rfl) ?_
    repeat (row_room_at m)
    refine pright_spec V (R.le (by decide)) Fpr S₈ I₄ ok rg₄ fun B₅ s₅ S₉ hle₅ => ?_
    have hleB5 := hleB4.trans hle₅
    have I₅ := I.mono hleB5
    clear S₈ hleB4 hle₅ rg₄ rZ I₄
    repeat (row_room_at m)
    refine ite_f rfl ?_
    repeat (row_room_at m)
    refine shown_spec V (R.le (by decide)) Fsh S₉ I₅ ok (D.mono hleB5) sm fun v₁ B₆ s₆ X₁ S₁₀ hle₆ => ?_
    have hleB6 := hleB5.trans hle₆
    have I₆ := I.mono hleB6
    clear S₉ I₅
    repeat (row_room_at m)
    rename_i s₁₁ S₁₁
    replace S₁₁ : Own c H B₆ ((L, frameP [(Str.ofString "before", v₁), (Str.ofString "goals", gv), (Str.ofString "body", .ref x)]) :: (L + 1 + 1, varP (some (.int bs.length tm))) :: (L + 1, varP (some (.ref src))) :: (P, tabP #[]) :: (src, srcP) :: (LP, tabP #[]) :: cs) s₁₁ := S₁₁
    clear S₁₀
    refine copied_spec V (R.le (by decide)) Fco S₁₁ I₆ ok (D.mono hleB6) sm (rl.mono hleB6) hl hnm hac fun y bl' r0 m0 t0 ws rest sp' xs lo' B₇ s₁₂ Iy hxs hws S₁₂ hle₇ => ?_
    have hleB7 := hleB6.trans hle₇
    have X₇ := X₁.mono hle₇
    clear S₁₁ I₆
    have hwz : ws.length ≤ sizeLine := by rw [sizeLine_eq]; omega
    iterate 35 (row_room_at m)
    rename_i T
    refine set_l (vs := [.ref m0, t0]) T (.tail (.tail .head)) (by decide) (by decide) (by exact Nat.le_of_ble_eq_true rfl) fun s₁₃ S₁₃ => ?_
    clear T S₁₂
    repeat (row_room_at m)
    rename_i a₄ B₈ s₁₄ hle₈ rk S₁₄
    have hle78 : Le B₇ B₈ := by clear hleB7 hle₇; row_room_at m_le
    refine td_set (p := (0, 0)) (hxs.mono hle78) R S₁₄ .head rk (by have := sm.2.1; omega) fun s₁₅ S₁₅ _ => ?_
    have S₁₆ := S₁₅.drop.drop.drop.drop
    have hleB8 := hleB7.trans hle78
    have X₈ := X₇.mono hle78
    have I₈ := I.mono hleB8
    replace S₁₆ : Own c H B₈ ((L, frameP [(Str.ofString "other", .ref y), (Str.ofString "before", v₁), (Str.ofString "goals", gv), (Str.ofString "body", .ref x)]) :: (L + 1 + 1, varP (some (.int bs.length tm))) :: (L + 1, varP (some (.ref src))) :: (P, tabP #[]) :: (src, srcP) :: (LP, tabP #[]) :: cs) s₁₅ := S₁₆
    clear S₁₃ S₁₄ S₁₅ Iy
    repeat (row_room_at m)
    refine shown_spec V (R.le (by decide)) Fsh S₁₆ I₈ ok (D.mono hleB8) sm fun v₂ B₉ s₁₇ X₂ S₁₇ hle₉ => ?_
    have hleB9 := hleB8.trans hle₉
    have X₉ := X₈.mono hle₉
    have I₉ := I.mono hleB9
    have rg₉ := rg.mono hleB9
    clear S₁₆ I₈
    row_room_at m
    refine ne_shown S₁₇ R (sh_shown ok).shaped X₂ X₉ ?_
    repeat (row_room_at m)
    have hfsp : ∀ (k : Nat) b, bs[k]? = some b → ∀ i, i ≤ b.marks.length → ((spo (pl 0 bs)).lookup (k, i)).isSome = true := fun k b hb i hi => spo_some (by have := mem_pl bs 0 k i b hb hi; rwa [Nat.zero_add] at this)
    refine kright_spec V R Fkr hfw Fw C hbt (S₁₇.perm ((List.perm_append_comm (l₁ := [_, _, _]) (l₂ := [_, _])).append_right _)) TabOk.nil I₉ ok (D.mono hleB9) (rl.mono hleB9) hl hnm hac hfsp rg₉ fun tps' B₁₀ s₁₈ hT₁₀ S₁₈ hle₁₀ => ?_
    have S₁₉ := S₁₈.perm ((List.perm_append_comm (l₁ := [_, _]) (l₂ := [_, _, _])).append_right _)
    have hleB10 := hleB9.trans hle₁₀
    have I₁₀ := I.mono hleB10
    clear S₁₇ S₁₈
    repeat (row_room_at m)
    refine ite_f rfl ?_
    iterate 2 (row_room_at m)
    have S₂₀ := (S₁₉.perm (List.Perm.cons _ (List.Perm.cons _ (List.Perm.cons _ (List.perm_middle (l₁ := [_, _])))))).weak (frameP_sub (bs' := [(Str.ofString "body", .ref x)]) (sub_cons rfl sub_nil))
    exact law_C V R CL hbtL S₂₀ TabOk.nil I₁₀ ok fun tps₂ B' s' S' => h tps' tps₂ B' s' (S'.swap.perm (List.perm_middle (l₁ := [_, _]))).drop
end
section
variable {c : Cx} {H B : PM} {cs : List Cell} {s : Shared} {A : Around}
set_option maxHeartbeats 8000000 in
theorem law_spec {L fa l cc P lc LP fw : Addr} {vs : List Value} {ns : List Int} {Q : Flow → Shared → Prop} (V : Wd c) (R : Room A 5)
    (hfw : c.mg (Str.ofString "with_blocks") = some (.ref fw)) (Fw : FnC c fw (Str.ofString "with_blocks") (Str.ofString "with_blocks") (stAt 9) .none (.ref cc)) (C : CodeHd c.g cc P) (hbt : c.g.BuiltinsAt c.mg P)
    (CL : CodeHd c.g lc LP) (hbtL : c.g.BuiltinsAt c.mg LP)
    (S : Own c H B ((L, frameP [(Str.ofString "script", .ref l)]) :: (L + 1 + 1, varP none) :: (L + 1, varP none) :: (P, tabP #[]) :: (LP, tabP #[]) :: cs) s)
    (hl : c.g.IsList l vs.toArray) (hv : IntsAre vs ns) (hlen : vs.length < 1000)
    (h : ∀ tps tps' B' s', Own c H B' ((P, tabP tps) :: (LP, tabP tps') :: cs) s' → Q (.ret (.bool true)) s') :
    wpAny c.M A (runs [stBody (stAt 23)] (lawEnv L fa lc)) Q NE s := by
  have W := V.w
  have Wc := V.cls
  have hgb := V.gbody
  obtain ⟨lv, hlv, rlv⟩ := V.glawint
  obtain ⟨fpo, hfpo, Fpo⟩ := W.pool
  obtain ⟨ft, hft, Ft⟩ := W.take
  obtain ⟨fe, hfe, Fe⟩ := W.end_
  obtain ⟨fo, hfo, Fo⟩ := W.once
  obtain ⟨fpt, hfpt, Fpt⟩ := W.points
  have rlv' : Rd B lv lawIntD := rlv.mono fun a o e => S.base a o e
  refine with_list rfl rfl ?_
  repeat (row_room_at m)
  refine poolL_spec W (R.le (by decide)) Fpo S hl hv hlen fun src s₁ S₁ => ?_
  repeat (row_room_at m)
  rename_i S₂
  refine take_spec W (R.le (by decide)) Ft S₂ (by row_room_at m_mem) (by row_room_at ar) (by row_room_at ar) fun d td s₃ d0 d1 S₃ => ?_
  clear S₁ S₂
  row_room_at m
  rename_i tm s₄ S₄
  obtain ⟨n, hn⟩ : ∃ n : Nat, 1 + d = (n : Int) := ⟨(1 + d).toNat, by omega⟩
  rw [hn]
  clear S₃
  repeat (row_room_at m)
  refine cw_cls Wc ?_
  repeat (row_room_at m)
  row_room_at listC
  rename_i a₁ B₁ _ hle₁ hr₁ _ la s₅ hla S₅
  row_room_at m
  rename_i t₂ s₆ S₆
  obtain ⟨nl, hln⟩ := cellP S₆ (.head _)
  refine mul_l S₆ hln (by decide) (by decide) (by exact Nat.le_of_ble_eq_true rfl) fun lb s₇ hlb S₇ => ?_
  replace S₇ : Own c H B₁ ((lb, listP [.ref a₁, .ref a₁]) :: (la, listP [.ref a₁]) :: (src, srcP) :: (L, frameP [(Str.ofString "script", .ref l)]) :: (L + 1 + 1, varP (some (.int n tm))) :: (L + 1, varP (some (.ref src))) :: (P, tabP #[]) :: (LP, tabP #[]) :: cs) s₇ := S₇
  obtain ⟨B₂, hle₂, rL, S₈⟩ := S₇.frz (.cons hr₁ (.cons hr₁ .nil))
  have S₉ := S₈.drop
  clear S₄ S₅ S₆ S₇ S₈
  repeat (row_room_at m)
  refine init3_spec V (R.le (by decide)) S₉ rL (by exact Nat.le_of_ble_eq_true rfl) fun x lo bl sp B₃ s₁₀ hI rlo S₁₀ hle₃ => ?_
  clear S₉
  repeat (row_room_at m)
  row_room_at listC
  rename_i gd s₁₁ hgd S₁₁
  repeat (row_room_at m)
  rename_i ra B₄ s₁₂ hle₄ hrg S₁₂
  have hI₄ := hI.mono hle₄
  have rlv₄ : Rd B₄ lv lawIntD := rlv'.mono (hle₁.trans (hle₂.trans (hle₃.trans hle₄)))
  refine it_range S₁₂ R.hd hrg (by row_room_at ar) fun it I₁ s₁₃ Wk S₁₃ => ?_
  have S₁₄ : Own c H B₄ ([(it, I₁ 0)] ++ (L, frameP [(Str.ofString "body", .ref x), (Str.ofString "goals", .ref gd), (Str.ofString "script", .ref l)]) :: (gd, listP []) :: (sp, tdP c []) :: (bl, listP []) :: (src, srcP) :: (L + 1 + 1, varP (some (.int n tm))) :: (L + 1, varP (some (.ref src))) :: (P, tabP #[]) :: (LP, tabP #[]) :: cs) s₁₃ :=
    (show Own c H B₄ ((it, I₁ 0) :: (gd, listP []) :: (sp, tdP c []) :: (bl, listP []) :: (src, srcP) :: (L, frameP [(Str.ofString "body", .ref x), (Str.ofString "goals", .ref gd), (Str.ofString "script", .ref l)]) :: (L + 1 + 1, varP (some (.int n tm))) :: (L + 1, varP (some (.ref src))) :: (P, tabP #[]) :: (LP, tabP #[]) :: cs) s₁₃ from S₁₃).perm (List.Perm.cons _ (List.perm_middle (l₁ := [_, _, _, _])))
  clear S₁₀ S₁₁ S₁₂ S₁₃
  refine loop_f Wk S₁₄ (Le.refl _) [(Str.ofString "body", .ref x), (Str.ofString "goals", .ref gd)] (by row_room_at m_sub)
    (fun k B' cs' => ∃ (bs : List Blk) (ys gs : List Value), cs' = (gd, listP gs) :: (sp, tdP c []) :: (bl, listP ys) :: (src, srcP) :: (L + 1 + 1, varP (some (.int n tm))) :: (L + 1, varP (some (.ref src))) :: (P, tabP #[]) :: (LP, tabP #[]) :: cs ∧
      bs.length = k ∧ RdAll B' ys (bs.map blkD) ∧ RdAll B' gs (bs.map fun b => .list (b.e.succs.map PyData.int)) ∧ ∀ b ∈ bs, b.Ok n) ⟨[], [], [], rfl, rfl, .nil, .nil, fun _ h => nomatch h⟩ ?_ ?_ ?_
  · rintro k B' B'' cs' hle ⟨bs, ys, gs, e, h1, h2, h3, h4⟩
    exact ⟨bs, ys, gs, e, h1, h2.mono hle, h3.mono hle, h4⟩
  · rintro k v H' B' cs' s' hk ⟨d, hd, rv⟩ ⟨bs, ys, gs, rfl, hbs, hy, hg, hok⟩ S hle
    rw [nats_len] at hk
    rw [nats_get hk] at hd
    cases hd
    obtain ⟨tk, rfl⟩ := rv.int_inv
    have hyl := hy.length
    have hgl := hg.length
    rw [List.length_map] at hyl hgl
    have hyz : ys.length ≤ sizeLine := by rw [sizeLine_eq]; omega
    have hgz : gs.length ≤ sizeLine := by rw [sizeLine_eq]; omega
    have rlv₅ := rlv₄.mono hle
    have hI₅ := hI₄.mono hle
    clear S₁₄
    repeat (row_room_at m)
    rename_i s₁ S₁
    refine end_spec W (R.le (by decide)) Fe S₁ (by row_room_at m_mem) (by row_room_at ar) (by row_room_at ar) fun ev e B₆ s₂ eok re S₂ hle₆ => ?_
    have hyz6 := hy.mono hle₆
    have hgz6 := hg.mono hle₆
    have rlv₆ := rlv₅.mono hle₆
    have hI₆ := hI₅.mono hle₆
    clear S₁
    repeat (row_room_at m)
    rename_i ev_ su _ re_ rs _ _ _ _ _ t4 s₃ S₃
    refine take_spec W (R.le (by decide)) Ft S₃ (by row_room_at m_mem) (by row_room_at ar) (by row_room_at ar) fun mk tmk s₄ k0 k1 S₄ => ?_
    obtain ⟨m, rfl⟩ : ∃ m : Nat, mk = m := nat_of (by assumption)
    clear S S₂ S₃
    repeat (row_room_at m)
    rename_i rb B₇ s₅ hle₇ hrb S₅
    replace S₅ : Own c H' B₇ ((L, frameP [(Str.ofString "some", su), (Str.ofString "end", ev_), (Str.ofString "block", .int k tk), (Str.ofString "body", .ref x), (Str.ofString "goals", .ref gd)]) :: (gd, listP gs) :: (sp, tdP c []) :: (bl, listP ys) :: (src, srcP) :: (L + 1 + 1, varP (some (.int n tm))) :: (L + 1, varP (some (.ref src))) :: (P, tabP #[]) :: (LP, tabP #[]) :: cs) s₅ := S₅
    clear S₄
    refine it_range S₅ R.hd hrb (by row_room_at ar) fun it₂ I₂ s₆ Wk₂ S₆ => ?_
    refine comp_s Wk₂ S₆ (Le.refl _) (fun j zs B' cs' => cs' = (L, frameP [(Str.ofString "some", su), (Str.ofString "end", ev_), (Str.ofString "block", .int k tk), (Str.ofString "body", .ref x), (Str.ofString "goals", .ref gd)]) :: (gd, listP gs) :: (sp, tdP c []) :: (bl, listP ys) :: (src, srcP) :: (L + 1 + 1, varP (some (.int n tm))) :: (L + 1, varP (some (.ref src))) :: (P, tabP #[]) :: (LP, tabP #[]) :: cs ∧
      ∃ ms : List PyData, ms.length = j ∧ RdAll B' zs ms ∧ ∀ d ∈ ms, Sh 3 d) ⟨rfl, [], rfl, .nil, fun _ h => nomatch h⟩ ?_ ?_ ?_ rfl rfl rfl (by rw [nats_len, sizeLine_eq]; omega)
    · rintro j v zs H'' B₈ cs' s₇ C_ hj hle₈ ⟨d, hd, rv⟩ ⟨rfl, ms, hml, hms, hsh⟩ S₇
      rw [nats_len] at hj
      rw [nats_get hj] at hd
      cases hd
      obtain ⟨tj, rfl⟩ := rv.int_inv
      have rlv₈ := rlv₆.mono (hle₇.trans hle₈)
      clear S₅ S₆
      repeat (row_room_at m)
      rename_i s₈ S₈
      refine take_spec W (R.le (by decide)) Ft S₈ (by row_room_at m_mem) (by row_room_at ar) (by row_room_at ar) fun nk tnk s₉ n0 n1 S₉ => ?_
      clear S₇ S₈
      repeat (row_room_at m)
      rename_i B₉ s₁₀ hle₉ rmk S₁₀
      refine ⟨B₉, _, _, by row_room_at m_le, ⟨rfl, ms ++ [.tuple [sD "print", .tuple [sD "const", lawIntD, .int nk]]], by simp [hml], ?_, ?_⟩, S₁₀⟩
      · exact (hms.mono (by row_room_at m_le)).snoc rmk
      · intro d hd
        rcases List.mem_append.mp hd with hd | hd
        · exact hsh d hd
        · rw [List.mem_singleton.mp hd]
          exact Sh.tuple (n := 2) (all_cons (Sh.lit _ (by decide +kernel)) (all_cons (Sh.tuple (n := 1) (all_cons (Sh.lit _ (by decide +kernel)) (all_cons (Sh.tuple (n := 0) (all_cons (Sh.lit _ (by decide +kernel)) (all_cons (Sh.lit _ (by decide +kernel)) all_nil))) (all_cons Sh.int all_nil)))) all_nil))
    · rintro j zs B' B'' cs' hle ⟨rfl, ms, h1, h2, h3⟩
      exact ⟨rfl, ms, h1, h2.mono hle, h3⟩
    · rintro D₂ zs B₈ cs' hle₈ hD₂ hzl ⟨rfl, ms, hml, hms, hsh⟩
      rw [nats_len] at hml
      refine ⟨_, _, .tail .head, fun s₇ S₇ => ?_⟩
      obtain ⟨B₉, hle₉, rM, S₈⟩ := S₇.frz hms
      replace S₈ : Own c H' B₉ ((L, frameP [(Str.ofString "marks", .ref D₂), (Str.ofString "some", su), (Str.ofString "end", ev_), (Str.ofString "block", .int k tk), (Str.ofString "body", .ref x), (Str.ofString "goals", .ref gd)]) :: (gd, listP gs) :: (sp, tdP c []) :: (bl, listP ys) :: (src, srcP) :: (L + 1 + 1, varP (some (.int n tm))) :: (L + 1, varP (some (.ref src))) :: (P, tabP #[]) :: (LP, tabP #[]) :: cs) s₇ := S₈
      have hle79 := hle₇.trans (hle₈.trans hle₉)
      have hI₉ := hI₆.mono hle79
      have re₉ := re_.mono hle79
      have rs₉ := rs.mono hle79
      clear S₅ S₆ S₇
      repeat (row_room_at m)
      row_room_at listR
      rename_i lr B₁₀ s₁₁ hle₁₀ rRow S₁₁
      have hI₁₀ := hI₉.mono hle₁₀
      have rs₁₀ := rs₉.mono hle₁₀
      clear S₈
      repeat (row_room_at m)
      rename_i s₁₂ S₁₂
      have hgl2 : (e.given).length < 1000 := by
        cases e with
        | switch rows rest =>
          have := eok.rows rows rest rfl
          simp [End.given, End.told]; omega
        | _ => simp [End.given, End.told]
      refine once_spec W (R.le (by decide)) Fo S₁₂ rs₁₀ hgl2 fun vg B₁₁ s₁₃ rg S₁₃ hle₁₁ => ?_
      have eg : once e.given = e.succs := by cases e <;> rfl
      rw [eg] at rg
      clear S₁₁ S₁₂
      repeat (row_room_at m)
      rename_i s₁₄ S₁₄
      have hle6 : Le B₆ B₁₁ := hle79.trans (hle₁₀.trans hle₁₁)
      refine ⟨rfl, B₁₁, _, _, S₁₄, hle₆.trans hle6, ⟨bs ++ [⟨ms, e⟩], ys ++ [.ref lr], gs ++ [vg], rfl, by simp [hbs], ?_, ?_, ?_⟩, by row_room_at m_sub⟩
      · rw [List.map_append]; exact (hyz6.mono hle6).snoc (rRow.mono hle₁₁)
      · rw [List.map_append]; exact (hgz6.mono hle6).snoc rg
      · intro b hb
        rcases List.mem_append.mp hb with hb | hb
        · exact hok b hb
        · rw [List.mem_singleton.mp hb]
          exact ⟨eok, hsh, by show ms.length ≤ 3; omega⟩
  · rintro B₅ cs' s₁₄ ⟨bs, ys, gs, rfl, hbs, hy, hg, hok⟩ S₁₅ hle₅
    rw [nats_len] at hbs
    subst hbs
    have ok : BodyOk bs := ⟨by omega, by omega, hok⟩
    obtain ⟨B₆, hle₆, rg, S₁₆⟩ := S₁₅.swap.frz hg
    obtain ⟨B₇, hle₇, rb, S₁₇⟩ := (S₁₆.perm (List.perm_middle (l₁ := [_, _]))).frz (hy.mono hle₆)
    have hle47 := hle₅.trans (hle₆.trans hle₇)
    have I₇ : BodyB c B₇ x bs sp bl lo _ _ := ⟨hI₄.mono hle47, rb⟩
    have rlo₇ := rlo.mono (hle₄.trans hle47)
    replace rg : Rd B₇ (.ref gd) (goalsD bs) := rg.mono hle₇
    replace S₁₇ : Own c H B₇ ((L, frameP [(Str.ofString "body", .ref x), (Str.ofString "goals", .ref gd)]) :: (sp, tdP c []) :: (src, srcP) :: (L + 1 + 1, varP (some (.int bs.length tm))) :: (L + 1, varP (some (.ref src))) :: (P, tabP #[]) :: (LP, tabP #[]) :: cs) s₁₄ := S₁₇
    clear S₁₄ S₁₅ S₁₆
    repeat (row_room_at m)
    refine points_spec V (R.le (by decide)) Fpt S₁₇ I₇ ok fun pv B₈ s₁₅ rp S₁₈ hle₈ => ?_
    have I₈ := I₇.at_.mono hle₈
    clear S₁₇
    repeat (row_room_at m)
    refine it_enum S₁₈ R.hd rp fun e I₂ s₁₆ hW S₁₉ => ?_
    refine (hW [] 0 ⟨0, 0, 0, 0⟩).self 0 _ _ _ _ _ S₁₉ ?_
    have nd := pl_nodup bs 0
    refine loop_fT (hW _ _ _) S₁₉ (Le.refl _) [(Str.ofString "goals", .ref gd), (Str.ofString "body", .ref x)] (by row_room_at m_sub)
      (fun k B' cs' => ∃ xs, cs' = (sp, tdP c xs) :: (src, srcP) :: (L + 1 + 1, varP (some (.int bs.length tm))) :: (L + 1, varP (some (.ref src))) :: (P, tabP #[]) :: (LP, tabP #[]) :: cs ∧ Td B' xs (spo ((pl 0 bs).take k))) ⟨[], rfl, td_nil⟩ ?_ ?_ ?_
    · rintro k B' B'' cs' hle ⟨xs, e, h1⟩
      exact ⟨xs, e, h1.mono hle⟩
    · rintro k v H' B' cs' s' hk ⟨d, hd, rv⟩ ⟨xs, rfl, hx⟩ S hle
      rw [enD_len, show pts bs = _ from pts_pl bs 0, List.length_map] at hk
      obtain ⟨p, hp⟩ : ∃ p, (pl 0 bs)[k]? = some p := ⟨(pl 0 bs)[k], by simp [hk]⟩
      have hpd : (pts bs)[k]? = some (ptD p.1 p.2) := by rw [show pts bs = _ from pts_pl bs 0, List.getElem?_map, hp]; rfl
      rw [enD_get hpd] at hd
      cases hd
      have I₉ := I₈.mono hle
      clear S₁₈ S₁₉
      repeat (row_room_at m)
      rename_i u _ q _ w _ _ _ _ _ _ _ _ _ _ _ s₂₀ S₂₀
      obtain ⟨a, oa, va, rfl, _⟩ := q.tuple_inv
      have hsl : (spo ((pl 0 bs).take k)).length ≤ 1000 := by
        have := pl_len (bs := bs) (fun b hb => (hok b hb).len) 0
        unfold spo; rw [List.length_map, List.length_zipIdx, List.length_take]; omega
      refine td_set (p := p) hx R S₂₀ (.tail .head) q hsl fun s₂₁ S₂₁ hx' => ?_
      rw [spo_take nd hp] at hx'
      clear S₂₀
      repeat (row_room_at m)
      exact ⟨rfl, _, _, _, S₂₁, Le.refl _, ⟨_, rfl, hx'⟩, by row_room_at m_sub⟩
    · rintro B₉ cs' s₁₇ ⟨xs, rfl, hx⟩ S₂₀ hle₉
      rw [enD_len, show pts bs = _ from pts_pl bs 0, List.length_map, List.take_of_length_le (Nat.le_refl _)] at hx
      obtain ⟨B₁₀, hle₁₀, hsp, S₂₁⟩ := frz_td W.glb S₂₀.swap hx
      have S₂₂ := S₂₁.perm (List.Perm.cons _ (List.perm_middle (l₁ := [_, _, _])).symm)
      have hle710 := hle₈.trans (hle₉.trans hle₁₀)
      exact law_B V R hfw Fw C hbt CL hbtL S₂₂ (I₇.mono hle710) ok hsp (rlo₇.mono hle710) (by exact Nat.le_of_ble_eq_true rfl) rfl rfl (rg.mono hle710) h
end
noncomputable def kfn (K : Frag) (fa : Addr) (name qual : Str) (st : Stmt) (dV cdv : Value) : Prop :=
  ∃ oc od osl kV doc pm an ct, K.lookup fa = some ⟨oc, od, .func (fnM name qual st [] dV kV doc pm an cdv ct), osl⟩ ∧ codeIn K cdv qual = true
noncomputable def kgl (K : Frag) (name : Str) (i : Nat) : Prop := ∃ fa cdv, nsIn K mainGlobals name = some (some (.ref fa)) ∧ kfn K fa name name (stAt i) .none cdv
noncomputable def kme (K : Frag) (C : Addr) (name qual : Str) (i : Nat) (dV : Value) : Prop := ∃ f cdv, findIn K (.ref C) name = some (some (.ref f)) ∧ typeIn K (.ref f) = some (.type "function") ∧ kfn K f name qual (methAt i) dV cdv
structure KNone (K : Frag) : Prop where
  nlen : nsIn K mainGlobals (Str.ofString "len") = some none
  nmax : nsIn K mainGlobals (Str.ofString "max") = some none
  nsorted : nsIn K mainGlobals (Str.ofString "sorted") = some none
  nint : nsIn K mainGlobals (Str.ofString "int") = some none
  nrange : nsIn K mainGlobals (Str.ofString "range") = some none
  nlist : nsIn K mainGlobals (Str.ofString "list") = some none
  ndict : nsIn K mainGlobals (Str.ofString "dict") = some none
  ntuple : nsIn K mainGlobals (Str.ofString "tuple") = some none
  nenum : nsIn K mainGlobals (Str.ofString "enumerate") = some none
structure KDefs (K : Frag) : Prop where
  points : kgl K (Str.ofString "points") 3
  successors : kgl K (Str.ofString "successors") 4
  predecessors : kgl K (Str.ofString "predecessors") 5
  next_points : kgl K (Str.ofString "next_points") 6
  retargeted : kgl K (Str.ofString "retargeted") 7
  reachable : kgl K (Str.ofString "reachable") 8
  copied : kgl K (Str.ofString "copied") 10
  pool : kgl K (Str.ofString "_law_pool") 13
  take : kgl K (Str.ofString "_law_take") 14
  one : kgl K (Str.ofString "_law_one") 15
  end_ : kgl K (Str.ofString "_law_end") 16
  once : kgl K (Str.ofString "_law_once") 17
  closed : kgl K (Str.ofString "_law_closed") 18
  shown : kgl K (Str.ofString "_law_shown") 19
  led : kgl K (Str.ofString "_law_led") 20
  pright : kgl K (Str.ofString "_law_points_right") 21
  kright : kgl K (Str.ofString "_law_kept_right") 22
structure KCls (K : Frag) (C : Addr) : Prop where
  hga : findIn K (.ref C) (Str.ofString "__getattribute__") = some (some (.builtin "object.__getattribute__"))
  hgt : findIn K (.ref C) (Str.ofString "__getattr__") = some none
  hset : findIn K (.ref C) (Str.ofString "__setattr__") = some (some (.builtin "object.__setattr__"))
  dict : hasDictIn K C = true
  over : plainOver K C = true
  makes : makesIn K C = true
  fname : findIn K (.ref C) (Str.ofString "name") = some none
  farg : findIn K (.ref C) (Str.ofString "arg_count") = some none
  flocals : findIn K (.ref C) (Str.ofString "locals") = some none
  fblocks : findIn K (.ref C) (Str.ofString "blocks") = some none
  fspots : findIn K (.ref C) (Str.ofString "spots") = some none
  init : ∃ T o n, K.lookup T = some o ∧ o.data = .seq #[.none, .none] n ∧ kme K C (Str.ofString "__init__") (Str.ofString "Body.__init__") 0 (.ref T)
  mst : kme K C (Str.ofString "statements") (Str.ofString "Body.statements") 3 .none
  mte : kme K C (Str.ofString "terminator") (Str.ofString "Body.terminator") 4 .none
  msp : kme K C (Str.ofString "spot") (Str.ofString "Body.spot") 5 .none
  gbody : nsIn K mainGlobals (Str.ofString "Body") = some (some (.ref C))
  glawint : ∃ a n t u, nsIn K mainGlobals (Str.ofString "_law_int") = some (some (.ref a)) ∧ K.lookup a = some { cls := .type "tuple", data := .seq #[.str (Str.ofString "int") t, .str (Str.ofString "u8") u] n }
section
variable {K : Frag}
theorem kfn_of {fa : Addr} {name qual : Str} {st : Stmt} {dV cdv oc kV doc pm ct : Value} {od an : Option Addr} {osl : Array (Option Value)} (h1 : K.lookup fa = some ⟨oc, od, .func (fnM name qual st [] dV kV doc pm an cdv ct), osl⟩) (h2 : codeIn K cdv qual = true) : kfn K fa name qual st dV cdv :=
  ⟨oc, od, osl, kV, doc, pm, an, ct, h1, h2⟩
theorem kgl_of {name : Str} {i : Nat} {fa : Addr} {cdv oc kV doc pm ct : Value} {od an : Option Addr} {osl : Array (Option Value)} (h0 : nsIn K mainGlobals name = some (some (.ref fa))) (h1 : K.lookup fa = some ⟨oc, od, .func (fnM name name (stAt i) [] .none kV doc pm an cdv ct), osl⟩) (h2 : codeIn K cdv name = true) : kgl K name i :=
  ⟨fa, cdv, h0, kfn_of h1 h2⟩
theorem kme_of {C : Addr} {name qual : Str} {i : Nat} {dV : Value} {f : Addr} {cdv oc kV doc pm ct : Value} {od an : Option Addr} {osl : Array (Option Value)} (h0 : findIn K (.ref C) name = some (some (.ref f))) (h3 : typeIn K (.ref f) = some (.type "function"))
    (h1 : K.lookup f = some ⟨oc, od, .func (fnM name qual (methAt i) [] dV kV doc pm an cdv ct), osl⟩) (h2 : codeIn K cdv qual = true) : kme K C name qual i dV := ⟨f, cdv, h0, h3, kfn_of h1 h2⟩
theorem kinit_of {C : Addr} {T : Addr} {o : Obj} {n : Nat} (hm : kme K C (Str.ofString "__init__") (Str.ofString "Body.__init__") 0 (.ref T)) (h1 : K.lookup T = some o) (h2 : o.data = .seq #[.none, .none] n) :
    ∃ T o n, K.lookup T = some o ∧ o.data = .seq #[.none, .none] n ∧ kme K C (Str.ofString "__init__") (Str.ofString "Body.__init__") 0 (.ref T) := ⟨T, o, n, h1, h2, hm⟩
theorem klit_of {a : Addr} {n : Nat} {t u : Tok} (h0 : nsIn K mainGlobals (Str.ofString "_law_int") = some (some (.ref a))) (h1 : K.lookup a = some { cls := .type "tuple", data := .seq #[.str (Str.ofString "int") t, .str (Str.ofString "u8") u] n }) :
    ∃ a n t u, nsIn K mainGlobals (Str.ofString "_law_int") = some (some (.ref a)) ∧ K.lookup a = some { cls := .type "tuple", data := .seq #[.str (Str.ofString "int") t, .str (Str.ofString "u8") u] n } := ⟨a, n, t, u, h0, h1⟩
end
section
variable {c : Cx}
theorem kfn.at_ {fa : Addr} {name qual : Str} {st : Stmt} {dV cdv : Value} (X : c.K.In c.g) (h : kfn c.K fa name qual st dV cdv) : FnC c fa name qual st dV cdv := by
  obtain ⟨oc, od, osl, kV, doc, pm, an, ct, h1, h2⟩ := h
  exact ⟨_, kV, doc, pm, an, ct, X _ _ h1, rfl, codeRec_of X h2⟩
theorem kgl.at_ {name : Str} {i : Nat} (X : c.K.In c.g) (G : c.g.Ns mainGlobals c.mg) (h : kgl c.K name i) : Gfn c name i := by
  obtain ⟨fa, cdv, h1, h2⟩ := h
  exact ⟨fa, mg_of X G h1, (h2.at_ X).at⟩
theorem kme.at_ {name qual : Str} {i : Nat} {dV : Value} (X : c.K.In c.g) (h : kme c.K c.C name qual i dV) : Meth c name qual i dV := by
  obtain ⟨f, cdv, h1, h2, h3⟩ := h
  exact ⟨f, h1, h2, (h3.at_ X).at⟩
theorem wd_of (X : c.K.In c.g) (G : Glb c) (h1 : KNone c.K) (h2 : KDefs c.K) (h3 : KCls c.K c.C) {fw : Addr} (hw : nsIn c.K mainGlobals (Str.ofString "with_blocks") = some (some (.ref fw))) {cdv : Value}
    (Fw : FnC c fw (Str.ofString "with_blocks") (Str.ofString "with_blocks") (stAt 9) .none cdv) : Wd c where
  w := {
    glb := G
    nlen := mg_none_of X G.g h1.nlen
    nmax := mg_none_of X G.g h1.nmax
    nsorted := mg_none_of X G.g h1.nsorted
    nint := mg_none_of X G.g h1.nint
    nrange := mg_none_of X G.g h1.nrange
    nlist := mg_none_of X G.g h1.nlist
    ndict := mg_none_of X G.g h1.ndict
    ntuple := mg_none_of X G.g h1.ntuple
    nenum := mg_none_of X G.g h1.nenum
    points := h2.points.at_ X G.g
    successors := h2.successors.at_ X G.g
    predecessors := h2.predecessors.at_ X G.g
    next_points := h2.next_points.at_ X G.g
    retargeted := h2.retargeted.at_ X G.g
    reachable := h2.reachable.at_ X G.g
    with_blocks := ⟨fw, mg_of X G.g hw, Fw.at⟩
    copied := h2.copied.at_ X G.g
    pool := h2.pool.at_ X G.g
    take := h2.take.at_ X G.g
    one := h2.one.at_ X G.g
    end_ := h2.end_.at_ X G.g
    once := h2.once.at_ X G.g
    closed := h2.closed.at_ X G.g
    shown := h2.shown.at_ X G.g
    led := h2.led.at_ X G.g
    pright := h2.pright.at_ X G.g
    kright := h2.kright.at_ X G.g }
  cls := ⟨X, h3.hga, h3.hgt, h3.hset, h3.dict, h3.over, h3.makes, h3.fname, h3.farg, h3.flocals, h3.fblocks, h3.fspots⟩
  init := by obtain ⟨T, o, n, a, b, d⟩ := h3.init; exact ⟨T, o, n, X _ _ a, b, d.at_ X⟩
  mst := h3.mst.at_ X
  mte := h3.mte.at_ X
  msp := h3.msp.at_ X
  gbody := mg_of X G.g h3.gbody
  glawint := by
    obtain ⟨a, n, t, u, e1, e2⟩ := h3.glawint
    exact ⟨_, mg_of X G.g e1, .tuple (X _ _ e2) ⟨n, rfl⟩ (.cons (.str _ _) (.cons (.str _ _) .nil))⟩
end
theorem sys_of {p : Program} {loose : List Str} {mean : ExcName → Option Value} {mg mb : Str → Option Value} {h : Heap} {tabs : List (Addr × Addr)} (T : Top p loose mean mg mb h) (hT : TabsAt tabs h) (hi : importsNone p = true) : ∃ o, (ghostOf h tabs).get? sysModules = some o := by
  obtain ⟨_, ⟨mm, hn, _⟩⟩ := T.seer hi
  obtain ⟨o, _, _, ho, _⟩ := ghost_ns hT hn
  exact ⟨o, ho⟩
theorem post_ok (a : List WData) : PySem.Challenge.rw_ot0006_01.row.claim.post a (.bool true) a = true := by kernel_rfl
theorem room_caller (env : Env) : Room (callerA.deeper env) 5 where
  hd := rfl
  depth := by show callerA.depth + 1 + 5 < recursionLimit; decide +kernel
  units := by show callerA.units + 3 + 20 * 5 + 300 < cLine; decide +kernel
theorem builtins_at {g : Heap} {mg : Str → Option Value} {P : Addr} (hg : g.Ns mainGlobals mg) (hb : ∃ bm ob, mg "__builtins__" = some (.ref bm) ∧ bm ≠ builtinsNs ∧ g.get? bm = some ob ∧ ob.cls = .type "module" ∧ ob.dict = some builtinsNs ∧ ob.data = .plain) (hP : g.get? P = none) : g.BuiltinsAt mg P := by
  obtain ⟨bm, ob, b1, b2, b3, b4, b5, b6⟩ := hb
  refine ⟨bm, ob, b1, b2, fun q => ?_, fun q => ?_, b3, b4, b5, b6⟩
  · obtain ⟨o, es, ep, e, hd, _⟩ := hg
    rw [q, e] at b3; cases b3; rw [hd] at b6; cases b6
  · rw [q, hP] at b3; cases b3
theorem nat_nd (L P LP : Nat) (l0 : P < L ∧ LP < L) (hne : P ≠ LP) : (¬L = L + 1 + 1 ∧ ¬L = L + 1 ∧ ¬L = P ∧ ¬L = LP) ∧ (¬L + 1 + 1 = L + 1 ∧ ¬L + 1 + 1 = P ∧ ¬L + 1 + 1 = LP) ∧ (¬L + 1 = P ∧ ¬L + 1 = LP) ∧ ¬P = LP := by omega
theorem own_start {c : Cx} {h₁ : Heap} {tk : Nat} {L P LP l : Addr} {m : Str → Option Value} {o1 o2 : Obj} (F : Fr c.g L h₁ m) (hm : m (Str.ofString "script") = some (.ref l))
    (N : News c.g L h₁ [(L + 1 + 1, o1), (L + 1, o2), (P, tabObj #[]), (LP, tabObj #[])]) (e1 : o1.data = .cell none) (e2 : o2.data = .cell none) (l0 : P < L ∧ LP < L) (hne : P ≠ LP) :
    Own c (fun _ => none) (HP c.g) [(L, frameP [(Str.ofString "script", .ref l)]), (L + 1 + 1, varP none), (L + 1, varP none), (P, tabP #[]), (LP, tabP #[])] { heap := h₁, gens := c.r.gens, drawn := c.r.drawn, toks := tk, os := c.r.os } where
  sh := rfl
  base := fun _ _ e => e
  hH := fun _ _ e => nomatch e
  hB := F.keep
  hC := by
    intro p hp
    simp only [List.mem_cons, List.not_mem_nil, or_false] at hp
    rcases hp with rfl | rfl | rfl | rfl | rfl
    · obtain ⟨o, es, ep, ho, hd, hk, hf⟩ := F.ns
      refine ⟨o, ho, es, ep, hd, hk, fun x v e => ?_⟩
      have := mem_of_lookup e
      simp only [List.mem_cons, List.not_mem_nil, or_false, Prod.mk.injEq] at this
      obtain ⟨rfl, rfl⟩ := this
      exact (hf _).trans hm
    · exact ⟨o1, (N _ (.head _)).1, e1⟩
    · exact ⟨o2, (N _ (.tail _ (.head _))).1, e2⟩
    · exact ⟨_, (N _ (.tail _ (.tail _ (.head _)))).1, rfl⟩
    · exact ⟨_, (N _ (.tail _ (.tail _ (.tail _ (.head _))))).1, rfl⟩
  dHB := fun _ _ e => nomatch e
  dC := by
    intro p hp
    refine ⟨rfl, ?_⟩
    simp only [List.mem_cons, List.not_mem_nil, or_false] at hp
    rcases hp with rfl | rfl | rfl | rfl | rfl
    · exact Heap.get?_none_of_le F.above
    · exact (N _ (.head _)).2.2
    · exact (N _ (.tail _ (.head _))).2.2
    · exact (N _ (.tail _ (.tail _ (.head _)))).2.2
    · exact (N _ (.tail _ (.tail _ (.tail _ (.head _))))).2.2
  nd := by
    simp only [List.map_cons, List.map_nil, List.nodup_cons, List.mem_cons, List.not_mem_nil, or_false, not_or, List.nodup_nil, and_true, not_false_eq_true]
    exact nat_nd L P LP l0 hne
theorem own_end {c : Cx} {cw : ClaimW} {cl : Str → Option Addr} {mean : ExcName → Option Value} {args : List WData} {H B : PM} {cs : List Cell} {s' : Shared} {cc P lc LP : Addr} {tps tps' : Array Value}
    (hg : c.r.gens = #[]) (hn : ∀ cls, cw.raises args cls = false) (hp : cw.post args (.bool true) args = true) (S : Own c H B ((P, tabP tps) :: (LP, tabP tps') :: cs) s') :
    GoodW cw cl mean args { heap := c.g, gens := c.r.gens, drawn := c.r.drawn, toks := c.r.toks, os := c.r.os } (.ok (.ret (.bool true))) s' ∧ GrownAll [(cc, P), (lc, LP)] s'.heap := by
  refine ⟨⟨.inl ⟨.bool true, .bool true, [], rfl, hn, .bool true, hp, fun _ => ⟨List.nodup_nil, fun _ h => nomatch h⟩⟩, S.keepG, ?_, ?_⟩, ?_, ?_, trivial⟩
  · have := S.sh; rw [this]
  · have := S.sh; rw [this]; exact hg
  · obtain ⟨o, ho, e⟩ := S.cell (.head _)
    exact ⟨tps, by rw [← (show o = tabObj tps from e)]; exact ho⟩
  · obtain ⟨o, ho, e⟩ := S.cell (.tail _ (.head _))
    exact ⟨tps', by rw [← (show o = tabObj tps' from e)]; exact ho⟩
set_option maxHeartbeats 4000000 in
theorem law_end {prog : Program} {w : PySem.World} {K : Frag} {C cc P lc LP fw fa L l : Addr} {g h₁ : Heap} {s₁ : Shared} {tk : Nat} {mg mb m : Str → Option Value} {o1 o2 : Obj} {vs : List Value} {ns : List Int} {env : Env}
    {cw : ClaimW} {cl : Str → Option Addr} {mean : ExcName → Option Value} {args : List WData} {p : Program} {loose : List Str} {mn : ExcName → Option Value} {E : Value → Shared → Prop}
    (X : K.In g) (T : Top p loose mn mg mb g) (hsys : ∃ o, g.get? sysModules = some o) (h1 : KNone K) (h2 : KDefs K) (h3 : KCls K C)
    (hw : nsIn K mainGlobals (Str.ofString "with_blocks") = some (some (.ref fw))) (Fw : kfn K fw (Str.ofString "with_blocks") (Str.ofString "with_blocks") (stAt 9) .none (.ref cc)) (CW : CodeHd g cc P) (CL : CodeHd g lc LP)
    (F : Fr g L h₁ m) (hm : m (Str.ofString "script") = some (.ref l)) (N : News g L h₁ [(L + 1 + 1, o1), (L + 1, o2), (P, tabObj #[]), (LP, tabObj #[])]) (e1 : o1.data = .cell none) (e2 : o2.data = .cell none) (l0 : P < L ∧ LP < L) (hne : P ≠ LP)
    (hl : g.IsList l vs.toArray) (hv : IntsAre vs ns) (hlen : ns.length < 1000) (hg : s₁.gens = #[]) (hn : ∀ cls, cw.raises args cls = false) (hp : cw.post args (.bool true) args = true) :
    wpAny (model prog w) (callerA.deeper env) (execs (stBody (stAt 23)) (lawEnv L fa lc))
      (fun f s' => GoodW cw cl mean args { heap := g, gens := s₁.gens, drawn := s₁.drawn, toks := s₁.toks, os := s₁.os } (.ok (.ret (match f with | .ret v => v | _ => .none))) s' ∧ GrownAll [(cc, P), (lc, LP)] s'.heap) E
      { heap := h₁, gens := s₁.gens, drawn := s₁.drawn, toks := tk, os := s₁.os } := by
  have G : Glb ⟨prog, w, g, mg, mb, s₁, K, C⟩ := ⟨T.g, T.b, T.nolimit, T.builtins, hsys⟩
  have Fw' := Fw.at_ (c := ⟨prog, w, g, mg, mb, s₁, K, C⟩) X
  have V : Wd ⟨prog, w, g, mg, mb, s₁, K, C⟩ := wd_of X G h1 h2 h3 hw Fw'
  have hP := (N _ (.tail _ (.tail _ (.head _)))).2.2
  have hLP := (N _ (.tail _ (.tail _ (.tail _ (.head _))))).2.2
  have S := own_start (c := ⟨prog, w, g, mg, mb, s₁, K, C⟩) (tk := tk) F hm N e1 e2 l0 hne
  have := law_spec (cs := []) (fa := fa) (Q := fun f s' => GoodW cw cl mean args { heap := g, gens := s₁.gens, drawn := s₁.drawn, toks := s₁.toks, os := s₁.os } (.ok (.ret (match f with | .ret v => v | _ => .none))) s' ∧ GrownAll [(cc, P), (lc, LP)] s'.heap)
    V (room_caller env) (mg_of X T.g hw) Fw' CW (builtins_at T.g T.bmain hP) CL (builtins_at T.g T.bmain hLP) S hl hv (by rw [hv.length]; exact hlen) fun tps tps' B' s' S' => own_end (c := ⟨prog, w, g, mg, mb, s₁, K, C⟩) hg hn hp S'
  exact wpAny_mono (runs_of this) (fun _ _ q => q) (fun _ _ q => q.elim)
noncomputable def ken (P : Params) (k : String) (t : Tok) (v : Value) : DictEntry := ⟨PyData.keyHash P (Str.ofString k), .str (Str.ofString k) t, v⟩
noncomputable def kfo (name qual : String) (st : Stmt) (dV pm cdv : Value) : Obj := { cls := .type "function", data := .func (fnM (Str.ofString name) (Str.ofString qual) st [] dV .none .none pm none cdv .none) }
noncomputable def kco (vs : Array Value) : Obj := { cls := .type "code", data := .fields vs }
noncomputable def kq : Params → Frag := fun P =>
  (nat_lit 3, { cls := .type "dict", data := .dict #[ken P "__name__" 165 (.str (Str.ofString "law_ot0006_01") 343), ken P "__doc__" 166 (.none), ken P "__package__" 167 (.none), ken P "__loader__" 168 (.builtin "__main__.__loader__#opaque"), ken P "__spec__" 169 (.none), ken P "__annotations__" 170 (.ref 6), ken P "__builtins__" 171 (.ref 4), ken P "__file__" 173 (.str (Str.ofString "/claim/cut.py") 172), ken P "__cached__" 174 (.none), ken P "_wall" 193 (.ref 21), ken P "Body" 281 (.ref 82), ken P "points" 287 (.ref 91), ken P "successors" 293 (.ref 96), ken P "predecessors" 299 (.ref 101), ken P "next_points" 305 (.ref 106), ken P "retargeted" 311 (.ref 111), ken P "reachable" 321 (.ref 118), ken P "with_blocks" 336 (.ref 125), ken P "copied" 342 (.ref 130), ken P "_law_int" 347 (.ref 131), ken P "_law_pool" 356 (.ref 138), ken P "_law_take" 365 (.ref 145), ken P "_law_one" 373 (.ref 152), ken P "_law_end" 379 (.ref 157), ken P "_law_once" 388 (.ref 164), ken P "_law_closed" 394 (.ref 169), ken P "_law_shown" 400 (.ref 174), ken P "_law_led" 406 (.ref 179), ken P "_law_points_right" 412 (.ref 184), ken P "_law_kept_right" 418 (.ref 189), ken P "law" 424 (.ref 194)] 31 }) ::
  (nat_lit 29, { cls := .type "tuple", data := .seq #[.none, .none] 0 }) ::
  (nat_lit 35, kco #[.str (Str.ofString "__init__") 208, .str (Str.ofString "Body.__init__") 209, .str (Str.ofString "/claim/cut.py") 210, .int 7 0, .int 6 0, .int 0 0, .int 0 0, .int 3 0, .ref 30, .bool true, .int 181 0, .ref 31, .none, .ref 32, .ref 33, .ref 34, .int 217 0, .int 7 0, .str (Str.ofString "/claim/cut.py") 218]) ::
  (nat_lit 36, kfo "__init__" "Body.__init__" (methAt 0) (.ref 29) (.str (Str.ofString "lendcore.mir") 194) (.ref 35)) ::
  (nat_lit 56, kco #[.str (Str.ofString "statements") 235, .str (Str.ofString "Body.statements") 236, .str (Str.ofString "/claim/cut.py") 237, .int 20 0, .int 2 0, .int 0 0, .int 0 0, .int 3 0, .ref 51, .bool true, .int 181 0, .ref 52, .none, .ref 53, .ref 54, .ref 55, .int 240 0, .int 20 0, .str (Str.ofString "/claim/cut.py") 241]) ::
  (nat_lit 57, kfo "statements" "Body.statements" (methAt 3) (.none) (.str (Str.ofString "lendcore.mir") 194) (.ref 56)) ::
  (nat_lit 63, kco #[.str (Str.ofString "terminator") 243, .str (Str.ofString "Body.terminator") 244, .str (Str.ofString "/claim/cut.py") 245, .int 23 0, .int 2 0, .int 0 0, .int 0 0, .int 3 0, .ref 58, .bool true, .int 181 0, .ref 59, .none, .ref 60, .ref 61, .ref 62, .int 248 0, .int 23 0, .str (Str.ofString "/claim/cut.py") 249]) ::
  (nat_lit 64, kfo "terminator" "Body.terminator" (methAt 4) (.none) (.str (Str.ofString "lendcore.mir") 194) (.ref 63)) ::
  (nat_lit 70, kco #[.str (Str.ofString "spot") 251, .str (Str.ofString "Body.spot") 252, .str (Str.ofString "/claim/cut.py") 253, .int 26 0, .int 2 0, .int 0 0, .int 0 0, .int 3 0, .ref 65, .bool true, .int 181 0, .ref 66, .none, .ref 67, .ref 68, .ref 69, .int 256 0, .int 26 0, .str (Str.ofString "/claim/cut.py") 257]) ::
  (nat_lit 71, kfo "spot" "Body.spot" (methAt 5) (.none) (.str (Str.ofString "lendcore.mir") 194) (.ref 70)) ::
  (nat_lit 81, { cls := .type "dict", data := .dict #[ken P "__module__" 203 (.str (Str.ofString "lendcore.mir") 194), ken P "__firstlineno__" 207 (.int 5 206), ken P "__init__" 219 (.ref 36), ken P "type_of" 227 (.ref 43), ken P "args" 234 (.ref 50), ken P "statements" 242 (.ref 57), ken P "terminator" 250 (.ref 64), ken P "spot" 258 (.ref 71), ken P "new_local" 268 (.ref 79), ken P "__static_attributes__" 274 (.ref 80), ken P "__dict__" 276 (.ref 83), ken P "__weakref__" 278 (.ref 84), ken P "__doc__" 279 (.none)] 4 }) ::
  (nat_lit 82, { cls := .type "type", data := .cls { name := Str.ofString "Body", bases := [.type "object"], mro := [.ref 82, .type "object"], ns := 81, qualname := Str.ofString "Body" }, slots := #[none, none, some (.str (Str.ofString "Body") 196), some (.str (Str.ofString "Body") 204), some (.builtin "object.__new__"), some (.bool true)] }) ::
  (nat_lit 90, kco #[.str (Str.ofString "points") 282, .str (Str.ofString "points") 283, .str (Str.ofString "/claim/cut.py") 284, .int 31 0, .int 1 0, .int 0 0, .int 0 0, .int 3 0, .ref 87, .bool true, .int 181 0, .ref 88, .none, .none, .none, .ref 89, .int 285 0, .int 31 0, .str (Str.ofString "/claim/cut.py") 286]) ::
  (nat_lit 91, kfo "points" "points" (stAt 3) (.none) (.str (Str.ofString "lendcore.mir") 194) (.ref 90)) ::
  (nat_lit 95, kco #[.str (Str.ofString "successors") 288, .str (Str.ofString "successors") 289, .str (Str.ofString "/claim/cut.py") 290, .int 36 0, .int 1 0, .int 0 0, .int 0 0, .int 3 0, .ref 92, .bool true, .int 181 0, .ref 93, .none, .none, .none, .ref 94, .int 291 0, .int 36 0, .str (Str.ofString "/claim/cut.py") 292]) ::
  (nat_lit 96, kfo "successors" "successors" (stAt 4) (.none) (.str (Str.ofString "lendcore.mir") 194) (.ref 95)) ::
  (nat_lit 100, kco #[.str (Str.ofString "predecessors") 294, .str (Str.ofString "predecessors") 295, .str (Str.ofString "/claim/cut.py") 296, .int 55 0, .int 1 0, .int 0 0, .int 0 0, .int 3 0, .ref 97, .bool true, .int 181 0, .ref 98, .none, .none, .none, .ref 99, .int 297 0, .int 55 0, .str (Str.ofString "/claim/cut.py") 298]) ::
  (nat_lit 101, kfo "predecessors" "predecessors" (stAt 5) (.none) (.str (Str.ofString "lendcore.mir") 194) (.ref 100)) ::
  (nat_lit 105, kco #[.str (Str.ofString "next_points") 300, .str (Str.ofString "next_points") 301, .str (Str.ofString "/claim/cut.py") 302, .int 61 0, .int 2 0, .int 0 0, .int 0 0, .int 3 0, .ref 102, .bool true, .int 181 0, .ref 103, .none, .none, .none, .ref 104, .int 303 0, .int 61 0, .str (Str.ofString "/claim/cut.py") 304]) ::
  (nat_lit 106, kfo "next_points" "next_points" (stAt 6) (.none) (.str (Str.ofString "lendcore.mir") 194) (.ref 105)) ::
  (nat_lit 110, kco #[.str (Str.ofString "retargeted") 306, .str (Str.ofString "retargeted") 307, .str (Str.ofString "/claim/cut.py") 308, .int 66 0, .int 2 0, .int 0 0, .int 0 0, .int 3 0, .ref 107, .bool true, .int 181 0, .ref 108, .none, .none, .none, .ref 109, .int 309 0, .int 66 0, .str (Str.ofString "/claim/cut.py") 310]) ::
  (nat_lit 111, kfo "retargeted" "retargeted" (stAt 7) (.none) (.str (Str.ofString "lendcore.mir") 194) (.ref 110)) ::
  (nat_lit 117, kco #[.str (Str.ofString "reachable") 312, .str (Str.ofString "reachable") 313, .str (Str.ofString "/claim/cut.py") 314, .int 80 0, .int 1 0, .int 0 0, .int 0 0, .int 3 0, .ref 112, .bool true, .int 181 0, .ref 113, .none, .ref 114, .ref 115, .ref 116, .int 319 0, .int 80 0, .str (Str.ofString "/claim/cut.py") 320]) ::
  (nat_lit 118, kfo "reachable" "reachable" (stAt 8) (.none) (.str (Str.ofString "lendcore.mir") 194) (.ref 117)) ::
  (nat_lit 124, kco #[.str (Str.ofString "with_blocks") 322, .str (Str.ofString "with_blocks") 323, .str (Str.ofString "/claim/cut.py") 324, .int 88 0, .int 2 0, .int 0 0, .int 0 0, .int 3 0, .ref 119, .bool true, .int 181 0, .ref 120, .none, .ref 121, .ref 122, .ref 123, .int 334 0, .int 88 0, .str (Str.ofString "/claim/cut.py") 335]) ::
  (nat_lit 125, kfo "with_blocks" "with_blocks" (stAt 9) (.none) (.str (Str.ofString "lendcore.mir") 194) (.ref 124)) ::
  (nat_lit 129, kco #[.str (Str.ofString "copied") 337, .str (Str.ofString "copied") 338, .str (Str.ofString "/claim/cut.py") 339, .int 100 0, .int 1 0, .int 0 0, .int 0 0, .int 3 0, .ref 126, .bool true, .int 181 0, .ref 127, .none, .none, .none, .ref 128, .int 340 0, .int 100 0, .str (Str.ofString "/claim/cut.py") 341]) ::
  (nat_lit 130, kfo "copied" "copied" (stAt 10) (.none) (.str (Str.ofString "lendcore.mir") 194) (.ref 129)) ::
  (nat_lit 131, { cls := .type "tuple", data := .seq #[.str (Str.ofString "int") 345, .str (Str.ofString "u8") 346] 0 }) ::
  (nat_lit 137, kco #[.str (Str.ofString "_law_pool") 348, .str (Str.ofString "_law_pool") 349, .str (Str.ofString "/claim/cut.py") 350, .int 105 0, .int 1 0, .int 0 0, .int 0 0, .int 3 0, .ref 132, .bool true, .int 181 0, .ref 133, .none, .ref 134, .ref 135, .ref 136, .int 354 0, .int 105 0, .str (Str.ofString "/claim/cut.py") 355]) ::
  (nat_lit 138, kfo "_law_pool" "_law_pool" (stAt 13) (.none) (.str (Str.ofString "law_ot0006_01") 343) (.ref 137)) ::
  (nat_lit 144, kco #[.str (Str.ofString "_law_take") 357, .str (Str.ofString "_law_take") 358, .str (Str.ofString "/claim/cut.py") 359, .int 109 0, .int 2 0, .int 0 0, .int 0 0, .int 3 0, .ref 139, .bool true, .int 181 0, .ref 140, .none, .ref 141, .ref 142, .ref 143, .int 363 0, .int 109 0, .str (Str.ofString "/claim/cut.py") 364]) ::
  (nat_lit 145, kfo "_law_take" "_law_take" (stAt 14) (.none) (.str (Str.ofString "law_ot0006_01") 343) (.ref 144)) ::
  (nat_lit 151, kco #[.str (Str.ofString "_law_one") 366, .str (Str.ofString "_law_one") 367, .str (Str.ofString "/claim/cut.py") 368, .int 116 0, .int 2 0, .int 0 0, .int 0 0, .int 3 0, .ref 146, .bool true, .int 181 0, .ref 147, .none, .ref 148, .ref 149, .ref 150, .int 371 0, .int 116 0, .str (Str.ofString "/claim/cut.py") 372]) ::
  (nat_lit 152, kfo "_law_one" "_law_one" (stAt 15) (.none) (.str (Str.ofString "law_ot0006_01") 343) (.ref 151)) ::
  (nat_lit 156, kco #[.str (Str.ofString "_law_end") 374, .str (Str.ofString "_law_end") 375, .str (Str.ofString "/claim/cut.py") 376, .int 118 0, .int 2 0, .int 0 0, .int 0 0, .int 3 0, .ref 153, .bool true, .int 181 0, .ref 154, .none, .none, .none, .ref 155, .int 377 0, .int 118 0, .str (Str.ofString "/claim/cut.py") 378]) ::
  (nat_lit 157, kfo "_law_end" "_law_end" (stAt 16) (.none) (.str (Str.ofString "law_ot0006_01") 343) (.ref 156)) ::
  (nat_lit 163, kco #[.str (Str.ofString "_law_once") 380, .str (Str.ofString "_law_once") 381, .str (Str.ofString "/claim/cut.py") 382, .int 136 0, .int 1 0, .int 0 0, .int 0 0, .int 3 0, .ref 158, .bool true, .int 181 0, .ref 159, .none, .ref 160, .ref 161, .ref 162, .int 386 0, .int 136 0, .str (Str.ofString "/claim/cut.py") 387]) ::
  (nat_lit 164, kfo "_law_once" "_law_once" (stAt 17) (.none) (.str (Str.ofString "law_ot0006_01") 343) (.ref 163)) ::
  (nat_lit 168, kco #[.str (Str.ofString "_law_closed") 389, .str (Str.ofString "_law_closed") 390, .str (Str.ofString "/claim/cut.py") 391, .int 142 0, .int 1 0, .int 0 0, .int 0 0, .int 3 0, .ref 165, .bool true, .int 181 0, .ref 166, .none, .none, .none, .ref 167, .int 392 0, .int 142 0, .str (Str.ofString "/claim/cut.py") 393]) ::
  (nat_lit 169, kfo "_law_closed" "_law_closed" (stAt 18) (.none) (.str (Str.ofString "law_ot0006_01") 343) (.ref 168)) ::
  (nat_lit 173, kco #[.str (Str.ofString "_law_shown") 395, .str (Str.ofString "_law_shown") 396, .str (Str.ofString "/claim/cut.py") 397, .int 147 0, .int 1 0, .int 0 0, .int 0 0, .int 3 0, .ref 170, .bool true, .int 181 0, .ref 171, .none, .none, .none, .ref 172, .int 398 0, .int 147 0, .str (Str.ofString "/claim/cut.py") 399]) ::
  (nat_lit 174, kfo "_law_shown" "_law_shown" (stAt 19) (.none) (.str (Str.ofString "law_ot0006_01") 343) (.ref 173)) ::
  (nat_lit 178, kco #[.str (Str.ofString "_law_led") 401, .str (Str.ofString "_law_led") 402, .str (Str.ofString "/claim/cut.py") 403, .int 149 0, .int 2 0, .int 0 0, .int 0 0, .int 3 0, .ref 175, .bool true, .int 181 0, .ref 176, .none, .none, .none, .ref 177, .int 404 0, .int 149 0, .str (Str.ofString "/claim/cut.py") 405]) ::
  (nat_lit 179, kfo "_law_led" "_law_led" (stAt 20) (.none) (.str (Str.ofString "law_ot0006_01") 343) (.ref 178)) ::
  (nat_lit 183, kco #[.str (Str.ofString "_law_points_right") 407, .str (Str.ofString "_law_points_right") 408, .str (Str.ofString "/claim/cut.py") 409, .int 157 0, .int 2 0, .int 0 0, .int 0 0, .int 3 0, .ref 180, .bool true, .int 181 0, .ref 181, .none, .none, .none, .ref 182, .int 410 0, .int 157 0, .str (Str.ofString "/claim/cut.py") 411]) ::
  (nat_lit 184, kfo "_law_points_right" "_law_points_right" (stAt 21) (.none) (.str (Str.ofString "law_ot0006_01") 343) (.ref 183)) ::
  (nat_lit 188, kco #[.str (Str.ofString "_law_kept_right") 413, .str (Str.ofString "_law_kept_right") 414, .str (Str.ofString "/claim/cut.py") 415, .int 168 0, .int 3 0, .int 0 0, .int 0 0, .int 3 0, .ref 185, .bool true, .int 181 0, .ref 186, .none, .none, .none, .ref 187, .int 416 0, .int 168 0, .str (Str.ofString "/claim/cut.py") 417]) ::
  (nat_lit 189, kfo "_law_kept_right" "_law_kept_right" (stAt 22) (.none) (.str (Str.ofString "law_ot0006_01") 343) (.ref 188)) ::
  (nat_lit 193, kco #[.str (Str.ofString "law") 419, .str (Str.ofString "law") 420, .str (Str.ofString "/claim/cut.py") 421, .int 182 0, .int 1 0, .int 0 0, .int 0 0, .int 3 0, .ref 190, .bool true, .int 181 0, .ref 191, .none, .none, .none, .ref 192, .int 422 0, .int 182 0, .str (Str.ofString "/claim/cut.py") 423]) ::
  (nat_lit 194, kfo "law" "law" (stAt 23) (.none) (.str (Str.ofString "law_ot0006_01") 343) (.ref 193)) :: []
noncomputable def kqa : List Addr := nat_lit 3 :: nat_lit 29 :: nat_lit 35 :: nat_lit 36 :: nat_lit 56 :: nat_lit 57 :: nat_lit 63 :: nat_lit 64 :: nat_lit 70 :: nat_lit 71 :: nat_lit 81 :: nat_lit 82 :: nat_lit 90 :: nat_lit 91 :: nat_lit 95 :: nat_lit 96 :: nat_lit 100 :: nat_lit 101 :: nat_lit 105 :: nat_lit 106 :: nat_lit 110 :: nat_lit 111 :: nat_lit 117 :: nat_lit 118 :: nat_lit 124 :: nat_lit 125 :: nat_lit 129 :: nat_lit 130 :: nat_lit 131 :: nat_lit 137 :: nat_lit 138 :: nat_lit 144 :: nat_lit 145 :: nat_lit 151 :: nat_lit 152 :: nat_lit 156 :: nat_lit 157 :: nat_lit 163 :: nat_lit 164 :: nat_lit 168 :: nat_lit 169 :: nat_lit 173 :: nat_lit 174 :: nat_lit 178 :: nat_lit 179 :: nat_lit 183 :: nat_lit 184 :: nat_lit 188 :: nat_lit 189 :: nat_lit 193 :: nat_lit 194 :: []
theorem kq_none (P : Params) : KNone (kq P) := ⟨by kernel_rfl, by kernel_rfl, by kernel_rfl, by kernel_rfl, by kernel_rfl, by kernel_rfl, by kernel_rfl, by kernel_rfl, by kernel_rfl⟩
theorem kq_g {P : Params} {name : String} {i fa : Nat} {cdv pm : Value} (h0 : nsIn (kq P) mainGlobals (Str.ofString name) = some (some (.ref fa))) (h1 : (kq P).lookup fa = some (kfo name name (stAt i) .none pm cdv)) (h2 : codeIn (kq P) cdv (Str.ofString name) = true) : kgl (kq P) (Str.ofString name) i := kgl_of h0 h1 h2
theorem kq_m {P : Params} {name qual : String} {i f : Nat} {dV cdv pm : Value} (h0 : findIn (kq P) (.ref 82) (Str.ofString name) = some (some (.ref f))) (h3 : typeIn (kq P) (.ref f) = some (.type "function"))
    (h1 : (kq P).lookup f = some (kfo name qual (methAt i) dV pm cdv)) (h2 : codeIn (kq P) cdv (Str.ofString qual) = true) : kme (kq P) 82 (Str.ofString name) (Str.ofString qual) i dV := kme_of h0 h3 h1 h2
theorem kq_defs (P : Params) : KDefs (kq P) := ⟨kq_g (fa := 91) (cdv := .ref 90) (pm := .str (Str.ofString "lendcore.mir") 194) (by kernel_rfl) (by kernel_rfl) (by kernel_rfl),
  kq_g (fa := 96) (cdv := .ref 95) (pm := .str (Str.ofString "lendcore.mir") 194) (by kernel_rfl) (by kernel_rfl) (by kernel_rfl),
  kq_g (fa := 101) (cdv := .ref 100) (pm := .str (Str.ofString "lendcore.mir") 194) (by kernel_rfl) (by kernel_rfl) (by kernel_rfl),
  kq_g (fa := 106) (cdv := .ref 105) (pm := .str (Str.ofString "lendcore.mir") 194) (by kernel_rfl) (by kernel_rfl) (by kernel_rfl),
  kq_g (fa := 111) (cdv := .ref 110) (pm := .str (Str.ofString "lendcore.mir") 194) (by kernel_rfl) (by kernel_rfl) (by kernel_rfl),
  kq_g (fa := 118) (cdv := .ref 117) (pm := .str (Str.ofString "lendcore.mir") 194) (by kernel_rfl) (by kernel_rfl) (by kernel_rfl),
  kq_g (fa := 130) (cdv := .ref 129) (pm := .str (Str.ofString "lendcore.mir") 194) (by kernel_rfl) (by kernel_rfl) (by kernel_rfl),
  kq_g (fa := 138) (cdv := .ref 137) (pm := .str (Str.ofString "law_ot0006_01") 343) (by kernel_rfl) (by kernel_rfl) (by kernel_rfl),
  kq_g (fa := 145) (cdv := .ref 144) (pm := .str (Str.ofString "law_ot0006_01") 343) (by kernel_rfl) (by kernel_rfl) (by kernel_rfl),
  kq_g (fa := 152) (cdv := .ref 151) (pm := .str (Str.ofString "law_ot0006_01") 343) (by kernel_rfl) (by kernel_rfl) (by kernel_rfl),
  kq_g (fa := 157) (cdv := .ref 156) (pm := .str (Str.ofString "law_ot0006_01") 343) (by kernel_rfl) (by kernel_rfl) (by kernel_rfl),
  kq_g (fa := 164) (cdv := .ref 163) (pm := .str (Str.ofString "law_ot0006_01") 343) (by kernel_rfl) (by kernel_rfl) (by kernel_rfl),
  kq_g (fa := 169) (cdv := .ref 168) (pm := .str (Str.ofString "law_ot0006_01") 343) (by kernel_rfl) (by kernel_rfl) (by kernel_rfl),
  kq_g (fa := 174) (cdv := .ref 173) (pm := .str (Str.ofString "law_ot0006_01") 343) (by kernel_rfl) (by kernel_rfl) (by kernel_rfl),
  kq_g (fa := 179) (cdv := .ref 178) (pm := .str (Str.ofString "law_ot0006_01") 343) (by kernel_rfl) (by kernel_rfl) (by kernel_rfl),
  kq_g (fa := 184) (cdv := .ref 183) (pm := .str (Str.ofString "law_ot0006_01") 343) (by kernel_rfl) (by kernel_rfl) (by kernel_rfl),
  kq_g (fa := 189) (cdv := .ref 188) (pm := .str (Str.ofString "law_ot0006_01") 343) (by kernel_rfl) (by kernel_rfl) (by kernel_rfl)⟩
theorem kq_cls (P : Params) : KCls (kq P) 82 := ⟨by kernel_rfl, by kernel_rfl, by kernel_rfl, by kernel_rfl, by kernel_rfl, by kernel_rfl, by kernel_rfl, by kernel_rfl, by kernel_rfl, by kernel_rfl, by kernel_rfl,
  kinit_of (T := 29) (n := 0) (o := { cls := .type "tuple", data := .seq #[.none, .none] 0 }) (kq_m (f := 36) (cdv := .ref 35) (pm := .str (Str.ofString "lendcore.mir") 194) (by kernel_rfl) (by kernel_rfl) (by kernel_rfl) (by kernel_rfl)) (by kernel_rfl) rfl,
  kq_m (f := 57) (cdv := .ref 56) (pm := .str (Str.ofString "lendcore.mir") 194) (by kernel_rfl) (by kernel_rfl) (by kernel_rfl) (by kernel_rfl),
  kq_m (f := 64) (cdv := .ref 63) (pm := .str (Str.ofString "lendcore.mir") 194) (by kernel_rfl) (by kernel_rfl) (by kernel_rfl) (by kernel_rfl),
  kq_m (f := 71) (cdv := .ref 70) (pm := .str (Str.ofString "lendcore.mir") 194) (by kernel_rfl) (by kernel_rfl) (by kernel_rfl) (by kernel_rfl),
  by kernel_rfl, klit_of (a := 131) (n := 0) (t := 345) (u := 346) (by kernel_rfl) (by kernel_rfl)⟩
theorem kq_w (P : Params) : nsIn (kq P) mainGlobals (Str.ofString "with_blocks") = some (some (.ref 125)) := by kernel_rfl
theorem kq_fw (P : Params) : kfn (kq P) 125 (Str.ofString "with_blocks") (Str.ofString "with_blocks") (stAt 9) .none (.ref 124) := kfn_of (pm := .str (Str.ofString "lendcore.mir") 194) (show (kq P).lookup 125 = some (kfo "with_blocks" "with_blocks" (stAt 9) .none (.str (Str.ofString "lendcore.mir") 194) (.ref 124)) by kernel_rfl) (by kernel_rfl)
noncomputable def viewQ : Program := { PySem.Challenge.pw_ot0006_01 with main := { PySem.Challenge.pw_ot0006_01.main with body := (topStmts.eraseIdx 11).eraseIdx 1 } }
theorem left_boot {p q : Program} {loose : List Str} {Xt : Shared → Bool} {α : Type} {Yf : Shared → α} {Ya : PySem.World → α} {N : Nat} {g0 : Bool} (e : opening p = plainProg p.main.scope.names) (hN : Nat.ble 600 N = true) (f : ∀ s, fenceModules? p s = some s)
    (h : ∀ (w : PySem.World) os, (topFrom treeTable p w N ⟨boot_heap w.params, Array.mk [], boot_drawn, boot_toks, os⟩).map (fun s => (openSeen q loose (importedModules p.main.body) Xt g0 s, Yf s)) = some (openGood q loose, Ya w)) : LeftO p q loose Xt Yf Ya N g0 := fun w => by
  obtain ⟨⟨hp, gs, d, k, os⟩, e1, e2⟩ := Option.map_eq_some_iff.mp (boot_open e hN f w)
  obtain ⟨rfl, rfl, rfl, rfl⟩ : hp = boot_heap w.params ∧ gs = Array.mk [] ∧ d = boot_drawn ∧ k = boot_toks := by simpa using e2
  have := h w os
  unfold openEnds
  rw [e1]
  exact this
end Mine
open PySem PySem.W PySem.Calls PyProof.Rows Mine
set_option maxHeartbeats 8000000 in
theorem PySem.Challenge.cw_ot0006_01_holds : PySem.Challenge.rw_ot0006_01.Holds := by
  (w_on; o_law; refine holds_open (q := viewQ) (loose := []) (Xt := fun s => xlAt viewQ [] s && recOk (RowW.records (OpenRow.toRowW PySem.Challenge.rw_ot0006_01.row)) s) (XP := XL viewQ []) (Yf := Hook.obs (kmHook kq kqa (fun _ => by kernel_rfl) [120, 191])) (Ya := Hook.val (kmHook kq kqa (fun _ => by kernel_rfl) [120, 191])) (YP := Hook.says (kmHook kq kqa (fun _ => by kernel_rfl) [120, 191])) (N := 2154) ?hl (Hook.of _) (Hook.keeps _) (fun s e => xl_of s (Bool.and_eq_true_iff.mp e).1) XL.keeps (by rfl) (by rfl) (by rfl) (fun s e => recFacts_of (Bool.and_eq_true_iff.mp e).2) (by rfl) (by assumption) (by decide +kernel) ⟨rfl, rfl, rfl, rfl, rfl, by decide +kernel⟩ ?hw ?hc)
  case hl =>
    refine left_boot (by kernel_rfl) (by decide) (fun s => by rfl) fun w os => ?_
    unfold topFrom
    rw [PySem.W.Fast.te14082659384304107361, PySem.W.Fast.te4187177175401517315, PySem.W.Fast.te14364793385576792824]
    kernel_rfl
  case hw => w_witness2
  case hc => (w_strict (
    k_go0
    (all_goals try k_fold)
    refine law_end (by assumption) (by assumption) (sys_of (by assumption) (by assumption) (by first | rfl | decide +kernel)) (kq_none _) (kq_defs _) (kq_cls _) (kq_w _) (kq_fw _) (by assumption) (by assumption) (by assumption) rfl (by assumption) (by assumption) (by assumption) (by assumption) (by decide) (by assumption) (by assumption) (by omega) (by assumption) (fun _ => rfl) (post_ok _)))
