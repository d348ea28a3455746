import PyProof.Rows.All
import Wide.All
import OpenK.AllK
import Wide.FinOn
import Lean
import PySem.Challenge.RW_or0046_01
section PartHeadA
open PySem PySem.W PyProof.Rows
set_option Elab.async false
namespace Mine
set_option maxRecDepth 100000 in
set_option maxHeartbeats 8000000 in
open_top hd for PySem.Challenge.rw_or0046_01
end Mine

end PartHeadA
section PartBaseA
open PySem PySem.W PySem.Spec PySem.Calls PyProof.Rows
set_option Elab.async false
namespace Mine

/-! heaps, what one keeps of another -/
noncomputable def freedObj : Obj := { cls := .none, data := .freed }
noncomputable def keepIf (h : Heap) (p : Addr → Bool) : Heap := ⟨h.objs.mapIdx fun i o => if p i then o else freedObj, h.life⟩
theorem get_keepIf (h : Heap) (p : Addr → Bool) (a : Addr) : (keepIf h p).get? a = if p a then h.get? a else none := by
  unfold keepIf Heap.get?
  simp only [Array.getElem?_mapIdx]
  cases hx : h.objs[a]? with
  | none => cases p a <;> rfl
  | some o =>
    cases hp : p a with
    | true => simp
    | false => simp [freedObj]

theorem no_none {α : Type} {x : Option α} {o : α} {C : Prop} (h : x = none) (e : x = some o) : C := nomatch h.symm.trans e
theorem some_eq {α : Type} {x : Option α} {a b : α} (h : x = some a) (e : x = some b) : a = b := Option.some.inj (h.symm.trans e)
theorem len2 {α : Type} {l : List α} (h : l.length = 2) : ∃ a b, l = [a, b] := by
  cases l with
  | nil => exact nomatch h
  | cons a l => exact (List.length_eq_one_iff.mp (Nat.succ.inj h)).elim fun b e => ⟨a, b, by rw [e]⟩
noncomputable abbrev Sub (h h' : Heap) : Prop := ∀ b o, h.get? b = some o → h'.get? b = some o
theorem keepIf_sub {h : Heap} {p : Addr → Bool} : Sub (keepIf h p) h := fun b o e => by
  rw [get_keepIf] at e
  split at e
  · exact e
  · exact nomatch e
theorem none_of_sub {h h' : Heap} {a : Addr} (k : Sub h h') (e : h'.get? a = none) : h.get? a = none := by
  cases q : h.get? a with
  | none => rfl
  | some o => exact no_none e (k _ _ q)
theorem none_at {h : Heap} {a : Addr} (k : h.objs.size ≤ a) : h.get? a = none := by
  cases q : h.get? a with
  | none => rfl
  | some o => exact absurd (Heap.lt_size q) (Nat.not_lt.mpr k)
theorem Sub.refl (h : Heap) : Sub h h := fun _ _ e => e
theorem Sub.trans {a b c : Heap} (x : Sub a b) (y : Sub b c) : Sub a c := fun _ _ e => y _ _ (x _ _ e)
theorem Sub.push (h : Heap) (o : Obj) : Sub h (h.push o) := fun _ _ e => Heap.get?_push_of_some _ e
theorem Sub.but {a : Addr} {h h' P : Heap} (s : Heap.SameBut a h h') (x : Sub P h) (n : P.get? a = none) : Sub P h' := fun b o e =>
  (s.2 b fun q => no_none n (q ▸ e)).trans (x b o e)

/-- the same world outside the heap -/
structure Sib (s₀ s : Shared) : Prop where
  gens : s.gens = s₀.gens
  drawn : s.drawn = s₀.drawn
  os : s.os = s₀.os
theorem Sib.trans {a b c : Shared} (x : Sib a b) (y : Sib b c) : Sib a c := ⟨y.gens.trans x.gens, y.drawn.trans x.drawn, y.os.trans x.os⟩
theorem Sib.mk' (s : Shared) (h : Heap) (t : Nat) : Sib s { s with heap := h, toks := t } := ⟨rfl, rfl, rfl⟩

/-- the written part of the heap and the two tables of names stand -/
structure Cx (K : Params → Frag) (w : World) (h : Heap) : Prop where
  kin : (K w.params).In h
  glob : ∃ mg, h.Ns mainGlobals mg
  blt : ∃ mb, h.Ns builtinsNs mb ∧ ∀ x : Str, x ≠ "__name__" → mb x = bootBuiltins x
  lim : h.NoLimit
theorem Cx.mono {K : Params → Frag} {w : World} {h h' : Heap} (c : Cx K w h) (k : Sub h h') : Cx K w h' :=
  ⟨c.kin.keeps k, c.glob.imp fun _ g => g.keeps k, c.blt.imp fun _ g => ⟨g.1.keeps k, g.2⟩, c.lim.keeps k⟩
/-- where an activation began: its state, the part of the heap that stays as it is, the part that is told of -/
structure Gh where
  s₀ : Shared
  H : Heap
  P : Heap

/-- locals: names and values side by side -/
noncomputable def vec : List Str → List (Option Value) → Str → Option Value
  | n :: ns, v :: vs, y => if y = n then v else vec ns vs y
  | _, _, _ => none

inductive VAt : List Str → List (Option Value) → Str → Value → Prop
  | here {x ns v vs} : VAt (x :: ns) (some v :: vs) x v
  | there {n ns o vs x v} : VAt ns vs x v → VAt (n :: ns) (o :: vs) x v
theorem VAt.mem {ns vs x v} (h : VAt ns vs x v) : x ∈ ns := by
  induction h with
  | here => exact .head _
  | there _ ih => exact .tail _ ih
theorem VAt.get {ns vs x v} (h : VAt ns vs x v) (hn : ns.Nodup) : vec ns vs x = some v := by
  induction h with
  | here => simp [vec]
  | @there n ns o vs x v h ih =>
    have h1 := List.nodup_cons.mp hn
    rw [vec, if_neg (fun e : x = n => h1.1 (e ▸ h.mem))]
    exact ih h1.2

inductive VSet : List Str → List (Option Value) → Str → Option Value → List (Option Value) → Prop
  | here {x ns o vs v} : VSet (x :: ns) (o :: vs) x v (v :: vs)
  | there {n ns o vs x v vs'} : VSet ns vs x v vs' → VSet (n :: ns) (o :: vs) x v (o :: vs')
theorem VSet.mem {ns vs x v vs'} (h : VSet ns vs x v vs') : x ∈ ns := by
  induction h with
  | here => exact .head _
  | there _ ih => exact .tail _ ih
theorem VSet.eq {ns vs x v vs'} (h : VSet ns vs x v vs') (hn : ns.Nodup) : (fun y => if y = x then v else vec ns vs y) = vec ns vs' := by
  induction h with
  | here =>
    funext y
    simp only [vec]
    split <;> simp_all
  | @there n ns o vs x v vs' h ih =>
    have h1 := List.nodup_cons.mp hn
    have e := ih h1.2
    funext y
    have e' := congrFun e y
    simp only [vec] at e' ⊢
    by_cases hy : y = n
    · subst hy
      rw [if_pos rfl, if_pos rfl]
      rw [if_neg (fun q : y = x => h1.1 (q ▸ h.mem))]
    · rw [if_neg hy, if_neg hy]
      exact e'

/-- the state within an activation -/
structure St (K : Params → Frag) (w : World) (g : Gh) (P : Heap) (L : Addr) (s : Shared) (m : Str → Option Value) (news : List (Addr × Obj)) : Prop where
  cx : Cx K w P
  sib : Sib g.s₀ s
  frame : Sub g.H s.heap
  base : Sub g.P P
  keep : Sub P s.heap
  old : ∀ a o, g.H.get? a = some o → P.get? a = g.P.get? a
  offH : g.H.get? L = none
  offP : P.get? L = none
  low : ∀ a o, (K w.params).lookup a = some o → a < L
  ns : s.heap.Ns L m
  led : ∀ p ∈ news, s.heap.get? p.1 = some p.2 ∧ p.1 ≠ L ∧ g.H.get? p.1 = none ∧ P.get? p.1 = none
  nd : (news.map (·.1)).Nodup

/-- what a call that changes nothing old has made -/
structure Grow (P : Heap) (s : Shared) (P' : Heap) (s' : Shared) : Prop where
  sib : Sib s s'
  stay : Sub s.heap s'.heap
  up : Sub P P'
  sub : Sub P' s'.heap
  old : ∀ a o, s.heap.get? a = some o → P'.get? a = P.get? a
section
variable {K : Params → Frag} {w : World} {g : Gh} {P P' : Heap} {L : Addr} {s s' : Shared} {m m' : Str → Option Value} {news news' : List (Addr × Obj)}

/-- at the end of an activation that kept all it found -/
theorem St.grow (S : St K w g P L s m news) (h : g.H = g.s₀.heap) : Grow g.P g.s₀ P s :=
  ⟨S.sib, h ▸ S.frame, S.base, S.keep, h ▸ S.old⟩

/-- after a call -/
theorem St.after (S : St K w g P L s m news) (G : Grow P s P' s') : St K w g P' L s' m news where
  cx := S.cx.mono G.up
  sib := S.sib.trans G.sib
  frame := S.frame.trans G.stay
  base := S.base.trans G.up
  keep := G.sub
  old := fun a o e => (G.old a o (S.frame a o e)).trans (S.old a o e)
  offH := S.offH
  low := S.low
  offP := by
    obtain ⟨o, _, _, ho, _⟩ := S.ns
    exact (G.old L o ho).trans S.offP
  ns := S.ns.keeps G.stay
  led := fun p hp => let ⟨a, b, c, d⟩ := S.led p hp; ⟨G.stay _ _ a, b, c, (G.old _ _ a).trans d⟩
  nd := S.nd

theorem St.same {s' : Shared} (S : St K w g P L s m news) (h : s'.heap = s.heap) (b : Sib s s') : St K w g P L s' m news where
  cx := S.cx
  sib := S.sib.trans b
  frame := h ▸ S.frame
  base := S.base
  keep := h ▸ S.keep
  old := S.old
  offH := S.offH
  offP := S.offP
  low := S.low
  ns := h ▸ S.ns
  led := h ▸ S.led
  nd := S.nd
theorem St.tok {t : Nat} (S : St K w g P L s m news) : St K w g P L { s with toks := t } m news := S.same rfl (Sib.mk' s s.heap t)

/-- what stands for an address of the ledger -/
structure LedAt (g : Gh) (P : Heap) (L : Addr) (h : Heap) (a : Addr) : Prop where
  ex : ∃ o, h.get? a = some o
  ne : a ≠ L
  offH : g.H.get? a = none
  offP : P.get? a = none
theorem St.ledAt {a : Addr} (S : St K w g P L s m news) (h : a ∈ news.map (·.1)) : LedAt g P L s.heap a := by
  obtain ⟨p, hp, rfl⟩ := List.mem_map.mp h
  obtain ⟨a, b, c, d⟩ := S.led p hp
  exact ⟨⟨_, a⟩, b, c, d⟩
/-- a store to the locals -/
theorem St.set {h' : Heap} {t : Nat} (S : St K w g P L s m news) (hn : h'.Ns L m') (hs : Heap.SameBut L s.heap h') : St K w g P L { s with heap := h', toks := t } m' news where
  cx := S.cx
  sib := S.sib.trans (Sib.mk' s h' t)
  frame := Sub.but hs S.frame S.offH
  base := S.base
  keep := Sub.but hs S.keep S.offP
  old := S.old
  offH := S.offH
  offP := S.offP
  low := S.low
  ns := hn
  led := fun p hp => let ⟨a, b, c⟩ := S.led p hp; ⟨(hs.2 _ b).trans a, b, c⟩
  nd := S.nd

theorem St.fresh (S : St K w g P L s m news) {a : Addr} (h : s.heap.objs.size ≤ a) : g.H.get? a = none ∧ P.get? a = none ∧ a ≠ L ∧ a ∉ news.map (·.1) := by
  refine ⟨none_of_sub S.frame (none_at h), none_of_sub S.keep (none_at h), fun e => absurd S.ns.lt (e ▸ Nat.not_lt.mpr h), fun hm => ?_⟩
  exact absurd ((S.ledAt hm).ex.elim fun _ e => Heap.lt_size e) (Nat.not_lt.mpr h)

/-- a new object onto the ledger -/
theorem St.push (S : St K w g P L s m news) (o : Obj) (hf : o.isFreed = false := by rfl) {t : Nat} :
    St K w g P L { s with heap := s.heap.push o, toks := t } m ((s.heap.objs.size, o) :: news) where
  cx := S.cx
  sib := S.sib.trans (Sib.mk' s _ t)
  frame := S.frame.trans (Sub.push _ _)
  base := S.base
  keep := S.keep.trans (Sub.push _ _)
  old := S.old
  offH := S.offH
  offP := S.offP
  low := S.low
  ns := S.ns.push _
  led := fun p hp => by
    have fr := S.fresh (Nat.le_refl _)
    rcases List.mem_cons.mp hp with rfl | hp
    · exact ⟨Heap.get?_push_size _ hf, fr.2.2.1, fr.1, fr.2.1⟩
    · have ⟨a, b⟩ := S.led p hp; exact ⟨Heap.get?_push_of_some _ a, b⟩
  nd := by
    rw [List.map_cons]
    exact List.nodup_cons.mpr ⟨(S.fresh (Nat.le_refl _)).2.2.2, S.nd⟩

/-- an object of the ledger changes -/
theorem St.upd {a : Addr} {o o' : Obj} {pre post : List (Addr × Obj)} {h' : Heap} {t : Nat} (S : St K w g P L s m (pre ++ (a, o) :: post)) (hs : Heap.SameBut a s.heap h') (ho : h'.get? a = some o') :
    St K w g P L { s with heap := h', toks := t } m (pre ++ (a, o') :: post) := by
  have D := S.led (a, o) (List.mem_append_right _ (.head _))
  have nd := S.nd
  rw [List.map_append, List.map_cons] at nd
  have nd' := List.nodup_append.mp nd
  have off : ∀ p, p ∈ pre ∨ p ∈ post → p.1 ≠ a := fun p hp e => by
    rcases hp with hp | hp
    · exact nd'.2.2 _ (List.mem_map_of_mem hp) _ (.head _) e
    · exact (List.nodup_cons.mp nd'.2.1).1 (List.mem_map.mpr ⟨p, hp, e⟩)
  refine { low := S.low, cx := S.cx, sib := S.sib.trans (Sib.mk' s h' t), frame := Sub.but hs S.frame D.2.2.1, base := S.base, keep := Sub.but hs S.keep D.2.2.2, old := S.old, offH := S.offH, offP := S.offP, ns := S.ns.sameBut hs (Ne.symm D.2.1), led := fun p hp => ?_, nd := ?_ }
  · rcases List.mem_append.mp hp with q | q
    · have z := S.led p (List.mem_append_left _ q); exact ⟨(hs.2 _ (off p (.inl q))).trans z.1, z.2⟩
    · rcases List.mem_cons.mp q with rfl | q
      · exact ⟨ho, D.2⟩
      · have z := S.led p (List.mem_append_right _ (.tail _ q)); exact ⟨(hs.2 _ (off p (.inr q))).trans z.1, z.2⟩
  · rw [List.map_append, List.map_cons]; exact nd

/-- the ledger may be read in any order, and forgotten in part -/
theorem St.less (S : St K w g P L s m news) (h : ∀ p ∈ news', p ∈ news) (hn : (news'.map (·.1)).Nodup) : St K w g P L s m news' :=
  { S with led := fun p hp => S.led p (h p hp), nd := hn }
theorem St.drop {p : Addr × Obj} (S : St K w g P L s m (p :: news)) : St K w g P L s m news :=
  S.less (fun _ h => .tail _ h) (by have := S.nd; rw [List.map_cons] at this; exact (List.nodup_cons.mp this).2)
theorem St.get {a : Addr} {o : Obj} (S : St K w g P L s m news) (h : (a, o) ∈ news) : s.heap.get? a = some o := (S.led _ h).1

/-- what is settled goes to the protected part: all that stands but the locals and the rest of the ledger -/
theorem St.seal (S : St K w g P L s m news) (h : ∀ p ∈ news', p ∈ news) (hn : (news'.map (·.1)).Nodup) : ∃ P', Sub P P' ∧ (∀ p ∈ news, p.1 ∉ news'.map (·.1) → P'.get? p.1 = some p.2) ∧
    (∀ a o, s.heap.get? a = some o → g.H.get? a = none → a ≠ L → a ∉ news'.map (·.1) → P'.get? a = some o) ∧ St K w g P' L s m news' := by
  let p : Addr → Bool := fun a => (P.get? a).isSome || (decide (g.H.get? a = none ∧ a ≠ L ∧ a ∉ news'.map (·.1)))
  have up : Sub P (keepIf s.heap p) := fun b o e => by
    rw [get_keepIf, if_pos (by simp [p, e])]; exact S.keep b o e
  have far : ∀ a o, s.heap.get? a = some o → g.H.get? a = none → a ≠ L → a ∉ news'.map (·.1) → (keepIf s.heap p).get? a = some o := fun a o e h1 h2 h3 => by
    rw [get_keepIf, if_pos ?_]
    · exact e
    · show ((P.get? a).isSome || decide _) = true
      rw [decide_eq_true ⟨h1, h2, h3⟩, Bool.or_true]
  refine ⟨keepIf s.heap p, up, fun q hq hx => ?_, far, ?_⟩
  · have z := S.led q hq
    exact far _ _ z.1 z.2.2.1 z.2.1 hx
  · refine { low := S.low, cx := S.cx.mono up, sib := S.sib, frame := S.frame, base := S.base.trans up, keep := keepIf_sub, old := fun a o e => ?_, offH := S.offH, offP := ?_, ns := S.ns, led := fun q hq => ?_, nd := hn }
    · rw [get_keepIf]
      have q := S.old a o e
      cases hP : P.get? a with
      | some x =>
        rw [if_pos (by simp [p, hP]), ← q, hP]; exact S.keep _ _ hP
      | none => rw [if_neg (by simp [p, hP, e]), ← q, hP]
    · rw [get_keepIf, if_neg (by simp [p, S.offP])]
    · have z := S.led q (h q hq)
      exact ⟨z.1, z.2.1, z.2.2.1, by rw [get_keepIf, if_neg]; simp only [p, z.2.2.2, Option.isSome_none, Bool.false_or, decide_eq_true_eq]; exact fun x => x.2.2 (List.mem_map_of_mem hq)⟩
end
end Mine

end PartBaseA
section PartBaseB
open PySem PySem.W PySem.Spec PySem.Calls PyProof.Rows
set_option Elab.async false
namespace Mine

noncomputable abbrev NoE : Value → Shared → Prop := fun _ _ => False
theorem noE {α : Type} {M : Model} {A : Around} {t : Sem α} {Q : α → Shared → Prop} {E : Value → Shared → Prop} {s : Shared} (h : wpAny M A t Q NoE s) : wpAny M A t Q E s :=
  wpAny_mono h (fun _ _ x => x) fun _ _ x => x.elim

/-- room for n more levels of calls -/
structure Ao (A : Around) (n : Nat) : Prop where
  handled : A.handled = none
  depth : A.depth + n < recursionLimit
  units : A.units + 64 * n < cLine
section
variable {A : Around} {n : Nat}
theorem Ao.deeper (a : Ao A (n + 1)) (env : Env) : Ao (A.deeper env) n := ⟨a.handled, by have := a.depth; show A.depth + 1 + n < _; lia, by have := a.units; show A.units + 3 + 64 * n < _; lia⟩
theorem Ao.less (a : Ao A (n + 1)) : Ao A n := ⟨a.handled, by have := a.depth; lia, by have := a.units; lia⟩
theorem Ao.le {m : Nat} (a : Ao A n) (h : m ≤ n) : Ao A m := ⟨a.handled, by have := a.depth; lia, by have := a.units; lia⟩
theorem Ao.dn {i j : Nat} (a : Ao A (n + i)) (h : j ≤ i) : Ao A (n + j) := a.le (Nat.add_le_add_left h n)
theorem Ao.lit {i j : Nat} (a : Ao A (n + i)) (h : j ≤ i) : Ao A j := a.le (Nat.le_trans h (Nat.le_add_left i n))
theorem Ao.mono' {B : Around} (a : Ao A n) (h : B = A) : Ao B n := h ▸ a
theorem Ao.room (a : Ao A n) : A.depth < recursionLimit := by have := a.depth; lia
end


/-- what the names of a block mean: locals, names of the top or built-in, cells -/
structure Ev (K : Params → Frag) (w : World) (env : Env) (L : Addr) (ns : List Str) (gv : List (Str × Value)) (cv : List (Str × Addr)) : Prop where
  fn : env.scope.kind = .function
  loc : env.locals = L
  gl : env.globals = mainGlobals
  bt : env.builtins = builtinsNs
  nd : ns.Nodup
  kl : ∀ x ∈ ns, env.kindOf x = some .local ∧ (x == ("__debug__" : Str)) = false
  kg : ∀ p ∈ gv, env.kindOf p.1 = some .globalImplicit ∧ (p.1 == ("__debug__" : Str)) = false ∧
    (nsIn (K w.params) mainGlobals p.1 = some (some p.2) ∨ (nsIn (K w.params) mainGlobals p.1 = some none ∧ bootBuiltins p.1 = some p.2 ∧ p.1 ≠ ("__name__" : Str)))
  kc : ∀ p ∈ cv, env.kindOf p.1 = some .cell ∧ (p.1 == ("__debug__" : Str)) = false ∧ env.cells.lookup p.1 = some p.2

section
variable {prog : Program} {w : World} {A : Around} {E : Value → Shared → Prop} {env : Env}
variable {K : Params → Frag} {g : Gh} {P : Heap} {L : Addr} {s : Shared} {m : Str → Option Value} {news : List (Addr × Obj)}
variable {ns : List Str} {vs vs' : List (Option Value)} {gv : List (Str × Value)} {cv : List (Str × Addr)} {x : Str} {v : Value} {pos : Pos}

theorem Ev.class {B : Bool} (V : Ev K w env L ns gv cv) : (env.scope.kind == .class || (env.scope.kind == .module && B)) = false := by rw [V.fn]; rfl
theorem Ev.inter (V : Ev K w env L ns gv cv) : interactive env = false := by unfold interactive; rw [V.fn]; rfl
theorem St.kin (S : St K w g P L s m news) : (K w.params).In s.heap := S.cx.kin.keeps S.keep

theorem q_local {Q : Value → Shared → Prop} (S : St K w g P L s (vec ns vs) news) (V : Ev K w env L ns gv cv) (h : VAt ns vs x v) (k : Q v s) :
    wpAny (model prog w) A (eval (.Name x pos) env) Q E s :=
  wpAny_Name (wpAny_loadName_local V.fn (V.kl x h.mem).1 (V.loc ▸ S.ns) (h.get V.nd) k) (V.kl x h.mem).2
theorem q_localN {Q : Value → Shared → Prop} (S : St K w g P L s (vec ns vs) news) (V : Ev K w env L ns gv cv) (h : VAt ns vs x v) (k : Q v s) :
    wpAny (model prog w) A (loadName env x) Q E s := wpAny_loadName_local V.fn (V.kl x h.mem).1 (V.loc ▸ S.ns) (h.get V.nd) k
theorem q_global {Q : Value → Shared → Prop} (S : St K w g P L s m news) (V : Ev K w env L ns gv cv) (h : (x, v) ∈ gv) (k : Q v s) :
    wpAny (model prog w) A (eval (.Name x pos) env) Q E s := by
  obtain ⟨hk, hd, hv⟩ := V.kg _ h
  obtain ⟨mg, G⟩ := S.cx.glob
  rcases hv with hv | ⟨hv, hbt, hn⟩
  · exact Name_function_global V.fn hk (loadGlobal_global (by rw [V.gl]; exact G.keeps S.keep) (mg_of S.cx.kin G hv) k) hd
  · obtain ⟨mb, B, hB⟩ := S.cx.blt
    exact Name_function_global V.fn hk (loadGlobal_builtin (by rw [V.gl]; exact G.keeps S.keep) (mg_none_of S.cx.kin G hv) (by rw [V.bt]; exact B.keeps S.keep) ((hB _ hn).trans hbt) k) hd
theorem q_cell {Q : Value → Shared → Prop} {c : Addr} (V : Ev K w env L ns gv cv) (h : (x, c) ∈ cv) (hc : s.heap.IsCell c (some v)) (k : Q v s) :
    wpAny (model prog w) A (eval (.Name x pos) env) Q E s :=
  let ⟨a, b, d⟩ := V.kc _ h
  wpAny_Name (wpAny_loadName_cell V.fn a d hc k) b
theorem q_store {Q : Unit → Shared → Prop} (S : St K w g P L s (vec ns vs) news) (V : Ev K w env L ns gv cv) (h : VSet ns vs x (some v) vs')
    (k : ∀ s', St K w g P L s' (vec ns vs') news → Q () s') : wpAny (model prog w) A (storeName env x v) Q E s :=
  wpAny_storeName_local (V.kl x h.mem).1 (V.loc ▸ S.ns) (fun h' hn hs => k _ (S.set (by rw [h.eq V.nd] at hn; exact V.loc ▸ hn) (V.loc ▸ hs))) V.class

/-- ledgers: one entry turned -/
inductive LUpd (a : Addr) (o o' : Obj) : List (Addr × Obj) → List (Addr × Obj) → Prop
  | here {r} : LUpd a o o' ((a, o) :: r) ((a, o') :: r)
  | there {p r r'} : LUpd a o o' r r' → LUpd a o o' (p :: r) (p :: r')
theorem LUpd.split {a : Addr} {o o' : Obj} {l l' : List (Addr × Obj)} (h : LUpd a o o' l l') : ∃ pre post, l = pre ++ (a, o) :: post ∧ l' = pre ++ (a, o') :: post := by
  induction h with
  | here => exact ⟨[], _, rfl, rfl⟩
  | there _ ih =>
    obtain ⟨pre, post, e1, e2⟩ := ih
    exact ⟨_ :: pre, post, by rw [e1]; rfl, by rw [e2]; rfl⟩
theorem LUpd.mem {a : Addr} {o o' : Obj} {l l' : List (Addr × Obj)} (h : LUpd a o o' l l') : (a, o) ∈ l := by
  obtain ⟨pre, post, rfl, _⟩ := h.split
  exact List.mem_append_right _ (.head _)
theorem St.upd' {a : Addr} {o o' : Obj} {news' : List (Addr × Obj)} {h' : Heap} {t : Nat} (S : St K w g P L s m news) (U : LUpd a o o' news news') (hs : Heap.SameBut a s.heap h') (ho : h'.get? a = some o') :
    St K w g P L { s with heap := h', toks := t } m news' := by
  obtain ⟨pre, post, rfl, rfl⟩ := U.split
  exact S.upd hs ho

theorem q_storeC {Q : Unit → Shared → Prop} {c : Addr} {o : Obj} {v₀ : Option Value} {news' : List (Addr × Obj)} (S : St K w g P L s m news) (V : Ev K w env L ns gv cv) (h : (x, c) ∈ cv)
    (U : LUpd c o { o with data := .cell (some v) } news news') (hd : o.data = .cell v₀) (k : ∀ s', St K w g P L s' m news' → Q () s') : wpAny (model prog w) A (storeName env x v) Q E s := by
  obtain ⟨a, b, d⟩ := V.kc _ h
  have hc := S.get U.mem
  unfold storeName
  simp only [a, V.fn]
  refine wpAny_bind (wpAny_cellOf d ?_)
  unfold cellSet
  refine wpAny_bind (wpAny_load hc ?_)
  rw [hd]
  refine wpAny_update hc (k _ (S.upd' (t := s.toks) U (Heap.SameBut.update ..) ?_))
  exact Heap.get?_update_self (fun o => { o with data := .cell (some v) }) hc rfl

/-! constants -/
theorem q_int {i : Int} {kd : Nat} {Q : Value → Shared → Prop} (S : St K w g P L s m news) (k : ∀ t s', St K w g P L s' m news → Q (.int i t) s') :
    wpAny (model prog w) A (eval (.Constant (.int i) kd pos) env) Q E s := wpAny_Constant_int (k _ _ S.tok)
theorem q_str {y : Str} {kd : Nat} {Q : Value → Shared → Prop} (S : St K w g P L s m news) (k : ∀ t s', St K w g P L s' m news → Q (.str y t) s') :
    wpAny (model prog w) A (eval (.Constant (.str y) kd pos) env) Q E s := wpAny_Constant_str (k _ _ S.tok)
theorem q_bytes {y : List UInt8} {kd : Nat} {Q : Value → Shared → Prop} (S : St K w g P L s m news) (k : ∀ t s', St K w g P L s' m news → Q (.bytes y.toArray t) s') :
    wpAny (model prog w) A (eval (.Constant (.bytes y) kd pos) env) Q E s := fun _ _ _ => k _ _ S.tok

/-! ints -/
section
variable {a b : Int} {t u : Tok} {Q : Value → Shared → Prop}
theorem q_add (S : St K w g P L s m news) (k : ∀ t' s', St K w g P L s' m news → Q (.int (a + b) t') s') : wpAny (model prog w) A (binaryOp .Add (.int a t) (.int b u)) Q E s := add_int (k _ _ S.tok)
theorem q_sub (S : St K w g P L s m news) (k : ∀ t' s', St K w g P L s' m news → Q (.int (a - b) t') s') : wpAny (model prog w) A (binaryOp .Sub (.int a t) (.int b u)) Q E s := sub_int (k _ _ S.tok)
theorem q_mod (S : St K w g P L s m news) (hb : b ≠ 0) (k : ∀ t' s', St K w g P L s' m news → Q (.int (a.fmod b) t') s') : wpAny (model prog w) A (binaryOp .Mod (.int a t) (.int b u)) Q E s := mod_int' hb (k _ _ S.tok)
theorem q_div (S : St K w g P L s m news) (hb : b ≠ 0) (hb2 : b.natAbs < 1073741824) (k : ∀ t' s', St K w g P L s' m news → Q (.int (a.fdiv b) t') s') : wpAny (model prog w) A (binaryOp .FloorDiv (.int a t) (.int b u)) Q E s :=
  floordiv_int hb (k _ _ S.tok) (.inl (PyProof.noPylong_small hb2))
theorem q_pow2 {n : Int} (S : St K w g P L s m news) (h0 : 0 ≤ n) (h1 : n ≤ 100) (k : ∀ t' s', St K w g P L s' m news → Q (.int (2 ^ n.toNat) t') s') : wpAny (model prog w) A (binaryOp .Pow (.int 2 t) (.int n u)) Q E s :=
  pow_int h0 (by
    have : (Builtin.Int.intBits 2 : Int) = 2 := by decide +kernel
    rw [this]; lia) (k _ _ S.tok)
theorem q_iadd (S : St K w g P L s m news) (k : ∀ t' s', St K w g P L s' m news → Q (.int (a + b) t') s') : wpAny (model prog w) A (inplaceOp .Add (.int a t) (.int b u)) Q E s := PySem.AutoIntOps.iadd_0 (k _ _ S.tok)
theorem q_neg (S : St K w g P L s m news) (k : ∀ t' s', St K w g P L s' m news → Q (.int (-a) t') s') : wpAny (model prog w) A (unaryOp .USub (.int a t)) Q E s := neg_int (k _ _ S.tok)
end
end
end Mine

end PartBaseB
section PartBaseC
open PySem PySem.W PySem.Spec PySem.Calls PyProof.Rows
set_option Elab.async false
namespace Mine

noncomputable def glOk (Kf : Frag) (scope : Scope) (gv : List (Str × Value)) : Bool :=
  gv.all fun p => decide (scope.names.lookup p.1 = some .globalImplicit) && !(p.1 == ("__debug__" : Str)) &&
    (decide (nsIn Kf mainGlobals p.1 = some (some p.2)) || (decide (nsIn Kf mainGlobals p.1 = some none) && decide (bootBuiltins p.1 = some p.2) && decide (p.1 ≠ ("__name__" : Str))))
noncomputable def nsOk (scope : Scope) (ns : List Str) : Bool := ns.all (fun x => decide (scope.names.lookup x = some .local) && !(x == ("__debug__" : Str))) && decide ns.Nodup
noncomputable def fnOk (scope : Scope) : Bool := decide (scope.kind = .function) && decide (scope.isCoroutine = false) && decide (scope.isGenerator = false) && scope.names.all (fun x => decide (x.2 ≠ .cell))

section
variable {prog : Program} {w : World} {A : Around} {E : Value → Shared → Prop} {env : Env}
variable {K : Params → Frag} {g : Gh} {P H : Heap} {L : Addr} {s : Shared} {m : Str → Option Value} {news mt : List (Addr × Obj)}
variable {ns : List Str} {vs vs' : List (Option Value)} {gv : List (Str × Value)} {cv : List (Str × Addr)} {x : Str} {v : Value} {pos : Pos}

theorem Ev.of {env : Env} {L : Addr} (hl : env.locals = L) (hg : env.globals = mainGlobals) (hb : env.builtins = builtinsNs) (hk : env.scope.kind = .function)
    (hn : nsOk env.scope ns = true) (hv : glOk (K w.params) env.scope gv = true) (hc : ∀ p ∈ cv, env.kindOf p.1 = some .cell ∧ (p.1 == ("__debug__" : Str)) = false ∧ env.cells.lookup p.1 = some p.2) : Ev K w env L ns gv cv := by
  simp only [nsOk, Bool.and_eq_true, List.all_eq_true, decide_eq_true_eq, Bool.not_eq_true'] at hn
  refine ⟨hk, hl, hg, hb, hn.2, hn.1, fun p hp => ?_, hc⟩
  have q := List.all_eq_true.mp hv p hp
  simp only [Bool.and_eq_true, Bool.or_eq_true, decide_eq_true_eq, Bool.not_eq_true'] at q
  refine ⟨q.1.1, q.1.2, ?_⟩
  rcases q.2 with h | h
  · exact .inl h
  · exact .inr ⟨h.1.1, h.1.2, h.2⟩

theorem vec_none (y : Str) : ∀ rest : List Str, vec rest (rest.map fun _ => none) y = none
  | [] => rfl
  | r :: rs => by
    show (if y = r then none else vec rs (rs.map fun _ => none) y) = none
    split
    · rfl
    · exact vec_none y rs
theorem vec_binds {pn : List Str} {args : List Value} {rest : List Str} (hl : pn.length = args.length) (hn : (pn ++ rest).Nodup) : (fun y => (pn.zip args).reverse.lookup y) = vec (pn ++ rest) (args.map some ++ rest.map fun _ => none) := by
  funext y
  induction pn generalizing args with
  | nil =>
    obtain rfl := List.length_eq_zero_iff.mp hl.symm
    exact (vec_none y rest).symm
  | cons n pn ih =>
    cases args with
    | nil => exact nomatch hl
    | cons v args =>
      have h1 := List.nodup_cons.mp hn
      have e := ih (Nat.succ.inj hl) h1.2
      show ((n, v) :: pn.zip args).reverse.lookup y = if y = n then some v else vec (pn ++ rest) (args.map some ++ rest.map fun _ => none) y
      rw [List.reverse_cons, List.lookup_append, e]
      by_cases hy : y = n
      · have no : (pn.zip args).reverse.lookup y = none := List.lookup_eq_none_iff.mpr fun p hp => bne_iff_ne.mpr fun q => h1.1 (hy ▸ q ▸ List.mem_append_left _ (List.of_mem_zip (List.mem_reverse.mp hp)).1)
        rw [if_pos hy, ← e, no, hy, List.lookup_cons, beq_self_eq_true]; rfl
      · rw [if_neg hy, List.lookup_cons, beq_false_of_ne hy]
        exact Option.or_none

theorem q_enterA {f : Addr} {n : Nat} {oc : Value} {od : Option Addr} {name qual : Str} {params : Arguments} {body : List Stmt} {scope : Scope} {dV kV doc pm cdv ct : Value} {an : Option Addr} {osl : Array (Option Value)}
    {args : List Value} {pn rest : List Str} {R : Result → Shared → Prop}
    (ho : (K w.params).lookup f = some ⟨oc, od, .func (fnX name qual params body scope [] dV kV doc pm an cdv ct), osl⟩)
    (hcd : codeIn (K w.params) cdv qual = true) (hbind : bindArgs (fnX name qual params body scope [] dV kV doc pm an cdv ct) ⟨args, []⟩ = pure (pn.zip args)) (hlen : pn.length = args.length)
    (hf : fnOk scope = true) (hn : nsOk scope ns = true) (hg : glOk (K w.params) scope gv = true)
    (hns : ns = pn ++ rest) (hvs : vs = args.map some ++ rest.map fun _ => none)
    (ao : Ao A (n + 1)) (C : Cx K w P) (hP : Sub P s.heap) (hH : Sub H s.heap)
    (hm : ∀ p ∈ mt, s.heap.get? p.1 = some p.2 ∧ H.get? p.1 = none ∧ P.get? p.1 = none) (hnd : (mt.map (·.1)).Nodup)
    (h : ∀ env L A' s₁, Ev K w env L ns gv [] → Ao A' n → St K w ⟨s, H, P⟩ P L s₁ (vec ns vs) mt →
      wpAny (model prog w) A' (execs body env) (fun fl s' => R (.ok (.ret (match fl with | .ret v => v | _ => .none))) s') NoE s₁) :
    codeAny (model prog w) A (.call (.ref f) ⟨args, []⟩) R s := by
  simp only [fnOk, Bool.and_eq_true, List.all_eq_true, decide_eq_true_eq] at hf
  obtain ⟨⟨⟨hk, hco⟩, hge⟩, hce⟩ := hf
  have X := C.kin.keeps hP
  have hn' := hn
  simp only [nsOk, Bool.and_eq_true, List.all_eq_true, decide_eq_true_eq, Bool.not_eq_true'] at hn'
  have hnd' := hns ▸ hn'.2
  refine codeAny_call_def (fd := fnX name qual params body scope [] dV kV doc pm an cdv ct) (body := body) ao.room (X _ _ ho) rfl (C.lim.keeps hP) (codeRec_of X hcd) rfl (BindsTo.of_eq hbind) hce
    (fun y hy => (hn'.1 _ (hns ▸ List.mem_append_left _ (List.of_mem_zip hy).1)).1) (fun h₀ hns₀ hk₀ => ?_) hco hge hk
  have fr : ∀ {h' : Heap}, Sub h' s.heap → h'.get? s.heap.objs.size = none := fun k => none_of_sub k (none_at (Nat.le_refl _))
  refine noE (wpAny_mono (h _ s.heap.objs.size _ _ (Ev.of rfl rfl rfl hk hn hg (fun _ hp => nomatch hp)) (ao.deeper _) ?_) (fun fl s' q => q) fun _ _ x => x.elim)
  refine { low := fun a o e => Heap.lt_size (hP _ _ (C.kin _ _ e)), cx := C, sib := Sib.mk' s h₀ _, frame := hH.trans hk₀, base := .refl _, keep := hP.trans hk₀, old := fun _ _ _ => rfl, offH := fr hH, offP := fr hP, ns := ?_, led := fun p hp => ?_, nd := hnd }
  · rw [hns, hvs, ← vec_binds hlen hnd']; exact hns₀
  · have z := hm p hp
    exact ⟨hk₀ _ _ z.1, Nat.ne_of_lt (Heap.lt_size z.1), z.2⟩
theorem q_enter {f : Addr} {n : Nat} {oc : Value} {od : Option Addr} {name qual : Str} {params : Arguments} {body : List Stmt} {scope : Scope} {dV kV doc pm cdv ct : Value} {an : Option Addr} {osl : Array (Option Value)}
    {args : List Value} {pn rest : List Str} {Q : Value → Shared → Prop}
    (ho : (K w.params).lookup f = some ⟨oc, od, .func (fnX name qual params body scope [] dV kV doc pm an cdv ct), osl⟩)
    (hcd : codeIn (K w.params) cdv qual = true) (hbind : bindArgs (fnX name qual params body scope [] dV kV doc pm an cdv ct) ⟨args, []⟩ = pure (pn.zip args)) (hlen : pn.length = args.length)
    (hf : fnOk scope = true) (hn : nsOk scope ns = true) (hg : glOk (K w.params) scope gv = true)
    (hns : ns = pn ++ rest) (hvs : vs = args.map some ++ rest.map fun _ => none)
    (ao : Ao A (n + 1)) (C : Cx K w P) (hP : Sub P s.heap) (hH : Sub H s.heap)
    (hm : ∀ p ∈ mt, s.heap.get? p.1 = some p.2 ∧ H.get? p.1 = none ∧ P.get? p.1 = none) (hnd : (mt.map (·.1)).Nodup)
    (h : ∀ env L A' s₁, Ev K w env L ns gv [] → Ao A' n → St K w ⟨s, H, P⟩ P L s₁ (vec ns vs) mt →
      wpAny (model prog w) A' (execs body env) (fun fl s' => Q (match fl with | .ret v => v | _ => .none) s') NoE s₁) :
    wpAny (model prog w) A (call (.ref f) args) Q E s :=
  wpAny_call (q_enterA (R := fun r s' => match r with | .ok (.ret v) => Q v s' | .ok _ => False | .error e => E e s') ho hcd hbind hlen hf hn hg hns hvs ao C hP hH hm hnd h)

/-- cells of a new activation -/
noncomputable def CellsLed (cm : Str → Option Value) : List (Str × Addr) → List (Addr × Obj) → Prop
  | [], [] => True
  | (x, c) :: r, p :: q => p.1 = c ∧ p.2.data = .cell (cm x) ∧ CellsLed cm r q
  | _, _ => False
theorem CellsLed.fst {cm : Str → Option Value} : ∀ {cs : List (Str × Addr)} {led : List (Addr × Obj)}, CellsLed cm cs led → led.map (·.1) = cs.map (·.2)
  | [], [], _ => rfl
  | (x, c) :: r, p :: q, h => by show p.1 :: q.map (·.1) = c :: r.map (·.2); rw [h.1, h.2.2.fst]
  | [], _ :: _, h => h.elim
  | _ :: _, [], h => h.elim
theorem CellsLed.nil {cm : Str → Option Value} {led : List (Addr × Obj)} (h : CellsLed cm [] led) : led = [] := by
  cases led with
  | nil => rfl
  | cons p q => exact h.elim
theorem CellsLed.cons {cm : Str → Option Value} {x : Str} {c : Addr} {cs : List (Str × Addr)} {led : List (Addr × Obj)} (h : CellsLed cm ((x, c) :: cs) led) : ∃ o r, led = (c, o) :: r ∧ o.data = .cell (cm x) ∧ CellsLed cm cs r := by
  cases led with
  | nil => exact h.elim
  | cons p q =>
    obtain ⟨c', o⟩ := p
    obtain ⟨e, d, k⟩ := h
    dsimp only at e; subst e
    exact ⟨o, q, rfl, d, k⟩
theorem CellsLed.one {cm : Str → Option Value} {x : Str} {c : Addr} {led : List (Addr × Obj)} (h : CellsLed cm [(x, c)] led) : ∃ o, led = [(c, o)] ∧ o.data = .cell (cm x) := by
  obtain ⟨o, r, rfl, d, k⟩ := h.cons
  cases k.nil
  exact ⟨o, rfl, d⟩
theorem cellsLed_of {cm : Str → Option Value} {h : Heap} : ∀ {cs : List (Str × Addr)}, (∀ x c, (x, c) ∈ cs → h.IsCell c (cm x)) → ∃ led, CellsLed cm cs led ∧ ∀ p ∈ led, h.get? p.1 = some p.2
  | [], _ => ⟨[], trivial, fun _ h => nomatch h⟩
  | (x, c) :: r, k => by
    obtain ⟨o, e, d⟩ := k x c (.head _)
    obtain ⟨led, h1, h2⟩ := cellsLed_of (cs := r) fun x c hx => k x c (.tail _ hx)
    exact ⟨(c, o) :: led, ⟨rfl, d, h1⟩, fun p hp => by
      rcases List.mem_cons.mp hp with rfl | hp
      · exact e
      · exact h2 p hp⟩

noncomputable def fnOkC (scope : Scope) : Bool := decide (scope.kind = .function) && decide (scope.isCoroutine = false) && decide (scope.isGenerator = false)
theorem q_enterAC {f : Addr} {n : Nat} {oc : Value} {od : Option Addr} {name qual : Str} {params : Arguments} {body : List Stmt} {scope : Scope} {dV kV doc pm cdv ct : Value} {an : Option Addr} {osl : Array (Option Value)}
    {args : List Value} {binds : List (Str × Value)} {cf : Nat → List (Str × Addr)} {cm : Str → Option Value} {R : Result → Shared → Prop}
    (ho : (K w.params).lookup f = some ⟨oc, od, .func (fnX name qual params body scope [] dV kV doc pm an cdv ct), osl⟩)
    (hcd : codeIn (K w.params) cdv qual = true) (hbind : bindArgs (fnX name qual params body scope [] dV kV doc pm an cdv ct) ⟨args, []⟩ = pure binds)
    (hf : fnOkC scope = true) (hn : nsOk scope ns = true) (hg : glOk (K w.params) scope gv = true)
    (hcf : ∀ n, cellsFrom n scope.names [] = cf n)
    (hkind : ∀ i, ∀ x ∈ binds, scope.names.lookup x.1 = some .local ∨ (scope.names.lookup x.1 = some .cell ∧ ((cellsFrom (i + 1) scope.names []).lookup x.1).isSome = true))
    (hbl : bindL (fun y => scope.names.lookup y) binds (fun _ => none) = vec ns vs) (hbc : bindC (fun y => scope.names.lookup y) binds (fun _ => none) = cm)
    (hcn : ∀ n, ((cf n).map (·.1)).Nodup) (hck : ∀ n, ∀ p ∈ cf n, scope.names.lookup p.1 = some .cell ∧ (p.1 == ("__debug__" : Str)) = false)
    (ao : Ao A (n + 1)) (C : Cx K w P) (hP : Sub P s.heap) (hH : Sub H s.heap)
    (hm : ∀ p ∈ mt, s.heap.get? p.1 = some p.2 ∧ H.get? p.1 = none ∧ P.get? p.1 = none) (hnd : (mt.map (·.1)).Nodup)
    (h : ∀ env L A' s₁ i led, Ev K w env L ns gv (cf i) → Ao A' n → CellsLed cm (cf i) led → St K w ⟨s, H, P⟩ P L s₁ (vec ns vs) (led ++ mt) →
      wpAny (model prog w) A' (execs body env) (fun fl s' => R (.ok (.ret (match fl with | .ret v => v | _ => .none))) s') NoE s₁) :
    codeAny (model prog w) A (.call (.ref f) ⟨args, []⟩) R s := by
  simp only [fnOkC, Bool.and_eq_true, List.all_eq_true, decide_eq_true_eq] at hf
  obtain ⟨⟨hk, hco⟩, hge⟩ := hf
  have X := C.kin.keeps hP
  refine codeAny_call_cells (fd := fnX name qual params body scope [] dV kV doc pm an cdv ct) (body := body) ao.room (X _ _ ho) rfl (C.lim.keeps hP) (codeRec_of X hcd) rfl hbind rfl (hkind _) (fun s₁ I => ?_) hco hge hk
  have ecs : (callEnvC (fnX name qual params body scope [] dV kV doc pm an cdv ct) s.heap.objs.size f).cells = cf (s.heap.objs.size + 1) := hcf _
  have hcl : ∀ x c, (x, c) ∈ cf (s.heap.objs.size + 1) → s₁.heap.IsCell c (cm x) := fun x c hx => by
    rw [← hbc]
    refine I.cell x c ?_
    rw [ecs]
    generalize hcfx : cf (s.heap.objs.size + 1) = l at hx
    have hnn := hcn (s.heap.objs.size + 1)
    rw [hcfx] at hnn
    clear hcfx
    induction l with
    | nil => cases hx
    | cons q l ih =>
      rw [List.map_cons] at hnn
      have h1 := List.nodup_cons.mp hnn
      rcases List.mem_cons.mp hx with rfl | hx
      · rw [List.lookup_cons]; simp
      · have : (x == q.1) = false := beq_false_of_ne fun e => h1.1 (e ▸ List.mem_map_of_mem (f := (·.1)) hx)
        rw [List.lookup_cons, this]
        exact ih hx h1.2
  obtain ⟨led, hled, hl2⟩ := cellsLed_of hcl
  have fr : ∀ {h' : Heap} {a : Addr}, Sub h' s.heap → s.heap.objs.size ≤ a → h'.get? a = none := fun k ha => none_of_sub k (none_at ha)
  obtain ⟨h₁, tk, es⟩ := I.toInCall.same
  refine noE (h _ s.heap.objs.size _ _ (s.heap.objs.size + 1) led (Ev.of rfl rfl rfl hk hn hg fun p hp => ?_) (ao.deeper _) hled ?_)
  · obtain ⟨a, b⟩ := hck _ p hp
    refine ⟨a, b, ?_⟩
    rw [ecs]
    have hnn := hcn (s.heap.objs.size + 1)
    generalize cf (s.heap.objs.size + 1) = l at hp hnn
    induction l with
    | nil => cases hp
    | cons q l ih =>
      rw [List.map_cons] at hnn
      have h1 := List.nodup_cons.mp hnn
      rcases List.mem_cons.mp hp with rfl | hp
      · rw [List.lookup_cons]; simp
      · have : (p.1 == q.1) = false := beq_false_of_ne fun e => h1.1 (e ▸ List.mem_map_of_mem (f := (·.1)) hp)
        rw [List.lookup_cons, this]
        exact ih hp h1.2
  · have hLc : ∀ p ∈ led, s.heap.objs.size < p.1 := fun p hp => by
      have : p.1 ∈ (cf (s.heap.objs.size + 1)).map (·.2) := hled.fst ▸ List.mem_map_of_mem hp
      obtain ⟨q, hq, e⟩ := List.mem_map.mp this
      rw [← e]
      exact I.above q.1 q.2 (by rw [ecs]; exact hq)
    refine { cx := C, sib := by rw [es]; exact Sib.mk' s h₁ tk, frame := hH.trans I.toInCall.keep, base := .refl _, keep := hP.trans I.toInCall.keep, old := fun _ _ _ => rfl, offH := fr hH (Nat.le_refl _), offP := fr hP (Nat.le_refl _), low := fun a o e => Heap.lt_size (hP _ _ (C.kin _ _ e)), ns := ?_, led := fun p hp => ?_, nd := ?_ }
    · rw [← hbl]; exact I.toInCall.ns
    · rcases List.mem_append.mp hp with q | q
      · exact ⟨hl2 p q, Nat.ne_of_gt (hLc p q), fr hH (Nat.le_of_lt (hLc p q)), fr hP (Nat.le_of_lt (hLc p q))⟩
      · have z := hm p q
        exact ⟨I.toInCall.keep _ _ z.1, Nat.ne_of_lt (Heap.lt_size z.1), z.2⟩
    · rw [List.map_append]
      refine List.nodup_append.mpr ⟨?_, hnd, fun a ha b hb e => ?_⟩
      · rw [hled.fst]
        have := I.apart
        rw [ecs] at this
        rw [List.Nodup, List.pairwise_map]; exact this
      · obtain ⟨p, hp, rfl⟩ := List.mem_map.mp ha
        obtain ⟨q, hq, rfl⟩ := List.mem_map.mp hb
        have h1 := hLc p hp
        rw [e] at h1
        exact absurd (Heap.lt_size (hm q hq).1) (Nat.not_lt.mpr (Nat.le_of_lt h1))
end
end Mine

end PartBaseC
section PartBaseD
open PySem PySem.W PySem.Spec PySem.Calls PyProof.Rows
set_option Elab.async false
namespace Mine
section
variable {prog : Program} {w : World} {A : Around} {E : Value → Shared → Prop} {env : Env}
variable {K : Params → Frag} {g : Gh} {P H : Heap} {L : Addr} {s : Shared} {m : Str → Option Value} {news mt : List (Addr × Obj)}
variable {ns : List Str} {vs vs' vs'' : List (Option Value)} {gv : List (Str × Value)} {cv : List (Str × Addr)} {x : Str} {v : Value} {pos : Pos}

theorem St.ext {h' : Heap} {t : Nat} (S : St K w g P L s m news) (h : Sub s.heap h') : St K w g P L { s with heap := h', toks := t } m news :=
  S.after ⟨Sib.mk' s h' t, h, .refl _, S.keep.trans h, fun _ _ _ => rfl⟩

/-! loops and tests -/
/-- the turn's end: the word holds again, at a smaller number -/
noncomputable def Again (I : Nat → Shared → Prop) (n : Nat) (s : Shared) : Prop := ∃ m, m < n ∧ I m s
theorem q_while {test : Expr} {body : List Stmt} {Q : Flow → Shared → Prop} (I : Nat → Shared → Prop) (n : Nat) (h0 : I n s)
    (turn : ∀ n s', I n s' → wpAny (model prog w) A (isTrue test env (eval test env)) (fun b s₂ => if b = true then wpAny (model prog w) A (execs body env) (fun f s₃ => match f with
        | .ret v => Q (.ret v) s₃
        | .brk => Q .next s₃
        | _ => Again I n s₃) NoE s₂ else Q .next s₂) NoE s') :
    wpAny (model prog w) A (exec (.While test body [] pos) env) Q E s := by
  refine wpAny_While (codeAny_whileLoop I (fun n s' hI => ?_) n h0)
  refine wpAny_mono (turn n s' hI) (fun b s₂ h => ?_) fun _ _ x => x.elim
  cases b with
  | true =>
    simp only [if_true] at h ⊢
    refine wpAny_mono h (fun f s₃ hf => ?_) fun _ _ x => x.elim
    cases f <;> exact hf
  | false =>
    simp only [Bool.false_eq_true, if_false] at h ⊢
    exact wpAny_execs_nil h

/-! lists and tuples -/
theorem St.lst {l : Addr} {items : Array Value} (S : St K w g P L s m news) (h : P.IsList l items) : s.heap.IsList l items := let ⟨o, a, b⟩ := h; ⟨o, S.keep _ _ a, b⟩
theorem St.lstF {l : Addr} {items : Array Value} (S : St K w g P L s m news) (h : g.H.IsList l items) : s.heap.IsList l items := let ⟨o, a, b⟩ := h; ⟨o, S.frame _ _ a, b⟩
theorem St.tupF {l : Addr} {items : Array Value} (S : St K w g P L s m news) (h : IsTup g.H l items) : IsTup s.heap l items := h.keeps S.frame
theorem St.tupL {l : Addr} {items : Array Value} {n : Nat} (S : St K w g P L s m news) (h : (l, ({ cls := .type "tuple", data := .seq items n } : Obj)) ∈ news) : IsTup s.heap l items := ⟨_, S.get h, rfl, n, rfl⟩

theorem q_len {l : Addr} {items : Array Value} {Q : Value → Shared → Prop} (S : St K w g P L s m news) (hl : s.heap.IsList l items) (hfit : items.size < 2 ^ 40)
    (k : ∀ t s', St K w g P L s' m news → Q (.int items.size t) s') : wpAny (model prog w) A (call (.builtin "len") [.ref l]) Q E s :=
  len_list hl (by lia) (k _ _ S.tok)
theorem q_lenT {l : Addr} {items : Array Value} {Q : Value → Shared → Prop} (S : St K w g P L s m news) (hl : IsTup s.heap l items) (hfit : items.size < 2 ^ 40)
    (k : ∀ t s', St K w g P L s' m news → Q (.int items.size t) s') : wpAny (model prog w) A (call (.builtin "len") [.ref l]) Q E s :=
  len_tuple hl (by lia) (k _ _ S.tok)

theorem q_item {value slice : Expr} {l : Addr} {items : Array Value} {i : Int} {u : Tok} {y : Value} {Q : Value → Shared → Prop} (hl : s.heap.IsList l items) (h0 : 0 ≤ i) (h1 : i < 2 ^ 63)
    (hx : items[i.toNat]? = some y) (k : Q y s) (hs : subscripted slice false (.ref l) (.int i u) = operate [.ref l, .int i u] (getItem (.ref l) (.int i u)) := by with_unfolding_all rfl) :
    wpAny (model prog w) A (subscriptTail value slice (.ref l) (.int i u)) Q E s :=
  tail_any hl.typeIs slot_list_getitem.lookup (wpAny_getItem_list hl h0 h1 hx k) hs
theorem q_itemT {value slice : Expr} {l : Addr} {items : List Value} {i : Int} {u : Tok} {y : Value} {j : Nat} {Q : Value → Shared → Prop} (hl : IsTup s.heap l items.toArray) (h0 : -(2 ^ 63) ≤ i) (h1 : i < 2 ^ 63)
    (hj : seqIndex? i items.length = some j) (hx : items[j]? = some y) (k : Q y s) (hs : subscripted slice false (.ref l) (.int i u) = operate [.ref l, .int i u] (getItem (.ref l) (.int i u)) := by with_unfolding_all rfl) :
    wpAny (model prog w) A (subscriptTail value slice (.ref l) (.int i u)) Q E s := item_tupleT hl h0 h1 hj hx k hs

/-! instances -/
/-- an object of class C whose dict holds the entries -/
structure Inst (h : Heap) (a C : Addr) (es : List DictEntry) : Prop where
  mk :: (ex : ∃ dx n, h.get? a = some (instObj C dx) ∧ h.get? dx = some (dictOf es n))
theorem Inst.mono {h h' : Heap} {a C : Addr} {es : List DictEntry} (i : Inst h a C es) (k : Sub h h') : Inst h' a C es := let ⟨dx, n, p, q⟩ := i.ex; ⟨dx, n, k _ _ p, k _ _ q⟩
theorem q_attrAt {a C dx : Addr} {es : List DictEntry} {n : Nat} {name : Str} {attr : Option Value} {expr : Bool} {Q : Value → Shared → Prop} (S : St K w g P L s m news) (h1 : s.heap.get? a = some (instObj C dx)) (h2 : s.heap.get? dx = some (dictOf es n))
    (hg : plainGet (K w.params) C name = true) (hh : hasDictIn (K w.params) C = true) (ha : findIn (K w.params) (.ref C) name = some attr) (hn : noGet (K w.params) attr = true)
    (hl : getL name es = some (some v)) (hv : handedIn v = true) (k : ∀ s', St K w g P L s' m news → Q v s') : wpAny (model prog w) A (getAttr (.ref a) name expr) Q E s :=
  get_value S.kin (⟨h1, rfl, rfl, h2⟩ : InstAt s.heap a (instObj C dx) C (some (dictOf es n))) (plainGet_of hg).1 (findObj_own hh ha hn hl) hv (k _ S.tok)
theorem q_attr {a C : Addr} {es : List DictEntry} {name : Str} {attr : Option Value} {expr : Bool} {Q : Value → Shared → Prop} (S : St K w g P L s m news) (I : Inst s.heap a C es)
    (hg : plainGet (K w.params) C name = true) (hh : hasDictIn (K w.params) C = true) (ha : findIn (K w.params) (.ref C) name = some attr) (hn : noGet (K w.params) attr = true)
    (hl : getL name es = some (some v)) (hv : handedIn v = true) (k : ∀ s', St K w g P L s' m news → Q v s') : wpAny (model prog w) A (getAttr (.ref a) name expr) Q E s := by
  obtain ⟨dx, n, h1, h2⟩ := I.ex
  exact q_attrAt S h1 h2 hg hh ha hn hl hv k

noncomputable def attrOk (Kf : Frag) (C : Addr) (name : Str) : Bool := plainGet Kf C name && hasDictIn Kf C && decide (findIn Kf (.ref C) name = some none)
theorem q_field {a C : Addr} {es : List DictEntry} {name : Str} {expr : Bool} {Q : Value → Shared → Prop} (S : St K w g P L s m news) (I : Inst s.heap a C es) (ok : attrOk (K w.params) C name = true)
    (hl : getL name es = some (some v)) (hv : handedIn v = true) (k : ∀ s', St K w g P L s' m news → Q v s') : wpAny (model prog w) A (getAttr (.ref a) name expr) Q E s := by
  simp only [attrOk, Bool.and_eq_true, decide_eq_true_eq] at ok
  exact q_attr S I ok.1.1 ok.1.2 ok.2 rfl hl hv k
/-! lists side by side -/
inductive All2 {α β : Type} (R : α → β → Prop) : List α → List β → Prop
  | nil : All2 R [] []
  | cons {a b as bs} : R a b → All2 R as bs → All2 R (a :: as) (b :: bs)
theorem All2.length {α β : Type} {R : α → β → Prop} {as : List α} {bs : List β} (h : All2 R as bs) : as.length = bs.length := by
  induction h with
  | nil => rfl
  | cons _ _ ih => simp [ih]
theorem All2.mono {α β : Type} {R R' : α → β → Prop} {as : List α} {bs : List β} (h : All2 R as bs) (k : ∀ a b, R a b → R' a b) : All2 R' as bs := by
  induction h with
  | nil => exact .nil
  | cons h1 _ ih => exact .cons (k _ _ h1) ih
theorem All2.get {α β : Type} {R : α → β → Prop} {as : List α} {bs : List β} (h : All2 R as bs) {i : Nat} {b : β} (e : bs[i]? = some b) : ∃ a, as[i]? = some a ∧ R a b := by
  induction h generalizing i with
  | nil => cases e
  | @cons a' b' as' bs' h1 _ ih =>
    cases i with
    | zero => cases e; exact ⟨a', rfl, h1⟩
    | succ i => exact ih e
theorem All2.getL {α β : Type} {R : α → β → Prop} {as : List α} {bs : List β} (h : All2 R as bs) {i : Nat} {a : α} (e : as[i]? = some a) : ∃ b, bs[i]? = some b ∧ R a b := by
  induction h generalizing i with
  | nil => cases e
  | @cons a' b' as' bs' h1 _ ih =>
    cases i with
    | zero => cases e; exact ⟨b', rfl, h1⟩
    | succ i => exact ih e
theorem All2.snoc {α β : Type} {R : α → β → Prop} {as : List α} {bs : List β} {a : α} {b : β} (h : All2 R as bs) (r : R a b) : All2 R (as ++ [a]) (bs ++ [b]) := by
  induction h with
  | nil => exact .cons r .nil
  | cons h1 _ ih => exact .cons h1 ih

/-! two names at once -/
theorem swappedStores2 {x y : Str} {px py tp p2 : Pos} {k k2 : Nat} {e₁ e₂ : Expr} (V : Ev K w env L ns gv cv) (hx : x ∈ ns) (hy : y ∈ ns) (hl : (px.line == py.line) = true) (hne : (x == y) = false)
    (h1 : (isStarred e₁ || isStarred e₂) = false)
    (hf : (foldedForSure 8 e₁ && foldedForSure 8 e₂) = false) (hc : (constantsAlone 8 e₁ && constantsAlone 8 e₂) = false) :
    swappedStores [.Tuple [.Name x px, .Name y py] k tp] (.Tuple [e₁, e₂] k2 p2) env = pure (some [x, y]) := by
  have b : (env.blockKind != .function) = false := by unfold Env.blockKind; rw [V.fn]; rfl
  have kx : (env.kindOf x == some .local) = true := by rw [(V.kl x hx).1]; rfl
  have ky : (env.kindOf y == some .local) = true := by rw [(V.kl y hy).1]; rfl
  have l1 : (px.line == px.line) = true := by simp
  have l2 : (py.line == px.line) = true := by simp only [beq_iff_eq] at hl ⊢; exact hl.symm
  have ed : ([x, y] : List Str).eraseDups = [x, y] := by
    have hy' : (y == x) = false := by
      cases q : y == x with
      | false => rfl
      | true => rw [beq_iff_eq.mp q] at hne; simp at hne
    rw [List.eraseDups_cons]
    simp [hy', List.eraseDups_cons]
  have fx : ∀ {id : Str} {pos : Pos}, (env.kindOf id == some .local) = true → (pos.line == px.line) = true → (if (env.kindOf id == some .local && pos.line == px.line) = true then some id else none) = some id := fun h1 h2 => by rw [h1, h2]; rfl
  unfold swappedStores
  show (if (env.blockKind != ScopeKind.function) = true then _ else _) = _
  rw [b, if_neg (by decide)]
  show (if (isStarred e₁ || (isStarred e₂ || false)) = true then _ else _) = _
  rw [Bool.or_false, h1, if_neg (by decide)]
  have hn : ∀ f : Expr → Option Str, f (.Name x px) = some x → f (.Name y py) = some y → List.filterMap f [.Name x px, .Name y py] = [x, y] := fun f a b => by rw [List.filterMap_cons_some a, List.filterMap_cons_some b, List.filterMap_nil]
  dsimp only
  rw [hn _ (by exact fx kx l1) (by exact fx ky l2), ed]
  show (if (foldedForSure 8 e₁ && (foldedForSure 8 e₂ && true)) = true then _ else if (constantsAlone 8 e₁ && (constantsAlone 8 e₂ && true)) = true then _ else _) = _
  rw [Bool.and_true, Bool.and_true, hf, hc, if_neg (by decide), if_neg (by decide)]
theorem q_assignT2 {x y : Str} {px py tp p2 : Pos} {k k2 : Nat} {e₁ e₂ : Expr} {Q : Flow → Shared → Prop} (V : Ev K w env L ns gv cv) (hx : x ∈ ns) (hy : y ∈ ns) (hl : (px.line == py.line) = true) (hne : (x == y) = false)
    (h1 : (isStarred e₁ || isStarred e₂) = false)
    (hf : (foldedForSure 8 e₁ && foldedForSure 8 e₂) = false) (hc : (constantsAlone 8 e₁ && constantsAlone 8 e₂) = false)
    (hs : swapsWithSole [.Tuple [.Name x px, .Name y py] k tp] (.Tuple [e₁, e₂] k2 p2) pos.line env = pure false)
    (h : wpAny (model prog w) A (spliced (backTo p2 (starEach [e₁, e₂] env))) (fun vs s₁ => wpAny (model prog w) A (newTuple vs) (fun t s₁ => wpAny (model prog w) A (unpackItems t ([x, y] : List Str).length none) (fun items s₂ =>
      wpAny (model prog w) A (assignInOrder (([x, y] : List Str).reverse.map fun n => bindName env n) items.reverse) (fun _ => Q .next) E s₂) E s₁) E s₁) E s) :
    wpAny (model prog w) A (exec (.Assign [.Tuple [.Name x px, .Name y py] k tp] (.Tuple [e₁, e₂] k2 p2) pos) env) Q E s :=
  Assign_Tuple_swapped (Tuple_ h) hs (swappedStores2 V hx hy hl hne h1 hf hc)
theorem q_swap2 {x y : Str} {v₁ v₂ : Value} {R : Shared → Prop} (S : St K w g P L s (vec ns vs) news) (V : Ev K w env L ns gv cv) (hA : A.handled = none)
    (hy : VSet ns vs y (some v₂) vs') (hx : VSet ns vs' x (some v₁) vs'') (k : ∀ s', St K w g P L s' (vec ns vs'') news → R s') :
    wpAny (model prog w) A (newTuple [v₁, v₂]) (fun t s₁ => wpAny (model prog w) A (unpackItems t ([x, y] : List Str).length none) (fun items s₂ =>
      wpAny (model prog w) A (assignInOrder (([x, y] : List Str).reverse.map fun n => bindName env n) items.reverse) (fun _ => R) E s₂) E s₁) E s := by
  refine wpAny_newTuple ?_ (by show 2 ≤ sizeLine; decide)
  have S₁ := S.push (t := s.toks) { cls := .type "tuple", data := .seq ([v₁, v₂] : List Value).toArray }
  refine unpackItems_tuple (items := ([v₁, v₂] : List Value).toArray) hA (S₁.tupL (n := 0) (.head _)) fun h' he => ?_
  have S₂ := (S₁.ext (h' := h') (t := s.toks) fun b o e => he b o (Nat.ne_of_lt (Heap.lt_size e)) e).drop
  show wpAny (model prog w) A (do holding [v₁] (bindName env y v₂); holding [] (do holding [] (bindName env x v₁); pure ())) _ E _
  refine wpAny_bind (wpAny_holding (wpAny_bindName (q_store S₂ V hy fun s₃ S₃ => wpAny_holding (wpAny_bind (wpAny_holding (wpAny_bindName (q_store S₃ V hx fun s₄ S₄ => wpAny_pure (k _ S₄))))))))

noncomputable abbrev tupObj (vs : List Value) : Obj := { cls := .type "tuple", data := .seq vs.toArray }
theorem q_newTuple {vs : List Value} {Q : Value → Shared → Prop} (S : St K w g P L s m news) (k : ∀ a s', St K w g P L s' m ((a, tupObj vs) :: news) → Q (.ref a) s') (hz : vs.length ≤ 100) : wpAny (model prog w) A (newTuple vs) Q E s :=
  wpAny_newTuple (k _ _ (S.push (t := s.toks) _)) (by rw [sizeLine_eq]; lia)
theorem q_newList {vs : List Value} {Q : Value → Shared → Prop} (S : St K w g P L s m news) (k : ∀ a s', St K w g P L s' m ((a, W.listOf vs.toArray 0) :: news) → Q (.ref a) s') (hz : vs.length ≤ 100) : wpAny (model prog w) A (newList vs) Q E s :=
  wpAny_newList (k _ _ (S.push (t := s.toks) _)) (by rw [sizeLine_eq]; lia)
end
end Mine

end PartBaseD
section PartBaseE
open PySem PySem.W PySem.Spec PySem.Calls PyProof.Rows
set_option Elab.async false
namespace Mine
section
variable {prog : Program} {w : World} {A : Around} {E : Value → Shared → Prop} {env : Env}
variable {K : Params → Frag} {g : Gh} {P H : Heap} {L : Addr} {s : Shared} {m : Str → Option Value} {news mt : List (Addr × Obj)}
variable {ns : List Str} {vs vs' vs'' : List (Option Value)} {gv : List (Str × Value)} {cv : List (Str × Addr)} {x : Str} {v : Value} {pos : Pos}

/-- the objects of an iterator, as they lie now -/
noncomputable def ownAt (oa : List Addr) (h : Heap) : List (Addr × Obj) := oa.map fun a => (a, (h.get? a).getD freedObj)
theorem ownAt_fst (oa : List Addr) (h : Heap) : (ownAt oa h).map (·.1) = oa := by
  unfold ownAt; rw [List.map_map]; exact (List.map_congr_left fun _ _ => rfl).trans (List.map_id oa)

/-- an iteration under way: what its items are, what it holds of the heap -/
structure Turns (prog : Program) (w : World) (A : Around) (target : Expr) (I : Addr) (oa : List Addr) (n : Nat) (Pv : Nat → Value → Heap → Prop) (Stt : Nat → Heap → Prop) (P H : Heap) : Prop where
  mk :: (ex : ∃ fp Md, KTurns prog w A target I fp oa n Pv Md Stt ∧ (∀ b ∈ fp, b ∈ oa ∨ (∃ o, P.get? b = some o) ∨ ∃ o, H.get? b = some o) ∧ (∀ i h, Stt i h → ∀ b ∈ oa, ∃ o, h.get? b = some o))

theorem St.offOwn {oa : List Addr} {own : List (Addr × Obj)} (S : St K w g P L s m (news ++ own)) (ho : own.map (·.1) = oa) {a : Addr} (ha : a ∈ oa) : g.H.get? a = none ∧ P.get? a = none ∧ a ≠ L ∧ a ∉ news.map (·.1) := by
  rw [← ho] at ha
  obtain ⟨p, hp, rfl⟩ := List.mem_map.mp ha
  have z := S.led p (List.mem_append_right _ hp)
  have nd := S.nd
  rw [List.map_append] at nd
  exact ⟨z.2.2.1, z.2.2.2, z.2.1, fun q => (List.nodup_append.mp nd).2.2 _ q _ ha rfl⟩
theorem St.dropOwn {oa : List Addr} {own : List (Addr × Obj)} {h₁ : Heap} {t : Nat} (S : St K w g P L s m (news ++ own)) (ho : own.map (·.1) = oa)
    (hk : ∀ b o, b ∉ oa → s.heap.get? b = some o → h₁.get? b = some o) : St K w g P L { s with heap := h₁, toks := t } m news := by
  have sub : ∀ {h : Heap}, Sub h s.heap → (∀ a ∈ oa, h.get? a = none) → Sub h h₁ := fun {h} k n b o e => hk b o (fun q => no_none (n b q) e) (k b o e)
  refine { low := S.low, cx := S.cx, sib := S.sib.trans (Sib.mk' s _ _), frame := sub S.frame fun a ha => (S.offOwn ho ha).1, base := S.base, keep := sub S.keep fun a ha => (S.offOwn ho ha).2.1, old := S.old, offH := S.offH, offP := S.offP, ns := ?_, led := fun p hp => ?_, nd := ?_ }
  · obtain ⟨o, es, ep, hL, r⟩ := S.ns
    exact ⟨o, es, ep, hk L o (fun q => (S.offOwn ho q).2.2.1 rfl) hL, r⟩
  · have z := S.led p (List.mem_append_left _ hp)
    exact ⟨hk _ _ (fun r => (S.offOwn ho r).2.2.2 (List.mem_map_of_mem hp)) z.1, z.2⟩
  · have nd := S.nd
    rw [List.map_append] at nd
    exact (List.nodup_append.mp nd).1
/-- after a step of the iterator -/
theorem St.next {oa : List Addr} {own : List (Addr × Obj)} {h₁ : Heap} {t : Nat} (S : St K w g P L s m (news ++ own)) (ho : own.map (·.1) = oa) (hlive : ∀ b ∈ oa, ∃ o, h₁.get? b = some o)
    (hk : ∀ b o, b ∉ oa → s.heap.get? b = some o → h₁.get? b = some o) : St K w g P L { s with heap := h₁, toks := t } m (news ++ ownAt oa h₁) := by
  refine { S.dropOwn (t := t) ho hk with led := fun p hp => ?_, nd := ?_ }
  · rcases List.mem_append.mp hp with q | q
    · exact (S.dropOwn (t := t) ho hk).led p q
    · obtain ⟨a, ha, rfl⟩ := List.mem_map.mp q
      obtain ⟨o, e⟩ := hlive a ha
      have z := S.offOwn ho ha
      exact ⟨by show h₁.get? a = some ((h₁.get? a).getD freedObj); rw [e]; rfl, z.2.2.1, z.1, z.2.1⟩
  · have nd := S.nd
    rw [List.map_append] at nd ⊢
    rw [ownAt_fst, ← ho]; exact nd
/-- the walk's own state stays -/
theorem keepSt {target : Expr} {I : Addr} {fp oa : List Addr} {n i : Nat} {Pv Md : Nat → Value → Heap → Prop} {Stt : Nat → Heap → Prop} {h₂ h₃ : Heap} (W : KTurns prog w A target I fp oa n Pv Md Stt) (hfp : ∀ b ∈ fp, b ∈ oa ∨ (∃ o, P.get? b = some o) ∨ ∃ o, H.get? b = some o)
    (st : Stt i h₂) (hP : Sub P h₂) (hH : Sub H h₂) (hP' : Sub P h₃) (hH' : Sub H h₃) (hoa : ∀ b ∈ oa, h₃.get? b = some ((h₂.get? b).getD freedObj)) : Stt i h₃ :=
  W.frame _ _ _ st fun b hb o e => by
    rcases hfp b hb with q | ⟨o', q⟩ | ⟨o', q⟩
    · have z := hoa b q
      rw [e] at z; exact z
    · exact some_eq (hP _ _ q) e ▸ hP' _ _ q
    · exact some_eq (hH _ _ q) e ▸ hH' _ _ q
theorem ownAt_get {oa : List Addr} {h : Heap} {b : Addr} (hb : b ∈ oa) : (b, (h.get? b).getD freedObj) ∈ ownAt oa h := List.mem_map.mpr ⟨b, hb, rfl⟩
theorem St.endOwn {oa : List Addr} {own : List (Addr × Obj)} (S : St K w g P L s m (news ++ own)) : St K w g P L s m news :=
  S.less (fun _ h => List.mem_append_left _ h) (by have := S.nd; rw [List.map_append] at this; exact (List.nodup_append.mp this).1)

/-- the turn's end of a for -/
inductive LoopEnd (K : Params → Frag) (w : World) (g : Gh) (L : Addr) (P : Heap) (own : List (Addr × Obj)) (Jn : (Str → Option Value) → List (Addr × Obj) → Heap → Prop) (s : Shared) : Prop
  | mk {P₂ : Heap} {m₂ : Str → Option Value} {news₂ : List (Addr × Obj)} (sub : Sub P P₂) (st : St K w g P₂ L s m₂ (news₂ ++ own)) (j : Jn m₂ news₂ P₂) : LoopEnd K w g L P own Jn s
/-- a for under way -/
inductive LoopI (K : Params → Frag) (w : World) (g : Gh) (L : Addr) (oa : List Addr) (P : Heap) (n : Nat) (Stt : Nat → Heap → Prop) (J : Nat → (Str → Option Value) → List (Addr × Obj) → Heap → Prop) (s : Shared) : Nat → Prop
  | mk {i : Nat} {P' : Heap} {m : Str → Option Value} {news own : List (Addr × Obj)} (st : Stt i s.heap) (ho : own.map (·.1) = oa) (sub : Sub P P') (S : St K w g P' L s m (news ++ own)) (j : J i m news P') (hi : i ≤ n) : LoopI K w g L oa P n Stt J s (n + 1 - i)
noncomputable def LoopAt (prog : Program) (w : World) (A : Around) (env : Env) (target : Expr) (body : List Stmt) (Q : Flow → Shared → Prop) (it : Value) (s : Shared) : Prop :=
  ∀ E, codeAny (model prog w) A (.forLoop target it body [] env) (fun r s' => match r with | .ok f => Q f s' | .error e => cameBackBy (model prog w) A env E e s') s
theorem q_for {target iter : Expr} {body : List Stmt} {Q : Flow → Shared → Prop}
    (h : wpAny (model prog w) A (eval iter env) (fun x s₁ => wpAny (model prog w) A (pyIter x) (fun it s₂ => LoopAt prog w A env target body Q it s₂) E s₁) E s)
    (hs : ∀ x, foldedSetIterable iter env x = pure x := by intro _; rfl) : wpAny (model prog w) A (exec (.For target iter body [] pos) env) Q E s :=
  wpAny_For (wpAny_mono h (fun _ _ h₁ => wpAny_mono h₁ (fun _ _ h₂ => h₂ E) fun _ _ e => e) fun _ _ e => e) hs

theorem q_loop {target : Expr} {body : List Stmt} {Q : Flow → Shared → Prop} {I : Addr} {oa : List Addr} {own : List (Addr × Obj)} {n : Nat} {Pv : Nat → Value → Heap → Prop} {Stt : Nat → Heap → Prop}
    (W : Turns prog w A target I oa n Pv Stt P g.H) (hst : Stt 0 s.heap) (S : St K w g P L s m (news ++ own)) (ho : own.map (·.1) = oa)
    (J : Nat → (Str → Option Value) → List (Addr × Obj) → Heap → Prop) (h0 : J 0 m news P)
    (turn : ∀ i v s₁ m₁ news₁ own₁ P₁, i < n → Pv i v s₁.heap → Sub P P₁ → J i m₁ news₁ P₁ → St K w g P₁ L s₁ m₁ (news₁ ++ own₁) →
      wpAny (model prog w) A (assign target env v) (fun _ s₂ => wpAny (model prog w) A (execs body env) (fun f s₃ => match f with
        | .ret v => Q (.ret v) s₃
        | .brk => Q .next s₃
        | _ => LoopEnd K w g L P₁ own₁ (J (i + 1)) s₃) NoE s₂) NoE s₁)
    (done : ∀ s' m' news' P', Sub P P' → J n m' news' P' → St K w g P' L s' m' news' → Q .next s') : LoopAt prog w A env target body Q (.ref I) s := by
  intro E
  obtain ⟨fp, Md, W, hfp, hlive⟩ := W.ex
  refine codeAny_forLoop_any (fun k s' => LoopI K w g L oa P n Stt J s' k) ?_ (n + 1) (.mk (i := 0) hst ho (.refl _) S h0 (Nat.zero_le _))
  intro k s' hI
  refine hI.casesOn ?_
  clear hI
  intro i P' m' news' own' hst' ho' hP' S' hJ hi
  by_cases hlt : i < n
  · refine W.item i _ _ _ hlt hst' fun v h₁ tk₁ hMd hk₁ => W.go i v _ _ _ hMd fun h₂ hPv hst₂ hk₂ => ?_
    have S₂ := S'.next (t := tk₁) ho' (hlive _ _ hst₂) fun b o hb e => hk₂ b o hb (hk₁ b o hb e)
    refine noE (wpAny_mono (turn i v _ m' news' _ P' hlt hPv hP' hJ S₂) (fun _ s₂ h₂' => wpAny_mono h₂' (fun f s₃ h₃ => ?_) fun _ _ e => e.elim) fun _ _ e => e)
    have fin : LoopEnd K w g L P' (ownAt oa h₂) (J (i + 1)) s₃ → ∃ m, m < n + 1 - i ∧ LoopI K w g L oa P n Stt J s₃ m := fun ⟨hP₂, S₃, hJ₂⟩ =>
      ⟨n + 1 - (i + 1), Nat.sub_lt_sub_left (Nat.lt_succ_of_lt hlt) (Nat.lt_succ_self i), .mk (keepSt W hfp hst₂ (hP'.trans S₂.keep) S₂.frame ((hP'.trans hP₂).trans S₃.keep) S₃.frame fun b hb => (S₃.led _ (List.mem_append_right _ (ownAt_get hb))).1) (ownAt_fst _ _) (hP'.trans hP₂) S₃ hJ₂ hlt⟩
    cases f with
    | ret v => exact h₃
    | brk => exact h₃
    | next => exact fin h₃
    | cont => exact fin h₃
  · obtain rfl : n = i := Nat.le_antisymm (Nat.not_lt.mp hlt) hi
    exact W.done _ _ _ hst' fun h₁ tk₁ hk₁ => wpAny_execs_nil (done _ m' news' P' hP' hJ (S'.dropOwn ho' hk₁))
end
end Mine

end PartBaseE
section PartBaseF
open PySem PySem.W PySem.Spec PySem.Calls PyProof.Rows
set_option Elab.async false
namespace Mine

/-! comprehensions -/
noncomputable def closOf (names : List (Str × NameKind)) (cv : List (Str × Addr)) : List (Str × Addr) := names.foldl (fun cs p => if p.2 == .free then (p.1, (cv.lookup p.1).getD 0) :: cs else cs) []
noncomputable def compOk (Kf : Frag) (scope : Scope) (ns : List Str) (gv : List (Str × Value)) : Bool :=
  decide (scope.kind = .function) && nsOk scope ns && glOk Kf scope gv && scope.names.all (fun x => decide (x.2 ≠ .local) || decide (scope.names.lookup x.1 = some .local))
noncomputable def freeOk (scope : Scope) (cv : List (Str × Addr)) : Bool := scope.names.all fun p => !(p.2 == .free) || (cv.lookup p.1).isSome

/-- an own cell of a comprehension, or none -/
noncomputable def cellsOc (oc : Option Str) (n : Nat) (acc : List (Str × Addr)) : List (Str × Addr) := match oc with | none => acc | some x => (x, n) :: acc
noncomputable def pushOc (oc : Option Str) (h : Heap) : Heap := match oc with | none => h | some _ => h.push { cls := .type "cell", data := .cell none }
noncomputable def ledOc (oc : Option Str) (c : Addr) (v : Option Value) : List (Addr × Obj) := match oc with | none => [] | some _ => [(c, { cls := .type "cell", data := .cell v })]

section
variable {prog : Program} {w : World} {A : Around} {E : Value → Shared → Prop} {env : Env}
variable {K : Params → Frag} {g : Gh} {P H : Heap} {L : Addr} {s : Shared} {m : Str → Option Value} {news mt : List (Addr × Obj)}
variable {ns ns₀ : List Str} {vs vs' vs'' : List (Option Value)} {gv gv₀ : List (Str × Value)} {cv cvo : List (Str × Addr)} {x : Str} {v : Value} {pos : Pos}

theorem closureFor_of {scope : Scope} (V : Ev K w env L ns gv cv) (hf : freeOk scope cv = true) : closureFor scope env = pure (closOf scope.names cv) := by
  unfold closureFor closOf
  have hmem : ∀ {n : Str} {c : Addr}, cv.lookup n = some c → env.cells.lookup n = some c := fun {n c} h => (V.kc _ (mem_of_lookup h)).2.2
  have key : ∀ (names : List (Str × NameKind)) (cs : List (Str × Addr)), (∀ p ∈ names, (!(p.2 == .free) || (cv.lookup p.1).isSome) = true) →
      (forIn names cs fun (x : Str × NameKind) cs => do
        if x.2 == .free then do let a ← cellOf env x.1; pure (ForInStep.yield ((x.1, a) :: cs)) else pure (ForInStep.yield cs) : Sem (List (Str × Addr))) =
        pure (names.foldl (fun cs p => if p.2 == .free then (p.1, (cv.lookup p.1).getD 0) :: cs else cs) cs) := by
    intro names
    induction names with
    | nil => intro cs _; rfl
    | cons p r ih =>
      intro cs h
      obtain ⟨n, k⟩ := p
      rw [List.forIn_cons, List.foldl_cons]
      have hp := h (n, k) (.head _)
      by_cases hk : (k == NameKind.free) = true
      · simp only [hk, Bool.not_true, Bool.false_or, if_true] at hp ⊢
        obtain ⟨c, hc⟩ := Option.isSome_iff_exists.mp hp
        have e : cellOf env n = pure c := by unfold cellOf; rw [hmem hc]
        rw [e, hc]
        simp only [pure_bind, Option.getD_some]
        exact ih _ fun q hq => h q (.tail _ hq)
      · simp only [hk, if_false, Bool.false_eq_true, pure_bind]
        exact ih _ fun q hq => h q (.tail _ hq)
  have := key scope.names [] (List.all_eq_true.mp hf)
  simp only [bind_pure_comp] at this ⊢
  rw [this]
  rfl

theorem lookup_relabel {scope : Scope} {env : Env} {x : Str} {k : NameKind} (h : scope.names.lookup x = some k) : (relabel scope env).names.lookup x = some (if (k == .free && env.scope.kind == .function && env.kindOf x == some .cell) then .cell else k) := by
  have key : ∀ names : List (Str × NameKind), names.lookup x = some k →
      (names.map fun (n, k) => if (k == NameKind.free && env.scope.kind == .function && env.kindOf n == some .cell) then (n, NameKind.cell) else (n, k)).lookup x = some (if (k == .free && env.scope.kind == .function && env.kindOf x == some .cell) then .cell else k) := by
    intro names
    induction names with
    | nil => intro h; cases h
    | cons p r ih =>
      intro h
      obtain ⟨n, k'⟩ := p
      rw [List.map_cons, List.lookup_cons]
      rw [List.lookup_cons] at h
      have e : (if (k' == NameKind.free && env.scope.kind == .function && env.kindOf n == some .cell) then (n, NameKind.cell) else (n, k')).1 = n := by split <;> rfl
      rw [e]
      cases hx : x == n with
      | true =>
        rw [hx] at h; cases h
        have : x = n := beq_iff_eq.mp hx
        subst this
        simp only
        split <;> rfl
      | false =>
        rw [hx] at h
        exact ih h
  exact key _ h

theorem newEnv_comp {scope : Scope} {globals : Addr} {cl : List (Str × Addr)} {qual : Str} {Q : Env → Shared → Prop}
    (h : Q { scope, locals := s.heap.objs.size, globals, cells := cellsFrom (s.heap.objs.size + 1) scope.names cl, qual, func := none, code := env.code, frame := env.frame, builtins := env.builtins }
      { s with heap := pushCells (s.heap.push { cls := .type "dict", data := .dict #[] }) scope.names }) :
    wpAny (model prog w) A (newFunctionEnv scope globals cl [] qual none .none (some env)) Q E s := by
  simp only [newFunctionEnv, Option.isSome_some, if_true]
  refine wpAny_bind (wpAny_alloc ?_)
  refine wpAny_bind (wpAny_layCells _ (fun name kind cells => by cases hkc : kind == NameKind.cell <;> simp [hkc]) _ _ _ _ ?_)
  rw [show ({ s with heap := s.heap.push { cls := .type "dict", data := .dict #[] } } : Shared).heap.objs.size = s.heap.objs.size + 1 from Heap.size_push ..]
  rw [List.forIn_nil]
  exact wpAny_bind (wpAny_pure (wpAny_pure h))

/-- append, the very object told -/
theorem q_append {D : Addr} {its : Array Value} {k : Nat} {y : Value} {news' : List (Addr × Obj)} {Q : Value → Shared → Prop} (S : St K w g P L s m news) (U : LUpd D (W.listOf its k) (W.listOf (its.push y) (k + 1)) news news') (hz : its.size ≤ 10000000)
    (h : ∀ s', St K w g P L s' m news' → Q .none s') : wpAny (model prog w) A (call (.builtin "list.append") [.ref D, y]) Q E s := by
  have ho := S.get U.mem
  refine wpAny_call_entry slot_list_append ⟨_, ho, rfl⟩ entry_list_append ?_ (args_list_append _ _)
  show wpAny _ _ (updateSeq D (·.push y) >>= fun _ => ret .none) _ _ s
  refine wpAny_bind (wpAny_updateSeq ho rfl (wpAny_pure ⟨.none, rfl, h _ (S.upd' (t := s.toks) U (Heap.SameBut.update ..) ?_)⟩) (by rw [sizeLine_eq]; lia) (by show (its.push y).size ≤ _; rw [Array.size_push, sizeLine_eq]; lia))
  rw [Heap.get?_update_self _ ho (by rfl)]
  show some (Obj.mapSeq (·.push y) (W.listOf its k)) = _
  unfold Obj.mapSeq W.listOf
  simp

/-- the turn's end of a comprehension -/
inductive CompEnd (K : Params → Frag) (w : World) (g : Gh) (C : Addr) (P : Heap) (ns : List Str) (led : Option Value → Nat → List (Addr × Obj)) (Jz : Heap → Prop) (s : Shared) : Prop
  | mk {P₂ : Heap} {vs : List (Option Value)} {k : Nat} {v : Option Value} (len : vs.length = ns.length) (sub : Sub P P₂) (st : St K w g P₂ C s (vec ns vs) (led v k)) (j : Jz P₂) : CompEnd K w g C P ns led Jz s

noncomputable abbrev ifsOf (ifs : List Expr) (env : Env) : Sem Bool := forIn ifs true fun c r => if r = true then do let ok ← isTrue c env (eval c env); pure (ForInStep.yield ok) else pure (ForInStep.yield r)

theorem compLoop_gen {elt target iter : Expr} {ifs : List Expr} {scope : Scope} {it acc : Value} {env : Env} {R : Result → Shared → Prop} (I : Nat → Shared → Prop)
    (turn : ∀ n s, I n s → wpAny (model prog w) A (pyNext it) (fun r s₁ => match r with
      | none => R (.ok .next) s₁
      | some v => wpAny (model prog w) A (letOwnedTupleGo target it v) (fun _ s₀ => wpAny (model prog w) A (assign target env v) (fun _ s₂ =>
          wpAny (model prog w) A (ifsOf ifs env) (fun ok s₃ => if ok = true then wpAny (model prog w) A (eval elt env) (fun x s₄ =>
            wpAny (model prog w) A (call (.builtin "list.append") [acc, x]) (fun _ s₅ => ∃ m, m < n ∧ I m s₅) NoE s₄) NoE s₃
            else ∃ m, m < n ∧ I m s₃) NoE s₂) NoE s₀) NoE s₁) NoE s)
    (n : Nat) (h : I n s) : codeAny (model prog w) A (.compLoop (.ListComp elt [⟨target, iter, ifs, 0⟩] scope pos) 0 it acc env) R s := by
  refine codeAny_loop rfl I (fun n s hI => ?_) n h
  show wpAny _ A ((compTurn (.ListComp elt [⟨target, iter, ifs, 0⟩] scope pos) 0 it acc env).onRaise (fun x => do noteFrame x env; theTreesLotGoes x)) _ _ s
  refine wpAny_noted ?_
  rw [compTurn_list]
  refine wpAny_bind (wpAny_standAt (wpAny_bind (wpAny_mono (turn n s hI) (fun r s₁ h₁ => ?_) fun _ _ h' => h'.elim)))
  cases r with
  | none => exact wpAny_pure h₁
  | some v =>
    refine wpAny_bind (wpAny_mono h₁ (fun _ s₀ h₀' => ?_) fun _ _ h' => h'.elim)
    refine wpAny_bind (wpAny_mono h₀' (fun _ s₂ h₂ => ?_) fun _ _ h' => h'.elim)
    refine wpAny_bind (wpAny_mono h₂ (fun okb s₃ h₃ => ?_) fun _ _ h' => h'.elim)
    cases okb with
    | false => exact wpAny_pure ⟨rfl, h₃⟩
    | true => exact wpAny_bind (wpAny_bind (wpAny_mono h₃ (fun x s₄ h₄ => wpAny_bind (wpAny_mono h₄ (fun _ s₅ h₅ => wpAny_pure (wpAny_pure ⟨rfl, h₅⟩)) fun _ _ h' => h'.elim)) fun _ _ h' => h'.elim))
end
end Mine

end PartBaseF
section PartBaseG
open PySem PySem.W PySem.Spec PySem.Calls PyProof.Rows
set_option Elab.async false
namespace Mine
noncomputable def cvOc (oc : Option Str) (c : Addr) (cv : List (Str × Addr)) : List (Str × Addr) := match oc with | none => cv | some x => (x, c) :: cv
noncomputable def offOa (h : Heap) (oa : List Addr) : Heap := keepIf h fun a => decide (a ∉ oa)
theorem offOa_get {h : Heap} {oa : List Addr} {a : Addr} {o : Obj} (e : h.get? a = some o) (n : a ∉ oa) : (offOa h oa).get? a = some o := by
  unfold offOa; rw [get_keepIf, if_pos (by simpa using n)]; exact e
theorem offOa_sub (h : Heap) (oa : List Addr) : Sub (offOa h oa) h := keepIf_sub
theorem offOa_none {h : Heap} {oa : List Addr} {a : Addr} (n : a ∈ oa) : (offOa h oa).get? a = none := by
  unfold offOa; rw [get_keepIf, if_neg (by simpa using n)]

section
variable {prog : Program} {w : World} {A : Around} {E : Value → Shared → Prop} {env : Env}
variable {K : Params → Frag} {g : Gh} {P H : Heap} {L : Addr} {s : Shared} {m : Str → Option Value} {news mt : List (Addr × Obj)}
variable {ns ns₀ : List Str} {vs vs' vs'' : List (Option Value)} {gv gv₀ : List (Str × Value)} {cv cvo : List (Str × Addr)} {x : Str} {v : Value} {pos : Pos}

noncomputable abbrev cEnv (scope : Scope) (env : Env) (C : Addr) (cells : List (Str × Addr)) (q : Str) : Env := { scope := relabel scope env, locals := C, globals := env.globals, cells := cells, qual := q, func := none, code := env.code, frame := env.frame, builtins := env.builtins }
theorem Ev.comp {oc : Option Str} {scope : Scope} {cl : List (Str × Addr)} {C c : Addr} {q : Str} (V : Ev K w env L ns₀ gv₀ cvo) (hk : compOk (K w.params) scope ns gv = true)
    (hoc : ∀ x, oc = some x → scope.names.lookup x = some .cell ∧ (x == ("__debug__" : Str)) = false)
    (hcv : ∀ p ∈ cv, scope.names.lookup p.1 = some .free ∧ (p.1 == ("__debug__" : Str)) = false ∧ cl.lookup p.1 = some p.2 ∧ p.1 ∈ cvo.map (·.1) ∧ oc ≠ some p.1) :
    Ev K w (cEnv scope env C (cellsOc oc c cl) q) C ns gv (cvOc oc c cv) := by
  simp only [compOk, Bool.and_eq_true, decide_eq_true_eq] at hk
  obtain ⟨⟨⟨hfn, hn⟩, hg⟩, hl⟩ := hk
  simp only [nsOk, Bool.and_eq_true, List.all_eq_true, decide_eq_true_eq, Bool.not_eq_true'] at hn
  refine { fn := hfn, loc := rfl, gl := V.gl, bt := V.bt, nd := hn.2, kl := fun x hx => ⟨?_, (hn.1 x hx).2⟩, kg := fun p hp => ?_, kc := ?_ }
  · exact lookup_relabel (hn.1 x hx).1
  · have q := List.all_eq_true.mp hg p hp
    simp only [Bool.and_eq_true, Bool.or_eq_true, decide_eq_true_eq, Bool.not_eq_true'] at q
    refine ⟨lookup_relabel q.1.1, q.1.2, ?_⟩
    rcases q.2 with h | h
    · exact .inl h
    · exact .inr ⟨h.1.1, h.1.2, h.2⟩
  · have base : ∀ p ∈ cv, Env.kindOf (cEnv scope env C (cellsOc oc c cl) q) p.1 = some .cell ∧ (p.1 == ("__debug__" : Str)) = false ∧ (cellsOc oc c cl).lookup p.1 = some p.2 := fun p hp => by
      obtain ⟨a, b, d, e, f⟩ := hcv p hp
      refine ⟨?_, b, ?_⟩
      · obtain ⟨q', hq, e'⟩ := List.mem_map.mp e
        have kk := (V.kc q' hq).1
        rw [e'] at kk
        show (relabel scope env).names.lookup p.1 = some .cell
        rw [lookup_relabel a, V.fn, kk]; rfl
      · cases oc with
        | none => exact d
        | some x =>
          show ((x, c) :: cl).lookup p.1 = some p.2
          rw [List.lookup_cons, beq_false_of_ne (fun q => f (by rw [q]))]; exact d
    cases oc with
    | none => exact base
    | some x =>
      intro p hp
      rcases List.mem_cons.mp hp with rfl | hp
      · refine ⟨lookup_relabel (hoc x rfl).1, (hoc x rfl).2, ?_⟩
        show ((x, c) :: cl).lookup x = some c
        rw [List.lookup_cons]; simp
      · exact base p hp

/-- the ledger of a comprehension begun -/
theorem comp_start {oa : List Addr} {own led : List (Addr × Obj)} {h3 : Heap} {D : Nat} (S : St K w g P L s m (news ++ own)) (ho : own.map (·.1) = oa) (hD : s.heap.objs.size = D) (kk : Sub s.heap h3) (hN : h3.Ns (D + 1) fun _ => none)
    (hled : ∀ p ∈ led, h3.get? p.1 = some p.2 ∧ D ≤ p.1 ∧ p.1 ≠ D + 1) (nd : (led.map (·.1)).Nodup) :
    St K w ⟨s, offOa s.heap oa, P⟩ P (D + 1) { s with heap := h3 } (vec ns (ns.map fun _ => none)) (led ++ own) := by
  have fresh : ∀ a, D ≤ a → s.heap.get? a = none := fun a ha => none_at (hD ▸ ha)
  have lt : ∀ p ∈ own, p.1 < D := fun p hp => hD ▸ Heap.lt_size (S.led p (List.mem_append_right _ hp)).1
  have f1 := fresh _ (Nat.le_succ D)
  refine { low := fun a o e => Nat.lt_succ_of_lt (hD ▸ Heap.lt_size (S.keep _ _ (S.cx.kin _ _ e))), cx := S.cx, sib := Sib.mk' s _ s.toks, frame := (offOa_sub _ _).trans kk, base := .refl _, keep := S.keep.trans kk, old := fun _ _ _ => rfl, offH := none_of_sub (offOa_sub _ _) f1, offP := none_of_sub S.keep f1, ns := ?_, led := fun p hp => ?_, nd := ?_ }
  · have e : (fun _ => none : Str → Option Value) = vec ns (ns.map fun _ => none) := by funext y; exact (vec_none y ns).symm
    rw [← e]; exact hN
  · rcases List.mem_append.mp hp with hp | hp
    · obtain ⟨a, b, d⟩ := hled p hp
      exact ⟨a, d, none_of_sub (offOa_sub _ _) (fresh _ b), none_of_sub S.keep (fresh _ b)⟩
    · have z := S.led p (List.mem_append_right _ hp)
      exact ⟨kk _ _ z.1, Nat.ne_of_lt (Nat.lt_succ_of_lt (lt p hp)), offOa_none (ho ▸ List.mem_map_of_mem hp), z.2.2.2⟩
  · have ndo : (own.map (·.1)).Nodup := by have := S.nd; rw [List.map_append] at this; exact (List.nodup_append.mp this).2.1
    rw [List.map_append]
    refine List.nodup_append.mpr ⟨nd, ndo, fun a ha b hb e => ?_⟩
    obtain ⟨p, hp, rfl⟩ := List.mem_map.mp ha
    obtain ⟨q, hq, rfl⟩ := List.mem_map.mp hb
    exact absurd (lt q hq) (Nat.not_lt.mpr (e ▸ (hled p hp).2.1))
/-- a comprehension under way -/
inductive CompI (K : Params → Frag) (w : World) (g : Gh) (oc : Option Str) (ns : List Str) (D : Nat) (oa : List Addr) (P : Heap) (n : Nat) (Stt : Nat → Heap → Prop) (J : Nat → List Value → Heap → Prop) (s : Shared) : Nat → Prop
  | mk {i : Nat} {P' : Heap} {ys : List Value} {k : Nat} {vs : List (Option Value)} {u : Option Value} {own : List (Addr × Obj)} (st : Stt i s.heap) (ho : own.map (·.1) = oa) (sub : Sub P P') (hv : vs.length = ns.length)
    (S : St K w g P' (D + 1) s (vec ns vs) ((D, W.listOf ys.toArray k) :: (ledOc oc (D + 2) u ++ own))) (j : J i ys P') (hy : ys.length ≤ i) (hi : i ≤ n) : CompI K w g oc ns D oa P n Stt J s (n + 1 - i)
/-- a comprehension's end -/
theorem comp_end {oc : Option Str} {oa : List Addr} {own : List (Addr × Obj)} {D k : Nat} {ys : List Value} {u : Option Value} {s₁ : Shared} {P' : Heap} {m₁ : Str → Option Value} {F : Shared → Prop}
    (S : St K w g P L s m (news ++ own)) (ho : own.map (·.1) = oa) (hD : s.heap.objs.size = D) (hP' : Sub P P') (S₁ : St K w ⟨s, offOa s.heap oa, P⟩ P' (D + 1) s₁ m₁ ((D, W.listOf ys.toArray k) :: ledOc oc (D + 2) u))
    (fin : ∀ s' P₂ oC, s.heap.get? D = none → s.heap.get? (D + 1) = none → Sub P P₂ → Sub (offOa s.heap oa) s'.heap → Sub P' P₂ → P₂.get? D = some (W.listOf ys.toArray k) → St K w g P₂ L s' m ((D + 1, oC) :: news) → (∃ m', s'.heap.Ns (D + 1) m') → F s') : F s₁ := by
  obtain ⟨P₂, hP₂, hin₂, -, S₂⟩ := S₁.seal (news' := []) (fun _ h => nomatch h) .nil
  have hDP := hin₂ _ (.head _) (fun h => nomatch h)
  have Hoff : ∀ a o, g.H.get? a = some o → (offOa s.heap oa).get? a = some o := fun a o e => offOa_get (S.frame a o e) fun q => no_none (S.offOwn ho q).1 e
  obtain ⟨oL, esL, epL, hL, rL⟩ := S.ns
  have hLoff := offOa_get hL fun q => (S.offOwn ho q).2.2.1 rfl
  obtain ⟨oC, esC, epC, hCo, rC⟩ := S₂.ns
  have hnews : ∀ p ∈ news, (offOa s.heap oa).get? p.1 = some p.2 := fun p hp => offOa_get (S.led p (List.mem_append_left _ hp)).1 fun q => (S.offOwn ho q).2.2.2 (List.mem_map_of_mem hp)
  have fresh : ∀ a, D ≤ a → s.heap.get? a = none := fun a ha => none_at (hD ▸ ha)
  have f1 := fresh _ (Nat.le_succ D)
  refine fin _ P₂ oC (fresh D (Nat.le_refl _)) f1 (hP'.trans hP₂) S₂.frame hP₂ hDP ?_ ⟨_, oC, esC, epC, hCo, rC⟩
  refine { low := S.low, cx := S₂.cx, sib := S.sib.trans S₂.sib, frame := fun a o e => S₂.frame a o (Hoff a o e), base := S.base.trans S₂.base, keep := S₂.keep, old := fun a o e => (S₂.old a o (Hoff a o e)).trans (S.old a o e), offH := S.offH, offP := (S₂.old L _ hLoff).trans S.offP, ns := ⟨oL, esL, epL, S₂.frame _ _ hLoff, rL⟩, led := fun p hp => ?_, nd := ?_ }
  · rcases List.mem_cons.mp hp with rfl | hp
    · exact ⟨hCo, Nat.ne_of_gt (Nat.lt_succ_of_lt (hD ▸ Heap.lt_size hL)), none_of_sub S.frame f1, S₂.offP⟩
    · have z := S.led p (List.mem_append_left _ hp)
      exact ⟨S₂.frame _ _ (hnews p hp), z.2.1, z.2.2.1, (S₂.old _ _ (hnews p hp)).trans z.2.2.2⟩
  · rw [List.map_cons]
    have nd := S.nd
    rw [List.map_append] at nd
    refine List.nodup_cons.mpr ⟨fun q => ?_, (List.nodup_append.mp nd).1⟩
    exact (S.ledAt (by rw [List.map_append]; exact List.mem_append_left _ q)).ex.elim fun _ e => no_none f1 e

theorem comp_core {oc : Option Str} {elt target iter : Expr} {ifs : List Expr} {scope : Scope} {cpos : Pos} {cl : List (Str × Addr)} {I : Addr} {oa : List Addr} {own : List (Addr × Obj)} {n : Nat} {Pv : Nat → Value → Heap → Prop} {Stt : Nat → Heap → Prop}
    {RR : Value → Addr → Result → Shared → Prop}
    (V : Ev K w env L ns₀ gv₀ cvo) (S : St K w g P L s m (news ++ own)) (ho : own.map (·.1) = oa) (hn : n ≤ 1000000)
    (TW : Turns prog w A target I oa n Pv Stt P (offOa s.heap oa)) (hst : Stt 0 s.heap)
    (hself : ∀ (s : Shared) (Q : Value → Shared → Prop) (E : Value → Shared → Prop), Stt 0 s.heap → Q (.ref I) s → wpAny (model prog w) A (pyIter (.ref I)) Q E s)
    (hk : compOk (K w.params) scope ns gv = true) (hcs : ∀ n acc, cellsFrom n scope.names acc = cellsOc oc n acc) (hps : ∀ h, pushCells h scope.names = pushOc oc h)
    (hoc : ∀ x, oc = some x → scope.names.lookup x = some .cell ∧ (x == ("__debug__" : Str)) = false)
    (hcv : ∀ p ∈ cv, scope.names.lookup p.1 = some .free ∧ (p.1 == ("__debug__" : Str)) = false ∧ cl.lookup p.1 = some p.2 ∧ p.1 ∈ cvo.map (·.1) ∧ oc ≠ some p.1)
    (J : Nat → List Value → Heap → Prop) (h0 : J 0 [] P)
    (turn : ∀ i v s₁ ys P₁ C D c k cenv vs own₁ u, i < n → Pv i v s₁.heap → Sub P P₁ → J i ys P₁ → ys.length ≤ i → vs.length = ns.length → Ev K w cenv C ns gv (cvOc oc c cv) →
      St K w ⟨s, offOa s.heap oa, P⟩ P₁ C s₁ (vec ns vs) ((D, W.listOf ys.toArray k) :: (ledOc oc c u ++ own₁)) →
      wpAny (model prog w) A (assign target cenv v) (fun _ s₂ => wpAny (model prog w) A (ifsOf ifs cenv) (fun ok s₃ =>
        if ok = true then wpAny (model prog w) A (eval elt cenv) (fun y s₄ => CompEnd K w ⟨s, offOa s.heap oa, P⟩ C P₁ ns (fun u k => (D, W.listOf ys.toArray k) :: (ledOc oc c u ++ own₁)) (J (i + 1) (ys ++ [y])) s₄) NoE s₃
        else CompEnd K w ⟨s, offOa s.heap oa, P⟩ C P₁ ns (fun u k => (D, W.listOf ys.toArray k) :: (ledOc oc c u ++ own₁)) (J (i + 1) ys) s₃) NoE s₂) NoE s₁)
    (fin : ∀ s' P₀ P' D C ys k oC, s.heap.get? D = none → s.heap.get? C = none → Sub P P' → Sub (offOa s.heap oa) s'.heap → Sub P₀ P' → J n ys P₀ → ys.length ≤ n → P'.get? D = some (W.listOf ys.toArray k) → St K w g P' L s' m ((C, oC) :: news) → (∃ m', s'.heap.Ns C m') → RR (.ref D) C (.ok .next) s') :
    wpAny (model prog w) A (newList []) (fun acc s₃ => wpAny (model prog w) A (newFunctionEnv scope env.globals cl [] env.qual none .none (some env)) (fun cenv s₄ =>
      codeAny (model prog w) A (.compStart (.ListComp elt [⟨target, iter, ifs, 0⟩] scope cpos) 0 (.ref I) acc { cenv with scope := relabel scope env }) (RR acc cenv.locals) s₄) E s₃) E s := by
  refine wpAny_newList (newEnv_comp ?_) (Nat.zero_le _)
  simp only [hcs, hps]
  generalize hD : s.heap.objs.size = D
  generalize hh1 : s.heap.push { cls := .type "list", data := .seq ([] : List Value).toArray } = h1
  have hC : h1.objs.size = D + 1 := by rw [← hh1, Heap.size_push, hD]
  rw [hC]
  generalize hh2 : h1.push { cls := .type "dict", data := .dict #[] } = h2
  have hc : h2.objs.size = D + 2 := by rw [← hh2, Heap.size_push, hC]
  have k1 : Sub s.heap h1 := hh1 ▸ Sub.push _ _
  have k2 : Sub h1 h2 := hh2 ▸ Sub.push _ _
  have k3 : Sub h2 (pushOc oc h2) := by cases oc with | none => exact .refl _ | some x => exact Sub.push _ _
  have kk := k1.trans (k2.trans k3)
  have eD : (pushOc oc h2).get? D = some (W.listOf ([] : List Value).toArray 0) := k3 _ _ (k2 _ _ (by rw [← hh1, ← hD]; exact Heap.get?_push_size _ rfl))
  have hN : (pushOc oc h2).Ns (D + 1) fun _ => none := Heap.Ns.keeps (by rw [← hh2, ← hC]; exact Heap.Ns.new _ _) k3
  have S₀ : St K w ⟨s, offOa s.heap oa, P⟩ P (D + 1) { s with heap := pushOc oc h2 } (vec ns (ns.map fun _ => none)) ((D, W.listOf ([] : List Value).toArray 0) :: (ledOc oc (D + 2) none ++ own)) := by
    refine comp_start (led := (D, W.listOf ([] : List Value).toArray 0) :: ledOc oc (D + 2) none) S ho hD kk hN (fun p hp => ?_) ?_
    · rcases List.mem_cons.mp hp with rfl | hp
      · exact ⟨eD, Nat.le_refl _, Nat.ne_of_lt (Nat.lt_succ_self _)⟩
      · cases oc with
        | none => exact nomatch hp
        | some x =>
          rw [List.mem_singleton.mp hp]
          refine ⟨?_, Nat.le_add_right _ _, Nat.ne_of_gt (Nat.lt_succ_self _)⟩
          show (h2.push _).get? (D + 2) = _
          rw [← hc]; exact Heap.get?_push_size _ rfl
    · cases oc with
      | none => exact List.nodup_cons.mpr ⟨(fun h => nomatch h), .nil⟩
      | some x => exact List.nodup_cons.mpr ⟨fun q => absurd (List.mem_singleton.mp q) (Nat.ne_of_lt (Nat.lt_add_of_pos_right (by decide))), List.nodup_cons.mpr ⟨(fun h => nomatch h), .nil⟩⟩
  clear hN eD hc hC k1 k2 k3 hh1 hh2
  obtain ⟨fp, Md, TW, hfp, hlive⟩ := TW.ex
  have hst₀ : Stt 0 (pushOc oc h2) := TW.frame _ _ _ hst fun b _ o e => kk b o e
  have loop : codeAny (model prog w) A (.compLoop (.ListComp elt [⟨target, iter, ifs, 0⟩] scope cpos) 0 (.ref I) (.ref D) (cEnv scope env (D + 1) (cellsOc oc (D + 1 + 1) cl) env.qual)) (RR (.ref D) (D + 1)) { s with heap := pushOc oc h2 } := by
    refine compLoop_gen (fun q s' => CompI K w ⟨s, offOa s.heap oa, P⟩ oc ns D oa P n Stt J s' q) ?_ (n + 1) (.mk (i := 0) hst₀ ho (.refl _) (List.length_map _) S₀ h0 (Nat.le_refl _) (Nat.zero_le _))
    clear S₀ hst₀ h0
    intro q s' hI
    refine hI.casesOn ?_
    clear hI
    intro i P' ys k vs u own' hst' ho' hP' hvs S' hJ hyl hi
    by_cases hlt : i < n
    · refine TW.item i _ _ _ hlt hst' fun v h₁ tk₁ hMd hk₁ => TW.go i v _ _ _ hMd fun h₂ hPv hst₂ hk₂ => ?_
      have S₂ := S'.next (news := (D, W.listOf ys.toArray k) :: ledOc oc (D + 2) u) (t := tk₁) ho' (hlive _ _ hst₂) fun b o hb e => hk₂ b o hb (hk₁ b o hb e)
      have back : ∀ {s₃ : Shared} {P₂ : Heap} {vs₂ : List (Option Value)} {zs : List Value} {k₂ : Nat} {u₂ : Option Value}, vs₂.length = ns.length → Sub P' P₂ → J (i + 1) zs P₂ → zs.length ≤ i + 1 →
          St K w ⟨s, offOa s.heap oa, P⟩ P₂ (D + 1) s₃ (vec ns vs₂) ((D, W.listOf zs.toArray k₂) :: (ledOc oc (D + 2) u₂ ++ ownAt oa h₂)) → ∃ q', q' < n + 1 - i ∧ CompI K w ⟨s, offOa s.heap oa, P⟩ oc ns D oa P n Stt J s₃ q' := fun hv₂ hP₂ hJ₂ hz₂ S₃ =>
        ⟨n + 1 - (i + 1), Nat.sub_lt_sub_left (Nat.lt_succ_of_lt hlt) (Nat.lt_succ_self i), .mk (keepSt TW hfp hst₂ (hP'.trans S₂.keep) S₂.frame ((hP'.trans hP₂).trans S₃.keep) S₃.frame fun b hb => (S₃.led _ (.tail _ (List.mem_append_right _ (ownAt_get hb)))).1) (ownAt_fst _ _) (hP'.trans hP₂) hv₂ S₃ hJ₂ hz₂ hlt⟩
      refine wpAny_mono (turn i v _ ys P' (D + 1) D (D + 2) k _ vs _ u hlt hPv hP' hJ hyl hvs (V.comp hk hoc hcv) S₂) (fun _ s₂ h₂' => wpAny_mono h₂' (fun ok s₃ h₃ => ?_) fun _ _ e => e.elim) fun _ _ e => e.elim
      clear turn fin S₂ hst₂ hk₂ hPv hMd hst' S'
      cases ok with
      | false =>
        obtain ⟨hv₂, hP₂, S₃, hJ₂⟩ := h₃
        exact back hv₂ hP₂ hJ₂ (Nat.le_succ_of_le hyl) S₃
      | true =>
        refine wpAny_mono (show wpAny _ A (eval elt _) _ NoE s₃ from h₃) (fun y s₄ h₄ => ?_) fun _ _ e => e.elim
        obtain ⟨hv₂, hP₂, S₃, hJ₂⟩ := h₄
        refine q_append S₃ .here (by rw [List.size_toArray]; lia) fun s₅ S₅ => ?_
        rw [List.push_toArray] at S₅
        exact back hv₂ hP₂ hJ₂ (by rw [List.length_append]; exact Nat.succ_le_succ hyl) S₅
    · obtain rfl : n = i := Nat.le_antisymm (Nat.not_lt.mp hlt) hi
      exact TW.done _ _ _ hst' fun h₁ tk₁ hk₁ => comp_end S ho hD hP' (St.dropOwn (news := (D, W.listOf ys.toArray k) :: ledOc oc (D + 2) u) S' ho' hk₁) fun s' P₂ oC a b d e f h1 h2 h3 => fin s' P' P₂ D (D + 1) ys k oC a b d e f hJ hyl h1 h2 h3
  exact codeAny_compStart_list (by exact loop) (hself _ _ _ hst₀ loop)
end
end Mine

end PartBaseG
section PartBaseH
open PySem PySem.W PySem.Spec PySem.Calls PyProof.Rows
set_option Elab.async false
namespace Mine

noncomputable def cvChk (scope : Scope) (oc : Option Str) (cn con : List Str) : Bool :=
  decide cn.Nodup && cn.all (fun x => decide (scope.names.lookup x = some .free) && !(x == ("__debug__" : Str)) && decide (x ∈ con) && decide (oc ≠ some x)) &&
  (match oc with | none => true | some x => decide (scope.names.lookup x = some .cell) && !(x == ("__debug__" : Str)))
theorem lookup_nodup {β : Type} : ∀ {l : List (Str × β)} {p : Str × β}, (l.map (·.1)).Nodup → p ∈ l → l.lookup p.1 = some p.2
  | q :: l, p, hn, hp => by
    rw [List.map_cons] at hn
    have h1 := List.nodup_cons.mp hn
    rcases List.mem_cons.mp hp with rfl | hp
    · rw [List.lookup_cons]; simp
    · have : (p.1 == q.1) = false := beq_false_of_ne fun e => h1.1 (e ▸ List.mem_map_of_mem hp)
      rw [List.lookup_cons, this]
      exact lookup_nodup h1.2 hp

section
variable {prog : Program} {w : World} {A : Around} {E : Value → Shared → Prop} {env : Env}
variable {K : Params → Frag} {g : Gh} {P H : Heap} {L : Addr} {s : Shared} {m : Str → Option Value} {news mt : List (Addr × Obj)}
variable {ns ns₀ : List Str} {vs vs' vs'' : List (Option Value)} {gv gv₀ : List (Str × Value)} {cv cvo : List (Str × Addr)} {x : Str} {v : Value} {pos : Pos}

/-- an object of the ledger is let go, or turned -/
theorem St.but {C : Addr} {oC : Obj} {h' : Heap} (S : St K w g P L s m ((C, oC) :: news)) (hs : Heap.SameBut C s.heap h') : St K w g P L { s with heap := h' } m news := by
  have D := S.led (C, oC) (.head _)
  have nd := S.nd
  rw [List.map_cons] at nd
  refine { low := S.low, cx := S.cx, sib := S.sib.trans (Sib.mk' s h' s.toks), frame := Sub.but hs S.frame D.2.2.1, base := S.base, keep := Sub.but hs S.keep D.2.2.2, old := S.old, offH := S.offH, offP := S.offP, ns := S.ns.sameBut hs (Ne.symm D.2.1), led := fun p hp => ?_, nd := (List.nodup_cons.mp nd).2 }
  have z := S.led p (.tail _ hp)
  exact ⟨(hs.2 _ fun e => (List.nodup_cons.mp nd).1 (List.mem_map.mpr ⟨p, hp, e⟩)).trans z.1, z.2⟩

noncomputable def CompAt (prog : Program) (w : World) (A : Around) (env : Env) (elt target iter : Expr) (ifs : List Expr) (scope : Scope) (cpos : Pos) (cl : List (Str × Addr)) (use : Option (Value → Sem Unit)) (Q : Value → Shared → Prop) (it : Value) (s : Shared) : Prop :=
  ∀ E, wpAny (model prog w) A (newList []) (fun acc s₃ => wpAny (model prog w) A (newFunctionEnv scope env.globals cl [] env.qual none .none (some env)) (fun cenv s₄ =>
      codeAny (model prog w) A (.compStart (.ListComp elt [⟨target, iter, ifs, 0⟩] scope cpos) 0 it acc { cenv with scope := relabel scope env }) (compPost (model prog w) A E use Q acc cenv.locals) s₄) E s₃) E s

noncomputable def compNm (scope : Scope) : Bool := decide (scope.kind = .function) && scope.names.all (fun x => decide (x.2 ≠ .local) || decide (scope.names.lookup x.1 = some .local))
theorem compNames {scope : Scope} (hk : compNm scope = true) : ∀ x ∈ scope.names, x.2 = .local → scope.names.lookup x.1 = some .local := by
  simp only [compNm, Bool.and_eq_true, List.all_eq_true, Bool.or_eq_true, decide_eq_true_eq] at hk
  exact fun x hx hl => (hk.2 x hx).elim (fun q => absurd hl q) id

theorem q_ListComp {elt target iter : Expr} {ifs : List Expr} {scope : Scope} {cpos : Pos} {Q : Value → Shared → Prop} (V : Ev K w env L ns₀ gv₀ cvo) (hf : freeOk scope cvo = true) (hk : compNm scope = true)
    (h : wpAny (model prog w) A (eval iter env) (fun x s₁ => wpAny (model prog w) A (pyIter x) (fun it s₂ => CompAt prog w A env elt target iter ifs scope cpos (closOf scope.names cvo) none Q it s₂) E s₁) E s)
    (hs : ∀ x, foldedSetIterable iter env x = pure x := by intro _; rfl) :
    wpAny (model prog w) A (eval (.ListComp elt [⟨target, iter, ifs, 0⟩] scope cpos) env) Q E s := by
  rw [eval_ListComp]
  have hfn : scope.kind = .function := by simp only [compNm, Bool.and_eq_true, decide_eq_true_eq] at hk; exact hk.1
  exact wpAny_comprehension_free (use := none) rfl hs (closureFor_of V hf) hfn (compNames hk) (wpAny_mono h (fun _ _ h₁ => wpAny_mono h₁ (fun _ _ h₂ => h₂ E) fun _ _ e => e) fun _ _ e => e)

theorem q_AssignComp {elt target iter : Expr} {ifs : List Expr} {scope : Scope} {cpos py : Pos} {y : Str} {Q : Flow → Shared → Prop} (V : Ev K w env L ns₀ gv₀ cvo) (hy : y ∈ ns₀) (hf : freeOk scope cvo = true) (hk : compNm scope = true)
    (hl : (py.line == cpos.line) = true) (hnc : (scope.names.any fun (n, k) => n == y && (k == .local || k == .cell)) = false)
    (h : wpAny (model prog w) A (eval iter env) (fun x s₁ => wpAny (model prog w) A (pyIter x) (fun it s₂ => CompAt prog w A env elt target iter ifs scope cpos (closOf scope.names cvo) (some (assign (.Name y py) env)) (fun _ => Q .next) it s₂) E s₁) E s)
    (hs : ∀ x, foldedSetIterable iter env x = pure x := by intro _; rfl) :
    wpAny (model prog w) A (exec (.Assign [.Name y py] (.ListComp elt [⟨target, iter, ifs, 0⟩] scope cpos) pos) env) Q E s := by
  have hsw : swapsWith (.ListComp elt [⟨target, iter, ifs, 0⟩] scope cpos) (some (.Name y py)) pos.line env = pure true := by
    show pure (env.blockKind == .function && env.kindOf y == some .local && py.line == cpos.line && !(scope.names.any fun (n, k) => n == y && (k == .local || k == .cell))) = _
    rw [hnc, hl, (V.kl y hy).1]
    unfold Env.blockKind; rw [V.fn]; rfl
  rw [exec_Assign_Name_used _ _ _ _ hsw]
  have hfn : scope.kind = .function := by simp only [compNm, Bool.and_eq_true, decide_eq_true_eq] at hk; exact hk.1
  refine wpAny_bind (wpAny_standAt (wpAny_bind ?_))
  show wpAny _ A (do let _ ← comprehension (.ListComp elt [⟨target, iter, ifs, 0⟩] scope cpos) scope env _ (newList []) false (eval iter env) (some (assign (.Name y py) env))) _ _ s
  refine wpAny_bind (wpAny_mono (wpAny_comprehension_free (use := some (assign (.Name y py) env)) (Q := fun _ s' => Q .next s') rfl hs (closureFor_of V hf) hfn (compNames hk)
    (wpAny_mono h (fun _ _ h₁ => wpAny_mono h₁ (fun _ _ h₂ => h₂ E) fun _ _ e => e) fun _ _ e => e)) (fun _ s' hq => wpAny_pure (wpAny_pure hq)) fun _ _ e => e)

section
variable {oc : Option Str} {elt target iter : Expr} {ifs : List Expr} {scope : Scope} {cpos : Pos} {I : Addr} {oa : List Addr} {own : List (Addr × Obj)} {n : Nat} {Pv : Nat → Value → Heap → Prop} {Stt : Nat → Heap → Prop}

/-- one turn of a comprehension -/
noncomputable abbrev CompTurn (prog : Program) (w : World) (A : Around) (K : Params → Frag) (s : Shared) (P : Heap) (oa : List Addr) (oc : Option Str) (elt target : Expr) (ifs : List Expr) (ns : List Str) (gv : List (Str × Value)) (cv : List (Str × Addr))
    (n : Nat) (Pv : Nat → Value → Heap → Prop) (J : Nat → List Value → Heap → Prop) : Prop :=
  ∀ i v s₁ ys P₁ C D c k cenv vs own₁ u, i < n → Pv i v s₁.heap → Sub P P₁ → J i ys P₁ → ys.length ≤ i → vs.length = ns.length → Ev K w cenv C ns gv (cvOc oc c cv) →
      St K w ⟨s, offOa s.heap oa, P⟩ P₁ C s₁ (vec ns vs) ((D, W.listOf ys.toArray k) :: (ledOc oc c u ++ own₁)) →
      wpAny (model prog w) A (assign target cenv v) (fun _ s₂ => wpAny (model prog w) A (ifsOf ifs cenv) (fun ok s₃ =>
        if ok = true then wpAny (model prog w) A (eval elt cenv) (fun y s₄ => CompEnd K w ⟨s, offOa s.heap oa, P⟩ C P₁ ns (fun u k => (D, W.listOf ys.toArray k) :: (ledOc oc c u ++ own₁)) (J (i + 1) (ys ++ [y])) s₄) NoE s₃
        else CompEnd K w ⟨s, offOa s.heap oa, P⟩ C P₁ ns (fun u k => (D, W.listOf ys.toArray k) :: (ledOc oc c u ++ own₁)) (J (i + 1) ys) s₃) NoE s₂) NoE s₁

theorem cvChk_of {cl : List (Str × Addr)} (hcl : cl = cv) (hch : cvChk scope oc (cv.map (·.1)) (cvo.map (·.1)) = true) :
    (∀ x, oc = some x → scope.names.lookup x = some .cell ∧ (x == ("__debug__" : Str)) = false) ∧
    (∀ p ∈ cv, scope.names.lookup p.1 = some .free ∧ (p.1 == ("__debug__" : Str)) = false ∧ cl.lookup p.1 = some p.2 ∧ p.1 ∈ cvo.map (·.1) ∧ oc ≠ some p.1) := by
  subst hcl
  simp only [cvChk, Bool.and_eq_true, List.all_eq_true, decide_eq_true_eq, Bool.not_eq_true'] at hch
  refine ⟨fun x e => ?_, fun p hp => ?_⟩
  · subst e; have := hch.2; simp only [Bool.and_eq_true, decide_eq_true_eq, Bool.not_eq_true'] at this; exact this
  · have z := hch.1.2 p.1 (List.mem_map_of_mem hp)
    exact ⟨z.1.1.1, z.1.1.2, lookup_nodup hch.1.1 hp, z.1.2, z.2⟩

theorem q_comp {Q : Value → Shared → Prop} (V : Ev K w env L ns₀ gv₀ cvo) (S : St K w g P L s m (news ++ own)) (ho : own.map (·.1) = oa) (hn : n ≤ 1000000)
    (TW : Turns prog w A target I oa n Pv Stt P (offOa s.heap oa)) (hst : Stt 0 s.heap)
    (hself : ∀ (s : Shared) (Q : Value → Shared → Prop) (E : Value → Shared → Prop), Stt 0 s.heap → Q (.ref I) s → wpAny (model prog w) A (pyIter (.ref I)) Q E s)
    (hk : compOk (K w.params) scope ns gv = true) (hcl : closOf scope.names cvo = cv) (hch : cvChk scope oc (cv.map (·.1)) (cvo.map (·.1)) = true)
    (hcs : ∀ n acc, cellsFrom n scope.names acc = cellsOc oc n acc) (hps : ∀ h, pushCells h scope.names = pushOc oc h)
    (J : Nat → List Value → Heap → Prop) (h0 : J 0 [] P) (turn : CompTurn prog w A K s P oa oc elt target ifs ns gv cv n Pv J)
    (fin : ∀ s' P₀ P' D ys k, Sub P P' → Sub P₀ P' → J n ys P₀ → ys.length ≤ n → P'.get? D = some (W.listOf ys.toArray k) → St K w g P' L s' m news → Q (.ref D) s') :
    CompAt prog w A env elt target iter ifs scope cpos (closOf scope.names cvo) none Q (.ref I) s := by
  intro E
  obtain ⟨h1, h2⟩ := cvChk_of hcl hch
  refine comp_core (RR := fun acc C => compPost (model prog w) A E none Q acc C) V S ho hn TW hst hself hk hcs hps h1 h2 J h0 turn ?_
  rintro s' P₀ P' D C ys k oC hD hC hP - hP₀ hJ hyl hDP S' ⟨m', hN⟩
  exact ⟨m', hN, fun h' hs => fin _ P₀ P' D ys k hP hP₀ hJ hyl hDP (S'.but hs)⟩

theorem q_compU {upd : Value → List (Option Value)} {y : Str} {py : Pos} {vs₀ : List (Option Value)} {Q : Flow → Shared → Prop} (V : Ev K w env L ns₀ gv₀ cvo) (S : St K w g P L s (vec ns₀ vs₀) (news ++ own)) (ho : own.map (·.1) = oa) (hn : n ≤ 1000000)
    (TW : Turns prog w A target I oa n Pv Stt P (offOa s.heap oa)) (hst : Stt 0 s.heap)
    (hself : ∀ (s : Shared) (Q : Value → Shared → Prop) (E : Value → Shared → Prop), Stt 0 s.heap → Q (.ref I) s → wpAny (model prog w) A (pyIter (.ref I)) Q E s)
    (hk : compOk (K w.params) scope ns gv = true) (hcl : closOf scope.names cvo = cv) (hch : cvChk scope oc (cv.map (·.1)) (cvo.map (·.1)) = true)
    (hcs : ∀ n acc, cellsFrom n scope.names acc = cellsOc oc n acc) (hps : ∀ h, pushCells h scope.names = pushOc oc h)
    (J : Nat → List Value → Heap → Prop) (h0 : J 0 [] P) (turn : CompTurn prog w A K s P oa oc elt target ifs ns gv cv n Pv J)
    (hv : ∀ v, VSet ns₀ vs₀ y (some v) (upd v))
    (fin : ∀ s' P₀ P' D ys k, Sub P P' → Sub P₀ P' → J n ys P₀ → ys.length ≤ n → P'.get? D = some (W.listOf ys.toArray k) → St K w g P' L s' (vec ns₀ (upd (.ref D))) news → Q .next s') :
    CompAt prog w A env elt target iter ifs scope cpos (closOf scope.names cvo) (some (assign (.Name y py) env)) (fun _ => Q .next) (.ref I) s := by
  intro E
  obtain ⟨h1, h2⟩ := cvChk_of hcl hch
  refine comp_core (RR := fun acc C => compPost (model prog w) A E (some (assign (.Name y py) env)) (fun _ => Q .next) acc C) V S ho hn TW hst hself hk hcs hps h1 h2 J h0 turn ?_
  rintro s' P₀ P' D C ys k oC hD hC hP - hP₀ hJ hyl hDP S' ⟨m', hN⟩
  show wpAny _ A (assign (.Name y py) env (.ref D)) _ E s'
  refine wpAny_assign_Name (q_store S' V (hv _) fun s₂ S₂ => ?_)
  have hc := (S₂.led _ (.head _)).1
  have hc' := (S'.led _ (.head _)).1
  obtain ⟨o, es, ep, hO, r⟩ := hN
  rw [hO] at hc'; cases hc'
  exact ⟨m', ⟨_, es, ep, hc, r⟩, fun h' hs => fin _ P₀ P' D ys k hP hP₀ hJ hyl hDP (S₂.but hs)⟩
end
end
end Mine

end PartBaseH
section PartBaseI
open PySem PySem.W PySem.Spec PySem.Calls PyProof.Rows
set_option Elab.async false
namespace Mine
section
variable {prog : Program} {w : World} {A : Around} {E : Value → Shared → Prop} {env : Env}
variable {K : Params → Frag} {g : Gh} {P H : Heap} {L : Addr} {s : Shared} {m : Str → Option Value} {news mt : List (Addr × Obj)}
variable {ns ns₀ : List Str} {vs vs' vs'' : List (Option Value)} {gv gv₀ : List (Str × Value)} {cv cvo : List (Str × Addr)} {x : Str} {v : Value} {pos : Pos}

theorem St.back {a : Addr} {o : Obj} (S : St K w g P L s m ((a, o) :: news)) : St K w g P L s m (news ++ [(a, o)]) :=
  S.less (fun p hp => (List.mem_append.mp hp).elim (fun h => .tail _ h) fun h => by rw [List.mem_singleton.mp h]; exact .head _) (by
    have nd := S.nd
    rw [List.map_cons] at nd
    have h := List.nodup_cons.mp nd
    rw [List.map_append]
    exact List.nodup_append.mpr ⟨h.2, by simp, fun x hx y hy e => h.1 (by rw [List.map_singleton, List.mem_singleton] at hy; rw [hy] at e; exact e ▸ hx)⟩)

/-- what may be walked: its items, and what the walk leans on -/
structure IterTo (prog : Program) (w : World) (A : Around) (K : Params → Frag) (target : Expr) (x : Value) (s : Shared) (n : Nat) (Pv : Nat → Value → Heap → Prop) (need : List Addr) : Prop where
  live : ∀ b ∈ need, ∃ o, s.heap.get? b = some o
  run : ∀ {g P L m news} (_ : St K w g P L s m news) (Q E : Value → Shared → Prop), (∀ I o s' Stt, s.heap.get? I = none → Sub s.heap s'.heap → St K w g P L s' m (news ++ [(I, o)]) →
    (∀ Pa Ha : Heap, (∀ b ∈ need, (∃ o, Pa.get? b = some o) ∨ ∃ o, Ha.get? b = some o) → Turns prog w A target I [I] n Pv Stt Pa Ha) → Stt 0 s'.heap →
    (∀ (s : Shared) (Q E : Value → Shared → Prop), Stt 0 s.heap → Q (.ref I) s → wpAny (model prog w) A (pyIter (.ref I)) Q E s) → Q (.ref I) s') → wpAny (model prog w) A (pyIter x) Q E s

theorem size_none (h : Heap) : h.get? h.objs.size = none := none_at (Nat.le_refl _)

theorem turns_of {target : Expr} {I : Addr} {n : Nat} {Pv : Nat → Value → Prop} {Stt : Nat → Heap → Prop} {need : List Addr} (W : Walks prog w A I (I :: need) [I] n Pv Stt)
    (hgo : ∀ i v (s : Shared) (Q : Unit → Shared → Prop) (E : Value → Shared → Prop), Stt i s.heap → Q () s → wpAny (model prog w) A (letOwnedTupleGo target (.ref I) v) Q E s)
    (hlive : ∀ i h, Stt i h → ∃ o, h.get? I = some o) (Pa Ha : Heap) (hn : ∀ b ∈ need, (∃ o, Pa.get? b = some o) ∨ ∃ o, Ha.get? b = some o) : Turns prog w A target I [I] n (fun i v _ => Pv i v) Stt Pa Ha :=
  ⟨_, _, KTurns.ofWalks W hgo, fun b hb => (List.mem_cons.mp hb).elim (fun h => .inl (h ▸ .head _)) fun h => .inr (hn b h), fun i h st b hb => by rw [List.mem_singleton.mp hb]; exact hlive i h st⟩

theorem IterTo.list {target : Expr} {l : Addr} {items : Array Value} (hh : A.handled = none) (hl : s.heap.IsList l items) : IterTo prog w A K target (.ref l) s items.size (fun i v _ => items[i]? = some v) [l] where
  live := fun b hb => by rw [List.mem_singleton.mp hb]; obtain ⟨o, e, _⟩ := hl; exact ⟨o, e⟩
  run := fun S Q E h => by
    refine wpAny_pyIter_list hl ?_
    have hne : l ≠ s.heap.objs.size := fun e => by obtain ⟨o, q, _⟩ := hl; exact absurd (Heap.lt_size q) (e ▸ Nat.lt_irrefl _)
    have W := Walks.list (prog := prog) (w := w) hh s.heap.objs.size l hne items
    refine h s.heap.objs.size _ _ _ (size_none _) (Sub.push _ _) (S.push (t := s.toks) _).back (turns_of W (fun i v s Q E st hQ => letGo_listiter st.1 hQ) (fun i h st => let ⟨o, e, _⟩ := st.1; ⟨o, e⟩)) ?_ (fun s Q E st hQ => W.self 0 s Q E st hQ)
    exact ⟨⟨_, Heap.get?_push_size _ rfl, rfl, rfl⟩, let ⟨o, e, r⟩ := hl; ⟨o, Heap.get?_push_of_some _ e, r⟩⟩
theorem IterTo.tuple {target : Expr} {l : Addr} {items : Array Value} (hh : A.handled = none) (hl : IsTup s.heap l items) : IterTo prog w A K target (.ref l) s items.size (fun i v _ => items[i]? = some v) [l] where
  live := fun b hb => by rw [List.mem_singleton.mp hb]; obtain ⟨o, e, _⟩ := hl; exact ⟨o, e⟩
  run := fun S Q E h => by
    refine wpAny_pyIter_tuple hl ?_
    have hne : l ≠ s.heap.objs.size := fun e => by obtain ⟨o, q, _⟩ := hl; exact absurd (Heap.lt_size q) (e ▸ Nat.lt_irrefl _)
    have W := Walks.tuple (prog := prog) (w := w) hh s.heap.objs.size l hne items
    refine h s.heap.objs.size _ _ _ (size_none _) (Sub.push _ _) (S.push (t := s.toks) _).back (turns_of W (fun i v s Q E st hQ => letGo_tupleiter st.1 hQ) (fun i h st => let ⟨o, e, _⟩ := st.1; ⟨o, e⟩)) ?_ (fun s Q E st hQ => W.self 0 s Q E st hQ)
    exact ⟨⟨_, Heap.get?_push_size _ rfl, rfl, rfl⟩, let ⟨o, e, r⟩ := hl; ⟨o, Heap.get?_push_of_some _ e, r⟩⟩
theorem IterTo.range {y : Str} {py : Pos} {r : Addr} {a b : Int} {t u v : Tok} (n : Nat) (hh : A.handled = none) (hr : IsRange s.heap r a b 1 t u v) (hsmall : Builtin.Range.small a b 1 = true) (hn : Builtin.Range.rangeSize a b 1 = n) :
    IterTo prog w A K (.Name y py) (.ref r) s n (fun i v _ => ∃ t, v = .int (a + i) t) [] where
  live := fun b hb => nomatch hb
  run := fun S Q E h => by
    refine wpAny_pyIter_range hr hsmall ?_
    rw [hn]
    have W := Walks.range (prog := prog) (w := w) hh s.heap.objs.size a 1 n
    simp only [Int.mul_one] at W
    refine h s.heap.objs.size _ _ _ (size_none _) (Sub.push _ _) (S.push (t := s.toks) _).back (turns_of (target := .Name y py) (need := []) W (fun i v s Q E st hQ => wpAny_pure hQ) (fun i h st => ⟨_, st⟩)) ?_ (fun s Q E st hQ => W.self 0 s Q E st hQ)
    show IsRangeIter _ _ _ _ _
    simpa using Heap.get?_push_size s.heap (o := { cls := .type "range_iterator", data := .fields #[rawInt a, rawInt n, rawInt 1] }) rfl

theorem q_for1 {target : Expr} {body : List Stmt} {Q : Flow → Shared → Prop} {y : Value} {n : Nat} {Pv : Nat → Value → Heap → Prop} {need : List Addr} (IT : IterTo prog w A K target y s n Pv need) (S : St K w g P L s m news)
    (hneed : ∀ b ∈ need, (∃ o, P.get? b = some o) ∨ ∃ o, g.H.get? b = some o)
    (J : Nat → (Str → Option Value) → List (Addr × Obj) → Heap → Prop) (h0 : J 0 m news P)
    (turn : ∀ i v s₁ m₁ news₁ own₁ P₁, i < n → Pv i v s₁.heap → Sub P P₁ → J i m₁ news₁ P₁ → St K w g P₁ L s₁ m₁ (news₁ ++ own₁) →
      wpAny (model prog w) A (assign target env v) (fun _ s₂ => wpAny (model prog w) A (execs body env) (fun f s₃ => match f with
        | .ret v => Q (.ret v) s₃
        | .brk => Q .next s₃
        | _ => LoopEnd K w g L P₁ own₁ (J (i + 1)) s₃) NoE s₂) NoE s₁)
    (done : ∀ s' m' news' P', Sub P P' → J n m' news' P' → St K w g P' L s' m' news' → Q .next s') : wpAny (model prog w) A (pyIter y) (fun it s₂ => LoopAt prog w A env target body Q it s₂) E s :=
  IT.run S _ _ fun I o s' Stt _ _ S' T hst _ => q_loop (own := [(I, o)]) (T P g.H hneed) hst S' rfl J h0 turn done

theorem offOa_one {h h' : Heap} {I : Addr} (hI : h.get? I = none) (k : Sub h h') : Sub h (offOa h' [I]) := fun b o e => offOa_get (k b o e) fun q => no_none hI (List.mem_singleton.mp q ▸ e)

/-- one turn of a comprehension -/
noncomputable abbrev CompTurn1 (prog : Program) (w : World) (A : Around) (K : Params → Frag) (s : Shared) (P : Heap) (oc : Option Str) (elt target : Expr) (ifs : List Expr) (ns : List Str) (gv : List (Str × Value)) (cv : List (Str × Addr))
    (n : Nat) (Pv : Nat → Value → Heap → Prop) (J : Nat → List Value → Heap → Prop) : Prop :=
  ∀ g', Sub s.heap g'.H → g'.P = P → ∀ i v s₁ ys P₁ C D c k cenv vs own₁ u, i < n → Pv i v s₁.heap → Sub P P₁ → J i ys P₁ → ys.length ≤ i → vs.length = ns.length → Ev K w cenv C ns gv (cvOc oc c cv) →
      St K w g' P₁ C s₁ (vec ns vs) ((D, W.listOf ys.toArray k) :: (ledOc oc c u ++ own₁)) →
      wpAny (model prog w) A (assign target cenv v) (fun _ s₂ => wpAny (model prog w) A (ifsOf ifs cenv) (fun ok s₃ =>
        if ok = true then wpAny (model prog w) A (eval elt cenv) (fun y s₄ => CompEnd K w g' C P₁ ns (fun u k => (D, W.listOf ys.toArray k) :: (ledOc oc c u ++ own₁)) (J (i + 1) (ys ++ [y])) s₄) NoE s₃
        else CompEnd K w g' C P₁ ns (fun u k => (D, W.listOf ys.toArray k) :: (ledOc oc c u ++ own₁)) (J (i + 1) ys) s₃) NoE s₂) NoE s₁

section
variable {oc : Option Str} {elt target iter : Expr} {ifs : List Expr} {scope : Scope} {cpos : Pos} {n : Nat} {Pv : Nat → Value → Heap → Prop} {need : List Addr} {yv : Value}

theorem q_comp1 {Q : Value → Shared → Prop} (V : Ev K w env L ns₀ gv₀ cvo) (IT : IterTo prog w A K target yv s n Pv need) (S : St K w g P L s m news) (hn : n ≤ 1000000)
    (hk : compOk (K w.params) scope ns gv = true) (hcl : closOf scope.names cvo = cv) (hch : cvChk scope oc (cv.map (·.1)) (cvo.map (·.1)) = true)
    (hcs : ∀ n acc, cellsFrom n scope.names acc = cellsOc oc n acc) (hps : ∀ h, pushCells h scope.names = pushOc oc h)
    (J : Nat → List Value → Heap → Prop) (h0 : J 0 [] P) (turn : CompTurn1 prog w A K s P oc elt target ifs ns gv cv n Pv J)
    (fin : ∀ s' P₀ P' D ys k, Sub P P' → Sub P₀ P' → J n ys P₀ → ys.length ≤ n → P'.get? D = some (W.listOf ys.toArray k) → St K w g P' L s' m news → Q (.ref D) s') :
    wpAny (model prog w) A (pyIter yv) (fun it s₂ => CompAt prog w A env elt target iter ifs scope cpos (closOf scope.names cvo) none Q it s₂) E s :=
  IT.run S _ _ fun I o s' Stt hI hs S' T hst hself => q_comp (own := [(I, o)]) V S' rfl hn
    (T P _ fun b hb => .inr (let ⟨o, e⟩ := IT.live b hb; ⟨o, offOa_one hI hs _ _ e⟩)) hst hself hk hcl hch hcs hps J h0 (turn ⟨s', _, P⟩ (offOa_one hI hs) rfl) fin

theorem q_compU1 {upd : Value → List (Option Value)} {y : Str} {py : Pos} {vs₀ : List (Option Value)} {Q : Flow → Shared → Prop} (V : Ev K w env L ns₀ gv₀ cvo) (IT : IterTo prog w A K target yv s n Pv need) (S : St K w g P L s (vec ns₀ vs₀) news) (hn : n ≤ 1000000)
    (hk : compOk (K w.params) scope ns gv = true) (hcl : closOf scope.names cvo = cv) (hch : cvChk scope oc (cv.map (·.1)) (cvo.map (·.1)) = true)
    (hcs : ∀ n acc, cellsFrom n scope.names acc = cellsOc oc n acc) (hps : ∀ h, pushCells h scope.names = pushOc oc h)
    (J : Nat → List Value → Heap → Prop) (h0 : J 0 [] P) (turn : CompTurn1 prog w A K s P oc elt target ifs ns gv cv n Pv J)
    (hv : ∀ v, VSet ns₀ vs₀ y (some v) (upd v))
    (fin : ∀ s' P₀ P' D ys k, Sub P P' → Sub P₀ P' → J n ys P₀ → ys.length ≤ n → P'.get? D = some (W.listOf ys.toArray k) → St K w g P' L s' (vec ns₀ (upd (.ref D))) news → Q .next s') :
    wpAny (model prog w) A (pyIter yv) (fun it s₂ => CompAt prog w A env elt target iter ifs scope cpos (closOf scope.names cvo) (some (assign (.Name y py) env)) (fun _ => Q .next) it s₂) E s :=
  IT.run S _ _ fun I o s' Stt hI hs S' T hst hself => q_compU (own := [(I, o)]) V S' rfl hn
    (T P _ fun b hb => .inr (let ⟨o, e⟩ := IT.live b hb; ⟨o, offOa_one hI hs _ _ e⟩)) hst hself hk hcl hch hcs hps J h0 (turn ⟨s', _, P⟩ (offOa_one hI hs) rfl) hv fin
end
end
end Mine

end PartBaseI
section PartBaseJ
open PySem PySem.W PySem.Spec PySem.Calls PyProof.Rows
set_option Elab.async false
namespace Mine

/-! a bridge to the library's own frame facts: a base that is the written part alone, a ledger of all the rest -/
noncomputable def baseK (Kf : Frag) (L : Addr) (h : Heap) : Heap := ⟨(keepIf h fun a => (Kf.lookup a).isSome).objs.extract 0 L, h.life⟩
theorem baseK_get {Kf : Frag} {L : Addr} {h : Heap} {a : Addr} : (baseK Kf L h).get? a = if a < L ∧ (Kf.lookup a).isSome = true then h.get? a else none := by
  have e1 : ∀ X : Array Obj, (X.extract 0 L)[a]? = if a < L then X[a]? else none := fun X => by
    simp only [Array.getElem?_extract, Nat.sub_zero, Nat.zero_add]
    by_cases hl : a < L
    · by_cases hs : a < X.size
      · rw [if_pos (show a < min L X.size from Nat.lt_min.mpr ⟨hl, hs⟩), if_pos hl]
      · rw [if_neg (show ¬ a < min L X.size from fun q => hs (Nat.lt_min.mp q).2), if_pos hl, Array.getElem?_eq_none (Nat.not_lt.mp hs)]
    · rw [if_neg (show ¬ a < min L X.size from fun q => hl (Nat.lt_min.mp q).1), if_neg hl]
  have e : (baseK Kf L h).get? a = if a < L then (keepIf h fun a => (Kf.lookup a).isSome).get? a else none := by
    unfold baseK Heap.get?
    rw [e1]
    by_cases hl : a < L
    · rw [if_pos hl, if_pos hl]
    · rw [if_neg hl, if_neg hl]
  rw [e, get_keepIf]
  by_cases hl : a < L <;> by_cases hk : (Kf.lookup a).isSome = true <;> simp [hl, hk]
noncomputable def restOf (Kf : Frag) (L : Addr) (ex : List Addr) (h : Heap) : List (Addr × Obj) :=
  (List.range h.objs.size).filterMap fun a => match h.get? a with
    | some o => if a = L ∨ (Kf.lookup a).isSome = true ∨ a ∈ ex then none else some (a, o)
    | none => none
theorem mem_restOf {Kf : Frag} {L : Addr} {ex : List Addr} {h : Heap} {a : Addr} {o : Obj} : (a, o) ∈ restOf Kf L ex h ↔ h.get? a = some o ∧ a ≠ L ∧ ¬ (Kf.lookup a).isSome = true ∧ a ∉ ex := by
  unfold restOf
  rw [List.mem_filterMap]
  constructor
  · rintro ⟨b, hb, e⟩
    split at e
    · rename_i o' ho
      split at e
      · cases e
      · rename_i hc
        cases e
        exact ⟨ho, fun q => hc (.inl q), fun q => hc (.inr (.inl q)), fun q => hc (.inr (.inr q))⟩
    · cases e
  · rintro ⟨ho, h1, h2, h3⟩
    refine ⟨a, List.mem_range.mpr (Heap.lt_size ho), ?_⟩
    rw [ho]
    simp only
    rw [if_neg]
    rintro (q | q | q)
    · exact h1 q
    · exact h2 q
    · exact h3 q

section
variable {prog : Program} {w : World} {A : Around} {E : Value → Shared → Prop} {env : Env}
variable {K : Params → Frag} {g : Gh} {P H : Heap} {L : Addr} {s : Shared} {m m' : Str → Option Value} {news news' mt ch ch' new : List (Addr × Obj)}

/-- the general move: all stays but the locals and some of the ledger -/
theorem St.move {ex : List Addr} {h' : Heap} {t : Nat} (S : St K w g P L s m news) (hns : h'.Ns L m') (hk : ∀ b o, b ≠ L → b ∉ ex → s.heap.get? b = some o → h'.get? b = some o)
    (hex : ∀ b ∈ ex, b ∈ news.map (·.1)) (hl : ∀ p ∈ news', h'.get? p.1 = some p.2 ∧ (p.1 ∈ news.map (·.1) ∨ s.heap.get? p.1 = none)) (hn : (news'.map (·.1)).Nodup) :
    St K w g P L { s with heap := h', toks := t } m' news' := by
  have sub : ∀ {h : Heap}, Sub h s.heap → h.get? L = none → (∀ b ∈ ex, h.get? b = none) → Sub h h' := fun {h} k n1 n2 b o e =>
    hk b o (fun q => no_none n1 (q ▸ e)) (fun q => no_none (n2 b q) e) (k b o e)
  refine { cx := S.cx, sib := S.sib.trans (Sib.mk' s h' t), frame := sub S.frame S.offH fun b hb => (S.ledAt (hex b hb)).offH, base := S.base, keep := sub S.keep S.offP fun b hb => (S.ledAt (hex b hb)).offP, old := S.old, offH := S.offH, offP := S.offP, low := S.low, ns := hns, led := fun p hp => ?_, nd := hn }
  obtain ⟨e, q | q⟩ := hl p hp
  · have z := S.ledAt q
    exact ⟨e, z.ne, z.offH, z.offP⟩
  · refine ⟨e, fun r => ?_, none_of_sub S.frame q, none_of_sub S.keep q⟩
    obtain ⟨o, _, _, ho, _⟩ := S.ns
    exact no_none q (r ▸ ho)

theorem St.lowK (S : St K w g P L s m news) {a : Addr} (h : ((K w.params).lookup a).isSome = true) : a < L := by
  obtain ⟨o, e⟩ := Option.isSome_iff_exists.mp h
  exact S.low a o e

theorem St.opened (S : St K w g P L s m news) (hch : ∀ p ∈ ch, p ∈ news) : Fr (baseK (K w.params) L s.heap) L s.heap m ∧ News (baseK (K w.params) L s.heap) L s.heap (ch ++ restOf (K w.params) L (ch.map (·.1)) s.heap) ∧ (K w.params).In (baseK (K w.params) L s.heap) := by
  have hK : ∀ p ∈ news, ¬ ((K w.params).lookup p.1).isSome = true := fun p hp q => by
    exact (Option.isSome_iff_exists.mp q).elim fun o e => no_none (S.led p hp).2.2.2 (S.cx.kin _ _ e)
  refine ⟨⟨S.ns, fun b o e => ?_, ?_⟩, fun p hp => ?_, fun a o e => ?_⟩
  · rw [baseK_get] at e
    split at e
    · exact e
    · cases e
  · show (Array.extract _ 0 L).size ≤ L
    rw [Array.size_extract]; lia
  · rcases List.mem_append.mp hp with q | q
    · have z := S.led p (hch p q)
      exact ⟨z.1, z.2.1, by rw [baseK_get, if_neg fun r => hK p (hch p q) r.2]⟩
    · have z := mem_restOf.mp q
      exact ⟨z.1, z.2.1, by rw [baseK_get, if_neg fun r => z.2.2.1 r.2]⟩
  · rw [baseK_get, if_pos ⟨S.low a o e, by rw [e]; rfl⟩]
    exact S.kin a o e

theorem St.closed {h' : Heap} {t : Nat} (S : St K w g P L s m (ch ++ news)) (F : Fr (baseK (K w.params) L s.heap) L h' m') (N : News (baseK (K w.params) L s.heap) L h' (new ++ (ch' ++ restOf (K w.params) L (ch.map (·.1)) s.heap)))
    (hc : ch'.map (·.1) = ch.map (·.1)) (hf : ∀ p ∈ new, s.heap.get? p.1 = none) (hn : (new.map (·.1)).Nodup) : St K w g P L { s with heap := h', toks := t } m' (new ++ (ch' ++ news)) := by
  refine S.move (ex := ch.map (·.1)) F.ns (fun b o h1 h2 e => ?_) (fun b hb => by rw [List.map_append]; exact List.mem_append_left _ hb) (fun p hp => ?_) ?_
  · by_cases hk : ((K w.params).lookup b).isSome = true
    · refine F.keep b o ?_
      rw [baseK_get, if_pos ⟨S.lowK hk, hk⟩]; exact e
    · exact (N (b, o) (List.mem_append_right _ (List.mem_append_right _ (mem_restOf.mpr ⟨e, h1, hk, h2⟩)))).1
  · rcases List.mem_append.mp hp with q | q
    · exact ⟨(N p (List.mem_append_left _ q)).1, .inr (hf p q)⟩
    · rcases List.mem_append.mp q with q | q
      · refine ⟨(N p (List.mem_append_right _ (List.mem_append_left _ q))).1, .inl ?_⟩
        rw [List.map_append, ← hc]; exact List.mem_append_left _ (List.mem_map_of_mem q)
      · have z := S.led p (List.mem_append_right _ q)
        refine ⟨?_, .inl (List.mem_map_of_mem (List.mem_append_right _ q))⟩
        have nd := S.nd
        rw [List.map_append] at nd
        have h2 : p.1 ∉ ch.map (·.1) := fun r => (List.nodup_append.mp nd).2.2 _ r _ (List.mem_map_of_mem q) rfl
        have hk : ¬ ((K w.params).lookup p.1).isSome = true := fun r => by
          exact (Option.isSome_iff_exists.mp r).elim fun o e => no_none z.2.2.2 (S.cx.kin _ _ e)
        exact (N p (List.mem_append_right _ (List.mem_append_right _ (mem_restOf.mpr ⟨z.1, z.2.1, hk, h2⟩)))).1
  · have nd := S.nd
    rw [List.map_append, List.map_append, hc, ← List.map_append]
    refine List.nodup_append.mpr ⟨hn, nd, fun a ha b hb e => ?_⟩
    obtain ⟨p, hp, rfl⟩ := List.mem_map.mp ha
    obtain ⟨q, hq, rfl⟩ := List.mem_map.mp hb
    exact no_none (hf p hp) (e ▸ (S.led q hq).1)

/-- what the bridge's ledger lies below is new -/
theorem St.isNew {a : Addr} (S : St K w g P L s m news) (hch : ∀ p ∈ ch, p ∈ news) (h1 : ∀ p ∈ ch ++ restOf (K w.params) L (ch.map (·.1)) s.heap, p.1 ≠ a) (h2 : a ≠ L) (h3 : (baseK (K w.params) L s.heap).get? a = none) : s.heap.get? a = none := by
  cases q : s.heap.get? a with
  | none => rfl
  | some o =>
    by_cases hk : ((K w.params).lookup a).isSome = true
    · rw [baseK_get, if_pos ⟨S.lowK hk, hk⟩] at h3; exact no_none h3 q
    · by_cases hx : a ∈ ch.map (·.1)
      · obtain ⟨p, hp, e⟩ := List.mem_map.mp hx
        exact absurd e (h1 p (List.mem_append_left _ hp))
      · exact absurd rfl (h1 (a, o) (List.mem_append_right _ (mem_restOf.mpr ⟨q, h2, hk, hx⟩)))

theorem LUpd.perm {a : Addr} {o o' : Obj} (U : LUpd a o o' news news') : ∃ r, (∀ p, p ∈ news ↔ p ∈ (a, o) :: r) ∧ (∀ p, p ∈ news' ↔ p ∈ (a, o') :: r) ∧ (news.map (·.1)).Perm (a :: r.map (·.1)) ∧ (news'.map (·.1)).Perm (a :: r.map (·.1)) := by
  obtain ⟨pre, post, rfl, rfl⟩ := U.split
  refine ⟨pre ++ post, fun p => ?_, fun p => ?_, ?_, ?_⟩
  · simp only [List.mem_append, List.mem_cons]; exact ⟨fun h => by rcases h with h | h | h <;> simp [h], fun h => by rcases h with h | h | h <;> simp [h]⟩
  · simp only [List.mem_append, List.mem_cons]; exact ⟨fun h => by rcases h with h | h | h <;> simp [h], fun h => by rcases h with h | h | h <;> simp [h]⟩
  · rw [List.map_append, List.map_cons, List.map_append]; exact List.perm_middle
  · rw [List.map_append, List.map_cons, List.map_append]; exact List.perm_middle
theorem St.toHead {a : Addr} {o o' : Obj} (S : St K w g P L s m news) (U : LUpd a o o' news news') : ∃ r, St K w g P L s m ([(a, o)] ++ r) ∧ ∀ {s' m'}, St K w g P L s' m' ([(a, o')] ++ r) → St K w g P L s' m' news' := by
  obtain ⟨r, h1, h2, h3, h4⟩ := U.perm
  refine ⟨r, S.less (fun p hp => (h1 p).mpr hp) ?_, fun S' => S'.less (fun p hp => (h2 p).mp hp) ?_⟩
  · exact h3.nodup_iff.mp S.nd
  · have := S'.nd
    exact h4.nodup_iff.mpr this

structure Lib0D (K : Params → Frag) (w : World) (g : Gh) (P : Heap) (L : Addr) (s : Shared) (m : Str → Option Value) (news : List (Addr × Obj)) (B : Heap) (rest : List (Addr × Obj)) : Prop where
  F : Fr B L s.heap m
  N : News B L s.heap rest
  X : (K w.params).In B
  c0 : ∀ h' t m', Fr B L h' m' → News B L h' rest → St K w g P L { s with heap := h', toks := t } m' news
  c1 : ∀ h' t m' D o, Fr B L h' m' → News B L h' ((D, o) :: rest) → (∀ q ∈ rest, q.1 ≠ D) → St K w g P L { s with heap := h', toks := t } m' ((D, o) :: news)
  c2 : ∀ h' t m' D o D₂ o₂, Fr B L h' m' → News B L h' ((D, o) :: (D₂, o₂) :: rest) → (∀ q ∈ rest, q.1 ≠ D) → (∀ q ∈ rest, q.1 ≠ D₂) → D ≠ D₂ → St K w g P L { s with heap := h', toks := t } m' ((D, o) :: (D₂, o₂) :: news)
inductive Lib0 (K : Params → Frag) (w : World) (g : Gh) (P : Heap) (L : Addr) (s : Shared) (m : Str → Option Value) (news : List (Addr × Obj)) : Prop
  | mk (B rest) : Lib0D K w g P L s m news B rest → Lib0 K w g P L s m news
structure Lib1D (K : Params → Frag) (w : World) (g : Gh) (P : Heap) (L : Addr) (s : Shared) (m : Str → Option Value) (news : List (Addr × Obj)) (a : Addr) (o : Obj) (B : Heap) (rest : List (Addr × Obj)) : Prop where
  F : Fr B L s.heap m
  N : News B L s.heap ((a, o) :: rest)
  hr : ∀ q ∈ rest, q.1 ≠ a
  X : (K w.params).In B
  c : ∀ h' t m' o' news', Fr B L h' m' → News B L h' ((a, o') :: rest) → LUpd a o o' news news' → St K w g P L { s with heap := h', toks := t } m' news'
inductive Lib1 (K : Params → Frag) (w : World) (g : Gh) (P : Heap) (L : Addr) (s : Shared) (m : Str → Option Value) (news : List (Addr × Obj)) (a : Addr) (o : Obj) : Prop
  | mk (B rest) : Lib1D K w g P L s m news a o B rest → Lib1 K w g P L s m news a o
theorem St.lib0 (S : St K w g P L s m news) : Lib0 K w g P L s m news := by
  obtain ⟨F, N, X⟩ := S.opened (ch := []) (fun _ h => nomatch h)
  have nw : ∀ {h' m' l} {D : Addr} {o : Obj}, (D, o) ∈ l → News (baseK (K w.params) L s.heap) L h' l → Fr (baseK (K w.params) L s.heap) L h' m' → (∀ q ∈ restOf (K w.params) L [] s.heap, q.1 ≠ D) → s.heap.get? D = none := fun hm N' _ hD =>
    S.isNew (ch := []) (fun _ h => nomatch h) hD (N' _ hm).2.1 (N' _ hm).2.2
  exact ⟨_, _, F, N, X, fun h' t m' F' N' => S.closed (ch := []) (ch' := []) (new := []) F' N' rfl (fun _ h => nomatch h) .nil,
    fun h' t m' D o F' N' hD => S.closed (ch := []) (ch' := []) (new := [(D, o)]) F' N' rfl (List.forall_mem_singleton.mpr (nw (.head _) N' F' hD)) (List.nodup_cons.mpr ⟨(fun h => nomatch h), .nil⟩),
    fun h' t m' D o D₂ o₂ F' N' hD hD₂ hne => S.closed (ch := []) (ch' := []) (new := [(D, o), (D₂, o₂)]) F' N' rfl (List.forall_mem_cons.mpr ⟨nw (.head _) N' F' hD, List.forall_mem_singleton.mpr (nw (.tail _ (.head _)) N' F' hD₂)⟩)
      (List.nodup_cons.mpr ⟨fun h => hne (List.mem_singleton.mp h), List.nodup_cons.mpr ⟨(fun h => nomatch h), .nil⟩⟩)⟩
theorem St.lib1 {a : Addr} {o : Obj} (S : St K w g P L s m news) (hm : (a, o) ∈ news) : Lib1 K w g P L s m news a o := by
  obtain ⟨F, N, X⟩ := S.opened (ch := [(a, o)]) (fun p h => by rw [List.mem_singleton.mp h]; exact hm)
  refine ⟨_, _, F, N, fun q hq e => (mem_restOf.mp (show (q.1, q.2) ∈ _ from hq)).2.2.2 (by rw [e]; exact .head _), X, fun h' t m' o' news' F' N' U => ?_⟩
  obtain ⟨r, S₁, back⟩ := S.toHead U
  exact back (S₁.closed (new := []) (ch' := [(a, o')]) F' N' rfl (fun _ h => nomatch h) .nil)
end
end Mine

end PartBaseJ
section PartBaseL
open PySem PySem.W PySem.Spec PySem.Calls PyProof.Rows
set_option Elab.async false
namespace Mine
section
variable {prog : Program} {w : World} {A : Around} {E : Value → Shared → Prop} {env : Env}
variable {K : Params → Frag} {g : Gh} {P H : Heap} {L : Addr} {s : Shared} {m m' : Str → Option Value} {news news' mt ch ch' new : List (Addr × Obj)}
variable {ns ns₀ : List Str} {vs vs' vs'' : List (Option Value)} {gv gv₀ : List (Str × Value)} {cv cvo : List (Str × Addr)} {x : Str} {v : Value} {pos : Pos}

theorem St.newAt {D : Addr} {o : Obj} {h' : Heap} {t : Nat} (S : St K w g P L s m news) (hD : s.heap.get? D = none) (k : Sub s.heap h') (e : h'.get? D = some o) : St K w g P L { s with heap := h', toks := t } m ((D, o) :: news) :=
  S.move (ex := []) (S.ns.keeps k) (fun b o _ _ e => k _ _ e) (fun _ h => nomatch h) (fun p hp => by
    rcases List.mem_cons.mp hp with rfl | hp
    · exact ⟨e, .inr hD⟩
    · exact ⟨k _ _ (S.led p hp).1, .inl (List.mem_map_of_mem hp)⟩) (by
    rw [List.map_cons]
    refine List.nodup_cons.mpr ⟨fun q => ?_, S.nd⟩
    exact (S.ledAt q).ex.elim fun _ e => no_none hD e)
theorem q_callWith {f : Value} {e : Expr} {rest : List Expr} {first : List Value} {Q : Value → Shared → Prop} (S : St K w g P L s m news) (hk : keepIn (K w.params) f = true)
    (h : wpAny (model prog w) A (spliced (backTo pos (starEach (e :: rest) env))) (fun vs s₁ => (K w.params).In s₁.heap ∧ wpAny (model prog w) A (call f (first ++ vs)) Q E s₁) E s)
    (he : starEach (e :: rest) env = (false, eval e env) :: starEach rest env := by rfl) (hplain : (backTo pos (starEach rest env)).any (·.1) = false := by rfl) :
    wpAny (model prog w) A (callWith pos f first (backTo pos (starEach (e :: rest) env)) []) Q E s := callWith_K S.kin hk h he hplain
theorem q_callWith0 {f : Value} {first : List Value} {Q : Value → Shared → Prop} (S : St K w g P L s m news) (hk : keepIn (K w.params) f = true)
    (h : wpAny (model prog w) A (call f (first ++ [])) Q E s) : wpAny (model prog w) A (callWith pos f first (backTo pos (starEach [] env)) []) Q E s := callWith_K0 S.kin hk h

theorem q_appendL {D : Addr} {its : List Value} {k : Nat} {y : Value} {news' : List (Addr × Obj)} {Q : Value → Shared → Prop} (S : St K w g P L s m news) (U : LUpd D (W.listOf its.toArray k) (W.listOf (its ++ [y]).toArray (k + 1)) news news') (hz : its.length ≤ 1000)
    (h : ∀ s', St K w g P L s' m news' → Q .none s') : wpAny (model prog w) A (call (.builtin "list.append") [.ref D, y]) Q E s := by
  have e : (its ++ [y]).toArray = its.toArray.push y := by simp
  rw [e] at U
  exact q_append S U (by rw [List.size_toArray]; lia) h
theorem q_Expr {e : Expr} {Q : Flow → Shared → Prop} (V : Ev K w env L ns gv cv) (h : wpAny (model prog w) A (eval e env) (fun _ => Q .next) E s) (hs : swapsWith e none pos.line env = pure false := by rfl) :
    wpAny (model prog w) A (exec (.Expr e pos) env) Q E s := wpAny_Expr_any h V.inter hs

noncomputable def methOk (Kf : Frag) (C : Addr) (name : Str) (f : Addr) : Bool := plainGet Kf C name && decide (findIn Kf (.ref C) name = some (some (.ref f))) && isFn Kf (.ref f)
theorem q_method {a C dx f : Addr} {es : List DictEntry} {n : Nat} {name : Str} {pl : Sem Bool} {Q : Value × List Value → Shared → Prop} (S : St K w g P L s m news) (h1 : s.heap.get? a = some (instObj C dx)) (h2 : s.heap.get? dx = some (dictOf es n))
    (ok : methOk (K w.params) C name f = true) (hl : getL name es = some none) (h : Q (.ref f, [.ref a]) s) : wpAny (model prog w) A (getMethod (.ref a) name pl) Q E s := by
  obtain ⟨B, rest, dd⟩ := S.lib0
  simp only [methOk, Bool.and_eq_true, decide_eq_true_eq] at ok
  exact method_inst dd.F dd.X (⟨h1, rfl, rfl, h2⟩ : InstAt s.heap a (instObj C dx) C (some (dictOf es n))) ok.1.1 ok.1.2 ok.2 hl h
theorem q_lmethod {D : Addr} {its : Array Value} {n : Nat} {name : Str} {id : String} {pl : Sem Bool} {Q : Value × List Value → Shared → Prop} (hD : s.heap.get? D = some (W.listOf its n)) (slot : Slot "list" name id) (hty : typeOf (.builtin id) = pure (.type "method_descriptor"))
    (h : Q (.builtin id, [.ref D]) s) : wpAny (model prog w) A (getMethod (.ref D) name pl) Q E s :=
  getMethod_builtin ⟨_, hD, rfl⟩ PySem.F.plainAttrs_list slot hty (fun a e => by cases e; exact ⟨_, hD, rfl⟩) h

/-- a field of an object is set -/
noncomputable def setOk (Kf : Frag) (C : Addr) (name : Str) : Bool := decide (findIn Kf (.ref C) "__setattr__" = some (some (.builtin "object.__setattr__"))) && plainOver Kf C && decide (takerIn Kf C name = some none) && hasDictIn Kf C
theorem q_setAttr {upd : Tok → List (Addr × Obj)} {a C dx : Addr} {es : List DictEntry} {n : Nat} {name : Str} {Q : Unit → Shared → Prop} (S : St K w g P L s m news) (ha : s.heap.get? a = some (instObj C dx)) (ok : setOk (K w.params) C name = true) (hl : (getL name es).isSome = true)
    (U : ∀ t, LUpd dx (dictOf es n) (dictOf (putL name (PyData.keyHash w.params name) (.str name t) v es) (putN name es n)) news (upd t)) (hz : ∀ t, (putL name (PyData.keyHash w.params name) (.str name t) v es).length ≤ 1000)
    (k : ∀ t s', St K w g P L s' m (upd t) → Q () s') : wpAny (model prog w) A (setAttr (.ref a) name v) Q E s := by
  have hm := (U 0).mem
  obtain ⟨B, rest, dd⟩ := S.lib1 hm
  simp only [setOk, Bool.and_eq_true, decide_eq_true_eq] at ok
  refine set_dict dd.F dd.X dd.N (⟨ha, rfl, rfl, S.get hm⟩ : InstAt s.heap a (instObj C dx) C (some (dictOf es n))) rfl ok.1.1.1 ok.1.1.2 ok.1.2 ok.2 hl rfl (.head dd.hr) (hz _) fun h' F' N' => k (s.toks + 1) _ (dd.c h' _ _ _ _ F' N' (U _))

/-! more of ints -/
theorem q_max2 {a b : Int} {t u : Tok} {Q : Value → Shared → Prop} (S : St K w g P L s m news) (hh : A.handled = none) (k : ∀ t' s', St K w g P L s' m news → Q (.int (max a b) t') s') : wpAny (model prog w) A (call (.builtin "max") [.int a t, .int b u]) Q E s := by
  obtain ⟨B, rest, dd⟩ := S.lib0
  refine max_two_N hh dd.F dd.N fun h' tk F' N' => ?_
  have e : (if b > a then b else a) = max a b := by split <;> lia
  rw [e]; exact k _ _ (dd.c0 h' tk _ F' N')
theorem q_min2 {a b : Int} {t u : Tok} {Q : Value → Shared → Prop} (S : St K w g P L s m news) (hh : A.handled = none) (k : ∀ t' s', St K w g P L s' m news → Q (.int (min a b) t') s') : wpAny (model prog w) A (call (.builtin "min") [.int a t, .int b u]) Q E s := by
  obtain ⟨B, rest, dd⟩ := S.lib0
  refine min_two_N hh dd.F dd.N fun h' tk F' N' => ?_
  have e : (if b < a then b else a) = min a b := by split <;> lia
  rw [e]; exact k _ _ (dd.c0 h' tk _ F' N')

/-! lists and tuples, made of others -/
theorem q_tupleOf {l : Addr} {items : List Value} {Q : Value → Shared → Prop} (S : St K w g P L s m news) (hl : s.heap.IsList l items.toArray) (hz : items.length ≤ 16384) (k : ∀ D s', St K w g P L s' m ((D, tupObj items) :: news) → Q (.ref D) s') :
    wpAny (model prog w) A (call (.type "tuple") [.ref l]) Q E s := by
  obtain ⟨B, rest, dd⟩ := S.lib0
  exact kde_tupleOf dd.F dd.N hl (by rw [List.size_toArray]; exact hz) rfl fun D h' F' N' hD => k _ _ (dd.c1 h' s.toks _ D _ F' N' fun q hq => Nat.ne_of_lt (hD q hq))
theorem q_tupleSame {l : Addr} {items : Array Value} {Q : Value → Shared → Prop} (ht : IsTup s.heap l items) (k : Q (.ref l) s) : wpAny (model prog w) A (call (.type "tuple") [.ref l]) Q E s := call_tuple_tup ht k

/-! ranges -/
theorem q_listRange {r : Addr} {a b : Int} {t u v : Tok} {Q : Value → Shared → Prop} (n : Nat) (S : St K w g P L s m news) (hh : A.handled = none) (hr : IsRange s.heap r a b 1 t u v) (hsmall : Builtin.Range.small a b 1 = true) (hn : Builtin.Range.rangeSize a b 1 = n) (hz : n ≤ 1000)
    (k : ∀ D (ys : List Value) c s', ys.length = n → (∀ i y, ys[i]? = some y → ∃ t, y = Value.int (a + (i : Nat)) t) → St K w g P L s' m ((D, W.listOf ys.toArray c) :: news) → Q (.ref D) s') :
    wpAny (model prog w) A (call (.type "list") [.ref r]) Q E s := by
  refine call_list_range hh hr hsmall hn (by lia) fun h' tk acc c he ho hI => ?_
  refine k _ acc.toList c _ (by rw [← hI.1]; simp) (fun i y e => ?_) (S.newAt (t := tk) (size_none _) he ho)
  obtain ⟨t, e'⟩ := hI.2 i y (by simpa using e)
  exact ⟨t, by rw [e']; simp⟩
end
end Mine

end PartBaseL
section PartBaseM
open PySem PySem.W PySem.Spec PySem.Calls PyProof.Rows
set_option Elab.async false
namespace Mine
section
variable {prog : Program} {w : World} {A : Around} {E : Value → Shared → Prop} {env : Env}
variable {K : Params → Frag} {g : Gh} {P H : Heap} {L : Addr} {s : Shared} {m m' : Str → Option Value} {news news' mt ch ch' new : List (Addr × Obj)}
variable {ns ns₀ : List Str} {vs vs' vs'' : List (Option Value)} {gv gv₀ : List (Str × Value)} {cv cvo : List (Str × Addr)} {x y : Str} {v : Value} {pos : Pos}

/-! pairs of ints -/
inductive PairI (h : Heap) (p : Int × Int) : Value → Prop
  | mk (a t u) : IsTup h a #[.int p.1 t, .int p.2 u] → PairI h p (.ref a)
noncomputable abbrev PairV (h : Heap) (v : Value) (p : Int × Int) : Prop := PairI h p v
theorem PairV.mono {h h' : Heap} {v : Value} {p : Int × Int} (x : PairV h v p) (k : Sub h h') : PairV h' v p := x.casesOn fun a t u i => .mk a t u (i.keeps k)
noncomputable abbrev PairsV (h : Heap) (vs : List Value) (ps : List (Int × Int)) : Prop := All2 (PairV h) vs ps
theorem PairsV.mono {h h' : Heap} {vs : List Value} {ps : List (Int × Int)} (x : PairsV h vs ps) (k : Sub h h') : PairsV h' vs ps := All2.mono x fun _ _ z => z.mono k

/-! tests on lists of ints -/
theorem q_eqInts {a b : Addr} {xs ys : List Value} {ns ms : List Int} {Q : Value → Shared → Prop} (ha : s.heap.IsList a xs.toArray) (hb : s.heap.IsList b ys.toArray) (hi : IntsAre xs ns) (hj : IntsAre ys ms) (hu : Ao A 2)
    (k : Q (.bool (decide (ns = ms))) s) : wpAny (model prog w) A (compareOp .Eq (.ref a) (.ref b)) Q E s := ke_eq_ints ha hb hi hj (by have := hu.units; lia) k
theorem q_neInts {a b : Addr} {xs ys : List Value} {ns ms : List Int} {Q : Value → Shared → Prop} (ha : s.heap.IsList a xs.toArray) (hb : s.heap.IsList b ys.toArray) (hi : IntsAre xs ns) (hj : IntsAre ys ms) (hu : Ao A 2)
    (k : Q (.bool (!decide (ns = ms))) s) : wpAny (model prog w) A (compareOp .NotEq (.ref a) (.ref b)) Q E s := ke_ne_ints ha hb hi hj (by have := hu.units; lia) k
theorem kf_of {vs : List Value} {ns : List Int} (h : IntsAre vs ns) : kf_ints vs = true := by
  induction h with
  | nil => rfl
  | cons n t _ ih => exact ih
theorem q_notInInts {D : Addr} {its : List Value} {n : Nat} {ms : List Int} {i : Int} {t : Tok} {Q : Value → Shared → Prop} (hD : s.heap.get? D = some (W.listOf its.toArray n)) (hi : IntsAre its ms) (k : Q (.bool (decide (i ∉ ms))) s) :
    wpAny (model prog w) A (compareOp .NotIn (.int i t) (.ref D)) Q E s := by
  refine kf_notin (h₀ := ⟨#[], s.heap.life⟩) (L := D + 1) (N := fun p hp => ?_) (.head []) (its := its.toArray) (n := n) (by simpa using kf_of hi) ?_ k
  · rw [List.mem_singleton.mp hp]; exact ⟨hD, Nat.ne_of_lt (Nat.lt_succ_self _), rfl⟩
  · have e : (its.toArray).toList = its := rfl
    rw [e, any_isInt i hi, Bool.eq_iff_iff]
    simp only [Bool.not_eq_true', List.any_eq_false, beq_iff_eq, decide_eq_true_eq]
    exact ⟨fun h q => h i q rfl, fun h x hx e => h (e ▸ hx)⟩

/-! dicts of ints -/
theorem q_dictNew {Q : Value → Shared → Prop} (S : St K w g P L s m news) (hK : ((K w.params).lookup cStatics).isSome = true) (k : ∀ d o s', o.IsDictOf (intKind prog w) [] → (d == sysModules) = false → St K w g P L s' m ((d, o) :: news) → Q (.ref d) s') :
    wpAny (model prog w) A (eval (.Dict [] [] pos) env) Q E s := by
  obtain ⟨F, N, X⟩ := S.opened (ch := []) (fun _ h => nomatch h)
  refine newDict_K F N ?_ fun d h' o F' N' hd lo _ _ e _ => k d o _ e lo (S.closed (t := s.toks) (ch := []) (ch' := []) (new := [(d, o)]) F' N' rfl (fun p hp => ?_) (by simp))
  · obtain ⟨mc, ⟨o, es, ep, ho, r⟩, hm⟩ := S.cx.lim
    refine ⟨mc, ⟨o, es, ep, ?_, r⟩, hm⟩
    rw [baseK_get, if_pos ⟨S.lowK hK, hK⟩]
    exact S.keep _ _ ho
  · rw [List.mem_singleton.mp hp]
    have z := N' _ (.head _)
    exact S.isNew (ch := []) (fun _ h => nomatch h) (fun q hq => Nat.ne_of_lt (hd q hq)) z.2.1 z.2.2
theorem q_dictSet {d : Addr} {o : Obj} {kvs : List (Int × Value)} {i : Int} {t : Tok} {upd : Obj → List (Addr × Obj)} {Q : Unit → Shared → Prop} (S : St K w g P L s m news) (hd : o.IsDictOf (intKind prog w) kvs) (hz : kvs.length ≤ 1000)
    (U : ∀ o', LUpd d o o' news (upd o')) (k : ∀ o' s', o'.IsDictOf (intKind prog w) (stored kvs i v) → St K w g P L s' m (upd o') → Q () s') : wpAny (model prog w) A (setItem (.ref d) (.int i t) v) Q E s := by
  obtain ⟨B, rest, dd⟩ := S.lib1 (U o).mem
  exact kda_set (knd := intKind prog w) (k := i) dd.F dd.N (.head dd.hr) hd (beq_self_eq_true i) (by rw [sizeLine_eq]; lia) fun h' o' F' N' hd' => k o' _ hd' (dd.c h' _ _ o' _ F' N' (U o'))
theorem q_dictIn {d : Addr} {o : Obj} {kvs : List (Int × Value)} {i : Int} {t : Tok} {Q : Value → Shared → Prop} (S : St K w g P L s m news) (ho : s.heap.get? d = some o) (hd : o.IsDictOf (intKind prog w) kvs) (lo : (d == sysModules) = false)
    (k : ∀ s', St K w g P L s' m news → Q (.bool (valueAt kvs i).isSome) s') : wpAny (model prog w) A (compareOp .In (.int i t) (.ref d)) Q E s :=
  kda_in (knd := intKind prog w) (k := i) (h₀ := ⟨#[], s.heap.life⟩) (L := d + 1) (N := fun p hp => by rw [List.mem_singleton.mp hp]; exact ⟨ho, Nat.ne_of_lt (Nat.lt_succ_self _), rfl⟩) (.head []) hd lo (beq_self_eq_true i) _ rfl (k _ S.tok)
theorem q_dictNotIn {d : Addr} {o : Obj} {kvs : List (Int × Value)} {i : Int} {t : Tok} {Q : Value → Shared → Prop} (S : St K w g P L s m news) (ho : s.heap.get? d = some o) (hd : o.IsDictOf (intKind prog w) kvs) (lo : (d == sysModules) = false)
    (k : ∀ s', St K w g P L s' m news → Q (.bool !(valueAt kvs i).isSome) s') : wpAny (model prog w) A (compareOp .NotIn (.int i t) (.ref d)) Q E s :=
  wpAny_notIn_of (knd := intKind prog w) (k := i) (beq_self_eq_true i) lo (kda_dict (h₀ := ⟨#[], s.heap.life⟩) (L := d + 1) (N := fun p hp => by rw [List.mem_singleton.mp hp]; exact ⟨ho, Nat.ne_of_lt (Nat.lt_succ_self _), rfl⟩) (.head []) hd).mapOf (k _ S.tok)

/-! pieces of lists -/
theorem q_concat {a b : Addr} {xs ys : List Value} {Q : Value → Shared → Prop} {n₁ n₂ : Nat} (S : St K w g P L s m news) (ha : s.heap.get? a = some (W.listOf xs.toArray n₁)) (hb : s.heap.get? b = some (W.listOf ys.toArray n₂)) (hz : xs.length + ys.length ≤ 1000)
    (k : ∀ D s', St K w g P L s' m ((D, W.listOf (xs ++ ys).toArray 0) :: news) → Q (.ref D) s') : wpAny (model prog w) A (binaryOp .Add (.ref a) (.ref b)) Q E s := by
  refine PySem.P.add_list ha hb ?_ (by rw [List.size_toArray, List.size_toArray, sizeLine_eq]; lia)
  have e : xs.toArray ++ ys.toArray = (xs ++ ys).toArray := by simp
  rw [e]
  exact k _ _ (S.push (t := s.toks) _)
theorem q_setLast {D : Addr} {its : List Value} {z y : Value} {n : Nat} {t : Tok} {Q : Unit → Shared → Prop} (S : St K w g P L s m news) (U : LUpd D (W.listOf (its ++ [z]).toArray n) (W.listOf (its ++ [y]).toArray n) news news') (hz : its.length ≤ 1000)
    (k : ∀ s', St K w g P L s' m news' → Q () s') : wpAny (model prog w) A (setItem (.ref D) (.int (-1) t) y) Q E s := by
  obtain ⟨B, rest, dd⟩ := S.lib1 U.mem
  refine ki_setNeg (j := its.length) (q := its ++ [y]) dd.F dd.N (by decide) (by decide) ?_ ?_ (.head dd.hr) fun h' F' N' => k _ (dd.c h' s.toks _ _ _ F' N' U)
  · unfold seqIndex?
    simp
    lia
  · have e : ((its ++ [z]).toArray).toList = its ++ [z] := rfl
    rw [e]
    clear hz U k e dd
    induction its with
    | nil => rfl
    | cons a r ih => simp only [List.cons_append, List.length_cons, ki_setL, ih]

/-! one name after the other out of a pair -/
theorem q_unpack2 {px py tp : Pos} {kk : Nat} {T : Addr} {v₁ v₂ : Value} {Q : Unit → Shared → Prop} (hh : A.handled = none) (V : Ev K w env L ns gv cv) (S : St K w g P L s (vec ns vs) news) (ht : IsTup s.heap T #[v₁, v₂])
    (hx : VSet ns vs x (some v₁) vs') (hy : VSet ns vs' y (some v₂) vs'') (k : ∀ s', St K w g P L s' (vec ns vs'') news → Q () s') :
    wpAny (model prog w) A (assign (.Tuple [.Name x px, .Name y py] kk tp) env (.ref T)) Q E s := by
  refine assign_Tuple_tuple hh ht rfl rfl fun h' he => ?_
  have S₂ := S.ext (h' := h') (t := s.toks) fun b o e => he b o (Nat.ne_of_lt (Heap.lt_size e)) e
  show wpAny _ A (assignInOrder [assign (.Name x px) env, assign (.Name y py) env] [v₁, v₂]) Q E _
  show wpAny _ A (do holding [v₂] (assign (.Name x px) env v₁); do holding [] (assign (.Name y py) env v₂); pure ()) Q E _
  exact wpAny_bind (wpAny_holding (wpAny_assign_Name (q_store S₂ V hx fun s₃ S₃ => wpAny_bind (wpAny_holding (wpAny_assign_Name (q_store S₃ V hy fun s₄ S₄ => wpAny_pure (k _ S₄)))))))
end
end Mine

end PartBaseM
section PartBaseN
open PySem PySem.W PySem.Spec PySem.Calls PyProof.Rows
set_option Elab.async false
namespace Mine

noncomputable def pdPairs (ps : List (Int × Int)) : List PyData := ps.map fun p => .tuple [.int p.1, .int p.2]
theorem PairV.reads {h : Heap} {v : Value} {p : Int × Int} (x : PairV h v p) : Reads h v (.tuple [.int p.1, .int p.2]) [] := by
  obtain ⟨a, t, u, o, e, c, n, d⟩ := x
  exact .tuple e c d (.cons (.int _ _) (.cons (.int _ _) .nil))
theorem PairsV.reads {h : Heap} {vs : List Value} {ps : List (Int × Int)} (x : PairsV h vs ps) : ReadsAll h vs (pdPairs ps) [] := by
  induction x with
  | nil => exact .nil
  | cons a _ ih => exact .cons (as := []) a.reads ih
theorem pd_eqv : ∀ ps qs : List (Int × Int), PyData.eqvAll (pdPairs ps) (pdPairs qs) = decide (ps = qs)
  | [], [] => rfl
  | [], _ :: _ => rfl
  | _ :: _, [] => rfl
  | (a, b) :: ps, (c, d) :: qs => by
    have ih := pd_eqv ps qs
    show PyData.eqvAll (.tuple [.int a, .int b] :: pdPairs ps) (.tuple [.int c, .int d] :: pdPairs qs) = _
    simp only [PyData.eqvAll, PyData.eqv, ih, Bool.and_true]
    rw [Bool.eq_iff_iff]
    simp [and_assoc]
theorem pd_shaped (ps : List (Int × Int)) : SeqAt.shaped (.list (pdPairs ps)) = true := by
  have h1 : PyData.canLayAll0 (pdPairs ps) = true := by
    induction ps with
    | nil => simp [pdPairs, PyData.canLayAll0]
    | cons p r ih => simpa [pdPairs, PyData.canLayAll0, PyData.canLay0] using ih
  have h2 : PyData.depthAll (pdPairs ps) ≤ 1 := by
    induction ps with
    | nil => simp [pdPairs, PyData.depthAll]
    | cons p r ih =>
      have e : PyData.depthAll (pdPairs (p :: r)) = max (PyData.depth (.tuple [.int p.1, .int p.2])) (PyData.depthAll (pdPairs r)) := by simp only [pdPairs, List.map_cons, PyData.depthAll]
      have e2 : PyData.depth (.tuple [.int p.1, .int p.2]) = 1 := by simp [PyData.depth, PyData.depthAll]
      rw [e, e2]
      exact Nat.max_le.mpr ⟨Nat.le_refl _, ih (by
        simp only [pdPairs, List.map_cons, PyData.canLayAll0, Bool.and_eq_true] at h1; exact h1.2)⟩
  unfold SeqAt.shaped
  simp only [PyData.canLay0, PyData.depth, h1, Bool.true_and]
  exact decide_eq_true (by lia)

section
variable {prog : Program} {w : World} {A : Around} {E : Value → Shared → Prop} {env : Env}
variable {K : Params → Frag} {g : Gh} {P H : Heap} {L : Addr} {s : Shared} {m m' : Str → Option Value} {news news' mt ch ch' new : List (Addr × Obj)}
variable {ns ns₀ : List Str} {vs vs' vs'' : List (Option Value)} {gv gv₀ : List (Str × Value)} {cv cvo : List (Str × Addr)} {x y : Str} {v : Value} {pos : Pos}

theorem lst_reads {h : Heap} {a : Addr} {xs : List Value} {ps : List (Int × Int)} (hl : h.IsList a xs.toArray) (hp : PairsV h xs ps) : ∃ as, Reads h (.ref a) (.list (pdPairs ps)) as :=
  let ⟨_, e, c, _, d⟩ := hl
  ⟨_, .list e c d hp.reads⟩
theorem q_eqPairs {a b : Addr} {xs ys : List Value} {ps qs : List (Int × Int)} {Q : Value → Shared → Prop} (ha : s.heap.IsList a xs.toArray) (hb : s.heap.IsList b ys.toArray) (hp : PairsV s.heap xs ps) (hq : PairsV s.heap ys qs) (hu : Ao A 2)
    (k : Q (.bool (decide (ps = qs))) s) : wpAny (model prog w) A (compareOp .Eq (.ref a) (.ref b)) Q E s := by
  obtain ⟨_, r1⟩ := lst_reads ha hp
  obtain ⟨_, r2⟩ := lst_reads hb hq
  refine SeqAt.compareEq_shaped r1 r2 (pd_shaped _) (pd_shaped _) (by have := hu.units; lia) ?_
  rw [PyData.eqv, pd_eqv]; exact k
theorem q_nePairs {a b : Addr} {xs ys : List Value} {ps qs : List (Int × Int)} {Q : Value → Shared → Prop} (ha : s.heap.IsList a xs.toArray) (hb : s.heap.IsList b ys.toArray) (hp : PairsV s.heap xs ps) (hq : PairsV s.heap ys qs) (hu : Ao A 2)
    (k : Q (.bool (decide (ps ≠ qs))) s) : wpAny (model prog w) A (compareOp .NotEq (.ref a) (.ref b)) Q E s := by
  obtain ⟨_, r1⟩ := lst_reads ha hp
  obtain ⟨_, r2⟩ := lst_reads hb hq
  refine SeqAt.compareNe_shaped r1 r2 (pd_shaped _) (pd_shaped _) (by have := hu.units; lia) ?_
  rw [PyData.eqv, pd_eqv]
  simpa using k

/-! slices -/
theorem q_slice {value slice : Expr} {l : Addr} {its : Array Value} {vl vu : Value} {lo hi : Option Int} {Q : Value → Shared → Prop} (S : St K w g P L s m news) (hl : s.heap.IsList l its) (hz : its.size ≤ 1000) (pl : IsPart vl lo) (pu : IsPart vu hi)
    (k : ∀ D s', St K w g P L s' m ((D, W.listOf (slicePick its lo hi none) 0) :: news) → Q (.ref D) s')
    (hs : subscripted slice false (.ref l) (.ref s.heap.objs.size) = operate [.ref s.heap.objs.size, .ref l] (getItem (.ref l) (.ref s.heap.objs.size)) := by with_unfolding_all rfl) (ht : ∀ r, letTemporaryGo value (.ref l) r = pure () := by intro _; with_unfolding_all rfl) :
    wpAny (model prog w) A (subscriptTail value slice (.ref l) (.ref s.heap.objs.size)) Q E { s with heap := s.heap.push { cls := .type "slice", data := .fields #[vl, vu, .none] } } := by
  obtain ⟨B, rest, dd⟩ := S.lib0
  exact kmk_slice dd.F dd.N hl pl pu (fun D h' F' N' hD => k _ _ (dd.c1 h' s.toks _ D _ F' N' fun q hq => Nat.ne_of_lt (hD q hq))) hs ht (by rw [sizeLine_eq]; lia)
theorem q_rev {value slice : Expr} {l : Addr} {its : List Value} {t : Tok} {ops : List Value} {Q : Value → Shared → Prop} (S : St K w g P L s m news) (hl : s.heap.IsList l its.toArray) (hz : its.length ≤ 1000)
    (k : ∀ D s', St K w g P L s' m ((D, W.listOf its.reverse.toArray 0) :: news) → Q (.ref D) s')
    (hs : subscripted slice false (.ref l) (.ref s.heap.objs.size) = operate ops (getItem (.ref l) (.ref s.heap.objs.size)) := by with_unfolding_all rfl) (ht : ∀ r, letTemporaryGo value (.ref l) r = pure () := by intro _; with_unfolding_all rfl) :
    wpAny (model prog w) A (subscriptTail value slice (.ref l) (.ref s.heap.objs.size)) Q E { s with heap := s.heap.push { cls := .type "slice", data := .fields #[.none, .none, .int (-1) t] } } := by
  obtain ⟨B, rest, dd⟩ := S.lib0
  refine kmk_slice3_lit (zs := its.reverse) dd.F dd.N hl .none .none (.int (-1) t) (by decide) (by rw [krv_pick]) (fun D h' F' N' hD => k _ _ (dd.c1 h' s.toks _ D _ F' N' fun q hq => Nat.ne_of_lt (hD q hq))) hs ht (by rw [List.size_toArray, sizeLine_eq]; lia)

/-! greatest and least -/
theorem q_maxL {l : Addr} {xs : List Value} {ns : List Int} {Q : Value → Shared → Prop} (S : St K w g P L s m news) (hh : A.handled = none) (hl : s.heap.IsList l xs.toArray) (hi : IntsAre xs ns) (hne : 0 < ns.length)
    (k : ∀ M t s', M ∈ ns → (∀ a ∈ ns, a ≤ M) → St K w g P L s' m news → Q (.int M t) s') : wpAny (model prog w) A (call (.builtin "max") [.ref l]) Q E s := by
  obtain ⟨B, rest, dd⟩ := S.lib0
  exact kso_max dd.F dd.N hl hi hne hh fun h' M t tk F' N' h1 h2 => k M t _ h1 h2 (dd.c0 h' tk _ F' N')
theorem q_sortedNil {l : Addr} {Q : Value → Shared → Prop} (S : St K w g P L s m news) (hl : s.heap.IsList l #[])
    (k : ∀ D n s', St K w g P L s' m ((D, W.listOf #[] n) :: news) → Q (.ref D) s') : wpAny (model prog w) A (call (.builtin "sorted") [.ref l]) Q E s := by
  obtain ⟨B, rest, dd⟩ := S.lib0
  refine kso_sorted (vs := []) (ns := []) dd.F dd.N hl .nil (by decide) fun D vs' ns' n h' F' N' hD hI he hp _ _ => ?_
  have e := List.length_eq_zero_iff.mp he
  subst e
  cases hI
  exact k D n _ (dd.c1 h' s.toks _ D _ F' N' fun q hq => Nat.ne_of_lt (hD q hq))
theorem q_pairMax {T : Addr} {a b : Int} {t u : Tok} {Q : Value → Shared → Prop} (S : St K w g P L s m news) (hh : A.handled = none) (ht : IsTup s.heap T #[.int a t, .int b u])
    (k : ∀ t' s', St K w g P L s' m news → Q (.int (max a b) t') s') : wpAny (model prog w) A (call (.builtin "max") [.ref T]) Q E s := by
  refine call_max_walk (wpAny_pyIter_tuple ht ?_)
  have hne : T ≠ s.heap.objs.size := Nat.ne_of_lt ht.lt
  refine ⟨_, _, _, _, _, _, _, rfl, Walks.tuple (A := A.in1) hh s.heap.objs.size T hne #[.int a t, .int b u], ⟨⟨_, Heap.get?_push_size _ rfl, rfl, rfl⟩, (let ⟨o, e, r⟩ := ht; ⟨o, Heap.get?_push_of_some _ e, r⟩ : Heap.IsTuple _ _ _)⟩, fun b hb => ?_, by show 0 < 2; decide,
    PySem.Flt.cmpOf_gt #[.int a t, .int b u] (fun v hv => ?_), fun v h' tk hv hk => ?_⟩
  · rw [Heap.size_push]
    rcases List.mem_cons.mp hb with rfl | hb
    · exact Nat.lt_succ_self _
    · rw [List.mem_singleton.mp hb]; exact Nat.lt_succ_of_lt ht.lt
  · simp at hv
    rcases hv with rfl | rfl
    · exact .int _ _
    · exact .int _ _
  · have S' := S.ext (h' := h') (t := tk) fun c o e => hk c o (fun q => by rw [List.mem_singleton.mp q] at e; exact absurd (Heap.lt_size e) (Nat.lt_irrefl _)) (Heap.get?_push_of_some _ e)
    have e : v = if a < b then .int b u else .int a t := by
      have h1 : (#[.int a t, .int b u] : Array Value)[if decide (a < b) = true then 1 else 0]? = some v := hv
      by_cases q : a < b
      · rw [decide_eq_true q] at h1; rw [if_pos q]; simpa using h1.symm
      · rw [decide_eq_false q] at h1; rw [if_neg q]; simpa using h1.symm
    subst e
    split
    · rw [show (max a b) = b from by lia] at k; exact k _ _ S'
    · rw [show (max a b) = a from by lia] at k; exact k _ _ S'
theorem q_pairMin {T : Addr} {a b : Int} {t u : Tok} {Q : Value → Shared → Prop} (S : St K w g P L s m news) (hh : A.handled = none) (ht : IsTup s.heap T #[.int a t, .int b u])
    (k : ∀ t' s', St K w g P L s' m news → Q (.int (min a b) t') s') : wpAny (model prog w) A (call (.builtin "min") [.ref T]) Q E s := by
  refine call_min_walk (wpAny_pyIter_tuple ht ?_)
  have hne : T ≠ s.heap.objs.size := Nat.ne_of_lt ht.lt
  refine ⟨_, _, _, _, _, _, _, rfl, Walks.tuple (A := A.in1) hh s.heap.objs.size T hne #[.int a t, .int b u], ⟨⟨_, Heap.get?_push_size _ rfl, rfl, rfl⟩, (let ⟨o, e, r⟩ := ht; ⟨o, Heap.get?_push_of_some _ e, r⟩ : Heap.IsTuple _ _ _)⟩, fun b hb => ?_, by show 0 < 2; decide,
    PySem.Flt.cmpOf_lt #[.int a t, .int b u] (fun v hv => ?_), fun v h' tk hv hk => ?_⟩
  · rw [Heap.size_push]
    rcases List.mem_cons.mp hb with rfl | hb
    · exact Nat.lt_succ_self _
    · rw [List.mem_singleton.mp hb]; exact Nat.lt_succ_of_lt ht.lt
  · simp at hv
    rcases hv with rfl | rfl
    · exact .int _ _
    · exact .int _ _
  · have S' := S.ext (h' := h') (t := tk) fun c o e => hk c o (fun q => by rw [List.mem_singleton.mp q] at e; exact absurd (Heap.lt_size e) (Nat.lt_irrefl _)) (Heap.get?_push_of_some _ e)
    have e : v = if b < a then .int b u else .int a t := by
      have h1 : (#[.int a t, .int b u] : Array Value)[if decide (b < a) = true then 1 else 0]? = some v := hv
      by_cases q : b < a
      · rw [decide_eq_true q] at h1; rw [if_pos q]; simpa using h1.symm
      · rw [decide_eq_false q] at h1; rw [if_neg q]; simpa using h1.symm
    subst e
    split
    · rw [show (min a b) = b from by lia] at k; exact k _ _ S'
    · rw [show (min a b) = a from by lia] at k; exact k _ _ S'
end
end Mine

end PartBaseN
section PartBaseO
open PySem PySem.W PySem.Spec PySem.Calls PyProof.Rows
set_option Elab.async false
set_option linter.unusedVariables false
namespace Mine

/-- the names of an activation: its locals, its globals, its cells -/
structure Sg where
  ns : List Str
  gv : List (Str × Value)
  cv : List (Str × Addr)
/-- an activation under way -/
structure Ct (K : Params → Frag) (w : World) (g : Gh) (sg : Sg) where
  env : Env
  A : Around
  L : Addr
  V : Ev K w env L sg.ns sg.gv sg.cv
  hA : A.handled = none

section
variable {prog : Program} {K : Params → Frag} {w : World} {g : Gh} {sg : Sg} {c : Ct K w g sg} {fx fy : Str} {fp fq : Pos} {E : Value → Shared → Prop}
variable {vs vs' vs'' : List (Option Value)} {news news' : List (Addr × Obj)} {P P₀ : Heap} {s : Shared} {x y : Str} {v u : Value} {pos pos' : Pos} {e e₁ e₂ : Expr} {R R₁ R₂ R' : Heap → Value → Prop} {a b : Int} {t : Tok}

/-- the frame fact of an activation -/
noncomputable abbrev Sc (c : Ct K w g sg) (vs : List (Option Value)) (news : List (Addr × Obj)) (P : Heap) (s : Shared) : Prop := St K w g P c.L s (vec sg.ns vs) news
/-- what is left to run -/
noncomputable def Go (prog : Program) (c : Ct K w g sg) (st : List Stmt) (Q : Flow → Shared → Prop) (s : Shared) : Prop := wpAny (model prog w) c.A (execs st c.env) Q NoE s
inductive GP (c : Ct K w g sg) (vs : List (Option Value)) (news : List (Addr × Obj)) (P : Heap) (R : Heap → Value → Prop) (v : Value) (s : Shared) : Prop
  | mk (P' : Heap) : Sub P P' → Sc c vs news P' s → R P' v → GP c vs news P R v s
/-- the expression gives a value with R, and leaves names and ledger as they are -/
noncomputable def Gives (prog : Program) (c : Ct K w g sg) (vs : List (Option Value)) (news : List (Addr × Obj)) (P : Heap) (e : Expr) (R : Heap → Value → Prop) : Prop :=
  ∀ P₀ s, Sub P P₀ → Sc c vs news P₀ s → wpAny (model prog w) c.A (eval e c.env) (GP c vs news P₀ R) NoE s
inductive TP (c : Ct K w g sg) (vs : List (Option Value)) (news : List (Addr × Obj)) (P : Heap) (p : Prop) (b : Bool) (s : Shared) : Prop
  | mk (P' : Heap) : Sub P P' → Sc c vs news P' s → (b = true ↔ p) → TP c vs news P p b s
/-- the test asks p -/
noncomputable def Tests (prog : Program) (c : Ct K w g sg) (vs : List (Option Value)) (news : List (Addr × Obj)) (P : Heap) (e : Expr) (p : Prop) : Prop :=
  ∀ P₀ s, Sub P P₀ → Sc c vs news P₀ s → wpAny (model prog w) c.A (isTrue e c.env (eval e c.env)) (TP c vs news P₀ p) NoE s
noncomputable def IsI (a : Int) : Heap → Value → Prop := fun _ v => ∃ t, v = .int a t
noncomputable def IsV (u : Value) : Heap → Value → Prop := fun _ v => v = u
noncomputable def Mono (R : Heap → Value → Prop) : Prop := ∀ h h' v, Sub h h' → R h v → R h' v
theorem mono_I : Mono (IsI a) := fun _ _ _ _ h => h
theorem mono_V : Mono (IsV u) := fun _ _ _ _ h => h
/-- a fact on the heap that holds throughout -/
noncomputable def Held (c : Ct K w g sg) (vs : List (Option Value)) (news : List (Addr × Obj)) (P : Heap) (F : Heap → Prop) : Prop := ∀ P₀ s, Sub P P₀ → Sc c vs news P₀ s → F s.heap

theorem GP.here (S : Sc c vs news P s) (r : R P v) : GP c vs news P R v s := ⟨P, .refl _, S, r⟩
theorem GP.up {P₁ : Heap} (h : Sub P P₁) (x : GP c vs news P₁ R v s) : GP c vs news P R v s := x.casesOn fun P' a b r => .mk P' (h.trans a) b r
theorem Gives.bind {Q : Value → Shared → Prop} (h : Gives prog c vs news P e R) (hP : Sub P P₀) (S : Sc c vs news P₀ s) (k : ∀ P' v s', Sub P₀ P' → Sc c vs news P' s' → R P' v → Q v s') : wpAny (model prog w) c.A (eval e c.env) Q E s :=
  noE (wpAny_mono (h P₀ s hP S) (fun v s' x => x.casesOn fun P' a b r => k P' v s' a b r) fun _ _ x => x)
theorem Gives.bindV {Q : Value → Shared → Prop} (h : Gives prog c vs news P e (IsV u)) (hP : Sub P P₀) (S : Sc c vs news P₀ s) (k : ∀ P' s', Sub P₀ P' → Sc c vs news P' s' → Q u s') : wpAny (model prog w) c.A (eval e c.env) Q E s :=
  h.bind hP S fun P' v s' a b r => by subst r; exact k P' s' a b
theorem Gives.bindI {Q : Value → Shared → Prop} (h : Gives prog c vs news P e (IsI a)) (hP : Sub P P₀) (S : Sc c vs news P₀ s) (k : ∀ P' t s', Sub P₀ P' → Sc c vs news P' s' → Q (.int a t) s') : wpAny (model prog w) c.A (eval e c.env) Q E s :=
  h.bind hP S fun P' v s' a b r => by obtain ⟨t, rfl⟩ := r; exact k P' t s' a b
theorem Gives.weaken (h : Gives prog c vs news P e R) (k : ∀ h v, R h v → R' h v) : Gives prog c vs news P e R' := fun P₀ s hP S =>
  h.bind hP S fun P' v s' a S' r => ⟨P', a, S', k _ _ r⟩
theorem Gives.toI (h : Gives prog c vs news P e (IsV (.int a t))) : Gives prog c vs news P e (IsI a) := h.weaken fun _ _ r => ⟨t, r⟩
theorem Gives.more {P₁ : Heap} (h : Gives prog c vs news P e R) (k : Sub P P₁) : Gives prog c vs news P₁ e R := fun P₀ s hP S => h P₀ s (k.trans hP) S

theorem vec_at {ns : List Str} {vs : List (Option Value)} (i : Nat) (hn : ns.Nodup) (h1 : ns[i]? = some x) (h2 : vs[i]? = some (some v)) : VAt ns vs x v := by
  induction ns generalizing vs i with
  | nil => exact nomatch h1
  | cons n ns ih =>
    cases vs with
    | nil => exact nomatch h2
    | cons o vs =>
      cases i with
      | zero => obtain rfl := Option.some.inj h1; obtain rfl := Option.some.inj h2; exact .here
      | succ i => exact .there (ih i (List.nodup_cons.mp hn).2 h1 h2)
theorem vec_set {ns : List Str} {vs : List (Option Value)} {o : Option Value} (i : Nat) (h1 : ns[i]? = some x) (hl : vs.length = ns.length) : VSet ns vs x o (vs.set i o) := by
  induction ns generalizing vs i with
  | nil => exact nomatch h1
  | cons n ns ih =>
    cases vs with
    | nil => exact nomatch hl
    | cons p vs =>
      cases i with
      | zero => obtain rfl := Option.some.inj h1; exact .here
      | succ i => exact .there (ih i h1 (Nat.succ.inj hl))

/-! names -/
theorem Gives.name (i : Nat) (hx : sg.ns[i]? = some x) (hv : vs[i]? = some (some v)) : Gives prog c vs news P (.Name x pos) (IsV v) := fun _ s _ S =>
  q_local (pos := pos) S c.V (vec_at i c.V.nd hx hv) (GP.here S rfl)
theorem Gives.nameI (i : Nat) (hx : sg.ns[i]? = some x) (hv : vs[i]? = some (some (.int a t))) : Gives prog c vs news P (.Name x pos) (IsI a) := (Gives.name i hx hv).toI
theorem Gives.glob (i : Nat) (hx : sg.gv[i]? = some (x, v)) : Gives prog c vs news P (.Name x pos) (IsV v) := fun _ s _ S =>
  q_global (pos := pos) S c.V (List.mem_of_getElem? hx) (GP.here S rfl)
theorem Gives.cell {cc : Addr} (i : Nat) (hx : sg.cv[i]? = some (x, cc)) (hc : Held c vs news P (fun h => h.IsCell cc (some v))) : Gives prog c vs news P (.Name x pos) (IsV v) := fun _ s hP S =>
  q_cell (pos := pos) c.V (List.mem_of_getElem? hx) (hc _ _ hP S) (GP.here S rfl)
theorem Held.ofP {F : Heap → Prop} (hm : ∀ h h', Sub h h' → F h → F h') (h : F P) : Held c vs news P F := fun _ _ hP S => hm _ _ (hP.trans S.keep) h
theorem Held.ofH {F : Heap → Prop} (hm : ∀ h h', Sub h h' → F h → F h') (h : F g.H) : Held c vs news P F := fun _ _ _ S => hm _ _ S.frame h
theorem Held.led {p : Addr} {o : Obj} {F : Heap → Prop} (j : Nat) (hj : news[j]? = some (p, o)) (h : ∀ h : Heap, h.get? p = some o → F h) : Held c vs news P F := fun _ _ _ S => h _ (S.get (List.mem_of_getElem? hj))
theorem Held.and {F G : Heap → Prop} (h : Held c vs news P F) (k : Held c vs news P G) : Held c vs news P fun h => F h ∧ G h := fun P₀ s a b => ⟨h P₀ s a b, k P₀ s a b⟩

/-! constants -/
theorem Gives.int {i : Int} {kd : Nat} : Gives prog c vs news P (.Constant (.int i) kd pos) (IsI i) := fun _ _ _ S => q_int S fun t _ S' => GP.here S' ⟨t, rfl⟩
theorem Gives.str {i : Str} {kd : Nat} : Gives prog c vs news P (.Constant (.str i) kd pos) (fun _ v => ∃ t, v = .str i t) := fun _ _ _ S => q_str S fun t _ S' => GP.here S' ⟨t, rfl⟩
theorem Gives.bytes {i : List UInt8} {kd : Nat} : Gives prog c vs news P (.Constant (.bytes i) kd pos) (fun _ v => ∃ t, v = .bytes i.toArray t) := fun _ _ _ S => q_bytes S fun t _ S' => GP.here S' ⟨t, rfl⟩
theorem Gives.noneC {kd : Nat} : Gives prog c vs news P (.Constant .none kd pos) (IsV .none) := fun _ _ _ S => wpAny_pure (GP.here S rfl)
theorem Gives.bool {q : Bool} {kd : Nat} : Gives prog c vs news P (.Constant (.bool q) kd pos) (IsV (.bool q)) := fun _ _ _ S => wpAny_pure (GP.here S rfl)

/-! ints -/
theorem Gives.bin {op : Operator} {r : Int} (h₁ : Gives prog c vs news P e₁ (IsI a)) (h₂ : Gives prog c vs news P e₂ (IsI b))
    (hop : ∀ (P₀ : Heap) (t u : Tok) (s : Shared) (Q : Value → Shared → Prop), Sc c vs news P₀ s → (∀ t' s', Sc c vs news P₀ s' → Q (.int r t') s') → wpAny (model prog w) c.A (binaryOp op (.int a t) (.int b u)) Q NoE s) :
    Gives prog c vs news P (.BinOp e₁ op e₂ pos) (IsI r) := fun P₀ s hP S =>
  wpAny_BinOp (h₁.bindI hP S fun P₁ t s₁ k₁ S₁ => h₂.bindI (hP.trans k₁) S₁ fun P₂ u s₂ k₂ S₂ =>
    hop P₂ t u s₂ _ S₂ fun t' s' S' => ⟨P₂, k₁.trans k₂, S', ⟨t', rfl⟩⟩)
theorem Gives.add (h₁ : Gives prog c vs news P e₁ (IsI a)) (h₂ : Gives prog c vs news P e₂ (IsI b)) : Gives prog c vs news P (.BinOp e₁ .Add e₂ pos) (IsI (a + b)) := .bin h₁ h₂ fun _ _ _ _ _ S k => q_add S k
theorem Gives.sub (h₁ : Gives prog c vs news P e₁ (IsI a)) (h₂ : Gives prog c vs news P e₂ (IsI b)) : Gives prog c vs news P (.BinOp e₁ .Sub e₂ pos) (IsI (a - b)) := .bin h₁ h₂ fun _ _ _ _ _ S k => q_sub S k
theorem Gives.mod (h₁ : Gives prog c vs news P e₁ (IsI a)) (h₂ : Gives prog c vs news P e₂ (IsI b)) (hb : b ≠ 0) : Gives prog c vs news P (.BinOp e₁ .Mod e₂ pos) (IsI (a.fmod b)) := .bin h₁ h₂ fun _ _ _ _ _ S k => q_mod S hb k
theorem Gives.div (h₁ : Gives prog c vs news P e₁ (IsI a)) (h₂ : Gives prog c vs news P e₂ (IsI b)) (hb : b ≠ 0) (hz : b.natAbs < 1073741824) : Gives prog c vs news P (.BinOp e₁ .FloorDiv e₂ pos) (IsI (a.fdiv b)) := .bin h₁ h₂ fun _ _ _ _ _ S k => q_div S hb hz k
theorem Gives.pow2 (h₁ : Gives prog c vs news P e₁ (IsI 2)) (h₂ : Gives prog c vs news P e₂ (IsI b)) (h0 : 0 ≤ b) (h1 : b ≤ 100) : Gives prog c vs news P (.BinOp e₁ .Pow e₂ pos) (IsI (2 ^ b.toNat)) := .bin h₁ h₂ fun _ _ _ _ _ S k => q_pow2 S h0 h1 k
theorem Gives.neg (h₁ : Gives prog c vs news P e₁ (IsI a)) : Gives prog c vs news P (.UnaryOp .USub e₁ pos) (IsI (-a)) := fun P₀ s hP S =>
  wpAny_UnaryOp (h₁.bindI hP S fun P₁ t s₁ k₁ S₁ => q_neg S₁ fun t' s' S' => ⟨P₁, k₁, S', ⟨t', rfl⟩⟩)

/-! comparisons and tests -/
noncomputable def IsB (p : Prop) : Heap → Value → Prop := fun _ v => ∃ q, v = .bool q ∧ (q = true ↔ p)
/-- the comparison asks p -/
noncomputable def Cmps (prog : Program) (c : Ct K w g sg) (vs : List (Option Value)) (news : List (Addr × Obj)) (P : Heap) (e₁ : Expr) (op : CmpOp) (e₂ : Expr) (p : Prop) : Prop :=
  ∀ P₀ s (Q : Value → Shared → Prop), Sub P P₀ → Sc c vs news P₀ s → (∀ P' s' q, Sub P₀ P' → Sc c vs news P' s' → (q = true ↔ p) → Q (.bool q) s') →
    wpAny (model prog w) c.A (eval e₁ c.env) (fun a s₁ => wpAny (model prog w) c.A (eval e₂ c.env) (fun b s₂ => wpAny (model prog w) c.A (compareOp op a b) Q NoE s₂) NoE s₁) NoE s
theorem Cmps.of {op : CmpOp} {p : Prop} (h₁ : Gives prog c vs news P e₁ R₁) (h₂ : Gives prog c vs news P e₂ R₂) (m₁ : Mono R₁)
    (hop : ∀ (P₀ : Heap) (v₁ v₂ : Value) (s : Shared) (Q : Value → Shared → Prop), Sub P P₀ → Sc c vs news P₀ s → R₁ P₀ v₁ → R₂ P₀ v₂ → (∀ s' q, Sc c vs news P₀ s' → (q = true ↔ p) → Q (.bool q) s') → wpAny (model prog w) c.A (compareOp op v₁ v₂) Q NoE s) :
    Cmps prog c vs news P e₁ op e₂ p := fun P₀ s Q hP S k =>
  h₁.bind hP S fun P₁ v₁ s₁ k₁ S₁ r₁ => h₂.bind (hP.trans k₁) S₁ fun P₂ v₂ s₂ k₂ S₂ r₂ => hop P₂ v₁ v₂ s₂ _ (hP.trans (k₁.trans k₂)) S₂ (m₁ _ _ _ k₂ r₁) r₂ fun s' q S' hq => k P₂ s' q (k₁.trans k₂) S' hq
theorem Cmps.intI {op : CmpOp} {p : Prop} [Decidable p] (h₁ : Gives prog c vs news P e₁ (IsI a)) (h₂ : Gives prog c vs news P e₂ (IsI b))
    (hop : ∀ (t u : Tok) (s : Shared) (Q : Value → Shared → Prop), Q (.bool (decide p)) s → wpAny (model prog w) c.A (compareOp op (.int a t) (.int b u)) Q NoE s) : Cmps prog c vs news P e₁ op e₂ p :=
  fun P₀ s Q hP S k => h₁.bindI hP S fun P₁ t s₁ k₁ S₁ => h₂.bindI (hP.trans k₁) S₁ fun P₂ u s₂ k₂ S₂ => hop t u s₂ _ (k P₂ s₂ _ (k₁.trans k₂) S₂ decide_eq_true_iff)
theorem Cmps.eq (h₁ : Gives prog c vs news P e₁ (IsI a)) (h₂ : Gives prog c vs news P e₂ (IsI b)) : Cmps prog c vs news P e₁ .Eq e₂ (a = b) := .intI h₁ h₂ fun t u s Q h => eq_int (by rw [show (a == b) = decide (a = b) from by rw [Bool.eq_iff_iff]; simp]; exact h)
theorem Cmps.ne (h₁ : Gives prog c vs news P e₁ (IsI a)) (h₂ : Gives prog c vs news P e₂ (IsI b)) : Cmps prog c vs news P e₁ .NotEq e₂ (a ≠ b) := .intI h₁ h₂ fun t u s Q h => ne_int (by rw [show (a != b) = decide (a ≠ b) from by rw [Bool.eq_iff_iff]; simp]; exact h)
theorem Cmps.lt (h₁ : Gives prog c vs news P e₁ (IsI a)) (h₂ : Gives prog c vs news P e₂ (IsI b)) : Cmps prog c vs news P e₁ .Lt e₂ (a < b) := .intI h₁ h₂ fun t u s Q h => lt_int h
theorem Cmps.le (h₁ : Gives prog c vs news P e₁ (IsI a)) (h₂ : Gives prog c vs news P e₂ (IsI b)) : Cmps prog c vs news P e₁ .LtE e₂ (a ≤ b) := .intI h₁ h₂ fun t u s Q h => le_int h
theorem Cmps.gt (h₁ : Gives prog c vs news P e₁ (IsI a)) (h₂ : Gives prog c vs news P e₂ (IsI b)) : Cmps prog c vs news P e₁ .Gt e₂ (a > b) := .intI h₁ h₂ fun t u s Q h => gt_int h

theorem Tests.bind {p : Prop} {Q : Bool → Shared → Prop} (h : Tests prog c vs news P e p) (hP : Sub P P₀) (S : Sc c vs news P₀ s) (k : ∀ P' q s', Sub P₀ P' → Sc c vs news P' s' → (q = true ↔ p) → Q q s') : wpAny (model prog w) c.A (isTrue e c.env (eval e c.env)) Q E s :=
  noE (wpAny_mono (h P₀ s hP S) (fun v s' x => x.casesOn fun P' a b r => k P' v s' a b r) fun _ _ x => x)
theorem Tests.bind2 {p : Prop} {Q : Bool → Shared → Prop} (h : Tests prog c vs news P e p) (hP : Sub P P₀) (S : Sc c vs news P₀ s) (k1 : p → ∀ P' s', Sub P₀ P' → Sc c vs news P' s' → Q true s') (k0 : ¬ p → ∀ P' s', Sub P₀ P' → Sc c vs news P' s' → Q false s') : wpAny (model prog w) c.A (isTrue e c.env (eval e c.env)) Q E s :=
  h.bind hP S fun P' q s' a b hq => match q with
    | true => k1 (hq.mp rfl) P' s' a b
    | false => k0 (fun h => nomatch hq.mpr h) P' s' a b
theorem truthy_b {M : Model} {A : Around} {q : Bool} {Q : Bool → Shared → Prop} (h : Q q s) : wpAny M A (truthy (.bool q)) Q E s := wpAny_pure h
theorem Tests.cmp {op : CmpOp} {p : Prop} (h : Cmps prog c vs news P e₁ op e₂ p) (hm : behindInMarks op e₂ = false := by with_unfolding_all rfl) : Tests prog c vs news P (.Compare e₁ [op] [e₂] pos) p := fun P₀ s hP S =>
  wpAny_isTrue_Compare1 (h P₀ s _ hP S fun P' s' q k S' hq => truthy_b ⟨P', k, S', hq⟩) hm
theorem Gives.cmp {op : CmpOp} {p : Prop} (h : Cmps prog c vs news P e₁ op e₂ p) (hm : behindInMarks op e₂ = false := by with_unfolding_all rfl) : Gives prog c vs news P (.Compare e₁ [op] [e₂] pos) (IsB p) := fun P₀ s hP S =>
  wpAny_Compare1 (h P₀ s _ hP S fun P' s' q k S' hq => ⟨P', k, S', q, rfl, hq⟩) hm
theorem TP.up {p : Prop} {b : Bool} {P₁ : Heap} (h : Sub P P₁) (x : TP c vs news P₁ p b s) : TP c vs news P p b s := x.casesOn fun P' a d r => .mk P' (h.trans a) d r
theorem Tests.and {p q : Prop} (h₁ : Tests prog c vs news P e₁ p) (h₂ : p → Tests prog c vs news P e₂ q) : Tests prog c vs news P (.BoolOp .And [e₁, e₂] pos) (p ∧ q) := fun P₀ s hP S =>
  isTrue_and (h₁.bind2 hP S
    (fun hp P₁ s₁ k₁ S₁ => isTrue_and ((h₂ hp).bind2 (hP.trans k₁) S₁
      (fun hq P₂ s₂ k₂ S₂ => isTrue_and_nil ⟨P₂, k₁.trans k₂, S₂, iff_of_true rfl ⟨hp, hq⟩⟩)
      fun hq P₂ s₂ k₂ S₂ => ⟨P₂, k₁.trans k₂, S₂, iff_of_false Bool.false_ne_true fun h => hq h.2⟩))
    fun hp P₁ s₁ k₁ S₁ => ⟨P₁, k₁, S₁, iff_of_false Bool.false_ne_true fun h => hp h.1⟩)
theorem Tests.or {p q : Prop} (h₁ : Tests prog c vs news P e₁ p) (h₂ : ¬ p → Tests prog c vs news P e₂ q) : Tests prog c vs news P (.BoolOp .Or [e₁, e₂] pos) (p ∨ q) := fun P₀ s hP S =>
  isTrue_or (h₁.bind2 hP S (fun hp P₁ s₁ k₁ S₁ => ⟨P₁, k₁, S₁, iff_of_true rfl (.inl hp)⟩)
    fun hp P₁ s₁ k₁ S₁ => isTrue_or ((h₂ hp).bind2 (hP.trans k₁) S₁
      (fun hq P₂ s₂ k₂ S₂ => ⟨P₂, k₁.trans k₂, S₂, iff_of_true rfl (.inr hq)⟩)
      fun hq P₂ s₂ k₂ S₂ => isTrue_or_nil ⟨P₂, k₁.trans k₂, S₂, iff_of_false Bool.false_ne_true fun h => h.elim hp hq⟩))

/-! loads -/
theorem Gives.attr {o C : Addr} {es : List DictEntry} {name : Str} (h : Gives prog c vs news P e (IsV (.ref o))) (hi : Held c vs news P fun h => Inst h o C es) (ok : attrOk (K w.params) C name = true)
    (hl : getL name es = some (some v)) (hv : handedIn v = true)
    (he : eval (.Attribute e name pos) c.env = (do
      let o ← eval e c.env
      standAt pos.atName
      let r ← holding [o] (getAttr o name true)
      letTemporaryGo e o r
      pure r) := by with_unfolding_all rfl) : Gives prog c vs news P (.Attribute e name pos) (IsV v) := fun P₀ s hP S =>
  Attribute_any_ (h.bindV hP S fun P₁ s₁ k₁ S₁ => q_field S₁ (hi _ _ (hP.trans k₁) S₁) ok hl hv fun s' S' => ⟨P₁, k₁, S', rfl⟩) he
theorem Gives.item {l : Addr} {items : List Value} {i : Int} (h : Gives prog c vs news P e₁ (IsV (.ref l))) (hk : Gives prog c vs news P e₂ (IsI i)) (hl : Held c vs news P fun h => h.IsList l items.toArray) (h0 : 0 ≤ i) (h1 : i < 2 ^ 63)
    (hx : items[i.toNat]? = some v) (hs : ∀ u : Tok, subscripted e₂ false (.ref l) (.int i u) = operate [.ref l, .int i u] (getItem (.ref l) (.int i u)) := by intro _; with_unfolding_all rfl) : Gives prog c vs news P (.Subscript e₁ e₂ pos) (IsV v) := fun P₀ s hP S =>
  Subscript_ (h.bindV hP S fun P₁ s₁ k₁ S₁ => hk.bindI (hP.trans k₁) S₁ fun P₂ u s₂ k₂ S₂ =>
    q_item (hl _ _ (hP.trans (k₁.trans k₂)) S₂) h0 h1 (List.getElem?_toArray.trans hx) ⟨P₂, k₁.trans k₂, S₂, rfl⟩ (hs u))
theorem Gives.itemT {l : Addr} {items : List Value} {i : Int} {j : Nat} (h : Gives prog c vs news P e₁ (IsV (.ref l))) (hk : Gives prog c vs news P e₂ (IsI i)) (hl : Held c vs news P fun h => IsTup h l items.toArray) (h0 : -(2 ^ 63) ≤ i) (h1 : i < 2 ^ 63)
    (hj : seqIndex? i items.length = some j) (hx : items[j]? = some v) (hs : ∀ u : Tok, subscripted e₂ false (.ref l) (.int i u) = operate [.ref l, .int i u] (getItem (.ref l) (.int i u)) := by intro _; with_unfolding_all rfl) : Gives prog c vs news P (.Subscript e₁ e₂ pos) (IsV v) := fun P₀ s hP S =>
  Subscript_ (h.bindV hP S fun P₁ s₁ k₁ S₁ => hk.bindI (hP.trans k₁) S₁ fun P₂ u s₂ k₂ S₂ =>
    q_itemT (hl _ _ (hP.trans (k₁.trans k₂)) S₂) h0 h1 hj hx ⟨P₂, k₁.trans k₂, S₂, rfl⟩ (hs u))

/-! calls of built-in functions -/
theorem star {e : Expr} {r : List Expr} {env : Env} (h : isStarred e = false) : starEach (e :: r) env = (false, eval e env) :: starEach r env := by
  cases e <;> first | rfl | exact nomatch h
theorem starAny {e : Expr} {env : Env} (h : isStarred e = false) : (backTo pos (starEach [e] env)).any (·.1) = false := by rw [star h]; rfl
theorem Gives.bcall1 {id : String} (hf : Gives prog c vs news P (.Name fx fp) (IsV (.builtin id))) (h₁ : Gives prog c vs news P e₁ R₁)
    (hop : ∀ (P₀ : Heap) (v₁ : Value) (s : Shared) (Q : Value → Shared → Prop), Sub P P₀ → Sc c vs news P₀ s → R₁ P₀ v₁ → (∀ v s' P', Sub P₀ P' → Sc c vs news P' s' → R P' v → Q v s') → wpAny (model prog w) c.A (call (.builtin id) [v₁]) Q NoE s)
    (h1 : isStarred e₁ = false := by rfl)
    : Gives prog c vs news P (.Call (.Name fx fp) [e₁] [] pos) R := fun P₀ s hP S =>
  Call_ (hf.bindV hP S fun P₁ s₁ k₁ S₁ =>
    callWith_builtin1 (args_cons (h₁.bind (hP.trans k₁) S₁ fun P₂ v₂ s₂ k₂ S₂ r₂ => args_nil (hop P₂ v₂ s₂ _ (hP.trans (k₁.trans k₂)) S₂ r₂ fun v s' P' k' S' r' => ⟨P', k₁.trans (k₂.trans k'), S', r'⟩)) (star h1)) (star h1))
theorem Gives.bcall1V {id : String} (hf : Gives prog c vs news P (.Name fx fp) (IsV (.builtin id))) (h₁ : Gives prog c vs news P e₁ (IsV u))
    (hop : ∀ (P₀ : Heap) (s : Shared) (Q : Value → Shared → Prop), Sub P P₀ → Sc c vs news P₀ s → (∀ v s', Sc c vs news P₀ s' → R P₀ v → Q v s') → wpAny (model prog w) c.A (call (.builtin id) [u]) Q NoE s)
    (h1 : isStarred e₁ = false := by rfl)
    : Gives prog c vs news P (.Call (.Name fx fp) [e₁] [] pos) R :=
  .bcall1 hf h₁ (fun P₀ v₁ s Q hP S r k => by subst r; exact hop P₀ s Q hP S fun v s' S' r' => k v s' P₀ (.refl _) S' r') h1
theorem Gives.bcall2 {id : String} (hf : Gives prog c vs news P (.Name fx fp) (IsV (.builtin id))) (h₁ : Gives prog c vs news P e₁ R₁) (h₂ : Gives prog c vs news P e₂ R₂) (m₁ : Mono R₁)
    (hop : ∀ (P₀ : Heap) (v₁ v₂ : Value) (s : Shared) (Q : Value → Shared → Prop), Sub P P₀ → Sc c vs news P₀ s → R₁ P₀ v₁ → R₂ P₀ v₂ → (∀ v s' P', Sub P₀ P' → Sc c vs news P' s' → R P' v → Q v s') → wpAny (model prog w) c.A (call (.builtin id) [v₁, v₂]) Q NoE s)
    (h1 : isStarred e₁ = false := by rfl) (h2 : isStarred e₂ = false := by rfl)
    : Gives prog c vs news P (.Call (.Name fx fp) [e₁, e₂] [] pos) R := fun P₀ s hP S =>
  Call_ (hf.bindV hP S fun P₁ s₁ k₁ S₁ =>
    callWith_builtin1 (args_cons (h₁.bind (hP.trans k₁) S₁ fun P₂ v₂ s₂ k₂ S₂ r₂ => args_cons (h₂.bind (hP.trans (k₁.trans k₂)) S₂ fun P₃ v₃ s₃ k₃ S₃ r₃ => args_nil
      (hop P₃ v₂ v₃ s₃ _ (hP.trans (k₁.trans (k₂.trans k₃))) S₃ (m₁ _ _ _ k₃ r₂) r₃ fun v s' P' k' S' r' => ⟨P', k₁.trans (k₂.trans (k₃.trans k')), S', r'⟩)) (star h2)) (star h1)) (star h1) (starAny h2))
theorem Gives.len {l : Addr} {items : List Value} (hf : Gives prog c vs news P (.Name fx fp) (IsV (.builtin "len"))) (h₁ : Gives prog c vs news P e₁ (IsV (.ref l))) (hl : Held c vs news P fun h => h.IsList l items.toArray) (hz : items.length < 2 ^ 40)
    (h1 : isStarred e₁ = false := by rfl)
    : Gives prog c vs news P (.Call (.Name fx fp) [e₁] [] pos) (IsI items.length) :=
  .bcall1V hf h₁ (fun P₀ s Q hP S k => q_len S (hl _ _ hP S) hz fun t s' S' => k _ s' S' ⟨t, rfl⟩) h1
theorem Gives.lenT {l : Addr} {items : List Value} (hf : Gives prog c vs news P (.Name fx fp) (IsV (.builtin "len"))) (h₁ : Gives prog c vs news P e₁ (IsV (.ref l))) (hl : Held c vs news P fun h => IsTup h l items.toArray) (hz : items.length < 2 ^ 40)
    (h1 : isStarred e₁ = false := by rfl)
    : Gives prog c vs news P (.Call (.Name fx fp) [e₁] [] pos) (IsI items.length) :=
  .bcall1V hf h₁ (fun P₀ s Q hP S k => q_lenT S (hl _ _ hP S) hz fun t s' S' => k _ s' S' ⟨t, rfl⟩) h1
theorem Gives.bcallII {id : String} {r : Int} (hf : Gives prog c vs news P (.Name fx fp) (IsV (.builtin id))) (h₁ : Gives prog c vs news P e₁ (IsI a)) (h₂ : Gives prog c vs news P e₂ (IsI b))
    (hop : ∀ (P₀ : Heap) (t u : Tok) (s : Shared) (Q : Value → Shared → Prop), Sc c vs news P₀ s → (∀ t s', Sc c vs news P₀ s' → Q (.int r t) s') → wpAny (model prog w) c.A (call (.builtin id) [.int a t, .int b u]) Q NoE s)
    (h1 : isStarred e₁ = false) (h2 : isStarred e₂ = false)
    : Gives prog c vs news P (.Call (.Name fx fp) [e₁, e₂] [] pos) (IsI r) :=
  .bcall2 hf h₁ h₂ mono_I (fun P₀ v₁ v₂ s Q hP S r₁ r₂ k => by obtain ⟨t, rfl⟩ := r₁; obtain ⟨u, rfl⟩ := r₂; exact hop P₀ t u s Q S fun t' s' S' => k _ s' P₀ (.refl _) S' ⟨t', rfl⟩) h1 h2
theorem Gives.max2 (hf : Gives prog c vs news P (.Name fx fp) (IsV (.builtin "max"))) (h₁ : Gives prog c vs news P e₁ (IsI a)) (h₂ : Gives prog c vs news P e₂ (IsI b))
    (h1 : isStarred e₁ = false := by rfl) (h2 : isStarred e₂ = false := by rfl)
    : Gives prog c vs news P (.Call (.Name fx fp) [e₁, e₂] [] pos) (IsI (max a b)) :=
  .bcallII hf h₁ h₂ (fun P₀ t u s Q S k => q_max2 S c.hA k) h1 h2
theorem Gives.min2 (hf : Gives prog c vs news P (.Name fx fp) (IsV (.builtin "min"))) (h₁ : Gives prog c vs news P e₁ (IsI a)) (h₂ : Gives prog c vs news P e₂ (IsI b))
    (h1 : isStarred e₁ = false := by rfl) (h2 : isStarred e₂ = false := by rfl)
    : Gives prog c vs news P (.Call (.Name fx fp) [e₁, e₂] [] pos) (IsI (min a b)) :=
  .bcallII hf h₁ h₂ (fun P₀ t u s Q S k => q_min2 S c.hA k) h1 h2
inductive SealNew (K : Params → Frag) (w : World) (g : Gh) (P : Heap) (L : Addr) (s : Shared) (m : Str → Option Value) (news : List (Addr × Obj)) (D : Addr) (o : Obj) : Prop
  | mk (P' : Heap) : Sub P P' → P'.get? D = some o → St K w g P' L s m news → SealNew K w g P L s m news D o
theorem St.sealNew {D : Addr} {o : Obj} {m : Str → Option Value} {L : Addr} (S : St K w g P L s m ((D, o) :: news)) : SealNew K w g P L s m news D o := by
  have hn := List.nodup_cons.mp (by have := S.nd; rwa [List.map_cons] at this)
  obtain ⟨P', h1, h2, -, h4⟩ := S.seal (news' := news) (fun _ h => .tail _ h) hn.2
  exact ⟨P', h1, h2 _ (.head _) hn.1, h4⟩
/-- a list, a tuple from nothing that stays as it is -/
theorem St.newList {items : List Value} {Q : Value → Shared → Prop} {A : Around} (S : Sc c vs news P s) (k : ∀ D s' P', Sub P P' → P'.get? D = some (W.listOf items.toArray 0) → Sc c vs news P' s' → Q (.ref D) s') (hz : items.length ≤ 100) : wpAny (model prog w) A (newList items) Q E s :=
  q_newList S (fun D s' S' => S'.sealNew.casesOn fun P' h1 h2 h3 => k D s' P' h1 h2 h3) hz
theorem St.newTuple {items : List Value} {Q : Value → Shared → Prop} {A : Around} (S : Sc c vs news P s) (k : ∀ D s' P', Sub P P' → IsTup P' D items.toArray → Sc c vs news P' s' → Q (.ref D) s') (hz : items.length ≤ 100) : wpAny (model prog w) A (newTuple items) Q E s :=
  q_newTuple S (fun D s' S' => S'.sealNew.casesOn fun P' h1 h2 h3 => k D s' P' h1 ⟨_, h2, rfl, 0, rfl⟩ h3) hz
inductive IsT2 (R₁ R₂ : Heap → Value → Prop) (h : Heap) : Value → Prop
  | mk (T v₁ v₂) : IsTup h T #[v₁, v₂] → R₁ h v₁ → R₂ h v₂ → IsT2 R₁ R₂ h (.ref T)
theorem Gives.tupG {kd : Nat} (h₁ : Gives prog c vs news P e₁ R₁) (h₂ : Gives prog c vs news P e₂ R₂) (m₁ : Mono R₁) (m₂ : Mono R₂)
    (h1 : isStarred e₁ = false := by rfl) (h2 : isStarred e₂ = false := by rfl) :
    Gives prog c vs news P (.Tuple [e₁, e₂] kd pos) (IsT2 R₁ R₂) := fun P₀ s hP S =>
  Tuple_ (args_cons (h₁.bind hP S fun P₁ v₁ s₁ k₁ S₁ r₁ => args_cons (h₂.bind (hP.trans k₁) S₁ fun P₂ v₂ s₂ k₂ S₂ r₂ => args_nil (S₂.newTuple (fun T s₃ P₃ k₃ hT S₄ =>
    ⟨P₃, k₁.trans (k₂.trans k₃), S₄, .mk T v₁ v₂ hT (m₁ _ _ _ (k₂.trans k₃) r₁) (m₂ _ _ _ k₃ r₂)⟩) (Nat.le_of_ble_eq_true rfl))) (star h2)) (star h1))
theorem Gives.tup2 {kd : Nat} (h₁ : Gives prog c vs news P e₁ (IsI a)) (h₂ : Gives prog c vs news P e₂ (IsI b))
    (h1 : isStarred e₁ = false := by rfl) (h2 : isStarred e₂ = false := by rfl) :
    Gives prog c vs news P (.Tuple [e₁, e₂] kd pos) (fun P' v => PairV P' v (a, b)) :=
  (Gives.tupG h₁ h₂ mono_I mono_I h1 h2).weaken fun h v x => by
    refine x.casesOn fun T v₁ v₂ i r₁ r₂ => ?_
    obtain ⟨t, rfl⟩ := r₁
    obtain ⟨u, rfl⟩ := r₂
    exact .mk T t u i
end
end Mine

end PartBaseO
section PartBaseQ
open PySem PySem.W PySem.Spec PySem.Calls PyProof.Rows
set_option Elab.async false
set_option linter.unusedVariables false
namespace Mine
section
variable {prog : Program} {K : Params → Frag} {w : World} {g : Gh} {sg : Sg} {c : Ct K w g sg} {fx fy : Str} {fp fq : Pos} {E : Value → Shared → Prop}
variable {vs vs' vs'' : List (Option Value)} {news news' : List (Addr × Obj)} {P P₀ : Heap} {s : Shared} {x y : Str} {v u : Value} {pos pos' : Pos} {e e₁ e₂ : Expr} {R R₁ R₂ R' : Heap → Value → Prop} {a b : Int} {t : Tok}
variable {rest body orelse : List Stmt} {Q : Flow → Shared → Prop}

theorem LUpd.at {a : Addr} {o o' : Obj} : ∀ {news : List (Addr × Obj)} (j : Nat), news[j]? = some (a, o) → LUpd a o o' news (news.set j (a, o'))
  | p :: r, 0, h => by cases h; exact .here
  | p :: r, j + 1, h => .there (LUpd.at j h)

/-! statements -/
theorem X.nil (h : Q .next s) : Go prog c [] Q s := wpAny_execs_nil h
/-- what is left to do after a branch -/
noncomputable def JP (prog : Program) (c : Ct K w g sg) (rest : List Stmt) (Q : Flow → Shared → Prop) (f : Flow) (s : Shared) : Prop := match f with | .next => Go prog c rest Q s | f => Q f s
theorem X.jp {rest₂ : List Stmt} {Q₂ : Flow → Shared → Prop} (h : Go prog c rest₂ Q₂ s) : Go prog c [] (JP prog c rest₂ Q₂) s := wpAny_execs_nil h
theorem Go.cons {st : Stmt} (h : wpAny (model prog w) c.A (exec st c.env) (JP prog c rest Q) NoE s) : Go prog c (st :: rest) Q s :=
  wpAny_execs_cons (wpAny_mono h (fun f _ h => by cases f <;> exact h) fun _ _ x => x)
theorem X.assign (i : Nat) (h : Gives prog c vs news P e R) (S : Sc c vs news P s) (hx : sg.ns[i]? = some x) (hl : vs.length = sg.ns.length)
    (k : ∀ P' v s', Sub P P' → R P' v → (let V := vs.set i (some v); Sc c V news P' s' → Go prog c rest Q s'))
    (hs : swapsWith e (some (.Name x pos')) pos.line c.env = pure false := by rfl) : Go prog c (.Assign [.Name x pos'] e pos :: rest) Q s :=
  Go.cons (wpAny_Assign_Name (h.bind (.refl _) S fun P' v s' hP S' r => q_store S' c.V (vec_set i hx hl) fun s₂ S₂ => k P' v s₂ hP r S₂) hs)
theorem X.assignI (i : Nat) (h : Gives prog c vs news P e (IsI a)) (S : Sc c vs news P s) (hx : sg.ns[i]? = some x) (hl : vs.length = sg.ns.length)
    (k : ∀ P' t s', Sub P P' → (let V := vs.set i (some (.int a t)); Sc c V news P' s' → Go prog c rest Q s'))
    (hs : swapsWith e (some (.Name x pos')) pos.line c.env = pure false := by rfl) : Go prog c (.Assign [.Name x pos'] e pos :: rest) Q s :=
  Go.cons (wpAny_Assign_Name (h.bindI (.refl _) S fun P' t s' hP S' => q_store S' c.V (vec_set i hx hl) fun s₂ S₂ => k P' t s₂ hP S₂) hs)
theorem X.retV (h : Gives prog c vs news P e (IsV u)) (S : Sc c vs news P s) (k : ∀ P' s', Sub P P' → Sc c vs news P' s' → Q (.ret u) s') : Go prog c (.Return (some e) pos :: rest) Q s :=
  Go.cons (wpAny_Return_some (h.bindV (.refl _) S fun P' s' hP S' => k P' s' hP S'))
theorem X.retI (h : Gives prog c vs news P e (IsI a)) (S : Sc c vs news P s) (k : ∀ P' t s', Sub P P' → Sc c vs news P' s' → Q (.ret (.int a t)) s') : Go prog c (.Return (some e) pos :: rest) Q s :=
  Go.cons (wpAny_Return_some (h.bindI (.refl _) S fun P' t s' hP S' => k P' t s' hP S'))
theorem X.ret (h : Gives prog c vs news P e R) (S : Sc c vs news P s) (k : ∀ P' v s', Sub P P' → R P' v → Sc c vs news P' s' → Q (.ret v) s') : Go prog c (.Return (some e) pos :: rest) Q s :=
  Go.cons (wpAny_Return_some (h.bind (.refl _) S fun P' v s' hP S' r => k P' v s' hP r S'))
theorem X.ifs {p : Prop} (h : Tests prog c vs news P e p) (S : Sc c vs news P s) (k1 : p → ∀ P' s', Sub P P' → Sc c vs news P' s' → Go prog c body (JP prog c rest Q) s')
    (k2 : ¬ p → ∀ P' s', Sub P P' → Sc c vs news P' s' → Go prog c orelse (JP prog c rest Q) s') : Go prog c (.If e body orelse pos :: rest) Q s :=
  Go.cons (wpAny_If (h.bind2 (.refl _) S k1 k2))
/-- a test that may set one int -/
theorem set_same {i : Nat} (hv : vs[i]? = some (some v)) : vs.set i (some v) = vs := by
  obtain ⟨h, e⟩ := List.getElem?_eq_some_iff.mp hv
  rw [← e, List.set_getElem_self]
theorem X.ifSet {p : Prop} [Decidable p] (i : Nat) (h : Tests prog c vs news P e p) (h1 : p → Gives prog c vs news P e₁ (IsI b)) (S : Sc c vs news P s) (hx : sg.ns[i]? = some x) (hl : vs.length = sg.ns.length) (hv : vs[i]? = some (some (.int a t)))
    (k : ∀ P' t s', Sub P P' → Sc c (vs.set i (some (.int (if p then b else a) t))) news P' s' → Go prog c rest Q s')
    (hs : swapsWith e₁ (some (.Name x pos')) pos.line c.env = pure false := by rfl) : Go prog c (.If e [.Assign [.Name x pos'] e₁ pos] [] pos'' :: rest) Q s :=
  X.ifs h S (fun hp P' s' hP S' => X.assignI i ((h1 hp).more hP) S' hx hl (fun P₂ t' s₂ hP₂ S₂ => X.jp (k P₂ t' s₂ (hP.trans hP₂) (by rw [if_pos hp]; exact S₂))) hs)
    fun hp P' s' hP S' => X.jp (k P' t s' hP (by rw [if_neg hp, set_same hv]; exact S'))
theorem X.aug (i : Nat) (S : Sc c vs news P s) (h : Gives prog c vs news P e (IsI b)) (hx : sg.ns[i]? = some x) (hl : vs.length = sg.ns.length) (hv : vs[i]? = some (some (.int a t)))
    (k : ∀ P' t s', Sub P P' → Sc c (vs.set i (some (.int (a + b) t))) news P' s' → Go prog c rest Q s') :
    Go prog c (.AugAssign (.Name x pos') .Add e pos :: rest) Q s :=
  Go.cons (wpAny_AugAssign_Name (q_localN S c.V (vec_at i c.V.nd hx hv) (h.bindI (.refl _) S fun P' t' s' hP S' =>
    q_iadd S' fun t₂ s₂ S₂ => q_store S₂ c.V (vec_set i hx hl) fun s₃ S₃ => k P' t₂ s₃ hP S₃)))
theorem X.while (I : Nat → Shared → Prop) (n : Nat) (h0 : I n s)
    (turn : ∀ n s' (Φ : Flow → Shared → Prop) (T : Bool → Shared → Prop), (∀ {n' s₂}, n' < n → I n' s₂ → Φ .next s₂) → (∀ {s₂}, Go prog c body Φ s₂ → T true s₂) → (∀ {s₂}, Go prog c rest Q s₂ → T false s₂) → I n s' → wpAny (model prog w) c.A (isTrue e c.env (eval e c.env)) T NoE s') :
    Go prog c (.While e body [] pos :: rest) Q s :=
  wpAny_execs_cons (q_while I n h0 fun n s' hI => turn n s' _ _ (fun hn h => ⟨_, hn, h⟩) id id hI)
theorem X.test {p : Prop} {T : Bool → Shared → Prop} {st₁ st₀ : List Stmt} {Q₁ Q₀ : Flow → Shared → Prop} (h : Tests prog c vs news P e p) (S : Sc c vs news P s) (t1 : ∀ {s₂}, Go prog c st₁ Q₁ s₂ → T true s₂) (t0 : ∀ {s₂}, Go prog c st₀ Q₀ s₂ → T false s₂)
    (k1 : p → ∀ P' s', Sub P P' → Sc c vs news P' s' → Go prog c st₁ Q₁ s') (k2 : ¬ p → ∀ P' s', Sub P P' → Sc c vs news P' s' → Go prog c st₀ Q₀ s') :
    wpAny (model prog w) c.A (isTrue e c.env (eval e c.env)) T NoE s :=
  h.bind2 (.refl _) S (fun hp P' s' hP S' => t1 (k1 hp P' s' hP S')) fun hp P' s' hP S' => t0 (k2 hp P' s' hP S')
/-- two names at once, of a written pair -/
theorem X.assign2 {px py tp p2 : Pos} {kk k2 : Nat} (i j : Nat) (h₁ : Gives prog c vs news P e₁ R₁) (h₂ : Gives prog c vs news P e₂ R₂) (m₁ : Mono R₁) (S : Sc c vs news P s) (hx : sg.ns[i]? = some x) (hy : sg.ns[j]? = some y) (hl : vs.length = sg.ns.length)
    (k : ∀ P' v₁ v₂ s', Sub P P' → R₁ P' v₁ → R₂ P' v₂ → (let V := (vs.set j (some v₂)).set i (some v₁); Sc c V news P' s' → Go prog c rest Q s'))
    (hln : (px.line == py.line) = true := by rfl) (hne : (x == y) = false := by decide) (h1 : (isStarred e₁ || isStarred e₂) = false := by rfl)
    (hf : (foldedForSure 8 e₁ && foldedForSure 8 e₂) = false := by rfl) (hc : (constantsAlone 8 e₁ && constantsAlone 8 e₂) = false := by rfl)
    (hs : swapsWithSole [.Tuple [.Name x px, .Name y py] kk tp] (.Tuple [e₁, e₂] k2 p2) pos.line c.env = pure false := by rfl)
    (a1 : isStarred e₁ = false := by rfl) (a2 : isStarred e₂ = false := by rfl) :
    Go prog c (.Assign [.Tuple [.Name x px, .Name y py] kk tp] (.Tuple [e₁, e₂] k2 p2) pos :: rest) Q s :=
  Go.cons (q_assignT2 c.V (List.mem_of_getElem? hx) (List.mem_of_getElem? hy) hln hne h1 hf hc hs (args_cons (h₁.bind (.refl _) S fun P₁ v₁ s₁ k₁ S₁ r₁ => args_cons (h₂.bind k₁ S₁ fun P₂ v₂ s₂ k₂ S₂ r₂ => args_nil
    (q_swap2 S₂ c.V c.hA (vec_set j hy hl) (vec_set i hx (by rw [List.length_set]; exact hl)) fun s₃ S₃ => k P₂ v₁ v₂ s₃ (k₁.trans k₂) (m₁ _ _ _ k₂ r₁) r₂ S₃)) (star a2)) (star a1)))
theorem X.unpack {px py tp : Pos} {kk : Nat} {T : Addr} (i j : Nat) (h : Gives prog c vs news P e (IsV (.ref T))) (ht : Held c vs news P fun h => IsTup h T #[v, u]) (S : Sc c vs news P s) (hx : sg.ns[i]? = some x) (hy : sg.ns[j]? = some y) (hl : vs.length = sg.ns.length)
    (k : ∀ P' s', Sub P P' → Sc c ((vs.set i (some v)).set j (some u)) news P' s' → Go prog c rest Q s')
    (he : exec (.Assign [.Tuple [.Name x px, .Name y py] kk tp] e pos) c.env = (do standAt pos; let v ← eval e c.env; PySem.assign (.Tuple [.Name x px, .Name y py] kk tp) c.env v; pure .next) := by with_unfolding_all rfl) :
    Go prog c (.Assign [.Tuple [.Name x px, .Name y py] kk tp] e pos :: rest) Q s := by
  refine Go.cons ?_
  rw [he]
  refine wpAny_bind (wpAny_standAt (wpAny_bind (h.bindV (.refl _) S fun P₁ s₁ k₁ S₁ => ?_)))
  exact wpAny_bind (q_unpack2 c.hA c.V S₁ (ht _ _ k₁ S₁) (vec_set i hx hl) (vec_set j hy (by rw [List.length_set]; exact hl)) fun s₂ S₂ => wpAny_pure (k P₁ s₂ k₁ S₂))
theorem X.assignV (i : Nat) (h : Gives prog c vs news P e (IsV u)) (S : Sc c vs news P s) (hx : sg.ns[i]? = some x) (hl : vs.length = sg.ns.length)
    (k : ∀ P' s', Sub P P' → (let V := vs.set i (some u); Sc c V news P' s' → Go prog c rest Q s'))
    (hs : swapsWith e (some (.Name x pos')) pos.line c.env = pure false := by rfl) : Go prog c (.Assign [.Name x pos'] e pos :: rest) Q s :=
  Go.cons (wpAny_Assign_Name (h.bindV (.refl _) S fun P' s' hP S' => q_store S' c.V (vec_set i hx hl) fun s₂ S₂ => k P' s₂ hP S₂) hs)
/-- a list from nothing -/
theorem X.newList (i : Nat) (S : Sc c vs news P s) (hx : sg.ns[i]? = some x) (hl : vs.length = sg.ns.length)
    (k : ∀ D s', Sc c (vs.set i (some (.ref D))) ((D, W.listOf ([] : List Value).toArray 0) :: news) P s' → Go prog c rest Q s')
    (hs : swapsWith (.List [] pos) (some (.Name x pos')) pos₂.line c.env = pure false := by rfl) : Go prog c (.Assign [.Name x pos'] (.List [] pos) pos₂ :: rest) Q s :=
  Go.cons (wpAny_Assign_Name (List_ (args_nil (q_newList S (fun D s' S' => q_store S' c.V (vec_set i hx hl) fun s₂ S₂ => k D s₂ S₂) (Nat.zero_le _)))) hs)
/-- append to a list of the ledger -/
theorem X.append {pl : Sem Bool} {D : Addr} {its : List Value} {n : Nat} {apos cpos : Pos} (j : Nat) (hn : Gives prog c vs news P e (IsV (.ref D))) (h : Gives prog c vs news P e₁ R) (S : Sc c vs news P s) (hj : news[j]? = some (D, W.listOf its.toArray n)) (hz : its.length ≤ 1000)
    (k : ∀ P' v s', Sub P P' → R P' v → (let N := news.set j (D, W.listOf (its ++ [v]).toArray (n + 1)); Sc c vs N P' s' → Go prog c rest Q s'))
    (hs : swapsWith (.Call (.Attribute e "append" apos) [e₁] [] cpos) none pos.line c.env = pure false := by rfl)
    (h1 : isStarred e₁ = false := by rfl)
    (he : eval (.Call (.Attribute e "append" apos) [e₁] [] cpos) c.env = (do
      let ov ← eval e c.env
      standAt apos.atName
      let (f, first) ← holding [ov] (getMethod ov "append" pl)
      callWith cpos f first (backTo cpos (starEach [e₁] c.env)) []) := by rfl) :
    Go prog c (.Expr (.Call (.Attribute e "append" apos) [e₁] [] cpos) pos :: rest) Q s :=
  Go.cons (q_Expr c.V (MethodCall_ (hn.bindV (.refl _) S fun P₁ s₁ k₁ S₁ => by
    refine q_lmethod (S₁.get (List.mem_of_getElem? hj)) PySem.F.slot_list_append PySem.F.type_list_append ?_
    refine callWith_method1 (args_cons (h.bind k₁ S₁ fun P₂ v₂ s₂ k₂ S₂ r₂ => args_nil ?_) (star h1)) (star h1)
    exact q_appendL S₂ (LUpd.at j hj) hz fun s₃ S₃ => k P₂ v₂ s₃ (k₁.trans k₂) r₂ S₃) he) hs)

theorem X.appendV {pl : Sem Bool} {D : Addr} {its : List Value} {n : Nat} {apos cpos : Pos} (j : Nat) (hn : Gives prog c vs news P e (IsV (.ref D))) (h : Gives prog c vs news P e₁ (IsV u)) (S : Sc c vs news P s) (hj : news[j]? = some (D, W.listOf its.toArray n)) (hz : its.length ≤ 1000)
    (k : ∀ P' s', Sub P P' → (let N := news.set j (D, W.listOf (its ++ [u]).toArray (n + 1)); Sc c vs N P' s' → Go prog c rest Q s'))
    (hs : swapsWith (.Call (.Attribute e "append" apos) [e₁] [] cpos) none pos.line c.env = pure false := by rfl)
    (h1 : isStarred e₁ = false := by rfl)
    (he : eval (.Call (.Attribute e "append" apos) [e₁] [] cpos) c.env = (do
      let ov ← eval e c.env
      standAt apos.atName
      let (f, first) ← holding [ov] (getMethod ov "append" pl)
      callWith cpos f first (backTo cpos (starEach [e₁] c.env)) []) := by rfl) :
    Go prog c (.Expr (.Call (.Attribute e "append" apos) [e₁] [] cpos) pos :: rest) Q s :=
  X.append j hn h S hj hz (fun P' v s' hP r => by subst r; exact k P' s' hP) hs h1 he

/-! loops -/
theorem X.for {target iter : Expr} (h : Gives prog c vs news P iter R) (S : Sc c vs news P s)
    (k : ∀ P' v s', Sub P P' → R P' v → Sc c vs news P' s' → wpAny (model prog w) c.A (pyIter v) (fun it s₂ => LoopAt prog w c.A c.env target body (JP prog c rest Q) it s₂) NoE s')
    (hs : ∀ x, foldedSetIterable iter c.env x = pure x := by intro _; rfl) : Go prog c (.For target iter body [] pos :: rest) Q s :=
  Go.cons (q_for (Q := JP prog c rest Q) (h.bind (.refl _) S fun P' v s' hP S' r => k P' v s' hP r S') hs)
theorem X.forV {target iter : Expr} (h : Gives prog c vs news P iter (IsV u)) (S : Sc c vs news P s)
    (k : ∀ P' s', Sub P P' → Sc c vs news P' s' → wpAny (model prog w) c.A (pyIter u) (fun it s₂ => LoopAt prog w c.A c.env target body (JP prog c rest Q) it s₂) NoE s')
    (hs : ∀ x, foldedSetIterable iter c.env x = pure x := by intro _; rfl) : Go prog c (.For target iter body [] pos :: rest) Q s :=
  Go.cons (q_for (Q := JP prog c rest Q) (h.bindV (.refl _) S k) hs)
theorem X.next {Φ : Flow → Shared → Prop} {P₁ P₂ : Heap} {own news₂ : List (Addr × Obj)} {vs₂ : List (Option Value)} {Jn : List (Option Value) → List (Addr × Obj) → Heap → Prop}
    (hn : ∀ {P₂ vs₂ news₂ s}, Sub P₁ P₂ → Sc c vs₂ (news₂ ++ own) P₂ s → Jn vs₂ news₂ P₂ → Φ .next s) (hP : Sub P₁ P₂) (S : Sc c vs₂ (news₂ ++ own) P₂ s) (j : Jn vs₂ news₂ P₂) : Go prog c [] Φ s := wpAny_execs_nil (hn hP S j)
theorem X.forG {target : Expr} {y : Value} {n : Nat} {Pv : Nat → Value → Prop} {need : List Addr} (IT : IterTo prog w c.A K target y s n (fun i v _ => Pv i v) need) (S : Sc c vs news P s) (hneed : ∀ b ∈ need, (∃ o, P.get? b = some o) ∨ ∃ o, g.H.get? b = some o)
    (J : Nat → List (Option Value) → List (Addr × Obj) → Heap → Prop) (h0 : J 0 vs news P)
    (turn : ∀ i v s₁ vs₁ news₁ own P₁ (Φ : Flow → Shared → Prop), (∀ {P₂ vs₂ news₂ s}, Sub P₁ P₂ → Sc c vs₂ (news₂ ++ own) P₂ s → J (i + 1) vs₂ news₂ P₂ → Φ .next s) → i < n → Pv i v → Sub P P₁ → J i vs₁ news₁ P₁ → Sc c vs₁ (news₁ ++ own) P₁ s₁ →
      wpAny (model prog w) c.A (PySem.assign target c.env v) (fun _ => Go prog c body Φ) NoE s₁)
    (done : ∀ s' vs' news' P', Sub P P' → J n vs' news' P' → Sc c vs' news' P' s' → Go prog c rest Q s') :
    wpAny (model prog w) c.A (pyIter y) (fun it s₂ => LoopAt prog w c.A c.env target body (JP prog c rest Q) it s₂) NoE s :=
  q_for1 IT S hneed (fun i m news P => ∃ vs, m = vec sg.ns vs ∧ J i vs news P) ⟨vs, rfl, h0⟩ (fun i v s₁ m₁ news₁ own P₁ hi hv hP ⟨vs₁, e, j⟩ S₁ => by
    subst e
    exact turn i v s₁ vs₁ news₁ own P₁ _ (fun hP S j => .mk hP S ⟨_, rfl, j⟩) hi hv hP j S₁) fun s' m' news' P' hP ⟨vs', e, j⟩ S' => by subst e; exact done s' vs' news' P' hP j S'
theorem X.forN {px : Pos} {y : Value} {n : Nat} {Pv : Nat → Value → Prop} {need : List Addr} (ix : Nat) (hx : sg.ns[ix]? = some x) (IT : IterTo prog w c.A K (.Name x px) y s n (fun i v _ => Pv i v) need) (S : Sc c vs news P s) (hneed : ∀ b ∈ need, (∃ o, P.get? b = some o) ∨ ∃ o, g.H.get? b = some o)
    (J : Nat → List (Option Value) → List (Addr × Obj) → Heap → Prop) (hJ : ∀ i vs news P, J i vs news P → vs.length = sg.ns.length) (h0 : J 0 vs news P)
    (turn : ∀ i v s₁ vs₁ news₁ own P₁ (Φ : Flow → Shared → Prop), (∀ {P₂ vs₂ news₂ s}, Sub P₁ P₂ → Sc c vs₂ (news₂ ++ own) P₂ s → J (i + 1) vs₂ news₂ P₂ → Φ .next s) → i < n → Pv i v → Sub P P₁ → J i vs₁ news₁ P₁ → Sc c (vs₁.set ix (some v)) (news₁ ++ own) P₁ s₁ → Go prog c body Φ s₁)
    (done : ∀ s' vs' news' P', Sub P P' → J n vs' news' P' → Sc c vs' news' P' s' → Go prog c rest Q s') :
    wpAny (model prog w) c.A (pyIter y) (fun it s₂ => LoopAt prog w c.A c.env (.Name x px) body (JP prog c rest Q) it s₂) NoE s :=
  X.forG IT S hneed J h0 (fun i v s₁ vs₁ news₁ own P₁ Φ hn hi hv hP j S₁ => wpAny_assign_Name (q_store S₁ c.V (vec_set ix hx (hJ _ _ _ _ j)) fun s₂ S₂ => turn i v s₂ vs₁ news₁ own P₁ Φ hn hi hv hP j S₂)) done
theorem X.forP {px py tp : Pos} {kk : Nat} {items : List Value} {ps : List (Int × Int)} {l : Addr} (ix iy : Nat) (hx : sg.ns[ix]? = some x) (hy : sg.ns[iy]? = some y) (hl : P.IsList l items.toArray) (hp : PairsV P items ps) (S : Sc c vs news P s)
    (J : Nat → List (Option Value) → List (Addr × Obj) → Heap → Prop) (hJ : ∀ i vs news P, J i vs news P → vs.length = sg.ns.length) (h0 : J 0 vs news P)
    (turn : ∀ i p t u s₁ vs₁ news₁ own P₁ (Φ : Flow → Shared → Prop), (∀ {P₂ vs₂ news₂ s}, Sub P₁ P₂ → Sc c vs₂ (news₂ ++ own) P₂ s → J (i + 1) vs₂ news₂ P₂ → Φ .next s) → ps[i]? = some p → Sub P P₁ → J i vs₁ news₁ P₁ → Sc c ((vs₁.set ix (some (.int p.1 t))).set iy (some (.int p.2 u))) (news₁ ++ own) P₁ s₁ → Go prog c body Φ s₁)
    (done : ∀ s' vs' news' P', Sub P P' → J ps.length vs' news' P' → Sc c vs' news' P' s' → Go prog c rest Q s') :
    wpAny (model prog w) c.A (pyIter (.ref l)) (fun it s₂ => LoopAt prog w c.A c.env (.Tuple [.Name x px, .Name y py] kk tp) body (JP prog c rest Q) it s₂) NoE s := by
  refine X.forG (IterTo.list c.hA (S.lst hl)) S (fun b hb => by rw [List.mem_singleton.mp hb]; obtain ⟨o, e, _⟩ := hl; exact .inl ⟨o, e⟩) J h0 (fun i v s₁ vs₁ news₁ own P₁ Φ hn hi hv hP j S₁ => ?_) ?_
  · obtain ⟨p, hpi, a, t, u, hT⟩ := hp.getL (by simpa using hv)
    have hlen := hJ _ _ _ _ j
    exact q_unpack2 c.hA c.V S₁ ((hT.keeps hP).keeps S₁.keep) (vec_set ix hx hlen) (vec_set iy hy (by rw [List.length_set]; exact hlen)) fun s₂ S₂ => turn i p t u s₂ vs₁ news₁ own P₁ Φ hn hpi hP j S₂
  · rw [List.size_toArray, hp.length]; exact done

/-! the entry -/
noncomputable def RP (Q : Value → Shared → Prop) (f : Flow) (s : Shared) : Prop := Q (match f with | .ret v => v | _ => .none) s
theorem X.enter {f : Addr} {n : Nat} {oc : Value} {od : Option Addr} {name qual : Str} {params : Arguments} {body : List Stmt} {scope : Scope} {dV kV doc pm cdv ct : Value} {an : Option Addr} {osl : Array (Option Value)}
    {args : List Value} {Q : Value → Shared → Prop} {A : Around} {H : Heap} {mt : List (Addr × Obj)} (pn rest : List Str) (gv : List (Str × Value))
    (ho : (K w.params).lookup f = some ⟨oc, od, .func (fnX name qual params body scope [] dV kV doc pm an cdv ct), osl⟩)
    (hcd : codeIn (K w.params) cdv qual = true) (hbind : bindArgs (fnX name qual params body scope [] dV kV doc pm an cdv ct) ⟨args, []⟩ = pure (pn.zip args)) (hlen : pn.length = args.length)
    (hf : fnOk scope = true) (hn : nsOk scope (pn ++ rest) = true) (hg : glOk (K w.params) scope gv = true)
    (ao : Ao A (n + 1)) (C : Cx K w P) (hP : Sub P s.heap) (hH : Sub H s.heap)
    (hm : ∀ p ∈ mt, s.heap.get? p.1 = some p.2 ∧ H.get? p.1 = none ∧ P.get? p.1 = none) (hnd : (mt.map (·.1)).Nodup)
    (h : ∀ (c : Ct K w ⟨s, H, P⟩ ⟨pn ++ rest, gv, []⟩) s₁, Ao c.A n → Sc c (args.map some ++ rest.map fun _ => none) mt P s₁ → Go prog c body (RP Q) s₁) :
    wpAny (model prog w) A (call (.ref f) args) Q E s :=
  q_enter ho hcd hbind hlen hf hn hg rfl rfl ao C hP hH hm hnd fun env L A' s₁ V ao S => h ⟨env, A', L, V, ao.handled⟩ s₁ ao S
end
end Mine

end PartBaseQ
section PartBaseS
open PySem PySem.W PySem.Spec PySem.Calls PyProof.Rows
set_option Elab.async false
set_option linter.unusedVariables false
namespace Mine
section
variable {prog : Program} {K : Params → Frag} {w : World} {g : Gh} {sg : Sg} {c : Ct K w g sg} {fx fy : Str} {fp fq : Pos} {E : Value → Shared → Prop}
variable {vs vs' vs'' : List (Option Value)} {news news' : List (Addr × Obj)} {P P₀ : Heap} {s : Shared} {x y : Str} {v u : Value} {pos pos' : Pos} {e e₁ e₂ : Expr} {R R₁ R₂ R' : Heap → Value → Prop} {a b : Int} {t : Tok}
variable {rest body orelse : List Stmt} {Q : Flow → Shared → Prop}

/-! calls of defs -/
theorem Gives.dcall2 {f : Addr} (hf : Gives prog c vs news P (.Name fx fp) (IsV (.ref f))) (hk : keepIn (K w.params) (.ref f) = true) (h₁ : Gives prog c vs news P e₁ R₁) (h₂ : Gives prog c vs news P e₂ R₂) (m₁ : Mono R₁)
    (hop : ∀ (P₀ : Heap) (v₁ v₂ : Value) (s : Shared) (Q : Value → Shared → Prop), Sub P P₀ → Sc c vs news P₀ s → R₁ P₀ v₁ → R₂ P₀ v₂ → (∀ v s' P', Grow P₀ s P' s' → R P' v → Q v s') → wpAny (model prog w) c.A (call (.ref f) [v₁, v₂]) Q NoE s)
    (h1 : isStarred e₁ = false := by rfl) (h2 : isStarred e₂ = false := by rfl)
    : Gives prog c vs news P (.Call (.Name fx fp) [e₁, e₂] [] pos) R := fun P₀ s hP S =>
  Call_ (hf.bindV hP S fun P₁ s₁ k₁ S₁ =>
    q_callWith S₁ hk (args_cons (h₁.bind (hP.trans k₁) S₁ fun P₂ v₂ s₂ k₂ S₂ r₂ => args_cons (h₂.bind (hP.trans (k₁.trans k₂)) S₂ fun P₃ v₃ s₃ k₃ S₃ r₃ => args_nil ⟨S₃.kin,
      hop P₃ v₂ v₃ s₃ _ (hP.trans (k₁.trans (k₂.trans k₃))) S₃ (m₁ _ _ _ k₃ r₂) r₃ fun v s' P' G r' => ⟨P', k₁.trans (k₂.trans (k₃.trans G.up)), S₃.after G, r'⟩⟩) (star h2)) (star h1)) (star h1) (starAny h2))
theorem Gives.dcall1 {f : Addr} (hf : Gives prog c vs news P (.Name fx fp) (IsV (.ref f))) (hk : keepIn (K w.params) (.ref f) = true) (h₁ : Gives prog c vs news P e₁ R₁)
    (hop : ∀ (P₀ : Heap) (v₁ : Value) (s : Shared) (Q : Value → Shared → Prop), Sub P P₀ → Sc c vs news P₀ s → R₁ P₀ v₁ → (∀ v s' P', Grow P₀ s P' s' → R P' v → Q v s') → wpAny (model prog w) c.A (call (.ref f) [v₁]) Q NoE s)
    (h1 : isStarred e₁ = false := by rfl)
    : Gives prog c vs news P (.Call (.Name fx fp) [e₁] [] pos) R := fun P₀ s hP S =>
  Call_ (hf.bindV hP S fun P₁ s₁ k₁ S₁ =>
    q_callWith S₁ hk (args_cons (h₁.bind (hP.trans k₁) S₁ fun P₂ v₂ s₂ k₂ S₂ r₂ => args_nil ⟨S₂.kin,
      hop P₂ v₂ s₂ _ (hP.trans (k₁.trans k₂)) S₂ r₂ fun v s' P' G r' => ⟨P', k₁.trans (k₂.trans G.up), S₂.after G, r'⟩⟩) (star h1)) (star h1))
theorem Gives.dcallVI {f : Addr} (hf : Gives prog c vs news P (.Name fx fp) (IsV (.ref f))) (hk : keepIn (K w.params) (.ref f) = true) (h₁ : Gives prog c vs news P e₁ (IsV u)) (h₂ : Gives prog c vs news P e₂ (IsI a))
    (hop : ∀ (P₀ : Heap) (t : Tok) (s : Shared) (Q : Value → Shared → Prop), Sub P P₀ → Sc c vs news P₀ s → (∀ v s' P', Grow P₀ s P' s' → R P' v → Q v s') → wpAny (model prog w) c.A (call (.ref f) [u, .int a t]) Q NoE s)
    (h1 : isStarred e₁ = false := by rfl) (h2 : isStarred e₂ = false := by rfl)
    : Gives prog c vs news P (.Call (.Name fx fp) [e₁, e₂] [] pos) R :=
  .dcall2 hf hk h₁ h₂ mono_V (fun P₀ _ _ s Q hP S r₁ r₂ k => by subst r₁; obtain ⟨t, rfl⟩ := r₂; exact hop P₀ t s Q hP S k) h1 h2
theorem Gives.dcallVV {f : Addr} (hf : Gives prog c vs news P (.Name fx fp) (IsV (.ref f))) (hk : keepIn (K w.params) (.ref f) = true) (h₁ : Gives prog c vs news P e₁ (IsV u)) (h₂ : Gives prog c vs news P e₂ (IsV v))
    (hop : ∀ (P₀ : Heap) (s : Shared) (Q : Value → Shared → Prop), Sub P P₀ → Sc c vs news P₀ s → (∀ v s' P', Grow P₀ s P' s' → R P' v → Q v s') → wpAny (model prog w) c.A (call (.ref f) [u, v]) Q NoE s)
    (h1 : isStarred e₁ = false := by rfl) (h2 : isStarred e₂ = false := by rfl)
    : Gives prog c vs news P (.Call (.Name fx fp) [e₁, e₂] [] pos) R :=
  .dcall2 hf hk h₁ h₂ mono_V (fun P₀ _ _ s Q hP S r₁ r₂ k => by subst r₁ r₂; exact hop P₀ s Q hP S k) h1 h2
theorem Gives.tcall1 {T : String} (hf : Gives prog c vs news P (.Name fx fp) (IsV (.type T))) (h₁ : Gives prog c vs news P e₁ R₁)
    (hop : ∀ (P₀ : Heap) (v₁ : Value) (s : Shared) (Q : Value → Shared → Prop), Sub P P₀ → Sc c vs news P₀ s → R₁ P₀ v₁ → (∀ v s' P', Sub P₀ P' → Sc c vs news P' s' → R P' v → Q v s') → wpAny (model prog w) c.A (call (.type T) [v₁]) Q NoE s)
    (h1 : isStarred e₁ = false := by rfl)
    : Gives prog c vs news P (.Call (.Name fx fp) [e₁] [] pos) R := fun P₀ s hP S =>
  Call_ (hf.bindV hP S fun P₁ s₁ k₁ S₁ =>
    callWith_type1 (args_cons (h₁.bind (hP.trans k₁) S₁ fun P₂ v₂ s₂ k₂ S₂ r₂ => args_nil
      (hop P₂ v₂ s₂ _ (hP.trans (k₁.trans k₂)) S₂ r₂ fun v s' P' G S' r' => ⟨P', k₁.trans (k₂.trans G), S', r'⟩)) (star h1)) (star h1))
theorem Gives.mcall0 {pl : Sem Bool} {o C dx f : Addr} {es : List DictEntry} {n : Nat} {name : Str} {apos : Pos} (h : Gives prog c vs news P e (IsV (.ref o))) (hi : Held c vs news P fun h => h.get? o = some (instObj C dx) ∧ h.get? dx = some (dictOf es n)) (ok : methOk (K w.params) C name f = true) (hl : getL name es = some none) (hk : keepIn (K w.params) (.ref f) = true)
    (hop : ∀ (P₀ : Heap) (s : Shared) (Q : Value → Shared → Prop), Sub P P₀ → Sc c vs news P₀ s → (∀ v s' P', Grow P₀ s P' s' → R P' v → Q v s') → wpAny (model prog w) c.A (call (.ref f) [.ref o]) Q NoE s)
    (he : eval (.Call (.Attribute e name apos) [] [] pos) c.env = (do
      let ov ← eval e c.env
      standAt apos.atName
      let (f, first) ← holding [ov] (getMethod ov name pl)
      callWith pos f first (backTo pos (starEach [] c.env)) []) := by rfl) : Gives prog c vs news P (.Call (.Attribute e name apos) [] [] pos) R := fun P₀ s hP S =>
  MethodCall_ (h.bindV hP S fun P₁ s₁ k₁ S₁ =>
    q_method S₁ (hi _ _ (hP.trans k₁) S₁).1 (hi _ _ (hP.trans k₁) S₁).2 ok hl (q_callWith0 S₁ hk (hop P₁ s₁ _ (hP.trans k₁) S₁ fun v s' P' G r' => ⟨P', k₁.trans G.up, S₁.after G, r'⟩))) he

/-! what may be walked, told weaker -/
theorem Turns.weaken {A : Around} {target : Expr} {I : Addr} {oa : List Addr} {n : Nat} {Pv Pv' : Nat → Value → Heap → Prop} {Stt : Nat → Heap → Prop} {Pa Ha : Heap} (T : Turns prog w A target I oa n Pv Stt Pa Ha) (h : ∀ i v h, Pv i v h → Pv' i v h) : Turns prog w A target I oa n Pv' Stt Pa Ha :=
  let ⟨fp, Md, k, a, b⟩ := T.ex
  ⟨fp, Md, ⟨k.sub, k.frame, k.item, fun i v s Q E m hQ => k.go i v s Q E m fun h' p => hQ h' (h _ _ _ p), k.done⟩, a, b⟩
theorem IterTo.weaken {A : Around} {target : Expr} {x : Value} {n : Nat} {Pv Pv' : Nat → Value → Heap → Prop} {need : List Addr} (T : IterTo prog w A K target x s n Pv need) (h : ∀ i v h, Pv i v h → Pv' i v h) : IterTo prog w A K target x s n Pv' need :=
  ⟨T.live, fun S Q E k => T.run S Q E fun I o s' Stt h1 h2 h3 h4 h5 h6 => k I o s' Stt h1 h2 h3 (fun Pa Ha hn => (h4 Pa Ha hn).weaken h) h5 h6⟩
theorem IterTo.listL {A : Around} {target : Expr} {l : Addr} {items : List Value} (hh : A.handled = none) (hl : s.heap.IsList l items.toArray) : IterTo prog w A K target (.ref l) s items.length (fun i v _ => items[i]? = some v) [l] :=
  (IterTo.list hh hl).weaken fun i v _ h => List.getElem?_toArray.symm.trans h
theorem IterTo.tupleL {A : Around} {target : Expr} {l : Addr} {items : List Value} (hh : A.handled = none) (hl : IsTup s.heap l items.toArray) : IterTo prog w A K target (.ref l) s items.length (fun i v _ => items[i]? = some v) [l] :=
  (IterTo.tuple hh hl).weaken fun i v _ h => List.getElem?_toArray.symm.trans h
theorem IterTo.ints {A : Around} {target : Expr} {l : Addr} {items : List Value} {us : List Int} (hh : A.handled = none) (hl : s.heap.IsList l items.toArray) (hi : IntsAre items us) :
    IterTo prog w A K target (.ref l) s us.length (fun i v _ => ∃ n t, us[i]? = some n ∧ v = .int n t) [l] := by
  have T := IterTo.listL (prog := prog) (w := w) (K := K) (target := target) hh hl
  rw [hi.length] at T
  refine T.weaken fun i v _ hv => ?_
  have hlt := (List.getElem?_eq_some_iff.mp hv).1
  rw [hi.length] at hlt
  obtain ⟨t, e⟩ := hi.get i us[i] (List.getElem?_eq_getElem hlt)
  exact ⟨us[i], t, List.getElem?_eq_getElem hlt, Option.some.inj (hv.symm.trans e)⟩

/-! comprehensions -/
section
variable {oc : Option Str} {elt target iter : Expr} {ifs : List Expr} {scope : Scope} {cpos : Pos} {n : Nat} {Pv : Nat → Value → Heap → Prop} {ns' : List Str} {gv' : List (Str × Value)} {cv' : List (Str × Addr)} {J : Nat → List Value → Heap → Prop}
/-- the ledger of a comprehension under way -/
noncomputable abbrev CL (oc : Option Str) (D cl : Addr) (ys : List Value) (k : Nat) (u : Option Value) (own : List (Addr × Obj)) : List (Addr × Obj) := (D, W.listOf ys.toArray k) :: (ledOc oc cl u ++ own)
/-- what a comprehension still has to tell of an element -/
noncomputable def El (prog : Program) (c : Ct K w g sg) (e : Expr) (T : Value → Shared → Prop) (s : Shared) : Prop := wpAny (model prog w) c.A (eval e c.env) T NoE s
noncomputable def Sel (prog : Program) (c : Ct K w g sg) (ifs : List Expr) (e : Expr) (T₁ : Value → Shared → Prop) (T₀ : Shared → Prop) (s : Shared) : Prop := wpAny (model prog w) c.A (ifsOf ifs c.env) (fun ok s₃ => if ok = true then El prog c e T₁ s₃ else T₀ s₃) NoE s
/-- one turn: the name is bound; the tests and the element are to be told -/
noncomputable abbrev Turn (prog : Program) (c : Ct K w g sg) (vs : List (Option Value)) (news : List (Addr × Obj)) (P : Heap) (oc : Option Str) (elt target : Expr) (ifs : List Expr) (ns' : List Str) (gv' : List (Str × Value)) (cv' : List (Str × Addr)) (n : Nat) (Pv : Nat → Value → Heap → Prop) (J : Nat → List Value → Heap → Prop) : Prop :=
  ∀ P₀ s₀ g' cl (c' : Ct K w g' ⟨ns', gv', cvOc oc cl cv'⟩), Sub P P₀ → Sc c vs news P₀ s₀ → Sub s₀.heap g'.H → c'.A = c.A → ∀ i v s₁ ys P₁ D k vs₁ own u (T₁ : Value → Shared → Prop) (T₀ : Shared → Prop),
      (∀ {y s P₂ vs k u}, vs.length = ns'.length → Sub P₁ P₂ → Sc c' vs (CL oc D cl ys k u own) P₂ s → J (i + 1) (ys ++ [y]) P₂ → T₁ y s) → (∀ {s P₂ vs k u}, vs.length = ns'.length → Sub P₁ P₂ → Sc c' vs (CL oc D cl ys k u own) P₂ s → J (i + 1) ys P₂ → T₀ s) →
      i < n → Pv i v s₁.heap → Sub P₀ P₁ → J i ys P₁ → ys.length ≤ i → vs₁.length = ns'.length → Sc c' vs₁ (CL oc D cl ys k u own) P₁ s₁ →
      wpAny (model prog w) c'.A (PySem.assign target c'.env v) (fun _ => Sel prog c' ifs elt T₁ T₀) NoE s₁
/-- a list made by a comprehension -/
inductive Made (J : List Value → Heap → Prop) (h : Heap) : Value → Prop
  | mk (r ys k P₀) : h.get? r = some (W.listOf ys.toArray k) → Sub P₀ h → J ys P₀ → Made J h (.ref r)
theorem mono_made {J : List Value → Heap → Prop} : Mono (Made J) := fun _ _ _ k x => x.casesOn fun r ys n P₀ h a j => .mk r ys n P₀ (k _ _ h) (a.trans k) j

theorem turn1 {P' : Heap} {s' : Shared} (S : Sc c vs news P' s') (hP : Sub P P') (turn : Turn prog c vs news P oc elt target ifs ns' gv' cv' n Pv J) : CompTurn1 prog w c.A K s' P' oc elt target ifs ns' gv' cv' n Pv J :=
  fun g' hH hgP i v s₁ ys P₁ C D cl k cenv vs₁ own₁ u hi hv hP₁ hJ hyl hvs V' S' => turn P' s' g' cl ⟨cenv, c.A, C, V', c.hA⟩ hP S hH rfl i v s₁ ys P₁ D k vs₁ own₁ u _ _ (fun a b d e => .mk a b d e) (fun a b d e => .mk a b d e) hi hv hP₁ hJ hyl hvs S'
theorem Gives.comp (h : Gives prog c vs news P iter R) (hit : ∀ P' v s', Sub P P' → Sc c vs news P' s' → R P' v → ∃ need, IterTo prog w c.A K target v s' n Pv need) (hn : n ≤ 1000000)
    (hf : freeOk scope sg.cv = true) (hm : compNm scope = true) (hk : compOk (K w.params) scope ns' gv' = true) (hcl : closOf scope.names sg.cv = cv') (hch : cvChk scope oc (cv'.map (·.1)) (sg.cv.map (·.1)) = true)
    (hcs : ∀ n acc, cellsFrom n scope.names acc = cellsOc oc n acc) (hps : ∀ h, pushCells h scope.names = pushOc oc h)
    (h0 : ∀ P', Sub P P' → J 0 [] P') (turn : Turn prog c vs news P oc elt target ifs ns' gv' cv' n Pv J)
    (hs : ∀ x, foldedSetIterable iter c.env x = pure x := by intro _; rfl) : Gives prog c vs news P (.ListComp elt [⟨target, iter, ifs, 0⟩] scope cpos) (Made (J n)) := fun P₀ s hP S =>
  q_ListComp c.V hf hm (h.bind hP S fun P' v s' hP' S' r => by
    obtain ⟨need, IT⟩ := hit P' v s' (hP.trans hP') S' r
    exact q_comp1 c.V IT S' hn hk hcl hch hcs hps J (h0 P' (hP.trans hP')) (turn1 S' (hP.trans hP') turn) fun s₂ Pa Pb D ys k h1 h2 hJ hyl hD S₂ => ⟨Pb, hP'.trans h1, S₂, .mk D ys k Pa hD h2 hJ⟩) hs
theorem X.assignComp {py : Pos} (ix : Nat) (h : Gives prog c vs news P iter R) (S : Sc c vs news P s) (hx : sg.ns[ix]? = some y) (hl : vs.length = sg.ns.length) (hit : ∀ P' v s', Sub P P' → Sc c vs news P' s' → R P' v → ∃ need, IterTo prog w c.A K target v s' n Pv need) (hn : n ≤ 1000000)
    (hf : freeOk scope sg.cv = true) (hm : compNm scope = true) (hln : (py.line == cpos.line) = true) (hnc : (scope.names.any fun (n, k) => n == y && (k == .local || k == .cell)) = false)
    (hk : compOk (K w.params) scope ns' gv' = true) (hcl : closOf scope.names sg.cv = cv') (hch : cvChk scope oc (cv'.map (·.1)) (sg.cv.map (·.1)) = true)
    (hcs : ∀ n acc, cellsFrom n scope.names acc = cellsOc oc n acc) (hps : ∀ h, pushCells h scope.names = pushOc oc h)
    (h0 : ∀ P', Sub P P' → J 0 [] P') (turn : Turn prog c vs news P oc elt target ifs ns' gv' cv' n Pv J)
    (fin : ∀ P' v s', Sub P P' → Made (J n) P' v → (let V := vs.set ix (some v); Sc c V news P' s' → Go prog c rest Q s'))
    (hs : ∀ x, foldedSetIterable iter c.env x = pure x := by intro _; rfl) : Go prog c (.Assign [.Name y py] (.ListComp elt [⟨target, iter, ifs, 0⟩] scope cpos) pos :: rest) Q s :=
  Go.cons (q_AssignComp c.V (List.mem_of_getElem? hx) hf hm hln hnc (h.bind (.refl _) S fun P' v s' hP' S' r => by
    obtain ⟨need, IT⟩ := hit P' v s' hP' S' r
    exact q_compU1 (Q := JP prog c rest Q) (upd := fun v => vs.set ix (some v)) c.V IT S' hn hk hcl hch hcs hps J (h0 P' hP') (turn1 S' hP' turn) (fun v => vec_set ix hx hl)
      fun s₂ Pa Pb D ys k h1 h2 hJ hyl hD S₂ => fin Pb _ s₂ (hP'.trans h1) (.mk D ys k Pa hD h2 hJ) S₂) hs)

/-! the parts of a turn -/
variable {g' : Gh} {c' : Ct K w g' ⟨ns', gv', cv'⟩} {led : List (Addr × Obj)} {vs₁ : List (Option Value)} {P₁ : Heap} {Φ : Unit → Shared → Prop}
theorem turnName {px : Pos} (ix : Nat) (hx : ns'[ix]? = some x) (hl : vs₁.length = ns'.length) (S : Sc c' vs₁ led P₁ s) (k : ∀ s₂, Sc c' (vs₁.set ix (some v)) led P₁ s₂ → Φ () s₂) : wpAny (model prog w) c'.A (PySem.assign (.Name x px) c'.env v) Φ NoE s :=
  wpAny_assign_Name (q_store S c'.V (vec_set ix hx hl) k)
theorem turnAll {T₁ : Value → Shared → Prop} {T₀ : Shared → Prop} (k : El prog c' elt T₁ s) : Sel prog c' [] elt T₁ T₀ s := wpAny_tests_nil (by rw [if_pos rfl]; exact k)
theorem turnIf {T₁ : Value → Shared → Prop} {T₀ : Shared → Prop} {p : Prop} (h : Tests prog c' vs₁ led P₁ e p) (S : Sc c' vs₁ led P₁ s) (k1 : p → ∀ P' s', Sub P₁ P' → Sc c' vs₁ led P' s' → El prog c' elt T₁ s') (k2 : ¬ p → ∀ P' s', Sub P₁ P' → Sc c' vs₁ led P' s' → T₀ s') :
    Sel prog c' [e] elt T₁ T₀ s :=
  wpAny_tests_one (h.bind2 (.refl _) S (fun hp P' s' hP S' => by rw [if_pos rfl]; exact k1 hp P' s' hP S') fun hp P' s' hP S' => by rw [if_neg Bool.false_ne_true]; exact k2 hp P' s' hP S')
theorem El.of {T : Value → Shared → Prop} (h : Gives prog c' vs₁ led P₁ e R) (S : Sc c' vs₁ led P₁ s) (k : ∀ P' v s', Sub P₁ P' → R P' v → Sc c' vs₁ led P' s' → T v s') : El prog c' e T s := h.bind (.refl _) S fun P' v s' a b r => k P' v s' a r b
theorem El.ofI {T : Value → Shared → Prop} (h : Gives prog c' vs₁ led P₁ e (IsI a)) (S : Sc c' vs₁ led P₁ s) (k : ∀ P' t s', Sub P₁ P' → Sc c' vs₁ led P' s' → T (.int a t) s') : El prog c' e T s := h.bindI (.refl _) S k
theorem El.ofV {T : Value → Shared → Prop} (h : Gives prog c' vs₁ led P₁ e (IsV u)) (S : Sc c' vs₁ led P₁ s) (k : ∀ P' s', Sub P₁ P' → Sc c' vs₁ led P' s' → T u s') : El prog c' e T s := h.bindV (.refl _) S k
end
section
variable {elt : Expr} {ifs : List Expr} {gv' : List (Str × Value)} {cv' : List (Str × Addr)} {J : Nat → List Value → Heap → Prop} {n : Nat} {Pv : Nat → Value → Heap → Prop}
theorem len1 {α : Type} {l : List α} (h : l.length = 1) : ∃ a, l = [a] := List.length_eq_one_iff.mp h
/-- one turn over one name, no cells of its own -/
theorem turnOne {px : Pos} (h : ∀ P₀ s₀ g' (c' : Ct K w g' ⟨[x], gv', cv'⟩), Sub P P₀ → Sc c vs news P₀ s₀ → Sub s₀.heap g'.H → c'.A = c.A → ∀ i v (s₁ s₂ : Shared) ys P₁ led (T₁ : Value → Shared → Prop) (T₀ : Shared → Prop),
      (∀ {y s P₂}, Sub P₁ P₂ → Sc c' [some v] led P₂ s → J (i + 1) (ys ++ [y]) P₂ → T₁ y s) → (∀ {s P₂}, Sub P₁ P₂ → Sc c' [some v] led P₂ s → J (i + 1) ys P₂ → T₀ s) →
      i < n → Pv i v s₁.heap → Sub P₀ P₁ → J i ys P₁ → ys.length ≤ i → Sc c' [some v] led P₁ s₂ → Sel prog c' ifs elt T₁ T₀ s₂) :
    Turn prog c vs news P none elt (.Name x px) ifs [x] gv' cv' n Pv J := by
  intro P₀ s₀ g' cl c' hP₀ S₀ hH hA' i v s₁ ys P₁ D k vs₁ own u T₁ T₀ m₁ m₀ hi hv hP₁ hJ hyl hvs S
  obtain ⟨o, rfl⟩ := len1 hvs
  exact turnName 0 rfl rfl S fun s₂ S => h P₀ s₀ g' c' hP₀ S₀ hH hA' i v s₁ s₂ ys P₁ _ T₁ T₀ (m₁ rfl) (m₀ rfl) hi hv hP₁ hJ hyl S
/-- one turn over ints -/
theorem turnI {px : Pos} {us : List Int} (h : ∀ P₀ s₀ g' (c' : Ct K w g' ⟨[x], gv', cv'⟩), Sub P P₀ → Sc c vs news P₀ s₀ → Sub s₀.heap g'.H → c'.A = c.A → ∀ i m t s₂ ys P₁ led (T₁ : Value → Shared → Prop) (T₀ : Shared → Prop),
      (∀ {y s P₂}, Sub P₁ P₂ → Sc c' [some (.int m t)] led P₂ s → J (i + 1) (ys ++ [y]) P₂ → T₁ y s) → (∀ {s P₂}, Sub P₁ P₂ → Sc c' [some (.int m t)] led P₂ s → J (i + 1) ys P₂ → T₀ s) →
      us[i]? = some m → Sub P₀ P₁ → J i ys P₁ → ys.length ≤ i → Sc c' [some (.int m t)] led P₁ s₂ → Sel prog c' ifs elt T₁ T₀ s₂) :
    Turn prog c vs news P none elt (.Name x px) ifs [x] gv' cv' us.length (fun i v _ => ∃ m t, us[i]? = some m ∧ v = .int m t) J := by
  refine turnOne fun P₀ s₀ g' c' hP₀ S₀ hH hA' i v s₁ s₂ ys P₁ led T₁ T₀ m₁ m₀ hi hv hP₁ hJ hyl S => ?_
  obtain ⟨m, t, hm, rfl⟩ := hv
  exact h P₀ s₀ g' c' hP₀ S₀ hH hA' i m t s₂ ys P₁ led T₁ T₀ m₁ m₀ hm hP₁ hJ hyl S
/-- a for over a list of ints -/
theorem X.forI {px : Pos} {l : Addr} {items : List Value} {us : List Int} (ix : Nat) (hx : sg.ns[ix]? = some x) (hl : s.heap.IsList l items.toArray) (hi : IntsAre items us) (S : Sc c vs news P s) (hneed : (∃ o, P.get? l = some o) ∨ ∃ o, g.H.get? l = some o)
    (J : Nat → List (Option Value) → List (Addr × Obj) → Heap → Prop) (hJ : ∀ i vs news P, J i vs news P → vs.length = sg.ns.length) (h0 : J 0 vs news P)
    (turn : ∀ i m t s₁ vs₁ news₁ own P₁ (Φ : Flow → Shared → Prop), (∀ {P₂ vs₂ news₂ s}, Sub P₁ P₂ → Sc c vs₂ (news₂ ++ own) P₂ s → J (i + 1) vs₂ news₂ P₂ → Φ .next s) → us[i]? = some m → Sub P P₁ → J i vs₁ news₁ P₁ → Sc c (vs₁.set ix (some (.int m t))) (news₁ ++ own) P₁ s₁ → Go prog c body Φ s₁)
    (done : ∀ s' vs' news' P', Sub P P' → J us.length vs' news' P' → Sc c vs' news' P' s' → Go prog c rest Q s') :
    wpAny (model prog w) c.A (pyIter (.ref l)) (fun it s₂ => LoopAt prog w c.A c.env (.Name x px) body (JP prog c rest Q) it s₂) NoE s :=
  X.forN (Pv := fun i v => ∃ n t, us[i]? = some n ∧ v = .int n t) ix hx (IterTo.ints c.hA hl hi) S (fun b hb => by rw [List.mem_singleton.mp hb]; exact hneed) J hJ h0 (fun i v s₁ vs₁ news₁ own P₁ Φ hn _ hv hP j S => by
    obtain ⟨m, t, hm, rfl⟩ := hv
    exact turn i m t s₁ vs₁ news₁ own P₁ Φ hn hm hP j S) done
end
end
end Mine

end PartBaseS
section PartBaseT
open PySem PySem.W PySem.Spec PySem.Calls PyProof.Rows
set_option Elab.async false
set_option linter.unusedVariables false
namespace Mine

/-! a list of pairs is sorted -/
noncomputable def lexLt (p q : Int × Int) : Bool := decide (p.1 < q.1 ∨ (p.1 = q.1 ∧ p.2 < q.2))
noncomputable def evT {α : Type} (f : Nat → Nat → Bool) : KasT α → α
  | .ret a => a
  | .ask i j k => evT f (k (f i j))
noncomputable def okT {α : Type} (n : Nat) (f : Nat → Nat → Bool) : KasT α → Bool
  | .ret _ => true
  | .ask i j k => decide (i < n) && decide (j < n) && okT n f (k (f i j))
theorem kasWp_ev {α : Type} {n : Nat} {f : Nat → Nat → Bool} {cmp : Nat → Nat → (Bool → Shared → Prop) → Shared → Prop} {Q : α → Shared → Prop} {s : Shared} (h : ∀ i j C, i < n → j < n → C (f i j) s → cmp i j C s) : ∀ t : KasT α, okT n f t = true → Q (evT f t) s → t.kasWp cmp Q s
  | .ret a, _, q => q
  | .ask i j k, ok, q => by
    replace ok : (decide (i < n) && decide (j < n) && okT n f (k (f i j))) = true := ok
    simp only [Bool.and_eq_true, decide_eq_true_eq] at ok
    exact h i j _ ok.1.1 ok.1.2 (kasWp_ev h (k (f i j)) ok.2 q)
theorem sort_asc : ∀ n, n ≤ 10 → 2 ≤ n → okT n (fun i j => decide (i < j)) (kas_sort n) = true ∧ evT (fun i j => decide (i < j)) (kas_sort n) = (List.range n).toArray := by decide +kernel
theorem sort_desc : ∀ n, n ≤ 10 → 2 ≤ n → okT n (fun i j => decide (j < i)) (kas_sort n) = true ∧ evT (fun i j => decide (j < i)) (kas_sort n) = (List.range n).reverse.toArray := by decide +kernel
noncomputable def f2 (x y : Bool) (i j : Nat) : Bool := if i = 1 ∧ j = 0 then x else if i = 0 ∧ j = 1 then y else false
theorem sort_two : ∀ x y : Bool, (x && y) = false → okT 2 (f2 x y) (kas_sort 2) = true ∧ evT (f2 x y) (kas_sort 2) = if x then #[1, 0] else #[0, 1] := by decide +kernel

/-- the lists that occur -/
noncomputable def SortOk (ps : List (Int × Int)) : Prop := ps.length ≤ 2 ∨ (ps.length ≤ 10 ∧ (ps.Pairwise (fun p q => lexLt p q = true) ∨ ps.Pairwise (fun p q => lexLt q p = true)))
/-- sorted -/
noncomputable def Sorted (ps qs : List (Int × Int)) : Prop := qs.Perm ps ∧ qs.Pairwise (fun p q => lexLt q p = false)

theorem lex_asymm {p q : Int × Int} (h : lexLt p q = true) : lexLt q p = false :=
  decide_eq_false fun k => (of_decide_eq_true h).elim (fun a => k.elim (Int.lt_asymm a) fun b => absurd a (b.1 ▸ Int.lt_irrefl _)) fun a => k.elim (fun b => absurd b (a.1 ▸ Int.lt_irrefl _)) fun b => Int.lt_asymm a.2 b.2
theorem lex_irrefl (p : Int × Int) : lexLt p p = false := decide_eq_false fun k => k.elim (Int.lt_irrefl _) fun b => Int.lt_irrefl _ b.2
theorem lex_eq {p q : Int × Int} (h : p.1 = q.1) : lexLt p q = decide (p.2 < q.2) := decide_eq_decide.mpr ⟨fun x => x.elim (fun y => absurd y (h ▸ Int.lt_irrefl _)) And.right, fun y => .inr ⟨h, y⟩⟩
theorem lex_ne {p q : Int × Int} (h : ¬ p.1 = q.1) : lexLt p q = decide (p.1 < q.1) := decide_eq_decide.mpr ⟨fun x => x.elim id fun y => absurd y.1 h, .inl⟩

section
variable {prog : Program} {K : Params → Frag} {w : World} {g : Gh} {P : Heap} {L : Addr} {s : Shared} {m : Str → Option Value} {news : List (Addr × Obj)} {A : Around} {E : Value → Shared → Prop}

theorem lt_pairs {Q : Bool → Shared → Prop} {v u : Value} {p q : Int × Int} (hv : PairV s.heap v p) (hu : PairV s.heap u q) (h : Q (lexLt p q) s) : wpAny (model prog w) A (keyLt' (tuples' true) v u) Q E s := by
  obtain ⟨a, t₁, t₂, o, ho, hc, n, hd⟩ := hv
  obtain ⟨b, t₃, t₄, o', ho', hc', n', hd'⟩ := hu
  refine kat_lt ho hd ho' hd' (kat_cons (wpAny_eqBool_int ?_))
  by_cases e : p.1 = q.1
  · rw [show (p.1 == q.1) = true from by simpa using e]
    refine kat_yes (kat_cons (wpAny_eqBool_int ?_))
    by_cases e2 : p.2 = q.2
    · rw [show (p.2 == q.2) = true from by simpa using e2]
      refine kat_yes (kat_nil ?_)
      rw [lex_eq e, decide_eq_false (e2 ▸ Int.lt_irrefl _)] at h; exact h
    · rw [show (p.2 == q.2) = false from by simpa using e2]
      refine kat_no (kat_one _ _ (lt_int ?_))
      rw [lex_eq e] at h; exact h
  · rw [show (p.1 == q.1) = false from by simpa using e]
    refine kat_no (oneLt_int ?_)
    rw [lex_ne e] at h; exact h

theorem tups_of {h : Heap} {vs : List Value} {ps : List (Int × Int)} (x : PairsV h vs ps) : ∃ fs, KatTups h vs fs ∧ fs.length = vs.length ∧ ∀ v ∈ fs, ∃ i t, v = Value.int i t := by
  induction x with
  | nil => exact ⟨[], KatTups.nil, rfl, fun _ h => nomatch h⟩
  | @cons v p vs ps hv _ ih =>
    obtain ⟨fs, k, l, a⟩ := ih
    obtain ⟨a', t₁, t₂, o, ho, hc, n, hd⟩ := hv
    exact ⟨.int p.1 t₁ :: fs, KatTups.cons ho hc hd rfl k, by simp [l], fun v hv => (List.mem_cons.mp hv).elim (fun e => ⟨_, _, e⟩) (a v)⟩

theorem q_sort2 {D : Addr} {its : List Value} {ps : List (Int × Int)} {n : Nat} {Q : Value → Shared → Prop} {f : Nat → Nat → Bool} {perm : List Nat} (j : Nat) (S : St K w g P L s m news) (hj : news[j]? = some (D, W.listOf its.toArray n)) (hp : PairsV P its ps) (h2 : 2 ≤ its.length) (h64 : its.length < 64)
    (hf : ∀ i j p q, ps[i]? = some p → ps[j]? = some q → f i j = lexLt p q) (ok : okT its.length f (kas_sort its.length) = true) (ev : evT f (kas_sort its.length) = perm.toArray)
    (k : ∀ c s', St K w g P L s' m (news.set j (D, W.listOf (perm.map fun i => its.getD i .none).toArray c)) → Q .none s') : wpAny (model prog w) A (call (.builtin "list.sort") [.ref D]) Q E s := by
  obtain ⟨B, rest, dd⟩ := S.lib1 (List.mem_of_getElem? hj)
  refine kat_lsort dd.F dd.N (.head dd.hr) rfl h2 h64 fun e1 h' F' N' => ?_
  have S' := dd.c h' s.toks m _ _ F' N' (LUpd.at j hj)
  have hp' := hp.mono S'.keep
  obtain ⟨fs, hk, hl, hi⟩ := tups_of hp'
  refine kat_kind (T := .type "int") hk (by lia) (fun v hv => ?_) rfl ?_
  · obtain ⟨i, t, rfl⟩ := hi v hv
    exact Looks.of_pure rfl
  · show (kas_sort its.length).kasWp (kas_ask prog w A.in1 (tuples' true) its) _ _
    refine kasWp_ev (n := its.length) (f := f) (fun i j C hi hj hC => ?_) _ ok ?_
    · obtain ⟨p, ep, hv⟩ := hp'.getL (List.getElem?_eq_getElem hi)
      obtain ⟨q, eq, hu⟩ := hp'.getL (List.getElem?_eq_getElem hj)
      rw [hf i j p q ep eq] at hC
      have e1 : its.getD i .none = its[i] := by simp [hi]
      have e2 : its.getD j .none = its[j] := by simp [hj]
      show wpAny _ _ (keyLt' _ (its.getD i .none) (its.getD j .none)) _ _ _
      rw [e1, e2]
      exact lt_pairs hv hu hC
    · rw [ev]
      refine KasFin.intro F' N' (.head dd.hr) fun h₂ c₂ F₂ N₂ => ?_
      exact k c₂ _ (dd.c h₂ _ m _ _ F₂ N₂ (LUpd.at j hj))
theorem q_sort01 {D : Addr} {its : List Value} {n : Nat} {Q : Value → Shared → Prop} (j : Nat) (S : St K w g P L s m news) (hj : news[j]? = some (D, W.listOf its.toArray n)) (h2 : its.length < 2)
    (k : ∀ c s', St K w g P L s' m (news.set j (D, W.listOf its.toArray c)) → Q .none s') : wpAny (model prog w) A (call (.builtin "list.sort") [.ref D]) Q E s := by
  have ho : s.heap.get? D = some (seqObj "list" its.toArray n) := S.get (List.mem_of_getElem? hj)
  refine wpAny_call_entry slot_list_sort ⟨_, ho, rfl⟩ entry_list_sort ?_ (args_list_sort _)
  rw [list_sort_plain]
  have ho1 := get?_update_seq ho fun _ => (#[] : Array Value)
  refine wpAny_bind (listItems_at ho rfl ?_)
  refine wpAny_bind (listUpdate_at ho rfl ?_ (by rw [List.size_toArray, sizeLine_eq]; lia) (Nat.zero_le _))
  refine wpAny_bind (seqEpoch_at ho1 rfl ?_)
  refine wpAny_bind (wpAny_newTuple ?_ (by show its.length ≤ _; rw [sizeLine_eq]; lia))
  refine wpAny_bind (wpAny_newList ?_ (Nat.zero_le _))
  refine wpAny_holding ?_
  dsimp only
  have hn2 : its.toArray.size < 2 := by rw [List.size_toArray]; lia
  rw [if_pos hn2, if_pos hn2]
  have ho3 := Heap.get?_push_of_some { cls := .type "list", data := .seq ([] : List Value).toArray } (Heap.get?_push_of_some { cls := .type "tuple", data := .seq its.toArray } ho1)
  refine wpAny_bind (wpAny_pure (wpAny_bind (wpAny_pure ?_)))
  dsimp only
  refine wpAny_bind (seqEpoch_at ho3 rfl ?_)
  have es : (arrOf (SortSt.mk' general' (its.toArray.zip its.toArray) #[] 7 none)).map (·.2) = its.toArray := by
    show (its.toArray.zip its.toArray).map (·.2) = _
    apply Array.toList_inj.mp
    rw [Array.toList_map, Array.toList_zip]
    exact List.map_snd_zip (Nat.le_refl _)
  rw [es]
  have hj2 : ∀ {o : Obj}, (news.set j (D, o))[j]? = some (D, o) := fun {o} => by
    rw [List.getElem?_set_self (List.getElem?_eq_some_iff.mp hj).1]
  have S₁ := S.upd' (t := s.toks) (LUpd.at j hj) (Heap.SameBut.update ..) ho1
  have S₂ := (S₁.push (t := s.toks) { cls := .type "tuple", data := .seq its.toArray }).drop
  have S₃ := (S₂.push (t := s.toks) { cls := .type "list", data := .seq ([] : List Value).toArray }).drop
  have ho4 := get?_update_seq ho3 fun _ => its.toArray
  have S₄ := S₃.upd' (t := s.toks) (LUpd.at j hj2) (Heap.SameBut.update ..) ho4
  rw [List.set_set] at S₄
  refine wpAny_bind (listUpdate_at ho3 rfl ?_ (Nat.zero_le _) (by rw [List.size_toArray, sizeLine_eq]; lia))
  simp only [bne_self_eq_false, Bool.false_eq_true, if_false]
  exact wpAny_pure ⟨.none, rfl, k _ _ S₄⟩

theorem map_range {ps : List Value} : ((List.range ps.length).map fun i => ps.getD i .none) = ps := by
  apply List.ext_getElem
  · simp
  · intro i h1 h2
    simp at h1
    simp [h1]
theorem sorted_pairs {h : Heap} {its : List Value} {ps : List (Int × Int)} (hp : PairsV h its ps) {perm : List Nat} (hb : ∀ i ∈ perm, i < ps.length) : PairsV h (perm.map fun i => its.getD i .none) (perm.map fun i => ps.getD i (0, 0)) := by
  induction perm with
  | nil => exact .nil
  | cons i r ih =>
    have hi := hb i (.head _)
    have hi' : i < its.length := by rw [hp.length]; exact hi
    refine .cons ?_ (ih fun j hj => hb j (.tail _ hj))
    obtain ⟨q, eq, hv⟩ := hp.getL (List.getElem?_eq_getElem hi')
    have e1 : its.getD i .none = its[i] := by simp [hi']
    have e2 : ps.getD i (0, 0) = q := by rw [List.getD_eq_getElem?_getD, eq]; rfl
    show PairV h (its.getD i .none) (ps.getD i (0, 0))
    rw [e1, e2]; exact hv
theorem map_rangeP {ps : List (Int × Int)} : ((List.range ps.length).map fun i => ps.getD i (0, 0)) = ps := by
  apply List.ext_getElem
  · simp
  · intro i h1 h2
    simp at h1
    simp [h1]
theorem lex_at {ps : List (Int × Int)} (ha : ps.Pairwise (fun p q => lexLt p q = true)) {i j : Nat} {p q : Int × Int} (ei : ps[i]? = some p) (ej : ps[j]? = some q) : lexLt p q = decide (i < j) := by
  obtain ⟨hi, rfl⟩ := List.getElem?_eq_some_iff.mp ei
  obtain ⟨hj, rfl⟩ := List.getElem?_eq_some_iff.mp ej
  rcases Nat.lt_trichotomy i j with h | h | h
  · rw [decide_eq_true h]; exact List.pairwise_iff_getElem.mp ha i j hi hj h
  · subst h; rw [decide_eq_false (Nat.lt_irrefl _)]; exact lex_irrefl _
  · rw [decide_eq_false (Nat.lt_asymm h)]; exact lex_asymm (List.pairwise_iff_getElem.mp ha j i hj hi h)
theorem lex_atD {ps : List (Int × Int)} (ha : ps.Pairwise (fun p q => lexLt q p = true)) {i j : Nat} {p q : Int × Int} (ei : ps[i]? = some p) (ej : ps[j]? = some q) : lexLt p q = decide (j < i) := by
  obtain ⟨hi, rfl⟩ := List.getElem?_eq_some_iff.mp ei
  obtain ⟨hj, rfl⟩ := List.getElem?_eq_some_iff.mp ej
  rcases Nat.lt_trichotomy i j with h | h | h
  · rw [decide_eq_false (Nat.lt_asymm h)]; exact lex_asymm (List.pairwise_iff_getElem.mp ha i j hi hj h)
  · subst h; rw [decide_eq_false (Nat.lt_irrefl _)]; exact lex_irrefl _
  · rw [decide_eq_true h]; exact List.pairwise_iff_getElem.mp ha j i hj hi h

theorem short {α : Type} {R : α → α → Prop} {l : List α} (h : l.length < 2) : l.Pairwise R := by
  cases l with
  | nil => exact .nil
  | cons a l =>
    obtain rfl := List.length_eq_zero_iff.mp (Nat.le_zero.mp (Nat.le_of_lt_succ (Nat.lt_of_succ_lt_succ h)))
    exact List.pairwise_singleton _ _
theorem two_at {p q a : Int × Int} {i : Nat} (h : [p, q][i]? = some a) : (i = 0 ∧ p = a) ∨ (i = 1 ∧ q = a) := by
  cases i with
  | zero => exact .inl ⟨rfl, Option.some.inj h⟩
  | succ i => cases i with
    | zero => exact .inr ⟨rfl, Option.some.inj h⟩
    | succ i => exact nomatch h
theorem f2_ok {p q a b : Int × Int} {i j : Nat} (ei : [p, q][i]? = some a) (ej : [p, q][j]? = some b) : f2 (lexLt q p) (lexLt p q) i j = lexLt a b := by
  rcases two_at ei with ⟨rfl, rfl⟩ | ⟨rfl, rfl⟩ <;> rcases two_at ej with ⟨rfl, rfl⟩ | ⟨rfl, rfl⟩
  · exact (lex_irrefl _).symm
  · rfl
  · rfl
  · exact (lex_irrefl _).symm
theorem two_sorted {p q : Int × Int} : Sorted [p, q] ((if lexLt q p = true then [1, 0] else [0, 1]).map fun i => [p, q].getD i (0, 0)) := by
  cases h : lexLt q p with
  | true => exact ⟨List.Perm.swap _ _ _, List.pairwise_cons.mpr ⟨fun a ha => by rw [List.mem_singleton.mp ha]; exact lex_asymm h, List.pairwise_singleton _ _⟩⟩
  | false => exact ⟨.refl _, List.pairwise_cons.mpr ⟨fun a ha => by rw [List.mem_singleton.mp ha]; exact h, List.pairwise_singleton _ _⟩⟩
theorem q_sort {D : Addr} {its : List Value} {ps : List (Int × Int)} {n : Nat} {Q : Value → Shared → Prop} (j : Nat) (S : St K w g P L s m news) (hj : news[j]? = some (D, W.listOf its.toArray n)) (hp : PairsV P its ps) (ok : SortOk ps)
    (k : ∀ c s' its' qs, Sorted ps qs → PairsV P its' qs → St K w g P L s' m (news.set j (D, W.listOf its'.toArray c)) → Q .none s') : wpAny (model prog w) A (call (.builtin "list.sort") [.ref D]) Q E s := by
  have hl := hp.length
  by_cases h2 : its.length < 2
  · exact q_sort01 j S hj h2 fun c s' S' => k c s' its ps ⟨.refl _, short (hl ▸ h2)⟩ hp S'
  · by_cases hn : ps.length = 2
    · obtain ⟨p, q, rfl⟩ := len2 hn
      have hx : (lexLt q p && lexLt p q) = false := by
        cases h : lexLt q p with
        | false => rfl
        | true => rw [lex_asymm h]; rfl
      obtain ⟨o1, o2⟩ := sort_two (lexLt q p) (lexLt p q) hx
      exact q_sort2 (f := f2 (lexLt q p) (lexLt p q)) (perm := if lexLt q p = true then [1, 0] else [0, 1]) j S hj hp (Nat.not_lt.mp h2) (by rw [hl]; show 2 < 64; decide) (fun i j a b ei ej => f2_ok ei ej) (by rw [hl]; exact o1) (by rw [hl]; exact o2.trans (by split <;> rfl)) fun c s' S' =>
        k c s' _ _ two_sorted (sorted_pairs hp fun i hi => by split at hi <;> simp at hi <;> (rcases hi with rfl | rfl <;> first | exact Nat.one_lt_two | exact Nat.zero_lt_two)) S'
    · obtain ⟨h10, ha⟩ : ps.length ≤ 10 ∧ (ps.Pairwise (fun p q => lexLt p q = true) ∨ ps.Pairwise (fun p q => lexLt q p = true)) := by
        rcases ok with h | h
        · lia
        · exact h
      rcases ha with ha | ha
      · obtain ⟨o1, o2⟩ := sort_asc its.length (by lia) (by lia)
        refine q_sort2 (perm := List.range its.length) j S hj hp (by lia) (by lia) (fun i j p q ei ej => (lex_at ha ei ej).symm) o1 o2 fun c s' S' => ?_
        rw [map_range] at S'
        exact k c s' its ps ⟨.refl _, ha.imp fun h => lex_asymm h⟩ hp S'
      · obtain ⟨o1, o2⟩ := sort_desc its.length (by lia) (by lia)
        refine q_sort2 (perm := (List.range its.length).reverse) j S hj hp (by lia) (by lia) (fun i j p q ei ej => (lex_atD ha ei ej).symm) o1 o2 fun c s' S' => ?_
        have e := sorted_pairs hp (perm := (List.range its.length).reverse) fun i hi => by rw [List.mem_reverse, List.mem_range] at hi; lia
        rw [List.map_reverse, List.map_reverse, map_range, hl, map_rangeP] at e
        rw [List.map_reverse, map_range] at S'
        exact k c s' its.reverse ps.reverse ⟨List.reverse_perm _, List.pairwise_reverse.mpr (ha.imp fun h => lex_asymm h)⟩ e S'
end
end Mine

end PartBaseT
section PartBaseZ
open PySem PySem.W PySem.Spec PySem.Calls PyProof.Rows
set_option Elab.async false
set_option linter.unusedVariables false
namespace Mine

/-! list(zip(..)) of two lists -/
noncomputable abbrev ZipOut (h : Heap) (z TI TO T : Addr) (f : Bool) : Prop := h.get? z = some { cls := .type "zip", dict := none, data := .fields #[rawInt T, .bool f, .bool false, .ref TI, .ref TO], slots := #[] }
/-- an object that no step of the zip touches -/
structure Oz (z TO i1 i2 c : Addr) : Prop where
  z : c ≠ z
  t : c ≠ TO
  a : c ≠ i1
  b : c ≠ i2
noncomputable abbrev KeepZ (z TO i1 i2 : Addr) (h h' : Heap) : Prop := ∀ c o, Oz z TO i1 i2 c → h.get? c = some o → h'.get? c = some o
inductive ZAt (z TI TO i1 i2 S : Addr) (i : Nat) (h : Heap) : Prop
  | first : i = 0 → IsZip h z TI TO .none → ZAt z TI TO i1 i2 S i h
  | out (T f oT) : ZipOut h z TI TO T f → h.get? T = some oT → Oz z TO i1 i2 T → T ≠ S → ZAt z TI TO i1 i2 S i h
/-- the zip's own objects before a step; S: an object that is not of it -/
structure ZSt (z TI TO i1 i2 l1 l2 S : Addr) (xs ys : Array Value) (i : Nat) (h : Heap) : Prop where
  at_ : ZAt z TI TO i1 i2 S i h
  ti : IsPair h TI (.ref i1) (.ref i2)
  to : ∃ a b, IsPair h TO a b
  it1 : h.IsListIter i1 l1 i
  it2 : h.IsListIter i2 l2 i
  li1 : h.IsList l1 xs
  li2 : h.IsList l2 ys
structure ZNe (z TI TO i1 i2 l1 l2 S : Addr) : Prop where
  z : z ≠ S
  ti : TI ≠ S
  to : TO ≠ S
  i1 : i1 ≠ S
  i2 : i2 ≠ S
  l1 : l1 ≠ S
  l2 : l2 ≠ S
theorem ZSt.keep {z TI TO i1 i2 l1 l2 S : Addr} {xs ys : Array Value} {i : Nat} {h h' : Heap} (x : ZSt z TI TO i1 i2 l1 l2 S xs ys i h) (hk : ∀ b o, b ≠ S → h.get? b = some o → h'.get? b = some o)
    (n : ZNe z TI TO i1 i2 l1 l2 S) : ZSt z TI TO i1 i2 l1 l2 S xs ys i h' :=
  ⟨x.at_.casesOn (fun e q => .first e (hk _ _ n.z q)) fun T f oT q hT d e => .out T f oT (hk _ _ n.z q) (hk _ _ e hT) d e,
    hk _ _ n.ti x.ti, x.to.imp fun a h => h.imp fun b e => hk _ _ n.to e, x.it1.at fun o e => hk _ o n.i1 e, x.it2.at fun o e => hk _ o n.i2 e, x.li1.at fun o e => hk _ o n.l1 e, x.li2.at fun o e => hk _ o n.l2 e⟩
theorem ZSt.new {z TI TO i1 i2 l1 l2 S : Addr} {xs ys : Array Value} {i : Nat} {h : Heap} (x : ZSt z TI TO i1 i2 l1 l2 S xs ys i h) : Oz z TO i1 i2 h.objs.size :=
  have ne : ∀ {a : Addr} {o : Obj}, h.get? a = some o → h.objs.size ≠ a := fun e => Nat.ne_of_gt (Heap.lt_size e)
  ⟨x.at_.casesOn (fun _ q => ne q) fun _ _ _ q _ _ _ => ne q, x.to.elim fun _ h => h.elim fun _ e => ne e, x.it1.elim fun _ e => ne e.1, x.it2.elim fun _ e => ne e.1⟩
/-- one pair that the zip gave -/
inductive ZEl (z TO i1 i2 S : Addr) (lo : Nat) (h : Heap) (x y : Value) : Value → Prop
  | mk (T) : IsTup h T #[x, y] → Oz z TO i1 i2 T → T ≠ S → lo ≤ T → ZEl z TO i1 i2 S lo h x y (.ref T)
noncomputable abbrev ZAll (z TO i1 i2 S : Addr) (lo : Nat) (xs ys : Array Value) (h : Heap) (vs : List Value) : Prop := ∀ (j : Nat) (v x y : Value), vs[j]? = some v → xs[j]? = some x → ys[j]? = some y → ZEl z TO i1 i2 S lo h x y v
theorem ZAll.mono {z TO i1 i2 S : Addr} {lo : Nat} {xs ys : Array Value} {h h' : Heap} {vs : List Value} (x : ZAll z TO i1 i2 S lo xs ys h vs) (k : ∀ c o, c ≠ S → Oz z TO i1 i2 c → h.get? c = some o → h'.get? c = some o) : ZAll z TO i1 i2 S lo xs ys h' vs := fun j v a b e1 e2 e3 =>
  (x j v a b e1 e2 e3).casesOn fun T t d n l => .mk T (t.elim fun o e => ⟨o, k T o n d e.1, e.2⟩) d n l
theorem ZAll.snoc {z TO i1 i2 S : Addr} {lo : Nat} {xs ys : Array Value} {h : Heap} {vs : List Value} {x y v : Value} (q : ZAll z TO i1 i2 S lo xs ys h vs) (hx : xs[vs.length]? = some x) (hy : ys[vs.length]? = some y) (e : ZEl z TO i1 i2 S lo h x y v) : ZAll z TO i1 i2 S lo xs ys h (vs ++ [v]) := fun j u a b h1 h2 h3 => by
  rcases Nat.lt_trichotomy j vs.length with l | rfl | l
  · rw [List.getElem?_append_left l] at h1
    exact q j u a b h1 h2 h3
  · rw [List.getElem?_concat_length] at h1
    obtain rfl := Option.some.inj h1
    obtain rfl := some_eq hx h2
    obtain rfl := some_eq hy h3
    exact e
  · exact no_none (List.getElem?_eq_none (by rw [List.length_append]; exact l)) h1

theorem aliveAt {prog : Program} {w : World} {A : Around} {E : Value → Shared → Prop} {s : Shared} {a : Addr} {o : Obj} {Q : Option Obj → Shared → Prop} (ho : s.heap.get? a = some o) (h : Q (some o) s) : wpAny (model prog w) A (loadIfAlive a) Q E s := by
  have h' : Q (s.heap.get? a) s := by rw [ho]; exact h
  exact fun _ _ _ => h'

section
variable {prog : Program} {w : World} {A : Around} {E : Value → Shared → Prop} {s : Shared}
/-- is the lent tuple free? no: it lives -/
theorem zip_free {z TI TO T : Addr} {f : Bool} {oT : Obj} {Q : Bool → Shared → Prop} (hz : ZipOut s.heap z TI TO T f) (hT : s.heap.get? T = some oT) (h : ∀ h', ZipOut h' z TI TO T true → Heap.SameBut z s.heap h' → Q false { s with heap := h' }) :
    wpAny (model prog w) A (Builtin.SmallTypes.ownedTupleIsFree (.ref z)) Q E s := by
  unfold Builtin.SmallTypes.ownedTupleIsFree
  refine wpAny_bind (wpAny_field hz rfl (x := rawInt T) rfl ?_)
  show wpAny _ _ (loadIfAlive ((T : Int).toNat) >>= _) _ _ _
  rw [Int.toNat_natCast]
  refine wpAny_bind (aliveAt hT ?_)
  simp only [Option.isNone_some, Bool.false_eq_true, if_false]
  refine wpAny_bind (wpAny_field hz rfl (x := .bool f) rfl ?_)
  cases f with
  | true =>
    rw [if_neg (show ¬ ((Value.bool true != Value.bool true) = true) from Bool.false_ne_true)]
    exact wpAny_pure (h s.heap hz (Heap.SameBut.refl _ _))
  | false =>
    rw [if_pos (show (Value.bool false != Value.bool true) = true from rfl)]
    exact wpAny_bind (wpAny_setField_rec hz (by simp) fun h₃ he₃ hs₃ => wpAny_pure (h h₃ he₃ hs₃))

theorem zip_out_item {z TI TO i1 i2 l1 l2 T : Addr} {f : Bool} {oT : Obj} {k : Nat} {xs ys : Array Value} {x y : Value} {Q : Value → Shared → Prop} (D : ZipApart z TI TO i1 i2 l1 l2)
    (hz : ZipOut s.heap z TI TO T f) (hT : s.heap.get? T = some oT) (hTI : IsPair s.heap TI (.ref i1) (.ref i2)) (h1 : s.heap.IsListIter i1 l1 k) (h2 : s.heap.IsListIter i2 l2 k) (hl1 : s.heap.IsList l1 xs) (hl2 : s.heap.IsList l2 ys)
    (hx : xs[k]? = some x) (hy : ys[k]? = some y)
    (hQ : ∀ h', ZipOut h' z TI TO T true → h'.IsListIter i1 l1 (k + 1) → h'.IsListIter i2 l2 (k + 1) → IsPair h' s.heap.objs.size x y → h'.objs.size = s.heap.objs.size + 1 →
      (∀ c o, c ≠ z → c ≠ i1 → c ≠ i2 → s.heap.get? c = some o → h'.get? c = some o) → Q (.ref s.heap.objs.size) { s with heap := h' }) :
    wpAny (model prog w) A (Builtin.«zip.__next__» ⟨[.ref z], []⟩) (fun fin s' => ∃ v, fin = .done (.ret v) ∧ Q v s') E s := by
  show wpAny _ _ (field (.ref z) 2 >>= _) _ _ _
  refine wpAny_bind (wpAny_field hz rfl (x := .bool false) rfl ?_)
  show wpAny _ _ (field (.ref z) 3 >>= _) _ _ _
  refine wpAny_bind (wpAny_field hz rfl (x := .ref TI) rfl ?_)
  refine wpAny_bind (wpAny_seqItems hTI rfl ?_)
  show wpAny _ _ (Builtin.SmallTypes.ownedTupleIsFree (.ref z) >>= _) _ _ _
  refine wpAny_bind (zip_free hz hT fun h₁ hz₁ hs₁ => ?_)
  simp only [Bool.false_eq_true, if_false]
  refine wpAny_bind ?_
  simp only [List.forIn_toArray, List.forIn_cons, List.forIn_nil]
  refine wpAny_bind (wpAny_bind (wpAny_holding ?_))
  show wpAny _ _ (Builtin.SmallTypes.nextOf (.ref i1) >>= _) _ _ _
  refine wpAny_bind (wpAny_nextOf_list_item (h1.extBut hs₁.extBut D.i1z) (hl1.extBut hs₁.extBut D.l1z) hx fun h₂ h1₂ hs₂ => wpAny_pure ?_)
  refine wpAny_pure ?_
  refine wpAny_bind (wpAny_bind (wpAny_holding ?_))
  show wpAny _ _ (Builtin.SmallTypes.nextOf (.ref i2) >>= _) _ _ _
  refine wpAny_bind (wpAny_nextOf_list_item ((h2.extBut hs₁.extBut D.i2z).extBut hs₂.extBut D.i12.symm) ((hl2.extBut hs₁.extBut D.l2z).extBut hs₂.extBut D.l2i1) hy fun h₃ h2₃ hs₃ => wpAny_pure ?_)
  refine wpAny_pure (wpAny_pure ?_)
  refine wpAny_bind (wpAny_newTuple ?_ (by show 2 ≤ sizeLine; rw [sizeLine_eq]; lia))
  have hsz : h₃.objs.size = s.heap.objs.size := by rw [hs₃.1, hs₂.1, hs₁.1]
  refine wpAny_pure ⟨_, rfl, ?_⟩
  show Q (.ref h₃.objs.size) _
  rw [hsz]
  have up : ∀ c o, h₃.get? c = some o → (h₃.push { cls := .type "tuple", data := .seq #[x, y] }).get? c = some o := fun c o e => Heap.get?_push_of_some _ e
  refine hQ _ (up _ _ (hs₃.extBut _ _ D.i2z.symm (hs₂.extBut _ _ D.i1z.symm hz₁))) ((h1₂.extBut hs₃.extBut D.i12).at fun o e => up _ o e) (h2₃.at fun o e => up _ o e) (by rw [← hsz]; exact Heap.get?_push_size _ rfl) (by rw [Heap.size_push, hsz])
    fun c o c1 c3 c4 e => up _ _ (hs₃.extBut _ _ c4 (hs₂.extBut _ _ c3 (hs₁.extBut _ _ c1 e)))

theorem zip_out_end {z TI TO i1 i2 l1 l2 T : Addr} {f : Bool} {oT : Obj} {k : Nat} {xs : Array Value} {Q : Fin → Shared → Prop} (hh : A.handled = none) (D : ZipApart z TI TO i1 i2 l1 l2)
    (hz : ZipOut s.heap z TI TO T f) (hT : s.heap.get? T = some oT) (hTI : IsPair s.heap TI (.ref i1) (.ref i2)) (h1 : s.heap.IsListIter i1 l1 k) (hl1 : s.heap.IsList l1 xs) (hx : xs[k]? = none)
    (hE : ∀ h' e, (∀ c o, c ≠ z → c ≠ i1 → c ≠ i2 → s.heap.get? c = some o → h'.get? c = some o) → (∃ o, h'.get? e = some o ∧ o.cls = .type "StopIteration") → E (.ref e) { s with heap := h' }) :
    wpAny (model prog w) A (Builtin.«zip.__next__» ⟨[.ref z], []⟩) Q E s := by
  show wpAny _ _ (field (.ref z) 2 >>= _) _ _ _
  refine wpAny_bind (wpAny_field hz rfl (x := .bool false) rfl ?_)
  show wpAny _ _ (field (.ref z) 3 >>= _) _ _ _
  refine wpAny_bind (wpAny_field hz rfl (x := .ref TI) rfl ?_)
  refine wpAny_bind (wpAny_seqItems hTI rfl ?_)
  show wpAny _ _ (Builtin.SmallTypes.ownedTupleIsFree (.ref z) >>= _) _ _ _
  refine wpAny_bind (zip_free hz hT fun h₁ hz₁ hs₁ => ?_)
  simp only [Bool.false_eq_true, if_false]
  refine wpAny_bind ?_
  simp only [List.forIn_toArray, List.forIn_cons, List.forIn_nil]
  refine wpAny_bind (wpAny_bind (wpAny_holding ?_))
  show wpAny _ _ (Builtin.SmallTypes.nextOf (.ref i1) >>= _) _ _ _
  exact wpAny_bind (wpAny_nextOf_list_end hh (h1.extBut hs₁.extBut D.i1z) (hl1.extBut hs₁.extBut D.l1z) hx fun h₂ e hs₂ he => hE h₂ e (fun c o c1 c3 _ x => hs₂ _ _ c3 (hs₁.extBut _ _ c1 x)) he)

theorem zip_step {z TI TO i1 i2 l1 l2 S : Addr} {i : Nat} {xs ys : Array Value} {x y : Value} {Q : Option Value → Shared → Prop} (D : ZipApart z TI TO i1 i2 l1 l2) (hst : ZSt z TI TO i1 i2 l1 l2 S xs ys i s.heap) (hS : S < s.heap.objs.size) (hx : xs[i]? = some x) (hy : ys[i]? = some y)
    (hQ : ∀ h', ZSt z TI TO i1 i2 l1 l2 S xs ys (i + 1) h' → IsPair h' s.heap.objs.size x y → h'.objs.size = s.heap.objs.size + 1 → KeepZ z TO i1 i2 s.heap h' → Q (some (.ref s.heap.objs.size)) { s with heap := h' }) :
    wpAny (model prog w) A (pyNext (.ref z)) Q E s := by
  have nw := hst.new
  obtain ⟨hat, hti, ⟨a, b, hto⟩, h1, h2, hl1, hl2⟩ := hst
  refine hat.casesOn (fun e hz => ?_) fun T f oT hz hT d t5 => ?_
  · subst e
    exact wpAny_pyNext_zip_item D hz hti hto h1 h2 hl1 hl2 hx hy fun h' a1 a2 a3 a4 a5 a6 a7 => hQ h' ⟨.out _ _ _ a1 a5 nw (Nat.ne_of_gt hS), a7 _ _ D.TIz D.TITO D.TIi1 D.TIi2 hti, ⟨_, _, a2⟩, a3, a4,
      hl1.at fun o e => a7 _ o D.l1z D.l1TO D.l1i1 D.l1i2 e, hl2.at fun o e => a7 _ o D.l2z D.l2TO D.l2i1 D.l2i2 e⟩ a5 a6 fun c o q e => a7 c o q.z q.t q.a q.b e
  · have hTy : s.TypeIs (.ref z) "zip" := ⟨_, hz, rfl⟩
    unfold pyNext
    exact wpAny_bind (wpAny_attempt (wpAny_callSpecial?_slot (name := Str.ofString "__next__") hTy PySem.F.slot_zip_next
      (wpAny_call_entry PySem.F.slot_zip_next hTy PySem.F.entry_zip_next
        (zip_out_item D hz hT hti h1 h2 hl1 hl2 hx hy fun h' a1 a3 a4 a5 a6 a7 => wpAny_pure (hQ h' ⟨.out T true oT a1 (a7 _ _ d.z d.a d.b hT) d t5, a7 _ _ D.TIz D.TIi1 D.TIi2 hti, ⟨a, b, a7 _ _ D.TOz D.TOi1 D.TOi2 hto⟩, a3, a4,
          hl1.at fun o e => a7 _ o D.l1z D.l1i1 D.l1i2 e, hl2.at fun o e => a7 _ o D.l2z D.l2i1 D.l2i2 e⟩ a5 a6 fun c o q e => a7 c o q.z q.a q.b e)) (PySem.F.args_zip_next_1 _))))
theorem zip_stop {z TI TO i1 i2 l1 l2 S : Addr} {i : Nat} {xs ys : Array Value} {Q : Option Value → Shared → Prop} (hh : A.handled = none) (D : ZipApart z TI TO i1 i2 l1 l2) (hst : ZSt z TI TO i1 i2 l1 l2 S xs ys i s.heap) (hx : xs[i]? = none)
    (hQ : ∀ h', KeepZ z TO i1 i2 s.heap h' → Q none { s with heap := h' }) : wpAny (model prog w) A (pyNext (.ref z)) Q E s := by
  obtain ⟨hat, hti, ⟨a, b, hto⟩, h1, h2, hl1, hl2⟩ := hst
  refine hat.casesOn (fun e hz => ?_) fun T f oT hz hT d t5 => ?_
  · subst e
    exact wpAny_pyNext_zip_end hh D hz hti hto h1 h2 hl1 hl2 (.inl hx) fun h' k => hQ h' fun c o q e => k c o q.z q.t q.a q.b e
  · have hTy : s.TypeIs (.ref z) "zip" := ⟨_, hz, rfl⟩
    unfold pyNext
    exact wpAny_bind (wpAny_attempt (wpAny_callSpecial?_slot (name := Str.ofString "__next__") hTy PySem.F.slot_zip_next
      (wpAny_call_entry PySem.F.slot_zip_next hTy PySem.F.entry_zip_next (zip_out_end hh D hz hT hti h1 hl1 hx fun h' e hk he =>
        wpAny_bind (wpAny_isInstance (T := "StopIteration") (b := true) he isSubtype_stop (wpAny_pure (hQ _ fun c o q e => hk c o q.z q.a q.b e)))) (PySem.F.args_zip_next_1 _))))

/-- the list's own loop over the zip, under way -/
structure ZLp (z TO i1 i2 S : Addr) (xs ys : Array Value) (h₁ : Heap) (h : Heap) (vs : List Value) (c : Nat) : Prop where
  keep : ∀ b o, b ≠ S → Oz z TO i1 i2 b → h₁.get? b = some o → h.get? b = some o
  at_ : h.get? S = some (W.listOf vs.toArray c)
  le : vs.length ≤ xs.size
  el : ZAll z TO i1 i2 S h₁.objs.size xs ys h vs
theorem zip_loop {z TI TO i1 i2 l1 l2 S : Addr} {xs ys : Array Value} {R : Result → Shared → Prop} (hh : A.handled = none) (D : ZipApart z TI TO i1 i2 l1 l2) (hn : ys.size = xs.size) (hz : xs.size ≤ 1000) (res : Value) {h₁ : Heap}
    (nS : ZNe z TI TO i1 i2 l1 l2 S) (hR : ∀ h' tk vs c, ZLp z TO i1 i2 S xs ys h₁ h' vs c → vs.length = xs.size → R (.ok (.ret res)) { s with heap := h', toks := tk }) :
    ∀ (k : Nat) (h : Heap) (tk c : Nat) (vs : List Value), xs.size - vs.length = k → ZSt z TI TO i1 i2 l1 l2 S xs ys vs.length h → ZLp z TO i1 i2 S xs ys h₁ h vs c → h₁.objs.size ≤ h.objs.size →
      codeAny (model prog w) A (.builtin "list.extend.loop" ⟨[.ref S, .ref z, res], []⟩) R { s with heap := h, toks := tk } := by
  have oS : Oz z TO i1 i2 S := ⟨nS.z.symm, nS.to.symm, nS.i1.symm, nS.i2.symm⟩
  intro k
  induction k with
  | zero =>
    intro h tk c vs hk hst lp hsz
    refine codeAny_builtin PySem.F.entry_extend_loop ?_
    rw [Around.under_plainId PySem.F.plain_extend_loop _]
    show wpAny _ A.in1 (pyNext (.ref z) >>= _) _ _ _
    have le := Nat.le_of_sub_eq_zero hk
    exact wpAny_bind (zip_stop (s := { s with heap := h, toks := tk }) (A := A.in1) hh D hst (Array.getElem?_eq_none le) fun h' he =>
      wpAny_pure (hR h' tk vs c ⟨fun b o c0 d e => he b o d (lp.keep b o c0 d e), he S _ oS lp.at_, lp.le, ZAll.mono lp.el fun c o _ d e => he c o d e⟩ (Nat.le_antisymm lp.le le)))
  | succ k ih =>
    intro h tk c vs hk hst lp hsz
    have hlt : vs.length < xs.size := Nat.lt_of_sub_eq_succ hk
    have hx := Array.getElem?_eq_getElem hlt
    have hy := Array.getElem?_eq_getElem (hn ▸ hlt)
    refine codeAny_builtin PySem.F.entry_extend_loop ?_
    rw [Around.under_plainId PySem.F.plain_extend_loop _]
    show wpAny _ A.in1 (pyNext (.ref z) >>= _) _ _ _
    refine wpAny_bind (zip_step (s := { s with heap := h, toks := tk }) D hst (Heap.lt_size lp.at_) hx hy fun h' hst' hp hz' hkp => ?_)
    dsimp only at hp hz' hkp ⊢
    have hS' := hkp S _ oS lp.at_
    have nw := hst.new
    have nSz := Nat.ne_of_gt (Heap.lt_size lp.at_)
    have up : ∀ b o, b ≠ S → h'.get? b = some o → (h'.update S (Obj.mapSeq (·.push (Value.ref h.objs.size)))).get? b = some o := fun b o hb e => (Heap.get?_update_other _ _ (Ne.symm hb)).trans e
    have hl : (vs ++ [Value.ref h.objs.size]).length = vs.length + 1 := List.length_append
    show wpAny _ A.in1 (updateSeq S (·.push (Value.ref h.objs.size)) >>= _) _ _ _
    refine wpAny_bind ?_
    refine wpAny_updateSeq hS' rfl (wpAny_pure ⟨plainId_quiet PySem.F.plain_extend_loop _, ih _ tk (c + 1) (vs ++ [Value.ref h.objs.size]) (by rw [hl, Nat.sub_add_eq, hk]; rfl) (by rw [hl]; exact hst'.keep up nS)
      ⟨fun b o c0 d e => up b o c0 (hkp b o d (lp.keep b o c0 d e)), ?_, by rw [hl]; exact hlt, ZAll.snoc (ZAll.mono lp.el fun c o n d e => up c o n (hkp c o d e)) hx hy (.mk _ ⟨_, up _ _ nSz hp, rfl, 0, rfl⟩ nw nSz hsz)⟩ (by rw [Heap.size_update, hz']; exact Nat.le_succ_of_le hsz)⟩) (by rw [List.size_toArray, sizeLine_eq]; lia) (by show (vs.toArray.push _).size ≤ sizeLine + 1; rw [Array.size_push, List.size_toArray, sizeLine_eq]; lia)
    rw [Heap.get?_update_self _ hS' rfl]
    show some (Obj.mapSeq (·.push (Value.ref h.objs.size)) (W.listOf vs.toArray c)) = _
    unfold Obj.mapSeq W.listOf
    simp

theorem zip_len : typeLookup (.type "zip") "__len__" = pure none := by rw [typeLookup_type, builtinLookup_eq_fast]; kernel_rfl
theorem zip_hintN : typeLookup (.type "zip") "__length_hint__" = pure none := by rw [typeLookup_type, builtinLookup_eq_fast]; kernel_rfl
theorem zip_hint {r : Addr} {Q : Bool → Shared → Prop} (hT : s.TypeIs (.ref r) "zip") (h : Q true s) : wpAny (model prog w) A (Builtin.List.listLengthHint (.ref r)) Q E s := by
  unfold Builtin.List.listLengthHint
  refine wpAny_bind (wpAny_specialOf hT zip_len ?_)
  show wpAny _ _ (specialOf (.ref r) "__length_hint__" >>= _) _ _ s
  exact wpAny_bind (wpAny_specialOf hT zip_hintN (wpAny_pure h))

theorem zip_list {l1 l2 z TI TO i1 i2 : Addr} {xs ys : Array Value} {Q : Value → Shared → Prop} (hh : A.handled = none) (D : ZipApart z TI TO i1 i2 l1 l2) (hn : ys.size = xs.size) (hz : xs.size ≤ 1000)
    (h0 : IsZip s.heap z TI TO .none) (hti : IsPair s.heap TI (.ref i1) (.ref i2)) (hto : ∃ a b, IsPair s.heap TO a b) (h1 : s.heap.IsListIter i1 l1 0) (h2 : s.heap.IsListIter i2 l2 0) (hl1 : s.heap.IsList l1 xs) (hl2 : s.heap.IsList l2 ys)
    (hQ : ∀ h' tk vs c, ZLp z TO i1 i2 s.heap.objs.size xs ys s.heap h' vs c → vs.length = xs.size → Q (.ref s.heap.objs.size) { s with heap := h', toks := tk }) :
    wpAny (model prog w) A (call (.type "list") [.ref z]) Q E s := by
  refine callType_codes (Q₁ := fun obj s₁ => obj = .ref s.heap.objs.size ∧ s₁ = { s with heap := s.heap.push { cls := .type "list", data := .seq #[] } }) PySem.F.called_list (PySem.F.typeCall_list_1 _) PySem.F.entry_list_init
    (code_list_new _ ⟨rfl, rfl⟩) fun obj s₁ h₁ => ?_
  obtain ⟨rfl, rfl⟩ := h₁
  have hS : (s.heap.push { cls := .type "list", data := .seq #[] }).get? s.heap.objs.size = some { cls := .type "list", data := .seq #[] } := Heap.get?_push_size _ rfl
  have up : ∀ c o, s.heap.get? c = some o → (s.heap.push { cls := .type "list", data := .seq #[] }).get? c = some o := fun c o e => Heap.get?_push_of_some _ e
  have ne : ∀ {c : Addr} {o : Obj}, s.heap.get? c = some o → c ≠ s.heap.objs.size := fun h => Nat.ne_of_lt (Heap.lt_size h)
  have n1 := ne h0
  have nn : ZNe z TI TO i1 i2 l1 l2 s.heap.objs.size := ⟨n1, ne hti, hto.elim fun _ h => h.elim fun _ e => ne e, h1.elim fun _ e => ne e.1, h2.elim fun _ e => ne e.1, hl1.elim fun _ e => ne e.1, hl2.elim fun _ e => ne e.1⟩
  have st0 : ∀ h : Heap, (∀ b o, b ≠ s.heap.objs.size → s.heap.get? b = some o → h.get? b = some o) → ZSt z TI TO i1 i2 l1 l2 s.heap.objs.size xs ys 0 h := fun h k =>
    ZSt.keep (h := s.heap) ⟨.first rfl h0, hti, hto, h1, h2, hl1, hl2⟩ k nn
  refine ⟨⟨_, hS, rfl⟩, PySem.F.args_list_init_2 _ _, ?_⟩
  show wpAny _ _ (do let old ← Builtin.List.listItems (.ref s.heap.objs.size); Builtin.List.listUpdate (.ref s.heap.objs.size) (fun _ => #[]); letGo old.toList.reverse; Builtin.List.listExtendWith (.ref s.heap.objs.size) (.ref z) .none) _ _ _
  refine wpAny_bind ?_
  unfold Builtin.List.listItems
  refine wpAny_bind (wpAny_seqItems hS rfl (wpAny_pure ?_))
  show wpAny _ _ (updateSeq s.heap.objs.size (fun _ => #[]) >>= fun _ => letGo (#[] : Array Value).toList.reverse >>= fun _ => Builtin.List.listExtendWith (.ref s.heap.objs.size) (.ref z) .none) _ _ _
  refine wpAny_bind (wpAny_updateSeq hS rfl ?_)
  have hS₂ := Heap.get?_update_self (Obj.mapSeq (fun _ => (#[] : Array Value))) hS rfl
  refine wpAny_bind (wpAny_letGo ?_)
  generalize hh2 : (s.heap.push { cls := .type "list", data := .seq #[] }).update s.heap.objs.size (Obj.mapSeq (fun _ => (#[] : Array Value))) = h₂ at hS₂
  have up2 : ∀ b o, b ≠ s.heap.objs.size → s.heap.get? b = some o → h₂.get? b = some o := fun b o hb e => by rw [← hh2]; exact (Heap.get?_update_other _ _ (Ne.symm hb)).trans (up b o e)
  replace hS₂ : h₂.get? s.heap.objs.size = some (W.listOf ([] : List Value).toArray 0) := hS₂
  have hz₂ : IsZip h₂ z TI TO .none := up2 _ _ n1 h0
  unfold Builtin.List.listExtendWith
  refine wpAny_bind (wpAny_typeOf (T := "zip") ⟨_, hz₂, rfl⟩ ?_)
  have e1 : Builtin.List.listSameRef (.ref s.heap.objs.size) (.ref z) = false := by simp [Builtin.List.listSameRef, n1.symm]
  have e2 : (Value.type "zip" == Value.type "list") = false := by decide
  have e3 : (Value.type "zip" == Value.type "tuple") = false := by decide
  simp only [e1, e2, e3, Bool.or_false, Bool.false_eq_true, if_false]
  refine wpAny_bind (wpAny_pyIter_zip hz₂ ?_)
  refine wpAny_bind (wpAny_holding (zip_hint ⟨_, hz₂, rfl⟩ ?_))
  refine wpAny_ite_split (fun _ => ?_) (fun h => absurd rfl h)
  refine wpAny_bind (wpAny_rule ?_)
  refine wpAny_bind ?_
  show wpAny _ _ (updateSeq s.heap.objs.size (·.push .none) >>= fun _ => updateSeq s.heap.objs.size (·.pop)) _ _ _
  refine wpAny_bind (wpAny_updateSeq hS₂ rfl ?_)
  have hS₃ := Heap.get?_update_self (Obj.mapSeq (·.push Value.none)) hS₂ rfl
  refine wpAny_updateSeq (hz := by seq_fits) hS₃ rfl ?_
  have hS₄ := Heap.get?_update_self (Obj.mapSeq (·.pop)) hS₃ rfl
  have up4 : ∀ b o, b ≠ s.heap.objs.size → s.heap.get? b = some o → ((h₂.update s.heap.objs.size (Obj.mapSeq (·.push Value.none))).update s.heap.objs.size (Obj.mapSeq (·.pop))).get? b = some o :=
    fun b o hb e => (Heap.get?_update_other _ _ (Ne.symm hb)).trans ((Heap.get?_update_other _ _ (Ne.symm hb)).trans (up2 b o hb e))
  refine wpAny_pure ⟨plainId_quiet PySem.F.plain_extend_loop _, ?_⟩
  exact zip_loop (A := A.in1) (s := s) (h₁ := s.heap) hh D hn hz .none nn (fun h' tk vs c lp hl => ⟨rfl, hQ h' tk vs c lp hl⟩) xs.size _ _ 2 [] (Nat.sub_zero _) (st0 _ up4) ⟨fun b o c0 _ e => up4 b o c0 e, hS₄, Nat.zero_le _, fun j v x y hv => nomatch hv⟩ (by rw [Heap.size_update, Heap.size_update, ← hh2, Heap.size_update, Heap.size_push]; exact Nat.le_succ _)

end
section
variable {prog : Program} {K : Params → Frag} {w : World} {g : Gh} {sg : Sg} {c : Ct K w g sg} {fx fy : Str} {fp fq : Pos}
variable {vs : List (Option Value)} {news : List (Addr × Obj)} {P : Heap} {pos pos' : Pos} {e e' e₁ e₂ : Expr}
theorem zip_pairs {h : Heap} {us xs ys : List Value} {ns ms : List Int} (hx : IntsAre xs ns) (hy : IntsAre ys ms) (hl : us.length = xs.length) (hn : ys.length = xs.length)
    (hG : ∀ (j : Nat) (v x y : Value), us[j]? = some v → xs[j]? = some x → ys[j]? = some y → ∃ T, v = .ref T ∧ IsTup h T #[x, y]) : PairsV h us (ns.zip ms) := by
  induction hx generalizing us ys ms with
  | nil =>
    have := List.length_eq_zero_iff.mp hl
    subst this
    exact .nil
  | @cons n t xs ns _ ih =>
    cases us with
    | nil => simp at hl
    | cons u us =>
      cases hy with
      | nil => simp at hn
      | @cons m t' ys ms hy =>
        refine .cons ?_ (ih hy (by simpa using hl) (by simpa using hn) fun j v x y a b d => hG (j + 1) v x y a b d)
        obtain ⟨T, e, i⟩ := hG 0 u _ _ rfl rfl rfl
        cases e; exact ⟨T, t, t', i⟩
inductive PairsL (ps : List (Int × Int)) (h : Heap) : Value → Prop
  | mk (r ys k) : h.get? r = some (W.listOf ys.toArray k) → PairsV h ys ps → PairsL ps h (.ref r)
theorem mono_pairsL {ps : List (Int × Int)} : Mono (PairsL ps) := fun _ _ _ k x => x.casesOn fun r ys n h i => .mk r ys n (k _ _ h) (PairsV.mono i k)
theorem Gives.listZip {l1 l2 : Addr} {xs ys : List Value} {ns' ms : List Int} (hf : Gives prog c vs news P (.Name fx fp) (IsV (.type "list"))) (hz : Gives prog c vs news P (.Name fy fq) (IsV (.type "zip"))) (h₁ : Gives prog c vs news P e₁ (IsV (.ref l1))) (h₂ : Gives prog c vs news P e₂ (IsV (.ref l2)))
    (hl1 : Held c vs news P fun h => h.IsList l1 xs.toArray) (hl2 : Held c vs news P fun h => h.IsList l2 ys.toArray) (hx : IntsAre xs ns') (hy : IntsAre ys ms) (hn : ys.length = xs.length) (hz' : xs.length ≤ 1000)
    (a1 : isStarred e₁ = false := by rfl) (a2 : isStarred e₂ = false := by rfl)
   
   
    :
    Gives prog c vs news P (.Call (.Name fx fp) [.Call (.Name fy fq) [e₁, e₂] [] pos'] [] pos) (PairsL (ns'.zip ms)) := fun P₀ s hP S =>
  Call_ (hf.bindV hP S fun P₁ s₁ k₁ S₁ => by
    refine callWith_type1 (args_cons (Call_ (hz.bindV (hP.trans k₁) S₁ fun P₂ s₂ k₂ S₂ => ?_)) (star rfl)) (star rfl)
    refine callWith_type1 (args_cons (h₁.bindV (hP.trans (k₁.trans k₂)) S₂ fun P₃ s₃ k₃ S₃ => args_cons (h₂.bindV (hP.trans (k₁.trans (k₂.trans k₃))) S₃ fun P₄ s₄ k₄ S₄ => args_nil ?_) (star a2)) (star a1)) (star a1) (starAny a2)
    have kk := k₁.trans (k₂.trans (k₃.trans k₄))
    have L1 := hl1 _ _ (hP.trans kk) S₄
    have L2 := hl2 _ _ (hP.trans kk) S₄
    refine call_zip_2 L1 L2 fun h' b1 b2 b3 b4 b5 b6 b7 => args_nil ?_
    have lt1 : l1 < s₄.heap.objs.size := let ⟨_, e, _⟩ := L1; Heap.lt_size e
    have lt2 : l2 < s₄.heap.objs.size := let ⟨_, e, _⟩ := L2; Heap.lt_size e
    refine zip_list (s := { s₄ with heap := h' }) c.hA (ktu_apart _ _ _ lt1 lt2) (by rw [List.size_toArray, List.size_toArray]; exact hn) (by rw [List.size_toArray]; exact hz') b1 b2 ⟨_, _, b3⟩ b4 b5 (L1.at fun o e => b7 _ o e) (L2.at fun o e => b7 _ o e) ?_
    intro h'' tk us k lp hlen
    have hD := lp.at_
    have up : Sub s₄.heap h'' := fun b o q => by
      have l := Heap.lt_size q
      exact lp.keep b o (Nat.ne_of_lt (b6 ▸ Nat.lt_add_right 5 l)) ⟨Nat.ne_of_lt (Nat.lt_add_right 4 l), Nat.ne_of_lt (Nat.lt_add_right 3 l), Nat.ne_of_lt l, Nat.ne_of_lt (Nat.lt_add_right 1 l)⟩ (b7 b o q)
    have nD : s₄.heap.get? h'.objs.size = none := none_at (by rw [b6]; exact Nat.le_add_right _ _)
    have S₅ := S₄.newAt (t := tk) nD up hD
    have nd := List.nodup_cons.mp (by have := S₅.nd; rwa [List.map_cons] at this)
    obtain ⟨P', p1, p2, p3, S₆⟩ := S₅.seal (news' := news) (fun _ h => .tail _ h) nd.2
    refine ⟨P', kk.trans p1, S₆, .mk h'.objs.size us k (p2 _ (.head _) nd.1) ?_⟩
    refine zip_pairs hx hy (by rw [hlen, List.size_toArray]) hn fun j v x y q1 q2 q3 => ?_
    refine (lp.el j v x y q1 (List.getElem?_toArray.trans q2) (List.getElem?_toArray.trans q3)).casesOn fun T ht _ _ hT => ?_
    obtain ⟨o, ho, r⟩ := ht
    have hT' : s₄.heap.objs.size < T := Nat.lt_of_lt_of_le (by rw [b6]; exact Nat.lt_add_of_pos_right (by decide)) (show h'.objs.size ≤ T from hT)
    have no : s₄.heap.get? T = none := none_at (Nat.le_of_lt hT')
    refine ⟨T, rfl, o, p3 T o ho ?_ (fun q => ?_) (fun q => ?_), r⟩
    · exact none_of_sub S₄.frame no
    · exact absurd (q ▸ S₄.ns.lt) (Nat.not_lt.mpr (Nat.le_of_lt hT'))
    · exact (S₄.ledAt q).ex.elim fun _ e => no_none no e)
end
end Mine

end PartBaseZ
section PartBaseU
open PySem PySem.W PySem.Spec PySem.Calls PyProof.Rows
set_option Elab.async false
set_option linter.unusedVariables false
namespace Mine
section
variable {prog : Program} {K : Params → Frag} {w : World} {g : Gh} {sg : Sg} {c : Ct K w g sg} {fx fy : Str} {fp fq : Pos} {E : Value → Shared → Prop}
variable {vs vs' vs'' : List (Option Value)} {news news' : List (Addr × Obj)} {P P₀ : Heap} {s : Shared} {x y : Str} {v u : Value} {pos pos' pos'' : Pos} {e e' e₁ e₂ e₃ : Expr} {R R₁ R₂ R' : Heap → Value → Prop} {a b : Int} {t : Tok}
variable {rest body orelse : List Stmt} {Q : Flow → Shared → Prop}

theorem seqIndex_last (its : List Value) (z : Value) : seqIndex? (-1) (its ++ [z]).length = some its.length := by
  unfold seqIndex?
  simp
  lia
theorem Gives.last {l : Addr} {its : List Value} (h : Gives prog c vs news P e₁ (IsV (.ref l))) (hk : Gives prog c vs news P e₂ (IsI (-1))) (hl : Held c vs news P fun h => h.IsList l (its ++ [v]).toArray)
    (hs : ∀ u : Tok, subscripted e₂ false (.ref l) (.int (-1) u) = operate [.ref l, .int (-1) u] (getItem (.ref l) (.int (-1) u)) := by intro _; with_unfolding_all rfl) : Gives prog c vs news P (.Subscript e₁ e₂ pos) (IsV v) := fun P₀ s hP S =>
  Subscript_ (h.bindV hP S fun P₁ s₁ k₁ S₁ => hk.bindI (hP.trans k₁) S₁ fun P₂ u s₂ k₂ S₂ => by
    have hL := hl _ _ (hP.trans (k₁.trans k₂)) S₂
    exact tail_any hL.typeIs slot_list_getitem.lookup (kde_getNeg hL (by decide) (by decide) (seqIndex_last its v) (by simp) ⟨P₂, k₁.trans k₂, S₂, rfl⟩) (hs u))
/-- a list from nothing, that stays as it is -/
inductive IsL (items : List Value) (h : Heap) : Value → Prop
  | mk (r : Addr) : h.get? r = some (W.listOf items.toArray 0) → IsL items h (.ref r)
theorem Gives.newNil : Gives prog c vs news P (.List [] pos) (IsL []) := fun P₀ s hP S =>
  List_ (args_nil (S.newList (fun D s' P' h1 h2 h3 => ⟨P', h1, h3, .mk D h2⟩) (Nat.zero_le _)))
/-- the last entry of a ledger's list is set -/
theorem X.setLast {D : Addr} {its : List Value} {z : Value} {n : Nat} (j : Nat) (h : Gives prog c vs news P e R) (h₁ : Gives prog c vs news P e₁ (IsV (.ref D))) (h₂ : Gives prog c vs news P e₂ (IsI (-1))) (m : Mono R) (S : Sc c vs news P s) (hj : news[j]? = some (D, W.listOf (its ++ [z]).toArray n)) (hz : its.length ≤ 1000)
    (k : ∀ P' v s', Sub P P' → R P' v → Sc c vs (news.set j (D, W.listOf (its ++ [v]).toArray n)) P' s' → Go prog c rest Q s')
    (hs : swapsWith e (some (.Subscript e₁ e₂ pos')) pos.line c.env = pure false := by rfl) : Go prog c (.Assign [.Subscript e₁ e₂ pos'] e pos :: rest) Q s :=
  Go.cons (wpAny_Assign_Subscript (h.bind (.refl _) S fun P₁ v₁ s₁ k₁ S₁ r₁ => h₁.bindV k₁ S₁ fun P₂ s₂ k₂ S₂ => h₂.bindI (k₁.trans k₂) S₂ fun P₃ t s₃ k₃ S₃ =>
    q_setLast S₃ (LUpd.at j hj) hz fun s₄ S₄ => k P₃ v₁ s₄ (k₁.trans (k₂.trans k₃)) (m _ _ _ (k₂.trans k₃) r₁) S₄) hs)
theorem X.sort {pl : Sem Bool} {D : Addr} {its : List Value} {ps : List (Int × Int)} {n : Nat} {apos cpos : Pos} (j : Nat) (hn : Gives prog c vs news P e (IsV (.ref D))) (S : Sc c vs news P s) (hj : news[j]? = some (D, W.listOf its.toArray n)) (hp : PairsV P its ps) (ok : SortOk ps)
    (k : ∀ P' its' qs n' s', Sub P P' → Sorted ps qs → PairsV P' its' qs → Sc c vs (news.set j (D, W.listOf its'.toArray n')) P' s' → Go prog c rest Q s')
    (hs : swapsWith (.Call (.Attribute e "sort" apos) [] [] cpos) none pos.line c.env = pure false := by rfl)
    (he : eval (.Call (.Attribute e "sort" apos) [] [] cpos) c.env = (do
      let ov ← eval e c.env
      standAt apos.atName
      let (f, first) ← holding [ov] (getMethod ov "sort" pl)
      callWith cpos f first (backTo cpos (starEach [] c.env)) []) := by rfl) :
    Go prog c (.Expr (.Call (.Attribute e "sort" apos) [] [] cpos) pos :: rest) Q s :=
  Go.cons (q_Expr c.V (MethodCall_ (hn.bindV (.refl _) S fun P₁ s₁ k₁ S₁ => by
    refine q_lmethod (S₁.get (List.mem_of_getElem? hj)) PySem.F.slot_list_sort PySem.F.type_list_sort ?_
    refine callWith_method0 ?_
    exact q_sort j S₁ hj (hp.mono k₁) ok fun n' s' its' qs h1 h2 S' => k P₁ its' qs n' s' k₁ h1 h2 S') he) hs)
inductive IsTupV (items : List Value) (h : Heap) : Value → Prop
  | mk (T : Addr) : IsTup h T items.toArray → IsTupV items h (.ref T)
theorem Gives.tupleOf {l : Addr} {items : List Value} (hf : Gives prog c vs news P (.Name fx fp) (IsV (.type "tuple"))) (h₁ : Gives prog c vs news P e₁ (IsV (.ref l))) (hl : Held c vs news P fun h => h.IsList l items.toArray) (hz : items.length ≤ 16384)
    (h1 : isStarred e₁ = false := by rfl)
    :
    Gives prog c vs news P (.Call (.Name fx fp) [e₁] [] pos) (IsTupV items) :=
  .tcall1 hf h₁ (fun P₀ v₁ s Q hP S r k => by
    subst r
    refine q_tupleOf S (hl _ _ hP S) hz fun D s' S' => ?_
    exact S'.sealNew.casesOn fun P' h1 h2 h3 => k _ _ P' h1 h3 (.mk D ⟨_, h2, rfl, 0, rfl⟩)) h1
theorem Cmps.isNot (h₁ : Gives prog c vs news P e₁ (IsV v)) (h₂ : Gives prog c vs news P e₂ (IsV u)) (hp : plainIs v u = true) : Cmps prog c vs news P e₁ .IsNot e₂ ((v == u) = false) :=
  fun P₀ s Q hP S k => h₁.bindV hP S fun P₁ s₁ k₁ S₁ => h₂.bindV (hP.trans k₁) S₁ fun P₂ s₂ k₂ S₂ => wpAny_isNot_plain hp (k P₂ s₂ _ (k₁.trans k₂) S₂ (by cases (v == u) <;> simp))

theorem seqIndex_nat {i : Int} {n : Nat} (h0 : 0 ≤ i) (h1 : i.toNat < n) : seqIndex? i n = some i.toNat := by
  unfold seqIndex?
  simp only [Int.not_lt.mpr h0, if_false]
  rw [if_pos]
  simp only [Bool.and_eq_true, decide_eq_true_eq]
  lia
/-- an end of a pair of a tuple of pairs -/
theorem Gives.fst {T : Addr} {items : List Value} {ps : List (Int × Int)} {i : Int} {p : Int × Int} (hT : IsTup P T items.toArray) (hp : PairsV P items ps) (h₁ : Gives prog c vs news P e₁ (IsV (.ref T))) (h₂ : Gives prog c vs news P e₂ (IsI i)) (h₃ : Gives prog c vs news P e₃ (IsI 0)) (h0 : 0 ≤ i) (h1 : i < 2 ^ 63) (hx : ps[i.toNat]? = some p)
    (hs : ∀ (u : Tok) (o : Addr), subscripted e₂ false (.ref o) (.int i u) = operate [.ref o, .int i u] (getItem (.ref o) (.int i u)) := by intro _ _; with_unfolding_all rfl)
    (hs' : ∀ (u : Tok) (o : Addr), subscripted e₃ false (.ref o) (.int 0 u) = operate [.ref o, .int 0 u] (getItem (.ref o) (.int 0 u)) := by intro _ _; with_unfolding_all rfl) : Gives prog c vs news P (.Subscript (.Subscript e₁ e₂ pos) e₃ pos') (IsI p.1) := by
  obtain ⟨v, hv, a, t, u, hq⟩ := hp.get hx
  have hl := (List.getElem?_eq_some_iff.mp hv).1
  exact (Gives.itemT (items := [.int p.1 t, .int p.2 u]) (j := 0) (.itemT h₁ h₂ (.ofP (fun _ _ k x => x.keeps k) hT) (by lia) h1 (seqIndex_nat h0 hl) hv fun u => hs u T) h₃ (.ofP (fun _ _ k x => x.keeps k) hq) (by decide) (by decide) rfl rfl fun u => hs' u a).toI
theorem Gives.snd {T : Addr} {items : List Value} {ps : List (Int × Int)} {i : Int} {p : Int × Int} (hT : IsTup P T items.toArray) (hp : PairsV P items ps) (h₁ : Gives prog c vs news P e₁ (IsV (.ref T))) (h₂ : Gives prog c vs news P e₂ (IsI i)) (h₃ : Gives prog c vs news P e₃ (IsI 1)) (h0 : 0 ≤ i) (h1 : i < 2 ^ 63) (hx : ps[i.toNat]? = some p)
    (hs : ∀ (u : Tok) (o : Addr), subscripted e₂ false (.ref o) (.int i u) = operate [.ref o, .int i u] (getItem (.ref o) (.int i u)) := by intro _ _; with_unfolding_all rfl)
    (hs' : ∀ (u : Tok) (o : Addr), subscripted e₃ false (.ref o) (.int 1 u) = operate [.ref o, .int 1 u] (getItem (.ref o) (.int 1 u)) := by intro _ _; with_unfolding_all rfl) : Gives prog c vs news P (.Subscript (.Subscript e₁ e₂ pos) e₃ pos') (IsI p.2) := by
  obtain ⟨v, hv, a, t, u, hq⟩ := hp.get hx
  have hl := (List.getElem?_eq_some_iff.mp hv).1
  exact (Gives.itemT (items := [.int p.1 t, .int p.2 u]) (j := 1) (.itemT h₁ h₂ (.ofP (fun _ _ k x => x.keeps k) hT) (by lia) h1 (seqIndex_nat h0 hl) hv fun u => hs u T) h₃ (.ofP (fun _ _ k x => x.keeps k) hq) (by decide) (by decide) rfl rfl fun u => hs' u a).toI
theorem ints_snoc {ns : List Int} {vs : List Value} {z : Int} (h : IntsAre vs (ns ++ [z])) : ∃ vs' t, vs = vs' ++ [.int z t] := by
  have hl := h.length
  rw [List.length_append] at hl
  obtain ⟨t, e⟩ := h.get ns.length z List.getElem?_concat_length
  rcases List.eq_nil_or_concat vs with rfl | ⟨a, b, rfl⟩
  · exact nomatch hl
  · rw [List.concat_eq_append, List.length_append] at hl
    rw [List.concat_eq_append, ← Nat.succ.inj hl, List.getElem?_concat_length] at e
    exact ⟨a, t, by rw [List.concat_eq_append, Option.some.inj e]⟩
end
end Mine

end PartBaseU
section PartBaseV
open PySem PySem.W PySem.Spec PySem.Calls PyProof.Rows
set_option Elab.async false
set_option linter.unusedVariables false
namespace Mine
noncomputable def numsTo (N : Nat) : List Int := (List.range N).map fun i : Nat => (i : Int) + 1
theorem ints_range : ∀ {n : Nat} {ys : List Value} {a : Int}, ys.length = n → (∀ (i : Nat) y, ys[i]? = some y → ∃ t, y = Value.int (a + i) t) → IntsAre ys ((List.range n).map fun i : Nat => a + (i : Int))
  | 0, ys, a, h, _ => by rw [List.length_eq_zero_iff.mp h]; exact .nil
  | n + 1, [], a, h, _ => by simp at h
  | n + 1, y :: ys, a, h, k => by
    obtain ⟨t, e⟩ := k 0 y rfl
    have ih := ints_range (n := n) (ys := ys) (a := a + 1) (by simpa using h) fun i z hz => by
      obtain ⟨t, e⟩ := k (i + 1) z hz
      exact ⟨t, by rw [e]; congr 1; lia⟩
    have e2 : (List.range (n + 1)).map (fun i : Nat => a + (i : Int)) = a :: (List.range n).map fun i : Nat => a + 1 + (i : Int) := by
      rw [List.range_succ_eq_map]
      simp only [List.map_cons, List.map_map]
      congr 1
      · simp
      · apply List.map_congr_left
        intro i _
        simp only [Function.comp]
        lia
    rw [e2, e, show a + ((0 : Nat) : Int) = a from by lia]
    exact .cons a t ih
section
variable {prog : Program} {K : Params → Frag} {w : World} {g : Gh} {sg : Sg} {c : Ct K w g sg} {fx fy : Str} {fp fq : Pos} {E : Value → Shared → Prop}
variable {vs vs' vs'' : List (Option Value)} {news news' : List (Addr × Obj)} {P P₀ : Heap} {s : Shared} {x y : Str} {v u : Value} {pos pos' pos'' : Pos} {e e' e₁ e₂ e₃ : Expr} {R R₁ R₂ R' : Heap → Value → Prop} {a b : Int} {t : Tok}

inductive RangeV (a b : Int) (h : Heap) : Value → Prop
  | mk (r t₁ t₂ t₃) : IsRange h r a b 1 t₁ t₂ t₃ → RangeV a b h (.ref r)
theorem Gives.range2 (hf : Gives prog c vs news P (.Name fx fp) (IsV (.type "range"))) (h₁ : Gives prog c vs news P e₁ (IsI a)) (h₂ : Gives prog c vs news P e₂ (IsI b))
    (h1 : isStarred e₁ = false := by rfl) (h2 : isStarred e₂ = false := by rfl)
    : Gives prog c vs news P (.Call (.Name fx fp) [e₁, e₂] [] pos) (RangeV a b) := fun P₀ s hP S =>
  Call_ (hf.bindV hP S fun P₁ s₁ k₁ S₁ =>
    callWith_type1 (args_cons (h₁.bindI (hP.trans k₁) S₁ fun P₂ t₂ s₂ k₂ S₂ => args_cons (h₂.bindI (hP.trans (k₁.trans k₂)) S₂ fun P₃ t₃ s₃ k₃ S₃ => args_nil (by
      refine call_range_2 ?_
      obtain ⟨P', p1, p2, S'⟩ := (S₃.push (t := s₃.toks + 1) { cls := .type "range", data := .fields #[.int a t₂, .int b t₃, .int 1 s₃.toks] }).sealNew
      exact ⟨P', k₁.trans (k₂.trans (k₃.trans p1)), S', .mk _ _ _ _ p2⟩)) (star h2)) (star h1)) (star h1) (starAny h2))
theorem Gives.range1 (hf : Gives prog c vs news P (.Name fx fp) (IsV (.type "range"))) (h₁ : Gives prog c vs news P e₁ (IsI b))
    (h1 : isStarred e₁ = false := by rfl)
    : Gives prog c vs news P (.Call (.Name fx fp) [e₁] [] pos) (RangeV 0 b) :=
  .tcall1 hf h₁ (fun P₀ v₁ s Q hP S r k => by
    obtain ⟨t, r⟩ := r
    subst r
    refine call_range_1 ?_
    obtain ⟨P', p1, p2, S'⟩ := (S.push (t := s.toks + 1 + 1) { cls := .type "range", data := .fields #[.int 0 s.toks, .int b t, .int 1 (s.toks + 1)] }).sealNew
    exact k _ _ P' p1 S' (.mk _ _ _ _ p2)) h1
/-- a list of ints, told of -/
inductive IntsL (ns : List Int) (h : Heap) : Value → Prop
  | mk (r ys k) : h.get? r = some (W.listOf ys.toArray k) → IntsAre ys ns → IntsL ns h (.ref r)
theorem mono_ints {ns : List Int} : Mono (IntsL ns) := fun _ _ _ k x => x.casesOn fun r ys n h i => .mk r ys n (k _ _ h) i
theorem hit_ints {target : Expr} {us : List Int} (P' : Heap) (v : Value) (s' : Shared) (_ : Sub P P') (S : Sc c vs news P' s') (r : IntsL us P' v) : ∃ need, IterTo prog w c.A K target v s' us.length (fun i v _ => ∃ m t, us[i]? = some m ∧ v = .int m t) need := by
  exact r.casesOn fun r ys k hr hi => ⟨_, IterTo.ints c.hA ⟨_, S.keep _ _ hr, rfl, k, rfl⟩ hi⟩
theorem Gives.listRange {N : Nat} (hf : Gives prog c vs news P (.Name fx fp) (IsV (.type "list"))) (h₁ : Gives prog c vs news P e₁ (RangeV 1 b)) (hb : b = N + 1) (hz : N ≤ 1000)
    (h1 : isStarred e₁ = false := by rfl)
    : Gives prog c vs news P (.Call (.Name fx fp) [e₁] [] pos) (IntsL (numsTo N)) :=
  .tcall1 hf h₁ (fun P₀ v₁ s Q hP S x k => by
    subst hb
    refine x.casesOn fun r t₁ t₂ t₃ hr => ?_
    refine q_listRange N S c.hA (S.keep _ _ hr) (small_one (by decide) (by decide) (by lia) (by lia)) (by rw [rangeSize_nat]; lia) hz fun D ys k' s' hl hv S' => ?_
    refine S'.sealNew.casesOn fun P' p1 p2 S₂ => ?_
    have := ints_range hl hv
    have e : (List.range N).map (fun i : Nat => (1 : Int) + (i : Int)) = numsTo N := List.map_congr_left fun i _ => by lia
    rw [e] at this
    exact k _ _ P' p1 S₂ (.mk D ys k' p2 this)) h1
theorem numsTo_length (N : Nat) : (numsTo N).length = N := by simp [numsTo]
theorem numsTo_asc (N : Nat) : (numsTo N).Pairwise (· < ·) := by
  unfold numsTo
  rw [List.pairwise_map]
  exact List.pairwise_lt_range.imp fun h => by lia
theorem numsTo_last {N : Nat} {g : Int} (h : (numsTo N).getLast? = some g) : g = N := by
  cases N with
  | zero => cases h
  | succ n =>
    have : numsTo (n + 1) = numsTo n ++ [(n : Int) + 1] := by unfold numsTo; rw [List.range_succ, List.map_append]; rfl
    rw [this, List.getLast?_concat] at h
    cases h; lia
end
end Mine

end PartBaseV
section PartBaseW
open PySem PySem.W PySem.Spec PySem.Calls PyProof.Rows
set_option Elab.async false
set_option linter.unusedVariables false
namespace Mine
section
variable {prog : Program} {K : Params → Frag} {w : World} {g : Gh} {sg : Sg} {c : Ct K w g sg} {fx fy : Str} {fp fq : Pos} {E : Value → Shared → Prop}
variable {vs vs' vs'' : List (Option Value)} {news news' : List (Addr × Obj)} {P P₀ : Heap} {s : Shared} {x y : Str} {v u : Value} {pos pos' pos'' : Pos} {e e' e₁ e₂ e₃ : Expr} {R R₁ R₂ R' : Heap → Value → Prop} {a b d : Int} {t : Tok}

theorem Tests.chainLe (h₁ : Gives prog c vs news P e₁ (IsI a)) (h₂ : Gives prog c vs news P e₂ (IsI b)) (h₃ : Gives prog c vs news P e₃ (IsI d)) (hm : lastMarks [.LtE, .LtE] [e₂, e₃] = false := by with_unfolding_all rfl) :
    Tests prog c vs news P (.Compare e₁ [.LtE, .LtE] [e₂, e₃] pos) (a ≤ b ∧ b ≤ d) := fun P₀ s hP S =>
  isTrue_chain (h₁.bindI hP S fun P₁ t₁ s₁ k₁ S₁ => test_link (h₂.bindI (hP.trans k₁) S₁ fun P₂ t₂ s₂ k₂ S₂ => le_int (truthy_b (by
    by_cases q : a ≤ b
    · rw [decide_eq_true q, if_pos rfl]
      exact test_last (h₃.bindI (hP.trans (k₁.trans k₂)) S₂ fun P₃ t₃ s₃ k₃ S₃ => le_int (truthy_b ⟨P₃, k₁.trans (k₂.trans k₃), S₃, decide_eq_true_iff.trans (and_iff_right q).symm⟩))
    · rw [decide_eq_false q, if_neg Bool.false_ne_true]
      exact ⟨P₂, k₁.trans k₂, S₂, iff_of_false Bool.false_ne_true fun h => q h.1⟩)))) hm
theorem Gives.pairMin {T : Addr} {t₁ t₂ : Tok} (hf : Gives prog c vs news P (.Name fx fp) (IsV (.builtin "min"))) (h₁ : Gives prog c vs news P e₁ (IsV (.ref T))) (hT : Held c vs news P fun h => IsTup h T #[.int a t₁, .int b t₂])
    (h1 : isStarred e₁ = false := by rfl)
    : Gives prog c vs news P (.Call (.Name fx fp) [e₁] [] pos) (IsI (min a b)) :=
  .bcall1V hf h₁ (fun P₀ s Q hP S k => q_pairMin S c.hA (hT _ _ hP S) fun t s' S' => k _ s' S' ⟨t, rfl⟩) h1
theorem Gives.pairMax {T : Addr} {t₁ t₂ : Tok} (hf : Gives prog c vs news P (.Name fx fp) (IsV (.builtin "max"))) (h₁ : Gives prog c vs news P e₁ (IsV (.ref T))) (hT : Held c vs news P fun h => IsTup h T #[.int a t₁, .int b t₂])
    (h1 : isStarred e₁ = false := by rfl)
    : Gives prog c vs news P (.Call (.Name fx fp) [e₁] [] pos) (IsI (max a b)) :=
  .bcall1V hf h₁ (fun P₀ s Q hP S k => q_pairMax S c.hA (hT _ _ hP S) fun t s' S' => k _ s' S' ⟨t, rfl⟩) h1
/-- lists of ints told apart -/
theorem Cmps.ll {n m : List Int} {op : CmpOp} {p : Prop} [Decidable p] (h₁ : Gives prog c vs news P e₁ (IntsL n)) (h₂ : Gives prog c vs news P e₂ (IntsL m))
    (hop : ∀ {s : Shared} {r₁ r₂ : Addr} {y₁ y₂ : List Value} {Q : Value → Shared → Prop}, s.heap.IsList r₁ y₁.toArray → s.heap.IsList r₂ y₂.toArray → IntsAre y₁ n → IntsAre y₂ m → Q (.bool (decide p)) s → wpAny (model prog w) c.A (compareOp op (.ref r₁) (.ref r₂)) Q NoE s) : Cmps prog c vs news P e₁ op e₂ p :=
  .of h₁ h₂ mono_ints fun P₀ v₁ v₂ s Q hP S x y k => by
    exact x.casesOn fun r₁ y₁ k₁ o₁ i₁ => y.casesOn fun r₂ y₂ k₂ o₂ i₂ => hop ⟨_, S.keep _ _ o₁, rfl, k₁, rfl⟩ ⟨_, S.keep _ _ o₂, rfl, k₂, rfl⟩ i₁ i₂ (k s _ S decide_eq_true_iff)
theorem Cmps.neL {n m : List Int} (ao : Ao c.A 2) (h₁ : Gives prog c vs news P e₁ (IntsL n)) (h₂ : Gives prog c vs news P e₂ (IntsL m)) : Cmps prog c vs news P e₁ .NotEq e₂ (n ≠ m) :=
  .ll h₁ h₂ fun a b i j k => q_neInts a b i j ao (by rw [← decide_not]; exact k)
theorem Cmps.eqL {n m : List Int} (ao : Ao c.A 2) (h₁ : Gives prog c vs news P e₁ (IntsL n)) (h₂ : Gives prog c vs news P e₂ (IntsL m)) : Cmps prog c vs news P e₁ .Eq e₂ (n = m) :=
  .ll h₁ h₂ fun a b i j k => q_eqInts a b i j ao k
theorem Cmps.pp {n m : List (Int × Int)} {op : CmpOp} {p : Prop} [Decidable p] (h₁ : Gives prog c vs news P e₁ (PairsL n)) (h₂ : Gives prog c vs news P e₂ (PairsL m))
    (hop : ∀ {s : Shared} {r₁ r₂ : Addr} {y₁ y₂ : List Value} {Q : Value → Shared → Prop}, s.heap.IsList r₁ y₁.toArray → s.heap.IsList r₂ y₂.toArray → PairsV s.heap y₁ n → PairsV s.heap y₂ m → Q (.bool (decide p)) s → wpAny (model prog w) c.A (compareOp op (.ref r₁) (.ref r₂)) Q NoE s) : Cmps prog c vs news P e₁ op e₂ p :=
  .of h₁ h₂ mono_pairsL fun P₀ v₁ v₂ s Q hP S x y k => by
    exact x.casesOn fun r₁ y₁ k₁ o₁ i₁ => y.casesOn fun r₂ y₂ k₂ o₂ i₂ => hop ⟨_, S.keep _ _ o₁, rfl, k₁, rfl⟩ ⟨_, S.keep _ _ o₂, rfl, k₂, rfl⟩ (PairsV.mono i₁ S.keep) (PairsV.mono i₂ S.keep) (k s _ S decide_eq_true_iff)
theorem Cmps.neP {n m : List (Int × Int)} (ao : Ao c.A 2) (h₁ : Gives prog c vs news P e₁ (PairsL n)) (h₂ : Gives prog c vs news P e₂ (PairsL m)) : Cmps prog c vs news P e₁ .NotEq e₂ (n ≠ m) :=
  .pp h₁ h₂ fun a b i j k => q_nePairs a b i j ao k
theorem Cmps.eqP {n m : List (Int × Int)} (ao : Ao c.A 2) (h₁ : Gives prog c vs news P e₁ (PairsL n)) (h₂ : Gives prog c vs news P e₂ (PairsL m)) : Cmps prog c vs news P e₁ .Eq e₂ (n = m) :=
  .pp h₁ h₂ fun a b i j k => q_eqPairs a b i j ao k
theorem hit_pairs {target : Expr} {ps : List (Int × Int)} (hV : PairsL ps P u) (P' : Heap) (v : Value) (s' : Shared) (k : Sub P P') (S : Sc c vs news P' s') (r : IsV u P' v) : ∃ need, IterTo prog w c.A K target v s' ps.length (fun i v _ => ∃ p, ps[i]? = some p ∧ PairV P v p) need := by
  subst r
  refine hV.casesOn fun r ys n hr hi => ?_
  have T := IterTo.listL (prog := prog) (w := w) (K := K) (target := target) (items := ys) c.hA ⟨_, S.keep _ _ (k _ _ hr), rfl, n, rfl⟩
  rw [hi.length] at T
  exact ⟨_, T.weaken fun i v h hv => hi.getL hv⟩
theorem Made.ints {J : List Value → Heap → Prop} {h : Heap} {ns : List Int} (m : Made J h v) (k : ∀ ys P, J ys P → IntsAre ys ns) : IntsL ns h v := m.casesOn fun r ys n P hr _ j => .mk r ys n hr (k _ _ j)
theorem Made.pairs {J : List Value → Heap → Prop} {h : Heap} {ps : List (Int × Int)} (m : Made J h v) (k : ∀ ys P, J ys P → PairsV P ys ps) : PairsL ps h v := m.casesOn fun r ys n P hr a j => .mk r ys n hr (PairsV.mono (k _ _ j) a)
theorem Gives.nilP : Gives prog c vs news P (.List [] pos) (PairsL []) := Gives.newNil.weaken fun h v x => x.casesOn fun r o => .mk r [] 0 o .nil
theorem Gives.nilI : Gives prog c vs news P (.List [] pos) (IntsL []) := Gives.newNil.weaken fun h v x => x.casesOn fun r o => .mk r [] 0 o .nil

theorem X.enterC {f : Addr} {n : Nat} {oc : Value} {od : Option Addr} {name qual : Str} {params : Arguments} {body : List Stmt} {scope : Scope} {dV kV doc pm cdv ct : Value} {an : Option Addr} {osl : Array (Option Value)}
    {args : List Value} {binds : List (Str × Value)} {R : Result → Shared → Prop} {A : Around} {H : Heap} {mt : List (Addr × Obj)} (ns : List Str) (vs : List (Option Value)) (gv : List (Str × Value)) (cf : Nat → List (Str × Addr)) (cm : Str → Option Value)
    (ho : (K w.params).lookup f = some ⟨oc, od, .func (fnX name qual params body scope [] dV kV doc pm an cdv ct), osl⟩)
    (hcd : codeIn (K w.params) cdv qual = true) (hbind : bindArgs (fnX name qual params body scope [] dV kV doc pm an cdv ct) ⟨args, []⟩ = pure binds)
    (hf : fnOkC scope = true) (hn : nsOk scope ns = true) (hg : glOk (K w.params) scope gv = true)
    (hcf : ∀ n, cellsFrom n scope.names [] = cf n)
    (hkind : ∀ i, ∀ x ∈ binds, scope.names.lookup x.1 = some .local ∨ (scope.names.lookup x.1 = some .cell ∧ ((cellsFrom (i + 1) scope.names []).lookup x.1).isSome = true))
    (hbl : bindL (fun y => scope.names.lookup y) binds (fun _ => none) = vec ns vs) (hbc : bindC (fun y => scope.names.lookup y) binds (fun _ => none) = cm)
    (hcn : ∀ n, ((cf n).map (·.1)).Nodup) (hck : ∀ n, ∀ p ∈ cf n, scope.names.lookup p.1 = some .cell ∧ (p.1 == ("__debug__" : Str)) = false)
    (ao : Ao A (n + 1)) (C : Cx K w P) (hP : Sub P s.heap) (hH : Sub H s.heap)
    (hm : ∀ p ∈ mt, s.heap.get? p.1 = some p.2 ∧ H.get? p.1 = none ∧ P.get? p.1 = none) (hnd : (mt.map (·.1)).Nodup)
    (h : ∀ i led (c : Ct K w ⟨s, H, P⟩ ⟨ns, gv, cf i⟩) s₁, Ao c.A n → CellsLed cm (cf i) led → Sc c vs (led ++ mt) P s₁ → Go prog c body (RP fun v => R (.ok (.ret v))) s₁) :
    codeAny (model prog w) A (.call (.ref f) ⟨args, []⟩) R s :=
  q_enterAC ho hcd hbind hf hn hg hcf hkind hbl hbc hcn hck ao C hP hH hm hnd fun env L A' s₁ i led V ao hled S => h i led ⟨env, A', L, V, ao.handled⟩ s₁ ao hled S
theorem call_of {f : Addr} {args : List Value} {A : Around} {Q : Value → Shared → Prop} (h : codeAny (model prog w) A (.call (.ref f) ⟨args, []⟩) (fun r s' => match r with | .ok (.ret v) => Q v s' | .ok _ => False | .error e => E e s') s) : wpAny (model prog w) A (call (.ref f) args) Q E s := wpAny_call h
end
end Mine

end PartBaseW
section PartBaseX
open PySem PySem.W PySem.Spec PySem.Calls PyProof.Rows
set_option Elab.async false
set_option linter.unusedVariables false
namespace Mine

/-! fields by name -/
theorem isStr_eq {v : Value} {x y : Str} (h : v.isStr x = true) (k : v.isStr y = true) : x = y := by
  cases v <;> simp_all [Value.isStr]
theorem putL_any {x y : Str} {v : Value} {hs : Int} {t : Tok} : ∀ es : List DictEntry, (putL y hs (.str y t) v es).any (·.refKey) = es.any (·.refKey)
  | [] => rfl
  | e :: r => by
    unfold putL
    split
    · rfl
    · simp only [List.any_cons, putL_any (x := x) r]
theorem getL_putL {x y : Str} {v : Value} {hs : Int} {t : Tok} (es : List DictEntry) : getL x (putL y hs (.str y t) v es) = if x = y then some (some v) else getL x es := by
  have hf : (putL y hs (.str y t) v es).find? (·.key.isStr x) = if x = y then some ⟨(((es.find? (·.key.isStr y)).map (·.hash)).getD hs), (((es.find? (·.key.isStr y)).map (·.key)).getD (.str y t)), v⟩ else es.find? (·.key.isStr x) := by
    induction es with
    | nil =>
      by_cases h : x = y
      · subst h; simp [putL, Value.isStr]
      · rw [if_neg h]; simp [putL, Value.isStr, Ne.symm h]
    | cons e r ih =>
      unfold putL
      by_cases hk : e.key.isStr y = true
      · rw [if_pos hk]
        by_cases h : x = y
        · subst h; simp [hk]
        · rw [if_neg h]
          have : e.key.isStr x = false := by
            cases q : e.key.isStr x with
            | false => rfl
            | true => exact absurd (isStr_eq q hk) h
          simp [this]
      · rw [if_neg hk]
        by_cases h : x = y
        · subst h; simp only [List.find?_cons, if_pos] at ih ⊢; simp [hk, ih]
        · rw [if_neg h] at ih ⊢
          simp only [List.find?_cons, ih]
  unfold getL
  rw [hf, putL_any (x := x)]
  by_cases h : x = y
  · rw [if_pos h, if_pos h]
  · rw [if_neg h, if_neg h]
theorem getL_eq {y : Str} {v : Value} {hs : Int} {t : Tok} {es : List DictEntry} : getL y (putL y hs (.str y t) v es) = some (some v) := by rw [getL_putL, if_pos rfl]
theorem getL_ne {x y : Str} {v : Value} {hs : Int} {t : Tok} {es : List DictEntry} {o : Option (Option Value)} (h : ¬ x = y) (e : getL x es = o) : getL x (putL y hs (.str y t) v es) = o := by rw [getL_putL, if_neg h, e]
theorem putL_len {y : Str} {v k : Value} {hs : Int} : ∀ es : List DictEntry, (putL y hs k v es).length ≤ es.length + 1
  | [] => Nat.le_refl _
  | e :: r => by
    unfold putL
    split
    · simp
    · have := putL_len (y := y) (v := v) (k := k) (hs := hs) r
      simp only [List.length_cons]; lia

/-- what a call has made that changes some old objects -/
structure GrowX (ex : List Addr) (P : Heap) (s : Shared) (P' : Heap) (s' : Shared) : Prop where
  sib : Sib s s'
  stay : ∀ a o, a ∉ ex → s.heap.get? a = some o → s'.heap.get? a = some o
  up : Sub P P'
  sub : Sub P' s'.heap
  old : ∀ a o, s.heap.get? a = some o → P'.get? a = P.get? a
noncomputable def offs (h : Heap) (ex : List Addr) : Heap := keepIf h fun a => decide (a ∉ ex)
theorem get_offs {h : Heap} {ex : List Addr} {a : Addr} : (offs h ex).get? a = if a ∈ ex then none else h.get? a := by
  unfold offs
  rw [get_keepIf]
  by_cases q : a ∈ ex <;> simp [q]
theorem offs_sub (h : Heap) (ex : List Addr) : Sub (offs h ex) h := keepIf_sub
section
variable {K : Params → Frag} {w : World} {g : Gh} {P P' : Heap} {L : Addr} {s s' : Shared} {m m' : Str → Option Value} {news news' : List (Addr × Obj)} {ex : List Addr}
theorem St.growX (S : St K w g P L s m news) (h : g.H = offs g.s₀.heap ex) (hx : ∀ a ∈ ex, a ∈ news.map (·.1) ∧ g.P.get? a = none) : GrowX ex g.P g.s₀ P s :=
  ⟨S.sib, fun a o n e => S.frame a o (by rw [h, get_offs, if_neg n]; exact e), S.base, S.keep, fun a o e => by
    by_cases q : a ∈ ex
    · exact (S.ledAt (hx a q).1).offP.trans (hx a q).2.symm
    · exact S.old a o (by rw [h, get_offs, if_neg q]; exact e)⟩
theorem St.afterX (S : St K w g P L s m news) (G : GrowX ex P s P' s') (hex : ∀ a ∈ ex, a ∈ news.map (·.1)) (hl : ∀ p ∈ news', s'.heap.get? p.1 = some p.2 ∧ p.1 ∈ news.map (·.1)) (hn : (news'.map (·.1)).Nodup) : St K w g P' L s' m news' where
  cx := S.cx.mono G.up
  sib := S.sib.trans G.sib
  frame := fun a o e => G.stay a o (fun q => by
    exact nomatch (S.ledAt (hex a q)).offH.symm.trans e) (S.frame a o e)
  base := S.base.trans G.up
  keep := G.sub
  old := fun a o e => (G.old a o (S.frame a o e)).trans (S.old a o e)
  offH := S.offH
  offP := by
    obtain ⟨o, _, _, ho, _⟩ := S.ns
    exact (G.old L o ho).trans S.offP
  low := S.low
  ns := by
    obtain ⟨o, a, b, ho, r⟩ := S.ns
    exact ⟨o, a, b, G.stay _ _ (fun q => (S.ledAt (hex L q)).ne rfl) ho, r⟩
  led := fun p hp => by
    have z := S.ledAt (hl p hp).2
    exact ⟨(hl p hp).1, z.ne, z.offH, (z.ex.elim fun o ho => G.old _ o ho).trans z.offP⟩
  nd := hn
theorem St.afterHd {a : Addr} {o o' : Obj} (S : St K w g P L s m ((a, o) :: news)) (G : GrowX [a] P s P' s') (h : s'.heap.get? a = some o') : St K w g P' L s' m ((a, o') :: news) := by
  refine S.afterX G (fun b hb => by rw [List.mem_singleton.mp hb]; exact .head _) (fun p hp => ?_) S.nd
  rcases List.mem_cons.mp hp with rfl | hp
  · exact ⟨h, .head _⟩
  · exact ⟨G.stay _ _ (fun q => (List.nodup_cons.mp S.nd).1 (List.mem_singleton.mp q ▸ List.mem_map_of_mem (f := (·.1)) hp)) (S.led p (.tail _ hp)).1, .tail _ (List.mem_map_of_mem hp)⟩
/-- one more object, that was not there before -/
theorem St.also {l : Addr} {o : Obj} (S : St K w g P L s m news) (hl : s.heap.get? l = none) (S' : St K w g P' L s' m news') (hf : news'.map (·.1) = news.map (·.1)) (h : s'.heap.get? l = some o) (hP : P'.get? l = none) : St K w g P' L s' m ((l, o) :: news') :=
  { S' with
    led := fun p hp => by
      rcases List.mem_cons.mp hp with rfl | hp
      · exact ⟨h, fun e => by obtain ⟨_, _, _, ho, _⟩ := S.ns; exact no_none hl (e ▸ ho), none_of_sub S.frame hl, hP⟩
      · exact S'.led p hp
    nd := List.nodup_cons.mpr ⟨fun q => (S.ledAt (hf ▸ q)).ex.elim fun _ e => no_none hl e, S'.nd⟩ }
end

section
variable {prog : Program} {K : Params → Frag} {w : World} {g : Gh} {sg : Sg} {c : Ct K w g sg}
variable {vs : List (Option Value)} {news : List (Addr × Obj)} {P : Heap} {s : Shared} {name : Str} {pos pos' : Pos} {e e₁ : Expr} {rest : List Stmt} {R : Heap → Value → Prop} {Q : Flow → Shared → Prop}
/-- the entries of a dict once a field is set -/
noncomputable abbrev setE (w : World) (name : Str) (t : Tok) (v : Value) (es : List DictEntry) : List DictEntry := putL name (PyData.keyHash w.params name) (.str name t) v es
theorem X.setAttr {b C dx : Addr} {es : List DictEntry} {n : Nat} (j : Nat) (h : Gives prog c vs news P e R) (mR : Mono R) (ho : Gives prog c vs news P e₁ (IsV (.ref b))) (S : Sc c vs news P s) (hb : Held c vs news P fun h => h.get? b = some (instObj C dx)) (ok : setOk (K w.params) C name = true)
    (hl : (getL name es).isSome = true) (hj : news[j]? = some (dx, dictOf es n)) (hz : es.length ≤ 999)
    (k : ∀ P' v t s', Sub P P' → R P' v → Sc c vs (news.set j (dx, dictOf (setE w name t v es) (putN name es n))) P' s' → Go prog c rest Q s')
    (hs : swapsWith e (some (.Attribute e₁ name pos')) pos.line c.env = pure false := by rfl) : Go prog c (.Assign [.Attribute e₁ name pos'] e pos :: rest) Q s :=
  Go.cons (plainObj_wpAny_Assign_Attribute (h.bind (.refl _) S fun P₁ v s₁ k₁ S₁ r₁ => ho.bindV k₁ S₁ fun P₂ s₂ k₂ S₂ =>
    q_setAttr (upd := fun t => news.set j (dx, dictOf (setE w name t v es) (putN name es n))) S₂ (hb _ _ (k₁.trans k₂) S₂) ok hl (fun t => LUpd.at j hj) (fun t => Nat.le_trans (putL_len _) (by lia)) fun t s₃ S₃ =>
      k P₂ v t s₃ (k₁.trans k₂) (mR _ _ _ k₂ r₁) S₃) hs)
end
end Mine

end PartBaseX
section PartBaseY
open PySem PySem.W PySem.Spec PySem.Calls PyProof.Rows
set_option Elab.async false
set_option linter.unusedVariables false
namespace Mine
section
variable {prog : Program} {K : Params → Frag} {w : World} {g : Gh} {sg : Sg} {c : Ct K w g sg} {fx fy : Str} {fp fq : Pos}
variable {vs : List (Option Value)} {news : List (Addr × Obj)} {P : Heap} {s : Shared} {pos : Pos} {e e₁ : Expr} {A : Around} {E : Value → Shared → Prop} {L : Addr} {m : Str → Option Value}
inductive LstF (F : Heap → List Value → Prop) (h : Heap) : Value → Prop
  | mk (r items) : h.IsList r items.toArray → items.length ≤ 16384 → F h items → LstF F h (.ref r)
inductive TupF (F : Heap → List Value → Prop) (h : Heap) : Value → Prop
  | mk (T items) : IsTup h T items.toArray → F h items → TupF F h (.ref T)
/-- tuple(e) of a new list -/
theorem Gives.tupleG {F : Heap → List Value → Prop} (mF : ∀ h h' z, Sub h h' → F h z → F h' z) (hf : Gives prog c vs news P (.Name fx fp) (IsV (.type "tuple"))) (h₁ : Gives prog c vs news P e₁ (LstF F))
    (h1 : isStarred e₁ = false := by rfl)
    :
    Gives prog c vs news P (.Call (.Name fx fp) [e₁] [] pos) (TupF F) :=
  .tcall1 hf h₁ (fun P₀ v₁ s Q hP S x k => by
    refine x.casesOn fun r items hl hz hF => ?_
    refine q_tupleOf S (S.lst hl) hz fun D s' S' => ?_
    exact S'.sealNew.casesOn fun P' h1 h2 h3 => k _ _ P' h1 h3 (.mk D items ⟨_, h2, rfl, 0, rfl⟩ (mF _ _ _ h1 hF))) h1

/-- an object is made: its dict is the caller's to fill -/
noncomputable def makeOk (Kf : Frag) (C fI : Addr) : Bool := makesIn Kf C && decide (findIn Kf (.ref C) "__init__" = some (some (.ref fI))) && isFn Kf (.ref fI)
theorem q_make {C fI : Addr} {args : List Value} {Q : Value → Shared → Prop} (S : St K w g P L s m news) (ok : makeOk (K w.params) C fI = true)
    (h : ∀ x dx s₁ P₁, Sub P P₁ → P₁.get? x = some (instObj C dx) → St K w g P₁ L s₁ m ((dx, dictOf [] 0) :: news) →
      codeAny (model prog w) (A.under (.builtin "type.__call__" ⟨.ref C :: args, []⟩)) (.call (.ref fI) ⟨.ref x :: args, []⟩) (InitBack x fun r s' => match r with | .ok (.ret v) => Q v s' | .ok _ => False | .error e => E e s') s₁) :
    wpAny (model prog w) A (call (.ref C) args) Q E s := by
  obtain ⟨B, rest, dd⟩ := S.lib0
  simp only [makeOk, Bool.and_eq_true, decide_eq_true_eq] at ok
  refine call_cls dd.F dd.X dd.N ok.1.1 ok.1.2 ok.2 fun x dx h' F' N' l1 l2 => ?_
  have S₁ := dd.c2 h' s.toks _ _ _ _ _ F' N' (fun q hq => Nat.ne_of_lt (Nat.lt_trans (l1 q hq) l2)) (fun q hq => Nat.ne_of_lt (l1 q hq)) (Nat.ne_of_gt l2)
  exact S₁.sealNew.casesOn fun P₁ h1 h2 h3 => h x dx _ P₁ h1 h2 h3
end
end Mine

end PartBaseY
section PartBaseAA
open PySem PySem.W PySem.Spec PySem.Calls PyProof.Rows
set_option Elab.async false
set_option linter.unusedVariables false
namespace Mine
section
variable {prog : Program} {K : Params → Frag} {w : World} {g : Gh} {sg : Sg} {c : Ct K w g sg}
variable {vs : List (Option Value)} {news : List (Addr × Obj)} {P : Heap} {s : Shared} {x : Str} {pos pos' lp : Pos} {e e₁ e₂ : Expr} {rest : List Stmt} {R R₁ R₂ : Heap → Value → Prop} {Q : Flow → Shared → Prop} {v : Value}
/-- a store to a cell -/
noncomputable abbrev cellSetTo (o : Obj) (v : Value) : Obj := { o with data := .cell (some v) }
theorem X.assignC {cc : Addr} {o : Obj} {v₀ : Option Value} (i j : Nat) (h : Gives prog c vs news P e R) (S : Sc c vs news P s) (hx : sg.cv[i]? = some (x, cc)) (hj : news[j]? = some (cc, o)) (hd : o.data = .cell v₀)
    (k : ∀ P' v s', Sub P P' → R P' v → Sc c vs (news.set j (cc, cellSetTo o v)) P' s' → Go prog c rest Q s')
    (hs : swapsWith e (some (.Name x pos')) pos.line c.env = pure false := by rfl) : Go prog c (.Assign [.Name x pos'] e pos :: rest) Q s :=
  Go.cons (wpAny_Assign_Name (h.bind (.refl _) S fun P' v s' hP S' r => q_storeC S' c.V (List.mem_of_getElem? hx) (LUpd.at j hj) hd fun s₂ S₂ => k P' v s₂ hP r S₂) hs)
theorem X.dictNewC {cc : Addr} {o : Obj} {v₀ : Option Value} (i j : Nat) (S : Sc c vs news P s) (hx : sg.cv[i]? = some (x, cc)) (hj : news[j]? = some (cc, o)) (hd : o.data = .cell v₀) (hK : ((K w.params).lookup cStatics).isSome = true)
    (k : ∀ d od s', od.IsDictOf (intKind prog w) [] → (d == sysModules) = false → Sc c vs ((d, od) :: news.set j (cc, cellSetTo o (.ref d))) P s' → Go prog c rest Q s')
    (hs : swapsWith (.Dict [] [] lp) (some (.Name x pos')) pos.line c.env = pure false := by rfl) : Go prog c (.Assign [.Name x pos'] (.Dict [] [] lp) pos :: rest) Q s :=
  Go.cons (wpAny_Assign_Name (q_dictNew S hK fun d od s' h1 h2 S' => q_storeC S' c.V (List.mem_of_getElem? hx) (.there (LUpd.at j hj)) hd fun s₂ S₂ => k d od s₂ h1 h2 S₂) hs)
theorem X.dictSet {d : Addr} {o : Obj} {kvs : List (Int × Value)} {i : Int} (j : Nat) (h : Gives prog c vs news P e R) (h₁ : Gives prog c vs news P e₁ (IsV (.ref d))) (h₂ : Gives prog c vs news P e₂ (IsI i)) (m : Mono R) (S : Sc c vs news P s) (hj : news[j]? = some (d, o)) (hd : o.IsDictOf (intKind prog w) kvs) (hz : kvs.length ≤ 1000)
    (k : ∀ P' v o' s', Sub P P' → R P' v → o'.IsDictOf (intKind prog w) (stored kvs i v) → Sc c vs (news.set j (d, o')) P' s' → Go prog c rest Q s')
    (hs : swapsWith e (some (.Subscript e₁ e₂ pos')) pos.line c.env = pure false := by rfl) : Go prog c (.Assign [.Subscript e₁ e₂ pos'] e pos :: rest) Q s :=
  Go.cons (wpAny_Assign_Subscript (h.bind (.refl _) S fun P₁ v₁ s₁ k₁ S₁ r₁ => h₁.bindV k₁ S₁ fun P₂ s₂ k₂ S₂ => h₂.bindI (k₁.trans k₂) S₂ fun P₃ t s₃ k₃ S₃ =>
    q_dictSet (upd := fun o' => news.set j (d, o')) S₃ hd hz (fun o' => LUpd.at j hj) fun o' s₄ h' S₄ => k P₃ v₁ o' s₄ (k₁.trans (k₂.trans k₃)) (m _ _ _ (k₂.trans k₃) r₁) h' S₄) hs)
end
end Mine

end PartBaseAA
section PartBaseAB
open PySem PySem.W PySem.Spec PySem.Calls PyProof.Rows
set_option Elab.async false
set_option linter.unusedVariables false
namespace Mine
section
variable {prog : Program} {K : Params → Frag} {w : World} {g : Gh} {sg : Sg} {c : Ct K w g sg} {fx fy : Str} {fp fq : Pos}
variable {vs : List (Option Value)} {news : List (Addr × Obj)} {P P₀ : Heap} {s : Shared} {x : Str} {pos pos' lp : Pos} {e e₁ e₂ e₃ : Expr} {rest : List Stmt} {R R₁ R₂ : Heap → Value → Prop} {Q : Flow → Shared → Prop} {v : Value} {a b d : Int}
theorem Gives.go {P₁ : Heap} (h : Gives prog c vs news P e R) (hP : Sub P P₁) (k : Sub P₀ P₁) (S : Sc c vs news P₁ s) : wpAny (model prog w) c.A (eval e c.env) (GP c vs news P₀ R) NoE s :=
  wpAny_mono (h P₁ s hP S) (fun _ _ x => x.up k) fun _ _ x => x
theorem Gives.ifExp {p : Prop} (h : Tests prog c vs news P e p) (h1 : p → Gives prog c vs news P e₁ R) (h2 : ¬ p → Gives prog c vs news P e₂ R) : Gives prog c vs news P (.IfExp e e₁ e₂ pos) R := fun P₀ s hP S =>
  IfExp_ (h.bind2 hP S (fun hp P' s' hP' S' => (h1 hp).go (hP.trans hP') hP' S') fun hp P' s' hP' S' => (h2 hp).go (hP.trans hP') hP' S')
/-- an end of a slice -/
noncomputable def GPart (prog : Program) (c : Ct K w g sg) (vs : List (Option Value)) (news : List (Addr × Obj)) (P : Heap) (e : Option Expr) (i : Option Int) : Prop :=
  ∀ P₀ s (Q : Value → Shared → Prop), Sub P P₀ → Sc c vs news P₀ s → (∀ P' v s', IsPart v i → Sub P₀ P' → Sc c vs news P' s' → Q v s') → wpAny (model prog w) c.A (evalPart e c.env) Q NoE s
theorem GPart.none : GPart prog c vs news P none none := fun P₀ s Q hP S k => wpAny_pure (k P₀ _ s .none (.refl _) S)
theorem GPart.some (h : Gives prog c vs news P e (IsI a)) : GPart prog c vs news P (some e) (some a) := fun P₀ s Q hP S k => h.bindI hP S fun P' t s' hP' S' => k P' _ s' (.int _ _) hP' S'
theorem Gives.slice {lw up : Option Expr} {lo hi : Option Int} {l : Addr} {its : List Value} (h : Gives prog c vs news P e (IsV (.ref l))) (hl : Held c vs news P fun h => h.IsList l its.toArray) (hz : its.length ≤ 1000) (pl : GPart prog c vs news P lw lo) (pu : GPart prog c vs news P up hi) :
    Gives prog c vs news P (.Subscript e (.Slice lw up none lp) pos) (IsL (slicePick its.toArray lo hi none).toList) := fun P₀ s hP S =>
  Subscript_ (h.bindV hP S fun P₁ s₁ k₁ S₁ =>
    wpAny_Slice (pl _ _ _ (hP.trans k₁) S₁ fun P₂ vl s₂ il k₂ S₂ => pu _ _ _ (hP.trans (k₁.trans k₂)) S₂ fun P₃ vu s₃ iu k₃ S₃ => wpAny_pure (kba_turn (value' := .Name default default) (fun _ => rfl) (q_slice S₃ (hl _ _ (hP.trans (k₁.trans (k₂.trans k₃))) S₃) (by simpa using hz) il iu (fun D s' S' => by
      exact S'.sealNew.casesOn fun P' h1 h2 h3 => ⟨P', k₁.trans (k₂.trans (k₃.trans h1)), h3, .mk D h2⟩) rfl fun _ => rfl))))
theorem Gives.rev {kd : Nat} {l : Addr} {its : List Value} {p1 p2 : Pos} (h : Gives prog c vs news P e (IsV (.ref l))) (hl : Held c vs news P fun h => h.IsList l its.toArray) (hz : its.length ≤ 1000)  :
    Gives prog c vs news P (.Subscript e (.Slice none none (some (.UnaryOp .USub (.Constant (.int 1) kd p1) p2)) lp) pos) (IsL its.reverse) := fun P₀ s hP S =>
  Subscript_ (h.bindV hP S fun P₁ s₁ k₁ S₁ => by
    refine wpAny_Slice (wpAny_pure (wpAny_pure ((Gives.neg (P := P₁) .int).bindI (.refl _) S₁ fun P₂ t s₂ k₂ S₂ => ?_)))
    exact kba_turn (value' := .Name default default) (fun _ => rfl) (q_rev S₂ (hl _ _ (hP.trans (k₁.trans k₂)) S₂) hz (fun D s' S' => by
      exact S'.sealNew.casesOn fun P' h1 h2 h3 => ⟨P', k₁.trans (k₂.trans h1), h3, .mk D h2⟩) rfl fun _ => rfl))
theorem All2.rev {α β : Type} {R : α → β → Prop} {as : List α} {bs : List β} (h : All2 R as bs) : All2 R as.reverse bs.reverse := by
  induction h with
  | nil => exact .nil
  | cons r _ ih => rw [List.reverse_cons, List.reverse_cons]; exact ih.snoc r
theorem Gives.revP {kd : Nat} {ps : List (Int × Int)} {u : Value} {p1 p2 : Pos} (h : Gives prog c vs news P e (IsV u)) (hV : PairsL ps P u) (hz : ps.length ≤ 1000) :
    Gives prog c vs news P (.Subscript e (.Slice none none (some (.UnaryOp .USub (.Constant (.int 1) kd p1) p2)) lp) pos) (PairsL ps.reverse) := by
  revert h
  refine hV.casesOn fun r ys k hr hp h => ?_
  exact fun P₀ s hP S => (Gives.rev h (.ofP (fun _ _ k x => x.elim fun o e => ⟨o, k _ _ e.1, e.2⟩) ⟨_, hr, rfl, k, rfl⟩) (by rw [hp.length]; exact hz)).bind hP S fun P' v s' k' S' x => ⟨P', k', S', x.casesOn fun r q => .mk r _ 0 q (PairsV.mono hp.rev (hP.trans k'))⟩
theorem Gives.list1 (h₁ : Gives prog c vs news P e (IsI a)) (h1 : isStarred e = false := by rfl) : Gives prog c vs news P (.List [e] pos) (IntsL [a]) := fun P₀ s hP S =>
  List_ (args_cons (h₁.bindI hP S fun P₁ t s₁ k₁ S₁ => args_nil (S₁.newList (fun D s' P' h1 h2 h3 =>
    ⟨P', k₁.trans h1, h3, .mk D _ 0 h2 (.cons _ _ .nil)⟩) (Nat.le_of_ble_eq_true rfl))) (star h1))
theorem Gives.list3 (h₁ : Gives prog c vs news P e₁ (IsI a)) (h₂ : Gives prog c vs news P e₂ (IsI b)) (h₃ : Gives prog c vs news P e₃ (IsI d)) (x1 : isStarred e₁ = false := by rfl) (x2 : isStarred e₂ = false := by rfl) (x3 : isStarred e₃ = false := by rfl) :
    Gives prog c vs news P (.List [e₁, e₂, e₃] pos) (IntsL [a, b, d]) := fun P₀ s hP S =>
  List_ (args_cons (h₁.bindI hP S fun P₁ t s₁ k₁ S₁ => args_cons (h₂.bindI (hP.trans k₁) S₁ fun P₂ t₂ s₂ k₂ S₂ => args_cons (h₃.bindI (hP.trans (k₁.trans k₂)) S₂ fun P₃ t₃ s₃ k₃ S₃ => args_nil (S₃.newList (fun D s' P' h1 h2 h3 =>
    ⟨P', k₁.trans (k₂.trans (k₃.trans h1)), h3, .mk D _ 0 h2 (.cons _ _ (.cons _ _ (.cons _ _ .nil)))⟩) (Nat.le_of_ble_eq_true rfl))) (star x3)) (star x2)) (star x1))
/-- two lists of ints joined -/
inductive IntsA (l : Addr) (xs : List Int) (h : Heap) : Prop
  | mk (its : List Value) : h.IsList l its.toArray → IntsAre its xs → IntsA l xs h
theorem IntsA.mono {l : Addr} {xs : List Int} {h h' : Heap} (x : IntsA l xs h) (k : Sub h h') : IntsA l xs h' := x.casesOn fun its hl hi => .mk its (hl.elim fun o e => ⟨o, k _ _ e.1, e.2⟩) hi
theorem IntsL.asA {l : Addr} {xs : List Int} {h : Heap} (x : IntsL xs h (.ref l)) : IntsA l xs h := by cases x with | mk _ its k hl hi => exact .mk its ⟨_, hl, rfl, k, rfl⟩ hi
inductive IntsB (xs : List Int) (h : Heap) : Value → Prop
  | mk (l) : IntsA l xs h → IntsB xs h (.ref l)
theorem Gives.catI {xs ys : List Int} (h₁ : Gives prog c vs news P e₁ (IntsB xs)) (h₂ : Gives prog c vs news P e₂ (IntsL ys)) (hz : xs.length + ys.length ≤ 1000) : Gives prog c vs news P (.BinOp e₁ .Add e₂ pos) (IntsL (xs ++ ys)) := fun P₀ s hP S =>
  wpAny_BinOp (h₁.bind hP S fun P₁ v₁ s₁ k₁ S₁ x => h₂.bind (hP.trans k₁) S₁ fun P₂ v₂ s₂ k₂ S₂ y => by
    obtain ⟨l, its, hl, hi⟩ := x
    obtain ⟨r, zs, k', hr, hj⟩ := y
    obtain ⟨B, rest, dd⟩ := S₂.lib0
    refine add_lists dd.F dd.N (S₂.lst (let ⟨o, e, r⟩ := hl; ⟨o, k₂ _ _ e, r⟩)) ⟨_, S₂.keep _ _ hr, rfl, k', rfl⟩ (fun h' F' N' => ?_) (by rw [hi.length, hj.length, sizeLine_eq]; lia)
    exact (dd.c1 h' s₂.toks _ _ _ F' N' fun q hq => Nat.ne_of_lt (Heap.lt_size (dd.N q hq).1)).sealNew.casesOn fun P' h1 h2 h3 => ⟨P', k₁.trans (k₂.trans h1), h3, .mk _ _ 0 h2 (hi.append hj)⟩)
theorem Gives.maxL {xs : List Int} {m : Int} (hf : Gives prog c vs news P (.Name fx fp) (IsV (.builtin "max"))) (h₁ : Gives prog c vs news P e₁ (IntsL xs)) (hne : 0 < xs.length) (hm : ∀ M, M ∈ xs → (∀ a ∈ xs, a ≤ M) → M = m)
    (h1 : isStarred e₁ = false := by rfl)
    : Gives prog c vs news P (.Call (.Name fx fp) [e₁] [] pos) (IsI m) :=
  .bcall1 hf h₁ (fun P₀ v₁ s Q hP S x k => by
    refine x.casesOn fun r ys k' hr hi => ?_
    refine q_maxL S c.hA ⟨_, S.keep _ _ hr, rfl, k', rfl⟩ hi hne fun M t s' h1 h2 S' => ?_
    exact k _ _ P₀ (.refl _) S' ⟨t, by rw [hm M h1 h2]⟩) h1
theorem Cmps.notInL {ms : List Int} {i : Int} (h₁ : Gives prog c vs news P e₁ (IsI i)) (h₂ : Gives prog c vs news P e₂ (IntsL ms)) : Cmps prog c vs news P e₁ .NotIn e₂ (i ∉ ms) := fun P₀ s Q hP S k => h₁.bindI hP S fun P₁ t s₁ k₁ S₁ => h₂.bind (hP.trans k₁) S₁ fun P₂ v₂ s₂ k₂ S₂ x => by
  exact x.casesOn fun r ys k' hr hi => q_notInInts (S₂.keep _ _ hr) hi (k P₂ s₂ _ (k₁.trans k₂) S₂ decide_eq_true_iff)
theorem Gives.andT {p q : Prop} (h₁ : Gives prog c vs news P e₁ (IsB p)) (hp : p) (h₂ : Gives prog c vs news P e₂ (IsB q)) : Gives prog c vs news P (.BoolOp .And [e₁, e₂] pos) (IsB q) := fun P₀ s hP S =>
  BoolOp_and (h₁.bind hP S fun P₁ v₁ s₁ k₁ S₁ x => by
    obtain ⟨b, rfl, hb⟩ := x
    cases hb.mpr hp
    exact truthy_b (by rw [if_pos rfl]; exact BoolOp_one (h₂.go (hP.trans k₁) k₁ S₁)))
theorem Gives.tup0 {kd : Nat} : Gives prog c vs news P (.Tuple [] kd pos) (IsTupV []) := fun P₀ s hP S =>
  Tuple_ (args_nil (S.newTuple (fun T s₃ P₃ k₃ hT S₄ => ⟨P₃, k₃, S₄, .mk T hT⟩) (Nat.le_of_ble_eq_true rfl)))
inductive IsT1 (R₁ : Heap → Value → Prop) (h : Heap) : Value → Prop
  | mk (T v₁) : IsTup h T #[v₁] → R₁ h v₁ → IsT1 R₁ h (.ref T)
theorem Gives.tup1 {kd : Nat} (h₁ : Gives prog c vs news P e₁ R₁) (m₁ : Mono R₁) (h1 : isStarred e₁ = false := by rfl) :
    Gives prog c vs news P (.Tuple [e₁] kd pos) (IsT1 R₁) := fun P₀ s hP S =>
  Tuple_ (args_cons (h₁.bind hP S fun P₁ v₁ s₁ k₁ S₁ r₁ => args_nil (S₁.newTuple (fun T s₃ P₃ k₃ hT S₄ =>
    ⟨P₃, k₁.trans k₃, S₄, .mk T v₁ hT (m₁ _ _ _ k₃ r₁)⟩) (Nat.le_of_ble_eq_true rfl))) (star h1))
end
end Mine

end PartBaseAB
section PartR1
open PySem PySem.W PySem.Spec PySem.Calls PyProof.Rows
set_option Elab.async false
set_option linter.unusedVariables false
set_option maxRecDepth 100000
namespace Mine
noncomputable abbrev KK := Mine.hd.heap_39

/-- the items are letters with these numbers -/
inductive LetterI (h : Heap) (u : Int) : Value → Prop
  | mk (a es t) : Inst h a 113 es → getL "uid" es = some (some (.int u t)) → LetterI h u (.ref a)
noncomputable def LettersAre (h : Heap) (vs : List Value) (us : List Int) : Prop := All2 (fun v u => LetterI h u v) vs us
theorem LettersAre.mono {h h' : Heap} {vs : List Value} {us : List Int} (x : LettersAre h vs us) (k : Sub h h') : LettersAre h' vs us :=
  All2.mono x fun _ _ y => y.casesOn fun a es t i g => .mk a es t (i.mono k) g
theorem lst_mono {l : Addr} {items : Array Value} (h h' : Heap) (k : Sub h h') (x : h.IsList l items) : h'.IsList l items := let ⟨o, e, r⟩ := x; ⟨o, k _ _ e, r⟩

noncomputable def placeOf (us : List Int) (u : Int) : Int := match us.findIdx? (· == u) with | some i => (i : Int) | none => -1

theorem placeOf_end {us : List Int} {uid : Int} {lo : Int} (h0 : 0 ≤ lo) (hs : us.Pairwise (· < ·)) (h1 : ∀ (i : Nat) u, us[i]? = some u → (i : Int) < lo → u < uid) (h2 : ∀ (i : Nat) u, us[i]? = some u → lo ≤ (i : Int) → uid ≤ u) :
    placeOf us uid = if lo < us.length ∧ us[lo.toNat]? = some uid then lo else -1 := by
  unfold placeOf
  split
  · rename_i i e
    obtain ⟨hi, hu, hb⟩ := List.findIdx?_eq_some_iff_getElem.mp e
    have hu' : us[i] = uid := by simpa using hu
    have g : us[i]? = some uid := by rw [List.getElem?_eq_getElem hi, hu']
    have l1 : ¬ (i : Int) < lo := fun q => by have := h1 i _ g q; lia
    have l2 : ¬ lo < (i : Int) := fun q => by
      have hl : lo.toNat < i := by lia
      have hlt : lo.toNat < us.length := by lia
      have a := List.pairwise_iff_getElem.mp hs lo.toNat i hlt hi hl
      have b := h2 lo.toNat us[lo.toNat] (List.getElem?_eq_getElem hlt) (by lia)
      lia
    have el : lo = (i : Int) := by lia
    subst el
    rw [if_pos ⟨by lia, by simpa using g⟩]
  · rename_i e
    rw [if_neg]
    rintro ⟨_, q⟩
    have := List.findIdx?_eq_none_iff.mp e uid (List.mem_of_getElem? q)
    simp at this

theorem placeOf_lo {us : List Int} {uid u u' : Int} {i : Nat} {k : Int} (hs : us.Pairwise (· < ·)) (hx : us[k.toNat]? = some u) (e : us[i]? = some u') (hi : (i : Int) < k + 1) (hu : u < uid) : u' < uid := by
  by_cases q : i = k.toNat
  · subst q; rw [hx] at e; cases e; exact hu
  · obtain ⟨l1, e1⟩ := List.getElem?_eq_some_iff.mp hx
    obtain ⟨l2, e2⟩ := List.getElem?_eq_some_iff.mp e
    have := List.pairwise_iff_getElem.mp hs i k.toNat l2 l1 (by lia)
    lia
theorem placeOf_hi {us : List Int} {uid u u' : Int} {i : Nat} {k : Int} (hs : us.Pairwise (· < ·)) (hx : us[k.toNat]? = some u) (e : us[i]? = some u') (hi : k ≤ (i : Int)) (hu : uid ≤ u) : uid ≤ u' := by
  by_cases q : i = k.toNat
  · subst q; rw [hx] at e; cases e; exact hu
  · obtain ⟨l1, e1⟩ := List.getElem?_eq_some_iff.mp hx
    obtain ⟨l2, e2⟩ := List.getElem?_eq_some_iff.mp e
    have := List.pairwise_iff_getElem.mp hs k.toNat i l1 l2 (by lia)
    lia
theorem ok_letter_uid (w : World) : attrOk (KK w.params) 113 "uid" = true := by kernel_rfl!
theorem ok_box_letters (w : World) : attrOk (KK w.params) 151 "letters" = true := by kernel_rfl!

/-- the number of the letter at a place -/
theorem letter_at {prog : Program} {w : World} {g : Gh} {sg : Sg} {c : Ct KK w g sg} {vs : List (Option Value)} {news : List (Addr × Obj)} {P : Heap} {l : Addr} {items : List Value} {us : List Int} {u : Int} {i : Int} {e₁ e₂ : Expr} {p₁ p₂ : Pos}
    (hl : g.H.IsList l items.toArray) (hu : LettersAre g.H items us) (h₁ : Gives prog c vs news P e₁ (IsV (.ref l))) (h₂ : Gives prog c vs news P e₂ (IsI i)) (h0 : 0 ≤ i) (h1 : i < 2 ^ 63) (hx : us[i.toNat]? = some u)
    (hs : ∀ u : Tok, subscripted e₂ false (.ref l) (.int i u) = operate [.ref l, .int i u] (getItem (.ref l) (.int i u)) := by intro _; with_unfolding_all rfl)
    (he : ∀ e, eval (.Attribute (.Subscript e₁ e₂ p₁) "uid" p₂) e = (do
      let o ← eval (.Subscript e₁ e₂ p₁) e
      standAt p₂.atName
      let r ← holding [o] (getAttr o "uid" true)
      letTemporaryGo (.Subscript e₁ e₂ p₁) o r
      pure r) := by intro _; with_unfolding_all rfl) : Gives prog c vs news P (.Attribute (.Subscript e₁ e₂ p₁) "uid" p₂) (IsI u) := by
  obtain ⟨v, hv, a, es, ta, I, hg⟩ := hu.get hx
  exact (Gives.attr (.item h₁ h₂ (.ofH lst_mono hl) h0 h1 hv hs) (.ofH (fun _ _ k x => x.mono k) I) (ok_letter_uid w) hg rfl (he _)).toI

/-- the search under way -/
inductive PlI (K : Params → Frag) (w : World) (g : Gh) (sg : Sg) (c : Ct K w g sg) (us : List Int) (uid : Int) (a b : Option Value) (n : Nat) (s : Shared) : Prop
  | mk (lo hi t₁ t₂ mid P') : Sc c [a, b, some (.int lo t₁), some (.int hi t₂), mid] [] P' s → 0 ≤ lo → lo ≤ hi → hi ≤ us.length → (∀ (i : Nat) u, us[i]? = some u → (i : Int) < lo → u < uid) → (∀ (i : Nat) u, us[i]? = some u → hi ≤ (i : Int) → uid ≤ u) → n = (hi - lo).toNat → PlI K w g sg c us uid a b n s
theorem place_of {prog : Program} {w : World} {A : Around} {E : Value → Shared → Prop} {P : Heap} {s : Shared} {n : Nat} {l : Addr} {items : List Value} {us : List Int} {uid : Int} {t : Tok} {Q : Value → Shared → Prop}
    (ao : Ao A (n + 1)) (C : Cx KK w P) (hP : Sub P s.heap) (hz : items.length < 1000) (hl : s.heap.IsList l items.toArray) (hu : LettersAre s.heap items us) (hs : us.Pairwise (· < ·))
    (k : ∀ t s' P', Grow P s P' s' → Q (.int (placeOf us uid) t) s') :
    wpAny (model prog w) A (call (.ref 162) [.ref l, .int uid t]) Q E s := by
  refine' X.enter ["letters", "uid"] ["low", "high", "middle"] [("len", .builtin "len")] (H := s.heap) (mt := []) ?ho ?hcd ?hb rfl ?hf ?hn ?hg ao C hP (.refl _) (fun _ h => nomatch h) .nil ?_
  case ho => rfl
  case hcd => kernel_rfl!
  case hb => rfl
  case hf => kernel_rfl!
  case hn => kernel_rfl!
  case hg => kernel_rfl!
  intro c s₁ _ S
  have hlen := hu.length
  refine X.assign2 2 3 .int (.len (.glob 0 rfl) (.name 0 rfl rfl) (.ofH lst_mono hl) (by lia)) mono_I S rfl rfl rfl ?_
  rintro P₁ _ _ s₂ hP₁ ⟨t₁, rfl⟩ ⟨t₂, rfl⟩ V S
  refine X.while (PlI _ _ _ _ c us uid (some (.ref l)) (some (.int uid t))) _ (.mk _ _ _ _ _ _ S (Int.le_refl _) (by lia) (by lia) (fun i u _ h => by lia) (fun i u e h => ?_) rfl) ?_
  · have := (List.getElem?_eq_some_iff.mp e).1
    lia
  clear S
  rintro n s' Φ T hnx hT hF ⟨lo, hi, t₁, t₂, mid, P', S, h0, h1, h2, h3, h4, hn⟩
  refine X.test (.cmp (.lt (.nameI 2 rfl rfl) (.nameI 3 rfl rfl))) S hT hF (fun hlt P' s' _ S => ?_) fun hge P' s' _ S => ?_
  · refine X.assignI 4 (.div (.add (.nameI 2 rfl rfl) (.nameI 3 rfl rfl)) .int (by decide) (by decide)) S rfl rfl ?_
    rw [Int.fdiv_eq_ediv_of_nonneg _ (by decide : (0 : Int) ≤ 2)]
    intro P₂ tm s₂ _ V S; dsimp only [V] at S; clear V
    have mid : lo ≤ (lo + hi) / 2 ∧ (lo + hi) / 2 < hi := by clear h2 hz hlen; lia
    generalize (lo + hi) / 2 = md at S mid
    obtain ⟨u, hx⟩ : ∃ u, us[md.toNat]? = some u := ⟨_, List.getElem?_eq_getElem (by lia)⟩
    refine X.ifs (.cmp (.lt (letter_at hl hu (.name 0 rfl rfl) (.nameI 4 rfl rfl) (by lia) (by lia) hx) (.nameI 1 rfl rfl))) S (fun hlt P' s' _ S => ?_) fun hge P' s' _ S => ?_
    · refine X.assignI 2 (.add (.nameI 4 rfl rfl) .int) S rfl rfl ?_
      intro P₂ tm s₂ _ V S
      exact X.jp (X.nil (hnx (n' := (hi - (md + 1)).toNat) (by rw [hn]; lia) (.mk _ _ _ _ _ _ S (by lia) (by lia) (by lia) (fun i u' e q => placeOf_lo hs hx e (by lia) hlt) h4 rfl)))
    · refine X.assignI 3 (.nameI 4 rfl rfl) S rfl rfl ?_
      intro P₂ tm s₂ _ V S
      exact X.jp (X.nil (hnx (n' := (md - lo).toNat) (by rw [hn]; lia) (.mk _ _ _ _ _ _ S (by lia) (by lia) (by lia) h3 (fun i u' e q => placeOf_hi hs hx e (by lia) (by lia)) rfl)))
  · have hend := placeOf_end (uid := uid) h0 hs h3 (fun i u e q => h4 i u e (by lia))
    refine X.ifs (p := lo < items.length ∧ us[lo.toNat]? = some uid) (.and (.cmp (.lt (.nameI 2 rfl rfl) (.len (.glob 0 rfl) (.name 0 rfl rfl) (.ofH lst_mono hl) (by lia)))) fun hlt => ?_) S (fun hlt P' s' _ S => ?_) fun hge P' s' _ S => ?_
    · obtain ⟨u, hx⟩ : ∃ u, us[lo.toNat]? = some u := ⟨_, List.getElem?_eq_getElem (by lia)⟩
      rw [hx, show (some u = some uid) = (u = uid) from by simp]
      exact .cmp (.eq (letter_at hl hu (.name 0 rfl rfl) (.nameI 2 rfl rfl) (by lia) (by lia) hx) (.nameI 1 rfl rfl))
    · rw [hlen] at hlt
      rw [if_pos hlt] at hend
      subst hend
      exact X.retI (.nameI 2 rfl rfl) S fun P₂ tm s₂ _ S => k _ _ _ (S.grow rfl)
    · rw [hlen] at hge
      rw [if_neg hge] at hend
      rw [hend] at k
      exact X.jp (X.retI (.neg .int) S fun P₂ tm s₂ _ S => k _ _ _ (S.grow rfl))
end Mine

end PartR1
section PartR2
open PySem PySem.W PySem.Spec PySem.Calls PyProof.Rows
set_option Elab.async false
set_option linter.unusedVariables false
set_option maxRecDepth 100000
namespace Mine

/-- what ends_of tells -/
noncomputable def endsOf (g : Int) (p : Int × Int) : Option (Int × Int) :=
  if g = 0 ∧ (p.1 = 0 ∨ p.2 = 0) then none
  else some (min (if p.1 = 0 then g else p.1) (if p.2 = 0 then g else p.2), max (if p.1 = 0 then g else p.1) (if p.2 = 0 then g else p.2))

inductive OptP (h : Heap) : Option (Int × Int) → Value → Prop
  | none : OptP h none .none
  | some {q v} : PairV h v q → OptP h (some q) v
theorem ends_of {prog : Program} {w : World} {A : Around} {E : Value → Shared → Prop} {P : Heap} {s : Shared} {n : Nat} {v : Value} {p : Int × Int} {gr : Int} {t : Tok} {Q : Value → Shared → Prop}
    (ao : Ao A (n + 1)) (C : Cx KK w P) (hP : Sub P s.heap) (hv : PairV s.heap v p)
    (k : ∀ r s' P', Grow P s P' s' → OptP P' (endsOf gr p) r → Q r s') :
    wpAny (model prog w) A (call (.ref 195) [v, .int gr t]) Q E s := by
  refine' X.enter ["pair", "greatest"] ["low", "high"] [("min", .builtin "min"), ("max", .builtin "max")] (H := s.heap) (mt := []) ?ho ?hcd ?hb rfl ?hf ?hn ?hg ao C hP (.refl _) (fun _ h => nomatch h) .nil ?_
  case ho => rfl
  case hcd => kernel_rfl!
  case hb => rfl
  case hf => kernel_rfl!
  case hn => kernel_rfl!
  case hg => kernel_rfl!
  intro c s₁ _ S
  obtain ⟨a, t₁, t₂, hT⟩ := hv
  refine X.unpack 2 3 (.name 0 rfl rfl) (.ofH (fun _ _ k x => x.keeps k) hT) S rfl rfl rfl ?_
  intro P₁ s₂ _ S
  refine X.ifs (.and (.cmp (.eq (.nameI 1 rfl rfl) .int)) fun _ => .or (.cmp (.eq (.nameI 2 rfl rfl) .int)) fun _ => .cmp (.eq (.nameI 3 rfl rfl) .int)) S (fun h P' s' _ S => ?_) fun h P' s' _ S => ?_
  · exact X.retV .noneC S fun P₂ s₂ _ S => k _ _ _ (S.grow rfl) (by rw [endsOf, if_pos h]; exact .none)
  refine X.jp (X.ifSet 2 (.cmp (.eq (.nameI 2 rfl rfl) .int)) (fun _ => .nameI 1 rfl rfl) S rfl rfl rfl fun P₂ t₃ s₂ _ S => ?_)
  refine X.ifSet 3 (.cmp (.eq (.nameI 3 rfl rfl) .int)) (fun _ => .nameI 1 rfl rfl) S rfl rfl rfl fun P₂ t₄ s₂ _ S => ?_
  refine X.ret (.tup2 (.min2 (.glob 0 rfl) (.nameI 2 rfl rfl) (.nameI 3 rfl rfl)) (.max2 (.glob 1 rfl) (.nameI 2 rfl rfl) (.nameI 3 rfl rfl))) S fun P₃ r s₃ _ hr S => k _ _ _ (S.grow rfl) (by rw [endsOf, if_neg h]; exact .some hr)
end Mine

end PartR2
section PartR3
open PySem PySem.W PySem.Spec PySem.Calls PyProof.Rows
set_option Elab.async false
set_option linter.unusedVariables false
set_option maxRecDepth 100000
namespace Mine

theorem number_in {prog : Program} {w : World} {A : Around} {E : Value → Shared → Prop} {P : Heap} {s : Shared} {n : Nat} {b l : Addr} {es : List DictEntry} {items : List Value} {us : List Int} {uid : Int} {t : Tok} {Q : Value → Shared → Prop}
    (ao : Ao A (n + 2)) (C : Cx KK w P) (hP : Sub P s.heap) (hz : items.length < 1000) (hb : Inst s.heap b 151 es) (hg : getL "letters" es = some (some (.ref l))) (hl : s.heap.IsList l items.toArray) (hu : LettersAre s.heap items us) (hs : us.Pairwise (· < ·))
    (k : ∀ t s' P', Grow P s P' s' → Q (.int (placeOf us uid + 1) t) s') :
    wpAny (model prog w) A (call (.ref 169) [.ref b, .int uid t]) Q E s := by
  refine' X.enter ["box", "uid"] [] [("place_of", .ref 162)] (H := s.heap) (mt := []) ?ho ?hcd ?hb rfl ?hf ?hn ?hg ao C hP (.refl _) (fun _ h => nomatch h) .nil ?_
  case ho => rfl
  case hcd => kernel_rfl!
  case hb => rfl
  case hf => kernel_rfl!
  case hn => kernel_rfl!
  case hg => kernel_rfl!
  intro c s₁ ao S
  refine X.retI (.add (a := placeOf us uid) (.dcallVV (.glob 0 rfl) rfl (.attr (.name 0 rfl rfl) (.ofH (fun _ _ k x => x.mono k) hb) (ok_box_letters w) hg rfl) (.name 1 rfl rfl) ?_) .int) S fun P₂ t s₂ _ S => k _ _ _ (S.grow rfl)
  exact fun P₀ s₂ Q hP₀ S k => place_of ao S.cx S.keep hz (S.lstF hl) (hu.mono S.frame) hs fun t s' P' G => k _ _ _ G ⟨t, rfl⟩

theorem take_next {α : Type} {l : List α} {i : Nat} {a : α} (h : l[i]? = some a) : l.take (i + 1) = l.take i ++ [a] := by rw [List.take_add_one, h]; rfl
theorem uids {prog : Program} {w : World} {A : Around} {E : Value → Shared → Prop} {P : Heap} {s : Shared} {n : Nat} {b l : Addr} {es : List DictEntry} {items : List Value} {us : List Int} {Q : Value → Shared → Prop}
    (ao : Ao A (n + 1)) (C : Cx KK w P) (hP : Sub P s.heap) (hz : items.length < 1000) (hb : Inst s.heap b 151 es) (hg : getL "letters" es = some (some (.ref l))) (hl : s.heap.IsList l items.toArray) (hu : LettersAre s.heap items us)
    (k : ∀ r ys c s' P', Grow P s P' s' → P'.get? r = some (W.listOf ys.toArray c) → IntsAre ys us → Q (.ref r) s') :
    wpAny (model prog w) A (call (.ref 143) [.ref b]) Q E s := by
  refine' X.enter ["self"] [] [] (H := s.heap) (mt := []) ?ho ?hcd ?hb rfl ?hf ?hn ?hg ao C hP (.refl _) (fun _ h => nomatch h) .nil ?_
  case ho => rfl
  case hcd => kernel_rfl!
  case hb => rfl
  case hf => kernel_rfl!
  case hn => kernel_rfl!
  case hg => kernel_rfl!
  intro c s₁ ao S
  refine X.ret (.comp (oc := none) (ns' := ["letter"]) (gv' := []) (n := items.length) (Pv := fun i v _ => items[i]? = some v) (J := fun i ys _ => IntsAre ys (us.take i)) (.attr (.name 0 rfl rfl) (.ofH (fun _ _ k x => x.mono k) hb) (ok_box_letters w) hg rfl)
    (fun P' v s' _ S r => by cases r; exact ⟨_, IterTo.listL c.hA (S.lstF hl)⟩) (by lia) rfl rfl (by kernel_rfl!) rfl rfl (fun _ _ => rfl) (fun _ => rfl) (fun _ _ => .nil) (turnOne fun P₀ s₀ g' c' hP₀ S₀ hH _ i v s₁ s₂ ys P₁ led T₁ T₀ m₁ m₀ hi hv hP₁ hJ hyl S => ?_)) S ?_
  · obtain ⟨x, hx, a, es', t, I, hgu⟩ := hu.getL hv
    refine turnAll (El.ofV (Gives.attr (.name 0 rfl rfl) (.ofH (fun _ _ k x => x.mono k) (I.mono (S₀.frame.trans hH))) (ok_letter_uid w) hgu rfl) S fun P₂ s₃ hP₂ S => m₁ hP₂ S ?_)
    show IntsAre _ (us.take (i + 1))
    rw [take_next hx]
    exact hJ.append (.cons _ _ .nil)
  · rintro P₂ _ s₂ _ ⟨r, ys, k', P₀, hr, _, hJ⟩ S
    rw [hu.length, List.take_length] at hJ
    exact k _ _ _ _ _ (S.grow rfl) hr hJ
end Mine

end PartR3
section PartR4
open PySem PySem.W PySem.Spec PySem.Calls PyProof.Rows
set_option Elab.async false
set_option linter.unusedVariables false
set_option maxRecDepth 100000
namespace Mine

noncomputable def mergeStep (out : List (Int × Int)) (q : Int × Int) : List (Int × Int) := match out.getLast? with
  | some l => if q.1 ≤ l.2 + 1 then out.dropLast ++ [(l.1, max l.2 q.2)] else out ++ [q]
  | none => [q]
theorem merge_nil (q : Int × Int) : mergeStep [] q = [q] := rfl
theorem merge_snoc (out : List (Int × Int)) (l q : Int × Int) : mergeStep (out ++ [l]) q = if q.1 ≤ l.2 + 1 then out ++ [(l.1, max l.2 q.2)] else out ++ [l] ++ [q] := by
  unfold mergeStep
  rw [List.getLast?_concat, List.dropLast_concat]
inductive Snoc {α β : Type} (R : α → β → Prop) (bs : List β) (b : β) : List α → Prop
  | mk (as' a) : All2 R as' bs → R a b → Snoc R bs b (as' ++ [a])
theorem All2.snoc_inv {α β : Type} {R : α → β → Prop} {as : List α} {bs : List β} {b : β} (h : All2 R as (bs ++ [b])) : Snoc R bs b as := by
  induction bs generalizing as with
  | nil => cases h with | cons h r => cases r; exact .mk [] _ .nil h
  | cons c bs ih =>
    cases h with
    | cons h r =>
      obtain ⟨as', a, k, l⟩ := ih r
      exact .mk (_ :: as') a (.cons h k) l
inductive PsI (a b d : Option Value) (D : Addr) (qs : List (Int × Int)) (i : Nat) (P : Heap) : List (Option Value) → List (Addr × Obj) → Prop
  | mk (pv ev its k) : PairsV P its qs → its.length ≤ i → PsI a b d D qs i P [a, b, d, pv, ev, none, none, none] [(D, W.listOf its.toArray k)]
inductive PsJ (a b d pv ev : Option Value) (D : Addr) (qs : List (Int × Int)) (i : Nat) (P : Heap) : List (Option Value) → List (Addr × Obj) → Prop
  | mk (lo hi its k) : PairsV P its qs → its.length ≤ i → PsJ a b d pv ev D qs i P [a, b, d, pv, ev, some (.ref D), lo, hi] [(D, W.listOf its.toArray k)]
theorem plain_set {prog : Program} {w : World} {A : Around} {E : Value → Shared → Prop} {P : Heap} {s : Shared} {n : Nat} {T : Addr} {items : List Value} {ps : List (Int × Int)} {gr : Int} {t : Tok} {Q : Value → Shared → Prop}
    (ao : Ao A (n + 2)) (C : Cx KK w P) (hP : Sub P s.heap) (hT : IsTup s.heap T items.toArray) (hp : PairsV s.heap items ps) (hz : ps.length ≤ 100) (ok : SortOk (ps.filterMap (endsOf gr)))
    (k : ∀ r its qs s' P', Grow P s P' s' → Sorted (ps.filterMap (endsOf gr)) qs → IsTup P' r its.toArray → PairsV P' its (qs.foldl mergeStep []) → Q (.ref r) s') :
    wpAny (model prog w) A (call (.ref 202) [.ref T, .int gr t]) Q E s := by
  refine' X.enter ["some", "greatest"] ["pairs", "pair", "ends", "out", "low", "high"] [("ends_of", .ref 195), ("len", .builtin "len"), ("max", .builtin "max"), ("tuple", .type "tuple")] (H := s.heap) (mt := []) ?ho ?hcd ?hb rfl ?hf ?hn ?hg ao C hP (.refl _) (fun _ h => nomatch h) .nil ?_
  case ho => rfl
  case hcd => kernel_rfl!
  case hb => rfl
  case hf => kernel_rfl!
  case hn => kernel_rfl!
  case hg => kernel_rfl!
  intro c s₁ ao S
  refine X.newList 2 S rfl rfl fun D s₂ S => ?_
  refine X.forV (.name 0 rfl rfl) S fun P₁ s₃ hP₁ S => ?_
  refine X.forN (n := ps.length) (Pv := fun i v => items[i]? = some v) 3 rfl (by rw [← hp.length]; exact IterTo.tupleL c.hA (S.tupF hT)) S (fun b hb => by rw [List.mem_singleton.mp hb]; obtain ⟨o, e, _⟩ := hT; exact .inr ⟨o, e⟩)
    (fun i vs news P => PsI (some (.ref T)) (some (.int gr t)) (some (.ref D)) D ((ps.take i).filterMap (endsOf gr)) i P vs news) (fun _ _ _ _ h => h.casesOn fun _ _ _ _ _ _ => rfl) (.mk _ _ [] 0 .nil (Nat.le_refl _)) ?_ ?_
  · intro i v s₄ vs₁ ns₁ own P₂ Φ hn hi hv hP₂ hj
    refine hj.casesOn fun pv ev its k' hits hil S => ?_
    obtain ⟨p, hpi, hpv⟩ := hp.getL hv
    have et : (ps.take (i + 1)).filterMap (endsOf gr) = (ps.take i).filterMap (endsOf gr) ++ (endsOf gr p).toList := by rw [take_next hpi, List.filterMap_append]; cases h : endsOf gr p <;> simp [h]
    have next : ∀ {P' : Heap} {s' : Shared} {ev : Option Value} (its₂ : List Value) (k₂ : Nat), Sub P₂ P' → Sc c [some (.ref T), some (.int gr t), some (.ref D), some v, ev, none, none, none] ((D, W.listOf its₂.toArray k₂) :: own) P' s' →
        PairsV P' its₂ ((ps.take i).filterMap (endsOf gr) ++ (endsOf gr p).toList) → its₂.length ≤ i + 1 → Φ .next s' := fun its₂ k₂ hP S h hl => hn (news₂ := [_]) hP S (.mk _ _ its₂ k₂ (by rw [et]; exact h) hl)
    refine X.assign 4 (.dcallVI (R := fun P' r => OptP P' (endsOf gr p) r) (.glob 0 rfl) rfl (.name 3 rfl rfl) (.nameI 1 rfl rfl) fun P₀ t' s₅ Q hP₀ S k =>
      ends_of ao S.cx S.keep (hpv.mono S.frame) fun r s' P' G h => k r s' P' G h) S rfl rfl ?_
    intro P₃ r s₅ hP₃ hr V S
    generalize endsOf gr p = eo at hr next
    cases hr with
    | none =>
      exact X.ifs (.cmp (.isNot (.name 4 rfl rfl) .noneC rfl)) S (fun h => absurd h (by decide)) fun _ P₄ s₆ hP₄ S => X.jp (X.nil (next its k' (hP₃.trans hP₄) S (by rw [Option.toList, List.append_nil]; exact hits.mono (hP₃.trans hP₄)) (Nat.le_succ_of_le hil)))
    | some hq =>
      obtain ⟨a, t₁, t₂, hq⟩ := hq
      refine X.ifs (.cmp (.isNot (.name 4 rfl rfl) .noneC rfl)) S (fun _ P₄ s₆ hP₄ S => ?_) fun h => absurd rfl h
      refine X.appendV (j := 0) (.name 2 rfl rfl) (.name 4 rfl rfl) S rfl (by lia) ?_
      intro P₅ s₇ hP₅ N S
      exact X.jp (X.nil (next (its ++ [Value.ref a]) (k' + 1) (hP₃.trans (hP₄.trans hP₅)) S ((hits.mono (hP₃.trans (hP₄.trans hP₅))).snoc (.mk a t₁ t₂ (hq.keeps (hP₄.trans hP₅)))) (by rw [List.length_append]; exact Nat.succ_le_succ hil)))
  intro s₄ vs₁ ns₁ P₂ hP₂ hj
  refine hj.casesOn fun pv ev its k' hits hil S => ?_
  rw [List.take_length] at hits
  refine X.sort (j := 0) (.name 2 rfl rfl) S rfl hits ok ?_
  intro P₃ its' qs n' s₅ hP₃ hs hits' S
  refine X.newList 5 S rfl rfl fun D₂ s₆ S => ?_
  have hqz : qs.length ≤ 100 := by
    have := hs.1.length_eq
    have h2 := List.length_filterMap_le (endsOf gr) ps
    lia
  have nd : D₂ ≠ D := fun e => (List.nodup_cons.mp S.nd).1 (e ▸ .head _)
  obtain ⟨P₄, hP₄, hin, -, S⟩ := S.seal (news' := [(D₂, W.listOf ([] : List Value).toArray 0)]) (fun p hp => by rw [List.mem_singleton.mp hp]; exact .head _) (List.nodup_cons.mpr ⟨(fun h => nomatch h), .nil⟩)
  have hD : P₄.get? D = some (W.listOf its'.toArray n') := hin _ (.tail _ (.head _)) fun h => nd (List.mem_singleton.mp h).symm
  refine X.forV (.name 2 rfl rfl) S fun P₅ s₇ hP₅ S => ?_
  refine X.forP (items := its') (ps := qs) 6 7 rfl rfl ⟨_, hP₅ _ _ hD, rfl, n', rfl⟩ (hits'.mono (hP₄.trans hP₅)) S
    (fun i vs news P => PsJ (some (.ref T)) (some (.int gr t)) (some (.ref D)) pv ev D₂ ((qs.take i).foldl mergeStep []) i P vs news) (fun _ _ _ _ h => h.casesOn fun _ _ _ _ _ _ => rfl) (.mk _ _ [] 0 .nil (Nat.le_refl _)) ?_ ?_
  · intro i p t₁ t₂ s₈ vs₁ ns₁ own P₆ Φ hn hpi hP₆ hj
    refine hj.casesOn fun lo hi its k' hits hil S => ?_
    have hlt := (List.getElem?_eq_some_iff.mp hpi).1
    have et : (qs.take (i + 1)).foldl mergeStep [] = mergeStep ((qs.take i).foldl mergeStep []) p := by rw [take_next hpi, List.foldl_append]; rfl
    have fin : ∀ {P' : Heap} {s' : Shared} (its₂ : List Value) (k₂ : Nat), Sub P₆ P' → Sc c [some (.ref T), some (.int gr t), some (.ref D), pv, ev, some (.ref D₂), some (.int p.1 t₁), some (.int p.2 t₂)] ((D₂, W.listOf its₂.toArray k₂) :: own) P' s' →
        PairsV P' its₂ (mergeStep ((qs.take i).foldl mergeStep []) p) → its₂.length ≤ i + 1 → Φ .next s' := fun its₂ k₂ hP S h hl => hn (news₂ := [_]) hP S (.mk _ _ its₂ k₂ (by rw [et]; exact h) hl)
    clear hn
    generalize (qs.take i).foldl mergeStep [] = ms at hits fin
    have hlen := hits.length
    have hH : ∀ {P : Heap} {vs}, Held c vs ((D₂, W.listOf its.toArray k') :: own) P (fun h => h.IsList D₂ its.toArray) := .led 0 rfl fun h e => ⟨_, e, rfl, k', rfl⟩
    rcases List.eq_nil_or_concat ms with rfl | ⟨ms, l, rfl⟩
    · refine X.ifs (p := (its.length : Int) > 0 ∧ False) (.and (.cmp (.gt (.len (.glob 1 rfl) (.name 5 rfl rfl) hH (by lia)) .int)) fun h => absurd h (by rw [hlen]; decide)) S (fun h => h.2.elim) fun _ P₇ s₉ hP₇ S => ?_
      refine X.append (j := 0) (.name 5 rfl rfl) (.tup2 (.nameI 6 rfl rfl) (.nameI 7 rfl rfl)) S rfl (by lia) ?_
      intro P₈ v s₉ hP₈ hv N S
      exact X.jp (X.nil (fin (its ++ [v]) (k' + 1) (hP₇.trans hP₈) S ((hits.mono (hP₇.trans hP₈)).snoc hv) (by rw [List.length_append]; exact Nat.succ_le_succ hil)))
    · rw [List.concat_eq_append] at hits fin
      obtain ⟨its₃, z, hits₃, a, t₃, t₄, hz⟩ := All2.snoc_inv hits
      rw [merge_snoc] at fin
      have hT' : ∀ {P : Heap} {vs news}, Sub P₆ P → Held c vs news P (fun h => IsTup h a [Value.int l.1 t₃, .int l.2 t₄].toArray) := fun h => .ofP (fun _ _ k x => x.keeps k) (hz.keeps h)
      have hlen3 : (its₃ ++ [Value.ref a]).length = its₃.length + 1 := List.length_append
      refine X.ifs (p := ((its₃ ++ [Value.ref a]).length : Int) > 0 ∧ p.1 ≤ l.2 + 1) (.and (.cmp (.gt (.len (.glob 1 rfl) (.name 5 rfl rfl) hH (by lia)) .int)) fun _ => .cmp (.le (.nameI 6 rfl rfl)
        (.add (.toI (.itemT (j := 1) (v := .int l.2 t₄) (.last (.name 5 rfl rfl) (.neg .int) hH) .int (hT' (.refl _)) (by decide) (by decide) rfl rfl)) .int))) S (fun h P₇ s₉ hP₇ S => ?_) fun h P₇ s₉ hP₇ S => ?_
      · rw [if_pos h.2] at fin
        refine X.setLast (j := 0) (.tup2 (.toI (.itemT (j := 0) (v := .int l.1 t₃) (.last (.name 5 rfl rfl) (.neg .int) hH) .int (hT' hP₇) (by decide) (by decide) rfl rfl))
          (.max2 (.glob 2 rfl) (.toI (.itemT (j := 1) (v := .int l.2 t₄) (.last (.name 5 rfl rfl) (.neg .int) hH) .int (hT' hP₇) (by decide) (by decide) rfl rfl)) (.nameI 7 rfl rfl))) (.name 5 rfl rfl) (.neg .int) (fun _ _ _ k x => x.mono k) S rfl (by lia) ?_
        intro P₈ v s₉ hP₈ hv S
        exact X.jp (X.nil (fin (its₃ ++ [v]) k' (hP₇.trans hP₈) S ((PairsV.mono hits₃ (hP₇.trans hP₈)).snoc hv) (by rw [List.length_append]; rw [hlen3] at hil; exact Nat.le_succ_of_le hil)))
      · rw [if_neg fun q => h ⟨by lia, q⟩] at fin
        refine X.append (j := 0) (.name 5 rfl rfl) (.tup2 (.nameI 6 rfl rfl) (.nameI 7 rfl rfl)) S rfl (by lia) ?_
        intro P₈ v s₉ hP₈ hv N S
        exact X.jp (X.nil (fin (its₃ ++ [Value.ref a] ++ [v]) (k' + 1) (hP₇.trans hP₈) S ((hits.mono (hP₇.trans hP₈)).snoc hv) (by rw [List.length_append]; exact Nat.succ_le_succ hil)))
  · intro s₈ vs₁ ns₁ P₆ hP₆ hj
    refine hj.casesOn fun lo hi its k' hits hil S => ?_
    rw [List.take_length] at hits
    refine X.ret (.tupleOf (.glob 3 rfl) (.name 5 rfl rfl) (.led 0 rfl fun h e => ⟨_, e, rfl, k', rfl⟩) (by lia)) S ?_
    intro P₇ v s₉ hP₇ x
    exact x.casesOn fun r hr S => k _ _ _ _ _ (S.grow rfl) hs hr (hits.mono hP₇)
end Mine

end PartR4
section PartM1
open PySem PySem.W PySem.Spec PySem.Calls PyProof.Rows
set_option Elab.async false
set_option linter.unusedVariables false
namespace Mine

/-! the plain sets as sets of numbers -/
noncomputable def inP (n : Int) (p : Int × Int) : Bool := decide (p.1 ≤ n ∧ n ≤ p.2)
noncomputable def cov (ms : List (Int × Int)) (n : Int) : Bool := ms.any (inP n)
structure Gap (ms : List (Int × Int)) : Prop where
  apart : ms.Pairwise fun p q => p.2 < q.1
  whole : ∀ p ∈ ms, p.1 ≤ p.2
theorem cov_append (a b : List (Int × Int)) (n : Int) : cov (a ++ b) n = (cov a n || cov b n) := List.any_append
theorem cov_one {p : Int × Int} {n : Int} : cov [p] n = inP n p := by unfold cov; rw [List.any_cons, List.any_nil, Bool.or_false]
theorem inP_join {n : Int} {l q : Int × Int} (h : l.1 ≤ q.1) (g : q.1 ≤ l.2 + 1) : inP n (l.1, max l.2 q.2) = (inP n l || inP n q) := by
  unfold inP
  rw [Bool.eq_iff_iff, Bool.or_eq_true, decide_eq_true_eq, decide_eq_true_eq, decide_eq_true_eq]
  refine ⟨fun x => ?_, fun x => x.elim (fun y => ⟨y.1, Int.le_trans y.2 (Int.le_max_left _ _)⟩) fun y => ⟨Int.le_trans h y.1, Int.le_trans y.2 (Int.le_max_right _ _)⟩⟩
  rcases Int.lt_or_le l.2 n with c | c
  · refine .inr ⟨Int.le_trans g c, ?_⟩
    have b : n ≤ max l.2 q.2 := x.2
    rcases Int.le_total l.2 q.2 with e | e
    · rw [Int.max_eq_right e] at b; exact b
    · rw [Int.max_eq_left e] at b; exact absurd b (Int.not_le.mpr c)
  · exact .inl ⟨x.1, c⟩
theorem merge_step {acc : List (Int × Int)} {q : Int × Int} (h : Gap acc) (hl : ∀ l, acc.getLast? = some l → l.1 ≤ q.1) (hq : q.1 ≤ q.2) : Gap (mergeStep acc q) ∧ (∀ l, (mergeStep acc q).getLast? = some l → l.1 ≤ q.1) ∧ ∀ n, cov (mergeStep acc q) n = (cov acc n || inP n q) := by
  rcases List.eq_nil_or_concat acc with rfl | ⟨a, l, rfl⟩
  · rw [merge_nil]
    exact ⟨⟨List.pairwise_singleton _ _, List.forall_mem_singleton.mpr hq⟩, fun l e => Int.le_of_eq (congrArg Prod.fst (Option.some.inj e).symm), fun n => cov_one⟩
  · rw [List.concat_eq_append] at h hl ⊢
    have hl1 := hl l List.getLast?_concat
    have hp := List.pairwise_append.mp h.apart
    have hlw := h.whole l (List.mem_append_right _ (.head _))
    rw [merge_snoc]
    by_cases hle : q.1 ≤ l.2 + 1
    · rw [if_pos hle]
      refine ⟨⟨List.pairwise_append.mpr ⟨hp.1, List.pairwise_singleton _ _, fun p hpa => List.forall_mem_singleton.mpr (hp.2.2 p hpa l (.head _))⟩, fun p hpm => (List.mem_append.mp hpm).elim (fun h1 => h.whole p (List.mem_append_left _ h1)) fun h1 => ?_⟩, fun l' e => ?_, fun n => ?_⟩
      · rw [List.mem_singleton.mp h1]; exact Int.le_trans hlw (Int.le_max_left _ _)
      · rw [List.getLast?_concat] at e; exact Option.some.inj e ▸ hl1
      · rw [cov_append, cov_append, Bool.or_assoc, cov_one, cov_one, inP_join hl1 hle]
    · rw [if_neg hle]
      have hlt : l.2 < q.1 := by lia
      refine ⟨⟨List.pairwise_append.mpr ⟨h.apart, List.pairwise_singleton _ _, fun p hpa => List.forall_mem_singleton.mpr ((List.mem_append.mp hpa).elim (fun h1 => Int.lt_trans (hp.2.2 p h1 l (.head _)) (Int.lt_of_le_of_lt hlw hlt)) fun h1 => by rw [List.mem_singleton.mp h1]; exact hlt)⟩,
        fun p hpm => (List.mem_append.mp hpm).elim (h.whole p) fun h1 => by rw [List.mem_singleton.mp h1]; exact hq⟩, fun l' e => ?_, fun n => by rw [cov_append (a ++ [l]) [q], cov_one]⟩
      rw [List.getLast?_concat] at e; exact Int.le_of_eq (congrArg Prod.fst (Option.some.inj e).symm)
theorem merge_all {qs acc : List (Int × Int)} (h : Gap acc) (hl : ∀ l, acc.getLast? = some l → ∀ q ∈ qs, l.1 ≤ q.1) (hs : qs.Pairwise (fun p q => p.1 ≤ q.1)) (hw : ∀ q ∈ qs, q.1 ≤ q.2) :
    Gap (qs.foldl mergeStep acc) ∧ ∀ n, cov (qs.foldl mergeStep acc) n = (cov acc n || cov qs n) := by
  induction qs generalizing acc with
  | nil => exact ⟨h, fun n => (Bool.or_false _).symm⟩
  | cons q qs ih =>
    have hs' := List.pairwise_cons.mp hs
    have key := merge_step h (fun l e => hl l e q (.head _)) (hw q (.head _))
    have r := ih key.1 (fun l e r hr => Int.le_trans (key.2.1 l e) (hs'.1 r hr)) hs'.2 fun r hr => hw r (.tail _ hr)
    exact ⟨r.1, fun n => by rw [List.foldl_cons, r.2, key.2.2, Bool.or_assoc]; rfl⟩
theorem ends_whole {g : Int} {ps : List (Int × Int)} : ∀ q ∈ ps.filterMap (endsOf g), q.1 ≤ q.2 := by
  intro q hq
  obtain ⟨p, _, e⟩ := List.mem_filterMap.mp hq
  unfold endsOf at e
  split at e
  · exact nomatch e
  · exact Option.some.inj e ▸ Int.le_trans (Int.min_le_left _ _) (Int.le_max_left _ _)
/-- what is covered, in the end -/
noncomputable def covs (ps : List (Int × Int)) (g n : Int) : Bool := cov (ps.filterMap (endsOf g)) n
theorem merged {ps qs : List (Int × Int)} {g : Int} (h : Sorted (ps.filterMap (endsOf g)) qs) : Gap (qs.foldl mergeStep []) ∧ ∀ n, cov (qs.foldl mergeStep []) n = covs ps g n := by
  obtain ⟨h1, h2⟩ := h
  obtain ⟨k1, k2⟩ := merge_all (qs := qs) (acc := []) ⟨.nil, fun _ h => nomatch h⟩ (fun _ h => nomatch h) (h2.imp fun {p q} e => by simp only [lexLt, decide_eq_false_iff_not] at e; lia) fun q hq => ends_whole q (h1.mem_iff.mp hq)
  refine ⟨k1, fun n => ?_⟩
  rw [k2]
  show (false || cov qs n) = _
  rw [Bool.false_or, Bool.eq_iff_iff]
  unfold covs cov
  rw [List.any_eq_true, List.any_eq_true]
  exact ⟨fun ⟨x, a, b⟩ => ⟨x, h1.mem_iff.mp a, b⟩, fun ⟨x, a, b⟩ => ⟨x, h1.mem_iff.mpr a, b⟩⟩
theorem merge_len (qs acc : List (Int × Int)) : (qs.foldl mergeStep acc).length ≤ acc.length + qs.length := by
  induction qs generalizing acc with
  | nil => exact Nat.le_refl _
  | cons q qs ih =>
    have h2 : (mergeStep acc q).length ≤ acc.length + 1 := by
      rcases List.eq_nil_or_concat acc with rfl | ⟨a, l, rfl⟩
      · exact Nat.le_refl _
      · rw [List.concat_eq_append, merge_snoc]
        split
        · rw [List.length_append, List.length_append]; exact Nat.le_succ _
        · exact Nat.le_of_eq List.length_append
    exact Nat.le_trans (ih _) (by rw [List.length_cons]; lia)
theorem gap_mono {ms : List (Int × Int)} (G : Gap ms) {i j : Nat} {p q : Int × Int} (hi : ms[i]? = some p) (hj : ms[j]? = some q) (h : i < j) : p.2 < q.1 := by
  obtain ⟨h1, rfl⟩ := List.getElem?_eq_some_iff.mp hi
  obtain ⟨h2, rfl⟩ := List.getElem?_eq_some_iff.mp hj
  exact List.pairwise_iff_getElem.mp G.apart i j h1 h2 h
theorem cov_iff {ms : List (Int × Int)} {n : Int} : cov ms n = true ↔ ∃ (j : Nat) (p : Int × Int), ms[j]? = some p ∧ p.1 ≤ n ∧ n ≤ p.2 := by
  unfold cov
  rw [List.any_eq_true]
  constructor
  · rintro ⟨p, hp, h⟩
    obtain ⟨j, hj⟩ := List.mem_iff_getElem?.mp hp
    exact ⟨j, p, hj, by simpa [inP] using h⟩
  · rintro ⟨j, p, hj, h⟩
    exact ⟨p, List.mem_of_getElem? hj, by simpa [inP] using h⟩
end Mine

end PartM1
section PartR5
open PySem PySem.W PySem.Spec PySem.Calls PyProof.Rows
set_option Elab.async false
set_option linter.unusedVariables false
set_option maxRecDepth 100000
namespace Mine

/-- all that lies before the place is less -/
noncomputable abbrev Bef (ms : List (Int × Int)) (m : Int) (a : Nat) : Prop := ∀ (j : Nat) (p : Int × Int), j < a → ms[j]? = some p → p.2 < m
inductive MbJ (a b r : Option Value) (D : Addr) (ms : List (Int × Int)) (xs : List Int) (i : Nat) : List (Option Value) → List (Addr × Obj) → Prop
  | mk (at_ t nv out k) : IntsAre out ((xs.take i).filter (cov ms)) → out.length ≤ i → at_ ≤ ms.length → (∀ (i' : Nat) (m : Int), i ≤ i' → xs[i']? = some m → Bef ms m at_) → MbJ a b r D ms xs i [a, b, r, some (.ref D), some (.int (at_ : Nat) t), nv] [(D, W.listOf out.toArray k)]
inductive MbI (w : World) (g : Gh) (sg : Sg) (c : Ct KK w g sg) (a b r d m : Option Value) (led : List (Addr × Obj)) (P : Heap) (ms : List (Int × Int)) (x : Int) (n : Nat) (s : Shared) : Prop
  | mk (at_ t P') : Sc c [a, b, r, d, some (.int (at_ : Nat) t), m] led P' s → Sub P P' → at_ ≤ ms.length → Bef ms x at_ → n = ms.length - at_ → MbI w g sg c a b r d m led P ms x n s
inductive MergedV (ps : List (Int × Int)) (z : Int) (h : Heap) : Value → Prop
  | mk (r its qs) : Sorted (ps.filterMap (endsOf z)) qs → IsTup h r its.toArray → PairsV h its (qs.foldl mergeStep []) → MergedV ps z h (.ref r)
theorem members {prog : Program} {w : World} {A : Around} {E : Value → Shared → Prop} {P : Heap} {s : Shared} {n : Nat} {T l : Addr} {items nums : List Value} {ps : List (Int × Int)} {ns : List Int} {Q : Value → Shared → Prop}
    (ao : Ao A (n + 3)) (C : Cx KK w P) (hP : Sub P s.heap) (hT : IsTup s.heap T items.toArray) (hp : PairsV s.heap items ps) (hz : ps.length ≤ 100) (hl : s.heap.IsList l nums.toArray) (hi : IntsAre nums ns) (hnz : ns.length ≤ 100) (hns : ns.Pairwise (· < ·))
    (ok : ∀ g, ns.getLast? = some g → SortOk (ps.filterMap (endsOf g)))
    (k : ∀ r out c s' P', Grow P s P' s' → P'.get? r = some (W.listOf out.toArray c) → IntsAre out (ns.filter (covs ps (ns.getLast?.getD 0))) → Q (.ref r) s') :
    wpAny (model prog w) A (call (.ref 209) [.ref T, .ref l]) Q E s := by
  refine' X.enter ["some", "numbers"] ["pairs", "out", "at", "number"] [("len", .builtin "len"), ("plain_set", .ref 202)] (H := s.heap) (mt := []) ?ho ?hcd ?hb rfl ?hf ?hn ?hg ao C hP (.refl _) (fun _ h => nomatch h) .nil ?_
  case ho => rfl
  case hcd => kernel_rfl!
  case hb => rfl
  case hf => kernel_rfl!
  case hn => kernel_rfl!
  case hg => kernel_rfl!
  intro c s₁ ao S
  have hlen := hi.length
  refine X.ifs (.cmp (.eq (.len (.glob 0 rfl) (.name 1 rfl rfl) (.ofH lst_mono hl) (by lia)) .int)) S (fun h P₁ s₂ hP₁ S => ?_) fun h P₁ s₂ hP₁ S => ?_
  · refine X.ret .newNil S ?_
    intro P₂ v s₃ hP₂ x
    refine x.casesOn fun r hr S => ?_
    have e : ns = [] := List.length_eq_zero_iff.mp (by lia)
    subst e
    exact k r [] 0 _ _ (S.grow rfl) hr .nil
  obtain ⟨ns', z, rfl⟩ : ∃ ns' z, ns = ns' ++ [z] := by
    rcases List.eq_nil_or_concat ns with rfl | ⟨a, b, e⟩
    · exact absurd (by rw [hlen]; rfl) h
    · exact ⟨a, b, by rw [e, List.concat_eq_append]⟩
  rw [List.getLast?_concat] at k ok
  refine X.jp ?_
  obtain ⟨nums', tz, rfl⟩ := ints_snoc hi
  refine X.assign 2 (.dcallVI (R := MergedV ps z) (.glob 1 rfl) rfl (.name 0 rfl rfl) (.toI (.last (.name 1 rfl rfl) (.neg .int) (.ofH lst_mono hl))) fun P₀ t' s₅ Q hP₀ S k =>
    plain_set ao S.cx S.keep (S.tupF hT) (hp.mono S.frame) hz (ok z rfl) fun r its qs s' P' G h1 h2 h3 => k _ s' P' G (.mk r its qs h1 h2 h3)) S rfl rfl ?_
  intro P₂ v s₃ hP₂ x
  refine x.casesOn ?_
  intro r its qs hs hr hm V S
  obtain ⟨G, hc⟩ := merged hs
  have hmz : (qs.foldl mergeStep []).length ≤ 100 := by
    have h1 := merge_len qs []
    have h2 := hs.1.length_eq
    have h3 := List.length_filterMap_le (endsOf z) ps
    simp only [List.length_nil] at h1
    lia
  rw [show covs ps ((some z).getD 0) = cov (qs.foldl mergeStep []) from funext fun n => (hc n).symm] at k
  clear hc hs x
  generalize qs.foldl mergeStep [] = ms at hm G hmz k
  have hmi := hm.length
  generalize hxs : ns' ++ [z] = xs at *
  refine X.newList 3 S rfl rfl fun D s₄ S => ?_
  refine X.assignI 4 .int S rfl rfl ?_
  intro P₃ t₀ s₅ hP₃ V S
  refine X.forV (.name 1 rfl rfl) S fun P₄ s₆ hP₄ S => ?_
  refine X.forI 5 rfl (S.lstF hl) hi S (let ⟨o, e, _⟩ := hl; .inr ⟨o, e⟩) (fun i vs news P => MbJ (some (.ref T)) (some (.ref l)) (some (.ref r)) D ms xs i vs news)
    (fun _ _ _ _ h => h.casesOn fun _ _ _ _ _ _ _ _ _ => rfl) (.mk 0 t₀ none [] 0 .nil (Nat.le_refl _) (Nat.zero_le _) fun _ _ _ _ j p h => absurd h (Nat.not_lt_zero _)) ?_ ?_
  · intro i m tm s₇ vs₁ ns₁ own P₅ Φ hn hmi' hP₅ hj
    refine hj.casesOn fun at_ t nv out k' hout hol hat hbef S => ?_
    have hil := (List.getElem?_eq_some_iff.mp hmi').1
    have hout' : ∀ {b : Bool}, cov ms m = b → (xs.take (i + 1)).filter (cov ms) = (xs.take i).filter (cov ms) ++ if b = true then [m] else [] := fun {b} h => by
      rw [take_next hmi', List.filter_append, List.filter_cons, h, List.filter_nil]
    refine X.while (MbI w _ _ c (some (.ref T)) (some (.ref l)) (some (.ref r)) (some (.ref D)) (some (.int m tm)) ((D, W.listOf out.toArray k') :: own) P₅ ms m) _ (.mk at_ t P₅ S (.refl _) hat (hbef i m (Nat.le_refl _) hmi') rfl) ?_
    clear S hbef
    intro n' s' Φ' T' hnx hT' hF' hw
    refine hw.casesOn fun a t P₆ S hP₆ ha hbef hn' => ?_
    have hPP : Sub P₂ P₆ := hP₃.trans (hP₄.trans (hP₅.trans hP₆))
    have hr' := hr.keeps hPP
    have hm' := hm.mono hPP
    have hlenT : ∀ {vs news P}, Sub P₆ P → Held c vs news P (fun h => IsTup h r its.toArray) := fun k => .ofP (fun _ _ k x => x.keeps k) (hr'.keeps k)
    have hafter : ∀ (i' : Nat) (m' : Int), i + 1 ≤ i' → xs[i']? = some m' → Bef ms m' a := fun i' m' hi' he j p hj hp => by
      obtain ⟨l1, e1⟩ := List.getElem?_eq_some_iff.mp hmi'
      obtain ⟨l2, e2⟩ := List.getElem?_eq_some_iff.mp he
      exact Int.lt_trans (hbef j p hj hp) (e1 ▸ e2 ▸ List.pairwise_iff_getElem.mp hns i i' l1 l2 hi')
    have fin : ∀ {P' : Heap} {s' : Shared} (out₂ : List Value) (k₂ : Nat) (b : Bool), Sub P₆ P' → Sc c [some (.ref T), some (.ref l), some (.ref r), some (.ref D), some (.int a t), some (.int m tm)] ((D, W.listOf out₂.toArray k₂) :: own) P' s' →
        IntsAre out₂ ((xs.take i).filter (cov ms) ++ if b = true then [m] else []) → out₂.length ≤ i + 1 → cov ms m = b → Φ .next s' := fun out₂ k₂ b hP S h hl hb => hn (news₂ := [_]) (hP₆.trans hP) S (.mk a t _ out₂ k₂ (by rw [hout' hb]; exact h) hl ha hafter)
    clear hn hout' hafter
    rcases Nat.lt_or_ge a ms.length with hlt | hge
    · obtain ⟨q, hq⟩ : ∃ q, ms[a]? = some q := ⟨_, List.getElem?_eq_getElem hlt⟩
      refine X.test (p := (a : Int) < its.length ∧ q.2 < m) (.and (.cmp (.lt (.nameI 4 rfl rfl) (.lenT (.glob 0 rfl) (.name 2 rfl rfl) (hlenT (.refl _)) (by lia)))) fun _ => .cmp (.lt (.snd (i := (a : Int)) hr' hm' (.name 2 rfl rfl) (.nameI 4 rfl rfl) .int (by lia) (by lia) hq) (.nameI 5 rfl rfl))) S hT' hF' (fun h P₇ s₉ hP₇ S => ?_) fun h P₇ s₉ hP₇ S => ?_
      · refine X.aug 4 S .int rfl rfl rfl fun P₈ t' s₉ hP₈ S => X.nil (hnx (n' := ms.length - (a + 1)) (by rw [hn']; exact Nat.sub_succ_lt_self _ _ hlt) (.mk (a + 1) t' P₈ S (hP₆.trans (hP₇.trans hP₈)) hlt (fun j p hj hp => ?_) rfl))
        rcases Nat.lt_or_eq_of_le (Nat.le_of_lt_succ hj) with h1 | rfl
        · exact hbef j p h1 hp
        · exact some_eq hq hp ▸ h.2
      · have hal : (a : Int) < its.length := by lia
        have hmq : m ≤ q.2 := Int.not_lt.mp fun x => h ⟨hal, x⟩
        have hcm : cov ms m = decide (q.1 ≤ m) := by
          rw [Bool.eq_iff_iff, cov_iff, decide_eq_true_eq]
          constructor
          · rintro ⟨j, p, hj, h1, h2⟩
            rcases Nat.lt_trichotomy j a with e | rfl | e
            · exact absurd h2 (Int.not_le.mpr (hbef j p e hj))
            · exact some_eq hj hq ▸ h1
            · exact absurd (Int.lt_of_lt_of_le (gap_mono G hq hj e) h1) (Int.not_lt.mpr hmq)
          · exact fun h1 => ⟨a, q, hq, h1, hmq⟩
        refine X.ifs (p := (a : Int) < its.length ∧ q.1 ≤ m) (.and (.cmp (.lt (.nameI 4 rfl rfl) (.lenT (.glob 0 rfl) (.name 2 rfl rfl) (hlenT hP₇) (by lia)))) fun _ => .cmp (.le (.fst (i := (a : Int)) (hr'.keeps hP₇) (hm'.mono hP₇) (.name 2 rfl rfl) (.nameI 4 rfl rfl) .int (by lia) (by lia) hq) (.nameI 5 rfl rfl))) S (fun h' P₈ s₉ hP₈ S => ?_) fun h' P₈ s₉ hP₈ S => ?_
        · refine X.append (j := 0) (.name 3 rfl rfl) (.nameI 5 rfl rfl) S rfl (by lia) ?_
          rintro P₉ _ s₉ hP₉ ⟨tv, rfl⟩ N S
          exact X.jp (X.nil (fin (out ++ [Value.int m tv]) (k' + 1) true (hP₇.trans (hP₈.trans hP₉)) S (hout.append (.cons _ _ .nil)) (by rw [List.length_append]; exact Nat.succ_le_succ hol) (by rw [hcm, decide_eq_true h'.2])))
        · exact X.jp (X.nil (fin out k' false (hP₇.trans hP₈) S (by rw [if_neg Bool.false_ne_true, List.append_nil]; exact hout) (Nat.le_succ_of_le hol) (by rw [hcm, decide_eq_false fun x => h' ⟨hal, x⟩])))
    · have hn0 : ¬ (a : Int) < its.length := by lia
      refine X.test (p := (a : Int) < its.length ∧ False) (.and (.cmp (.lt (.nameI 4 rfl rfl) (.lenT (.glob 0 rfl) (.name 2 rfl rfl) (hlenT (.refl _)) (by lia)))) fun h => absurd h hn0) S hT' hF' (fun h => h.2.elim) fun h P₇ s₉ hP₇ S => ?_
      refine X.ifs (p := (a : Int) < its.length ∧ False) (.and (.cmp (.lt (.nameI 4 rfl rfl) (.lenT (.glob 0 rfl) (.name 2 rfl rfl) (hlenT hP₇) (by lia)))) fun h => absurd h hn0) S (fun h => h.2.elim) fun h P₈ s₉ hP₈ S => ?_
      refine X.jp (X.nil (fin out k' false (hP₇.trans hP₈) S (by rw [if_neg Bool.false_ne_true, List.append_nil]; exact hout) (Nat.le_succ_of_le hol) (Bool.eq_false_iff.mpr fun hc' => ?_)))
      obtain ⟨j, p, hj, h1, h2⟩ := cov_iff.mp hc'
      exact absurd h2 (Int.not_le.mpr (hbef j p (Nat.lt_of_lt_of_le (List.getElem?_eq_some_iff.mp hj).1 hge) hj))
  · intro s₇ vs₁ ns₁ P₅ hP₅ hj
    refine hj.casesOn fun at_ t nv out k' hout hol hat hbef S => ?_
    rw [List.take_length] at hout
    refine X.retV (.name 3 rfl rfl) S fun P₆ s₈ hP₆ S => ?_
    exact S.sealNew.casesOn fun P₇ h1 h2 S => k D out k' _ P₇ (S.grow rfl) h2 hout
end Mine

end PartR5
section PartR6
open PySem PySem.W PySem.Spec PySem.Calls PyProof.Rows
set_option Elab.async false
set_option linter.unusedVariables false
set_option maxRecDepth 100000
namespace Mine

/-- a tuple of pairs -/
inductive PairT (h : Heap) (T : Addr) (ps : List (Int × Int)) : Prop
  | mk (items : List Value) : IsTup h T items.toArray → PairsV h items ps → PairT h T ps
theorem PairT.mono {h h' : Heap} {T : Addr} {ps : List (Int × Int)} (x : PairT h T ps) (k : Sub h h') : PairT h' T ps := x.casesOn fun i a b => .mk i (a.keeps k) (PairsV.mono b k)
noncomputable def OkSet (ps : List (Int × Int)) (N : Nat) : Prop := ps.length ≤ 100 ∧ SortOk (ps.filterMap (endsOf N))
noncomputable def line (ps : List (Int × Int)) (N : Nat) : List Int := (numsTo N).filter (covs ps N)
noncomputable def heldPairs (p q : List (Int × Int)) (N : Nat) : List (Int × Int) := if (line p N).length = (line q N).length then (line p N).zip (line q N) else []

theorem membersN {prog : Program} {w : World} {A : Around} {E : Value → Shared → Prop} {P : Heap} {s : Shared} {n N : Nat} {T l : Addr} {nums : List Value} {ps : List (Int × Int)} {Q : Value → Shared → Prop}
    (ao : Ao A (n + 3)) (C : Cx KK w P) (hP : Sub P s.heap) (hT : PairT s.heap T ps) (hl : s.heap.IsList l nums.toArray) (hi : IntsAre nums (numsTo N)) (hN : N ≤ 100) (ok : OkSet ps N)
    (k : ∀ r s' P', Grow P s P' s' → IntsL (line ps N) P' r → Q r s') : wpAny (model prog w) A (call (.ref 209) [.ref T, .ref l]) Q E s := by
  obtain ⟨items, hT, hp⟩ := hT
  refine members ao C hP hT hp ok.1 hl hi (by rw [numsTo_length]; exact hN) (numsTo_asc N) (fun g h => by rw [numsTo_last h]; exact ok.2) fun r out c s' P' G h1 h2 => k _ s' P' G (.mk r out c h1 ?_)
  cases N with
  | zero => exact h2
  | succ n =>
    have : (numsTo (n + 1)).getLast?.getD 0 = ((n + 1 : Nat) : Int) := by
      have : numsTo (n + 1) = numsTo n ++ [(n : Int) + 1] := by unfold numsTo; rw [List.range_succ, List.map_append]; rfl
      rw [this, List.getLast?_concat]; rfl
    rw [this] at h2
    exact h2

theorem held_pairs {prog : Program} {w : World} {A : Around} {E : Value → Shared → Prop} {P : Heap} {s : Shared} {n N : Nat} {M T₁ T₂ : Addr} {p q : List (Int × Int)} {t : Tok} {Q : Value → Shared → Prop}
    (ao : Ao A (n + 4)) (C : Cx KK w P) (hP : Sub P s.heap) (hM : IsTup s.heap M #[.ref T₁, .ref T₂]) (h₁ : PairT s.heap T₁ p) (h₂ : PairT s.heap T₂ q) (hN : N ≤ 100) (ok₁ : OkSet p N) (ok₂ : OkSet q N)
    (k : ∀ v s' P', Grow P s P' s' → PairsL (heldPairs p q N) P' v → Q v s') : wpAny (model prog w) A (call (.ref 216) [.ref M, .int N t]) Q E s := by
  refine' X.enter ["match", "greatest"] ["some", "numbers", "uids"] [("list", .type "list"), ("range", .type "range"), ("members", .ref 209), ("len", .builtin "len"), ("zip", .type "zip")] (H := s.heap) (mt := []) ?ho ?hcd ?hb rfl ?hf ?hn ?hg ao C hP (.refl _) (fun _ h => nomatch h) .nil ?_
  case ho => rfl
  case hcd => kernel_rfl!
  case hb => rfl
  case hf => kernel_rfl!
  case hn => kernel_rfl!
  case hg => kernel_rfl!
  intro c s₁ ao S
  refine X.assign 2 (.listRange (N := N) (.glob 0 rfl) (.range2 (.glob 1 rfl) .int (.add (.nameI 1 rfl rfl) .int)) rfl (by lia)) S rfl rfl ?_
  intro P₁ v s₂ hP₁ x
  refine x.casesOn ?_
  intro l nums k₁ hl hi V S
  refine X.assign 3 (.dcallVV (R := IntsL (line p N)) (.glob 2 rfl) rfl (.itemT (items := [.ref T₁, .ref T₂]) (j := 0) (.name 0 rfl rfl) .int (.ofH (fun _ _ k x => x.keeps k) hM) (by decide) (by decide) rfl rfl) (.name 2 rfl rfl) fun P₀ s₅ Q hP₀ S k =>
    membersN ao S.cx S.keep (h₁.mono S.frame) ⟨_, S.keep _ _ (hP₀ _ _ hl), rfl, k₁, rfl⟩ hi hN ok₁ fun r s' P' G h => k r s' P' G h) S rfl rfl ?_
  intro P₂ v₁ s₃ hP₂ x₁
  refine x₁.casesOn ?_
  intro l₁ xs k₂ hl₁ hx V S
  refine X.assign 4 (.dcallVV (R := IntsL (line q N)) (.glob 2 rfl) rfl (.itemT (items := [.ref T₁, .ref T₂]) (j := 1) (.name 0 rfl rfl) .int (.ofH (fun _ _ k x => x.keeps k) hM) (by decide) (by decide) rfl rfl) (.name 2 rfl rfl) fun P₀ s₅ Q hP₀ S k =>
    membersN ao S.cx S.keep (h₂.mono S.frame) ⟨_, S.keep _ _ ((hP₂.trans hP₀) _ _ hl), rfl, k₁, rfl⟩ hi hN ok₂ fun r s' P' G h => k r s' P' G h) S rfl rfl ?_
  intro P₃ v₂ s₄ hP₃ x₂
  refine x₂.casesOn ?_
  intro l₂ ys k₃ hl₂ hy V S
  have z₁ := hx.length
  have z₂ := hy.length
  have b₁ : (line p N).length ≤ N := by have := List.length_filter_le (covs p N) (numsTo N); rw [numsTo_length] at this; exact this
  have b₂ : (line q N).length ≤ N := by have := List.length_filter_le (covs q N) (numsTo N); rw [numsTo_length] at this; exact this
  have H₁ : ∀ {P vs}, Sub P₃ P → Held c vs [] P fun h => h.IsList l₁ xs.toArray := fun k => .ofP lst_mono ⟨_, k _ _ (hP₃ _ _ hl₁), rfl, k₂, rfl⟩
  have H₂ : ∀ {P vs}, Sub P₃ P → Held c vs [] P fun h => h.IsList l₂ ys.toArray := fun k => .ofP lst_mono ⟨_, k _ _ hl₂, rfl, k₃, rfl⟩
  refine X.ifs (.cmp (.ne (.len (.glob 3 rfl) (.name 3 rfl rfl) (H₁ (.refl _)) (by lia)) (.len (.glob 3 rfl) (.name 4 rfl rfl) (H₂ (.refl _)) (by lia)))) S (fun h P₄ s₅ hP₄ S => ?_) fun h P₄ s₅ hP₄ S => ?_
  · refine X.ret .nilP S fun P₅ v s₆ hP₅ x S => k _ _ _ (S.grow rfl) ?_
    rw [heldPairs, if_neg (by lia)]
    exact x
  · refine X.jp (X.ret (.listZip (.glob 0 rfl) (.glob 4 rfl) (.name 3 rfl rfl) (.name 4 rfl rfl) (H₁ hP₄) (H₂ hP₄) hx hy (by lia) (by lia)) S fun P₅ v s₆ hP₅ x S => k _ _ _ (S.grow rfl) ?_)
    rw [heldPairs, if_pos (by lia)]
    exact x
end Mine

end PartR6
section PartR7
open PySem PySem.W PySem.Spec PySem.Calls PyProof.Rows
set_option Elab.async false
set_option linter.unusedVariables false
set_option maxRecDepth 100000
namespace Mine
theorem ok_box_next (w : World) : attrOk (KK w.params) 151 "next_uid" = true := by kernel_rfl!
noncomputable def agreed (us : List Int) (ps : List (Int × Int)) : Int := ps.foldl (fun best p => if placeOf us p.2 + 1 = p.1 then p.2 else best) 0
/-- a box to be read -/
inductive BoxR (h : Heap) (b : Addr) (us : List Int) (N : Nat) : Prop
  | mk (es l items t) : Inst h b 151 es → getL "letters" es = some (some (.ref l)) → getL "next_uid" es = some (some (.int ((N : Int) + 1) t)) → h.IsList l items.toArray → LettersAre h items us → items.length < 1000 → BoxR h b us N
inductive AgJ (b m : Option Value) (best : Int) (P : Heap) : List (Option Value) → List (Addr × Obj) → Prop
  | mk (t o₁ o₂) : AgJ b m best P [b, m, some (.int best t), o₁, o₂] []
theorem agreed_uid {prog : Program} {w : World} {A : Around} {E : Value → Shared → Prop} {P : Heap} {s : Shared} {n N : Nat} {b M T₁ T₂ : Addr} {us : List Int} {p q : List (Int × Int)} {Q : Value → Shared → Prop}
    (ao : Ao A (n + 5)) (C : Cx KK w P) (hP : Sub P s.heap) (hb : BoxR s.heap b us N) (hs : us.Pairwise (· < ·)) (hM : IsTup s.heap M #[.ref T₁, .ref T₂]) (h₁ : PairT s.heap T₁ p) (h₂ : PairT s.heap T₂ q) (hN : N ≤ 100) (ok₁ : OkSet p N) (ok₂ : OkSet q N)
    (k : ∀ t s' P', Grow P s P' s' → Q (.int (agreed us (heldPairs p q N)) t) s') : wpAny (model prog w) A (call (.ref 223) [.ref b, .ref M]) Q E s := by
  obtain ⟨es, l, items, tn, hi, hg, hgn, hl, hu, hz⟩ := hb
  refine' X.enter ["box", "match"] ["best", "number", "uid"] [("held_pairs", .ref 216), ("number_in", .ref 169)] (H := s.heap) (mt := []) ?ho ?hcd ?hb rfl ?hf ?hn ?hg ao C hP (.refl _) (fun _ h => nomatch h) .nil ?_
  case ho => rfl
  case hcd => kernel_rfl!
  case hb => rfl
  case hf => kernel_rfl!
  case hn => kernel_rfl!
  case hg => kernel_rfl!
  intro c s₁ ao S
  refine X.assignI 2 .int S rfl rfl ?_
  intro P₁ t₀ s₂ hP₁ V S
  refine X.for (R := PairsL (heldPairs p q N)) (.dcallVI (a := N) (.glob 0 rfl) rfl (.name 1 rfl rfl)
    ((Gives.sub (.toI (.attr (.name 0 rfl rfl) (.ofH (fun _ _ k x => x.mono k) hi) (ok_box_next w) hgn rfl)) .int).weaken fun _ _ ⟨t, e⟩ => ⟨t, e.trans (by rw [Int.add_sub_cancel])⟩) fun P₀ t' s₅ Q hP₀ S k =>
    held_pairs ao S.cx S.keep (hM.keeps S.frame) (h₁.mono S.frame) (h₂.mono S.frame) hN ok₁ ok₂ k) S ?_
  intro P₂ v s₃ hP₂ x
  refine x.casesOn fun r ys kk hr hp S => ?_
  refine X.forP (items := ys) (ps := heldPairs p q N) 3 4 rfl rfl ⟨_, hr, rfl, kk, rfl⟩ hp S
    (fun i vs news P => AgJ (some (.ref b)) (some (.ref M)) (agreed us ((heldPairs p q N).take i)) P vs news)
    (fun _ _ _ _ h => h.casesOn fun _ _ _ => rfl) (.mk t₀ _ _) ?_ ?_
  · intro i pr t₁ t₂ s₄ vs₁ ns₁ own P₃ Φ hn hpi hP₃ hj
    have e : agreed us ((heldPairs p q N).take (i + 1)) = if placeOf us pr.2 + 1 = pr.1 then pr.2 else agreed us ((heldPairs p q N).take i) := by
      unfold agreed
      rw [take_next hpi, List.foldl_append]
      rfl
    rw [e] at hn
    refine hj.casesOn fun t o₁ o₂ S => ?_
    exact X.ifSet 2 (.cmp (.eq (.dcallVI (R := IsI (placeOf us pr.2 + 1)) (.glob 1 rfl) rfl (.name 0 rfl rfl) (.nameI 4 rfl rfl) fun P₀ t' s₅ Q hP₀ S k =>
      number_in ao.less.less S.cx S.keep hz (hi.mono S.frame) hg (S.lstF hl) (hu.mono S.frame) hs fun t s' P' G => k _ s' P' G ⟨t, rfl⟩) (.nameI 3 rfl rfl))) (fun _ => .nameI 4 rfl rfl) S rfl rfl rfl fun P₄ t₃ s₅ hP₄ S =>
      X.next hn (news₂ := []) hP₄ S (.mk t₃ (some (.int pr.1 t₁)) (some (.int pr.2 t₂)))
  · intro s₄ vs₁ ns₁ P₃ hP₃ hj
    rw [List.take_length] at hj
    refine hj.casesOn fun t o₁ o₂ S => ?_
    exact X.retI (.nameI 2 rfl rfl) S fun P₄ t' s₅ hP₄ S => k _ _ _ (S.grow rfl)
end Mine

end PartR7
section PartR8
open PySem PySem.W PySem.Spec PySem.Calls PyProof.Rows
set_option Elab.async false
set_option linter.unusedVariables false
set_option maxRecDepth 100000
namespace Mine
/-- drawn ranges: two at most, of positive ends -/
noncomputable def Drawn (ps : List (Int × Int)) : Prop := ps.length ≤ 2 ∧ ∀ p ∈ ps, 1 ≤ p.1 ∧ 1 ≤ p.2
theorem mod_pos {a : Int} : 1 ≤ 1 + a.fmod 11 := by
  have := Int.fmod_nonneg_of_pos a (by decide : (0 : Int) < 11); lia

inductive RgJ (D : Addr) (i : Nat) (P : Heap) : List (Option Value) → List (Addr × Obj) → Prop
  | mk (num : Int) (t tv out k) (ps : List (Int × Int)) : PairsV P out ps → ps.length = i → (∀ p ∈ ps, 1 ≤ p.1 ∧ 1 ≤ p.2) → RgJ D i P [some (.int num t), some (.ref D), tv] [(D, W.listOf out.toArray k)]
theorem law_ranges {prog : Program} {w : World} {A : Around} {E : Value → Shared → Prop} {P : Heap} {s : Shared} {n : Nat} {number : Int} {t : Tok} {Q : Value → Shared → Prop}
    (ao : Ao A (n + 1)) (C : Cx KK w P) (hP : Sub P s.heap) (k : ∀ r ps s' P', Grow P s P' s' → PairT P' r ps → Drawn ps → Q (.ref r) s') :
    wpAny (model prog w) A (call (.ref 230) [.int number t]) Q E s := by
  refine' X.enter ["number"] ["some", "turn"] [("range", .type "range"), ("tuple", .type "tuple")] (H := s.heap) (mt := []) ?ho ?hcd ?hb rfl ?hf ?hn ?hg ao C hP (.refl _) (fun _ h => nomatch h) .nil ?_
  case ho => rfl
  case hcd => kernel_rfl!
  case hb => rfl
  case hf => kernel_rfl!
  case hn => kernel_rfl!
  case hg => kernel_rfl!
  intro c s₁ ao S
  have h0 := Int.fmod_nonneg_of_pos number (by decide : (0 : Int) < 2)
  have h2 := Int.fmod_lt_of_pos number (by decide : (0 : Int) < 2)
  have hz : (1 + number.fmod 2).toNat ≤ 2 := by lia
  refine X.newList 1 S rfl rfl fun D s₂ S => ?_
  refine X.for (.range1 (.glob 0 rfl) (.add .int (.mod (.nameI 0 rfl rfl) .int (by decide)))) S ?_
  intro P₁ v s₃ hP₁ x
  refine x.casesOn fun r t₁ t₂ t₃ hr S => ?_
  refine X.forN (n := (1 + number.fmod 2).toNat) (Pv := fun i v => ∃ t, v = Value.int (0 + i) t) 2 rfl (.range _ c.hA (S.keep _ _ hr) (small_one (by decide) (by decide) (by lia) (by lia)) (by rw [rangeSize_nat]; lia)) S (fun _ h => nomatch h)
    (fun i vs news P => RgJ D i P vs news) (fun _ _ _ _ h => h.casesOn fun _ _ _ _ _ _ _ _ _ => rfl) (.mk number t none [] 0 [] .nil rfl fun _ h => nomatch h) ?_ ?_
  · intro i v s₄ vs₁ ns₁ own P₂ Φ hn hi hv hP₂ hj
    refine hj.casesOn fun num t tv out k' ps ho hl hp S => ?_
    refine X.assignI 0 (.div (.nameI 0 rfl rfl) .int (by decide) (by decide)) S rfl rfl ?_
    intro P₃ t₄ s₅ hP₃ V S
    refine X.append (j := 0) (.name 1 rfl rfl) (.tup2 (.add .int (.mod (.nameI 0 rfl rfl) .int (by decide))) (.add .int (.mod (.div (.nameI 0 rfl rfl) .int (by decide) (by decide)) .int (by decide)))) S rfl (by rw [ho.length, hl]; exact Nat.le_trans (Nat.le_of_lt hi) (Nat.le_trans hz (by decide))) ?_
    intro P₄ v s₆ hP₄ hv N S
    refine X.assignI 0 (.div (.nameI 0 rfl rfl) .int (by decide) (by decide)) S rfl rfl ?_
    intro P₅ t₅ s₇ hP₅ V S
    refine X.next hn (news₂ := [_]) (hP₃.trans (hP₄.trans hP₅)) S (.mk _ t₅ _ (out ++ [v]) (k' + 1) (ps ++ [_]) ((PairsV.mono ho (hP₃.trans (hP₄.trans hP₅))).snoc (PairV.mono hv hP₅)) (by rw [List.length_append, hl]; rfl) fun p hp' => ?_)
    rcases List.mem_append.mp hp' with h | h
    · exact hp p h
    · rw [List.mem_singleton.mp h]; exact ⟨mod_pos, mod_pos⟩
  · intro s₄ vs₁ ns₁ P₂ hP₂ hj
    refine hj.casesOn fun num t tv out k' ps ho hl hp S => ?_
    refine X.ret (.tupleOf (.glob 1 rfl) (.name 1 rfl rfl) (.led 0 rfl fun h e => ⟨_, e, rfl, k', rfl⟩) (by rw [ho.length, hl]; exact Nat.le_trans hz (by decide))) S ?_
    intro P₃ v s₅ hP₃ x
    exact x.casesOn fun r hr S => k r ps _ _ (S.grow rfl) ⟨out, hr, PairsV.mono ho hP₃⟩ ⟨hl ▸ hz, hp⟩
end Mine

end PartR8
section PartR9
open PySem PySem.W PySem.Spec PySem.Calls PyProof.Rows
set_option Elab.async false
set_option linter.unusedVariables false
set_option maxRecDepth 100000
namespace Mine
noncomputable def inQ (n : Int) (p : Int × Int) : Bool := decide (min p.1 p.2 ≤ n ∧ n ≤ max p.1 p.2)
theorem covs_pos {ps : List (Int × Int)} {N : Nat} {m : Int} (h : ∀ p ∈ ps, 1 ≤ p.1 ∧ 1 ≤ p.2) : covs ps N m = decide (ps.filter (inQ m) ≠ []) := by
  have e : ∀ ps : List (Int × Int), (∀ p ∈ ps, 1 ≤ p.1 ∧ 1 ≤ p.2) → ps.filterMap (endsOf N) = ps.map fun p => (min p.1 p.2, max p.1 p.2) := by
    intro ps
    induction ps with
    | nil => intro _; rfl
    | cons p r ih =>
      intro h
      have h1 := h p (.head _)
      have h2 : endsOf N p = some (min p.1 p.2, max p.1 p.2) := by
        unfold endsOf
        rw [if_neg (by lia), if_neg (by lia), if_neg (by lia)]
      rw [List.filterMap_cons, h2, List.map_cons, ← ih fun p hp => h p (.tail _ hp)]
  unfold covs cov
  rw [e ps h, Bool.eq_iff_iff, decide_eq_true_eq, List.any_map, List.any_eq_true]
  rw [ne_eq, List.filter_eq_nil_iff]
  constructor
  · rintro ⟨p, hp, h1⟩ h2
    exact h2 p hp h1
  · intro h2
    by_cases q : ∃ x, x ∈ ps ∧ (inP m ∘ fun p => (min p.1 p.2, max p.1 p.2)) x = true
    · exact q
    · exact absurd (fun a ha hx => q ⟨a, ha, hx⟩) h2

theorem law_line {prog : Program} {w : World} {A : Around} {E : Value → Shared → Prop} {P : Heap} {s : Shared} {n N : Nat} {T : Addr} {ps : List (Int × Int)} {t : Tok} {Q : Value → Shared → Prop}
    (ao : Ao A (n + 3)) (C : Cx KK w P) (hP : Sub P s.heap) (hT : PairT P T ps) (hp : ∀ p ∈ ps, 1 ≤ p.1 ∧ 1 ≤ p.2) (hz : ps.length ≤ 100) (hN : N ≤ 100) (k : ∀ v s' P', Grow P s P' s' → IntsL (line ps N) P' v → Q v s') :
    wpAny (model prog w) A (call (.ref 235) [.ref T, .int N t]) Q E s := by
  obtain ⟨items, hTP, hps⟩ := hT
  have hT := hTP.keeps hP
  refine' call_of (X.enterC ["greatest"] [some (.int N t)] [("range", .type "range")] (fun i => [("some", i)]) _ (H := s.heap) (mt := []) ?ho ?hcd ?hb ?hf ?hn ?hg ?hcf ?hkd ?hbl rfl ?hcn ?hck ao C hP (.refl _) (fun _ h => nomatch h) .nil ?_)
  case ho => rfl
  case hcd => kernel_rfl!
  case hb => rfl
  case hf => kernel_rfl!
  case hn => kernel_rfl!
  case hg => kernel_rfl!
  case hcf => intro _; rfl
  case hkd =>
    intro i x hx
    rcases List.mem_cons.mp hx with rfl | hx
    · exact .inr ⟨rfl, rfl⟩
    · rw [List.mem_singleton.mp hx]; exact .inl rfl
  case hbl => rfl
  case hcn => intro n; exact List.nodup_cons.mpr ⟨fun h => (nomatch h), .nil⟩
  case hck => intro n p hp; rw [List.mem_singleton.mp hp]; exact ⟨rfl, rfl⟩
  intro ci led c s₁ ao hled S
  obtain ⟨oc, rfl, hoc⟩ := hled.one
  replace hoc : oc.data = .cell (some (.ref T)) := hoc
  change Sc c [some (.int N t)] [(ci, oc)] P s₁ at S
  refine X.ret (.comp (oc := some "one") (ns' := []) (gv' := []) (n := N) (Pv := fun i v _ => ∃ t, v = Value.int (1 + i) t) (J := fun i ys _ => IntsAre ys (((numsTo N).take i).filter (covs ps N))) (.range2 (.glob 0 rfl) .int (.add (.nameI 0 rfl rfl) .int))
    (fun P' v s' _ S x => x.casesOn fun r t₁ t₂ t₃ hr => ⟨[], .range N c.hA (S.keep _ _ hr) (small_one (by decide) (by decide) (by lia) (by lia)) (by rw [rangeSize_nat]; lia)⟩)
    (by lia) rfl rfl (by kernel_rfl!) rfl rfl (fun _ _ => rfl) (fun _ => rfl) (fun _ _ => .nil) ?_) S ?_
  · intro P₀ s₀ g' cl c' hP₀ S₀ hH hA i₀ v s₁ ys P₁ D k vs₁ own u T₁ T₀ m₁ m₀ hi hv hP₁ hJ hyl hvs S
    obtain ⟨tv, rfl⟩ := hv
    have hget : (numsTo N)[i₀]? = some (1 + (i₀ : Int)) := by unfold numsTo; rw [List.getElem?_map, List.getElem?_range hi]; exact congrArg some (Int.add_comm _ _)
    generalize (1 : Int) + (i₀ : Int) = m at S hget
    obtain rfl := List.length_eq_zero_iff.mp hvs
    change Sc c' [] ((D, W.listOf ys.toArray k) :: (cl, { cls := .type "cell", data := .cell u }) :: own) P₁ s₁ at S
    refine wpAny_assign_Name (q_storeC S c'.V (c := cl) (.head _) (.there .here) rfl fun s₂ S => ?_)
    have hci : g'.H.IsCell ci (some (.ref T)) := ⟨oc, hH _ _ (S₀.get (.head _)), hoc⟩
    have hTg : IsTup g'.H T items.toArray := (hT.keeps S₀.frame).keeps hH
    refine turnIf (.cmp (.neP ((ao.le (Nat.le_add_left 2 n)).mono' hA) (Gives.weaken (R' := PairsL (ps.filter (inQ m))) (Gives.comp (oc := none) (ns' := ["pair"]) (gv' := [("min", .builtin "min"), ("max", .builtin "max")]) (n := items.length) (Pv := fun i v _ => items[i]? = some v) (J := fun i ys P => PairsV P ys ((ps.take i).filter (inQ m))) (.cell 1 rfl (.ofH (fun _ _ k x => x.keeps k) hci))
      (fun P' v s' _ S e => by subst e; exact ⟨_, IterTo.tupleL c'.hA (S.tupF hTg)⟩) (by rw [hps.length]; lia) rfl rfl (by kernel_rfl!) rfl rfl (fun _ _ => rfl) (fun _ => rfl) (fun _ _ => .nil) (turnOne fun P₀' s₀' g'' c'' hP₀' S₀' hH' hA' i v s₁ s₂ zs P₃ led T₁' T₀' m₁' m₀' hi' hv hP₃ hJ' hyl' S => ?_)) fun h v x => x.pairs fun ys P hJ => ?_) .nilP)) S (fun h P₂ s₃ hP₂ S => ?_) fun h P₂ s₃ hP₂ S => ?_
    · obtain ⟨p, hpi, a, t₁, t₂, hpa⟩ := hps.getL hv
      have hcl : g''.H.IsCell cl (some (.int m tv)) := ⟨_, hH' _ _ (S₀'.get (.tail _ (.head _))), rfl⟩
      have hpg : IsTup g''.H a #[.int p.1 t₁, .int p.2 t₂] := ((((hpa.keeps hP).keeps S₀.frame).keeps hH).keeps S₀'.frame).keeps hH'
      refine turnIf (.chainLe (.pairMin (.glob 0 rfl) (.name 0 rfl rfl) (.ofH (fun _ _ k x => x.keeps k) hpg)) (.toI (.cell 0 rfl (.ofH (fun _ _ k x => x.keeps k) hcl))) (.pairMax (.glob 1 rfl) (.name 0 rfl rfl) (.ofH (fun _ _ k x => x.keeps k) hpg))) S (fun h P₄ s₃ hP₄ S => ?_) fun h P₄ s₃ hP₄ S => ?_
      · refine El.ofV (Gives.name 0 rfl rfl) S fun P₅ s₄ hP₅ S => m₁' (hP₄.trans hP₅) S ?_
        show PairsV _ _ ((ps.take (i + 1)).filter _)
        rw [take_next hpi, List.filter_append, List.filter_cons_of_pos (show inQ m p = true from decide_eq_true h), List.filter_nil]
        exact (PairsV.mono hJ' (hP₄.trans hP₅)).snoc (.mk a t₁ t₂ (hpa.keeps (hP₀.trans (hP₁.trans (hP₀'.trans (hP₃.trans (hP₄.trans hP₅)))))))
      · refine m₀' hP₄ S ?_
        show PairsV _ _ ((ps.take (i + 1)).filter _)
        rw [take_next hpi, List.filter_append, List.filter_cons_of_neg (show ¬ inQ m p = true from fun x => h (of_decide_eq_true x)), List.filter_nil, List.append_nil]
        exact PairsV.mono hJ' hP₄
    · rw [hps.length, List.take_length] at hJ
      exact hJ
    · refine El.ofV (Gives.cell 0 rfl (.led 1 rfl fun h e => ⟨_, e, rfl⟩)) S fun P₃ s₄ hP₃ S => m₁ rfl (hP₂.trans hP₃) S ?_
      show IntsAre _ (((numsTo N).take (i₀ + 1)).filter _)
      rw [take_next hget, List.filter_append, List.filter_cons_of_pos (by rw [covs_pos hp]; exact decide_eq_true h), List.filter_nil]
      exact hJ.append (.cons _ _ .nil)
    · refine m₀ rfl hP₂ S ?_
      show IntsAre _ (((numsTo N).take (i₀ + 1)).filter _)
      rw [take_next hget, List.filter_append, List.filter_cons_of_neg (by rw [covs_pos hp, decide_eq_true_eq]; exact h), List.filter_nil, List.append_nil]
      exact hJ
  · intro P₂ v s₂ _ x S
    refine k _ _ _ (S.grow rfl) (x.ints fun ys P hJ => ?_)
    rw [List.take_of_length_le (Nat.le_of_eq (numsTo_length N))] at hJ
    exact hJ
end Mine

end PartR9
section PartR10
open PySem PySem.W PySem.Spec PySem.Calls PyProof.Rows
set_option Elab.async false
set_option linter.unusedVariables false
set_option maxRecDepth 100000
namespace Mine
theorem ok_box_top (w : World) : attrOk (KK w.params) 151 "top" = true := by kernel_rfl!
theorem set_box_top (w : World) : setOk (KK w.params) 151 "top" = true := by kernel_rfl!
/-- the entries of a box's dict -/
structure BoxD (es : List DictEntry) (N T : Int) (l gl : Addr) : Prop where
  len : es.length ≤ 30
  top : ∃ t, getL "top" es = some (some (.int T t))
  nu : ∃ t, getL "next_uid" es = some (some (.int N t))
  ls : getL "letters" es = some (some (.ref l))
  gn : getL "gone" es = some (some (.ref gl))
  um : getL "uids" es = some none
theorem putL_same {y : Str} {v k : Value} {hs : Int} : ∀ {es : List DictEntry}, (getL y es).isSome = true → getL y es ≠ some none → (putL y hs k v es).length = es.length
  | [], _, h => absurd rfl h
  | e :: r, h1, h2 => by
    unfold putL
    by_cases q : e.key.isStr y = true
    · rw [if_pos q]; rfl
    · rw [if_neg q]
      have hf : getL y (e :: r) = (match r.find? (·.key.isStr y) with | some e => some (some e.val) | none => if (e :: r).any (·.refKey) then none else some none) := by
        unfold getL; simp only [List.find?_cons, q]; rfl
      rw [hf] at h1 h2
      have : ∃ e', r.find? (·.key.isStr y) = some e' := by
        cases z : r.find? (·.key.isStr y) with
        | some e' => exact ⟨e', rfl⟩
        | none =>
          rw [z] at h1 h2
          simp only at h1 h2
          split at h1
          · simp at h1
          · rename_i hh; rw [if_neg hh] at h2; exact absurd rfl h2
      obtain ⟨e', z⟩ := this
      have hg : getL y r = some (some e'.val) := by unfold getL; rw [z]
      simp only [List.length_cons]
      rw [putL_same (es := r) (by rw [hg]; rfl) (by rw [hg]; simp)]
theorem putL_same1 {y : Str} {v k u : Value} {hs : Int} {es : List DictEntry} {n : Nat} (h : getL y es = some (some u)) (hn : es.length ≤ n) : (putL y hs k v es).length ≤ n :=
  Nat.le_trans (Nat.le_of_eq (putL_same (by rw [h]; rfl) (by rw [h]; exact fun q => nomatch q))) hn
theorem BoxD.setTop {es : List DictEntry} {N T T' : Int} {l gl : Addr} {w : World} {t t' : Tok} (d : BoxD es N T l gl) : BoxD (setE w "top" t (.int T' t') es) N T' l gl :=
  ⟨d.top.elim fun _ h => putL_same1 h d.len, ⟨t', getL_eq⟩, d.nu.imp fun _ h => getL_ne (by decide) h, getL_ne (by decide) d.ls, getL_ne (by decide) d.gn, getL_ne (by decide) d.um⟩
theorem offs_one {h P : Heap} {dx : Addr} {o : Obj} (hd : h.get? dx = some o) (hP : P.get? dx = none) : ∀ p ∈ [(dx, o)], h.get? p.1 = some p.2 ∧ (offs h [dx]).get? p.1 = none ∧ P.get? p.1 = none := fun p hp => by
  rw [List.mem_singleton.mp hp]
  exact ⟨hd, by rw [get_offs, if_pos (List.mem_singleton.mpr rfl)], hP⟩
theorem nodup_one {a : Addr} {o : Obj} : (([(a, o)] : List (Addr × Obj)).map (·.1)).Nodup := List.nodup_cons.mpr ⟨(fun h => nomatch h), .nil⟩
theorem raised {prog : Program} {w : World} {A : Around} {E : Value → Shared → Prop} {P : Heap} {s : Shared} {n n₀ : Nat} {b dx l gl : Addr} {es : List DictEntry} {N T : Int} {Q : Value → Shared → Prop}
    (ao : Ao A (n + 1)) (C : Cx KK w P) (hP : Sub P s.heap) (hb : P.get? b = some (instObj 151 dx)) (hd : s.heap.get? dx = some (dictOf es n₀)) (hdP : P.get? dx = none) (bd : BoxD es N T l gl)
    (k : ∀ t es' n' s' P', GrowX [dx] P s P' s' → s'.heap.get? dx = some (dictOf es' n') → BoxD es' N (T + 1) l gl → Q (.int (T + 1) t) s') :
    wpAny (model prog w) A (call (.ref 176) [.ref b]) Q E s := by
  refine' X.enter ["box"] [] [] (H := offs s.heap [dx]) (mt := [(dx, dictOf es n₀)]) ?ho ?hcd ?hb rfl ?hf ?hn ?hg ao C hP (offs_sub _ _) ?_ nodup_one ?_
  case ho => rfl
  case hcd => kernel_rfl!
  case hb => rfl
  case hf => kernel_rfl!
  case hn => kernel_rfl!
  case hg => kernel_rfl!
  · exact offs_one hd hdP
  intro c s₁ ao S
  obtain ⟨t₁, ht₁⟩ := bd.top
  have hbS : ∀ {vs news P₀}, Sub P P₀ → Held c vs news P₀ fun h => h.get? b = some (instObj 151 dx) := fun {vs news P₀} k => .ofP (fun _ _ k x => k _ _ x) (k _ _ hb)
  refine X.setAttr (dx := dx) (es := es) (n := n₀) 0 (.add (.toI (.attr (.name 0 rfl rfl) (fun P₀ s₀ q S₀ => ⟨dx, n₀, hbS (.refl _) P₀ s₀ q S₀, S₀.get (.head _)⟩) (ok_box_top w) ht₁ rfl)) .int) mono_I (.name 0 rfl rfl) S (hbS (.refl _)) (set_box_top w) (by rw [ht₁]; rfl) rfl (Nat.le_trans bd.len (by decide)) ?_
  rintro P₁ _ t₂ s₂ hP₁ ⟨t₃, rfl⟩ S
  have bd' : BoxD (setE w "top" t₂ (.int (T + 1) t₃) es) N (T + 1) l gl := bd.setTop
  refine X.retV (.attr (v := .int (T + 1) t₃) (.name 0 rfl rfl) (fun P₀ s₀ q S₀ => ⟨dx, _, hbS hP₁ P₀ s₀ q S₀, S₀.get (.head _)⟩) (ok_box_top w) getL_eq rfl) S fun P₂ s₃ hP₂ S => k _ _ _ _ _ (S.growX rfl fun a ha => by rw [List.mem_singleton.mp ha]; exact ⟨.head _, hdP⟩) (S.get (.head _)) bd'
end Mine

end PartR10
section PartR11
open PySem PySem.W PySem.Spec PySem.Calls PyProof.Rows
set_option Elab.async false
set_option linter.unusedVariables false
set_option maxRecDepth 100000
namespace Mine
inductive FtJ (a : Option Value) (D : Addr) : List (Option Value) → List (Addr × Obj) → Prop
  | mk : FtJ a D [a, some (.ref D), none, none] [(D, W.listOf ([] : List Value).toArray 0)]
theorem flag_tuple {prog : Program} {w : World} {A : Around} {E : Value → Shared → Prop} {P : Heap} {s : Shared} {n : Nat} {l : Addr} {Q : Value → Shared → Prop}
    (ao : Ao A (n + 1)) (C : Cx KK w P) (hP : Sub P s.heap) (hl : P.IsList l #[])
    (k : ∀ T s' P', Grow P s P' s' → IsTup P' T #[] → Q (.ref T) s') :
    wpAny (model prog w) A (call (.ref 82) [.ref l]) Q E s := by
  refine' X.enter ["flags"] ["found", "text", "name"] [("tuple", .type "tuple"), ("sorted", .builtin "sorted")] (H := s.heap) (mt := []) ?ho ?hcd ?hb rfl ?hf ?hn ?hg ao C hP (.refl _) (fun _ h => nomatch h) .nil ?_
  case ho => rfl
  case hcd => kernel_rfl!
  case hb => rfl
  case hf => kernel_rfl!
  case hn => kernel_rfl!
  case hg => kernel_rfl!
  intro c s₁ ao S
  refine X.newList 1 S rfl rfl fun D s₂ S => ?_
  refine X.forV (.name 0 rfl rfl) S fun P₁ s₃ hP₁ S => ?_
  refine X.forN (n := 0) (Pv := fun i v => ([] : List Value)[i]? = some v) 2 rfl (IterTo.listL (items := []) c.hA (S.lst (lst_mono _ _ hP₁ hl))) S (fun b hb => by rw [List.mem_singleton.mp hb]; obtain ⟨o, e, _⟩ := lst_mono _ _ hP₁ hl; exact .inl ⟨o, e⟩)
    (fun i vs news P => FtJ (some (.ref l)) D vs news) (fun _ _ _ _ h => h.casesOn rfl) .mk (fun i _ _ _ _ _ _ _ _ hi => absurd hi (Nat.not_lt_zero _)) ?_
  intro s₄ vs₁ ns₁ P₂ hP₂ hj
  refine hj.casesOn fun S => ?_
  refine X.ret (.tupleG (F := fun _ z => z = []) (fun _ _ _ _ h => h) (.glob 0 rfl) (.bcall1 (R₁ := IsV (.ref D)) (.glob 1 rfl) (.name 1 rfl rfl) ?_)) S ?_
  · rintro P₀ _ s₅ Q hP₀ S rfl k
    refine q_sortedNil S ⟨_, S.get (.head _), rfl, _, rfl⟩ fun r nn s' S' => S'.sealNew.casesOn fun P' h1 h2 h3 =>
      k _ _ P' h1 h3 (.mk r [] ⟨_, h2, rfl, nn, rfl⟩ (Nat.zero_le _) rfl)
  · intro P₃ v s₅ hP₃ x
    refine x.casesOn fun T items hT e S => k _ _ _ (S.grow rfl) ?_
    rw [e] at hT
    exact hT
end Mine

end PartR11
section PartR12
open PySem PySem.W PySem.Spec PySem.Calls PyProof.Rows
set_option Elab.async false
set_option linter.unusedVariables false
set_option maxRecDepth 100000
namespace Mine
theorem units_make (C : Addr) (vals : List Value) : (Code.builtin "type.__call__" ⟨.ref C :: vals, []⟩).cUnits = 1 := by kernel_rfl
theorem Ao.under {A : Around} {n : Nat} (a : Ao A (n + 1)) (C : Addr) (vals : List Value) : Ao (A.under (.builtin "type.__call__" ⟨.ref C :: vals, []⟩)) n :=
  ⟨a.handled, by have := a.depth; show A.depth + 1 + n < _; lia, by have := a.units; show A.units + (Code.builtin "type.__call__" ⟨.ref C :: vals, []⟩).cUnits + 64 * n < _; rw [units_make]; lia⟩
section
variable {K : Params → Frag} {w : World} {P : Heap} {s : Shared} {prog : Program}
theorem X.enterA {f : Addr} {n : Nat} {oc : Value} {od : Option Addr} {name qual : Str} {params : Arguments} {body : List Stmt} {scope : Scope} {dV kV doc pm cdv ct : Value} {an : Option Addr} {osl : Array (Option Value)}
    {args : List Value} {R : Result → Shared → Prop} {A : Around} {H : Heap} {mt : List (Addr × Obj)} (pn rest : List Str) (gv : List (Str × Value))
    (ho : (K w.params).lookup f = some ⟨oc, od, .func (fnX name qual params body scope [] dV kV doc pm an cdv ct), osl⟩)
    (hcd : codeIn (K w.params) cdv qual = true) (hbind : bindArgs (fnX name qual params body scope [] dV kV doc pm an cdv ct) ⟨args, []⟩ = pure (pn.zip args)) (hlen : pn.length = args.length)
    (hf : fnOk scope = true) (hn : nsOk scope (pn ++ rest) = true) (hg : glOk (K w.params) scope gv = true)
    (ao : Ao A (n + 1)) (C : Cx K w P) (hP : Sub P s.heap) (hH : Sub H s.heap)
    (hm : ∀ p ∈ mt, s.heap.get? p.1 = some p.2 ∧ H.get? p.1 = none ∧ P.get? p.1 = none) (hnd : (mt.map (·.1)).Nodup)
    (h : ∀ (c : Ct K w ⟨s, H, P⟩ ⟨pn ++ rest, gv, []⟩) s₁, Ao c.A n → Sc c (args.map some ++ rest.map fun _ => none) mt P s₁ → Go prog c body (RP fun v s' => R (.ok (.ret v)) s') s₁) :
    codeAny (model prog w) A (.call (.ref f) ⟨args, []⟩) R s :=
  q_enterA ho hcd hbind hlen hf hn hg rfl rfl ao C hP hH hm hnd fun env L A' s₁ V ao S => h ⟨env, A', L, V, ao.handled⟩ s₁ ao S
end
theorem make_letter_ok (w : World) : makeOk (KK w.params) 113 96 = true := by kernel_rfl!
theorem set_letter_uid (w : World) : setOk (KK w.params) 113 "uid" = true := by kernel_rfl!
theorem set_letter_octets (w : World) : setOk (KK w.params) 113 "octets" = true := by kernel_rfl!
theorem set_letter_flags (w : World) : setOk (KK w.params) 113 "flags" = true := by kernel_rfl!
theorem set_letter_instant (w : World) : setOk (KK w.params) 113 "instant" = true := by kernel_rfl!
theorem set_letter_modseq (w : World) : setOk (KK w.params) 113 "modseq" = true := by kernel_rfl!
end Mine

end PartR12
section PartR13
open PySem PySem.W PySem.Spec PySem.Calls PyProof.Rows
set_option Elab.async false
set_option linter.unusedVariables false
set_option maxRecDepth 100000
namespace Mine
structure LetD (es : List DictEntry) (n : Nat) (o : Option Value) : Prop where
  free : ∀ y, (getL y es).isSome = true
  len : es.length ≤ n
  uid : getL "uid" es = some o
theorem LetD.nil {w : World} : LetD [] 0 none := ⟨fun _ => rfl, Nat.le_refl _, rfl⟩
theorem LetD.put {w : World} {es : List DictEntry} {n : Nat} {o o' : Option Value} {y : Str} {t' : Tok} {v : Value} (d : LetD es n o) (h : getL "uid" (setE w y t' v es) = some o') : LetD (setE w y t' v es) (n + 1) o' where
  free := fun z => by
    by_cases q : z = y
    · rw [q, getL_eq]; rfl
    · rw [getL_ne q rfl]; exact d.free z
  len := Nat.le_trans (putL_len _) (Nat.succ_le_succ d.len)
  uid := h
theorem LetD.uid' {w : World} {es : List DictEntry} {n : Nat} {o : Option Value} {t' : Tok} {v : Value} (d : LetD es n o) : LetD (setE w "uid" t' v es) (n + 1) (some v) := d.put getL_eq
theorem LetD.more {w : World} {es : List DictEntry} {n : Nat} {o : Option Value} {y : Str} {t' : Tok} {v : Value} (d : LetD es n o) (h : ¬ ("uid" : Str) = y) : LetD (setE w y t' v es) (n + 1) o := d.put (getL_ne h d.uid)
theorem letter_new {prog : Program} {w : World} {A : Around} {E : Value → Shared → Prop} {g : Gh} {P : Heap} {L : Addr} {m : Str → Option Value} {news : List (Addr × Obj)} {s : Shared} {n : Nat} {T : Addr} {u : Int} {t : Tok} {oct ins ms : Value} {Q : Value → Shared → Prop}
    (ao : Ao A (n + 2)) (S : St KK w g P L s m news) (hT : IsTup P T #[])
    (k : ∀ x es s' P', Sub P P' → St KK w g P' L s' m news → Inst P' x 113 es → getL "uid" es = some (some (.int u t)) → Q (.ref x) s') :
    wpAny (model prog w) A (call (.ref 113) [.int u t, oct, .ref T, ins, ms]) Q E s := by
  refine q_make S (make_letter_ok w) fun x dx s₁ P₁ hP hx S₁ => ?_
  have hdP := (S₁.led _ (.head _)).2.2.2
  refine' X.enterA ["self", "uid", "octets", "flags", "instant", "modseq"] [] [("tuple", .type "tuple")] (H := offs s₁.heap [dx]) (mt := [(dx, dictOf [] 0)]) ?ho ?hcd ?hb rfl ?hf ?hn ?hg (ao.under _ _) S₁.cx S₁.keep (offs_sub _ _) ?_ nodup_one ?_
  case ho => rfl
  case hcd => kernel_rfl!
  case hb => rfl
  case hf => kernel_rfl!
  case hn => kernel_rfl!
  case hg => kernel_rfl!
  · exact offs_one (S₁.get (.head _)) hdP
  intro c s₂ ao S
  have hbS : ∀ {vs news P₀}, Sub P₁ P₀ → Held c vs news P₀ fun h => h.get? x = some (instObj 113 dx) := fun {vs news P₀} k => .ofP (fun _ _ k x => k _ _ x) (k _ _ hx)
  refine X.setAttr (dx := dx) 0 (.name 1 rfl rfl) mono_V (.name 0 rfl rfl) S (hbS (.refl _)) (set_letter_uid w) rfl rfl (by decide) ?_
  rintro P₂ _ t₂ s₃ k₂ rfl S
  have F := (LetD.nil (w := w)).uid' (w := w) (t' := t₂) (v := .int u t)
  generalize setE w "uid" t₂ (.int u t) [] = e2 at S F
  refine X.setAttr (dx := dx) 0 (.name 2 rfl rfl) mono_V (.name 0 rfl rfl) S (hbS k₂) (set_letter_octets w) (F.free _) rfl (Nat.le_trans F.len (by decide)) ?_
  rintro P₃ v₃ t₃ s₄ k₃ r₃ S
  have k₃ := k₂.trans k₃
  have F := F.more (w := w) (y := "octets") (t' := t₃) (v := v₃) (by decide)
  generalize setE w "octets" t₃ _ e2 = e3 at S F
  refine X.setAttr (dx := dx) 0 (R := IsV (.ref T)) (.tcall1 (R₁ := IsV (.ref T)) (.glob 0 rfl) (.name 3 rfl rfl) fun P₀ _ s₀ Q h₀ S r k => by subst r; exact q_tupleSame (hT.keeps ((hP.trans (k₃.trans h₀)).trans S.keep)) (k _ _ _ (.refl _) S rfl)) mono_V (.name 0 rfl rfl) S (hbS k₃) (set_letter_flags w) (F.free _) rfl (Nat.le_trans F.len (by decide)) ?_
  rintro P₄ v₄ t₄ s₅ k₄ r₄ S
  have k₄ := k₃.trans k₄
  have F := F.more (w := w) (y := "flags") (t' := t₄) (v := v₄) (by decide)
  generalize setE w "flags" t₄ _ e3 = e4 at S F
  refine X.setAttr (dx := dx) 0 (.name 4 rfl rfl) mono_V (.name 0 rfl rfl) S (hbS k₄) (set_letter_instant w) (F.free _) rfl (Nat.le_trans F.len (by decide)) ?_
  rintro P₅ v₅ t₅ s₆ k₅ r₅ S
  have k₅ := k₄.trans k₅
  have F := F.more (w := w) (y := "instant") (t' := t₅) (v := v₅) (by decide)
  generalize setE w "instant" t₅ _ e4 = e5 at S F
  refine X.setAttr (dx := dx) 0 (.name 5 rfl rfl) mono_V (.name 0 rfl rfl) S (hbS k₅) (set_letter_modseq w) (F.free _) rfl (Nat.le_trans F.len (by decide)) ?_
  rintro P₆ v₆ t₆ s₇ k₆ r₆ S
  have k₆ := k₅.trans k₆
  have F := F.more (w := w) (y := "modseq") (t' := t₆) (v := v₆) (by decide)
  generalize setE w "modseq" t₆ _ e5 = e6 at S F
  refine X.nil ⟨rfl, ?_⟩
  have G := S.growX (ex := [dx]) rfl fun a ha => by rw [List.mem_singleton.mp ha]; exact ⟨.head _, hdP⟩
  have D := S.get (.head _)
  have S₂ := S₁.afterHd G D
  exact S₂.sealNew.casesOn fun P₇ k₇ hd S₃ => k x e6 _ P₇ (hP.trans (k₆.trans k₇)) S₃ ⟨dx, _, k₇ _ _ (k₆ _ _ hx), hd⟩ F.uid
end Mine

end PartR13
section PartR14
open PySem PySem.W PySem.Spec PySem.Calls PyProof.Rows
set_option Elab.async false
set_option linter.unusedVariables false
set_option maxRecDepth 100000
namespace Mine
section
variable {prog : Program} {K : Params → Frag} {w : World} {g : Gh} {sg : Sg} {c : Ct K w g sg}
variable {vs : List (Option Value)} {news : List (Addr × Obj)} {P : Heap} {s : Shared} {name : Str} {pos pos' lp : Pos} {e e₁ : Expr} {rest : List Stmt} {R : Heap → Value → Prop} {Q : Flow → Shared → Prop}
theorem X.setAttrNew {b C dx : Addr} {es : List DictEntry} {n : Nat} (j : Nat) (ho : ∀ D, Gives prog c vs ((D, W.listOf ([] : List Value).toArray 0) :: news) P e₁ (IsV (.ref b))) (S : Sc c vs news P s) (hb : ∀ news, Held c vs news P fun h => h.get? b = some (instObj C dx)) (ok : setOk (K w.params) C name = true)
    (hl : (getL name es).isSome = true) (hj : news[j]? = some (dx, dictOf es n)) (hz : es.length ≤ 999)
    (k : ∀ P' D t s', Sub P P' → Sc c vs ((D, W.listOf ([] : List Value).toArray 0) :: news.set j (dx, dictOf (setE w name t (.ref D) es) (putN name es n))) P' s' → Go prog c rest Q s')
    (hs : swapsWith (.List [] lp) (some (.Attribute e₁ name pos')) pos.line c.env = pure false := by rfl) : Go prog c (.Assign [.Attribute e₁ name pos'] (.List [] lp) pos :: rest) Q s :=
  Go.cons (plainObj_wpAny_Assign_Attribute (List_ (args_nil (q_newList S (fun D s₁ S₁ => (ho D).bindV (.refl _) S₁ fun P₂ s₂ k₂ S₂ =>
    q_setAttr (upd := fun t => (D, W.listOf ([] : List Value).toArray 0) :: news.set j (dx, dictOf (setE w name t (.ref D) es) (putN name es n))) S₂ (hb _ _ _ k₂ S₂) ok hl (fun t => .there (LUpd.at j hj)) (fun t => Nat.le_trans (putL_len _) (by lia)) fun t s₃ S₃ =>
      k P₂ D t s₃ k₂ S₃) (Nat.zero_le _)))) hs)
end
end Mine

end PartR14
section PartBaseAC
open PySem PySem.W PySem.Spec PySem.Calls PyProof.Rows
set_option Elab.async false
set_option linter.unusedVariables false
namespace Mine
section
variable {prog : Program} {K : Params → Frag} {w : World} {g : Gh} {sg : Sg} {c : Ct K w g sg} {fx fy : Str} {fp fq : Pos}
variable {vs : List (Option Value)} {news : List (Addr × Obj)} {P P₀ : Heap} {s : Shared} {y : Str} {pos pos' lp : Pos} {e e₁ e₂ e₃ elt : Expr} {rest : List Stmt} {Q : Flow → Shared → Prop} {v : Value}
variable {oc : Option Str} {ifs : List Expr} {scope : Scope} {cpos tp : Pos} {ns' : List Str} {gv' : List (Str × Value)} {cv' : List (Str × Addr)} {J : Nat → List Value → Heap → Prop} {x1 x2 : Expr} {kk : Nat}
/-- what enumerate gives of ints -/
inductive EnumV (xs : List Int) (i : Nat) (h : Heap) : Value → Prop
  | mk (T t u t') : xs[i]? = some u → IsTup h T #[.int i t, .int u t'] → EnumV xs i h (.ref T)
noncomputable abbrev EnumI (xs : List Int) (i : Nat) (v : Value) (h : Heap) : Prop := EnumV xs i h v
theorem St.adds {L : Addr} {m : Str → Option Value} {own : List (Addr × Obj)} {h' : Heap} {t : Nat} (S : St K w g P L s m news) (up : Sub s.heap h') (ho : ∀ p ∈ own, h'.get? p.1 = some p.2 ∧ s.heap.get? p.1 = none) (hn : (own.map (·.1)).Nodup) : St K w g P L { s with heap := h', toks := t } m (news ++ own) :=
  S.move (ex := []) (S.ns.keeps up) (fun _ _ _ _ e => up _ _ e) (fun _ h => nomatch h) (fun p hp => (List.mem_append.mp hp).elim (fun h => ⟨up _ _ (S.led p h).1, .inl (List.mem_map_of_mem h)⟩) fun h => ⟨(ho p h).1, .inr (ho p h).2⟩) (by
    rw [List.map_append]
    refine List.nodup_append.mpr ⟨S.nd, hn, fun a ha b hb e => ?_⟩
    obtain ⟨p, hp, rfl⟩ := List.mem_map.mp hb
    exact (S.ledAt ha).ex.elim fun _ q => no_none (ho p hp).2 (e ▸ q))
theorem KTurns.weaken {prog : Program} {w : World} {A : Around} {target : Expr} {I : Addr} {fp wr : List Addr} {n : Nat} {P₁ P₂ Md : Nat → Value → Heap → Prop} {St : Nat → Heap → Prop} (k : KTurns prog w A target I fp wr n P₁ Md St) (h : ∀ i v h, P₁ i v h → P₂ i v h) : KTurns prog w A target I fp wr n P₂ Md St :=
  ⟨k.sub, k.frame, k.item, fun i v s Q E m hQ => k.go i v s Q E m fun h' p => hQ h' (h _ _ _ p), k.done⟩
theorem X.assignEnum {py : Pos} {xs : List Int} (ix : Nat) (hf : Gives prog c vs news P (.Name fx fp) (IsV (.type "enumerate"))) (h₁ : Gives prog c vs news P e₁ (IntsL xs)) (S : Sc c vs news P s) (hx : sg.ns[ix]? = some y) (hl : vs.length = sg.ns.length) (hn : xs.length ≤ 1000000)
    (hfo : freeOk scope sg.cv = true) (hm : compNm scope = true) (hln : (py.line == cpos.line) = true) (hnc : (scope.names.any fun (n, k) => n == y && (k == .local || k == .cell)) = false)
    (hk : compOk (K w.params) scope ns' gv' = true) (hcl : closOf scope.names sg.cv = cv') (hch : cvChk scope oc (cv'.map (·.1)) (sg.cv.map (·.1)) = true)
    (hcs : ∀ n acc, cellsFrom n scope.names acc = cellsOc oc n acc) (hps : ∀ h, pushCells h scope.names = pushOc oc h)
    (h0 : ∀ P', Sub P P' → J 0 [] P') (turn : Turn prog c vs news P oc elt (.Tuple [x1, x2] kk tp) ifs ns' gv' cv' xs.length (EnumI xs) J)
    (fin : ∀ P' v s', Sub P P' → Made (J xs.length) P' v → (let V := vs.set ix (some v); Sc c V news P' s' → Go prog c rest Q s'))
    (hs : ∀ x, foldedSetIterable (.Call (.Name fx fp) [e₁] [] lp) c.env x = pure x := by intro _; rfl) 
    (h1 : isStarred e₁ = false := by rfl)
    :
    Go prog c (.Assign [.Name y py] (.ListComp elt [⟨.Tuple [x1, x2] kk tp, .Call (.Name fx fp) [e₁] [] lp, ifs, 0⟩] scope cpos) pos :: rest) Q s :=
  Go.cons (q_AssignComp c.V (List.mem_of_getElem? hx) hfo hm hln hnc (Call_ (hf.bindV (.refl _) S fun P₁ s₁ k₁ S₁ => by
    refine callWith_type1 (args_cons (h₁.bind k₁ S₁ fun P₂ v₂ s₂ k₂ S₂ x => args_nil ?_) (star h1)) (star h1)
    refine x.casesOn fun l its k' hl' hi => ?_
    replace k₁ := k₁.trans k₂
    have hL : s₂.heap.IsList l its.toArray := ⟨_, S₂.keep _ _ hl', rfl, k', rfl⟩
    have hll : l < s₂.heap.objs.size := Heap.lt_size (S₂.keep _ _ hl')
    refine call_enumerate_list hL fun h' he' hit hsz up => ?_
    obtain ⟨oi, hoi, r1⟩ := id hit
    have S₃ : St K w g P₂ c.L { s₂ with heap := h' } (vec sg.ns vs) (news ++ [(s₂.heap.objs.size + 1, _), (s₂.heap.objs.size, oi)]) := S₂.adds (t := s₂.toks) up
      (List.forall_mem_cons.mpr ⟨⟨he', none_at (Nat.le_succ _)⟩, List.forall_mem_singleton.mpr ⟨hoi, none_at (Nat.le_refl _)⟩⟩) (List.nodup_cons.mpr ⟨fun h => Nat.succ_ne_self _ (List.mem_singleton.mp h), nodup_one⟩)
    have W := (WalksT.enumerate (prog := prog) (w := w) c.hA (s₂.heap.objs.size + 1) s₂.heap.objs.size l (Nat.succ_ne_self _) (Nat.ne_of_lt (Nat.lt_succ_of_lt hll)) (Nat.ne_of_lt hll) its.toArray).toU
    have hst : (∃ old, IsEnum h' (s₂.heap.objs.size + 1) s₂.heap.objs.size (0 : Nat) old) ∧ h'.IsListIter s₂.heap.objs.size l 0 ∧ h'.IsList l its.toArray := ⟨⟨_, he'⟩, hit, (let ⟨o, e, r⟩ := hL; ⟨o, up _ _ e, r⟩)⟩
    rw [show its.toArray.size = xs.length from hi.length] at W
    have hoa : ∀ b ∈ [s₂.heap.objs.size + 1, s₂.heap.objs.size], s₂.heap.get? b = none := List.forall_mem_cons.mpr ⟨none_at (Nat.le_succ _), List.forall_mem_singleton.mpr (none_at (Nat.le_refl _))⟩
    refine wpAny_pyIter_enum he' ?_
    refine q_compU (Q := JP prog c rest Q) (upd := fun v => vs.set ix (some v)) c.V S₃ rfl hn ⟨_, _, KTurns.weaken (P₂ := EnumI xs) (KTurns.ofWalksU W) ?_, ?_, ?_⟩ hst (fun s Q E st hQ => W.self 0 s Q E st hQ)
      hk hcl hch hcs hps J (h0 P₂ k₁) (turn1 S₂ k₁ turn ⟨_, _, P₂⟩ (fun b o e => offOa_get (up b o e) fun q => no_none (hoa _ q) e) rfl) (fun v => vec_set ix hx hl) fun s₅ Pa Pb D ys k h1 h2 hJ hyl hD S₅ => fin Pb _ s₅ (k₁.trans h1) (.mk D ys k Pa hD h2 hJ) S₅
    · rintro i v h ⟨T, vals, rfl, ⟨t, x, hx, rfl⟩, hT⟩
      have hx' : its[i]? = some x := List.getElem?_toArray.symm.trans hx
      have hlt : i < xs.length := hi.length ▸ (List.getElem?_eq_some_iff.mp hx').1
      obtain ⟨t', e⟩ := hi.get i xs[i] (List.getElem?_eq_getElem hlt)
      obtain rfl := some_eq e hx'
      exact .mk T t _ t' (List.getElem?_eq_getElem hlt) hT
    · exact List.forall_mem_cons.mpr ⟨.inl (.head _), List.forall_mem_cons.mpr ⟨.inl (.tail _ (.head _)), List.forall_mem_singleton.mpr (.inr (.inl ⟨_, hl'⟩))⟩⟩
    · rintro i h ⟨⟨old, a⟩, ⟨o, e2, -⟩, -⟩
      exact List.forall_mem_cons.mpr ⟨⟨_, a⟩, List.forall_mem_singleton.mpr ⟨_, e2⟩⟩)) hs)
end
end Mine

end PartBaseAC
section PartR15
open PySem PySem.W PySem.Spec PySem.Calls PyProof.Rows
set_option Elab.async false
set_option linter.unusedVariables false
set_option maxRecDepth 100000
namespace Mine
/-- entries, told by name -/
structure Ent (es : List DictEntry) (n : Nat) (f : Str → Option Value) : Prop where
  get : ∀ y, getL y es = some (f y)
  len : es.length ≤ n
theorem Ent.nil : Ent [] 0 fun _ => none := ⟨fun _ => rfl, Nat.le_refl _⟩
theorem Ent.put {w : World} {es : List DictEntry} {n : Nat} {f : Str → Option Value} {y : Str} {t : Tok} {v : Value} (d : Ent es n f) : Ent (setE w y t v es) (n + 1) fun z => if z = y then some v else f z :=
  ⟨fun z => by by_cases h : z = y
               · rw [if_pos h, h]; exact getL_eq
               · rw [if_neg h]; exact getL_ne h (d.get z), Nat.le_trans (putL_len _) (Nat.succ_le_succ d.len)⟩
theorem Ent.free {es : List DictEntry} {n : Nat} {f : Str → Option Value} (d : Ent es n f) {y : Str} : (getL y es).isSome = true := by rw [d.get]; rfl
theorem make_box_ok (w : World) : makeOk (KK w.params) 151 131 = true := by kernel_rfl!
theorem set_box (w : World) : (["name", "validity", "next_uid", "top", "floor", "letters", "gone"] : List Str).all (fun x => setOk (KK w.params) 151 x) = true := by kernel_rfl!
theorem set_box_at {w : World} (i : Nat) {x : Str} (h : (["name", "validity", "next_uid", "top", "floor", "letters", "gone"] : List Str)[i]? = some x) : setOk (KK w.params) 151 x = true := List.all_eq_true.mp (set_box w) _ (List.mem_of_getElem? h)

theorem box_new {prog : Program} {w : World} {A : Around} {E : Value → Shared → Prop} {g : Gh} {P : Heap} {L : Addr} {m : Str → Option Value} {news : List (Addr × Obj)} {s : Shared} {n : Nat} {nm vd : Value} {Q : Value → Shared → Prop}
    (ao : Ao A (n + 2)) (S : St KK w g P L s m news)
    (k : ∀ b dx es n₀ l gl s' P', Sub P P' → St KK w g P' L s' m ((l, W.listOf ([] : List Value).toArray 0) :: (dx, dictOf es n₀) :: news) → P'.get? b = some (instObj 151 dx) → P'.get? gl = some (W.listOf ([] : List Value).toArray 0) → BoxD es 1 1 l gl → Q (.ref b) s') :
    wpAny (model prog w) A (call (.ref 151) [nm, vd]) Q E s := by
  refine q_make S (make_box_ok w) fun x dx s₁ P₁ hP hx S₁ => ?_
  have hdP := (S₁.led _ (.head _)).2.2.2
  refine' X.enterA ["self", "name", "validity"] [] [] (H := offs s₁.heap [dx]) (mt := [(dx, dictOf [] 0)]) ?ho ?hcd ?hb rfl ?hf ?hn ?hg (ao.under _ _) S₁.cx S₁.keep (offs_sub _ _) ?_ nodup_one ?_
  case ho => rfl
  case hcd => kernel_rfl!
  case hb => rfl
  case hf => kernel_rfl!
  case hn => kernel_rfl!
  case hg => kernel_rfl!
  · exact offs_one (S₁.get (.head _)) hdP
  intro c s₂ ao S
  have hbS : ∀ {vs news P₀}, Sub P₁ P₀ → Held c vs news P₀ fun h => h.get? x = some (instObj 151 dx) := fun {vs news P₀} k => .ofP (fun _ _ k x => k _ _ x) (k _ _ hx)
  have F := Ent.nil
  refine X.setAttr (dx := dx) 0 (.name 1 rfl rfl) mono_V (.name 0 rfl rfl) S (hbS (.refl _)) (set_box_at 0 rfl) F.free rfl (Nat.le_trans F.len (by decide)) ?_
  rintro P₂ v2 t₂ s₃ k₂ - S
  replace F := F.put (w := w) (y := "name") (t := t₂) (v := v2)
  generalize setE w "name" t₂ v2 [] = e2 at S F
  refine X.setAttr (dx := dx) 0 (.name 2 rfl rfl) mono_V (.name 0 rfl rfl) S (hbS k₂) (set_box_at 1 rfl) F.free rfl (Nat.le_trans F.len (by decide)) ?_
  rintro P₃ v3 t₃ s₄ k₃ - S
  replace k₃ := k₂.trans k₃
  replace F := F.put (w := w) (y := "validity") (t := t₃) (v := v3)
  generalize setE w "validity" t₃ v3 e2 = e3 at S F
  refine X.setAttr (dx := dx) 0 .int mono_I (.name 0 rfl rfl) S (hbS k₃) (set_box_at 2 rfl) F.free rfl (Nat.le_trans F.len (by decide)) ?_
  rintro P₄ _ t₄ s₅ k₄ ⟨tu, rfl⟩ S
  replace k₄ := k₃.trans k₄
  replace F := F.put (w := w) (y := "next_uid") (t := t₄) (v := .int 1 tu)
  generalize setE w "next_uid" t₄ _ e3 = e4 at S F
  refine X.setAttr (dx := dx) 0 .int mono_I (.name 0 rfl rfl) S (hbS k₄) (set_box_at 3 rfl) F.free rfl (Nat.le_trans F.len (by decide)) ?_
  rintro P₅ _ t₅ s₆ k₅ ⟨tt, rfl⟩ S
  replace k₅ := k₄.trans k₅
  replace F := F.put (w := w) (y := "top") (t := t₅) (v := .int 1 tt)
  generalize setE w "top" t₅ _ e4 = e5 at S F
  refine X.setAttr (dx := dx) 0 .int mono_I (.name 0 rfl rfl) S (hbS k₅) (set_box_at 4 rfl) F.free rfl (Nat.le_trans F.len (by decide)) ?_
  rintro P₆ v6 t₆ s₇ k₆ - S
  replace k₆ := k₅.trans k₆
  replace F := F.put (w := w) (y := "floor") (t := t₆) (v := v6)
  generalize setE w "floor" t₆ v6 e5 = e6 at S F
  refine X.setAttrNew (dx := dx) 0 (fun D => .name 0 rfl rfl) S (fun news => hbS k₆) (set_box_at 5 rfl) F.free rfl (Nat.le_trans F.len (by decide)) ?_
  rintro P₇ l t₇ s₈ k₇ S
  replace k₇ := k₆.trans k₇
  replace F := F.put (w := w) (y := "letters") (t := t₇) (v := .ref l)
  generalize setE w "letters" t₇ _ e6 = e7 at S F
  refine X.setAttr (dx := dx) 1 .newNil (fun _ _ _ k x => x.casesOn fun r b => .mk r (k _ _ b)) (.name 0 rfl rfl) S (hbS k₇) (set_box_at 6 rfl) F.free rfl (Nat.le_trans F.len (by decide)) ?_
  intro P₈ v₈ t₈ s₉ k₈ x₈
  refine x₈.casesOn fun gl hgl S => ?_
  replace k₈ := k₇.trans k₈
  replace F := F.put (w := w) (y := "gone") (t := t₈) (v := .ref gl)
  generalize setE w "gone" t₈ _ e7 = e8 at S F
  refine X.nil ⟨rfl, ?_⟩
  have G := S.growX (ex := [dx]) rfl fun a ha => by rw [List.mem_singleton.mp ha]; exact ⟨.tail _ (.head _), hdP⟩
  have D := S.get (.tail _ (.head _))
  have Z := S.led _ (.head _)
  have ne : l ∉ [dx] := fun q => (List.nodup_cons.mp S.nd).1 (List.mem_singleton.mp q ▸ .head _)
  have hl : s₁.heap.get? l = none := by
    have := Z.2.2.1
    rwa [get_offs, if_neg ne] at this
  have S₂ := S₁.also hl (S₁.afterHd G D) rfl Z.1 Z.2.2.2
  refine k x dx e8 _ l gl _ P₈ (hP.trans k₈) S₂ (k₈ _ _ hx) hgl ⟨Nat.le_trans F.len (by decide), ⟨tt, ?_⟩, ⟨tu, ?_⟩, ?_, ?_, ?_⟩ <;> exact F.get _
end Mine

end PartR15
section PartR16
open PySem PySem.W PySem.Spec PySem.Calls PyProof.Rows
set_option Elab.async false
set_option linter.unusedVariables false
set_option maxRecDepth 100000
namespace Mine
theorem BoxD.setNext {es : List DictEntry} {N N' T : Int} {l gl : Addr} {w : World} {t t' : Tok} (d : BoxD es N T l gl) : BoxD (setE w "next_uid" t (.int N' t') es) N' T l gl :=
  ⟨d.nu.elim fun _ h => putL_same1 h d.len, d.top.imp fun _ h => getL_ne (by decide) h, ⟨t', getL_eq⟩, getL_ne (by decide) d.ls, getL_ne (by decide) d.gn, getL_ne (by decide) d.um⟩
theorem add_letter {prog : Program} {w : World} {A : Around} {E : Value → Shared → Prop} {P : Heap} {s : Shared} {n n₀ c₀ : Nat} {b dx l gl fl : Addr} {es : List DictEntry} {items : List Value} {N T : Int} {oct ins : Value} {Q : Value → Shared → Prop}
    (ao : Ao A (n + 4)) (C : Cx KK w P) (hP : Sub P s.heap) (hb : P.get? b = some (instObj 151 dx)) (hd : s.heap.get? dx = some (dictOf es n₀)) (hdP : P.get? dx = none)
    (hl : s.heap.get? l = some (W.listOf items.toArray c₀)) (hlP : P.get? l = none) (ne : dx ≠ l) (bd : BoxD es N T l gl) (hz : items.length ≤ 999) (hfl : P.IsList fl #[])
    (k : ∀ v es' n' s' P', GrowX [dx, l] P s P' s' → s'.heap.get? dx = some (dictOf es' n') → s'.heap.get? l = some (W.listOf (items ++ [v]).toArray (c₀ + 1)) → BoxD es' (N + 1) (T + 1) l gl → LetterI P' N v → Q v s') :
    wpAny (model prog w) A (call (.ref 183) [.ref b, oct, .ref fl, ins]) Q E s := by
  refine' X.enter ["box", "octets", "flags", "instant"] ["names", "letter"] [("flag_tuple", .ref 82), ("Letter", .ref 113), ("raised", .ref 176)] (H := offs s.heap [dx, l]) (mt := [(dx, dictOf es n₀), (l, W.listOf items.toArray c₀)]) ?ho ?hcd ?hb rfl ?hf ?hn ?hg ao C hP (offs_sub _ _) ?_ (by simpa using ne) ?_
  case ho => rfl
  case hcd => kernel_rfl!
  case hb => rfl
  case hf => kernel_rfl!
  case hn => kernel_rfl!
  case hg => kernel_rfl!
  · exact List.forall_mem_cons.mpr ⟨⟨hd, by rw [get_offs, if_pos (.head _)], hdP⟩, List.forall_mem_singleton.mpr ⟨hl, by rw [get_offs, if_pos (.tail _ (.head _))], hlP⟩⟩
  intro c s₁ ao S
  have hbS : ∀ {vs news P₀}, Sub P P₀ → Held c vs news P₀ fun h => h.get? b = some (instObj 151 dx) := fun {vs news P₀} k => .ofP (fun _ _ k x => k _ _ x) (k _ _ hb)
  refine X.assign 4 (.dcall1 (R₁ := IsV (.ref fl)) (R := IsTupV []) (.glob 0 rfl) rfl (.name 2 rfl rfl) ?_) S rfl rfl ?_
  · rintro P₀ _ s₂ Q hP₀ S rfl k
    exact flag_tuple ao S.cx S.keep (lst_mono _ _ hP₀ hfl) fun T s' P' G hT => k _ s' P' G (.mk T hT)
  intro P₁ v₁ s₂ k₁ x₁
  refine x₁.casesOn ?_
  intro Tp hT V S
  obtain ⟨tu, hu⟩ := bd.nu
  refine Go.cons (wpAny_Assign_Name (Call_ ((Gives.glob (g := _) (c := c) (vs := _) (news := _) (P := P₁) 1 rfl).bindV (.refl _) S fun P₂ s₃ k₂ S => ?_)))
  refine q_callWith S (by kernel_rfl!) (args_cons ((Gives.attr (v := .int N tu) (.name 0 rfl rfl) (fun P₀ s₀ q S₀ => ⟨dx, n₀, hbS (k₁.trans k₂) P₀ s₀ q S₀, S₀.get (.head _)⟩) (ok_box_next w) hu rfl).bindV (.refl _) S fun P₃ s₄ k₃ S => ?_))
  refine args_cons ((Gives.name 1 rfl rfl).bindV (.refl _) S fun P₄ s₅ k₄ S => ?_)
  refine args_cons ((Gives.name 4 rfl rfl).bindV (.refl _) S fun P₅ s₆ k₅ S => ?_)
  refine args_cons ((Gives.name 3 rfl rfl).bindV (.refl _) S fun P₆ s₇ k₆ S => ?_)
  have q₆ := k₂.trans (k₃.trans (k₄.trans (k₅.trans k₆)))
  refine args_cons (Call_ ((Gives.glob (c := c) (P := P₆) 2 rfl).bindV (.refl _) S fun P₇ s₈ k₇ S => ?_))
  refine q_callWith S (by kernel_rfl!) (args_cons ((Gives.name 0 rfl rfl).bindV (.refl _) S fun P₈ s₉ k₈ S => args_nil ⟨S.kin, ?_⟩))
  have q₈ := q₆.trans (k₇.trans k₈)
  refine raised (l := l) (gl := gl) (n := n) (ao.dn (by decide)) S.cx S.keep (q₈ _ _ (k₁ _ _ hb)) (S.get (.head _)) (S.led _ (.head _)).2.2.2 bd fun tt es' n' s' P' G hd' bd' => ?_
  have S' := S.afterHd G hd'
  have q₉ := q₈.trans G.up
  refine args_nil ⟨S'.kin, ?_⟩
  refine letter_new (n := n) (ao.dn (by decide)) S' (hT.keeps q₉) fun x el s₁₀ P₁₀ k₁₀ S hI hg => ?_
  have q₁₀ := q₉.trans k₁₀
  refine q_store S c.V (vec_set 5 rfl rfl) fun s₁₁ S => ?_
  obtain ⟨tn, hn⟩ := bd'.nu
  refine X.setAttr (dx := dx) 0 (.add (.toI (.attr (.name 0 rfl rfl) (fun P₀ s₀ q S₀ => ⟨dx, _, hbS (k₁.trans q₁₀) P₀ s₀ q S₀, S₀.get (.head _)⟩) (ok_box_next w) hn rfl)) .int) mono_I (.name 0 rfl rfl) S (hbS (k₁.trans q₁₀)) (set_box_at 2 rfl) (by rw [hn]; rfl) rfl (Nat.le_trans bd'.len (by decide)) ?_
  rintro P₁₁ _ t₂ s₁₂ k₁₁ ⟨t₃, rfl⟩ S
  have bd₂ := bd'.setNext (w := w) (N' := N + 1) (t := t₂) (t' := t₃)
  refine X.appendV (its := items) (n := c₀) 1 (.attr (.name 0 rfl rfl) (fun P₀ s₀ q S₀ => ⟨dx, _, hbS (k₁.trans (q₁₀.trans k₁₁)) P₀ s₀ q S₀, S₀.get (.head _)⟩) (ok_box_letters w) bd₂.ls rfl) (.name 5 rfl rfl) S rfl (Nat.le_succ_of_le hz) ?_
  intro P₁₂ s₁₃ k₁₂ N S
  refine X.retV (.name 5 rfl rfl) S fun P₁₃ s₁₄ k₁₃ S => ?_
  exact k _ _ _ _ _ (S.growX rfl (List.forall_mem_cons.mpr ⟨⟨.head _, hdP⟩, List.forall_mem_singleton.mpr ⟨.tail _ (.head _), hlP⟩⟩)) (S.get (.head _)) (S.get (.tail _ (.head _))) bd₂ (.mk x el tu (hI.mono (k₁₁.trans (k₁₂.trans k₁₃))) hg)
end Mine

end PartR16
section PartR17
open PySem PySem.W PySem.Spec PySem.Calls PyProof.Rows
set_option Elab.async false
set_option linter.unusedVariables false
set_option maxRecDepth 100000
namespace Mine
theorem has_stored (kvs : List (Int × Value)) (k i : Int) (v : Value) : (valueAt (stored kvs k v) i).isSome = (decide (i = k) || (valueAt kvs i).isSome) := by
  rw [valueAt_isSome_eq_any, valueAt_isSome_eq_any]
  unfold stored
  split
  · rename_i h
    rw [List.any_map, Bool.eq_iff_iff]
    simp only [List.any_eq_true, Bool.or_eq_true, decide_eq_true_eq, Function.comp] at h ⊢
    obtain ⟨z, hz, hk⟩ := h
    constructor
    · rintro ⟨x, hx, e⟩
      refine .inr ⟨x, hx, ?_⟩
      split at e <;> simp_all
    · rintro (rfl | ⟨x, hx, e⟩)
      · exact ⟨z, hz, by split <;> simp_all⟩
      · exact ⟨x, hx, by split <;> simp_all⟩
  · rw [List.any_append, Bool.or_comm]
    congr 1
    simp only [List.any_cons, List.any_nil, Bool.or_false]
    rw [Bool.eq_iff_iff]
    simp only [decide_eq_true_eq]
    exact eq_comm
end Mine
namespace Mine
section
variable {prog : Program} {K : Params → Frag} {w : World} {g : Gh} {sg : Sg} {c : Ct K w g sg} {vs : List (Option Value)} {news : List (Addr × Obj)} {P : Heap} {e₁ e₂ : Expr}
theorem Gives.nameR {x : Str} {v : Value} {pos : Pos} {R : Heap → Value → Prop} (i : Nat) (hx : sg.ns[i]? = some x) (hv : vs[i]? = some (some v)) (m : Mono R) (r : R P v) : Gives prog c vs news P (.Name x pos) R := fun _ s hP S =>
  q_local (pos := pos) S c.V (vec_at i c.V.nd hx hv) (GP.here S (m _ _ _ hP r))
theorem Gives.cellR {x : Str} {v : Value} {pos : Pos} {R : Heap → Value → Prop} {cc : Addr} (i : Nat) (hx : sg.cv[i]? = some (x, cc)) (hc : Held c vs news P (fun h => h.IsCell cc (some v))) (m : Mono R) (r : R P v) : Gives prog c vs news P (.Name x pos) R := fun _ s hP S =>
  q_cell (pos := pos) c.V (List.mem_of_getElem? hx) (hc _ _ hP S) (GP.here S (m _ _ _ hP r))
theorem Gives.concat {a : Addr} {xs : List Value} {n₁ : Nat} {pos : Pos} {J : List Value → Heap → Prop} (h₁ : Gives prog c vs news P e₁ (IsV (.ref a))) (ha : P.get? a = some (W.listOf xs.toArray n₁)) (h₂ : Gives prog c vs news P e₂ (Made J)) (hJ : ∀ ys h, J ys h → xs.length + ys.length ≤ 1000) :
    Gives prog c vs news P (.BinOp e₁ .Add e₂ pos) (Made fun zs h => ∃ ys, zs = xs ++ ys ∧ J ys h) := fun P₀ s hP S =>
  wpAny_BinOp (h₁.bindV hP S fun P₁ s₁ k₁ S₁ => h₂.bind (hP.trans k₁) S₁ fun P₂ v₂ s₂ k₂ S₂ x => x.casesOn fun r ys kk P₃ hr k₃ j =>
    q_concat S₂ (S₂.keep _ _ (k₂ _ _ (k₁ _ _ (hP _ _ ha)))) (S₂.keep _ _ hr) (hJ _ _ j) fun D s' S' => S'.sealNew.casesOn fun P' h1 h2 h3 =>
      ⟨P', k₁.trans (k₂.trans h1), h3, .mk D _ 0 P₃ h2 (k₃.trans h1) ⟨ys, rfl, j⟩⟩)
theorem Cmps.inD {d : Addr} {o : Obj} {kvs : List (Int × Value)} {i : Int} (h₁ : Gives prog c vs news P e₁ (IsI i)) (h₂ : Gives prog c vs news P e₂ (IsV (.ref d))) (ho : Held c vs news P fun h => h.get? d = some o) (hd : o.IsDictOf (intKind prog w) kvs) (lo : (d == sysModules) = false) :
    Cmps prog c vs news P e₁ .In e₂ ((valueAt kvs i).isSome = true) := fun P₀ s Q hP S k => h₁.bindI hP S fun P₁ t s₁ k₁ S₁ => h₂.bindV (hP.trans k₁) S₁ fun P₂ s₂ k₂ S₂ =>
  q_dictIn S₂ (ho _ _ (hP.trans (k₁.trans k₂)) S₂) hd lo fun s' S' => k P₂ s' _ (k₁.trans k₂) S' Iff.rfl
theorem Cmps.notInD {d : Addr} {o : Obj} {kvs : List (Int × Value)} {i : Int} (h₁ : Gives prog c vs news P e₁ (IsI i)) (h₂ : Gives prog c vs news P e₂ (IsV (.ref d))) (ho : Held c vs news P fun h => h.get? d = some o) (hd : o.IsDictOf (intKind prog w) kvs) (lo : (d == sysModules) = false) :
    Cmps prog c vs news P e₁ .NotIn e₂ (¬ (valueAt kvs i).isSome = true) := fun P₀ s Q hP S k => h₁.bindI hP S fun P₁ t s₁ k₁ S₁ => h₂.bindV (hP.trans k₁) S₁ fun P₂ s₂ k₂ S₂ =>
  q_dictNotIn S₂ (ho _ _ (hP.trans (k₁.trans k₂)) S₂) hd lo fun s' S' => k P₂ s' _ (k₁.trans k₂) S' (by rw [Bool.not_eq_true', Bool.not_eq_true])
end
theorem St.afterAt {K : Params → Frag} {w : World} {g : Gh} {P P' : Heap} {L : Addr} {s s' : Shared} {m : Str → Option Value} {news : List (Addr × Obj)} {a : Addr} {o o' : Obj} (j : Nat) (S : St K w g P L s m news) (hj : news[j]? = some (a, o)) (G : GrowX [a] P s P' s') (h : s'.heap.get? a = some o') : St K w g P' L s' m (news.set j (a, o')) := by
  obtain ⟨r, h1, h2, h3, h4⟩ := (LUpd.at (o' := o') j hj).perm
  have S₁ := (S.less (fun p hp => (h1 p).mpr hp) (h3.nodup_iff.mp S.nd)).afterHd G h
  exact S₁.less (fun p hp => (h2 p).mp hp) (h4.nodup_iff.mpr S₁.nd)
theorem BoxD.setLetters {es : List DictEntry} {N T : Int} {l l' gl : Addr} {w : World} {t : Tok} (d : BoxD es N T l gl) : BoxD (setE w "letters" t (.ref l') es) N T l' gl :=
  ⟨putL_same1 d.ls d.len, d.top.imp fun _ h => getL_ne (by decide) h, d.nu.imp fun _ h => getL_ne (by decide) h, getL_eq, getL_ne (by decide) d.gn, getL_ne (by decide) d.um⟩
theorem BoxD.setGone {es : List DictEntry} {N T : Int} {l gl gl' : Addr} {w : World} {t : Tok} (d : BoxD es N T l gl) : BoxD (setE w "gone" t (.ref gl') es) N T l gl' :=
  ⟨putL_same1 d.gn d.len, d.top.imp fun _ h => getL_ne (by decide) h, d.nu.imp fun _ h => getL_ne (by decide) h, getL_ne (by decide) d.ls, getL_eq, getL_ne (by decide) d.um⟩
theorem ok_box_gone (w : World) : attrOk (KK w.params) 151 "gone" = true := by kernel_rfl!
theorem box2 (a b : Value) : (fun y => if y = ("uids" : Str) then some b else (fun y => if y = ("box" : Str) then some a else none) y) = vec ["box", "uids", "uid", "there"] [some a, some b, none, none] := by
  funext y
  simp only [vec]
  by_cases h1 : y = ("uids" : Str)
  · rw [if_pos h1, if_neg (by rw [h1]; decide), if_pos h1]
  · rw [if_neg h1]
    by_cases h2 : y = ("box" : Str)
    · rw [if_pos h2, if_pos h2]
    · rw [if_neg h2, if_neg h2, if_neg h1]
      split
      · rfl
      · split <;> rfl

inductive ExJ (a b : Option Value) (prog : Program) (w : World) (ws : List Int) (d : Addr) (led : List (Addr × Obj)) (i : Nat) : List (Option Value) → List (Addr × Obj) → Prop
  | mk (od kvs o) : od.IsDictOf (intKind prog w) kvs → kvs.length ≤ i → (∀ x, (valueAt kvs x).isSome = decide (x ∈ ws.take i)) → ExJ a b prog w ws d led i [a, b, o, none] ((d, od) :: led)
theorem take_keep {α : Type} {us : List α} {i : Nat} {m : α} {p : α → Bool} (hm : us[i]? = some m) (hp : p m = true) : (us.take (i + 1)).filter p = (us.take i).filter p ++ [m] := by
  rw [take_next hm, List.filter_append, List.filter_cons_of_pos hp, List.filter_nil]
theorem take_mem {us : List Int} {i : Nat} {m : Int} {p : Int → Bool} {ys : List Value} {t : Tok} (hm : us[i]? = some m) (hp : p m = true) (h : IntsAre ys ((us.take i).filter p)) : IntsAre (ys ++ [.int m t]) ((us.take (i + 1)).filter p) := by
  rw [take_keep hm hp]
  exact h.append (.cons _ _ .nil)
theorem take_skip {α : Type} {us : List α} {i : Nat} {m : α} {p : α → Bool} (hm : us[i]? = some m) (hp : ¬ p m = true) : (us.take (i + 1)).filter p = (us.take i).filter p := by
  rw [take_next hm, List.filter_append, List.filter_cons_of_neg hp, List.filter_nil, List.append_nil]
theorem cell_mono {a : Addr} {o : Option Value} (h h' : Heap) (k : Sub h h') (x : h.IsCell a o) : h'.IsCell a o := x.elim fun o e => ⟨o, k _ _ e.1, e.2⟩
theorem inst_mono {a C : Addr} {es : List DictEntry} (h h' : Heap) (k : Sub h h') (x : Inst h a C es) : Inst h' a C es := x.mono k
theorem get_mono {a : Addr} {o : Obj} (h h' : Heap) (k : Sub h h') (x : h.get? a = some o) : h'.get? a = some o := k _ _ x
theorem expunge {prog : Program} {w : World} {A : Around} {E : Value → Shared → Prop} {P : Heap} {s : Shared} {n n₀ B : Nat} {b dx l gl r : Addr} {es : List DictEntry} {items gits ys : List Value} {N T : Int} {us ws : List Int} {ky kg : Nat} {Q : Value → Shared → Prop}
    (ao : Ao A (n + 4)) (C : Cx KK w P) (hP : Sub P s.heap) (hb : P.get? b = some (instObj 151 dx)) (hd : s.heap.get? dx = some (dictOf es n₀)) (hdP : P.get? dx = none) (bd : BoxD es N T l gl)
    (hl : P.IsList l items.toArray) (hu : LettersAre P items us) (hz : items.length ≤ 100) (hg : P.get? gl = some (W.listOf gits.toArray kg)) (hgz : gits.length ≤ 100 * B) (hB : B ≤ 5) (hr : P.get? r = some (W.listOf ys.toArray ky)) (hy : IntsAre ys ws) (hwz : ws.length ≤ 100)
    (k : ∀ (v : Value) (es' : List DictEntry) (n' : Nat) (l' gl' : Addr) (items' gits' : List Value) (kg' : Nat) (T' : Int) (s' : Shared) (P' : Heap), GrowX [dx] P s P' s' → s'.heap.get? dx = some (dictOf es' n') → BoxD es' N T' l' gl' → P'.IsList l' items'.toArray → LettersAre P' items' (us.filter (· ∉ ws)) → P'.get? gl' = some (W.listOf gits'.toArray kg') → gits'.length ≤ 100 * (B + 1) → Q v s') :
    wpAny (model prog w) A (call (.ref 188) [.ref b, .ref r]) Q E s := by
  refine' call_of (X.enterC ["box", "uids", "uid", "there"] [some (.ref b), some (.ref r), none, none] [("raised", .ref 176)] (fun i => [("modseq", i + 1), ("wanted", i)]) _ (H := offs s.heap [dx]) (mt := [(dx, dictOf es n₀)]) ?ho ?hcd ?hb ?hf ?hn ?hg ?hcf ?hkd ?hbl rfl ?hcn ?hck ao C hP (offs_sub _ _) ?_ nodup_one ?_)
  case ho => rfl
  case hcd => kernel_rfl!
  case hb => rfl
  case hf => kernel_rfl!
  case hn => kernel_rfl!
  case hg => kernel_rfl!
  case hcf => intro _; rfl
  case hkd =>
    intro i x hx
    rcases List.mem_cons.mp hx with rfl | hx
    · exact .inl rfl
    · rw [List.mem_singleton.mp hx]; exact .inl rfl
  case hbl => exact box2 _ _
  case hcn => intro n; exact (by decide : (["modseq", "wanted"] : List Str).Nodup)
  case hck =>
    intro n p hp
    rcases List.mem_cons.mp hp with rfl | hp
    · exact ⟨rfl, rfl⟩
    · rw [List.mem_singleton.mp hp]; exact ⟨rfl, rfl⟩
  · exact offs_one hd hdP
  intro ci led c s₁ ao hled S
  obtain ⟨o₁, led, rfl, hm, hled⟩ := hled.cons
  obtain ⟨o₂, rfl, hw⟩ := hled.one
  change Sc c _ [(ci + 1, o₁), (ci, o₂), (dx, dictOf es n₀)] P s₁ at S
  have hbS : ∀ {vs news P₀}, Sub P P₀ → Held c vs news P₀ fun h => h.get? b = some (instObj 151 dx) := fun {vs news P₀} k => .ofP get_mono (k _ _ hb)
  have m3 : ∀ {a b d e : Addr × Obj}, e ∈ [a, b, d, e] := .tail _ (.tail _ (.tail _ (.head _)))
  have g3 : ∀ {a d e : Addr × Obj} {o : Obj} {P₀ vs s₂}, Sc c vs [a, d, e, (dx, o)] P₀ s₂ → s₂.heap.get? dx = some o := fun S => S.get m3
  have gx : ∀ {a d e : Addr × Obj} {o : Obj} {P₀ vs s₂}, Sc c vs [a, d, e, (dx, o)] P₀ s₂ → GrowX [dx] P s P₀ s₂ := fun S => S.growX rfl fun a ha => by rw [List.mem_singleton.mp ha]; exact ⟨List.mem_map_of_mem (f := (·.1)) m3, hdP⟩
  refine X.dictNewC 1 1 S rfl rfl hw (by kernel_rfl!) ?_
  intro d od s₂ hod lo S
  change Sc c _ [(d, od), (ci + 1, o₁), (ci, cellSetTo o₂ (.ref d)), (dx, dictOf es n₀)] P s₂ at S
  generalize hC₂ : cellSetTo o₂ (.ref d) = C₂ at S
  have hC₂ : C₂.data = .cell (some (.ref d)) := hC₂ ▸ rfl
  refine X.forV (.name 1 rfl rfl) S fun P₁ s₃ k₁ S => ?_
  refine X.forI 2 rfl ⟨_, S.keep _ _ (k₁ _ _ hr), rfl, ky, rfl⟩ hy S (.inl ⟨_, k₁ _ _ hr⟩) (fun i vs news P => ExJ (some (.ref b)) (some (.ref r)) prog w ws d [(ci + 1, o₁), (ci, C₂), (dx, dictOf es n₀)] i vs news)
    (fun _ _ _ _ h => h.casesOn fun _ _ _ _ _ _ => rfl) (.mk od [] none hod (Nat.le_refl _) fun x => by rw [List.take_zero]; rfl) ?_ ?_
  · intro i m t s₄ vs₁ ns₁ own P₂ Φ hn hm k₂ hj
    have hil := (List.getElem?_eq_some_iff.mp hm).1
    refine hj.casesOn fun od kvs o hod hlen hkv S => ?_
    refine X.dictSet 0 .bool (.cell 1 rfl (.led 2 rfl fun h e => ⟨_, e, hC₂⟩)) (.nameI 2 rfl rfl) mono_V S rfl hod (by lia) ?_
    intro P₃ v od' s₅ k₃ _ hod' S
    refine X.next hn (news₂ := [(d, od'), (ci + 1, o₁), (ci, C₂), (dx, dictOf es n₀)]) k₃ S (.mk od' _ _ hod' (Nat.le_trans (stored_length_le _ _ _) (Nat.succ_le_succ hlen)) fun x => ?_)
    rw [has_stored, hkv, take_next hm, Bool.eq_iff_iff]
    simp only [Bool.or_eq_true, decide_eq_true_eq, List.mem_append, List.mem_singleton, or_comm]
  intro s₄ vs₁ ns₁ P₂ k₂ hj
  refine hj.casesOn fun od kvs o hod hlen hkv S => ?_
  rw [List.take_length] at hkv
  have hkv' : ∀ m, (valueAt kvs m).isSome = true ↔ m ∈ ws := fun m => by rw [hkv, decide_eq_true_eq]
  have mf : methOk (KK w.params) 151 "uids" 143 = true := by kernel_rfl!
  have q₂ := k₁.trans k₂
  refine X.assignComp (oc := none) (ns' := ["uid"]) (gv' := []) (J := fun i ys _ => IntsAre ys ((us.take i).filter fun u => decide (u ∈ ws))) 3
    (.mcall0 (R := IntsL us) (dx := dx) (es := es) (n := n₀) (.name 0 rfl rfl) (.and (hbS q₂) (.led 3 rfl fun h e => e)) mf bd.um rfl fun P₀ s₀ Q h₀ S k =>
      uids (n := n) (ao.dn (by decide)) S.cx S.keep (by lia) ⟨dx, n₀, S.keep _ _ (h₀ _ _ (q₂ _ _ hb)), g3 S⟩ bd.ls (S.lst (lst_mono _ _ (q₂.trans h₀) hl)) (hu.mono ((q₂.trans h₀).trans S.keep)) fun r ys cc s' P' G hr hi => k _ _ _ G (.mk r ys cc hr hi)) S rfl rfl
    hit_ints (by rw [← hu.length]; lia) rfl rfl rfl rfl (by kernel_rfl!) rfl rfl (fun _ _ => rfl) (fun _ => rfl) (fun _ _ => .nil) (turnI fun P₀ s₀ g' c' hP₀ S₀ hH hA' i m t s₂ ys P₁ led T₁ T₀ m₁ m₀ hm hP₁ hJ hyl S => ?_) ?_
  · refine turnIf (.cmp (.inD (o := od) (kvs := kvs) (i := m) (.nameI 0 rfl rfl) (.cell 0 rfl (.ofH cell_mono ⟨_, hH _ _ (S₀.get (.tail _ (.tail _ (.head _)))), hC₂⟩)) (.ofH get_mono (hH _ _ (S₀.get (.head _)))) hod lo)) S
      (fun hp P₃ s₃ hP₃ S => El.ofI (.nameI 0 rfl rfl) S fun P₄ t' s₄ hP₄ S => m₁ (hP₃.trans hP₄) S (take_mem hm (decide_eq_true ((hkv' m).mp hp)) hJ))
      fun hp P₃ s₃ hP₃ S => m₀ hP₃ S ((take_skip (p := fun u => decide (u ∈ ws)) hm fun x => hp ((hkv' m).mpr (of_decide_eq_true x))) ▸ hJ)
  intro P₃ v s₅ k₃ x
  have hthere : IntsL (us.filter fun u => decide (u ∈ ws)) P₃ v := x.ints fun ys P h => by rw [List.take_length] at h; exact h
  clear x
  intro V S
  refine X.ifs (.cmp (.eqL (ao.lit (by decide)) (.nameR 3 rfl rfl mono_ints hthere) .nilI)) S ?_ ?_
  · intro hnil P₄ s₆ k₄ S
    refine X.ret .newNil S ?_
    intro P₅ v s₇ k₅ _ S
    have q₅ := q₂.trans (k₃.trans (k₄.trans k₅))
    refine k _ es n₀ l gl items gits kg T _ _ (gx S) (g3 S) bd (lst_mono _ _ q₅ hl) ?_ (q₅ _ _ hg) (by lia)
    rw [show us.filter (fun u => decide (u ∉ ws)) = us from List.filter_eq_self.mpr fun u hu => decide_eq_true fun h => List.filter_eq_nil_iff.mp hnil u hu (decide_eq_true h)]
    exact hu.mono q₅
  · intro hne P₄ s₆ k₄ S
    refine X.jp ?_
    refine Go.cons (wpAny_Assign_Name (Call_ ((Gives.glob (c := c) (P := P₄) 0 rfl).bindV (.refl _) S fun P₅ s₇ k₅ S => ?_)))
    refine q_callWith S (by kernel_rfl!) (args_cons ((Gives.name 0 rfl rfl).bindV (.refl _) S fun P₆ s₈ k₆ S => args_nil ⟨S.kin, ?_⟩))
    have q₆ := q₂.trans (k₃.trans (k₄.trans (k₅.trans k₆)))
    refine raised (l := l) (gl := gl) (n := n) (ao.dn (by decide)) S.cx S.keep (q₆ _ _ hb) (g3 S) (S.led _ m3).2.2.2 bd fun tt es' n' s' P' G hd' bd' => ?_
    replace S := S.afterAt 3 rfl G hd'
    have q₇ := q₆.trans G.up
    refine q_storeC S c.V (.head _) (LUpd.at 1 rfl) hm fun s₉ S => ?_
    change Sc c _ [(d, od), (ci + 1, cellSetTo o₁ (.int (T + 1) tt)), (ci, C₂), (dx, dictOf es' n')] P' s₉ at S
    generalize hC₁ : cellSetTo o₁ (.int (T + 1) tt) = C₁ at S
    have hC₁ : C₁.data = .cell (some (.int (T + 1) tt)) := hC₁ ▸ rfl
    refine X.setAttr (dx := dx) (es := es') (n := n') 3
      (.comp (oc := none) (ns' := ["letter"]) (gv' := []) (n := items.length) (Pv := fun i v _ => items[i]? = some v) (J := fun i ys P' => LettersAre P' ys ((us.take i).filter fun u => decide (u ∉ ws)))
        (.attr (v := .ref l) (.name 0 rfl rfl) (fun P₀ s₀ q S₀ => ⟨dx, n', hbS q₇ P₀ s₀ q S₀, g3 S₀⟩) (ok_box_letters w) bd'.ls rfl)
        (fun P' v s' h S r => by subst r; exact ⟨_, IterTo.listL c.hA (S.lst (lst_mono _ _ (q₇.trans h) hl))⟩) (by lia) rfl rfl (by kernel_rfl!) rfl rfl (fun _ _ => rfl) (fun _ => rfl) (fun _ _ => .nil) (turnOne fun P₀ s₀ g' c' hP₀ S₀ hH hA' i v s₁ s₂ ys P₁ led T₁ T₀ m₁ m₀ hi hv hP₁ hJ hyl S => ?_)) mono_made (.name 0 rfl rfl) S (hbS q₇) (set_box_at 5 rfl) (by rw [bd'.ls]; rfl) rfl (Nat.le_trans bd'.len (by decide)) ?_
    · obtain ⟨m, hm, a, el, tl, I, hgu⟩ := hu.getL hv
      have I' : Inst P₁ a 113 el := I.mono (q₇.trans (hP₀.trans hP₁))
      refine turnIf (.cmp (.notInD (o := od) (kvs := kvs) (i := m) (.toI (.attr (.name 0 rfl rfl) (.ofP inst_mono I') (ok_letter_uid w) hgu rfl)) (.cell 0 rfl (.ofH cell_mono ⟨_, hH _ _ (S₀.get (.tail _ (.tail _ (.head _)))), hC₂⟩)) (.ofH get_mono (hH _ _ (S₀.get (.head _)))) hod lo)) S
        (fun hp P₃ s₃ hP₃ S => El.ofV (.name 0 rfl rfl) S fun P₄ s₄ hP₄ S => m₁ (hP₃.trans hP₄) S ?_)
        fun hp P₃ s₃ hP₃ S => m₀ hP₃ S ((take_skip (p := fun u => decide (u ∉ ws)) hm fun x => hp fun q => of_decide_eq_true x ((hkv' m).mp q)) ▸ hJ.mono hP₃)
      rw [take_keep (p := fun u => decide (u ∉ ws)) hm (decide_eq_true fun q => hp ((hkv' m).mpr q))]
      exact All2.snoc (hJ.mono (hP₃.trans hP₄)) (.mk a el tl (I'.mono (hP₃.trans hP₄)) hgu)
    intro P₈ v₈ t₈ s₁₀ k₈ x₈
    refine x₈.casesOn fun l' items' kl P₇ hl' k₇ hL S => ?_
    rw [hu.length, List.take_length] at hL
    have bd₂ := bd'.setLetters (w := w) (l' := l') (t := t₈)
    generalize hes : setE w "letters" t₈ (.ref l') es' = es₂ at S bd₂
    have q₈ := q₇.trans k₈
    have hthere' := mono_ints _ _ _ (k₄.trans (k₅.trans (k₆.trans (G.up.trans k₈)))) hthere
    have hus : (us.filter fun u => decide (u ∈ ws)).length ≤ 100 := Nat.le_trans (List.length_filter_le _ us) (by rw [← hu.length]; exact hz)
    refine X.setAttr (dx := dx) (es := es₂) (n := putN "letters" es' n') 3
      (.concat (xs := gits) (n₁ := kg) (J := fun ys _ => ys.length = (us.filter fun u => decide (u ∈ ws)).length)
        (.attr (v := .ref gl) (.name 0 rfl rfl) (fun P₀ s₀ q S₀ => ⟨dx, _, hbS q₈ P₀ s₀ q S₀, g3 S₀⟩) (ok_box_gone w) bd₂.gn rfl) (q₈ _ _ hg)
        (.comp (oc := none) (ns' := ["uid"]) (gv' := []) (J := fun i ys _ => ys.length = i)
          (.nameR 3 rfl rfl mono_ints hthere') hit_ints (Nat.le_trans hus (by decide))
          rfl rfl (by kernel_rfl!) rfl rfl (fun _ _ => rfl) (fun _ => rfl) (fun _ _ => rfl) (turnI fun P₀ s₀ g' c' hP₀ S₀ hH hA' i m t s₂ ys P₁ led T₁ T₀ m₁ m₀ hm hP₁ hJ hyl S => turnAll ?_))
        (fun ys h j => by lia)) mono_made (.name 0 rfl rfl) S (hbS q₈) (set_box_at 6 rfl) (by rw [bd₂.gn]; rfl) rfl (Nat.le_trans bd₂.len (by decide)) ?_
    · exact El.of (Gives.tupG (R₁ := IsV (.int m t)) (R₂ := IsV (.int (T + 1) tt)) (.name 0 rfl rfl) (.cell 0 rfl (.ofH cell_mono ⟨_, hH _ _ (S₀.get (.tail _ (.head _))), hC₁⟩)) mono_V mono_V) S fun P₄ v s₄ hP₄ _ S => m₁ hP₄ S (by rw [List.length_append, hJ]; rfl)
    intro P₉ v₉ t₉ s₁₁ k₉ x₉
    refine x₉.casesOn fun gl' gits' kg' P₁₀ hgl' k₁₀ hgy S => ?_
    obtain ⟨gy, rfl, hgy⟩ := hgy
    have bd₃ := bd₂.setGone (w := w) (gl' := gl') (t := t₉)
    refine X.retV (.name 3 rfl rfl) S fun P₁₁ s₁₂ k₁₁ S => ?_
    exact k _ _ _ l' gl' items' (gits ++ gy) kg' (T + 1) _ _ (gx S) (g3 S) bd₃ (lst_mono _ _ (k₉.trans k₁₁) ⟨_, hl', rfl, kl, rfl⟩) (hL.mono (k₇.trans (k₉.trans k₁₁))) (k₁₁ _ _ hgl') (by rw [List.length_append]; lia)
end Mine

end PartR17
section PartM2
open PySem PySem.W PySem.Spec PySem.Calls PyProof.Rows
set_option Elab.async false
set_option linter.unusedVariables false
set_option maxRecDepth 100000
namespace Mine
theorem sorted_ext : ∀ {xs ys : List Int}, xs.Pairwise (· < ·) → ys.Pairwise (· < ·) → (∀ m, m ∈ xs ↔ m ∈ ys) → xs = ys
  | [], [], _, _, _ => rfl
  | [], y :: ys, _, _, h => nomatch (h y).mpr (.head _)
  | x :: xs, [], _, _, h => nomatch (h x).mp (.head _)
  | x :: xs, y :: ys, h1, h2, h => by
    have a := List.pairwise_cons.mp h1
    have b := List.pairwise_cons.mp h2
    have e : x = y := by
      rcases List.mem_cons.mp ((h x).mp (.head _)) with e | q
      · exact e
      rcases List.mem_cons.mp ((h y).mpr (.head _)) with e | r
      · exact e.symm
      exact absurd (Int.lt_trans (b.1 _ q) (a.1 _ r)) (Int.lt_irrefl _)
    subst e
    rw [sorted_ext a.2 b.2 fun m => ?_]
    constructor
    · intro q
      rcases List.mem_cons.mp ((h m).mp (.tail _ q)) with rfl | r
      · exact absurd (a.1 _ q) (Int.lt_irrefl _)
      · exact r
    · intro q
      rcases List.mem_cons.mp ((h m).mpr (.tail _ q)) with rfl | r
      · exact absurd (b.1 _ q) (Int.lt_irrefl _)
      · exact r
noncomputable def diag (xs : List Int) : List (Int × Int) := xs.map fun a => (a, a)
theorem diag_ends {xs : List Int} {N : Int} (h : ∀ x ∈ xs, 1 ≤ x) : (diag xs).filterMap (endsOf N) = diag xs := by
  induction xs with
  | nil => rfl
  | cons x r ih =>
    have h1 := h x (.head _)
    have e : endsOf N (x, x) = some (x, x) := by
      unfold endsOf
      have : x ≠ 0 := by lia
      simp [this]
    show ((x, x) :: diag r).filterMap (endsOf N) = (x, x) :: diag r
    rw [List.filterMap_cons, e, ih fun y hy => h y (.tail _ hy)]
theorem pred_lt {a : Int} {n : Nat} (h1 : 1 ≤ a) (h2 : a ≤ n) : (a - 1).toNat < n := by lia
theorem diag_line {xs qs : List Int} {N : Nat} (hs : xs.Pairwise (· < ·)) (hx : ∀ x ∈ xs, 1 ≤ x ∧ x ≤ N) (hm : ∀ m, m ∈ qs ↔ m ∈ xs) : line (diag qs) N = xs := by
  refine sorted_ext ((numsTo_asc N).filter _) hs fun m => ?_
  have hc : covs (diag qs) N m = decide (m ∈ qs) := by
    unfold covs
    rw [diag_ends fun x h => (hx x ((hm x).mp h)).1]
    unfold cov diag
    rw [List.any_map, Bool.eq_iff_iff]
    simp only [List.any_eq_true, Function.comp, inP, decide_eq_true_eq]
    exact ⟨fun ⟨x, h, a, b⟩ => Int.le_antisymm a b ▸ h, fun h => ⟨m, h, Int.le_refl _, Int.le_refl _⟩⟩
  rw [line, List.mem_filter, hc, decide_eq_true_eq, hm]
  refine ⟨fun h => h.2, fun h => ⟨?_, h⟩⟩
  have := hx m h
  unfold numsTo
  exact List.mem_map.mpr ⟨(m - 1).toNat, List.mem_range.mpr (pred_lt this.1 this.2), by lia⟩
theorem diag_ok {xs : List Int} {N : Nat} (h : ∀ x ∈ xs, 1 ≤ x) (hz : xs.length ≤ 10) (hs : xs.Pairwise (· < ·) ∨ xs.Pairwise (fun a b => b < a)) : OkSet (diag xs) N := by
  refine ⟨by unfold diag; rw [List.length_map]; lia, ?_⟩
  rw [diag_ends h]
  refine .inr ⟨by unfold diag; rw [List.length_map]; lia, hs.imp (fun p => ?_) fun p => ?_⟩
  · exact List.pairwise_map.mpr (p.imp fun q => by simp [lexLt, q])
  · exact List.pairwise_map.mpr (p.imp fun q => by simp [lexLt, q])
theorem drawn_ok {ps : List (Int × Int)} {N : Nat} (h : Drawn ps) : OkSet ps N := ⟨by have := h.1; lia, .inl (Nat.le_trans (List.length_filterMap_le _ _) h.1)⟩

/-- pairs of places and uids, in rising order -/
structure PO (th : List Int) (i : Nat) (ps : List (Int × Int)) : Prop where
  len : ps.length ≤ i
  asc : ps.Pairwise fun p q => p.1 < q.1 ∧ p.2 < q.2
  at_ : ∀ p ∈ ps, 1 ≤ p.1 ∧ p.1 ≤ i ∧ th[(p.1 - 1).toNat]? = some p.2
theorem PO.skip {th : List Int} {i : Nat} {ps : List (Int × Int)} (h : PO th i ps) : PO th (i + 1) ps := ⟨by have := h.len; lia, h.asc, fun p hp => by have := h.at_ p hp; exact ⟨this.1, by lia, this.2.2⟩⟩
theorem PO.add {th : List Int} {i : Nat} {ps : List (Int × Int)} {u : Int} (h : PO th i ps) (hs : th.Pairwise (· < ·)) (hu : th[i]? = some u) : PO th (i + 1) (ps ++ [((i : Int) + 1, u)]) := by
  refine ⟨by have := h.len; rw [List.length_append]; exact Nat.succ_le_succ this, List.pairwise_append.mpr ⟨h.asc, List.pairwise_singleton _ _, fun p hp q hq => ?_⟩, fun p hp => ?_⟩
  · rw [List.mem_singleton.mp hq]
    obtain ⟨a, b, e⟩ := h.at_ p hp
    obtain ⟨l1, e1⟩ := List.getElem?_eq_some_iff.mp e
    obtain ⟨l2, e2⟩ := List.getElem?_eq_some_iff.mp hu
    have := List.pairwise_iff_getElem.mp hs _ _ l1 l2 (pred_lt a b)
    rw [e1, e2] at this
    exact ⟨Int.lt_add_one_of_le b, this⟩
  · rcases List.mem_append.mp hp with q | q
    · exact h.skip.at_ p q
    · rw [List.mem_singleton.mp q]
      refine ⟨by show (1 : Int) ≤ i + 1; lia, by show (i : Int) + 1 ≤ _; lia, ?_⟩
      show th[((i : Int) + 1 - 1).toNat]? = some u
      rw [show ((i : Int) + 1 - 1).toNat = i from by lia]; exact hu
theorem po_held {th : List Int} {N : Nat} {ps : List (Int × Int)} (h : PO th th.length ps) (hN : th.length ≤ N) (hu : ∀ u ∈ th, 1 ≤ u ∧ u ≤ N) : heldPairs (diag (ps.map (·.1))) (diag (ps.reverse.map (·.2))) N = ps := by
  have h1 : line (diag (ps.map (·.1))) N = ps.map (·.1) := diag_line (List.pairwise_map.mpr (h.asc.imp And.left)) (fun x hx => by
    obtain ⟨p, hp, rfl⟩ := List.mem_map.mp hx
    have := h.at_ p hp
    exact ⟨this.1, Int.le_trans this.2.1 (Int.ofNat_le.mpr hN)⟩) fun m => Iff.rfl
  have h2 : line (diag (ps.reverse.map (·.2))) N = ps.map (·.2) := diag_line (List.pairwise_map.mpr (h.asc.imp And.right)) (fun x hx => by
    obtain ⟨p, hp, rfl⟩ := List.mem_map.mp hx
    exact hu _ (List.mem_of_getElem? (h.at_ p hp).2.2)) fun m => by simp
  rw [heldPairs, h1, h2, if_pos (by rw [List.length_map, List.length_map])]
  clear h1 h2 h
  induction ps with
  | nil => rfl
  | cons p r ih => rw [List.map_cons, List.map_cons, List.zip_cons_cons, ih]
theorem po_ok {th : List Int} {N : Nat} {ps : List (Int × Int)} (h : PO th th.length ps) (hN : th.length ≤ 10) (hu : ∀ u ∈ th, 1 ≤ u ∧ u ≤ N) : OkSet (diag (ps.map (·.1))) N ∧ OkSet (diag (ps.reverse.map (·.2))) N := by
  have l := h.len
  refine ⟨diag_ok (fun x hx => ?_) (by rw [List.length_map]; lia) (.inl (List.pairwise_map.mpr (h.asc.imp And.left))), diag_ok (fun x hx => ?_) (by rw [List.length_map, List.length_reverse]; lia) (.inr (List.pairwise_map.mpr (List.pairwise_reverse.mpr (h.asc.imp And.right))))⟩
  · obtain ⟨p, hp, rfl⟩ := List.mem_map.mp hx
    exact (h.at_ p hp).1
  · obtain ⟨p, hp, rfl⟩ := List.mem_map.mp hx
    exact (hu _ (List.mem_of_getElem? (h.at_ p (List.mem_reverse.mp hp)).2.2)).1

theorem place_iff {us : List Int} {u k : Int} (hs : us.Pairwise (· < ·)) (hk : 1 ≤ k) : placeOf us u + 1 = k ↔ us[(k - 1).toNat]? = some u := by
  rw [placeOf]
  cases e : us.findIdx? (· == u) with
  | none =>
    have n := List.findIdx?_eq_none_iff.mp e
    constructor
    · intro h; replace h : (-1 : Int) + 1 = k := h; lia
    · intro h; have := n u (List.mem_of_getElem? h); simp at this
  | some i =>
    obtain ⟨hl, hu, -⟩ := List.findIdx?_eq_some_iff_getElem.mp e
    replace hu : us[i] = u := by simpa using hu
    show (i : Int) + 1 = k ↔ _
    constructor
    · intro h
      rw [show (k - 1).toNat = i from by lia, List.getElem?_eq_getElem hl, hu]
    · intro h
      obtain ⟨l2, e2⟩ := List.getElem?_eq_some_iff.mp h
      rcases Nat.lt_trichotomy i (k - 1).toNat with q | q | q
      · have := List.pairwise_iff_getElem.mp hs _ _ hl l2 q; lia
      · lia
      · have := List.pairwise_iff_getElem.mp hs _ _ l2 hl q; lia
theorem fold_last {f : Int × Int → Prop} [DecidablePred f] : ∀ (ps : List (Int × Int)) (b : Int), ps.Pairwise (fun p q => p.1 < q.1 ∧ p.2 < q.2) → (∀ p ∈ ps, b < p.2) →
    ((ps.foldl (fun best p => if f p then p.2 else best) b = b ∨ ∃ p ∈ ps, f p ∧ ps.foldl (fun best p => if f p then p.2 else best) b = p.2) ∧ b ≤ ps.foldl (fun best p => if f p then p.2 else best) b ∧ ∀ p ∈ ps, f p → p.2 ≤ ps.foldl (fun best p => if f p then p.2 else best) b)
  | [], b, _, _ => ⟨.inl rfl, Int.le_refl _, fun _ h => nomatch h⟩
  | p :: r, b, hs, hb => by
    have a := List.pairwise_cons.mp hs
    have hp := hb p (.head _)
    rw [List.foldl_cons]
    by_cases q : f p
    · rw [if_pos q]
      obtain ⟨h1, h2, h3⟩ := fold_last (f := f) r p.2 a.2 fun z hz => (a.1 z hz).2
      refine ⟨.inr (h1.elim (fun e => ⟨p, .head _, q, e⟩) fun ⟨z, hz, h⟩ => ⟨z, .tail _ hz, h⟩), Int.le_trans (Int.le_of_lt hp) h2, fun z hz hf => ?_⟩
      rcases List.mem_cons.mp hz with rfl | hz
      · exact h2
      · exact h3 z hz hf
    · rw [if_neg q]
      obtain ⟨h1, h2, h3⟩ := fold_last (f := f) r b a.2 fun z hz => hb z (.tail _ hz)
      refine ⟨h1.imp id fun ⟨z, hz, h⟩ => ⟨z, .tail _ hz, h⟩, h2, fun z hz hf => ?_⟩
      rcases List.mem_cons.mp hz with rfl | hz
      · exact absurd hf q
      · exact h3 z hz hf
/-- the uids of the pairs that still stand -/
noncomputable def standing (now : List Int) (ps : List (Int × Int)) : List Int := (ps.filter fun p => decide (now[(p.1 - 1).toNat]? = some p.2)).map (·.2)
theorem po_agreed {th now : List Int} {i : Nat} {ps : List (Int × Int)} (h : PO th i ps) (hn : now.Pairwise (· < ·)) (hu : ∀ u ∈ th, 1 ≤ u) :
    (agreed now ps = 0 ∨ ∃ p ∈ ps, now[(p.1 - 1).toNat]? = some p.2 ∧ agreed now ps = p.2) ∧ ∀ M, M ∈ 0 :: standing now ps → (∀ a ∈ 0 :: standing now ps, a ≤ M) → M = agreed now ps := by
  obtain ⟨h1, h2, h3⟩ := fold_last (f := fun p => placeOf now p.2 + 1 = p.1) ps 0 h.asc fun p hp => hu _ (List.mem_of_getElem? (h.at_ p hp).2.2)
  change agreed now ps = 0 ∨ ∃ p ∈ ps, _ ∧ agreed now ps = p.2 at h1
  change 0 ≤ agreed now ps at h2
  change ∀ p ∈ ps, _ → p.2 ≤ agreed now ps at h3
  have pl := fun p hp => place_iff (us := now) (u := p.2) hn (h.at_ p hp).1
  have h4 : agreed now ps = 0 ∨ ∃ p ∈ ps, now[(p.1 - 1).toNat]? = some p.2 ∧ agreed now ps = p.2 := h1.imp id fun ⟨p, hp, a, b⟩ => ⟨p, hp, (pl p hp).mp a, b⟩
  have ms : ∀ a, a ∈ standing now ps ↔ ∃ p ∈ ps, now[(p.1 - 1).toNat]? = some p.2 ∧ p.2 = a := fun a => by
    unfold standing; simp only [List.mem_map, List.mem_filter, decide_eq_true_eq, and_assoc]
  refine ⟨h4, fun M hM hall => Int.le_antisymm ?_ ?_⟩
  · rcases List.mem_cons.mp hM with rfl | q
    · exact h2
    · obtain ⟨p, hp, a, rfl⟩ := (ms _).mp q
      exact h3 p hp ((pl p hp).mpr a)
  · rcases h4 with e | ⟨p, hp, a, e⟩
    · rw [e]; exact hall 0 (.head _)
    · rw [e]; exact hall _ (.tail _ ((ms _).mpr ⟨p, hp, a, rfl⟩))
theorem stand {f : Int → Bool} {u : Int} : ∀ {th : List Int} {k j : Nat}, th.Pairwise (· < ·) → th[k]? = some u → (th.filter f)[j]? = some u → j ≤ k ∧ (j = k → ∀ m ∈ th, m ≤ u → f m = true)
  | [], k, j, _, h, _ => nomatch h
  | x :: r, k, j, hs, h1, h2 => by
    have a := List.pairwise_cons.mp hs
    have no : ∀ j, (r.filter f)[j]? = some x → False := fun j h => Int.lt_irrefl _ (a.1 x (List.mem_filter.mp (List.mem_of_getElem? h)).1)
    cases q : f x with
    | true =>
      rw [List.filter_cons_of_pos q] at h2
      cases k with
      | zero =>
        cases h1
        cases j with
        | zero =>
          refine ⟨Nat.le_refl _, fun _ m hm hl => ?_⟩
          rcases List.mem_cons.mp hm with rfl | hm
          · exact q
          · exact absurd (a.1 m hm) (Int.not_lt.mpr hl)
        | succ j => exact absurd h2 (no j)
      | succ k =>
        cases j with
        | zero => exact ⟨Nat.zero_le _, fun e => nomatch e⟩
        | succ j =>
          obtain ⟨b, d⟩ := stand (k := k) (j := j) a.2 h1 h2
          refine ⟨Nat.succ_le_succ b, fun e m hm hl => ?_⟩
          rcases List.mem_cons.mp hm with rfl | hm
          · exact q
          · exact d (Nat.succ.inj e) m hm hl
    | false =>
      rw [List.filter_cons_of_neg (by rw [q]; decide)] at h2
      cases k with
      | zero => cases h1; exact (no _ h2).elim
      | succ k => exact ⟨Nat.le_succ_of_le (stand (k := k) a.2 h1 h2).1, fun e => absurd (stand (k := k) a.2 h1 h2).1 (by lia)⟩
theorem po_stands {th : List Int} {f : Int → Bool} {i : Nat} {ps : List (Int × Int)} (h : PO th i ps) (hs : th.Pairwise (· < ·)) (hu : ∀ u ∈ th, 1 ≤ u) : (th.filter fun u => decide (u ≤ agreed (th.filter f) ps ∧ u ∉ th.filter f)) = [] := by
  rw [List.filter_eq_nil_iff]
  intro u hm hd
  obtain ⟨hl, hn⟩ := of_decide_eq_true hd
  have h1 := hu u hm
  rcases (po_agreed h (hs.filter f) hu).1 with e | ⟨p, hp, a, e⟩
  · lia
  · exact hn (List.mem_filter.mpr ⟨hm, (stand hs (h.at_ p hp).2.2 a).2 rfl u hm (e ▸ hl)⟩)
end Mine

end PartM2
section PartR18
open PySem PySem.W PySem.Spec PySem.Calls PyProof.Rows
set_option Elab.async false
set_option linter.unusedVariables false
set_option maxRecDepth 100000
namespace Mine
/-- a box whose dict lies in a ledger -/
inductive BoxP (h : Heap) (b dx : Addr) (es : List DictEntry) (us : List Int) (N B : Nat) : Prop
  | mk (T : Int) (l gl : Addr) (items gits : List Value) (kg : Nat) : h.get? b = some (instObj 151 dx) → BoxD es ((N : Int) + 1) T l gl → h.IsList l items.toArray → LettersAre h items us → h.get? gl = some (W.listOf gits.toArray kg) → gits.length ≤ 100 * B → items.length ≤ 100 → BoxP h b dx es us N B
theorem BoxP.mono {h h' : Heap} {b dx : Addr} {es : List DictEntry} {us : List Int} {N B : Nat} (x : BoxP h b dx es us N B) (k : Sub h h') : BoxP h' b dx es us N B :=
  x.casesOn fun T l gl items gits kg a bd d e f z y => .mk T l gl items gits kg (k _ _ a) bd (lst_mono _ _ k d) (e.mono k) (k _ _ f) z y
theorem BoxP.boxR {h h' : Heap} {b dx : Addr} {es : List DictEntry} {us : List Int} {N B n₀ : Nat} (x : BoxP h b dx es us N B) (k : Sub h h') (hd : h'.get? dx = some (dictOf es n₀)) : BoxR h' b us N :=
  x.casesOn fun T l gl items gits kg a bd d e f z y => bd.nu.elim fun t ht =>
  .mk es l items t ⟨dx, n₀, k _ _ a, hd⟩ bd.ls ht (lst_mono _ _ k d) (e.mono k) (by lia)
inductive MatchV (p q : List (Int × Int)) (h : Heap) : Value → Prop
  | mk (M T₁ T₂) : IsTup h M #[.ref T₁, .ref T₂] → PairT h T₁ p → PairT h T₂ q → MatchV p q h (.ref M)
theorem mono_match {p q : List (Int × Int)} : Mono (MatchV p q) := fun _ _ _ k x => x.casesOn fun M T₁ T₂ a b d => .mk M T₁ T₂ (a.keeps k) (b.mono k) (d.mono k)
section
variable {prog : Program} {w : World} {g : Gh} {sg : Sg} {c : Ct KK w g sg} {fx fy : Str} {fp fq : Pos}
variable {vs : List (Option Value)} {news : List (Addr × Obj)} {P : Heap} {s : Shared} {pos pos' apos : Pos} {e e₁ e₂ : Expr} {rest : List Stmt} {Q : Flow → Shared → Prop} {p q : List (Int × Int)} {b dx : Addr} {es : List DictEntry} {us ws : List Int} {N B n n₀ : Nat}
theorem Gives.uids {pl : Sem Bool} (ao : Ao c.A (n + 1)) (x : BoxP P b dx es us N B) (hj : (dx, dictOf es n₀) ∈ news) (h : Gives prog c vs news P e (IsV (.ref b)))
    (he : eval (.Call (.Attribute e "uids" apos) [] [] pos) c.env = (do
      let ov ← eval e c.env
      standAt apos.atName
      let (f, first) ← holding [ov] (getMethod ov "uids" pl)
      callWith pos f first (backTo pos (starEach [] c.env)) []) := by rfl) : Gives prog c vs news P (.Call (.Attribute e "uids" apos) [] [] pos) (IntsL us) := by
  refine x.casesOn fun T l gl items gits kg hb bd hl hu _ _ hz => ?_
  have mf : methOk (KK w.params) 151 "uids" 143 = true := by kernel_rfl!
  exact .mcall0 (dx := dx) (es := es) (n := n₀) h (.and (.ofP get_mono hb) fun _ _ _ S => S.get hj) mf bd.um rfl (fun P₀ s₀ Q h₀ S k =>
    Mine.uids (n := n) ao S.cx S.keep (by lia) ⟨dx, n₀, S.keep _ _ (h₀ _ _ hb), S.get hj⟩ bd.ls (S.lst (lst_mono _ _ h₀ hl)) (hu.mono (h₀.trans S.keep)) fun r ys cc s' P' G hr hi => k _ _ _ G (.mk r ys cc hr hi)) he
theorem Gives.held (ao : Ao c.A (n + 4)) (hf : Gives prog c vs news P (.Name fx fp) (IsV (.ref 216))) (h₁ : Gives prog c vs news P e₁ (MatchV p q)) (h₂ : Gives prog c vs news P e₂ (IsI N)) (hN : N ≤ 100) (ok₁ : OkSet p N) (ok₂ : OkSet q N)
    (h1 : isStarred e₁ = false := by rfl) (h2 : isStarred e₂ = false := by rfl)
    : Gives prog c vs news P (.Call (.Name fx fp) [e₁, e₂] [] pos) (PairsL (heldPairs p q N)) :=
  .dcall2 hf rfl h₁ h₂ mono_match (fun P₀ v₁ v₂ s Q hP S x r₂ k => by
    obtain ⟨t, rfl⟩ := r₂
    exact x.casesOn fun M T₁ T₂ hM x y => held_pairs ao S.cx S.keep (hM.keeps S.keep) (x.mono S.keep) (y.mono S.keep) hN ok₁ ok₂ k) h1 h2
theorem Gives.agreed (ao : Ao c.A (n + 5)) (x : BoxP P b dx es us N B) (hj : (dx, dictOf es n₀) ∈ news) (hs : us.Pairwise (· < ·)) (hf : Gives prog c vs news P (.Name fx fp) (IsV (.ref 223))) (h₁ : Gives prog c vs news P e₁ (IsV (.ref b))) (h₂ : Gives prog c vs news P e₂ (MatchV p q)) (hN : N ≤ 100) (ok₁ : OkSet p N) (ok₂ : OkSet q N)
    (h1 : isStarred e₁ = false := by rfl) (h2 : isStarred e₂ = false := by rfl)
    : Gives prog c vs news P (.Call (.Name fx fp) [e₁, e₂] [] pos) (IsI (agreed us (heldPairs p q N))) :=
  .dcall2 hf rfl h₁ h₂ mono_V (fun P₀ v₁ v₂ s Q hP S r₁ y k => by
    subst r₁
    exact y.casesOn fun M T₁ T₂ hM y z => agreed_uid ao S.cx S.keep (x.boxR (hP.trans S.keep) (S.get hj)) hs (hM.keeps S.keep) (y.mono S.keep) (z.mono S.keep) hN ok₁ ok₂ fun t s' P' G => k _ s' P' G ⟨t, rfl⟩) h1 h2
inductive SomeL (h : Heap) (v : Value) : Prop
  | mk (ws : List Int) : ws.length ≤ 100 → IntsL ws h v → SomeL h v
theorem X.expunge (ao : Ao c.A (n + 4)) (j : Nat) (x : BoxP P b dx es us N B) (hB : B ≤ 5) (S : Sc c vs news P s) (hj : news[j]? = some (dx, dictOf es n₀)) (hf : Gives prog c vs news P (.Name fx fp) (IsV (.ref 188))) (h₁ : Gives prog c vs news P e₁ (IsV (.ref b))) (h₂ : Gives prog c vs news P e₂ SomeL)
    (k : ∀ (ws : List Int) es' n' s' P', Sub P P' → BoxP P' b dx es' (us.filter (· ∉ ws)) N (B + 1) → Sc c vs (news.set j (dx, dictOf es' n')) P' s' → Go prog c rest Q s')
    (hs : swapsWith (.Call (.Name fx fp) [e₁, e₂] [] pos) none pos'.line c.env = pure false := by rfl)
    (h1 : isStarred e₁ = false := by rfl) (h2 : isStarred e₂ = false := by rfl)
    :
    Go prog c (.Expr (.Call (.Name fx fp) [e₁, e₂] [] pos) pos' :: rest) Q s :=
  Go.cons (q_Expr c.V (Call_ (hf.bindV (.refl _) S fun P₁ s₁ k₁ S₁ => by
    refine q_callWith S₁ (by kernel_rfl!) (args_cons (h₁.bindV k₁ S₁ fun P₂ s₂ k₂ S₂ => args_cons (h₂.bind (k₁.trans k₂) S₂ fun P₃ v₃ s₃ k₃ S₃ r₃ => args_nil ⟨S₃.kin, ?_⟩) (star h2)) (star h1)) (star h1) (starAny h2)
    obtain ⟨ws, hw, r₃⟩ := r₃
    have q₃ := k₁.trans (k₂.trans k₃)
    have hm := List.mem_of_getElem? hj
    refine r₃.casesOn fun r ys ky hr hy => (x.mono q₃).casesOn fun T l gl items gits kg hb bd hl hu hg hgz hz => ?_
    exact Mine.expunge (n := n) ao S₃.cx S₃.keep hb (S₃.get hm) (S₃.led _ hm).2.2.2 bd hl hu hz hg hgz hB hr hy hw fun v es' n' l' gl' items' gits' kg' T' s' P' G hd' bd' hl' hu' hg' hgz' =>
      k ws es' n' s' P' (q₃.trans G.up) (.mk T' l' gl' items' gits' kg' (G.up _ _ hb) bd' hl' hu' hg' hgz' (by rw [hu'.length]; exact Nat.le_trans (List.length_filter_le _ us) (hu.length ▸ hz))) (S₃.afterAt j hj G hd'))) hs)
end
end Mine

end PartR18
section PartR19
open PySem PySem.W PySem.Spec PySem.Calls PyProof.Rows
set_option Elab.async false
set_option linter.unusedVariables false
set_option maxRecDepth 100000
namespace Mine
noncomputable def lawFunc (w : World) : FuncData := match (KK w.params).lookup 240 with | some ⟨_, _, .func f, _⟩ => f | _ => default
noncomputable def lawBody (w : World) : List Stmt := match (lawFunc w).body with | .stmts b => b | _ => []
noncomputable def lawAt (w : World) (i : Nat) : List Stmt := (lawBody w).drop i
noncomputable abbrev lawNs : List Str := ["script", "box", "at", "uid", "early", "then", "pairs", "match", "number", "standing", "greatest", "cell", "drawn", "numbers_due", "uids_due", "due", "best"]
noncomputable abbrev lawGv : List (Str × Value) := [("len", .builtin "len"), ("Box", .ref 151), ("range", .type "range"), ("add_letter", .ref 183), ("expunge", .ref 188), ("enumerate", .type "enumerate"), ("tuple", .type "tuple"), ("held_pairs", .ref 216), ("agreed_uid", .ref 223), ("max", .builtin "max"), ("_law_ranges", .ref 230), ("_law_line", .ref 235), ("list", .type "list"), ("zip", .type "zip")]
noncomputable abbrev lawCf (i : Nat) : List (Str × Addr) := [("agreed", i + 2), ("now", i + 1), ("cells", i)]
section
variable {prog : Program} {K : Params → Frag} {w : World} {g : Gh} {sg : Sg} {c : Ct K w g sg} {vs : List (Option Value)} {news : List (Addr × Obj)} {P : Heap} {e : Expr}
theorem Tests.iff {p q : Prop} (h : Tests prog c vs news P e p) (i : p ↔ q) : Tests prog c vs news P e q := fun P₀ s hP S => h.bind hP S fun P' b s' k S' hb => ⟨P', k, S', hb.trans i⟩
end
/-- a tuple of drawn ranges -/
inductive DrawnV (h : Heap) : Value → Prop
  | mk (T ps) : PairT h T ps → Drawn ps → DrawnV h (.ref T)
theorem mono_drawn : Mono DrawnV := fun _ _ _ k x => x.casesOn fun T ps a b => .mk T ps (a.mono k) b
theorem line_len (ps : List (Int × Int)) (N : Nat) : (line ps N).length ≤ N := by have := List.length_filter_le (covs ps N) (numsTo N); rw [numsTo_length] at this; exact this
theorem held_bound {p q : List (Int × Int)} {N : Nat} : ∀ z ∈ heldPairs p q N, 1 ≤ z.1 := fun z hz => by
  rw [heldPairs] at hz
  split at hz
  · obtain ⟨i, -, e⟩ := List.mem_map.mp (List.mem_filter.mp (List.of_mem_zip hz).1).1
    lia
  · exact nomatch hz
theorem agreed_next {us : List Int} {ps : List (Int × Int)} {i : Nat} {p : Int × Int} (hs : us.Pairwise (· < ·)) (h1 : 1 ≤ p.1) (h : ps[i]? = some p) :
    agreed us (ps.take (i + 1)) = if p.1 ≤ us.length ∧ us[(p.1 - 1).toNat]? = some p.2 then p.2 else agreed us (ps.take i) := by
  have e : agreed us (ps.take (i + 1)) = if placeOf us p.2 + 1 = p.1 then p.2 else agreed us (ps.take i) := by
    unfold agreed
    rw [take_next h, List.foldl_append]
    rfl
  rw [e]
  by_cases q : placeOf us p.2 + 1 = p.1
  · have r := (place_iff hs h1).mp q
    have l := (List.getElem?_eq_some_iff.mp r).1
    rw [if_pos q, if_pos ⟨by lia, r⟩]
  · rw [if_neg q, if_neg fun h => q ((place_iff hs h1).mpr h.2)]
/-- the locals of law in its last loop -/
inductive LawV (a0 b a2 a4 a5 a6 a7 a9 ag : Option Value) : List (Option Value) → Prop
  | mk (o3 o8 o11 o12 o13 o14 o15 o16) : LawV a0 b a2 a4 a5 a6 a7 a9 ag [a0, b, a2, o3, a4, a5, a6, a7, o8, a9, ag, o11, o12, o13, o14, o15, o16]
inductive LtJ (V : List (Option Value)) (led : List (Addr × Obj)) (best : Int) : List (Option Value) → List (Addr × Obj) → Prop
  | mk (t o3 o8) : LtJ V led best (((V.set 16 (some (.int best t))).set 8 o8).set 3 o3) led
theorem law_turn {target iter : Expr} {body orelse rest : List Stmt} {lpos : Pos} {prog : Program} {w : World} {g : Gh} {i : Nat} {c : Ct KK w g ⟨lawNs, lawGv, lawCf i⟩} {P : Heap} {s : Shared} {n n₀ N B : Nat} {b dx ln : Addr} {es : List DictEntry} {now : List Int} {oN : Obj} {led : List (Addr × Obj)} {a0 a2 o3 a4 a5 a6 a7 o8 a9 o12 o13 o14 o15 o16 : Option Value} {tg tc : Tok} {cell : Int} {Φ : Flow → Shared → Prop}
    (hbody : lawAt w 15 = .For target iter body orelse lpos :: rest) (ao : Ao c.A (n + 5)) (S : Sc c [a0, some (.ref b), a2, o3, a4, a5, a6, a7, o8, a9, some (.int N tg), some (.int cell tc), o12, o13, o14, o15, o16] led P s) (hd₀ : (dx, dictOf es n₀) ∈ led) (hN₀ : (i + 1, oN) ∈ led)
    (x : BoxP P b dx es now N B) (hs : now.Pairwise (· < ·)) (hl : now.length ≤ 10) (hN : N ≤ 10) (hoN : oN.data = .cell (some (.ref ln))) (hn : IntsA ln now P)
    (k : ∀ P' s' vs', Sub P P' → LawV a0 (some (.ref b)) a2 a4 a5 a6 a7 a9 (some (.int N tg)) vs' → Sc c vs' led P' s' → Go prog c [] Φ s') :
    Go prog c body Φ s := by
  obtain rfl := (Stmt.For.inj (List.cons.inj hbody).1).2.2.1
  clear hbody
  have rg : ∀ {v : Int} {P : Heap} {vs : List (Option Value)} {news : List (Addr × Obj)} (P₀ : Heap) (v₁ : Value) (s : Shared) (Q : Value → Shared → Prop), Sub P P₀ → Sc c vs news P₀ s → IsI v P₀ v₁ → (∀ v s' P', Grow P₀ s P' s' → DrawnV P' v → Q v s') → wpAny (model prog w) c.A (call (.ref 230) [v₁]) Q NoE s := fun P₀ v₁ s Q hP S r k => by
    obtain ⟨t, rfl⟩ := r
    exact law_ranges (n := n) (ao.dn (by decide)) S.cx S.keep fun r ps s' P' G h1 h2 => k _ s' P' G (.mk r ps h1 h2)
  refine X.assign 12 (.tupG (.dcall1 (.glob 10 rfl) rfl (.nameI 11 rfl rfl) rg) (.dcall1 (.glob 10 rfl) rfl (.div (.nameI 11 rfl rfl) .int (by decide) (by decide)) rg) mono_drawn mono_drawn) S rfl rfl ?_
  intro P₁ v s₁ k₁ x₁
  refine x₁.casesOn fun M w₁ w₂ hM d₁ d₂ => ?_
  revert hM
  refine d₁.casesOn fun T₁ p hT₁ dp => d₂.casesOn ?_
  intro T₂ q hT₂ dq hM V S
  have ln' : ∀ {T : Addr} {ps : List (Int × Int)} {P : Heap} {vs : List (Option Value)} {news : List (Addr × Obj)}, PairT P T ps → Drawn ps → ∀ (P₀ : Heap) (t : Tok) (s : Shared) (Q : Value → Shared → Prop), Sub P P₀ → Sc c vs news P₀ s → (∀ v s' P', Grow P₀ s P' s' → IntsL (line ps N) P' v → Q v s') → wpAny (model prog w) c.A (call (.ref 235) [.ref T, .int N t]) Q NoE s := fun hT d P₀ t s Q hP S k =>
    law_line (n := n) (ao.dn (by decide)) S.cx S.keep (hT.mono hP) d.2 (by have := d.1; lia) (by lia) k
  refine X.assign2 13 14 (.dcallVI (.glob 11 rfl) rfl (.itemT (items := [.ref T₁, .ref T₂]) (j := 0) (.name 12 rfl rfl) .int (.ofP (fun _ _ k x => x.keeps k) hM) (by decide) (by decide) rfl rfl) (.nameI 10 rfl rfl) (ln' hT₁ dp))
    (.dcallVI (.glob 11 rfl) rfl (.itemT (items := [.ref T₁, .ref T₂]) (j := 1) (.name 12 rfl rfl) .int (.ofP (fun _ _ k x => x.keeps k) hM) (by decide) (by decide) rfl rfl) (.nameI 10 rfl rfl) (ln' hT₂ dq)) mono_ints S rfl rfl rfl ?_
  intro P₂ v₁ v₂ s₂ k₂ x₁ x₂
  refine x₁.casesOn fun l₁ xs c₁ hl₁ hx => ?_
  refine x₂.casesOn ?_
  intro l₂ ys c₂ hl₂ hy V S
  have z₁ := hx.length
  have z₂ := hy.length
  have b₁ := line_len p N
  have b₂ := line_len q N
  have H₁ : ∀ {vs news}, Held c vs news P₂ fun h => h.IsList l₁ xs.toArray := .ofP lst_mono ⟨_, hl₁, rfl, c₁, rfl⟩
  have H₂ : ∀ {vs news}, Held c vs news P₂ fun h => h.IsList l₂ ys.toArray := .ofP lst_mono ⟨_, hl₂, rfl, c₂, rfl⟩
  refine X.assign 15 (R := PairsL (heldPairs p q N)) (.ifExp (.cmp (.eq (.len (.glob 0 rfl) (.name 13 rfl rfl) H₁ (by lia)) (.len (.glob 0 rfl) (.name 14 rfl rfl) H₂ (by lia))))
    (fun h => (Gives.listZip (.glob 12 rfl) (.glob 13 rfl) (.name 13 rfl rfl) (.name 14 rfl rfl) H₁ H₂ hx hy (by lia) (by lia)).weaken fun h' v r => by rw [heldPairs, if_pos (by lia)]; exact r)
    (fun h => Gives.nilP.weaken fun h' v r => by rw [heldPairs, if_neg (by lia)]; exact r)) S rfl rfl ?_
  intro P₃ v₃ s₃ k₃ x₃
  refine x₃.casesOn ?_
  intro ld ds cd hld hd V S
  refine X.assignI 16 .int S rfl rfl ?_
  intro P₄ t₀ s₄ k₄ V' S
  refine X.forV (.name 15 rfl rfl) S fun P₅ s₅ k₅ S => ?_
  have q₅ := k₄.trans k₅
  refine X.forP (items := ds) (ps := heldPairs p q N) 8 3 rfl rfl ⟨_, q₅ _ _ hld, rfl, cd, rfl⟩ (PairsV.mono hd q₅) S
    (fun j vs news P => LtJ V led (agreed now ((heldPairs p q N).take j)) vs news) (fun _ _ _ _ h => h.casesOn fun _ _ _ => rfl) (.mk t₀ _ _) ?_ ?_
  · intro j pr t₁ t₂ s₆ vs₁ ns₁ own' P₆ Φ hnx hpi k₆ hj
    have ha : 1 ≤ pr.1 := held_bound _ (List.mem_of_getElem? hpi)
    rw [agreed_next hs ha hpi] at hnx
    refine hj.casesOn fun t o3 o8 S => ?_
    refine hn.casesOn fun nv hln hnv => ?_
    have q₆ := k₁.trans (k₂.trans (k₃.trans (q₅.trans k₆)))
    have zn := hnv.length
    have Hn : ∀ {vs}, Held c vs (led ++ own') P₆ fun h => h.IsCell (i + 1) (some (.ref ln)) := fun _ _ _ S => ⟨_, S.get (List.mem_append_left _ hN₀), hoN⟩
    have HL : ∀ {vs news}, Held c vs news P₆ fun h => h.IsList ln nv.toArray := .ofP lst_mono (lst_mono _ _ q₆ hln)
    refine X.ifSet (p := pr.1 ≤ now.length ∧ now[(pr.1 - 1).toNat]? = some pr.2) 16 (.and (.cmp (zn ▸ .le (.nameI 8 rfl rfl) (.len (.glob 0 rfl) (.cell 1 rfl Hn) HL (by lia)))) fun h => ?_) (fun _ => .nameI 3 rfl rfl) S rfl rfl rfl fun P₇ t₃ s₇ k₇ S =>
      X.next hnx (news₂ := led) k₇ S (.mk t₃ (some (.int pr.2 t₂)) (some (.int pr.1 t₁)))
    have hlt : (pr.1 - 1).toNat < now.length := pred_lt ha h
    obtain ⟨t', e⟩ := hnv.get _ now[(pr.1 - 1).toNat] (List.getElem?_eq_getElem hlt)
    exact (Tests.cmp (.eq (.toI (.item (.cell 1 rfl Hn) (.sub (.nameI 8 rfl rfl) .int) HL (by lia) (by lia) e)) (.nameI 3 rfl rfl))).iff (by rw [List.getElem?_eq_getElem hlt]; exact Option.some_inj.symm)
  · intro s₆ vs₁ ns₁ P₆ k₆ hj
    rw [List.take_length] at hj
    refine hj.casesOn fun t o3 o8 S => ?_
    have q₁ := k₂.trans (k₃.trans (q₅.trans k₆))
    have q₆ := k₁.trans q₁
    have hm : MatchV p q P₆ (.ref M) := .mk M T₁ T₂ (hM.keeps q₁) (hT₁.mono q₁) (hT₂.mono q₁)
    exact X.ifs (p := heldPairs p q N ≠ heldPairs p q N ∨ agreed now (heldPairs p q N) ≠ agreed now (heldPairs p q N)) (.or (.cmp (.neP (ao.lit (by decide)) (.held (n := n) (p := p) (q := q) (N := N) (ao.dn (by decide)) (.glob 7 rfl) (.nameR 12 rfl rfl mono_match hm) (.nameI 10 rfl rfl) (by lia) (drawn_ok dp) (drawn_ok dq)) (.nameR 15 rfl rfl mono_pairsL (.mk ld ds cd ((q₅.trans k₆) _ _ hld) (PairsV.mono hd (q₅.trans k₆))))))
      fun _ => .cmp (.ne (.agreed (n := n) (p := p) (q := q) ao (x.mono q₆) hd₀ hs (.glob 8 rfl) (.name 1 rfl rfl) (.nameR 12 rfl rfl mono_match hm) (by lia) (drawn_ok dp) (drawn_ok dq)) (.nameI 16 rfl rfl))) S (fun h => (h.elim (· rfl) (· rfl)).elim) fun _ P₇ s₇ k₇ S => X.jp (k P₇ s₇ _ (q₆.trans k₇) (.mk _ _ _ _ _ _ _ _) S)
end Mine

end PartR19
section PartR20
open PySem PySem.W PySem.Spec PySem.Calls PyProof.Rows
set_option Elab.async false
set_option linter.unusedVariables false
set_option maxRecDepth 100000
namespace Mine
section
variable {prog : Program} {K : Params → Frag} {w : World} {g : Gh} {sg : Sg} {c : Ct K w g sg} {fx fy : Str} {fp fq : Pos} {vs : List (Option Value)} {news : List (Addr × Obj)} {P : Heap} {e e₁ e₂ : Expr} {pos lp : Pos} {R : Heap → Value → Prop} {a b : Int}
theorem Gives.sliceI {lw up : Option Expr} {lo hi : Option Int} {l : Addr} {its : List Value} {ms : List Int} (h : Gives prog c vs news P e (IsV (.ref l))) (hl : Held c vs news P fun h => h.IsList l its.toArray) (hz : its.length ≤ 1000) (pl : GPart prog c vs news P lw lo) (pu : GPart prog c vs news P up hi) (hm : IntsAre (slicePick its.toArray lo hi none).toList ms) :
    Gives prog c vs news P (.Subscript e (.Slice lw up none lp) pos) (IntsL ms) := (Gives.slice h hl hz pl pu).weaken fun h v x => x.casesOn fun r q => .mk r _ 0 q hm
inductive PairTV (ps : List (Int × Int)) (h : Heap) : Value → Prop
  | mk (T) : PairT h T ps → PairTV ps h (.ref T)
theorem mono_pairT {ps : List (Int × Int)} : Mono (PairTV ps) := fun _ _ _ k x => x.casesOn fun T a => .mk T (a.mono k)
theorem Gives.pairT1 {kd : Nat} (h : Gives prog c vs news P e (fun P' v => PairV P' v (a, b))) (h1 : isStarred e = false := by rfl) : Gives prog c vs news P (.Tuple [e] kd pos) (PairTV [(a, b)]) :=
  (Gives.tup1 h (fun _ _ _ k x => PairV.mono x k) h1).weaken fun h v x => x.casesOn fun T v₁ i p => .mk T (.mk [v₁] i (.cons p .nil))
theorem Gives.pairT0 {kd : Nat} : Gives prog c vs news P (.Tuple [] kd pos) (PairTV []) := Gives.tup0.weaken fun h v x => x.casesOn fun T i => .mk T (.mk [] i .nil)
theorem Gives.matchT {kd : Nat} {p q : List (Int × Int)} (h₁ : Gives prog c vs news P e₁ (PairTV p)) (h₂ : Gives prog c vs news P e₂ (PairTV q))
    (h1 : isStarred e₁ = false := by rfl) (h2 : isStarred e₂ = false := by rfl) : Gives prog c vs news P (.Tuple [e₁, e₂] kd pos) (MatchV p q) :=
  (Gives.tupG h₁ h₂ mono_pairT mono_pairT h1 h2).weaken fun h v x => x.casesOn fun M v₁ v₂ i r₁ r₂ => by
    revert i
    exact r₁.casesOn fun T₁ x => r₂.casesOn fun T₂ y i => .mk M T₁ T₂ i x y
end
theorem held_none {us : List Int} {N : Nat} : agreed us (heldPairs [] [] N) = 0 := by
  have e : line [] N = [] := List.filter_eq_nil_iff.mpr fun _ _ h => nomatch h
  rw [heldPairs, e]; rfl
inductive LoJ (a0 b a2 a4 a5 a6 a7 a9 ag : Option Value) (led : List (Addr × Obj)) : List (Option Value) → List (Addr × Obj) → Prop
  | mk (vs) : LawV a0 b a2 a4 a5 a6 a7 a9 ag vs → LoJ a0 b a2 a4 a5 a6 a7 a9 ag led vs led
theorem law_loop {prog : Program} {w : World} {g : Gh} {i : Nat} {c : Ct KK w g ⟨lawNs, lawGv, lawCf i⟩} {P : Heap} {s : Shared} {n n₀ N B : Nat} {b dx ln lc : Addr} {es : List DictEntry} {now cs : List Int} {oN oC : Obj} {led : List (Addr × Obj)} {a0 a2 a3 a4 a5 a6 a7 a8 a9 a11 a12 a13 a14 a15 a16 : Option Value} {tg : Tok} {Q : Value → Shared → Prop}
    (ao : Ao c.A (n + 5)) (S : Sc c [a0, some (.ref b), a2, a3, a4, a5, a6, a7, a8, a9, some (.int N tg), a11, a12, a13, a14, a15, a16] led P s) (hd₀ : (dx, dictOf es n₀) ∈ led) (hN₀ : (i + 1, oN) ∈ led) (hC₀ : (i, oC) ∈ led)
    (x : BoxP P b dx es now N B) (hs : now.Pairwise (· < ·)) (hl : now.length ≤ 10) (hN : N ≤ 10) (hoN : oN.data = .cell (some (.ref ln))) (hn : IntsA ln now P) (hoC : oC.data = .cell (some (.ref lc))) (hc : IntsA lc cs P) (hz : cs.length ≤ 5) (hQ : ∀ s', Sib g.s₀ s' → Sub g.H s'.heap → Q (.bool true) s') :
    Go prog c (lawAt w 15) (RP Q) s := by
  refine hc.casesOn fun cv hcv hci => ?_
  have zc := hci.length
  refine X.for (.sliceI (.cell 2 rfl fun _ _ _ S => ⟨_, S.get hC₀, hoC⟩) (.ofP lst_mono hcv) (by lia) (.some .int) .none (kmk_from hci (by decide))) S ?_
  intro P₁ v s₁ k₁ x₁
  refine x₁.casesOn fun r ys ky hr hy S => ?_
  refine X.forI 11 rfl ⟨_, S.keep _ _ hr, rfl, ky, rfl⟩ hy S (.inl ⟨_, hr⟩) (fun j vs news P => LoJ a0 (some (.ref b)) a2 a4 a5 a6 a7 a9 (some (.int N tg)) led vs news)
    (fun _ _ _ _ h => by refine h.casesOn fun hv => ?_; exact hv.casesOn fun _ _ _ _ _ _ _ _ => rfl) (.mk _ (.mk _ _ _ _ _ _ _ _)) ?_ ?_
  · intro j m t s₂ vs₁ ns₁ own P₂ Φ hnx _ k₂ hj
    refine hj.casesOn fun hv => hv.casesOn fun _ _ _ _ _ _ _ _ S => ?_
    exact law_turn (cell := m) (tc := t) rfl ao S (List.mem_append_left _ hd₀) (List.mem_append_left _ hN₀) (x.mono (k₁.trans k₂)) hs hl hN hoN (hn.mono (k₁.trans k₂)) fun P₃ s₃ vs' k₃ hv S => X.next hnx (news₂ := led) k₃ S (.mk _ hv)
  · intro s₂ vs₁ ns₁ P₂ k₂ hj
    refine hj.casesOn fun hv => hv.casesOn fun _ _ _ _ _ _ _ _ S => ?_
    refine X.ret (.andT (.cmp (.eqP (ao.lit (by decide)) (.held (n := n) (N := 0) (p := [(1, 4)]) (q := [(1, 4)]) (ao.dn (by decide)) (.glob 7 rfl) (.matchT (.pairT1 (.tup2 .int .int)) (.pairT1 (.tup2 .int .int))) .int (by lia) (drawn_ok ⟨by decide, by decide⟩) (drawn_ok ⟨by decide, by decide⟩)) .nilP)) (by decide)
      (.cmp (.eq (.agreed (n := n) (p := []) (q := []) ao (x.mono (k₁.trans k₂)) hd₀ hs (.glob 8 rfl) (.name 1 rfl rfl) (.matchT .pairT0 .pairT0) (by lia) (drawn_ok ⟨by decide, by decide⟩) (drawn_ok ⟨by decide, by decide⟩)) .int))) S ?_
    rintro P₃ _ s₃ k₃ ⟨q, rfl, hq⟩ S
    rw [hq.mpr held_none]
    exact hQ s₃ S.sib S.frame
end Mine

end PartR20
section PartR21
open PySem PySem.W PySem.Spec PySem.Calls PyProof.Rows
set_option Elab.async false
set_option linter.unusedVariables false
set_option maxRecDepth 100000
namespace Mine
theorem law_check2 {prog : Program} {w : World} {g : Gh} {i : Nat} {c : Ct KK w g ⟨lawNs, lawGv, lawCf i⟩} {P : Heap} {s : Shared} {n n₀ N B : Nat} {b dx ln lc : Addr} {vt : Value} {es : List DictEntry} {now cs th : List Int} {p q ps : List (Int × Int)} {M : Value} {oA oN oC : Obj} {vA : Option Value} {a0 a2 a3 a4 a6 a8 a9 a11 a12 a13 a14 a15 a16 : Option Value} {tg : Tok} {Q : Value → Shared → Prop}
    (ao : Ao c.A (n + 5)) (S : Sc c [a0, some (.ref b), a2, a3, a4, some vt, a6, some M, a8, a9, some (.int N tg), a11, a12, a13, a14, a15, a16] [(dx, dictOf es n₀), (i + 2, oA), (i + 1, oN), (i, oC)] P s)
    (x : BoxP P b dx es now N B) (hs : now.Pairwise (· < ·)) (hl : now.length ≤ 10) (hN : N ≤ 10) (hoN : oN.data = .cell (some (.ref ln))) (hn : IntsL now P (.ref ln)) (hoC : oC.data = .cell (some (.ref lc))) (hc : IntsA lc cs P) (hz : cs.length ≤ 5) (hoA : oA.data = .cell vA)
    (ht : IntsL th P vt) (hm : MatchV p q P M) (ok₁ : OkSet p N) (ok₂ : OkSet q N) (hh : heldPairs p q N = ps) (hf : (th.filter fun u => decide (u ≤ agreed now ps ∧ u ∉ now)) = []) (hzt : th.length ≤ 100) (hQ : ∀ s', Sib g.s₀ s' → Sub g.H s'.heap → Q (.bool true) s') :
    Go prog c (lawAt w 13) (RP Q) s := by
  subst hh
  refine X.assignC 0 1 (.agreed (n := n) ao x (.head _) hs (.glob 8 rfl) (.name 1 rfl rfl) (.nameR 7 rfl rfl mono_match hm) (by lia) ok₁ ok₂) S rfl rfl hoA ?_
  rintro P₁ _ s₁ k₁ ⟨t, rfl⟩ S
  generalize agreed now (heldPairs p q N) = m at S hf
  refine X.ifs (.cmp (.neL (ao.lit (by decide)) (.weaken (.comp (oc := none) (ns' := ["uid"]) (gv' := []) (J := fun j ys _ => IntsAre ys ((th.take j).filter fun u => decide (u ≤ m ∧ u ∉ now))) (.nameR 5 rfl rfl mono_ints (mono_ints _ _ _ k₁ ht))
    hit_ints (Nat.le_trans hzt (by decide)) rfl rfl (by kernel_rfl!) rfl rfl (fun _ _ => rfl) (fun _ => rfl) (fun _ _ => .nil) (turnI fun P₀ s₀ g' c' hP₀ S₀ hH hA' j z t' s₂ ys P₁' led T₁ T₀ m₁ m₀ hz' hP₁ hJ hyl S => ?_)) fun h v x => x.ints (ns := th.filter fun u => decide (u ≤ m ∧ u ∉ now)) fun ys P j => by rw [List.take_length] at j; exact j) .nilI)) S (fun h => absurd hf h) fun _ P₂ s₂ k₂ S => X.jp ?_
  · have hcN : g'.H.IsCell (i + 1) (some (.ref ln)) := ⟨oN, hH _ _ (S₀.get (.tail _ (.tail _ (.head _)))), hoN⟩
    exact turnIf (.and (.cmp (.le (.nameI 0 rfl rfl) (.toI (.cell 1 rfl (.ofH cell_mono ⟨_, hH _ _ (S₀.get (.tail _ (.head _))), rfl⟩))))) fun _ => .cmp (.notInL (.nameI 0 rfl rfl) (.cellR 0 rfl (.ofH cell_mono hcN) mono_ints (mono_ints _ _ _ (k₁.trans (hP₀.trans hP₁)) hn)))) S
      (fun hp P₃ s₃ hP₃ S => El.ofI (.nameI 0 rfl rfl) S fun P₄ t'' s₄ hP₄ S => m₁ (hP₃.trans hP₄) S (take_mem hz' (decide_eq_true hp) hJ))
      fun hp P₃ s₃ hP₃ S => m₀ hP₃ S ((take_skip (p := fun u => decide (u ≤ m ∧ u ∉ now)) hz' fun x => hp (of_decide_eq_true x)) ▸ hJ)
  · exact law_loop (n := n) ao S (.head _) (.tail _ (.tail _ (.head _))) (.tail _ (.tail _ (.tail _ (.head _)))) (x.mono (k₁.trans k₂)) hs hl hN hoN (mono_ints _ _ _ (k₁.trans k₂) hn).asA hoC (hc.mono (k₁.trans k₂)) hz hQ
end Mine

end PartR21
section PartR22
open PySem PySem.W PySem.Spec PySem.Calls PyProof.Rows
set_option Elab.async false
set_option linter.unusedVariables false
set_option maxRecDepth 100000
namespace Mine
theorem slice_at {now : List Int} {a u : Int} (ha : 1 ≤ a) : (now.drop (a - 1).toNat).take (min a.toNat now.length - (a - 1).toNat) = [u] ↔ now[(a - 1).toNat]? = some u := by
  generalize hk : (a - 1).toNat = k
  have e : a.toNat = k + 1 := by lia
  rw [e]
  by_cases h : k < now.length
  · rw [Nat.min_eq_left h, show k.succ - k = 1 by lia, List.drop_eq_getElem_cons h, List.getElem?_eq_getElem h]
    show [now[k]] = [u] ↔ some now[k] = some u
    simp only [List.cons.injEq, and_true, Option.some.injEq]
  · rw [List.drop_of_length_le (Nat.not_lt.mp h), List.take_nil, List.getElem?_eq_none (Nat.not_lt.mp h)]
    exact ⟨(fun h => nomatch h), (fun h => nomatch h)⟩
theorem stand_keep {now : List Int} {ps : List (Int × Int)} {j : Nat} {p : Int × Int} {ys : List Value} {t : Tok} (h : ps[j]? = some p) (hp : now[(p.1 - 1).toNat]? = some p.2) (hJ : IntsAre ys (standing now (ps.take j))) : IntsAre (ys ++ [.int p.2 t]) (standing now (ps.take (j + 1))) := by
  unfold standing at hJ ⊢
  rw [take_keep h (decide_eq_true hp), List.map_append]
  exact hJ.append (.cons _ _ .nil)
theorem stand_skip {now : List Int} {ps : List (Int × Int)} {j : Nat} {p : Int × Int} (h : ps[j]? = some p) (hp : ¬ now[(p.1 - 1).toNat]? = some p.2) : standing now (ps.take (j + 1)) = standing now (ps.take j) := by
  unfold standing
  rw [take_skip h fun x => hp (of_decide_eq_true x)]
theorem intsA {prog : Program} {w : World} {K : Params → Frag} {g : Gh} {sg : Sg} {c : Ct K w g sg} {vs : List (Option Value)} {news : List (Addr × Obj)} {P : Heap} {e : Expr} {xs : List Int} (h : Gives prog c vs news P e (IntsL xs)) : Gives prog c vs news P e (IntsB xs) :=
  h.weaken fun h v x => x.casesOn fun r ys k hr hi => .mk r (.mk ys ⟨_, hr, rfl, k, rfl⟩ hi)
theorem law_check {prog : Program} {w : World} {g : Gh} {i : Nat} {c : Ct KK w g ⟨lawNs, lawGv, lawCf i⟩} {P : Heap} {s : Shared} {n n₀ N B : Nat} {b dx ln lc : Addr} {vt : Value} {es : List DictEntry} {cs th : List Int} {f : Int → Bool} {ps : List (Int × Int)} {M V : Value} {oA oN oC : Obj} {vA : Option Value} {a0 a2 a3 a4 a8 a9 a10 a11 a12 a13 a14 a15 a16 : Option Value} {Q : Value → Shared → Prop}
    (ao : Ao c.A (n + 5)) (S : Sc c [a0, some (.ref b), a2, a3, a4, some vt, some V, some M, a8, a9, a10, a11, a12, a13, a14, a15, a16] [(dx, dictOf es n₀), (i + 2, oA), (i + 1, oN), (i, oC)] P s)
    (x : BoxP P b dx es (th.filter f) N B) (hs : th.Pairwise (· < ·)) (hl : th.length ≤ N) (h1 : ∀ u ∈ th, 1 ≤ u ∧ u ≤ N) (hN : N ≤ 10) (hoN : oN.data = .cell (some (.ref ln))) (hn : IntsL (th.filter f) P (.ref ln)) (hoC : oC.data = .cell (some (.ref lc))) (hc : IntsA lc cs P) (hz : cs.length ≤ 5) (hoA : oA.data = .cell vA)
    (ht : IntsL th P vt) (hV : PairsL ps P V) (po : PO th th.length ps) (hm : MatchV (diag (ps.map (·.1))) (diag (ps.reverse.map (·.2))) P M) (hQ : ∀ s', Sib g.s₀ s' → Sub g.H s'.heap → Q (.bool true) s') :
    Go prog c (lawAt w 10) (RP Q) s := by
  have hu := fun u hu => (h1 u hu).1
  have hnl := List.length_filter_le f th
  obtain ⟨ok₁, ok₂⟩ := po_ok po (Nat.le_trans hl hN) h1
  have hh := po_held po hl h1
  have hst := po_stands (f := f) po hs hu
  have hmx := (po_agreed po (hs.filter f) hu).2
  generalize diag (ps.map (·.1)) = p at hm hh ok₁
  generalize diag (ps.reverse.map (·.2)) = q at hm hh ok₂
  have hns := hs.filter f
  have at_ := po.at_
  have hpl := po.len
  clear hu po
  generalize th.filter f = now at x hn hnl hst hmx hns
  refine X.assignComp (oc := none) (ns' := ["number", "uid"]) (gv' := []) (n := ps.length) (Pv := fun j v _ => ∃ p, ps[j]? = some p ∧ PairV P v p) (J := fun j ys _ => IntsAre ys (standing now (ps.take j))) 9 (.name 6 rfl rfl) S rfl rfl
    (hit_pairs hV) (by lia) rfl rfl rfl rfl (by kernel_rfl!) rfl rfl (fun _ _ => rfl) (fun _ => rfl) (fun _ _ => .nil) ?_ ?_
  · intro P₀ s₀ g' cl c' hP₀ S₀ hH hA' j v s₁ ys P₁ D kk vs₁ own u T₁ T₀ m₁ m₀ hj hv hP₁ hJ hyl hvs S
    obtain ⟨pr, hpj, hv⟩ := hv
    obtain ⟨o₁, o₂, rfl⟩ := len2 hvs
    refine hv.casesOn fun T t₁ t₂ hT => ?_
    have ha : 1 ≤ pr.1 := (at_ _ (List.mem_of_getElem? hpj)).1
    refine q_unpack2 c'.hA c'.V S ((hT.keeps (hP₀.trans hP₁)).keeps S.keep) (vec_set 0 rfl rfl) (vec_set 1 rfl rfl) fun s₂ S => ?_
    change Sc c' [some (.int pr.1 t₁), some (.int pr.2 t₂)] _ P₁ s₂ at S
    refine hn.asA.casesOn fun nv hln hnv => ?_
    have zn := hnv.length
    have hcN : g'.H.IsCell (i + 1) (some (.ref ln)) := ⟨oN, hH _ _ (S₀.get (.tail _ (.tail _ (.head _)))), hoN⟩
    have hlN : g'.H.IsList ln nv.toArray := lst_mono _ _ ((hP₀.trans S₀.keep).trans hH) hln
    exact turnIf ((Tests.cmp (.eqL (hA' ▸ ao.lit (by decide)) (.sliceI (.cell 0 rfl (.ofH cell_mono hcN)) (.ofH lst_mono hlN) (by lia) (.some (.sub (.nameI 0 rfl rfl) .int)) (.some (.nameI 0 rfl rfl)) (kmk_run hnv (by lia) (by lia))) (.list1 (.nameI 1 rfl rfl)))).iff (slice_at ha)) S
      (fun hp P₃ s₃ hP₃ S => El.ofI (.nameI 1 rfl rfl) S fun P₄ t'' s₄ hP₄ S => m₁ rfl (hP₃.trans hP₄) S (stand_keep hpj hp hJ))
      fun hp P₃ s₃ hP₃ S => m₀ rfl hP₃ S (by dsimp only; rw [stand_skip hpj hp]; exact hJ)
  intro P₁ v s₁ k₁ hst'
  replace hst' : IntsL (standing now ps) P₁ v := hst'.ints fun ys P j => by rw [List.take_length] at j; exact j
  intro V' S
  have hsl : (standing now ps).length ≤ 10 := by
    unfold standing
    rw [List.length_map]
    exact Nat.le_trans (List.length_filter_le _ _) (by lia)
  refine (x.mono k₁).casesOn fun T l gl items gits kg hb bd _ _ _ _ _ => ?_
  obtain ⟨tn, hgn⟩ := bd.nu
  refine X.assignI 10 (a := N) (.weaken (.sub (.toI (.attr (.name 1 rfl rfl) (fun P₀ s₀ q S₀ => ⟨dx, n₀, S₀.keep _ _ (q _ _ hb), S₀.get (.head _)⟩) (ok_box_next w) hgn rfl)) .int) fun _ _ ⟨t, e⟩ => ⟨t, e.trans (by rw [Int.add_sub_cancel])⟩) S rfl rfl ?_
  intro P₂ tg s₂ k₂ V' S
  have q₂ := k₁.trans k₂
  refine X.ifs (p := heldPairs p q N ≠ ps ∨ agreed now (heldPairs p q N) ≠ agreed now ps) (.or (.cmp (.neP (ao.lit (by decide)) (.held (n := n) (p := p) (q := q) (N := N) (ao.dn (by decide)) (.glob 7 rfl) (.nameR 7 rfl rfl mono_match (mono_match _ _ _ q₂ hm)) (.nameI 10 rfl rfl) (by lia) ok₁ ok₂) (.nameR 6 rfl rfl mono_pairsL (mono_pairsL _ _ _ q₂ hV))))
    fun _ => .cmp (.ne (.agreed (n := n) (p := p) (q := q) ao (x.mono q₂) (.head _) hns (.glob 8 rfl) (.name 1 rfl rfl) (.nameR 7 rfl rfl mono_match (mono_match _ _ _ q₂ hm)) (by lia) ok₁ ok₂) (.maxL (m := agreed now ps) (.glob 9 rfl) (.catI (xs := [0]) (intsA (.list1 .int)) (.nameR 9 rfl rfl mono_ints (mono_ints _ _ _ k₂ hst')) (by show 1 + _ ≤ _; lia)) (Nat.succ_pos _) hmx))) S (fun h => ?_) fun _ P₃ s₃ k₃ S => X.jp ?_
  · rw [hh] at h; exact (h.elim (· rfl) (· rfl)).elim
  · have q₃ := q₂.trans k₃
    exact law_check2 (n := n) ao S (x.mono q₃) hns (by lia) hN hoN (mono_ints _ _ _ q₃ hn) hoC (hc.mono q₃) hz hoA (mono_ints _ _ _ q₃ ht) (mono_match _ _ _ q₃ hm) ok₁ ok₂ hh hst (by lia) hQ
end Mine

end PartR22
section PartR23
open PySem PySem.W PySem.Spec PySem.Calls PyProof.Rows
set_option Elab.async false
set_option linter.unusedVariables false
set_option maxRecDepth 100000
namespace Mine
theorem pow_fit : ∀ k : Nat, k ≤ 10 → (2 : Int) ^ k ≠ 0 ∧ ((2 : Int) ^ k).natAbs < 1073741824 := by decide
section
variable {prog : Program} {K : Params → Frag} {w : World} {g : Gh} {sg : Sg} {c : Ct K w g sg} {fx fy : Str} {fp fq : Pos} {vs : List (Option Value)} {news : List (Addr × Obj)} {P : Heap} {e e₁ e₂ elt iter : Expr} {pos p1 p2 p3 p4 p5 px : Pos} {x : Str} {a b : Int}
theorem Tests.bit {k1 k2 k3 : Nat} (h₁ : Gives prog c vs news P e₁ (IsI a)) (h₂ : Gives prog c vs news P e₂ (IsI b)) (h0 : 0 ≤ b) (h1 : b ≤ 10) : Tests prog c vs news P (.Compare (.BinOp (.BinOp e₁ .FloorDiv (.BinOp (.Constant (.int 2) k1 p1) .Pow e₂ p2) p3) .Mod (.Constant (.int 2) k2 p4) p5) [.Eq] [.Constant (.int 1) k3 px] pos) ((a.fdiv (2 ^ b.toNat)).fmod 2 = 1) :=
  let h := pow_fit b.toNat (by lia)
  .cmp (.eq (.mod (.div h₁ (.pow2 .int h₂ h0 (by lia)) h.1 h.2) .int (by decide)) .int)
inductive SelI (j : Nat) (ys : List Value) : Prop
  | mk (ms) : IntsAre ys ms → ms.length ≤ j → SelI j ys
noncomputable abbrev SelJ (j : Nat) (ys : List Value) (_ : Heap) : Prop := SelI j ys
theorem sel_turn {cv' : List (Str × Addr)} {xs : List Int} (ht : ∀ P₀ s₀ g' (c' : Ct K w g' ⟨[x], [], cv'⟩), Sub P P₀ → Sc c vs news P₀ s₀ → Sub s₀.heap g'.H → ∀ u t P₁ led, u ∈ xs → ∃ p, Tests prog c' [some (.int u t)] led P₁ e p) :
    Turn prog c vs news P none (.Name x p1) (.Name x px) [e] [x] [] cv' xs.length (fun j v _ => ∃ m t, xs[j]? = some m ∧ v = .int m t) SelJ := by
  refine turnI fun P₀ s₀ g' c' hP₀ S₀ hH hA' j z t' s₂ ys P₁ led T₁ T₀ m₁ m₀ hz' hP₁ hJ hyl S => ?_
  refine hJ.casesOn fun ms hi hm => (ht P₀ s₀ g' c' hP₀ S₀ hH z t' P₁ led (List.mem_of_getElem? hz')).elim fun p T => ?_
  exact turnIf T S (fun hp P₃ s₃ hP₃ S => El.ofI (.nameI 0 rfl rfl) S fun P₄ t'' s₄ hP₄ S => m₁ (hP₃.trans hP₄) S (.mk (ms ++ [z]) (hi.append (.cons _ _ .nil)) (by rw [List.length_append]; exact Nat.succ_le_succ hm)))
    fun hp P₃ s₃ hP₃ S => m₀ hP₃ S (.mk ms hi (Nat.le_succ_of_le hm))
theorem sel_made {n : Nat} {v : Value} (m : Made (SelJ n) P v) (h : n ≤ 100) : SomeL P v := m.casesOn fun r ys k P₀ a b hJ => hJ.casesOn fun ms hi hm => .mk ms (Nat.le_trans hm h) (.mk r ys k a hi)
theorem Gives.tupleP {ps : List (Int × Int)} (hf : Gives prog c vs news P (.Name fx fp) (IsV (.type "tuple"))) (h₁ : Gives prog c vs news P e₁ (PairsL ps)) (hz : ps.length ≤ 100)
    (h1 : isStarred e₁ = false := by rfl)
    : Gives prog c vs news P (.Call (.Name fx fp) [e₁] [] pos) (PairTV ps) :=
  (Gives.tupleG (F := fun h its => PairsV h its ps) (fun _ _ _ k x => PairsV.mono x k) hf (h₁.weaken fun h v x => x.casesOn fun r ys k a p => .mk r ys ⟨_, a, rfl, k, rfl⟩ (by rw [p.length]; exact Nat.le_trans hz (by decide)) p) h1).weaken fun h v x => x.casesOn fun T its a p => .mk T (.mk its a p)
theorem pairs_comp {scope : Scope} {cpos : Pos} {f : Int × Int → Int} {ps : List (Int × Int)} (h : Gives prog c vs news P iter (PairsL ps)) (hn : ps.length ≤ 1000000)
    (helt : ∀ g' (c' : Ct K w g' ⟨[x], [], []⟩) P' (p : Int × Int) (T : Addr) t u led, IsTup P' T #[.int p.1 t, .int p.2 u] → Gives prog c' [some (.ref T)] led P' elt (fun P v => PairV P v (f p, f p)))
    (hf : freeOk scope sg.cv = true) (hm : compNm scope = true) (hk : compOk (K w.params) scope [x] [] = true) (hcl : closOf scope.names sg.cv = []) (hch : cvChk scope none [] (sg.cv.map (·.1)) = true)
    (hcs : ∀ n acc, cellsFrom n scope.names acc = cellsOc none n acc) (hps' : ∀ h, pushCells h scope.names = pushOc none h)
    (hs : ∀ x, foldedSetIterable iter c.env x = pure x := by intro _; rfl) : Gives prog c vs news P (.ListComp elt [⟨.Name x px, iter, [], 0⟩] scope cpos) (PairsL (diag (ps.map f))) := by
  intro P₉ s₉ hP₉ S₉
  refine q_ListComp c.V hf hm (h.bind hP₉ S₉ fun P v s hP S r => ?_) hs
  obtain ⟨need, IT⟩ := hit_pairs r P v s (.refl _) S rfl
  refine q_comp1 c.V IT S hn hk hcl hch hcs hps' (fun j ys P => PairsV P ys (diag ((ps.take j).map f))) .nil (turn1 S (.refl _) (turnOne fun P₀ s₀ g' c' hP₀ S₀ hH hA' j v s₁ s₂ ys P₁ led T₁ T₀ m₁ m₀ hj hv hP₁ hJ hyl S => turnAll ?_)) fun s₂ Pa Pb D ys k h1 h2 hJ hyl hD S₂ => ⟨Pb, hP.trans h1, S₂, .mk D ys k hD (PairsV.mono (List.take_length (l := ps) ▸ hJ) h2)⟩
  obtain ⟨p, hpj, hv⟩ := hv
  revert m₁ m₀ S
  refine hv.casesOn fun T t₁ t₂ hT m₁ m₀ S => ?_
  refine El.of (helt g' c' P₁ p T t₁ t₂ _ (hT.keeps (hP₀.trans hP₁))) S fun P₄ y s₄ hP₄ hy S => m₁ hP₄ S ?_
  show PairsV _ _ (diag ((ps.take (j + 1)).map f))
  rw [take_next hpj]
  unfold diag
  rw [List.map_append, List.map_append]
  exact (PairsV.mono hJ hP₄).snoc hy
end
end Mine

end PartR23
section PartR24
open PySem PySem.W PySem.Spec PySem.Calls PyProof.Rows
set_option Elab.async false
set_option linter.unusedVariables false
set_option maxRecDepth 100000
namespace Mine
theorem cs_at {cs : List Int} {cv : List Value} (hi : IntsAre cv cs) (j : Nat) (h : j < cs.length) : ∃ z t, cv[j]? = some (.int z t) := let ⟨t, e⟩ := hi.get j cs[j] (List.getElem?_eq_getElem h); ⟨_, t, e⟩
theorem law_make {prog : Program} {w : World} {g : Gh} {i : Nat} {c : Ct KK w g ⟨lawNs, lawGv, lawCf i⟩} {P : Heap} {s : Shared} {n n₀ N : Nat} {b dx lc : Addr} {es : List DictEntry} {cs : List Int} {oA oN oC : Obj} {vA vN : Option Value} {a0 a2 a3 a4 a5 a6 a7 a8 a9 a10 a11 a12 a13 a14 a15 a16 : Option Value} {Q : Value → Shared → Prop}
    (ao : Ao c.A (n + 5)) (S : Sc c [a0, some (.ref b), a2, a3, a4, a5, a6, a7, a8, a9, a10, a11, a12, a13, a14, a15, a16] [(dx, dictOf es n₀), (i + 2, oA), (i + 1, oN), (i, oC)] P s)
    (x : BoxP P b dx es (numsTo N) N 0) (hN : N ≤ 10) (hoN : oN.data = .cell vN) (hoC : oC.data = .cell (some (.ref lc))) (hc : IntsA lc cs P) (hz3 : 3 ≤ cs.length) (hz : cs.length ≤ 5) (hoA : oA.data = .cell vA) (hQ : ∀ s', Sib g.s₀ s' → Sub g.H s'.heap → Q (.bool true) s') :
    Go prog c (lawAt w 3) (RP Q) s := by
  have nl := numsTo_length N
  refine hc.casesOn fun cv hcv hci => ?_
  obtain ⟨z0, t0, e0⟩ := cs_at hci 0 (by lia)
  obtain ⟨z1, t1, e1⟩ := cs_at hci 1 (by lia)
  obtain ⟨z2, t2, e2⟩ := cs_at hci 2 (by lia)
  have nb : ∀ u ∈ numsTo N, 1 ≤ u ∧ u ≤ N := fun u hu => by
    obtain ⟨j, hj, e⟩ := List.mem_map.mp (show u ∈ (List.range N).map fun i : Nat => (i : Int) + 1 from hu)
    have := List.mem_range.mp hj
    lia
  have cell : ∀ {s₀ : Shared} {g' : Gh} {P₀ : Heap} {vs : List (Option Value)} {d : Addr × Obj}, Sc c vs [d, (i + 2, oA), (i + 1, oN), (i, oC)] P₀ s₀ → Sub s₀.heap g'.H → g'.H.IsCell i (some (.ref lc)) := fun S₀ hH =>
    ⟨oC, hH _ _ (S₀.get (.tail _ (.tail _ (.tail _ (.head _))))), hoC⟩
  refine X.assignComp (oc := none) (ns' := ["uid"]) (gv' := []) (J := SelJ) 4 (.uids (n := n) (ao.dn (by decide)) x (.head _) (.name 1 rfl rfl)) S rfl rfl
    hit_ints (by lia) rfl rfl rfl rfl (by kernel_rfl!) rfl rfl (fun _ _ => rfl) (fun _ => rfl) (fun _ _ => ⟨[], .nil, Nat.le_refl _⟩)
    (sel_turn fun P₀ s₀ g' c' hP₀ S₀ hH u t P₁ led hu => ?_) ?_
  · have hb := nb u hu
    exact ⟨_, Tests.bit (.div (.toI (.item (.cell 0 rfl (.ofH cell_mono (cell S₀ hH))) .int (.ofH lst_mono (lst_mono _ _ ((hP₀.trans S₀.keep).trans hH) hcv)) (by decide) (by decide) e0)) .int (by decide) (by decide)) (.sub (.nameI 0 rfl rfl) .int) (by lia) (by lia)⟩
  intro P₁ v s₁ k₁ hv
  replace hv := sel_made hv (by lia)
  intro V S
  refine X.expunge (n := n) (ao.dn (by decide)) 0 (x.mono k₁) (by lia) S rfl (.glob 4 rfl) (.name 1 rfl rfl) (.nameR 4 rfl rfl (fun _ _ _ k x => x.casesOn fun ws h q => .mk ws h (mono_ints _ _ _ k q)) hv) ?_
  clear hv
  intro ws es' n' s₂ P₂ k₂ x' S
  have hs := (numsTo_asc N).filter fun u => decide (u ∉ ws)
  have hl : ((numsTo N).filter fun u => decide (u ∉ ws)).length ≤ N := Nat.le_trans (List.length_filter_le _ _) (Nat.le_of_eq nl)
  have hb : ∀ u ∈ (numsTo N).filter fun u => decide (u ∉ ws), 1 ≤ u ∧ u ≤ N := fun u hu => nb u (List.mem_filter.mp hu).1
  clear x nb nl
  generalize ((numsTo N).filter fun u => decide (u ∉ ws)) = th at hs hl hb x'
  replace k₂ := k₁.trans k₂
  have hlc := lst_mono _ _ k₂ hcv
  refine X.assign 5 (.uids (n := n) (ao.dn (by decide)) x' (.head _) (.name 1 rfl rfl)) S rfl rfl ?_
  intro P₃ vt s₃ k₃ ht V S
  refine X.assignEnum (oc := none) (ns' := ["at", "uid"]) (gv' := []) (xs := th) (J := fun j ys P => ∃ ps, PairsV P ys ps ∧ PO th j ps) 6 (.glob 5 rfl) (.nameR 5 rfl rfl mono_ints ht) S rfl rfl (by lia) rfl rfl rfl rfl (by kernel_rfl!) rfl rfl (fun _ _ => rfl) (fun _ => rfl) (fun _ _ => ⟨[], .nil, Nat.le_refl _, .nil, fun _ h => nomatch h⟩) ?_ ?_
  · intro P₀ s₀ g' cl c' hP₀ S₀ hH hA' j v s₁ ys P₁ D kk vs₁ own u T₁ T₀ m₁ m₀ hj hv hP₁ hJ hyl hvs
    obtain ⟨ps, hps, po⟩ := hJ
    obtain ⟨o₁, o₂, rfl⟩ := len2 hvs
    refine hv.casesOn fun T t z t' hz' hT S => ?_
    refine q_unpack2 c'.hA c'.V S hT (vec_set 0 rfl rfl) (vec_set 1 rfl rfl) fun s₂ S => ?_
    change Sc c' [some (.int j t), some (.int z t')] _ P₁ s₂ at S
    exact turnIf (.bit (.toI (.item (i := 1) (.cell 0 rfl (.ofH cell_mono (cell S₀ hH))) .int (.ofH lst_mono (lst_mono _ _ (((k₃.trans hP₀).trans S₀.keep).trans hH) hlc)) (by decide) (by decide) e1)) (.nameI 0 rfl rfl) (by lia) (by lia)) S
      (fun hp P₃ s₃ hP₃ S => El.of (Gives.tup2 (a := (j : Int) + 1) (b := z) (.add (.nameI 0 rfl rfl) .int) (.nameI 1 rfl rfl)) S fun P₄ y s₄ hP₄ hy S => m₁ rfl (hP₃.trans hP₄) S ⟨ps ++ [((j : Int) + 1, z)], (PairsV.mono hps (hP₃.trans hP₄)).snoc hy, po.add hs hz'⟩)
      fun hp P₃ s₃ hP₃ S => m₀ rfl hP₃ S ⟨ps, PairsV.mono hps hP₃, po.skip⟩
  intro P₄ vp s₄ k₄ hv
  obtain ⟨ps, po, hV⟩ : ∃ ps, PO th th.length ps ∧ PairsL ps P₄ vp := hv.casesOn fun lp pv kp P₀ hlp hk h => h.elim fun ps h => ⟨ps, h.2, .mk lp pv kp hlp (PairsV.mono h.1 hk)⟩
  clear hv
  intro V S
  have hpl := po.len
  refine X.assign 7 (R := MatchV (diag (ps.map (·.1))) (diag (ps.reverse.map (·.2)))) (.matchT (.tupleP (.glob 6 rfl) (pairs_comp (f := fun p => p.1) (.nameR 6 rfl rfl mono_pairsL hV) (by lia) (fun g' c' P' p T t u led hT => .tup2 (.toI (.itemT (items := [.int p.1 t, .int p.2 u]) (j := 0) (.name 0 rfl rfl) .int (.ofP (fun _ _ k x => x.keeps k) hT) (by decide) (by decide) rfl rfl)) (.toI (.itemT (items := [.int p.1 t, .int p.2 u]) (j := 0) (.name 0 rfl rfl) .int (.ofP (fun _ _ k x => x.keeps k) hT) (by decide) (by decide) rfl rfl)))
      rfl rfl (by kernel_rfl!) rfl rfl (fun _ _ => rfl) (fun _ => rfl)) (by unfold diag; rw [List.length_map, List.length_map]; lia))
    (.tupleP (.glob 6 rfl) (pairs_comp (f := fun p => p.2) (.revP (.name 6 rfl rfl) hV (by lia)) (by rw [List.length_reverse]; lia) (fun g' c' P' p T t u led hT => .tup2 (.toI (.itemT (items := [.int p.1 t, .int p.2 u]) (j := 1) (.name 0 rfl rfl) .int (.ofP (fun _ _ k x => x.keeps k) hT) (by decide) (by decide) rfl rfl)) (.toI (.itemT (items := [.int p.1 t, .int p.2 u]) (j := 1) (.name 0 rfl rfl) .int (.ofP (fun _ _ k x => x.keeps k) hT) (by decide) (by decide) rfl rfl)))
      rfl rfl (by kernel_rfl!) rfl rfl (fun _ _ => rfl) (fun _ => rfl)) (by unfold diag; rw [List.length_map, List.length_map, List.length_reverse]; lia))) S rfl rfl ?_
  intro P₅ M s₅ k₅ hm V S
  have q₅ := k₄.trans k₅
  have r₅ := k₃.trans q₅
  refine X.expunge (n := n) (ao.dn (by decide)) 0 (x'.mono r₅) (by lia) S rfl (.glob 4 rfl) (.name 1 rfl rfl) (.weaken (.comp (oc := none) (ns' := ["uid"]) (gv' := []) (J := SelJ) (.nameR 5 rfl rfl mono_ints (mono_ints _ _ _ q₅ ht))
    hit_ints (by lia) rfl rfl (by kernel_rfl!) rfl rfl (fun _ _ => rfl) (fun _ => rfl) (fun _ _ => ⟨[], .nil, Nat.le_refl _⟩)
    (sel_turn fun P₀ s₀ g' c' hP₀ S₀ hH u t P₁ led hu => ?_)) fun h v m => sel_made m (by lia)) ?_
  · have hb := hb u hu
    exact ⟨_, .bit (.toI (.item (i := 2) (.cell 0 rfl (.ofH cell_mono (cell S₀ hH))) .int (.ofH lst_mono (lst_mono _ _ (((r₅.trans hP₀).trans S₀.keep).trans hH) hlc)) (by decide) (by decide) e2)) (.sub (.nameI 0 rfl rfl) .int) (by lia) (by lia)⟩
  intro ws es' n' s₆ P₆ k₆ x₆ S
  refine X.assignC 1 2 (.uids (n := n) (ao.dn (by decide)) x₆ (.head _) (.name 1 rfl rfl)) S rfl rfl hoN ?_
  intro P₇ vn s₇ k₇ hn
  refine hn.casesOn fun ln nv kn hln hni S => ?_
  clear hn
  have hn : IntsL _ P₇ (.ref ln) := .mk ln nv kn hln hni
  have q₇ := k₆.trans k₇
  have ht' := mono_ints _ _ _ (q₅.trans q₇) ht
  have hcl := hc.mono (k₂.trans (r₅.trans q₇))
  exact law_check (n := n) (f := fun u => decide (u ∉ ws)) ao S (x₆.mono k₇) hs hl hb hN rfl hn hoC hcl hz hoA ht' (mono_pairsL _ _ _ (k₅.trans q₇) hV) po (mono_match _ _ _ q₇ hm) hQ
end Mine

end PartR24
section PartR25
open PySem PySem.W PySem.Spec PySem.Calls PyProof.Rows
set_option Elab.async false
set_option linter.unusedVariables false
set_option maxRecDepth 100000
namespace Mine
section
variable {prog : Program} {K : Params → Frag} {w : World} {g : Gh} {sg : Sg} {c : Ct K w g sg} {fx fy : Str} {fp fq : Pos} {vs : List (Option Value)} {news : List (Addr × Obj)} {P : Heap} {e : Expr} {pos lp : Pos}
theorem Gives.sliceUp {up : Option Expr} {k : Int} {xs : List Int} (h : Gives prog c vs news P e (IntsB xs)) (hz : xs.length ≤ 1000) (pu : GPart prog c vs news P up (some k)) (hk : 0 ≤ k) : Gives prog c vs news P (.Subscript e (.Slice none up none lp) pos) (IntsL (xs.take k.toNat)) := fun P₀ s hP S =>
  Subscript_ (h.bind hP S fun P₁ v₁ s₁ k₁ S₁ x => by
    obtain ⟨l, its, hl, hi⟩ := x
    exact wpAny_Slice (wpAny_pure (pu _ _ _ (hP.trans k₁) S₁ fun P₃ vu s₃ iu k₃ S₃ => wpAny_pure (kba_turn (value' := .Name default default) (fun _ => rfl) (q_slice S₃ (S₃.lst (lst_mono _ _ k₃ hl)) (Nat.le_trans (Nat.le_of_eq hi.length) hz) .none iu (fun D s' S' => S'.sealNew.casesOn fun P' h1 h2 h3 =>
      ⟨P', k₁.trans (k₃.trans h1), h3, .mk D _ 0 h2 (kmk_upto hi hk)⟩) rfl fun _ => rfl)))))
end
theorem law_vec (v : Value) : (fun y => if y = ("script" : Str) then some v else none) = vec lawNs (some v :: lawNs.tail.map fun _ => none) := by
  funext y
  show _ = if y = ("script" : Str) then some v else vec lawNs.tail _ y
  rw [vec_none]
theorem numsTo_next (j : Nat) : numsTo (j + 1) = numsTo j ++ [(j : Int) + 1] := by unfold numsTo; rw [List.range_succ, List.map_append]; rfl
/-- the cells of the script -/
inductive CellsV (h : Heap) (v : Value) : Prop
  | mk (cs : List Int) : 3 ≤ cs.length → cs.length ≤ 5 → IntsL cs h v → CellsV h v
inductive BxJ (a0 b a3 a4 a5 a6 a7 a8 a9 a10 a11 a12 a13 a14 a15 a16 : Option Value) (lb dx gl : Addr) (led : List (Addr × Obj)) (P : Heap) (j : Nat) : List (Option Value) → List (Addr × Obj) → Prop
  | mk (a2 items es n₀) : BoxD es ((j : Int) + 1) ((j : Int) + 1) lb gl → LettersAre P items (numsTo j) → BxJ a0 b a3 a4 a5 a6 a7 a8 a9 a10 a11 a12 a13 a14 a15 a16 lb dx gl led P j [a0, b, a2, a3, a4, a5, a6, a7, a8, a9, a10, a11, a12, a13, a14, a15, a16] ((lb, W.listOf items.toArray j) :: (dx, dictOf es n₀) :: led)
theorem St.after2 {K : Params → Frag} {w : World} {g : Gh} {P P' : Heap} {L : Addr} {s s' : Shared} {m : Str → Option Value} {news : List (Addr × Obj)} {a b : Addr} {o o' p p' : Obj} (S : St K w g P L s m ((a, o) :: (b, p) :: news)) (G : GrowX [b, a] P s P' s') (ha : s'.heap.get? a = some o') (hb : s'.heap.get? b = some p') : St K w g P' L s' m ((a, o') :: (b, p') :: news) := by
  have nd := List.nodup_cons.mp S.nd
  refine S.afterX G (List.forall_mem_cons.mpr ⟨.tail _ (.head _), List.forall_mem_singleton.mpr (.head _)⟩) (List.forall_mem_cons.mpr ⟨⟨ha, .head _⟩, List.forall_mem_cons.mpr ⟨⟨hb, .tail _ (.head _)⟩, fun q hq => ?_⟩⟩) S.nd
  have hm := List.mem_map_of_mem (f := (·.1)) hq
  refine ⟨G.stay _ _ (fun e => ?_) (S.led q (.tail _ (.tail _ hq))).1, .tail _ (.tail _ hm)⟩
  rcases List.mem_cons.mp e with e | e
  · exact (List.nodup_cons.mp nd.2).1 (e ▸ hm)
  · exact nd.1 (List.mem_singleton.mp e ▸ .tail _ hm)
theorem law_box {prog : Program} {w : World} {g : Gh} {i : Nat} {c : Ct KK w g ⟨lawNs, lawGv, lawCf i⟩} {P : Heap} {s : Shared} {n : Nat} {lc : Addr} {oA oN oC : Obj} {vA vN : Option Value} {a0 a1 a2 a3 a4 a5 a6 a7 a8 a9 a10 a11 a12 a13 a14 a15 a16 : Option Value} {Q : Value → Shared → Prop}
    (ao : Ao c.A (n + 5)) (S : Sc c [a0, a1, a2, a3, a4, a5, a6, a7, a8, a9, a10, a11, a12, a13, a14, a15, a16] [(i + 2, oA), (i + 1, oN), (i, oC)] P s)
    (hoN : oN.data = .cell vN) (hoC : oC.data = .cell (some (.ref lc))) (hc : CellsV P (.ref lc)) (hoA : oA.data = .cell vA) (hQ : ∀ s', Sib g.s₀ s' → Sub g.H s'.heap → Q (.bool true) s') :
    Go prog c (lawAt w 1) (RP Q) s := by
  obtain ⟨cs, hz3, hz, hc⟩ := hc
  refine Go.cons (wpAny_Assign_Name (Call_ ((Gives.glob (c := c) (P := P) 1 rfl).bindV (.refl _) S fun P₁ s₁ k₁ S => ?_)))
  refine q_callWith S (by kernel_rfl!) (args_cons ((Gives.str (c := c) (P := P₁)).bind (.refl _) S fun P₂ _ s₂ k₂ S r => args_cons ((Gives.int (c := c) (P := P₂)).bind (.refl _) S fun P₃ _ s₃ k₃ S r' => args_nil ⟨S.kin, ?_⟩)))
  refine box_new (n := n) (ao.dn (by decide)) S fun b dx es n₀ lb gl s₄ P₄ k₄ S hb hgl bd => ?_
  refine q_store S c.V (vec_set 1 rfl rfl) fun s₅ S => ?_
  change Sc c [a0, some (.ref b), a2, a3, a4, a5, a6, a7, a8, a9, a10, a11, a12, a13, a14, a15, a16] [(lb, W.listOf ([] : List Value).toArray 0), (dx, dictOf es n₀), (i + 2, oA), (i + 1, oN), (i, oC)] P₄ s₅ at S
  have hc₄ := (mono_ints _ _ _ (k₁.trans (k₂.trans (k₃.trans k₄))) hc).asA
  clear hc k₁ k₂ k₃ k₄
  refine hc₄.casesOn fun cv hcv hci => ?_
  obtain ⟨z0, t0, e0⟩ := cs_at hci 0 (by lia)
  have h0 := Int.fmod_nonneg_of_pos z0 (by decide : (0 : Int) < 10)
  have h9 := Int.fmod_lt_of_pos z0 (by decide : (0 : Int) < 10)
  have hz10 : (1 + z0.fmod 10).toNat ≤ 10 := by lia
  refine X.for (.range1 (.glob 2 rfl) (.add .int (.mod (.toI (.item (.cell 2 rfl (.led 4 rfl fun h e => ⟨_, e, hoC⟩)) .int (.ofP lst_mono hcv) (by decide) (by decide) e0)) .int (by decide)))) S ?_
  intro P₅ v s₆ k₅ x
  refine x.casesOn fun r t₁ t₂ t₃ hr S => ?_
  refine X.forN (n := (1 + z0.fmod 10).toNat) (Pv := fun j v => ∃ t, v = Value.int (0 + j) t) 2 rfl (.range _ c.hA (S.keep _ _ hr) (small_one (by decide) (by decide) (by lia) (by lia)) (by rw [rangeSize_nat]; lia)) S (fun _ h => nomatch h)
    (fun j vs news P => BxJ a0 (some (.ref b)) a3 a4 a5 a6 a7 a8 a9 a10 a11 a12 a13 a14 a15 a16 lb dx gl [(i + 2, oA), (i + 1, oN), (i, oC)] P j vs news) (fun _ _ _ _ h => h.casesOn fun _ _ _ _ _ _ => rfl) (.mk _ [] _ _ bd .nil) ?_ ?_
  · intro j v s₇ vs₁ ns₁ own P₆ Φ hnx hjn hv k₆ hj
    refine hj.casesOn fun a2 items es n₀ bd hu S => ?_
    have zl := hu.length
    rw [numsTo_length] at zl
    refine Go.cons (q_Expr c.V (Call_ ((Gives.glob (c := c) (P := P₆) 3 rfl).bindV (.refl _) S fun P₇ s₈ k₇ S => ?_)))
    refine q_callWith S (by kernel_rfl!) (args_cons ((Gives.name (c := c) (P := P₇) 1 rfl rfl).bindV (.refl _) S fun P₈ s₉ k₈ S => args_cons ((Gives.bytes (c := c) (P := P₈)).bind (.refl _) S fun P₉ vb s₁₀ k₉ S rb => args_cons ((Gives.newNil (c := c) (P := P₉)).bind (.refl _) S fun P₁₀ v₁₀ s₁₁ k₁₀ S rn => ?_))))
    refine rn.casesOn fun fl hfl => ?_
    refine args_cons ((Gives.name (c := c) (P := P₁₀) 2 rfl rfl).bind (.refl _) S fun P₁₁ va s₁₂ k₁₁ S ra => args_nil ⟨S.kin, ?_⟩)
    have q₂ := k₇.trans (k₈.trans (k₉.trans (k₁₀.trans k₁₁)))
    have D := S.led _ (.tail _ (.head _))
    have Z := S.led _ (.head _)
    exact add_letter (n := n) (ao.dn (by decide)) S.cx S.keep ((k₅.trans (k₆.trans q₂)) _ _ hb) D.1 D.2.2.2 Z.1 Z.2.2.2 (fun q => (List.nodup_cons.mp S.nd).1 (q ▸ .head _)) bd (by rw [zl]; exact Nat.le_trans (Nat.le_of_lt hjn) (Nat.le_trans hz10 (by decide))) ⟨_, k₁₁ _ _ hfl, rfl, 0, rfl⟩ fun v es' n' s' P' G hd' hl' bd' hv =>
      X.next hnx (news₂ := [_, _, _, _, _]) (q₂.trans G.up) (S.after2 G hl' hd') (.mk _ (items ++ [v]) es' n' bd' (numsTo_next j ▸ All2.snoc (hu.mono (q₂.trans G.up)) hv))
  · intro s₇ vs₁ ns₁ P₆ k₆ hj
    refine hj.casesOn fun a2 items es n₀ bd hu S => ?_
    refine S.sealNew.casesOn fun P₇ k₇ hl S => ?_
    have q := k₅.trans (k₆.trans k₇)
    have zl := hu.length
    rw [numsTo_length] at zl
    exact law_make (n := n) ao S (.mk _ lb gl items [] 0 (q _ _ hb) bd ⟨_, hl, rfl, _, rfl⟩ (hu.mono k₇) (q _ _ hgl) (Nat.zero_le _) (by rw [zl]; exact Nat.le_trans hz10 (by decide))) hz10 hoN hoC (hc₄.mono q) hz3 hz hoA hQ
theorem law {prog : Program} {w : World} {A : Around} {P : Heap} {s : Shared} {n : Nat} {l : Addr} {vals : List Value} {zs : List Int} {R : Result → Shared → Prop}
    (ao : Ao A (n + 6)) (C : Cx KK w P) (hP : Sub P s.heap) (hl : P.IsList l vals.toArray) (hi : IntsAre vals zs) (hz : zs.length ≤ 63) (hQ : ∀ s', Sib s s' → Sub s.heap s'.heap → R (.ok (.ret (.bool true))) s') :
    codeAny (model prog w) A (.call (.ref 240) ⟨[.ref l], []⟩) R s := by
  refine' X.enterC lawNs (some (.ref l) :: lawNs.tail.map fun _ => none) lawGv lawCf _ (H := s.heap) (mt := []) ?ho ?hcd ?hb ?hf ?hn ?hg ?hcf ?hkd ?hbl rfl ?hcn ?hck ao C hP (.refl _) (fun _ h => nomatch h) .nil ?_
  case ho => rfl
  case hcd => kernel_rfl!
  case hb => rfl
  case hf => kernel_rfl!
  case hn => kernel_rfl!
  case hg => kernel_rfl!
  case hcf => intro _; rfl
  case hkd => intro i x hx; rw [List.mem_singleton.mp hx]; exact .inl rfl
  case hbl => exact law_vec _
  case hcn => intro n; exact (by decide : (["agreed", "now", "cells"] : List Str).Nodup)
  case hck =>
    exact fun n => List.forall_mem_cons.mpr ⟨⟨rfl, rfl⟩, List.forall_mem_cons.mpr ⟨⟨rfl, rfl⟩, List.forall_mem_singleton.mpr ⟨rfl, rfl⟩⟩⟩
  intro ci led c s₁ ao hled S
  obtain ⟨oA, led, rfl, hoA, hled⟩ := hled.cons
  obtain ⟨oN, led, rfl, hoN, hled⟩ := hled.cons
  obtain ⟨oC, rfl, hoC⟩ := hled.one
  change Sc c (some (.ref l) :: lawNs.tail.map fun _ => none) [(ci + 2, oA), (ci + 1, oN), (ci, oC)] P s₁ at S
  have zi := hi.length
  have HL : ∀ {vs news}, Held c vs news P fun h => h.IsList l vals.toArray := .ofP lst_mono hl
  have HA : ∀ {pos : Pos}, Gives prog c (some (.ref l) :: lawNs.tail.map fun _ => none) [(ci + 2, oA), (ci + 1, oN), (ci, oC)] P (.Name "script" pos) (IntsB zs) := fun {_} => .nameR 0 rfl rfl (fun _ _ _ k x => x.casesOn fun a x => .mk a (x.mono k)) (.mk l (.mk vals hl hi))
  refine X.assignC 2 2 (R := CellsV) (.ifExp (.cmp (.lt (.len (.glob 0 rfl) (.name 0 rfl rfl) HL (by lia)) .int)) (fun h => ?_) fun h => ?_) S rfl rfl hoC ?_
  · refine Gives.weaken (.sliceUp (xs := zs ++ [9, 37, 2]) (intsA (.catI (xs := zs) (ys := [9, 37, 2]) HA (.list3 .int .int .int) (by show zs.length + 3 ≤ 1000; lia))) (by rw [List.length_append]; show zs.length + 3 ≤ 1000; lia) (.some .int) (by decide)) fun h' v r => .mk _ ?_ ?_ r
    · rw [List.length_take, List.length_append]; exact Nat.le_min.mpr ⟨by decide, Nat.le_add_left 3 _⟩
    · rw [List.length_take]; exact Nat.le_trans (Nat.min_le_left _ _) (by decide)
  · refine Gives.weaken (.sliceUp HA (by lia) (.some .int) (by decide)) fun h' v r => .mk _ ?_ ?_ r
    · rw [List.length_take]; exact Nat.le_min.mpr ⟨by decide, by lia⟩
    · rw [List.length_take]; exact Nat.min_le_left _ _
  · intro P₁ v s₂ k₁ x
    obtain ⟨cs, a, b, hx⟩ := x
    exact hx.casesOn fun r ys kk hr hi S => law_box (n := n) ao S hoN rfl (.mk cs a b (.mk r ys kk hr hi)) hoA hQ
end Mine

end PartR25
section PartTail
open PySem PySem.W PySem.Spec PySem.Calls PyProof.Rows
set_option Elab.async false
namespace Mine
theorem law_ao : Ao callerA (0 + 6) := ⟨rfl, by decide, by decide⟩
end Mine
open Mine
set_option maxRecDepth 100000 in
set_option maxHeartbeats 8000000 in
theorem PySem.Challenge.cw_or0046_01_holds : PySem.Challenge.rw_or0046_01.Holds := by
  refine hd ?_
  k_fill
  intro w s₀ s₁ mg mb G Y fa o pm cd doc dV kV ho hd hcd hD hmg hg args vals as hpre hlay hrd hwl hlo
  have KX := kIn_of Y
  refine Ground.open G ?_
  intro T B D TE TW
  clear hd hcd hD ho
  wrow_args hpre hlay hrd hwl hlo
  refine enter_call (codeAny_mono ?_ fun _ _ g => GoodW.toG g)
  rename_i zs _ _ _ _ _ _ _ l vs _ hL _ _ _ hI _ hc _
  have C : Cx KK w s₁.heap := ⟨KX, ⟨mg, T.g⟩, ⟨mb, T.b, T.builtins⟩, T.nolimit⟩
  have e : fa = 240 := Value.ref.inj (Option.some.inj (hmg.symm.trans (mg_of (n := "law") (v := .ref 240) KX T.g (by kernel_rfl!))))
  subst e
  refine law law_ao C (.refl _) hL hI (by lia) fun s' hs hf => ?_
  refine ⟨.inl ⟨_, .bool true, [], rfl, ?_, .bool true, ?_, ?_⟩, hf, hs.os, hs.gens.trans hg⟩
  · intro cls; rfl
  · kernel_rfl!
  · exact fun _ => ⟨.nil, fun _ h => nomatch h⟩


end PartTail
