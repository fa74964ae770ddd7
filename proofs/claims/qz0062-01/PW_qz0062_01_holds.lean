import PyProof.Rows.All
import Wide.All
import OpenK.AllK
import Wide.FinOn
import Lean
import PySem.Challenge.RW_qz0062_01
set_option Elab.async false
set_option linter.all false
set_option genSizeOfSpec false
set_option genInjectivity false
local macro_rules | `(tactic| omega) => `(tactic| lia)
section
open PySem PySem.W PySem.Calls PyProof.Rows
set_option Elab.async false
set_option maxRecDepth 100000
set_option linter.unusedVariables false
namespace Mine

abbrev Desc := Obj → Prop
abbrev Led := List (Addr × Desc)
abbrev Loc := List (Str × Value)

/-- what a triple stands over: program, world, what is around, the rest of the state, the ground, the frame's address -/
structure Cx where
  P : Program
  w : World
  A : Around
  r : Shared
  g : Heap
  L : Addr

def Own (g : Heap) (L : Addr) (h : Heap) (n : Led) : Prop :=
  (n.map (·.1)).Nodup ∧ ∀ p ∈ n, p.1 ≠ L ∧ g.get? p.1 = none ∧ ∃ o, h.get? p.1 = some o ∧ p.2 o

structure St (g : Heap) (L : Addr) (l : Loc) (n : Led) (h : Heap) : Prop where
  fr : ∃ m, Fr g L h m ∧ ∀ p ∈ l, m p.1 = some p.2
  nd : (l.map (·.1)).Nodup
  own : Own g L h n

inductive Out (c : Cx) {α : Type} (Q : α → Loc → Led → Prop) (a : α) (s' : Shared) : Prop
  | of (h' : Heap) (tk' : Nat) (l' : Loc) (n' : Led) (e : s' = { c.r with heap := h', toks := tk' }) (S : St c.g c.L l' n' h') (q : Q a l' n')
def W (c : Cx) {α : Type} (l : Loc) (n : Led) (t : Sem α) (Q : α → Loc → Led → Prop) (E : Value → Shared → Prop) : Prop :=
  ∀ h tk, St c.g c.L l n h → wpAny (model c.P c.w) c.A t (Out c Q) E { c.r with heap := h, toks := tk }

theorem Out.mk {c : Cx} {α : Type} {Q : α → Loc → Led → Prop} {a : α} {h : Heap} {tk : Nat} {l : Loc} {n : Led} (S : St c.g c.L l n h) (q : Q a l n) : Out c Q a { c.r with heap := h, toks := tk } := ⟨h, tk, l, n, rfl, S, q⟩

namespace St
variable {g : Heap} {L : Addr} {l l' : Loc} {n n' : Led} {h h' : Heap}

theorem lt (S : St g L l n h) {p} (hp : p ∈ n) : p.1 < h.objs.size := let ⟨_, _, _, e, _⟩ := S.own.2 p hp; Heap.lt_size e
theorem locLt (S : St g L l n h) : L < h.objs.size := let ⟨_, F, _⟩ := S.fr; F.ns.lt
theorem keep (S : St g L l n h) : ∀ b o, g.get? b = some o → h.get? b = some o := let ⟨_, F, _⟩ := S.fr; F.keep
theorem get (S : St g L l n h) {a : Addr} {d : Desc} (hp : (a, d) ∈ n) : ∃ o, h.get? a = some o ∧ d o := (S.own.2 _ hp).2.2

theorem led (S : St g L l n h) (hs : ∀ p ∈ n', p ∈ n) (hn : (n'.map (·.1)).Nodup) : St g L l n' h := ⟨S.fr, S.nd, hn, fun p hp => S.own.2 p (hs p hp)⟩
theorem perm (S : St g L l n h) (hp : n.Perm n') : St g L l n' h := S.led (fun p q => hp.mem_iff.mpr q) ((hp.map _).nodup_iff.mp S.own.1)
theorem sub (S : St g L l n h) (hs : n'.Sublist n) : St g L l n' h := S.led (fun p q => hs.subset q) (List.Nodup.sublist (hs.map _) S.own.1)
theorem loc (S : St g L l n h) (hs : ∀ p ∈ l', p ∈ l) (hn : (l'.map (·.1)).Nodup) : St g L l' n h := let ⟨m, F, k⟩ := S.fr; ⟨⟨m, F, fun p hp => k p (hs p hp)⟩, hn, S.own⟩
theorem weak (S : St g L l n h) (hn : n.map (·.1) = n'.map (·.1)) (hd : ∀ p ∈ n', ∃ q ∈ n, q.1 = p.1 ∧ ∀ o, q.2 o → p.2 o) : St g L l n' h :=
  ⟨S.fr, S.nd, hn ▸ S.own.1, fun p hp => by
    obtain ⟨q, hq, e, k⟩ := hd p hp
    obtain ⟨a, b, o, ho, hd⟩ := S.own.2 q hq
    exact ⟨e ▸ a, e ▸ b, o, e ▸ ho, k o hd⟩⟩

theorem keeps (S : St g L l n h) (k : ∀ b o, h.get? b = some o → h'.get? b = some o) : St g L l n h' := by
  obtain ⟨m, F, x⟩ := S.fr
  refine ⟨⟨m, F.keeps k, x⟩, S.nd, S.own.1, fun p hp => ?_⟩
  obtain ⟨a, b, o, ho, hd⟩ := S.own.2 p hp
  exact ⟨a, b, o, k _ _ ho, hd⟩

theorem newNone (S : St g L l n h) {a : Addr} (ha : h.objs.size ≤ a) : g.get? a = none := by
  cases q : g.get? a with
  | none => rfl
  | some o => exact absurd (Nat.lt_of_lt_of_le (Heap.lt_size (S.keep _ _ q)) ha) (Nat.lt_irrefl _)

/-- a new object onto the ledger -/
theorem fresh (S : St g L l n h) {a : Addr} {o : Obj} {d : Desc} (ha : h.objs.size ≤ a) (k : ∀ b o, h.get? b = some o → h'.get? b = some o) (ho : h'.get? a = some o) (hd : d o) : St g L l ((a, d) :: n) h' := by
  have S' := S.keeps k
  refine ⟨S'.fr, S.nd, ?_, fun p hp => ?_⟩
  · rw [List.map_cons, List.nodup_cons]
    refine ⟨fun hm => ?_, S.own.1⟩
    obtain ⟨p, hp, e⟩ := List.mem_map.mp hm
    exact absurd (Nat.lt_of_lt_of_le (S.lt hp) ha) (by rw [e]; exact Nat.lt_irrefl _)
  · rcases List.mem_cons.mp hp with rfl | hp
    · exact ⟨Nat.ne_of_gt (Nat.lt_of_lt_of_le S.locLt ha), S.newNone ha, o, ho, hd⟩
    · exact S'.own.2 p hp
theorem push (S : St g L l n h) {o : Obj} {d : Desc} (hd : d o) (hf : o.isFreed = false := by with_unfolding_all rfl) : St g L l ((h.objs.size, d) :: n) (h.push o) :=
  S.fresh (Nat.le_refl _) (fun _ _ e => Heap.get?_push_of_some _ e) (Heap.get?_push_size _ hf) hd
theorem pushDrop (S : St g L l n h) (o : Obj) : St g L l n (h.push o) := S.keeps fun _ _ e => Heap.get?_push_of_some _ e

/-- one object of the ledger is changed -/
theorem set {a : Addr} {d d' : Desc} {o' : Obj} (S : St g L l ((a, d) :: n) h) (hs : Heap.ExtBut a h h') (ho : h'.get? a = some o') (hd : d' o') : St g L l ((a, d') :: n) h' := by
  obtain ⟨m, F, x⟩ := S.fr
  have D := S.own.2 _ (List.mem_cons_self ..)
  have nd := S.own.1
  rw [List.map_cons, List.nodup_cons] at nd
  obtain ⟨oL, es, ep, e, r⟩ := F.ns
  refine ⟨⟨m, ⟨⟨oL, es, ep, hs _ _ (Ne.symm D.1) e, r⟩, fun b o e => hs b o (fun q => by rw [q, D.2.1] at e; cases e) (F.keep b o e), F.above⟩, x⟩, S.nd, ?_, fun p hp => ?_⟩
  · rw [List.map_cons, List.nodup_cons]; exact nd
  · rcases List.mem_cons.mp hp with rfl | hp
    · exact ⟨D.1, D.2.1, o', ho, hd⟩
    · obtain ⟨a1, b1, o, ho1, hd1⟩ := S.own.2 p (List.mem_cons_of_mem _ hp)
      exact ⟨a1, b1, o, hs _ _ (fun q => nd.1 (List.mem_map.mpr ⟨p, hp, q⟩)) ho1, hd1⟩
end St

/-- one entry of the ledger for another -/
inductive LSet (a : Addr) (d d' : Desc) : Led → Led → Prop
  | head {r} : LSet a d d' ((a, d) :: r) ((a, d') :: r)
  | tail {p r r'} : LSet a d d' r r' → LSet a d d' (p :: r) (p :: r')
theorem LSet.perm {a : Addr} {d d' : Desc} {n n' : Led} (x : LSet a d d' n n') : ∃ r, n.Perm ((a, d) :: r) ∧ n'.Perm ((a, d') :: r) := by
  induction x with
  | head => exact ⟨_, .refl _, .refl _⟩
  | tail _ ih =>
    obtain ⟨r, h1, h2⟩ := ih
    exact ⟨_, (h1.cons _).trans (.swap ..), (h2.cons _).trans (.swap ..)⟩
theorem LSet.mem {a : Addr} {d d' : Desc} {n n' : Led} (x : LSet a d d' n n') : (a, d) ∈ n := by
  induction x with
  | head => exact List.mem_cons_self ..
  | tail _ ih => exact List.mem_cons_of_mem _ ih
theorem St.lset {g : Heap} {L : Addr} {l : Loc} {n n' : Led} {h h' : Heap} {a : Addr} {d d' : Desc} {o' : Obj} (S : St g L l n h) (x : LSet a d d' n n') (hs : Heap.ExtBut a h h') (ho : h'.get? a = some o') (hd : d' o') : St g L l n' h' := by
  obtain ⟨r, h1, h2⟩ := x.perm
  exact ((S.perm h1).set hs ho hd).perm h2.symm

-- names
theorem ofString_inj {a b : String} (h : Str.ofString a = Str.ofString b) : a = b := by
  rw [Str.ofString_eq_toList, Str.ofString_eq_toList] at h
  injection h with h
  have h := congrArg Array.toList h
  simp only at h
  apply String.toList_injective
  generalize a.toList = x at h ⊢
  generalize b.toList = y at h ⊢
  induction x generalizing y with
  | nil => cases y with | nil => rfl | cons _ _ => simp at h
  | cons c r ih => cases y with
    | nil => simp at h
    | cons d s =>
      simp only [List.map_cons, List.cons.injEq] at h
      rw [ih _ h.2, Char.toNat_inj.mp h.1]
theorem ne_str {a b : String} (h : a ≠ b) : Str.ofString a ≠ Str.ofString b := fun e => h (ofString_inj e)

inductive Put (x : Str) (v : Value) : Loc → Loc → Prop
  | nil : Put x v [] [(x, v)]
  | hit {o r} : Put x v ((x, o) :: r) ((x, v) :: r)
  | skip {y o r r'} : y ≠ x → Put x v r r' → Put x v ((y, o) :: r) ((y, o) :: r')
theorem Put.keys {x : Str} {v : Value} {l l' : Loc} (p : Put x v l l') : ∀ y, y ∈ l'.map (·.1) → y = x ∨ y ∈ l.map (·.1) := by
  induction p with
  | nil => intro y h; simpa using h
  | hit => intro y h; exact .inr (by simpa using h)
  | skip _ _ ih =>
    intro y h
    rcases List.mem_cons.mp h with rfl | h
    · exact .inr (by simp)
    · rcases ih y h with e | e
      · exact .inl e
      · exact .inr (List.mem_cons_of_mem _ e)
theorem Put.ok {x : Str} {v : Value} {l l' : Loc} (p : Put x v l l') {m : Str → Option Value} (hn : (l.map (·.1)).Nodup) (h : ∀ p ∈ l, m p.1 = some p.2) :
    (l'.map (·.1)).Nodup ∧ ∀ p ∈ l', (fun y => if y = x then some v else m y) p.1 = some p.2 := by
  induction p with
  | nil => exact ⟨by simp, fun p hp => by rw [List.mem_singleton.mp hp]; simp⟩
  | hit =>
    rw [List.map_cons, List.nodup_cons] at hn
    refine ⟨by rw [List.map_cons, List.nodup_cons]; exact hn, fun p hp => ?_⟩
    rcases List.mem_cons.mp hp with rfl | hp
    · simp
    · have : p.1 ≠ x := fun e => hn.1 (List.mem_map.mpr ⟨p, hp, e⟩)
      simp only [if_neg this]; exact h p (List.mem_cons_of_mem _ hp)
  | skip hne q ih =>
    rw [List.map_cons, List.nodup_cons] at hn
    have z := ih hn.2 fun p hp => h p (List.mem_cons_of_mem _ hp)
    refine ⟨?_, fun p hp => ?_⟩
    · rw [List.map_cons, List.nodup_cons]
      refine ⟨fun hm => ?_, z.1⟩
      rcases q.keys _ hm with e | e
      · exact hne e
      · exact hn.1 e
    · rcases List.mem_cons.mp hp with rfl | hp
      · simp only [if_neg hne]; exact h _ (List.mem_cons_self ..)
      · exact z.2 p hp

section
variable {c : Cx} {α β : Type} {l l' l'' : Loc} {n n' : Led} {E : Value → Shared → Prop}

theorem W.mono {t : Sem α} {Q Q' : α → Loc → Led → Prop} (H : W c l n t Q E) (hq : ∀ a l n, Q a l n → Q' a l n) : W c l n t Q' E :=
  fun h tk S => wpAny_mono (H h tk S) (fun a s' ⟨h', tk', l', n', e, S', q⟩ => ⟨h', tk', l', n', e, S', hq _ _ _ q⟩) fun _ _ e => e
theorem W.monoE {t : Sem α} {Q : α → Loc → Led → Prop} {E' : Value → Shared → Prop} (H : W c l n t Q E) (he : ∀ e s, E e s → E' e s) : W c l n t Q E' :=
  fun h tk S => wpAny_mono (H h tk S) (fun _ _ q => q) he
theorem W.noE {t : Sem α} {Q : α → Loc → Led → Prop} (H : W c l n t Q (fun _ _ => False)) : W c l n t Q E := H.monoE fun _ _ => False.elim
theorem W.perm {t : Sem α} {Q : α → Loc → Led → Prop} (hp : n.Perm n') (H : W c l n' t Q E) : W c l n t Q E := fun h tk S => H h tk (S.perm hp)
theorem W.seq {t : Sem α} {k : α → Sem β} {Q : β → Loc → Led → Prop} (H : W c l n t (fun a l1 n1 => W c l1 n1 (k a) Q E) E) {h : Heap} {tk : Nat} (S : St c.g c.L l n h) :
    wpAny (model c.P c.w) c.A t (fun a s1 => wpAny (model c.P c.w) c.A (k a) (Out c Q) E s1) E { c.r with heap := h, toks := tk } :=
  wpAny_mono (H h tk S) (fun a s1 ⟨h', tk', l', n', e, S', q⟩ => by subst e; exact q h' tk' S') fun _ _ e => e
theorem W.run {t : Sem α} {Q : α → Loc → Led → Prop} {R : α → Shared → Prop} {h : Heap} {tk : Nat} (H : W c l n t Q E) (S : St c.g c.L l n h)
    (hr : ∀ a h' tk' l' n', St c.g c.L l' n' h' → Q a l' n' → R a { c.r with heap := h', toks := tk' }) : wpAny (model c.P c.w) c.A t R E { c.r with heap := h, toks := tk } :=
  wpAny_mono (H h tk S) (fun a s1 ⟨h', tk', l', n', e, S', q⟩ => by subst e; exact hr _ _ _ _ _ S' q) fun _ _ e => e

theorem W_bind {t : Sem α} {f : α → Sem β} {Q : β → Loc → Led → Prop} (H : W c l n t (fun a l1 n1 => W c l1 n1 (f a) Q E) E) : W c l n (t >>= f) Q E := fun h tk S => wpAny_bind (H.seq S)
theorem W_pure {a : α} {Q : α → Loc → Led → Prop} (q : Q a l n) : W c l n (pure a) Q E := fun h tk S => wpAny_pure (.mk S q)


/-- what comes behind a statement -/
def Cont (c : Cx) (rest : List Stmt) (env : Env) (Q : Flow → Loc → Led → Prop) (E : Value → Shared → Prop) (f : Flow) (l : Loc) (n : Led) : Prop := match f with
  | .next => W c l n (execs rest env) Q E
  | f => Q f l n

variable {env : Env} {rest : List Stmt} {Q : Flow → Loc → Led → Prop}
theorem Cont.go {f : Flow} (h : Cont c rest env Q E f l n) {h' : Heap} {tk : Nat} (S : St c.g c.L l n h') :
    (match f with | .next => wpAny (model c.P c.w) c.A (execs rest env) (Out c Q) E { c.r with heap := h', toks := tk } | f => Out c Q f { c.r with heap := h', toks := tk }) := by
  cases f with
  | next => exact h h' tk S
  | brk => exact .mk S h
  | cont => exact .mk S h
  | ret v => exact .mk S h
theorem S_nil (q : Q .next l n) : W c l n (execs [] env) Q E := fun h tk S => wpAny_execs_nil (.mk S q)
theorem S_cons {st : Stmt} (H : W c l n (exec st env) (Cont c rest env Q E) E) : W c l n (execs (st :: rest) env) Q E := fun h tk S =>
  wpAny_execs_cons (H.run S fun f h' tk' l' n' S' q => by have := q.go (tk := tk') S'; cases f <;> exact this)

variable {w₀ : World}
-- statements
theorem S_expr {e : Expr} {pos : Pos} (H : W c l n (eval e env) (fun v l1 n1 => v = .none ∧ W c l1 n1 (execs rest env) Q E) E)
    (hi : interactive env = false := by with_unfolding_all rfl) (hs : swapsWith e none pos.line env = pure false := by with_unfolding_all rfl) : W c l n (execs (.Expr e pos :: rest) env) Q E := S_cons fun h tk S =>
  wpAny_Expr (H.run S fun v h' tk' l' n' S' q => by obtain ⟨rfl, q⟩ := q; exact .mk S' q) hi hs
theorem S_return {e : Expr} {pos : Pos} (H : W c l n (eval e env) (fun v l1 n1 => Q (.ret v) l1 n1) E) : W c l n (execs (.Return (some e) pos :: rest) env) Q E := S_cons fun h tk S =>
  wpAny_Return_some (H.run S fun v h' tk' l' n' S' q => .mk S' q)
theorem S_if {test : Expr} {body orelse : List Stmt} {pos : Pos} (H : W c l n (PySem.isTrue test env (eval test env)) (fun b l1 n1 => if b = true then W c l1 n1 (execs body env) (Cont c rest env Q E) E else W c l1 n1 (execs orelse env) (Cont c rest env Q E) E) E) :
    W c l n (execs (.If test body orelse pos :: rest) env) Q E := S_cons fun h tk S =>
  wpAny_If (H.run S fun b h' tk' l' n' S' q => by
    cases b with
    | true => simp only [if_true] at q ⊢; exact q h' tk' S'
    | false => simp only [Bool.false_eq_true, if_false] at q ⊢; exact q h' tk' S')


/-- what an environment of a def's frame looks like -/
structure Ev (c : Cx) (env : Env) : Prop where
  kind : env.scope.kind = .function
  loc : env.locals = c.L
  glob : env.globals = mainGlobals

theorem W_store {x : Str} {v : Value} {l' : Loc} {Q : Unit → Loc → Led → Prop} (V : Ev c env) (hk : env.kindOf x = some .local) (P : Put x v l l') (q : Q () l' n) : W c l n (storeName env x v) Q E := fun h tk S => by
  obtain ⟨m, F, k⟩ := S.fr
  refine wpAny_storeName_local hk (by rw [V.loc]; exact F.ns) (fun h' hn hs => ?_) (by rw [V.kind]; rfl)
  rw [V.loc] at hn hs
  have z := P.ok S.nd k
  refine .mk ⟨⟨_, F.set hn hs, z.2⟩, z.1, S.own.1, fun p hp => ?_⟩ q
  obtain ⟨a, b, o, ho, hd⟩ := S.own.2 p hp
  exact ⟨a, b, o, (hs.2 _ a).trans ho, hd⟩

/-- a cell's content -/
def CE (v : Option Value) : Desc := fun o => o.data = .cell v
theorem W_storeC {x : Str} {a : Addr} {v : Value} {v₀ : Option Value} {n' : Led} {Q : Unit → Loc → Led → Prop} (V : Ev c env) (hk : env.kindOf x = some .cell) (hc : env.cells.lookup x = some a) (P : LSet a (CE v₀) (CE (some v)) n n') (q : Q () l n') :
    W c l n (storeName env x v) Q E := fun h tk S => by
  refine wpAny_storeName_cell V.kind hk hc (S.get P.mem) fun h' hv hs => ?_
  obtain ⟨o', ho, hd⟩ := hv
  exact .mk (S.lset P hs.extBut ho hd) q

theorem S_assign {x : Str} {px pos : Pos} {value : Expr} (H : W c l n (eval value env) (fun v l1 n1 => W c l1 n1 (storeName env x v) (fun _ l2 n2 => W c l2 n2 (execs rest env) Q E) E) E)
    (hs : swapsWith value (some (Expr.Name x px)) pos.line env = pure false := by with_unfolding_all rfl) : W c l n (execs (.Assign [.Name x px] value pos :: rest) env) Q E := S_cons fun h tk S =>
  wpAny_Assign_Name (H.run S fun v h' tk' l' n' S' q => q.run S' fun _ h2 tk2 l2 n2 S2 q2 => .mk S2 q2) hs
theorem S_assignA {o : Expr} {attr : Str} {px pos : Pos} {value : Expr} (H : W c l n (eval value env) (fun v l1 n1 => W c l1 n1 (eval o env) (fun ov l2 n2 => W c l2 n2 (setAttr ov attr v) (fun _ l3 n3 => W c l3 n3 (execs rest env) Q E) E) E) E)
    (hs : swapsWith value (some (Expr.Attribute o attr px)) pos.line env = pure false := by with_unfolding_all rfl) : W c l n (execs (.Assign [.Attribute o attr px] value pos :: rest) env) Q E := S_cons fun h tk S =>
  plainObj_wpAny_Assign_Attribute (H.run S fun v h' tk' l' n' S' q => q.run S' fun _ h2 tk2 l2 n2 S2 q2 => q2.run S2 fun _ h3 tk3 l3 n3 S3 q3 => .mk S3 q3) hs
theorem S_assignS {o i : Expr} {px pos : Pos} {value : Expr} (H : W c l n (eval value env) (fun v l1 n1 => W c l1 n1 (eval o env) (fun ov l2 n2 => W c l2 n2 (eval i env) (fun iv l3 n3 => W c l3 n3 (setItem ov iv v) (fun _ l4 n4 => W c l4 n4 (execs rest env) Q E) E) E) E) E)
    (hs : swapsWith value (some (Expr.Subscript o i px)) pos.line env = pure false := by with_unfolding_all rfl) : W c l n (execs (.Assign [.Subscript o i px] value pos :: rest) env) Q E := S_cons fun h tk S =>
  wpAny_Assign_Subscript (H.run S fun v h' tk' l' n' S' q => q.run S' fun _ h2 tk2 l2 n2 S2 q2 => q2.run S2 fun _ h3 tk3 l3 n3 S3 q3 => q3.run S3 fun _ h4 tk4 l4 n4 S4 q4 => .mk S4 q4) hs

-- expressions
section
variable {Q : Value → Loc → Led → Prop} {pos px : Pos}
theorem E_bin {a b : Expr} {op : Operator} (H : W c l n (eval a env) (fun x l1 n1 => W c l1 n1 (eval b env) (fun y l2 n2 => W c l2 n2 (binaryOp op x y) Q E) E) E) : W c l n (eval (.BinOp a op b pos) env) Q E := fun h tk S =>
  wpAny_BinOp (H.run S fun x h1 tk1 l1 n1 S1 q => q.run S1 fun y h2 tk2 l2 n2 S2 q2 => q2 h2 tk2 S2)
theorem E_un {a : Expr} {op : UnaryOp} (H : W c l n (eval a env) (fun x l1 n1 => W c l1 n1 (unaryOp op x) Q E) E) : W c l n (eval (.UnaryOp op a pos) env) Q E := fun h tk S =>
  wpAny_UnaryOp (H.seq S)
theorem E_cmp {a b : Expr} {op : CmpOp} (H : W c l n (eval a env) (fun x l1 n1 => W c l1 n1 (eval b env) (fun y l2 n2 => W c l2 n2 (compareOp op x y) Q E) E) E) (hb : behindInMarks op b = false := by with_unfolding_all rfl) : W c l n (eval (.Compare a [op] [b] pos) env) Q E := fun h tk S =>
  wpAny_Compare1 (H.run S fun x h1 tk1 l1 n1 S1 q => q.run S1 fun y h2 tk2 l2 n2 S2 q2 => q2 h2 tk2 S2) hb
theorem E_ife {t a b : Expr} (H : W c l n (PySem.isTrue t env (eval t env)) (fun x l1 n1 => if x = true then W c l1 n1 (eval a env) Q E else W c l1 n1 (eval b env) Q E) E) : W c l n (eval (.IfExp t a b pos) env) Q E := fun h tk S =>
  wpAny_IfExp (H.run S fun b h' tk' l' n' S' q => by
    cases b with
    | true => simp only [if_true] at q ⊢; exact q h' tk' S'
    | false => simp only [Bool.false_eq_true, if_false] at q ⊢; exact q h' tk' S')
theorem E_sub {a b : Expr} (H : W c l n (eval a env) (fun x l1 n1 => W c l1 n1 (eval b env) (fun y l2 n2 => W c l2 n2 (subscriptTail a b x y) Q E) E) E) : W c l n (eval (.Subscript a b pos) env) Q E := fun h tk S =>
  Subscript_ (H.run S fun x h1 tk1 l1 n1 S1 q => q.run S1 fun y h2 tk2 l2 n2 S2 q2 => q2 h2 tk2 S2)
theorem E_tuple {es : List Expr} {k : Nat} (H : W c l n (spliced (backTo pos (starEach es env))) (fun vs l1 n1 => W c l1 n1 (newTuple vs) Q E) E) : W c l n (eval (.Tuple es k pos) env) Q E := fun h tk S => Tuple_ (H.seq S)
theorem E_list {es : List Expr} (H : W c l n (spliced (backTo pos (starEach es env))) (fun vs l1 n1 => W c l1 n1 (newList vs) Q E) E) : W c l n (eval (.List es pos) env) Q E := fun h tk S => List_ (H.seq S)
theorem E_call {f : Expr} {args : List Expr} (H : W c l n (eval f env) (fun x l1 n1 => W c l1 n1 (callWith pos x [] (backTo pos (starEach args env)) []) Q E) E)
    (ha : eval (.Call f args [] pos) env = (do let x ← eval f env; callWith pos x [] (backTo pos (starEach args env)) (backToKw pos (keywordEach [] env))) := by with_unfolding_all rfl) : W c l n (eval (.Call f args [] pos) env) Q E := fun h tk S => Call_ (H.seq S) ha
theorem E_meth {o : Expr} {name : Str} {apos : Pos} {args : List Expr} {pl : Sem Bool} (H : W c l n (eval o env) (fun x l1 n1 => W c l1 n1 (getMethod x name pl) (fun fx l2 n2 => W c l2 n2 (callWith pos fx.1 fx.2 (backTo pos (starEach args env)) []) Q E) E) E)
    (ha : eval (.Call (.Attribute o name apos) args [] pos) env = (do let ov ← eval o env; standAt apos.atName; let (f, first) ← holding [ov] (getMethod ov name pl); callWith pos f first (backTo pos (starEach args env)) []) := by with_unfolding_all rfl) :
    W c l n (eval (.Call (.Attribute o name apos) args [] pos) env) Q E := fun h tk S => MethodCall_ (H.run S fun x h1 tk1 l1 n1 S1 q => q.run S1 fun y h2 tk2 l2 n2 S2 q2 => q2 h2 tk2 S2) ha
theorem E_attr {x attr : Str} (H : W c l n (eval (.Name x px) env) (fun o l1 n1 => W c l1 n1 (getAttr o attr true) Q E) E)
    (ha : eval (.Attribute (.Name x px) attr pos) env = (do let o ← eval (.Name x px) env; standAt pos.atName; let r ← holding [o] (getAttr o attr true); letTemporaryGo (.Name x px) o r; pure r) := by with_unfolding_all rfl) :
    W c l n (eval (.Attribute (.Name x px) attr pos) env) Q E := fun h tk S => Attribute_Name_ (H.seq S) ha
theorem E_int {i : Int} {k : Nat} (q : ∀ t, Q (.int i t) l n) : W c l n (eval (.Constant (.int i) k pos) env) Q E := fun h tk S => wpAny_Constant_int (.mk S (q _))
theorem E_str {i : Str} {k : Nat} (q : ∀ t, Q (.str i t) l n) : W c l n (eval (.Constant (.str i) k pos) env) Q E := fun h tk S => wpAny_Constant_str (.mk S (q _))
theorem E_bool {i : Bool} {k : Nat} (q : Q (.bool i) l n) : W c l n (eval (.Constant (.bool i) k pos) env) Q E := fun h tk S => wpAny_Constant_bool (.mk S q)
theorem E_none {k : Nat} (q : Q .none l n) : W c l n (eval (.Constant .none k pos) env) Q E := fun h tk S => wpAny_Constant_none (.mk S q)
theorem E_bytes {b : List UInt8} {k : Nat} (q : ∀ t, Q (.bytes b.toArray t) l n) : W c l n (eval (.Constant (.bytes b) k pos) env) Q E := fun h tk S => wpAny_mkTextBytes (.mk S (q _))

theorem E_name {x : Str} {v : Value} (V : Ev c env) (hk : env.kindOf x = some .local) (hv : (x, v) ∈ l) (q : Q v l n) (hd : (x == ("__debug__" : Str)) = false := by decide) : W c l n (eval (.Name x pos) env) Q E := fun h tk S => by
  obtain ⟨m, F, k⟩ := S.fr
  exact wpAny_Name (wpAny_loadName_local V.kind hk (by rw [V.loc]; exact F.ns) (k _ hv) (.mk S q)) hd
theorem E_nameC {x : Str} {a : Addr} {v : Value} (hs : env.scope.kind = .function) (hk : env.kindOf x = some .cell) (hc : env.cells.lookup x = some a) (hv : (a, CE (some v)) ∈ n) (q : Q v l n) (hd : (x == ("__debug__" : Str)) = false := by decide) :
    W c l n (eval (.Name x pos) env) Q E := fun h tk S => wpAny_Name (wpAny_loadName_cell hs hk hc (S.get hv) (.mk S q)) hd
theorem E_nameF {x : Str} {a : Addr} {v : Value} (hs : env.scope.kind = .function) (hk : env.kindOf x = some .free) (hc : env.cells.lookup x = some a) (hv : (a, CE (some v)) ∈ n) (q : Q v l n) (hd : (x == ("__debug__" : Str)) = false := by decide)
    (hcd : (x == ("__classdict__" : Str)) = false := by decide) : W c l n (eval (.Name x pos) env) Q E := fun h tk S => wpAny_Name (wpAny_loadName_free hs hk hc (S.get hv) (.mk S q) hcd) hd
end

-- tests
section
variable {Q : Bool → Loc → Led → Prop} {pos : Pos} {whole : Sem Value}
theorem T_cmp {a b : Expr} {op : CmpOp} (H : W c l n (eval a env) (fun x l1 n1 => W c l1 n1 (eval b env) (fun y l2 n2 => W c l2 n2 (compareOp op x y) (fun z l3 n3 => W c l3 n3 (truthy z) Q E) E) E) E) (hb : behindInMarks op b = false := by with_unfolding_all rfl) :
    W c l n (PySem.isTrue (.Compare a [op] [b] pos) env whole) Q E := fun h tk S =>
  wpAny_isTrue_Compare1 (H.run S fun x h1 tk1 l1 n1 S1 q => q.run S1 fun y h2 tk2 l2 n2 S2 q2 => q2.run S2 fun z h3 tk3 l3 n3 S3 q3 => q3 h3 tk3 S3) hb
theorem T_chain {a : Expr} {op₁ op₂ : CmpOp} {ops : List CmpOp} {r₁ r₂ : Expr} {rs : List Expr} (H : W c l n (eval a env) (fun x l1 n1 => W c l1 n1 (testChain pos x (op₁ :: op₂ :: ops) (eval r₁ env :: eval r₂ env :: evalEach rs env)) Q E) E)
    (hb : lastMarks (op₁ :: op₂ :: ops) (r₁ :: r₂ :: rs) = false := by with_unfolding_all rfl) : W c l n (PySem.isTrue (.Compare a (op₁ :: op₂ :: ops) (r₁ :: r₂ :: rs) pos) env whole) Q E := fun h tk S => isTrue_chain (H.seq S) hb
theorem T_not {a : Expr} (H : W c l n (PySem.isTrue a env (eval a env)) (fun b l1 n1 => Q (!b) l1 n1) E) : W c l n (PySem.isTrue (.UnaryOp .Not a pos) env whole) Q E := fun h tk S =>
  wpAny_isTrue_Not (H.run S fun b h' tk' l' n' S' q => .mk S' q)
theorem T_bool {op : BoolOp} {es : List Expr} (H : W c l n (allTrue op es env) Q E) : W c l n (PySem.isTrue (.BoolOp op es pos) env whole) Q E := fun h tk S => wpAny_isTrue_BoolOp (H h tk S)
theorem T_orN (q : Q false l n) : W c l n (allTrue .Or [] env) Q E := fun h tk S => wpAny_allTrue_Or_nil (.mk S q)
theorem T_or {x : Expr} {es : List Expr} (H : W c l n (PySem.isTrue x env (eval x env)) (fun b l1 n1 => if b = true then Q true l1 n1 else W c l1 n1 (allTrue .Or es env) Q E) E) : W c l n (allTrue .Or (x :: es) env) Q E := fun h tk S =>
  wpAny_allTrue_Or_cons (H.run S fun b h' tk' l' n' S' q => by
    cases b with
    | true => simp only [if_true] at q ⊢; exact .mk S' q
    | false => simp only [Bool.false_eq_true, if_false] at q ⊢; exact q h' tk' S')
theorem T_val {a : Expr} (H : W c l n (eval a env) (fun v l1 n1 => W c l1 n1 (truthy v) Q E) E) (ha : PySem.isTrue a env (eval a env) = (do let v ← eval a env; standAt a.pos; holding [v] (truthy v)) := by with_unfolding_all rfl) :
    W c l n (PySem.isTrue a env (eval a env)) Q E := fun h tk S => isTrue_plain (H.seq S) ha
theorem T_b {b : Bool} (q : Q b l n) : W c l n (truthy (.bool b)) Q E := fun h tk S => wpAny_truthy_bool (.mk S q)
end

-- lists of expressions
theorem L_nil {pos : Pos} {Q : List Value → Loc → Led → Prop} (q : Q [] l n) : W c l n (spliced (backTo pos (starEach [] env))) Q E := fun h tk S => wpAny_items_nil (.mk S q)
theorem L_cons {pos : Pos} {e : Expr} {es : List Expr} {Q : List Value → Loc → Led → Prop} (H : W c l n (eval e env) (fun v l1 n1 => W c l1 n1 (spliced (backTo pos (starEach es env))) (fun vs l2 n2 => Q (v :: vs) l2 n2) E) E)
    (he : starEach (e :: es) env = (false, eval e env) :: starEach es env := by with_unfolding_all rfl) : W c l n (spliced (backTo pos (starEach (e :: es) env))) Q E := fun h tk S =>
  wpAny_items_cons (H.run S fun v h1 tk1 l1 n1 S1 q => q.run S1 fun vs h2 tk2 l2 n2 S2 q2 => .mk S2 q2) he

-- calls of built-ins and types
section
variable {Q : Value → Loc → Led → Prop} {pos : Pos}
theorem C_type {T : String} {e : Expr} {es : List Expr} (H : W c l n (spliced (backTo pos (starEach (e :: es) env))) (fun vs l1 n1 => W c l1 n1 (call (.type T) vs) Q E) E)
    (he : starEach (e :: es) env = (false, eval e env) :: starEach es env := by with_unfolding_all rfl) (hp : ((backTo pos (starEach es env)).any fun x => x.1) = false := by with_unfolding_all rfl) : W c l n (callWith pos (.type T) [] (backTo pos (starEach (e :: es) env)) []) Q E := fun h tk S =>
  PyProof.Rows.callWith_type1 (H.seq S) he hp
theorem C_bi {id : String} {first : List Value} {e : Expr} {es : List Expr} (H : W c l n (spliced (backTo pos (starEach (e :: es) env))) (fun vs l1 n1 => W c l1 n1 (call (.builtin id) (first ++ vs)) Q E) E)
    (he : starEach (e :: es) env = (false, eval e env) :: starEach es env := by with_unfolding_all rfl) (hp : ((backTo pos (starEach es env)).any fun x => x.1) = false := by with_unfolding_all rfl) : W c l n (callWith pos (.builtin id) first (backTo pos (starEach (e :: es) env)) []) Q E := fun h tk S =>
  callWith_method1 (H.seq S) he hp
end
end
end Mine
end
section
open PySem PySem.W PySem.Calls PyProof.Rows
set_option Elab.async false
set_option maxRecDepth 100000
set_option linter.unusedVariables false
namespace Mine

/-- the ground's facts: the written part, the frames below, room -/
structure Cok (K : Frag) (c : Cx) (d : Nat) : Prop where
  ex : ∃ p loose mean mg mb outer, Top p loose mean mg mb c.g ∧ c.A.frames = some outer
  X : K.In c.g
  code : CodeHd c.g 331 329
  hh : c.A.handled = none
  guards : c.A.guards = some []
  room : c.A.depth + d < recursionLimit
  units : c.A.units + 8 * d < cLine

theorem Cok.le {K : Frag} {c : Cx} {d d' : Nat} (V : Cok K c d) (h : d' ≤ d) : Cok K c d' := ⟨V.ex, V.X, V.code, V.hh, V.guards, by have := V.room; omega, by have := V.units; omega⟩

def objAt (h : Heap) (a : Addr) : Obj := (h.get? a).getD default
def newsAt (h : Heap) (n : Led) : List (Addr × Obj) := n.map fun p => (p.1, objAt h p.1)
theorem objAt_of {h : Heap} {a : Addr} {o : Obj} (e : h.get? a = some o) : objAt h a = o := by unfold objAt; rw [e]; rfl
theorem Own.news {g h : Heap} {L : Addr} {n : Led} (O : Own g L h n) : News g L h (newsAt h n) := fun p hp => by
  obtain ⟨q, hq, rfl⟩ := List.mem_map.mp hp
  obtain ⟨a, b, o, ho, hd⟩ := O.2 q hq
  exact ⟨by rw [objAt_of ho]; exact ho, a, b⟩
theorem Own.of {g h h₀ : Heap} {L : Addr} {n : Led} (nd : (n.map (·.1)).Nodup) (N : News g L h (newsAt h₀ n)) (hd : ∀ p ∈ n, p.2 (objAt h₀ p.1)) : Own g L h n :=
  ⟨nd, fun p hp => by
    have z := N _ (List.mem_map_of_mem (f := fun p => (p.1, objAt h₀ p.1)) hp)
    exact ⟨z.2.1, z.2.2, _, z.1, hd p hp⟩⟩
theorem Own.desc {g h : Heap} {L : Addr} {n : Led} (O : Own g L h n) : ∀ p ∈ n, p.2 (objAt h p.1) := fun p hp => by
  obtain ⟨a, b, o, ho, hd⟩ := O.2 p hp
  rw [objAt_of ho]; exact hd

def flRet : Flow → Value
  | .ret v => v
  | _ => .none

theorem lookup_rev {l : Loc} (hn : (l.map (·.1)).Nodup) : ∀ p ∈ l, l.reverse.lookup p.1 = some p.2 := fun p hp => by
  have hn' : (l.reverse.map (·.1)).Nodup := by rw [List.map_reverse]; exact List.pairwise_reverse.mpr (hn.imp fun h => Ne.symm h)
  have hp' : p ∈ l.reverse := List.mem_reverse.mpr hp
  generalize l.reverse = r at hn' hp'
  induction r with
  | nil => cases hp'
  | cons q r ih =>
    rw [List.map_cons, List.nodup_cons] at hn'
    rcases List.mem_cons.mp hp' with rfl | hp'
    · rw [List.lookup_cons, beq_self_eq_true]
    · rw [List.lookup_cons]
      have : (p.1 == q.1) = false := by
        rw [beq_eq_false_iff_ne]
        exact fun e => hn'.1 (List.mem_map.mpr ⟨p, hp', e⟩)
      rw [this]; exact ih hn'.2 hp'

section
variable {K : Frag} {c : Cx} {d : Nat} {l : Loc} {n : Led} {E : Value → Shared → Prop}
  {name qual : Str} {params : Arguments} {body : List Stmt} {scope : Scope} {cl : List (Str × Addr)} {dV kV doc pm cdv ct oc : Value} {an od : Option Addr} {osl : Array (Option Value)} {f : Addr} {args : List Value} {kw : List (Str × Value)} {binds : Loc} {Q : Value → Loc → Led → Prop}

/-- the callee's frame -/
abbrev Cx.sub (c : Cx) (env : Env) (L : Addr) : Cx := { c with A := c.A.deeper env, L := L }

theorem Cok.deep {env : Env} {L : Addr} (V : Cok K c (d + 1)) (hf : env.frame = some L) (hk : env.scope.kind = .function) : Cok K (c.sub env L) d := by
  obtain ⟨p, loose, mean, mg, mb, outer, T, hA⟩ := V.ex
  exact ⟨⟨p, loose, mean, mg, mb, env :: outer, T, Around.frames_deeper hA⟩, V.X, V.code, V.hh, V.guards,
    by have := V.room; show c.A.depth + 1 + d < _; omega, by have := V.units; show c.A.units + 3 + 8 * d < _; omega⟩

/-- a frame that waits: what is said of it holds for its object whatever the machine notes beside it -/
structure Waits (F : Desc) : Prop where
  dict : ∀ o, F o → ∃ es ep, o.data = .dict es ep
  slots : ∀ o sl, F o → F { o with slots := sl }
def FRM (m : Str → Option Value) : Desc := fun o => ∃ es ep, o.data = .dict es ep ∧ StrKeys es ∧ ∀ name, nsFind es name = m name
theorem FRM.waits (m : Str → Option Value) : Waits (FRM m) := ⟨fun o ⟨es, ep, e, _⟩ => ⟨es, ep, e⟩, fun o sl ⟨es, ep, e, r⟩ => ⟨es, ep, e, r⟩⟩
theorem FRM.ns {h : Heap} {a : Addr} {o : Obj} {m : Str → Option Value} (e : h.get? a = some o) (x : FRM m o) : h.Ns a m := let ⟨es, ep, hd, r⟩ := x; ⟨o, es, ep, e, hd, r⟩

/-- the callee's state at its begin, the frame of the caller among what waits -/
theorem St.enter {g h h₁ : Heap} {L L' : Addr} {l lb : Loc} {n : Led} {m m' : Str → Option Value} (S : St g L l n h) (F : Fr g L h m) (hL : L' = h.objs.size) (keep : ∀ b o, h.get? b = some o → h₁.get? b = some o) (ns : h₁.Ns L' m')
    (hb : ∀ p ∈ lb, m' p.1 = some p.2) (hn : (lb.map (·.1)).Nodup) : St g L' lb ((L, FRM m) :: n) h₁ := by
  subst hL
  refine ⟨⟨m', ⟨ns, fun b o e => keep b o (F.keep b o e), Nat.le_of_lt (Nat.lt_of_le_of_lt F.above F.ns.lt)⟩, hb⟩, hn, ?_, fun p hp => ?_⟩
  · rw [List.map_cons, List.nodup_cons]
    refine ⟨fun hm => ?_, S.own.1⟩
    obtain ⟨p, hp, e⟩ := List.mem_map.mp hm
    exact (S.own.2 p hp).1 e
  · rcases List.mem_cons.mp hp with rfl | hp
    · obtain ⟨o, es, ep, e, hd, r⟩ := F.ns
      exact ⟨Nat.ne_of_lt (Heap.lt_size e), Heap.get?_none_of_le F.above, o, keep _ _ e, es, ep, hd, r⟩
    · obtain ⟨a, b, o, ho, hd⟩ := S.own.2 p hp
      exact ⟨Nat.ne_of_lt (Heap.lt_size ho), b, o, keep _ _ ho, hd⟩
/-- the caller's state behind the call -/
theorem St.leave {g h' : Heap} {L L' : Addr} {l l' : Loc} {n n' : Led} {m : Str → Option Value} (S : St g L' l' n' h') (hsub : ((L, FRM m) :: n).Sublist n') (above : g.objs.size ≤ L) (hk : ∀ p ∈ l, m p.1 = some p.2) (hn : (l.map (·.1)).Nodup) : St g L l n h' := by
  have S := S.sub hsub
  have nd := S.own.1
  rw [List.map_cons, List.nodup_cons] at nd
  obtain ⟨o, ho, hd⟩ := S.get (List.mem_cons_self ..)
  refine ⟨⟨m, ⟨FRM.ns ho hd, S.keep, above⟩, hk⟩, hn, nd.2, fun p hp => ?_⟩
  obtain ⟨a, b, r⟩ := S.own.2 p (List.mem_cons_of_mem _ hp)
  exact ⟨fun e => nd.1 (List.mem_map.mpr ⟨p, hp, e⟩), b, r⟩

/-- a def's end: what the caller owns is among what is left -/
def Back (L : Addr) (F : Desc) (P : Led → Prop) (n : Led) : Prop := ∃ n', P n' ∧ ∃ m, n.Perm m ∧ ((L, F) :: n').Sublist m
theorem W_def (V : Cok K c (d + 1)) (ho : K.lookup f = some ⟨oc, od, .func (fnX name qual params body scope [] dV kV doc pm an cdv ct), osl⟩) (hcd : codeIn K cdv qual = true)
    (hbind : ∀ s : Shared, K.In s.heap → BindsTo s (fnX name qual params body scope [] dV kV doc pm an cdv ct) ⟨args, kw⟩ binds) (hloc : ∀ y ∈ binds, scope.names.lookup y.1 = some .local) (hnd : (binds.map (·.1)).Nodup)
    (H : ∀ L F, Cok K (c.sub (envX qual scope L f cdv []) L) d → Waits F → W (c.sub (envX qual scope L f cdv []) L) binds ((c.L, F) :: n) (execs body (envX qual scope L f cdv [])) (fun fl _ n' => Back c.L F (Q (flRet fl) l) n') (fun _ _ => False))
    (hcell : ∀ x ∈ scope.names, x.2 ≠ .cell) (hco : scope.isCoroutine = false := by with_unfolding_all rfl) (hgen : scope.isGenerator = false := by with_unfolding_all rfl) (hk : scope.kind = .function := by with_unfolding_all rfl) : W c l n (call (.ref f) args kw) Q E := fun h tk S => by
  obtain ⟨p, loose, mean, mg, mb, outer, T, hA⟩ := V.ex
  obtain ⟨m, F, k⟩ := S.fr
  have X := V.X.keeps F.keep
  refine wpAny_call (codeAny_call_def (fd := fnX name qual params body scope [] dV kV doc pm an cdv ct) (body := body) (binds := binds) (by have := V.room; omega) (X _ _ ho) rfl (T.nolimit.keeps F.keep) (codeRec_of X hcd) rfl (hbind _ X) hcell hloc (fun h₁ hns hk₁ => ?_) hco hgen hk)
  refine wpAny_mono ((H h.objs.size (FRM m) (V.deep rfl hk) (FRM.waits m)).run (S.enter F rfl hk₁ hns (lookup_rev hnd) hnd) fun fl h' tk' l' n' S' q => ?_) (fun _ _ x => x) fun _ _ x => x.elim
  obtain ⟨n'', q, m₂, hperm, hsub⟩ := q
  have q' : ∀ v, v = flRet fl → Q v l n'' := fun v e => e ▸ q
  exact .mk ((S'.perm hperm).leave hsub F.above k S.nd) (q' _ (by cases fl <;> rfl))

theorem C_def {env : Env} {pos : Pos} {fv : Value} {first : List Value} {e : Expr} {es : List Expr} (V : Cok K c d) (hk : keepIn K fv = true) (H : W c l n (spliced (backTo pos (starEach (e :: es) env))) (fun vs l1 n1 => W c l1 n1 (call fv (first ++ vs)) Q E) E)
    (he : starEach (e :: es) env = (false, eval e env) :: starEach es env := by with_unfolding_all rfl) (hp : (backTo pos (starEach es env)).any (·.1) = false := by with_unfolding_all rfl) : W c l n (callWith pos fv first (backTo pos (starEach (e :: es) env)) []) Q E := fun h tk S =>
  callWith_K V.X hk (H.run S fun vs h1 tk1 l1 n1 S1 q => ⟨V.X.keeps S1.keep, q h1 tk1 S1⟩) he hp
theorem C_def0 {env : Env} {pos : Pos} {fv : Value} {first : List Value} (V : Cok K c d) (hk : keepIn K fv = true) (H : W c l n (call fv (first ++ [])) Q E) : W c l n (callWith pos fv first (backTo pos (starEach [] env)) []) Q E := fun h tk S =>
  callWith_K0 (V.X.keeps S.keep) hk (H h tk S)

theorem E_nameG {env : Env} {x : Str} {v : Value} {pos : Pos} (V : Cok K c d) (hs : env.scope.kind = .function) (hg : env.globals = mainGlobals) (hk : env.kindOf x = some .globalImplicit) (e : nsIn K mainGlobals x = some (some v)) (q : Q v l n) (hd : (x == ("__debug__" : Str)) = false := by decide) :
    W c l n (eval (.Name x pos) env) Q E := fun h tk S => by
  obtain ⟨p, loose, mean, mg, mb, outer, T, hA⟩ := V.ex
  exact Name_function_global hs hk (loadGlobal_global (env := env) (by rw [hg]; exact T.g.keeps S.keep) (mg_of V.X T.g e) (.mk S q)) hd
theorem E_nameB {env : Env} {x : Str} {v : Value} {pos : Pos} (V : Cok K c d) (hs : env.scope.kind = .function) (hg : env.globals = mainGlobals) (hb : env.builtins = builtinsNs) (hk : env.kindOf x = some .globalImplicit) (e : nsIn K mainGlobals x = some none) (hv : bootBuiltins x = some v) (hn : x ≠ "__name__") (q : Q v l n)
    (hd : (x == ("__debug__" : Str)) = false := by decide) : W c l n (eval (.Name x pos) env) Q E := fun h tk S => by
  obtain ⟨p, loose, mean, mg, mb, outer, T, hA⟩ := V.ex
  exact Name_function_global hs hk (loadGlobal_builtin (env := env) (by rw [hg]; exact T.g.keeps S.keep) (mg_none_of V.X T.g e) (by rw [hb]; exact T.b.keeps S.keep) ((T.builtins x hn).trans hv) (.mk S q)) hd
end
end Mine
end
section
open PySem PySem.W PySem.Calls PyProof.Rows
set_option Elab.async false
set_option maxRecDepth 100000
set_option linter.unusedVariables false
namespace Mine

theorem St.drop {g : Heap} {L : Addr} {l : Loc} {n : Led} {h h' : Heap} {a : Addr} {d : Desc} (S : St g L l ((a, d) :: n) h) (hs : Heap.ExtBut a h h') : St g L l n h' := by
  obtain ⟨m, F, x⟩ := S.fr
  have D := S.own.2 _ (List.mem_cons_self ..)
  have nd := S.own.1
  rw [List.map_cons, List.nodup_cons] at nd
  obtain ⟨oL, es, ep, e, r⟩ := F.ns
  refine ⟨⟨m, ⟨⟨oL, es, ep, hs _ _ (Ne.symm D.1) e, r⟩, fun b o e => hs b o (fun q => by rw [q, D.2.1] at e; cases e) (F.keep b o e), F.above⟩, x⟩, S.nd, nd.2, fun p hp => ?_⟩
  obtain ⟨a1, b1, o, ho1, hd1⟩ := S.own.2 p (List.mem_cons_of_mem _ hp)
  exact ⟨a1, b1, o, hs _ _ (fun q => nd.1 (List.mem_map.mpr ⟨p, hp, q⟩)) ho1, hd1⟩

theorem St.locSub {g : Heap} {L : Addr} {l l' : Loc} {n : Led} {h : Heap} (S : St g L l n h) (hs : l'.Sublist l) : St g L l' n h := S.loc (fun p q => hs.subset q) (List.Nodup.sublist (hs.map _) S.nd)
/-- what a ledger tells of a heap -/
def Knows (c : Cx) (n : Led) (φ : Heap → Prop) : Prop := ∀ l h, St c.g c.L l n h → φ h
theorem Knows.led {c : Cx} {n : Led} {φ : Heap → Prop} {a : Addr} {d : Desc} (hm : (a, d) ∈ n) (k : ∀ h o, h.get? a = some o → d o → φ h) : Knows c n φ := fun l h S => let ⟨o, ho, hd⟩ := S.get hm; k h o ho hd

/-- an iterator's way -/
structure Itr (c : Cx) (a : Addr) (D : Nat → Desc) (N : Led → Prop) (P : Nat → Value → Prop) (len : Nat) : Prop where
  item : ∀ i l n (Q : Option Value → Loc → Led → Prop) (E : Value → Shared → Prop), i < len → N n → (∀ v, P i v → Q (some v) l ((a, D (i + 1)) :: n)) → W c l ((a, D i) :: n) (pyNext (.ref a)) Q E
  done : ∀ l n (Q : Option Value → Loc → Led → Prop) (E : Value → Shared → Prop), N n → Q none l n → W c l ((a, D len) :: n) (pyNext (.ref a)) Q E

theorem Itr.of_walks {c : Cx} {a : Addr} {fp : List Addr} {len : Nat} {P : Nat → Value → Prop} {T : Nat → Heap → Prop} {D : Nat → Desc} {N : Led → Prop} (X : Walks c.P c.w c.A a fp [a] len P T)
    (h1 : ∀ i l n h, St c.g c.L l ((a, D i) :: n) h → N n → T i h) (h2 : ∀ i h, T i h → ∃ o, h.get? a = some o ∧ D i o) : Itr c a D N P len where
  item := fun i l n Q E hi hN hq h tk S => by
    refine X.item i _ _ _ hi (h1 i l n h S hN) fun v h' tk' hP hst hk => ?_
    obtain ⟨o, ho, hd⟩ := h2 _ _ hst
    exact .mk (S.set (fun b o hb e => hk b o (by simpa using hb) e) ho hd) (hq v hP)
  done := fun l n Q E hN hq h tk S => by
    refine X.done _ _ _ (h1 len l n h S hN) fun h' tk' hk => ?_
    exact .mk (S.drop fun b o hb e => hk b o (by simpa using hb) e) hq

-- the iterators' objects
def ITL (ax : Addr) (i : Nat) : Desc := fun o => o.cls = .type "list_iterator" ∧ o.data = .fields #[.ref ax, .int i 0]
def ITB (b : List UInt8) (t : Tok) (i : Nat) : Desc := fun o => o.cls = .type "bytes_iterator" ∧ o.data = .fields #[.bytes b.toArray t, .int i 0]
def ITR (a : Int) (n : Nat) (i : Nat) : Desc := fun o => o = { cls := .type "range_iterator", data := .fields #[rawInt (a + i * 1), rawInt (n - i), rawInt 1] }
-- lists, tuples
def LST (vs : List Value) : Desc := fun o => ∃ k, o = { cls := .type "list", data := .seq vs.toArray k }
def TUP (vs : List Value) : Desc := fun o => ∃ k, o = { cls := .type "tuple", data := .seq vs.toArray k }
def RNG (a b : Int) : Desc := fun o => ∃ t u v, o = { cls := .type "range", data := .fields #[.int a t, .int b u, .int 1 v] }
theorem LST.is {h : Heap} {a : Addr} {vs : List Value} {o : Obj} (ho : h.get? a = some o) (d : LST vs o) : h.IsList a vs.toArray := by obtain ⟨k, rfl⟩ := d; exact ⟨_, ho, rfl, k, rfl⟩
theorem LST.plain {h : Heap} {a : Addr} {vs : List Value} {o : Obj} (ho : h.get? a = some o) (d : LST vs o) : h.PlainList a vs.toArray := by obtain ⟨k, rfl⟩ := d; exact ⟨k, ho⟩
theorem TUP.is {h : Heap} {a : Addr} {vs : List Value} {o : Obj} (ho : h.get? a = some o) (d : TUP vs o) : IsTup h a vs.toArray := by obtain ⟨k, rfl⟩ := d; exact ⟨_, ho, rfl, k, rfl⟩
theorem Knows.list {c : Cx} {n : Led} {a : Addr} {vs : List Value} (hm : (a, LST vs) ∈ n) : Knows c n (·.IsList a vs.toArray) := .led hm fun _ _ => LST.is

section
variable {c : Cx} {l : Loc} {n : Led} {E : Value → Shared → Prop}

theorem itr_bytes (hh : c.A.handled = none) (a : Addr) (b : List UInt8) (t : Tok) : Itr c a (ITB b t) (fun _ => True) (fun i v => ∃ x u, b[i]? = some x ∧ v = .int (x.toNat : Int) u) b.length := by
  have X := KBw.walks (prog := c.P) (w := c.w) hh a b.toArray t
  simp only [List.size_toArray, List.getElem?_toArray] at X
  exact .of_walks X (fun i l n h S _ => by obtain ⟨o, ho, hd⟩ := S.get (List.mem_cons_self ..); exact ⟨o, ho, hd.1, hd.2⟩) fun i h ⟨o, ho, hd⟩ => ⟨o, ho, hd⟩
theorem I_bytes {b : List UInt8} {t : Tok} {Q : Value → Loc → Led → Prop} (q : ∀ a, Q (.ref a) l ((a, ITB b t 0) :: n)) : W c l n (pyIter (.bytes b.toArray t)) Q E := fun h tk S =>
  KBw.pyIter_bytes (.mk (S.push ⟨rfl, rfl⟩) (q _))

theorem itr_list (hh : c.A.handled = none) (a ax : Addr) (vs : List Value) : Itr c a (ITL ax) (fun n => Knows c n (·.IsList ax vs.toArray) ∧ ax ≠ a) (fun i v => vs[i]? = some v) vs.length where
  item := fun i l n Q E hi hN hq => by
    have X := Walks.list (prog := c.P) (w := c.w) hh a ax hN.2 vs.toArray
    simp only [List.size_toArray, List.getElem?_toArray] at X
    refine (Itr.of_walks (D := ITL ax) (N := fun n => Knows c n (·.IsList ax vs.toArray)) X (fun i l n h S k => ?_) fun i h ⟨⟨o, ho, hd⟩, _⟩ => ⟨o, ho, hd⟩).item i l n Q E hi hN.1 hq
    obtain ⟨o, ho, hd⟩ := S.get (List.mem_cons_self ..)
    exact ⟨⟨o, ho, hd.1, hd.2⟩, k l h (S.sub (List.sublist_cons_self ..))⟩
  done := fun l n Q E hN hq => by
    have X := Walks.list (prog := c.P) (w := c.w) hh a ax hN.2 vs.toArray
    simp only [List.size_toArray, List.getElem?_toArray] at X
    refine (Itr.of_walks (D := ITL ax) (N := fun n => Knows c n (·.IsList ax vs.toArray)) X (fun i l n h S k => ?_) fun i h ⟨⟨o, ho, hd⟩, _⟩ => ⟨o, ho, hd⟩).done l n Q E hN.1 hq
    obtain ⟨o, ho, hd⟩ := S.get (List.mem_cons_self ..)
    exact ⟨⟨o, ho, hd.1, hd.2⟩, k l h (S.sub (List.sublist_cons_self ..))⟩
theorem I_list {ax : Addr} {vs : List Value} {Q : Value → Loc → Led → Prop} (k : Knows c n (·.IsList ax vs.toArray)) (q : ∀ a, ax ≠ a → Q (.ref a) l ((a, ITL ax 0) :: n)) : W c l n (pyIter (.ref ax)) Q E := fun h tk S => by
  have hl := k l h S
  refine wpAny_pyIter_list hl (.mk (S.push ⟨rfl, rfl⟩) (q _ ?_))
  obtain ⟨o, ho, _⟩ := hl
  exact Nat.ne_of_lt (Heap.lt_size ho)

theorem itr_range (hh : c.A.handled = none) (a : Addr) (x : Int) (k : Nat) : Itr c a (ITR x k) (fun _ => True) (fun i v => ∃ t, v = .int (x + i * 1) t) k :=
  .of_walks (Walks.range (prog := c.P) (w := c.w) hh a x 1 k) (fun i l n h S _ => by obtain ⟨o, ho, hd⟩ := S.get (List.mem_cons_self ..); subst hd; exact ho) fun i h e => ⟨_, e, rfl⟩
theorem I_range {r : Addr} {x y : Int} {Q : Value → Loc → Led → Prop} (hm : (r, RNG x y) ∈ n) (h0 : -2 ^ 62 ≤ x) (h1 : x < 2 ^ 62) (h2 : -2 ^ 62 ≤ y) (h3 : y < 2 ^ 62) (q : ∀ a, Q (.ref a) l ((a, ITR x (y - x).toNat 0) :: n)) : W c l n (pyIter (.ref r)) Q E := fun h tk S => by
  obtain ⟨o, ho, t, u, v, rfl⟩ := S.get hm
  refine wpAny_pyIter_range ho (small_one h0 h1 h2 h3) (.mk (S.push (d := ITR x (y - x).toNat 0) ?_) (q _))
  unfold ITR
  rw [rangeSize_nat]
  simp

/-- a turn's end -/
def Turn (a : Addr) (d : Desc) (J : Loc → Led → Prop) (Q : Flow → Loc → Led → Prop) (f : Flow) (l : Loc) (n : Led) : Prop := match f with
  | .next | .cont => ∃ l' n', J l' n' ∧ l'.Sublist l ∧ ((a, d) :: n').Sublist n
  | .brk => Q .next l n
  | .ret v => Q (.ret v) l n

/-- a loop that is ready to run -/
inductive Ready (c : Cx) (env : Env) (target : Expr) (body : List Stmt) (Q : Flow → Loc → Led → Prop) (it : Value) (l : Loc) (n : Led) : Prop
  | of (a : Addr) (D : Nat → Desc) (N : Led → Prop) (P : Nat → Value → Prop) (len : Nat) (l₀ : Loc) (n₀ : Led) (J : Nat → Loc → Led → Prop) (h0 : it = .ref a) (h1 : Itr c a D N P len) (h2 : l₀.Sublist l) (h3 : ((a, D 0) :: n₀).Sublist n) (h4 : J 0 l₀ n₀) (h5 : (∀ i l n, J i l n → N n)) (h6 : (∀ i l n v, i < len → J i l n → P i v → W c l ((a, D (i + 1)) :: n) (assign target env v) (fun _ l1 n1 => W c l1 n1 (execs body env) (Turn a (D (i + 1)) (J (i + 1)) Q) fun _ _ => False) fun _ _ => False)) (h7 : ∀ l n, J len l n → Q .next l n)

theorem S_for {env : Env} {target iter : Expr} {body rest : List Stmt} {pos : Pos} {Q : Flow → Loc → Led → Prop}
    (H : W c l n (eval iter env) (fun x l1 n1 => W c l1 n1 (pyIter x) (Ready c env target body (Cont c rest env Q E)) E) E)
    (hs : ∀ x, foldedSetIterable iter env x = pure x := by intro _; with_unfolding_all rfl) (ht : ∀ it v, letOwnedTupleGo target it v = pure () := by intro _ _; with_unfolding_all rfl) : W c l n (execs (.For target iter body [] pos :: rest) env) Q E := S_cons fun h tk S => by
  refine wpAny_For (H.run S fun x h1 tk1 l1 n1 S1 q => q.run S1 fun it h2 tk2 l2 n2 S2 q2 => ?_) hs
  obtain ⟨a, D, N, P, len, l₀, n₀, J, rfl, I, hlsub, hsub, hJ, hN, turn, fin⟩ := q2
  refine codeAny_forLoop (fun k s' => ∃ i l n h tk, s' = { c.r with heap := h, toks := tk } ∧ St c.g c.L l ((a, D i) :: n) h ∧ J i l n ∧ i ≤ len ∧ k = len - i) ?_ len ⟨0, _, _, h2, tk2, rfl, (S2.sub hsub).locSub hlsub, hJ, Nat.zero_le _, rfl⟩ (ht _)
  rintro k s' ⟨i, l, n, h, tk, rfl, S, hJ, hi, rfl⟩
  by_cases hlt : i < len
  · refine (I.item i l n (fun o l' n' => ∃ v, o = some v ∧ P i v ∧ l' = l ∧ n' = (a, D (i + 1)) :: n) _ hlt (hN _ _ _ hJ) fun v hv => ⟨v, rfl, hv, rfl, rfl⟩).run S ?_
    rintro _ h3 tk3 _ _ S3 ⟨v, rfl, hv, rfl, rfl⟩
    refine (turn i _ _ v hlt hJ hv).noE.run S3 fun _ h4 tk4 l4 n4 S4 q4 => q4.noE.run S4 fun f h5 tk5 l5 n5 S5 q5 => ?_
    cases f with
    | ret v => exact .mk S5 q5
    | brk => exact .mk S5 q5
    | next => obtain ⟨l', n', j, sl, sb⟩ := q5; exact ⟨len - (i + 1), by omega, i + 1, l', n', h5, tk5, rfl, (S5.sub sb).locSub sl, j, hlt, rfl⟩
    | cont => obtain ⟨l', n', j, sl, sb⟩ := q5; exact ⟨len - (i + 1), by omega, i + 1, l', n', h5, tk5, rfl, (S5.sub sb).locSub sl, j, hlt, rfl⟩
  · obtain rfl : i = len := Nat.le_antisymm hi (Nat.not_lt.mp hlt)
    refine (I.done l n (fun o l' n' => o = none ∧ l' = l ∧ n' = n) _ (hN _ _ _ hJ) ⟨rfl, rfl, rfl⟩).run S ?_
    rintro _ h3 tk3 _ _ S3 ⟨rfl, rfl, rfl⟩
    exact wpAny_execs_nil (.mk S3 (fin _ _ hJ))

/-- a loop over bytes, by what is taken so far -/
theorem R_bytes {env : Env} {target : Expr} {body : List Stmt} {Q : Flow → Loc → Led → Prop} {b : List UInt8} {t : Tok} (hh : c.A.handled = none) (J : List UInt8 → Loc → Led → Prop) (l₀ : Loc) (n₀ : Led) (hl : l₀.Sublist l) (hn : n₀.Sublist n) (h0 : J [] l₀ n₀)
    (turn : ∀ pre x post l n u a d, b = pre ++ x :: post → J pre l n → W c l ((a, d) :: n) (assign target env (.int (x.toNat : Int) u)) (fun _ l1 n1 => W c l1 n1 (execs body env) (Turn a d (J (pre ++ [x])) Q) fun _ _ => False) fun _ _ => False)
    (fin : ∀ l n, J b l n → Q .next l n) : W c l n (pyIter (.bytes b.toArray t)) (Ready c env target body Q) E :=
  I_bytes fun a => ⟨a, _, _, _, _, l₀, n₀, fun i => J (b.take i), rfl, itr_bytes hh a b t, hl, hn.cons_cons _, by simpa using h0, fun _ _ _ _ => trivial, fun i l n v hi hJ hv => by
    obtain ⟨x, u, hx, rfl⟩ := hv
    have e : b.take (i + 1) = b.take i ++ [x] := by rw [List.take_add_one, hx]; rfl
    have r := turn (b.take i) x (b.drop (i + 1)) l n u a (ITB b t (i + 1)) (by
      have z := List.take_append_drop (i + 1) b
      rw [e, List.append_assoc] at z
      exact z.symm) hJ
    rw [← e] at r
    exact r, fun l n hJ => fin l n (by have hJ' : J (b.take b.length) l n := hJ; rwa [List.take_length] at hJ')⟩
theorem A_name {env : Env} {x : Str} {pos : Pos} {v : Value} {Q : Unit → Loc → Led → Prop} (H : W c l n (storeName env x v) Q E) : W c l n (assign (.Name x pos) env v) Q E := fun h tk S => wpAny_assign_Name (H h tk S)

/-- a while by a measure -/
theorem S_while {env : Env} {test : Expr} {body rest : List Stmt} {pos : Pos} {Q : Flow → Loc → Led → Prop} (J : Nat → Loc → Led → Prop)
    (turn : ∀ k l n, J k l n → W c l n (PySem.isTrue test env (eval test env)) (fun b l1 n1 => if b = true then W c l1 n1 (execs body env) (fun f l2 n2 => match f with
        | .next | .cont => ∃ k' l3 n3, k' < k ∧ J k' l3 n3 ∧ l3.Sublist l2 ∧ n3.Sublist n2
        | .brk => Cont c rest env Q E .next l2 n2
        | .ret v => Cont c rest env Q E (.ret v) l2 n2) fun _ _ => False
      else Cont c rest env Q E .next l1 n1) fun _ _ => False)
    (k : Nat) (l₀ : Loc) (n₀ : Led) (hJ : J k l₀ n₀) (hl : l₀.Sublist l) (hs : n₀.Sublist n) : W c l n (execs (.While test body [] pos :: rest) env) Q E := S_cons fun h tk S => by
  refine wpAny_While (codeAny_whileLoop (fun k s' => ∃ l n h tk, s' = { c.r with heap := h, toks := tk } ∧ St c.g c.L l n h ∧ J k l n) ?_ k ⟨l₀, n₀, h, tk, rfl, (S.sub hs).locSub hl, hJ⟩)
  rintro k s' ⟨l, n, h, tk, rfl, S, hJ⟩
  refine (turn k l n hJ).noE.run S fun b h1 tk1 l1 n1 S1 q => ?_
  cases b with
  | false =>
    simp only [Bool.false_eq_true, if_false] at q ⊢
    exact wpAny_execs_nil (.mk S1 q)
  | true =>
    simp only [if_true] at q ⊢
    refine q.noE.run S1 fun f h5 tk5 l5 n5 S5 q5 => ?_
    cases f with
    | ret v => exact .mk S5 q5
    | brk => exact .mk S5 q5
    | next => obtain ⟨k', l', n', hk, j, sl, sb⟩ := q5; exact ⟨k', hk, l', n', h5, tk5, rfl, (S5.sub sb).locSub sl, j⟩
    | cont => obtain ⟨k', l', n', hk, j, sl, sb⟩ := q5; exact ⟨k', hk, l', n', h5, tk5, rfl, (S5.sub sb).locSub sl, j⟩
end
end Mine
end
section
open PySem PySem.W PySem.Calls PyProof.Rows
set_option Elab.async false
set_option maxRecDepth 100000
set_option linter.unusedVariables false
namespace Mine

section
variable {c : Cx} {l : Loc} {n n' : Led} {E : Value → Shared → Prop} {Q : Value → Loc → Led → Prop} {a b : Int} {t u : Tok}

-- ints
theorem O_add (q : ∀ t, Q (.int (a + b) t) l n) : W c l n (binaryOp .Add (.int a t) (.int b u)) Q E := fun h tk S => add_int (.mk S (q _))
theorem O_sub (q : ∀ t, Q (.int (a - b) t) l n) : W c l n (binaryOp .Sub (.int a t) (.int b u)) Q E := fun h tk S => sub_int (.mk S (q _))
theorem O_mul (q : ∀ t, Q (.int (a * b) t) l n) (ok : IntMulOk a b) : W c l n (binaryOp .Mult (.int a t) (.int b u)) Q E := fun h tk S => mul_int (.mk S (q _)) ok
theorem O_div (hb : b ≠ 0) (ok : Builtin.divisionGoesByPylong a b = false) (q : ∀ t, Q (.int (a.fdiv b) t) l n) : W c l n (binaryOp .FloorDiv (.int a t) (.int b u)) Q E := fun h tk S => floordiv_int hb (.mk S (q _)) (.inl ok)
theorem O_mod (hb : b ≠ 0) (q : ∀ t, Q (.int (a.fmod b) t) l n) : W c l n (binaryOp .Mod (.int a t) (.int b u)) Q E := fun h tk S => mod_int' hb (.mk S (q _))
theorem O_shl (h0 : 0 ≤ b) (h1 : b ≤ 1000000) (h2 : a.natAbs < 2 ^ 64) (q : ∀ t, Q (.int (a * 2 ^ b.toNat) t) l n) : W c l n (binaryOp .LShift (.int a t) (.int b u)) Q E := fun h tk S => lshift_int_small h0 h1 h2 (.mk S (q _))
theorem O_shr (h0 : 0 ≤ b) (q : ∀ t, Q (.int (a.fdiv (2 ^ b.toNat)) t) l n) : W c l n (binaryOp .RShift (.int a t) (.int b u)) Q E := fun h tk S => rshift_int h0 (.mk S (q _))
theorem O_and (q : ∀ t, Q (.int (Builtin.bitAnd a b) t) l n) : W c l n (binaryOp .BitAnd (.int a t) (.int b u)) Q E := fun h tk S => and_int (.mk S (q _))
theorem O_or (q : ∀ t, Q (.int (Builtin.bitOr a b) t) l n) : W c l n (binaryOp .BitOr (.int a t) (.int b u)) Q E := fun h tk S => or_int (.mk S (q _))
theorem O_xor (q : ∀ t, Q (.int (Builtin.bitXor a b) t) l n) : W c l n (binaryOp .BitXor (.int a t) (.int b u)) Q E := fun h tk S => xor_int (.mk S (q _))
theorem O_pow (h0 : 0 ≤ b) (h1 : (Builtin.Int.intBits a : Int) * b ≤ 2 ^ 27) (q : ∀ t, Q (.int (a ^ b.toNat) t) l n) : W c l n (binaryOp .Pow (.int a t) (.int b u)) Q E := fun h tk S => pow_int h0 h1 (.mk S (q _))
theorem O_neg (q : ∀ t, Q (.int (-a) t) l n) : W c l n (unaryOp .USub (.int a t)) Q E := fun h tk S => neg_int (.mk S (q _))
theorem O_eq (q : Q (.bool (a == b)) l n) : W c l n (compareOp .Eq (.int a t) (.int b u)) Q E := fun h tk S => eq_int (.mk S q)
theorem O_ne (q : Q (.bool (a != b)) l n) : W c l n (compareOp .NotEq (.int a t) (.int b u)) Q E := fun h tk S => ne_int (.mk S q)
theorem O_lt (q : Q (.bool (decide (a < b))) l n) : W c l n (compareOp .Lt (.int a t) (.int b u)) Q E := fun h tk S => lt_int (.mk S q)
theorem O_le (q : Q (.bool (decide (a ≤ b))) l n) : W c l n (compareOp .LtE (.int a t) (.int b u)) Q E := fun h tk S => le_int (.mk S q)
theorem O_gt (q : Q (.bool (decide (b < a))) l n) : W c l n (compareOp .Gt (.int a t) (.int b u)) Q E := fun h tk S => gt_int (.mk S q)
theorem O_ge (q : Q (.bool (decide (b ≤ a))) l n) : W c l n (compareOp .GtE (.int a t) (.int b u)) Q E := fun h tk S => ge_int (.mk S q)
theorem O_int (q : Q (.int a t) l n) : W c l n (call (.type "int") [.int a t]) Q E := fun h tk S => call_int_int (.mk S q)
theorem O_intB {p : Bool} (q : ∀ t, Q (.int (if p = true then 1 else 0) t) l n) : W c l n (call (.type "int") [.bool p]) Q E := fun h tk S => call_int_bool (.mk S (q _))
theorem O_isNone {v : Value} (q : Q (.bool (v == .none)) l n) : W c l n (compareOp .Is v .none) Q E := fun h tk S => is_none (.mk S q)
theorem O_max (hh : c.A.handled = none) (q : ∀ t, Q (.int (max a b) t) l n) : W c l n (call (.builtin "max") [.int a t, .int b u]) Q E := fun h tk S => by
  obtain ⟨m, F, k⟩ := S.fr
  refine max_two_N hh F S.own.news fun h' tk' F' N' => .mk (l := l) (n := n) ⟨⟨m, F', k⟩, S.nd, .of S.own.1 N' S.own.desc⟩ ?_
  have e : (if b > a then b else a) = max a b := by omega
  rw [e]; exact q _
theorem O_min (hh : c.A.handled = none) (q : ∀ t, Q (.int (min a b) t) l n) : W c l n (call (.builtin "min") [.int a t, .int b u]) Q E := fun h tk S => by
  obtain ⟨m, F, k⟩ := S.fr
  refine min_two_N hh F S.own.news fun h' tk' F' N' => .mk (l := l) (n := n) ⟨⟨m, F', k⟩, S.nd, .of S.own.1 N' S.own.desc⟩ ?_
  have e : (if b < a then b else a) = min a b := by omega
  rw [e]; exact q _

-- bytes
theorem B_add {x y : List UInt8} (hz : x.length + y.length ≤ 16777216) (q : ∀ t, Q (.bytes (x ++ y).toArray t) l n) : W c l n (binaryOp .Add (.bytes x.toArray t) (.bytes y.toArray u)) Q E := fun h tk S =>
  KBy.add_bytes (by simpa using hz) fun t' k => by rw [List.append_toArray]; exact .mk S (q _)
theorem B_ne {x y : List UInt8} (q : Q (.bool (x != y)) l n) : W c l n (compareOp .NotEq (.bytes x.toArray t) (.bytes y.toArray u)) Q E := fun h tk S => ne_bytes (.mk S q)
theorem B_len {x : List UInt8} (hz : x.length ≤ 1099511627776) (q : ∀ t, Q (.int (x.length : Int) t) l n) : W c l n (call (.builtin "len") [.bytes x.toArray t]) Q E := fun h tk S => len_bytes (by simpa using hz) (.mk S (by rw [List.size_toArray]; exact q _))
theorem B_item {x : List UInt8} {e s : Expr} (hz : x.length ≤ 1099511627776) (h0 : 0 ≤ a) (h1 : a < (x.length : Int)) (q : ∀ t, Q (.int ((x.getD a.toNat 0).toNat : Int) t) l n)
    (hs : subscripted s false (.bytes x.toArray t) (.int a u) = operate [.bytes x.toArray t, .int a u] (getItem (.bytes x.toArray t) (.int a u)) := by with_unfolding_all rfl)
    (ht : ∀ r, letTemporaryGo e (.bytes x.toArray t) r = pure () := by intro _; with_unfolding_all rfl) : W c l n (subscriptTail e s (.bytes x.toArray t) (.int a u)) Q E := fun h tk S =>
  tail_of_ItemOn ⟨"bytes", _, FB.slot_bytes_getitem.lookup, typeIs_bytes _ _ _, getItem_bytes hz h0 h1 (.mk S (q _))⟩ hs ht
theorem B_make {ax : Addr} {vs : List Value} {ns : List Int} (hh : c.A.handled = none) (k : Knows c n (·.IsList ax vs.toArray)) (hi : IntsAre vs ns) (hr : ∀ x ∈ ns, 0 ≤ x ∧ x < 256) (hz : vs.length ≤ sizeLine)
    (q : ∀ t, Q (.bytes (ns.map fun x => x.toNat.toUInt8).toArray t) l n) : W c l n (call (.type "bytes") [.ref ax]) Q E := fun h tk S =>
  call_bytes_ints (k l h S) hi hr hz hh fun h' t' k' hk => .mk (S.keeps hk) (q _)

def cutB (x : List UInt8) (lo hi : Option Int) : List UInt8 := (x.drop (lo.elim 0 (clipAt x.length))).take (hi.elim x.length (clipAt x.length) - lo.elim 0 (clipAt x.length))
theorem cutB_eq (x : List UInt8) (lo hi : Option Int) : KBy.picked x.toArray lo hi = (cutB x lo hi).toArray := by
  rw [KBc.picked_eq]; simp only [List.size_toArray]; rfl
theorem E_cutB {env : Env} {e : Expr} {lower upper : Option Expr} {p pos : Pos}
    (H : W c l n (eval e env) (fun o l1 n1 => W c l1 n1 (evalPart lower env) (fun v1 l2 n2 => W c l2 n2 (evalPart upper env) (fun v2 l3 n3 => ∃ x t lo hi, o = .bytes (List.toArray x) t ∧ IsPart v1 lo ∧ IsPart v2 hi ∧ x.length ≤ 16777216 ∧ ∀ t', Q (.bytes (cutB x lo hi).toArray t') l3 n3) E) E) E)
    (ht : ∀ o r, letTemporaryGo e o r = pure () := by intro _ _; with_unfolding_all rfl) : W c l n (eval (.Subscript e (.Slice lower upper none p) pos) env) Q E := fun h tk S => by
  refine wpAny_Subscript_Slice FB.slot_bytes_getitem.lookup (H.run S fun o h1 tk1 l1 n1 S1 q1 => wpAny_Slice (q1.run S1 fun v1 h2 tk2 l2 n2 S2 q2 => q2.run S2 fun v2 h3 tk3 l3 n3 S3 q3 => ?_)) ht
  obtain ⟨x, t, lo, hi, rfl, p1, p2, hz, q⟩ := q3
  rw [evalPart_none]
  refine wpAny_pure ⟨typeIs_bytes _ _ _, getItem_meets (typeIs_bytes _ _ _) (by decide) FB.slot_bytes_getitem FB.entry_bytes_getitem (FB.args_bytes_getitem_2 _ _) (KBc.meets_slice2 x.toArray t _ p1 p2) ⟨Heap.IsSliceOf.new _ _ _ _, ?_, fun t' k => ?_⟩⟩
  · exact Nat.le_trans (KBc.size_picked_le _ lo hi) (by rw [sizeLine_eq]; simpa using hz)
  · rw [cutB_eq]; exact .mk (S3.pushDrop _) (q _)

-- lists
theorem N_list {vs : List Value} (hz : vs.length ≤ sizeLine) (q : ∀ a, Q (.ref a) l ((a, LST vs) :: n)) : W c l n (newList vs) Q E := fun h tk S =>
  wpAny_newObj_type (.mk (S.push ⟨0, rfl⟩) (q _)) (by show vs.toArray.size ≤ sizeLine; simpa using hz)
theorem N_tuple {vs : List Value} (hz : vs.length ≤ sizeLine) (q : ∀ a, Q (.ref a) l ((a, TUP vs) :: n)) : W c l n (newTuple vs) Q E := fun h tk S =>
  wpAny_newObj_type (.mk (S.push ⟨0, rfl⟩) (q _)) (by show vs.toArray.size ≤ sizeLine; simpa using hz)
theorem G_list {ax : Addr} {vs : List Value} {name : Str} {id : String} {pl : Sem Bool} {Q : Value × List Value → Loc → Led → Prop} (hm : (ax, LST vs) ∈ n) (slot : Slot "list" name id) (hty : typeOf (.builtin id) = pure (.type "method_descriptor")) (q : Q (.builtin id, [.ref ax]) l n) :
    W c l n (getMethod (.ref ax) name pl) Q E := fun h tk S => by
  obtain ⟨o, ho, hd⟩ := S.get hm
  refine getMethod_builtin (LST.is ho hd).typeIs PySem.F.plainAttrs_list slot hty (fun a e => ?_) (.mk S q)
  cases e; obtain ⟨k, rfl⟩ := hd; exact ⟨_, ho, rfl⟩
theorem L_append {ax : Addr} {vs : List Value} {v : Value} (P : LSet ax (LST vs) (LST (vs ++ [v])) n n') (hz : vs.length ≤ sizeLine) (q : Q .none l n') : W c l n (call (.builtin "list.append") [.ref ax, v]) Q E := fun h tk S => by
  obtain ⟨o, ho, hd⟩ := S.get P.mem
  refine wpAny_list_append_plain (LST.plain ho hd) (fun h' ⟨k, hp⟩ hs => .mk (S.lset P hs.extBut hp ⟨k, by simp⟩) q) (by simpa using hz)
theorem L_item {ax : Addr} {vs : List Value} {v : Value} {e s : Expr} (k : Knows c n (·.IsList ax vs.toArray)) (h0 : 0 ≤ a) (h1 : a < 2 ^ 63) (hv : vs[a.toNat]? = some v) (q : Q v l n)
    (hs : subscripted s false (.ref ax) (.int a u) = operate [.ref ax, .int a u] (getItem (.ref ax) (.int a u)) := by with_unfolding_all rfl) : W c l n (subscriptTail e s (.ref ax) (.int a u)) Q E := fun h tk S => by
  have hl := k l h S
  exact tail_any hl.typeIs slot_list_getitem.lookup (wpAny_getItem_list hl h0 h1 (by simpa using hv) (.mk S q)) hs
end
end Mine
end
section
open PySem PySem.W PySem.Calls PyProof.Rows
set_option Elab.async false
set_option maxRecDepth 100000
set_option linter.unusedVariables false
namespace Mine

section
variable {c : Cx} {l : Loc} {n n' : Led} {E : Value → Shared → Prop} {env : Env} {rest : List Stmt} {Q : Flow → Loc → Led → Prop}

theorem U_tuple {t : Addr} {vs : List Value} {k : Nat} {Q : List Value → Loc → Led → Prop} (hh : c.A.handled = none) (kn : Knows c n (IsTup · t vs.toArray)) (hk : k = vs.length) (q : Q vs l n) : W c l n (unpackItems (.ref t) k none) Q E := fun h tk S => by
  subst hk
  have := unpackItems_tuple (prog := c.P) (w := c.w) (E := E) (Q := Out c Q) hh (kn l h S) (s := { c.r with heap := h, toks := tk }) fun h' he => .mk (l := l) (n := n) (S.keeps fun b o e => he b o (Nat.ne_of_lt (Heap.lt_size e)) e) (by simpa using q)
  simpa using this
theorem Knows.tup {a : Addr} {vs : List Value} (hm : (a, TUP vs) ∈ n) : Knows c n (IsTup · a vs.toArray) := .led hm fun _ _ => TUP.is

theorem IO_nil {ts : List (Value → Sem Unit)} {Q : Unit → Loc → Led → Prop} (q : Q () l n) : W c l n (assignInOrder [] []) Q E := fun h tk S => wpAny_pure (.mk S q)
theorem IO_bind {x : Str} {v : Value} {ts : List (Value → Sem Unit)} {vs : List Value} {Q : Unit → Loc → Led → Prop} (H : W c l n (storeName env x v) (fun _ l1 n1 => W c l1 n1 (assignInOrder ts vs) Q E) E) : W c l n (assignInOrder ((fun v => bindName env x v) :: ts) (v :: vs)) Q E := fun h tk S => by
  show wpAny _ _ (do holding vs (bindName env x v); assignInOrder ts vs) _ _ _
  exact wpAny_bind (wpAny_holding (wpAny_bindName (H.seq S)))
theorem IO_cons {e : Expr} {es : List Expr} {v : Value} {vs : List Value} {Q : Unit → Loc → Led → Prop} (H : W c l n (assign e env v) (fun _ l1 n1 => W c l1 n1 (assignInOrder ((assignEach es env).map (·.2)) vs) Q E) E)
    (he : assignEach (e :: es) env = (false, assign e env) :: assignEach es env := by with_unfolding_all rfl) : W c l n (assignInOrder ((assignEach (e :: es) env).map (·.2)) (v :: vs)) Q E := fun h tk S => by
  rw [he]
  show wpAny _ _ (do holding vs (assign e env v); assignInOrder ((assignEach es env).map (·.2)) vs) _ _ _
  exact wpAny_bind (wpAny_holding (H.seq S))
theorem IO_done {Q : Unit → Loc → Led → Prop} (q : Q () l n) : W c l n (assignInOrder ((assignEach [] env).map (·.2)) []) Q E := fun h tk S => wpAny_pure (.mk S q)

theorem A_tuple {es : List Expr} {k : Nat} {pos : Pos} {t : Addr} {vs : List Value} {Q : Unit → Loc → Led → Prop} (hh : c.A.handled = none) (kn : Knows c n (IsTup · t vs.toArray)) (H : W c l n (assignInOrder ((assignEach es env).map (·.2)) vs) Q E)
    (hl : (assignEach es env).length = vs.length := by with_unfolding_all rfl) (hs : (assignEach es env).findIdx? (·.1) = none := by with_unfolding_all rfl) : W c l n (assign (.Tuple es k pos) env (.ref t)) Q E := fun h tk S => by
  rw [arm_assign_Tuple]
  refine wpAny_bind (wpAny_standAt ?_)
  unfold unpack
  rw [hs]
  exact (wpAny_bind (wpAny_holding ((U_tuple (l := l) (Q := fun vs' l' n' => vs' = vs ∧ l' = l ∧ n' = n) (E := E) hh kn hl ⟨rfl, rfl, rfl⟩).run S fun a h' tk' l' n' S' q => by
    obtain ⟨rfl, rfl, rfl⟩ := q
    exact H h' tk' S')))
theorem S_unpack {es : List Expr} {k : Nat} {tpos pos : Pos} {value : Expr} (H : W c l n (eval value env) (fun v l1 n1 => W c l1 n1 (assign (.Tuple es k tpos) env v) (fun _ l2 n2 => W c l2 n2 (execs rest env) Q E) E) E)
    (hs : swapsWithSole [.Tuple es k tpos] value pos.line env = pure false := by with_unfolding_all rfl) (hw : swappedStores [.Tuple es k tpos] value env = pure none := by with_unfolding_all rfl) : W c l n (execs (.Assign [.Tuple es k tpos] value pos :: rest) env) Q E := S_cons fun h tk S =>
  Assign_Tuple (H.run S fun v h' tk' l' n' S' q => q.run S' fun _ h2 tk2 l2 n2 S2 q2 => .mk S2 q2) hs hw

theorem S_tup2 {es ts : List Expr} {k k2 : Nat} {tpos pos vp : Pos} {x y : Str} (hh : c.A.handled = none)
    (H : W c l n (spliced (backTo vp (starEach es env))) (fun vs l1 n1 => ∃ a b, vs = [a, b] ∧ W c l1 n1 (storeName env y b) (fun _ l2 n2 => W c l2 n2 (storeName env x a) (fun _ l3 n3 => W c l3 n3 (execs rest env) Q E) E) E) E)
    (hw : swappedStores [.Tuple ts k tpos] (.Tuple es k2 vp) env = pure (some [x, y])) (hs : swapsWithSole [.Tuple ts k tpos] (.Tuple es k2 vp) pos.line env = pure false := by with_unfolding_all rfl) :
    W c l n (execs (.Assign [.Tuple ts k tpos] (.Tuple es k2 vp) pos :: rest) env) Q E := S_cons fun h tk S => by
  refine Assign_Tuple_swapped ((E_tuple (Q := fun v l1 n1 => ∃ t a b n2, v = .ref t ∧ n1 = (t, TUP [a, b]) :: n2 ∧ W c l1 n2 (storeName env y b) (fun _ l2 n2 => W c l2 n2 (storeName env x a) (fun _ l3 n3 => W c l3 n3 (execs rest env) Q E) E) E)
    (H.mono fun vs l1 n1 q => by
      obtain ⟨a, b, rfl, q⟩ := q
      exact N_tuple (Nat.le_of_ble_eq_true rfl) fun t => ⟨t, a, b, n1, rfl, rfl, q⟩)).run S fun v h1 tk1 l1 n1 S1 q1 => ?_) hs hw
  obtain ⟨t, a, b, n2, rfl, rfl, q⟩ := q1
  refine (U_tuple (l := l1) (Q := fun vs' l' n' => vs' = [a, b] ∧ l' = l1 ∧ n' = (t, TUP [a, b]) :: n2) hh (.tup List.mem_cons_self) rfl ⟨rfl, rfl, rfl⟩).run S1 ?_
  rintro _ h2 tk2 _ _ S2 ⟨rfl, rfl, rfl⟩
  exact (IO_bind (ts := [fun v => bindName env x v]) (vs := [a]) (q.mono fun _ l3 n3 q3 => IO_bind (ts := []) (vs := []) (q3.mono fun _ l4 n4 q4 => IO_nil (ts := []) q4))).run (S2.sub (List.sublist_cons_self ..)) fun _ h3 tk3 l3 n3 S3 q3 => .mk S3 q3
end
end Mine
end
section
open PySem PySem.W PySem.Calls PyProof.Rows
open PySem.Sem (wp)
set_option Elab.async false
set_option maxRecDepth 100000
set_option linter.unusedVariables false
namespace Mine

/-- a code that no decoder's turn is: a bytearray's resizing asks after decoders that hold it -/
def niceC : Code → Bool
  | .builtin id _ => !Builtin.Bytes.decodersThatHold.contains id
  | _ => true
def niceL (st : List (Code × Pos)) : Bool := st.all fun x => niceC x.1
def Nice (Γ : Ctx) : Prop := niceC Γ.code = true ∧ niceL Γ.below = true

def wpN {α : Type} (M : Model) (A : Around) (t : Sem α) (Q : α → Shared → Prop) (E : Value → Shared → Prop) (s : Shared) : Prop :=
  ∀ Γ p, Γ.In A → Nice Γ → wp M Γ t (fun a _ s' => Q a s') (fun e _ s' => E e s') p s
def codeN (M : Model) (A : Around) (c : Code) (R : Result → Shared → Prop) (s : Shared) : Prop :=
  ∀ Γ p, Γ.code = c → Γ.Below A → niceL Γ.below = true → wpCode M Γ R p s

section
variable {α β : Type} {M : Model} {A : Around} {E : Value → Shared → Prop} {s : Shared}
theorem wpN_of {t : Sem α} {Q : α → Shared → Prop} (h : wpAny M A t Q E s) : wpN M A t Q E s := fun Γ p hΓ _ => h Γ p hΓ
theorem codeN_of {c : Code} {R : Result → Shared → Prop} (h : codeAny M A c R s) : codeN M A c R s := fun Γ p hc hΓ _ => h Γ p hc hΓ
theorem wpN_pure {a : α} {Q : α → Shared → Prop} (h : Q a s) : wpN M A (pure a) Q E s := fun _ _ _ _ => h
theorem wpN_mono {t : Sem α} {Q Q' : α → Shared → Prop} {E' : Value → Shared → Prop} (h : wpN M A t Q E s)
    (hQ : ∀ a s, Q a s → Q' a s) (hE : ∀ e s, E e s → E' e s) : wpN M A t Q' E' s :=
  fun Γ p hΓ hN => Sem.wp_mono M Γ t (fun a _ s => hQ a s) (fun e _ s => hE e s) p s (h Γ p hΓ hN)
theorem wpN_bind {m : Sem α} {f : α → Sem β} {Q : β → Shared → Prop} (h : wpN M A m (fun a s' => wpN M A (f a) Q E s') E s) : wpN M A (m >>= f) Q E s := fun Γ p hΓ hN => by
  rw [Sem.wp_bind']
  exact Sem.wp_mono M Γ m (fun a p' s' h' => h' Γ p' hΓ hN) (fun _ _ _ h' => h') p s (h Γ p hΓ hN)
theorem wpN_tryCatch {m : Sem α} {k : Value → Sem α} {Q : α → Shared → Prop} (h : wpN M A m Q (fun e s' => wpN M A (k e) Q E s') s) : wpN M A (tryCatch m k) Q E s := fun Γ p hΓ hN => by
  rw [Sem.wp_tryCatch']
  exact Sem.wp_mono M Γ m (fun _ _ _ h' => h') (fun e p' s' h' => h' Γ p' hΓ hN) p s (h Γ p hΓ hN)
theorem wpN_onRaise {m : Sem α} {k : Value → Sem Unit} {Q : α → Shared → Prop} (h : wpN M A m Q (fun e s' => wpN M A (k e) (fun _ s'' => E e s'') E s') s) : wpN M A (m.onRaise k) Q E s := fun Γ p hΓ hN => by
  rw [Sem.wp_onRaise]
  exact Sem.wp_mono M Γ m (fun _ _ _ h' => h') (fun e p' s' h' => h' Γ p' hΓ hN) p s (h Γ p hΓ hN)
theorem wpN_attempt {m : Sem α} {Q : Except Value α → Shared → Prop} (h : wpN M A m (fun a => Q (.ok a)) (fun e => Q (.error e)) s) : wpN M A m.attempt Q E s := fun Γ p hΓ hN => by rw [Sem.wp_attempt]; exact h Γ p hΓ hN
theorem wpN_holding {vs : List Value} {m : Sem α} {Q : α → Shared → Prop} (h : wpN M A m Q E s) : wpN M A (holding vs m) Q E s := fun Γ p hΓ hN => by rw [Sem.wp_holding]; exact h Γ p hΓ hN
theorem wpN_keep {vs : List Value} {m : Sem α} {Q : α → Shared → Prop} (h : wpN M A m Q E s) : wpN M A (m.keep vs) Q E s := fun Γ p hΓ hN => by rw [Sem.wp_keep]; exact h Γ p hΓ hN
theorem wpN_standAt {pos : Pos} {Q : Unit → Shared → Prop} (h : Q () s) : wpN M A (standAt pos) Q E s := fun _ _ _ _ => h
theorem wpN_point {Q : Unit → Shared → Prop} (h : Q () s) : wpN M A point Q E s := fun _ _ _ _ => h
theorem wpN_of_eq {t : Sem α} {a : α} {Q : α → Shared → Prop} (e : t = pure a) (h : Q a s) : wpN M A t Q E s := by rw [e]; exact wpN_pure h
theorem codeN_mono {c : Code} {R R' : Result → Shared → Prop} (h : codeN M A c R s) (hR : ∀ r s, R r s → R' r s) : codeN M A c R' s := fun Γ p hc hΓ hN => wpCode_mono hR (h Γ p hc hΓ hN)
theorem Nice.enter {Γ : Ctx} (h : Nice Γ) (c : Code) (hd : Option Value) (p : Pos) : niceL (Γ.enter c hd p).below = true := by
  show ((Γ.code, p) :: Γ.below).all _ = true
  rw [List.all_cons, Bool.and_eq_true]; exact h
theorem wpN_run {c : Code} {h : Option Value} {Q : Flow → Shared → Prop} (hc : codeN M (A.mark h) c (fun r s' => match r with | .ok f => Q f s' | .error e => E e s') s) (hnb : h ≠ some byPass := by intro x; cases x) : wpN M A (run c h) Q E s :=
  fun Γ p hΓ hN => by rw [Sem.wp_run]; exact hc _ p rfl (hΓ.enter c h p hnb) (hN.enter c h p)
theorem wpN_runValue {c : Code} {Q : Value → Shared → Prop} (hc : codeN M A c (fun r s' => match r with | .ok (.ret v) => Q v s' | .ok _ => False | .error e => E e s') s) : wpN M A (runValue c) Q E s :=
  fun Γ p hΓ hN => by rw [Sem.wp_runValue]; exact hc _ p rfl (hΓ.enter c none p (by intro x; cases x)) (hN.enter c none p)
theorem wpN_call {f : Value} {pos : List Value} {kw : List (Str × Value)} {Q : Value → Shared → Prop}
    (hc : codeN M A (.call f ⟨pos, kw⟩) (fun r s' => match r with | .ok (.ret v) => Q v s' | .ok _ => False | .error e => E e s') s) : wpN M A (call f pos kw) Q E s := wpN_runValue hc
theorem codeN_of_tree {c : Code} {R : Result → Shared → Prop} (hn : niceC c = true)
    (h : wpN M (A.under c) (M.den c) (fun fin s' => match fin with | .done f => R (.ok f) s' | .again c' => c'.quiet = true ∧ codeN M A c' R s') (fun e s' => R (.error e) s') s) : codeN M A c R s := fun Γ p hc hΓ hN => by
  rw [wpCode_iff_wp, hc]
  refine Sem.wp_mono M Γ _ (fun fin p' s' h' => ?_) (fun _ _ _ h' => h') p s (h Γ p (hc ▸ hΓ.in) ⟨hc ▸ hn, hN⟩)
  cases fin with
  | done f => exact h'
  | again c' => exact ⟨h'.1, h'.2 (Γ.goto c') p' rfl (hΓ.goto c') hN⟩
theorem codeN_loop {c : Code} {R : Result → Shared → Prop} (hn : niceC c = true) (hq : c.quiet = true) (I : Nat → Shared → Prop)
    (turn : ∀ n s, I n s → wpN M (A.under c) (M.den c) (fun fin s' => match fin with | .done f => R (.ok f) s' | .again c' => (c' = c ∧ ∃ m, m < n ∧ I m s') ∨ (c'.quiet = true ∧ codeN M A c' R s')) (fun e s' => R (.error e) s') s)
    (n : Nat) (h : I n s) : codeN M A c R s := by
  induction n using Nat.strongRecOn generalizing s with
  | ind n ih =>
    refine codeN_of_tree hn (wpN_mono (turn n s h) (fun fin s' hf => ?_) fun _ _ h' => h')
    cases fin with
    | done f => exact hf
    | again c' =>
      rcases hf with ⟨rfl, m, hm, hI⟩ | hf
      · exact ⟨hq, ih m hm hI⟩
      · exact hf
theorem wpN_stack {Q : List (Code × Pos) → Shared → Prop} (h : ∀ st : List (Code × Pos), (∀ g, A.guards = some g → guardsOf st = g) → niceL st = true → Q st s) : wpN M A stack Q E s := fun Γ p hΓ hN => by
  show Q ((Γ.code, p) :: Γ.below) s
  exact h _ (fun g hg => by rw [guardsOf_cons]; exact hΓ.2.2.2.1 g hg) (by rw [niceL, List.all_cons, Bool.and_eq_true]; exact hN)
end

/-- what is done above a nice stack alone -/
def guarded {α : Type} (d : α) (t : Sem α) : Sem α := do if niceL (← stack) = true then t else pure d
theorem wpAny_guarded {α : Type} {M : Model} {A : Around} {E : Value → Shared → Prop} {s : Shared} {d : α} {t : Sem α} {Q : α → Shared → Prop} (hd : Q d s) (h : wpN M A t Q E s) : wpAny M A (guarded d t) Q E s := fun Γ p hΓ => by
  show wp M Γ (if niceL ((Γ.code, p) :: Γ.below) = true then t else pure d) _ _ p s
  split
  · rename_i hn
    rw [niceL, List.all_cons, Bool.and_eq_true] at hn
    exact h Γ p hΓ hn
  · exact hd
theorem guarded_at {α : Type} {M : Model} {A : Around} {E : Value → Shared → Prop} {s : Shared} {d : α} {t : Sem α} {Q : α → Shared → Prop} (h : wpAny M A (guarded d t) Q E s) {Γ : Ctx} (hΓ : Γ.In A) (p : Pos) :
    wp M Γ (if niceL ((Γ.code, p) :: Γ.below) = true then t else pure d) (fun a _ s' => Q a s') (fun e _ s' => E e s') p s := h Γ p hΓ
theorem niceL_pos (Γ : Ctx) (p q : Pos) : niceL ((Γ.code, p) :: Γ.below) = niceL ((Γ.code, q) :: Γ.below) := rfl

theorem guarded_step {p : Program} {w : World} {s : Shared} {d : Fin} {t : Sem Fin} {n : Nat} {o : Outcome} {s' : Shared} (hr : s.asleep)
    (h : schedN (denote table) p w n (.single s ⟨guarded d t, .builtin "claim.caller" {}, default, []⟩) = .halted o s') : ∃ m, schedN (denote table) p w m (.single s ⟨t, .builtin "claim.caller" {}, default, []⟩) = .halted o s' := by
  cases n with
  | zero => cases h
  | succ n =>
    refine ⟨n, ?_⟩
    unfold schedN at h
    have hs : step (denote table) p w s ⟨guarded d t, .builtin "claim.caller" {}, default, []⟩ = .go s ⟨t, .builtin "claim.caller" {}, default, []⟩ := by
      obtain ⟨heap, gens, drawn, toks, os⟩ := s
      rfl
    rcases sstep_single (den := denote table) (prog := p) (w := w) s ⟨guarded d t, .builtin "claim.caller" {}, default, []⟩ rfl hr with e | e
    · rw [e, hs] at h
      exact h
    · rw [hs] at e; cases e

theorem holdsOpen_guarded {c : ClaimW} {d : Fin} {tree : List Value → Sem Fin} {defs keeps : List Str} {writes : Bool} (H : c.HoldsOpenBy (fun vs => ⟨guarded d (tree vs), .builtin "claim.caller" {}, default, []⟩) defs keeps writes) :
    c.HoldsOpenBy (fun vs => ⟨tree vs, .builtin "claim.caller" {}, default, []⟩) defs keeps writes := by
  refine ⟨H.1, H.2.1, fun w => ⟨(H.2.2 w).1, fun s hs => ((H.2.2 w).2 s hs).imp fun s₀ x => ⟨x.1, x.2.1, x.2.2.imp fun s₁ y => ⟨y.1, y.2.1, y.2.2.1, y.2.2.2.1, fun args hpre hlay ord hord => (y.2.2.2.2 args hpre hlay ord hord).imp fun vs => Exists.imp fun s₂ q => ⟨q.1, ?_⟩⟩⟩⟩⟩
  have A : AfterImport (opening c.prog) w s := hs
  have z : s₁.asleep := Shared.asleep_of_life (y.1.2.1.trans (fence_lifeW x.1)) A.life
  obtain ⟨n, o, s', hn⟩ := q.2
  obtain ⟨m, hm⟩ := guarded_step (Shared.asleep_of_life (layAllW_rest _ _ _ q.1).2.2.2 z) hn.1
  exact ⟨m, o, s', hm, hn.2⟩

theorem headG {r : OpenRow} {q : Program} {loose : List Str} {Xt : Shared → Bool} {XP : (Str → Option Value) → Heap → Prop} {α : Type} {Yf : Shared → α} {Ya : World → α} {YP : World → Heap → Prop} {d : DefRec} {kwd : List (Str × Expr)} {N : Nat}
    (left : LeftO r.prog q loose Xt Yf Ya N) (hY : ∀ w s, Yf s = Ya w → YP w s.heap) (hYk : ∀ w h h', YP w h → (∀ b o, h.get? b = some o → h'.get? b = some o) → YP w h')
    (hX : ∀ s, Xt s = true → XP (s.heap.nsMap mainGlobals) s.heap) (hXk : ∀ mg h h', XP mg h → (∀ b o, h.get? b = some o → h'.get? b = some o) → XP mg h')
    (hdef : defOf q r.name = some (d, kwd)) (hp : r.prog.theDef r.name = some (d.params, d.body, d.scope)) (hk : kwWritten? d.params.kwonlyargs d.params.kw_defaults = some kwd) (hRf : ∀ s, Xt s = true → RecFacts r.records s.heap) (hwr : (!r.writes || r.records.isEmpty) = true)
    (k1 : r.wellSaid = true) (ok : (chainsOk q && opensWell r.prog && (frees r.toRowW && r.within.isEmpty)) = true) (hb : r.prog.bare) (hw : r.toRowW.promised)
    (call : WalkO q loose XP YP r.toRowW d kwd fun f vs => guarded (.bool true) (PySem.call f vs)) : r.Holds := by
  refine ⟨k1, hw, holdsOpen_guarded (d := .done (.ret (.bool true))) (tree := fun vs => do match ← nsGet mainNs r.name with
      | some f => do ret (← PySem.call f vs)
      | none => unsupported "claim.caller:no-such-global") (open_anyG (r := r.toRowW) (run := fun f vs => guarded (.bool true) (PySem.call f vs)) (tree := fun vs => guarded (.done (.ret (.bool true))) (do match ← nsGet mainNs r.name with
      | some f => do ret (← PySem.call f vs)
      | none => unsupported "claim.caller:no-such-global")) left hY hYk hX hXk hRf hwr ok hb hw
    (fun vs w s mg f Q E hg hf h => ?_)
    (fun w s hg G n hn => ?_) fun w s₀ s₁ mg mb G Y args vs as hpre hlay L low => ?_)⟩
  · intro Γ p hΓ
    have z := guarded_at h hΓ
    show wp _ Γ (if niceL ((Γ.code, p) :: Γ.below) = true then _ else _) _ _ p s
    by_cases hN : niceL ((Γ.code, p) :: Γ.below) = true
    · rw [if_pos hN, Sem.wp_bind']
      refine Sem.wp_mono _ Γ _ (fun x p' s' hx => ?_) (fun _ _ _ h' => h') p s ((wpAny_nsGet (M := model r.toRowW.prog w) (A := callerA) (E := E) (Q := fun x s' => x = some f ∧ s' = s) hg ⟨hf, rfl⟩) Γ p hΓ)
      obtain ⟨rfl, rfl⟩ := hx
      show wp _ Γ (do ret (← PySem.call f vs)) _ _ p' s'
      rw [Sem.wp_bind']
      have z' := z p'
      rw [if_pos (niceL_pos Γ p' p ▸ hN)] at z'
      exact Sem.wp_mono _ Γ _ (fun v p₂ s₂ hv => hv) (fun _ _ _ h' => h') p' s' z'
    · rw [if_neg hN]
      have z' := z p
      rw [if_neg hN] at z'
      exact z'
  · obtain rfl : n = r.name := by split at hn <;> simp_all
    exact pinned_of_view hg G hdef hp hk
  · obtain ⟨a, o, pm, cd, doc, dV, kV, h1, h2, h3, h4, h5⟩ := G.fn hdef
    exact ⟨.ref a, h1, call w s₀ s₁ mg mb G Y a o pm cd doc dV kV h2 h3 h4 h5 (defOf_name hdef ▸ h1) L.gens args vs as hpre hlay L.reads L.well (L.low low)⟩
end Mine
end
section
open PySem PySem.W PySem.Calls PyProof.Rows
set_option Elab.async false
set_option maxRecDepth 100000
set_option linter.unusedVariables false
namespace Mine

/-- the triple above nice stacks -/
def V (c : Cx) {α : Type} (l : Loc) (n : Led) (t : Sem α) (Q : α → Loc → Led → Prop) (E : Value → Shared → Prop) : Prop :=
  ∀ h tk, St c.g c.L l n h → wpN (model c.P c.w) c.A t (Out c Q) E { c.r with heap := h, toks := tk }

section
variable {c : Cx} {α β : Type} {l l' l'' : Loc} {n n' : Led} {E : Value → Shared → Prop}
theorem V_of {t : Sem α} {Q : α → Loc → Led → Prop} (H : W c l n t Q E) : V c l n t Q E := fun h tk S => wpN_of (H h tk S)
theorem V.mono {t : Sem α} {Q Q' : α → Loc → Led → Prop} (H : V c l n t Q E) (hq : ∀ a l n, Q a l n → Q' a l n) : V c l n t Q' E :=
  fun h tk S => wpN_mono (H h tk S) (fun a s' ⟨h', tk', l', n', e, S', q⟩ => ⟨h', tk', l', n', e, S', hq _ _ _ q⟩) fun _ _ e => e
theorem V.monoE {t : Sem α} {Q : α → Loc → Led → Prop} {E' : Value → Shared → Prop} (H : V c l n t Q E) (he : ∀ e s, E e s → E' e s) : V c l n t Q E' := fun h tk S => wpN_mono (H h tk S) (fun _ _ q => q) he
theorem V.sub {t : Sem α} {Q : α → Loc → Led → Prop} (hp : n'.Sublist n) (H : V c l n' t Q E) : V c l n t Q E := fun h tk S => H h tk (S.sub hp)
theorem V.run {t : Sem α} {Q : α → Loc → Led → Prop} {R : α → Shared → Prop} {h : Heap} {tk : Nat} (H : V c l n t Q E) (S : St c.g c.L l n h)
    (hr : ∀ a h' tk' l' n', St c.g c.L l' n' h' → Q a l' n' → R a { c.r with heap := h', toks := tk' }) : wpN (model c.P c.w) c.A t R E { c.r with heap := h, toks := tk } :=
  wpN_mono (H h tk S) (fun a s1 ⟨h', tk', l', n', e, S', q⟩ => by subst e; exact hr _ _ _ _ _ S' q) fun _ _ e => e
theorem V.seq {t : Sem α} {k : α → Sem β} {Q : β → Loc → Led → Prop} (H : V c l n t (fun a l1 n1 => V c l1 n1 (k a) Q E) E) {h : Heap} {tk : Nat} (S : St c.g c.L l n h) :
    wpN (model c.P c.w) c.A t (fun a s1 => wpN (model c.P c.w) c.A (k a) (Out c Q) E s1) E { c.r with heap := h, toks := tk } := H.run S fun a h' tk' l' n' S' q => q h' tk' S'
theorem V_bind {t : Sem α} {f : α → Sem β} {Q : β → Loc → Led → Prop} (H : V c l n t (fun a l1 n1 => V c l1 n1 (f a) Q E) E) : V c l n (t >>= f) Q E := fun h tk S => wpN_bind (H.seq S)
theorem V_pure {a : α} {Q : α → Loc → Led → Prop} (q : Q a l n) : V c l n (pure a) Q E := fun h tk S => wpN_pure (.mk S q)
theorem V_hold {vs : List Value} {t : Sem α} {Q : α → Loc → Led → Prop} (H : V c l n t Q E) : V c l n (holding vs t) Q E := fun h tk S => wpN_holding (H h tk S)
theorem V_at {p : Pos} {Q : Unit → Loc → Led → Prop} (q : Q () l n) : V c l n (standAt p) Q E := fun h tk S => wpN_standAt (.mk S q)
theorem V_point {Q : Unit → Loc → Led → Prop} (q : Q () l n) : V c l n point Q E := fun h tk S => wpN_point (.mk S q)
theorem V_eq {t : Sem α} {a : α} {Q : α → Loc → Led → Prop} (e : t = pure a) (q : Q a l n) : V c l n t Q E := by rw [e]; exact V_pure q

variable {env : Env} {rest : List Stmt} {Q : Flow → Loc → Led → Prop}
/-- what comes behind a statement -/
def ContV (c : Cx) (rest : List Stmt) (env : Env) (Q : Flow → Loc → Led → Prop) (E : Value → Shared → Prop) (f : Flow) (l : Loc) (n : Led) : Prop := match f with
  | .next => V c l n (execs rest env) Q E
  | f => Q f l n
theorem ContV_next (h : V c l n (execs rest env) Q E) : ContV c rest env Q E .next l n := h
theorem ContV_ret {v : Value} (h : Q (.ret v) l n) : ContV c rest env Q E (.ret v) l n := h
theorem VS_cons {st : Stmt} (H : V c l n (exec st env) (ContV c rest env Q E) E) : V c l n (execs (st :: rest) env) Q E := by
  rw [execs_cons]
  refine V_bind (H.mono fun f l n q => ?_)
  cases f <;> first | exact q | exact V_pure q
theorem VS_nil (q : Q .next l n) : V c l n (execs [] env) Q E := V_of (S_nil q)
theorem VS_expr {e : Expr} {pos : Pos} (H : V c l n (eval e env) (fun v l1 n1 => v = .none ∧ V c l1 n1 (execs rest env) Q E) E)
    (hi : interactive env = false := by with_unfolding_all rfl) (hs : swapsWith e none pos.line env = pure false := by with_unfolding_all rfl) : V c l n (execs (.Expr e pos :: rest) env) Q E := VS_cons (by
  rw [exec_Expr env e pos hi hs]
  refine V_bind (V_at (V_bind (H.mono fun v l n q => ?_)))
  obtain ⟨rfl, q⟩ := q
  rw [dropValue_plain (fun a e => by cases e)]
  exact V_pure q)
theorem VS_return {e : Expr} {pos : Pos} (H : V c l n (eval e env) (fun v l1 n1 => Q (.ret v) l1 n1) E) : V c l n (execs (.Return (some e) pos :: rest) env) Q E := VS_cons (by
  rw [exec_Return_some]
  exact V_bind (V_at (V_bind (H.mono fun v l n q => V_pure q))))
theorem VS_if {test : Expr} {body orelse : List Stmt} {pos : Pos} (H : V c l n (PySem.isTrue test env (eval test env)) (fun b l1 n1 => if b = true then V c l1 n1 (execs body env) (ContV c rest env Q E) E else V c l1 n1 (execs orelse env) (ContV c rest env Q E) E) E) :
    V c l n (execs (.If test body orelse pos :: rest) env) Q E := VS_cons (by
  rw [exec_If]
  refine V_bind (V_at (V_bind (H.mono fun b l n q => ?_)))
  cases b with
  | true => simp only [if_true] at q ⊢; exact q
  | false => simp only [Bool.false_eq_true, if_false] at q ⊢; exact q)
theorem V_bindName {x : Str} {v : Value} {Q : Unit → Loc → Led → Prop} (H : V c l n (storeName env x v) Q E) : V c l n (bindName env x v) Q E := fun h tk S => fun Γ p hΓ hN => by rw [Sem.wp_bindName]; exact H h tk S Γ p hΓ hN
theorem VS_assign {x : Str} {px pos : Pos} {value : Expr} (H : V c l n (eval value env) (fun v l1 n1 => V c l1 n1 (storeName env x v) (fun _ l2 n2 => V c l2 n2 (execs rest env) Q E) E) E)
    (hs : swapsWith value (some (Expr.Name x px)) pos.line env = pure false := by with_unfolding_all rfl) : V c l n (execs (.Assign [.Name x px] value pos :: rest) env) Q E := VS_cons (by
  rw [exec_Assign_Name env x px value pos hs]
  exact V_bind (V_at (V_bind (H.mono fun v l n q => V_bind (V_at (V_bind (V_bindName (q.mono fun _ l n q => V_pure q))))))))
theorem VS_unpack {es : List Expr} {k : Nat} {tpos pos : Pos} {value : Expr} (H : V c l n (eval value env) (fun v l1 n1 => W c l1 n1 (assign (.Tuple es k tpos) env v) (fun _ l2 n2 => V c l2 n2 (execs rest env) Q E) E) E)
    (hs : swapsWithSole [.Tuple es k tpos] value pos.line env = pure false := by with_unfolding_all rfl) (hw : swappedStores [.Tuple es k tpos] value env = pure none := by with_unfolding_all rfl) : V c l n (execs (.Assign [.Tuple es k tpos] value pos :: rest) env) Q E := VS_cons (by
  rw [exec_Assign]
  refine V_bind (V_at ?_)
  rw [hs]
  refine V_bind (V_pure ?_)
  rw [if_neg (by decide)]
  refine V_bind (H.mono fun v l1 n1 q => ?_)
  rw [hw]
  refine V_bind (V_pure ?_)
  show V c l1 n1 (do assignAll v [assign (.Tuple es k tpos) env]; pure Flow.next) _ E
  exact V_bind (V_of q |>.mono fun _ l n q => V_pure q))

-- expressions
section
variable {Q : Value → Loc → Led → Prop} {pos px : Pos}
theorem VE_call {f : Expr} {args : List Expr} (H : W c l n (eval f env) (fun x l1 n1 => V c l1 n1 (callWith pos x [] (backTo pos (starEach args env)) []) Q E) E)
    (ha : eval (.Call f args [] pos) env = (do let x ← eval f env; callWith pos x [] (backTo pos (starEach args env)) (backToKw pos (keywordEach [] env))) := by with_unfolding_all rfl) : V c l n (eval (.Call f args [] pos) env) Q E := by
  rw [ha]; exact V_bind (V_of H)
theorem VE_meth {o : Expr} {name : Str} {apos : Pos} {args : List Expr} {pl : Sem Bool} (H : W c l n (eval o env) (fun x l1 n1 => W c l1 n1 (getMethod x name pl) (fun fx l2 n2 => V c l2 n2 (callWith pos fx.1 fx.2 (backTo pos (starEach args env)) []) Q E) E) E)
    (ha : eval (.Call (.Attribute o name apos) args [] pos) env = (do let ov ← eval o env; standAt apos.atName; let (f, first) ← holding [ov] (getMethod ov name pl); callWith pos f first (backTo pos (starEach args env)) []) := by with_unfolding_all rfl) :
    V c l n (eval (.Call (.Attribute o name apos) args [] pos) env) Q E := by
  rw [ha]
  exact V_bind (V_of (H.mono fun x l1 n1 q => V_bind (V_at (V_bind (V_hold (V_of q))))))
theorem VE_tuple {es : List Expr} {k : Nat} (H : V c l n (spliced (backTo pos (starEach es env))) (fun vs l1 n1 => W c l1 n1 (newTuple vs) Q E) E) : V c l n (eval (.Tuple es k pos) env) Q E := by
  rw [arm_eval_Tuple]
  exact V_bind (V_at (V_bind (H.mono fun vs l n q => V_of q)))
theorem VL_nil {Q : List Value → Loc → Led → Prop} (q : Q [] l n) : V c l n (spliced (backTo pos (starEach [] env))) Q E := V_of (L_nil q)
theorem VL_cons {e : Expr} {es : List Expr} {Q : List Value → Loc → Led → Prop} (H : V c l n (eval e env) (fun v l1 n1 => V c l1 n1 (spliced (backTo pos (starEach es env))) (fun vs l2 n2 => Q (v :: vs) l2 n2) E) E)
    (he : starEach (e :: es) env = (false, eval e env) :: starEach es env := by with_unfolding_all rfl) : V c l n (spliced (backTo pos (starEach (e :: es) env))) Q E := by
  rw [he]
  show V c l n (do
    let v ← eval e env
    let here ← (pure [v] : Sem (List Value))
    return here ++ (← holding here (spliced (backTo pos (starEach es env))))) Q E
  exact V_bind (H.mono fun v l1 n1 q => V_bind (V_pure (V_bind (V_hold (q.mono fun vs l2 n2 q2 => V_pure q2)))))
theorem V_args {f : Value} {x : Sem Value} {rs : List (Bool × Sem Value)} {Q : Args → Loc → Led → Prop} (H : V c l n (spliced ((false, x) :: rs)) (fun vs l1 n1 => Q ⟨vs, []⟩ l1 n1) E) : V c l n (evalArgs f true ((false, x) :: rs) []) Q E := by
  unfold evalArgs
  show V c l n (spliced ((false, x) :: rs) >>= _) Q E
  exact V_bind (H.mono fun vs l1 n1 q => V_hold (V_bind (V_pure (V_bind (V_pure (V_pure q))))))
theorem V_args0 {f : Value} {Q : Args → Loc → Led → Prop} (q : Q ⟨[], []⟩ l n) : V c l n (evalArgs f true [] []) Q E := fun h tk S => wpN_of (evalArgs_nil3 (.mk S q))
/-- a call, its arguments evaluated; the called one's keeper is looked up -/
theorem VC_of {f : Value} {first : List Value} {args : List (Bool × Sem Value)} (hplain : args.any (·.1) = false)
    (H : V c l n (evalArgs f true args []) (fun a l1 n1 => V c l1 n1 (call f (first ++ a.pos) a.kw) Q E ∧ ∀ l2 h, St c.g c.L l2 n1 h → ∃ k, (k = Keeper.frame ∨ k = Keeper.machine ∨ k = Keeper.boundFrame) ∧ Looks (model c.P c.w) h (keeperOf f) k) E) :
    V c l n (callWith pos f first args []) Q E := by
  unfold callWith
  refine V_bind (V_hold (H.mono fun a l1 n1 q => V_bind (V_at ?_)))
  obtain ⟨q, look⟩ := q
  simp only [hplain, List.any_nil, Bool.or_false]
  intro h tk S
  obtain ⟨k, hk', L⟩ := look _ _ S
  refine wpN_bind (wpN_of (L.here (E := E) (A := c.A) ?_))
  have tail : ∀ {t : Sem Value}, V c l1 n1 t Q E → V c l1 n1 (t >>= fun r => holding [r] point >>= fun _ => pure r) Q E := fun ht => V_bind (ht.mono fun r l2 n2 q => V_bind (V_hold (V_point (V_pure q))))
  have marked (mk : Value) : V c l1 n1 (callMarked mk f (first ++ a.pos) a.kw) Q E := by unfold callMarked; exact fun h tk S => wpN_keep (q h tk S)
  rcases hk' with rfl | rfl | rfl <;> dsimp only <;> first | exact tail q h tk S | (split <;> first | exact tail q h tk S | exact tail (marked _) h tk S)
end

-- tests
section
variable {Q : Bool → Loc → Led → Prop} {pos : Pos} {whole : Sem Value}
theorem VT_cmp {a b : Expr} {op : CmpOp} (H : V c l n (eval a env) (fun x l1 n1 => V c l1 n1 (eval b env) (fun y l2 n2 => W c l2 n2 (compareOp op x y) (fun z l3 n3 => W c l3 n3 (truthy z) Q E) E) E) E) (hb : behindInMarks op b = false := by with_unfolding_all rfl) :
    V c l n (PySem.isTrue (.Compare a [op] [b] pos) env whole) Q E := by
  rw [isTrue_Compare1, markedBehindIn_of_false hb]
  exact V_bind (H.mono fun x l1 n1 q => V_bind (V_hold (q.mono fun y l2 n2 q => V_bind (V_at (V_bind (V_of (fun h tk S => by
    have z := q h tk S
    exact fun Γ p hΓ => by rw [Sem.wp_operate]; exact z Γ p hΓ) |>.mono fun z l3 n3 q => V_hold (V_of q)))))))
theorem VT_not {a : Expr} (H : V c l n (PySem.isTrue a env (eval a env)) (fun b l1 n1 => Q (!b) l1 n1) E) : V c l n (PySem.isTrue (.UnaryOp .Not a pos) env whole) Q E := by
  rw [arm_isTrue_UnaryOp]; exact V_bind (H.mono fun b l n q => V_pure q)
theorem VT_bool {op : BoolOp} {es : List Expr} (H : V c l n (allTrue op es env) Q E) : V c l n (PySem.isTrue (.BoolOp op es pos) env whole) Q E := by rw [arm_isTrue_BoolOp]; exact H
theorem VT_orN (q : Q false l n) : V c l n (allTrue .Or [] env) Q E := V_of (T_orN q)
theorem VT_or {x : Expr} {es : List Expr} (H : V c l n (PySem.isTrue x env (eval x env)) (fun b l1 n1 => if b = true then Q true l1 n1 else V c l1 n1 (allTrue .Or es env) Q E) E) : V c l n (allTrue .Or (x :: es) env) Q E := by
  show V c l n (do match BoolOp.Or, ← PySem.isTrue x env (eval x env) with | .And, false => pure false | .Or, true => pure true | _, _ => allTrue .Or es env) Q E
  refine V_bind (H.mono fun b l1 n1 q => ?_)
  cases b
  · simpa using q
  · exact V_pure (by simpa using q)
theorem VT_val {a : Expr} (H : V c l n (eval a env) (fun v l1 n1 => W c l1 n1 (truthy v) Q E) E) (ha : PySem.isTrue a env (eval a env) = (do let v ← eval a env; standAt a.pos; holding [v] (truthy v)) := by with_unfolding_all rfl) :
    V c l n (PySem.isTrue a env (eval a env)) Q E := by
  rw [ha]; exact V_bind (H.mono fun v l n q => V_bind (V_at (V_hold (V_of q))))
end
end
end Mine
end
section
open PySem PySem.W PySem.Calls PyProof.Rows
set_option Elab.async false
set_option maxRecDepth 100000
set_option linter.unusedVariables false
namespace Mine

section
variable {c : Cx} {l : Loc} {n : Led} {E : Value → Shared → Prop} {env : Env} {rest : List Stmt}
/-- a loop's own turn that raises nothing -/
theorem V_own {cd : Code} {Q : Flow → Loc → Led → Prop} (H : ∀ h tk, St c.g c.L l n h → codeN (model c.P c.w) c.A cd (fun r s' => match r with | .ok f => Out c Q f s' | .error _ => False) { c.r with heap := h, toks := tk }) : V c l n (runOwn cd env) Q E := fun h tk S => by
  unfold runOwn
  refine wpN_onRaise (wpN_run (h := none) (codeN_mono (H h tk S) fun r s' q => ?_))
  cases r with
  | ok f => exact q
  | error e => exact q.elim

/-- a loop that is ready to run -/
inductive ReadyV (c : Cx) (env : Env) (target : Expr) (body : List Stmt) (Q : Flow → Loc → Led → Prop) (it : Value) (l : Loc) (n : Led) : Prop
  | of (a : Addr) (D : Nat → Desc) (N : Led → Prop) (P : Nat → Value → Prop) (len : Nat) (l₀ : Loc) (n₀ : Led) (J : Nat → Loc → Led → Prop) (h0 : it = .ref a) (h1 : Itr c a D N P len) (h2 : l₀.Sublist l) (h3 : ((a, D 0) :: n₀).Sublist n) (h4 : J 0 l₀ n₀) (h5 : (∀ i l n, J i l n → N n)) (h6 : (∀ i l n v, i < len → J i l n → P i v → W c l ((a, D (i + 1)) :: n) (assign target env v) (fun _ l1 n1 => V c l1 n1 (execs body env) (Turn a (D (i + 1)) (J (i + 1)) Q) fun _ _ => False) fun _ _ => False)) (h7 : ∀ l n, J len l n → Q .next l n)

theorem VS_for {target iter : Expr} {body : List Stmt} {pos : Pos} {Q : Flow → Loc → Led → Prop}
    (H : W c l n (eval iter env) (fun x l1 n1 => W c l1 n1 (pyIter x) (ReadyV c env target body (ContV c rest env Q E)) E) E)
    (hs : ∀ x, foldedSetIterable iter env x = pure x := by intro _; with_unfolding_all rfl) (ht : ∀ it v, letOwnedTupleGo target it v = pure () := by intro _ _; with_unfolding_all rfl) : V c l n (execs (.For target iter body [] pos :: rest) env) Q E := VS_cons (by
  rw [exec_For]
  refine V_bind (V_at (V_bind (V_of (H.mono fun x l1 n1 q => V_bind (V_eq (hs x) (V_bind (V_at (V_bind (V_hold (V_of (q.mono fun it l2 n2 q2 => ?_))))))))))) 
  obtain ⟨a, D, N, P, len, l₀, n₀, J, rfl, I, hlsub, hsub, hJ, hN, turn, fin⟩ := q2
  refine V_own fun h2 tk2 S2 => ?_
  refine codeN_loop (c := .forLoop target (.ref a) body [] env) rfl rfl (fun k s' => ∃ i l n h tk, s' = { c.r with heap := h, toks := tk } ∧ St c.g c.L l ((a, D i) :: n) h ∧ J i l n ∧ i ≤ len ∧ k = len - i) ?_ len ⟨0, _, _, h2, tk2, rfl, (S2.sub hsub).locSub hlsub, hJ, Nat.zero_le _, rfl⟩
  rintro k s' ⟨i, l, n, h, tk, rfl, S, hJ, hi, rfl⟩
  show wpN _ _ ((forTurn target (.ref a) body [] env).onRaise (fun x => do noteFrame x env; theTreesLotGoes x)) _ _ _
  refine wpN_onRaise ?_
  refine wpN_mono (E := fun _ _ => False) ?_ (fun _ _ q => q) fun _ _ x => x.elim
  unfold forTurn
  refine wpN_bind (wpN_standAt ?_)
  by_cases hlt : i < len
  · refine wpN_bind (wpN_onRaise (wpN_of ((I.item i l n (fun o l' n' => ∃ v, o = some v ∧ P i v ∧ l' = l ∧ n' = (a, D (i + 1)) :: n) (fun _ _ => False) hlt (hN _ _ _ hJ) fun v hv => ⟨v, rfl, hv, rfl, rfl⟩).run S ?_) |> fun z => wpN_mono z (fun _ _ q => q) fun _ _ x => x.elim))
    rintro _ h3 tk3 _ _ S3 ⟨v, rfl, hv, rfl, rfl⟩
    refine wpN_bind (wpN_of_eq (ht _ _) ?_)
    refine wpN_bind (wpN_of ((turn i _ _ v hlt hJ hv).run S3 fun _ h4 tk4 l4 n4 S4 q4 => wpN_bind (q4.run S4 fun f h5 tk5 l5 n5 S5 q5 => ?_)))
    cases f with
    | ret v => exact wpN_pure (.mk S5 q5)
    | brk => exact wpN_pure (.mk S5 q5)
    | next => obtain ⟨l', n', j, sl, sb⟩ := q5; exact wpN_pure (.inl ⟨rfl, len - (i + 1), by omega, i + 1, l', n', h5, tk5, rfl, (S5.sub sb).locSub sl, j, hlt, rfl⟩)
    | cont => obtain ⟨l', n', j, sl, sb⟩ := q5; exact wpN_pure (.inl ⟨rfl, len - (i + 1), by omega, i + 1, l', n', h5, tk5, rfl, (S5.sub sb).locSub sl, j, hlt, rfl⟩)
  · obtain rfl : i = len := Nat.le_antisymm hi (Nat.not_lt.mp hlt)
    refine wpN_bind (wpN_onRaise (wpN_of ((I.done l n (fun o l' n' => o = none ∧ l' = l ∧ n' = n) (fun _ _ => False) (hN _ _ _ hJ) ⟨rfl, rfl, rfl⟩).run S ?_) |> fun z => wpN_mono z (fun _ _ q => q) fun _ _ x => x.elim))
    rintro _ h3 tk3 _ _ S3 ⟨rfl, rfl, rfl⟩
    exact wpN_pure (.inr ⟨rfl, codeN_of (codeAny_block (wpAny_execs_nil (.mk S3 (fin _ _ hJ))))⟩))

/-- a while by a measure -/
theorem VS_while {test : Expr} {body : List Stmt} {pos : Pos} {Q : Flow → Loc → Led → Prop} (J : Nat → Loc → Led → Prop)
    (turn : ∀ k l n, J k l n → W c l n (PySem.isTrue test env (eval test env)) (fun b l1 n1 => if b = true then V c l1 n1 (execs body env) (fun f l2 n2 => match f with
        | .next | .cont => ∃ k' l3 n3, k' < k ∧ J k' l3 n3 ∧ l3.Sublist l2 ∧ n3.Sublist n2
        | .brk => ContV c rest env Q E .next l2 n2
        | .ret v => ContV c rest env Q E (.ret v) l2 n2) fun _ _ => False
      else ContV c rest env Q E .next l1 n1) fun _ _ => False)
    (k : Nat) (l₀ : Loc) (n₀ : Led) (hJ : J k l₀ n₀) (hl : l₀.Sublist l) (hs : n₀.Sublist n) : V c l n (execs (.While test body [] pos :: rest) env) Q E := VS_cons (by
  rw [exec_While]
  refine V_bind (V_at (V_own fun h2 tk2 S2 => ?_))
  refine codeN_loop (c := .whileLoop test body [] env) rfl rfl (fun k s' => ∃ l n h tk, s' = { c.r with heap := h, toks := tk } ∧ St c.g c.L l n h ∧ J k l n) ?_ k ⟨l₀, n₀, h2, tk2, rfl, (S2.sub hs).locSub hl, hJ⟩
  rintro k s' ⟨l, n, h, tk, rfl, S, hJ⟩
  show wpN _ _ ((whileTurn test body [] env).onRaise (fun x => do noteFrame x env; theTreesLotGoes x)) _ _ _
  refine wpN_onRaise ?_
  refine wpN_mono (E := fun _ _ => False) ?_ (fun _ _ q => q) fun _ _ x => x.elim
  unfold whileTurn
  refine wpN_bind (wpN_of ((turn k l n hJ).run S fun b h1 tk1 l1 n1 S1 q => ?_))
  cases b with
  | false =>
    simp only [Bool.false_eq_true, if_false] at q ⊢
    exact wpN_bind (wpN_of (wpAny_execs_nil (wpN_pure (.mk S1 q))))
  | true =>
    simp only [if_true] at q ⊢
    refine wpN_bind (q.run S1 fun f h5 tk5 l5 n5 S5 q5 => ?_)
    cases f with
    | ret v => exact wpN_pure (.mk S5 q5)
    | brk => exact wpN_pure (.mk S5 q5)
    | next => obtain ⟨k', l', n', hk, j, sl, sb⟩ := q5; exact wpN_pure (.inl ⟨rfl, k', hk, l', n', h5, tk5, rfl, (S5.sub sb).locSub sl, j⟩)
    | cont => obtain ⟨k', l', n', hk, j, sl, sb⟩ := q5; exact wpN_pure (.inl ⟨rfl, k', hk, l', n', h5, tk5, rfl, (S5.sub sb).locSub sl, j⟩))
end

-- calls of defs
section
variable {prog : Program} {w : World} {A : Around} {R : Result → Shared → Prop} {s : Shared}
theorem codeN_func {body : List Stmt} {env : Env} (h : wpN (model prog w) (A.deeper env) (execs body env) (fun f s' => R (.ok (.ret (flRet f))) s') (fun e s' => wpN (model prog w) (A.deeper env) (leaving env e) (fun _ s'' => R (.error e) s'') (fun e' s'' => R (.error e') s'') s') s) :
    codeN (model prog w) A (.func body env) R s := by
  refine codeN_of_tree rfl ?_
  show wpN _ (A.deeper env) (do point; match ← (execs body env).onRaise (leaving env) with | .ret v => ret v | _ => ret .none) _ _ s
  refine wpN_bind (wpN_point (wpN_bind (wpN_onRaise (wpN_mono h (fun f s' h' => ?_) fun _ _ h' => h'))))
  cases f <;> exact wpN_pure h'
theorem codeN_expr {e : Expr} {env : Env} (h : wpN (model prog w) (A.deeper env) (eval e env) (fun v s' => R (.ok (.ret v)) s') (fun e s' => wpN (model prog w) (A.deeper env) (leaving env e) (fun _ s'' => R (.error e) s'') (fun e' s'' => R (.error e') s'') s') s) :
    codeN (model prog w) A (.expr e env) R s := by
  refine codeN_of_tree rfl ?_
  show wpN _ (A.deeper env) (do point; ret (← (eval e env).onRaise (leaving env))) _ _ s
  exact wpN_bind (wpN_point (wpN_bind (wpN_onRaise (wpN_mono h (fun v s' h' => wpN_pure h') fun _ _ h' => h'))))
theorem codeN_callFn {a : Addr} {args : Args} {o : Obj} {fd : FuncData} {next : Env → Code} (hroom : A.depth < recursionLimit) (ho : s.heap.get? a = some o)
    (hd' : o.data = .func fd) (hco : fd.scope.isCoroutine = false) (hgen : fd.scope.isGenerator = false) (hbody : (∃ b, fd.body = .stmts b ∧ next = .func b) ∨ ∃ b, fd.body = .expr b ∧ next = .expr b) (hcd : s.heap.CodeRec fd.code fd.qualname)
    (h : wpAny (model prog w) A.in1 (bindArgs fd args) (fun binds s₁ =>
      wpAny (model prog w) A.in1 (newFunctionEnv fd.scope fd.globals fd.closure binds (fd.qualname ++ ".<locals>.") (some a) fd.code none fd.builtins)
        (fun env s₂ => s₂.heap.NoLimit ∧ codeN (model prog w) A (next env) R s₂) (fun e s' => R (.error e) s') s₁) (fun e s' => R (.error e) s') s) :
    codeN (model prog w) A (.call (.ref a) args) R s := by
  refine codeN_of_tree rfl (wpN_of ?_)
  show wpAny _ A.in1 (callAny (.ref a) args) _ _ s
  simp only [callAny]
  refine wpAny_bind (wpAny_load ho ?_)
  obtain ⟨c, oc, vs, tq, hc, hoc, hdc, hq⟩ := hcd
  rcases hbody with ⟨b, hb, rfl⟩ | ⟨b, hb, rfl⟩
  all_goals (
    simp only [hd', callFunction, hco, hgen, hb, hc]
    rw [hc] at h
    refine wpAny_bind (m := field (.ref c) 1) (wpAny_field hoc hdc hq (wpAny_bind (wpAny_pure ?_)))
    exact wpAny_bind (wpAny_mono h (fun binds s₁ h₁ => wpAny_bind (wpAny_mono h₁ (fun env s₂ h₂ => wpAny_bind (wpAny_enterFrame h₂.1 hroom
      (wpAny_pure (And.intro rfl h₂.2)))) fun _ _ h' => h')) fun _ _ h' => h'))
end
end Mine
end
section
open PySem PySem.W PySem.Calls PyProof.Rows
set_option Elab.async false
set_option maxRecDepth 100000
set_option linter.unusedVariables false
namespace Mine

theorem bindL_not {k : Str → Option NameKind} {x : Str} : ∀ {r : Loc} {m : Str → Option Value}, x ∉ r.map (·.1) → bindL k r m x = m x
  | [], _, _ => rfl
  | (y, v) :: r, m, h => by
    have h1 : x ≠ y := fun e => h (by simp [e])
    have h2 : x ∉ r.map (·.1) := fun e => h (List.mem_cons_of_mem _ e)
    unfold bindL
    rw [bindL_not h2]
    split
    · exact if_neg h1
    · rfl
theorem bindL_mem {k : Str → Option NameKind} : ∀ {r : Loc} {m : Str → Option Value}, (r.map (·.1)).Nodup → ∀ p ∈ r, k p.1 = some .local → bindL k r m p.1 = some p.2
  | [], _, _, _, h, _ => nomatch h
  | (y, v) :: r, m, hn, p, hp, hk => by
    rw [List.map_cons, List.nodup_cons] at hn
    unfold bindL
    rcases List.mem_cons.mp hp with rfl | hp
    · rw [if_pos hk, bindL_not hn.1, if_pos rfl]
    · exact bindL_mem hn.2 p hp hk
def lbOf (names : List (Str × NameKind)) (binds : Loc) : Loc := binds.filter fun y => decide (names.lookup y.1 = some NameKind.local)
theorem lbOf_ok {names : List (Str × NameKind)} {binds : Loc} (hn : (binds.map (·.1)).Nodup) : (∀ p ∈ lbOf names binds, bindL (fun x => names.lookup x) binds (fun _ => none) p.1 = some p.2) ∧ ((lbOf names binds).map (·.1)).Nodup :=
  ⟨fun p hp => by
    obtain ⟨h1, h2⟩ := List.mem_filter.mp hp
    exact bindL_mem hn p h1 (of_decide_eq_true h2), List.Nodup.sublist (List.filter_sublist.map _) hn⟩
def kindsOk (names : List (Str × NameKind)) (binds : Loc) : Bool := binds.all fun x => decide (names.lookup x.1 = some .local) || (decide (names.lookup x.1 = some .cell) && ((cellsFrom 0 names []).map (·.1)).contains x.1)
theorem lookup_isSome {x : Str} : ∀ {l : List (Str × Addr)}, x ∈ l.map (·.1) → (l.lookup x).isSome = true
  | [], h => nomatch h
  | (y, a) :: r, h => by
    rw [List.lookup_cons]
    cases e : x == y with
    | true => rfl
    | false =>
      rcases List.mem_cons.mp h with h | h
      · exact absurd (show x = y from h) (by simpa using e)
      · exact lookup_isSome h
theorem kindsOk_is {names : List (Str × NameKind)} {binds : Loc} (h : kindsOk names binds = true) (n : Nat) : ∀ x ∈ binds, names.lookup x.1 = some .local ∨ (names.lookup x.1 = some .cell ∧ ((cellsFrom n names []).lookup x.1).isSome = true) := fun x hx => by
  have := List.all_eq_true.mp h x hx
  simp only [Bool.or_eq_true, Bool.and_eq_true, decide_eq_true_eq, List.contains_iff_mem] at this
  rcases this with h | ⟨h, h2⟩
  · exact .inl h
  · exact .inr ⟨h, lookup_isSome (cellsFrom_names names n 0 [] [] rfl ▸ h2)⟩

section
variable {K : Frag} {c : Cx} {d : Nat} {l : Loc} {n : Led} {E : Value → Shared → Prop}
  {name qual : Str} {params : Arguments} {body : List Stmt} {scope : Scope} {cl : List (Str × Addr)} {dV kV doc pm cdv ct oc : Value} {an od : Option Addr} {osl : Array (Option Value)} {f : Addr} {args : List Value} {kw : List (Str × Value)} {binds lb : Loc} {Q : Value → Loc → Led → Prop}
  {cs : Addr → List (Addr × Option Value)}

/-- what the callee raises, behind its frame's end -/
def Leaves (c : Cx) (env : Env) (E : Value → Shared → Prop) : Value → Shared → Prop := fun e s' => wpAny (model c.P c.w) (c.A.deeper env) (leaving env e) (fun _ s'' => E e s'') (fun _ _ => False) s'

theorem V_call {fd : FuncData} {o : Obj} {body : List Stmt} (V : Cok K c (d + 1)) (ho : K.lookup f = some o) (hd' : o.data = .func fd) (hb : fd.body = .stmts body) (hcd : codeIn K fd.code fd.qualname = true) {cl : Addr → List (Str × Addr)} {Env' : Addr → Env}
    (hE : ∀ L, (Env' L).frame = some L ∧ (Env' L).scope.kind = .function)
    (hbind : ∀ (s : Shared), K.In s.heap → c.g.objs.size ≤ s.heap.objs.size → wpAny (model c.P c.w) c.A.in1 (bindArgs fd ⟨args, kw⟩) (fun bs s₁ => wpAny (model c.P c.w) c.A.in1 (newFunctionEnv fd.scope fd.globals fd.closure bs (fd.qualname ++ ".<locals>.") (some f) fd.code none fd.builtins)
      (fun env s₂ => env = Env' s.heap.objs.size ∧ ∃ h₁ tk, s₂ = { s with heap := h₁, toks := tk } ∧ (∀ b o, s.heap.get? b = some o → h₁.get? b = some o) ∧ ∃ m', h₁.Ns s.heap.objs.size m' ∧ (∀ p ∈ lb, m' p.1 = some p.2) ∧ ∀ n', (∀ p ∈ n', p.1 < s.heap.objs.size) → Own c.g s.heap.objs.size h₁ n' → Own c.g s.heap.objs.size h₁ ((cs s.heap.objs.size).map (fun p => (p.1, CE p.2)) ++ n')) (fun _ _ => False) s₁) (fun _ _ => False) s)
    (hlb : (lb.map (·.1)).Nodup)
    (H : ∀ L F, Cok K (c.sub (Env' L) L) d → Waits F → c.L < L → Mine.V (c.sub (Env' L) L) lb ((cs L).map (fun p => (p.1, CE p.2)) ++ (c.L, F) :: n) (execs body (Env' L)) (fun fl _ n' => Back c.L F (Q (flRet fl) l) n') (Leaves c (Env' L) E))
    (hco : fd.scope.isCoroutine = false := by with_unfolding_all rfl) (hgen : fd.scope.isGenerator = false := by with_unfolding_all rfl) : Mine.V c l n (call (.ref f) args kw) Q E := fun h tk S => by
  obtain ⟨p, loose, mean, mg, mb, outer, T, hA⟩ := V.ex
  obtain ⟨m, F, k⟩ := S.fr
  have X := V.X.keeps F.keep
  refine wpN_call (codeN_callFn (next := .func body) (by have := V.room; omega) (X _ _ ho) hd' hco hgen (.inl ⟨_, hb, rfl⟩) (codeRec_of X hcd) ?_)
  refine wpAny_mono (hbind _ X (Nat.le_of_lt (Nat.lt_of_le_of_lt F.above F.ns.lt))) (fun bs s₁ h₁ => wpAny_mono h₁ (fun env s₂ h₂ => ?_) fun _ _ x => x.elim) fun _ _ x => x.elim
  obtain ⟨rfl, h₁, tk₁, rfl, keep, m', ns, hm, own⟩ := h₂
  refine ⟨(T.nolimit.keeps F.keep).keeps keep, codeN_func ?_⟩
  have S₁ := S.enter F rfl keep ns hm hlb
  have O := own _ (fun p hp => by
    rcases List.mem_cons.mp hp with rfl | hp
    · exact F.ns.lt
    · exact S.lt hp) S₁.own
  refine wpN_mono ((H h.objs.size (FRM m) (V.deep (hE _).1 (hE _).2) (FRM.waits m) F.ns.lt).run ⟨S₁.fr, S₁.nd, O⟩ fun fl h' tk' l' n' S' q => ?_) (fun _ _ x => x) fun e s' he => wpN_of (wpAny_mono he (fun _ _ x => x) fun _ _ x => x.elim)
  obtain ⟨n'', q, m₂, hperm, hsub⟩ := q
  exact .mk ((S'.perm hperm).leave hsub F.above k S.nd) q

theorem ownCells {g h : Heap} {L : Addr} {n : Led} {cl : List (Str × Addr)} {cm : Str → Option Value} {cs : List (Addr × Option Value)} (O : Own g L h n) (hX : ∀ p ∈ cl, h.IsCell p.2 (cm p.1) ∧ L < p.2) (hg : g.objs.size ≤ L)
    (hcs : cl.map (fun p => (p.2, cm p.1)) = cs) (hnd : (cs.map (·.1)).Nodup) (hlt : ∀ p ∈ n, p.1 < L) : Own g L h (cs.map (fun p => (p.1, CE p.2)) ++ n) := by
  subst hcs
  rw [List.map_map]
  refine ⟨?_, fun p hp => ?_⟩
  · rw [List.map_append, List.map_map, List.nodup_append]
    refine ⟨by rw [List.map_map] at hnd; exact hnd, O.1, fun a ha b hb e => ?_⟩
    obtain ⟨p, hp, rfl⟩ := List.mem_map.mp ha
    obtain ⟨q, hq, rfl⟩ := List.mem_map.mp hb
    have h1 := (hX p hp).2
    have h2 := hlt q hq
    have e : p.2 = q.1 := e
    exact absurd h1 (by rw [e]; exact Nat.lt_asymm h2)
  · rcases List.mem_append.mp hp with hp | hp
    · obtain ⟨q, hq, rfl⟩ := List.mem_map.mp hp
      obtain ⟨⟨o, ho, hd⟩, hlt⟩ := hX q hq
      exact ⟨Nat.ne_of_gt hlt, Heap.get?_none_of_le (Nat.le_trans hg (Nat.le_of_lt hlt)), o, ho, hd⟩
    · exact O.2 p hp

theorem bindC_env (V : Cok K c (d + 1)) (hbind : ∀ s : Shared, K.In s.heap → BindsTo s (fnX name qual params body scope [] dV kV doc pm an cdv ct) ⟨args, kw⟩ binds) (hkind : kindsOk scope.names binds = true) (hnd : (binds.map (·.1)).Nodup) (hlb : lbOf scope.names binds = lb) (hcn : ((cellsFrom 0 scope.names []).map (·.1)).Nodup)
    (hcs : ∀ L : Addr, (cellsFrom (L + 1) scope.names []).map (fun p => (p.2, bindC (fun x => scope.names.lookup x) binds (fun _ => none) p.1)) = cs L) (hcd' : ∀ L, ((cs L).map (·.1)).Nodup) (hk : scope.kind = .function) (s : Shared) (X : K.In s.heap) (hg : c.g.objs.size ≤ s.heap.objs.size) :
    wpAny (model c.P c.w) c.A.in1 (bindArgs (fnX name qual params body scope [] dV kV doc pm an cdv ct) ⟨args, kw⟩) (fun bs s₁ => wpAny (model c.P c.w) c.A.in1 (newFunctionEnv scope mainGlobals [] bs (qual ++ ".<locals>.") (some f) cdv none builtinsNs)
      (fun env s₂ => env = envOfC qual scope s.heap.objs.size f cdv ∧ ∃ h₁ tk, s₂ = { s with heap := h₁, toks := tk } ∧ (∀ b o, s.heap.get? b = some o → h₁.get? b = some o) ∧ ∃ m', h₁.Ns s.heap.objs.size m' ∧ (∀ p ∈ lb, m' p.1 = some p.2) ∧ ∀ n', (∀ p ∈ n', p.1 < s.heap.objs.size) → Own c.g s.heap.objs.size h₁ n' → Own c.g s.heap.objs.size h₁ ((cs s.heap.objs.size).map (fun p => (p.1, CE p.2)) ++ n')) (fun _ _ => False) s₁) (fun _ _ => False) s := by
  refine hbind _ X _ _ _ _ ?_
  refine wpAny_newFunctionEnv_cells hk (kindsOk_is hkind _) fun env' he s' x => ?_
  subst he
  obtain ⟨h₁, tk, rfl, _⟩ := x.done
  have z := lbOf_ok (names := scope.names) hnd
  rw [hlb] at z
  refine ⟨rfl, h₁, tk, rfl, x.toInCall.keep, _, x.toInCall.ns, z.1, fun n' hlt O => ownCells O (fun p hp => ?_) hg (hcs _) (hcd' _) hlt⟩
  exact ⟨x.cell p.1 p.2 (lookup_of_mem_nodup (cellsFrom_names scope.names 0 (s.heap.objs.size + 1) [] [] rfl ▸ hcn) hp), x.above p.1 p.2 hp⟩

theorem V_defC (V : Cok K c (d + 1)) (ho : K.lookup f = some ⟨oc, od, .func (fnX name qual params body scope [] dV kV doc pm an cdv ct), osl⟩) (hcd : codeIn K cdv qual = true)
    (hbind : ∀ s : Shared, K.In s.heap → BindsTo s (fnX name qual params body scope [] dV kV doc pm an cdv ct) ⟨args, kw⟩ binds) (hkind : kindsOk scope.names binds = true) (hnd : (binds.map (·.1)).Nodup) (hlb : lbOf scope.names binds = lb) (hcn : ((cellsFrom 0 scope.names []).map (·.1)).Nodup)
    (hcs : ∀ L : Addr, (cellsFrom (L + 1) scope.names []).map (fun p => (p.2, bindC (fun x => scope.names.lookup x) binds (fun _ => none) p.1)) = cs L) (hcd' : ∀ L, ((cs L).map (·.1)).Nodup) (hln : (lb.map (·.1)).Nodup)
    (H : ∀ L F, Cok K (c.sub (envOfC qual scope L f cdv) L) d → Waits F → c.L < L → Mine.V (c.sub (envOfC qual scope L f cdv) L) lb ((cs L).map (fun p => (p.1, CE p.2)) ++ (c.L, F) :: n) (execs body (envOfC qual scope L f cdv)) (fun fl _ n' => Back c.L F (Q (flRet fl) l) n') (Leaves c (envOfC qual scope L f cdv) E))
    (hco : scope.isCoroutine = false := by with_unfolding_all rfl) (hgen : scope.isGenerator = false := by with_unfolding_all rfl) (hk : scope.kind = .function := by with_unfolding_all rfl) : Mine.V c l n (call (.ref f) args kw) Q E := fun h tk S =>
  V_call (fd := fnX name qual params body scope [] dV kV doc pm an cdv ct) (Env' := fun L => envOfC qual scope L f cdv) (cl := fun _ => []) V ho rfl rfl hcd (fun L => ⟨rfl, hk⟩) (fun s X hg => bindC_env V hbind hkind hnd hlb hcn hcs hcd' hk s X hg) hln H hco hgen h tk S

theorem W_defC (V : Cok K c (d + 1)) (ho : K.lookup f = some ⟨oc, od, .func (fnX name qual params body scope [] dV kV doc pm an cdv ct), osl⟩) (hcd : codeIn K cdv qual = true)
    (hbind : ∀ s : Shared, K.In s.heap → BindsTo s (fnX name qual params body scope [] dV kV doc pm an cdv ct) ⟨args, kw⟩ binds) (hkind : kindsOk scope.names binds = true) (hnd : (binds.map (·.1)).Nodup) (hlb : lbOf scope.names binds = lb) (hcn : ((cellsFrom 0 scope.names []).map (·.1)).Nodup)
    (hcs : ∀ L : Addr, (cellsFrom (L + 1) scope.names []).map (fun p => (p.2, bindC (fun x => scope.names.lookup x) binds (fun _ => none) p.1)) = cs L) (hcd' : ∀ L, ((cs L).map (·.1)).Nodup) (hln : (lb.map (·.1)).Nodup)
    (H : ∀ L F, Cok K (c.sub (envOfC qual scope L f cdv) L) d → Waits F → c.L < L → W (c.sub (envOfC qual scope L f cdv) L) lb ((cs L).map (fun p => (p.1, CE p.2)) ++ (c.L, F) :: n) (execs body (envOfC qual scope L f cdv)) (fun fl _ n' => Back c.L F (Q (flRet fl) l) n') (Leaves c (envOfC qual scope L f cdv) E))
    (hco : scope.isCoroutine = false := by with_unfolding_all rfl) (hgen : scope.isGenerator = false := by with_unfolding_all rfl) (hk : scope.kind = .function := by with_unfolding_all rfl) : W c l n (call (.ref f) args kw) Q E := fun h tk S => by
  obtain ⟨p, loose, mean, mg, mb, outer, T, hA⟩ := V.ex
  obtain ⟨m, F, k⟩ := S.fr
  have X := V.X.keeps F.keep
  refine wpAny_call (codeAny_call_function (fd := fnX name qual params body scope [] dV kV doc pm an cdv ct) (by have := V.room; omega) (X _ _ ho) rfl hco hgen rfl (codeRec_of X hcd) ?_)
  refine wpAny_mono (bindC_env V hbind hkind hnd hlb hcn hcs hcd' hk _ X (Nat.le_of_lt (Nat.lt_of_le_of_lt F.above F.ns.lt))) (fun bs s₁ h₁ => wpAny_mono h₁ (fun env s₂ h₂ => ?_) fun _ _ x => x.elim) fun _ _ x => x.elim
  obtain ⟨rfl, h₁, tk₁, rfl, keep, m', ns, hm, own⟩ := h₂
  refine ⟨(T.nolimit.keeps F.keep).keeps keep, codeAny_func ?_⟩
  have S₁ := S.enter F rfl keep ns hm hln
  have O := own _ (fun p hp => by
    rcases List.mem_cons.mp hp with rfl | hp
    · exact F.ns.lt
    · exact S.lt hp) S₁.own
  refine wpAny_mono ((H h.objs.size (FRM m) (V.deep rfl hk) (FRM.waits m) F.ns.lt).run ⟨S₁.fr, S₁.nd, O⟩ fun fl h' tk' l' n' S' q => ?_) (fun _ _ x => x) fun e s' he => wpAny_mono he (fun _ _ x => x) fun _ _ x => x.elim
  obtain ⟨n'', q, m₂, hperm, hsub⟩ := q
  have q' : ∀ v, v = flRet fl → Q v l n'' := fun v e => e ▸ q
  exact .mk ((S'.perm hperm).leave hsub F.above k S.nd) (q' _ (by cases fl <;> rfl))

/-- V_defC where no name is a cell -/
theorem V_def (V : Cok K c (d + 1)) (ho : K.lookup f = some ⟨oc, od, .func (fnX name qual params body scope [] dV kV doc pm an cdv ct), osl⟩) (hcd : codeIn K cdv qual = true)
    (hbind : ∀ s : Shared, K.In s.heap → BindsTo s (fnX name qual params body scope [] dV kV doc pm an cdv ct) ⟨args, kw⟩ binds) (hloc : ∀ y ∈ binds, scope.names.lookup y.1 = some .local) (hnd : (binds.map (·.1)).Nodup)
    (H : ∀ L F, Cok K (c.sub (envX qual scope L f cdv []) L) d → Waits F → c.L < L → Mine.V (c.sub (envX qual scope L f cdv []) L) binds ((c.L, F) :: n) (execs body (envX qual scope L f cdv [])) (fun fl _ n' => Back c.L F (Q (flRet fl) l) n') (Leaves c (envX qual scope L f cdv []) E))
    (hcell : ∀ x ∈ scope.names, x.2 ≠ .cell) (hco : scope.isCoroutine = false := by with_unfolding_all rfl) (hgen : scope.isGenerator = false := by with_unfolding_all rfl) (hk : scope.kind = .function := by with_unfolding_all rfl) : Mine.V c l n (call (.ref f) args kw) Q E :=
  V_call (fd := fnX name qual params body scope [] dV kV doc pm an cdv ct) (Env' := fun L => envX qual scope L f cdv []) (cl := fun _ => []) (cs := fun _ => []) V ho rfl rfl hcd (fun L => ⟨rfl, hk⟩) (fun s X hg =>
    hbind _ X _ _ _ _ (wpAny_newFunctionEnv hcell hloc (fun h₀ hns₀ hsb₀ => ⟨rfl, h₀, _, rfl, fun b o e => hsb₀.extBut b o (Nat.ne_of_lt (Heap.lt_size e)) (Heap.get?_push_of_some _ e), _, hns₀, lookup_rev hnd, fun n' _ O => O⟩) hk)) hnd H hco hgen
end
end Mine
end
section
open PySem PySem.W PySem.Calls PyProof.Rows
open PySem.Sem (wp)
set_option Elab.async false
set_option maxRecDepth 100000
set_option linter.unusedVariables false
namespace Mine

section
variable {M : Model} {A : Around} {E : Value → Shared → Prop} {s : Shared} {a : Addr} {b : Array UInt8}
theorem dite_no {p : Prop} [d : Decidable p] {a : p → Bool} {b : ¬p → Bool} (hp : ¬p) (h : ¬(b hp = true)) : ¬((if h : p then a h else b h) = true) := by rw [dif_neg hp]; exact h
theorem wpN_exported {self : Value} {Q : Bool → Shared → Prop} (hg : A.guards = some []) (h : Q false s) : wpN M A (Builtin.Bytes.exported self) Q E s := by
  unfold Builtin.Bytes.exported
  refine wpN_bind (wpN_stack fun st hs hn => wpN_pure ?_)
  have key : ∀ x : Bool, x = false → Q x s := fun x e => e ▸ h
  refine key _ ?_
  have hg := hs _ hg
  rw [List.any_eq_false]
  rintro ⟨c, p⟩ hm
  have hc : c.isGuard = false := by
    cases e : c.isGuard with
    | false => rfl
    | true =>
      have : c ∈ guardsOf st := List.mem_filter.mpr ⟨List.mem_map.mpr ⟨_, hm, rfl⟩, e⟩
      rw [hg] at this; cases this
  have hd : niceC c = true := List.all_eq_true.mp hn _ hm
  clear hm hg hs hn key h
  delta PySem.Builtin.Bytes.exported.match_1
  cases c with
  | builtin id a =>
    obtain ⟨pos, kw⟩ := a
    refine dite_no (fun h => by subst h; exact Bool.noConfusion hc) ?_
    refine dite_no (fun h => by subst h; exact Bool.noConfusion hc) ?_
    refine dite_no (fun h => by subst h; exact Bool.noConfusion hc) ?_
    refine dite_no (fun h => by subst h; exact Bool.noConfusion hc) ?_
    refine dite_no (fun h => by subst h; exact Bool.noConfusion hc) ?_
    have hd2 : Builtin.Bytes.decodersThatHold.contains id = false := by rw [← Bool.not_eq_true']; exact hd
    cases pos with
    | nil => exact Bool.false_ne_true
    | cons v r => exact fun e => Bool.false_ne_true (hd2.symm.trans ((Bool.and_eq_true_iff.mp e).2))
  | _ => exact Bool.false_ne_true
theorem wpAny_exportsOf {Q : Nat → Shared → Prop} (ho : s.heap.get? a = some { cls := .type "bytearray", data := .bytearray b }) (h : Q 0 s) : wpAny M A (Builtin.Bytes.exportsOf (.ref a)) Q E s := by
  unfold Builtin.Bytes.exportsOf
  exact wpAny_bind (wpAny_load ho (wpAny_pure h))
theorem wpN_freeToMove {Q : Bool → Shared → Prop} (hg : A.guards = some []) (ho : s.heap.get? a = some { cls := .type "bytearray", data := .bytearray b }) (h : Q false s) :
    wpN M A (Builtin.Bytes.exported (.ref a) <||> (do return (← Builtin.Bytes.exportsOf (.ref a)) > 0)) Q E s := by
  unfold orM
  exact wpN_bind (wpN_exported hg (wpN_bind (wpN_of (wpAny_exportsOf ho (wpN_pure h)))))
theorem wpN_checkResize {Q : Unit → Shared → Prop} (hg : A.guards = some []) (ho : s.heap.get? a = some { cls := .type "bytearray", data := .bytearray b }) (h : Q () s) : wpN M A (Builtin.Bytes.checkResize (.ref a)) Q E s := by
  unfold Builtin.Bytes.checkResize
  refine wpN_bind (wpN_freeToMove hg ho ?_)
  exact wpN_pure h
theorem wpAny_baWrite {f : Array UInt8 → Array UInt8} {Q : Unit → Shared → Prop} (ho : s.heap.get? a = some { cls := .type "bytearray", data := .bytearray b }) (hz : (f b).size ≤ sizeLine)
    (h : ∀ h', h'.get? a = some { cls := .type "bytearray", data := .bytearray (f b) } → Heap.SameBut a s.heap h' → Q () { s with heap := h' }) : wpAny M A (Builtin.Bytes.write (.ref a) f) Q E s := by
  show wpAny _ _ (updateBytearray a f) _ _ _
  unfold updateBytearray
  refine wpAny_bind (wpAny_load ho ?_)
  show wpAny M A (update a (Obj.mapBytearray f) >>= fun _ => lookBehind a) _ _ s
  refine wpAny_bind (wpAny_update ho ?_)
  have hS₂ : (s.heap.update a (Obj.mapBytearray f)).get? a = some { cls := .type "bytearray", data := .bytearray (f b) } := Heap.get?_update_self (Obj.mapBytearray f) ho rfl
  refine wpAny_lookBehind hS₂ ?_ (h _ hS₂ (Heap.SameBut.update ..))
  show (if (f b).size > sizeLine then some "bytearray:memory" else none) = none
  rw [if_neg (Nat.not_lt.mpr hz)]
theorem wpAny_baPayload {Q : Array UInt8 → Shared → Prop} (ho : s.heap.get? a = some { cls := .type "bytearray", data := .bytearray b }) (h : Q b s) : wpAny M A (Builtin.Bytes.payload (.ref a)) Q E s := by
  unfold Builtin.Bytes.payload Builtin.Bytes.payload?
  exact wpAny_bind (wpAny_bind (wpAny_load ho (wpAny_pure (wpAny_pure h))))
end
end Mine
end
section
open PySem PySem.W PySem.Calls PyProof.Rows
open PySem.Sem (wp)
set_option Elab.async false
set_option maxRecDepth 100000
set_option linter.unusedVariables false
namespace Mine

namespace By
theorem sl_append : Slot "bytearray" "append" "bytearray.append" :=
  .of (owner := "bytearray") (n := "append") (by rw [typeLookup_type, builtinLookup_eq_fast]; kernel_rfl) (by decide +kernel) (by decide +kernel) (by decide +kernel) (by first | exact .inl (by decide +kernel) | exact .inr (by decide +kernel)) (by rw [isSubtype_type]; kernel_rfl)
theorem sl_extend : Slot "bytearray" "extend" "bytearray.extend" :=
  .of (owner := "bytearray") (n := "extend") (by rw [typeLookup_type, builtinLookup_eq_fast]; kernel_rfl) (by decide +kernel) (by decide +kernel) (by decide +kernel) (by first | exact .inl (by decide +kernel) | exact .inr (by decide +kernel)) (by rw [isSubtype_type]; kernel_rfl)
theorem sl_iter : Slot "bytearray" "__iter__" "bytearray.__iter__" :=
  .of (owner := "bytearray") (n := "__iter__") (by rw [typeLookup_type, builtinLookup_eq_fast]; kernel_rfl) (by decide +kernel) (by decide +kernel) (by decide +kernel) (by first | exact .inl (by decide +kernel) | exact .inr (by decide +kernel)) (by rw [isSubtype_type]; kernel_rfl)
theorem sl_init : Slot "bytearray" "__init__" "bytearray.__init__" :=
  .of (owner := "bytearray") (n := "__init__") (by rw [typeLookup_type, builtinLookup_eq_fast]; kernel_rfl) (by decide +kernel) (by decide +kernel) (by decide +kernel) (by first | exact .inl (by decide +kernel) | exact .inr (by decide +kernel)) (by rw [isSubtype_type]; kernel_rfl)
theorem sl_next : Slot "bytearray_iterator" "__next__" "bytearray_iterator.__next__" :=
  .of (owner := "bytearray_iterator") (n := "__next__") (by rw [typeLookup_type, builtinLookup_eq_fast]; kernel_rfl) (by decide +kernel) (by decide +kernel) (by decide +kernel) (by first | exact .inl (by decide +kernel) | exact .inr (by decide +kernel)) (by rw [isSubtype_type]; kernel_rfl)
theorem en_append : entryFor table "bytearray.append" = some Builtin.«bytearray.append» := entryFor_of_tree (by kernel_rfl)
theorem en_extend : entryFor table "bytearray.extend" = some Builtin.«bytearray.extend» := entryFor_of_tree (by kernel_rfl)
theorem en_extend_loop : entryFor table "bytearray.extend.loop" = some Builtin.«bytearray.extend.loop» := entryFor_of_tree (by kernel_rfl)
theorem en_extend_end : entryFor table "bytearray.extend.end" = some Builtin.«bytearray.extend.end» := entryFor_of_tree (by kernel_rfl)
theorem en_iter : entryFor table "bytearray.__iter__" = some Builtin.«bytearray.__iter__» := entryFor_of_tree (by kernel_rfl)
theorem en_init : entryFor table "bytearray.__init__" = some Builtin.«bytearray.__init__» := entryFor_of_tree (by kernel_rfl)
theorem en_next : entryFor table "bytearray_iterator.__next__" = some Builtin.«bytearray_iterator.__next__» := entryFor_of_tree (by kernel_rfl)
theorem ow_ba : Manifest.owners.lookup (String.ofList ['y', 'a', 'r', 'r', 'a', 'e', 't', 'y', 'b'].reverse) = some Manifest.sig_bytearray := by kernel_rfl
theorem sg_new : Manifest.signature? "bytearray.__new__" = Manifest.sig_bytearray.lookup (String.ofList ['_', '_', 'w', 'e', 'n', '_', '_'].reverse) := signature?_of (o := ['y', 'a', 'r', 'r', 'a', 'e', 't', 'y', 'b']) (by kernel_rfl) ow_ba
theorem ar_append (a b : Value) : argsOk "bytearray.append" ⟨[a, b], []⟩ := by unfold argsOk; rw [signature?_of (id := "bytearray.append") (n := ['d', 'n', 'e', 'p', 'p', 'a']) (o := ['y', 'a', 'r', 'r', 'a', 'e', 't', 'y', 'b']) (by kernel_rfl) ow_ba]; kernel_rfl
theorem ar_extend (a b : Value) : argsOk "bytearray.extend" ⟨[a, b], []⟩ := by unfold argsOk; rw [signature?_of (id := "bytearray.extend") (n := ['d', 'n', 'e', 't', 'x', 'e']) (o := ['y', 'a', 'r', 'r', 'a', 'e', 't', 'y', 'b']) (by kernel_rfl) ow_ba]; kernel_rfl
theorem ar_iter (a : Value) : argsOk "bytearray.__iter__" ⟨[a], []⟩ := by unfold argsOk; rw [signature?_of (id := "bytearray.__iter__") (n := ['_', '_', 'r', 'e', 't', 'i', '_', '_']) (o := ['y', 'a', 'r', 'r', 'a', 'e', 't', 'y', 'b']) (by kernel_rfl) ow_ba]; kernel_rfl
theorem ar_next (a : Value) : argsOk "bytearray_iterator.__next__" ⟨[a], []⟩ := by unfold argsOk; kernel_rfl
theorem ar_init0 (a : Value) : argsOk "bytearray.__init__" ⟨[a], []⟩ := by unfold argsOk; rw [signature?_of (id := "bytearray.__init__") (n := ['_', '_', 't', 'i', 'n', 'i', '_', '_']) (o := ['y', 'a', 'r', 'r', 'a', 'e', 't', 'y', 'b']) (by kernel_rfl) ow_ba]; kernel_rfl
theorem ar_init1 (a b : Value) : argsOk "bytearray.__init__" ⟨[a, b], []⟩ := by unfold argsOk; rw [signature?_of (id := "bytearray.__init__") (n := ['_', '_', 't', 'i', 'n', 'i', '_', '_']) (o := ['y', 'a', 'r', 'r', 'a', 'e', 't', 'y', 'b']) (by kernel_rfl) ow_ba]; kernel_rfl
theorem ty_append : typeOf (.builtin "bytearray.append") = pure (.type "method_descriptor") := by show builtinType _ = _; rw [builtinType_eq_fast]; kernel_rfl
theorem ty_extend : typeOf (.builtin "bytearray.extend") = pure (.type "method_descriptor") := by show builtinType _ = _; rw [builtinType_eq_fast]; kernel_rfl
theorem plainAttrs : PlainAttrs "bytearray" := ⟨⟨"bytearray.__getattribute__", by rw [typeLookup_type, builtinLookup_eq_fast]; kernel_rfl, by decide +kernel⟩, by rw [typeLookup_type, builtinLookup_eq_fast]; kernel_rfl⟩
theorem mro : mroOf (.type "bytearray") = pure [.type "bytearray", .type "object"] := by rw [mroOf_type]; kernel_rfl
theorem look_new : typeLookup (.type "bytearray") "__new__" = pure (some (.builtin "bytearray.__new__")) := by rw [typeLookup_type, builtinLookup_eq_fast]; kernel_rfl
theorem called : TypeCalled "bytearray" "bytearray.__new__" "bytearray.__init__" :=
  ⟨by decide +kernel, by decide +kernel, ⟨_, _, mro⟩, madeBy_type mro look_new (by decide +kernel), by decide +kernel, by rw [isSubtype_type]; kernel_rfl, sl_init⟩
theorem tc0 : checkTypeCall "bytearray" ⟨[], []⟩ = pure () := by kernel_rfl
theorem tc1 (a : Value) : checkTypeCall "bytearray" ⟨[a], []⟩ = pure () := by kernel_rfl
theorem nc0 : checkBuiltinCall "bytearray.__new__" ⟨[.type "bytearray"], []⟩ = pure () := by unfold checkBuiltinCall; rw [sg_new, builtinKind_eq_fast]; kernel_rfl
theorem nc1 (a : Value) : checkBuiltinCall "bytearray.__new__" ⟨[.type "bytearray", a], []⟩ = pure () := by unfold checkBuiltinCall; rw [sg_new, builtinKind_eq_fast]; kernel_rfl
theorem en_new : entryFor table "bytearray.__new__" = some Builtin.«list.__new__» := entryFor_alias (id' := "list.__new__") (by rw [fastTable_eq_tree]; kernel_rfl) rfl (by decide +kernel) (by rw [fastTable_eq_tree]; kernel_rfl)
theorem lk_buffer : typeLookup (.type "bytearray") "__buffer__" = pure (some (.builtin "bytearray.__buffer__")) := by rw [typeLookup_type, builtinLookup_eq_fast]; kernel_rfl
theorem lk_release : typeLookup (.type "bytearray") "__release_buffer__" = pure (some (.builtin "bytearray.__release_buffer__")) := by rw [typeLookup_type, builtinLookup_eq_fast]; kernel_rfl
theorem lk_bytes : typeLookup (.type "bytearray") "__bytes__" = pure none := by rw [typeLookup_type, builtinLookup_eq_fast]; kernel_rfl
theorem lk_index : typeLookup (.type "bytearray") "__index__" = pure none := by rw [typeLookup_type, builtinLookup_eq_fast]; kernel_rfl
theorem sub_self : isSubtype (.type "bytearray") (.type "bytearray") = pure true := by rw [isSubtype_type]; kernel_rfl
theorem lt_buffer : typeLookup (.type "tuple") "__buffer__" = pure none := by rw [typeLookup_type, builtinLookup_eq_fast]; kernel_rfl
end By

/-- a bytearray of these bytes -/
def BYA (b : List UInt8) : Desc := fun o => o = { cls := .type "bytearray", data := .bytearray b.toArray }

section
variable {c : Cx} {l : Loc} {n n' : Led} {E : Value → Shared → Prop}

/-- a builtin's turn within -/
abbrev Cx.in1 (c : Cx) : Cx := { c with A := c.A.in1 }
def VCode (c : Cx) (l : Loc) (n : Led) (cd : Code) (Q : Value → Loc → Led → Prop) : Prop :=
  ∀ h tk, St c.g c.L l n h → codeN (model c.P c.w) c.A cd (fun r s' => match r with | .ok (.ret v) => Out c Q v s' | _ => False) { c.r with heap := h, toks := tk }
def FinV (c : Cx) (Q : Value → Loc → Led → Prop) (fin : Fin) (l : Loc) (n : Led) : Prop := match fin with
  | .done (.ret v) => Q v l n
  | .done _ => False
  | .again c' => c'.quiet = true ∧ VCode c l n c' Q
theorem VCode_of {id : String} {args : Args} {b : Builtin} {Q : Value → Loc → Led → Prop} (he : entryFor table id = some b) (H : V c.in1 l n (b args) (FinV c Q) (fun _ _ => False)) (hp : plainId id = true := by decide +kernel) (hn : niceC (.builtin id args) = true := by with_unfolding_all rfl) : VCode c l n (.builtin id args) Q := fun h tk S => by
  refine codeN_of_tree hn ?_
  show wpN _ _ (match entryFor table id with | some b => b args | none => unsupported ((withoutEnding? id "#data").getD id)) _ _ _
  rw [he, Around.under_plainId hp]
  refine wpN_mono (H h tk S) (fun fin s' q => ?_) fun _ _ x => x.elim
  obtain ⟨h', tk', l', n', e, S', q⟩ := q
  cases fin with
  | done f => cases f with
    | ret v => exact ⟨h', tk', l', n', e, S', q⟩
    | _ => exact q.elim
  | again c' => subst e; exact ⟨q.1, q.2 h' tk' S'⟩
theorem V_callB {id : String} {args : List Value} {Q : Value → Loc → Led → Prop} (H : VCode c l n (.builtin id ⟨args, []⟩) Q) (hc : ∀ h tk, St c.g c.L l n h → ∀ (P : Shared → Prop), P { c.r with heap := h, toks := tk } → wpAny (model c.P c.w) c.A.in1 (checkBuiltinCall id ⟨args, []⟩) (fun _ s => P s) (fun _ _ => False) { c.r with heap := h, toks := tk })
    (hp : plainId id = true := by decide +kernel) : V c l n (call (.builtin id) args) Q E := fun h tk S => by
  refine wpN_call (codeN_of_tree rfl ?_)
  show wpN _ c.A.in1 (do checkBuiltinCall id ⟨args, []⟩; again (.builtin id ⟨args, []⟩)) _ _ _
  refine wpN_bind (wpN_of (wpAny_mono (hc h tk S (fun s => codeN (model c.P c.w) c.A (.builtin id ⟨args, []⟩) (fun r s' => match r with | .ok (.ret v) => Out c Q v s' | _ => False) s) (H h tk S)) (fun _ s q => wpN_pure ⟨plainId_quiet hp _, codeN_mono q fun r s' q => ?_⟩) fun _ _ x => x.elim))
  cases r with
  | error e => exact q.elim
  | ok f => cases f with
    | ret v => exact q
    | _ => exact q.elim

theorem Knows.ba {a : Addr} {b : List UInt8} (hm : (a, BYA b) ∈ n) : Knows c n (fun h => h.get? a = some { cls := .type "bytearray", data := .bytearray b.toArray }) := .led hm fun _ _ e d => by cases d; exact e

theorem G_ba {a : Addr} {b : List UInt8} {name : Str} {id : String} {pl : Sem Bool} {Q : Value × List Value → Loc → Led → Prop} (hm : (a, BYA b) ∈ n) (slot : Slot "bytearray" name id) (hty : typeOf (.builtin id) = pure (.type "method_descriptor")) (q : Q (.builtin id, [.ref a]) l n) : W c l n (getMethod (.ref a) name pl) Q E := fun h tk S => by
  have ho := Knows.ba (c := c) hm l h S
  exact getMethod_builtin ⟨_, ho, rfl⟩ By.plainAttrs slot hty (fun x e => by cases e; exact ⟨_, ho, rfl⟩) (.mk S q)

-- basic pieces above a nice stack
theorem P_resize {a : Addr} {b : List UInt8} {Q : Unit → Loc → Led → Prop} (hg : c.A.guards = some []) (hm : (a, BYA b) ∈ n) (q : Q () l n) : V c l n (Builtin.Bytes.checkResize (.ref a)) Q E := fun h tk S => wpN_checkResize hg (Knows.ba (c := c) hm l h S) (.mk S q)
theorem P_write {a : Addr} {b b' : List UInt8} {f : Array UInt8 → Array UInt8} {Q : Unit → Loc → Led → Prop} (P : LSet a (BYA b) (BYA b') n n') (hf : f b.toArray = b'.toArray) (hz : b'.length ≤ sizeLine) (q : Q () l n') : W c l n (Builtin.Bytes.write (.ref a) f) Q E := fun h tk S =>
  wpAny_baWrite (Knows.ba (c := c) P.mem l h S) (by rw [hf]; simpa using hz) fun h' ho hs => .mk (S.lset P hs.extBut ho (by rw [hf]; rfl)) q
theorem P_payload {a : Addr} {b : List UInt8} {Q : Array UInt8 → Loc → Led → Prop} (hm : (a, BYA b) ∈ n) (q : Q b.toArray l n) : W c l n (Builtin.Bytes.payload (.ref a)) Q E := fun h tk S => wpAny_baPayload (Knows.ba (c := c) hm l h S) (.mk S q)
theorem P_new {Q : Value → Loc → Led → Prop} (q : ∀ a, Q (.ref a) l ((a, BYA []) :: n)) : W c l n (Builtin.Bytes.newBytearray #[]) Q E := fun h tk S => by
  unfold Builtin.Bytes.newBytearray
  exact wpAny_newObj_type (.mk (S.push (d := BYA []) rfl) (q _)) (Nat.zero_le _)

theorem byteValue_int {x : Int} {t : Tok} (h0 : 0 ≤ x) (h1 : x < 256) : Builtin.Bytes.byteValue (.int x t) = pure x.toNat.toUInt8 := by
  unfold Builtin.Bytes.byteValue
  rw [show asIndex (.int x t) = pure x from rfl, pure_bind, if_neg (by simp; omega)]
theorem V_try {α : Type} {m : Sem α} {k : Value → Sem α} {Q : α → Loc → Led → Prop} (H : V c l n m Q (fun _ _ => False)) : V c l n (tryCatch m k) Q E := fun h tk S => wpN_tryCatch (wpN_mono (H h tk S) (fun _ _ q => q) fun _ _ x => x.elim)
theorem V_rule {r : String} {Q : Unit → Loc → Led → Prop} (q : Q () l n) : V c l n (rule r) Q E := fun h tk S => wpN_of (wpAny_rule (.mk S q))
theorem VCode.perm {cd : Code} {Q : Value → Loc → Led → Prop} (hp : n.Perm n') (H : VCode c l n' cd Q) : VCode c l n cd Q := fun h tk S => H h tk (S.perm hp)

theorem BA_append {a : Addr} {b : List UInt8} {x : Int} {t : Tok} {Q : Value → Loc → Led → Prop} (hg : c.A.guards = some []) (P : LSet a (BYA b) (BYA (b ++ [x.toNat.toUInt8])) n n') (h0 : 0 ≤ x) (h1 : x < 256) (hz : b.length < sizeLine) (q : Q .none l n') :
    V c l n (call (.builtin "bytearray.append") [.ref a, .int x t]) Q E := by
  refine V_callB (VCode_of By.en_append ?_) (fun h tk S P' p => By.sl_append.check _ _ _ _ _ _ _ _ ⟨_, Knows.ba (c := c) P.mem l h S, rfl⟩ (By.ar_append _ _) p)
  show V c.in1 l n (do let c ← Builtin.Bytes.byteValue (.int x t); Builtin.Bytes.checkResize (.ref a); Builtin.Bytes.write (.ref a) (·.push c); ret .none) _ _
  exact V_bind (V_eq (byteValue_int h0 h1) (V_bind (P_resize hg P.mem (V_bind (V_of (P_write P (by simp) (by simp; exact hz) (V_pure q)))))))

theorem P_addAtEnd {a : Addr} {b d : List UInt8} {n'' : Led} {Q : Value → Loc → Led → Prop} (hg : c.A.guards = some []) (P : LSet a (BYA b) (BYA (b ++ d)) n n') (hz : (b ++ d).length ≤ sizeLine) (hsub : n''.Sublist n') (q : Q .none l n'') :
    V c.in1 l n (do
      if !d.toArray.isEmpty then Builtin.Bytes.checkResize (.ref a)
      Builtin.Bytes.write (.ref a) (· ++ d.toArray)
      ret .none) (FinV c Q) (fun _ _ => False) := by
  have tail : V c.in1 l n (do Builtin.Bytes.write (.ref a) (· ++ d.toArray); ret .none) (FinV c Q) (fun _ _ => False) := V_bind (V_of (P_write P (by simp) hz (V.sub hsub (V_pure q))))
  cases hd : d.toArray.isEmpty with
  | true => exact tail
  | false => exact V_bind (P_resize hg P.mem tail)

theorem BA_extend_end {a s : Addr} {b d : List UInt8} {it : Value} {n'' : Led} {Q : Value → Loc → Led → Prop} (hg : c.A.guards = some []) (P : LSet a (BYA b) (BYA (b ++ d)) n n') (hs : (s, BYA d) ∈ n) (hz : (b ++ d).length ≤ sizeLine) (hsub : n''.Sublist n') (q : Q .none l n'') :
    VCode c l n (.builtin "bytearray.extend.end" ⟨[.ref a, it, .ref s], []⟩) Q := by
  refine VCode_of By.en_extend_end ?_
  show V c.in1 l n (do
      point
      let more ← Builtin.Bytes.payload (.ref s)
      if !more.isEmpty then Builtin.Bytes.checkResize (.ref a)
      Builtin.Bytes.write (.ref a) (· ++ more)
      ret .none) _ _
  exact V_bind (V_point (V_bind (V_of (P_payload hs (P_addAtEnd hg P hz hsub q)))))

theorem BA_extend_loop {a s ia : Addr} {b ds : List UInt8} {it : Value} {Q : Value → Loc → Led → Prop} {D : Nat → Desc} {N : Led → Prop} {P : Nat → Value → Prop} (hg : c.A.guards = some []) (L : LSet a (BYA b) (BYA (b ++ ds)) n n') (I : Itr c.in1 ia D N P ds.length)
    (hP : ∀ i v, i < ds.length → P i v → ∃ x t, v = .int x t ∧ 0 ≤ x ∧ x < 256 ∧ ds[i]? = some x.toNat.toUInt8) (hN : ∀ d, N ((s, d) :: n)) (hz : (b ++ ds).length ≤ sizeLine) (q : Q .none l n') :
    ∀ k i, ds.length - i = k → i ≤ ds.length → VCode c l ((ia, D i) :: (s, BYA (ds.take i)) :: n) (.builtin "bytearray.extend.loop" ⟨[.ref a, it, .ref ia, .ref s], []⟩) Q := by
  intro k
  induction k with
  | zero =>
    intro i hk hi
    obtain rfl : i = ds.length := by omega
    refine VCode_of By.en_extend_loop ?_
    show V c.in1 l _ (pyNext (.ref ia) >>= _) _ _
    refine V_bind (V_of (I.done l _ _ _ (hN _) ?_))
    rw [List.take_length]
    refine V_pure ⟨plainId_quiet (by decide +kernel) _, ?_⟩
    exact BA_extend_end hg (.tail L) (List.mem_cons_self ..) hz (List.sublist_cons_self ..) q
  | succ k ih =>
    intro i hk hi
    have hlt : i < ds.length := by omega
    refine VCode_of By.en_extend_loop ?_
    show V c.in1 l _ (pyNext (.ref ia) >>= _) _ _
    refine V_bind (V_of (I.item i l _ _ _ hlt (hN _) fun v hv => ?_))
    obtain ⟨x, t, rfl, h0, h1, hx⟩ := hP i v hlt hv
    refine V_bind (V_try (V_hold (V_eq (byteValue_int h0 h1) ?_)))
    refine V_bind (V_of (fun h tk S => wpAny_letGo (.mk S (?_ : V c.in1 l _ _ _ _))))
    have e : ds.take (i + 1) = ds.take i ++ [x.toNat.toUInt8] := by rw [List.take_add_one, hx]; rfl
    refine V_bind (V_of (P_write (b' := ds.take (i + 1)) (.tail .head) (by rw [e]; simp) (Nat.le_trans (List.length_take_le' _ _) (Nat.le_trans (by rw [List.length_append]; exact Nat.le_add_left _ _) hz)) ?_))
    exact V_pure ⟨plainId_quiet (by decide +kernel) _, ih (i + 1) (by omega) hlt⟩
end
end Mine
end
section
open PySem PySem.W PySem.Calls PyProof.Rows
open PySem.Sem (wp)
set_option Elab.async false
set_option maxRecDepth 100000
set_option linter.unusedVariables false
namespace Mine
section
variable {c : Cx} {l : Loc} {n n' : Led} {E : Value → Shared → Prop}
-- tuples, walked
def ITT (ax : Addr) (i : Nat) : Desc := fun o => o.cls = .type "tuple_iterator" ∧ o.data = .fields #[.ref ax, .int i 0]
theorem itr_tuple (hh : c.A.handled = none) (a ax : Addr) (vs : List Value) : Itr c a (ITT ax) (fun n => Knows c n (·.IsTuple ax vs.toArray) ∧ ax ≠ a) (fun i v => vs[i]? = some v) vs.length where
  item := fun i l n Q E hi hN hq => by
    have X := Walks.tuple (prog := c.P) (w := c.w) hh a ax hN.2 vs.toArray
    simp only [List.size_toArray, List.getElem?_toArray] at X
    refine (Itr.of_walks (D := ITT ax) (N := fun n => Knows c n (·.IsTuple ax vs.toArray)) X (fun i l n h S k => ?_) fun i h ⟨⟨o, ho, hd⟩, _⟩ => ⟨o, ho, hd⟩).item i l n Q E hi hN.1 hq
    obtain ⟨o, ho, hd⟩ := S.get (List.mem_cons_self ..)
    exact ⟨⟨o, ho, hd.1, hd.2⟩, k l h (S.sub (List.sublist_cons_self ..))⟩
  done := fun l n Q E hN hq => by
    have X := Walks.tuple (prog := c.P) (w := c.w) hh a ax hN.2 vs.toArray
    simp only [List.size_toArray, List.getElem?_toArray] at X
    refine (Itr.of_walks (D := ITT ax) (N := fun n => Knows c n (·.IsTuple ax vs.toArray)) X (fun i l n h S k => ?_) fun i h ⟨⟨o, ho, hd⟩, _⟩ => ⟨o, ho, hd⟩).done l n Q E hN.1 hq
    obtain ⟨o, ho, hd⟩ := S.get (List.mem_cons_self ..)
    exact ⟨⟨o, ho, hd.1, hd.2⟩, k l h (S.sub (List.sublist_cons_self ..))⟩
theorem I_tuple {ax : Addr} {vs : List Value} {Q : Value → Loc → Led → Prop} (k : Knows c n (·.IsTuple ax vs.toArray)) (q : ∀ a, ax ≠ a → Q (.ref a) l ((a, ITT ax 0) :: n)) : W c l n (pyIter (.ref ax)) Q E := fun h tk S => by
  have hl := k l h S
  refine wpAny_pyIter_tuple hl (.mk (S.push ⟨rfl, rfl⟩) (q _ ?_))
  obtain ⟨o, ho, _⟩ := hl
  exact Nat.ne_of_lt (Heap.lt_size ho)

-- what is asked of a list or a tuple ahead of its walk
theorem H_list {ax : Addr} {vs : List Value} {id : String} {Q : Unit → Loc → Led → Prop} (k : Knows c n (·.IsList ax vs.toArray)) (q : Q () l n) : W c l n (Builtin.Bytes.lengthHint id (.ref ax)) Q E := fun h tk S => by
  have hT := (k l h S).typeIs (s := { c.r with heap := h, toks := tk })
  unfold Builtin.Bytes.lengthHint
  refine wpAny_bind (wpAny_specialOf hT slot_list_len.lookup ?_)
  dsimp only
  rw [F.bm_split]
  dsimp only
  refine wpAny_bind (wpAny_isInstance hT F.bm_sub_list ?_)
  refine bm_if_false rfl ?_
  refine bm_if_true (by decide +kernel) ?_
  exact wpAny_pure (.mk S q)
theorem tup_split : splitId "tuple.__len__" = some ("tuple", "__len__") := by decide +kernel
theorem tup_sub : isSubtype (.type "tuple") (.type "tuple") = pure true := by rw [isSubtype_type]; kernel_rfl
theorem H_tuple {ax : Addr} {vs : List Value} {id : String} {Q : Unit → Loc → Led → Prop} (k : Knows c n (·.IsTuple ax vs.toArray)) (q : Q () l n) : W c l n (Builtin.Bytes.lengthHint id (.ref ax)) Q E := fun h tk S => by
  have hT := (k l h S).typeIs (s := { c.r with heap := h, toks := tk })
  unfold Builtin.Bytes.lengthHint
  refine wpAny_bind (wpAny_specialOf hT F.slot_tuple_len.lookup ?_)
  dsimp only
  rw [tup_split]
  dsimp only
  refine wpAny_bind (wpAny_isInstance hT tup_sub ?_)
  refine bm_if_false rfl ?_
  refine bm_if_true (by decide +kernel) ?_
  exact wpAny_pure (.mk S q)

theorem BA_extend {a ax : Addr} {b ds : List UInt8} {T : String} {D : Addr → Nat → Desc} {N : Addr → Led → Prop} {P : Addr → Nat → Value → Prop} {Q : Value → Loc → Led → Prop} (hg : c.A.guards = some []) (L : LSet a (BYA b) (BYA (b ++ ds)) n n') (hT : ∀ l h tk, St c.g c.L l n h → Shared.TypeIs { c.r with heap := h, toks := tk } (.ref ax) T) (hb : typeLookup (.type T) "__buffer__" = pure none)
    (hit : ∀ (Q : Value → Loc → Led → Prop), (∀ i, ax ≠ i → Q (.ref i) l ((i, D i 0) :: n)) → W c.in1 l n (pyIter (.ref ax)) Q (fun _ _ => False))
    (hint : ∀ i (Q : Unit → Loc → Led → Prop), Q () l ((i, D i 0) :: n) → W c.in1 l ((i, D i 0) :: n) (Builtin.Bytes.lengthHint "bytearray.extend" (.ref ax)) Q (fun _ _ => False))
    (I : ∀ i, Itr c.in1 i (D i) (N i) (P i) ds.length) (hP : ∀ a i v, i < ds.length → P a i v → ∃ x t, v = .int x t ∧ 0 ≤ x ∧ x < 256 ∧ ds[i]? = some x.toNat.toUInt8) (hN : ∀ i s d, ax ≠ i → N i ((s, d) :: n)) (hz : (b ++ ds).length ≤ sizeLine) (q : Q .none l n') :
    V c l n (call (.builtin "bytearray.extend") [.ref a, .ref ax]) Q E := by
  refine V_callB (VCode_of By.en_extend ?_) (fun h tk S P' p => By.sl_extend.check _ _ _ _ _ _ _ _ ⟨_, Knows.ba (c := c) L.mem l h S, rfl⟩ (By.ar_extend _ _) p)
  unfold Builtin.«bytearray.extend»
  refine V_bind (V_pure ?_)
  refine V_bind (V_of (fun h tk S => wpAny_specialOf (hT l h tk S) hb (.mk S ?_)))
  show V c.in1 l n ((tryCatch (pyIter (.ref ax)) _) >>= _) _ _
  refine V_bind (V_try (V_of (hit _ fun i hne => ?_)))
  refine V_bind (V_hold (V_of (hint i _ ?_)))
  refine V_bind (V_of (P_new fun s => V_pure ⟨plainId_quiet (by decide +kernel) _, ?_⟩))
  refine VCode.perm (.swap ..) ?_
  have z := BA_extend_loop (it := .ref ax) (ia := i) hg L (I i) (hP i) (hN i s · hne) hz q ds.length 0 (by omega) (Nat.zero_le _)
  exact z

theorem IntsAre.item {vs : List Value} {ns : List Int} {i : Nat} {v : Value} (hi : IntsAre vs ns) (hr : ∀ x ∈ ns, 0 ≤ x ∧ x < 256) (h : vs[i]? = some v) : ∃ x t, v = .int x t ∧ 0 ≤ x ∧ x < 256 ∧ (ns.map fun x => x.toNat.toUInt8)[i]? = some x.toNat.toUInt8 := by
  obtain ⟨x, t, rfl, hx⟩ := IntsAre.at hi i v h
  exact ⟨x, t, rfl, (hr x (List.mem_of_getElem? hx)).1, (hr x (List.mem_of_getElem? hx)).2, by simp [hx]⟩
theorem BA_extend_list {a ax : Addr} {b : List UInt8} {vs : List Value} {ns : List Int} {Q : Value → Loc → Led → Prop} (hh : c.A.handled = none) (hg : c.A.guards = some []) (k : (ax, LST vs) ∈ n) (hi : IntsAre vs ns) (hr : ∀ x ∈ ns, 0 ≤ x ∧ x < 256)
    (L : LSet a (BYA b) (BYA (b ++ ns.map fun x => x.toNat.toUInt8)) n n') (hz : b.length + ns.length ≤ sizeLine) (q : Q .none l n') : V c l n (call (.builtin "bytearray.extend") [.ref a, .ref ax]) Q E := by
  have hl : vs.length = (ns.map fun x : Int => x.toNat.toUInt8).length := by rw [List.length_map]; exact hi.length
  refine BA_extend (T := "list") (D := fun _ => ITL ax) (N := fun i n => Knows c.in1 n (·.IsList ax vs.toArray) ∧ ax ≠ i) (P := fun _ i v => vs[i]? = some v) hg L (fun l h tk S => ((Knows.list k) l h S).typeIs (s := { c.r with heap := h, toks := tk })) F.bm_no_buffer (fun Q q => I_list (Knows.list k) q)
    (fun i Q q => H_list (Knows.list (List.mem_cons_of_mem _ k)) q) (fun i => hl ▸ itr_list (c := c.in1) hh i ax vs) (fun _ i v _ h => IntsAre.item hi hr h) (fun i s d hne => ⟨Knows.list (List.mem_cons_of_mem _ k), hne⟩) (by simpa using hz) q
theorem BA_extend_tuple {a ax : Addr} {b : List UInt8} {vs : List Value} {ns : List Int} {Q : Value → Loc → Led → Prop} (hh : c.A.handled = none) (hg : c.A.guards = some []) (k : (ax, TUP vs) ∈ n) (hi : IntsAre vs ns) (hr : ∀ x ∈ ns, 0 ≤ x ∧ x < 256)
    (L : LSet a (BYA b) (BYA (b ++ ns.map fun x => x.toNat.toUInt8)) n n') (hz : b.length + ns.length ≤ sizeLine) (q : Q .none l n') : V c l n (call (.builtin "bytearray.extend") [.ref a, .ref ax]) Q E := by
  have hl : vs.length = (ns.map fun x : Int => x.toNat.toUInt8).length := by rw [List.length_map]; exact hi.length
  refine BA_extend (T := "tuple") (D := fun _ => ITT ax) (N := fun i n => Knows c.in1 n (·.IsTuple ax vs.toArray) ∧ ax ≠ i) (P := fun _ i v => vs[i]? = some v) hg L (fun l h tk S => Heap.IsTuple.typeIs (s := { c.r with heap := h, toks := tk }) ((Knows.tup k) l h S)) By.lt_buffer (fun Q q => I_tuple (Knows.tup k) q)
    (fun i Q q => H_tuple (Knows.tup (List.mem_cons_of_mem _ k)) q) (fun i => hl ▸ itr_tuple (c := c.in1) hh i ax vs) (fun _ i v _ h => IntsAre.item hi hr h) (fun i s d hne => ⟨Knows.tup (List.mem_cons_of_mem _ k), hne⟩) (by simpa using hz) q

theorem take_bytes {b : Array UInt8} {t : Tok} : Builtin.Bytes.takeBufferQuiet? "bytearray.extend" (.bytes b t) 0 = pure (some (b, none)) := by
  unfold Builtin.Bytes.takeBufferQuiet? Builtin.Bytes.takeBuffer?
  rw [KBy.special_eq KBy.look_buffer, KBy.own_buffer]
  simp only [pure_bind]
  have e : ((0 : Int) == Builtin.Bytes.fullReadOnly) = false := by decide
  rw [if_neg (by decide), e, KBy.buffer_eq]
  rfl
theorem BA_extend_bytes {a : Addr} {b d : List UInt8} {t : Tok} {Q : Value → Loc → Led → Prop} (hg : c.A.guards = some []) (L : LSet a (BYA b) (BYA (b ++ d)) n n') (hz : b.length + d.length ≤ sizeLine) (q : Q .none l n') :
    V c l n (call (.builtin "bytearray.extend") [.ref a, .bytes d.toArray t]) Q E := by
  refine V_callB (VCode_of By.en_extend ?_) (fun h tk S P' p => By.sl_extend.check _ _ _ _ _ _ _ _ ⟨_, Knows.ba (c := c) L.mem l h S, rfl⟩ (By.ar_extend _ _) p)
  unfold Builtin.«bytearray.extend»
  refine V_bind (V_pure ?_)
  refine V_bind (V_eq (KBy.special_eq KBy.look_buffer) ?_)
  show V c.in1 l n (rule _ >>= _) _ _
  refine V_bind (V_rule ?_)
  refine V_bind (V_of (P_payload L.mem ?_))
  refine V_bind (V_eq take_bytes ?_)
  exact P_addAtEnd hg L (by simpa using hz) (.refl _) q

-- the constructor
theorem split_new : ("bytearray.__new__".splitOn ".__new__").headD "" = "bytearray" := by simp +decide [String.splitOn, String.splitOnAux]
theorem BA_code_new {args : List Value} {Q : Value → Loc → Led → Prop} (hct : checkBuiltinCall "bytearray.__new__" ⟨.type "bytearray" :: args, []⟩ = pure ()) (q : ∀ a, Q (.ref a) l ((a, BYA []) :: n)) : W c l n (call (.builtin "bytearray.__new__") (.type "bytearray" :: args)) Q E := fun h tk S => by
  refine wpAny_call (codeAny_of_tree ?_)
  show wpAny _ c.A.in1 (do checkBuiltinCall "bytearray.__new__" ⟨.type "bytearray" :: args, []⟩; again (.builtin "bytearray.__new__" ⟨.type "bytearray" :: args, []⟩)) _ _ _
  refine wpAny_bind (wpAny_of_eq hct (wpAny_pure ⟨plainId_quiet (by decide +kernel) _, codeAny_builtin_stack By.en_new rfl fun p st => ?_⟩))
  rw [Around.under_plainId (by decide +kernel) _]
  have hsub := By.sub_self
  have hown := split_new
  simp only [hown]
  wp_walk
  exact .mk (S.push (d := BYA []) rfl) (q _)
end
end Mine
end
section
open PySem PySem.W PySem.Calls PyProof.Rows
open PySem.Sem (wp)
set_option Elab.async false
set_option maxRecDepth 100000
set_option linter.unusedVariables false
namespace Mine
section
variable {c : Cx} {l : Loc} {n n' : Led} {E : Value → Shared → Prop}
theorem den_builtin {prog : Program} {w : World} {id : String} {args : Args} {b : Builtin} (he : entryFor table id = some b) : (model prog w).den (.builtin id args) = b args := by
  show (match entryFor table id with | some b => b args | none => unsupported ((withoutEnding? id "#data").getD id)) = _
  rw [he]
theorem VCode_type {T : String} {args : List Value} {Q : Value → Loc → Led → Prop} (H : V c.in1 l n (Builtin.«type.__call__» ⟨.type T :: args, []⟩) (FinV c Q) (fun _ _ => False)) : V c l n (call (.type T) args) Q E := fun h tk S => by
  refine wpN_call ?_
  refine codeN_of_tree (c := .call (.type T) ⟨args, []⟩) rfl ?_
  have hq : (Code.builtin "type.__call__" ⟨.type T :: args, []⟩).quiet = true := Code.quiet_builtin _ (by decide +kernel)
  have hn : niceC (Code.builtin "type.__call__" ⟨.type T :: args, []⟩) = true := by
    show (!Builtin.Bytes.decodersThatHold.contains "type.__call__") = true
    decide +kernel
  show wpN _ _ (pure (Fin.again (.builtin "type.__call__" ⟨.type T :: args, []⟩))) _ _ _
  refine wpN_pure (Q := fun fin s' => match fin with | .done f => _ | .again c' => c'.quiet = true ∧ codeN (model c.P c.w) c.A c' _ s') (a := Fin.again (.builtin "type.__call__" ⟨.type T :: args, []⟩)) ?_
  refine And.intro hq ?_
  refine codeN_of_tree (c := .builtin "type.__call__" ⟨.type T :: args, []⟩) hn ?_
  rw [den_builtin F.entry_type_call, Around.under_plain (weight_type_call_type T args []) rfl]
  refine wpN_mono (H h tk S) (fun fin s' q => ?_) fun _ _ x => x.elim
  obtain ⟨h', tk', l', n', e, S', q⟩ := q
  cases fin with
  | done f => cases f with
    | ret v => exact ⟨h', tk', l', n', e, S', q⟩
    | _ => exact q.elim
  | again c' =>
    subst e
    refine ⟨q.1, codeN_mono (q.2 h' tk' S') fun r s' q => ?_⟩
    cases r with
    | error e => exact q.elim
    | ok f => cases f with
      | ret v => exact q
      | _ => exact q.elim

theorem BA_make {args : List Value} {Q : Value → Loc → Led → Prop} (hct : checkTypeCall "bytearray" ⟨args, []⟩ = pure ()) (hnc : checkBuiltinCall "bytearray.__new__" ⟨.type "bytearray" :: args, []⟩ = pure ()) (har : ∀ a, argsOk "bytearray.__init__" ⟨.ref a :: args, []⟩)
    (H : ∀ a, VCode c.in1 l ((a, BYA []) :: n) (.builtin "bytearray.__init__" ⟨.ref a :: args, []⟩) (fun r l' n' => r = .none ∧ Q (.ref a) l' n')) : V c l n (call (.type "bytearray") args) Q E := by
  refine VCode_type ?_
  have h1 := By.called.notType
  have h2 := By.called.canCreate
  unfold Builtin.«type.__call__»
  dsimp only
  rw [if_neg (by rw [h1]; decide)]
  simp only [h2]
  rw [if_neg (by decide)]
  refine V_bind (V_eq hct ?_)
  refine V_bind (V_eq By.mro ?_)
  rw [if_neg (by decide)]
  refine V_bind (V_eq By.called.made ?_)
  refine V_bind (V_pure ?_)
  refine V_bind (V_hold (V_of (BA_code_new hnc fun a => ?_)))
  refine V_bind (V_of (fun h tk S => wpAny_isInstance (T := "bytearray") ⟨_, Knows.ba (c := c.in1) (List.mem_cons_self ..) l h S, rfl⟩ By.sub_self (.mk S ?_)))
  rw [if_neg (by decide)]
  refine V_bind (V_hold ?_)
  unfold callSpecial?
  refine V_bind (V_of (fun h tk S => wpAny_specialOf (T := "bytearray") ⟨_, Knows.ba (c := c.in1) (List.mem_cons_self ..) l h S, rfl⟩ By.sl_init.lookup (.mk S ?_)))
  dsimp only
  rw [By.sl_init.bind]
  refine V_hold (V_bind (V_pure (V_bind ((V_callB (H a) (fun h tk S P' p => By.sl_init.check _ _ _ _ _ _ _ _ ⟨_, Knows.ba (c := c.in1) (List.mem_cons_self ..) l h S, rfl⟩ (har a) p)).mono fun r l' n' q => ?_))))
  obtain ⟨rfl, q⟩ := q
  refine V_pure ?_
  dsimp only
  rw [if_neg (by decide)]
  exact V_pure q

theorem own_release {a : Addr} {b : List UInt8} {Q : Bool → Loc → Led → Prop} (hm : (a, BYA b) ∈ n) (q : Q false l n) : W c l n (Builtin.Bytes.ownRelease (.ref a)) Q E := fun h tk S => by
  have hT : Shared.TypeIs { c.r with heap := h, toks := tk } (.ref a) "bytearray" := ⟨_, Knows.ba (c := c) hm l h S, rfl⟩
  unfold Builtin.Bytes.ownRelease Builtin.Bytes.slotIsOwn
  refine wpAny_bind (wpAny_bind (wpAny_specialOf hT By.lk_release ?_))
  dsimp only
  have key : ∀ x : String, x = "bytearray" → wpAny (model c.P c.w) c.A (isInstance (.ref a) (.type x)) (fun r s => wpAny (model c.P c.w) c.A (pure !r) (Out c Q) E s) E { c.r with heap := h, toks := tk } := fun x hx => by
    rw [hx]; exact wpAny_isInstance hT By.sub_self (wpAny_pure (.mk S q))
  split
  · rename_i hx
    exact absurd hx (by decide +kernel)
  · exact key _ (by decide +kernel)

theorem bind0 : Builtin.Bytes.bindOptional "bytearray.__init__" "bytearray" ["source", "encoding", "errors"] [] [] = pure [none, none, none] := by kernel_rfl
theorem bind1 (v : Value) : Builtin.Bytes.bindOptional "bytearray.__init__" "bytearray" ["source", "encoding", "errors"] [v] [] = pure [some v, none, none] := by kernel_rfl

theorem BA_new {Q : Value → Loc → Led → Prop} (hg : c.A.guards = some []) (q : ∀ a, Q (.ref a) l ((a, BYA []) :: n)) : V c l n (call (.type "bytearray") []) Q E := by
  refine BA_make By.tc0 By.nc0 (fun a => By.ar_init0 _) fun a => VCode_of By.en_init ?_
  unfold Builtin.«bytearray.__init__»
  dsimp only
  refine V_bind (V_of (own_release (List.mem_cons_self ..) ?_))
  rw [if_neg (by decide)]
  refine V_bind (V_eq bind0 ?_)
  dsimp only
  refine V_bind (V_pure ?_)
  refine V_bind (V_pure ?_)
  refine V_bind (fun h tk S => wpN_freeToMove hg (Knows.ba (c := c.in1.in1) (List.mem_cons_self ..) l h S) (.mk S ?_))
  rw [if_neg (by decide)]
  refine V_bind (V_of (P_write (b' := []) .head rfl (Nat.zero_le _) ?_))
  exact V_bind (V_eq rfl (V_pure ⟨rfl, q _⟩))
end
end Mine
end
section
open PySem PySem.W PySem.Calls PyProof.Rows
open PySem.Sem (wp)
set_option Elab.async false
set_option maxRecDepth 100000
set_option linter.unusedVariables false
namespace Mine
section
variable {c : Cx} {l : Loc} {n n' : Led} {E : Value → Shared → Prop}
theorem W_asStr_list {ax : Addr} {vs : List Value} {Q : Option Str → Loc → Led → Prop} (k : Knows c n (·.IsList ax vs.toArray)) (q : Q none l n) : W c l n (asStr? (.ref ax)) Q E := fun h tk S => by
  obtain ⟨ol, hol, hoc, nl, hod⟩ := k l h S
  unfold asStr?
  refine wpAny_bind (wpAny_load hol ?_)
  rw [hod]
  exact wpAny_pure (.mk S q)
theorem W_special {v : Value} {T : String} {name : Str} {r : Option Value} {Q : Option Value → Loc → Led → Prop} (hT : ∀ l h tk, St c.g c.L l n h → Shared.TypeIs { c.r with heap := h, toks := tk } v T) (hl : typeLookup (.type T) name = pure r) (q : Q r l n) : W c l n (specialOf v name) Q E := fun h tk S => wpAny_specialOf (hT l h tk S) hl (.mk S q)
theorem W_typeOf {v : Value} {T : String} {Q : Value → Loc → Led → Prop} (hT : ∀ l h tk, St c.g c.L l n h → Shared.TypeIs { c.r with heap := h, toks := tk } v T) (q : Q (.type T) l n) : W c l n (typeOf v) Q E := fun h tk S => wpAny_typeOf (hT l h tk S) (.mk S q)
theorem W_noBuffer {v : Value} {T id : String} {f : Bool} {Q : Option (Array UInt8) → Loc → Led → Prop} (hT : ∀ l h tk, St c.g c.L l n h → Shared.TypeIs { c.r with heap := h, toks := tk } v T) (hl : typeLookup (.type T) "__buffer__" = pure none) (q : Q none l n) : W c l n (Builtin.Bytes.buffer? id v f) Q E := by
  unfold Builtin.Bytes.buffer?
  exact W_bind (W_special hT hl (W_bind (W_special hT hl (W_pure q))))
theorem W_items {ax : Addr} {vs : List Value} {Q : Option (Array Value) → Loc → Led → Prop} (k : Knows c n (·.IsList ax vs.toArray)) (q : Q (some vs.toArray) l n) : W c l n (seqItems? (.ref ax)) Q E := fun h tk S => by
  obtain ⟨ol, hol, hoc, nl, hod⟩ := k l h S
  exact wpAny_seqItems hol hod (.mk S q)
theorem BA_new2 {ax : Addr} {t u : Tok} {Q : Value → Loc → Led → Prop} (hg : c.A.guards = some []) (hm : (ax, LST [.int 120 t, .int 1 u]) ∈ n) (q : ∀ a, Q (.ref a) l ((a, BYA [120, 1]) :: n)) : V c l n (call (.type "bytearray") [.ref ax]) Q E := by
  refine BA_make (By.tc1 _) (By.nc1 _) (fun a => By.ar_init1 _ _) fun a => VCode_of By.en_init ?_
  unfold Builtin.«bytearray.__init__»
  dsimp only
  refine V_bind (V_of (own_release (List.mem_cons_self ..) ?_))
  rw [if_neg (by decide)]
  refine V_bind (V_eq (bind1 _) ?_)
  dsimp only
  refine V_bind (V_pure ?_)
  refine V_bind (V_pure ?_)
  refine V_bind (fun h tk S => wpN_freeToMove hg (Knows.ba (c := c.in1.in1) (List.mem_cons_self ..) l h S) (.mk S ?_))
  rw [if_neg (by decide)]
  refine V_bind (V_of (P_write (b' := []) .head rfl (Nat.zero_le _) ?_))
  have hl : Knows c.in1.in1 ((a, BYA []) :: n) (·.IsList ax [.int 120 t, .int 1 u].toArray) := Knows.list (List.mem_cons_of_mem _ hm)
  have hT : ∀ l h tk, St c.in1.in1.g c.in1.in1.L l ((a, BYA []) :: n) h → Shared.TypeIs { c.in1.in1.r with heap := h, toks := tk } (.ref ax) "list" := fun l h tk S => (hl l h S).typeIs (s := { c.in1.in1.r with heap := h, toks := tk })
  refine V_bind (V_of (W_asStr_list hl ?_))
  rw [if_neg (by decide)]
  refine V_bind (V_eq (a := ()) rfl ?_)
  refine V_bind (V_of (W_special hT F.bm_no_index ?_))
  rw [if_neg (by decide)]
  refine V_bind (V_of (W_noBuffer hT F.bm_no_buffer ?_))
  dsimp only
  refine V_bind (V_of (W_typeOf hT ?_))
  rw [if_pos (by decide)]
  refine V_bind (V_of (W_items hl ?_))
  have e1 : (List.takeWhile (fun x => match x with | Value.int i _ => decide (0 ≤ i) && decide (i < 256) | _ => false) [Value.int 120 t, .int 1 u]) = [Value.int 120 t, .int 1 u] := rfl
  dsimp only
  show V c.in1.in1 l ((a, BYA []) :: n) (rule "bytearray.__init__.list-of-ints" >>= fun _ => Builtin.Bytes.write (.ref a) (fun _ => #[120, 1]) >>= fun _ => ret .none) _ _
  exact V_bind (V_rule (V_bind (V_of (P_write (b' := [120, 1]) .head rfl (by rw [sizeLine_eq]; decide) (V_pure ⟨rfl, q _⟩)))))

-- bytes of a bytearray
theorem W_asStr_ba {a : Addr} {b : List UInt8} {Q : Option Str → Loc → Led → Prop} (hm : (a, BYA b) ∈ n) (q : Q none l n) : W c l n (asStr? (.ref a)) Q E := fun h tk S => by
  unfold asStr?
  exact wpAny_bind (wpAny_load (Knows.ba (c := c) hm l h S) (wpAny_pure (.mk S q)))
theorem ba_type {a : Addr} {b : List UInt8} (hm : (a, BYA b) ∈ n) : ∀ l h tk, St c.g c.L l n h → Shared.TypeIs { c.r with heap := h, toks := tk } (.ref a) "bytearray" := fun l h tk S => ⟨_, Knows.ba (c := c) hm l h S, rfl⟩
theorem W_ownBuffer {a : Addr} {b : List UInt8} {Q : Bool → Loc → Led → Prop} (hm : (a, BYA b) ∈ n) (q : Q true l n) : W c l n (Builtin.Bytes.slotIsOwn (.ref a) "__buffer__") Q E := fun h tk S => by
  have hT := ba_type (c := c) hm l h tk S
  unfold Builtin.Bytes.slotIsOwn
  refine wpAny_bind (wpAny_specialOf hT By.lk_buffer ?_)
  dsimp only
  have key : ∀ x : String, x = "bytearray" → wpAny (model c.P c.w) c.A (isInstance (.ref a) (.type x)) (Out c Q) E { c.r with heap := h, toks := tk } := fun x hx => by
    rw [hx]; exact wpAny_isInstance hT By.sub_self (.mk S q)
  split
  · rename_i hx
    exact absurd hx (by decide +kernel)
  · exact key _ (by decide +kernel)
theorem W_bufferBa {a : Addr} {b : List UInt8} {id : String} {f : Bool} {Q : Option (Array UInt8) → Loc → Led → Prop} (hm : (a, BYA b) ∈ n) (q : Q (some b.toArray) l n) : W c l n (Builtin.Bytes.buffer? id (.ref a) f) Q E := by
  unfold Builtin.Bytes.buffer?
  refine W_bind (W_special (ba_type hm) By.lk_buffer ?_)
  dsimp only
  refine W_bind (W_ownBuffer hm ?_)
  rw [if_neg (by decide)]
  refine W_bind (W_special (ba_type hm) By.lk_buffer ?_)
  refine W_bind (own_release hm ?_)
  rw [if_neg (by decide)]
  exact W_bind (P_payload hm (W_pure q))
end
end Mine
end
section
open PySem PySem.W PySem.Calls PyProof.Rows
open PySem.Sem (wp)
set_option Elab.async false
set_option maxRecDepth 100000
set_option linter.unusedVariables false
namespace Mine
section
variable {c : Cx} {l : Loc} {n n' : Led} {E : Value → Shared → Prop}
theorem W_ruleW {r : String} {Q : Unit → Loc → Led → Prop} (q : Q () l n) : W c l n (rule r) Q E := fun h tk S => wpAny_rule (.mk S q)
theorem W_eq {α : Type} {t : Sem α} {a : α} {Q : α → Loc → Led → Prop} (e : t = pure a) (q : Q a l n) : W c l n t Q E := by rw [e]; exact W_pure q

/-- bytes(v) by what bytes.__new__ does -/
theorem B_call {v : Value} {Q : Value → Loc → Led → Prop} (H : W c.in1.in1 l n (Builtin.«bytes.__new__» ⟨[.type "bytes", v], []⟩) (fun fin l' n' => ∃ b t, fin = .done (.ret (.bytes b t)) ∧ Q (.bytes b t) l' n') (fun _ _ => False)) : W c l n (call (.type "bytes") [v]) Q E := fun h tk S => by
  refine callType_codes (Q₁ := fun obj s₁ => s₁.TypeIs obj "bytes" ∧ Out c Q obj s₁) F.bm_called (F.bm_typeCall _) F.entry_object_init ?_ fun obj s₁ h₁ => ?_
  · refine codeAny_of_tree ?_
    show wpAny _ c.A.in1.in1 (do checkBuiltinCall "bytes.__new__" ⟨[.type "bytes", v], []⟩; again (.builtin "bytes.__new__" ⟨[.type "bytes", v], []⟩)) _ _ _
    refine wpAny_bind (wpAny_of_eq (F.bm_newCall _) (wpAny_pure ⟨plainId_quiet F.bm_plain _, codeAny_builtin F.bm_entry ?_⟩))
    rw [Around.under_plainId F.bm_plain _]
    refine wpAny_mono (H h tk S) (fun fin s' q => ?_) fun _ _ x => x.elim
    obtain ⟨h', tk', l', n', e, S', b, t, rfl, q⟩ := q
    exact ⟨PySem.W.typeIs_bytes _ _ _, h', tk', l', n', e, S', q⟩
  · exact ⟨h₁.1, F.args_object_init_2 obj _, object_init_meets F.bm_called.init.lookup F.bm_called.made (by decide) c.P c.w c.A.in1 _ s₁ ⟨h₁.1, rfl, h₁.2⟩⟩

local macro_rules | `(tactic| walk_at "bnew") => `(tactic| (
  refine B_call ?_
  unfold Builtin.«bytes.__new__»
  dsimp only
  refine W_bind (W_eq (a := true) rfl ?_)
  rw [if_neg (by decide)]
  refine W_bind (W_eq F.bm_sub ?_)
  rw [if_neg (by decide)]
  refine W_bind (W_eq (F.bm_bind _) ?_)
  dsimp only
  refine W_bind (W_eq (a := ()) rfl ?_)
  refine W_bind (W_eq (a := ()) rfl ?_)
  rw [if_neg (by decide)]))

theorem B_ofBA {a : Addr} {b : List UInt8} {Q : Value → Loc → Led → Prop} (hm : (a, BYA b) ∈ n) (hz : b.length ≤ sizeLine) (q : ∀ t, Q (.bytes b.toArray t) l n) : W c l n (call (.type "bytes") [.ref a]) Q E := by
  walk_at "bnew"
  refine W_bind (W_special (ba_type hm) By.lk_bytes ?_)
  dsimp only
  refine W_bind (W_bind (W_asStr_ba hm (W_pure ?_)))
  rw [if_neg (by decide)]
  refine W_bind (W_special (ba_type hm) By.lk_index ?_)
  rw [if_pos (by decide)]
  refine W_bind (W_bufferBa (id := "bytes.__new__") (f := true) hm ?_)
  dsimp only
  refine W_bind (W_ruleW ?_)
  refine W_bind (fun h tk S => wpAny_mkBytes (.mk S ?_) (by simpa using hz))
  show W _ l n (if (Value.type "bytes" == Value.type "bytes") = true then _ else _) _ _
  rw [if_pos (by decide)]
  exact W_pure ⟨_, _, rfl, q _⟩

theorem lk_bytes_bytes : typeLookup (.type "bytes") "__bytes__" = pure (some (.builtin "bytes.__bytes__")) := by rw [typeLookup_type, builtinLookup_eq_fast]; kernel_rfl
theorem B_ofBytes {b : List UInt8} {t : Tok} {Q : Value → Loc → Led → Prop} (q : Q (.bytes b.toArray t) l n) : W c l n (call (.type "bytes") [.bytes b.toArray t]) Q E := by
  walk_at "bnew"
  refine W_bind (W_eq (KBy.special_eq lk_bytes_bytes) ?_)
  refine W_bind (W_ruleW ?_)
  refine W_bind (W_typeOf (T := "bytes") (fun l h tk S => PySem.W.typeIs_bytes _ _ _) ?_)
  rw [if_pos (by decide)]
  show W _ l n (if (Value.type "bytes" == Value.type "bytes") = true then _ else _) _ _
  rw [if_pos (by decide)]
  exact W_pure ⟨_, _, rfl, q⟩
theorem lk_int_bytes : typeLookup (.type "int") "__bytes__" = pure none := by rw [typeLookup_type, builtinLookup_eq_fast]; kernel_rfl
theorem lk_int_index : typeLookup (.type "int") "__index__" = pure (some (.builtin "int.__index__")) := by rw [typeLookup_type, builtinLookup_eq_fast]; kernel_rfl
theorem int_special {x : Int} {t : Tok} {name : Str} {r : Option Value} (h : typeLookup (.type "int") name = pure r) : specialOf (.int x t) name = pure r := by
  have e : specialOf (.int x t) name = typeLookup (.type "int") name := rfl
  rw [e, h]
theorem B_ofInt {x : Int} {t : Tok} {Q : Value → Loc → Led → Prop} (h0 : 0 ≤ x) (h1 : x ≤ 16777216) (q : ∀ t, Q (.bytes (List.replicate x.toNat (0 : UInt8)).toArray t) l n) : W c l n (call (.type "bytes") [.int x t]) Q E := by
  walk_at "bnew"
  refine W_bind (W_eq (int_special lk_int_bytes) ?_)
  dsimp only
  refine W_bind (W_bind (W_eq (a := none) rfl (W_pure ?_)))
  rw [if_neg (by decide)]
  refine W_bind (W_eq (int_special lk_int_index) ?_)
  rw [if_neg (by decide)]
  refine W_bind (W_eq (a := Except.ok x) rfl ?_)
  dsimp only
  have e1 : Builtin.Bytes.fitsIndex x = true := by unfold Builtin.Bytes.fitsIndex; simp; omega
  have e2 : Builtin.Bytes.tooLong x.toNat = false := KBy.tooLong_not (by omega)
  rw [if_neg (by rw [e1]; decide), if_neg (by omega), if_neg (by omega), if_neg (by rw [e2]; decide)]
  refine W_bind (W_ruleW ?_)
  refine W_bind (fun h tk S => wpAny_mkBytes (.mk S ?_) (by simp [sizeLine_eq]; omega))
  show W _ l n (if (Value.type "bytes" == Value.type "bytes") = true then _ else _) _ _
  rw [if_pos (by decide)]
  have e3 : Array.replicate x.toNat (0 : UInt8) = (List.replicate x.toNat (0 : UInt8)).toArray := by simp
  exact W_pure ⟨_, _, rfl, e3 ▸ q _⟩

-- b''.join of one
theorem sl_join : Slot "bytes" "join" "bytes.join" :=
  .of (owner := "bytes") (n := "join") (by rw [typeLookup_type, builtinLookup_eq_fast]; kernel_rfl) (by decide +kernel) (by decide +kernel) (by decide +kernel) (by first | exact .inl (by decide +kernel) | exact .inr (by decide +kernel)) (by rw [isSubtype_type]; kernel_rfl)
theorem en_join : entryFor table "bytes.join" = some Builtin.«bytes.join» := entryFor_of_tree (by kernel_rfl)
theorem ar_join (a b : Value) : argsOk "bytes.join" ⟨[a, b], []⟩ := by unfold argsOk; kernel_rfl
theorem ty_join : typeOf (.builtin "bytes.join") = pure (.type "method_descriptor") := by show builtinType _ = _; rw [builtinType_eq_fast]; kernel_rfl
theorem G_bytes {b : List UInt8} {t : Tok} {name : Str} {id : String} {pl : Sem Bool} {Q : Value × List Value → Loc → Led → Prop} (slot : Slot "bytes" name id) (hty : typeOf (.builtin id) = pure (.type "method_descriptor")) (q : Q (.builtin id, [.bytes b.toArray t]) l n) : W c l n (getMethod (.bytes b.toArray t) name pl) Q E := fun h tk S =>
  getMethod_builtin (PySem.W.typeIs_bytes _ _ _) FB.plainAttrs_bytes slot hty (fun a e => by cases e) (.mk S q)
theorem B_join1 {ax : Addr} {sep b : List UInt8} {t u : Tok} {Q : Value → Loc → Led → Prop} (hm : (ax, LST [.bytes b.toArray u]) ∈ n) (q : Q (.bytes b.toArray u) l n) : W c l n (call (.builtin "bytes.join") [.bytes sep.toArray t, .ref ax]) Q E := fun h tk S => by
  refine wpAny_call_entry sl_join (PySem.W.typeIs_bytes _ _ _) en_join ?_ (ar_join _ _)
  refine wpAny_mono ((?_ : W c.in1 l n (Builtin.«bytes.join» ⟨[.bytes sep.toArray t, .ref ax], []⟩) (fun fin l' n' => ∃ v, fin = .done (.ret v) ∧ Q v l' n') E) h tk S) (fun fin s' q => ?_) fun _ _ x => x
  · have hl : Knows c.in1 n (·.IsList ax [Value.bytes b.toArray u].toArray) := Knows.list hm
    have hT : ∀ l h tk, St c.in1.g c.in1.L l n h → Shared.TypeIs { c.in1.r with heap := h, toks := tk } (.ref ax) "list" := fun l h tk S => (hl l h S).typeIs (s := { c.in1.r with heap := h, toks := tk })
    unfold Builtin.«bytes.join» Builtin.Bytes.joinM
    refine W_bind (W_pure ?_)
    dsimp only
    refine W_bind ?_
    show W _ l n (Builtin.Bytes.joinItems (.ref ax)) _ _
    unfold Builtin.Bytes.joinItems
    refine W_bind (W_typeOf hT ?_)
    rw [if_pos (by decide)]
    refine W_pure ?_
    refine W_bind (W_items hl ?_)
    dsimp only
    show W _ l n (do if (← typeOf (.bytes b.toArray u)) == .type "bytes" then _ else _) _ _
    refine W_bind (W_typeOf (T := "bytes") (fun l h tk S => PySem.W.typeIs_bytes _ _ _) ?_)
    rw [if_pos (by decide)]
    exact W_bind (W_ruleW (W_pure ⟨_, rfl, q⟩))
  · obtain ⟨h', tk', l', n', e, S', v, rfl, q⟩ := q
    exact ⟨_, rfl, h', tk', l', n', e, S', q⟩
end
end Mine
end
section
open PySem PySem.W PySem.Calls PyProof.Rows
open PySem.Sem (wp)
set_option Elab.async false
set_option maxRecDepth 100000
set_option linter.unusedVariables false
namespace Mine
section
variable {c : Cx} {l : Loc} {n n' : Led} {E : Value → Shared → Prop}
def ITA (a : Addr) (i : Nat) : Desc := fun o => o.cls = .type "bytearray_iterator" ∧ o.data = .fields #[.ref a, .int i 0]
def IsBA (a : Addr) (b : List UInt8) (h : Heap) : Prop := h.get? a = some { cls := .type "bytearray", data := .bytearray b.toArray }
section
variable {prog : Program} {w : World} {A : Around} {s : Shared} {it a : Addr} {o : Obj} {i : Nat} {b : List UInt8}
theorem ba_next_item {x : UInt8} {Q : Option Value → Shared → Prop} (ho : s.heap.get? it = some o) (hd : ITA a i o) (hb : IsBA a b s.heap) (hx : b[i]? = some x)
    (hQ : ∀ h', (∃ o', h'.get? it = some o' ∧ ITA a (i + 1) o') → Heap.SameBut it s.heap h' → Q (some (.int (x.toNat : Int) s.toks)) { s with heap := h', toks := s.toks + 1 }) : wpAny (model prog w) A (pyNext (.ref it)) Q E s := by
  obtain ⟨hc, hd⟩ := hd
  have hT : s.TypeIs (.ref it) "bytearray_iterator" := ⟨o, ho, hc⟩
  unfold pyNext
  refine wpAny_bind (wpAny_attempt (wpAny_callSpecial?_slot (name := PySem.Str.ofString "__next__") hT By.sl_next (wpAny_call_entry By.sl_next hT By.en_next ?_ (By.ar_next _))))
  show wpAny _ _ (field (.ref it) 0 >>= _) _ _ s
  refine wpAny_bind (wpAny_field ho hd (x := .ref a) rfl ?_)
  show wpAny _ _ (load a >>= _) _ _ s
  refine wpAny_bind (wpAny_load hb ?_)
  show wpAny _ _ (field (.ref it) 1 >>= _) _ _ s
  refine wpAny_bind (wpAny_field ho hd (x := .int i 0) rfl ?_)
  simp only [Int.toNat_natCast, List.getElem?_toArray, hx]
  refine wpAny_bind (wpAny_setField ho hd (by simp) (wpAny_bind (wpAny_mkInt (wpAny_pure ⟨_, rfl, wpAny_pure (hQ _ ?_ (Heap.SameBut.update ..))⟩))))
  exact ⟨_, Heap.get?_update_self _ ho (Obj.isFreed_of_fields (Obj.data_mapFields hd _)), (Obj.cls_mapFields ..).trans hc, by rw [Obj.data_mapFields hd]; simp [rawInt]⟩
theorem ba_next_end {Q : Option Value → Shared → Prop} (hh : A.handled = none) (ho : s.heap.get? it = some o) (hd : ITA a i o) (hb : IsBA a b s.heap) (hx : b[i]? = none)
    (hQ : ∀ h', Heap.ExtBut it s.heap h' → Q none { s with heap := h' }) : wpAny (model prog w) A (pyNext (.ref it)) Q E s := by
  obtain ⟨hc, hd⟩ := hd
  have hT : s.TypeIs (.ref it) "bytearray_iterator" := ⟨o, ho, hc⟩
  unfold pyNext
  refine wpAny_bind (wpAny_attempt (wpAny_callSpecial?_slot (name := PySem.Str.ofString "__next__") hT By.sl_next (wpAny_call_entry By.sl_next hT By.en_next ?_ (By.ar_next _))))
  show wpAny _ _ (field (.ref it) 0 >>= _) _ _ s
  refine wpAny_bind (wpAny_field ho hd (x := .ref a) rfl ?_)
  show wpAny _ _ (load a >>= _) _ _ s
  refine wpAny_bind (wpAny_load hb ?_)
  show wpAny _ _ (field (.ref it) 1 >>= _) _ _ s
  refine wpAny_bind (wpAny_field ho hd (x := .int i 0) rfl ?_)
  simp only [Int.toNat_natCast, List.getElem?_toArray, hx]
  refine wpAny_bind (wpAny_rule (wpAny_bind (wpAny_setField ho hd (by simp) ?_)))
  refine wpAny_bind (wpAny_letGo ?_)
  show wpAny _ _ (newExc (.type "StopIteration") [] >>= _) _ _ _
  refine wpAny_bind ?_
  simp only [newExc, newTuple]
  refine wpAny_bind (wpAny_newObj_type ?_ (by size_fits))
  refine wpAny_bind (m := firstArgMember _ _) (wpAny_of_eq (a := Value.none) (by first | rfl | (simp only [firstArgMember]; rfl)) ?_)
  refine wpAny_newObj_type ?_ (by size_fits)
  simp only [raiseNew]
  refine wpAny_bind (wpAny_handled ?_)
  rw [show A.in1.handled = none from hh]
  refine wpAny_bind (wpAny_pure (wpAny_throw ?_))
  refine wpAny_bind (wpAny_isInstance (T := "StopIteration") (b := true) ⟨_, Heap.get?_push_size _ rfl, rfl⟩ isSubtype_stop ?_)
  exact wpAny_pure (hQ _ (((Heap.SameBut.update ..).extBut.push _).push _))
end
theorem itr_ba (hh : c.A.handled = none) (it a : Addr) (b : List UInt8) : Itr c it (ITA a) (fun n => Knows c n (IsBA a b) ∧ a ≠ it) (fun i v => ∃ x u, b[i]? = some x ∧ v = .int (x.toNat : Int) u) b.length where
  item := fun i l n Q E hi hN hq h tk S => by
    obtain ⟨o, ho, hd⟩ := S.get (List.mem_cons_self ..)
    have hb := hN.1 l h (S.sub (List.sublist_cons_self ..))
    refine ba_next_item (s := { c.r with heap := h, toks := tk }) ho hd hb (x := b[i]) (by simp [hi]) fun h' ⟨o', ho', hd'⟩ hs => .mk (S.set hs.extBut ho' hd') (hq _ ⟨_, _, by simp [hi], rfl⟩)
  done := fun l n Q E hN hq h tk S => by
    obtain ⟨o, ho, hd⟩ := S.get (List.mem_cons_self ..)
    have hb := hN.1 l h (S.sub (List.sublist_cons_self ..))
    exact ba_next_end (s := { c.r with heap := h, toks := tk }) hh ho hd hb (by simp) fun h' he => .mk (S.drop he) hq
theorem I_ba {a : Addr} {b : List UInt8} {Q : Value → Loc → Led → Prop} (k : Knows c n (IsBA a b)) (q : ∀ i, a ≠ i → Q (.ref i) l ((i, ITA a 0) :: n)) : W c l n (pyIter (.ref a)) Q E := fun h tk S => by
  have hl := k l h S
  have hT : Shared.TypeIs { c.r with heap := h, toks := tk } (.ref a) "bytearray" := ⟨_, hl, rfl⟩
  refine wpAny_pyIter_slot hT By.sl_iter (wpAny_call_entry By.sl_iter hT By.en_iter ?_ (By.ar_iter _))
  show wpAny _ _ (do ret (← newFields "bytearray_iterator" [.ref a, rawInt 0])) _ _ _
  refine wpAny_bind (wpAny_newObj_type (wpAny_pure ⟨_, rfl, "bytearray_iterator", _, ⟨_, Heap.get?_push_size _ rfl, rfl⟩, By.sl_next.lookup, .mk (S.push ⟨rfl, rfl⟩) (q _ (Nat.ne_of_lt (Heap.lt_size hl)))⟩))
/-- a loop over a bytearray, by what is taken so far -/
theorem R_ba {env : Env} {target : Expr} {body : List Stmt} {Q : Flow → Loc → Led → Prop} {a : Addr} {b : List UInt8} (hh : c.A.handled = none) (J : List UInt8 → Loc → Led → Prop) (l₀ : Loc) (n₀ : Led) (hm : (a, BYA b) ∈ n) (hl : l₀.Sublist l) (hn : n₀.Sublist n) (h0 : J [] l₀ n₀)
    (hJ : ∀ p l n, J p l n → (a, BYA b) ∈ n)
    (turn : ∀ pre x post l n u i d, b = pre ++ x :: post → J pre l n → W c l ((i, d) :: n) (assign target env (.int (x.toNat : Int) u)) (fun _ l1 n1 => W c l1 n1 (execs body env) (Turn i d (J (pre ++ [x])) Q) fun _ _ => False) fun _ _ => False)
    (fin : ∀ l n, J b l n → Q .next l n) : W c l n (pyIter (.ref a)) (Ready c env target body Q) E :=
  I_ba (.led hm fun h o e d => by cases d; exact e) fun i hne => ⟨i, _, _, _, _, l₀, n₀, fun k => J (b.take k), rfl, itr_ba hh i a b, hl, hn.cons_cons _, by simpa using h0, fun k l n j => ⟨.led (hJ _ _ _ j) fun h o e d => by cases d; exact e, hne⟩, fun k l n v hi hJ hv => by
    obtain ⟨x, u, hx, rfl⟩ := hv
    have e : b.take (k + 1) = b.take k ++ [x] := by rw [List.take_add_one, hx]; rfl
    have r := turn (b.take k) x (b.drop (k + 1)) l n u i (ITA a (k + 1)) (by
      have z := List.take_append_drop (k + 1) b
      rw [e, List.append_assoc] at z
      exact z.symm) hJ
    rw [← e] at r
    exact r, fun l n hJ => fin l n (by have hJ' : J (b.take b.length) l n := hJ; rwa [List.take_length] at hJ')⟩
end
end Mine
end
section
open PySem PySem.W PySem.Calls PyProof.Rows
set_option Elab.async false
set_option maxRecDepth 100000
set_option linter.unusedVariables false
namespace Mine
theorem mask8 (x : Int) : Builtin.bitAnd x 255 = x % 256 := by have := kbt_mask x 8; simpa using this
theorem mask4 (x : Int) : Builtin.bitAnd x 15 = x % 16 := by have := kbt_mask x 4; simpa using this
theorem mask8_in (x : Int) : 0 ≤ Builtin.bitAnd x 255 ∧ Builtin.bitAnd x 255 < 256 := by rw [mask8]; omega
theorem bitOr_nat (a b : Nat) : Builtin.bitOr (a : Int) (b : Int) = ((a ||| b : Nat) : Int) := by
  unfold Builtin.bitOr Builtin.bitAnd Builtin.bitNot
  have h1 : decide (0 ≤ -(a : Int) - 1) = false := by simp; omega
  have h2 : decide (0 ≤ -(b : Int) - 1) = false := by simp; omega
  rw [h1, h2]
  simp only []
  have e1 : (-(-(a : Int) - 1) - 1).toNat = a := by omega
  have e2 : (-(-(b : Int) - 1) - 1).toNat = b := by omega
  rw [e1, e2]; omega
theorem bitOr_add {a b : Nat} (k : Nat) (hb : b < 2 ^ k) : Builtin.bitOr ((a : Int) * 2 ^ k) (b : Int) = (a : Int) * 2 ^ k + b := by
  have e : ((a : Int) * 2 ^ k) = ((2 ^ k * a : Nat) : Int) := by push_cast; rw [Int.mul_comm]
  rw [e, bitOr_nat, ← Nat.two_pow_add_eq_or_of_lt hb]
  push_cast; rfl
/-- four bytes, the highest ahead -/
def be32 (n : Int) : List UInt8 := [n / 2 ^ 24 % 256, n / 2 ^ 16 % 256, n / 2 ^ 8 % 256, n % 256].map fun x => x.toNat.toUInt8
theorem byte_back {x : Int} (h0 : 0 ≤ x) (h1 : x < 256) : ((x.toNat.toUInt8.toNat : Nat) : Int) = x := by
  have : x.toNat < 256 := by omega
  simp [Nat.toUInt8, Nat.mod_eq_of_lt this]; omega
def get4 (a b c d : Int) : Int := Builtin.bitOr (Builtin.bitOr (Builtin.bitOr (a * 2 ^ 24) (b * 2 ^ 16)) (c * 2 ^ 8)) d
theorem bitOr_add' {a b : Int} (k : Nat) (ha : 0 ≤ a) (h0 : 0 ≤ b) (hb : b < 2 ^ k) : Builtin.bitOr (a * 2 ^ k) b = a * 2 ^ k + b := by
  obtain ⟨a, rfl⟩ := Int.eq_ofNat_of_zero_le ha
  obtain ⟨b, rfl⟩ := Int.eq_ofNat_of_zero_le h0
  exact bitOr_add k (by have : ((b : Int)) < ((2 ^ k : Nat) : Int) := by rw [kbt_cast]; exact hb
                        exact Int.ofNat_lt.mp this)
theorem get4_eq {a b c d : Int} (ha : 0 ≤ a) (hb : 0 ≤ b ∧ b < 256) (hc : 0 ≤ c ∧ c < 256) (hd : 0 ≤ d ∧ d < 256) : get4 a b c d = a * 16777216 + b * 65536 + c * 256 + d := by
  have k24 : (2 : Int) ^ 24 = 16777216 := by decide
  have k16 : (2 : Int) ^ 16 = 65536 := by decide
  have k8 : (2 : Int) ^ 8 = 256 := by decide
  unfold get4
  rw [bitOr_add' 24 ha (by rw [k16]; omega) (by rw [k24, k16]; omega)]
  have e3 : a * 2 ^ 24 + b * 2 ^ 16 = (a * 256 + b) * 2 ^ 16 := by rw [k24, k16]; omega
  rw [e3, bitOr_add' 16 (by omega) (by rw [k8]; omega) (by rw [k16, k8]; omega)]
  have e4 : (a * 256 + b) * 2 ^ 16 + c * 2 ^ 8 = ((a * 256 + b) * 256 + c) * 2 ^ 8 := by rw [k16, k8]; omega
  rw [e4, bitOr_add' 8 (by omega) (by omega) (by rw [k8]; omega), k8]
  omega
theorem be32_back {n : Int} (h0 : 0 ≤ n) (h1 : n < 2 ^ 32) : get4 (n / 2 ^ 24 % 256) (n / 2 ^ 16 % 256) (n / 2 ^ 8 % 256) (n % 256) = n := by
  have k24 : (2 : Int) ^ 24 = 16777216 := by decide
  have k16 : (2 : Int) ^ 16 = 65536 := by decide
  have k8 : (2 : Int) ^ 8 = 256 := by decide
  have k32 : (2 : Int) ^ 32 = 4294967296 := by decide
  rw [k32] at h1
  rw [k24, k16, k8, get4_eq (by omega) (by omega) (by omega) (by omega)]; omega
end Mine
end
section
open PySem PySem.W PySem.Calls PyProof.Rows
set_option Elab.async false
set_option maxRecDepth 100000
set_option linter.unusedVariables false
namespace Mine
section
variable {c : Cx} {l : Loc} {n n' : Led} {E : Value → Shared → Prop}
theorem C_range1 {x : Int} {t : Tok} {Q : Value → Loc → Led → Prop} (q : ∀ a, Q (.ref a) l ((a, RNG 0 x) :: n)) : W c l n (call (.type "range") [.int x t]) Q E := fun h tk S =>
  call_range_1 (.mk (S.push (d := RNG 0 x) ⟨_, _, _, rfl⟩) (q _))
/-- a loop over range(k), by its turn -/
theorem R_range {env : Env} {target : Expr} {body : List Stmt} {Q : Flow → Loc → Led → Prop} {r : Addr} {k : Nat} (hh : c.A.handled = none) (J : Nat → Loc → Led → Prop) (l₀ : Loc) (n₀ : Led) (hm : (r, RNG 0 (k : Int)) ∈ n) (hk : k < 2 ^ 62) (hl : l₀.Sublist l) (hn : n₀.Sublist n) (h0 : J 0 l₀ n₀)
    (turn : ∀ i l n u a d, i < k → J i l n → W c l ((a, d) :: n) (assign target env (.int (i : Int) u)) (fun _ l1 n1 => W c l1 n1 (execs body env) (Turn a d (J (i + 1)) Q) fun _ _ => False) fun _ _ => False)
    (fin : ∀ l n, J k l n → Q .next l n) : W c l n (pyIter (.ref r)) (Ready c env target body Q) E :=
  I_range hm (by omega) (by omega) (by omega) (by omega) fun a => ⟨a, _, _, _, _, l₀, n₀, J, rfl, itr_range hh a 0 _, hl, hn.cons_cons _, h0, fun _ _ _ _ => trivial, fun i l n v hi hJ hv => by
    obtain ⟨t, rfl⟩ := hv
    have e : (0 : Int) + (i : Int) * 1 = (i : Int) := by omega
    rw [e]
    exact turn i l n t a _ (by omega) hJ, fun l n hJ => fin l n (by have e : ((k : Int) - 0).toNat = k := by omega
                                                                    rw [e] at hJ; exact hJ)⟩
theorem R_rangeV {env : Env} {target : Expr} {body : List Stmt} {Q : Flow → Loc → Led → Prop} {r : Addr} {k : Nat} (hh : c.A.handled = none) (J : Nat → Loc → Led → Prop) (l₀ : Loc) (n₀ : Led) (hm : (r, RNG 0 (k : Int)) ∈ n) (hk : k < 2 ^ 62) (hl : l₀.Sublist l) (hn : n₀.Sublist n) (h0 : J 0 l₀ n₀)
    (turn : ∀ i l n u a d, i < k → J i l n → W c l ((a, d) :: n) (assign target env (.int (i : Int) u)) (fun _ l1 n1 => V c l1 n1 (execs body env) (Turn a d (J (i + 1)) Q) fun _ _ => False) fun _ _ => False)
    (fin : ∀ l n, J k l n → Q .next l n) : W c l n (pyIter (.ref r)) (ReadyV c env target body Q) E :=
  I_range hm (by omega) (by omega) (by omega) (by omega) fun a => ⟨a, _, _, _, _, l₀, n₀, J, rfl, itr_range hh a 0 _, hl, hn.cons_cons _, h0, fun _ _ _ _ => trivial, fun i l n v hi hJ hv => by
    obtain ⟨t, rfl⟩ := hv
    have e : (0 : Int) + (i : Int) * 1 = (i : Int) := by omega
    rw [e]
    exact turn i l n t a _ (by omega) hJ, fun l n hJ => fin l n (by have e : ((k : Int) - 0).toNat = k := by omega
                                                                    rw [e] at hJ; exact hJ)⟩
theorem R_listV {env : Env} {target : Expr} {body : List Stmt} {Q : Flow → Loc → Led → Prop} {r : Addr} {vs : List Value} (hh : c.A.handled = none) (J : Nat → Loc → Led → Prop) (l₀ : Loc) (n₀ : Led) (hm : (r, LST vs) ∈ n) (hl : l₀.Sublist l) (hn : n₀.Sublist n) (h0 : J 0 l₀ n₀) (hJ : ∀ i l n, J i l n → (r, LST vs) ∈ n)
    (turn : ∀ i v l n a d, vs[i]? = some v → J i l n → W c l ((a, d) :: n) (assign target env v) (fun _ l1 n1 => V c l1 n1 (execs body env) (Turn a d (J (i + 1)) Q) fun _ _ => False) fun _ _ => False)
    (fin : ∀ l n, J vs.length l n → Q .next l n) : W c l n (pyIter (.ref r)) (ReadyV c env target body Q) E :=
  I_list (.list hm) fun a hne => ⟨a, _, _, _, _, l₀, n₀, J, rfl, itr_list hh a r vs, hl, hn.cons_cons _, h0, fun i l n j => ⟨.list (hJ i l n j), hne⟩, fun i l n v hi j hv => turn i v l n a _ hv j, fun l n j => fin l n j⟩
end
end Mine
end
section
open PySem PySem.W PySem.Calls PyProof.Rows
set_option Elab.async false
set_option maxRecDepth 100000
set_option linter.unusedVariables false
namespace Mine
section
variable {c : Cx} {l : Loc} {n n' : Led} {E : Value → Shared → Prop} {Q : Value → Loc → Led → Prop} {pos : Pos} {env : Env}
theorem VC_pure {f : Value} {k : Keeper} {first : List Value} {args : List (Bool × Sem Value)} (hplain : args.any (·.1) = false) (hk : keeperOf f = pure k) (hk' : k = .frame ∨ k = .machine ∨ k = .boundFrame)
    (H : V c l n (evalArgs f true args []) (fun a l1 n1 => V c l1 n1 (call f (first ++ a.pos) a.kw) Q E) E) : V c l n (callWith pos f first args []) Q E := by
  unfold callWith
  refine V_bind (V_hold (H.mono fun a l1 n1 q => V_bind (V_at ?_)))
  simp only [hplain, List.any_nil, Bool.or_false]
  rw [hk]
  refine V_bind (V_pure ?_)
  have tail : ∀ {t : Sem Value}, V c l1 n1 t Q E → V c l1 n1 (t >>= fun r => holding [r] point >>= fun _ => pure r) Q E := fun ht => V_bind (ht.mono fun r l2 n2 q => V_bind (V_hold (V_point (V_pure q))))
  have marked (mk : Value) : V c l1 n1 (callMarked mk f (first ++ a.pos) a.kw) Q E := by unfold callMarked; exact fun h tk S => wpN_keep (q h tk S)
  rcases hk' with rfl | rfl | rfl <;> dsimp only <;> first | exact tail q | (split <;> first | exact tail q | exact tail (marked _))
theorem VC_bi {id : String} {first : List Value} {e : Expr} {es : List Expr} (H : V c l n (spliced (backTo pos (starEach (e :: es) env))) (fun vs l1 n1 => V c l1 n1 (call (.builtin id) (first ++ vs)) Q E) E)
    (he : starEach (e :: es) env = (false, eval e env) :: starEach es env := by with_unfolding_all rfl) (hp : ((backTo pos (starEach es env)).any fun x => x.1) = false := by with_unfolding_all rfl) : V c l n (callWith pos (.builtin id) first (backTo pos (starEach (e :: es) env)) []) Q E := by
  rw [he] at H ⊢
  exact VC_pure (by show (false || (backTo pos (starEach es env)).any (·.1)) = false; rw [hp]; rfl) rfl (.inr (.inl rfl)) (V_args H)
theorem VC_type {T : String} {e : Expr} {es : List Expr} (H : V c l n (spliced (backTo pos (starEach (e :: es) env))) (fun vs l1 n1 => V c l1 n1 (call (.type T) vs) Q E) E)
    (he : starEach (e :: es) env = (false, eval e env) :: starEach es env := by with_unfolding_all rfl) (hp : ((backTo pos (starEach es env)).any fun x => x.1) = false := by with_unfolding_all rfl) : V c l n (callWith pos (.type T) [] (backTo pos (starEach (e :: es) env)) []) Q E := by
  rw [he] at H ⊢
  exact VC_pure (by show (false || (backTo pos (starEach es env)).any (·.1)) = false; rw [hp]; rfl) rfl (.inr (.inl rfl)) (V_args H)
theorem VC_type0 {T : String} (H : V c l n (call (.type T) []) Q E) : V c l n (callWith pos (.type T) [] (backTo pos (starEach [] env)) []) Q E := VC_pure rfl rfl (.inr (.inl rfl)) (V_args0 H)
theorem VC_def {K : Frag} {d : Nat} {f : Value} {first : List Value} {e : Expr} {es : List Expr} (V : Cok K c d) (hk : keepIn K f = true) (H : Mine.V c l n (spliced (backTo pos (starEach (e :: es) env))) (fun vs l1 n1 => Mine.V c l1 n1 (call f (first ++ vs)) Q E) E)
    (he : starEach (e :: es) env = (false, eval e env) :: starEach es env := by with_unfolding_all rfl) (hp : ((backTo pos (starEach es env)).any fun x => x.1) = false := by with_unfolding_all rfl) : Mine.V c l n (callWith pos f first (backTo pos (starEach (e :: es) env)) []) Q E := by
  rw [he] at H ⊢
  refine VC_of (by show (false || (backTo pos (starEach es env)).any (·.1)) = false; rw [hp]; rfl) (V_args (H.mono fun vs l1 n1 q => ⟨q, fun l2 h S => keeps_K hk h (V.X.keeps S.keep)⟩))
end
end Mine
end
section
open PySem PySem.W PySem.Calls PyProof.Rows
set_option Elab.async false
set_option maxRecDepth 100000
set_option linter.unusedVariables false
namespace Mine
section
variable {c : Cx} {l : Loc} {n n' : Led} {E : Value → Shared → Prop} {Q : Bool → Loc → Led → Prop} {pos : Pos} {env : Env}
theorem TC_last {a : Value} {op : CmpOp} {r : Sem Value} (H : W c l n r (fun b l1 n1 => W c l1 n1 (compareOp op a b) (fun z l2 n2 => W c l2 n2 (truthy z) Q E) E) E) : W c l n (testChain pos a [op] [r]) Q E := fun h tk S =>
  test_last (H.run S fun x h1 tk1 l1 n1 S1 q => q.run S1 fun y h2 tk2 l2 n2 S2 q2 => q2 h2 tk2 S2)
theorem TC_cons {a : Value} {op op' : CmpOp} {ops : List CmpOp} {r r' : Sem Value} {rs : List (Sem Value)} (H : W c l n r (fun b l1 n1 => W c l1 n1 (compareOp op a b) (fun z l2 n2 => W c l2 n2 (truthy z) (fun t l3 n3 => if t = true then W c l3 n3 (testChain pos b (op' :: ops) (r' :: rs)) Q E else Q false l3 n3) E) E) E) :
    W c l n (testChain pos a (op :: op' :: ops) (r :: r' :: rs)) Q E := fun h tk S => by
  refine test_link (H.run S fun x h1 tk1 l1 n1 S1 q => q.run S1 fun y h2 tk2 l2 n2 S2 q2 => q2.run S2 fun t h3 tk3 l3 n3 S3 q3 => ?_)
  cases t with
  | true => simp only [if_true] at q3 ⊢; exact q3 h3 tk3 S3
  | false => simp only [Bool.false_eq_true, if_false] at q3 ⊢; exact .mk S3 q3
end
end Mine
end
section
open PySem PySem.W PySem.Calls PyProof.Rows
set_option Elab.async false
set_option maxRecDepth 100000
set_option linter.unusedVariables false
namespace Mine
theorem clip_nn {n : Nat} {i : Int} (h : 0 ≤ i) : clipAt n i = min i.toNat n := by unfold clipAt; rw [if_neg (by omega)]; omega
theorem cut_both {x : List UInt8} {lo hi : Int} (h0 : 0 ≤ lo) (h1 : 0 ≤ hi) : cutB x (some lo) (some hi) = (x.drop lo.toNat).take (hi.toNat - lo.toNat) := by
  show (x.drop (clipAt x.length lo)).take (clipAt x.length hi - clipAt x.length lo) = _
  rw [clip_nn h0, clip_nn h1]
  by_cases ha : x.length ≤ lo.toNat
  · rw [List.drop_eq_nil_of_le (as := x) (i := lo.toNat) ha, List.drop_eq_nil_of_le (by omega)]; simp
  · have e : min lo.toNat x.length = lo.toNat := by omega
    rw [e]
    by_cases hb : x.length ≤ hi.toNat
    · have e2 : min hi.toNat x.length = x.length := by omega
      rw [e2, List.take_of_length_le (by simp), List.take_of_length_le (by simp; omega)]
    · have e2 : min hi.toNat x.length = hi.toNat := by omega
      rw [e2]
theorem cut_up {x : List UInt8} {hi : Int} (h1 : 0 ≤ hi) : cutB x none (some hi) = x.take hi.toNat := by
  show (x.drop 0).take (clipAt x.length hi - 0) = _
  rw [clip_nn h1, List.drop_zero, Nat.sub_zero]
  by_cases hb : x.length ≤ hi.toNat
  · have e2 : min hi.toNat x.length = x.length := by omega
    rw [e2, List.take_of_length_le (by simp), List.take_of_length_le (by omega)]
  · have e2 : min hi.toNat x.length = hi.toNat := by omega
    rw [e2]
theorem cut_low {x : List UInt8} {lo : Int} (h1 : 0 ≤ lo) : cutB x (some lo) none = x.drop lo.toNat := by
  show (x.drop (clipAt x.length lo)).take (x.length - clipAt x.length lo) = _
  rw [clip_nn h1, List.take_of_length_le (by simp)]
  by_cases hb : x.length ≤ lo.toNat
  · rw [List.drop_eq_nil_of_le (as := x) (i := lo.toNat) hb, List.drop_eq_nil_of_le (by omega)]
  · have e2 : min lo.toNat x.length = lo.toNat := by omega
    rw [e2]
section
variable {c : Cx} {l : Loc} {n n' : Led} {E : Value → Shared → Prop} {Q : Value → Loc → Led → Prop} {pos p : Pos} {env : Env} {e a b : Expr}
theorem E_slice (H : W c l n (eval e env) (fun o l1 n1 => W c l1 n1 (eval a env) (fun v1 l2 n2 => W c l2 n2 (eval b env) (fun v2 l3 n3 => ∃ x t lo t1 hi t2, o = .bytes (List.toArray x) t ∧ v1 = .int lo t1 ∧ v2 = .int hi t2 ∧ 0 ≤ lo ∧ 0 ≤ hi ∧ x.length ≤ 16777216 ∧ ∀ t', Q (.bytes ((x.drop lo.toNat).take (hi.toNat - lo.toNat)).toArray t') l3 n3) E) E) E)
    (ht : ∀ o r, letTemporaryGo e o r = pure () := by intro _ _; with_unfolding_all rfl) : W c l n (eval (.Subscript e (.Slice (some a) (some b) none p) pos) env) Q E :=
  E_cutB (H.mono fun o l1 n1 q => q.mono fun v1 l2 n2 q => q.mono fun v2 l3 n3 q => by
    obtain ⟨x, t, lo, t1, hi, t2, rfl, rfl, rfl, h0, h1, hz, q⟩ := q
    exact ⟨x, t, some lo, some hi, rfl, .int _ _, .int _ _, hz, by rw [cut_both h0 h1]; exact q⟩) ht
theorem E_sliceU (H : W c l n (eval e env) (fun o l1 n1 => W c l1 n1 (eval b env) (fun v2 l3 n3 => ∃ x t hi t2, o = .bytes (List.toArray x) t ∧ v2 = .int hi t2 ∧ 0 ≤ hi ∧ x.length ≤ 16777216 ∧ ∀ t', Q (.bytes (x.take hi.toNat).toArray t') l3 n3) E) E)
    (ht : ∀ o r, letTemporaryGo e o r = pure () := by intro _ _; with_unfolding_all rfl) : W c l n (eval (.Subscript e (.Slice none (some b) none p) pos) env) Q E :=
  E_cutB (H.mono fun o l1 n1 q => W_pure (q.mono fun v2 l3 n3 q => by
    obtain ⟨x, t, hi, t2, rfl, rfl, h1, hz, q⟩ := q
    exact ⟨x, t, none, some hi, rfl, .none, .int _ _, hz, by rw [cut_up h1]; exact q⟩)) ht
theorem E_sliceL (H : W c l n (eval e env) (fun o l1 n1 => W c l1 n1 (eval a env) (fun v1 l3 n3 => ∃ x t lo t1, o = .bytes (List.toArray x) t ∧ v1 = .int lo t1 ∧ 0 ≤ lo ∧ x.length ≤ 16777216 ∧ ∀ t', Q (.bytes (x.drop lo.toNat).toArray t') l3 n3) E) E)
    (ht : ∀ o r, letTemporaryGo e o r = pure () := by intro _ _; with_unfolding_all rfl) : W c l n (eval (.Subscript e (.Slice (some a) none none p) pos) env) Q E :=
  E_cutB (H.mono fun o l1 n1 q => q.mono fun v1 l3 n3 q => W_pure (by
    obtain ⟨x, t, lo, t1, rfl, rfl, h1, hz, q⟩ := q
    exact ⟨x, t, some lo, none, rfl, .int _ _, .none, hz, by rw [cut_low h1]; exact q⟩)) ht
end
end Mine
end
section
open PySem PySem.W PySem.Calls PyProof.Rows
set_option Elab.async false
set_option maxRecDepth 100000
set_option linter.unusedVariables false
namespace Mine
theorem Put.skipS {a b : String} {v o : Value} {r r' : Loc} (h : a ≠ b) (t : Put (Str.ofString b) v r r') : Put (Str.ofString b) v ((Str.ofString a, o) :: r) ((Str.ofString a, o) :: r') := .skip (ne_str h) t
theorem Cont_next {c : Cx} {rest : List Stmt} {env : Env} {Q : Flow → Loc → Led → Prop} {E : Value → Shared → Prop} {l : Loc} {n : Led} (h : W c l n (execs rest env) Q E) : Cont c rest env Q E .next l n := h
theorem Cont_ret {c : Cx} {rest : List Stmt} {env : Env} {Q : Flow → Loc → Led → Prop} {E : Value → Shared → Prop} {l : Loc} {n : Led} {v : Value} (h : Q (.ret v) l n) : Cont c rest env Q E (.ret v) l n := h
theorem ite_yes {b : Bool} {A B : Prop} (hb : b = true) (h : A) : if b = true then A else B := by rw [if_pos hb]; exact h
theorem ite_no {b : Bool} {A B : Prop} (hb : b = false) (h : B) : if b = true then A else B := by rw [hb]; exact h
theorem ite_by {b : Bool} {A B : Prop} (h1 : b = true → A) (h2 : b = false → B) : if b = true then A else B := by cases b <;> simp_all
theorem not_dec {p : Prop} [Decidable p] (h : p) : (!decide p) = false := by simp [h]
theorem not_decT {p : Prop} [Decidable p] (h : ¬ p) : (!decide p) = true := by simp [h]
theorem u8_lt (x : UInt8) : ((x.toNat : Int)).natAbs < 2 ^ 64 := by have := x.toNat_lt; omega
end Mine
end
section
open PySem PySem.W PySem.Calls PyProof.Rows
set_option Elab.async false
set_option maxRecDepth 100000
set_option linter.unusedVariables false
namespace Mine
section
variable {c : Cx} {l : Loc} {n n' : Led} {E : Value → Shared → Prop} {env : Env} {rest : List Stmt} {Q : Flow → Loc → Led → Prop}
theorem VS_tupS {es ts : List Expr} {k k2 : Nat} {tpos pos vp : Pos} {names : List Str} (hh : c.A.handled = none)
    (H : V c l n (spliced (backTo vp (starEach es env))) (fun vs l1 n1 => names.length = vs.length ∧ vs.length ≤ sizeLine ∧ W c l1 n1 (assignInOrder (names.reverse.map fun x => fun v => bindName env x v) vs.reverse) (fun _ l3 n3 => V c l3 n3 (execs rest env) Q E) E) E)
    (hw : swappedStores [.Tuple ts k tpos] (.Tuple es k2 vp) env = pure (some names)) (hs : swapsWithSole [.Tuple ts k tpos] (.Tuple es k2 vp) pos.line env = pure false := by with_unfolding_all rfl) :
    V c l n (execs (.Assign [.Tuple ts k tpos] (.Tuple es k2 vp) pos :: rest) env) Q E := VS_cons (by
  rw [exec_Assign]
  refine V_bind (V_at ?_)
  rw [hs]
  refine V_bind (V_pure ?_)
  rw [if_neg (by decide)]
  refine V_bind (VE_tuple (H.mono fun vs l1 n1 q => ?_))
  obtain ⟨hlen, hz, q⟩ := q
  refine N_tuple hz fun t => ?_
  rw [hw]
  refine V_bind (V_pure ?_)
  show V c l1 ((t, TUP vs) :: n1) (do rule "assign.swapped-stores"; let items ← unpackItems (.ref t) names.length none; assignInOrder (names.reverse.map fun n => bindName env n) items.reverse; pure Flow.next) _ E
  refine V_bind (V_of (W_ruleW ?_))
  refine V_bind (V_of (U_tuple hh (.tup List.mem_cons_self) hlen ?_))
  exact V.sub (List.sublist_cons_self ..) (V_bind ((V_of q).mono fun _ l3 n3 q => V_pure q)))
theorem VS_tup2 {es ts : List Expr} {k k2 : Nat} {tpos pos vp : Pos} {x y : Str} (hh : c.A.handled = none)
    (H : V c l n (spliced (backTo vp (starEach es env))) (fun vs l1 n1 => ∃ a b, vs = [a, b] ∧ W c l1 n1 (storeName env y b) (fun _ l2 n2 => W c l2 n2 (storeName env x a) (fun _ l3 n3 => V c l3 n3 (execs rest env) Q E) E) E) E)
    (hw : swappedStores [.Tuple ts k tpos] (.Tuple es k2 vp) env = pure (some [x, y])) (hs : swapsWithSole [.Tuple ts k tpos] (.Tuple es k2 vp) pos.line env = pure false := by with_unfolding_all rfl) :
    V c l n (execs (.Assign [.Tuple ts k tpos] (.Tuple es k2 vp) pos :: rest) env) Q E :=
  VS_tupS hh (H.mono fun vs l1 n1 q => by
    obtain ⟨a, b, rfl, q⟩ := q
    exact ⟨rfl, Nat.le_of_ble_eq_true rfl, IO_bind (ts := [fun v => bindName env x v]) (vs := [a]) (q.mono fun _ l3 n3 q3 => IO_bind (ts := []) (vs := []) (q3.mono fun _ l4 n4 q4 => IO_nil (ts := []) q4))⟩) hw hs
theorem VS_tup3 {es ts : List Expr} {k k2 : Nat} {tpos pos vp : Pos} {x y z : Str} (hh : c.A.handled = none)
    (H : V c l n (spliced (backTo vp (starEach es env))) (fun vs l1 n1 => ∃ a b d, vs = [a, b, d] ∧ W c l1 n1 (storeName env z d) (fun _ l1 n1 => W c l1 n1 (storeName env y b) (fun _ l2 n2 => W c l2 n2 (storeName env x a) (fun _ l3 n3 => V c l3 n3 (execs rest env) Q E) E) E) E) E)
    (hw : swappedStores [.Tuple ts k tpos] (.Tuple es k2 vp) env = pure (some [x, y, z])) (hs : swapsWithSole [.Tuple ts k tpos] (.Tuple es k2 vp) pos.line env = pure false := by with_unfolding_all rfl) :
    V c l n (execs (.Assign [.Tuple ts k tpos] (.Tuple es k2 vp) pos :: rest) env) Q E :=
  VS_tupS hh (H.mono fun vs l1 n1 q => by
    obtain ⟨a, b, d, rfl, q⟩ := q
    exact ⟨rfl, Nat.le_of_ble_eq_true rfl, IO_bind (ts := [fun v => bindName env y v, fun v => bindName env x v]) (vs := [b, a]) (q.mono fun _ l3 n3 q3 => IO_bind (ts := [fun v => bindName env x v]) (vs := [a]) (q3.mono fun _ l4 n4 q4 => IO_bind (ts := []) (vs := []) (q4.mono fun _ l5 n5 q5 => IO_nil (ts := []) q5)))⟩) hw hs
end
end Mine
end
section
open PySem PySem.W PySem.Calls PyProof.Rows
open PySem.Sem (wp)
set_option Elab.async false
set_option maxRecDepth 100000
set_option linter.unusedVariables false
namespace Mine
section
variable {prog : Program} {w : World} {A : Around} {E : Value → Shared → Prop} {s : Shared} {it : Addr} {b : Array UInt8} {t : Tok} {i : Nat}
theorem nextOf_bytes_item {x : UInt8} {Q : Value → Shared → Prop} (hit : KBw.IsBytesIter s.heap it b t i) (hx : b[i]? = some x)
    (hQ : ∀ h', KBw.IsBytesIter h' it b t (i + 1) → Heap.SameBut it s.heap h' → Q (.int (x.toNat : Int) s.toks) { s with heap := h', toks := s.toks + 1 }) : wpAny (model prog w) A (Builtin.SmallTypes.nextOf (.ref it)) Q E s := by
  obtain ⟨o, ho, hc, hd⟩ := id hit
  unfold Builtin.SmallTypes.nextOf
  refine wpAny_bind (wpAny_callSpecial?_slot (name := PySem.Str.ofString "__next__") (KBw.iter_typeIs hit) KBw.slot_next (wpAny_call_entry KBw.slot_next (KBw.iter_typeIs hit) KBw.entry_next ?_ (KBw.args_next _)))
  show wpAny _ _ (field (.ref it) 0 >>= _) _ _ s
  refine wpAny_bind (wpAny_field ho hd (x := .bytes b t) rfl ?_)
  show wpAny _ _ (if (Value.bytes b t == Value.none) = true then _ else _) _ _ s
  rw [if_neg (show ¬ ((Value.bytes b t == Value.none) = true) from Bool.false_ne_true)]
  show wpAny _ _ (field (.ref it) 1 >>= _) _ _ s
  refine wpAny_bind (wpAny_field ho hd (x := .int i 0) rfl ?_)
  refine wpAny_bind (wpAny_of_eq (a := b) rfl ?_)
  simp only [Int.toNat_natCast, hx]
  refine wpAny_bind (wpAny_setField ho hd (by simp) (wpAny_bind (wpAny_mkInt (wpAny_pure ⟨_, rfl, wpAny_pure (hQ _ ?_ (Heap.SameBut.update ..))⟩))))
  exact ⟨_, Heap.get?_update_self _ ho (Obj.isFreed_of_fields (Obj.data_mapFields hd _)), (Obj.cls_mapFields ..).trans hc, by rw [Obj.data_mapFields hd]; simp [rawInt]⟩
theorem nextOf_bytes_end {Q : Value → Shared → Prop} (hh : A.handled = none) (hit : KBw.IsBytesIter s.heap it b t i) (hx : b[i]? = none)
    (hE : ∀ h' e, Heap.ExtBut it s.heap h' → (∃ o, h'.get? e = some o ∧ o.cls = .type "StopIteration") → E (.ref e) { s with heap := h' }) : wpAny (model prog w) A (Builtin.SmallTypes.nextOf (.ref it)) Q E s := by
  obtain ⟨o, ho, hc, hd⟩ := id hit
  unfold Builtin.SmallTypes.nextOf
  refine wpAny_bind (wpAny_callSpecial?_slot (name := PySem.Str.ofString "__next__") (KBw.iter_typeIs hit) KBw.slot_next (wpAny_call_entry KBw.slot_next (KBw.iter_typeIs hit) KBw.entry_next ?_ (KBw.args_next _)))
  show wpAny _ _ (field (.ref it) 0 >>= _) _ _ s
  refine wpAny_bind (wpAny_field ho hd (x := .bytes b t) rfl ?_)
  show wpAny _ _ (if (Value.bytes b t == Value.none) = true then _ else _) _ _ s
  rw [if_neg (show ¬ ((Value.bytes b t == Value.none) = true) from Bool.false_ne_true)]
  show wpAny _ _ (field (.ref it) 1 >>= _) _ _ s
  refine wpAny_bind (wpAny_field ho hd (x := .int i 0) rfl ?_)
  refine wpAny_bind (wpAny_of_eq (a := b) rfl ?_)
  simp only [Int.toNat_natCast, hx]
  refine wpAny_bind (wpAny_rule (wpAny_bind (wpAny_setField ho hd (by simp) ?_)))
  show wpAny _ _ (newExc (.type "StopIteration") [] >>= _) _ _ _
  refine wpAny_bind ?_
  simp only [newExc, newTuple]
  refine wpAny_bind (wpAny_newObj_type ?_ (by size_fits))
  refine wpAny_bind (m := firstArgMember _ _) (wpAny_of_eq (a := Value.none) (by first | rfl | (simp only [firstArgMember]; rfl)) ?_)
  refine wpAny_newObj_type ?_ (by size_fits)
  simp only [raiseNew]
  refine wpAny_bind (wpAny_handled ?_)
  first | rw [show A.in1.handled = none from hh] | rw [hh]
  refine wpAny_bind (wpAny_pure (wpAny_throw ?_))
  exact hE _ _ (((Heap.SameBut.update ..).extBut.push _).push _) ⟨_, Heap.get?_push_size _ rfl, rfl⟩
theorem draws_bytes (hh : A.handled = none) (it : Addr) (b : Array UInt8) (t : Tok) : Draws prog w A it [it] b.size (fun i v => ∃ c u, b[i]? = some c ∧ v = .int (c.toNat : Int) u) (fun i h => KBw.IsBytesIter h it b t i) where
  live := fun _ _ st => let ⟨o, ho, _⟩ := st; ⟨o, ho⟩
  frame := fun _ _ _ st hk => let ⟨o, ho, r⟩ := st; ⟨o, hk it (by simp) o ho, r⟩
  item := fun i s Q E hi st hQ => by
    refine nextOf_bytes_item st (x := b[i]) (by simp [hi]) fun h' hit' hs' => ?_
    exact hQ _ h' (s.toks + 1) ⟨_, _, by simp [hi], rfl⟩ hit' hs'
  done := fun s Q E st hE => nextOf_bytes_end hh st (by simp) hE
end
theorem pyIter_bytesH {prog : Program} {w : World} {A : Around} {E : Value → Shared → Prop} {s : Shared} {x : Array UInt8} {t : Tok} {Q : Value → Shared → Prop}
    (hQ : Q (.ref s.heap.objs.size) { s with heap := s.heap.push { cls := .type "bytes_iterator", data := .fields #[.bytes x t, .int 0 0] } }) : wpAny (model prog w) A (pyIter (.bytes x t)) Q E s := KBw.pyIter_bytes hQ
set_option maxHeartbeats 1000000 in
theorem meets_enumB (x : Array UInt8) (t : Tok) :
    Meets (Builtin.«enumerate.__new__» ⟨[.type "enumerate", .bytes x t], []⟩) (fun _ R s =>
      R (.ok (.ret (.ref (s.heap.push { cls := .type "bytes_iterator", data := .fields #[.bytes x t, .int 0 0] }).objs.size)))
        { s with heap := (s.heap.push { cls := .type "bytes_iterator", data := .fields #[.bytes x t, .int 0 0] }).push { cls := .type "enumerate", data := .fields #[.none, .bool false, .ref s.heap.objs.size, rawInt 0, .none, .none] } }) :=
  .of_wp fun prog w A R s h => by
    obtain ⟨hp, g, d, tk, os⟩ := s
    have hsub := sub_enumerate
    wp_walk
    refine wpAny_stack_any fun st => wpAny_pure ?_
    split
    · rename_i c _ _ _ _ _
      cases (c == Value.type "enumerate")
      · repeat (first | with_reducible refine pyIter_bytesH ?_ | wp_step)
        exact ⟨_, rfl, h⟩
      · repeat (first | with_reducible refine pyIter_bytesH ?_ | wp_step)
        exact ⟨_, rfl, h⟩
    · repeat (first | with_reducible refine pyIter_bytesH ?_ | wp_step)
      exact ⟨_, rfl, h⟩
def ENM (it : Addr) (i : Nat) : Desc := fun o => ∃ old, o = { cls := .type "enumerate", data := .fields #[.none, .bool false, .ref it, rawInt i, .none, old] }
section
variable {c : Cx} {l : Loc} {n n' : Led} {E : Value → Shared → Prop}
theorem C_enum {b : List UInt8} {t : Tok} {Q : Value → Loc → Led → Prop} (q : ∀ e it, e ≠ it → Q (.ref e) l ((e, ENM it 0) :: (it, ITB b t 0) :: n)) : W c l n (call (.type "enumerate") [.bytes b.toArray t]) Q E := fun h tk S => by
  refine callType_new F.called_enumerate (by decide) (F.typeCall_enumerate_1 _) (F.newCall_enumerate_1 _) (fun obj => F.args_object_init_2 obj _) F.entry_enumerate_new (meets_enumB b.toArray t) ?_
  refine ⟨⟨_, Heap.get?_push_size _ rfl, rfl⟩, .mk ((S.push (d := ITB b t 0) ⟨rfl, rfl⟩).push (d := ENM h.objs.size 0) ⟨.none, rfl⟩) (q _ _ ?_)⟩
  rw [Heap.size_push]; exact Nat.succ_ne_self _
end
end Mine
end
section
open PySem PySem.W PySem.Calls PyProof.Rows
open PySem.Sem (wp)
set_option Elab.async false
set_option maxRecDepth 100000
set_option linter.unusedVariables false
namespace Mine
section
variable {c : Cx} {l : Loc} {n n' : Led} {E : Value → Shared → Prop} {env : Env} {rest : List Stmt}
def TurnE (e it : Addr) (d d' : Desc) (J : Loc → Led → Prop) (f : Flow) (l : Loc) (n : Led) : Prop := match f with
  | .next | .cont => ∃ l' n', J l' n' ∧ l'.Sublist l ∧ ((e, d) :: (it, d') :: n').Sublist n
  | .brk => False
  | .ret v => False
theorem VS_forEnum {elts : List Expr} {k : Nat} {tpos : Pos} {iter : Expr} {body : List Stmt} {pos : Pos} {Q : Flow → Loc → Led → Prop} {b : List UInt8} {t : Tok} (hh : c.A.handled = none) (J : List UInt8 → Loc → Led → Prop) (l₀ : Loc) (n₀ : Led)
    (H : W c l n (eval iter env) (fun x l1 n1 => ∃ e it, x = .ref e ∧ e ≠ it ∧ l₀.Sublist l1 ∧ ((e, ENM it 0) :: (it, ITB b t 0) :: n₀).Sublist n1) E) (h0 : J [] l₀ n₀)
    (turn : ∀ pre x post l n T tk u e it d d', b = pre ++ x :: post → J pre l n → W c l ((T, TUP [.int (pre.length : Int) tk, .int (x.toNat : Int) u]) :: (e, d) :: (it, d') :: n) (assign (.Tuple elts k tpos) env (.ref T)) (fun _ l1 n1 => V c l1 n1 (execs body env) (TurnE e it d d' (J (pre ++ [x]))) fun _ _ => False) fun _ _ => False)
    (fin : ∀ l n, J b l n → ContV c rest env Q E .next l n)
    (hs : ∀ x, foldedSetIterable iter env x = pure x := by intro _; with_unfolding_all rfl) : V c l n (execs (.For (.Tuple elts k tpos) iter body [] pos :: rest) env) Q E := VS_cons (by
  rw [exec_For]
  refine V_bind (V_at (V_bind (V_of (H.mono fun x l1 n1 q => V_bind (V_eq (hs x) (V_bind (V_at (V_bind (V_hold ?_))))))))) 
  obtain ⟨e, it, rfl, hne, hl, hn⟩ := q
  intro h1 tk1 S1
  have S2 := (S1.sub hn).locSub hl
  obtain ⟨oe, he, old, rfl⟩ := S2.get (List.mem_cons_self ..)
  refine wpN_of (wpAny_pyIter_enum (s := { c.r with heap := h1, toks := tk1 }) he (.mk S2 ?_))
  refine V_own fun h2 tk2 S2 => ?_
  refine codeN_loop (c := .forLoop (.Tuple elts k tpos) (.ref e) body [] env) rfl rfl (fun k s' => ∃ i l n h tk, s' = { c.r with heap := h, toks := tk } ∧ St c.g c.L l ((e, ENM it i) :: (it, ITB b t i) :: n) h ∧ J (b.take i) l n ∧ i ≤ b.length ∧ k = b.length - i) ?_ b.length ⟨0, _, _, h2, tk2, rfl, S2, h0, Nat.zero_le _, rfl⟩
  rintro m s' ⟨i, l, n, h, tk, rfl, S, hJ, hi, rfl⟩
  show wpN _ _ ((forTurn (.Tuple elts k tpos) (.ref e) body [] env).onRaise (fun x => do noteFrame x env; theTreesLotGoes x)) _ _ _
  refine wpN_onRaise ?_
  refine wpN_mono (E := fun _ _ => False) ?_ (fun _ _ q => q) fun _ _ x => x.elim
  unfold forTurn
  refine wpN_bind (wpN_standAt ?_)
  have D := draws_bytes (prog := c.P) (w := c.w) (A := c.A.in1) hh it b.toArray t
  obtain ⟨oe, he, old, rfl⟩ := S.get (List.mem_cons_self ..)
  obtain ⟨oi, hi0, hic, hid⟩ := S.get (List.mem_cons_of_mem _ (List.mem_cons_self ..))
  have hit : KBw.IsBytesIter h it b.toArray t i := ⟨oi, hi0, hic, hid⟩
  by_cases hlt : i < b.length
  · refine wpN_bind (wpN_onRaise (wpN_of (wpAny_pyNext_enum_itemD (s := { c.r with heap := h, toks := tk }) D he hit (by simpa using hlt) hne (by simpa using hne) fun x h' tk' hx ho hst hT hsz hk => ?_)))
    obtain ⟨y, u, hy, rfl⟩ := hx
    have hy : b[i]? = some y := by simpa using hy
    refine wpN_bind (wpN_of (wpAny_letOwnedTupleGo_enum (s := { c.r with heap := h', toks := tk' + 1 }) ho fun h'' he'' hs'' => ?_))
    have hTe : h.objs.size ≠ e := Nat.ne_of_gt (Heap.lt_size he)
    have S3 : St c.g c.L l ((h.objs.size, TUP [.int (i : Int) tk', .int (y.toNat : Int) u]) :: (e, ENM it (i + 1)) :: (it, ITB b t (i + 1)) :: n) h'' := by
      have Sx := S
      have nd := S.own.1
      obtain ⟨m, F, kk⟩ := S.fr
      have keep : ∀ b o, b ≠ e → b ≠ it → h.get? b = some o → h''.get? b = some o := fun b o h1 h2 e1 => hs''.extBut b o h1 (hk b o h1 h2 e1)
      have De := S.own.2 _ (List.mem_cons_self ..)
      have Di := S.own.2 _ (List.mem_cons_of_mem _ (List.mem_cons_self ..))
      obtain ⟨oL, es, ep, eL, r⟩ := F.ns
      refine ⟨⟨m, ⟨⟨oL, es, ep, keep _ _ (Ne.symm De.1) (Ne.symm Di.1) eL, r⟩, fun b o e1 => keep b o (fun q => by rw [q, De.2.1] at e1; cases e1) (fun q => by rw [q, Di.2.1] at e1; cases e1) (F.keep b o e1), F.above⟩, kk⟩, S.nd, ?_, fun p hp => ?_⟩
      · rw [List.map_cons, List.nodup_cons]
        refine ⟨fun hm => ?_, nd⟩
        have : ∃ p ∈ ((e, ENM it i) :: (it, ITB b t i) :: n), p.1 = h.objs.size := by
          obtain ⟨p, hp, e1⟩ := List.mem_map.mp hm
          rcases List.mem_cons.mp hp with rfl | hp
          · exact ⟨_, List.mem_cons_self .., e1⟩
          · rcases List.mem_cons.mp hp with rfl | hp
            · exact ⟨_, List.mem_cons_of_mem _ (List.mem_cons_self ..), e1⟩
            · exact ⟨p, List.mem_cons_of_mem _ (List.mem_cons_of_mem _ hp), e1⟩
        obtain ⟨p, hp, e1⟩ := this
        exact absurd (S.lt hp) (by rw [e1]; exact Nat.lt_irrefl _)
      · rcases List.mem_cons.mp hp with rfl | hp
        · exact ⟨Nat.ne_of_gt S.locLt, S.newNone (Nat.le_refl _), _, hs''.extBut _ _ hTe hT, 0, rfl⟩
        · rcases List.mem_cons.mp hp with rfl | hp
          · exact ⟨De.1, De.2.1, _, he'', _, rfl⟩
          · rcases List.mem_cons.mp hp with rfl | hp
            · obtain ⟨o2, ho2, hc2, hd2⟩ := hst
              exact ⟨Di.1, Di.2.1, o2, hs''.extBut _ _ (Ne.symm hne) ho2, hc2, hd2⟩
            · obtain ⟨a1, b1, o, ho1, hd1⟩ := S.own.2 p (List.mem_cons_of_mem _ (List.mem_cons_of_mem _ hp))
              rw [List.map_cons, List.map_cons, List.nodup_cons, List.nodup_cons] at nd
              refine ⟨a1, b1, o, keep _ _ (fun q => nd.1 ?_) (fun q => nd.2.1 ?_) ho1, hd1⟩
              · exact List.mem_cons_of_mem _ (List.mem_map.mpr ⟨p, hp, q⟩)
              · exact List.mem_map.mpr ⟨p, hp, q⟩
    have e1 : b.take (i + 1) = b.take i ++ [y] := by rw [List.take_add_one, hy]; rfl
    have hb : b = b.take i ++ y :: b.drop (i + 1) := by
      have z := List.take_append_drop (i + 1) b
      rw [e1, List.append_assoc] at z
      exact z.symm
    have hpl : ((b.take i).length : Int) = (i : Int) := by rw [List.length_take]; omega
    have tn := turn (b.take i) y (b.drop (i + 1)) l n h.objs.size tk' u e it (ENM it (i + 1)) (ITB b t (i + 1)) hb hJ
    rw [hpl] at tn
    refine wpN_bind (wpN_of (tn.run S3 fun _ h4 tk4 l4 n4 S4 q4 => wpN_bind (q4.run S4 fun f h5 tk5 l5 n5 S5 q5 => ?_)))
    cases f with
    | ret v => exact q5.elim
    | brk => exact q5.elim
    | next => obtain ⟨l', n', j, sl, sb⟩ := q5; exact wpN_pure (.inl ⟨rfl, b.length - (i + 1), by omega, i + 1, l', n', h5, tk5, rfl, (S5.sub sb).locSub sl, e1 ▸ j, hlt, rfl⟩)
    | cont => obtain ⟨l', n', j, sl, sb⟩ := q5; exact wpN_pure (.inl ⟨rfl, b.length - (i + 1), by omega, i + 1, l', n', h5, tk5, rfl, (S5.sub sb).locSub sl, e1 ▸ j, hlt, rfl⟩)
  · obtain rfl : i = b.length := Nat.le_antisymm hi (Nat.not_lt.mp hlt)
    refine wpN_bind (wpN_onRaise (wpN_of (wpAny_pyNext_enum_endD (s := { c.r with heap := h, toks := tk }) D he (by simpa using hit) fun h' hk => ?_)))
    rw [List.take_length] at hJ
    have S3 : St c.g c.L l n h' := by
      have S' := ((S.perm (.swap ..)).drop hk)
      exact S'.sub (List.sublist_cons_self ..)
    exact wpN_pure (.inr ⟨rfl, codeN_of (codeAny_block (wpAny_execs_nil (.mk S3 (fin _ _ hJ))))⟩))
end
end Mine
end
section
open PySem PySem.W PySem.Calls PyProof.Rows
open PySem.Sem (wp)
set_option Elab.async false
set_option maxRecDepth 100000
set_option linter.unusedVariables false
namespace Mine
section
variable {c : Cx} {l : Loc} {n n' : Led} {E : Value → Shared → Prop} {env : Env} {Q : Value → Loc → Led → Prop}
/-- a comprehension's own context: its locals lie at C -/
abbrev Cx.comp (c : Cx) (C : Addr) : Cx := { c with L := C }
/-- one turn's tests -/
noncomputable def Tests (c : Cx) (env : Env) : List Expr → (Loc → Led → Prop) → (Loc → Led → Prop) → Loc → Led → Prop
  | [], yes, _, l, n => yes l n
  | x :: r, yes, no, l, n => W c l n (PySem.isTrue x env (eval x env)) (fun b l1 n1 => if b = true then Tests c env r yes no l1 n1 else no l1 n1) fun _ _ => False
theorem W_tests {yes no : Loc → Led → Prop} : ∀ (ifs : List Expr) (l : Loc) (n : Led), Tests c env ifs yes no l n →
    W c l n (forIn ifs true fun x r => if r = true then do let ok ← PySem.isTrue x env (eval x env); pure (ForInStep.yield ok) else pure (ForInStep.yield r)) (fun ok l1 n1 => if ok = true then yes l1 n1 else no l1 n1) (fun _ _ => False) := by
  have rest : ∀ (ifs : List Expr) (l : Loc) (n : Led), no l n → W c l n (forIn ifs false fun x r => if r = true then do let ok ← PySem.isTrue x env (eval x env); pure (ForInStep.yield ok) else pure (ForInStep.yield r)) (fun ok l1 n1 => if ok = true then yes l1 n1 else no l1 n1) (fun _ _ => False) := by
    intro ifs
    induction ifs with
    | nil => intro l n h; rw [List.forIn_nil]; exact W_pure (by simpa using h)
    | cons x r ih => intro l n h; rw [List.forIn_cons]; exact W_bind (W_pure (ih l n h))
  intro ifs
  induction ifs with
  | nil => intro l n h; rw [List.forIn_nil]; exact W_pure (by rw [if_pos rfl]; exact h)
  | cons x r ih =>
    intro l n h
    rw [List.forIn_cons]
    refine W_bind (W_bind (W.mono h fun b l1 n1 q => W_pure ?_))
    cases b with
    | true => simp only [if_true] at q ⊢; exact ih l1 n1 q
    | false => simp only [Bool.false_eq_true, if_false] at q ⊢; exact rest r l1 n1 q
theorem St.other {g : Heap} {L C : Addr} {l : Loc} {n : Led} {h h' : Heap} (S : St g L l n h) (hs : Heap.SameBut C h h') (h1 : C ≠ L) (h2 : ∀ p ∈ n, p.1 ≠ C) (h3 : g.get? C = none) : St g L l n h' := by
  obtain ⟨m, F, k⟩ := S.fr
  obtain ⟨oL, es, ep, e, r⟩ := F.ns
  refine ⟨⟨m, ⟨⟨oL, es, ep, (hs.2 _ (Ne.symm h1)).trans e, r⟩, fun b o e1 => (hs.2 b (fun q => by rw [q, h3] at e1; cases e1)).trans (F.keep b o e1), F.above⟩, k⟩, S.nd, S.own.1, fun p hp => ?_⟩
  obtain ⟨a, b, o, ho, hd⟩ := S.own.2 p hp
  exact ⟨a, b, o, (hs.2 _ (h2 p hp)).trans ho, hd⟩

end
end Mine
end
section
open PySem PySem.W PySem.Calls PyProof.Rows
open PySem.Sem (wp)
set_option Elab.async false
set_option maxRecDepth 100000
set_option linter.unusedVariables false
namespace Mine
section
variable {c : Cx} {l : Loc} {n n' : Led} {E : Value → Shared → Prop}
-- an iterator asked for its iterator
theorem SI_list {a ax : Addr} {i : Nat} {Q : Value → Loc → Led → Prop} (hm : (a, ITL ax i) ∈ n) (q : Q (.ref a) l n) : W c l n (pyIter (.ref a)) Q E := fun h tk S => by
  obtain ⟨o, ho, hc, hd⟩ := S.get hm
  exact wpAny_pyIter_listiter (s := { c.r with heap := h, toks := tk }) ⟨o, ho, hc, hd⟩ (.mk S q)
theorem SI_bytes {a : Addr} {b : List UInt8} {t : Tok} {i : Nat} {Q : Value → Loc → Led → Prop} (hm : (a, ITB b t i) ∈ n) (q : Q (.ref a) l n) : W c l n (pyIter (.ref a)) Q E := fun h tk S => by
  obtain ⟨o, ho, hc, hd⟩ := S.get hm
  exact KBw.pyIter_self (s := { c.r with heap := h, toks := tk }) (b := b.toArray) (t := t) (i := i) ⟨o, ho, hc, hd⟩ (.mk S q)
theorem SI_range {a : Addr} {x : Int} {k i : Nat} {Q : Value → Loc → Led → Prop} (hm : (a, ITR x k i) ∈ n) (q : Q (.ref a) l n) : W c l n (pyIter (.ref a)) Q E := fun h tk S => by
  obtain ⟨o, ho, rfl⟩ := S.get hm
  exact wpAny_pyIter_rangeiter (s := { c.r with heap := h, toks := tk }) ho (.mk S q)
-- bytearray[int]
theorem sl_baitem : Slot "bytearray" "__getitem__" "bytearray.__getitem__" :=
  .of (owner := "bytearray") (n := "__getitem__") (by rw [typeLookup_type, builtinLookup_eq_fast]; kernel_rfl) (by decide +kernel) (by decide +kernel) (by decide +kernel) (by first | exact .inl (by decide +kernel) | exact .inr (by decide +kernel)) (by rw [isSubtype_type]; kernel_rfl)
theorem en_baitem : entryFor table "bytearray.__getitem__" = some Builtin.«bytearray.__getitem__» := entryFor_of_tree (by kernel_rfl)
theorem ar_baitem (a b : Value) : argsOk "bytearray.__getitem__" ⟨[a, b], []⟩ := by unfold argsOk; kernel_rfl
theorem subscript_int {i : Int} {u : Tok} (h : Builtin.Bytes.fitsIndex i = true) : Builtin.Bytes.subscript? (.int i u) = pure (some i) := by
  unfold Builtin.Bytes.subscript?
  rw [int_special lk_int_index]
  simp only [pure_bind]
  rw [if_neg (by decide), show asIndex (.int i u) = pure i from rfl, pure_bind, if_neg (by rw [h]; decide)]
theorem BA_item {a : Addr} {b : List UInt8} {i : Int} {u : Tok} {e s : Expr} {Q : Value → Loc → Led → Prop} (hm : (a, BYA b) ∈ n) (h0 : 0 ≤ i) (h1 : i < (b.length : Int)) (hz : b.length ≤ 16777216) (q : ∀ t, Q (.int ((b.getD i.toNat 0).toNat : Int) t) l n)
    (hs : subscripted s false (.ref a) (.int i u) = operate [.ref a, .int i u] (getItem (.ref a) (.int i u)) := by with_unfolding_all rfl) : W c l n (subscriptTail e s (.ref a) (.int i u)) Q E := fun h tk S => by
  have hT := ba_type (c := c) hm l h tk S
  refine tail_any hT sl_baitem.lookup (wpAny_getItem_slot hT (by decide) sl_baitem (wpAny_call_entry sl_baitem hT en_baitem ?_ (ar_baitem _ _))) hs
  refine wpAny_mono ((?_ : W c.in1 l n (Builtin.«bytearray.__getitem__» ⟨[.ref a, .int i u], []⟩) (fun fin l' n' => ∃ v, fin = .done (.ret v) ∧ Q v l' n') E) h tk S) (fun fin s' q => ?_) fun _ _ x => x
  · unfold Builtin.«bytearray.__getitem__»
    refine W_bind (W_pure ?_)
    dsimp only
    refine W_bind (W_eq (subscript_int (by unfold Builtin.Bytes.fitsIndex; simp; omega)) ?_)
    dsimp only
    refine W_bind (P_payload hm ?_)
    have hl : i.toNat < b.length := by omega
    have e1 : seqIndex? i b.toArray.size = some i.toNat := by
      have hn : ¬ i < 0 := by omega
      simp [seqIndex?, hn, h0, h1]
    have e2 : (seqIndex? i b.toArray.size).bind (b.toArray[·]?) = some (b.getD i.toNat 0) := by rw [e1]; simp [hl]
    rw [e2]
    dsimp only
    exact W_bind (fun h tk S => wpAny_mkInt (Out.mk (c := c.in1) S (W_pure ⟨_, rfl, q _⟩)))
  · obtain ⟨h', tk', l', n', e, S', v, rfl, q⟩ := q
    exact ⟨_, rfl, h', tk', l', n', e, S', q⟩
end
end Mine
end
section
open PySem PySem.W PySem.Calls PyProof.Rows
open PySem.Sem (wp)
set_option Elab.async false
set_option maxRecDepth 100000
set_option linter.unusedVariables false
namespace Mine
section
variable {c : Cx} {l : Loc} {n n' : Led} {E : Value → Shared → Prop}
def ITS (x : Str) (t : Tok) (i : Nat) : Desc := fun o => o.cls = .type "str_ascii_iterator" ∧ o.data = .fields #[.str x t, .int i 0]
theorem itr_str (hh : c.A.handled = none) (a : Addr) (x : Str) (t : Tok) : Itr c a (ITS x t) (fun _ => True) (fun i v => ∃ ch u, x.cps[i]? = some ch ∧ v = .str ⟨#[ch]⟩ u) x.cps.size :=
  .of_walks (Walks.strAscii (prog := c.P) (w := c.w) hh a x t) (fun i l n h S _ => by obtain ⟨o, ho, hd⟩ := S.get (List.mem_cons_self ..); exact ⟨o, ho, hd.1, hd.2⟩) fun i h ⟨o, ho, hc, hd⟩ => ⟨o, ho, hc, hd⟩
theorem I_str {x : Str} {t : Tok} {Q : Value → Loc → Led → Prop} (ha : x.cps.all (· < 128) = true) (q : ∀ a, Q (.ref a) l ((a, ITS x t 0) :: n)) : W c l n (pyIter (.str x t)) Q E := fun h tk S =>
  wpAny_pyIter_ascii ha (.mk (S.push ⟨rfl, rfl⟩) (q _))
end
end Mine
end
section
open PySem PySem.W PySem.Calls PyProof.Rows
open PySem.Sem (wp)
set_option Elab.async false
set_option maxRecDepth 100000
set_option linter.unusedVariables false
namespace Mine
section
variable {c : Cx} {l : Loc} {n n' : Led} {E : Value → Shared → Prop}
theorem SI_str {a : Addr} {x : Str} {t : Tok} {i : Nat} {Q : Value → Loc → Led → Prop} (hm : (a, ITS x t i) ∈ n) (q : Q (.ref a) l n) : W c l n (pyIter (.ref a)) Q E := fun h tk S => by
  obtain ⟨o, ho, hc, hd⟩ := S.get hm
  exact wpAny_pyIter_striter_ascii (s := { c.r with heap := h, toks := tk }) ⟨o, ho, hc, hd⟩ (.mk S q)
theorem F_ord {ch : Nat} {t : Tok} {Q : Value → Loc → Led → Prop} (q : ∀ t, Q (.int (ch : Int) t) l n) : W c l n (call (.builtin "ord") [.str ⟨#[ch]⟩ t]) Q E := fun h tk S => P.ord_of_char (.mk S (q _))
theorem F_chr {i : Int} {t : Tok} {Q : Value → Loc → Led → Prop} (h0 : 0 ≤ i) (h1 : i < 256) (q : ∀ t, Q (.str ⟨#[i.toNat]⟩ t) l n) : W c l n (call (.builtin "chr") [.int i t]) Q E := fun h tk S => P.chr_of_int (by simp; omega) (.mk S (q _))
end
end Mine
end
section
open PySem PySem.W PySem.Calls PyProof.Rows
open PySem.Sem (wp)
set_option Elab.async false
set_option maxRecDepth 100000
set_option linter.unusedVariables false
namespace Mine
section
variable {c : Cx} {l : Loc} {n n' : Led} {E : Value → Shared → Prop} {env : Env} {Q : Value → Loc → Led → Prop}
/-- a ledger's parts, in whatever order -/
def Has (n n' : Led) : Prop := ∃ m, n.Perm m ∧ n'.Sublist m
theorem Has.refl (n : Led) : Has n n := ⟨n, .refl _, .refl _⟩
theorem Has.of_sub {n n' : Led} (h : n'.Sublist n) : Has n n' := ⟨n, .refl _, h⟩
theorem Has.of_perm {n n' : Led} (h : n.Perm n') : Has n n' := ⟨n', h, .refl _⟩
theorem Has.cons (p) {n n' : Led} (h : Has n n') : Has (p :: n) (p :: n') := let ⟨m, a, b⟩ := h; ⟨p :: m, a.cons _, b.cons_cons _⟩
theorem Has.drop (p) {n n' : Led} (h : Has n n') : Has (p :: n) n' := let ⟨m, a, b⟩ := h; ⟨p :: m, a.cons _, b.cons _⟩
theorem Has.trans {a b d : Led} (h : Has a b) (k : Has b d) : Has a d := by
  obtain ⟨m, p, s⟩ := h
  obtain ⟨m', p', s'⟩ := k
  obtain ⟨m'', p''⟩ := List.Sublist.exists_perm_append s
  exact ⟨m' ++ m'', p.trans (p''.trans (p'.append_right _)), s'.trans (List.sublist_append_left ..)⟩
theorem Has.mem {a : Addr} {d : Desc} {n r : Led} (h : (a, d) ∈ n) : ∃ r, n.Perm ((a, d) :: r) := by
  obtain ⟨s, t, rfl⟩ := List.append_of_mem h
  exact ⟨s ++ t, List.perm_middle⟩
/-- the head to its place -/
theorem Has.pull {p : Addr × Desc} {n₁ n₂ m : Led} (h : Has (n₁ ++ n₂) m) : Has (n₁ ++ p :: n₂) (p :: m) := (Has.of_perm List.perm_middle).trans (h.cons p)
theorem St.has {g : Heap} {L : Addr} {l : Loc} {n n' : Led} {h : Heap} (S : St g L l n h) (k : Has n n') : St g L l n' h := let ⟨_, a, b⟩ := k; (S.perm a).sub b
theorem W.has {α : Type} {t : Sem α} {Q : α → Loc → Led → Prop} (hp : Has n n') (H : W c l n' t Q E) : W c l n t Q E := fun h tk S => H h tk (S.has hp)
theorem V.has {α : Type} {t : Sem α} {Q : α → Loc → Led → Prop} (hp : Has n n') (H : V c l n' t Q E) : V c l n t Q E := fun h tk S => H h tk (S.has hp)
theorem Back.of_has {L : Addr} {F : Desc} {P : Led → Prop} {n n' : Led} (q : P n') (h : Has n ((L, F) :: n')) : Back L F P n := ⟨n', q, h⟩

/-- a comprehension's frame, opened -/
structure CompNew (c : Cx) (env : Env) (scope : Scope) (cl : List (Str × Addr)) (cx : Addr → List (Str × Addr)) (ex : Addr → Led) : Prop where
  new : ∀ (s : Shared) (Q : Env → Shared → Prop) (E : Value → Shared → Prop), (∀ h4, h4.Ns s.heap.objs.size (fun _ => none) → (∀ b o, s.heap.get? b = some o → h4.get? b = some o) → (∀ p ∈ ex s.heap.objs.size, s.heap.objs.size < p.1 ∧ ∃ o, h4.get? p.1 = some o ∧ p.2 o) →
    Q { scope := scope, locals := s.heap.objs.size, globals := env.globals, cells := cx s.heap.objs.size, qual := env.qual, func := none, code := env.code, frame := env.frame, builtins := env.builtins } { s with heap := h4 }) → wpAny (model c.P c.w) c.A (newFunctionEnv scope env.globals cl [] env.qual none .none (some env)) Q E s
  nd : ∀ C, ((ex C).map (·.1)).Nodup
theorem CompNew.plain {scope : Scope} {cl : List (Str × Addr)} (hkind : scope.kind = .function) (hcell : ∀ x ∈ scope.names, x.2 ≠ .cell) : CompNew c env scope cl (fun _ => cl) (fun _ => []) where
  new := fun s Q E H => wpAny_newFunctionEnv hcell (fun x hx => nomatch hx) (fun h4 hns hsb => H h4 hns (fun b o e => hsb.extBut b o (Nat.ne_of_lt (Heap.lt_size e)) (Heap.get?_push_of_some _ e)) (fun p hp => nomatch hp)) hkind
  nd := fun _ => List.nodup_nil
theorem CompNew.one {scope : Scope} {cl : List (Str × Addr)} {y : Str} (hcf : ∀ k cl, cellsFrom k scope.names cl = (y, k) :: cl) (hpc : ∀ h, pushCells h scope.names = h.push { cls := .type "cell", data := .cell none }) : CompNew c env scope cl (fun C => (y, C + 1) :: cl) (fun C => [(C + 1, CE none)]) where
  new := fun s Q E H => by
    simp only [newFunctionEnv, Option.isSome_some, if_true]
    refine wpAny_bind (wpAny_alloc ?_)
    refine wpAny_bind (wpAny_layCells _ (fun name kind cells => by cases kind == NameKind.cell <;> simp) _ _ _ _ ?_)
    dsimp only
    rw [hcf, hpc, Heap.size_push]
    refine wpAny_pure (H _ ?_ ?_ ?_)
    · exact (Heap.Ns.new s.heap (.type "dict")).keeps fun b o e => Heap.get?_push_of_some _ e
    · exact fun b o e => Heap.get?_push_of_some _ (Heap.get?_push_of_some _ e)
    · intro p hp
      rw [List.mem_singleton.mp hp]
      refine ⟨Nat.lt_succ_self _, { cls := .type "cell", data := .cell none }, ?_, rfl⟩
      have z := Heap.get?_push_size (s.heap.push { cls := .type "dict", data := .dict #[] }) (o := { cls := .type "cell", data := .cell none }) rfl
      rw [Heap.size_push] at z
      exact z
  nd := fun _ => by simp

/-- a comprehension's loop, ready: the list (acc, LST ys) grows -/
inductive ReadyK (c : Cx) (C : Addr) (acc : Addr) (cenv : Env) (target elt : Expr) (ifs : List Expr) (R : List Value → Led → Prop) (it : Addr) (n : Led) : Prop
  | of (D : Nat → Desc) (N : Led → Prop) (P : Nat → Value → Prop) (len : Nat) (n₀ : Led) (J : Nat → List Value → Led → Prop) (h0 : Itr (c.comp C) it D N P len) (h1 : Has n ((it, D 0) :: (acc, LST []) :: n₀)) (h2 : J 0 [] n₀) (h3 : (∀ i ys n, J i ys n → N ((acc, LST ys) :: n))) (h4 : (∀ l n Q E, Q (.ref it) l n → (it, D 0) ∈ n → W (c.comp C) l n (pyIter (.ref it)) Q E)) (h5 : (∀ i ys n, J i ys n → ys.length ≤ i)) (h6 : len ≤ sizeLine) (h7 : (∀ i ys n v, i < len → J i ys n → P i v → W (c.comp C) [] ((it, D (i + 1)) :: (acc, LST ys) :: n) (assign target cenv v) (fun _ l1 n1 => Tests (c.comp C) cenv ifs (fun l2 n2 => W (c.comp C) l2 n2 (eval elt cenv) (fun y l3 n3 => ∃ n4, J (i + 1) (ys ++ [y]) n4 ∧ Has n3 ((it, D (i + 1)) :: (acc, LST ys) :: n4)) fun _ _ => False) (fun l2 n2 => ∃ n4, J (i + 1) ys n4 ∧ Has n2 ((it, D (i + 1)) :: (acc, LST ys) :: n4)) l1 n1) fun _ _ => False)) (h8 : (∀ ys n, J len ys n → R ys n)) (h9 : ∀ i l n v (Q : Unit → Loc → Led → Prop) E, P i v → Q () l ((it, D (i + 1)) :: n) → W (c.comp C) l ((it, D (i + 1)) :: n) (letOwnedTupleGo target (.ref it) v) Q E)
theorem St.more {g : Heap} {L : Addr} {l : Loc} {n : Led} {h : Heap} (S : St g L l n h) {ex : Led} (nd : (ex.map (·.1)).Nodup) (hg : g.objs.size ≤ L) (hx : ∀ p ∈ ex, L < p.1 ∧ ∃ o, h.get? p.1 = some o ∧ p.2 o) (hlt : ∀ p ∈ n, p.1 < L) : St g L l (ex ++ n) h := by
  refine ⟨S.fr, S.nd, ?_, fun p hp => ?_⟩
  · rw [List.map_append, List.nodup_append]
    refine ⟨nd, S.own.1, fun a ha b hb e => ?_⟩
    obtain ⟨p, hp, rfl⟩ := List.mem_map.mp ha
    obtain ⟨q, hq, rfl⟩ := List.mem_map.mp hb
    have h1 := (hx p hp).1
    have h2 := hlt q hq
    rw [e] at h1
    exact Nat.lt_asymm h1 h2
  · rcases List.mem_append.mp hp with hp | hp
    · have z := hx p hp
      exact ⟨Nat.ne_of_gt z.1, Heap.get?_none_of_le (Nat.le_trans hg (Nat.le_of_lt z.1)), z.2⟩
    · exact S.own.2 p hp

/-- the caller's state, the comprehension's variables aside -/
theorem St.aside {g : Heap} {L C : Addr} {l : Loc} {n : Led} {h : Heap} {m : Str → Option Value} (S : St g L l n h) (F : Fr g C h m) (h1 : C ≠ L) (h2 : ∀ p ∈ n, p.1 ≠ C) : St g L l ((C, FRM m) :: n) h := by
  obtain ⟨o, es, ep, e, hd, r⟩ := F.ns
  refine ⟨S.fr, S.nd, ?_, fun p hp => ?_⟩
  · rw [List.map_cons, List.nodup_cons]
    refine ⟨fun hm => ?_, S.own.1⟩
    obtain ⟨p, hp, e⟩ := List.mem_map.mp hm
    exact h2 p hp e
  · rcases List.mem_cons.mp hp with rfl | hp
    · exact ⟨h1, Heap.get?_none_of_le F.above, o, e, es, ep, hd, r⟩
    · exact S.own.2 p hp
theorem loopG {prog : Program} {w : World} {A : Around} {elt target iter : Expr} {ifs : List Expr} {scope : Scope} {pos : Pos} {it acc : Value} {env : Env} {R : Result → Shared → Prop} (I : Nat → Shared → Prop)
    (turn : ∀ n s, I n s → wpAny (model prog w) A (pyNext it) (fun r s₁ => match r with
      | none => R (.ok .next) s₁
      | some v => wpAny (model prog w) A (letOwnedTupleGo target it v) (fun _ s₀ => wpAny (model prog w) A (assign target env v) (fun _ s₂ =>
          wpAny (model prog w) A (forIn ifs true fun x r => if r = true then do let ok ← PySem.isTrue x env (eval x env); pure (ForInStep.yield ok) else pure (ForInStep.yield r)) (fun ok s₃ => if ok = true then wpAny (model prog w) A (eval elt env) (fun x s₄ =>
            wpAny (model prog w) A (call (.builtin "list.append") [acc, x]) (fun _ s₅ => ∃ m, m < n ∧ I m s₅) (notedBy (model prog w) A env fun e s' => R (.error e) s') s₄) (notedBy (model prog w) A env fun e s' => R (.error e) s') s₃
            else ∃ m, m < n ∧ I m s₃) (notedBy (model prog w) A env fun e s' => R (.error e) s') s₂)
          (notedBy (model prog w) A env fun e s' => R (.error e) s') s₀) (notedBy (model prog w) A env fun e s' => R (.error e) s') s₁) (notedBy (model prog w) A env fun e s' => R (.error e) s') s)
    (n : Nat) (h : I n s) : codeAny (model prog w) A (.compLoop (.ListComp elt [⟨target, iter, ifs, 0⟩] scope pos) 0 it acc env) R s := by
  refine codeAny_loop rfl I (fun n s hI => ?_) n h
  show wpAny _ A ((compTurn (.ListComp elt [⟨target, iter, ifs, 0⟩] scope pos) 0 it acc env).onRaise (fun x => do noteFrame x env; theTreesLotGoes x)) _ _ s
  refine wpAny_noted ?_
  rw [compTurn_list]
  refine wpAny_bind (wpAny_standAt (wpAny_bind (wpAny_mono (turn n s hI) (fun r s₁ h₁ => ?_) fun _ _ h' => h')))
  cases r with
  | none => exact wpAny_pure h₁
  | some v =>
    refine wpAny_bind (wpAny_mono h₁ (fun _ s₀ h₀' => ?_) fun _ _ h' => h')
    refine wpAny_bind (wpAny_mono h₀' (fun _ s₂ h₂ => ?_) fun _ _ h' => h')
    refine wpAny_bind (wpAny_mono h₂ (fun okb s₃ h₃ => ?_) fun _ _ h' => h')
    cases okb with
    | false => exact wpAny_pure ⟨rfl, h₃⟩
    | true => exact wpAny_bind (wpAny_bind (wpAny_mono h₃ (fun x s₄ h₄ => wpAny_bind (wpAny_mono h₄ (fun _ s₅ h₅ => wpAny_pure (wpAny_pure ⟨rfl, h₅⟩)) fun _ _ h' => h')) fun _ _ h' => h'))
/-- what the caller has, the comprehension's variables (C, FRM m) among it -/
def FinK (c : Cx) (use : Option (Value → Sem Unit)) (QQ : Value → Shared → Prop) (E : Value → Shared → Prop) (l2 : Loc) (F : Desc) (acc : Addr) (ys : List Value) (n' : Led) : Prop :=
  ∃ n'', Has n' ((c.L, F) :: n'') ∧ ∀ C m h tk, St c.g c.L l2 ((C, FRM m) :: (acc, LST ys) :: n'') h → compPost (model c.P c.w) c.A E use QQ (.ref acc) C (.ok .next) { c.r with heap := h, toks := tk }
theorem comp_core {elt target iter : Expr} {ifs : List Expr} {scope : Scope} {pos : Pos} {cl : List (Str × Addr)} {cx : Addr → List (Str × Addr)} {ex : Addr → Led} {use : Option (Value → Sem Unit)} {QQ : Value → Shared → Prop} (CN : CompNew c env scope cl cx ex)
    (H : W c l n (eval iter env) (fun x l1 n1 => W c l1 n1 (pyIter x) (fun itv l2 n2 => ∃ it, itv = .ref it ∧ ∀ C acc F, Waits F → ReadyK c C acc (compEnvC scope (cx C) C env) target elt ifs (FinK c use QQ E l2 F acc) it (ex C ++ (c.L, F) :: (acc, LST []) :: n2)) E) E)
    (hclos : closureFor scope env = pure cl) (hs : ∀ x, foldedSetIterable iter env x = pure x) (hkind : scope.kind = .function) (hnames : ∀ x ∈ scope.names, x.2 = .local → scope.names.lookup x.1 = some .local)
    {h : Heap} {tk : Nat} (S : St c.g c.L l n h) : wpAny (model c.P c.w) c.A (comprehension (.ListComp elt [⟨target, iter, ifs, 0⟩] scope pos) scope env (firstIterPos [⟨target, iter, ifs, 0⟩] pos) (newList []) (firstAsync [⟨target, iter, ifs, 0⟩]) (firstIter [⟨target, iter, ifs, 0⟩] env) use) QQ E { c.r with heap := h, toks := tk } := by
  refine wpAny_comprehension_free (g := ⟨target, iter, ifs, 0⟩) (gs := []) rfl hs hclos hkind hnames ?_
  refine H.run S fun x h1 tk1 l1 n1 S1 q1 => q1.run S1 fun itv h2 tk2 l2 n2 S2 q2 => ?_
  obtain ⟨it, rfl, q⟩ := q2
  refine wpAny_newObj_type ?_ (Nat.zero_le _)
  have S3 : St c.g c.L l2 ((h2.objs.size, LST []) :: n2) (h2.push { cls := .type "list", data := .seq #[] }) := S2.push ⟨0, rfl⟩
  have hnd := S3.nd
  obtain ⟨m, F3, k3⟩ := S3.fr
  refine CN.new _ _ _ (fun h4 hns keep hex => ?_)
  have S4 := S3.enter (lb := []) F3 rfl keep hns (fun p hp => nomatch hp) List.nodup_nil
  have S4 := S4.more (CN.nd _) (Nat.le_of_lt (Nat.lt_of_le_of_lt F3.above F3.ns.lt)) hex (fun p hp => by
    rcases List.mem_cons.mp hp with rfl | hp
    · exact F3.ns.lt
    · exact S3.lt hp)
  obtain ⟨D, N, P, len, n₀, J, I, hsub, hJ0, hN, hself, hJl, hlen, turn, fin, go⟩ := q (h2.push { cls := .type "list", data := .seq #[] }).objs.size h2.objs.size (FRM m) (FRM.waits m)
  have S5 := S4.has hsub
  have loop : ∀ h tk, St c.g (h2.push { cls := .type "list", data := .seq #[] }).objs.size [] ((it, D 0) :: (h2.objs.size, LST []) :: n₀) h →
      codeAny (model c.P c.w) c.A (.compLoop (.ListComp elt [⟨target, iter, ifs, 0⟩] scope pos) 0 (.ref it) (.ref h2.objs.size) (compEnvC scope (cx (h2.push { cls := .type "list", data := .seq #[] }).objs.size) (h2.push { cls := .type "list", data := .seq #[] }).objs.size env))
        (compPost (model c.P c.w) c.A E use QQ (.ref h2.objs.size) (h2.push { cls := .type "list", data := .seq #[] }).objs.size) { c.r with heap := h, toks := tk } := by
    intro h tk S
    refine loopG (fun k s' => ∃ i ys n h tk, s' = { c.r with heap := h, toks := tk } ∧ St c.g (h2.push { cls := .type "list", data := .seq #[] }).objs.size [] ((it, D i) :: (h2.objs.size, LST ys) :: n) h ∧ J i ys n ∧ i ≤ len ∧ k = len - i) ?_ len ⟨0, [], n₀, h, tk, rfl, S, hJ0, Nat.zero_le _, rfl⟩
    rintro k s' ⟨i, ys, n, h, tk, rfl, S, hJ, hi, rfl⟩
    by_cases hlt : i < len
    · refine (I.item i [] _ (fun o l' n' => ∃ v, o = some v ∧ P i v ∧ l' = [] ∧ n' = (it, D (i + 1)) :: (h2.objs.size, LST ys) :: n) (fun _ _ => False) hlt (hN _ _ _ hJ) fun v hv => ⟨v, rfl, hv, rfl, rfl⟩).noE.run S ?_
      rintro _ h3 tk3 _ _ S3 ⟨v, rfl, hv, rfl, rfl⟩
      refine (go i [] _ v (fun _ l' n' => l' = [] ∧ n' = (it, D (i + 1)) :: (h2.objs.size, LST ys) :: n) (fun _ _ => False) hv ⟨rfl, rfl⟩).noE.run S3 ?_
      rintro _ h3' tk3' _ _ S3 ⟨rfl, rfl⟩
      refine (turn i ys n v hlt hJ hv).noE.run S3 fun _ h4 tk4 l4 n4 S4 q4 => ?_
      refine (W_tests ifs _ _ q4).noE.run S4 fun ok h5 tk5 l5 n5 S5 q5 => ?_
      cases ok with
      | true =>
        simp only [if_true] at q5 ⊢
        refine q5.noE.run S5 fun y h6 tk6 l6 n6 S6 q6 => ?_
        obtain ⟨n7, j, hsub⟩ := q6
        refine (L_append (c := c.comp (h2.push { cls := .type "list", data := .seq #[] }).objs.size) (Q := fun _ l' n' => n' = (it, D (i + 1)) :: (h2.objs.size, LST (ys ++ [y])) :: n7) (.tail .head) (Nat.le_trans (hJl _ _ _ hJ) (Nat.le_trans (Nat.le_of_lt hlt) hlen)) rfl).run (S6.has hsub) ?_
        rintro _ h7 tk7 l7 _ S7 rfl
        exact ⟨len - (i + 1), by omega, i + 1, _, n7, h7, tk7, rfl, S7.locSub (List.nil_sublist _), j, hlt, rfl⟩
      | false =>
        simp only [Bool.false_eq_true, if_false] at q5 ⊢
        obtain ⟨n7, j, hsub⟩ := q5
        exact ⟨len - (i + 1), by omega, i + 1, _, n7, h5, tk5, rfl, (S5.has hsub).locSub (List.nil_sublist _), j, hlt, rfl⟩
    · obtain rfl : i = len := Nat.le_antisymm hi (Nat.not_lt.mp hlt)
      refine (I.done [] _ (fun o l' n' => o = none ∧ l' = [] ∧ n' = (h2.objs.size, LST ys) :: n) (fun _ _ => False) (hN _ _ _ hJ) ⟨rfl, rfl, rfl⟩).noE.run S ?_
      rintro _ h3 tk3 _ _ S3 ⟨rfl, rfl, rfl⟩
      obtain ⟨n'', hsub2, q'⟩ := fin _ _ hJ
      obtain ⟨mC, FC, _⟩ := S3.fr
      have S6 := (S3.has (hsub2.cons _)).perm (.swap ..)
      have S7 := S6.leave (l := l2) (List.Sublist.refl _) F3.above k3 hnd
      exact q' _ mC h3 tk3 (S7.aside FC (Ne.symm (S6.own.2 _ (List.mem_cons_self ..)).1) fun p hp => (S6.own.2 p (List.mem_cons_of_mem _ hp)).1)
  refine codeAny_compStart_list (loop h4 _ S5) ?_
  refine (hself [] _ (fun v l' n' => v = .ref it ∧ l' = [] ∧ n' = (it, D 0) :: (h2.objs.size, LST []) :: n₀) (fun _ _ => False) ⟨rfl, rfl, rfl⟩ (List.mem_cons_self ..)).noE.run S5 ?_
  rintro _ h5 tk5 _ _ S6 ⟨rfl, rfl, rfl⟩
  exact loop _ _ S6
theorem ReadyK.mono {C acc it : Addr} {cenv : Env} {target elt : Expr} {ifs : List Expr} {R R' : List Value → Led → Prop} (h : ReadyK c C acc cenv target elt ifs R it n) (k : ∀ ys n, R ys n → R' ys n) : ReadyK c C acc cenv target elt ifs R' it n := by
  obtain ⟨D, N, P, len, n₀, J, h1, h2, h3, h4, h5, h6, h7, h8, h9, h10⟩ := h
  exact ⟨D, N, P, len, n₀, J, h1, h2, h3, h4, h5, h6, h7, h8, fun ys n j => k _ _ (h9 ys n j), h10⟩
theorem E_compK {elt target iter : Expr} {ifs : List Expr} {scope : Scope} {pos : Pos} {cl : List (Str × Addr)} {cx : Addr → List (Str × Addr)} {ex : Addr → Led} (CN : CompNew c env scope cl cx ex)
    (H : W c l n (eval iter env) (fun x l1 n1 => W c l1 n1 (pyIter x) (fun itv l2 n2 => ∃ it, itv = .ref it ∧ ∀ C acc F, Waits F → ReadyK c C acc (compEnvC scope (cx C) C env) target elt ifs (fun ys n' => ∃ n'', Has n' ((c.L, F) :: n'') ∧ Q (.ref acc) l2 ((acc, LST ys) :: n'')) it (ex C ++ (c.L, F) :: (acc, LST []) :: n2)) E) E)
    (hclos : closureFor scope env = pure cl) (hs : ∀ x, foldedSetIterable iter env x = pure x := by intro _; with_unfolding_all rfl) (hkind : scope.kind = .function := by with_unfolding_all rfl) (hnames : ∀ x ∈ scope.names, x.2 = .local → scope.names.lookup x.1 = some .local := by decide)
    : W c l n (eval (.ListComp elt [⟨target, iter, ifs, 0⟩] scope pos) env) Q E := fun h tk S => by
  rw [arm_eval_ListComp]
  refine comp_core CN (H.mono fun x l1 n1 q => q.mono fun itv l2 n2 ⟨it, e, q⟩ => ⟨it, e, fun C acc F wf => (q C acc F wf).mono fun ys n' ⟨n'', hh, q⟩ => ⟨n'', hh, fun C' m' h' tk' S' => ?_⟩⟩) hclos hs hkind hnames S
  have hC := S'.own.2 _ (List.mem_cons_self ..)
  obtain ⟨hC1, hC2, o, ho, hd⟩ := hC
  have nd := S'.own.1
  rw [List.map_cons, List.nodup_cons] at nd
  refine ⟨m', FRM.ns ho hd, fun h'' hsb => ?_⟩
  exact .mk ((S'.sub (List.sublist_cons_self ..)).other hsb hC1 (fun p hp e => nd.1 (List.mem_map.mpr ⟨p, hp, e⟩)) hC2) q
/-- x = [..], the name stored ahead of the variables' end -/
theorem S_assignC {x : Str} {px spos : Pos} {rest : List Stmt} {Q : Flow → Loc → Led → Prop} {elt target iter : Expr} {ifs : List Expr} {scope : Scope} {pos : Pos} {cl : List (Str × Addr)} {cx : Addr → List (Str × Addr)} {ex : Addr → Led}
    (hsw : swapsWith (.ListComp elt [⟨target, iter, ifs, 0⟩] scope pos) (some (.Name x px)) spos.line env = pure true) (CN : CompNew c env scope cl cx ex)
    (H : W c l n (eval iter env) (fun xv l1 n1 => W c l1 n1 (pyIter xv) (fun itv l2 n2 => ∃ it, itv = .ref it ∧ ∀ C acc F, Waits F → ReadyK c C acc (compEnvC scope (cx C) C env) target elt ifs (fun ys n' => ∃ n'', Has n' ((c.L, F) :: n'') ∧
      ∀ p, W c l2 (p :: (acc, LST ys) :: n'') (storeName env x (.ref acc)) (fun _ l3 n3 => ∃ n4, n3 = p :: n4 ∧ W c l3 n4 (execs rest env) Q E) E) it (ex C ++ (c.L, F) :: (acc, LST []) :: n2)) E) E)
    (hclos : closureFor scope env = pure cl) (hs : ∀ x, foldedSetIterable iter env x = pure x := by intro _; with_unfolding_all rfl) (hkind : scope.kind = .function := by with_unfolding_all rfl) (hnames : ∀ x ∈ scope.names, x.2 = .local → scope.names.lookup x.1 = some .local := by decide)
    : W c l n (execs (.Assign [.Name x px] (.ListComp elt [⟨target, iter, ifs, 0⟩] scope pos) spos :: rest) env) Q E := S_cons fun h tk S => by
  rw [exec_Assign_Name_used _ _ _ _ hsw]
  refine wpAny_bind (wpAny_standAt (wpAny_bind ?_))
  show wpAny _ _ (do
    let _ ← comprehension (.ListComp elt [⟨target, iter, ifs, 0⟩] scope pos) scope env (firstIterPos [⟨target, iter, ifs, 0⟩] pos) (newList []) (firstAsync [⟨target, iter, ifs, 0⟩]) (firstIter [⟨target, iter, ifs, 0⟩] env) (some (assign (.Name x px) env))) _ _ _
  refine wpAny_bind (comp_core CN (H.mono fun xv l1 n1 q => q.mono fun itv l2 n2 ⟨it, e, q⟩ => ⟨it, e, fun C acc F wf => (q C acc F wf).mono fun ys n' ⟨n'', hh, q⟩ => ⟨n'', hh, fun C' m' h' tk' S' => ?_⟩⟩) hclos hs hkind hnames S)
  show wpAny _ _ (assign (.Name x px) env (.ref acc)) _ _ _
  refine wpAny_assign_Name ((q (C', FRM m')).run S' ?_)
  rintro _ h3 tk3 l3 _ S3 ⟨n4, rfl, q3⟩
  obtain ⟨hC1, hC2, o, ho, hd⟩ := S3.own.2 _ (List.mem_cons_self ..)
  have nd := S3.own.1
  rw [List.map_cons, List.nodup_cons] at nd
  refine ⟨m', FRM.ns ho hd, fun h'' hsb => wpAny_pure (wpAny_pure ?_)⟩
  exact .mk ((S3.sub (List.sublist_cons_self ..)).other hsb hC1 (fun p hp e => nd.1 (List.mem_map.mpr ⟨p, hp, e⟩)) hC2) q3
end
end Mine
end
section
open PySem PySem.W PySem.Calls PyProof.Rows
open PySem.Sem (wp)
set_option Elab.async false
set_option maxRecDepth 100000
set_option linter.unusedVariables false
namespace Mine
theorem Cok.comp {K : Frag} {c : Cx} {d : Nat} (V : Cok K c d) (C : Addr) : Cok K (c.comp C) d := ⟨V.ex, V.X, V.code, V.hh, V.guards, V.room, V.units⟩
section
variable {c : Cx} {l : Loc} {n n' : Led} {E : Value → Shared → Prop} {env : Env} {Q : Value → Loc → Led → Prop}
/-- a comprehension over a source whose element makes nothing that stays -/
theorem RK_pure {cenv : Env} {target elt : Expr} {C acc it : Addr} {F : Desc} {n2 : Led} {R : Nat → List Value → Prop} {D : Nat → Desc} {N : Led → Prop} {P : Nat → Value → Prop} {len : Nat} {ex : Led} {T : List Value → Led → Prop}
    (I : Itr (c.comp C) it D N P len) (hself : ∀ l n Q E, Q (.ref it) l n → (it, D 0) ∈ n → W (c.comp C) l n (pyIter (.ref it)) Q E) (hlen : len ≤ sizeLine) (h0 : R 0 []) (hl : ∀ i ys, R i ys → ys.length ≤ i)
    (hN : ∀ ys, N ((acc, LST ys) :: (ex ++ (c.L, F) :: n2)))
    (turn : ∀ i ys v d, i < len → R i ys → P i v → W (c.comp C) [] ((it, d) :: (acc, LST ys) :: (ex ++ (c.L, F) :: n2)) (assign target cenv v) (fun _ l1 n1 => W (c.comp C) l1 n1 (eval elt cenv) (fun y l3 n3 => R (i + 1) (ys ++ [y]) ∧ Has n3 ((it, d) :: (acc, LST ys) :: (ex ++ (c.L, F) :: n2))) fun _ _ => False) fun _ _ => False)
    (fin : ∀ ys n', R len ys → Has n' ((c.L, F) :: n2) → T ys n')
    (go : ∀ i l n v (Q : Unit → Loc → Led → Prop) E, P i v → Q () l ((it, D (i + 1)) :: n) → W (c.comp C) l ((it, D (i + 1)) :: n) (letOwnedTupleGo target (.ref it) v) Q E := by intro i l n v Q E _ q; exact W_eq rfl q) : ReadyK c C acc cenv target elt [] T it (ex ++ (c.L, F) :: (acc, LST []) :: (it, D 0) :: n2) := by
  refine ⟨D, N, P, len, ex ++ (c.L, F) :: n2, fun i ys n => n = ex ++ (c.L, F) :: n2 ∧ R i ys, I, ?_, ⟨rfl, h0⟩, ?_, hself, fun i ys n h => hl i ys h.2, hlen, ?_, ?_, go⟩
  · have e1 : Has (ex ++ (c.L, F) :: (acc, LST []) :: (it, D 0) :: n2) ((it, D 0) :: (ex ++ (c.L, F) :: (acc, LST []) :: n2)) := by
      have := Has.pull (n₁ := ex ++ [(c.L, F), (acc, LST [])]) (p := (it, D 0)) (n₂ := n2) (Has.refl _)
      simpa using this
    have e2 : Has (ex ++ (c.L, F) :: (acc, LST []) :: n2) ((acc, LST []) :: (ex ++ (c.L, F) :: n2)) := by
      have := Has.pull (n₁ := ex ++ [(c.L, F)]) (p := (acc, LST [])) (n₂ := n2) (Has.refl _)
      simpa using this
    exact e1.trans (e2.cons _)
  · rintro i ys n ⟨rfl, h⟩; exact hN ys
  · rintro i ys n v hi ⟨rfl, h⟩ hv
    exact (turn i ys v _ hi h hv).mono fun _ l1 n1 q => q.mono fun y l3 n3 ⟨q1, q2⟩ => ⟨_, ⟨rfl, q1⟩, q2⟩
  · rintro ys n ⟨rfl, h⟩
    exact fin ys _ h (Has.of_sub (List.sublist_append_right ..))

/-- a comprehension whose element makes one object that stays -/
theorem RK_new {cenv : Env} {target elt : Expr} {C acc it : Addr} {F : Desc} {n2 : Led} {G : Nat → Desc → Prop} {D : Nat → Desc} {N : Led → Prop} {P : Nat → Value → Prop} {len : Nat} {ex : Led} {T : List Value → Led → Prop}
    (I : Itr (c.comp C) it D N P len) (hself : ∀ l n Q E, Q (.ref it) l n → (it, D 0) ∈ n → W (c.comp C) l n (pyIter (.ref it)) Q E) (hlen : len ≤ sizeLine)
    (hN : ∀ ys os, N ((acc, LST ys) :: (os ++ (ex ++ (c.L, F) :: n2))))
    (turn : ∀ i os v d, i < len → (List.length os = i) → P i v → W (c.comp C) [] ((it, d) :: (acc, LST (os.reverse.map fun p => .ref p.1)) :: (os ++ (ex ++ (c.L, F) :: n2))) (assign target cenv v) (fun _ l1 n1 => W (c.comp C) l1 n1 (eval elt cenv) (fun y l3 n3 => ∃ a o, y = .ref a ∧ G i o ∧ Has n3 ((it, d) :: (acc, LST (os.reverse.map fun p => .ref p.1)) :: (a, o) :: (os ++ (ex ++ (c.L, F) :: n2)))) fun _ _ => False) fun _ _ => False)
    (fin : ∀ (os : Led) n', os.length = len → (∀ k p, os[k]? = some p → G k p.2) → Has n' ((c.L, F) :: (os.reverse ++ n2)) → T (os.map fun p => .ref p.1) n')
    (go : ∀ i l n v (Q : Unit → Loc → Led → Prop) E, P i v → Q () l ((it, D (i + 1)) :: n) → W (c.comp C) l ((it, D (i + 1)) :: n) (letOwnedTupleGo target (.ref it) v) Q E := by intro i l n v Q E _ q; exact W_eq rfl q) : ReadyK c C acc cenv target elt [] T it (ex ++ (c.L, F) :: (acc, LST []) :: (it, D 0) :: n2) := by
  refine ⟨D, N, P, len, ex ++ (c.L, F) :: n2, fun i ys n => ∃ os : Led, n = os ++ (ex ++ (c.L, F) :: n2) ∧ ys = os.reverse.map (fun p => .ref p.1) ∧ os.length = i ∧ ∀ k p, os.reverse[k]? = some p → G k p.2, I, ?_, ⟨[], rfl, rfl, rfl, fun k p h => by simp at h⟩, ?_, hself, ?_, hlen, ?_, ?_, go⟩
  · have e1 : Has (ex ++ (c.L, F) :: (acc, LST []) :: (it, D 0) :: n2) ((it, D 0) :: (ex ++ (c.L, F) :: (acc, LST []) :: n2)) := by
      have := Has.pull (n₁ := ex ++ [(c.L, F), (acc, LST [])]) (p := (it, D 0)) (n₂ := n2) (Has.refl _)
      simpa using this
    have e2 : Has (ex ++ (c.L, F) :: (acc, LST []) :: n2) ((acc, LST []) :: (ex ++ (c.L, F) :: n2)) := by
      have := Has.pull (n₁ := ex ++ [(c.L, F)]) (p := (acc, LST [])) (n₂ := n2) (Has.refl _)
      simpa using this
    exact e1.trans (e2.cons _)
  · rintro i ys n ⟨os, rfl, rfl, h, g⟩; exact hN _ os
  · rintro i ys n ⟨os, rfl, rfl, h, g⟩; simp [h]
  · rintro i ys n v hi ⟨os, rfl, rfl, h, g⟩ hv
    refine (turn i os v _ hi h hv).mono fun _ l1 n1 q => q.mono fun y l3 n3 => ?_
    rintro ⟨a, o, rfl, q1, q2⟩
    refine ⟨(a, o) :: (os ++ (ex ++ (c.L, F) :: n2)), ⟨(a, o) :: os, rfl, by simp, by simp [h], fun k p hk => ?_⟩, q2⟩
    rw [List.reverse_cons] at hk
    by_cases hlt : k < os.reverse.length
    · rw [List.getElem?_append_left hlt] at hk; exact g k p hk
    · rw [List.getElem?_append_right (by omega)] at hk
      rw [List.length_reverse] at hk hlt
      have hk2 : k - os.length = 0 := by
        cases hz : k - os.length with
        | zero => rfl
        | succ m => rw [hz] at hk; simp at hk
      rw [hk2] at hk
      have : p = (a, o) := by simpa using hk.symm
      rw [this, show k = i by omega]; exact q1
  · rintro ys n ⟨os, rfl, rfl, h, g⟩
    refine fin os.reverse _ (by simp [h]) g ?_
    rw [List.reverse_reverse]
    have e : Has (os ++ (ex ++ (c.L, F) :: n2)) ((c.L, F) :: (os ++ (ex ++ n2))) := by
      have := Has.pull (n₁ := os ++ ex) (p := (c.L, F)) (n₂ := n2) (Has.refl _)
      simpa using this
    refine e.trans ((Has.of_sub ?_).cons _)
    exact (List.Sublist.refl _).append (List.sublist_append_right ..)
theorem RKp {cenv : Env} {target elt : Expr} {C acc it : Addr} {F : Desc} {n2 : Led} {R : Nat → List Value → Prop} {D : Nat → Desc} {N : Led → Prop} {P : Nat → Value → Prop} {len : Nat} {T : List Value → Led → Prop}
    (I : Itr (c.comp C) it D N P len) (hself : ∀ l n Q E, Q (.ref it) l n → (it, D 0) ∈ n → W (c.comp C) l n (pyIter (.ref it)) Q E) (hlen : len ≤ sizeLine) (h0 : R 0 []) (hl : ∀ i ys, R i ys → ys.length ≤ i)
    (hN : ∀ ys, N ((acc, LST ys) :: ((c.L, F) :: n2)))
    (turn : ∀ i ys v d, i < len → R i ys → P i v → W (c.comp C) [] ((it, d) :: (acc, LST ys) :: ((c.L, F) :: n2)) (assign target cenv v) (fun _ l1 n1 => W (c.comp C) l1 n1 (eval elt cenv) (fun y l3 n3 => R (i + 1) (ys ++ [y]) ∧ Has n3 ((it, d) :: (acc, LST ys) :: ((c.L, F) :: n2))) fun _ _ => False) fun _ _ => False)
    (fin : ∀ ys n', R len ys → Has n' ((c.L, F) :: n2) → T ys n')
    (go : ∀ i l n v (Q : Unit → Loc → Led → Prop) E, P i v → Q () l ((it, D (i + 1)) :: n) → W (c.comp C) l ((it, D (i + 1)) :: n) (letOwnedTupleGo target (.ref it) v) Q E := by intro i l n v Q E _ q; exact W_eq rfl q) : ReadyK c C acc cenv target elt [] T it ((c.L, F) :: (acc, LST []) :: (it, D 0) :: n2) :=
  RK_pure (ex := []) I hself hlen h0 hl hN turn fin go
theorem RKn {cenv : Env} {target elt : Expr} {C acc it : Addr} {F : Desc} {n2 : Led} {G : Nat → Desc → Prop} {D : Nat → Desc} {N : Led → Prop} {P : Nat → Value → Prop} {len : Nat} {T : List Value → Led → Prop}
    (I : Itr (c.comp C) it D N P len) (hself : ∀ l n Q E, Q (.ref it) l n → (it, D 0) ∈ n → W (c.comp C) l n (pyIter (.ref it)) Q E) (hlen : len ≤ sizeLine)
    (hN : ∀ ys os, N ((acc, LST ys) :: (os ++ ((c.L, F) :: n2))))
    (turn : ∀ i os v d, i < len → (List.length os = i) → P i v → W (c.comp C) [] ((it, d) :: (acc, LST (os.reverse.map fun p => .ref p.1)) :: (os ++ ((c.L, F) :: n2))) (assign target cenv v) (fun _ l1 n1 => W (c.comp C) l1 n1 (eval elt cenv) (fun y l3 n3 => ∃ a o, y = .ref a ∧ G i o ∧ Has n3 ((it, d) :: (acc, LST (os.reverse.map fun p => .ref p.1)) :: (a, o) :: (os ++ ((c.L, F) :: n2)))) fun _ _ => False) fun _ _ => False)
    (fin : ∀ (os : Led) n', os.length = len → (∀ k p, os[k]? = some p → G k p.2) → Has n' ((c.L, F) :: (os.reverse ++ n2)) → T (os.map fun p => .ref p.1) n')
    (go : ∀ i l n v (Q : Unit → Loc → Led → Prop) E, P i v → Q () l ((it, D (i + 1)) :: n) → W (c.comp C) l ((it, D (i + 1)) :: n) (letOwnedTupleGo target (.ref it) v) Q E := by intro i l n v Q E _ q; exact W_eq rfl q) : ReadyK c C acc cenv target elt [] T it ((c.L, F) :: (acc, LST []) :: (it, D 0) :: n2) :=
  RK_new (ex := []) I hself hlen hN turn fin go
end
end Mine
end
section
open PySem PySem.W PySem.Calls PyProof.Rows
open PySem.Sem (wp)
set_option Elab.async false
set_option maxRecDepth 100000
set_option linter.unusedVariables false
namespace Mine
/-- a namespace's entries -/
inductive ENT : Loc → List DictEntry → Prop
  | nil : ENT [] []
  | cons {x v l es} (h : Int) (t : Tok) : ENT l es → ENT ((x, v) :: l) (⟨h, .str x t, v⟩ :: es)
theorem ENT.get {l : Loc} {es : List DictEntry} (e : ENT l es) (x : Str) : getL x es = some (l.lookup x) := by
  have key : (es.any (·.refKey)) = false ∧ (es.find? (·.key.isStr x)).map (·.val) = l.lookup x := by
    induction e with
    | nil => exact ⟨rfl, rfl⟩
    | @cons y v l es h t _ ih =>
      refine ⟨by rw [List.any_cons, ih.1]; rfl, ?_⟩
      rw [List.lookup_cons, List.find?_cons]
      show Option.map _ (match (y == x) with | true => _ | false => _) = _
      cases hxy : y == x with
      | true =>
        have : x = y := (eq_of_beq hxy).symm
        subst this
        simp
      | false =>
        have : (x == y) = false := by
          rw [beq_eq_false_iff_ne] at hxy ⊢
          exact Ne.symm hxy
        rw [this]; exact ih.2
  unfold getL
  cases h : es.find? (·.key.isStr x) with
  | some e => rw [h] at key; rw [← key.2]; rfl
  | none => rw [h] at key; rw [← key.2, key.1]; rfl
theorem ENT.put {l l' : Loc} {x : Str} {v : Value} {es : List DictEntry} (e : ENT l es) (P : Put x v l l') (h : Int) (t : Tok) : ENT l' (putL x h (.str x t) v es) := by
  induction P generalizing es with
  | nil => cases e; exact .cons _ _ .nil
  | hit =>
    cases e with
    | cons h' t' e =>
      unfold putL
      rw [if_pos (by show (_ == _) = true; simp)]
      exact .cons _ _ e
  | skip hne _ ih =>
    cases e with
    | cons h' t' e =>
      unfold putL
      rw [if_neg (by show ¬ ((_ == _) = true); simpa using hne)]
      exact .cons _ _ (ih e)
theorem ENT.len {l : Loc} {es : List DictEntry} (e : ENT l es) : es.length = l.length := by induction e with
  | nil => rfl
  | cons _ _ _ ih => simp [ih]
/-- an object of a class, its attributes -/
def INST (C dx : Addr) : Desc := fun o => o = instObj C dx
def ATT (l : Loc) : Desc := fun o => ∃ es n, o = dictOf es n ∧ ENT l es

def WCode (c : Cx) (l : Loc) (n : Led) (cd : Code) (Q : Value → Loc → Led → Prop) (E : Value → Shared → Prop) : Prop :=
  ∀ h tk, St c.g c.L l n h → codeAny (model c.P c.w) c.A cd (fun r s' => match r with | .ok (.ret v) => Out c Q v s' | .ok _ => False | .error e => E e s') { c.r with heap := h, toks := tk }
abbrev Cx.make (c : Cx) (C : Addr) (pos : List Value) (kw : List (Str × Value)) : Cx := { c with A := c.A.under (.builtin "type.__call__" ⟨.ref C :: pos, kw⟩) }
theorem Cok.make {K : Frag} {c : Cx} {d : Nat} (V : Cok K c (d + 1)) (C : Addr) (pos : List Value) (kw : List (Str × Value)) : Cok K (c.make C pos kw) d := ⟨V.ex, V.X, V.code, V.hh, V.guards, by have := V.room; show c.A.depth + 1 + d < _; omega, by have := V.units; show c.A.units + 1 + 8 * d < _; omega⟩

section
variable {K : Frag} {c : Cx} {d : Nat} {l : Loc} {n n' : Led} {E : Value → Shared → Prop}
theorem St.ofNews {g : Heap} {L : Addr} {l : Loc} {n n' : Led} {h h' : Heap} {m : Str → Option Value} (S : St g L l n h) (F : Fr g L h' m) (hk : ∀ p ∈ l, m p.1 = some p.2) (nd : (n'.map (·.1)).Nodup) (hn : ∀ p ∈ n', ∃ o, h'.get? p.1 = some o ∧ p.1 ≠ L ∧ g.get? p.1 = none ∧ p.2 o) : St g L l n' h' :=
  ⟨⟨m, F, hk⟩, S.nd, nd, fun p hp => let ⟨o, a, b, c, e⟩ := hn p hp; ⟨b, c, o, a, e⟩⟩
theorem inst_of {g : Heap} {L : Addr} {h : Heap} {x dx C : Addr} {a : Loc} (S : St g L l n h) (hx : (x, INST C dx) ∈ n) (hd : (dx, ATT a) ∈ n) : ∃ es k, ENT a es ∧ h.get? dx = some (dictOf es k) ∧ InstAt h x (instObj C dx) C (some (dictOf es k)) := by
  obtain ⟨o, ho, rfl⟩ := S.get hx
  obtain ⟨o2, ho2, es, k, rfl, e⟩ := S.get hd
  exact ⟨es, k, e, ho2, ho, rfl, rfl, ho2⟩
theorem GA_own {x dx C : Addr} {a : Loc} {name : Str} {v : Value} {expr : Bool} {attr : Option Value} {Q : Value → Loc → Led → Prop} (V : Cok K c d) (hx : (x, INST C dx) ∈ n) (hd : (dx, ATT a) ∈ n) (hl : a.lookup name = some v) (hg : plainGet K C name = true) (hh : hasDictIn K C = true)
    (ha : findIn K (.ref C) name = some attr) (hn : noGet K attr = true) (hv : handedIn v = true) (q : Q v l n) : W c l n (getAttr (.ref x) name expr) Q E := fun h tk S => by
  obtain ⟨es, k, e, _, I⟩ := inst_of S hx hd
  obtain ⟨m, F, hk⟩ := S.fr
  exact get_own (s := { c.r with heap := h, toks := tk }) F V.X I hg hh ha hn (by rw [e.get, hl]) hv (.mk S q)
theorem GM_inst {x dx C f : Addr} {a : Loc} {name : Str} {pl : Sem Bool} {Q : Value × List Value → Loc → Led → Prop} (V : Cok K c d) (hx : (x, INST C dx) ∈ n) (hd : (dx, ATT a) ∈ n) (hl : a.lookup name = none) (hg : plainGet K C name = true)
    (hf : findIn K (.ref C) name = some (some (.ref f))) (ht : isFn K (.ref f) = true) (q : Q (.ref f, [.ref x]) l n) : W c l n (getMethod (.ref x) name pl) Q E := fun h tk S => by
  obtain ⟨es, k, e, _, I⟩ := inst_of S hx hd
  obtain ⟨m, F, hk⟩ := S.fr
  exact method_inst (s := { c.r with heap := h, toks := tk }) F V.X I hg hf ht (by rw [e.get, hl]) (.mk S q)
theorem SA_dict {x dx C : Addr} {a a' : Loc} {name : Str} {v : Value} {Q : Unit → Loc → Led → Prop} (V : Cok K c d) (hx : (x, INST C dx) ∈ n) (P : LSet dx (ATT a) (ATT a') n n') (hp' : Put name v a a') (hz : a'.length ≤ 1000)
    (hs : findIn K (.ref C) "__setattr__" = some (some (.builtin "object.__setattr__"))) (hp : plainOver K C = true) (ht : takerIn K C name = some none) (hh : hasDictIn K C = true) (q : Q () l n') : W c l n (setAttr (.ref x) name v) Q E := fun h tk S => by
  obtain ⟨es, k, e, hdx, I⟩ := inst_of S hx P.mem
  obtain ⟨m, F, hk⟩ := S.fr
  obtain ⟨r, p1, p2⟩ := P.perm
  have S1 := S.perm p1
  have nd := S1.own.1
  rw [List.map_cons, List.nodup_cons] at nd
  have hnews : newsAt h ((dx, ATT a) :: r) = (dx, dictOf es k) :: newsAt h r := by
    show (dx, objAt h dx) :: newsAt h r = _
    rw [objAt_of hdx]
  refine set_dict (s := { c.r with heap := h, toks := tk }) (news := (dx, dictOf es k) :: newsAt h r) F V.X (hnews ▸ S1.own.news) I rfl hs hp ht hh (by rw [e.get]; rfl) rfl (.head fun p hp => ?_) ?_ fun h' F' N' => ?_
  · obtain ⟨q, hq, rfl⟩ := List.mem_map.mp hp
    exact fun e => nd.1 (List.mem_map.mpr ⟨q, hq, e⟩)
  · rw [(e.put hp' _ _).len]; exact hz
  · refine .mk (n := n') (St.perm (n := (dx, ATT a') :: r) (S1.ofNews F' hk (by rw [List.map_cons, List.nodup_cons]; exact nd) fun p hp => ?_) p2.symm) q
    rcases List.mem_cons.mp hp with rfl | hp
    · have z := N' _ (List.mem_cons_self ..)
      exact ⟨_, z.1, z.2.1, z.2.2, _, _, rfl, e.put hp' _ _⟩
    · have z := N' _ (List.mem_cons_of_mem _ (List.mem_map_of_mem (f := fun p => (p.1, objAt h p.1)) hp))
      exact ⟨_, z.1, z.2.1, z.2.2, S1.own.desc _ (List.mem_cons_of_mem _ hp)⟩
theorem C_class {C fI : Addr} {pos : List Value} {kw : List (Str × Value)} {Q : Value → Loc → Led → Prop} (V : Cok K c d) (hm : makesIn K C = true) (hi : findIn K (.ref C) "__init__" = some (some (.ref fI))) (hf : isFn K (.ref fI) = true)
    (H : ∀ x dx, WCode (c.make C pos kw) l ((x, INST C dx) :: (dx, ATT []) :: n) (.call (.ref fI) ⟨.ref x :: pos, kw⟩) (fun v l' n' => v = .none ∧ Q (.ref x) l' n') E) : W c l n (call (.ref C) pos kw) Q E := fun h tk S => by
  obtain ⟨m, F, hk⟩ := S.fr
  refine call_cls (s := { c.r with heap := h, toks := tk }) F V.X S.own.news hm hi hf fun x dx h' F' N' hlt hlt2 => ?_
  refine codeAny_mono (H x dx h' tk (S.ofNews F' hk ?_ fun p hp => ?_)) fun r s' z => ?_
  · rw [List.map_cons, List.map_cons, List.nodup_cons, List.nodup_cons]
    refine ⟨fun hm => ?_, fun hm => ?_, S.own.1⟩
    · rcases List.mem_cons.mp hm with e | hm
      · exact absurd e (Nat.ne_of_gt hlt2)
      · obtain ⟨p, hp, e⟩ := List.mem_map.mp hm
        have := hlt _ (List.mem_map_of_mem (f := fun p => (p.1, objAt h p.1)) hp)
        exact absurd e (Nat.ne_of_lt (Nat.lt_trans this hlt2))
    · obtain ⟨p, hp, e⟩ := List.mem_map.mp hm
      exact absurd e (Nat.ne_of_lt (hlt _ (List.mem_map_of_mem (f := fun p => (p.1, objAt h p.1)) hp)))
  · rcases List.mem_cons.mp hp with rfl | hp
    · have z := N' _ (List.mem_cons_self ..)
      exact ⟨_, z.1, z.2.1, z.2.2, rfl⟩
    · rcases List.mem_cons.mp hp with rfl | hp
      · have z := N' _ (List.mem_cons_of_mem _ (List.mem_cons_self ..))
        exact ⟨_, z.1, z.2.1, z.2.2, [], 0, rfl, .nil⟩
      · have z := N' _ (List.mem_cons_of_mem _ (List.mem_cons_of_mem _ (List.mem_map_of_mem (f := fun p => (p.1, objAt h p.1)) hp)))
        exact ⟨_, z.1, z.2.1, z.2.2, S.own.desc _ hp⟩
  · cases r with
    | error e => exact z
    | ok f =>
      cases f with
      | ret v =>
        obtain ⟨h2, tk2, l2, n2, rfl, S2, rfl, q⟩ := z
        exact ⟨rfl, h2, tk2, l2, n2, rfl, S2, q⟩
      | next => exact z.elim
      | brk => exact z.elim
      | cont => exact z.elim

variable {name qual : Str} {params : Arguments} {body : List Stmt} {scope : Scope} {dV kV doc pm cdv ct oc : Value} {an od : Option Addr} {osl : Array (Option Value)} {f : Addr} {args : List Value} {kw : List (Str × Value)} {binds lb : Loc} {Q : Value → Loc → Led → Prop}
  {cs : Addr → List (Addr × Option Value)}
theorem WCode_defC (V : Cok K c (d + 1)) (ho : K.lookup f = some ⟨oc, od, .func (fnX name qual params body scope [] dV kV doc pm an cdv ct), osl⟩) (hcd : codeIn K cdv qual = true)
    (hbind : ∀ s : Shared, K.In s.heap → BindsTo s (fnX name qual params body scope [] dV kV doc pm an cdv ct) ⟨args, kw⟩ binds) (hkind : kindsOk scope.names binds = true) (hnd : (binds.map (·.1)).Nodup) (hlb : lbOf scope.names binds = lb) (hcn : ((cellsFrom 0 scope.names []).map (·.1)).Nodup)
    (hcs : ∀ L : Addr, (cellsFrom (L + 1) scope.names []).map (fun p => (p.2, bindC (fun x => scope.names.lookup x) binds (fun _ => none) p.1)) = cs L) (hcd' : ∀ L, ((cs L).map (·.1)).Nodup) (hln : (lb.map (·.1)).Nodup)
    (H : ∀ L F, Cok K (c.sub (envOfC qual scope L f cdv) L) d → Waits F → c.L < L → W (c.sub (envOfC qual scope L f cdv) L) lb ((cs L).map (fun p => (p.1, CE p.2)) ++ (c.L, F) :: n) (execs body (envOfC qual scope L f cdv)) (fun fl _ n' => Back c.L F (Q (flRet fl) l) n') (Leaves c (envOfC qual scope L f cdv) E))
    (hco : scope.isCoroutine = false := by with_unfolding_all rfl) (hgen : scope.isGenerator = false := by with_unfolding_all rfl) (hk : scope.kind = .function := by with_unfolding_all rfl) : WCode c l n (.call (.ref f) ⟨args, kw⟩) Q E := fun h tk S => by
  obtain ⟨p, loose, mean, mg, mb, outer, T, hA⟩ := V.ex
  obtain ⟨m, F, k⟩ := S.fr
  have X := V.X.keeps F.keep
  refine codeAny_call_function (fd := fnX name qual params body scope [] dV kV doc pm an cdv ct) (by have := V.room; omega) (X _ _ ho) rfl hco hgen rfl (codeRec_of X hcd) ?_
  refine wpAny_mono (bindC_env V hbind hkind hnd hlb hcn hcs hcd' hk _ X (Nat.le_of_lt (Nat.lt_of_le_of_lt F.above F.ns.lt))) (fun bs s₁ h₁ => wpAny_mono h₁ (fun env s₂ h₂ => ?_) fun _ _ x => x.elim) fun _ _ x => x.elim
  obtain ⟨rfl, h₁, tk₁, rfl, keep, m', ns, hm, own⟩ := h₂
  refine ⟨(T.nolimit.keeps F.keep).keeps keep, codeAny_func ?_⟩
  have S₁ := S.enter F rfl keep ns hm hln
  have O := own _ (fun p hp => by
    rcases List.mem_cons.mp hp with rfl | hp
    · exact F.ns.lt
    · exact S.lt hp) S₁.own
  refine wpAny_mono ((H h.objs.size (FRM m) (V.deep rfl hk) (FRM.waits m) F.ns.lt).run ⟨S₁.fr, S₁.nd, O⟩ fun fl h' tk' l' n' S' q => ?_) (fun _ _ x => x) fun e s' he => wpAny_mono he (fun _ _ x => x) fun _ _ x => x.elim
  obtain ⟨n'', q, m₂, hperm, hsub⟩ := q
  have q' : ∀ v, v = flRet fl → Q v l n'' := fun v e => e ▸ q
  exact .mk ((S'.perm hperm).leave hsub F.above k S.nd) (q' _ (by cases fl <;> rfl))
end
end Mine
end
section
open PySem PySem.W PySem.Calls PyProof.Rows
open PySem.Sem (wp)
set_option Elab.async false
set_option maxRecDepth 100000
set_option linter.unusedVariables false
namespace Mine
section
variable {K : Frag} {c : Cx} {d : Nat} {l : Loc} {n n' : Led} {E : Value → Shared → Prop} {Q : Value → Loc → Led → Prop} {a b : Addr} {vs ws : List Value} {t u : Tok}
theorem newsLt {g : Heap} {L : Addr} {h : Heap} (S : St g L l n h) {D : Addr} (hD : h.objs.size ≤ D) : ∀ p ∈ newsAt h n, p.1 < D := fun p hp => by
  obtain ⟨q, hq, rfl⟩ := List.mem_map.mp hp
  exact Nat.lt_of_lt_of_le (S.lt hq) hD
theorem St.hd {g : Heap} {L : Addr} {h h' : Heap} {m : Str → Option Value} {D : Addr} {o : Obj} {ds : Desc} (S : St g L l n h) (hk : ∀ p ∈ l, m p.1 = some p.2) (F' : Fr g L h' m) (N' : News g L h' ((D, o) :: newsAt h n)) (hlt : ∀ p ∈ newsAt h n, p.1 < D) (hd : ds o) : St g L l ((D, ds) :: n) h' := by
  refine S.ofNews F' hk ?_ fun p hp => ?_
  · rw [List.map_cons, List.nodup_cons]
    refine ⟨fun hm => ?_, S.own.1⟩
    obtain ⟨p, hp, e⟩ := List.mem_map.mp hm
    exact absurd e (Nat.ne_of_lt (hlt _ (List.mem_map_of_mem (f := fun p => (p.1, objAt h p.1)) hp)))
  · rcases List.mem_cons.mp hp with rfl | hp
    · have z := N' _ (List.mem_cons_self ..)
      exact ⟨_, z.1, z.2.1, z.2.2, hd⟩
    · have z := N' _ (List.mem_cons_of_mem _ (List.mem_map_of_mem (f := fun p => (p.1, objAt h p.1)) hp))
      exact ⟨_, z.1, z.2.1, z.2.2, S.own.desc _ hp⟩
theorem O_mulL {x : Int} (k : Knows c n (·.IsList a vs.toArray)) (h0 : 0 ≤ x) (h1 : vs.length * x.toNat ≤ 256) (h2 : x < 2 ^ 62) (e : (List.replicate x.toNat vs).flatten = ws) (q : ∀ D, Q (.ref D) l ((D, LST ws) :: n)) : W c l n (binaryOp .Mult (.ref a) (.int x t)) Q E := fun h tk S => by
  obtain ⟨m, F, hk⟩ := S.fr
  exact KMa.mul (s := { c.r with heap := h, toks := tk }) F S.own.news (k l h S) (by omega) (by omega) h1 e fun D h' F' N' hlt => .mk (S.hd hk F' N' hlt ⟨0, rfl⟩) (q D)
theorem C_listL (k : Knows c n (·.IsList a vs.toArray)) (hz : vs.length ≤ sizeLine) (q : ∀ D, Q (.ref D) l ((D, LST vs) :: n)) : W c l n (call (.type "list") [.ref a]) Q E := fun h tk S => by
  obtain ⟨o, ho, hc, kk, hd⟩ := k l h S
  refine call_list_seq (s := { c.r with heap := h, toks := tk }) a (.inl rfl) ho hc hd (fun h' c' keep hD => ?_) (by simpa using hz)
  exact .mk (S.fresh (d := LST vs) (Nat.le_refl _) keep hD ⟨c', rfl⟩) (q _)
theorem C_tupL (k : Knows c n (·.IsList a vs.toArray)) (hz : vs.length ≤ sizeLine) (q : ∀ D, Q (.ref D) l ((D, TUP vs) :: n)) : W c l n (call (.type "tuple") [.ref a]) Q E := fun h tk S => by
  refine call_tuple_list (s := { c.r with heap := h, toks := tk }) (k l h S) (fun h' keep => ?_) (by simpa using hz)
  exact .mk ((S.keeps keep).push ⟨0, rfl⟩) (q _)
theorem O_addT (ka : Knows c n (IsTup · a vs.toArray)) (kb : Knows c n (IsTup · b ws.toArray)) (h1 : vs ≠ []) (h2 : ws ≠ []) (hz : vs.length + ws.length ≤ sizeLine) (q : ∀ D, Q (.ref D) l ((D, TUP (vs ++ ws)) :: n)) : W c l n (binaryOp .Add (.ref a) (.ref b)) Q E := fun h tk S => by
  obtain ⟨m, F, hk⟩ := S.fr
  refine add_tuples (s := { c.r with heap := h, toks := tk }) F S.own.news (ka l h S) (kb l h S) (fun e => absurd e h1) (fun _ e => absurd e h2) (fun _ _ h' F' N' => ?_) hz
  exact .mk (S.hd hk F' N' (newsLt S (Nat.le_refl _)) ⟨0, rfl⟩) (q _)
theorem O_addL (ka : Knows c n (·.IsList a vs.toArray)) (kb : Knows c n (·.IsList b ws.toArray)) (hz : vs.length + ws.length ≤ sizeLine) (q : ∀ D, Q (.ref D) l ((D, LST (vs ++ ws)) :: n)) : W c l n (binaryOp .Add (.ref a) (.ref b)) Q E := fun h tk S => by
  obtain ⟨m, F, hk⟩ := S.fr
  refine add_lists (s := { c.r with heap := h, toks := tk }) F S.own.news (ka l h S) (kb l h S) (fun h' F' N' => ?_) hz
  exact .mk (S.hd hk F' N' (newsLt S (Nat.le_refl _)) ⟨0, rfl⟩) (q _)
theorem X_list {i : Int} {v : Value} {Q : Unit → Loc → Led → Prop} (P : LSet a (LST vs) (LST (vs.set i.toNat v)) n n') (h0 : 0 ≤ i) (h1 : i < 2 ^ 62) (hn : i < vs.length) (q : Q () l n') : W c l n (setItem (.ref a) (.int i t) v) Q E := fun h tk S => by
  obtain ⟨o, ho, k, rfl⟩ := S.get P.mem
  refine ki_setAt (s := { c.r with heap := h, toks := tk }) (n := k) ho h0 (by omega) (by simpa using hn) ?_
  refine .mk (S.lset P (fun b o hb e => (Heap.get?_update_other _ _ (Ne.symm hb)).trans e) (Heap.get?_update_self _ ho rfl) ⟨if (vs.toArray.setIfInBounds i.toNat v).size == vs.toArray.size then k else k + 1, ?_⟩) q
  rw [← List.setIfInBounds_toArray]
  rfl
theorem C_lenL (k : Knows c n (·.IsList a vs.toArray)) (hz : vs.length ≤ sizeLine) (q : ∀ t, Q (.int (vs.length : Int) t) l n) : W c l n (call (.builtin "len") [.ref a]) Q E := fun h tk S =>
  PyProof.Rows.len_list (s := { c.r with heap := h, toks := tk }) (k l h S) (by rw [sizeLine_eq] at hz; simp; omega) (.mk S (by have z := q (tk + 1); simpa using z))
theorem T_itemL {i : Int} {v : Value} {e s : Expr} (k : Knows c n (IsTup · a vs.toArray)) (h0 : 0 ≤ i) (h1 : i < 2 ^ 62) (hv : vs[i.toNat]? = some v) (q : Q v l n)
    (hs : subscripted s false (.ref a) (.int i t) = operate [.ref a, .int i t] (getItem (.ref a) (.int i t)) := by with_unfolding_all rfl) : W c l n (subscriptTail e s (.ref a) (.int i t)) Q E := fun h tk S => by
  have hlt : i.toNat < vs.length := (List.getElem?_eq_some_iff.mp hv).1
  refine item_tupleT (s := { c.r with heap := h, toks := tk }) (j := i.toNat) (k l h S) (by omega) (by omega) ?_ hv (.mk S q) hs
  have hn : ¬ i < 0 := by omega
  have hl : i < (vs.length : Int) := by omega
  simp [seqIndex?, hn, h0, hl]
theorem E_sliceLst {env : Env} {e : Expr} {lower upper : Option Expr} {p pos : Pos}
    (H : W c l n (eval e env) (fun o l1 n1 => W c l1 n1 (evalPart lower env) (fun v1 l2 n2 => W c l2 n2 (evalPart upper env) (fun v2 l3 n3 => ∃ ax vs lo hi, o = .ref ax ∧ Knows c n3 (·.IsList ax (List.toArray vs)) ∧ IsPart v1 lo ∧ IsPart v2 hi ∧ vs.length ≤ sizeLine ∧ ∀ D, Q (.ref D) l3 ((D, LST (kms_pick vs lo hi)) :: n3)) E) E) E)
    (ht : ∀ o r, letTemporaryGo e o r = pure () := by intro _ _; with_unfolding_all rfl) : W c l n (eval (.Subscript e (.Slice lower upper none p) pos) env) Q E := fun h tk S => by
  refine wpAny_Subscript_list_slice (H.run S fun o h1 tk1 l1 n1 S1 q1 => q1.run S1 fun v1 h2 tk2 l2 n2 S2 q2 => q2.run S2 fun v2 h3 tk3 l3 n3 S3 q3 => ?_) ht
  obtain ⟨ax, vs, lo, hi, rfl, k, p1, p2, hz, q⟩ := q3
  refine ⟨ax, vs.toArray, lo, hi, rfl, k l3 h3 S3, by simpa using hz, p1, p2, ?_⟩
  have S4 := S3.pushDrop { cls := .type "slice", data := .fields #[v1, v2, .none] }
  have z := S4.push (o := { cls := .type "list", data := .seq (slicePick vs.toArray lo hi none) }) (d := LST (kms_pick vs lo hi)) ⟨0, by rw [kms_pick_eq]⟩
  rw [Heap.size_push] at z
  exact .mk z (q _)
theorem pick_up {vs : List Value} {y : Int} (h : 0 ≤ y) : kms_pick vs none (some y) = vs.take y.toNat := by
  show (vs.drop 0).take ((if y < 0 then vs.length - (-y).toNat else min y.toNat vs.length) - 0) = _
  rw [if_neg (by omega), List.drop_zero, Nat.sub_zero, ← List.take_take, List.take_length]
theorem pick_from {vs : List Value} {x : Int} (h : 0 ≤ x) : kms_pick vs (some x) none = vs.drop x.toNat := by
  show (vs.drop (if x < 0 then vs.length - (-x).toNat else min x.toNat vs.length)).take (vs.length - (if x < 0 then vs.length - (-x).toNat else min x.toNat vs.length)) = _
  rw [if_neg (by omega), List.take_of_length_le (by simp)]
  by_cases hh : x.toNat ≤ vs.length
  · rw [Nat.min_eq_left hh]
  · rw [Nat.min_eq_right (by omega), List.drop_of_length_le (Nat.le_refl _), List.drop_of_length_le (by omega)]
theorem E_upL {env : Env} {e b : Expr} {p pos : Pos}
    (H : W c l n (eval e env) (fun o l1 n1 => W c l1 n1 (eval b env) (fun v2 l3 n3 => ∃ ax vs y t, o = .ref ax ∧ Knows c n3 (·.IsList ax (List.toArray vs)) ∧ v2 = .int y t ∧ 0 ≤ y ∧ vs.length ≤ sizeLine ∧ ∀ D, Q (.ref D) l3 ((D, LST (vs.take y.toNat)) :: n3)) E) E)
    (ht : ∀ o r, letTemporaryGo e o r = pure () := by intro _ _; with_unfolding_all rfl) : W c l n (eval (.Subscript e (.Slice none (some b) none p) pos) env) Q E :=
  E_sliceLst (H.mono fun o l1 n1 q => W_pure (q.mono fun v2 l3 n3 q => by
    obtain ⟨ax, vs, y, t, rfl, k, rfl, h1, hz, q⟩ := q
    exact ⟨ax, vs, none, some y, rfl, k, .none, .int _ _, hz, by rw [pick_up h1]; exact q⟩)) ht
theorem E_lowL {env : Env} {e b : Expr} {p pos : Pos}
    (H : W c l n (eval e env) (fun o l1 n1 => W c l1 n1 (eval b env) (fun v2 l3 n3 => ∃ ax vs y t, o = .ref ax ∧ Knows c n3 (·.IsList ax (List.toArray vs)) ∧ v2 = .int y t ∧ 0 ≤ y ∧ vs.length ≤ sizeLine ∧ ∀ D, Q (.ref D) l3 ((D, LST (vs.drop y.toNat)) :: n3)) E) E)
    (ht : ∀ o r, letTemporaryGo e o r = pure () := by intro _ _; with_unfolding_all rfl) : W c l n (eval (.Subscript e (.Slice (some b) none none p) pos) env) Q E :=
  E_sliceLst (H.mono fun o l1 n1 q => q.mono fun v1 l3 n3 q => W_pure (by
    obtain ⟨ax, vs, y, t, rfl, k, rfl, h1, hz, q⟩ := q
    exact ⟨ax, vs, some y, none, rfl, k, .int _ _, .none, hz, by rw [pick_from h1]; exact q⟩)) ht
end
end Mine
end
section
open PySem PySem.W PySem.Calls PyProof.Rows
open PySem.Sem (wp)
set_option Elab.async false
set_option maxRecDepth 100000
set_option linter.unusedVariables false
namespace Mine
section
variable {K : Frag} {c : Cx} {d : Nat} {l : Loc} {n n' : Led} {E : Value → Shared → Prop}
theorem SI_tuple {a ax : Addr} {i : Nat} {Q : Value → Loc → Led → Prop} (hm : (a, ITT ax i) ∈ n) (q : Q (.ref a) l n) : W c l n (pyIter (.ref a)) Q E := fun h tk S => by
  obtain ⟨o, ho, hc, hd⟩ := S.get hm
  exact wpAny_pyIter_tupleiter (s := { c.r with heap := h, toks := tk }) ⟨o, ho, hc, hd⟩ (.mk S q)
/-- a dot -/
abbrev Px := UInt8 × UInt8 × UInt8 × UInt8
def pxB (p : Px) : List UInt8 := [p.1, p.2.1, p.2.2.1, p.2.2.2]
def pxI (p : Px) : List Int := (pxB p).map fun b => (b.toNat : Int)
def pxOk (p : Px) : Prop := p = (0, 0, 0, 0) ∨ p.2.2.2 = 255
def Col (n : Led) (v : Value) (p : Px) : Prop := ∃ a ws, v = .ref a ∧ IntsAre ws (pxI p) ∧ ((a, TUP ws) ∈ n ∨ (a = 125 ∧ ws = [.int 0 346, .int 0 347, .int 0 348, .int 0 349]))
theorem Col.mono {v : Value} {p : Px} (h : Col n v p) (k : ∀ x ∈ n, x ∈ n') : Col n' v p := by
  obtain ⟨a, ws, e, i, z⟩ := h
  exact ⟨a, ws, e, i, z.imp (k _) id⟩
theorem Col.kn {v : Value} {p : Px} (V : Cok K c d) (hk : K.lookup 125 = some { cls := .type "tuple", data := .seq #[.int 0 346, .int 0 347, .int 0 348, .int 0 349] 0 }) (h : Col n v p) : ∃ a ws, v = .ref a ∧ IntsAre ws (pxI p) ∧ Knows c n (IsTup · a ws.toArray) := by
  obtain ⟨a, ws, rfl, hi, z⟩ := h
  refine ⟨a, ws, rfl, hi, ?_⟩
  rcases z with z | ⟨rfl, rfl⟩
  · exact .tup z
  · intro l h S
    exact ⟨_, S.keep _ _ (V.X _ _ hk), rfl, 0, rfl⟩
/-- a row of dots -/
inductive Cols (n : Led) : List Value → List Px → Prop
  | nil : Cols n [] []
  | cons {v p vs ps} : Col n v p → Cols n vs ps → Cols n (v :: vs) (p :: ps)
theorem Cols.mono {vs : List Value} {ps : List Px} (h : Cols n vs ps) (k : ∀ x ∈ n, x ∈ n') : Cols n' vs ps := by
  induction h with
  | nil => exact .nil
  | cons h _ ih => exact .cons (h.mono k) ih
theorem Cols.len {vs : List Value} {ps : List Px} (h : Cols n vs ps) : vs.length = ps.length := by
  induction h with
  | nil => rfl
  | cons _ _ ih => simp [ih]
theorem Cols.at {vs : List Value} {ps : List Px} (h : Cols n vs ps) : ∀ {i : Nat} {v : Value}, vs[i]? = some v → ∃ p, ps[i]? = some p ∧ Col n v p := by
  induction h with
  | nil => intro i v e; simp at e
  | cons h _ ih =>
    intro i v e
    cases i with
    | zero => simp at e; subst e; exact ⟨_, rfl, h⟩
    | succ i => simpa using ih (by simpa using e)
theorem Cols.set {vs : List Value} {ps : List Px} (h : Cols n vs ps) {v : Value} {p : Px} (hv : Col n v p) : ∀ i : Nat, Cols n (vs.set i v) (ps.set i p) := by
  induction h with
  | nil => intro i; exact .nil
  | cons h r ih =>
    intro i
    cases i with
    | zero => exact .cons hv r
    | succ i => exact .cons h (ih i)
theorem ints3 {ws : List Value} {a b e : Int} (h : IntsAre ws [a, b, e]) : ∃ t1 t2 t3, ws = [.int a t1, .int b t2, .int e t3] := by
  cases h with
  | cons _ t1 h => cases h with
    | cons _ t2 h => cases h with
      | cons _ t3 h => cases h; exact ⟨_, _, _, rfl⟩
theorem ints4 {ws : List Value} {a b e f : Int} (h : IntsAre ws [a, b, e, f]) : ∃ t1 t2 t3 t4, ws = [.int a t1, .int b t2, .int e t3, .int f t4] := by
  cases h with
  | cons _ t1 h => cases h with
    | cons _ t2 h => cases h with
      | cons _ t3 h => cases h with
        | cons _ t4 h => cases h; exact ⟨_, _, _, _, rfl⟩
end
end Mine
end
section
open PySem PySem.W PySem.Calls PyProof.Rows
open PySem.Sem (wp)
set_option Elab.async false
set_option maxRecDepth 100000
set_option linter.unusedVariables false
namespace Mine
inductive Pick (p : Addr × Desc) : Led → Led → Prop
  | head {r} : Pick p (p :: r) r
  | tail {q r r'} : Pick p r r' → Pick p (q :: r) (q :: r')
theorem Pick.perm {p : Addr × Desc} {n n' : Led} (h : Pick p n n') : n.Perm (p :: n') := by
  induction h with
  | head => exact .refl _
  | tail _ ih => exact (ih.cons _).trans (.swap ..)
theorem Has.pick {p : Addr × Desc} {n n' m : Led} (P : Pick p n n') (h : Has n' m) : Has n (p :: m) := (Has.of_perm P.perm).trans (h.cons p)
section
variable {K : Frag} {c : Cx} {d : Nat} {l : Loc} {n n' : Led} {E : Value → Shared → Prop} {env : Env} {Q : Value → Loc → Led → Prop}
theorem E_one {op : BoolOp} {e : Expr} {pos : Pos} (H : W c l n (eval e env) Q E) : W c l n (eval (.BoolOp op [e] pos) env) Q E := fun h tk S => BoolOp_one (H h tk S)
theorem E_and {e₁ e₂ : Expr} {rest : List Expr} {pos : Pos} (H : W c l n (eval e₁ env) (fun v l1 n1 => W c l1 n1 (truthy v) (fun b l2 n2 => if b = true then W c l2 n2 (eval (.BoolOp .And (e₂ :: rest) pos) env) Q E else Q v l2 n2) E) E) : W c l n (eval (.BoolOp .And (e₁ :: e₂ :: rest) pos) env) Q E := fun h tk S =>
  BoolOp_and (H.run S fun v h1 tk1 l1 n1 S1 q => q.run S1 fun b h2 tk2 l2 n2 S2 q2 => by
    cases b with
    | true => simp only [if_true] at q2 ⊢; exact q2 h2 tk2 S2
    | false => simp only [Bool.false_eq_true, if_false] at q2 ⊢; exact .mk S2 q2)
theorem E_chain {a : Expr} {op₁ op₂ : CmpOp} {ops : List CmpOp} {r₁ r₂ : Expr} {rs : List Expr} {pos : Pos} (H : W c l n (eval a env) (fun x l1 n1 => W c l1 n1 (compareChain pos x (op₁ :: op₂ :: ops) (eval r₁ env :: eval r₂ env :: evalEach rs env)) Q E) E)
    (hb : lastMarks (op₁ :: op₂ :: ops) (r₁ :: r₂ :: rs) = false := by with_unfolding_all rfl) : W c l n (eval (.Compare a (op₁ :: op₂ :: ops) (r₁ :: r₂ :: rs) pos) env) Q E := fun h tk S => Compare_chain (H.seq S) hb
theorem CC_last {a : Value} {op : CmpOp} {r : Sem Value} {pos : Pos} (H : W c l n r (fun b l1 n1 => W c l1 n1 (compareOp op a b) Q E) E) : W c l n (compareChain pos a [op] [r]) Q E := fun h tk S =>
  chain_last (H.run S fun b h1 tk1 l1 n1 S1 q => q h1 tk1 S1)
theorem CC_link {a : Value} {op op' : CmpOp} {ops : List CmpOp} {r r' : Sem Value} {rs : List (Sem Value)} {pos : Pos} (H : W c l n r (fun b l1 n1 => W c l1 n1 (compareOp op a b) (fun z l2 n2 => W c l2 n2 (truthy z) (fun t l3 n3 => if t = true then W c l3 n3 (compareChain pos b (op' :: ops) (r' :: rs)) Q E else Q z l3 n3) E) E) E) :
    W c l n (compareChain pos a (op :: op' :: ops) (r :: r' :: rs)) Q E := fun h tk S =>
  chain_link (H.run S fun b h1 tk1 l1 n1 S1 q => q.run S1 fun z h2 tk2 l2 n2 S2 q2 => q2.run S2 fun t h3 tk3 l3 n3 S3 q3 => by
    cases t with
    | true => simp only [if_true] at q3 ⊢; exact q3 h3 tk3 S3
    | false => simp only [Bool.false_eq_true, if_false] at q3 ⊢; exact .mk S3 q3)
/-- a canvas of one row -/
def cvA (w : Nat) (t1 t2 : Tok) (ce : Addr) : Loc := [(Str.ofString "width", .int (w : Int) t1), (Str.ofString "height", .int 1 t2), (Str.ofString "left", .int 0 363), (Str.ofString "top", .int 0 364), (Str.ofString "cells", .ref ce)]
structure Cv (n : Led) (cv : Addr) (px : List Px) where
  dx : Addr
  ce : Addr
  ra : Addr
  t1 : Tok
  t2 : Tok
  vs : List Value
  hI : (cv, INST 193 dx) ∈ n
  hA : (dx, ATT (cvA px.length t1 t2 ce)) ∈ n
  hC : (ce, LST [.ref ra]) ∈ n
  hR : (ra, LST vs) ∈ n
  cols : Cols n vs px
def Cv.mono {cv : Addr} {px : List Px} (h : Cv n cv px) (k : ∀ x ∈ n, x ∈ n') : Cv n' cv px := { dx := h.dx, ce := h.ce, ra := h.ra, t1 := h.t1, t2 := h.t2, vs := h.vs, hI := k _ h.hI, hA := k _ h.hA, hC := k _ h.hC, hR := k _ h.hR, cols := h.cols.mono k }
theorem lk_hit {x : String} {v : Value} {r : Loc} : ((Str.ofString x, v) :: r).lookup (Str.ofString x) = some v := by rw [List.lookup_cons, beq_self_eq_true]
end
end Mine
end
section
open PySem PySem.W PySem.Calls PyProof.Rows
open PySem.Sem (wp)
set_option Elab.async false
set_option maxRecDepth 100000
set_option linter.unusedVariables false
namespace Mine
theorem xor_in {a b : Int} (k : Nat) (ha : 0 ≤ a ∧ a < 2 ^ k) (hb : 0 ≤ b ∧ b < 2 ^ k) : 0 ≤ Builtin.bitXor a b ∧ Builtin.bitXor a b < 2 ^ k := by
  obtain ⟨a, rfl⟩ := Int.eq_ofNat_of_zero_le ha.1
  obtain ⟨b, rfl⟩ := Int.eq_ofNat_of_zero_le hb.1
  have hc : ((2 ^ k : Nat) : Int) = 2 ^ k := by push_cast; rfl
  have e2 : Builtin.bitAnd (a : Int) (b : Int) = ((a &&& b : Nat) : Int) := by
    unfold Builtin.bitAnd
    have h1 : decide (0 ≤ (a : Int)) = true := by simp
    have h2 : decide (0 ≤ (b : Int)) = true := by simp
    rw [h1, h2]
    simp
  unfold Builtin.bitXor
  rw [bitOr_nat, e2]
  have h1 : a &&& b ≤ a := Nat.and_le_left
  have h2 : a ≤ a ||| b := Nat.left_le_or
  have h3 : a ||| b < 2 ^ k := Nat.or_lt_two_pow (by omega) (by omega)
  omega
section
variable {K : Frag} {c : Cx} {d : Nat} {l : Loc} {n n' : Led} {E : Value → Shared → Prop} {env : Env} {Q : Value → Loc → Led → Prop}
theorem O_eqS {x y : Str} {t u : Tok} (q : Q (.bool (x.cps.toList == y.cps.toList)) l n) : W c l n (compareOp .Eq (.str x t) (.str y u)) Q E := fun h tk S => PySem.P.eq_str (.mk S q)
theorem O_neS {x y : Str} {t u : Tok} (q : Q (.bool (x.cps.toList != y.cps.toList)) l n) : W c l n (compareOp .NotEq (.str x t) (.str y u)) Q E := fun h tk S => PySem.P.ne_str (.mk S q)
theorem G_join {x : Str} {t : Tok} {pl : Sem Bool} {Q : Value × List Value → Loc → Led → Prop} (q : Q (.builtin "str.join", [.str x t]) l n) : W c l n (getMethod (.str x t) "join" pl) Q E := fun h tk S => GM.join (.mk S q)
theorem J_join {D : Addr} {x : Str} {t : Tok} {ls : List (Str × Tok)} (k : Knows c n (·.IsList D (strValues ls).toArray)) (hok : JoinOk x (ls.map (·.1)) = true) (q : ∀ t, Q (.str (Txt.join x (ls.map (·.1))) t) l n) : W c l n (call (.builtin "str.join") [.str x t, .ref D]) Q E := fun h tk S =>
  SC.join (k l h S) rfl hok fun t' k' => .mk S (q t')
theorem O_notInS {a : Addr} {vs : List Value} {ys : List Str} {x : Str} {t : Tok} (k : Knows c n (·.IsList a vs.toArray)) (hi : StrsAre vs ys) (q : Q (.bool (!(ys.any (· == x)))) l n) : W c l n (compareOp .NotIn (.str x t) (.ref a)) Q E := fun h tk S =>
  notin_list_strs (s := { c.r with heap := h, toks := tk }) (k l h S) hi (.mk S q)
theorem J_count {a : Addr} {vs : List Value} {ys : List Str} {x : Str} {t : Tok} (k : Knows c n (·.IsList a vs.toArray)) (hi : StrsAre vs ys) (q : ∀ t, Q (.int (PySem.Spec.countIn (.str x) (ys.map PyData.str)) t) l n) : W c l n (call (.builtin "list.count") [.ref a, .str x t]) Q E := fun h tk S =>
  count_list_strs (s := { c.r with heap := h, toks := tk }) (k l h S) hi (.mk S (q _))
theorem L_neg {a : Addr} {vs : List Value} {i : Int} {t : Tok} {j : Nat} {v : Value} {e s : Expr} (k : Knows c n (·.IsList a vs.toArray)) (h0 : i < 0) (h1 : -(2 ^ 63) ≤ i) (hj : seqIndex? i vs.length = some j) (hv : vs[j]? = some v) (q : Q v l n)
    (hs : subscripted s false (.ref a) (.int i t) = operate [.ref a, .int i t] (getItem (.ref a) (.int i t)) := by with_unfolding_all rfl) : W c l n (subscriptTail e s (.ref a) (.int i t)) Q E := fun h tk S =>
  kde_neg (s := { c.r with heap := h, toks := tk }) (k l h S) h0 h1 hj hv (.mk S q) hs
theorem O_nilL {a b : Addr} {vs : List Value} (hu : c.A.units < cLine) (k1 : Knows c n (·.IsList a vs.toArray)) (k2 : Knows c n (·.IsList b (List.toArray ([] : List Value)))) (hne : vs ≠ []) (q : Q (.bool false) l n) : W c l n (compareOp .Eq (.ref a) (.ref b)) Q E := fun h tk S =>
  SeqAt.eq_list_lengthsAt (s := { c.r with heap := h, toks := tk }) (k1 l h S) (k2 l h S) (by cases vs with | nil => exact absurd rfl hne | cons => simp) hu (.mk S q)
end
end Mine
end
section
open PySem PySem.W PySem.Calls PyProof.Rows
open PySem.Sem (wp)
set_option Elab.async false
set_option maxRecDepth 100000
set_option linter.unusedVariables false
namespace Mine
section
variable {K : Frag} {c : Cx} {d : Nat} {l : Loc} {n n' : Led} {E : Value → Shared → Prop} {env : Env} {Q : Value → Loc → Led → Prop}
theorem GO_list {elts : List Expr} {k : Nat} {pos : Pos} {it ax T : Addr} {i : Nat} {Q : Unit → Loc → Led → Prop} (q : Q () l ((it, ITL ax i) :: n)) : W c l ((it, ITL ax i) :: n) (letOwnedTupleGo (.Tuple elts k pos) (.ref it) (.ref T)) Q E := fun h tk S => by
  obtain ⟨o, ho, hc, hd⟩ := S.get (List.mem_cons_self ..)
  exact wpAny_letOwnedTupleGo_listiter (s := { c.r with heap := h, toks := tk }) (l := ax) (i := i) ⟨o, ho, hc, hd⟩ (.mk S q)
/-- a slice of bytes, whatever expression yields them -/
theorem E_cutBx {env : Env} {e : Expr} {lower upper : Option Expr} {p pos : Pos}
    (H : W c l n (eval e env) (fun o l1 n1 => W c l1 n1 (evalPart lower env) (fun v1 l2 n2 => W c l2 n2 (evalPart upper env) (fun v2 l3 n3 => ∃ x t lo hi, o = .bytes (List.toArray x) t ∧ IsPart v1 lo ∧ IsPart v2 hi ∧ x.length ≤ 16777216 ∧ ∀ t', Q (.bytes (cutB x lo hi).toArray t') l3 n3) E) E) E) : W c l n (eval (.Subscript e (.Slice lower upper none p) pos) env) Q E := fun h tk S => by
  refine Subscript_ (H.run S fun o h1 tk1 l1 n1 S1 q1 => wpAny_Slice (q1.run S1 fun v1 h2 tk2 l2 n2 S2 q2 => q2.run S2 fun v2 h3 tk3 l3 n3 S3 q3 => ?_))
  obtain ⟨x, t, lo, hi, rfl, p1, p2, hz, q⟩ := q3
  rw [evalPart_none]
  refine wpAny_pure (subscriptTail_ops (typeIs_bytes _ _ _) FB.slot_bytes_getitem.lookup (getItem_meets (typeIs_bytes _ _ _) (by decide) FB.slot_bytes_getitem FB.entry_bytes_getitem (FB.args_bytes_getitem_2 _ _) (KBc.meets_slice2 x.toArray t _ p1 p2) ⟨Heap.IsSliceOf.new _ _ _ _, ?_, fun t' k => ?_⟩) rfl (fun r => by cases e <;> rfl))
  · exact Nat.le_trans (KBc.size_picked_le _ lo hi) (by rw [sizeLine_eq]; simpa using hz)
  · rw [cutB_eq]; exact .mk (S3.pushDrop _) (q _)
theorem E_sliceLx {env : Env} {e a : Expr} {p pos : Pos} (H : W c l n (eval e env) (fun o l1 n1 => W c l1 n1 (eval a env) (fun v1 l3 n3 => ∃ x t lo t1, o = .bytes (List.toArray x) t ∧ v1 = .int lo t1 ∧ 0 ≤ lo ∧ x.length ≤ 16777216 ∧ ∀ t', Q (.bytes (x.drop lo.toNat).toArray t') l3 n3) E) E) : W c l n (eval (.Subscript e (.Slice (some a) none none p) pos) env) Q E :=
  E_cutBx (H.mono fun o l1 n1 q => q.mono fun v1 l3 n3 q => W_pure (by
    obtain ⟨x, t, lo, t1, rfl, rfl, h1, hz, q⟩ := q
    exact ⟨x, t, some lo, none, rfl, .int _ _, .none, hz, by rw [cut_low h1]; exact q⟩))
end
end Mine
end
section
open PySem PySem.W PySem.Calls PyProof.Rows
open PySem.Sem (wp)
open AutoSeq1 (wpAny_loadPart')
set_option Elab.async false
set_option maxRecDepth 100000
set_option linter.unusedVariables false
namespace Mine
section
variable {prog : Program} {w : World} {A : Around} {E : Value → Shared → Prop} {s : Shared}
def BIt (b : Array UInt8) (i : Nat) (v : Value) : Prop := ∃ c u, b[i]? = some c ∧ v = .int (c.toNat : Int) u
theorem extend_bytes {R : Result → Shared → Prop} (hh : A.handled = none) (b : Array UInt8) (t : Tok) (S : Addr) (res : Value) (c₀ : Nat) (hS : s.heap.get? S = some { cls := .type "list", data := .seq #[] c₀ }) (hn : b.size ≤ sizeLine)
    (hR : ∀ h' tk acc' c', (∀ a o, a ≠ S → s.heap.get? a = some o → h'.get? a = some o) → h'.get? S = some { cls := .type "list", dict := none, data := .seq acc' c', slots := #[] } → ItemsOf (BIt b) acc' b.size → R (.ok (.ret res)) { s with heap := h', toks := tk }) :
    wpAny (model prog w) A.in1 (Builtin.List.listExtendWith (.ref S) (.bytes b t) res)
      (fun fin s' => match fin with | .done f => R (.ok f) s' | .again c' => c'.quiet = true ∧ codeAny (model prog w) A c' R s') (fun e s' => R (.error e) s') s := by
  have hSlt : S < s.heap.objs.size := Heap.lt_size hS
  have hSf : S ∉ [s.heap.objs.size] := fun hm => Nat.ne_of_lt hSlt (List.mem_singleton.mp hm)
  have W := (KBw.walks (prog := prog) (w := w) (A := A.in1) hh s.heap.objs.size b t).toS
  unfold Builtin.List.listExtendWith
  refine wpAny_bind (wpAny_typeOf (T := "bytes") (v := .bytes b t) (PySem.W.typeIs_bytes _ _ _) ?_)
  have h1 : Builtin.List.listSameRef (.ref S) (.bytes b t) = false := rfl
  have h2 : (Value.type "bytes" == Value.type "list") = false := by decide
  have h3 : (Value.type "bytes" == Value.type "tuple") = false := by decide
  simp only [h1, h2, h3, Bool.or_false, Bool.false_eq_true, if_false]
  refine wpAny_bind (KBw.pyIter_bytes ?_)
  refine wpAny_bind (wpAny_holding ?_)
  unfold Builtin.List.listLengthHint
  refine wpAny_bind (wpAny_specialOf (T := "bytes") (v := .bytes b t) (PySem.W.typeIs_bytes _ _ _) FB.slot_bytes_len.lookup ?_)
  wp_delta
  refine wpAny_bind (wpAny_isInstance (T := "bytes") (v := .bytes b t) (b := true) (PySem.W.typeIs_bytes _ _ _) (by rw [isSubtype_type]; kernel_rfl) ?_)
  show wpAny _ A.in1 (typeOf (Value.bytes b t) >>= _) _ _ _
  refine wpAny_bind (wpAny_typeOf (T := "bytes") (v := .bytes b t) (PySem.W.typeIs_bytes _ _ _) ?_)
  refine wpAny_pure ?_
  rw [if_neg (by decide)]
  have hS₁ : (s.heap.push { cls := .type "bytes_iterator", data := .fields #[.bytes b t, .int 0 0] }).get? S = some { cls := .type "list", data := .seq #[] c₀ } := Heap.get?_push_of_some _ hS
  refine wpAny_pure ⟨plainId_quiet PySem.F.plain_extend_loop _, codeAny_extend_loopS W hn S hSf res b.size 0 _ #[] c₀ rfl (Nat.zero_le _) ⟨_, Heap.get?_push_size _ rfl, rfl, rfl⟩ hS₁ (ItemsOf.nil _) fun s' acc' c' hm hS' hacc => ?_⟩
  rw [Moved.eq_with hm]
  refine hR s'.heap s'.toks acc' c' (fun a o ha e => hm.heap a o (fun hmem => ?_) (Heap.get?_push_of_some _ e)) hS' hacc
  rcases List.mem_cons.mp hmem with e' | hmem
  · exact ha e'
  · exact absurd (Heap.lt_size e) (by rw [List.mem_singleton.mp hmem]; exact Nat.lt_irrefl _)
theorem init_bytes {R : Result → Shared → Prop} (hh : A.handled = none) (b : Array UInt8) (t : Tok) (hn : b.size ≤ sizeLine) (S : Addr) (hS : s.heap.get? S = some { cls := .type "list", data := .seq #[] })
    (hR : ∀ h' tk acc' c', (∀ a o, a ≠ S → s.heap.get? a = some o → h'.get? a = some o) → h'.get? S = some { cls := .type "list", dict := none, data := .seq acc' c', slots := #[] } → ItemsOf (BIt b) acc' b.size → R (.ok (.ret .none)) { s with heap := h', toks := tk }) :
    wpAny (model prog w) A.in1 (Builtin.«list.__init__» ⟨[.ref S, .bytes b t], []⟩)
      (fun fin s' => match fin with | .done f => R (.ok f) s' | .again c' => c'.quiet = true ∧ codeAny (model prog w) A c' R s') (fun e s' => R (.error e) s') s := by
  show wpAny _ _ (do let old ← Builtin.List.listItems (.ref S); Builtin.List.listUpdate (.ref S) (fun _ => #[]); letGo old.toList.reverse; Builtin.List.listExtendWith (.ref S) (.bytes b t) .none) _ _ s
  refine wpAny_bind ?_
  unfold Builtin.List.listItems
  refine wpAny_bind (wpAny_seqItems hS rfl (wpAny_pure ?_))
  show wpAny _ _ (updateSeq S (fun _ => #[]) >>= fun _ => letGo (#[] : Array Value).toList.reverse >>= fun _ => Builtin.List.listExtendWith (.ref S) (.bytes b t) .none) _ _ s
  refine wpAny_bind (wpAny_updateSeq hS rfl ?_)
  have hS₂ := Heap.get?_update_self (Obj.mapSeq (fun _ => (#[] : Array Value))) hS rfl
  have oth : ∀ a o, a ≠ S → s.heap.get? a = some o → (s.heap.update S (Obj.mapSeq (fun _ => (#[] : Array Value)))).get? a = some o :=
    fun a o ha e => (Heap.get?_update_other _ _ (Ne.symm ha)).trans e
  refine wpAny_bind (wpAny_letGo ?_)
  refine extend_bytes hh b t S .none _ hS₂ hn fun h' tk acc' c' hk hS' hacc => ?_
  exact hR h' tk acc' c' (fun a o ha e => hk a o ha (oth a o ha e)) hS' hacc
theorem list_bytes {Q : Value → Shared → Prop} (hh : A.handled = none) (b : Array UInt8) (t : Tok) (hn : b.size ≤ sizeLine)
    (hQ : ∀ h' tk acc' c', (∀ a o, s.heap.get? a = some o → h'.get? a = some o) → h'.get? s.heap.objs.size = some { cls := .type "list", dict := none, data := .seq acc' c', slots := #[] } → ItemsOf (BIt b) acc' b.size → Q (.ref s.heap.objs.size) { s with heap := h', toks := tk }) :
    wpAny (model prog w) A (call (.type "list") [.bytes b t]) Q E s := by
  refine callType_codes (Q₁ := fun obj s₁ => obj = .ref s.heap.objs.size ∧ s₁ = { s with heap := s.heap.push { cls := .type "list", data := .seq #[] } }) PySem.F.called_list (PySem.F.typeCall_list_1 _) PySem.F.entry_list_init
    (code_list_new _ ⟨rfl, rfl⟩) fun obj s₁ h₁ => ?_
  obtain ⟨rfl, rfl⟩ := h₁
  have hS : (s.heap.push { cls := .type "list", data := .seq #[] }).get? s.heap.objs.size = some { cls := .type "list", data := .seq #[] } := Heap.get?_push_size _ rfl
  refine ⟨⟨_, hS, rfl⟩, PySem.F.args_list_init_2 _ _, init_bytes (A := A.in1) hh b t hn _ hS (fun h' tk acc' c' hk hS' hacc => ?_)⟩
  exact ⟨rfl, hQ h' tk acc' c' (fun a o e => hk a o (Nat.ne_of_lt (Heap.lt_size e)) (Heap.get?_push_of_some _ e)) hS' hacc⟩
theorem collect_bytes {Q : List Value → Shared → Prop} (hh : A.handled = none) (b : Array UInt8) (t : Tok) (hn : b.size ≤ sizeLine)
    (hQ : ∀ h' tk acc, (∀ a o, s.heap.get? a = some o → h'.get? a = some o) → ItemsOf (BIt b) acc b.size → Q acc.toList { s with heap := h', toks := tk }) : wpAny (model prog w) A (collect (.bytes b t)) Q E s := by
  unfold collect
  refine wpAny_bind (wpAny_runValue (codeAny_builtin PySem.F.entry_proto_collect ?_))
  rw [Around.under_plainId PySem.F.plain_proto_collect _]
  show wpAny _ A.in1 (newList [] >>= fun l => again (.builtin "list.__iadd__" ⟨[l, .bytes b t], []⟩)) _ _ s
  refine wpAny_bind (wpAny_newObj_type ?_)
  refine wpAny_pure ⟨plainId_quiet PySem.F.plain_list_iadd _, codeAny_builtin PySem.F.entry_list_iadd ?_⟩
  rw [Around.under_plainId PySem.F.plain_list_iadd _]
  show wpAny _ A.in1 (Builtin.List.listExtendWith (.ref s.heap.objs.size) (.bytes b t) (.ref s.heap.objs.size)) _ _ _
  have hS : (s.heap.push { cls := .type "list", data := .seq ([] : List Value).toArray }).get? s.heap.objs.size = some { cls := .type "list", data := .seq #[] } := Heap.get?_push_size _ rfl
  refine extend_bytes (R := fun r s' => match r with
    | .ok (.ret v) => wpAny (model prog w) A (match v with
      | .ref a => do match (← load a).data with
        | .seq xs _ => pure xs.toList
        | _ => unsupported "internal:collect"
      | _ => unsupported "internal:collect") Q E s'
    | .ok _ => False
    | .error e => E e s') (s := { s with heap := s.heap.push { cls := .type "list", data := .seq ([] : List Value).toArray } }) hh b t _ _ 0 hS hn fun h' tk acc' c' hk hS' hacc => ?_
  show wpAny _ A (load s.heap.objs.size >>= _) _ _ _
  refine wpAny_bind (wpAny_load hS' ?_)
  exact wpAny_pure (hQ h' tk acc' (fun a o e => hk a o (Nat.ne_of_lt (Heap.lt_size e)) (Heap.get?_push_of_some _ e)) hacc)
theorem meets_tuple_bytes (b : Array UInt8) (t : Tok) (hsz : b.size ≤ sizeLine) :
    Meets (Builtin.«tuple.__new__» ⟨[.type "tuple", .bytes b t], []⟩)
      (fun A R s => A.handled = none ∧ ∀ (h' : Heap) (tk : Nat) (acc : Array Value), (∀ a o, s.heap.get? a = some o → h'.get? a = some o) → ItemsOf (BIt b) acc b.size →
        R (.ok (.ret (.ref h'.objs.size))) { s with heap := h'.push { cls := .type "tuple", data := .seq acc }, toks := tk }) :=
  .of_wp fun prog w A R s h => by
    obtain ⟨hh, h⟩ := h
    have hsub := sub_tuple_self
    have hinit := init_tuple_lookup
    have hmh := madeHere_tuple
    have hT : s.TypeIs (.bytes b t) "bytes" := rfl
    have hh1 : A.in1.handled = none := hh
    wp_walk using wpAny_typeOf hT, collect_bytes hh1 b t hsz
    intro h' tk acc hk hacc
    show wpAny _ _ (Builtin.Tuple.tupleExact acc.toList.toArray >>= fun v => ret v) _ _ _
    unfold Builtin.Tuple.tupleExact
    refine wpAny_bind (wpAny_newObj_type ?_ (show acc.toList.toArray.size ≤ sizeLine by simp only [Array.toArray_toList]; rw [hacc.1]; exact hsz))
    refine wpAny_pure ⟨_, rfl, ?_⟩
    have e : acc.toList.toArray = acc := by simp
    rw [e]
    exact h h' tk acc hk hacc
theorem tuple_bytes {Q : Value → Shared → Prop} (hh : A.handled = none) (b : Array UInt8) (t : Tok) (hsz : b.size ≤ sizeLine)
    (h : ∀ (h' : Heap) (tk : Nat) (acc : Array Value), (∀ a o, s.heap.get? a = some o → h'.get? a = some o) → ItemsOf (BIt b) acc b.size → Q (.ref h'.objs.size) { s with heap := h'.push { cls := .type "tuple", data := .seq acc }, toks := tk }) :
    wpAny (model prog w) A (call (.type "tuple") [.bytes b t]) Q E s := by
  refine callType_new PySem.F.called_tuple (by decide) (PySem.F.typeCall_tuple_1 _) (PySem.F.newCall_tuple_1 _) (fun obj => PySem.F.args_object_init_2 obj _) PySem.F.entry_tuple_new
    (meets_tuple_bytes b t hsz) ⟨hh, fun h' tk acc hk hacc => ⟨⟨_, Heap.get?_push_size _ rfl, rfl⟩, ?_⟩⟩
  exact h h' tk acc hk hacc
end
theorem BIt.ints {b : List UInt8} {acc : Array Value} (h : ItemsOf (BIt b.toArray) acc b.toArray.size) : IntsAre acc.toList (b.map fun x => (x.toNat : Int)) := by
  obtain ⟨h1, h2⟩ := h
  have key : ∀ (vs : List Value) (bs : List UInt8), vs.length = bs.length → (∀ (i : Nat) (v : Value), vs[i]? = some v → ∃ (c : UInt8) (u : Tok), bs[i]? = some c ∧ v = Value.int (c.toNat : Int) u) → IntsAre vs (bs.map fun x => (x.toNat : Int)) := by
    intro vs
    induction vs with
    | nil => intro bs hl _; cases bs with | nil => exact .nil | cons => simp at hl
    | cons v r ih =>
      intro bs hl hi
      cases bs with
      | nil => simp at hl
      | cons c cs =>
        obtain ⟨c', u, hc, rfl⟩ := hi 0 v rfl
        simp at hc
        subst hc
        exact .cons _ _ (ih cs (by simpa using hl) fun i v hv => by simpa using hi (i + 1) v (by simpa using hv))
  refine key _ _ (by simpa using h1) fun i v hv => ?_
  obtain ⟨c, u, hc, hv⟩ := h2 i v (by simpa using hv)
  exact ⟨c, u, by simpa using hc, hv⟩
def TUPI (ns : List Int) : Desc := fun o => ∃ vs, IntsAre vs ns ∧ TUP vs o
section
variable {c : Cx} {l : Loc} {n n' : Led} {E : Value → Shared → Prop} {Q : Value → Loc → Led → Prop}
theorem C_listB {b : List UInt8} {t : Tok} (hh : c.A.handled = none) (hz : b.length ≤ sizeLine) (q : ∀ D vs, IntsAre vs (b.map fun x => (x.toNat : Int)) → Q (.ref D) l ((D, LST vs) :: n)) : W c l n (call (.type "list") [.bytes b.toArray t]) Q E := fun h tk S => by
  refine list_bytes (s := { c.r with heap := h, toks := tk }) hh b.toArray t (by simpa using hz) fun h' tk' acc c' keep hD hacc => ?_
  exact .mk (S.fresh (d := LST acc.toList) (Nat.le_refl _) keep hD ⟨c', by simp⟩) (q _ _ (BIt.ints hacc))
theorem C_tupB {b : List UInt8} {t : Tok} (hh : c.A.handled = none) (hz : b.length ≤ sizeLine) (q : ∀ D, Q (.ref D) l ((D, TUPI (b.map fun x => (x.toNat : Int))) :: n)) : W c l n (call (.type "tuple") [.bytes b.toArray t]) Q E := fun h tk S => by
  refine tuple_bytes (s := { c.r with heap := h, toks := tk }) hh b.toArray t (by simpa using hz) fun h' tk' acc keep hacc => ?_
  exact .mk ((S.keeps keep).push (d := TUPI _) ⟨acc.toList, BIt.ints hacc, 0, by simp⟩) (q _)
end
end Mine
end
section
open PySem PySem.W PySem.Calls PyProof.Rows
open PySem.Sem (wp)
set_option Elab.async false
set_option maxRecDepth 100000
set_option linter.unusedVariables false
namespace Mine
section
variable {c : Cx} {l : Loc} {n n' : Led} {E : Value → Shared → Prop} {env : Env} {Q : Value → Loc → Led → Prop}
/-- a comprehension with one test whose element makes nothing that stays -/
theorem RKf {cenv : Env} {target elt x : Expr} {C acc it : Addr} {F : Desc} {n2 : Led} {R : Nat → List Value → Prop} {D : Nat → Desc} {N : Led → Prop} {P : Nat → Value → Prop} {len : Nat} {T : List Value → Led → Prop}
    (I : Itr (c.comp C) it D N P len) (hself : ∀ l n Q E, Q (.ref it) l n → (it, D 0) ∈ n → W (c.comp C) l n (pyIter (.ref it)) Q E) (hlen : len ≤ sizeLine) (h0 : R 0 []) (hl : ∀ i ys, R i ys → ys.length ≤ i)
    (hN : ∀ ys, N ((acc, LST ys) :: ((c.L, F) :: n2)))
    (turn : ∀ i ys v d, i < len → R i ys → P i v → W (c.comp C) [] ((it, d) :: (acc, LST ys) :: ((c.L, F) :: n2)) (assign target cenv v) (fun _ l1 n1 => W (c.comp C) l1 n1 (PySem.isTrue x cenv (eval x cenv)) (fun b l2 n2' => if b = true then W (c.comp C) l2 n2' (eval elt cenv) (fun y l3 n3 => R (i + 1) (ys ++ [y]) ∧ Has n3 ((it, d) :: (acc, LST ys) :: ((c.L, F) :: n2))) (fun _ _ => False)
      else R (i + 1) ys ∧ Has n2' ((it, d) :: (acc, LST ys) :: ((c.L, F) :: n2))) fun _ _ => False) fun _ _ => False)
    (fin : ∀ ys n', R len ys → Has n' ((c.L, F) :: n2) → T ys n')
    (go : ∀ i l n v (Q : Unit → Loc → Led → Prop) E, P i v → Q () l ((it, D (i + 1)) :: n) → W (c.comp C) l ((it, D (i + 1)) :: n) (letOwnedTupleGo target (.ref it) v) Q E := by intro i l n v Q E _ q; exact W_eq rfl q) : ReadyK c C acc cenv target elt [x] T it ((c.L, F) :: (acc, LST []) :: (it, D 0) :: n2) := by
  refine ⟨D, N, P, len, (c.L, F) :: n2, fun i ys n => n = (c.L, F) :: n2 ∧ R i ys, I, ?_, ⟨rfl, h0⟩, ?_, hself, fun i ys n h => hl i ys h.2, hlen, ?_, ?_, go⟩
  · exact Has.pick (.tail (.tail .head)) (Has.pick (.tail .head) (Has.refl _))
  · rintro i ys n ⟨rfl, h⟩; exact hN ys
  · rintro i ys n v hi ⟨rfl, h⟩ hv
    refine (turn i ys v _ hi h hv).mono fun _ l1 n1 q => q.mono fun b l2 n2 q => ?_
    cases b with
    | true => simp only [if_true] at q ⊢; exact q.mono fun y l3 n3 ⟨q1, q2⟩ => ⟨_, ⟨rfl, q1⟩, q2⟩
    | false => simp only [Bool.false_eq_true, if_false] at q ⊢; exact ⟨_, ⟨rfl, q.1⟩, q.2⟩
  · rintro ys n ⟨rfl, h⟩
    exact fin ys _ h (Has.refl _)
end
end Mine
end
section
open PySem PySem.W PySem.Calls PyProof.Rows
open PySem.Sem (wp)
set_option Elab.async false
set_option maxRecDepth 100000
set_option linter.unusedVariables false
namespace Mine
/-- an exception just made; an exception -/
def EX0 (C : Addr) : Desc := fun o => ∃ t, o = { cls := .ref C, data := .fields #[.ref t, .none, .none, .none, .bool false, .none] }
def EXC (C : Addr) : Desc := fun o => o.cls = .ref C ∧ ∃ t, o.data = .fields #[.ref t, .none, .none, .none, .bool false, .none]
noncomputable def onlyExc : List Value → Bool
  | .ref _ :: r => onlyExc r
  | l => l == [.type "Exception", .type "BaseException", .type "object"]
theorem refuse_exc (self : Value) : ∀ {l : List Value}, onlyExc l = true → refuseLoop self "__setattr__" l = pure () := by
  intro l
  induction l with
  | nil => intro e; exact absurd e (by decide)
  | cons v r ih =>
    intro e
    cases v with
    | ref c => rw [refuseLoop_ref]; exact ih e
    | _ => rw [show _ :: r = [Value.type "Exception", .type "BaseException", .type "object"] from eq_of_beq e]; exact PySem.F.store_Exception.passes self
theorem onlyExc_has : ∀ {l : List Value}, onlyExc l = true → l.contains (.type "object") = true := by
  intro l
  induction l with
  | nil => intro e; exact absurd e (by decide)
  | cons v r ih =>
    intro e
    cases v with
    | ref c => rw [List.contains_cons, ih e, Bool.or_true]
    | _ => rw [show _ :: r = [Value.type "Exception", .type "BaseException", .type "object"] from eq_of_beq e]; decide
noncomputable def excOver (K : Frag) (C : Addr) : Bool := (clsIn K C).any fun cd => onlyExc cd.mro
section
variable {prog : Program} {w : World} {A : Around} {E : Value → Shared → Prop} {R : Result → Shared → Prop} {s : Shared} {K : Frag} {x C : Addr}
theorem osaX_open {ox : Obj} {od : Option Obj} {name : Str} {tk : Tok} {v : Value} (X : K.In s.heap) (I : InstAt s.heap x ox C od) (hp : excOver K C = true) (ht : takerIn K C name = some none)
    (h : ∀ b, wpAny (model prog w) A.in1 (Builtin.ObjectAttr.storeInOwnDict (.ref x) (.ref C) (.str name tk) name v b)
      (fun fin s' => match fin with | .done f => R (.ok f) s' | .again c' => c'.quiet = true ∧ codeAny (model prog w) A c' R s') (fun e s' => R (.error e) s') s) :
    codeAny (model prog w) A (.call (.builtin "object.__setattr__") ⟨[.ref x, .str name tk, v], []⟩) R s := by
  have SF := PySem.F.store_object
  obtain ⟨cd, hc, ho⟩ := any_some hp
  have ne : cd.mro.isEmpty = false := by cases q : cd.mro with | nil => rw [q] at ho; exact absurd ho (by decide) | cons _ _ => rfl
  have sub : Looks (model prog w) s.heap (isInstance (.ref x) (.type "object")) true := I.type.andThen (looks_mroIn X (by unfold mroIn; rw [hc, Option.bind_some, if_neg (by rw [ne]; decide), onlyExc_has ho]))
  refine codeAny_call_builtin SF.slot.plain SF.entry (@check_slot (model prog w) _ _ s "object.__setattr__" "object" "__setattr__" (.ref x) [.str name tk, v] [] _ SF.kind SF.split sub (SF.args (.ref x) (.str name tk) v) ?_)
  obtain ⟨attr, ha, hr⟩ := Option.bind_eq_some_iff.mp ht
  have hm : Looks (model prog w) s.heap (mroOf (.ref C)) cd.mro := (looks_clsIn X hc).andThen .now
  have L3 : Looks (model prog w) s.heap (Builtin.ObjectAttr.storeTaker? attr) none := by
    cases attr with
    | none => exact .now
    | some a =>
      obtain ⟨b, hb, hbb⟩ := Option.map_eq_some_iff.mp hr
      refine (looks_takesIn X hb).andThen ?_
      cases b
      · exact .now
      · cases hbb
  rw [osa_eq, refuse_eq]
  refine wpAny_bind (wpAny_bind (I.type.here (wpAny_bind (hm.here ?_))))
  rw [refuse_exc _ ho]
  refine wpAny_pure (wpAny_bind (I.type.here (wpAny_bind ((looks_findIn X ha).here (wpAny_bind (L3.here ?_))))))
  exact h _
end
section
variable {K : Frag} {c : Cx} {d : Nat} {l : Loc} {n n' : Led} {E : Value → Shared → Prop} {x C : Addr}
theorem SA_exc {name : Str} {v : Value} {Q : Unit → Loc → Led → Prop} (V : Cok K c d) (P : LSet x (EX0 C) (EXC C) n n') (hs : findIn K (.ref C) "__setattr__" = some (some (.builtin "object.__setattr__"))) (hp : excOver K C = true) (ht : takerIn K C name = some none)
    (hh : hasDictIn K C = true) (q : Q () l n') : W c l n (setAttr (.ref x) name v) Q E := fun h tk S => by
  obtain ⟨o, ho, t, rfl⟩ := S.get P.mem
  obtain ⟨m, F, hk⟩ := S.fr
  have I : InstAt h x { cls := .ref C, data := .fields #[.ref t, .none, .none, .none, .bool false, .none] } C none := ⟨ho, rfl, rfl, trivial⟩
  have X := V.X.keeps F.keep
  refine set_plain (s := { c.r with heap := h, toks := tk }) X I hs ?_
  refine osaX_open (s := { c.r with heap := h, toks := tk + 1 }) X I hp ht fun b => ?_
  obtain ⟨cd, hc, hd'⟩ := any_some hh
  refine wpAny_bind (wpAny_pure (wpAny_bind (wpAny_bind (wpAny_loadPart ho (wpAny_bind ((looks_clsIn X hc).here ?_))))))
  rw [hd']
  have hxs : x ≠ h.objs.size := Nat.ne_of_lt (Heap.lt_size ho)
  have hx₁ : (h.push { cls := .type "dict", data := .dict #[] }).get? x = some { cls := .ref C, data := .fields #[.ref t, .none, .none, .none, .bool false, .none] } := Heap.get?_push_of_some _ ho
  refine wpAny_bind (wpAny_alloc (wpAny_bind (wpAny_update hx₁ (wpAny_bind (wpAny_pure (wpAny_pure ?_))))))
  have hgd : ((h.push { cls := .type "dict", data := .dict #[] }).update x fun o => { o with dict := some h.objs.size }).get? h.objs.size = some { cls := .type "dict", data := .dict #[] } :=
    (Heap.get?_update_ne _ _ _ _ hxs.symm).trans (Heap.get?_push_at rfl rfl)
  have hnd : ((h.push { cls := .type "dict", data := .dict #[] }).update x fun o => { o with dict := some h.objs.size }).Ns h.objs.size (fun _ => none) :=
    ⟨_, #[], _, hgd, rfl, fun e he => absurd he (by simp), fun _ => rfl⟩
  show wpAny _ _ (Builtin.ObjectAttr.storeInDict h.objs.size (.str name tk) name v) _ _ _
  unfold Builtin.ObjectAttr.storeInDict Builtin.ObjectAttr.newKeyGuard
  refine wpAny_bind (wpAny_pure (wpAny_bind (wpAny_nsSet1 (Heap.Ns1.of_empty hnd) fun h' hn' hs => ?_)))
  obtain ⟨oD, esD, epD, hoD, hdD, hcD⟩ := hn'.count (Within.cons name v Within.nil)
  refine wpAny_bind (wpAny_lookBehind hoD (by rw [hdD]; exact pastItsLine_dict (Nat.le_trans hcD (by rw [List.length_cons, List.length_nil, sizeLine_eq]; omega))) ?_)
  refine wpAny_pure ?_
  obtain ⟨r, p1, p2⟩ := P.perm
  have S1 : St c.g c.L l ((h.objs.size, fun _ => True) :: (x, EX0 C) :: r) (h.push { cls := .type "dict", data := .dict #[] }) := (S.perm p1).push (d := fun _ => True) trivial
  have S2 := (S1.perm (.swap ..)).set (d' := EXC C) (h' := (h.push { cls := .type "dict", data := .dict #[] }).update x fun o => { o with dict := some h.objs.size })
    (fun b o hb e => (Heap.get?_update_ne _ _ _ _ hb).trans e) (Heap.get?_update_self _ hx₁ rfl) ⟨rfl, t, rfl⟩
  have S3 := (S2.perm (.swap ..)).drop (h' := h') fun b o hb e => (hs.2 b hb).trans e
  exact .mk (S3.perm p2.symm) q
end
end Mine
end
section
open PySem PySem.W PySem.Calls PyProof.Rows
open PySem.Sem (wp)
set_option Elab.async false
set_option maxRecDepth 100000
set_option linter.unusedVariables false
namespace Mine
section
variable {prog : Program} {w : World} {M : Model} {A : Around} {E : Value → Shared → Prop} {h : Heap} {g : Array GenState} {d : Drawn} {t : Nat} {os : OsState}
variable {nm q : Str} {C N : Addr} {bs bm bmB : List Value} {hdct : Bool} {sn : List Str} {sub : List Value} {ab : Bool} {col : Option Bool} {dd : Option Addr} {k0 k1 k2 k3 k5 : Option Value} {B newId initId : String}
/-- what is asked of the bases beyond a class of its own -/
structure Bases (B : String) (bm : List Value) : Prop where
  hasB : bm.contains (.type B) = true
  hasBase : bm.contains (.type "BaseException") = true
  noAttr : bm.contains (.type "AttributeError") = false
  noName : bm.contains (.type "NameError") = false
theorem checkNewX (F : ExcBaseFacts B newId initId bmB) (T : Bases B bm) {rest : List Value} {Q : Unit → Shared → Prop} (hC : h.get? C = some (excClassObj nm q C N bs bm hdct sn sub ab col dd k0 k1 k2 k3 k5 newId))
    (hq : Q () ⟨h, g, d, t, os⟩) : wpAny M A (checkBuiltinCall newId ⟨.ref C :: rest, []⟩) Q E ⟨h, g, d, t, os⟩ := by
  have hcont : (Value.ref C :: bm).contains (.type B) = true := by rw [List.contains_cons, T.hasB, Bool.or_true]
  have hstar := F.noStar
  simp only [checkBuiltinCall, F.newKind, F.newSplit, F.newRow]
  repeat (first | refine wpAny_loadPart_at hC ?_ | (refine wpAny_isSubtype_exc hC ?_; rw [hcont]) | refine wpAny_staticBase_exc hC ?_ | refine wpAny_madeBy_exc hC ?_ | simp only [bne_self_eq_false, Bool.false_eq_true, if_false] | wp_step)
  exact hq
theorem codeNewX {R : Result → Shared → Prop} (F : ExcBaseFacts B newId initId bmB) (T : Bases B bm) {rest : List Value} (hC : h.get? C = some (excClassObj nm q C N bs bm hdct sn sub ab col dd k0 k1 k2 k3 k5 newId))
    (hq : R (.ok (.ret (.ref (h.objs.size + 1)))) ⟨(h.push { cls := .type "tuple", data := .seq rest.toArray }).push
      { cls := .ref C, data := .fields #[.ref h.objs.size, .none, .none, .none, .bool false, .none] }, g, d, t, os⟩) (hrest : rest.length ≤ sizeLine) :
    codeAny (model prog w) A (.builtin newId ⟨.ref C :: rest, []⟩) R ⟨h, g, d, t, os⟩ := by
  have hends := F.ends
  have hcB : (Value.ref C :: bm).contains (.type B) = true := by rw [List.contains_cons, T.hasB, Bool.or_true]
  have hcA : (Value.ref C :: bm).contains (.type "AttributeError") = false := by rw [List.contains_cons, T.noAttr]; rfl
  have hcN : (Value.ref C :: bm).contains (.type "NameError") = false := by rw [List.contains_cons, T.noName]; rfl
  refine codeAny_builtinAt F.entry ?_
  unfold Builtin.«BaseException.__new__»
  refine PySem.wpAt_bind ?_
  show PySem.wpAt _ _ _ (stack >>= _) _ _ _
  refine PySem.wpAt_bind (PySem.wpAt_stack fun p below => PySem.wpAt_of_wpAny ?_)
  wp_walk
  refine PySem.wpAt_of_wpAny ?_
  rw [F.owner]
  repeat (first | with_reducible refine wpAny_madeHere_exc F.canon hC ?_ | with_reducible refine wpAny_loadPart_at hC ?_ | (with_reducible refine wpAny_isSubtype_exc hC ?_; first | rw [hcB] | rw [hcA] | rw [hcN]) | wp_step)
  show R _ _
  rw [Heap.size_push]
  exact hq
theorem typeCallX {K : Frag} (X : K.In h) (F : ExcBaseFacts B newId initId bmB) (T : Bases B bm) {rest : List Value} {fI : Addr} {Q : Fin → Shared → Prop}
    (hC : h.get? C = some (excClassObj nm q C N bs bm hdct sn sub ab col dd k0 k1 k2 k3 k5 newId)) (hi : findIn K (.ref C) "__init__" = some (some (.ref fI))) (hf : isFn K (.ref fI) = true)
    (hq : ∀ h' e, Heap.MadeExcOf h h' e (.ref C) rest →
      wpAny (model prog w) A (call (.ref fI) (.ref e :: rest)) (fun r s' => r = .none ∧ Q (.done (.ret (.ref e))) s') E ⟨h', g, d, t, os⟩) (hrest : rest.length ≤ sizeLine) :
    wpAny (model prog w) A (Builtin.«type.__call__» ⟨.ref C :: rest, []⟩) Q E ⟨h, g, d, t, os⟩ := by
  repeat (first | with_reducible refine wpAny_loadPart_at hC ?_ | with_reducible refine wpAny_madeBy_exc hC ?_ | wp_step)
  refine codeAny_call_builtin_code (Code.quiet_builtin _ F.quiet) (checkNewX F T hC ?_)
  refine codeNewX F T hC ?_ hrest
  show wpAny _ _ _ _ _ _
  have keep : ∀ b o, h.get? b = some o → ((h.push { cls := .type "tuple", data := .seq rest.toArray }).push { cls := .ref C, data := .fields #[.ref h.objs.size, .none, .none, .none, .bool false, .none] }).get? b = some o :=
    fun b o e => Heap.get?_push_of_some _ (Heap.get?_push_of_some _ e)
  have hC₁ := keep _ _ hC
  have hget : ((h.push { cls := .type "tuple", data := .seq rest.toArray }).push
      { cls := .ref C, data := .fields #[.ref h.objs.size, .none, .none, .none, .bool false, .none] }).get? (h.objs.size + 1) = some
      { cls := .ref C, data := .fields #[.ref h.objs.size, .none, .none, .none, .bool false, .none] } := by heap_get
  have hcC : (Value.ref C :: bm).contains (.ref C) = true := by simp
  unfold isInstance
  repeat (first | with_reducible refine wpAny_loadPart_at hget ?_ | (with_reducible refine wpAny_isSubtype_exc hC₁ ?_; rw [hcC]) | wp_step)
  show wpAny _ _ (typeLookup (.ref C) _) _ _ _
  refine (looks_findIn (X.keeps keep) hi).here ?_
  refine wpAny_holding (wpAny_bind ((bind_fn (X.keeps keep) _ (beq_iff_eq.mp hf)).here ?_))
  refine wpAny_bind (wpAny_mono (hq _ (h.objs.size + 1) ⟨keep, Heap.get?_none_of_le (Nat.le_succ _), h.objs.size, hget, Heap.get?_none_of_le (Nat.le_refl _), ?_⟩) (fun r s' hr => ?_) fun _ _ x => x)
  · exact Heap.get?_push_of_some _ (Heap.get?_push_at rfl rfl)
  · obtain ⟨rfl, hQ⟩ := hr
    wp_walk
    exact hQ
theorem callX {K : Frag} (X : K.In h) (F : ExcBaseFacts B newId initId bmB) (T : Bases B bm) {rest : List Value} {fI : Addr} {Q : Value → Shared → Prop}
    (hC : h.get? C = some (excClassObj nm q C N bs bm hdct sn sub ab col dd k0 k1 k2 k3 k5 newId)) (hi : findIn K (.ref C) "__init__" = some (some (.ref fI))) (hf : isFn K (.ref fI) = true)
    (hq : ∀ h' e, Heap.MadeExcOf h h' e (.ref C) rest →
      wpAny (model prog w) (A.under (.builtin "type.__call__" ⟨.ref C :: rest, []⟩)) (call (.ref fI) (.ref e :: rest)) (fun r s' => r = .none ∧ Q (.ref e) s') E ⟨h', g, d, t, os⟩) (hrest : rest.length ≤ sizeLine) :
    wpAny (model prog w) A (call (.ref C) rest) Q E ⟨h, g, d, t, os⟩ := by
  have f1 := tc_lookup
  have f2 := tc_bind (.ref C)
  have hT : (⟨h, g, d, t, os⟩ : Shared).TypeIs (.ref C) "type" := ⟨_, hC, rfl⟩
  refine wpAny_call (codeAny_of_tree ?_)
  show wpAny _ _ (callAny (.ref C) _) _ _ _
  repeat (any_goals (first | assumption | with_reducible refine wpAny_loadPart_at hC ?_ | wp_step))
  refine ⟨rfl, ?_⟩
  refine codeAny_call_builtin_at (Code.quiet_builtin _ (by decide +kernel)) entry_typeCall (wpAny_check_type_call_sub hC (typeCallX (hrest := hrest) X F T hC hi hf fun h' e hm => ?_))
  exact hq h' e hm
/-- an exception's raising -/
theorem raiseX {env : Env} {s : Shared} {x : Sem Value} {Q : Flow → Shared → Prop} (hbase : bm.contains (.type "BaseException") = true) (hh : A.handled = none)
    (h : wpAny M A x (fun v s₁ => ∃ e o, v = .ref e ∧ s₁.heap.get? C = some (excClassObj nm q C N bs bm hdct sn sub ab col dd k0 k1 k2 k3 k5 newId) ∧
      s₁.heap.get? e = some o ∧ EXC C o ∧ E (.ref e) s₁) E s) :
    wpAny M A (raiseStmt env (some x) none) Q E s := by
  have hcB : (Value.ref C :: bm).contains (.type "BaseException") = true := by rw [List.contains_cons, hbase, Bool.or_true]
  unfold raiseStmt
  refine wpAny_bind (wpAny_mono h (fun v s₁ h₁ => ?_) fun _ _ x => x)
  obtain ⟨e, ⟨oc, od, odt, osl⟩, rfl, hC, he, ⟨hcls, t, hd⟩, hE⟩ := h₁
  dsimp only at hcls hd
  subst hcls hd
  obtain ⟨hp, g, d, tk, os⟩ := s₁
  repeat (first | with_reducible refine wpAny_loadPart_at he ?_ | with_reducible refine wpAny_loadPart_at hC ?_ | (with_reducible refine wpAny_isSubtype_exc hC ?_; rw [hcB]) | wp_step)
  exact wpAny_raiseNew_none hh hE
end
end Mine
end
section
open PySem PySem.W PySem.Calls PyProof.Rows
open PySem.Sem (wp)
set_option Elab.async false
set_option maxRecDepth 100000
set_option linter.unusedVariables false
namespace Mine
/-- a heap without some of its objects -/
def hide (h : Heap) (Ls : List Addr) : Heap := ⟨h.objs.mapIdx fun i o => if i ∈ Ls then { o with data := .freed } else o, h.life⟩
theorem hide_in {h : Heap} {Ls : List Addr} {a : Addr} (ha : a ∈ Ls) : (hide h Ls).get? a = none := by
  unfold hide Heap.get?
  rw [Array.getElem?_mapIdx]
  cases h.objs[a]? with
  | none => rfl
  | some o => simp [ha]
theorem hide_out {h : Heap} {Ls : List Addr} {a : Addr} (ha : a ∉ Ls) : (hide h Ls).get? a = h.get? a := by
  unfold hide Heap.get?
  rw [Array.getElem?_mapIdx]
  cases h.objs[a]? with
  | none => rfl
  | some o => simp [ha]
theorem hide_stays (h : Heap) (Ls : List Addr) : (hide h Ls).StaysIn h := fun b o e => by
  by_cases hb : b ∈ Ls
  · rw [hide_in hb] at e; cases e
  · rwa [hide_out hb] at e
/-- the frames around, each among what waits -/
def Held (c : Cx) (n : Led) : Prop :=
  ∃ env outer, c.A.frames = some (env :: outer) ∧ env.frame = some c.L ∧ env.scope.kind = .function ∧ ∀ x ∈ outer, x.scope.kind = .function ∧ ∃ L F, x.frame = some L ∧ (L, F) ∈ n ∧ Waits F
theorem Held.sub {c : Cx} {n n' : Led} (H : Held c n) (hs : ∀ p ∈ n, p ∈ n') : Held c n' := by
  obtain ⟨env, outer, h1, h2, h3, h4⟩ := H
  refine ⟨env, outer, h1, h2, h3, fun x hx => ?_⟩
  obtain ⟨a, L, F, b, m, w⟩ := h4 x hx
  exact ⟨a, L, F, b, hs _ m, w⟩
theorem Held.call {c : Cx} {n n' : Led} {env : Env} {L : Addr} {F : Desc} (H : Held c n) (hf : env.frame = some L) (hk : env.scope.kind = .function) (w : Waits F) (hF : (c.L, F) ∈ n') (hs : ∀ p ∈ n, p ∈ n') : Held (c.sub env L) n' := by
  obtain ⟨env', outer, h1, h2, h3, h4⟩ := H
  refine ⟨env, env' :: outer, Around.frames_deeper h1, hf, hk, fun x hx => ?_⟩
  rcases List.mem_cons.mp hx with rfl | hx
  · exact ⟨h3, _, F, h2, hF, w⟩
  · obtain ⟨a, L, F, b, m, w⟩ := h4 x hx
    exact ⟨a, L, F, b, hs _ m, w⟩
/-- raised here -/
def Raised (c : Cx) (C : Addr) (R : Loc → Led → Prop) (ev : Value) (s : Shared) : Prop :=
  ∃ e h tk l n, ev = .ref e ∧ s = { c.r with heap := h, toks := tk } ∧ St c.g c.L l ((e, EXC C) :: n) h ∧ Held c n ∧ R l n
/-- on its way out -/
def Flown (c : Cx) (C : Addr) (R : Loc → Led → Prop) (ev : Value) (s : Shared) : Prop :=
  ∃ e a0 fr Ls h₀ h tk l n, ev = .ref e ∧ s = { c.r with heap := h, toks := tk } ∧ c.A.frames = some fr ∧ St c.g c.L l n h₀ ∧ R l n ∧ (∀ b ∈ Ls, c.g.get? b = none) ∧ (∀ p ∈ n, p.1 ∈ Ls → Waits p.2) ∧
    h₀.UpToSlots h ∧ Heap.FlyingW (hide h₀ Ls) fr e (.ref C) a0 h
theorem Has.memOf {n n' : Led} (h : Has n n') {p} (hp : p ∈ n') : p ∈ n := let ⟨_, a, b⟩ := h; a.mem_iff.mpr (b.subset hp)
/-- the state behind a flight -/
theorem St.flown {g h₀ h : Heap} {L : Addr} {l : Loc} {n : Led} {Ls : List Addr} (S : St g L l n h₀) (hg : ∀ b ∈ Ls, g.get? b = none) (hw : ∀ p ∈ n, p.1 ∈ Ls → Waits p.2) (up : h₀.UpToSlots h) (hb : (hide h₀ Ls).StaysIn h) : St g L l n h := by
  obtain ⟨m, F, k⟩ := S.fr
  have keep : ∀ b o, b ∉ Ls → h₀.get? b = some o → h.get? b = some o := fun b o hn e => hb b o ((hide_out hn).trans e)
  refine ⟨⟨m, ⟨up.ns F.ns, fun b o e => keep b o (fun hm => by rw [hg b hm] at e; cases e) (F.keep b o e), F.above⟩, k⟩, S.nd, S.own.1, fun p hp => ?_⟩
  obtain ⟨a, b, o, ho, hd⟩ := S.own.2 p hp
  by_cases hm : p.1 ∈ Ls
  · have w := hw p hp hm
    obtain ⟨es, ep, hdd⟩ := w.dict o hd
    obtain ⟨sl, hs⟩ := up p.1 o ho fun vs q => by rw [hdd] at q; cases q
    exact ⟨a, b, _, hs, w.slots o sl hd⟩
  · exact ⟨a, b, o, keep _ _ hm ho, hd⟩
def BackE (c : Cx) (F : Desc) (R : Led → Prop) : Loc → Led → Prop := fun _ n' => ∃ n'', Has n' ((c.L, F) :: n'') ∧ R n''
section
variable {K : Frag} {c : Cx} {d : Nat} {l : Loc} {n : Led} {L C : Addr} {env : Env} {F : Desc} {R : Led → Prop} {ev : Value} {s : Shared}
theorem led_eq {n : Led} (nd : (n.map (·.1)).Nodup) {p q : Addr × Desc} (hp : p ∈ n) (hq : q ∈ n) (e : p.1 = q.1) : p = q := by
  induction n with
  | nil => cases hp
  | cons r n ih =>
    rw [List.map_cons, List.nodup_cons] at nd
    rcases List.mem_cons.mp hp with a | a <;> rcases List.mem_cons.mp hq with b | b
    · rw [a, b]
    · exact absurd (List.mem_map.mpr ⟨q, b, by rw [← e, a]⟩) nd.1
    · exact absurd (List.mem_map.mpr ⟨p, a, by rw [e, b]⟩) nd.1
    · exact ih nd.2 a b
theorem Raised.leaves (hf : env.frame = some L) (ret : ∀ l' n'' h', St c.g L l' ((c.L, F) :: n'') h' → St c.g c.L l n'' h') (H : Raised (c.sub env L) C (BackE c F R) ev s) (hfr : ∃ outer, c.A.frames = some outer) :
    Leaves c env (Flown c C fun l1 n1 => l1 = l ∧ R n1) ev s := by
  obtain ⟨outer, hfr⟩ := hfr
  obtain ⟨e, h, tk, l', n', rfl, rfl, S, HH, n'', hh, r⟩ := H
  obtain ⟨env', outer', q1, q2, q3, q4⟩ := HH
  have q1' : (c.A.deeper env).frames = some (env :: outer) := Around.frames_deeper hfr
  have q5 : some (env' :: outer') = some (env :: outer) := q1.symm.trans q1'
  injection q5 with q5
  injection q5 with e1 e2
  subst e1 e2
  obtain ⟨o, ho, hcls, t, hd⟩ := S.get (List.mem_cons_self ..)
  obtain ⟨m, Fm, _⟩ := S.fr
  have nd := S.own.1
  rw [List.map_cons, List.nodup_cons] at nd
  have hL : (hide h (e :: (env' :: outer').filterMap (·.frame))).get? L = none := hide_in (List.mem_cons_of_mem _ (List.mem_filterMap.mpr ⟨env', List.mem_cons_self .., hf⟩))
  have he : (hide h (e :: (env' :: outer').filterMap (·.frame))).get? e = none := hide_in (List.mem_cons_self ..)
  have hout : ∀ (xs : List Env), (∀ x ∈ xs, x ∈ outer') → h.FunFrames (hide h (e :: (env' :: outer').filterMap (·.frame))) xs := by
    intro xs
    induction xs with
    | nil => intro _; trivial
    | cons x xs ih =>
      intro hx
      obtain ⟨hk, Lx, Fx, hfx, hmx, wx⟩ := q4 x (hx x (List.mem_cons_self ..))
      obtain ⟨ox, hox, hdx⟩ := (S.sub (List.sublist_cons_self ..)).get hmx
      obtain ⟨es, ep, hdd⟩ := wx.dict ox hdx
      refine ⟨by rw [hk]; decide, ⟨Lx, ox, hfx, hide_in (List.mem_cons_of_mem _ (List.mem_filterMap.mpr ⟨x, List.mem_cons_of_mem _ (hx x (List.mem_cons_self ..)), hfx⟩)), hox, fun vs q => by rw [hdd] at q; cases q⟩, ih fun y hy => hx y (List.mem_cons_of_mem _ hy)⟩
  obtain ⟨oL, es, ep, hoL, hdL, _⟩ := Fm.ns
  have hl : h.FunFrames (hide h (e :: (env' :: outer').filterMap (·.frame))) (env' :: outer') :=
    ⟨by rw [q3]; decide, ⟨L, oL, hf, hL, hoL, fun vs q => by rw [hdL] at q; cases q⟩, hout _ fun _ x => x⟩
  have mem' : ∀ p ∈ n'', p ∈ n' := fun p hp => hh.memOf (List.mem_cons_of_mem _ hp)
  have S' := S.sub (List.sublist_cons_self ..)
  refine wpAny_leaving_firstW (base := hide h (e :: (env' :: outer').filterMap (·.frame))) (a0 := .ref t) q1' hl hf ho (hide_stays _ _) he hd rfl rfl fun h' hL' => ?_
  obtain ⟨k1, ⟨_, _, k2⟩, k3, k4⟩ := hL'
  rw [hcls] at k3
  refine ⟨e, .ref t, outer', _, h, h', tk, l, n'', rfl, rfl, hfr, ret _ _ _ (S'.has hh), ⟨rfl, r⟩, fun b hb => ?_, fun p hp hb => ?_, k4, k1, he, k2, k3⟩
  · rcases List.mem_cons.mp hb with rfl | hb
    · exact (S.own.2 _ (List.mem_cons_self ..)).2.1
    · obtain ⟨x, hx, hfx⟩ := List.mem_filterMap.mp hb
      rcases List.mem_cons.mp hx with rfl | hx
      · obtain rfl : L = b := Option.some.inj (hf.symm.trans hfx)
        exact Heap.get?_none_of_le Fm.above
      · obtain ⟨_, Lx, Fx, hfx', hmx, _⟩ := q4 x hx
        obtain rfl : Lx = b := Option.some.inj (hfx'.symm.trans hfx)
        exact (S'.own.2 _ hmx).2.1
  · rcases List.mem_cons.mp hb with q | hb
    · exact absurd (List.mem_map.mpr ⟨p, mem' p hp, q⟩) nd.1
    · obtain ⟨x, hx, hfx⟩ := List.mem_filterMap.mp hb
      rcases List.mem_cons.mp hx with rfl | hx
      · exact absurd (Option.some.inj (hf.symm.trans hfx)).symm (S'.own.2 _ (mem' p hp)).1
      · obtain ⟨_, Lx, Fx, hfx', hmx, wx⟩ := q4 x hx
        have q : p.1 = Lx := Option.some.inj (hfx.symm.trans hfx')
        rw [led_eq nd.2 (mem' p hp) hmx q]
        exact wx
theorem Flown.leaves (hf : env.frame = some L) (ret : ∀ l' n'' h', St c.g L l' ((c.L, F) :: n'') h' → St c.g c.L l n'' h') (H : Flown (c.sub env L) C (BackE c F R) ev s) (hfr : ∃ outer, c.A.frames = some outer) :
    Leaves c env (Flown c C fun l1 n1 => l1 = l ∧ R n1) ev s := by
  obtain ⟨outer, hfr⟩ := hfr
  obtain ⟨e, a0, fr, Ls, h₀, h, tk, l', n', rfl, rfl, q1, S, ⟨n'', hh, r⟩, hg, hw, up, fl⟩ := H
  have q1' : (c.A.deeper env).frames = some (env :: outer) := Around.frames_deeper hfr
  obtain rfl : fr = env :: outer := Option.some.inj (q1.symm.trans q1')
  refine wpAny_leaves_onW q1' hf fl fun h' fl' up' => ?_
  exact ⟨e, a0, outer, Ls, h₀, h', tk, l, n'', rfl, rfl, hfr, ret _ _ _ (S.has hh), ⟨rfl, r⟩, hg, fun p hp => hw p (hh.memOf (List.mem_cons_of_mem _ hp)), up.trans up', fl'⟩
end
end Mine
end
section
open PySem PySem.W PySem.Calls PyProof.Rows
open PySem.Sem (wp)
set_option Elab.async false
set_option maxRecDepth 100000
set_option linter.unusedVariables false
namespace Mine
section
variable {K : Frag} {c : Cx} {d : Nat} {l : Loc} {n : Led} {E : Value → Shared → Prop}
  {name qual : Str} {params : Arguments} {body : List Stmt} {scope : Scope} {cl : List (Str × Addr)} {dV kV doc pm cdv ct oc : Value} {an od : Option Addr} {osl : Array (Option Value)} {f : Addr} {args : List Value} {kw : List (Str × Value)} {binds lb : Loc} {Q : Value → Loc → Led → Prop}
  {cs : Addr → List (Addr × Option Value)}
/-- V_call, the caller's state at the callee's end told -/
theorem V_callX {fd : FuncData} {o : Obj} {body : List Stmt} (V : Cok K c (d + 1)) (ho : K.lookup f = some o) (hd' : o.data = .func fd) (hb : fd.body = .stmts body) (hcd : codeIn K fd.code fd.qualname = true) {Env' : Addr → Env}
    (hE : ∀ L, (Env' L).frame = some L ∧ (Env' L).scope.kind = .function)
    (hbind : ∀ (s : Shared), K.In s.heap → c.g.objs.size ≤ s.heap.objs.size → wpAny (model c.P c.w) c.A.in1 (bindArgs fd ⟨args, kw⟩) (fun bs s₁ => wpAny (model c.P c.w) c.A.in1 (newFunctionEnv fd.scope fd.globals fd.closure bs (fd.qualname ++ ".<locals>.") (some f) fd.code none fd.builtins)
      (fun env s₂ => env = Env' s.heap.objs.size ∧ ∃ h₁ tk, s₂ = { s with heap := h₁, toks := tk } ∧ (∀ b o, s.heap.get? b = some o → h₁.get? b = some o) ∧ ∃ m', h₁.Ns s.heap.objs.size m' ∧ (∀ p ∈ lb, m' p.1 = some p.2) ∧ ∀ n', (∀ p ∈ n', p.1 < s.heap.objs.size) → Own c.g s.heap.objs.size h₁ n' → Own c.g s.heap.objs.size h₁ ((cs s.heap.objs.size).map (fun p => (p.1, CE p.2)) ++ n')) (fun _ _ => False) s₁) (fun _ _ => False) s)
    (hlb : (lb.map (·.1)).Nodup)
    (H : ∀ L F, Cok K (c.sub (Env' L) L) d → Waits F → c.L < L → (∀ l' n'' h', St c.g L l' ((c.L, F) :: n'') h' → St c.g c.L l n'' h') →
      Mine.V (c.sub (Env' L) L) lb ((cs L).map (fun p => (p.1, CE p.2)) ++ (c.L, F) :: n) (execs body (Env' L)) (fun fl _ n' => Back c.L F (Q (flRet fl) l) n') (Leaves c (Env' L) E))
    (hco : fd.scope.isCoroutine = false := by with_unfolding_all rfl) (hgen : fd.scope.isGenerator = false := by with_unfolding_all rfl) : Mine.V c l n (call (.ref f) args kw) Q E := fun h tk S => by
  obtain ⟨p, loose, mean, mg, mb, outer, T, hA⟩ := V.ex
  obtain ⟨m, F, k⟩ := S.fr
  have X := V.X.keeps F.keep
  refine wpN_call (codeN_callFn (next := .func body) (by have := V.room; omega) (X _ _ ho) hd' hco hgen (.inl ⟨_, hb, rfl⟩) (codeRec_of X hcd) ?_)
  refine wpAny_mono (hbind _ X (Nat.le_of_lt (Nat.lt_of_le_of_lt F.above F.ns.lt))) (fun bs s₁ h₁ => wpAny_mono h₁ (fun env s₂ h₂ => ?_) fun _ _ x => x.elim) fun _ _ x => x.elim
  obtain ⟨rfl, h₁, tk₁, rfl, keep, m', ns, hm, own⟩ := h₂
  refine ⟨(T.nolimit.keeps F.keep).keeps keep, codeN_func ?_⟩
  have S₁ := S.enter F rfl keep ns hm hlb
  have O := own _ (fun p hp => by
    rcases List.mem_cons.mp hp with rfl | hp
    · exact F.ns.lt
    · exact S.lt hp) S₁.own
  refine wpN_mono ((H h.objs.size (FRM m) (V.deep (hE _).1 (hE _).2) (FRM.waits m) F.ns.lt fun l' n'' h' S' => S'.leave (List.Sublist.refl _) F.above k S.nd).run ⟨S₁.fr, S₁.nd, O⟩ fun fl h' tk' l' n' S' q => ?_) (fun _ _ x => x) fun e s' he => wpN_of (wpAny_mono he (fun _ _ x => x) fun _ _ x => x.elim)
  obtain ⟨n'', q, m₂, hperm, hsub⟩ := q
  exact .mk ((S'.perm hperm).leave hsub F.above k S.nd) q
/-- a def that raises -/
theorem V_defX {C : Addr} {R : Led → Prop} (V : Cok K c (d + 1)) (ho : K.lookup f = some ⟨oc, od, .func (fnX name qual params body scope [] dV kV doc pm an cdv ct), osl⟩) (hcd : codeIn K cdv qual = true)
    (hbind : ∀ s : Shared, K.In s.heap → BindsTo s (fnX name qual params body scope [] dV kV doc pm an cdv ct) ⟨args, kw⟩ binds) (hkind : kindsOk scope.names binds = true) (hnd : (binds.map (·.1)).Nodup) (hlb : lbOf scope.names binds = lb) (hcn : ((cellsFrom 0 scope.names []).map (·.1)).Nodup)
    (hcs : ∀ L : Addr, (cellsFrom (L + 1) scope.names []).map (fun p => (p.2, bindC (fun x => scope.names.lookup x) binds (fun _ => none) p.1)) = cs L) (hcd' : ∀ L, ((cs L).map (·.1)).Nodup) (hln : (lb.map (·.1)).Nodup)
    (H : ∀ L F, Cok K (c.sub (envOfC qual scope L f cdv) L) d → Waits F → c.L < L → Mine.V (c.sub (envOfC qual scope L f cdv) L) lb ((cs L).map (fun p => (p.1, CE p.2)) ++ (c.L, F) :: n) (execs body (envOfC qual scope L f cdv)) (fun fl _ n' => Back c.L F (Q (flRet fl) l) n')
      (fun ev s => Raised (c.sub (envOfC qual scope L f cdv) L) C (BackE c F R) ev s ∨ Flown (c.sub (envOfC qual scope L f cdv) L) C (BackE c F R) ev s))
    (hco : scope.isCoroutine = false := by with_unfolding_all rfl) (hgen : scope.isGenerator = false := by with_unfolding_all rfl) (hk : scope.kind = .function := by with_unfolding_all rfl) : Mine.V c l n (call (.ref f) args kw) Q (Flown c C fun l1 n1 => l1 = l ∧ R n1) :=
  V_callX (fd := fnX name qual params body scope [] dV kV doc pm an cdv ct) (Env' := fun L => envOfC qual scope L f cdv) V ho rfl rfl hcd (fun L => ⟨rfl, hk⟩) (fun s X hg => bindC_env V hbind hkind hnd hlb hcn hcs hcd' hk s X hg) hln (fun L F V' wf hlt ret => (H L F V' wf hlt).monoE fun ev s x => by
    obtain ⟨p, loose, mean, mg, mb, outer, T, hA⟩ := V.ex
    rcases x with x | x
    · exact x.leaves rfl ret ⟨outer, hA⟩
    · exact x.leaves rfl ret ⟨outer, hA⟩) hco hgen
/-- an exception's making by a class of the program -/
theorem C_exc {C N fI : Addr} {nm q : Str} {bs bm : List Value} {hdct : Bool} {sn : List Str} {sub : List Value} {ab : Bool} {col : Option Bool} {dd : Option Addr} {k0 k1 k2 k3 k5 : Option Value} {pos : List Value} (V : Cok K c d)
    (hC : K.lookup C = some (excClassObj nm q C N bs bm hdct sn sub ab col dd k0 k1 k2 k3 k5 "Exception.__new__")) (T : Bases "Exception" bm) (hi : findIn K (.ref C) "__init__" = some (some (.ref fI))) (hf : isFn K (.ref fI) = true) (hz : pos.length ≤ sizeLine)
    (H : ∀ x, W (c.make C pos []) l ((x, EX0 C) :: n) (call (.ref fI) (.ref x :: pos)) (fun v l' n' => v = .none ∧ Q (.ref x) l' n') E) : W c l n (call (.ref C) pos) Q E := fun h tk S => by
  obtain ⟨m, F, hk⟩ := S.fr
  have X := V.X.keeps F.keep
  obtain ⟨P, w, A, r, g, L⟩ := c
  obtain ⟨rh, rg, rd, rt, ro⟩ := r
  refine callX (h := h) X PySem.F.excBase_Exception T (X _ _ hC) hi hf (fun h' e hm => ?_) hz
  obtain ⟨t, he, _, _⟩ := hm.there
  have S' : St g L l ((e, EX0 C) :: n) h' := by
    have S1 := S.keeps hm.keeps
    have hne : ∀ b, h.get? b ≠ none → b ≠ e := fun b hb q => hb (q ▸ hm.new)
    refine ⟨S1.fr, S1.nd, ?_, fun p hp => ?_⟩
    · rw [List.map_cons, List.nodup_cons]
      refine ⟨fun hmm => ?_, S.own.1⟩
      obtain ⟨p, hp, q⟩ := List.mem_map.mp hmm
      obtain ⟨_, _, o, ho, _⟩ := S.own.2 p hp
      exact hne _ (by rw [ho]; exact Option.some_ne_none _) q
    · rcases List.mem_cons.mp hp with rfl | hp
      · refine ⟨fun q => ?_, ?_, _, he, t, rfl⟩
        · obtain ⟨o, es, ep, hL, _⟩ := F.ns
          exact hne L (by rw [hL]; exact Option.some_ne_none _) q.symm
        · cases hq : g.get? e with
          | none => rfl
          | some o =>
            have := F.keep _ _ hq
            rw [hm.new] at this; cases this
      · exact S1.own.2 p hp
  exact (H e).run S' fun v h2 tk2 l2 n2 S2 q => ⟨q.1, h2, tk2, l2, n2, rfl, S2, q.2⟩
/-- a raise of what a call has made -/
theorem VS_raise {C N : Addr} {nm q : Str} {bs bm : List Value} {hdct : Bool} {sn : List Str} {sub : List Value} {ab : Bool} {col : Option Bool} {dd : Option Addr} {k0 k1 k2 k3 k5 : Option Value} {newId : String} {env : Env} {ee : Expr} {rest : List Stmt} {pos : Pos} {Q : Flow → Loc → Led → Prop} {R : Loc → Led → Prop}
    (V : Cok K c d) (hC : K.lookup C = some (excClassObj nm q C N bs bm hdct sn sub ab col dd k0 k1 k2 k3 k5 newId)) (hb : bm.contains (.type "BaseException") = true)
    (H : W c l n (eval ee env) (fun v l1 n1 => ∃ e n2, v = .ref e ∧ n1 = (e, EXC C) :: n2 ∧ Held c n2 ∧ R l1 n2) E) (hE : ∀ ev s, Raised c C R ev s → E ev s) : Mine.V c l n (execs (.Raise (some ee) none pos :: rest) env) Q E := VS_cons (V_of (fun h tk S => by
  rw [arm_exec_Raise]
  refine wpAny_bind (wpAny_standAt ?_)
  refine raiseX (C := C) (nm := nm) (q := q) (N := N) (bs := bs) (bm := bm) (hdct := hdct) (sn := sn) (sub := sub) (ab := ab) (col := col) (dd := dd) (k0 := k0) (k1 := k1) (k2 := k2) (k3 := k3) (k5 := k5) (newId := newId) hb V.hh ?_
  refine wpAny_bind (H.run S fun v h2 tk2 l2 n2 S2 x => wpAny_bind (wpAny_standAt (wpAny_pure ?_)))
  obtain ⟨e, n3, rfl, rfl, hh, r⟩ := x
  obtain ⟨o, ho, hx⟩ := S2.get (List.mem_cons_self ..)
  exact ⟨e, o, rfl, V.X _ _ hC |> S2.keep _ _, ho, hx, hE _ _ ⟨e, h2, tk2, l2, n3, rfl, rfl, S2, hh, r⟩⟩))
end
end Mine
end
section
open PySem PySem.W PySem.Calls PyProof.Rows
open PySem.Sem (wp)
set_option Elab.async false
set_option maxRecDepth 100000
set_option linter.unusedVariables false
namespace Mine
/-- the table of a code's inner codes, a code's record, a lambda -/
def TAB (ps : Array Value) : Desc := fun o => o = tabObj ps
def CDO (q : Str) : Desc := fun o => ∃ vs t, o.data = .fields vs ∧ vs[1]? = some (.str q t)
def LAMO (q : Str) (params : Arguments) (body : Expr) (scope : Scope) (clos : List (Str × Addr)) (pm : Value) (c' : Addr) (ctv : Value) : Desc := fun o => o = kla_obj "<lambda>" q params body scope clos pm c' ctv
def Tb (P : Addr) (q : Str) (tb : Led) : Prop := ∃ ps cds, tb = (P, TAB ps) :: cds ∧ TriplesOk ps.toList ∧ ∀ pos cv, codeAmong pos ps.toList = some cv → ∃ c', cv = .ref c' ∧ (c', CDO q) ∈ cds
theorem codeAmong_snoc' {pos : Pos} {cv x : Value} {a b : Int} : ∀ (l : List Value), TriplesOk l → codeAmong pos (l ++ [rawInt a, rawInt b, x]) = some cv → cv = x ∨ codeAmong pos l = some cv := by
  intro l ht h
  fun_induction TriplesOk l with
  | case1 =>
    left
    simp only [List.nil_append, rawInt, codeAmong] at h
    split at h
    · exact (Option.some.inj h).symm
    · cases h
  | case2 i t j u y rest ih =>
    simp only [List.cons_append, codeAmong] at h ⊢
    split at h
    · rename_i hc
      right; rw [if_pos hc]; exact h
    · rename_i hc
      rw [if_neg hc]
      exact ih ht h
  | case3 => exact ht.elim
theorem triples_snoc {a b : Int} {x : Value} : ∀ (l : List Value), TriplesOk l → TriplesOk (l ++ [rawInt a, rawInt b, x]) := by
  intro l ht
  fun_induction TriplesOk l with
  | case1 => trivial
  | case2 i t j u y rest ih => exact ih ht
  | case3 => exact ht.elim
section
variable {K : Frag} {c : Cx} {d : Nat} {l : Loc} {n m tb : Led} {E : Value → Shared → Prop} {Q : Value → Loc → Led → Prop} {q : Str} {params : Arguments} {body : Expr} {scope : Scope} {pos : Pos} {clos : List (Str × Addr)} {cn : Str} {cs : Scope} {a : Addr} {cl : List (Str × Addr)}
theorem E_lam (V : Cok K c d) (hn : Has n (tb ++ m)) (ht : Tb 329 q tb) (hdef : defaultsOf params (envX cn cs c.L a (.ref 331) cl) = ([], [])) (hq : (envX cn cs c.L a (.ref 331) cl).qual ++ "<lambda>" = q) (hcl : closureFor scope (envX cn cs c.L a (.ref 331) cl) = pure clos)
    (post : ∀ f c' pm ctv tb', Tb 329 q tb' → (c', CDO q) ∈ tb' → Q (.ref f) l ((f, LAMO q params body scope clos pm c' ctv) :: (tb' ++ m))) :
    W c l n (eval (.Lambda params body scope pos) (envX cn cs c.L a (.ref 331) cl)) Q E := fun h tk S => by
  have S := S.has hn
  obtain ⟨p, loose, mean, mg, mb, outer, T, hA⟩ := V.ex
  obtain ⟨ps, cds, rfl, h1, h2⟩ := ht
  obtain ⟨mm, F, hk⟩ := S.fr
  obtain ⟨o, ho, rfl⟩ := S.get (List.mem_cons_self ..)
  have nd := S.own.1
  rw [List.cons_append, List.map_cons, List.nodup_cons] at nd
  have hnews : newsAt h (((329, TAB ps) :: cds) ++ m) = (329, tabObj ps) :: newsAt h (cds ++ m) := by
    show (329, objAt h 329) :: newsAt h (cds ++ m) = _
    rw [objAt_of ho]
  have hmem : ∀ p ∈ cds ++ m, (p.1, objAt h p.1) ∈ newsAt h (cds ++ m) := fun p hp => List.mem_map_of_mem (f := fun p => (p.1, objAt h p.1)) hp
  have hdesc := S.own.desc
  have N := hnews ▸ S.own.news
  refine kla_eval hdef ?_
  rw [hq]
  cases hf : codeAmong pos ps.toList with
  | none =>
    refine kla_nest (s := { c.r with heap := h, toks := tk }) (P := 329) (c := 331) F N T V.code rfl (.head fun p hp => ?_) h1 hf hcl fun f c' oc vs t ctv h' tk' F' N' hd hv lt1 lt2 => ?_
    · obtain ⟨q', hq', rfl⟩ := List.mem_map.mp hp
      exact fun e => nd.1 (List.mem_map.mpr ⟨q', hq', e⟩)
    · have big : ∀ p ∈ (329, TAB ps) :: (cds ++ m), p.1 < c' := fun p hp => by
        rcases List.mem_cons.mp hp with rfl | hp
        · exact lt1 (329, tabObj ps) (List.mem_cons_self ..)
        · exact lt1 _ (List.mem_cons_of_mem _ (hmem p hp))
      have S' : St c.g c.L l ((f, LAMO q params body scope clos ((mg "__name__").getD .none) c' ctv) :: ((329, TAB (ps ++ #[rawInt pos.line, rawInt pos.col, .ref c'])) :: (c', CDO q) :: cds ++ m)) h' := by
        refine S.ofNews F' hk ?_ fun p hp => ?_
        · simp only [List.cons_append, List.map_cons, List.nodup_cons, List.mem_cons, not_or]
          have n0 := nd.1
          refine ⟨⟨fun e => ?_, fun e => ?_, fun hm => ?_⟩, ⟨fun e => ?_, nd.1⟩, fun hm => ?_, nd.2⟩
          · exact absurd e (Nat.ne_of_gt (Nat.lt_trans (big _ (List.mem_cons_self ..)) lt2))
          · exact absurd e (Nat.ne_of_gt lt2)
          · obtain ⟨p, hp, e⟩ := List.mem_map.mp hm
            exact absurd e (Nat.ne_of_lt (Nat.lt_trans (big p (List.mem_cons_of_mem _ hp)) lt2))
          · exact absurd e (Nat.ne_of_lt (big _ (List.mem_cons_self ..)))
          · obtain ⟨p, hp, e⟩ := List.mem_map.mp hm
            exact absurd e (Nat.ne_of_lt (big p (List.mem_cons_of_mem _ hp)))
        · rcases List.mem_cons.mp hp with rfl | hp
          · have z := N' _ (List.mem_cons_self ..)
            exact ⟨_, z.1, z.2.1, z.2.2, rfl⟩
          · rcases List.mem_cons.mp hp with rfl | hp
            · have z := N' _ (List.mem_cons_of_mem _ (List.mem_cons_of_mem _ (List.mem_cons_self ..)))
              exact ⟨_, z.1, z.2.1, z.2.2, rfl⟩
            · rcases List.mem_cons.mp hp with rfl | hp
              · have z := N' _ (List.mem_cons_of_mem _ (List.mem_cons_self ..))
                exact ⟨_, z.1, z.2.1, z.2.2, vs, t, hd, hv⟩
              · have z := N' _ (List.mem_cons_of_mem _ (List.mem_cons_of_mem _ (List.mem_cons_of_mem _ (hmem p hp))))
                exact ⟨_, z.1, z.2.1, z.2.2, hdesc p (List.mem_cons_of_mem _ hp)⟩
      refine .mk S' (post f c' _ ctv ((329, TAB (ps ++ #[rawInt pos.line, rawInt pos.col, .ref c'])) :: (c', CDO q) :: cds) ⟨_, _, rfl, ?_, fun pos' cv hcv => ?_⟩ (by simp))
      · rw [Array.toList_append]; exact triples_snoc _ h1
      · rw [Array.toList_append] at hcv
        rcases codeAmong_snoc' _ h1 hcv with rfl | hcv
        · exact ⟨c', rfl, List.mem_cons_self ..⟩
        · obtain ⟨c2, e, hm⟩ := h2 _ _ hcv
          exact ⟨c2, e, List.mem_cons_of_mem _ hm⟩
  | some cv =>
    obtain ⟨c', rfl, hc'⟩ := h2 _ _ hf
    refine kla_hit (s := { c.r with heap := h, toks := tk }) (P := 329) (c := 331) F N T V.code rfl (List.mem_cons_self ..) h1 hf hcl fun f ctv h' tk' F' N' lt1 => ?_
    have big : ∀ p ∈ (329, TAB ps) :: (cds ++ m), p.1 < f := fun p hp => by
      rcases List.mem_cons.mp hp with rfl | hp
      · exact lt1 (329, tabObj ps) (List.mem_cons_self ..)
      · exact lt1 _ (List.mem_cons_of_mem _ (hmem p hp))
    have S' : St c.g c.L l ((f, LAMO q params body scope clos ((mg "__name__").getD .none) c' ctv) :: ((329, TAB ps) :: cds ++ m)) h' := by
      refine S.ofNews F' hk ?_ fun p hp => ?_
      · rw [List.map_cons, List.nodup_cons]
        refine ⟨fun hm => ?_, S.own.1⟩
        obtain ⟨p, hp, e⟩ := List.mem_map.mp hm
        have := big p hp
        exact absurd e (Nat.ne_of_lt this)
      · rcases List.mem_cons.mp hp with rfl | hp
        · have z := N' _ (List.mem_cons_self ..)
          exact ⟨_, z.1, z.2.1, z.2.2, rfl⟩
        · rcases List.mem_cons.mp hp with rfl | hp
          · have z := N' _ (List.mem_cons_of_mem _ (List.mem_cons_self ..))
            exact ⟨_, z.1, z.2.1, z.2.2, rfl⟩
          · have z := N' _ (List.mem_cons_of_mem _ (List.mem_cons_of_mem _ (hmem p hp)))
            exact ⟨_, z.1, z.2.1, z.2.2, hdesc p (List.mem_cons_of_mem _ hp)⟩
    exact .mk S' (post f c' _ ctv _ ⟨ps, cds, rfl, h1, h2⟩ (List.mem_cons_of_mem _ hc'))
/-- a lambda's call -/
theorem V_lam {f c' : Addr} {pm ctv : Value} (V : Cok K c (d + 1)) (hm : (f, LAMO q params body scope clos pm c' ctv) ∈ n) (hc : (c', CDO q) ∈ n) (hbind : bindArgs (kla_fn "<lambda>" q params body scope clos pm (.ref c') ctv) ⟨[], []⟩ = pure [])
    (H : ∀ L F, Cok K (c.sub (envX q scope L f (.ref c') clos) L) d → Waits F → c.L < L → (∀ l' n'' h', St c.g L l' ((c.L, F) :: n'') h' → St c.g c.L l n'' h') →
      Mine.V (c.sub (envX q scope L f (.ref c') clos) L) [] ((c.L, F) :: n) (eval body (envX q scope L f (.ref c') clos)) (fun v _ n' => Back c.L F (Q v l) n') (Leaves c (envX q scope L f (.ref c') clos) E))
    (hcell : ∀ x ∈ scope.names, x.2 ≠ .cell) (hco : scope.isCoroutine = false := by with_unfolding_all rfl) (hgen : scope.isGenerator = false := by with_unfolding_all rfl) (hk : scope.kind = .function := by with_unfolding_all rfl) : Mine.V c l n (call (.ref f) []) Q E := fun h tk S => by
  obtain ⟨p, loose, mean, mg, mb, outer, T, hA⟩ := V.ex
  obtain ⟨m, F, k⟩ := S.fr
  obtain ⟨o, ho, rfl⟩ := S.get hm
  obtain ⟨oc, hoc, vs, t, hd, hv⟩ := S.get hc
  refine wpN_call (codeN_callFn (next := .expr body) (by have := V.room; omega) ho rfl hco hgen (.inr ⟨_, rfl, rfl⟩) ⟨c', oc, vs, t, rfl, hoc, hd, hv⟩ ?_)
  rw [hbind]
  refine wpAny_pure (wpAny_newFunctionEnv hcell (fun _ h => nomatch h) (fun h₁ hns hsb => ⟨((T.nolimit).keeps F.keep).fresh _ hsb, codeN_expr ?_⟩) hk)
  have keep : ∀ b o, h.get? b = some o → h₁.get? b = some o := fun b o e => hsb.extBut b o (Nat.ne_of_lt (Heap.lt_size e)) (Heap.get?_push_of_some _ e)
  have S₁ := S.enter (lb := []) F rfl keep hns (fun _ h => nomatch h) (by simp)
  refine wpN_mono ((H h.objs.size (FRM m) (V.deep rfl hk) (FRM.waits m) F.ns.lt fun l' n'' h' S' => S'.leave (List.Sublist.refl _) F.above k S.nd).run S₁ fun v h' tk' l' n' S' q => ?_) (fun _ _ x => x) fun e s' he => wpN_of (wpAny_mono he (fun _ _ x => x) fun _ _ x => x.elim)
  obtain ⟨n'', q, m₂, hperm, hsub⟩ := q
  exact .mk ((S'.perm hperm).leave hsub F.above k S.nd) q
/-- a lambda's call that may raise -/
theorem V_lamX {C : Addr} {R : Led → Prop} {f c' : Addr} {pm ctv : Value} (V : Cok K c (d + 1)) (hm : (f, LAMO q params body scope clos pm c' ctv) ∈ n) (hc : (c', CDO q) ∈ n) (hbind : bindArgs (kla_fn "<lambda>" q params body scope clos pm (.ref c') ctv) ⟨[], []⟩ = pure [])
    (H : ∀ L F, Cok K (c.sub (envX q scope L f (.ref c') clos) L) d → Waits F → c.L < L →
      Mine.V (c.sub (envX q scope L f (.ref c') clos) L) [] ((c.L, F) :: n) (eval body (envX q scope L f (.ref c') clos)) (fun v _ n' => Back c.L F (Q v l) n') (fun ev s => Flown (c.sub (envX q scope L f (.ref c') clos) L) C (BackE c F R) ev s))
    (hcell : ∀ x ∈ scope.names, x.2 ≠ .cell) (hco : scope.isCoroutine = false := by with_unfolding_all rfl) (hgen : scope.isGenerator = false := by with_unfolding_all rfl) (hk : scope.kind = .function := by with_unfolding_all rfl) : Mine.V c l n (call (.ref f) []) Q (Flown c C fun l1 n1 => l1 = l ∧ R n1) :=
  V_lam V hm hc hbind (fun L F V' wf hlt ret => (H L F V' wf hlt).monoE fun ev s x => by
    obtain ⟨p, loose, mean, mg, mb, outer, T, hA⟩ := V.ex
    exact x.leaves rfl ret ⟨outer, hA⟩) hcell hco hgen hk
end
end Mine
end
section
open PySem PySem.W PySem.Calls PyProof.Rows
open PySem.Sem (wp)
set_option Elab.async false
set_option maxRecDepth 100000
set_option linter.unusedVariables false
namespace Mine
theorem wpN_try {M : Model} {A : Around} {E : Value → Shared → Prop} {s : Shared} {env : Env} {body orelse : Sem Flow} {h₀ : ExceptHandler} {hs : List ExceptHandler} {Q : Flow → Shared → Prop}
    (h : wpN M A body (fun f s₁ => match f with | .next => wpN M A orelse Q E s₁ | f => Q f s₁)
      (fun e s₁ => wpAny M A (noteFrame e env) (fun _ s₂ => wpAny M A (setFlight e none) (fun _ s₃ => wpAny M A (handleBy e env (h₀ :: hs)) Q E s₃) E s₂) E s₁) s) :
    wpN M A (tryStmt false body (h₀ :: hs) orelse [] env) Q E s := by
  unfold tryStmt
  simp only [List.isEmpty_nil, if_true, List.isEmpty_cons, Bool.false_and, Bool.false_eq_true, if_false]
  refine wpN_bind (wpN_attempt (wpN_mono h (fun f s₁ h₁ => ?_) fun e s₁ h₁ => ?_))
  · cases f <;> first | exact h₁ | exact wpN_pure h₁
  · exact wpN_bind (wpN_of (wpAny_mono h₁ (fun _ _ h₂ => wpN_of (wpAny_bind h₂)) fun _ _ x => x))
section
variable {prog : Program} {w : World} {A : Around} {E : Value → Shared → Prop} {s : Shared} {env : Env}
variable {nm q : Str} {C N : Addr} {bs bm : List Value} {hdct : Bool} {sn : List Str} {sub : List Value} {ab : Bool} {col : Option Bool} {dd : Option Addr} {k0 k1 k2 k3 k5 : Option Value} {newId : String}
theorem handleX {e : Addr} {t : Expr} {b₀ : Stmt} {suite : List Stmt} {pos : Pos} {rest : List ExceptHandler} {Q : Flow → Shared → Prop} (hbase : bm.contains (.type "BaseException") = true)
    (h : wpAny (model prog w) (A.mark (some (.ref e))) (eval t env) (fun c s₁ => c = .ref C ∧ s₁.heap.get? C = some (excClassObj nm q C N bs bm hdct sn sub ab col dd k0 k1 k2 k3 k5 newId) ∧ (∃ oe, s₁.heap.get? e = some oe ∧ oe.cls = .ref C) ∧
      wpAny (model prog w) (A.mark (some (.ref e))) (setFlight (.ref e) none) (fun _ s₂ => wpAny (model prog w) (A.mark (some (.ref e))) (execs (b₀ :: suite) env) Q (notedBy (model prog w) (A.mark (some (.ref e))) env (cameBackBy (model prog w) A env E)) s₂) (notedBy (model prog w) (A.mark (some (.ref e))) env (cameBackBy (model prog w) A env E)) s₁) (notedBy (model prog w) (A.mark (some (.ref e))) env (cameBackBy (model prog w) A env E)) s) :
    wpAny (model prog w) A (handleBy (.ref e) env (.ExceptHandler (some t) none (b₀ :: suite) pos :: rest)) Q E s := by
  refine wpAny_handleBy_cons (codeAny_handlers_test (wpAny_mono h (fun c s₁ h₁ => ?_) fun _ _ y => y)) (by intro q; cases q)
  obtain ⟨rfl, hC, ⟨oe, he, hcls⟩, hk⟩ := h₁
  obtain ⟨hh, g, d, tk, os⟩ := s₁
  exact wpAny_excMatches_sub_self hC he hcls hbase (codeAny_handlers_suite hk)
end
section
variable {K : Frag} {c : Cx} {d : Nat} {l : Loc} {n : Led} {E : Value → Shared → Prop} {Q : Flow → Loc → Led → Prop}
variable {nm q : Str} {C N : Addr} {bs bm : List Value} {hdct : Bool} {sn : List Str} {sub : List Value} {ab : Bool} {col : Option Bool} {dd : Option Addr} {k0 k1 k2 k3 k5 : Option Value} {newId : String}
theorem VS_try {R : Loc → Led → Prop} {x cn : Str} {cs : Scope} {a : Addr} {ccd : Value} {body rest suite : List Stmt} {b₀ : Stmt} {np hp pos : Pos} (V : Cok K c d) (hC : K.lookup C = some (excClassObj nm q C N bs bm hdct sn sub ab col dd k0 k1 k2 k3 k5 newId)) (hb : bm.contains (.type "BaseException") = true)
    (hfr : ∃ outer, c.A.frames = some (envOf cn cs c.L a ccd :: outer)) (hg : nsIn K mainGlobals x = some (some (.ref C)))
    (H : Mine.V c l n (execs body (envOf cn cs c.L a ccd)) (ContV c rest (envOf cn cs c.L a ccd) Q E) (Flown c C R))
    (HH : ∀ l1 n1 A', R l1 n1 → W { c with A := A' } l1 n1 (execs (b₀ :: suite) (envOf cn cs c.L a ccd)) (ContV c rest (envOf cn cs c.L a ccd) Q E) fun _ _ => False)
    (hk : cs.kind = .function := by with_unfolding_all rfl) (hx : (envOf cn cs c.L a ccd).kindOf x = some .globalImplicit := by with_unfolding_all rfl) (hdd : (x == ("__debug__" : Str)) = false := by decide) :
    Mine.V c l n (execs (.Try body [.ExceptHandler (some (.Name x np)) none (b₀ :: suite) hp] [] [] pos :: rest) (envOf cn cs c.L a ccd)) Q E := VS_cons (fun h tk S => by
  rw [arm_exec_Try]
  refine wpN_bind (wpN_standAt (wpN_try (wpN_mono (H h tk S) (fun f s₁ h₁ => ?_) fun ev s₁ h₁ => ?_)))
  · cases f with
    | next => exact wpN_of (wpAny_execs_nil h₁)
    | _ => exact h₁
  · obtain ⟨outer, hfr⟩ := hfr
    obtain ⟨p, loose, mean, mg, mb, outer', T, _⟩ := V.ex
    obtain ⟨e, a0, fr, Ls, h₀, h2, tk2, l1, n1, rfl, rfl, hf, S2, r, hgn, hw, up, fl⟩ := h₁
    obtain rfl : fr = _ := Option.some.inj (hf.symm.trans hfr)
    refine wpAny_looks_onW hfr rfl fl fun h3 hold up3 => ?_
    refine wpAny_landsW hold fun h4 fl4 up4 => ?_
    have U4 := (up.trans up3).trans up4
    have S4 := S2.flown hgn hw U4 fl4.1
    obtain ⟨m4, F4, k4⟩ := S4.fr
    refine handleX (C := C) (nm := nm) (q := q) (N := N) (bs := bs) (bm := bm) (hdct := hdct) (sn := sn) (sub := sub) (ab := ab) (col := col) (dd := dd) (k0 := k0) (k1 := k1) (k2 := k2) (k3 := k3) (k5 := k5) (newId := newId) hb ?_
    refine name_K F4 V.X (topRead_of T) hg ⟨rfl, F4.keep _ _ (V.X _ _ hC), fl4.there, ?_⟩ hk hx hdd
    refine lands_againW fl4 fun h5 fl5 up5 => ?_
    have S5 := S2.flown hgn hw (U4.trans up5) fl5.1
    exact wpAny_mono (HH l1 n1 (c.A.mark (some (.ref e))) r h5 tk2 S5) (fun _ _ ⟨h', tk', l', n', e, S, q⟩ => ⟨h', tk', l', n', e, S, q⟩) fun _ _ z => z.elim)
theorem VS_exprV {env : Env} {rest : List Stmt} {e : Expr} {pos : Pos} (H : Mine.V c l n (eval e env) (fun v l1 n1 => (∀ a, v ≠ .ref a) ∧ Mine.V c l1 n1 (execs rest env) Q E) E)
    (hi : interactive env = false := by with_unfolding_all rfl) (hs : swapsWith e none pos.line env = pure false := by with_unfolding_all rfl) : Mine.V c l n (execs (.Expr e pos :: rest) env) Q E := VS_cons (by
  rw [exec_Expr env e pos hi hs]
  refine V_bind (V_at (V_bind (H.mono fun v l n q => ?_)))
  obtain ⟨hv, q⟩ := q
  rw [dropValue_plain (fun a e => hv a e)]
  exact V_pure q)
end
end Mine
end
section
open PySem PySem.W PySem.Calls PyProof.Rows
open PySem.Sem (wp)
set_option Elab.async false
set_option maxRecDepth 100000
set_option linter.unusedVariables false
namespace Mine
/-- what a ledger entails -/
def Le (n n' : Led) : Prop := ∀ g L l h, St g L l n h → St g L l n' h
theorem Le.of_has {n n' : Led} (h : Has n n') : Le n n' := fun _ _ _ _ S => S.has h
theorem Le.trans {a b d : Led} (x : Le a b) (y : Le b d) : Le a d := fun _ _ _ _ S => y _ _ _ _ (x _ _ _ _ S)
theorem Le.head {a : Addr} {d d' : Desc} {n : Led} (k : ∀ o, d o → d' o) : Le ((a, d) :: n) ((a, d') :: n) := fun _ _ _ _ S => S.weak rfl fun p hp => by
  rcases List.mem_cons.mp hp with rfl | hp
  · exact ⟨_, List.mem_cons_self .., rfl, k⟩
  · exact ⟨p, List.mem_cons_of_mem _ hp, rfl, fun _ x => x⟩
section
variable {c : Cx} {α : Type} {l : Loc} {n n' : Led} {E : Value → Shared → Prop} {t : Sem α} {Q : α → Loc → Led → Prop}
theorem W.post (H : W c l n t (fun a l1 n1 => ∃ n2, Le n1 n2 ∧ Q a l1 n2) E) : W c l n t Q E := fun h tk S => wpAny_mono (H h tk S) (fun a s' ⟨h', tk', l', n', e, S', n2, k, q⟩ => ⟨h', tk', l', n2, e, k _ _ _ _ S', q⟩) fun _ _ x => x
theorem W.open {X : Type} {a : Addr} {D : X → Desc} (H : ∀ x, W c l ((a, D x) :: n) t Q E) : W c l ((a, fun o => ∃ x, D x o) :: n) t Q E := fun h tk S => by
  obtain ⟨o, ho, x, hx⟩ := S.get (List.mem_cons_self ..)
  refine H x h tk ⟨S.fr, S.nd, S.own.1, fun p hp => ?_⟩
  obtain ⟨h1, h2, h3⟩ := S.own.2 (a, fun o => ∃ x, D x o) (List.mem_cons_self ..)
  rcases List.mem_cons.mp hp with rfl | hp
  · exact ⟨h1, h2, o, ho, hx⟩
  · exact S.own.2 p (List.mem_cons_of_mem _ hp)
end
/-- the pool -/
def POOL : Desc := fun o => ∃ x : Int × Int × Tok × Tok, (0 ≤ x.1 ∧ 0 ≤ x.2.1 ∧ x.2.1 < 2147483647) ∧ LST [.int x.1 x.2.2.1, .int x.2.1 x.2.2.2] o
theorem W.pool {c : Cx} {α : Type} {l : Loc} {n : Led} {E : Value → Shared → Prop} {t : Sem α} {Q : α → Loc → Led → Prop} {p : Addr} (H : ∀ a b t1 t2, 0 ≤ a → 0 ≤ b → b < 2147483647 → W c l ((p, LST [.int a t1, .int b t2]) :: n) t Q E) : W c l ((p, POOL) :: n) t Q E :=
  W.open fun x => fun h tk S => by
    obtain ⟨o, ho, hx, hd⟩ := S.get (List.mem_cons_self ..)
    exact H _ _ _ _ hx.1 hx.2.1 hx.2.2 h tk (Le.head (fun o z => z.2) _ _ _ _ S)
theorem POOL.le {p : Addr} {n : Led} {a b : Int} {t1 t2 : Tok} (h0 : 0 ≤ a) (h1 : 0 ≤ b) (h2 : b < 2147483647) : Le ((p, LST [.int a t1, .int b t2]) :: n) ((p, POOL) :: n) := Le.head fun o z => ⟨(a, b, t1, t2), ⟨h0, h1, h2⟩, z⟩
end Mine
end
section
open PySem PySem.W PySem.Calls PyProof.Rows
open PySem.Sem (wp)
set_option Elab.async false
set_option maxRecDepth 100000
set_option linter.unusedVariables false
namespace Mine
section
open PySem.SeqAt
theorem eq_lists {A : Around} {s : Shared} {a b : Addr} {vs ws : Array Value} (ha : s.heap.IsList a vs) (hb : s.heap.IsList b ws) (hz : vs.size = ws.size) (hu : A.units < cLine) (he : ∀ j (h1 : j < vs.size) (h2 : j < ws.size), EqAt A.in1 s vs[j] ws[j] true) : EqAt A s (.ref a) (.ref b) true := by
  by_cases e : a = b
  · subst e; exact .same _
  · refine .of_refs e ?_
    have := RcAt.lists (e := fun _ => true) ha hb hz hu he
    rwa [show (List.range vs.size).all (fun _ => true) = true from by simp] at this
theorem eq_tups {A : Around} {s : Shared} {a b : Addr} {vs ws : Array Value} (ha : s.heap.IsTuple a vs) (hb : s.heap.IsTuple b ws) (hz : vs.size = ws.size) (hu : A.units < cLine) (he : ∀ j (h1 : j < vs.size) (h2 : j < ws.size), EqAt A.in1 s vs[j] ws[j] true) : EqAt A s (.ref a) (.ref b) true := by
  by_cases e : a = b
  · subst e; exact .same _
  · refine .of_refs e ?_
    have := RcAt.tuples (e := fun _ => true) ha hb hu he
    rwa [show ((List.range (min vs.size ws.size)).all (fun _ => true) && vs.size == ws.size) = true from by simp [hz]] at this
theorem ints_get {vs : List Value} {ns : List Int} (h : IntsAre vs ns) : ∀ {j : Nat} {v : Value}, vs[j]? = some v → ∃ x t, ns[j]? = some x ∧ v = .int x t := by
  induction h with
  | nil => intro j v e; simp at e
  | cons x t _ ih =>
    intro j v e
    cases j with
    | zero => simp at e; exact ⟨x, t, rfl, e.symm⟩
    | succ j => simpa using ih (by simpa using e)
theorem ints_size {vs : List Value} {ns : List Int} (h : IntsAre vs ns) : vs.length = ns.length := by
  induction h with
  | nil => rfl
  | cons _ _ _ ih => simp [ih]
theorem eq_ints {A : Around} {s : Shared} {vs ws : List Value} {ns : List Int} (h : IntsAre vs ns) (k : IntsAre ws ns) (j : Nat) (h1 : j < vs.toArray.size) (h2 : j < ws.toArray.size) : EqAt A s vs.toArray[j] ws.toArray[j] true := by
  obtain ⟨x, t, hx, e⟩ := ints_get h (List.getElem?_eq_getElem (by simpa using h1))
  obtain ⟨y, u, hy, e'⟩ := ints_get k (List.getElem?_eq_getElem (by simpa using h2))
  rw [hx] at hy
  obtain rfl := Option.some.inj hy
  rw [List.getElem_toArray, List.getElem_toArray, e, e']
  have := EqAt.int_int (A := A) (s := s) x t x u
  rwa [beq_self_eq_true] at this
theorem eq_tupI {A : Around} {s : Shared} {a b : Addr} {vs ws : List Value} {ns : List Int} (ha : s.heap.IsTuple a vs.toArray) (hb : s.heap.IsTuple b ws.toArray) (h : IntsAre vs ns) (k : IntsAre ws ns) (hu : A.units < cLine) : EqAt A s (.ref a) (.ref b) true :=
  eq_tups ha hb (by rw [List.size_toArray, List.size_toArray, ints_size h, ints_size k]) hu (eq_ints h k)
section
variable {c : Cx} {l : Loc} {n n' : Led} {E : Value → Shared → Prop} {env : Env} {Q : Value → Loc → Led → Prop}
theorem O_eqTup {a b : Addr} {vs ws : List Value} {ns : List Int} (k1 : Knows c n (IsTup · a vs.toArray)) (k2 : Knows c n (IsTup · b ws.toArray)) (h : IntsAre vs ns) (k : IntsAre ws ns) (hu : c.A.units < cLine) (q : Q (.bool true) l n) : W c l n (compareOp .Eq (.ref a) (.ref b)) Q E := fun h' tk S => by
  refine eq_tupleAt (s := { c.r with heap := h', toks := tk }) (e := fun _ => true) (k1 l h' S) (k2 l h' S) hu (eq_ints h k) ?_
  have hz : vs.toArray.size = ws.toArray.size := by rw [List.size_toArray, List.size_toArray, ints_size h, ints_size k]
  rw [show ((List.range (min vs.toArray.size ws.toArray.size)).all (fun _ => true) && vs.toArray.size == ws.toArray.size) = true from by rw [hz]; simp]
  exact .mk S q
theorem O_eqRows {a b r d : Addr} {vs ws : List Value} (k1 : Knows c n (·.IsList a [Value.ref r].toArray)) (k2 : Knows c n (·.IsList b [Value.ref d].toArray)) (k3 : Knows c n (·.IsList r vs.toArray)) (k4 : Knows c n (·.IsList d ws.toArray)) (hl : vs.length = ws.length)
    (hu : c.A.units + 3 < cLine) (hx : ∀ (j : Nat) v w, vs[j]? = some v → ws[j]? = some w → ∃ a b xs ys ns, v = .ref a ∧ w = .ref b ∧ IntsAre xs ns ∧ IntsAre ys ns ∧ Knows c n (fun h => ∃ xs, IntsAre xs ns ∧ IsTup h a xs.toArray) ∧ Knows c n (fun h => ∃ ys, IntsAre ys ns ∧ IsTup h b ys.toArray)) (q : Q (.bool true) l n) : W c l n (compareOp .Eq (.ref a) (.ref b)) Q E := fun h' tk S => by
  refine eq_listAt (s := { c.r with heap := h', toks := tk }) (e := fun _ => true) (k1 l h' S) (k2 l h' S) rfl (by omega) (fun j h1 h2 => ?_) ?_
  · have hj : j = 0 := by simp at h1; exact h1
    subst hj
    refine eq_lists (k3 l h' S) (k4 l h' S) (by simpa using hl) (by show c.A.units + 1 < _; omega) fun j h1 h2 => ?_
    have h1 : j < vs.length := by simpa using h1
    have h2 : j < ws.length := by simpa using h2
    obtain ⟨a, b, xs, ys, ns, e, e', -, -, ka, kb⟩ := hx j _ _ (List.getElem?_eq_getElem h1) (List.getElem?_eq_getElem h2)
    obtain ⟨xs, i1, ta⟩ := ka l h' S
    obtain ⟨ys, i2, tb⟩ := kb l h' S
    rw [List.getElem_toArray, List.getElem_toArray, e, e']
    exact eq_tupI ta tb i1 i2 (by show c.A.units + 1 + 1 < _; omega)
  · rw [show (List.range [Value.ref r].toArray.size).all (fun _ => true) = true from by simp]
    exact .mk S q
end
end
section
variable {c : Cx} {l : Loc} {n n' : Led} {E : Value → Shared → Prop} {env : Env} {Q : Value → Loc → Led → Prop}
/-- a comprehension of one turn -/
theorem RK_once {cenv : Env} {target elt : Expr} {C acc it : Addr} {F : Desc} {n2 : Led} {D : Nat → Desc} {P : Nat → Value → Prop} {ex : Led} {T : List Value → Led → Prop} {R : Value → Led → Prop} {len : Nat} (hone : len = 1)
    (I : Itr (c.comp C) it D (fun _ => True) P len) (hself : ∀ l n Q E, Q (.ref it) l n → (it, D 0) ∈ n → W (c.comp C) l n (pyIter (.ref it)) Q E)
    (turn : ∀ v d, P 0 v → W (c.comp C) [] ((it, d) :: (acc, LST []) :: (ex ++ (c.L, F) :: n2)) (assign target cenv v) (fun _ l1 n1 => W (c.comp C) l1 n1 (eval elt cenv) (fun y l3 n3 => ∃ n4, R y n4 ∧ Has n3 ((it, d) :: (acc, LST []) :: n4)) fun _ _ => False) fun _ _ => False)
    (fin : ∀ y n', R y n' → T [y] n')
    (go : ∀ i l n v (Q : Unit → Loc → Led → Prop) E, P i v → Q () l ((it, D (i + 1)) :: n) → W (c.comp C) l ((it, D (i + 1)) :: n) (letOwnedTupleGo target (.ref it) v) Q E := by intro i l n v Q E _ q; exact W_eq rfl q) : ReadyK c C acc cenv target elt [] T it (ex ++ (c.L, F) :: (acc, LST []) :: (it, D 0) :: n2) := by
  subst hone
  refine ⟨D, fun _ => True, P, 1, ex ++ (c.L, F) :: n2, fun i ys n => (i = 0 → n = ex ++ (c.L, F) :: n2 ∧ ys = []) ∧ (i = 1 → ∃ y, ys = [y] ∧ R y n) ∧ ys.length ≤ i, I, ?_, ⟨fun _ => ⟨rfl, rfl⟩, fun e => absurd e (by decide), Nat.le_refl _⟩, fun _ _ _ _ => trivial, hself, fun i ys n h => h.2.2, by decide, ?_, ?_, go⟩
  · have e1 : Has (ex ++ (c.L, F) :: (acc, LST []) :: (it, D 0) :: n2) ((it, D 0) :: (ex ++ (c.L, F) :: (acc, LST []) :: n2)) := by
      have := Has.pull (n₁ := ex ++ [(c.L, F), (acc, LST [])]) (p := (it, D 0)) (n₂ := n2) (Has.refl _)
      simpa using this
    have e2 : Has (ex ++ (c.L, F) :: (acc, LST []) :: n2) ((acc, LST []) :: (ex ++ (c.L, F) :: n2)) := by
      have := Has.pull (n₁ := ex ++ [(c.L, F)]) (p := (acc, LST [])) (n₂ := n2) (Has.refl _)
      simpa using this
    exact e1.trans (e2.cons _)
  · rintro i ys n v hi ⟨h0, _, _⟩ hv
    obtain rfl : i = 0 := by omega
    obtain ⟨rfl, rfl⟩ := h0 rfl
    exact (turn v _ hv).mono fun _ l1 n1 q => q.mono fun y l3 n3 ⟨n4, q1, q2⟩ => ⟨n4, ⟨fun e => absurd e (by decide), fun _ => ⟨y, rfl, q1⟩, Nat.le_refl _⟩, q2⟩
  · rintro ys n ⟨_, h1, _⟩
    obtain ⟨y, rfl, r⟩ := h1 rfl
    exact fin y n r
end
end Mine
end
section
open PySem PySem.W PySem.Calls PyProof.Rows
open PySem.Sem (wp)
set_option Elab.async false
set_option maxRecDepth 100000
set_option linter.unusedVariables false
namespace Mine
section
variable {K : Frag} {c : Cx} {d : Nat} {l : Loc} {n : Led} {E : Value → Shared → Prop}
  {name qual : Str} {params : Arguments} {body : List Stmt} {scope : Scope} {dV kV doc pm cdv ct oc : Value} {an od : Option Addr} {osl : Array (Option Value)} {f : Addr} {args : List Value} {kw : List (Str × Value)} {binds lb : Loc} {o : Obj}
  {cs : Addr → List (Addr × Option Value)}
/-- the law's own call, from module level -/
theorem top_call {h : Heap} {tk : Nat} {R : Value → Led → Prop} (V : Cok K c (d + 1)) (ho : K.lookup f = some ⟨oc, od, .func (fnX name qual params body scope [] dV kV doc pm an cdv ct), osl⟩) (hcd : codeIn K cdv qual = true)
    (keep : ∀ b o, c.g.get? b = some o → h.get? b = some o) (hsz : c.g.objs.size ≤ h.objs.size) (hN : (n.map (·.1)).Nodup) (hO : ∀ p ∈ n, c.g.get? p.1 = none ∧ ∃ o, h.get? p.1 = some o ∧ p.2 o)
    (hbind : ∀ s : Shared, K.In s.heap → BindsTo s (fnX name qual params body scope [] dV kV doc pm an cdv ct) ⟨args, kw⟩ binds) (hkind : kindsOk scope.names binds = true) (hnd : (binds.map (·.1)).Nodup) (hlb : lbOf scope.names binds = lb) (hcn : ((cellsFrom 0 scope.names []).map (·.1)).Nodup)
    (hcs : ∀ L : Addr, (cellsFrom (L + 1) scope.names []).map (fun p => (p.2, bindC (fun x => scope.names.lookup x) binds (fun _ => none) p.1)) = cs L) (hcd' : ∀ L, ((cs L).map (·.1)).Nodup) (hln : (lb.map (·.1)).Nodup)
    (H : ∀ L, Cok K (c.sub (envOfC qual scope L f cdv) L) d → Mine.V (c.sub (envOfC qual scope L f cdv) L) lb ((cs L).map (fun p => (p.1, CE p.2)) ++ n) (execs body (envOfC qual scope L f cdv)) (fun fl _ n' => R (flRet fl) n') (fun _ _ => False))
    (hco : scope.isCoroutine = false := by with_unfolding_all rfl) (hgen : scope.isGenerator = false := by with_unfolding_all rfl) (hk : scope.kind = .function := by with_unfolding_all rfl) :
    wpN (model c.P c.w) c.A (call (.ref f) args kw) (fun v s' => ∃ L l' n' h' tk', s' = { c.r with heap := h', toks := tk' } ∧ St c.g L l' n' h' ∧ R v n') E { c.r with heap := h, toks := tk } := by
  obtain ⟨p, loose, mean, mg, mb, outer, T, hA⟩ := V.ex
  have X := V.X.keeps keep
  refine wpN_call (codeN_callFn (next := .func body) (by have := V.room; omega) (X _ _ ho) rfl hco hgen (.inl ⟨_, rfl, rfl⟩) (codeRec_of X hcd) ?_)
  refine wpAny_mono (bindC_env V hbind hkind hnd hlb hcn hcs hcd' hk _ X hsz) (fun bs s₁ h₁ => wpAny_mono h₁ (fun env s₂ h₂ => ?_) fun _ _ x => x.elim) fun _ _ x => x.elim
  obtain ⟨rfl, h₁, tk₁, rfl, keep', m', ns, hm, own⟩ := h₂
  refine ⟨(T.nolimit.keeps keep).keeps keep', codeN_func ?_⟩
  have O := own n (fun p hp => let ⟨_, o, ho, _⟩ := hO p hp; Heap.lt_size ho) ⟨hN, fun p hp => let ⟨e, o, ho, hd⟩ := hO p hp; ⟨Nat.ne_of_lt (Heap.lt_size ho), e, o, keep' _ _ ho, hd⟩⟩
  have S : St c.g h.objs.size lb ((cs h.objs.size).map (fun p => (p.1, CE p.2)) ++ n) h₁ := ⟨⟨m', ⟨ns, fun b o e => keep' _ _ (keep b o e), hsz⟩, hm⟩, hln, O⟩
  refine wpN_mono ((H h.objs.size (V.deep rfl hk)).run S fun fl h' tk' l' n' S' q => ?_) (fun _ _ x => x) fun e s' he => he.elim
  exact ⟨_, l', n', h', tk', rfl, S', q⟩
end
abbrev T9 : List (Addr × Addr) := [(331, 329)]
/-- the end: True, all that stood as it was but for the table's notes -/
theorem goodTop {cw : ClaimW} {cl : Str → Option Addr} {mean : ExcName → Option Value} {args : List WData} {s₁ : Shared} {L : Addr} {l : Loc} {n : Led} {h : Heap} {tk : Nat} {ps : Array Value} (hT : TabsAt T9 s₁.heap) (hr : ∀ x, cw.raises args x = false) (hp : cw.post args (.bool true) args = true) (hg : s₁.gens = #[])
    (S : St (ghostOf s₁.heap T9) L l n h) (hm : (329, TAB ps) ∈ n) : GoodWG cw cl mean args s₁ (.ok (.ret (.bool true))) { s₁ with heap := h, toks := tk } := by
  obtain ⟨o9, ho9, h9⟩ := S.get hm
  obtain rfl : o9 = tabObj ps := h9
  have hq : ((331, 329) : Addr × Addr) ∈ T9 := List.mem_cons_self
  have e2 : s₁.heap.get? 329 = some (tabObj #[]) := (hT _ hq).2
  have ht : isCodeTable s₁.heap 329 := ((hT _ hq).1.tab (hT _ hq).2).isCodeTable
  refine ⟨.inl ⟨_, .bool true, [], rfl, hr, .bool true, hp, fun _ => ⟨List.nodup_nil, fun a ha => nomatch ha⟩⟩, ⟨fun b o e => ?_, fun b o e => ?_⟩, rfl, ?_⟩
  · by_cases hb : b = 329
    · subst hb
      obtain rfl : tabObj #[] = o := Option.some.inj (e2.symm.trans e)
      exact .inr (.inl ⟨ht, rfl, #[], ps, rfl, by rw [Array.empty_append]; exact ho9⟩)
    · exact .inl (S.keep b o (ghost_ne e (by simpa using hb)))
  · by_cases hb : b = 329
    · subst hb
      exact ⟨_, ho9⟩
    · exact ⟨o, S.keep b o (ghost_ne e (by simpa using hb))⟩
  · show AllBare s₁.gens
    rw [hg]
    exact .of_eq rfl
theorem goodTop0 {cw : ClaimW} {cl : Str → Option Addr} {mean : ExcName → Option Value} {args : List WData} {s₁ : Shared} (hr : ∀ x, cw.raises args x = false) (hp : cw.post args (.bool true) args = true) (hg : s₁.gens = #[]) : GoodWG cw cl mean args s₁ (.ok (.ret (.bool true))) s₁ :=
  ⟨.inl ⟨_, .bool true, [], rfl, hr, .bool true, hp, fun _ => ⟨List.nodup_nil, fun a ha => nomatch ha⟩⟩, .refl _, rfl, by rw [hg]; exact .of_eq rfl⟩
end Mine
end
section
open PySem PySem.W PySem.Calls PyProof.Rows
set_option Elab.async false
set_option maxRecDepth 100000
set_option linter.unusedVariables false
namespace Mine

/-- the top's run over a tree of objects -/
noncomputable def runT (tb : String → Option Builtin) (p : Program) (w : World) (n₀ : Nat) (ann : Option Value) : Nat → SharedT → Thread → Option SharedT
  | 0, _, _ => none
  | n + 1, s, t => match through t with
    | true => some s
    | false => match stepOk n₀ ann t with
      | false => none
      | true => match stepT (denote tb) p w s t with
        | some (s', t') => runT tb p w n₀ ann n s' t'
        | none => none
theorem runT_of {tb : String → Option Builtin} {p : Program} {w : World} {n₀ : Nat} {ann : Option Value} : ∀ {n : Nat} {s s' : SharedT} {t : Thread}, runT tb p w n₀ ann n s t = some s' → topRun tb p w n₀ ann n s.abs t = some s'.abs
  | 0, _, _, _, h => by cases h
  | n + 1, s, s', t, h => by
    unfold runT at h
    unfold topRun
    cases he : through t with
    | true => rw [he] at h; cases h; rfl
    | false =>
      rw [he] at h
      cases hk : stepOk n₀ ann t with
      | false => rw [hk] at h; cases h
      | true =>
        rw [hk] at h
        cases hs : stepT (denote tb) p w s t with
        | none => rw [hs] at h; cases h
        | some r => obtain ⟨s₂, t₂⟩ := r; rw [hs] at h; rw [stepT_spec hs]; exact runT_of h

/-- an object of the tree, as the heap shows it -/
noncomputable def lookT (S : SharedT) (a : Nat) : Option Obj := match (if a < S.n then some ((S.tree.get a).getD default) else none) with
  | some { cls := _, dict := _, data := .freed, slots := _ } => none
  | o => o
theorem lookT_eq (S : SharedT) : lookT S = S.abs.heap.get? := by
  funext a
  unfold lookT Heap.get? SharedT.abs
  dsimp only
  rw [absHeap_at]
  rfl

noncomputable def looksT {α : Type} (p q : Program) (loose : List Str) (Xt : Shared → Bool) (y : α) (h₀ : Heap) (s : Shared) :=
  ((staticsOk (importedModules p.main.body) h₀ s.heap && namesBound p s.heap && gensDone s && laidKept h₀ s.heap), openSeen q loose (importedModules p.main.body) Xt true s, y)

theorem left_T {p q : Program} {loose : List Str} {Xt : Shared → Bool} {α : Type} {Yf : Shared → α} {Y : SharedT → α} {Ya : World → α} {N : Nat} {H₀ : Params → Heap} {T₀ : Params → BT} {n : Params → Nat} {life : Params → Life} {d₀ : Drawn} {k₀ : Nat} {m₀ : Nat} {ann : Option Value}
    (open_ : ∀ w : World, (fencedOpening treeTable p w N).map (fun s => (s.heap, s.gens, s.drawn, s.toks)) = some (H₀ w.params, Array.mk [], d₀, k₀))
    (size : ∀ w : World, ((H₀ w.params).isNs mainGlobals, (H₀ w.params).objs.size, (H₀ w.params).nsMap mainGlobals "__annotations__") = (true, m₀, ann))
    (tree : ∀ P : Params, absHeap (T₀ P) (n P) (life P) = H₀ P) (hY : ∀ S : SharedT, Y S = Yf S.abs)
    (run : ∀ (w : World) (os : OsState), (runT treeTable p w m₀ ann N ⟨T₀ w.params, n w.params, life w.params, Array.mk [], d₀, k₀, os⟩ (topStub p)).map (fun S => looksT p q loose Xt (Y S) (H₀ w.params) S.abs) = some (true, openGood q loose, Ya w)) : LeftO p q loose Xt Yf Ya N := fun w => by
  obtain ⟨⟨h, gs, d, k, os⟩, e, e'⟩ := Option.map_eq_some_iff.mp (open_ w)
  obtain ⟨rfl, rfl, rfl, rfl⟩ : h = H₀ w.params ∧ gs = Array.mk [] ∧ d = d₀ ∧ k = k₀ := by simpa using e'
  obtain ⟨z1, z2, z3⟩ : _ ∧ _ ∧ _ := by simpa only [Prod.mk.injEq] using size w
  obtain ⟨S, e1, e2⟩ := Option.map_eq_some_iff.mp (run w os)
  have r := runT_of e1
  have l1 := congrArg Prod.fst e2
  have l2 := congrArg (fun x => x.2.1) e2
  have l3 : Yf S.abs = Ya w := (hY S).symm.trans (congrArg (fun x => x.2.2) e2)
  have r' : topRun treeTable p w m₀ ann N ⟨H₀ w.params, Array.mk [], d, k, os⟩ (topStub p) = some S.abs := by
    rw [← tree w.params]; exact r
  have t : topFrom treeTable p w N ⟨H₀ w.params, Array.mk [], d, k, os⟩ = some S.abs := by
    unfold topFrom
    dsimp only
    rw [z1, z2, z3, r']
    show (match staticsOk (importedModules p.main.body) (H₀ w.params) S.abs.heap && namesBound p S.abs.heap && gensDone S.abs && laidKept (H₀ w.params) S.abs.heap with | true => _ | false => _) = _
    rw [show (staticsOk (importedModules p.main.body) (H₀ w.params) S.abs.heap && namesBound p S.abs.heap && gensDone S.abs && laidKept (H₀ w.params) S.abs.heap) = true from l1]
  unfold openEnds
  rw [e]
  show (topFrom treeTable p w N _).map _ = _
  rw [t]
  exact congrArg some (Prod.ext l2 l3)

noncomputable def treeFrom : Nat → BT → List Obj → BT
  | _, T, [] => T
  | i, T, o :: r => treeFrom (i + 1) (T.ins i o) r
noncomputable def bootTree (P : Params) : BT := treeFrom 0 .nil (boot_heap P).objs.toList
theorem bootTree_ok (P : Params) : absHeap (bootTree P) (boot_heap P).objs.size (boot_heap P).life = boot_heap P := by kernel_rfl

/-- the same run, by the library's quick twins -/
noncomputable def runQ (p : Program) (w : World) (n₀ : Nat) (ann : Option Value) : Nat → SharedT → Thread → Option SharedT
  | 0, _, _ => none
  | n + 1, s, t => match through t with
    | true => some s
    | false => match PySem.W.Fast.tw6613529449190102663 n₀ ann t with
      | false => none
      | true => match PySem.W.Fast.tw10156331382660048174 (PySem.W.Fast.tw11892475500146522536 PySem.W.Fast.tw14364793385576792824) p w s t with
        | some (s', t') => runQ p w n₀ ann n s' t'
        | none => none
theorem runQ_eq {p : Program} {w : World} {n₀ : Nat} {ann : Option Value} : ∀ (n : Nat) (s : SharedT) (t : Thread), runT treeTable p w n₀ ann n s t = runQ p w n₀ ann n s t
  | 0, _, _ => rfl
  | n + 1, s, t => by
    unfold runT runQ
    rw [← PySem.W.Fast.te6613529449190102663, ← PySem.W.Fast.te10156331382660048174, ← PySem.W.Fast.te11892475500146522536, ← PySem.W.Fast.te14364793385576792824]
    simp only [runQ_eq n]
noncomputable def looksQ {α : Type} (p q : Program) (loose : List Str) (Xt : Shared → Bool) (y : α) (h₀ : Heap) (s : Shared) :=
  ((staticsOk (PySem.W.Fast.tw5923862056798008813 p.main.body) h₀ s.heap && namesBound p s.heap && gensDone s && laidKept h₀ s.heap), PySem.W.Fast.tw4187177175401517315 q loose (PySem.W.Fast.tw5923862056798008813 p.main.body) Xt true s, y)
theorem looksQ_eq {α : Type} {p q : Program} {loose : List Str} {Xt : Shared → Bool} {y : α} {h₀ : Heap} : looksT p q loose Xt y h₀ = looksQ p q loose Xt y h₀ := by
  funext s
  unfold looksT looksQ
  rw [PySem.W.Fast.te5923862056798008813, PySem.W.Fast.te4187177175401517315]
theorem quick {α : Type} {p q : Program} {loose : List Str} {Xt : Shared → Bool} {Y : SharedT → α} {h₀ : Heap} {w : World} {n₀ : Nat} {ann : Option Value} {n : Nat} {s : SharedT} {t : Thread} {r}
    (e : (runQ p w n₀ ann n s t).map (fun S => looksQ p q loose Xt (Y S) h₀ S.abs) = some r) : (runT treeTable p w n₀ ann n s t).map (fun S => looksT p q loose Xt (Y S) h₀ S.abs) = some r := by
  rw [runQ_eq]; simp only [looksQ_eq]; exact e
theorem headH {r : OpenRow} {q : Program} {loose : List Str} {Xt : Shared → Bool} {XP : (Str → Option Value) → Heap → Prop} {α : Type} {Yf : Shared → α} {Ya : World → α} {YP : World → Heap → Prop} {d : DefRec} {kwd : List (Str × Expr)} {N : Nat}
    (hY : ∀ w s, Yf s = Ya w → YP w s.heap) (hYk : ∀ w h h', YP w h → (∀ b o, h.get? b = some o → h'.get? b = some o) → YP w h')
    (hX : ∀ s, Xt s = true → XP (s.heap.nsMap mainGlobals) s.heap) (hXk : ∀ mg h h', XP mg h → (∀ b o, h.get? b = some o → h'.get? b = some o) → XP mg h')
    (hdef : defOf q r.name = some (d, kwd)) (hp : r.prog.theDef r.name = some (d.params, d.body, d.scope)) (hk : kwWritten? d.params.kwonlyargs d.params.kw_defaults = some kwd) (hRf : ∀ s, Xt s = true → RecFacts r.records s.heap) (hwr : (!r.writes || r.records.isEmpty) = true)
    (k1 : r.wellSaid = true) (ok : (chainsOk q && opensWell r.prog && (frees r.toRowW && r.within.isEmpty)) = true) (hb : r.prog.bare) (hw : r.toRowW.promised)
    (call : LeftO r.prog q loose Xt Yf Ya N ∧ WalkO q loose XP YP r.toRowW d kwd fun f vs => guarded (.bool true) (PySem.call f vs)) : r.Holds :=
  headG call.1 hY hYk hX hXk hdef hp hk hRf hwr k1 ok hb hw call.2
end Mine
end
section
open PySem PySem.W PySem.Calls PyProof.Rows
set_option Elab.async false
set_option maxRecDepth 100000
set_option linter.unusedVariables false
set_option maxHeartbeats 8000000
namespace Mine
noncomputable def vw : Program := view PySem.Challenge.pw_qz0062_01 [0, 2, 3, 4, 6, 7, 8, 9, 10, 14, 15, 17, 18, 20, 21, 22, 23, 24, 25, 26, 28, 29, 30, 31, 32, 33, 36, 37, 38, 40, 41, 42, 43, 44, 45, 46]
noncomputable def lo : List Str := [Str.ofString "crc32", Str.ofString "adler32", Str.ofString "stored", Str.ofString "NONE", Str.ofString "SUB", Str.ofString "UP", Str.ofString "AVERAGE", Str.ofString "PAETH", Str.ofString "SIGN", Str.ofString "filtered_rows", Str.ofString "write_png"]
noncomputable def lv : List (Str × WData) := [(Str.ofString "NONE", WData.int 0), (Str.ofString "SUB", WData.int 1), (Str.ofString "UP", WData.int 2), (Str.ofString "AVERAGE", WData.int 3), (Str.ofString "PAETH", WData.int 4), (Str.ofString "SIGN", WData.bytes [137, 80, 78, 71, 13, 10, 26, 10])]
noncomputable def xt (s : Shared) : Bool := xlAt vw lv s && recOk (RowW.records (OpenRow.toRowW (OpenLaw.row PySem.Challenge.rw_qz0062_01))) s
theorem said : PySem.Challenge.rw_qz0062_01.wellSaid = true := by
  rw [PySem.W.Fast.te9446332074065402090]
  unfold PySem.W.Fast.tw9446332074065402090 PySem.W.Fast.tw17960256430627541270 PySem.W.Fast.tw2436336058641802641 PySem.W.Fast.tw12908688711261696721
  repeat' with_reducible apply look_both
  all_goals decide +kernel
theorem size0 : ∀ w : World, ((boot_heap w.params).isNs mainGlobals, (boot_heap w.params).objs.size, (boot_heap w.params).nsMap mainGlobals "__annotations__") = (true, 11, some (.ref 6)) := by intro w; kernel_rfl
theorem boot0 : opening PySem.Challenge.pw_qz0062_01 = plainProg PySem.Challenge.pw_qz0062_01.main.scope.names := by kernel_rfl
theorem fence0 : ∀ s, fenceModules? PySem.Challenge.pw_qz0062_01 s = some s := by intro s; kernel_rfl
theorem headI (H : Hook) {d : DefRec} {kwd : List (Str × Expr)} (hdef : defOf vw PySem.Challenge.rw_qz0062_01.row.name = some (d, kwd)) (hp : PySem.Challenge.rw_qz0062_01.row.prog.theDef PySem.Challenge.rw_qz0062_01.row.name = some (d.params, d.body, d.scope)) (hk : kwWritten? d.params.kwonlyargs d.params.kw_defaults = some kwd)
    (k1 : PySem.Challenge.rw_qz0062_01.row.wellSaid = true) (hw : PySem.Challenge.rw_qz0062_01.row.toRowW.promised)
    (call : LeftO PySem.Challenge.rw_qz0062_01.row.prog vw lo xt H.obs H.val 5050 ∧ WalkO vw lo (XL vw lv) H.says PySem.Challenge.rw_qz0062_01.row.toRowW d kwd fun f vs => guarded (.bool true) (PySem.call f vs)) : PySem.Challenge.rw_qz0062_01.row.Holds :=
  headH H.of H.keeps (fun s e => xl_of s (Bool.and_eq_true_iff.mp e).1) XL.keeps hdef hp hk (fun s e => recFacts_of (Bool.and_eq_true_iff.mp e).2) (by rfl) k1 (by decide +kernel) ⟨rfl, rfl, rfl, rfl, rfl, by decide +kernel⟩ hw call
local macro_rules | `(tactic| o_law) => `(tactic| refine holds_law said fun said => ?_)
local macro_rules | `(tactic| o_head $H) => `(tactic| refine headI $H (by rfl) (by rfl) (by rfl) (by assumption) ?hw ?hc)
open_top hd for PySem.Challenge.rw_qz0062_01

def RunOk (b : Bool) : Prop := ∀ (as : List Addr) (e : ∀ P, as = (hd.heap_1 P).map (·.1)) (w : World) (os : OsState),
  (runQ PySem.Challenge.pw_qz0062_01 (w.withFollow "special-get-raises" b) 11 (some (.ref 6)) 5050 ⟨bootTree (w.withFollow "special-get-raises" b).params, (boot_heap (w.withFollow "special-get-raises" b).params).objs.size, (boot_heap (w.withFollow "special-get-raises" b).params).life, Array.mk [], boot_drawn, boot_toks, os⟩ (topStub PySem.Challenge.pw_qz0062_01)).map
    (fun S => looksQ PySem.Challenge.pw_qz0062_01 vw lo xt (as.map (lookT S), [329].map (lookT S)) (boot_heap (w.withFollow "special-get-raises" b).params) S.abs) = some (true, openGood vw lo, (kmHook hd.heap_1 as e [329]).val (w.withFollow "special-get-raises" b))
theorem run_f : RunOk false := by
  intro as e w os
  have := e w.params
  subst this
  unfold openGood expectedOf pinGoodD plainGoodE plainGoodD wideGood clsGoodW
  rw [PySem.W.Fast.te3399658132070893891, PySem.W.Fast.te3247288618530077131, PySem.W.Fast.te210736558901404530, PySem.W.Fast.te821141287760084731, PySem.W.Fast.te4354255287344443571, PySem.W.Fast.te694669760492028198, PySem.W.Fast.te1571739515156823405]
  kernel_rfl
theorem run_t : RunOk true := by
  intro as e w os
  have := e w.params
  subst this
  unfold openGood expectedOf pinGoodD plainGoodE plainGoodD wideGood clsGoodW
  rw [PySem.W.Fast.te3399658132070893891, PySem.W.Fast.te3247288618530077131, PySem.W.Fast.te210736558901404530, PySem.W.Fast.te821141287760084731, PySem.W.Fast.te4354255287344443571, PySem.W.Fast.te694669760492028198, PySem.W.Fast.te1571739515156823405]
  kernel_rfl
theorem left1 (as : List Addr) (e : ∀ P, as = (hd.heap_1 P).map (·.1)) : LeftO PySem.Challenge.pw_qz0062_01 vw lo xt (kmHook hd.heap_1 as e [329]).obs (kmHook hd.heap_1 as e [329]).val 5050 := by
  refine left_T (Y := fun S => (as.map (lookT S), [329].map (lookT S))) (H₀ := boot_heap) (T₀ := bootTree) (n := fun P => (boot_heap P).objs.size) (life := fun P => (boot_heap P).life) (m₀ := 11) (ann := some (.ref 6)) (boot_open boot0 (by decide) fence0) size0 bootTree_ok (fun S => congrArg (fun f => (as.map f, [329].map f)) (lookT_eq S)) fun w os => ?_
  refine quick ?_
  revert os
  revert w
  exact byRow2 "special-get-raises" (run_f as e) (run_t as e)
end Mine
end
section
open PySem PySem.W PySem.Calls PyProof.Rows
set_option Elab.async false
set_option maxRecDepth 100000
set_option linter.unusedVariables false
set_option maxHeartbeats 4000000
namespace Mine
example (w : World) (c : Cx) : c.P = PySem.Challenge.rw_qz0062_01.row.prog → (hd.heap_1 w.params).lookup 102 = none → True := by
  k_fill
  intro _ _; trivial
theorem E_nameL {c : Cx} {l : Loc} {n : Led} {E : Value → Shared → Prop} {env : Env} {Q : Value → Loc → Led → Prop} {pos : Pos} {x : Str} {v : Value} (hv : (x, v) ∈ l) (V : Ev c env) (hk : env.kindOf x = some .local) (q : Q v l n) (hd : (x == ("__debug__" : Str)) = false := by decide) : W c l n (eval (.Name x pos) env) Q E := E_name V hk hv q hd
example : True := by
  k_with_none
  k_with "ex" => skip
  k_with "mm" => first
    | exact List.mem_cons_self
    | (refine List.mem_cons_of_mem _ ?_; k_extra "mm")
    | fail "none"
  k_with "put" => first
    | with_reducible exact Put.hit
    | with_reducible exact Put.nil
    | ((with_reducible show Put _ _ (_ :: _) _); exact Put.skipS (by decide) (by k_extra "put"))
    | fail "none"
  k_with "lset" => first
    | exact LSet.head
    | ((with_reducible show LSet _ _ _ (_ :: _) _); exact LSet.tail (by k_extra "lset"))
    | fail "none"
  k_with "sbl" => first
    | exact List.Sublist.refl _
    | (refine List.Sublist.cons_cons _ ?_; k_extra "sbl")
    | (refine List.Sublist.cons _ ?_; k_extra "sbl")
    | exact List.nil_sublist _
    | fail "none"
  k_with "ints" => first
    | exact IntsAre.nil
    | (refine IntsAre.cons _ _ ?_; k_extra "ints")
    | fail "none"
  k_with "back" => first
    | exact ⟨_, List.perm_middle (l₁ := []), by k_extra "sbl"⟩
    | exact ⟨_, List.perm_middle (l₁ := [_]), by k_extra "sbl"⟩
    | exact ⟨_, List.perm_middle (l₁ := [_, _]), by k_extra "sbl"⟩
    | exact ⟨_, List.perm_middle (l₁ := [_, _, _]), by k_extra "sbl"⟩
    | exact ⟨_, List.perm_middle (l₁ := [_, _, _, _]), by k_extra "sbl"⟩
    | exact ⟨_, List.perm_middle (l₁ := [_, _, _, _, _]), by k_extra "sbl"⟩
    | exact ⟨_, List.perm_middle (l₁ := [_, _, _, _, _, _]), by k_extra "sbl"⟩
    | exact ⟨_, List.perm_middle (l₁ := [_, _, _, _, _, _, _]), by k_extra "sbl"⟩
    | fail "none"
  k_with "def" => (
    (case ho => k_is); (case hcd => k_is)
    (case hb => first | exact fun s X => BindsTo.of_eq rfl | exact fun s X => binds_K X rfl (by k_is) rfl rfl (by kernel_rfl))
    (case hl => exact locs (by rfl)); (case hn => (simp only [List.map_cons, List.map_nil]; decide)); (case hc => decide); (case h1 => rfl); (case h2 => rfl); (case h3 => rfl))
  k_with "stmt" => first
    | ((with_reducible show Mine.W _ _ _ (execs (Stmt.Assign [Expr.Name _ _] _ _ :: _) _) _ _); refine S_assign ?_)
    | ((with_reducible show Mine.W _ _ _ (execs (Stmt.If _ _ _ _ :: _) _) _ _); refine S_if ?_)
    | ((with_reducible show Mine.W _ _ _ (execs (Stmt.Return _ _ :: _) _) _ _); refine S_return ?_)
    | ((with_reducible show Mine.W _ _ _ (execs (Stmt.Expr _ _ :: _) _) _ _); refine S_expr ?_)
    | ((with_reducible show Mine.W _ _ _ (execs (Stmt.For _ _ _ _ _ :: _) _) _ _); refine S_for ?_)
    | with_reducible refine S_nil ?_
    | ((with_reducible show Mine.W _ _ _ (execs (Stmt.Assign [Expr.Attribute _ _ _] _ _ :: _) _) _ _); refine S_assignA ?_)
    | ((with_reducible show Mine.W _ _ _ (execs (Stmt.Assign [Expr.Subscript _ _ _] _ _ :: _) _) _ _); refine S_assignS ?_)
    | ((with_reducible show Mine.W _ _ _ (execs (Stmt.Assign [Expr.Tuple [_, _] _ _] (Expr.Tuple _ _ _) _ :: _) _) _ _); refine S_tup2 (Cok.hh (by assumption)) ?_ (by rfl))
    | ((with_reducible show Mine.W _ _ _ (execs (Stmt.Assign [Expr.Tuple [_, _, _] _ _] (Expr.Tuple _ _ _) _ :: _) _) _ _); refine S_tup3 (Cok.hh (by assumption)) ?_ (by rfl))
    | ((with_reducible show Mine.W _ _ _ (execs (Stmt.Assign [Expr.Tuple _ _ _] _ _ :: _) _) _ _); refine S_unpack ?_)
    | fail "none"
  k_with "name" => first
    | refine E_nameL (by with_reducible k_extra "mm") ⟨rfl, rfl, rfl⟩ (by rfl) ?_
    | refine E_nameG (K := Mine.hd.heap_1 _) (by assumption) rfl rfl (by rfl) (by k_is) ?_
    | (refine E_nameB (K := Mine.hd.heap_1 _) (by assumption) rfl rfl rfl (by rfl) (by k_is) (by first | boot_fast | boot_by_name) (by decide) ?_)
    | refine E_nameC rfl (by rfl) (by rfl) (by with_reducible k_extra "mm") ?_
    | refine E_nameF rfl (by rfl) (by rfl) (by with_reducible k_extra "mm") ?_
    | fail "none"
  k_with "expr" => first
    | ((with_reducible show Mine.W _ _ _ (eval (Expr.Name _ _) _) _ _); k_extra "name")
    | ((with_reducible show Mine.W _ _ _ (eval (Expr.Constant _ _ _) _) _ _); (first | (refine E_int ?_; intro _) | (refine E_str ?_; intro _) | refine E_bool ?_ | refine E_none ?_ | (refine E_bytes ?_; intro _)))
    | ((with_reducible show Mine.W _ _ _ (eval (Expr.BinOp _ _ _ _) _) _ _); refine E_bin ?_)
    | ((with_reducible show Mine.W _ _ _ (eval (Expr.Call (Expr.Attribute _ _ _) _ _ _) _) _ _); refine E_meth ?_)
    | ((with_reducible show Mine.W _ _ _ (eval (Expr.Call _ _ _ _) _) _ _); refine E_call ?_)
    | ((with_reducible show Mine.W _ _ _ (eval (Expr.Attribute _ _ _) _) _ _); refine E_attr ?_)
    | ((with_reducible show Mine.W _ _ _ (eval (Expr.Subscript _ (Expr.Slice _ _ _ _) _) _) _ _); k_extra "slice")
    | ((with_reducible show Mine.W _ _ _ (eval (Expr.Subscript _ _ _) _) _ _); refine E_sub ?_)
    | ((with_reducible show Mine.W _ _ _ (eval (Expr.Tuple _ _ _) _) _ _); refine E_tuple ?_)
    | ((with_reducible show Mine.W _ _ _ (eval (Expr.List _ _) _) _ _); refine E_list ?_)
    | ((with_reducible show Mine.W _ _ _ (eval (Expr.IfExp _ _ _ _) _) _ _); refine E_ife ?_)
    | ((with_reducible show Mine.W _ _ _ (eval (Expr.Compare _ _ _ _) _) _ _); refine E_cmp ?_)
    | ((with_reducible show Mine.W _ _ _ (eval (Expr.UnaryOp _ _ _) _) _ _); refine E_un ?_)
    | fail "none"
  k_with "slice" => first
    | ((with_reducible show Mine.W _ _ _ (eval (Expr.Subscript _ (Expr.Slice (some _) (some _) none _) _) _) _ _); refine E_slice ?_)
    | ((with_reducible show Mine.W _ _ _ (eval (Expr.Subscript _ (Expr.Slice none (some _) none _) _) _) _ _); refine E_sliceU ?_)
    | ((with_reducible show Mine.W _ _ _ (eval (Expr.Subscript _ (Expr.Slice (some _) none none _) _) _) _ _); refine E_sliceL ?_)
    | fail "none"
  k_with "test" => first
    | ((with_reducible show Mine.W _ _ _ (PySem.isTrue (Expr.Compare _ [_] _ _) _ _) _ _); refine T_cmp ?_)
    | ((with_reducible show Mine.W _ _ _ (PySem.isTrue (Expr.Compare _ _ _ _) _ _) _ _); refine T_chain ?_)
    | ((with_reducible show Mine.W _ _ _ (PySem.isTrue (Expr.UnaryOp UnaryOp.Not _ _) _ _) _ _); refine T_not ?_)
    | ((with_reducible show Mine.W _ _ _ (PySem.isTrue (Expr.BoolOp _ _ _) _ _) _ _); refine T_bool ?_)
    | refine T_val ?_
    | fail "none"
  k_with "op" => first
    | ((with_reducible refine O_add ?_); intro _)
    | ((with_reducible refine O_sub ?_); intro _)
    | ((with_reducible refine O_and ?_); intro _)
    | ((with_reducible refine O_or ?_); intro _)
    | ((with_reducible refine O_xor ?_); intro _)
    | ((with_reducible refine O_mod ?_ ?_); (focus first | decide | omega); intro _)
    | ((with_reducible refine O_mul ?_ ?_); rotate_left; (focus first | exact IntMulOk.of_left (by decide) | exact IntMulOk.of_right (by decide) | mul_fits); intro _)
    | ((with_reducible refine O_shl ?_ ?_ ?_ ?_); (focus first | decide | omega); (focus first | decide | omega); (focus first | exact u8_lt _ | omega); intro _)
    | ((with_reducible refine O_shr ?_ ?_); (focus first | decide | omega); intro _)
    | ((with_reducible refine B_add ?_ ?_); (focus first | decide | omega | (simp only [List.length_append, List.length_cons, List.length_nil]; omega)); intro _)
    | fail "none"
  k_with "cmp" => first
    | with_reducible refine O_eq ?_
    | with_reducible refine O_lt ?_
    | with_reducible refine O_le ?_
    | with_reducible refine O_gt ?_
    | with_reducible refine O_ge ?_
    | with_reducible refine O_ne ?_
    | with_reducible refine B_ne ?_
    | with_reducible refine O_isNone ?_
    | fail "none"
  k_with "callw" => first
    | refine C_def (K := Mine.hd.heap_1 _) (d := _) (by assumption) (by k_is) ?_
    | refine C_def0 (K := Mine.hd.heap_1 _) (d := _) (by assumption) (by k_is) ?_
    | fail "none"
  k_with "call" => first
    | ((with_reducible show Mine.W _ _ _ (call _ (_ ++ _) _) _ _); dsimp only [List.nil_append, List.cons_append])
    | ((with_reducible refine B_len ?_ ?_); (focus first | decide | omega); intro _)
    | ((with_reducible refine C_range1 ?_); intro _)
    | ((with_reducible show Mine.W _ _ _ (call (Value.type _) [Value.ref _] _) _ _); refine B_ofBA (by with_reducible k_extra "mm") (by (rw [sizeLine_eq]; (try simp only [List.length_append, List.length_map, List.length_cons, List.length_nil, List.length_take]); omega)) ?_; intro _)
    | fail "none"
  k_with "w" => first
    | ((with_reducible show Mine.W _ _ _ (storeName _ _ _) _ _); k_extra "store")
    | ((with_reducible show Mine.W _ _ _ (PySem.isTrue _ _ _) _ _); k_extra "test")
    | ((with_reducible show Mine.W _ _ _ (spliced _) _ _); (first | refine L_nil ?_ | refine L_cons ?_))
    | ((with_reducible show Mine.W _ _ _ (callWith _ (Value.ref _) _ _ _) _ _); k_extra "callw")
    | ((with_reducible show Mine.W _ _ _ (callWith _ _ _ _ _) _ _); (with_reducible first | refine C_type ?_ | refine C_bi ?_))
    | ((with_reducible show Mine.W _ _ _ (call _ _ _) _ _); k_extra "call")
    | ((with_reducible show Mine.W _ _ _ (binaryOp _ _ _) _ _); k_extra "op")
    | ((with_reducible show Mine.W _ _ _ (compareOp _ _ _) _ _); k_extra "cmp")
    | ((with_reducible show Mine.W _ _ _ (truthy _) _ _); (with_reducible refine T_b ?_))
    | ((with_reducible show Mine.W _ _ _ (assign _ _ _) _ _); (with_reducible first | refine A_name ?_ | refine A_tuple (Cok.hh (by assumption)) (.tup List.mem_cons_self) ?_))
    | ((with_reducible refine N_list ?_ ?_); (focus first | decide | size_fits); intro _)
    | ((with_reducible refine N_tuple ?_ ?_); (focus first | decide | size_fits); intro _)
    | ((with_reducible show Mine.W _ _ _ (assignInOrder _ _) _ _); (with_reducible first | refine IO_cons ?_ | refine IO_done ?_))
    | ((with_reducible show Mine.W _ _ _ (allTrue _ _ _) _ _); (with_reducible first | refine T_orN ?_ | refine T_or ?_))
    | ((with_reducible show Mine.W _ _ _ (testChain _ _ _ _) _ _); (first | refine TC_last ?_ | refine TC_cons ?_))
    | ((with_reducible show Mine.W _ _ _ (getMethod _ _ _) _ _); k_extra "meth")
    | ((with_reducible show Mine.W _ _ _ (subscriptTail _ _ _ _) _ _); (with_reducible refine B_item ?_ ?_ ?_ ?_); (focus omega); (focus omega); (focus omega); intro _)
    | fail "none"
  k_with "store" => first
    | refine W_store ⟨rfl, rfl, rfl⟩ (by rfl) (by k_extra "put") ?_
    | fail "none"
  k_with "meth" => first
    | (refine G_list (by with_reducible k_extra "mm") (by first | with_reducible exact slot_list_append) (by first | with_reducible exact type_list_append) ?_)
    | (refine G_ba (by with_reducible k_extra "mm") (by first | with_reducible exact By.sl_extend | with_reducible exact By.sl_append) (by first | with_reducible exact By.ty_extend | with_reducible exact By.ty_append) ?_)
    | fail "none"
  k_with "p" => first
    | ((with_reducible show (if _ = true then _ else _)); k_extra "ite")
    | (with_reducible first | refine Cont_next ?_ | refine Cont_ret ?_)
    | (refine ⟨_, _, _, _, _, _, rfl, rfl, rfl, ?_, ?_, ?_, ?_⟩; (focus omega); (focus omega); (focus omega); intro _)
    | (refine ⟨_, _, _, _, rfl, rfl, ?_, ?_, ?_⟩; (focus omega); (focus omega); intro _)
    | ((with_reducible show _ = Value.none ∧ _); refine ⟨rfl, ?_⟩)
    | ((with_reducible show ∃ a b, [_, _] = [a, b] ∧ _); refine ⟨_, _, rfl, ?_⟩)
    | ((with_reducible show ∃ a b d, [_, _, _] = [a, b, d] ∧ _); refine ⟨_, _, _, rfl, ?_⟩)
    | fail "none"
  k_with "ite" => first
    | ((with_reducible refine ite_no ?_ ?_); (focus first | decide | exact decide_eq_false (by omega) | exact not_dec (by omega) | exact beq_ne (by omega)))
    | ((with_reducible refine ite_yes ?_ ?_); (focus first | decide | exact decide_eq_true (by omega) | exact not_decT (by omega) | exact beq_eq (by omega)))
    | fail "none"
  k_with "ms" => first
    | ((with_reducible show Mine.W _ _ _ (eval _ _) _ _); k_extra "expr")
    | ((with_reducible show Mine.W _ _ _ (execs _ _) _ _); k_extra "stmt")
    | ((with_reducible show Mine.W _ _ _ _ _ _); k_extra "w")
    | k_extra "p"
    | fail "none"
  k_with "go" => repeat' (k_extra "ms")
  k_with "vstmt" => first
    | ((with_reducible show Mine.V _ _ _ (execs (Stmt.Assign [Expr.Name _ _] _ _ :: _) _) _ _); refine VS_assign ?_)
    | ((with_reducible show Mine.V _ _ _ (execs (Stmt.If _ _ _ _ :: _) _) _ _); refine VS_if ?_)
    | ((with_reducible show Mine.V _ _ _ (execs (Stmt.Return _ _ :: _) _) _ _); refine VS_return ?_)
    | ((with_reducible show Mine.V _ _ _ (execs (Stmt.Expr _ _ :: _) _) _ _); refine VS_expr ?_)
    | ((with_reducible show Mine.V _ _ _ (execs (Stmt.For _ _ _ _ _ :: _) _) _ _); refine VS_for ?_)
    | with_reducible refine VS_nil ?_
    | ((with_reducible show Mine.V _ _ _ (execs (Stmt.Assign [Expr.Tuple [_, _] _ _] (Expr.Tuple _ _ _) _ :: _) _) _ _); refine VS_tup2 (Cok.hh (by assumption)) ?_ (by rfl))
    | ((with_reducible show Mine.V _ _ _ (execs (Stmt.Assign [Expr.Tuple [_, _, _] _ _] (Expr.Tuple _ _ _) _ :: _) _) _ _); refine VS_tup3 (Cok.hh (by assumption)) ?_ (by rfl))
    | fail "none"
  k_with "v" => first
    | ((with_reducible refine BA_new (Cok.guards (by assumption)) ?_); intro _)
    | ((with_reducible show Mine.V _ _ _ (eval (Expr.Call (Expr.Attribute _ _ _) _ _ _) _) _ _); refine VE_meth ?_)
    | ((with_reducible show Mine.V _ _ _ (eval (Expr.Call _ _ _ _) _) _ _); refine VE_call ?_)
    | ((with_reducible show Mine.V _ _ _ (eval _ _) _ _); refine V_of ?_)
    | ((with_reducible show Mine.V _ _ _ (storeName _ _ _) _ _); refine V_of ?_)
    | ((with_reducible show Mine.V _ _ _ (PySem.isTrue _ _ _) _ _); refine V_of ?_)
    | ((with_reducible show Mine.V _ _ _ (spliced _) _ _); (first | refine VL_nil ?_ | refine VL_cons ?_))
    | ((with_reducible show Mine.V _ _ _ (callWith _ (Value.type _) _ _ _) _ _); (first | refine VC_type ?_ | refine VC_type0 ?_))
    | ((with_reducible show Mine.V _ _ _ (callWith _ (Value.builtin _) _ _ _) _ _); refine VC_bi ?_)
    | ((with_reducible show Mine.V _ _ _ (callWith _ (Value.ref _) _ _ _) _ _); refine VC_def (K := Mine.hd.heap_1 _) (d := _) (by assumption) (by k_is) ?_)
    | ((with_reducible show Mine.V _ _ _ (call _ (_ ++ _) _) _ _); dsimp only [List.nil_append, List.cons_append])
    | ((with_reducible show Mine.V _ _ _ (call (Value.builtin "len") [Value.bytes _ _] _) _ _); refine V_of ?_)
    | ((with_reducible show Mine.V _ _ _ (call (Value.type "bytes") _ _) _ _); refine V_of ?_)
    | fail "none"
  k_with "vs" => first
    | ((with_reducible show Mine.V _ _ _ (execs _ _) _ _); k_extra "vstmt")
    | ((with_reducible show Mine.V _ _ _ _ _ _); k_extra "v")
    | (with_reducible first | refine ContV_next ?_ | refine ContV_ret ?_)
    | k_extra "ms"
    | fail "none"
  k_with "vgo" => repeat' (k_extra "vs")
  trivial
noncomputable def adlStep (p : Int × Int) (x : UInt8) : Int × Int := ((p.1 + (x.toNat : Int)).fmod 65521, (p.2 + (p.1 + (x.toNat : Int)).fmod 65521).fmod 65521)
noncomputable def adlPair (bs : List UInt8) : Int × Int := bs.foldl adlStep (1, 0)
theorem adlPair_snoc (bs : List UInt8) (x : UInt8) : adlPair (bs ++ [x]) = adlStep (adlPair bs) x := by unfold adlPair; rw [List.foldl_append]; rfl
theorem adlPair_lt (bs : List UInt8) : (0 ≤ (adlPair bs).1 ∧ (adlPair bs).1 < 65521) ∧ (0 ≤ (adlPair bs).2 ∧ (adlPair bs).2 < 65521) := by
  have key : ∀ (l : List UInt8) (p : Int × Int), (0 ≤ p.1 ∧ p.1 < 65521) ∧ (0 ≤ p.2 ∧ p.2 < 65521) → (0 ≤ (l.foldl adlStep p).1 ∧ (l.foldl adlStep p).1 < 65521) ∧ (0 ≤ (l.foldl adlStep p).2 ∧ (l.foldl adlStep p).2 < 65521) := by
    intro l
    induction l with
    | nil => intro p h; exact h
    | cons x r ih =>
      intro p h
      rw [List.foldl_cons]
      refine ih _ ⟨⟨?_, ?_⟩, ?_, ?_⟩
      · exact Int.fmod_nonneg_of_pos _ (by decide)
      · exact Int.fmod_lt_of_pos _ (by decide)
      · exact Int.fmod_nonneg_of_pos _ (by decide)
      · exact Int.fmod_lt_of_pos _ (by decide)
  exact key bs (1, 0) (by decide)

theorem adler_bytes {c : Cx} {l : Loc} {n : Led} {E : Value → Shared → Prop} {Q : Value → Loc → Led → Prop} {bs : List UInt8} {t : Tok} (V : Cok (hd.heap_1 c.w.params) c 1)
    (q : ∀ t, Q (.int (Builtin.bitOr ((adlPair bs).2 * 2 ^ 16) (adlPair bs).1) t) l n) : W c l n (call (.ref 102) [.bytes bs.toArray t]) Q E := by
  refine' W_def (K := hd.heap_1 c.w.params) (d := 0) (binds := [(Str.ofString "octets", .bytes bs.toArray t), (Str.ofString "begin", .int 1 299)]) V ?ho ?hcd ?hb ?hl ?hn ?H ?hc ?h1 ?h2 ?h3
  case ho => k_is
  case hcd => k_is
  case hb => exact fun s X => binds_K X rfl (by k_is) rfl rfl (by kernel_rfl)
  case hl => exact locs (by rfl)
  case hn => (simp only [List.map_cons, List.map_nil]; decide)
  case hc => decide
  case h1 => rfl
  case h2 => rfl
  case h3 => rfl
  intro L F V' wf
  k_extra "go"
  refine R_bytes V'.hh (fun pre l' n' => n' = (c.L, F) :: n ∧ ∃ t1 t2, l' = [(Str.ofString "high", .int (adlPair pre).2 t2), (Str.ofString "low", .int (adlPair pre).1 t1)]) _ ((c.L, F) :: n) (by k_extra "sbl") (by k_extra "sbl") ⟨rfl, _, _, rfl⟩ ?_ ?_
  · rintro pre x post l n' u a d he ⟨rfl, t1, t2, rfl⟩
    k_extra "go"
    refine' ⟨[_, _], _ :: n, ⟨rfl, _, _, ?e⟩, ?sl, ?sn⟩
    case sn => k_extra "sbl"
    case sl => k_extra "sbl"
    case e => rw [adlPair_snoc]; rfl
  · rintro l n' ⟨rfl, t1, t2, rfl⟩
    have z := adlPair_lt bs
    k_extra "go"
    exact ⟨_, q _, by k_extra "back"⟩
theorem put32_is {c : Cx} {l : Loc} {n : Led} {E : Value → Shared → Prop} {Q : Value → Loc → Led → Prop} {x : Int} {t : Tok} (V : Cok (hd.heap_1 c.w.params) c 1)
    (q : ∀ t, Q (.bytes (be32 x).toArray t) l n) : W c l n (call (.ref 72) [.int x t]) Q E := by
  refine' W_def (K := hd.heap_1 c.w.params) (d := 0) (binds := [(Str.ofString "n", .int x t)]) V ?ho ?hcd ?hb ?hl ?hn ?H ?hc ?h1 ?h2 ?h3
  k_extra "def"
  intro L F V' wf
  k_extra "go"
  refine' B_make (ns := [Builtin.bitAnd (x.fdiv (2 ^ 24)) 255, Builtin.bitAnd (x.fdiv (2 ^ 16)) 255, Builtin.bitAnd (x.fdiv (2 ^ 8)) 255, Builtin.bitAnd x 255]) V'.hh (.list List.mem_cons_self) ?i ?r ?z ?q
  case i => k_extra "ints"
  case r => intro y hy; simp only [List.mem_cons, List.not_mem_nil, or_false] at hy; rcases hy with rfl | rfl | rfl | rfl <;> exact mask8_in _
  case z => size_fits
  intro t'
  have e : [Builtin.bitAnd (x.fdiv (2 ^ 24)) 255, Builtin.bitAnd (x.fdiv (2 ^ 16)) 255, Builtin.bitAnd (x.fdiv (2 ^ 8)) 255, Builtin.bitAnd x 255].map (fun x => x.toNat.toUInt8) = be32 x := by
    simp only [mask8, Int.fdiv_eq_ediv_of_nonneg x (show (0 : Int) ≤ 2 ^ 24 by decide), Int.fdiv_eq_ediv_of_nonneg x (show (0 : Int) ≤ 2 ^ 16 by decide), Int.fdiv_eq_ediv_of_nonneg x (show (0 : Int) ≤ 2 ^ 8 by decide)]; rfl
  rw [e]
  try k_extra "k"
  exact ⟨_, q _, by k_extra "back"⟩
theorem be32_len (x : Int) : (be32 x).length = 4 := rfl
theorem get32_is {c : Cx} {l : Loc} {n : Led} {E : Value → Shared → Prop} {Q : Value → Loc → Led → Prop} {os : List UInt8} {a : Nat} {t u : Tok} (V : Cok (hd.heap_1 c.w.params) c 1) (hz : os.length ≤ 1048576) (ha : a + 4 ≤ os.length)
    (q : ∀ t, Q (.int (get4 (os.getD a 0).toNat (os.getD (a + 1) 0).toNat (os.getD (a + 2) 0).toNat (os.getD (a + 3) 0).toNat) t) l n) : W c l n (call (.ref 79) [.bytes os.toArray t, .int a u]) Q E := by
  refine' W_def (K := hd.heap_1 c.w.params) (d := 0) (binds := [(Str.ofString "octets", .bytes os.toArray t), (Str.ofString "at", .int a u)]) V ?ho ?hcd ?hb ?hl ?hn ?H ?hc ?h1 ?h2 ?h3
  k_extra "def"
  intro L F V' wf
  k_extra "go"
  have e1 : ((a : Int) + 1).toNat = a + 1 := by omega
  have e2 : ((a : Int) + 2).toNat = a + 2 := by omega
  have e3 : ((a : Int) + 3).toNat = a + 3 := by omega
  rw [e1, e2, e3]
  exact ⟨_, q _, by k_extra "back"⟩
noncomputable def crcTurn (x : Int) : Int := if Builtin.bitAnd x 1 = 0 then x.fdiv (2 ^ 1) else Builtin.bitXor (x.fdiv (2 ^ 1)) 3988292384
noncomputable def crcK : Nat → Int → Int
  | 0, x => x
  | k + 1, x => crcTurn (crcK k x)
noncomputable def crcRow (i : Nat) : Int := crcK 4 i
theorem intsAre_snoc {vs : List Value} {ns : List Int} (h : IntsAre vs ns) (x : Int) (t : Tok) : IntsAre (vs ++ [.int x t]) (ns ++ [x]) := by
  induction h with
  | nil => exact .cons _ _ .nil
  | cons y u r ih => exact .cons _ _ ih
theorem T_int {c : Cx} {l : Loc} {n : Led} {E : Value → Shared → Prop} {Q : Bool → Loc → Led → Prop} {x : Int} {t : Tok} (q : Q (x != 0) l n) : W c l n (truthy (.int x t)) Q E := fun h tk S => truthy_int (.mk S q)
theorem crcsteps_is {c : Cx} {l : Loc} {n : Led} {E : Value → Shared → Prop} {Q : Value → Loc → Led → Prop} (V : Cok (hd.heap_1 c.w.params) c 1)
    (q : ∀ a vs, IntsAre vs ((List.range 16).map crcRow) → Q (.ref a) l ((a, LST vs) :: n)) : W c l n (call (.ref 86) []) Q E := by
  refine' W_def (K := hd.heap_1 c.w.params) (d := 0) (binds := []) V ?ho ?hcd ?hb ?hl ?hn ?H ?hc ?h1 ?h2 ?h3
  k_extra "def"
  intro L F V' wf
  k_extra "go"
  rename_i fa _ ra
  refine R_range (k := 16) V'.hh (fun i l' n' => l' = [(Str.ofString "found", .ref fa)] ∧ ∃ vs, n' = (fa, LST vs) :: (c.L, F) :: n ∧ IntsAre vs ((List.range i).map crcRow)) _ ((fa, LST []) :: (c.L, F) :: n) List.mem_cons_self (by decide) (by k_extra "sbl") (by k_extra "sbl") ⟨rfl, _, rfl, .nil⟩ ?_ ?_
  · rintro i l' n' u a d hi ⟨rfl, vs, rfl, hv⟩
    have hlen : vs.length = i := by have := hv.length; simpa using this
    k_extra "go"
    rename_i rb
    refine R_range (k := 4) V'.hh (fun k l' n' => n' = (a, d) :: (fa, LST vs) :: (c.L, F) :: n ∧ ∃ t1, l' = [(Str.ofString "found", .ref fa), (Str.ofString "bits", .int i u), (Str.ofString "crc", .int (crcK k i) t1)]) _ ((a, d) :: (fa, LST vs) :: (c.L, F) :: n) List.mem_cons_self (by decide) (by k_extra "sbl") (by k_extra "sbl") ⟨rfl, _, rfl⟩ ?_ ?_
    · rintro k l' n' u' a' d' hk ⟨rfl, t1, rfl⟩
      k_extra "go"
      refine T_int ?_
      refine ite_by (fun hb => ?_) (fun hb => ?_)
      · k_extra "go"
        refine' ⟨[_, _, _], _ :: (fa, LST vs) :: (c.L, F) :: n, ⟨rfl, _, ?e⟩, ?sl, ?sn⟩
        case sn => k_extra "sbl"
        case sl => k_extra "sbl"
        case e => simp only [crcK, crcTurn]; rw [if_neg (by simpa using hb)]; rfl
      · k_extra "go"
        refine' ⟨[_, _, _], _ :: (fa, LST vs) :: (c.L, F) :: n, ⟨rfl, _, ?e⟩, ?sl, ?sn⟩
        case sn => k_extra "sbl"
        case sl => k_extra "sbl"
        case e => simp only [crcK, crcTurn]; rw [if_pos (by simpa using hb)]; rfl
    · rintro l' n' ⟨rfl, t1, rfl⟩
      k_extra "go"
      refine' L_append ?P ?z ?_
      case P => k_extra "lset"
      case z => rw [hlen, sizeLine_eq]; omega
      k_extra "go"
      refine' ⟨[_], (fa, LST (vs ++ [.int (crcK 4 i) t1])) :: (c.L, F) :: n, ⟨rfl, _, rfl, ?e⟩, ?sl, ?sn⟩
      case sn => k_extra "sbl"
      case sl => k_extra "sbl"
      case e => rw [List.range_succ, List.map_append]; exact intsAre_snoc hv _ _
  · rintro l' n' ⟨rfl, vs, rfl, hv⟩
    k_extra "go"
    exact ⟨_, q _ _ hv, by k_extra "back"⟩
noncomputable def crcStep (x : Int) (o : UInt8) : Int :=
  let y := Builtin.bitXor x (o.toNat : Int)
  let z := Builtin.bitXor (crcRow (Builtin.bitAnd y 15).toNat) (y.fdiv (2 ^ 4))
  Builtin.bitXor (crcRow (Builtin.bitAnd z 15).toNat) (z.fdiv (2 ^ 4))
noncomputable def crcSt (bs : List UInt8) : Int := bs.foldl crcStep (Builtin.bitXor 0 4294967295)
noncomputable def crcB (bs : List UInt8) : Int := Builtin.bitXor (crcSt bs) 4294967295
theorem crcSt_snoc (bs : List UInt8) (x : UInt8) : crcSt (bs ++ [x]) = crcStep (crcSt bs) x := by unfold crcSt; rw [List.foldl_append]; rfl
theorem steps_at {vs : List Value} (hv : IntsAre vs ((List.range 16).map crcRow)) (x : Int) : ∃ t, vs[(Builtin.bitAnd x 15).toNat]? = some (.int (crcRow (Builtin.bitAnd x 15).toNat) t) := by
  have hx : (Builtin.bitAnd x 15).toNat < 16 := by rw [mask4]; omega
  have hl : vs.length = 16 := by have := hv.length; simpa using this
  obtain ⟨k, t, e, h⟩ := IntsAre.at hv _ (vs[(Builtin.bitAnd x 15).toNat]'(by omega)) (List.getElem?_eq_getElem (by omega))
  refine ⟨t, ?_⟩
  rw [List.getElem?_eq_getElem (by omega), e]
  have : k = crcRow (Builtin.bitAnd x 15).toNat := by
    rw [List.getElem?_map, List.getElem?_range hx] at h
    exact (Option.some.inj h).symm
  rw [this]
theorem crc32_is {c : Cx} {l : Loc} {n : Led} {E : Value → Shared → Prop} {Q : Value → Loc → Led → Prop} {bs : List UInt8} {t : Tok} (V : Cok (hd.heap_1 c.w.params) c 2)
    (q : ∀ t, Q (.int (crcB bs) t) l n) : W c l n (call (.ref 94) [.bytes bs.toArray t]) Q E := by
  refine' W_def (K := hd.heap_1 c.w.params) (d := 1) (binds := [(Str.ofString "octets", .bytes bs.toArray t), (Str.ofString "crc", .int 0 288)]) V ?ho ?hcd ?hb ?hl ?hn ?H ?hc ?h1 ?h2 ?h3
  k_extra "def"
  intro L F V' wf
  k_extra "go"
  refine crcsteps_is V' fun sa vs hv => ?_
  k_extra "go"
  refine R_bytes V'.hh (fun pre l' n' => n' = (sa, LST vs) :: (c.L, F) :: n ∧ ∃ t1, l' = [(Str.ofString "crc", .int (crcSt pre) t1), (Str.ofString "steps", .ref sa)]) _ ((sa, LST vs) :: (c.L, F) :: n) (by k_extra "sbl") (by k_extra "sbl") ⟨rfl, _, rfl⟩ ?_ ?_
  · rintro pre x post l n' u a d he ⟨rfl, t1, rfl⟩
    k_extra "go"
    have m15 : ∀ y : Int, 0 ≤ Builtin.bitAnd y 15 ∧ Builtin.bitAnd y 15 < 16 := fun y => by rw [mask4]; omega
    obtain ⟨t2, h2⟩ := steps_at hv (Builtin.bitXor (crcSt pre) (x.toNat : Int))
    refine L_item (.list (by k_extra "mm")) (m15 _).1 (Int.lt_trans (m15 _).2 (by decide)) h2 ?_
    k_extra "go"
    obtain ⟨t3, h3⟩ := steps_at hv (Builtin.bitXor (crcRow (Builtin.bitAnd (Builtin.bitXor (crcSt pre) (x.toNat : Int)) 15).toNat) ((Builtin.bitXor (crcSt pre) (x.toNat : Int)).fdiv (2 ^ 4)))
    refine L_item (.list (by k_extra "mm")) (m15 _).1 (Int.lt_trans (m15 _).2 (by decide)) h3 ?_
    k_extra "go"
    refine' ⟨[_, _], _ :: _ :: n, ⟨rfl, _, ?e⟩, ?sl, ?sn⟩
    case sn => k_extra "sbl"
    case sl => k_extra "sbl"
    case e => rw [crcSt_snoc]; rfl
  · rintro l n' ⟨rfl, t1, rfl⟩
    k_extra "go"
    exact ⟨_, q _, by k_extra "back"⟩
example : True := by
  k_with "call" => first
    | ((with_reducible show Mine.W _ _ _ (call (Value.ref 72) [Value.int _ _] _) _ _); refine put32_is (Cok.le (by assumption) (by decide)) ?_; intro _)
    | fail "none"
  k_with "op" => first
    | ((with_reducible refine B_add ?_ ?_); (focus (simp only [List.length_append, List.length_map, List.length_cons, List.length_nil, be32_len]; omega)); intro _)
    | fail "none"
  trivial
example : True := by
  k_with "call" => first
    | ((with_reducible show Mine.W _ _ _ (call (Value.ref 94) [Value.bytes _ _] _) _ _); refine crc32_is (Cok.le (by assumption) (by decide)) ?_; intro _)
    | fail "none"
  trivial
noncomputable def chunkB (nb os : List UInt8) : List UInt8 := be32 (os.length : Int) ++ (nb ++ os) ++ be32 (crcB (nb ++ os))
theorem chunk_is {c : Cx} {l : Loc} {n : Led} {E : Value → Shared → Prop} {Q : Value → Loc → Led → Prop} {x : Str} {nb os : List UInt8} {t u : Tok} (V : Cok (hd.heap_1 c.w.params) c 3) (hx : x.cps = (nb.map fun b => b.toNat).toArray) (ha : x.cps.all (· < 128) = true) (hz : nb.length + os.length ≤ 65535)
    (q : ∀ t, Q (.bytes (chunkB nb os).toArray t) l n) : W c l n (call (.ref 256) [.str x t, .bytes os.toArray u]) Q E := by
  refine' W_def (K := hd.heap_1 c.w.params) (d := 2) (binds := [(Str.ofString "name", .str x t), (Str.ofString "octets", .bytes os.toArray u)]) V ?ho ?hcd ?hb ?hl ?hn ?H ?hc ?h1 ?h2 ?h3
  k_extra "def"
  intro L F V' wf
  k_extra "go"
  refine E_compK (CompNew.plain rfl (by decide)) ?_ rfl
  k_extra "go"
  refine I_str ha fun it => ⟨it, rfl, fun C acc F' wf' => ?_⟩
  refine RKp (N := fun _ => True) (R := fun i ys => IntsAre ys ((nb.take i).map fun b => (b.toNat : Int))) (itr_str (V'.comp C).hh it x t) (fun l n Q E q hm => SI_str hm q) ?_ .nil ?_ (fun _ => trivial) ?_ ?_
  · rw [hx, sizeLine_eq]; simp; omega
  · intro i ys h; have := h.length; simp at this; omega
  · rintro i ys v d hi h ⟨ch, u2, hc, rfl⟩
    have V'' := V'.comp C
    k_extra "go"
    refine F_ord fun t2 => ?_
    refine ⟨?_, Has.refl _⟩
    have e : (nb.take (i + 1)).map (fun b => (b.toNat : Int)) = (nb.take i).map (fun b => (b.toNat : Int)) ++ [(ch : Int)] := by
      rw [hx] at hc
      have hc2 : (nb.map fun b => b.toNat)[i]? = some ch := by simpa using hc
      rw [List.getElem?_map] at hc2
      cases hb : nb[i]? with
      | none => rw [hb] at hc2; cases hc2
      | some b =>
        rw [hb] at hc2
        have hc3 : b.toNat = ch := by simpa using hc2
        rw [List.take_add_one, hb, ← hc3]; simp
    rw [e]
    exact intsAre_snoc h _ _
  intro ys n' h hn'
  refine ⟨_, hn', ?_⟩
  have h : IntsAre ys (nb.map fun b => (b.toNat : Int)) := by
    have e : x.cps.size = nb.length := by rw [hx]; simp
    rw [e, List.take_length] at h; exact h
  k_extra "go"
  refine' B_make (ns := nb.map fun b => (b.toNat : Int)) V'.hh (.list List.mem_cons_self) h ?r ?z ?q
  case r => intro y hy; obtain ⟨b, _, rfl⟩ := List.mem_map.mp hy; have := b.toNat_lt; omega
  case z => rw [h.length, List.length_map, sizeLine_eq]; omega
  intro t3
  have e : (nb.map fun b => (b.toNat : Int)).map (fun x => x.toNat.toUInt8) = nb := by
    rw [List.map_map]
    exact (List.map_congr_left fun b _ => by simp).trans (List.map_id nb)
  rw [e]
  k_extra "go"
  exact ⟨_, q _, by k_extra "back"⟩
example : True := by
  k_with "call" => first
    | ((with_reducible show Mine.W _ _ _ (call (Value.ref 102) [Value.bytes _ _] _) _ _); refine adler_bytes (Cok.le (by assumption) (by decide)) ?_; intro _)
    | fail "none"
  trivial
example : True := by
  k_with "call" => first
    | ((with_reducible show Mine.W _ _ _ (call (Value.ref 79) [Value.bytes _ _, Value.int _ _] _) _ _); refine get32_is (Cok.le (by assumption) (by decide)) ?_ ?_ ?_; (focus omega); (focus omega); intro _)
    | fail "none"
  trivial
/-- one block -/
noncomputable def blk (last : Bool) (p : List UInt8) : List UInt8 := [(if last then 1 else 0 : Int), (p.length : Int) % 256, (p.length : Int) / 256, 255 - (p.length : Int) % 256, 255 - (p.length : Int) / 256].map (fun x => x.toNat.toUInt8) ++ p
/-- the blocks of what is left -/
noncomputable def blks (most : Nat) : Nat → List UInt8 → List UInt8
  | 0, p => blk true p
  | k + 1, p => if p.length ≤ most then blk true p else blk false (p.take most) ++ blks most k (p.drop most)
theorem blks_last {most k : Nat} {p : List UInt8} (h : p.length ≤ most) : blks most k p = blk true p := by
  cases k with
  | zero => rfl
  | succ k => unfold blks; rw [if_pos h]
theorem blks_more {most k : Nat} {p : List UInt8} (h : ¬ p.length ≤ most) : blks most (k + 1) p = blk false (p.take most) ++ blks most k (p.drop most) := by rw [blks, if_neg h]
theorem getD_at {z w : List UInt8} {a : Nat} (h : z.drop a = w) (i : Nat) : z.getD (a + i) 0 = w.getD i 0 := by
  rw [← h, List.getD_eq_getElem?_getD, List.getD_eq_getElem?_getD, List.getElem?_drop]
theorem blk_items (last : Bool) {p rest : List UInt8} (hp : p.length ≤ 65535) :
    ((blk last p ++ rest).getD 0 0).toNat = (if last then 1 else 0) ∧ ((blk last p ++ rest).getD 1 0).toNat = p.length % 256 ∧ ((blk last p ++ rest).getD 2 0).toNat = p.length / 256 ∧
    ((blk last p ++ rest).getD 3 0).toNat = 255 - p.length % 256 ∧ ((blk last p ++ rest).getD 4 0).toNat = 255 - p.length / 256 := by
  have k : ∀ x : Int, 0 ≤ x → x < 256 → (x.toNat.toUInt8).toNat = x.toNat := fun x h0 h1 => by have := byte_back h0 h1; omega
  refine ⟨?_, ?_, ?_, ?_, ?_⟩
  · show ((if last then 1 else 0 : Int).toNat.toUInt8).toNat = _
    cases last <;> rfl
  · show (((p.length : Int) % 256).toNat.toUInt8).toNat = _
    rw [k _ (by omega) (by omega)]; omega
  · show (((p.length : Int) / 256).toNat.toUInt8).toNat = _
    rw [k _ (by omega) (by omega)]; omega
  · show ((255 - (p.length : Int) % 256).toNat.toUInt8).toNat = _
    rw [k _ (by omega) (by omega)]; omega
  · show ((255 - (p.length : Int) / 256).toNat.toUInt8).toNat = _
    rw [k _ (by omega) (by omega)]; omega
theorem blk_len (last : Bool) (p : List UInt8) : (blk last p).length = 5 + p.length := by unfold blk; rw [List.length_append]; rfl
theorem or8 {a b : Nat} (ha : a < 256) : Builtin.bitOr (a : Int) ((b : Int) * 2 ^ Int.toNat 8) = (b : Int) * 256 + a := by
  show Builtin.bitOr (a : Int) ((b : Int) * 2 ^ 8) = _
  have e : Builtin.bitOr (a : Int) ((b : Int) * 2 ^ 8) = Builtin.bitOr ((b : Int) * 2 ^ 8) (a : Int) := by unfold Builtin.bitOr; rw [bitAnd_comm]
  rw [e, bitOr_add' 8 (by omega) (by omega) (by omega)]; rfl
theorem bne_no {a b : Int} (h : a = b) : (a != b) = false := by simp [h]
theorem bne_yes {a b : Int} (h : a ≠ b) : (a != b) = true := by simp [h]
theorem block_is {c : Cx} {l : Loc} {n : Led} {E : Value → Shared → Prop} {Q : Value → Loc → Led → Prop} {z p rest : List UInt8} {last : Bool} {a : Nat} {t u : Tok} (V : Cok (hd.heap_1 c.w.params) c 1) (hz : z.length ≤ 1048576) (hd' : z.drop a = blk last p ++ rest) (hp : p.length ≤ 65535)
    (q : ∀ t, Q (.int (p.length : Int) t) l n) : W c l n (call (.ref 117) [.bytes z.toArray t, .int a u]) Q E := by
  refine' W_def (K := hd.heap_1 c.w.params) (d := 0) (binds := [(Str.ofString "octets", .bytes z.toArray t), (Str.ofString "at", .int a u)]) V ?ho ?hcd ?hb ?hl ?hn ?H ?hc ?h1 ?h2 ?h3
  k_extra "def"
  intro L F V' wf
  have hlen : a + 5 + p.length ≤ z.length := by
    have := congrArg List.length hd'
    rw [List.length_drop, List.length_append, blk_len] at this
    omega
  obtain ⟨k0, k1, k2, k3, k4⟩ := blk_items last (rest := rest) hp
  have g0 : (z.getD (a : Int).toNat 0).toNat = if last then 1 else 0 := by rw [show (a : Int).toNat = a + 0 by omega, getD_at hd']; exact k0
  have g1 : (z.getD ((a : Int) + 1).toNat 0).toNat = p.length % 256 := by rw [show ((a : Int) + 1).toNat = a + 1 by omega, getD_at hd']; exact k1
  have g2 : (z.getD ((a : Int) + 2).toNat 0).toNat = p.length / 256 := by rw [show ((a : Int) + 2).toNat = a + 2 by omega, getD_at hd']; exact k2
  have g3 : (z.getD ((a : Int) + 3).toNat 0).toNat = 255 - p.length % 256 := by rw [show ((a : Int) + 3).toNat = a + 3 by omega, getD_at hd']; exact k3
  have g4 : (z.getD ((a : Int) + 4).toNat 0).toNat = 255 - p.length / 256 := by rw [show ((a : Int) + 4).toNat = a + 4 by omega, getD_at hd']; exact k4
  k_extra "go"
  have e : ((p.length / 256 : Nat) : Int) * 256 + ((p.length % 256 : Nat) : Int) = (p.length : Int) := by omega
  rw [g1, g2, g3, g4, or8 (a := p.length % 256) (by omega), or8 (a := 255 - p.length % 256) (by omega), e]
  refine ite_no (bne_no (by omega)) ?_
  k_extra "go"
  exact ⟨_, q _, by k_extra "back"⟩
theorem adler_ba {c : Cx} {l : Loc} {n : Led} {E : Value → Shared → Prop} {Q : Value → Loc → Led → Prop} {bs : List UInt8} {fa : Addr} (V : Cok (hd.heap_1 c.w.params) c 1) (hm : (fa, BYA bs) ∈ n)
    (q : ∀ t, Q (.int (Builtin.bitOr ((adlPair bs).2 * 2 ^ 16) (adlPair bs).1) t) l n) : W c l n (call (.ref 102) [.ref fa]) Q E := by
  refine' W_def (K := hd.heap_1 c.w.params) (d := 0) (binds := [(Str.ofString "octets", .ref fa), (Str.ofString "begin", .int 1 299)]) V ?ho ?hcd ?hb ?hl ?hn ?H ?hc ?h1 ?h2 ?h3
  k_extra "def"
  intro L F V' wf
  k_extra "go"
  refine R_ba V'.hh (fun pre l' n' => n' = (c.L, F) :: n ∧ ∃ t1 t2, l' = [(Str.ofString "high", .int (adlPair pre).2 t2), (Str.ofString "low", .int (adlPair pre).1 t1)]) _ ((c.L, F) :: n) (List.mem_cons_of_mem _ hm) (by k_extra "sbl") (by k_extra "sbl") ⟨rfl, _, _, rfl⟩ (by rintro p l n ⟨rfl, _⟩; exact List.mem_cons_of_mem _ hm) ?_ ?_
  · rintro pre x post l n' u a d he ⟨rfl, t1, t2, rfl⟩
    k_extra "go"
    refine' ⟨[_, _], _ :: n, ⟨rfl, _, _, ?e⟩, ?sl, ?sn⟩
    case sn => k_extra "sbl"
    case sl => k_extra "sbl"
    case e => rw [adlPair_snoc]; rfl
  · rintro l n' ⟨rfl, t1, t2, rfl⟩
    have z := adlPair_lt bs
    k_extra "go"
    exact ⟨_, q _, by k_extra "back"⟩
noncomputable def sumB (bs : List UInt8) : Int := Builtin.bitOr ((adlPair bs).2 * 2 ^ 16) (adlPair bs).1
theorem sumB_in (bs : List UInt8) : 0 ≤ sumB bs ∧ sumB bs < 2 ^ 32 := by
  have z := adlPair_lt bs
  unfold sumB
  have k : (2 : Int) ^ 16 = 65536 := by decide
  rw [bitOr_add' 16 z.2.1 z.1.1 (by rw [k]; omega), k]
  omega
theorem be32_items (x : Int) : ((be32 x).getD 0 0).toNat = (x / 2 ^ 24 % 256).toNat ∧ ((be32 x).getD 1 0).toNat = (x / 2 ^ 16 % 256).toNat ∧ ((be32 x).getD 2 0).toNat = (x / 2 ^ 8 % 256).toNat ∧ ((be32 x).getD 3 0).toNat = (x % 256).toNat := by
  have k : ∀ y : Int, ((y % 256).toNat.toUInt8).toNat = (y % 256).toNat := fun y => by have := byte_back (x := y % 256) (by omega) (by omega); omega
  exact ⟨k _, k _, k _, k _⟩
theorem get_be32 {z rest : List UInt8} {a : Nat} {x : Int} (h : z.drop a = be32 x ++ rest) (h0 : 0 ≤ x) (h1 : x < 2 ^ 32) : get4 (z.getD a 0).toNat (z.getD (a + 1) 0).toNat (z.getD (a + 2) 0).toNat (z.getD (a + 3) 0).toNat = x := by
  obtain ⟨k0, k1, k2, k3⟩ := be32_items x
  have g : ∀ i, i < 4 → z.getD (a + i) 0 = (be32 x).getD i 0 := fun i hi => by
    rw [getD_at h, List.getD_eq_getElem?_getD, List.getD_eq_getElem?_getD, List.getElem?_append_left (by rw [be32_len]; exact hi)]
  have g0 := g 0 (by decide)
  rw [Nat.add_zero] at g0
  rw [g0, g 1 (by decide), g 2 (by decide), g 3 (by decide), k0, k1, k2, k3]
  have e : ∀ y : Int, (((y % 256).toNat : Nat) : Int) = y % 256 := fun y => Int.toNat_of_nonneg (by omega)
  rw [e, e, e, e, be32_back h0 h1]
theorem stored_is {c : Cx} {l : Loc} {n : Led} {E : Value → Shared → Prop} {Q : Value → Loc → Led → Prop} {bs : List UInt8} {most : Nat} {t u : Tok} (V : Cok (hd.heap_1 c.w.params) c 3) (h0 : 1 ≤ most) (h1 : most ≤ 65535) (hz : bs.length ≤ 65535)
    (q : ∀ t, Q (.bytes (120 :: 1 :: blks most bs.length bs ++ be32 (Builtin.bitOr ((adlPair bs).2 * 2 ^ 16) (adlPair bs).1)).toArray t) l n) : Mine.V c l n (call (.ref 110) [.bytes bs.toArray t, .int most u]) Q E := by
  refine' V_def (K := hd.heap_1 c.w.params) (d := 2) (binds := [(Str.ofString "octets", .bytes bs.toArray t), (Str.ofString "most", .int most u)]) V ?ho ?hcd ?hb ?hl ?hn ?H ?hc ?h1 ?h2 ?h3
  k_extra "def"
  intro L F V' wf hlt
  k_extra "vgo"
  refine BA_new2 V'.guards List.mem_cons_self fun fa => ?_
  k_extra "vgo"
  refine VS_while (fun k l' n' => ∃ (a : Nat) (f : List UInt8) (t1 : Tok) (fuel : Nat), l' = [(Str.ofString "octets", .bytes bs.toArray t), (Str.ofString "most", .int most u), (Str.ofString "found", .ref fa), (Str.ofString "at", .int a t1)] ∧ n' = (fa, BYA f) :: (c.L, F) :: n ∧
    a ≤ bs.length ∧ bs.length - a ≤ fuel ∧ f ++ blks most fuel (bs.drop a) = 120 :: 1 :: blks most bs.length bs ∧ k = fuel ∧ f.length ≤ 7 * a + 2) ?_ bs.length _ ((fa, BYA [120, 1]) :: (c.L, F) :: n) ⟨0, [120, 1], _, bs.length, rfl, rfl, Nat.zero_le _, by omega, by rw [List.drop_zero]; rfl, rfl, by simp⟩ (by k_extra "sbl") (by k_extra "sbl")
  rintro k l' n' ⟨a, f, t1, fuel, rfl, rfl, ha, hfu, hf, rfl, hfl⟩
  k_extra "go"
  k_extra "vgo"
  have hp : List.take (((a : Int) + (most : Int)).toNat - (a : Int).toNat) (List.drop (a : Int).toNat bs) = (bs.drop a).take most := by
    have e1 : ((a : Int) + (most : Int)).toNat - (a : Int).toNat = most := by omega
    have e2 : (a : Int).toNat = a := by omega
    rw [e1, e2]
  rw [hp]
  obtain ⟨p, hpd⟩ : ∃ p, p = (bs.drop a).take most := ⟨_, rfl⟩
  have hpl : p.length = min most (bs.length - a) := by rw [hpd]; simp
  rw [← hpd]
  have hd : ∀ x : Int, [x, Builtin.bitAnd (p.length : Int) 255, (p.length : Int).fdiv (2 ^ 8), 255 - Builtin.bitAnd (p.length : Int) 255, 255 - (p.length : Int).fdiv (2 ^ 8)] = [x, (p.length : Int) % 256, (p.length : Int) / 256, 255 - (p.length : Int) % 256, 255 - (p.length : Int) / 256] := fun x => by
    rw [mask8, Int.fdiv_eq_ediv_of_nonneg _ (show (0 : Int) ≤ 2 ^ 8 by decide)]; rfl
  have hin : ∀ x : Int, 0 ≤ x → x < 256 → ∀ y ∈ [x, (p.length : Int) % 256, (p.length : Int) / 256, 255 - (p.length : Int) % 256, 255 - (p.length : Int) / 256], 0 ≤ y ∧ y < 256 := fun x h0 h1 y hy => by
    simp only [List.mem_cons, List.not_mem_nil, or_false] at hy
    rcases hy with rfl | rfl | rfl | rfl | rfl <;> omega
  by_cases hlast : a + p.length = bs.length
  · k_extra "vgo"
    refine BA_extend_list (ns := [1, Builtin.bitAnd (p.length : Int) 255, (p.length : Int).fdiv (2 ^ 8), 255 - Builtin.bitAnd (p.length : Int) 255, 255 - (p.length : Int).fdiv (2 ^ 8)]) V'.hh V'.guards List.mem_cons_self (by k_extra "ints") (by rw [hd]; exact hin 1 (by omega) (by omega)) (by k_extra "lset") (by rw [sizeLine_eq]; simp only [List.length_cons, List.length_nil]; omega) ?_
    k_extra "vgo"
    refine BA_extend_bytes V'.guards (by k_extra "lset") (by rw [sizeLine_eq]; simp only [List.length_append, List.length_map, List.length_cons, List.length_nil]; omega) ?_
    k_extra "vgo"
    have key : ∀ (x : List UInt8) (t : Tok), x = 120 :: 1 :: blks most bs.length bs → Q (.bytes (x ++ be32 (Builtin.bitOr ((adlPair bs).2 * 2 ^ 16) (adlPair bs).1)).toArray t) l n := fun x t e => e ▸ q t
    refine ⟨n, key _ _ ?_, by k_extra "back"⟩
    have hda : bs.drop a = p := by rw [hpd, List.take_of_length_le (by simp; omega)]
    rw [← hf, hda, blks_last (by omega), List.append_assoc]
    show f ++ ([1, _, _, _, _].map _ ++ p) = f ++ ([1, _, _, _, _].map _ ++ p)
    exact congrArg (fun z => f ++ (List.map (fun x : Int => x.toNat.toUInt8) z ++ p)) (hd 1)
  · k_extra "vgo"
    refine BA_extend_list (ns := [0, Builtin.bitAnd (p.length : Int) 255, (p.length : Int).fdiv (2 ^ 8), 255 - Builtin.bitAnd (p.length : Int) 255, 255 - (p.length : Int).fdiv (2 ^ 8)]) V'.hh V'.guards List.mem_cons_self (by k_extra "ints") (by rw [hd]; exact hin 0 (by omega) (by omega)) (by k_extra "lset") (by rw [sizeLine_eq]; simp only [List.length_cons, List.length_nil]; omega) ?_
    k_extra "vgo"
    refine BA_extend_bytes V'.guards (by k_extra "lset") (by rw [sizeLine_eq]; simp only [List.length_append, List.length_map, List.length_cons, List.length_nil]; omega) ?_
    k_extra "vgo"
    obtain ⟨fuel, rfl⟩ : ∃ k', k = k' + 1 := ⟨k - 1, by omega⟩
    have hpm : p.length = most := by omega
    refine ⟨fuel, [_, _, _, _], (fa, BYA _) :: (c.L, F) :: n, by omega, ⟨a + p.length, _, _, fuel, rfl, rfl, by omega, by omega, ?_, rfl, ?_⟩, by k_extra "sbl", by k_extra "sbl"⟩
    · rw [← hf, blks_more (by simp; omega), ← hpd, List.drop_drop, hpm, List.append_assoc, List.append_assoc]
      have e : blk false p = List.map (fun x : Int => x.toNat.toUInt8) [0, Builtin.bitAnd (p.length : Int) 255, (p.length : Int).fdiv (2 ^ 8), 255 - Builtin.bitAnd (p.length : Int) 255, 255 - (p.length : Int).fdiv (2 ^ 8)] ++ p := by rw [hd]; rfl
      rw [e, hpm, List.append_assoc]
    · simp only [List.length_append, List.length_map, List.length_cons, List.length_nil]; omega
example : True := by
  k_with "ite" => first
    | ((with_reducible refine ite_no (bne_no ?_) ?_); (focus omega))
    | ((with_reducible refine ite_yes (bne_yes ?_) ?_); (focus omega))
    | fail "none"
  k_with "v" => first
    | ((with_reducible show Mine.V _ _ _ (call (Value.ref 72) _ _) _ _); refine V_of ?_)
    | ((with_reducible show Mine.V _ _ _ (call (Value.ref 79) _ _) _ _); refine V_of ?_)
    | ((with_reducible show Mine.V _ _ _ (call (Value.ref 94) _ _) _ _); refine V_of ?_)
    | ((with_reducible show Mine.V _ _ _ (call (Value.ref 102) _ _) _ _); refine V_of ?_)
    | ((with_reducible show Mine.V _ _ _ (call (Value.ref 117) _ _) _ _); refine V_of ?_)
    | ((with_reducible show Mine.V _ _ _ (call (Value.ref 215) _ _) _ _); refine V_of ?_)
    | ((with_reducible show Mine.V _ _ _ (call (Value.ref 256) _ _) _ _); refine V_of ?_)
    | ((with_reducible show Mine.V _ _ _ (call (Value.ref 284) _ _) _ _); refine V_of ?_)
    | ((with_reducible show Mine.V _ _ _ (call (Value.ref 289) _ _) _ _); refine V_of ?_)
    | ((with_reducible show Mine.V _ _ _ (call (Value.ref 301) _ _) _ _); refine V_of ?_)
    | ((with_reducible show Mine.V _ _ _ (call (Value.ref 308) _ _) _ _); refine V_of ?_)
    | ((with_reducible show Mine.V _ _ _ (call (Value.ref 322) _ _) _ _); refine V_of ?_)
    | ((with_reducible show Mine.V _ _ _ (call (Value.ref 327) _ _) _ _); refine V_of ?_)
    | fail "none"
  trivial
example : True := by
  k_with "call" => first
    | ((with_reducible show Mine.W _ _ _ (call (Value.ref 102) [Value.ref _] _) _ _); refine adler_ba (Cok.le (by assumption) (by decide)) (by with_reducible k_extra "mm") ?_; intro _)
    | fail "none"
  trivial
theorem unstored_is {c : Cx} {l : Loc} {n : Led} {E : Value → Shared → Prop} {Q : Value → Loc → Led → Prop} {bs : List UInt8} {most : Nat} {t : Tok} (V : Cok (hd.heap_1 c.w.params) c 3) (hm0 : 1 ≤ most) (hm1 : most ≤ 65535) (hz : bs.length ≤ 65535)
    (q : ∀ t, Q (.bytes bs.toArray t) l n) : Mine.V c l n (call (.ref 124) [.bytes (120 :: 1 :: blks most bs.length bs ++ be32 (sumB bs)).toArray t]) Q E := by
  obtain ⟨z, hzd⟩ : ∃ z, z = 120 :: 1 :: blks most bs.length bs ++ be32 (sumB bs) := ⟨_, rfl⟩
  rw [← hzd]
  have hzl : z.length ≤ 1048576 ∧ 2 ≤ z.length := by
    have : ∀ k (p : List UInt8), (blks most k p).length ≤ 5 * (k + 1) + p.length := by
      intro k
      induction k with
      | zero => intro p; show (blk true p).length ≤ _; rw [blk_len]; omega
      | succ k ih =>
        intro p
        unfold blks
        split
        · rw [blk_len]; omega
        · rw [List.length_append, blk_len]
          have := ih (p.drop most)
          simp only [List.length_take, List.length_drop] at *
          omega
    have := this bs.length bs
    rw [hzd]
    simp only [List.length_append, List.length_cons, be32_len]
    omega
  have hz0 : z.getD 0 0 = 120 := by rw [hzd]; rfl
  have hz1 : z.getD 1 0 = 1 := by rw [hzd]; rfl
  have hzr : z.drop 2 = blks most bs.length (bs.drop 0) ++ be32 (sumB bs) := by rw [hzd]; rfl
  refine' V_def (K := hd.heap_1 c.w.params) (d := 2) (binds := [(Str.ofString "octets", .bytes z.toArray t)]) V ?ho ?hcd ?hb ?hl ?hn ?H ?hc ?h1 ?h2 ?h3
  k_extra "def"
  intro L F V' wf hlt
  k_extra "vgo"
  k_extra "ex"
  rw [show z.getD (Int.toNat 0) 0 = 120 from hz0]
  refine ite_no (by decide) ?_
  k_extra "vgo"
  k_extra "ex"
  rw [show z.getD (Int.toNat 0) 0 = 120 from hz0, show z.getD (Int.toNat 1) 0 = 1 from hz1]
  refine ite_no (by decide) ?_
  k_extra "vgo"
  k_extra "ex"
  rw [show z.getD (Int.toNat 1) 0 = 1 from hz1]
  refine ite_no (by decide) ?_
  k_extra "vgo"
  k_extra "ex"
  rename_i fa _
  refine VS_while (fun k l' n' => ∃ (a m : Nat) (t1 : Tok) (b : Bool), l' = [(Str.ofString "octets", .bytes z.toArray t), (Str.ofString "is_last", .bool b), (Str.ofString "at", .int a t1), (Str.ofString "found", .ref fa)] ∧ n' = (fa, BYA (bs.take m)) :: (c.L, F) :: n ∧ m ≤ bs.length ∧
    ((b = false ∧ ∃ fuel, k = fuel + 1 ∧ bs.length - m ≤ fuel ∧ z.drop a = blks most fuel (bs.drop m) ++ be32 (sumB bs)) ∨ (b = true ∧ k = 0 ∧ m = bs.length ∧ z.drop a = be32 (sumB bs)))) ?_ (bs.length + 1) _ ((fa, BYA []) :: (c.L, F) :: n)
    ⟨2, 0, _, false, rfl, rfl, Nat.zero_le _, .inl ⟨rfl, bs.length, rfl, by omega, hzr⟩⟩ (by k_extra "sbl") (by k_extra "sbl")
  rintro k l' n' ⟨a, m, t1, b, rfl, rfl, hm, hb⟩
  have hal : a ≤ z.length := by
    rcases hb with ⟨_, fuel, _, _, h⟩ | ⟨_, _, _, h⟩
    all_goals
      have := congrArg List.length h
      simp only [List.length_drop, List.length_append, be32_len] at this
      omega
  k_extra "go"
  rcases hb with ⟨rfl, fuel, rfl, hfu, hdr⟩ | ⟨rfl, rfl, rfl, hdr⟩
  · refine ite_yes rfl ?_
    obtain ⟨last, p, rest, hbl, hpe, hlast, hrest⟩ : ∃ last p rest, z.drop a = blk last p ++ rest ∧ p = (bs.drop m).take most ∧ (last = true → bs.length - m ≤ most ∧ rest = be32 (sumB bs)) ∧ (last = false → ∃ f, fuel = f + 1 ∧ most < bs.length - m ∧ rest = blks most f (bs.drop (m + most)) ++ be32 (sumB bs)) := by
      by_cases h : (bs.drop m).length ≤ most
      · exact ⟨true, bs.drop m, be32 (sumB bs), by rw [hdr, blks_last h], (List.take_of_length_le h).symm, fun _ => ⟨by simpa using h, rfl⟩, fun e => nomatch e⟩
      · obtain ⟨f, rfl⟩ : ∃ f, fuel = f + 1 := ⟨fuel - 1, by simp only [List.length_drop] at h; omega⟩
        exact ⟨false, (bs.drop m).take most, blks most f ((bs.drop m).drop most) ++ be32 (sumB bs), by rw [hdr, blks_more h, List.append_assoc], rfl, (by intro e; cases e), fun _ => ⟨f, rfl, (by simp only [List.length_drop] at h; omega), (by rw [List.drop_drop])⟩⟩
    have hpl : p.length = min most (bs.length - m) := by rw [hpe]; simp
    have hza : a + 5 + p.length ≤ z.length := by
      have := congrArg List.length hbl
      rw [List.length_drop, List.length_append, blk_len] at this
      omega
    k_extra "vgo"
    refine block_is (Cok.le (by assumption) (by decide)) hzl.1 hbl (by omega) ?_
    intro _
    k_extra "vgo"
    have g0 : (z.getD (a : Int).toNat 0).toNat = if last then 1 else 0 := by rw [show (a : Int).toNat = a + 0 by omega, getD_at hbl]; exact (blk_items last (rest := rest) (by omega)).1
    have hsl : List.take (((a : Int) + 5 + (p.length : Int)).toNat - ((a : Int) + 5).toNat) (List.drop ((a : Int) + 5).toNat z) = p := by
      have e1 : ((a : Int) + 5 + (p.length : Int)).toNat - ((a : Int) + 5).toNat = p.length := by omega
      have e2 : ((a : Int) + 5).toNat = a + 5 := by omega
      rw [e1, e2, ← List.drop_drop, hbl]
      show List.take p.length (p ++ rest) = p
      rw [List.take_left]
    k_extra "ex"
    rw [g0, hsl]
    refine BA_extend_bytes V'.guards .head (by rw [sizeLine_eq]; simp only [List.length_take]; omega) ?_
    k_extra "vgo"
    have hdz : z.drop (a + 5 + p.length) = rest := by
      rw [← List.drop_drop, ← List.drop_drop, hbl]
      show List.drop p.length (p ++ rest) = rest
      rw [List.drop_left]
    cases last with
    | true =>
      obtain ⟨h1, rfl⟩ := hlast rfl
      refine ⟨0, [_, _, _, _], (fa, BYA (bs.take bs.length)) :: (c.L, F) :: n, by omega, ⟨a + 5 + p.length, bs.length, _, true, rfl, rfl, Nat.le_refl _, .inr ⟨rfl, rfl, rfl, hdz⟩⟩, by k_extra "sbl", ?_⟩
      have e : bs.take m ++ p = bs.take bs.length := by rw [hpe, List.take_of_length_le (l := bs.drop m) (by simp only [List.length_drop]; omega), List.take_append_drop, List.take_length]
      rw [e]
      exact List.Sublist.refl _
    | false =>
      obtain ⟨f, rfl, h1, rfl⟩ := hrest rfl
      have hpm : p.length = most := by omega
      refine ⟨f + 1, [_, _, _, _], (fa, BYA (bs.take (m + most))) :: (c.L, F) :: n, by omega, ⟨a + 5 + p.length, m + most, _, false, rfl, rfl, by omega, .inl ⟨rfl, f, rfl, by omega, hdz⟩⟩, by k_extra "sbl", ?_⟩
      have e : bs.take m ++ p = bs.take (m + most) := by rw [hpe, List.take_add]
      rw [e]
      exact List.Sublist.refl _
  · refine ite_no rfl ?_
    have hz4 : a + 4 = z.length := by
      have := congrArg List.length hdr
      rw [List.length_drop, be32_len] at this
      omega
    k_extra "vgo"
    refine ite_no (bne_no ?_) ?_
    · rw [get_be32 (x := sumB bs) (rest := []) (by rw [hdr, List.append_nil]) (sumB_in bs).1 (sumB_in bs).2, List.take_length]; rfl
    k_extra "vgo"
    have key : ∀ (x : List UInt8) (t : Tok), x = bs → Q (.bytes x.toArray t) l n := fun x t e => e ▸ q t
    exact ⟨_, key _ _ List.take_length, by k_extra "back"⟩
theorem guess0_is {c : Cx} {l : Loc} {n : Led} {E : Value → Shared → Prop} {Q : Value → Loc → Led → Prop} {a b d : Value} {t : Tok} (V : Cok (hd.heap_1 c.w.params) c 1)
    (q : ∀ t, Q (.int 0 t) l n) : W c l n (call (.ref 215) [.int 0 t, a, b, d]) Q E := by
  refine' W_def (K := hd.heap_1 c.w.params) (d := 0) (binds := [(Str.ofString "kind", .int 0 t), (Str.ofString "left", a), (Str.ofString "above", b), (Str.ofString "corner", d)]) V ?ho ?hcd ?hb ?hl ?hn ?H ?hc ?h1 ?h2 ?h3
  k_extra "def"
  intro L F V' wf
  k_extra "go"
  exact ⟨_, q _, by k_extra "back"⟩
example : True := by
  k_with "call" => first
    | ((with_reducible show Mine.W _ _ _ (call (Value.ref 215) [Value.int 0 _, _, _, _] _) _ _); refine guess0_is (Cok.le (by assumption) (by decide)) ?_; intro _)
    | fail "none"
  trivial
set_option maxHeartbeats 1500000 in
theorem filtered_is {c : Cx} {l : Loc} {n : Led} {E : Value → Shared → Prop} {Q : Value → Loc → Led → Prop} {row above : List UInt8} {t u v s : Tok} (V : Cok (hd.heap_1 c.w.params) c 2) (hz : row.length ≤ 65535) (hl : above.length = row.length)
    (q : ∀ t, Q (.bytes row.toArray t) l n) : Mine.V c l n (call (.ref 222) [.int 0 t, .bytes row.toArray u, .bytes above.toArray v, .int 4 s]) Q E := by
  refine' V_def (K := hd.heap_1 c.w.params) (d := 1) (binds := [(Str.ofString "kind", .int 0 t), (Str.ofString "row", .bytes row.toArray u), (Str.ofString "above", .bytes above.toArray v), (Str.ofString "step", .int 4 s)]) V ?ho ?hcd ?hb ?hl ?hn ?H ?hc ?h1 ?h2 ?h3
  k_extra "def"
  intro L F V' wf hlt
  k_extra "vgo"
  rename_i fa
  refine VS_forEnum (b := row) (t := u) V'.hh (fun pre l' n' => l' = [(Str.ofString "kind", .int 0 t), (Str.ofString "row", .bytes row.toArray u), (Str.ofString "above", .bytes above.toArray v), (Str.ofString "step", .int 4 s), (Str.ofString "found", .ref fa)] ∧ n' = (fa, BYA pre) :: (c.L, F) :: n) _ ((fa, BYA []) :: (c.L, F) :: n) ?_ ⟨rfl, rfl⟩ ?_ ?_
  · k_extra "go"
    refine C_enum fun e it hne => ⟨e, it, rfl, hne, by k_extra "sbl", by k_extra "sbl"⟩
  · rintro pre x post l' n' T tk u' e it d d' hb ⟨rfl, rfl⟩
    have hlen : row.length = pre.length + (post.length + 1) := by rw [hb, List.length_append]; rfl
    have hx : Builtin.bitAnd ((x.toNat : Int) - 0) 255 = (x.toNat : Int) := by rw [mask8]; have := x.toNat_lt; omega
    have hx8 : ((x.toNat : Int)).toNat.toUInt8 = x := by simp
    by_cases h4 : 4 ≤ pre.length
    · k_extra "vgo"
      rw [hx]
      refine BA_append V'.guards (by k_extra "lset") (by omega) (by have := x.toNat_lt; omega) (by rw [sizeLine_eq]; omega) ?_
      rw [hx8]
      k_extra "vgo"
      exact ⟨[_, _, _, _, _], (fa, BYA _) :: (c.L, F) :: n, ⟨rfl, rfl⟩, by k_extra "sbl", by k_extra "sbl"⟩
    · k_extra "vgo"
      rw [hx]
      refine BA_append V'.guards (by k_extra "lset") (by omega) (by have := x.toNat_lt; omega) (by rw [sizeLine_eq]; omega) ?_
      rw [hx8]
      k_extra "vgo"
      exact ⟨[_, _, _, _, _], (fa, BYA _) :: (c.L, F) :: n, ⟨rfl, rfl⟩, by k_extra "sbl", by k_extra "sbl"⟩
  · rintro l' n' ⟨rfl, rfl⟩
    k_extra "vgo"
    exact ⟨_, q _, by k_extra "back"⟩
theorem unfiltered_is {c : Cx} {l : Loc} {n : Led} {E : Value → Shared → Prop} {Q : Value → Loc → Led → Prop} {row above : List UInt8} {t u v s : Tok} (V : Cok (hd.heap_1 c.w.params) c 2) (hz : row.length ≤ 65535) (hl : above.length = row.length)
    (q : ∀ t, Q (.bytes row.toArray t) l n) : Mine.V c l n (call (.ref 229) [.int 0 t, .bytes row.toArray u, .bytes above.toArray v, .int 4 s]) Q E := by
  refine' V_def (K := hd.heap_1 c.w.params) (d := 1) (binds := [(Str.ofString "kind", .int 0 t), (Str.ofString "told", .bytes row.toArray u), (Str.ofString "above", .bytes above.toArray v), (Str.ofString "step", .int 4 s)]) V ?ho ?hcd ?hb ?hl ?hn ?H ?hc ?h1 ?h2 ?h3
  k_extra "def"
  intro L F V' wf hlt
  k_extra "vgo"
  rename_i fa
  refine VS_forEnum (b := row) (t := u) V'.hh (fun pre l' n' => l' = [(Str.ofString "kind", .int 0 t), (Str.ofString "told", .bytes row.toArray u), (Str.ofString "above", .bytes above.toArray v), (Str.ofString "step", .int 4 s), (Str.ofString "row", .ref fa)] ∧ n' = (fa, BYA pre) :: (c.L, F) :: n) _ ((fa, BYA []) :: (c.L, F) :: n) ?_ ⟨rfl, rfl⟩ ?_ ?_
  · k_extra "go"
    refine C_enum fun e it hne => ⟨e, it, rfl, hne, by k_extra "sbl", by k_extra "sbl"⟩
  · rintro pre x post l' n' T tk u' e it d d' hb ⟨rfl, rfl⟩
    have hlen : row.length = pre.length + (post.length + 1) := by rw [hb, List.length_append]; rfl
    have hx : Builtin.bitAnd ((x.toNat : Int) + 0) 255 = (x.toNat : Int) := by rw [mask8]; have := x.toNat_lt; omega
    have hx8 : ((x.toNat : Int)).toNat.toUInt8 = x := by simp
    by_cases h4 : 4 ≤ pre.length
    · k_extra "vgo"
      refine BA_item (b := pre) (by k_extra "mm") (by omega) (by omega) (by omega) ?_
      intro _
      k_extra "vgo"
      rw [hx]
      refine BA_append V'.guards (by k_extra "lset") (by omega) (by have := x.toNat_lt; omega) (by rw [sizeLine_eq]; omega) ?_
      rw [hx8]
      k_extra "vgo"
      exact ⟨[_, _, _, _, _], (fa, BYA _) :: (c.L, F) :: n, ⟨rfl, rfl⟩, by k_extra "sbl", by k_extra "sbl"⟩
    · k_extra "vgo"
      rw [hx]
      refine BA_append V'.guards (by k_extra "lset") (by omega) (by have := x.toNat_lt; omega) (by rw [sizeLine_eq]; omega) ?_
      rw [hx8]
      k_extra "vgo"
      exact ⟨[_, _, _, _, _], (fa, BYA _) :: (c.L, F) :: n, ⟨rfl, rfl⟩, by k_extra "sbl", by k_extra "sbl"⟩
  · rintro l' n' ⟨rfl, rfl⟩
    k_extra "vgo"
    exact ⟨_, q _, by k_extra "back"⟩
example : True := by
  k_with_none
  k_with "ex" => skip
  k_with "mm" => first
    | exact List.mem_cons_self
    | (refine List.mem_cons_of_mem _ ?_; k_extra "mm")
    | fail "none"
  k_with "put" => first
    | with_reducible exact Put.hit
    | with_reducible exact Put.nil
    | ((with_reducible show Put _ _ (_ :: _) _); exact Put.skipS (by decide) (by k_extra "put"))
    | fail "none"
  k_with "lset" => first
    | exact LSet.head
    | ((with_reducible show LSet _ _ _ (_ :: _) _); exact LSet.tail (by k_extra "lset"))
    | fail "none"
  k_with "sbl" => first
    | exact List.Sublist.refl _
    | (refine List.Sublist.cons_cons _ ?_; k_extra "sbl")
    | (refine List.Sublist.cons _ ?_; k_extra "sbl")
    | exact List.nil_sublist _
    | fail "none"
  k_with "ints" => first
    | exact IntsAre.nil
    | (refine IntsAre.cons _ _ ?_; k_extra "ints")
    | fail "none"
  k_with "back" => first
    | exact ⟨_, List.perm_middle (l₁ := []), by k_extra "sbl"⟩
    | exact ⟨_, List.perm_middle (l₁ := [_]), by k_extra "sbl"⟩
    | exact ⟨_, List.perm_middle (l₁ := [_, _]), by k_extra "sbl"⟩
    | exact ⟨_, List.perm_middle (l₁ := [_, _, _]), by k_extra "sbl"⟩
    | exact ⟨_, List.perm_middle (l₁ := [_, _, _, _]), by k_extra "sbl"⟩
    | exact ⟨_, List.perm_middle (l₁ := [_, _, _, _, _]), by k_extra "sbl"⟩
    | exact ⟨_, List.perm_middle (l₁ := [_, _, _, _, _, _]), by k_extra "sbl"⟩
    | exact ⟨_, List.perm_middle (l₁ := [_, _, _, _, _, _, _]), by k_extra "sbl"⟩
    | fail "none"
  k_with "def" => (
    (case ho => k_is); (case hcd => k_is)
    (case hb => first | exact fun s X => BindsTo.of_eq rfl | exact fun s X => binds_K X rfl (by k_is) rfl rfl (by kernel_rfl))
    (case hl => exact locs (by rfl)); (case hn => (simp only [List.map_cons, List.map_nil]; decide)); (case hc => decide); (case h1 => rfl); (case h2 => rfl); (case h3 => rfl))
  k_with "stmt" => first
    | ((with_reducible show Mine.W _ _ _ (execs (Stmt.Assign [Expr.Name _ _] _ _ :: _) _) _ _); refine S_assign ?_)
    | ((with_reducible show Mine.W _ _ _ (execs (Stmt.If _ _ _ _ :: _) _) _ _); refine S_if ?_)
    | ((with_reducible show Mine.W _ _ _ (execs (Stmt.Return _ _ :: _) _) _ _); refine S_return ?_)
    | ((with_reducible show Mine.W _ _ _ (execs (Stmt.Expr _ _ :: _) _) _ _); refine S_expr ?_)
    | ((with_reducible show Mine.W _ _ _ (execs (Stmt.For _ _ _ _ _ :: _) _) _ _); refine S_for ?_)
    | with_reducible refine S_nil ?_
    | ((with_reducible show Mine.W _ _ _ (execs (Stmt.Assign [Expr.Attribute _ _ _] _ _ :: _) _) _ _); refine S_assignA ?_)
    | ((with_reducible show Mine.W _ _ _ (execs (Stmt.Assign [Expr.Subscript _ _ _] _ _ :: _) _) _ _); refine S_assignS ?_)
    | ((with_reducible show Mine.W _ _ _ (execs (Stmt.Assign [Expr.Tuple [_, _] _ _] (Expr.Tuple _ _ _) _ :: _) _) _ _); refine S_tup2 (Cok.hh (by assumption)) ?_ (by rfl))
    | ((with_reducible show Mine.W _ _ _ (execs (Stmt.Assign [Expr.Tuple [_, _, _] _ _] (Expr.Tuple _ _ _) _ :: _) _) _ _); refine S_tup3 (Cok.hh (by assumption)) ?_ (by rfl))
    | ((with_reducible show Mine.W _ _ _ (execs (Stmt.Assign [Expr.Tuple _ _ _] _ _ :: _) _) _ _); refine S_unpack ?_)
    | fail "none"
  k_with "name" => first
    | refine E_nameL (by with_reducible k_extra "mm") ⟨rfl, rfl, rfl⟩ (by rfl) ?_
    | refine E_nameG (K := Mine.hd.heap_1 _) (by assumption) rfl rfl (by rfl) (by k_is) ?_
    | (refine E_nameB (K := Mine.hd.heap_1 _) (by assumption) rfl rfl rfl (by rfl) (by k_is) (by first | boot_fast | boot_by_name) (by decide) ?_)
    | refine E_nameC rfl (by rfl) (by rfl) (by with_reducible k_extra "mm") ?_
    | refine E_nameF rfl (by rfl) (by rfl) (by with_reducible k_extra "mm") ?_
    | fail "none"
  k_with "expr" => first
    | ((with_reducible show Mine.W _ _ _ (eval (Expr.Name _ _) _) _ _); k_extra "name")
    | ((with_reducible show Mine.W _ _ _ (eval (Expr.Constant _ _ _) _) _ _); (first | (refine E_int ?_; intro _) | (refine E_str ?_; intro _) | refine E_bool ?_ | refine E_none ?_ | (refine E_bytes ?_; intro _)))
    | ((with_reducible show Mine.W _ _ _ (eval (Expr.BinOp _ _ _ _) _) _ _); refine E_bin ?_)
    | ((with_reducible show Mine.W _ _ _ (eval (Expr.Call (Expr.Attribute _ _ _) _ _ _) _) _ _); refine E_meth ?_)
    | ((with_reducible show Mine.W _ _ _ (eval (Expr.Call _ _ _ _) _) _ _); refine E_call ?_)
    | ((with_reducible show Mine.W _ _ _ (eval (Expr.Attribute _ _ _) _) _ _); refine E_attr ?_)
    | ((with_reducible show Mine.W _ _ _ (eval (Expr.Subscript _ (Expr.Slice _ _ _ _) _) _) _ _); k_extra "slice")
    | ((with_reducible show Mine.W _ _ _ (eval (Expr.Subscript _ _ _) _) _ _); refine E_sub ?_)
    | ((with_reducible show Mine.W _ _ _ (eval (Expr.Tuple _ _ _) _) _ _); refine E_tuple ?_)
    | ((with_reducible show Mine.W _ _ _ (eval (Expr.List _ _) _) _ _); refine E_list ?_)
    | ((with_reducible show Mine.W _ _ _ (eval (Expr.IfExp _ _ _ _) _) _ _); refine E_ife ?_)
    | ((with_reducible show Mine.W _ _ _ (eval (Expr.Compare _ _ _ _) _) _ _); refine E_cmp ?_)
    | ((with_reducible show Mine.W _ _ _ (eval (Expr.UnaryOp _ _ _) _) _ _); refine E_un ?_)
    | fail "none"
  k_with "slice" => first
    | ((with_reducible show Mine.W _ _ _ (eval (Expr.Subscript _ (Expr.Slice (some _) (some _) none _) _) _) _ _); refine E_slice ?_)
    | ((with_reducible show Mine.W _ _ _ (eval (Expr.Subscript _ (Expr.Slice none (some _) none _) _) _) _ _); refine E_sliceU ?_)
    | ((with_reducible show Mine.W _ _ _ (eval (Expr.Subscript _ (Expr.Slice (some _) none none _) _) _) _ _); refine E_sliceL ?_)
    | fail "none"
  k_with "test" => first
    | ((with_reducible show Mine.W _ _ _ (PySem.isTrue (Expr.Compare _ [_] _ _) _ _) _ _); refine T_cmp ?_)
    | ((with_reducible show Mine.W _ _ _ (PySem.isTrue (Expr.Compare _ _ _ _) _ _) _ _); refine T_chain ?_)
    | ((with_reducible show Mine.W _ _ _ (PySem.isTrue (Expr.UnaryOp UnaryOp.Not _ _) _ _) _ _); refine T_not ?_)
    | ((with_reducible show Mine.W _ _ _ (PySem.isTrue (Expr.BoolOp _ _ _) _ _) _ _); refine T_bool ?_)
    | refine T_val ?_
    | fail "none"
  k_with "op" => first
    | ((with_reducible refine O_add ?_); intro _)
    | ((with_reducible refine O_sub ?_); intro _)
    | ((with_reducible refine O_and ?_); intro _)
    | ((with_reducible refine O_or ?_); intro _)
    | ((with_reducible refine O_xor ?_); intro _)
    | ((with_reducible refine O_mod ?_ ?_); (focus first | decide | omega); intro _)
    | ((with_reducible refine O_mul ?_ ?_); rotate_left; (focus first | exact IntMulOk.of_left (by decide) | exact IntMulOk.of_right (by decide) | mul_fits); intro _)
    | ((with_reducible refine O_shl ?_ ?_ ?_ ?_); (focus first | decide | omega); (focus first | decide | omega); (focus first | exact u8_lt _ | omega); intro _)
    | ((with_reducible refine O_shr ?_ ?_); (focus first | decide | omega); intro _)
    | ((with_reducible refine B_add ?_ ?_); (focus first | decide | omega | (simp only [List.length_append, List.length_cons, List.length_nil]; omega)); intro _)
    | fail "none"
  k_with "cmp" => first
    | with_reducible refine O_eq ?_
    | with_reducible refine O_lt ?_
    | with_reducible refine O_le ?_
    | with_reducible refine O_gt ?_
    | with_reducible refine O_ge ?_
    | with_reducible refine O_ne ?_
    | with_reducible refine B_ne ?_
    | with_reducible refine O_isNone ?_
    | fail "none"
  k_with "callw" => first
    | refine C_def (K := Mine.hd.heap_1 _) (d := _) (by assumption) (by k_is) ?_
    | refine C_def0 (K := Mine.hd.heap_1 _) (d := _) (by assumption) (by k_is) ?_
    | fail "none"
  k_with "call" => first
    | ((with_reducible show Mine.W _ _ _ (call _ (_ ++ _) _) _ _); dsimp only [List.nil_append, List.cons_append])
    | ((with_reducible refine B_len ?_ ?_); (focus first | decide | omega); intro _)
    | ((with_reducible refine C_range1 ?_); intro _)
    | ((with_reducible show Mine.W _ _ _ (call (Value.type _) [Value.ref _] _) _ _); refine B_ofBA (by with_reducible k_extra "mm") (by (rw [sizeLine_eq]; (try simp only [List.length_append, List.length_map, List.length_cons, List.length_nil, List.length_take]); omega)) ?_; intro _)
    | fail "none"
  k_with "w" => first
    | ((with_reducible show Mine.W _ _ _ (storeName _ _ _) _ _); k_extra "store")
    | ((with_reducible show Mine.W _ _ _ (PySem.isTrue _ _ _) _ _); k_extra "test")
    | ((with_reducible show Mine.W _ _ _ (spliced _) _ _); (first | refine L_nil ?_ | refine L_cons ?_))
    | ((with_reducible show Mine.W _ _ _ (callWith _ (Value.ref _) _ _ _) _ _); k_extra "callw")
    | ((with_reducible show Mine.W _ _ _ (callWith _ _ _ _ _) _ _); (with_reducible first | refine C_type ?_ | refine C_bi ?_))
    | ((with_reducible show Mine.W _ _ _ (call _ _ _) _ _); k_extra "call")
    | ((with_reducible show Mine.W _ _ _ (binaryOp _ _ _) _ _); k_extra "op")
    | ((with_reducible show Mine.W _ _ _ (compareOp _ _ _) _ _); k_extra "cmp")
    | ((with_reducible show Mine.W _ _ _ (truthy _) _ _); (with_reducible refine T_b ?_))
    | ((with_reducible show Mine.W _ _ _ (assign _ _ _) _ _); (with_reducible first | refine A_name ?_ | refine A_tuple (Cok.hh (by assumption)) (.tup List.mem_cons_self) ?_))
    | ((with_reducible refine N_list ?_ ?_); (focus first | decide | size_fits); intro _)
    | ((with_reducible refine N_tuple ?_ ?_); (focus first | decide | size_fits); intro _)
    | ((with_reducible show Mine.W _ _ _ (assignInOrder _ _) _ _); (with_reducible first | refine IO_cons ?_ | refine IO_done ?_))
    | ((with_reducible show Mine.W _ _ _ (allTrue _ _ _) _ _); (with_reducible first | refine T_orN ?_ | refine T_or ?_))
    | ((with_reducible show Mine.W _ _ _ (testChain _ _ _ _) _ _); (first | refine TC_last ?_ | refine TC_cons ?_))
    | ((with_reducible show Mine.W _ _ _ (getMethod _ _ _) _ _); k_extra "meth")
    | ((with_reducible show Mine.W _ _ _ (subscriptTail _ _ _ _) _ _); (with_reducible refine B_item ?_ ?_ ?_ ?_); (focus omega); (focus omega); (focus omega); intro _)
    | fail "none"
  k_with "store" => first
    | refine W_store ⟨rfl, rfl, rfl⟩ (by rfl) (by k_extra "put") ?_
    | fail "none"
  k_with "meth" => first
    | (refine G_list (by with_reducible k_extra "mm") (by first | with_reducible exact slot_list_append) (by first | with_reducible exact type_list_append) ?_)
    | (refine G_ba (by with_reducible k_extra "mm") (by first | with_reducible exact By.sl_extend | with_reducible exact By.sl_append) (by first | with_reducible exact By.ty_extend | with_reducible exact By.ty_append) ?_)
    | fail "none"
  k_with "p" => first
    | ((with_reducible show (if _ = true then _ else _)); k_extra "ite")
    | (with_reducible first | refine Cont_next ?_ | refine Cont_ret ?_)
    | (refine ⟨_, _, _, _, _, _, rfl, rfl, rfl, ?_, ?_, ?_, ?_⟩; (focus omega); (focus omega); (focus omega); intro _)
    | (refine ⟨_, _, _, _, rfl, rfl, ?_, ?_, ?_⟩; (focus omega); (focus omega); intro _)
    | ((with_reducible show _ = Value.none ∧ _); refine ⟨rfl, ?_⟩)
    | ((with_reducible show ∃ a b, [_, _] = [a, b] ∧ _); refine ⟨_, _, rfl, ?_⟩)
    | ((with_reducible show ∃ a b d, [_, _, _] = [a, b, d] ∧ _); refine ⟨_, _, _, rfl, ?_⟩)
    | fail "none"
  k_with "ite" => first
    | ((with_reducible refine ite_no ?_ ?_); (focus first | decide | exact decide_eq_false (by omega) | exact not_dec (by omega) | exact beq_ne (by omega)))
    | ((with_reducible refine ite_yes ?_ ?_); (focus first | decide | exact decide_eq_true (by omega) | exact not_decT (by omega) | exact beq_eq (by omega)))
    | fail "none"
  k_with "ms" => first
    | ((with_reducible show Mine.W _ _ _ (eval _ _) _ _); k_extra "expr")
    | ((with_reducible show Mine.W _ _ _ (execs _ _) _ _); k_extra "stmt")
    | ((with_reducible show Mine.W _ _ _ _ _ _); k_extra "w")
    | k_extra "p"
    | fail "none"
  k_with "go" => repeat' (k_extra "ms")
  k_with "vstmt" => first
    | ((with_reducible show Mine.V _ _ _ (execs (Stmt.Assign [Expr.Name _ _] _ _ :: _) _) _ _); refine VS_assign ?_)
    | ((with_reducible show Mine.V _ _ _ (execs (Stmt.If _ _ _ _ :: _) _) _ _); refine VS_if ?_)
    | ((with_reducible show Mine.V _ _ _ (execs (Stmt.Return _ _ :: _) _) _ _); refine VS_return ?_)
    | ((with_reducible show Mine.V _ _ _ (execs (Stmt.Expr _ _ :: _) _) _ _); refine VS_expr ?_)
    | ((with_reducible show Mine.V _ _ _ (execs (Stmt.For _ _ _ _ _ :: _) _) _ _); refine VS_for ?_)
    | with_reducible refine VS_nil ?_
    | ((with_reducible show Mine.V _ _ _ (execs (Stmt.Assign [Expr.Tuple [_, _] _ _] (Expr.Tuple _ _ _) _ :: _) _) _ _); refine VS_tup2 (Cok.hh (by assumption)) ?_ (by rfl))
    | ((with_reducible show Mine.V _ _ _ (execs (Stmt.Assign [Expr.Tuple [_, _, _] _ _] (Expr.Tuple _ _ _) _ :: _) _) _ _); refine VS_tup3 (Cok.hh (by assumption)) ?_ (by rfl))
    | fail "none"
  k_with "v" => first
    | ((with_reducible refine BA_new (Cok.guards (by assumption)) ?_); intro _)
    | ((with_reducible show Mine.V _ _ _ (eval (Expr.Call (Expr.Attribute _ _ _) _ _ _) _) _ _); refine VE_meth ?_)
    | ((with_reducible show Mine.V _ _ _ (eval (Expr.Call _ _ _ _) _) _ _); refine VE_call ?_)
    | ((with_reducible show Mine.V _ _ _ (eval _ _) _ _); refine V_of ?_)
    | ((with_reducible show Mine.V _ _ _ (storeName _ _ _) _ _); refine V_of ?_)
    | ((with_reducible show Mine.V _ _ _ (PySem.isTrue _ _ _) _ _); refine V_of ?_)
    | ((with_reducible show Mine.V _ _ _ (spliced _) _ _); (first | refine VL_nil ?_ | refine VL_cons ?_))
    | ((with_reducible show Mine.V _ _ _ (callWith _ (Value.type _) _ _ _) _ _); (first | refine VC_type ?_ | refine VC_type0 ?_))
    | ((with_reducible show Mine.V _ _ _ (callWith _ (Value.builtin _) _ _ _) _ _); refine VC_bi ?_)
    | ((with_reducible show Mine.V _ _ _ (callWith _ (Value.ref _) _ _ _) _ _); refine VC_def (K := Mine.hd.heap_1 _) (d := _) (by assumption) (by k_is) ?_)
    | ((with_reducible show Mine.V _ _ _ (call _ (_ ++ _) _) _ _); dsimp only [List.nil_append, List.cons_append])
    | ((with_reducible show Mine.V _ _ _ (call (Value.builtin "len") [Value.bytes _ _] _) _ _); refine V_of ?_)
    | ((with_reducible show Mine.V _ _ _ (call (Value.type "bytes") _ _) _ _); refine V_of ?_)
    | fail "none"
  k_with "vs" => first
    | ((with_reducible show Mine.V _ _ _ (execs _ _) _ _); k_extra "vstmt")
    | ((with_reducible show Mine.V _ _ _ _ _ _); k_extra "v")
    | (with_reducible first | refine ContV_next ?_ | refine ContV_ret ?_)
    | k_extra "ms"
    | fail "none"
  k_with "vgo" => repeat' (k_extra "vs")
  trivial
example : True := by
  k_with "defc" => (
    (case ho => k_is); (case hcd => k_is)
    (case hb => first | exact fun s X => BindsTo.of_eq rfl | exact fun s X => binds_K X rfl (by k_is) rfl rfl (by kernel_rfl))
    (case hk => exact rfl); (case hn => (simp only [List.map_cons, List.map_nil]; decide)); (case hlb => rfl); (case hcn => decide); (case hcs => (intro L; rfl)); (case hc2 => (intro L; first | (simp; done) | (simp; exact fun e => absurd e (Nat.ne_of_gt (Nat.lt_of_lt_of_le (Nat.lt_succ_self _) (Nat.le_succ _)))))); (case hln => (simp only [List.map_cons, List.map_nil]; decide)); (case h1 => rfl); (case h2 => rfl); (case h3 => rfl))
  k_with "mm" => first
    | (with_reducible refine List.mem_append_right _ ?_; k_extra "mm")
    | with_reducible assumption
    | fail "none"
  k_with "pick" => first
    | with_reducible exact Pick.head
    | ((with_reducible show Pick _ (_ :: _) _); exact Pick.tail (by k_extra "pick"))
    | fail "none"
  k_with "has" => first
    | exact Has.refl _
    | ((with_reducible show Has _ (_ :: _)); exact Has.pick (by k_extra "pick") (by k_extra "has"))
    | (refine Has.of_sub ?_; k_extra "sbl")
    | fail "none"
  k_with "lk" => first
    | with_reducible exact lk_hit
    | exact rfl
    | (refine lk_skip (by decide) ?_; k_extra "lk")
    | fail "none"
  k_with "store" => first
    | (refine W_storeC ⟨rfl, rfl, rfl⟩ (by rfl) (by rfl) (by k_extra "lset") ?_)
    | fail "none"
  k_with "expr" => first
    | ((with_reducible show Mine.W _ _ _ (eval (Expr.ListComp _ [_] _ _) _) _ _); refine E_compK (CompNew.plain rfl (by decide)) ?_ rfl)
    | ((with_reducible show Mine.W _ _ _ (eval (Expr.BoolOp _ [_] _) _) _ _); refine E_one ?_)
    | ((with_reducible show Mine.W _ _ _ (eval (Expr.BoolOp _ _ _) _) _ _); refine E_and ?_)
    | ((with_reducible show Mine.W _ _ _ (eval (Expr.Compare _ (_ :: _ :: _) _ _) _) _ _); refine E_chain ?_)
    | fail "none"
  k_with "stmt" => first
    | ((with_reducible show Mine.W _ _ _ (execs (Stmt.Assign [Expr.Name _ _] (Expr.ListComp _ [_] _ _) _ :: _) _) _ _); refine S_assignC rfl (CompNew.plain rfl (by decide)) ?_ rfl)
    | fail "none"
  k_with "slice" => first
    | ((with_reducible show Mine.W _ _ _ (eval (Expr.Subscript _ (Expr.Slice (some _) none none _) _) _) _ _); refine E_sliceLx ?_)
    | fail "none"
  k_with "op" => first
    | ((with_reducible refine O_div ?_ ?_ ?_); (focus first | decide | omega); (focus exact PyProof.noPylong_small (by first | decide | omega)); intro _)
    | fail "none"
  k_with "call" => first
    | ((with_reducible refine O_min (Cok.hh (by assumption)) ?_); intro _)
    | ((with_reducible refine O_max (Cok.hh (by assumption)) ?_); intro _)
    | ((with_reducible refine F_chr ?_ ?_ ?_); (focus omega); (focus omega); intro _)
    | with_reducible refine B_ofBytes ?_
    | fail "none"
  k_with "w" => first
    | ((with_reducible show Mine.W _ _ _ (compareChain _ _ _ _) _ _); (first | refine CC_last ?_ | refine CC_link ?_))
    | ((with_reducible show Mine.W _ _ _ (getAttr (Value.ref _) _ _) _ _); (refine GA_own (K := Mine.hd.heap_1 _) (d := _) (by assumption) (by first | assumption | with_reducible k_extra "mm") (by first | assumption | with_reducible k_extra "mm") (by k_extra "lk") (by k_is) (by k_is) (by k_is) (by k_is) (by rfl) ?_))
    | ((with_reducible show Mine.W _ _ _ (setAttr (Value.ref _) _ _) _ _); (refine SA_dict (K := Mine.hd.heap_1 _) (d := _) (by assumption) (by first | assumption | with_reducible k_extra "mm") (by k_extra "lset") (by k_extra "put") (Nat.le_of_ble_eq_true rfl) (by k_is) (by k_is) (by k_is) (by k_is) ?_))
    | ((with_reducible show Mine.W _ _ _ (unaryOp _ _) _ _); (with_reducible refine O_neg ?_); intro _)
    | fail "none"
  k_with "meth" => first
    | with_reducible refine G_join ?_
    | (refine GM_inst (K := Mine.hd.heap_1 _) (d := _) (by assumption) (by first | assumption | with_reducible k_extra "mm") (by first | assumption | with_reducible k_extra "mm") (by k_extra "lk") (by k_is) (by k_is) (by k_is) ?_)
    | fail "none"
  k_with "p" => first
    | ((with_reducible show ∃ n4, _ :: _ = _ :: n4 ∧ _); refine ⟨_, rfl, ?_⟩)
    | fail "none"
  k_with "v" => first
    | ((with_reducible show Mine.V _ _ _ (eval (Expr.Tuple _ _ _) _) _ _); refine VE_tuple ?_)
    | ((with_reducible show Mine.V _ _ _ (callWith _ (Value.ref _) _ (backTo _ (starEach [] _)) _) _ _); refine V_of ?_)
    | fail "none"
  k_with "call" => first
    | with_reducible refine O_int ?_
    | ((with_reducible refine O_intB ?_); intro _)
    | fail "none"
  k_with "cmp" => first
    | with_reducible refine O_neS ?_
    | with_reducible refine O_eqS ?_
    | fail "none"
  trivial
theorem straight_is {c : Cx} {l : Loc} {n : Led} {E : Value → Shared → Prop} {Q : Value → Loc → Led → Prop} {v : Value} {p : Px} (V : Cok (hd.heap_1 c.w.params) c 2) (hc : Col n v p) (ho : pxOk p)
    (q : ∀ a ws, IntsAre ws (pxI p) → Q (.ref a) l ((a, TUP ws) :: n)) : W c l n (call (.ref 251) [v]) Q E := by
  obtain ⟨ca, ws, rfl, hi, -⟩ := hc.kn V (by k_is)
  have hc' := hc
  refine' W_defC (K := hd.heap_1 c.w.params) (d := 1) (binds := [(Str.ofString "colour", .ref ca)]) (lb := [(Str.ofString "colour", .ref ca)]) (cs := fun L => [(L + 1, none)]) V ?ho ?hcd ?hb ?hk ?hn ?hlb ?hcn ?hcs ?hc2 ?hln ?H ?h1 ?h2 ?h3
  k_extra "defc"
  intro L F V' wf hlt
  have hC : Col ([(L + 1, none)].map (fun p => (p.1, CE p.2)) ++ (c.L, F) :: n) (.ref ca) p := hc.mono fun x hx => by simp [hx]
  obtain ⟨_, ws, e, hi, kn⟩ := hC.kn V' (by k_is)
  cases e
  rcases ho with rfl | ha
  · have hi : IntsAre ws [0, 0, 0, 0] := hi
    obtain ⟨t1, t2, t3, t4, rfl⟩ := ints4 hi
    k_extra "go"
    refine A_tuple V'.hh kn ?_
    k_extra "go"
    refine ⟨_, q _ _ ?_, by k_extra "back"⟩
    k_extra "ints"
  · obtain ⟨r, g, b, al⟩ := p
    dsimp only at ha
    subst ha
    have hi : IntsAre ws [(r.toNat : Int), (g.toNat : Int), (b.toNat : Int), 255] := hi
    obtain ⟨t1, t2, t3, t4, rfl⟩ := ints4 hi
    k_extra "go"
    refine A_tuple V'.hh kn ?_
    k_extra "go"
    refine I_tuple (.tup List.mem_cons_self) fun it hne => ⟨it, rfl, fun C acc F' wf' => ?_⟩
    refine RKp (R := fun i ys => IntsAre ys (([r, g, b].take i).map fun b => (b.toNat : Int))) (itr_tuple (V'.comp C).hh it _ [.int (r.toNat : Int) t1, .int (g.toNat : Int) t2, .int (b.toNat : Int) t3]) (fun l n Q E q hm => SI_tuple hm q) (by rw [sizeLine_eq]; show 3 ≤ _; decide) .nil (fun i ys h => Nat.le_trans (Nat.le_of_eq h.length) (by rw [List.length_map]; exact List.length_take_le ..)) (fun ys => ⟨.tup (by simp), hne⟩) ?_ ?_
    · rintro i ys v d hi h hv
      have V'' := V'.comp C
      obtain ⟨x, t, rfl, hx⟩ : ∃ (x : UInt8) (t : Tok), v = .int (x.toNat : Int) t ∧ [r, g, b][i]? = some x := by
        have hi : i < 3 := hi
        have : i = 0 ∨ i = 1 ∨ i = 2 := by omega
        rcases this with rfl | rfl | rfl <;> (simp at hv; exact ⟨_, _, hv.symm, rfl⟩)
      have hx8 := x.toNat_lt
      k_extra "go"
      refine ⟨?_, Has.refl _⟩
      rw [List.take_add_one, hx]
      have e : min 255 (Int.fdiv (2 * 255 * (x.toNat : Int) + 255) (2 * 255)) = (x.toNat : Int) := by
        rw [Int.fdiv_eq_ediv_of_nonneg _ (by omega)]; omega
      rw [e, List.map_append]
      exact intsAre_snoc h _ _
    · intro ys n' h hn'
      refine ⟨_, hn', fun p => ?_⟩
      have h : IntsAre ys [(r.toNat : Int), (g.toNat : Int), (b.toNat : Int)] := h
      obtain ⟨u1, u2, u3, rfl⟩ := ints3 h
      k_extra "go"
      refine L_item (v := .int (r.toNat : Int) u1) (.list List.mem_cons_self) (by decide) (by decide) rfl ?_
      k_extra "go"
      refine L_item (v := .int (g.toNat : Int) u2) (.list List.mem_cons_self) (by decide) (by decide) rfl ?_
      k_extra "go"
      refine L_item (v := .int (b.toNat : Int) u3) (.list List.mem_cons_self) (by decide) (by decide) rfl ?_
      k_extra "go"
      refine ⟨_, q _ _ ?_, by k_extra "back"⟩
      show IntsAre _ [(r.toNat : Int), (g.toNat : Int), (b.toNat : Int), 255]
      k_extra "ints"
theorem straight_row_is {c : Cx} {l : Loc} {n : Led} {E : Value → Shared → Prop} {Q : Value → Loc → Led → Prop} {ra : Addr} {vs : List Value} {px : List Px} (V : Cok (hd.heap_1 c.w.params) c 3) (hr : (ra, LST vs) ∈ n) (hc : Cols n vs px) (ok : ∀ p ∈ px, pxOk p) (hz : px.length ≤ 1000)
    (q : ∀ t, Q (.bytes (px.flatMap pxB).toArray t) l n) : Mine.V c l n (call (.ref 263) [.ref ra]) Q E := by
  refine' V_def (K := hd.heap_1 c.w.params) (d := 2) (binds := [(Str.ofString "row", .ref ra)]) V ?ho ?hcd ?hb ?hl ?hn ?H ?hc ?h1 ?h2 ?h3
  k_extra "def"
  intro L F V' wf hlt
  k_extra "vgo"
  rename_i fa
  have hlen := hc.len
  have hfl : ∀ qs : List Px, (qs.flatMap pxB).length = 4 * qs.length := fun qs => by
    induction qs with
    | nil => rfl
    | cons p r ih => rw [List.flatMap_cons, List.length_append, ih]; simp [pxB]; omega
  have hm : (ra, LST vs) ∈ (c.L, F) :: n := List.mem_cons_of_mem _ hr
  refine R_listV V'.hh (fun i l' n' => l' = [(Str.ofString "row", .ref ra), (Str.ofString "found", .ref fa)] ∧ n' = (fa, BYA ((px.take i).flatMap pxB)) :: (c.L, F) :: n) _ ((fa, BYA []) :: (c.L, F) :: n) (List.mem_cons_of_mem _ hm) (by k_extra "sbl") (by k_extra "sbl") ⟨rfl, rfl⟩ ?_ ?_ ?_
  · rintro i l' n' ⟨rfl, rfl⟩; exact List.mem_cons_of_mem _ hm
  · rintro i v l' n' a d hv ⟨rfl, rfl⟩
    obtain ⟨p, hp, hcol⟩ := hc.at hv
    have hi : i < px.length := (List.getElem?_eq_some_iff.mp hp).1
    k_extra "vgo"
    refine V_of (straight_is (p := p) (V'.le (by decide)) (hcol.mono fun x hx => by simp [hx]) (ok p (List.mem_of_getElem? hp)) fun sa ws hw => ?_)
    k_extra "vgo"
    refine BA_extend_tuple (ns := pxI p) (vs := ws) V'.hh V'.guards List.mem_cons_self hw ?_ (.tail (.tail .head)) ?_ ?_
    · intro x hx
      obtain ⟨b, _, rfl⟩ := List.mem_map.mp hx
      have := b.toNat_lt
      omega
    · rw [hfl, List.length_take, sizeLine_eq, pxI, List.length_map]; simp [pxB]; omega
    have e : (px.take (i + 1)).flatMap pxB = (px.take i).flatMap pxB ++ (pxI p).map (fun x => x.toNat.toUInt8) := by
      rw [List.take_add_one, hp, List.flatMap_append, pxI, List.map_map]
      congr 1
      simp [Function.comp_def]
    rw [← e]
    k_extra "vgo"
    exact ⟨[_, _], (fa, BYA _) :: (c.L, F) :: n, ⟨rfl, rfl⟩, by k_extra "sbl", by k_extra "sbl"⟩
  · rintro l' n' ⟨rfl, rfl⟩
    rw [hlen, List.take_length]
    have hz' : (px.flatMap pxB).length ≤ sizeLine := by rw [hfl, sizeLine_eq]; omega
    k_extra "vgo"
    refine B_ofBA List.mem_cons_self hz' fun t => ?_
    k_extra "vgo"
    exact ⟨_, q _, by k_extra "back"⟩
set_option maxHeartbeats 1500000 in
theorem filtered_rows_is {c : Cx} {l : Loc} {n : Led} {E : Value → Shared → Prop} {Q : Value → Loc → Led → Prop} {rs ra : Addr} {vs : List Value} {px : List Px} {t u : Tok} (V : Cok (hd.heap_1 c.w.params) c 4) (hs : (rs, LST [.ref ra]) ∈ n) (hr : (ra, LST vs) ∈ n) (hc : Cols n vs px) (ok : ∀ p ∈ px, pxOk p) (hz : px.length ≤ 1000)
    (q : ∀ t, Q (.bytes (0 :: px.flatMap pxB).toArray t) l n) : Mine.V c l n (call (.ref 271) [.ref rs, .int px.length t, .int 0 u]) Q E := by
  refine' V_def (K := hd.heap_1 c.w.params) (d := 3) (binds := [(Str.ofString "rows", .ref rs), (Str.ofString "width", .int px.length t), (Str.ofString "kind", .int 0 u)]) V ?ho ?hcd ?hb ?hl ?hn ?H ?hc ?h1 ?h2 ?h3
  k_extra "def"
  intro L F V' wf hlt
  have hfl : ∀ qs : List Px, (qs.flatMap pxB).length = 4 * qs.length := fun qs => by
    induction qs with
    | nil => rfl
    | cons p r ih => rw [List.flatMap_cons, List.length_append, ih]; simp [pxB]; omega
  k_extra "vgo"
  k_extra "ex"
  rename_i fa _
  refine B_ofInt (by omega) (by omega) fun t1 => ?_
  k_extra "vgo"
  refine' R_listV (vs := [.ref ra]) V'.hh (fun i l' n' => i ≤ 1 ∧ (i = 0 → l' = [(Str.ofString "rows", .ref rs), (Str.ofString "width", .int px.length t), (Str.ofString "kind", .int 0 u), (Str.ofString "above", .bytes (List.replicate (4 * (px.length : Int)).toNat 0).toArray t1), (Str.ofString "found", .ref fa)] ∧ n' = (fa, BYA []) :: (c.L, F) :: n) ∧
    (i = 1 → l' = [(Str.ofString "found", .ref fa)] ∧ n' = (fa, BYA (0 :: px.flatMap pxB)) :: (c.L, F) :: n)) [(Str.ofString "rows", .ref rs), (Str.ofString "width", .int px.length t), (Str.ofString "kind", .int 0 u), (Str.ofString "above", .bytes (List.replicate (4 * (px.length : Int)).toNat 0).toArray t1), (Str.ofString "found", .ref fa)] ((fa, BYA []) :: (c.L, F) :: n) (by simp [hs]) ?sl ?sn ⟨by omega, fun _ => ⟨rfl, rfl⟩, fun e => by cases e⟩ ?_ ?_ ?_
  case sl => exact List.Sublist.refl _
  case sn => exact List.Sublist.refl _
  · rintro i l' n' ⟨h, h0, h1⟩
    have : i = 0 ∨ i = 1 := by omega
    rcases this with rfl | rfl
    · obtain ⟨_, rfl⟩ := h0 rfl; simp [hs]
    · obtain ⟨_, rfl⟩ := h1 rfl; simp [hs]
  · rintro i v l' n' a d hv ⟨h, h0, h1⟩
    obtain rfl : i = 0 := by
      rcases i with _ | i
      · rfl
      · simp at hv
    obtain ⟨rfl, rfl⟩ := h0 rfl
    obtain rfl : v = .ref ra := by simpa using hv.symm
    k_extra "vgo"
    refine straight_row_is (V'.le (by decide)) (by simp [hr]) (hc.mono fun x hx => by simp [hx]) ok hz fun t2 => ?_
    k_extra "vgo"
    refine filtered_is (V'.le (by decide)) ?_ ?_ fun t3 => ?_
    · rw [hfl]; omega
    · rw [hfl]; simp; omega
    k_extra "vgo"
    refine T_itemL (.tup List.mem_cons_self) (by decide) (by decide) rfl ?_
    k_extra "vgo"
    refine BA_append (b := []) V'.guards (.tail (.tail .head)) (by decide) (by decide) (by rw [sizeLine_eq]; decide) ?_
    k_extra "vgo"
    refine T_itemL (.tup List.mem_cons_self) (by decide) (by decide) rfl ?_
    k_extra "vgo"
    refine BA_extend_bytes (b := [] ++ [Int.toNat 0 |>.toUInt8]) V'.guards (.tail (.tail .head)) ?_ ?_
    · rw [hfl, sizeLine_eq]; simp; omega
    k_extra "vgo"
    refine ⟨[(Str.ofString "found", .ref fa)], (fa, BYA (0 :: px.flatMap pxB)) :: (c.L, F) :: n, ⟨by omega, fun e => absurd e (by decide), fun _ => ⟨rfl, rfl⟩⟩, by k_extra "sbl", by k_extra "sbl"⟩
  · rintro l' n' ⟨h, h0, h1⟩
    obtain ⟨rfl, rfl⟩ := h1 rfl
    have hz' : (0 :: px.flatMap pxB).length ≤ sizeLine := by rw [List.length_cons, hfl, sizeLine_eq]; omega
    k_extra "vgo"
    refine B_ofBA List.mem_cons_self hz' fun t => ?_
    k_extra "vgo"
    exact ⟨_, q _, by k_extra "back"⟩
theorem init_is {c : Cx} {l : Loc} {n : Led} {E : Value → Shared → Prop} {Q : Value → Loc → Led → Prop} {x dx : Addr} {w : Nat} {t u : Tok} (V : Cok (hd.heap_1 c.w.params) c 2) (h1 : 1 ≤ w) (h2 : w ≤ 100)
    (q : ∀ ce ra, Q .none l ((ce, LST [.ref ra]) :: (ra, LST (List.replicate w (.ref 125))) :: (x, INST 193 dx) :: (dx, ATT (cvA w t u ce)) :: n)) : WCode c l ((x, INST 193 dx) :: (dx, ATT []) :: n) (.call (.ref 138) ⟨[.ref x, .int w t, .int 1 u], []⟩) Q E := by
  refine' WCode_defC (K := hd.heap_1 c.w.params) (d := 1) (binds := [(Str.ofString "self", .ref x), (Str.ofString "width", .int w t), (Str.ofString "height", .int 1 u), (Str.ofString "left", .int 0 363), (Str.ofString "top", .int 0 364)]) (lb := [(Str.ofString "self", .ref x), (Str.ofString "height", .int 1 u), (Str.ofString "left", .int 0 363), (Str.ofString "top", .int 0 364)]) (cs := fun L => [(L + 1, some (.int w t))]) V ?ho ?hcd ?hb ?hk ?hn ?hlb ?hcn ?hcs ?hc2 ?hln ?H ?h1 ?h2 ?h3
  k_extra "defc"
  intro L F V' wf hlt
  show W _ _ ((L + 1, CE (some (.int w t))) :: (c.L, F) :: (x, INST 193 dx) :: (dx, ATT []) :: n) _ _ _
  k_extra "go"
  refine I_range List.mem_cons_self (by decide) (by decide) (by decide) (by decide) fun it => ⟨it, rfl, fun C acc F' wf' => ?_⟩
  refine RKn (G := fun _ d => d = LST (List.replicate w (.ref 125))) (N := fun _ => True) (itr_range (V'.comp C).hh it 0 1) (fun l n Q E q hm => SI_range hm q) (by rw [sizeLine_eq]; decide) (fun _ _ => trivial) ?_ ?_
  · rintro i os v d hi ho ⟨t3, rfl⟩
    have V'' := V'.comp C
    obtain rfl : os = [] := List.length_eq_zero_iff.mp (by omega)
    simp only [List.nil_append, List.reverse_nil, List.map_nil]
    k_extra "go"
    refine O_mulL (x := (w : Int)) (vs := [.ref 125]) (.list List.mem_cons_self) (by omega) (by simp; omega) (by omega) (ws := List.replicate w (.ref 125)) ?_ fun D => ?_
    · rw [show ((w : Int)).toNat = w by omega]; simp
    refine ⟨D, _, rfl, rfl, ?_⟩
    k_extra "has"
  · intro os n' ho hg hn'
    refine ⟨_, hn', ?_⟩
    obtain ⟨p, rfl⟩ : ∃ p, os = [p] := by
      rcases os with _ | ⟨p, _ | ⟨_, _⟩⟩
      · simp at ho
      · exact ⟨p, rfl⟩
      · simp at ho
    obtain ⟨ra, d⟩ := p
    obtain rfl : d = LST (List.replicate w (.ref 125)) := hg 0 _ rfl
    simp only [List.map_cons, List.map_nil, List.reverse_cons, List.reverse_nil, List.nil_append, List.cons_append]
    k_extra "go"
    refine Back.of_has (q acc ra) ?_
    k_extra "has"
theorem canvas_is {c : Cx} {l : Loc} {n : Led} {E : Value → Shared → Prop} {Q : Value → Loc → Led → Prop} {w : Nat} {t u : Tok} (V : Cok (hd.heap_1 c.w.params) c 3) (h1 : 1 ≤ w) (h2 : w ≤ 100)
    (q : ∀ x dx ce ra, Q (.ref x) l ((ce, LST [.ref ra]) :: (ra, LST (List.replicate w (.ref 125))) :: (x, INST 193 dx) :: (dx, ATT (cvA w t u ce)) :: n)) : W c l n (call (.ref 193) [.int w t, .int 1 u]) Q E := by
  refine' C_class (K := hd.heap_1 c.w.params) (fI := 138) V ?a ?b ?e fun x dx => init_is (V.make _ _ _) h1 h2 fun ce ra => ⟨rfl, q x dx ce ra⟩
  case a => k_is
  case b => k_is
  case e => k_is
theorem holds_is {c : Cx} {l : Loc} {n : Led} {E : Value → Shared → Prop} {Q : Value → Loc → Led → Prop} {cv : Addr} {px : List Px} {x y : Int} {t u : Tok} (V : Cok (hd.heap_1 c.w.params) c 1) (C : Cv n cv px) (h0 : 0 ≤ x) (h1 : x < px.length) (hy : y = 0)
    (q : Q (.bool true) l n) : W c l n (call (.ref 145) [.ref cv, .int x t, .int y u]) Q E := by
  refine' W_def (K := hd.heap_1 c.w.params) (d := 0) (binds := [(Str.ofString "self", .ref cv), (Str.ofString "x", .int x t), (Str.ofString "y", .int y u)]) V ?ho ?hcd ?hb ?hl ?hn ?H ?hc ?h1 ?h2 ?h3
  k_extra "def"
  intro L F V' wf
  obtain ⟨dx, ce, ra, t1, t2, vs, hI, hA, hC, hR, cols⟩ := C
  unfold cvA at hA
  k_extra "go"
  rw [show decide (y - 0 < 1) = true from decide_eq_true (by omega)]
  exact ⟨_, q, by k_extra "back"⟩
theorem get_is {c : Cx} {l : Loc} {n : Led} {E : Value → Shared → Prop} {Q : Value → Loc → Led → Prop} {cv : Addr} {px : List Px} {x y : Int} {t u : Tok} (V : Cok (hd.heap_1 c.w.params) c 2) (C : Cv n cv px) (h0 : 0 ≤ x) (h1 : x < px.length) (hz : px.length ≤ 100) (hy : y = 0)
    (q : ∀ v p, px[x.toNat]? = some p → Col n v p → Q v l n) : W c l n (call (.ref 152) [.ref cv, .int x t, .int y u]) Q E := by
  refine' W_def (K := hd.heap_1 c.w.params) (d := 1) (binds := [(Str.ofString "self", .ref cv), (Str.ofString "x", .int x t), (Str.ofString "y", .int y u)]) V ?ho ?hcd ?hb ?hl ?hn ?H ?hc ?h1 ?h2 ?h3
  k_extra "def"
  intro L F V' wf
  have C' : Cv ((c.L, F) :: n) cv px := C.mono fun x hx => List.mem_cons_of_mem _ hx
  obtain ⟨dx, ce, ra, t1, t2, vs, hI, hA, hC, hR, cols⟩ := C
  unfold cvA at hA
  have hlen := cols.len
  obtain ⟨v, hv⟩ : ∃ v, vs[x.toNat]? = some v := ⟨vs[x.toNat]'(by omega), List.getElem?_eq_getElem _⟩
  obtain ⟨p, hp, hcol⟩ := cols.at hv
  k_extra "go"
  refine holds_is (V'.le (by decide)) C' h0 h1 hy ?_
  k_extra "go"
  refine L_item (v := .ref ra) (.list (by k_extra "mm")) (by omega) (by omega) (by rw [show (y - 0).toNat = 0 by omega]; rfl) ?_
  k_extra "go"
  refine L_item (v := v) (.list (by k_extra "mm")) (by omega) (by omega) (by rw [show (x - 0).toNat = x.toNat by omega]; exact hv) ?_
  k_extra "go"
  exact ⟨_, q v p hp hcol, by k_extra "back"⟩
theorem put_is {c : Cx} {l : Loc} {n n₁ : Led} {E : Value → Shared → Prop} {Q : Value → Loc → Led → Prop} {cv : Addr} {px : List Px} {x y : Int} {t u : Tok} {v : Value} (V : Cok (hd.heap_1 c.w.params) c 2) (C : Cv n cv px) (h0 : 0 ≤ x) (h1 : x < px.length) (hz : px.length ≤ 100) (hy : y = 0)
    (P : LSet C.ra (LST C.vs) (LST (C.vs.set x.toNat v)) n n₁) (q : Q .none l n₁) : W c l n (call (.ref 159) [.ref cv, .int x t, .int y u, v]) Q E := by
  refine' W_def (K := hd.heap_1 c.w.params) (d := 1) (binds := [(Str.ofString "self", .ref cv), (Str.ofString "x", .int x t), (Str.ofString "y", .int y u), (Str.ofString "colour", v)]) V ?ho ?hcd ?hb ?hl ?hn ?H ?hc ?h1 ?h2 ?h3
  k_extra "def"
  intro L F V' wf
  have C' : Cv ((c.L, F) :: n) cv px := C.mono fun x hx => List.mem_cons_of_mem _ hx
  obtain ⟨dx, ce, ra, t1, t2, vs, hI, hA, hC, hR, cols⟩ := C
  unfold cvA at hA
  dsimp only at P
  have hlen := cols.len
  k_extra "go"
  refine holds_is (V'.le (by decide)) C' h0 h1 hy ?_
  k_extra "go"
  refine L_item (v := .ref ra) (.list (by k_extra "mm")) (by omega) (by omega) (by rw [show (y - 0).toNat = 0 by omega]; rfl) ?_
  k_extra "go"
  refine X_list (n' := (c.L, F) :: n₁) (vs := vs) (.tail ?_) (by omega) (by omega) (by omega) ?_
  · rw [show (x - 0).toNat = x.toNat by omega]; exact P
  k_extra "go"
  exact ⟨_, q, by k_extra "back"⟩
theorem rows_is {c : Cx} {l : Loc} {n : Led} {E : Value → Shared → Prop} {Q : Value → Loc → Led → Prop} {cv : Addr} {px : List Px} (V : Cok (hd.heap_1 c.w.params) c 1) (C : Cv n cv px) (hz : px.length ≤ 100)
    (q : ∀ rs ra, Q (.ref rs) l ((rs, LST [.ref ra]) :: (ra, LST C.vs) :: n)) : W c l n (call (.ref 171) [.ref cv]) Q E := by
  refine' W_def (K := hd.heap_1 c.w.params) (d := 0) (binds := [(Str.ofString "self", .ref cv)]) V ?ho ?hcd ?hb ?hl ?hn ?H ?hc ?h1 ?h2 ?h3
  k_extra "def"
  intro L F V' wf
  obtain ⟨dx, ce, ra, t1, t2, vs, hI, hA, hC, hR, cols⟩ := C
  unfold cvA at hA
  dsimp only at q
  have hlen := cols.len
  k_extra "go"
  refine I_list (vs := [.ref ra]) (.list (by k_extra "mm")) fun it hne => ⟨it, rfl, fun C acc F' wf' => ?_⟩
  refine RKn (G := fun _ d => d = LST vs) (itr_list (V'.comp C).hh it ce [.ref ra]) (fun l n Q E q hm => SI_list hm q) (by rw [sizeLine_eq]; show 1 ≤ _; decide) (fun _ _ => ⟨.list (by simp [hC]), hne⟩) ?_ ?_
  · rintro i os v d hi ho hv
    have V'' := V'.comp C
    obtain rfl : i = 0 := by
      have : i < 1 := hi
      omega
    obtain rfl : os = [] := List.length_eq_zero_iff.mp ho
    obtain rfl : v = .ref ra := by simpa using hv.symm
    simp only [List.nil_append, List.reverse_nil, List.map_nil]
    k_extra "go"
    refine C_listL (vs := vs) (.list (by k_extra "mm")) (by rw [sizeLine_eq]; omega) fun D => ?_
    refine ⟨D, _, rfl, rfl, ?_⟩
    k_extra "has"
  · intro os n' ho hg hn'
    refine ⟨_, hn', ?_⟩
    obtain ⟨p, rfl⟩ : ∃ p, os = [p] := by
      rcases os with _ | ⟨p, _ | ⟨_, _⟩⟩
      · simp at ho
      · exact ⟨p, rfl⟩
      · simp at ho
    obtain ⟨rb, d⟩ := p
    obtain rfl : d = LST vs := hg 0 _ rfl
    simp only [List.map_cons, List.map_nil, List.reverse_cons, List.reverse_nil, List.nil_append, List.cons_append]
    k_extra "go"
    exact Back.of_has (q acc rb) (by k_extra "has")
theorem excOver_of {K : Frag} {C : Addr} {cd : ClassData} (h : clsIn K C = some cd) (ho : onlyExc cd.mro = true) : excOver K C = true := by unfold excOver; rw [h]; exact ho
theorem sizefault_is {c : Cx} {l : Loc} {n : Led} {E : Value → Shared → Prop} {Q : Value → Loc → Led → Prop} {x : Str} {t : Tok} (V : Cok (hd.heap_1 c.w.params) c 4) (q : ∀ e, Q (.ref e) l ((e, EXC 63) :: n)) :
    W c l n (call (.ref 63) [.str x t]) Q E := by
  refine C_exc (fI := 35) V (show _ = some (excClassObj _ _ 63 _ _ _ _ _ _ _ _ _ _ _ _ _ _ _) by k_is) ⟨by decide, by decide, by decide, by decide⟩ (by k_is) (by k_is) (by rw [sizeLine_eq]; show 1 ≤ _; decide) fun e => ?_
  refine' W_defC (K := hd.heap_1 c.w.params) (d := 2) (binds := [(Str.ofString "self", .ref e), (Str.ofString "message", .str x t)]) (lb := [(Str.ofString "self", .ref e), (Str.ofString "message", .str x t)]) (cs := fun L => []) (V.make 63 _ _) ?ho ?hcd ?hb ?hk ?hn ?hlb ?hcn ?hcs ?hc2 ?hln ?H ?h1 ?h2 ?h3
  k_extra "defc"
  intro L F V' wf hlt
  show W _ _ ((c.L, F) :: (e, EX0 63) :: n) _ _ _
  k_extra "go"
  refine SA_exc V' (.tail .head) (by k_is) (excOver_of (by k_is) (by rfl)) (by k_is) (by k_is) ?_
  k_extra "go"
  refine ⟨(e, EXC 63) :: n, ⟨rfl, q e⟩, by k_extra "back"⟩
theorem stored_raises {c : Cx} {l : Loc} {n : Led} {Q : Value → Loc → Led → Prop} {bs : List UInt8} {most : Int} {t u : Tok} (V : Cok (hd.heap_1 c.w.params) c 6) (hh : Held c n) (hm : most < 1 ∨ 65535 < most) :
    Mine.V c l n (call (.ref 110) [.bytes bs.toArray t, .int most u]) Q (Flown c 63 fun l1 n1 => l1 = l ∧ n1 = n) := by
  refine' V_defX (C := 63) (R := fun n1 => n1 = n) (K := hd.heap_1 c.w.params) (d := 5) (binds := [(Str.ofString "octets", .bytes bs.toArray t), (Str.ofString "most", .int most u)]) (lb := [(Str.ofString "octets", .bytes bs.toArray t), (Str.ofString "most", .int most u)]) (cs := fun L => []) V ?ho ?hcd ?hb ?hk ?hn ?hlb ?hcn ?hcs ?hc2 ?hln ?H ?h1 ?h2 ?h3
  k_extra "defc"
  intro L F V' wf hlt
  show Mine.V _ _ ((c.L, F) :: n) _ _ _
  k_extra "vgo"
  have hH : ∀ env : Env, env.frame = some L → env.scope.kind = .function → Held (c.sub env L) ((c.L, F) :: n) := fun env a b => hh.call a b wf List.mem_cons_self fun p hp => List.mem_cons_of_mem _ hp
  rcases hm with hm | hm
  · k_extra "vgo"
    refine VS_raise (R := BackE c F fun n1 => n1 = n) V' (show _ = some (excClassObj _ _ 63 _ _ _ _ _ _ _ _ _ _ _ _ _ _ _) by k_is) (by decide) ?_ fun ev s x => .inl x
    k_extra "go"
    refine sizefault_is (V'.le (by decide)) fun e => ⟨e, _, rfl, rfl, hH _ rfl rfl, n, Has.refl _, rfl⟩
  · k_extra "vgo"
    refine VS_raise (R := BackE c F fun n1 => n1 = n) V' (show _ = some (excClassObj _ _ 63 _ _ _ _ _ _ _ _ _ _ _ _ _ _ _) by k_is) (by decide) ?_ fun ev s x => .inl x
    k_extra "go"
    refine sizefault_is (V'.le (by decide)) fun e => ⟨e, _, rfl, rfl, hH _ rfl rfl, n, Has.refl _, rfl⟩
theorem VC_F0 {c : Cx} {l : Loc} {n : Led} {E : Value → Shared → Prop} {Q : Value → Loc → Led → Prop} {pos : Pos} {env : Env} {f : Addr} (hf : ∀ l h, St c.g c.L l n h → FnAt f h) (H : Mine.V c l n (call (.ref f) []) Q E) : Mine.V c l n (callWith pos (.ref f) [] (backTo pos (starEach [] env)) []) Q E :=
  VC_of rfl (V_args0 ⟨H, fun l2 h S => keeps_F h (hf l2 h S)⟩)
theorem LAMO.fnAt {g : Heap} {L : Addr} {l : Loc} {n : Led} {h : Heap} {f c' : Addr} {q : Str} {params : Arguments} {body : Expr} {scope : Scope} {clos : List (Str × Addr)} {pm ctv : Value} (hm : (f, LAMO q params body scope clos pm c' ctv) ∈ n) (S : St g L l n h) : FnAt f h := by
  obtain ⟨o, ho, rfl⟩ := S.get hm
  exact ⟨_, _, _, _, ho⟩
theorem refused_is {c : Cx} {l : Loc} {n : Led} {E : Value → Shared → Prop} {Q : Value → Loc → Led → Prop} {f : Addr} {b : Bool} {d : Nat} {Rn : Led → Prop} (V : Cok (hd.heap_1 c.w.params) c (d + 1)) (hh : Held c n) (hf : ∀ g L l h, St g L l n h → FnAt f h)
    (H : ∀ (env : Env) (L : Addr) (F : Desc) (l' : Loc), Cok (hd.heap_1 c.w.params) (c.sub env L) d → Held (c.sub env L) ((c.L, F) :: n) → Mine.V (c.sub env L) l' ((c.L, F) :: n) (call (.ref f) [])
      (fun v l1 n1 => b = false ∧ (∀ a, v ≠ .ref a) ∧ ∃ n2, Has n1 ((c.L, F) :: n2) ∧ Rn n2) (Flown (c.sub env L) 63 fun l1 n1 => b = true ∧ ∃ n2, Has n1 ((c.L, F) :: n2) ∧ Rn n2))
    (q : ∀ n2, Rn n2 → Q (.bool b) l n2) : Mine.V c l n (call (.ref 315) [.ref f]) Q E := by
  refine' V_defC (K := hd.heap_1 c.w.params) (d := d) (binds := [(Str.ofString "call", .ref f)]) (lb := [(Str.ofString "call", .ref f)]) (cs := fun L => []) V ?ho ?hcd ?hb ?hk ?hn ?hlb ?hcn ?hcs ?hc2 ?hln ?H ?h1 ?h2 ?h3
  k_extra "defc"
  intro L F V' wf hlt
  show Mine.V _ _ ((c.L, F) :: n) _ _ _
  obtain ⟨p, loose, mean, mg, mb, outer, T, hA⟩ := V.ex
  refine VS_try (C := 63) (K := hd.heap_1 c.w.params) (R := fun l1 n1 => b = true ∧ ∃ n2, Has n1 ((c.L, F) :: n2) ∧ Rn n2) V' (show _ = some (excClassObj _ _ 63 _ _ _ _ _ _ _ _ _ _ _ _ _ _ _) by k_is) (by decide) ⟨outer, Around.frames_deeper hA⟩ (by k_is) ?_ ?_
  · refine VS_exprV (VE_call ?_)
    k_extra "name"
    refine VC_F0 (fun l h S => hf _ _ _ _ (S.sub (List.sublist_cons_self ..))) ?_
    refine (H _ L F _ V' (hh.call rfl rfl wf List.mem_cons_self fun p hp => List.mem_cons_of_mem _ hp)).mono fun v l1 n1 x => ?_
    obtain ⟨rfl, hv, n2, hn, r⟩ := x
    refine ⟨hv, ?_⟩
    k_extra "vgo"
    exact Back.of_has (q _ r) hn
  · rintro l1 n1 A' ⟨rfl, n2, hn, r⟩
    k_extra "go"
    exact Back.of_has (q _ r) hn
theorem law_take_is {c : Cx} {l : Loc} {n : Led} {E : Value → Shared → Prop} {Q : Value → Loc → Led → Prop} {p : Addr} {top : Int} {tt : Tok} (V : Cok (hd.heap_1 c.w.params) c 2) (hm : (p, POOL) ∈ n) (h1 : 1 ≤ top) (h2 : top ≤ 256)
    (q : ∀ r t, 0 ≤ r → r < top → Q (.int r t) l n) : W c l n (call (.ref 308) [.ref p, .int top tt]) Q E := by
  obtain ⟨r, hp⟩ := Has.mem (r := []) hm
  refine W.perm hp (W.pool fun a b t1 t2 ha hb hb' => W.post ?_)
  have fin : ∀ x t a' b' t1' t2', 0 ≤ x → x < top → 0 ≤ a' → 0 ≤ b' → b' < 2147483647 → ∃ n2, Le ((p, LST [.int a' t1', .int b' t2']) :: r) n2 ∧ Q (.int x t) l n2 := fun x t a' b' t1' t2' x0 x1 y0 y1 y2 =>
    ⟨n, (POOL.le y0 y1 y2).trans (Le.of_has (.of_perm hp.symm)), q x t x0 x1⟩
  refine' W_defC (K := hd.heap_1 c.w.params) (d := 1) (binds := [(Str.ofString "source", .ref p), (Str.ofString "top", .int top tt)]) (lb := [(Str.ofString "source", .ref p), (Str.ofString "top", .int top tt)]) (cs := fun L => []) V ?ho ?hcd ?hb ?hk ?hn ?hlb ?hcn ?hcs ?hc2 ?hln ?H ?h1 ?h2 ?h3
  k_extra "defc"
  intro L F V' wf hlt
  show W _ _ ((c.L, F) :: (p, LST [.int a t1, .int b t2]) :: r) _ _ _
  have kl : ∀ (env : Env), Knows (c.sub env L) ((c.L, F) :: (p, LST [.int a t1, .int b t2]) :: r) (·.IsList p [Value.int a t1, .int b t2].toArray) := fun env => .list (List.mem_cons_of_mem _ List.mem_cons_self)
  k_extra "go"
  refine L_item (v := .int a t1) (kl _) (by decide) (by decide) rfl ?_
  k_extra "go"
  by_cases h0 : 0 < a
  · k_extra "go"
    refine L_item (v := .int a t1) (kl _) (by decide) (by decide) rfl ?_
    k_extra "go"
    refine L_item (v := .int a t1) (kl _) (by decide) (by decide) rfl ?_
    k_extra "go"
    refine X_list (vs := [.int a t1, .int b t2]) (n' := (c.L, F) :: (p, LST [.int (a.fdiv top) _, .int b t2]) :: r) (.tail .head) (by decide) (by decide) (by show (0 : Int) < 2; decide) ?_
    k_extra "go"
    refine ⟨(p, LST [.int (a.fdiv top) _, .int b t2]) :: r, fin _ _ _ _ _ _ ?_ ?_ ?_ hb hb', by k_extra "back"⟩
    · exact Int.fmod_nonneg_of_pos _ (by omega)
    · exact Int.fmod_lt_of_pos _ (by omega)
    · rw [Int.fdiv_eq_ediv_of_nonneg _ (by omega)]; exact Int.ediv_nonneg ha (by omega)
  · k_extra "go"
    refine L_item (v := .int b t2) (kl _) (by decide) (by decide) rfl ?_
    k_extra "go"
    obtain ⟨b', hb1⟩ : ∃ b', b' = (b * 39373 + 7).fmod 2147483647 := ⟨_, rfl⟩
    rw [← hb1]
    have y1 : 0 ≤ b' := by rw [hb1]; exact Int.fmod_nonneg_of_pos _ (by decide)
    have y2 : b' < 2147483647 := by rw [hb1]; exact Int.fmod_lt_of_pos _ (by decide)
    refine X_list (vs := [.int a t1, .int b t2]) (n' := (c.L, F) :: (p, LST [.int a t1, .int b' _]) :: r) (.tail .head) (by decide) (by decide) (by show (1 : Int) < 2; decide) ?_
    have kl' : ∀ (env : Env) (u : Tok), Knows (c.sub env L) ((c.L, F) :: (p, LST [.int a t1, .int b' u]) :: r) (·.IsList p [Value.int a t1, .int b' u].toArray) := fun env u => .list (List.mem_cons_of_mem _ List.mem_cons_self)
    k_extra "go"
    refine L_item (v := .int b' _) (kl' _ _) (by decide) (by decide) rfl ?_
    k_extra "go"
    refine L_item (v := .int b' _) (kl' _ _) (by decide) (by decide) rfl ?_
    k_extra "go"
    refine ⟨(p, LST [.int a t1, .int b' _]) :: r, fin _ _ _ _ _ _ ?_ ?_ ha y1 y2, by k_extra "back"⟩
    · exact Int.fmod_nonneg_of_pos _ (by omega)
    · exact Int.fmod_lt_of_pos _ (by omega)
theorem law_pool_is {c : Cx} {l : Loc} {n : Led} {E : Value → Shared → Prop} {Q : Value → Loc → Led → Prop} {sa : Addr} {vs : List Value} (V : Cok (hd.heap_1 c.w.params) c 2) (hk : ∀ L l h, St c.g L l n h → h.IsList sa vs.toArray) (hv : ∀ v ∈ vs, ∃ x t, v = .int x t) (hz : vs.length ≤ 63)
    (q : ∀ p, Q (.ref p) l ((p, POOL) :: n)) : W c l n (call (.ref 301) [.ref sa]) Q E := by
  refine W.post ?_
  have fin : ∀ p a b t1 t2, 0 ≤ a → 0 ≤ b → b < 2147483647 → ∃ n2, Le ((p, LST [.int a t1, .int b t2]) :: n) n2 ∧ Q (.ref p) l n2 := fun p a b t1 t2 h0 h1 h2 => ⟨_, POOL.le h0 h1 h2, q p⟩
  refine' W_defC (K := hd.heap_1 c.w.params) (d := 1) (binds := [(Str.ofString "script", .ref sa)]) (lb := [(Str.ofString "script", .ref sa)]) (cs := fun L => []) V ?ho ?hcd ?hb ?hk ?hn ?hlb ?hcn ?hcs ?hc2 ?hln ?H ?h1 ?h2 ?h3
  k_extra "defc"
  intro L F V' wf hlt
  show W _ _ ((c.L, F) :: n) _ _ _
  have kl : ∀ (env : Env), Knows (c.sub env L) ((c.L, F) :: n) (·.IsList sa vs.toArray) := fun env l h S => hk _ _ _ (S.sub (List.sublist_cons_self ..))
  k_extra "go"
  refine C_lenL (kl _) (by rw [sizeLine_eq]; omega) fun t1 => ?_
  k_extra "go"
  have hcell : ∃ x : Int, ∀ (env : Env) (l1 : Loc) (Q1 : Value → Loc → Led → Prop) (E1 : Value → Shared → Prop), True := ⟨0, fun _ _ _ _ => trivial⟩
  clear hcell
  cases vs with
  | nil =>
    k_extra "go"
    refine O_pow (by decide) (by decide) fun t2 => ?_
    k_extra "go"
    refine ⟨(_, LST [_, _]) :: n, fin _ _ _ _ _ ?_ ?_ ?_, by k_extra "back"⟩
    · split <;> omega
    · exact Int.fmod_nonneg_of_pos _ (by decide)
    · exact Int.fmod_lt_of_pos _ (by decide)
  | cons v vs =>
    obtain ⟨x, tx, rfl⟩ := hv v (List.mem_cons_self ..)
    have hl : (0 : Int) < ((Value.int x tx :: vs).length : Int) := by simp
    k_extra "go"
    refine L_item (v := .int x tx) (kl _) (by decide) (by decide) rfl ?_
    k_extra "go"
    refine O_pow (by decide) (by decide) fun t2 => ?_
    k_extra "go"
    refine ⟨(_, LST [_, _]) :: n, fin _ _ _ _ _ ?_ ?_ ?_, by k_extra "back"⟩
    · split <;> omega
    · exact Int.fmod_nonneg_of_pos _ (by decide)
    · exact Int.fmod_lt_of_pos _ (by decide)
example : True := by
  k_with "call" => first
    | ((with_reducible show Mine.W _ _ _ (call (Value.ref 72) [Value.int _ _] _) _ _); refine put32_is (Cok.le (by assumption) (by decide)) ?_; intro _)
    | fail "none"
  k_with "op" => first
    | ((with_reducible refine B_add ?_ ?_); (focus (simp only [List.length_append, List.length_map, List.length_cons, List.length_nil, be32_len]; omega)); intro _)
    | fail "none"
  trivial
noncomputable def storedB (most : Nat) (bs : List UInt8) : List UInt8 := 120 :: 1 :: blks most bs.length bs ++ be32 (sumB bs)
theorem blks_len (most : Nat) : ∀ k (p : List UInt8), (blks most k p).length ≤ 5 * (k + 1) + p.length := by
  intro k
  induction k with
  | zero => intro p; show (blk true p).length ≤ _; rw [blk_len]; omega
  | succ k ih =>
    intro p
    unfold blks
    split
    · rw [blk_len]; omega
    · rw [List.length_append, blk_len]
      have := ih (p.drop most)
      simp only [List.length_take, List.length_drop] at *
      omega
theorem storedB_len (most : Nat) (bs : List UInt8) : (storedB most bs).length ≤ 6 * bs.length + 11 := by
  have := blks_len most bs.length bs
  unfold storedB
  simp only [List.length_append, List.length_cons, be32_len]
  omega
noncomputable def nIHDR : List UInt8 := [73, 72, 68, 82]
noncomputable def nIDAT : List UInt8 := [73, 68, 65, 84]
noncomputable def nIEND : List UInt8 := [73, 69, 78, 68]
noncomputable def ihdrB (w : Nat) : List UInt8 := be32 w ++ be32 1 ++ [8, 6, 0, 0, 0]
noncomputable def flatB (px : List Px) : List UInt8 := 0 :: px.flatMap pxB
theorem flatB_len (px : List Px) : (flatB px).length = 4 * px.length + 1 := by
  unfold flatB
  rw [List.length_cons]
  congr 1
  induction px with
  | nil => rfl
  | cons p r ih => rw [List.flatMap_cons, List.length_append, ih]; simp [pxB]; omega
noncomputable def pngB (most : Nat) (px : List Px) : List UInt8 := [137, 80, 78, 71, 13, 10, 26, 10] ++ chunkB nIHDR (ihdrB px.length) ++ chunkB nIDAT (storedB most (flatB px)) ++ chunkB nIEND []
theorem chunkB_len (nb os : List UInt8) : (chunkB nb os).length = nb.length + os.length + 8 := by unfold chunkB; simp only [List.length_append, be32_len]; omega
set_option maxHeartbeats 2000000 in
theorem write_png_is {c : Cx} {l : Loc} {n : Led} {E : Value → Shared → Prop} {Q : Value → Loc → Led → Prop} {cv : Addr} {px : List Px} {most : Nat} {t u : Tok} (V : Cok (hd.heap_1 c.w.params) c 5) (C : Cv n cv px) (ok : ∀ p ∈ px, pxOk p) (hz : px.length ≤ 100) (h0 : 1 ≤ most) (h1 : most ≤ 65535)
    (q : ∀ t, Q (.bytes (pngB most px).toArray t) l n) : Mine.V c l n (call (.ref 279) [.ref cv, .int 0 t, .int most u]) Q E := by
  refine' V_def (K := hd.heap_1 c.w.params) (d := 4) (binds := [(Str.ofString "canvas", .ref cv), (Str.ofString "kind", .int 0 t), (Str.ofString "most", .int most u)]) V ?ho ?hcd ?hb ?hl ?hn ?H ?hc ?h1 ?h2 ?h3
  k_extra "def"
  intro L F V' wf hlt
  have C' : Cv ((c.L, F) :: n) cv px := C.mono fun x hx => List.mem_cons_of_mem _ hx
  have hI := C.hI
  have hA := C.hA
  unfold cvA at hA
  k_extra "vgo"
  refine' B_make (ns := [8, 6, 0, 0, 0]) V'.hh (.list List.mem_cons_self) ?i ?r ?z ?q
  case i => k_extra "ints"
  case r => decide
  case z => rw [sizeLine_eq]; show 5 ≤ _; decide
  intro t1
  k_extra "vgo"
  refine rows_is (V'.le (by decide)) (C'.mono fun x hx => by simp at hx; simp [hx]) hz fun rs ra => ?_
  k_extra "vgo"
  refine filtered_rows_is (ra := ra) (vs := C'.vs) (V'.le (by decide)) List.mem_cons_self (List.mem_cons_of_mem _ List.mem_cons_self) (C'.cols.mono fun x hx => List.mem_cons_of_mem _ (List.mem_cons_of_mem _ (List.mem_cons_of_mem _ hx))) ok (by omega) fun t2 => ?_
  k_extra "vgo"
  refine stored_is (V'.le (by decide)) h0 h1 (by have := flatB_len px; unfold flatB at this; omega) fun t3 => ?_
  k_extra "vgo"
  have hL : (120 :: 1 :: (blks most (0 :: List.flatMap pxB px).length (0 :: List.flatMap pxB px) ++ be32 (Builtin.bitOr ((adlPair (0 :: List.flatMap pxB px)).snd * 2 ^ 16) (adlPair (0 :: List.flatMap pxB px)).fst))).length ≤ 6 * (4 * px.length + 1) + 11 := by
    rw [← flatB_len px]; exact storedB_len most (flatB px)
  refine chunk_is (nb := nIHDR) (V'.le (by decide)) rfl (by decide +kernel) (by simp [nIHDR, be32_len]) fun t4 => ?_
  refine B_add (x := [137, 80, 78, 71, 13, 10, 26, 10]) (by rw [chunkB_len]; simp [nIHDR, be32_len]) fun t5 => ?_
  k_extra "vgo"
  refine chunk_is (nb := nIDAT) (V'.le (by decide)) rfl (by decide +kernel) (by show 4 + _ ≤ _; omega) fun t6 => ?_
  refine B_add ?_ fun t7 => ?_
  · simp only [List.length_append, chunkB_len, nIHDR, nIDAT, be32_len, List.length_map, List.length_cons, List.length_nil] at hL ⊢
    omega
  k_extra "vgo"
  refine chunk_is (nb := nIEND) (os := []) (V'.le (by decide)) rfl (by decide +kernel) (by simp [nIEND]) fun t8 => ?_
  refine B_add ?_ fun t9 => ?_
  · simp only [List.length_append, chunkB_len, nIHDR, nIDAT, nIEND, be32_len, List.length_map, List.length_cons, List.length_nil] at hL ⊢
    omega
  k_extra "vgo"
  exact ⟨_, q _, by k_extra "back"⟩
theorem Flown.mono {c : Cx} {C : Addr} {R R' : Loc → Led → Prop} (h : ∀ l n, R l n → R' l n) {ev : Value} {s : Shared} (x : Flown c C R ev s) : Flown c C R' ev s := by
  obtain ⟨e, a0, fr, Ls, h₀, hp, tk, l, n, a, b, d, S, r, t⟩ := x
  exact ⟨e, a0, fr, Ls, h₀, hp, tk, l, n, a, b, d, S, h _ _ r, t⟩
set_option maxHeartbeats 2000000 in
theorem write_png_raises {c : Cx} {l : Loc} {n : Led} {Q : Value → Loc → Led → Prop} {cv : Addr} {px : List Px} {most : Int} {t u : Tok} (V : Cok (hd.heap_1 c.w.params) c 8) (hh : Held c n) (C : Cv n cv px) (ok : ∀ p ∈ px, pxOk p) (hz : px.length ≤ 100) (hm : most < 1 ∨ 65535 < most) :
    Mine.V c l n (call (.ref 279) [.ref cv, .int 0 t, .int most u]) Q (Flown c 63 fun l1 n1 => l1 = l ∧ n1 = n) := by
  refine' V_defX (C := 63) (R := fun n1 => n1 = n) (K := hd.heap_1 c.w.params) (d := 7) (binds := [(Str.ofString "canvas", .ref cv), (Str.ofString "kind", .int 0 t), (Str.ofString "most", .int most u)]) (lb := [(Str.ofString "canvas", .ref cv), (Str.ofString "kind", .int 0 t), (Str.ofString "most", .int most u)]) (cs := fun L => []) V ?ho ?hcd ?hb ?hk ?hn ?hlb ?hcn ?hcs ?hc2 ?hln ?H ?h1 ?h2 ?h3
  k_extra "defc"
  intro L F V' wf hlt
  show Mine.V _ _ ((c.L, F) :: n) _ _ _
  have C' : Cv ((c.L, F) :: n) cv px := C.mono fun x hx => List.mem_cons_of_mem _ hx
  have hI := C.hI
  have hA := C.hA
  unfold cvA at hA
  have hH : ∀ (env : Env) (n' : Led), env.frame = some L → env.scope.kind = .function → (∀ p ∈ (c.L, F) :: n, p ∈ n') → Held (c.sub env L) n' := fun env n' a b hs => hh.call a b wf (hs _ List.mem_cons_self) fun p hp => hs _ (List.mem_cons_of_mem _ hp)
  k_extra "vgo"
  refine' B_make (ns := [8, 6, 0, 0, 0]) V'.hh (.list List.mem_cons_self) ?i ?r ?z ?q
  case i => k_extra "ints"
  case r => decide
  case z => rw [sizeLine_eq]; show 5 ≤ _; decide
  intro t1
  k_extra "vgo"
  refine rows_is (V'.le (by decide)) (C'.mono fun x hx => by simp at hx; simp [hx]) hz fun rs ra => ?_
  k_extra "vgo"
  refine filtered_rows_is (ra := ra) (vs := C'.vs) (V'.le (by decide)) List.mem_cons_self (List.mem_cons_of_mem _ List.mem_cons_self) (C'.cols.mono fun x hx => List.mem_cons_of_mem _ (List.mem_cons_of_mem _ (List.mem_cons_of_mem _ hx))) ok (by omega) fun t2 => ?_
  k_extra "vgo"
  refine (stored_raises (V'.le (by decide)) (hH _ _ rfl rfl fun p hp => ?_) hm).monoE fun ev s x => .inr (x.mono fun l1 n1 y => ?_)
  · exact List.mem_cons_of_mem _ (List.mem_cons_of_mem _ (List.mem_cons_of_mem _ hp))
  · obtain ⟨_, rfl⟩ := y
    refine ⟨n, ?_, rfl⟩
    k_extra "has"
example : True := by
  k_with "call" => first
    | ((with_reducible show Mine.W _ _ _ (call (Value.ref 79) [Value.bytes _ _, Value.int _ _] _) _ _); refine get32_is (Cok.le (by assumption) (by decide)) ?_ ?_ ?_; (focus omega); (focus omega); intro _)
    | fail "none"
  trivial
example : True := by
  k_with "call" => first
    | ((with_reducible show Mine.W _ _ _ (call (Value.ref 94) [Value.bytes _ _] _) _ _); refine crc32_is (Cok.le (by assumption) (by decide)) ?_; intro _)
    | fail "none"
  trivial
theorem crcTurn_in {x : Int} (h : 0 ≤ x ∧ x < 2 ^ 32) : 0 ≤ crcTurn x ∧ crcTurn x < 2 ^ 32 := by
  have k : (2 : Int) ^ 32 = 4294967296 := by decide
  have hd : 0 ≤ x.fdiv (2 ^ 1) ∧ x.fdiv (2 ^ 1) < 2 ^ 32 := by
    rw [Int.fdiv_eq_ediv_of_nonneg _ (by decide), k]
    rw [k] at h
    have : (2 : Int) ^ 1 = 2 := rfl
    rw [this]; omega
  unfold crcTurn
  split
  · exact hd
  · exact xor_in 32 hd (by decide)
theorem crcK_in {x : Int} (h : 0 ≤ x ∧ x < 2 ^ 32) : ∀ k, 0 ≤ crcK k x ∧ crcK k x < 2 ^ 32
  | 0 => h
  | k + 1 => crcTurn_in (crcK_in h k)
theorem crcRow_in {i : Nat} (h : i < 16) : 0 ≤ crcRow i ∧ crcRow i < 2 ^ 32 := by
  refine crcK_in ⟨by omega, ?_⟩ 4
  have k : (2 : Int) ^ 32 = 4294967296 := by decide
  omega
theorem crcHalf_in {y : Int} (h : 0 ≤ y ∧ y < 2 ^ 32) : 0 ≤ Builtin.bitXor (crcRow (Builtin.bitAnd y 15).toNat) (y.fdiv (2 ^ 4)) ∧ Builtin.bitXor (crcRow (Builtin.bitAnd y 15).toNat) (y.fdiv (2 ^ 4)) < 2 ^ 32 := by
  have k : (2 : Int) ^ 32 = 4294967296 := by decide
  refine xor_in 32 (crcRow_in (by rw [mask4]; omega)) ?_
  rw [Int.fdiv_eq_ediv_of_nonneg _ (by decide), k]
  rw [k] at h
  have : (2 : Int) ^ 4 = 16 := rfl
  rw [this]; omega
theorem crcSt_in (bs : List UInt8) : 0 ≤ crcSt bs ∧ crcSt bs < 2 ^ 32 := by
  have key : ∀ (l : List UInt8) (x : Int), (0 ≤ x ∧ x < 2 ^ 32) → 0 ≤ l.foldl crcStep x ∧ l.foldl crcStep x < 2 ^ 32 := by
    intro l
    induction l with
    | nil => intro x h; exact h
    | cons o r ih =>
      intro x h
      rw [List.foldl_cons]
      refine ih _ ?_
      have ho : 0 ≤ (o.toNat : Int) ∧ (o.toNat : Int) < 2 ^ 32 := by
        have k : (2 : Int) ^ 32 = 4294967296 := by decide
        have := o.toNat_lt
        omega
      exact crcHalf_in (crcHalf_in (xor_in 32 h ho))
  exact key bs _ (xor_in 32 (by decide) (by decide))
theorem crcB_in (bs : List UInt8) : 0 ≤ crcB bs ∧ crcB bs < 2 ^ 32 := xor_in 32 (crcSt_in bs) (by decide)
/-- a chunk that is read: name, octets, its tuple -/
abbrev Ent := List UInt8 × List UInt8 × Addr × Tok × Tok
noncomputable def nameS (nb : List UInt8) : Str := ⟨(nb.map fun b => b.toNat).toArray⟩
noncomputable def ent (e : Ent) : Addr × Desc := (e.2.2.1, TUP [.str (nameS e.1) e.2.2.2.1, .bytes e.2.1.toArray e.2.2.2.2])
noncomputable def refs (rd : List Ent) : List Value := rd.reverse.map fun e => .ref e.2.2.1
theorem join4 (a b d e : Nat) : Txt.join (Str.ofString "") [⟨#[a]⟩, ⟨#[b]⟩, ⟨#[d]⟩, ⟨#[e]⟩] = ⟨#[a, b, d, e]⟩ := rfl
noncomputable def signB : List UInt8 := [137, 80, 78, 71, 13, 10, 26, 10]
noncomputable def chunksB (cs : List (List UInt8 × List UInt8)) : List UInt8 := cs.flatMap fun p => chunkB p.1 p.2
set_option maxHeartbeats 2000000 in
theorem read_chunks_is {c : Cx} {l : Loc} {n : Led} {E : Value → Shared → Prop} {Q : Value → Loc → Led → Prop} {z : List UInt8} {cs : List (List UInt8 × List UInt8)} {t : Tok} (V : Cok (hd.heap_1 c.w.params) c 3) (hz : z.length ≤ 1048576) (hzd : z = signB ++ chunksB cs) (h4 : ∀ p ∈ cs, p.1.length = 4) (h5 : cs.length ≤ 100)
    (q : ∀ fa (rd : List Ent), rd.reverse.map (fun e => (e.1, e.2.1)) = cs → Q (.ref fa) l ((fa, LST (refs rd)) :: (rd.map ent ++ n))) : W c l n (call (.ref 284) [.bytes z.toArray t]) Q E := by
  refine' W_def (K := hd.heap_1 c.w.params) (d := 2) (binds := [(Str.ofString "octets", .bytes z.toArray t)]) V ?ho ?hcd ?hb ?hl ?hn ?H ?hc ?h1 ?h2 ?h3
  k_extra "def"
  intro L F V' wf
  k_extra "go"
  k_extra "ex"
  rw [show List.take (Int.toNat 8) z = [137, 80, 78, 71, 13, 10, 26, 10] from by rw [hzd]; rfl]
  refine ite_no (by decide) ?_
  k_extra "go"
  k_extra "ex"
  rename_i fa _
  refine S_while (fun k l' n' => ∃ (rd : List Ent) (a : Nat) (t1 : Tok) (rest : List (List UInt8 × List UInt8)), k = rest.length ∧ rd.reverse.map (fun e => (e.1, e.2.1)) ++ rest = cs ∧ z.drop a = chunksB rest ∧ a ≤ z.length ∧
    l' = [(Str.ofString "octets", .bytes z.toArray t), (Str.ofString "at", .int a t1), (Str.ofString "found", .ref fa)] ∧ n' = (fa, LST (refs rd)) :: (rd.map ent ++ (c.L, F) :: n)) ?_ cs.length _ ((fa, LST []) :: (c.L, F) :: n)
    ⟨[], 8, _, cs, rfl, rfl, by rw [hzd]; rfl, by rw [hzd, List.length_append]; show 8 ≤ 8 + _; omega, rfl, rfl⟩ (by k_extra "sbl") (by k_extra "sbl")
  rintro k l' n' ⟨rd, a, t1, rest, rfl, hcs, hdr, hal, rfl, rfl⟩
  rcases rest with _ | ⟨⟨nb, os⟩, rest⟩
  · have hae : a = z.length := by
      have := congrArg List.length hdr
      rw [List.length_drop] at this
      have : z.length - a = 0 := this
      omega
    k_extra "go"
    k_extra "ex"
    rw [List.append_nil] at hcs
    exact Back.of_has (q fa rd hcs) (Has.pull (n₁ := (fa, LST (refs rd)) :: rd.map ent) (Has.refl _))
  · have hnb : nb.length = 4 := h4 (nb, os) (by rw [← hcs]; simp)
    have hdr : z.drop a = chunkB nb os ++ chunksB rest := hdr
    have hzl : z.length = a + (os.length + 12) + (chunksB rest).length := by
      have := congrArg List.length hdr
      rw [List.length_drop, List.length_append, chunkB_len] at this
      omega
    have hd1 : z.drop a = be32 (os.length : Int) ++ ((nb ++ os) ++ be32 (crcB (nb ++ os)) ++ chunksB rest) := by rw [hdr]; unfold chunkB; simp only [List.append_assoc]
    have hd2 : z.drop (a + 4) = (nb ++ os) ++ (be32 (crcB (nb ++ os)) ++ chunksB rest) := by
      rw [← List.drop_drop, hd1]
      show List.drop 4 (be32 (os.length : Int) ++ _) = _
      rw [List.drop_left' (be32_len _), List.append_assoc]
    have hd3 : z.drop (a + 8 + os.length) = be32 (crcB (nb ++ os)) ++ chunksB rest := by
      rw [show a + 8 + os.length = (a + 4) + (nb ++ os).length by rw [List.length_append, hnb]; omega, ← List.drop_drop, hd2, List.drop_left]
    have hd4 : z.drop (a + 12 + os.length) = chunksB rest := by
      rw [show a + 12 + os.length = (a + 8 + os.length) + 4 by omega, ← List.drop_drop, hd3, List.drop_left' (be32_len _)]
    have hk32 : (os.length : Int) < 2 ^ 32 := by
      have k : (2 : Int) ^ 32 = 4294967296 := by decide
      omega
    have g1 := get_be32 hd1 (by omega) hk32
    have g2 := get_be32 hd3 (crcB_in _).1 (crcB_in _).2
    have ht : List.take (((a : Int) + 8 + (os.length : Int)).toNat - ((a : Int) + 4).toNat) (List.drop ((a : Int) + 4).toNat z) = nb ++ os := by
      have e1 : ((a : Int) + 8 + (os.length : Int)).toNat - ((a : Int) + 4).toNat = (nb ++ os).length := by rw [List.length_append, hnb]; omega
      have e2 : ((a : Int) + 4).toNat = a + 4 := by omega
      rw [e1, e2, hd2, List.take_left]
    k_extra "go"
    k_extra "ex"
    rw [g1]
    k_extra "go"
    k_extra "ex"
    rw [ht]
    have hnl : (nb ++ os).length ≤ 16777216 := by rw [List.length_append]; omega
    refine ⟨_, _, _, _, rfl, rfl, by decide, hnl, fun t3 => ?_⟩
    k_extra "go"
    k_extra "ex"
    rw [show List.take (Int.toNat 4) (nb ++ os) = nb from List.take_left' hnb]
    refine I_bytes fun it => ⟨it, rfl, fun C acc F' wf' => ?_⟩
    refine RKp (R := fun i ys => ∃ ls : List (Str × Tok), ys = strValues ls ∧ ls.map (·.1) = (nb.take i).map fun b => ⟨#[b.toNat]⟩) (N := fun _ => True) (itr_bytes (V'.comp C).hh it nb _) (fun l n Q E q hm => SI_bytes hm q) (by rw [sizeLine_eq]; omega) ⟨[], rfl, rfl⟩ ?_ (fun _ => trivial) ?_ ?_
    · rintro i ys ⟨ls, rfl, h⟩
      have := congrArg List.length h
      simp only [List.length_map, List.length_take] at this
      simp only [strValues, List.length_map]
      omega
    · rintro i ys v d hi ⟨ls, rfl, h⟩ ⟨x, u2, hx, rfl⟩
      have V'' := V'.comp C
      have hx8 := x.toNat_lt
      k_extra "go"
      k_extra "ex"
      rename_i t3
      refine ⟨⟨ls ++ [(⟨#[x.toNat]⟩, t3)], ?_, ?_⟩, Has.refl _⟩
      · simp [strValues]
      · rw [List.take_add_one, hx, List.map_append, List.map_append, h]; rfl
    rintro ys n' ⟨ls, rfl, h⟩ hn'
    refine ⟨_, hn', ?_⟩
    rw [List.take_length] at h
    obtain ⟨b1, b2, b3, b4, rfl⟩ : ∃ b1 b2 b3 b4, nb = [b1, b2, b3, b4] := by
      rcases nb with _ | ⟨b1, _ | ⟨b2, _ | ⟨b3, _ | ⟨b4, _ | ⟨_, _⟩⟩⟩⟩⟩ <;> simp at hnb
      exact ⟨_, _, _, _, rfl⟩
    k_extra "go"
    refine J_join (.list List.mem_cons_self) (by rw [h]; rfl) fun t4 => ?_
    rw [h]
    k_extra "go"
    refine ⟨_, _, _, _, rfl, rfl, by decide, hnl, fun t5 => ?_⟩
    k_extra "go"
    k_extra "ex"
    rename_i ta
    obtain ⟨rd', hrd⟩ : ∃ rd' : List Ent, rd' = ([b1, b2, b3, b4], os, ta, t4, t5) :: rd := ⟨_, rfl⟩
    have hrf : refs rd' = refs rd ++ [.ref ta] := by rw [hrd]; simp [refs]
    have hrl : (refs rd).length ≤ 100 := by
      have := congrArg List.length hcs
      simp only [List.length_append, List.length_map] at this
      simp only [refs, List.length_map]
      omega
    refine L_append (.tail (.tail .head)) (by rw [sizeLine_eq]; omega) ⟨rfl, ?_⟩
    refine W.has (n' := (fa, LST (refs rd')) :: (rd'.map ent ++ (c.L, F) :: n)) ?_ ?_
    · rw [hrf, hrd]
      refine Has.pick (.tail (.tail .head)) ?_
      show Has _ ((ta, _) :: _)
      exact Has.pick .head (Has.drop _ (Has.refl _))
    k_extra "go"
    k_extra "ex"
    rw [show (a : Int) + 12 + (os.length : Int) = ((a + 12 + os.length : Nat) : Int) by omega]
    refine ⟨rest.length, [_, _, _], (fa, LST (refs rd')) :: (rd'.map ent ++ (c.L, F) :: n), by simp, ⟨rd', a + 12 + os.length, _, rest, rfl, ?_, hd4, by omega, rfl, rfl⟩, by k_extra "sbl", List.Sublist.refl _⟩
    rw [hrd, ← hcs]
    simp
example : True := by
  k_with_none
  k_with "ex" => skip
  k_with "mm" => first
    | exact List.mem_cons_self
    | (refine List.mem_cons_of_mem _ ?_; k_extra "mm")
    | fail "none"
  k_with "put" => first
    | with_reducible exact Put.hit
    | with_reducible exact Put.nil
    | ((with_reducible show Put _ _ (_ :: _) _); exact Put.skipS (by decide) (by k_extra "put"))
    | fail "none"
  k_with "lset" => first
    | exact LSet.head
    | ((with_reducible show LSet _ _ _ (_ :: _) _); exact LSet.tail (by k_extra "lset"))
    | fail "none"
  k_with "sbl" => first
    | exact List.Sublist.refl _
    | (refine List.Sublist.cons_cons _ ?_; k_extra "sbl")
    | (refine List.Sublist.cons _ ?_; k_extra "sbl")
    | exact List.nil_sublist _
    | fail "none"
  k_with "ints" => first
    | exact IntsAre.nil
    | (refine IntsAre.cons _ _ ?_; k_extra "ints")
    | fail "none"
  k_with "back" => first
    | exact ⟨_, List.perm_middle (l₁ := []), by k_extra "sbl"⟩
    | exact ⟨_, List.perm_middle (l₁ := [_]), by k_extra "sbl"⟩
    | exact ⟨_, List.perm_middle (l₁ := [_, _]), by k_extra "sbl"⟩
    | exact ⟨_, List.perm_middle (l₁ := [_, _, _]), by k_extra "sbl"⟩
    | exact ⟨_, List.perm_middle (l₁ := [_, _, _, _]), by k_extra "sbl"⟩
    | exact ⟨_, List.perm_middle (l₁ := [_, _, _, _, _]), by k_extra "sbl"⟩
    | exact ⟨_, List.perm_middle (l₁ := [_, _, _, _, _, _]), by k_extra "sbl"⟩
    | exact ⟨_, List.perm_middle (l₁ := [_, _, _, _, _, _, _]), by k_extra "sbl"⟩
    | fail "none"
  k_with "def" => (
    (case ho => k_is); (case hcd => k_is)
    (case hb => first | exact fun s X => BindsTo.of_eq rfl | exact fun s X => binds_K X rfl (by k_is) rfl rfl (by kernel_rfl))
    (case hl => exact locs (by rfl)); (case hn => (simp only [List.map_cons, List.map_nil]; decide)); (case hc => decide); (case h1 => rfl); (case h2 => rfl); (case h3 => rfl))
  k_with "stmt" => first
    | ((with_reducible show Mine.W _ _ _ (execs (Stmt.Assign [Expr.Name _ _] _ _ :: _) _) _ _); refine S_assign ?_)
    | ((with_reducible show Mine.W _ _ _ (execs (Stmt.If _ _ _ _ :: _) _) _ _); refine S_if ?_)
    | ((with_reducible show Mine.W _ _ _ (execs (Stmt.Return _ _ :: _) _) _ _); refine S_return ?_)
    | ((with_reducible show Mine.W _ _ _ (execs (Stmt.Expr _ _ :: _) _) _ _); refine S_expr ?_)
    | ((with_reducible show Mine.W _ _ _ (execs (Stmt.For _ _ _ _ _ :: _) _) _ _); refine S_for ?_)
    | with_reducible refine S_nil ?_
    | ((with_reducible show Mine.W _ _ _ (execs (Stmt.Assign [Expr.Attribute _ _ _] _ _ :: _) _) _ _); refine S_assignA ?_)
    | ((with_reducible show Mine.W _ _ _ (execs (Stmt.Assign [Expr.Subscript _ _ _] _ _ :: _) _) _ _); refine S_assignS ?_)
    | ((with_reducible show Mine.W _ _ _ (execs (Stmt.Assign [Expr.Tuple [_, _] _ _] (Expr.Tuple _ _ _) _ :: _) _) _ _); refine S_tup2 (Cok.hh (by assumption)) ?_ (by rfl))
    | ((with_reducible show Mine.W _ _ _ (execs (Stmt.Assign [Expr.Tuple [_, _, _] _ _] (Expr.Tuple _ _ _) _ :: _) _) _ _); refine S_tup3 (Cok.hh (by assumption)) ?_ (by rfl))
    | ((with_reducible show Mine.W _ _ _ (execs (Stmt.Assign [Expr.Tuple _ _ _] _ _ :: _) _) _ _); refine S_unpack ?_)
    | fail "none"
  k_with "name" => first
    | refine E_nameL (by with_reducible k_extra "mm") ⟨rfl, rfl, rfl⟩ (by rfl) ?_
    | refine E_nameG (K := Mine.hd.heap_1 _) (by assumption) rfl rfl (by rfl) (by k_is) ?_
    | (refine E_nameB (K := Mine.hd.heap_1 _) (by assumption) rfl rfl rfl (by rfl) (by k_is) (by first | boot_fast | boot_by_name) (by decide) ?_)
    | refine E_nameC rfl (by rfl) (by rfl) (by with_reducible k_extra "mm") ?_
    | refine E_nameF rfl (by rfl) (by rfl) (by with_reducible k_extra "mm") ?_
    | fail "none"
  k_with "expr" => first
    | ((with_reducible show Mine.W _ _ _ (eval (Expr.Name _ _) _) _ _); k_extra "name")
    | ((with_reducible show Mine.W _ _ _ (eval (Expr.Constant _ _ _) _) _ _); (first | (refine E_int ?_; intro _) | (refine E_str ?_; intro _) | refine E_bool ?_ | refine E_none ?_ | (refine E_bytes ?_; intro _)))
    | ((with_reducible show Mine.W _ _ _ (eval (Expr.BinOp _ _ _ _) _) _ _); refine E_bin ?_)
    | ((with_reducible show Mine.W _ _ _ (eval (Expr.Call (Expr.Attribute _ _ _) _ _ _) _) _ _); refine E_meth ?_)
    | ((with_reducible show Mine.W _ _ _ (eval (Expr.Call _ _ _ _) _) _ _); refine E_call ?_)
    | ((with_reducible show Mine.W _ _ _ (eval (Expr.Attribute _ _ _) _) _ _); refine E_attr ?_)
    | ((with_reducible show Mine.W _ _ _ (eval (Expr.Subscript _ (Expr.Slice _ _ _ _) _) _) _ _); k_extra "slice")
    | ((with_reducible show Mine.W _ _ _ (eval (Expr.Subscript _ _ _) _) _ _); refine E_sub ?_)
    | ((with_reducible show Mine.W _ _ _ (eval (Expr.Tuple _ _ _) _) _ _); refine E_tuple ?_)
    | ((with_reducible show Mine.W _ _ _ (eval (Expr.List _ _) _) _ _); refine E_list ?_)
    | ((with_reducible show Mine.W _ _ _ (eval (Expr.IfExp _ _ _ _) _) _ _); refine E_ife ?_)
    | ((with_reducible show Mine.W _ _ _ (eval (Expr.Compare _ _ _ _) _) _ _); refine E_cmp ?_)
    | ((with_reducible show Mine.W _ _ _ (eval (Expr.UnaryOp _ _ _) _) _ _); refine E_un ?_)
    | fail "none"
  k_with "slice" => first
    | ((with_reducible show Mine.W _ _ _ (eval (Expr.Subscript _ (Expr.Slice (some _) (some _) none _) _) _) _ _); refine E_slice ?_)
    | ((with_reducible show Mine.W _ _ _ (eval (Expr.Subscript _ (Expr.Slice none (some _) none _) _) _) _ _); refine E_sliceU ?_)
    | ((with_reducible show Mine.W _ _ _ (eval (Expr.Subscript _ (Expr.Slice (some _) none none _) _) _) _ _); refine E_sliceL ?_)
    | fail "none"
  k_with "test" => first
    | ((with_reducible show Mine.W _ _ _ (PySem.isTrue (Expr.Compare _ [_] _ _) _ _) _ _); refine T_cmp ?_)
    | ((with_reducible show Mine.W _ _ _ (PySem.isTrue (Expr.Compare _ _ _ _) _ _) _ _); refine T_chain ?_)
    | ((with_reducible show Mine.W _ _ _ (PySem.isTrue (Expr.UnaryOp UnaryOp.Not _ _) _ _) _ _); refine T_not ?_)
    | ((with_reducible show Mine.W _ _ _ (PySem.isTrue (Expr.BoolOp _ _ _) _ _) _ _); refine T_bool ?_)
    | refine T_val ?_
    | fail "none"
  k_with "op" => first
    | ((with_reducible refine O_add ?_); intro _)
    | ((with_reducible refine O_sub ?_); intro _)
    | ((with_reducible refine O_and ?_); intro _)
    | ((with_reducible refine O_or ?_); intro _)
    | ((with_reducible refine O_xor ?_); intro _)
    | ((with_reducible refine O_mod ?_ ?_); (focus first | decide | omega); intro _)
    | ((with_reducible refine O_mul ?_ ?_); rotate_left; (focus first | exact IntMulOk.of_left (by decide) | exact IntMulOk.of_right (by decide) | mul_fits); intro _)
    | ((with_reducible refine O_shl ?_ ?_ ?_ ?_); (focus first | decide | omega); (focus first | decide | omega); (focus first | exact u8_lt _ | omega); intro _)
    | ((with_reducible refine O_shr ?_ ?_); (focus first | decide | omega); intro _)
    | ((with_reducible refine B_add ?_ ?_); (focus first | decide | omega | (simp only [List.length_append, List.length_cons, List.length_nil]; omega)); intro _)
    | fail "none"
  k_with "cmp" => first
    | with_reducible refine O_eq ?_
    | with_reducible refine O_lt ?_
    | with_reducible refine O_le ?_
    | with_reducible refine O_gt ?_
    | with_reducible refine O_ge ?_
    | with_reducible refine O_ne ?_
    | with_reducible refine B_ne ?_
    | with_reducible refine O_isNone ?_
    | fail "none"
  k_with "callw" => first
    | refine C_def (K := Mine.hd.heap_1 _) (d := _) (by assumption) (by k_is) ?_
    | refine C_def0 (K := Mine.hd.heap_1 _) (d := _) (by assumption) (by k_is) ?_
    | fail "none"
  k_with "call" => first
    | ((with_reducible show Mine.W _ _ _ (call _ (_ ++ _) _) _ _); dsimp only [List.nil_append, List.cons_append])
    | ((with_reducible refine B_len ?_ ?_); (focus first | decide | omega); intro _)
    | ((with_reducible refine C_range1 ?_); intro _)
    | ((with_reducible show Mine.W _ _ _ (call (Value.type _) [Value.ref _] _) _ _); refine B_ofBA (by with_reducible k_extra "mm") (by (rw [sizeLine_eq]; (try simp only [List.length_append, List.length_map, List.length_cons, List.length_nil, List.length_take]); omega)) ?_; intro _)
    | fail "none"
  k_with "w" => first
    | ((with_reducible show Mine.W _ _ _ (storeName _ _ _) _ _); k_extra "store")
    | ((with_reducible show Mine.W _ _ _ (PySem.isTrue _ _ _) _ _); k_extra "test")
    | ((with_reducible show Mine.W _ _ _ (spliced _) _ _); (first | refine L_nil ?_ | refine L_cons ?_))
    | ((with_reducible show Mine.W _ _ _ (callWith _ (Value.ref _) _ _ _) _ _); k_extra "callw")
    | ((with_reducible show Mine.W _ _ _ (callWith _ _ _ _ _) _ _); (with_reducible first | refine C_type ?_ | refine C_bi ?_))
    | ((with_reducible show Mine.W _ _ _ (call _ _ _) _ _); k_extra "call")
    | ((with_reducible show Mine.W _ _ _ (binaryOp _ _ _) _ _); k_extra "op")
    | ((with_reducible show Mine.W _ _ _ (compareOp _ _ _) _ _); k_extra "cmp")
    | ((with_reducible show Mine.W _ _ _ (truthy _) _ _); (with_reducible refine T_b ?_))
    | ((with_reducible show Mine.W _ _ _ (assign _ _ _) _ _); (with_reducible first | refine A_name ?_ | refine A_tuple (Cok.hh (by assumption)) (.tup List.mem_cons_self) ?_))
    | ((with_reducible refine N_list ?_ ?_); (focus first | decide | size_fits); intro _)
    | ((with_reducible refine N_tuple ?_ ?_); (focus first | decide | size_fits); intro _)
    | ((with_reducible show Mine.W _ _ _ (assignInOrder _ _) _ _); (with_reducible first | refine IO_cons ?_ | refine IO_done ?_))
    | ((with_reducible show Mine.W _ _ _ (allTrue _ _ _) _ _); (with_reducible first | refine T_orN ?_ | refine T_or ?_))
    | ((with_reducible show Mine.W _ _ _ (testChain _ _ _ _) _ _); (first | refine TC_last ?_ | refine TC_cons ?_))
    | ((with_reducible show Mine.W _ _ _ (getMethod _ _ _) _ _); k_extra "meth")
    | ((with_reducible show Mine.W _ _ _ (subscriptTail _ _ _ _) _ _); (with_reducible refine B_item ?_ ?_ ?_ ?_); (focus omega); (focus omega); (focus omega); intro _)
    | fail "none"
  k_with "store" => first
    | refine W_store ⟨rfl, rfl, rfl⟩ (by rfl) (by k_extra "put") ?_
    | fail "none"
  k_with "meth" => first
    | (refine G_list (by with_reducible k_extra "mm") (by first | with_reducible exact slot_list_append) (by first | with_reducible exact type_list_append) ?_)
    | (refine G_ba (by with_reducible k_extra "mm") (by first | with_reducible exact By.sl_extend | with_reducible exact By.sl_append) (by first | with_reducible exact By.ty_extend | with_reducible exact By.ty_append) ?_)
    | fail "none"
  k_with "p" => first
    | ((with_reducible show (if _ = true then _ else _)); k_extra "ite")
    | (with_reducible first | refine Cont_next ?_ | refine Cont_ret ?_)
    | (refine ⟨_, _, _, _, _, _, rfl, rfl, rfl, ?_, ?_, ?_, ?_⟩; (focus omega); (focus omega); (focus omega); intro _)
    | (refine ⟨_, _, _, _, rfl, rfl, ?_, ?_, ?_⟩; (focus omega); (focus omega); intro _)
    | ((with_reducible show _ = Value.none ∧ _); refine ⟨rfl, ?_⟩)
    | ((with_reducible show ∃ a b, [_, _] = [a, b] ∧ _); refine ⟨_, _, rfl, ?_⟩)
    | ((with_reducible show ∃ a b d, [_, _, _] = [a, b, d] ∧ _); refine ⟨_, _, _, rfl, ?_⟩)
    | fail "none"
  k_with "ite" => first
    | ((with_reducible refine ite_no ?_ ?_); (focus first | decide | exact decide_eq_false (by omega) | exact not_dec (by omega) | exact beq_ne (by omega)))
    | ((with_reducible refine ite_yes ?_ ?_); (focus first | decide | exact decide_eq_true (by omega) | exact not_decT (by omega) | exact beq_eq (by omega)))
    | fail "none"
  k_with "ms" => first
    | ((with_reducible show Mine.W _ _ _ (eval _ _) _ _); k_extra "expr")
    | ((with_reducible show Mine.W _ _ _ (execs _ _) _ _); k_extra "stmt")
    | ((with_reducible show Mine.W _ _ _ _ _ _); k_extra "w")
    | k_extra "p"
    | fail "none"
  k_with "go" => repeat' (k_extra "ms")
  k_with "vstmt" => first
    | ((with_reducible show Mine.V _ _ _ (execs (Stmt.Assign [Expr.Name _ _] _ _ :: _) _) _ _); refine VS_assign ?_)
    | ((with_reducible show Mine.V _ _ _ (execs (Stmt.If _ _ _ _ :: _) _) _ _); refine VS_if ?_)
    | ((with_reducible show Mine.V _ _ _ (execs (Stmt.Return _ _ :: _) _) _ _); refine VS_return ?_)
    | ((with_reducible show Mine.V _ _ _ (execs (Stmt.Expr _ _ :: _) _) _ _); refine VS_expr ?_)
    | ((with_reducible show Mine.V _ _ _ (execs (Stmt.For _ _ _ _ _ :: _) _) _ _); refine VS_for ?_)
    | with_reducible refine VS_nil ?_
    | ((with_reducible show Mine.V _ _ _ (execs (Stmt.Assign [Expr.Tuple [_, _] _ _] (Expr.Tuple _ _ _) _ :: _) _) _ _); refine VS_tup2 (Cok.hh (by assumption)) ?_ (by rfl))
    | ((with_reducible show Mine.V _ _ _ (execs (Stmt.Assign [Expr.Tuple [_, _, _] _ _] (Expr.Tuple _ _ _) _ :: _) _) _ _); refine VS_tup3 (Cok.hh (by assumption)) ?_ (by rfl))
    | fail "none"
  k_with "v" => first
    | ((with_reducible refine BA_new (Cok.guards (by assumption)) ?_); intro _)
    | ((with_reducible show Mine.V _ _ _ (eval (Expr.Call (Expr.Attribute _ _ _) _ _ _) _) _ _); refine VE_meth ?_)
    | ((with_reducible show Mine.V _ _ _ (eval (Expr.Call _ _ _ _) _) _ _); refine VE_call ?_)
    | ((with_reducible show Mine.V _ _ _ (eval _ _) _ _); refine V_of ?_)
    | ((with_reducible show Mine.V _ _ _ (storeName _ _ _) _ _); refine V_of ?_)
    | ((with_reducible show Mine.V _ _ _ (PySem.isTrue _ _ _) _ _); refine V_of ?_)
    | ((with_reducible show Mine.V _ _ _ (spliced _) _ _); (first | refine VL_nil ?_ | refine VL_cons ?_))
    | ((with_reducible show Mine.V _ _ _ (callWith _ (Value.type _) _ _ _) _ _); (first | refine VC_type ?_ | refine VC_type0 ?_))
    | ((with_reducible show Mine.V _ _ _ (callWith _ (Value.builtin _) _ _ _) _ _); refine VC_bi ?_)
    | ((with_reducible show Mine.V _ _ _ (callWith _ (Value.ref _) _ _ _) _ _); refine VC_def (K := Mine.hd.heap_1 _) (d := _) (by assumption) (by k_is) ?_)
    | ((with_reducible show Mine.V _ _ _ (call _ (_ ++ _) _) _ _); dsimp only [List.nil_append, List.cons_append])
    | ((with_reducible show Mine.V _ _ _ (call (Value.builtin "len") [Value.bytes _ _] _) _ _); refine V_of ?_)
    | ((with_reducible show Mine.V _ _ _ (call (Value.type "bytes") _ _) _ _); refine V_of ?_)
    | fail "none"
  k_with "vs" => first
    | ((with_reducible show Mine.V _ _ _ (execs _ _) _ _); k_extra "vstmt")
    | ((with_reducible show Mine.V _ _ _ _ _ _); k_extra "v")
    | (with_reducible first | refine ContV_next ?_ | refine ContV_ret ?_)
    | k_extra "ms"
    | fail "none"
  k_with "vgo" => repeat' (k_extra "vs")
  trivial
example : True := by
  k_with "defc" => (
    (case ho => k_is); (case hcd => k_is)
    (case hb => first | exact fun s X => BindsTo.of_eq rfl | exact fun s X => binds_K X rfl (by k_is) rfl rfl (by kernel_rfl))
    (case hk => exact rfl); (case hn => (simp only [List.map_cons, List.map_nil]; decide)); (case hlb => rfl); (case hcn => decide); (case hcs => (intro L; rfl)); (case hc2 => (intro L; first | (simp; done) | (simp; exact fun e => absurd e (Nat.ne_of_gt (Nat.lt_of_lt_of_le (Nat.lt_succ_self _) (Nat.le_succ _)))))); (case hln => (simp only [List.map_cons, List.map_nil]; decide)); (case h1 => rfl); (case h2 => rfl); (case h3 => rfl))
  k_with "mm" => first
    | (with_reducible refine List.mem_append_right _ ?_; k_extra "mm")
    | with_reducible assumption
    | fail "none"
  k_with "pick" => first
    | with_reducible exact Pick.head
    | ((with_reducible show Pick _ (_ :: _) _); exact Pick.tail (by k_extra "pick"))
    | fail "none"
  k_with "has" => first
    | exact Has.refl _
    | ((with_reducible show Has _ (_ :: _)); exact Has.pick (by k_extra "pick") (by k_extra "has"))
    | (refine Has.of_sub ?_; k_extra "sbl")
    | fail "none"
  k_with "lk" => first
    | with_reducible exact lk_hit
    | exact rfl
    | (refine lk_skip (by decide) ?_; k_extra "lk")
    | fail "none"
  k_with "store" => first
    | (refine W_storeC ⟨rfl, rfl, rfl⟩ (by rfl) (by rfl) (by k_extra "lset") ?_)
    | fail "none"
  k_with "expr" => first
    | ((with_reducible show Mine.W _ _ _ (eval (Expr.ListComp _ [_] _ _) _) _ _); refine E_compK (CompNew.plain rfl (by decide)) ?_ rfl)
    | ((with_reducible show Mine.W _ _ _ (eval (Expr.BoolOp _ [_] _) _) _ _); refine E_one ?_)
    | ((with_reducible show Mine.W _ _ _ (eval (Expr.BoolOp _ _ _) _) _ _); refine E_and ?_)
    | ((with_reducible show Mine.W _ _ _ (eval (Expr.Compare _ (_ :: _ :: _) _ _) _) _ _); refine E_chain ?_)
    | fail "none"
  k_with "stmt" => first
    | ((with_reducible show Mine.W _ _ _ (execs (Stmt.Assign [Expr.Name _ _] (Expr.ListComp _ [_] _ _) _ :: _) _) _ _); refine S_assignC rfl (CompNew.plain rfl (by decide)) ?_ rfl)
    | fail "none"
  k_with "slice" => first
    | ((with_reducible show Mine.W _ _ _ (eval (Expr.Subscript _ (Expr.Slice (some _) none none _) _) _) _ _); refine E_sliceLx ?_)
    | fail "none"
  k_with "op" => first
    | ((with_reducible refine O_div ?_ ?_ ?_); (focus first | decide | omega); (focus exact PyProof.noPylong_small (by first | decide | omega)); intro _)
    | fail "none"
  k_with "call" => first
    | ((with_reducible refine O_min (Cok.hh (by assumption)) ?_); intro _)
    | ((with_reducible refine O_max (Cok.hh (by assumption)) ?_); intro _)
    | ((with_reducible refine F_chr ?_ ?_ ?_); (focus omega); (focus omega); intro _)
    | with_reducible refine B_ofBytes ?_
    | fail "none"
  k_with "w" => first
    | ((with_reducible show Mine.W _ _ _ (compareChain _ _ _ _) _ _); (first | refine CC_last ?_ | refine CC_link ?_))
    | ((with_reducible show Mine.W _ _ _ (getAttr (Value.ref _) _ _) _ _); (refine GA_own (K := Mine.hd.heap_1 _) (d := _) (by assumption) (by first | assumption | with_reducible k_extra "mm") (by first | assumption | with_reducible k_extra "mm") (by k_extra "lk") (by k_is) (by k_is) (by k_is) (by k_is) (by rfl) ?_))
    | ((with_reducible show Mine.W _ _ _ (setAttr (Value.ref _) _ _) _ _); (refine SA_dict (K := Mine.hd.heap_1 _) (d := _) (by assumption) (by first | assumption | with_reducible k_extra "mm") (by k_extra "lset") (by k_extra "put") (Nat.le_of_ble_eq_true rfl) (by k_is) (by k_is) (by k_is) (by k_is) ?_))
    | ((with_reducible show Mine.W _ _ _ (unaryOp _ _) _ _); (with_reducible refine O_neg ?_); intro _)
    | fail "none"
  k_with "meth" => first
    | with_reducible refine G_join ?_
    | (refine GM_inst (K := Mine.hd.heap_1 _) (d := _) (by assumption) (by first | assumption | with_reducible k_extra "mm") (by first | assumption | with_reducible k_extra "mm") (by k_extra "lk") (by k_is) (by k_is) (by k_is) ?_)
    | fail "none"
  k_with "p" => first
    | ((with_reducible show ∃ n4, _ :: _ = _ :: n4 ∧ _); refine ⟨_, rfl, ?_⟩)
    | fail "none"
  k_with "v" => first
    | ((with_reducible show Mine.V _ _ _ (eval (Expr.Tuple _ _ _) _) _ _); refine VE_tuple ?_)
    | ((with_reducible show Mine.V _ _ _ (callWith _ (Value.ref _) _ (backTo _ (starEach [] _)) _) _ _); refine V_of ?_)
    | fail "none"
  k_with "call" => first
    | with_reducible refine O_int ?_
    | ((with_reducible refine O_intB ?_); intro _)
    | fail "none"
  k_with "cmp" => first
    | with_reducible refine O_neS ?_
    | with_reducible refine O_eqS ?_
    | fail "none"
  trivial
set_option maxHeartbeats 2000000 in
theorem check_chunks_is {c : Cx} {l : Loc} {n : Led} {E : Value → Shared → Prop} {Q : Value → Loc → Led → Prop} {fa a1 a2 a3 : Addr} {b1 b2 b3 : List UInt8} {t1 t2 t3 u1 u2 u3 : Tok} (V : Cok (hd.heap_1 c.w.params) c 2) (hF : (fa, LST [.ref a1, .ref a2, .ref a3]) ∈ n)
    (h1 : (a1, TUP [.str (nameS nIHDR) t1, .bytes b1.toArray u1]) ∈ n) (h2 : (a2, TUP [.str (nameS nIDAT) t2, .bytes b2.toArray u2]) ∈ n) (h3 : (a3, TUP [.str (nameS nIEND) t3, .bytes b3.toArray u3]) ∈ n) (hl : b1.length = 13) (hd8 : b1.drop 8 = [8, 6, 0, 0, 0])
    (hu : c.A.units + 100 < cLine) (q : Q .none l n) : W c l n (call (.ref 289) [.ref fa]) Q E := by
  refine' W_def (K := hd.heap_1 c.w.params) (d := 1) (binds := [(Str.ofString "chunks", .ref fa)]) V ?ho ?hcd ?hb ?hl ?hn ?H ?hc ?h1 ?h2 ?h3
  k_extra "def"
  intro L F V' wf
  k_extra "go"
  refine I_list (vs := [.ref a1, .ref a2, .ref a3]) (.list (by k_extra "mm")) fun it hne => ⟨it, rfl, fun C acc F' wf' => ?_⟩
  refine RKp (R := fun i ys => ys = [.str (nameS nIHDR) t1, .str (nameS nIDAT) t2, .str (nameS nIEND) t3].take i) (itr_list (V'.comp C).hh it fa [.ref a1, .ref a2, .ref a3]) (fun l n Q E q hm => SI_list hm q) (by rw [sizeLine_eq]; show 3 ≤ _; decide) rfl (fun i ys h => by rw [h]; exact List.length_take_le ..) (fun ys => ⟨.list (by k_extra "mm"), hne⟩) ?_ ?_ ?_
  · rintro i ys v d hi rfl hv
    have V'' := V'.comp C
    have hi : i < 3 := hi
    have : i = 0 ∨ i = 1 ∨ i = 2 := by omega
    rcases this with rfl | rfl | rfl
    · obtain rfl : v = .ref a1 := by simpa using hv.symm
      refine A_tuple V''.hh (.tup (by k_extra "mm") : Knows _ _ (IsTup · a1 [.str (nameS nIHDR) t1, .bytes b1.toArray u1].toArray)) ?_
      k_extra "go"
      exact ⟨rfl, Has.refl _⟩
    · obtain rfl : v = .ref a2 := by simpa using hv.symm
      refine A_tuple V''.hh (.tup (by k_extra "mm") : Knows _ _ (IsTup · a2 [.str (nameS nIDAT) t2, .bytes b2.toArray u2].toArray)) ?_
      k_extra "go"
      exact ⟨rfl, Has.refl _⟩
    · obtain rfl : v = .ref a3 := by simpa using hv.symm
      refine A_tuple V''.hh (.tup (by k_extra "mm") : Knows _ _ (IsTup · a3 [.str (nameS nIEND) t3, .bytes b3.toArray u3].toArray)) ?_
      k_extra "go"
      exact ⟨rfl, Has.refl _⟩
  · rintro ys n' h hn'
    obtain rfl : ys = [.str (nameS nIHDR) t1, .str (nameS nIDAT) t2, .str (nameS nIEND) t3] := h
    refine ⟨_, hn', fun p => ?_⟩
    have hSA : StrsAre [.str (nameS nIHDR) t1, .str (nameS nIDAT) t2, .str (nameS nIEND) t3] [nameS nIHDR, nameS nIDAT, nameS nIEND] := .cons _ _ (.cons _ _ (.cons _ _ .nil))
    k_extra "go"
    refine O_nilL (vs := [.str (nameS nIHDR) t1, .str (nameS nIDAT) t2, .str (nameS nIEND) t3]) (by show c.A.units + 3 < _; omega) (.list (by k_extra "mm")) (.list (by k_extra "mm")) (by simp) ?_
    k_extra "go"
    refine L_item (v := .str (nameS nIHDR) t1) (.list (by k_extra "mm")) (by decide) (by decide) rfl ?_
    k_extra "go"
    refine L_neg (j := 2) (v := .str (nameS nIEND) t3) (.list (by k_extra "mm")) (by decide) (by decide) rfl rfl ?_
    k_extra "go"
    refine O_notInS (.list (by k_extra "mm")) hSA ?_
    k_extra "go"
    refine G_list (vs := [.str (nameS nIHDR) t1, .str (nameS nIDAT) t2, .str (nameS nIEND) t3]) (by k_extra "mm") PySem.F.slot_list_count PySem.F.type_list_count ?_
    k_extra "go"
    refine J_count (.list (by k_extra "mm")) hSA fun t4 => ?_
    k_extra "go"
    refine G_list (vs := [.str (nameS nIHDR) t1, .str (nameS nIDAT) t2, .str (nameS nIEND) t3]) (by k_extra "mm") PySem.F.slot_list_count PySem.F.type_list_count ?_
    k_extra "go"
    refine J_count (.list (by k_extra "mm")) hSA fun t5 => ?_
    k_extra "go"
    refine L_item (v := .ref a1) (.list (by k_extra "mm") : Knows _ _ (·.IsList fa [Value.ref a1, .ref a2, .ref a3].toArray)) (by decide) (by decide) rfl ?_
    k_extra "go"
    refine T_itemL (.tup (by k_extra "mm") : Knows _ _ (IsTup · a1 [.str (nameS nIHDR) t1, .bytes b1.toArray u1].toArray)) (by decide) (by decide) rfl ?_
    k_extra "go"
    refine L_item (v := .ref a1) (.list (by k_extra "mm") : Knows _ _ (·.IsList fa [Value.ref a1, .ref a2, .ref a3].toArray)) (by decide) (by decide) rfl ?_
    k_extra "go"
    refine T_itemL (.tup (by k_extra "mm") : Knows _ _ (IsTup · a1 [.str (nameS nIHDR) t1, .bytes b1.toArray u1].toArray)) (by decide) (by decide) rfl ?_
    k_extra "go"
    k_extra "ex"
    rw [show List.drop (Int.toNat 8) b1 = [8, 6, 0, 0, 0] from hd8]
    refine' B_make (ns := [8, 6, 0, 0, 0]) V'.hh (.list List.mem_cons_self) ?i ?r ?z ?q
    case i => k_extra "ints"
    case r => decide
    case z => rw [sizeLine_eq]; show 5 ≤ _; decide
    intro t6
    k_extra "go"
    exact Back.of_has q (by k_extra "has")
  · intro i l n v Q E hv q
    have hi : i < 3 := (List.getElem?_eq_some_iff.mp hv).1
    have : i = 0 ∨ i = 1 ∨ i = 2 := by omega
    rcases this with rfl | rfl | rfl <;> (simp at hv; subst hv; exact GO_list q)
example : True := by
  k_with "ite" => first
    | ((with_reducible refine ite_no (bne_no ?_) ?_); (focus omega))
    | ((with_reducible refine ite_yes (bne_yes ?_) ?_); (focus omega))
    | fail "none"
  k_with "v" => first
    | ((with_reducible show Mine.V _ _ _ (call (Value.ref 72) _ _) _ _); refine V_of ?_)
    | ((with_reducible show Mine.V _ _ _ (call (Value.ref 79) _ _) _ _); refine V_of ?_)
    | ((with_reducible show Mine.V _ _ _ (call (Value.ref 94) _ _) _ _); refine V_of ?_)
    | ((with_reducible show Mine.V _ _ _ (call (Value.ref 102) _ _) _ _); refine V_of ?_)
    | ((with_reducible show Mine.V _ _ _ (call (Value.ref 117) _ _) _ _); refine V_of ?_)
    | ((with_reducible show Mine.V _ _ _ (call (Value.ref 215) _ _) _ _); refine V_of ?_)
    | ((with_reducible show Mine.V _ _ _ (call (Value.ref 256) _ _) _ _); refine V_of ?_)
    | ((with_reducible show Mine.V _ _ _ (call (Value.ref 284) _ _) _ _); refine V_of ?_)
    | ((with_reducible show Mine.V _ _ _ (call (Value.ref 289) _ _) _ _); refine V_of ?_)
    | ((with_reducible show Mine.V _ _ _ (call (Value.ref 301) _ _) _ _); refine V_of ?_)
    | ((with_reducible show Mine.V _ _ _ (call (Value.ref 308) _ _) _ _); refine V_of ?_)
    | ((with_reducible show Mine.V _ _ _ (call (Value.ref 322) _ _) _ _); refine V_of ?_)
    | ((with_reducible show Mine.V _ _ _ (call (Value.ref 327) _ _) _ _); refine V_of ?_)
    | fail "none"
  trivial
example : True := by
  k_with "call" => first
    | ((with_reducible show Mine.W _ _ _ (call (Value.ref 79) [Value.bytes _ _, Value.int _ _] _) _ _); refine get32_is (Cok.le (by assumption) (by decide)) ?_ ?_ ?_; (focus omega); (focus omega); intro _)
    | fail "none"
  trivial
noncomputable def pngCs (most : Nat) (px : List Px) : List (List UInt8 × List UInt8) := [(nIHDR, ihdrB px.length), (nIDAT, storedB most (flatB px)), (nIEND, [])]
theorem pngB_cs (most : Nat) (px : List Px) : pngB most px = signB ++ chunksB (pngCs most px) := by
  unfold pngB chunksB pngCs signB
  simp only [List.flatMap_cons, List.flatMap_nil, List.append_nil, List.append_assoc]
theorem rd3 {rd : List Ent} {x y z : List UInt8 × List UInt8} (h : rd.reverse.map (fun e => (e.1, e.2.1)) = [x, y, z]) : ∃ a1 t1 u1 a2 t2 u2 a3 t3 u3, rd = [(z.1, z.2, a3, t3, u3), (y.1, y.2, a2, t2, u2), (x.1, x.2, a1, t1, u1)] := by
  have hl : rd.length = 3 := by have := congrArg List.length h; simpa using this
  rcases rd with _ | ⟨e3, _ | ⟨e2, _ | ⟨e1, _ | ⟨_, _⟩⟩⟩⟩ <;> simp at hl
  simp at h
  obtain ⟨h1, h2, h3⟩ := h
  obtain ⟨p1, q1, a1, t1, u1⟩ := e1
  obtain ⟨p2, q2, a2, t2, u2⟩ := e2
  obtain ⟨p3, q3, a3, t3, u3⟩ := e3
  dsimp only at h1 h2 h3
  subst h1 h2 h3
  exact ⟨_, _, _, _, _, _, _, _, _, rfl⟩
theorem take4 : ∀ (px : List Px) (i : Nat) (p : Px), px[i]? = some p → ((px.flatMap pxB).drop (4 * i)).take 4 = pxB p := by
  intro px
  induction px with
  | nil => intro i p h; simp at h
  | cons x r ih =>
    intro i p h
    cases i with
    | zero =>
      simp at h
      subst h
      rfl
    | succ i =>
      have := ih i p (by simpa using h)
      rw [List.flatMap_cons, show 4 * (i + 1) = (pxB x).length + 4 * i by simp [pxB]; omega, ← List.drop_drop, List.drop_left]
      exact this
theorem Has.re {x y z w ce : Addr × Desc} {rs m : Led} : Has (x :: (rs ++ w :: z :: y :: ce :: m)) (z :: y :: x :: (rs ++ ce :: m)) := by
  have h0 : Has ((rs ++ [w]) ++ ce :: m) (rs ++ ce :: m) := by
    rw [List.append_assoc]
    exact .of_sub (((List.Sublist.refl (ce :: m)).cons w).append_left rs)
  have h1 := Has.pull (p := z) h0
  have h2 := Has.pull (p := y) (n₁ := x :: (rs ++ [w, z])) (n₂ := ce :: m) (by simpa using Has.cons x h1)
  have h3 := h2.trans (Has.pull (n₁ := [y, x]) (n₂ := rs ++ ce :: m) (p := z) (Has.refl _))
  simpa using h3
set_option maxHeartbeats 3000000 in
theorem read_png_is {c : Cx} {l : Loc} {n : Led} {E : Value → Shared → Prop} {Q : Value → Loc → Led → Prop} {most : Nat} {px : List Px} {t : Tok} (V : Cok (hd.heap_1 c.w.params) c 20) (hw0 : 1 ≤ px.length) (hw1 : px.length ≤ 100) (hm0 : 1 ≤ most) (hm1 : most ≤ 65535)
    (q : ∀ T ro r0 (os : Led) t1 t2, os.length = px.length → (∀ (k : Nat) (p : Addr × Desc), os[k]? = some p → ∃ x, px[k]? = some x ∧ p.2 = TUPI (pxI x)) → Q (.ref T) l ((T, TUP [.int (px.length : Int) t1, .int 1 t2, .ref ro]) :: (ro, LST [.ref r0]) :: (r0, LST (os.map fun p => .ref p.1)) :: (os.reverse ++ n))) :
    Mine.V c l n (call (.ref 294) [.bytes (pngB most px).toArray t]) Q E := by
  have hzl : (pngB most px).length ≤ 1048576 := by
    have h1 := storedB_len most (flatB px)
    have h2 := flatB_len px
    unfold pngB
    simp only [List.length_append, chunkB_len, nIHDR, nIDAT, nIEND, ihdrB, be32_len, List.length_cons, List.length_nil]
    omega
  refine' V_defC (K := hd.heap_1 c.w.params) (d := 19) (binds := [(Str.ofString "octets", .bytes (pngB most px).toArray t)]) (lb := [(Str.ofString "octets", .bytes (pngB most px).toArray t)]) (cs := fun L => [(L + 1, none)]) V ?ho ?hcd ?hb ?hk ?hn ?hlb ?hcn ?hcs ?hc2 ?hln ?H ?h1 ?h2 ?h3
  k_extra "defc"
  intro L F V' wf hlt
  show Mine.V _ _ ((L + 1, CE none) :: (c.L, F) :: n) _ _ _
  k_extra "vgo"
  first | refine V_of ?_ | skip
  refine read_chunks_is (cs := pngCs most px) (V'.le (by decide)) hzl (pngB_cs most px) ?_ (by show 3 ≤ _; decide) fun fa rd hrd => ?_
  · intro p hp
    simp only [pngCs, List.mem_cons, List.not_mem_nil, or_false] at hp
    rcases hp with rfl | rfl | rfl <;> rfl
  obtain ⟨a1, t1, u1, a2, t2, u2, a3, t3, u3, rfl⟩ := rd3 hrd
  try k_extra "k"
  show Mine.V _ _ ((fa, LST [.ref a1, .ref a2, .ref a3]) :: (a3, TUP [.str (nameS nIEND) t3, .bytes (List.toArray []) u3]) :: (a2, TUP [.str (nameS nIDAT) t2, .bytes (storedB most (flatB px)).toArray u2]) :: (a1, TUP [.str (nameS nIHDR) t1, .bytes (ihdrB px.length).toArray u1]) :: (L + 1, CE none) :: (c.L, F) :: n) _ _ _
  k_extra "vgo"
  refine check_chunks_is (V'.le (by decide)) List.mem_cons_self (b1 := ihdrB px.length) (b2 := storedB most (flatB px)) (b3 := []) (t1 := t1) (t2 := t2) (t3 := t3) (u1 := u1) (u2 := u2) (u3 := u3) (by k_extra "mm") (by k_extra "mm") (by k_extra "mm") rfl rfl (by have := V'.units; omega) ⟨rfl, ?_⟩
  k_extra "vgo"
  refine L_item (v := .ref a1) (.list List.mem_cons_self : Knows _ _ (·.IsList fa [Value.ref a1, .ref a2, .ref a3].toArray)) (by decide) (by decide) rfl ?_
  k_extra "go"
  refine T_itemL (v := .bytes (ihdrB px.length).toArray u1) (.tup (by k_extra "mm") : Knows _ _ (IsTup · a1 [.str (nameS nIHDR) t1, .bytes (ihdrB px.length).toArray u1].toArray)) (by decide) (by decide) rfl ?_
  k_extra "vgo"
  have hk32 : (2 : Int) ^ 32 = 4294967296 := by decide
  have g1 := get_be32 (z := ihdrB px.length) (a := 0) (x := (px.length : Int)) (rest := be32 1 ++ [8, 6, 0, 0, 0]) (by unfold ihdrB; rw [List.drop_zero, List.append_assoc]) (by omega) (by omega)
  have g2 := get_be32 (z := ihdrB px.length) (a := 4) (x := 1) (rest := [8, 6, 0, 0, 0]) rfl (by decide) (by decide)
  refine get32_is (a := 0) (V'.le (by decide)) (by show 13 ≤ _; decide) (by show 0 + 4 ≤ 13; decide) fun t4 => ?_
  rw [g1]
  k_extra "vgo"
  refine L_item (v := .ref a1) (.list List.mem_cons_self : Knows _ _ (·.IsList fa [Value.ref a1, .ref a2, .ref a3].toArray)) (by decide) (by decide) rfl ?_
  k_extra "go"
  refine T_itemL (v := .bytes (ihdrB px.length).toArray u1) (.tup (by k_extra "mm") : Knows _ _ (IsTup · a1 [.str (nameS nIHDR) t1, .bytes (ihdrB px.length).toArray u1].toArray)) (by decide) (by decide) rfl ?_
  k_extra "vgo"
  refine get32_is (a := 4) (V'.le (by decide)) (by show 13 ≤ _; decide) (by show 4 + 4 ≤ 13; decide) fun t5 => ?_
  rw [g2]
  k_extra "vgo"
  refine G_bytes sl_join ty_join ?_
  k_extra "vgo"
  refine I_list (vs := [.ref a1, .ref a2, .ref a3]) (.list (by k_extra "mm")) fun it hne => ⟨it, rfl, fun C acc F' wf' => ?_⟩
  refine RKf (R := fun i ys => ys = if i ≤ 1 then [] else [.bytes (storedB most (flatB px)).toArray u2]) (itr_list (V'.comp C).hh it fa [.ref a1, .ref a2, .ref a3]) (fun l n Q E q hm => SI_list hm q) (by rw [sizeLine_eq]; show 3 ≤ _; decide) rfl (fun i ys h => by rw [h]; split <;> simp; omega) (fun ys => ⟨.list (by k_extra "mm"), hne⟩) ?_ ?_ ?_
  · rintro i ys v d hi rfl hv
    have V'' := V'.comp C
    have hi : i < 3 := hi
    have : i = 0 ∨ i = 1 ∨ i = 2 := by omega
    rcases this with rfl | rfl | rfl
    · obtain rfl : v = .ref a1 := by simpa using hv.symm
      refine A_tuple V''.hh (.tup (by k_extra "mm") : Knows _ _ (IsTup · a1 [.str (nameS nIHDR) t1, .bytes (ihdrB px.length).toArray u1].toArray)) ?_
      k_extra "go"
      exact ⟨rfl, Has.refl _⟩
    · obtain rfl : v = .ref a2 := by simpa using hv.symm
      refine A_tuple V''.hh (.tup (by k_extra "mm") : Knows _ _ (IsTup · a2 [.str (nameS nIDAT) t2, .bytes (storedB most (flatB px)).toArray u2].toArray)) ?_
      k_extra "go"
      exact ⟨rfl, Has.refl _⟩
    · obtain rfl : v = .ref a3 := by simpa using hv.symm
      refine A_tuple V''.hh (.tup (by k_extra "mm") : Knows _ _ (IsTup · a3 [.str (nameS nIEND) t3, .bytes (List.toArray []) u3].toArray)) ?_
      k_extra "go"
      exact ⟨rfl, Has.refl _⟩
  · rintro ys n' h hn'
    obtain rfl : ys = [.bytes (storedB most (flatB px)).toArray u2] := h
    refine ⟨_, hn', ?_⟩
    k_extra "vgo"
    refine V_of ?_
    refine B_join1 (sep := []) List.mem_cons_self ?_
    k_extra "vgo"
    refine unstored_is (bs := flatB px) (V'.le (by decide)) hm0 hm1 (by rw [flatB_len]; omega) fun t6 => ?_
    have hfl := flatB_len px
    k_extra "vgo"
    k_extra "ex"
    rename_i ro _
    refine B_ofInt (by omega) (by omega) fun t7 => ?_
    k_extra "vgo"
    refine' R_rangeV (k := 1) V'.hh (fun i l' n' => i ≤ 1 ∧ (i = 0 → l' = [(Str.ofString "height", .int 1 t5), (Str.ofString "width", .int (px.length : Int) t4), (Str.ofString "data", .bytes (flatB px).toArray t6), (Str.ofString "above", .bytes (List.replicate (4 * (px.length : Int)).toNat 0).toArray t7), (Str.ofString "rows", .ref ro)] ∧ n' = (ro, LST []) :: (L + 1, CE none) :: (c.L, F) :: n) ∧
      (i = 1 → l' = [(Str.ofString "height", .int 1 t5), (Str.ofString "width", .int (px.length : Int) t4), (Str.ofString "rows", .ref ro)] ∧ ∃ (r0 : Addr) (os : Led), n' = (ro, LST [.ref r0]) :: (r0, LST (os.map fun p => .ref p.1)) :: (os.reverse ++ (c.L, F) :: n) ∧ os.length = px.length ∧ ∀ (k : Nat) (p : Addr × Desc), os[k]? = some p → ∃ x, px[k]? = some x ∧ p.2 = TUPI (pxI x)))
      [(Str.ofString "height", .int 1 t5), (Str.ofString "width", .int (px.length : Int) t4), (Str.ofString "data", .bytes (flatB px).toArray t6), (Str.ofString "above", .bytes (List.replicate (4 * (px.length : Int)).toNat 0).toArray t7), (Str.ofString "rows", .ref ro)] ((ro, LST []) :: (L + 1, CE none) :: (c.L, F) :: n) List.mem_cons_self (by decide) ?sl ?sn ⟨by omega, fun _ => ⟨rfl, rfl⟩, fun e => absurd e (by decide)⟩ ?turn ?fin
    case sl => k_extra "sbl"
    case sn => k_extra "sbl"
    case fin =>
      rintro l' n' ⟨_, _, h1⟩
      obtain ⟨rfl, r0, os, rfl, ho, hg⟩ := h1 rfl
      iterate 12 k_extra "vs"
      refine VL_nil ?_
      refine N_tuple (by rw [sizeLine_eq]; show 3 ≤ _; decide) fun T => ?_
      refine Back.of_has (q T ro r0 os t4 t5 ho hg) ?_
      have := Has.pull (p := (c.L, F)) (n₁ := [(T, TUP [.int (px.length : Int) t4, .int 1 t5, .ref ro]), (ro, LST [.ref r0]), (r0, LST (os.map fun p => .ref p.1))] ++ os.reverse) (n₂ := n) (Has.refl _)
      simpa using this
    case turn =>
      rintro i l' n' u a d hi ⟨_, h0, _⟩
      obtain rfl : i = 0 := by omega
      obtain ⟨rfl, rfl⟩ := h0 rfl
      k_extra "vgo"
      have hz0 : ((flatB px).getD (((0 : Nat) : Int) * (1 + 4 * (px.length : Int))).toNat 0).toNat = 0 := by simp [flatB]
      have hz1 : ∀ x y : Nat, x = 4 * px.length → y = 1 → List.take x (List.drop y (flatB px)) = px.flatMap pxB := by
        rintro x y rfl rfl
        have h1 : (px.flatMap pxB).length = 4 * px.length := by simp only [flatB, List.length_cons] at hfl; omega
        show List.take _ (px.flatMap pxB) = _
        rw [← h1, List.take_length]
      have hz2 : (px.flatMap pxB).length = 4 * px.length := by simp only [flatB, List.length_cons] at hfl; omega
      rw [hz0, hz1 _ _ (by omega) (by omega)]
      refine unfiltered_is (V'.le (by decide)) (by omega) (by rw [List.length_replicate]; omega) fun t8 => ?_
      k_extra "vgo"
      refine I_range List.mem_cons_self (by decide) (by decide) (by omega) (by omega) fun it => ⟨it, rfl, fun C acc F' wf' => ?_⟩
      refine RKn (G := fun k d => ∃ x, px[k]? = some x ∧ d = TUPI (pxI x)) (N := fun _ => True) (itr_range (V'.comp C).hh it 0 (px.length - 0 : Int).toNat) (fun l n Q E q hm => SI_range hm q) (by rw [sizeLine_eq]; omega) (fun _ _ => trivial) ?_ ?_
      · rintro i os v d hi ho ⟨t3, rfl⟩
        have V'' := V'.comp C
        have hi : i < px.length := by omega
        k_extra "go"
        obtain ⟨p, hp⟩ : ∃ p, px[i]? = some p := ⟨_, List.getElem?_eq_getElem hi⟩
        have hc := take4 px i p hp
        have hcut : ∀ x y : Nat, x = 4 → y = 4 * i → List.take x (List.drop y (px.flatMap pxB)) = pxB p := by rintro x y rfl rfl; exact hc
        rw [hcut _ _ (by omega) (by omega)]
        refine C_tupB V''.hh (by rw [sizeLine_eq]; show 4 ≤ _; decide) fun D => ?_
        refine ⟨D, _, rfl, ⟨p, hp, rfl⟩, ?_⟩
        k_extra "has"
      · intro os n' ho hg hn'
        refine ⟨_, hn', ?_⟩
        refine Mine.V.has Has.re ?_
        generalize hrs : os.reverse = rs
        k_extra "vgo"
        refine V_of ?_
        refine L_append (vs := []) (LSet.tail LSet.head) (by decide) ⟨rfl, ?_⟩
        k_extra "vgo"
        refine ⟨[(Str.ofString "height", .int 1 t5), (Str.ofString "width", .int (px.length : Int) t4), (Str.ofString "rows", .ref ro)], _, ⟨by omega, fun e => absurd e (by decide), fun _ => ⟨rfl, acc, os, rfl, by omega, hg⟩⟩, by k_extra "sbl", ?_⟩
        subst hrs
        exact (((((List.Sublist.refl _).cons _).append_left _).cons_cons _).cons_cons _).cons_cons _
  · intro i l n v Q E hv q
    have hi : i < 3 := (List.getElem?_eq_some_iff.mp hv).1
    have : i = 0 ∨ i = 1 ∨ i = 2 := by omega
    rcases this with rfl | rfl | rfl <;> (simp at hv; subst hv; exact GO_list q)
example : True := by
  k_with_none
  k_with "ex" => skip
  k_with "mm" => first
    | exact List.mem_cons_self
    | (refine List.mem_cons_of_mem _ ?_; k_extra "mm")
    | fail "none"
  k_with "put" => first
    | with_reducible exact Put.hit
    | with_reducible exact Put.nil
    | ((with_reducible show Put _ _ (_ :: _) _); exact Put.skipS (by decide) (by k_extra "put"))
    | fail "none"
  k_with "lset" => first
    | exact LSet.head
    | ((with_reducible show LSet _ _ _ (_ :: _) _); exact LSet.tail (by k_extra "lset"))
    | fail "none"
  k_with "sbl" => first
    | exact List.Sublist.refl _
    | (refine List.Sublist.cons_cons _ ?_; k_extra "sbl")
    | (refine List.Sublist.cons _ ?_; k_extra "sbl")
    | exact List.nil_sublist _
    | fail "none"
  k_with "ints" => first
    | exact IntsAre.nil
    | (refine IntsAre.cons _ _ ?_; k_extra "ints")
    | fail "none"
  k_with "back" => first
    | exact ⟨_, List.perm_middle (l₁ := []), by k_extra "sbl"⟩
    | exact ⟨_, List.perm_middle (l₁ := [_]), by k_extra "sbl"⟩
    | exact ⟨_, List.perm_middle (l₁ := [_, _]), by k_extra "sbl"⟩
    | exact ⟨_, List.perm_middle (l₁ := [_, _, _]), by k_extra "sbl"⟩
    | exact ⟨_, List.perm_middle (l₁ := [_, _, _, _]), by k_extra "sbl"⟩
    | exact ⟨_, List.perm_middle (l₁ := [_, _, _, _, _]), by k_extra "sbl"⟩
    | exact ⟨_, List.perm_middle (l₁ := [_, _, _, _, _, _]), by k_extra "sbl"⟩
    | exact ⟨_, List.perm_middle (l₁ := [_, _, _, _, _, _, _]), by k_extra "sbl"⟩
    | fail "none"
  k_with "def" => (
    (case ho => k_is); (case hcd => k_is)
    (case hb => first | exact fun s X => BindsTo.of_eq rfl | exact fun s X => binds_K X rfl (by k_is) rfl rfl (by kernel_rfl))
    (case hl => exact locs (by rfl)); (case hn => (simp only [List.map_cons, List.map_nil]; decide)); (case hc => decide); (case h1 => rfl); (case h2 => rfl); (case h3 => rfl))
  k_with "stmt" => first
    | ((with_reducible show Mine.W _ _ _ (execs (Stmt.Assign [Expr.Name _ _] _ _ :: _) _) _ _); refine S_assign ?_)
    | ((with_reducible show Mine.W _ _ _ (execs (Stmt.If _ _ _ _ :: _) _) _ _); refine S_if ?_)
    | ((with_reducible show Mine.W _ _ _ (execs (Stmt.Return _ _ :: _) _) _ _); refine S_return ?_)
    | ((with_reducible show Mine.W _ _ _ (execs (Stmt.Expr _ _ :: _) _) _ _); refine S_expr ?_)
    | ((with_reducible show Mine.W _ _ _ (execs (Stmt.For _ _ _ _ _ :: _) _) _ _); refine S_for ?_)
    | with_reducible refine S_nil ?_
    | ((with_reducible show Mine.W _ _ _ (execs (Stmt.Assign [Expr.Attribute _ _ _] _ _ :: _) _) _ _); refine S_assignA ?_)
    | ((with_reducible show Mine.W _ _ _ (execs (Stmt.Assign [Expr.Subscript _ _ _] _ _ :: _) _) _ _); refine S_assignS ?_)
    | ((with_reducible show Mine.W _ _ _ (execs (Stmt.Assign [Expr.Tuple [_, _] _ _] (Expr.Tuple _ _ _) _ :: _) _) _ _); refine S_tup2 (Cok.hh (by assumption)) ?_ (by rfl))
    | ((with_reducible show Mine.W _ _ _ (execs (Stmt.Assign [Expr.Tuple [_, _, _] _ _] (Expr.Tuple _ _ _) _ :: _) _) _ _); refine S_tup3 (Cok.hh (by assumption)) ?_ (by rfl))
    | ((with_reducible show Mine.W _ _ _ (execs (Stmt.Assign [Expr.Tuple _ _ _] _ _ :: _) _) _ _); refine S_unpack ?_)
    | fail "none"
  k_with "name" => first
    | refine E_nameL (by with_reducible k_extra "mm") ⟨rfl, rfl, rfl⟩ (by rfl) ?_
    | refine E_nameG (K := Mine.hd.heap_1 _) (by assumption) rfl rfl (by rfl) (by k_is) ?_
    | (refine E_nameB (K := Mine.hd.heap_1 _) (by assumption) rfl rfl rfl (by rfl) (by k_is) (by first | boot_fast | boot_by_name) (by decide) ?_)
    | refine E_nameC rfl (by rfl) (by rfl) (by with_reducible k_extra "mm") ?_
    | refine E_nameF rfl (by rfl) (by rfl) (by with_reducible k_extra "mm") ?_
    | fail "none"
  k_with "expr" => first
    | ((with_reducible show Mine.W _ _ _ (eval (Expr.Name _ _) _) _ _); k_extra "name")
    | ((with_reducible show Mine.W _ _ _ (eval (Expr.Constant _ _ _) _) _ _); (first | (refine E_int ?_; intro _) | (refine E_str ?_; intro _) | refine E_bool ?_ | refine E_none ?_ | (refine E_bytes ?_; intro _)))
    | ((with_reducible show Mine.W _ _ _ (eval (Expr.BinOp _ _ _ _) _) _ _); refine E_bin ?_)
    | ((with_reducible show Mine.W _ _ _ (eval (Expr.Call (Expr.Attribute _ _ _) _ _ _) _) _ _); refine E_meth ?_)
    | ((with_reducible show Mine.W _ _ _ (eval (Expr.Call _ _ _ _) _) _ _); refine E_call ?_)
    | ((with_reducible show Mine.W _ _ _ (eval (Expr.Attribute _ _ _) _) _ _); refine E_attr ?_)
    | ((with_reducible show Mine.W _ _ _ (eval (Expr.Subscript _ (Expr.Slice _ _ _ _) _) _) _ _); k_extra "slice")
    | ((with_reducible show Mine.W _ _ _ (eval (Expr.Subscript _ _ _) _) _ _); refine E_sub ?_)
    | ((with_reducible show Mine.W _ _ _ (eval (Expr.Tuple _ _ _) _) _ _); refine E_tuple ?_)
    | ((with_reducible show Mine.W _ _ _ (eval (Expr.List _ _) _) _ _); refine E_list ?_)
    | ((with_reducible show Mine.W _ _ _ (eval (Expr.IfExp _ _ _ _) _) _ _); refine E_ife ?_)
    | ((with_reducible show Mine.W _ _ _ (eval (Expr.Compare _ _ _ _) _) _ _); refine E_cmp ?_)
    | ((with_reducible show Mine.W _ _ _ (eval (Expr.UnaryOp _ _ _) _) _ _); refine E_un ?_)
    | fail "none"
  k_with "slice" => first
    | ((with_reducible show Mine.W _ _ _ (eval (Expr.Subscript _ (Expr.Slice (some _) (some _) none _) _) _) _ _); refine E_slice ?_)
    | ((with_reducible show Mine.W _ _ _ (eval (Expr.Subscript _ (Expr.Slice none (some _) none _) _) _) _ _); refine E_sliceU ?_)
    | ((with_reducible show Mine.W _ _ _ (eval (Expr.Subscript _ (Expr.Slice (some _) none none _) _) _) _ _); refine E_sliceL ?_)
    | fail "none"
  k_with "test" => first
    | ((with_reducible show Mine.W _ _ _ (PySem.isTrue (Expr.Compare _ [_] _ _) _ _) _ _); refine T_cmp ?_)
    | ((with_reducible show Mine.W _ _ _ (PySem.isTrue (Expr.Compare _ _ _ _) _ _) _ _); refine T_chain ?_)
    | ((with_reducible show Mine.W _ _ _ (PySem.isTrue (Expr.UnaryOp UnaryOp.Not _ _) _ _) _ _); refine T_not ?_)
    | ((with_reducible show Mine.W _ _ _ (PySem.isTrue (Expr.BoolOp _ _ _) _ _) _ _); refine T_bool ?_)
    | refine T_val ?_
    | fail "none"
  k_with "op" => first
    | ((with_reducible refine O_add ?_); intro _)
    | ((with_reducible refine O_sub ?_); intro _)
    | ((with_reducible refine O_and ?_); intro _)
    | ((with_reducible refine O_or ?_); intro _)
    | ((with_reducible refine O_xor ?_); intro _)
    | ((with_reducible refine O_mod ?_ ?_); (focus first | decide | omega); intro _)
    | ((with_reducible refine O_mul ?_ ?_); rotate_left; (focus first | exact IntMulOk.of_left (by decide) | exact IntMulOk.of_right (by decide) | mul_fits); intro _)
    | ((with_reducible refine O_shl ?_ ?_ ?_ ?_); (focus first | decide | omega); (focus first | decide | omega); (focus first | exact u8_lt _ | omega); intro _)
    | ((with_reducible refine O_shr ?_ ?_); (focus first | decide | omega); intro _)
    | ((with_reducible refine B_add ?_ ?_); (focus first | decide | omega | (simp only [List.length_append, List.length_cons, List.length_nil]; omega)); intro _)
    | fail "none"
  k_with "cmp" => first
    | with_reducible refine O_eq ?_
    | with_reducible refine O_lt ?_
    | with_reducible refine O_le ?_
    | with_reducible refine O_gt ?_
    | with_reducible refine O_ge ?_
    | with_reducible refine O_ne ?_
    | with_reducible refine B_ne ?_
    | with_reducible refine O_isNone ?_
    | fail "none"
  k_with "callw" => first
    | refine C_def (K := Mine.hd.heap_1 _) (d := _) (by assumption) (by k_is) ?_
    | refine C_def0 (K := Mine.hd.heap_1 _) (d := _) (by assumption) (by k_is) ?_
    | fail "none"
  k_with "call" => first
    | ((with_reducible show Mine.W _ _ _ (call _ (_ ++ _) _) _ _); dsimp only [List.nil_append, List.cons_append])
    | ((with_reducible refine B_len ?_ ?_); (focus first | decide | omega); intro _)
    | ((with_reducible refine C_range1 ?_); intro _)
    | ((with_reducible show Mine.W _ _ _ (call (Value.type _) [Value.ref _] _) _ _); refine B_ofBA (by with_reducible k_extra "mm") (by (rw [sizeLine_eq]; (try simp only [List.length_append, List.length_map, List.length_cons, List.length_nil, List.length_take]); omega)) ?_; intro _)
    | fail "none"
  k_with "w" => first
    | ((with_reducible show Mine.W _ _ _ (storeName _ _ _) _ _); k_extra "store")
    | ((with_reducible show Mine.W _ _ _ (PySem.isTrue _ _ _) _ _); k_extra "test")
    | ((with_reducible show Mine.W _ _ _ (spliced _) _ _); (first | refine L_nil ?_ | refine L_cons ?_))
    | ((with_reducible show Mine.W _ _ _ (callWith _ (Value.ref _) _ _ _) _ _); k_extra "callw")
    | ((with_reducible show Mine.W _ _ _ (callWith _ _ _ _ _) _ _); (with_reducible first | refine C_type ?_ | refine C_bi ?_))
    | ((with_reducible show Mine.W _ _ _ (call _ _ _) _ _); k_extra "call")
    | ((with_reducible show Mine.W _ _ _ (binaryOp _ _ _) _ _); k_extra "op")
    | ((with_reducible show Mine.W _ _ _ (compareOp _ _ _) _ _); k_extra "cmp")
    | ((with_reducible show Mine.W _ _ _ (truthy _) _ _); (with_reducible refine T_b ?_))
    | ((with_reducible show Mine.W _ _ _ (assign _ _ _) _ _); (with_reducible first | refine A_name ?_ | refine A_tuple (Cok.hh (by assumption)) (.tup List.mem_cons_self) ?_))
    | ((with_reducible refine N_list ?_ ?_); (focus first | decide | size_fits); intro _)
    | ((with_reducible refine N_tuple ?_ ?_); (focus first | decide | size_fits); intro _)
    | ((with_reducible show Mine.W _ _ _ (assignInOrder _ _) _ _); (with_reducible first | refine IO_cons ?_ | refine IO_done ?_))
    | ((with_reducible show Mine.W _ _ _ (allTrue _ _ _) _ _); (with_reducible first | refine T_orN ?_ | refine T_or ?_))
    | ((with_reducible show Mine.W _ _ _ (testChain _ _ _ _) _ _); (first | refine TC_last ?_ | refine TC_cons ?_))
    | ((with_reducible show Mine.W _ _ _ (getMethod _ _ _) _ _); k_extra "meth")
    | ((with_reducible show Mine.W _ _ _ (subscriptTail _ _ _ _) _ _); (with_reducible refine B_item ?_ ?_ ?_ ?_); (focus omega); (focus omega); (focus omega); intro _)
    | fail "none"
  k_with "store" => first
    | refine W_store ⟨rfl, rfl, rfl⟩ (by rfl) (by k_extra "put") ?_
    | fail "none"
  k_with "meth" => first
    | (refine G_list (by with_reducible k_extra "mm") (by first | with_reducible exact slot_list_append) (by first | with_reducible exact type_list_append) ?_)
    | (refine G_ba (by with_reducible k_extra "mm") (by first | with_reducible exact By.sl_extend | with_reducible exact By.sl_append) (by first | with_reducible exact By.ty_extend | with_reducible exact By.ty_append) ?_)
    | fail "none"
  k_with "p" => first
    | ((with_reducible show (if _ = true then _ else _)); k_extra "ite")
    | (with_reducible first | refine Cont_next ?_ | refine Cont_ret ?_)
    | (refine ⟨_, _, _, _, _, _, rfl, rfl, rfl, ?_, ?_, ?_, ?_⟩; (focus omega); (focus omega); (focus omega); intro _)
    | (refine ⟨_, _, _, _, rfl, rfl, ?_, ?_, ?_⟩; (focus omega); (focus omega); intro _)
    | ((with_reducible show _ = Value.none ∧ _); refine ⟨rfl, ?_⟩)
    | ((with_reducible show ∃ a b, [_, _] = [a, b] ∧ _); refine ⟨_, _, rfl, ?_⟩)
    | ((with_reducible show ∃ a b d, [_, _, _] = [a, b, d] ∧ _); refine ⟨_, _, _, rfl, ?_⟩)
    | fail "none"
  k_with "ite" => first
    | ((with_reducible refine ite_no ?_ ?_); (focus first | decide | exact decide_eq_false (by omega) | exact not_dec (by omega) | exact beq_ne (by omega)))
    | ((with_reducible refine ite_yes ?_ ?_); (focus first | decide | exact decide_eq_true (by omega) | exact not_decT (by omega) | exact beq_eq (by omega)))
    | fail "none"
  k_with "ms" => first
    | ((with_reducible show Mine.W _ _ _ (eval _ _) _ _); k_extra "expr")
    | ((with_reducible show Mine.W _ _ _ (execs _ _) _ _); k_extra "stmt")
    | ((with_reducible show Mine.W _ _ _ _ _ _); k_extra "w")
    | k_extra "p"
    | fail "none"
  k_with "go" => repeat' (k_extra "ms")
  k_with "vstmt" => first
    | ((with_reducible show Mine.V _ _ _ (execs (Stmt.Assign [Expr.Name _ _] _ _ :: _) _) _ _); refine VS_assign ?_)
    | ((with_reducible show Mine.V _ _ _ (execs (Stmt.If _ _ _ _ :: _) _) _ _); refine VS_if ?_)
    | ((with_reducible show Mine.V _ _ _ (execs (Stmt.Return _ _ :: _) _) _ _); refine VS_return ?_)
    | ((with_reducible show Mine.V _ _ _ (execs (Stmt.Expr _ _ :: _) _) _ _); refine VS_expr ?_)
    | ((with_reducible show Mine.V _ _ _ (execs (Stmt.For _ _ _ _ _ :: _) _) _ _); refine VS_for ?_)
    | with_reducible refine VS_nil ?_
    | ((with_reducible show Mine.V _ _ _ (execs (Stmt.Assign [Expr.Tuple [_, _] _ _] (Expr.Tuple _ _ _) _ :: _) _) _ _); refine VS_tup2 (Cok.hh (by assumption)) ?_ (by rfl))
    | ((with_reducible show Mine.V _ _ _ (execs (Stmt.Assign [Expr.Tuple [_, _, _] _ _] (Expr.Tuple _ _ _) _ :: _) _) _ _); refine VS_tup3 (Cok.hh (by assumption)) ?_ (by rfl))
    | fail "none"
  k_with "v" => first
    | ((with_reducible refine BA_new (Cok.guards (by assumption)) ?_); intro _)
    | ((with_reducible show Mine.V _ _ _ (eval (Expr.Call (Expr.Attribute _ _ _) _ _ _) _) _ _); refine VE_meth ?_)
    | ((with_reducible show Mine.V _ _ _ (eval (Expr.Call _ _ _ _) _) _ _); refine VE_call ?_)
    | ((with_reducible show Mine.V _ _ _ (eval _ _) _ _); refine V_of ?_)
    | ((with_reducible show Mine.V _ _ _ (storeName _ _ _) _ _); refine V_of ?_)
    | ((with_reducible show Mine.V _ _ _ (PySem.isTrue _ _ _) _ _); refine V_of ?_)
    | ((with_reducible show Mine.V _ _ _ (spliced _) _ _); (first | refine VL_nil ?_ | refine VL_cons ?_))
    | ((with_reducible show Mine.V _ _ _ (callWith _ (Value.type _) _ _ _) _ _); (first | refine VC_type ?_ | refine VC_type0 ?_))
    | ((with_reducible show Mine.V _ _ _ (callWith _ (Value.builtin _) _ _ _) _ _); refine VC_bi ?_)
    | ((with_reducible show Mine.V _ _ _ (callWith _ (Value.ref _) _ _ _) _ _); refine VC_def (K := Mine.hd.heap_1 _) (d := _) (by assumption) (by k_is) ?_)
    | ((with_reducible show Mine.V _ _ _ (call _ (_ ++ _) _) _ _); dsimp only [List.nil_append, List.cons_append])
    | ((with_reducible show Mine.V _ _ _ (call (Value.builtin "len") [Value.bytes _ _] _) _ _); refine V_of ?_)
    | ((with_reducible show Mine.V _ _ _ (call (Value.type "bytes") _ _) _ _); refine V_of ?_)
    | fail "none"
  k_with "vs" => first
    | ((with_reducible show Mine.V _ _ _ (execs _ _) _ _); k_extra "vstmt")
    | ((with_reducible show Mine.V _ _ _ _ _ _); k_extra "v")
    | (with_reducible first | refine ContV_next ?_ | refine ContV_ret ?_)
    | k_extra "ms"
    | fail "none"
  k_with "vgo" => repeat' (k_extra "vs")
  trivial
example : True := by
  k_with "defc" => (
    (case ho => k_is); (case hcd => k_is)
    (case hb => first | exact fun s X => BindsTo.of_eq rfl | exact fun s X => binds_K X rfl (by k_is) rfl rfl (by kernel_rfl))
    (case hk => exact rfl); (case hn => (simp only [List.map_cons, List.map_nil]; decide)); (case hlb => rfl); (case hcn => decide); (case hcs => (intro L; rfl)); (case hc2 => (intro L; first | (simp; done) | (simp; exact fun e => absurd e (Nat.ne_of_gt (Nat.lt_of_lt_of_le (Nat.lt_succ_self _) (Nat.le_succ _)))))); (case hln => (simp only [List.map_cons, List.map_nil]; decide)); (case h1 => rfl); (case h2 => rfl); (case h3 => rfl))
  k_with "mm" => first
    | (with_reducible refine List.mem_append_right _ ?_; k_extra "mm")
    | with_reducible assumption
    | fail "none"
  k_with "pick" => first
    | with_reducible exact Pick.head
    | ((with_reducible show Pick _ (_ :: _) _); exact Pick.tail (by k_extra "pick"))
    | fail "none"
  k_with "has" => first
    | exact Has.refl _
    | ((with_reducible show Has _ (_ :: _)); exact Has.pick (by k_extra "pick") (by k_extra "has"))
    | (refine Has.of_sub ?_; k_extra "sbl")
    | fail "none"
  k_with "lk" => first
    | with_reducible exact lk_hit
    | exact rfl
    | (refine lk_skip (by decide) ?_; k_extra "lk")
    | fail "none"
  k_with "store" => first
    | (refine W_storeC ⟨rfl, rfl, rfl⟩ (by rfl) (by rfl) (by k_extra "lset") ?_)
    | fail "none"
  k_with "expr" => first
    | ((with_reducible show Mine.W _ _ _ (eval (Expr.ListComp _ [_] _ _) _) _ _); refine E_compK (CompNew.plain rfl (by decide)) ?_ rfl)
    | ((with_reducible show Mine.W _ _ _ (eval (Expr.BoolOp _ [_] _) _) _ _); refine E_one ?_)
    | ((with_reducible show Mine.W _ _ _ (eval (Expr.BoolOp _ _ _) _) _ _); refine E_and ?_)
    | ((with_reducible show Mine.W _ _ _ (eval (Expr.Compare _ (_ :: _ :: _) _ _) _) _ _); refine E_chain ?_)
    | fail "none"
  k_with "stmt" => first
    | ((with_reducible show Mine.W _ _ _ (execs (Stmt.Assign [Expr.Name _ _] (Expr.ListComp _ [_] _ _) _ :: _) _) _ _); refine S_assignC rfl (CompNew.plain rfl (by decide)) ?_ rfl)
    | fail "none"
  k_with "slice" => first
    | ((with_reducible show Mine.W _ _ _ (eval (Expr.Subscript _ (Expr.Slice (some _) none none _) _) _) _ _); refine E_sliceLx ?_)
    | fail "none"
  k_with "op" => first
    | ((with_reducible refine O_div ?_ ?_ ?_); (focus first | decide | omega); (focus exact PyProof.noPylong_small (by first | decide | omega)); intro _)
    | fail "none"
  k_with "call" => first
    | ((with_reducible refine O_min (Cok.hh (by assumption)) ?_); intro _)
    | ((with_reducible refine O_max (Cok.hh (by assumption)) ?_); intro _)
    | ((with_reducible refine F_chr ?_ ?_ ?_); (focus omega); (focus omega); intro _)
    | with_reducible refine B_ofBytes ?_
    | fail "none"
  k_with "w" => first
    | ((with_reducible show Mine.W _ _ _ (compareChain _ _ _ _) _ _); (first | refine CC_last ?_ | refine CC_link ?_))
    | ((with_reducible show Mine.W _ _ _ (getAttr (Value.ref _) _ _) _ _); (refine GA_own (K := Mine.hd.heap_1 _) (d := _) (by assumption) (by first | assumption | with_reducible k_extra "mm") (by first | assumption | with_reducible k_extra "mm") (by k_extra "lk") (by k_is) (by k_is) (by k_is) (by k_is) (by rfl) ?_))
    | ((with_reducible show Mine.W _ _ _ (setAttr (Value.ref _) _ _) _ _); (refine SA_dict (K := Mine.hd.heap_1 _) (d := _) (by assumption) (by first | assumption | with_reducible k_extra "mm") (by k_extra "lset") (by k_extra "put") (Nat.le_of_ble_eq_true rfl) (by k_is) (by k_is) (by k_is) (by k_is) ?_))
    | ((with_reducible show Mine.W _ _ _ (unaryOp _ _) _ _); (with_reducible refine O_neg ?_); intro _)
    | fail "none"
  k_with "meth" => first
    | with_reducible refine G_join ?_
    | (refine GM_inst (K := Mine.hd.heap_1 _) (d := _) (by assumption) (by first | assumption | with_reducible k_extra "mm") (by first | assumption | with_reducible k_extra "mm") (by k_extra "lk") (by k_is) (by k_is) (by k_is) ?_)
    | fail "none"
  k_with "p" => first
    | ((with_reducible show ∃ n4, _ :: _ = _ :: n4 ∧ _); refine ⟨_, rfl, ?_⟩)
    | fail "none"
  k_with "v" => first
    | ((with_reducible show Mine.V _ _ _ (eval (Expr.Tuple _ _ _) _) _ _); refine VE_tuple ?_)
    | ((with_reducible show Mine.V _ _ _ (callWith _ (Value.ref _) _ (backTo _ (starEach [] _)) _) _ _); refine V_of ?_)
    | fail "none"
  k_with "call" => first
    | with_reducible refine O_int ?_
    | ((with_reducible refine O_intB ?_); intro _)
    | fail "none"
  k_with "cmp" => first
    | with_reducible refine O_neS ?_
    | with_reducible refine O_eqS ?_
    | fail "none"
  trivial
example : True := by
  k_with "call" => first
    | ((with_reducible show Mine.W _ _ _ (call (Value.ref 102) [Value.bytes _ _] _) _ _); refine adler_bytes (Cok.le (by assumption) (by decide)) ?_; intro _)
    | fail "none"
  trivial
theorem law_sum_is {c : Cx} {l : Loc} {n : Led} {E : Value → Shared → Prop} {Q : Value → Loc → Led → Prop} {bs : List UInt8} {t : Tok} (V : Cok (hd.heap_1 c.w.params) c 2)
    (q : ∀ t, Q (.int ((adlPair bs).2 * 65536 + (adlPair bs).1) t) l n) : W c l n (call (.ref 322) [.bytes bs.toArray t]) Q E := by
  refine' W_defC (K := hd.heap_1 c.w.params) (d := 1) (binds := [(Str.ofString "octets", .bytes bs.toArray t)]) (lb := [(Str.ofString "octets", .bytes bs.toArray t)]) (cs := fun L => []) V ?ho ?hcd ?hb ?hk ?hn ?hlb ?hcn ?hcs ?hc2 ?hln ?H ?h1 ?h2 ?h3
  k_extra "defc"
  intro L F V' wf hlt
  show W _ _ ((c.L, F) :: n) _ _ _
  k_extra "go"
  refine R_bytes V'.hh (fun pre l' n' => n' = (c.L, F) :: n ∧ ∃ t1 t2, l' = [(Str.ofString "low", .int (adlPair pre).1 t1), (Str.ofString "high", .int (adlPair pre).2 t2)]) _ ((c.L, F) :: n) (by k_extra "sbl") (by k_extra "sbl") ⟨rfl, _, _, rfl⟩ ?_ ?_
  · rintro pre x post l n' u a d he ⟨rfl, t1, t2, rfl⟩
    k_extra "go"
    refine' ⟨[_, _], _ :: n, ⟨rfl, _, _, ?e⟩, ?sl, ?sn⟩
    case sn => k_extra "sbl"
    case sl => k_extra "sbl"
    case e => rw [adlPair_snoc]; rfl
  · rintro l n' ⟨rfl, t1, t2, rfl⟩
    have z := adlPair_lt bs
    k_extra "go"
    exact ⟨_, q _, by k_extra "back"⟩
example : True := by
  k_with "gos" => repeat' ((fail_if_success (with_reducible show Mine.W _ _ _ (eval (Expr.Subscript _ (Expr.Slice _ _ _ _) _) _) _ _)); k_extra "ms")
  trivial
noncomputable def u8I (b : List UInt8) : List Int := b.map fun x => (x.toNat : Int)
theorem O_eqI {c : Cx} {l : Loc} {n : Led} {E : Value → Shared → Prop} {Q : Value → Loc → Led → Prop} {a b : Addr} {vs ws : List Value} {ns ms : List Int} (k1 : Knows c n (·.IsList a vs.toArray)) (k2 : Knows c n (·.IsList b ws.toArray)) (i1 : IntsAre vs ns) (i2 : IntsAre ws ms) (hu : c.A.units + 64 < cLine) (q : Q (.bool (decide (ns = ms))) l n) :
    W c l n (compareOp .Eq (.ref a) (.ref b)) Q E := fun h tk S => ke_eq_ints (s := { c.r with heap := h, toks := tk }) (k1 l h S) (k2 l h S) i1 i2 hu (.mk S q)
theorem O_neI {c : Cx} {l : Loc} {n : Led} {E : Value → Shared → Prop} {Q : Value → Loc → Led → Prop} {a b : Addr} {vs ws : List Value} {ns ms : List Int} (k1 : Knows c n (·.IsList a vs.toArray)) (k2 : Knows c n (·.IsList b ws.toArray)) (i1 : IntsAre vs ns) (i2 : IntsAre ws ms) (hu : c.A.units + 64 < cLine) (q : Q (.bool (!decide (ns = ms))) l n) :
    W c l n (compareOp .NotEq (.ref a) (.ref b)) Q E := fun h tk S => ke_ne_ints (s := { c.r with heap := h, toks := tk }) (k1 l h S) (k2 l h S) i1 i2 hu (.mk S q)
theorem ints_len {vs : List Value} {ns : List Int} (h : IntsAre vs ns) : vs.length = ns.length := by
  induction h with
  | nil => rfl
  | cons _ _ _ ih => simp [ih]
theorem u8I_map : ∀ (xs : List Int), (∀ x ∈ xs, 0 ≤ x ∧ x < 256) → u8I (xs.map fun x => x.toNat.toUInt8) = xs := by
  intro xs
  induction xs with
  | nil => intro _; rfl
  | cons x r ih =>
    intro h
    have := h x List.mem_cons_self
    show ((x.toNat.toUInt8.toNat : Nat) : Int) :: u8I _ = _
    rw [byte_back this.1 this.2, ih fun y hy => h y (List.mem_cons_of_mem _ hy)]
theorem u8I_append (a b : List UInt8) : u8I (a ++ b) = u8I a ++ u8I b := by unfold u8I; rw [List.map_append]
theorem u8I_blk (e : Bool) (p : List UInt8) (hp : p.length < 65536) : u8I (blk e p) = [(if e = true then 1 else 0 : Int), (p.length : Int).fmod 256, (p.length : Int).fdiv 256, 255 - (p.length : Int).fmod 256, 255 - (p.length : Int).fdiv 256] ++ u8I p := by
  have e1 : (p.length : Int).fmod 256 = (p.length : Int) % 256 := Int.fmod_eq_emod_of_nonneg _ (by decide)
  have e2 : (p.length : Int).fdiv 256 = (p.length : Int) / 256 := Int.fdiv_eq_ediv_of_nonneg _ (by decide)
  rw [e1, e2]
  unfold blk
  rw [u8I_append, u8I_map]
  intro x hx
  simp only [List.mem_cons, List.not_mem_nil, or_false] at hx
  rcases hx with rfl | rfl | rfl | rfl | rfl <;> first | omega | (cases e <;> decide)
theorem ints_one {x y : Int} {t : Tok} (h : x = y) : IntsAre [.int x t] [y] := h ▸ .cons x t .nil
set_option maxHeartbeats 3000000 in
theorem law_stream_is {c : Cx} {l : Loc} {n : Led} {E : Value → Shared → Prop} {Q : Value → Loc → Led → Prop} {bs : List UInt8} {most : Nat} {t u : Tok} (V : Cok (hd.heap_1 c.w.params) c 14) (h0 : 1 ≤ most) (h1 : most ≤ 65535) (hz : bs.length ≤ 65535)
    (q : ∀ D vs, IntsAre vs (u8I (storedB most bs)) → Q (.ref D) l ((D, LST vs) :: n)) : W c l n (call (.ref 327) [.bytes bs.toArray t, .int most u]) Q E := by
  refine' W_defC (K := hd.heap_1 c.w.params) (d := 13) (binds := [(Str.ofString "octets", .bytes bs.toArray t), (Str.ofString "most", .int most u)]) (lb := [(Str.ofString "octets", .bytes bs.toArray t), (Str.ofString "most", .int most u)]) (cs := fun L => [(L + 1, none)]) V ?ho ?hcd ?hb ?hk ?hn ?hlb ?hcn ?hcs ?hc2 ?hln ?H ?h1 ?h2 ?h3
  k_extra "defc"
  intro L F V' wf hlt
  show W _ _ ((L + 1, CE none) :: (c.L, F) :: n) _ _ _
  k_extra "go"
  refine C_listB V'.hh (by rw [sizeLine_eq]; omega) fun la ls hls => ?_
  k_extra "go"
  rename_i fa
  refine W.has (n' := (fa, LST [.int 120 _, .int 1 _]) :: (la, LST ls) :: (L + 1, CE none) :: (c.L, F) :: n) (by k_extra "has") ?_
  refine S_while (fun k l' n' => ∃ (a : Nat) (f : List UInt8) (fa la : Addr) (fs ls : List Value), l' = [(Str.ofString "octets", .bytes bs.toArray t), (Str.ofString "most", .int most u), (Str.ofString "left", .ref la), (Str.ofString "found", .ref fa)] ∧
    n' = (fa, LST fs) :: (la, LST ls) :: (L + 1, CE none) :: (c.L, F) :: n ∧ IntsAre fs (u8I f) ∧ IntsAre ls (u8I (bs.drop a)) ∧
    a ≤ bs.length ∧ bs.length - a ≤ k ∧ f ++ blks most k (bs.drop a) = 120 :: 1 :: blks most bs.length bs ∧ f.length ≤ 7 * a + 2) ?_ bs.length _ ((fa, LST [.int 120 _, .int 1 _]) :: (la, LST ls) :: (L + 1, CE none) :: (c.L, F) :: n) ⟨0, [120, 1], fa, la, _, ls, rfl, rfl, .cons _ _ (.cons _ _ .nil), by rw [List.drop_zero]; exact hls, Nat.zero_le _, by omega, by rw [List.drop_zero]; rfl, by simp⟩ (by k_extra "sbl") (by k_extra "sbl")
  · rintro k l' n' ⟨a, f, fa, la, fs, ls, rfl, rfl, hf, hl, ha, hfu, hff, hfl⟩
    have hll := ints_len hl
    have hfl' := ints_len hf
    simp only [u8I, List.length_map, List.length_drop] at hll hfl'
    k_extra "gos"
    refine' E_upL ?_ ?t
    case t => exact fun _ _ => rfl
    k_extra "go"
    refine ⟨la, ls, most, _, rfl, .list (by k_extra "mm"), rfl, by omega, by rw [sizeLine_eq]; omega, fun bl => ?_⟩
    k_extra "gos"
    refine' E_lowL ?_ ?t
    case t => exact fun _ _ => rfl
    k_extra "go"
    refine ⟨la, ls, most, _, rfl, .list (by k_extra "mm"), rfl, by omega, by rw [sizeLine_eq]; omega, fun lf => ?_⟩
    have hm : ((most : Int)).toNat = most := by omega
    rw [hm]
    k_extra "gos"
    have hsz : (ls.take most).length = min most (bs.length - a) := by rw [List.length_take, hll]
    obtain ⟨p, hpd⟩ : ∃ p, p = (bs.drop a).take most := ⟨_, rfl⟩
    have hpl : p.length = (ls.take most).length := by rw [hpd, hsz]; simp
    refine C_lenL (vs := ls.take most) (.list (by k_extra "mm")) (by rw [sizeLine_eq, List.length_take]; omega) fun t1 => ?_
    rw [← hpl]
    k_extra "gos"
    have hu : ∀ (env : Env), (c.sub env L).A.units + 64 < cLine := fun env => by have := V.units; show c.A.units + 3 + 64 < _; omega
    have htk := hl.take most
    have hdr := hl.drop most
    refine O_eqI (vs := ls.drop most) (ws := []) (.list (by k_extra "mm")) (.list (by k_extra "mm")) hdr .nil (hu _) ?_
    have hpi : IntsAre (ls.take most) (u8I p) := by rw [hpd]; simpa [u8I, List.map_take] using htk
    have hdi : IntsAre (ls.drop most) (u8I (bs.drop (a + most))) := by simpa [u8I, List.map_drop, List.drop_drop] using hdr
    k_extra "gos"
    rename_i b5
    refine O_addL (vs := fs) (ws := [_, _, _, _, _]) (.list (by k_extra "mm")) (.list List.mem_cons_self) (by rw [sizeLine_eq, hfl']; show _ + 5 ≤ _; omega) fun D1 => ?_
    k_extra "gos"
    refine O_addL (vs := fs ++ [_, _, _, _, _]) (ws := ls.take most) (.list List.mem_cons_self) (.list (by k_extra "mm")) (by rw [sizeLine_eq, List.length_append, hfl', hsz]; show _ + 5 + _ ≤ _; omega) fun D2 => ?_
    k_extra "gos"
    refine O_eqI (vs := ls.drop most) (ws := []) (.list (by k_extra "mm")) (.list (by k_extra "mm")) hdi .nil (hu _) ?_
    by_cases hlast : bs.length ≤ a + most
    · have hn0 : u8I (bs.drop (a + most)) = [] := by rw [List.drop_eq_nil_of_le hlast]; rfl
      rw [hn0]
      k_extra "gos"
      have hall : f ++ blk true p = 120 :: 1 :: blks most bs.length bs := by
        rw [← hff, blks_last (by simp; omega), hpd, List.take_of_length_le (by simp; omega)]
      refine law_sum_is (V'.le (by decide)) fun t2 => ?_
      obtain ⟨z, hz'⟩ : ∃ z, z = (adlPair bs).2 * 65536 + (adlPair bs).1 := ⟨_, rfl⟩
      have hzs : sumB bs = z := by
        have := adlPair_lt bs
        rw [hz']; unfold sumB
        rw [bitOr_add' 16 (by omega) (by omega) (by have : (2 : Int) ^ 16 = 65536 := by decide
                                                    omega)]
        rfl
      have hz0 : 0 ≤ z := by have := adlPair_lt bs; omega
      have hbe : u8I (be32 (sumB bs)) = [z / 2 ^ 24 % 256, z / 2 ^ 16 % 256, z / 2 ^ 8 % 256, z % 256] := by
        rw [hzs]; unfold be32
        rw [u8I_map]
        intro x hx
        simp only [List.mem_cons, List.not_mem_nil, or_false] at hx
        rcases hx with rfl | rfl | rfl | rfl <;> omega
      have hdm : ∀ k : Nat, (z.fdiv (2 ^ k)).fmod 256 = z / 2 ^ k % 256 := fun k => by
        rw [Int.fdiv_eq_ediv_of_nonneg _ (Int.le_of_lt (Int.pow_pos (by decide))), Int.fmod_eq_emod_of_nonneg _ (by decide)]
      rw [← hz']
      k_extra "gos"
      rename_i fk
      refine I_list (vs := [.int 3 _, .int 2 _, .int 1 _, .int 0 _]) (.list List.mem_cons_self) fun it hne => ⟨it, rfl, fun C acc F' wf' => ?_⟩
      refine RKp (R := fun i ys => IntsAre ys ((u8I (be32 (sumB bs))).take i)) (itr_list (V'.comp C).hh it fk [.int 3 _, .int 2 _, .int 1 _, .int 0 _]) (fun l n Q E q hm => SI_list hm q) (by rw [sizeLine_eq]; show 4 ≤ _; decide) .nil (fun i ys h => by rw [ints_len h, List.length_take]; exact Nat.min_le_left _ _) (fun ys => ⟨.list (by k_extra "mm"), hne⟩) ?_ ?_
      · rintro i ys v d hi hy hv
        have V'' := V'.comp C
        have hi : i < 4 := hi
        rw [hbe] at hy ⊢
        have : i = 0 ∨ i = 1 ∨ i = 2 ∨ i = 3 := by omega
        rcases this with rfl | rfl | rfl | rfl
        all_goals (simp at hv; subst hv)
        all_goals (k_extra "go"; refine O_pow (by decide) (by decide) fun t3 => ?_; k_extra "go"; refine ⟨?_, Has.refl _⟩)
        · exact IntsAre.append hy (ms := [z / 2 ^ 24 % 256]) (ints_one (hdm 24))
        · exact IntsAre.append hy (ms := [z / 2 ^ 16 % 256]) (ints_one (hdm 16))
        · exact IntsAre.append hy (ms := [z / 2 ^ 8 % 256]) (ints_one (hdm 8))
        · exact IntsAre.append hy (ms := [z % 256]) (ints_one (by have := hdm 0; simpa using this))
      · intro ys n' hy hn'
        refine ⟨_, hn', ?_⟩
        k_extra "gos"
        refine O_addL (vs := fs ++ [_, _, _, _, _] ++ ls.take most) (ws := ys) (.list (by k_extra "mm")) (.list (by k_extra "mm")) (by rw [sizeLine_eq, List.length_append, List.length_append, hfl', hsz, ints_len hy, hbe]; show _ + 5 + _ + 4 ≤ _; omega) fun D3 => ?_
        k_extra "gos"
        have fin : ∀ (N : Led) vs, IntsAre vs (u8I (storedB most bs)) → Has ((D3, LST vs) :: N) ((c.L, F) :: (D3, LST vs) :: n) → Back c.L F (Q (.ref D3) l) ((D3, LST vs) :: N) := fun N vs h k => Back.of_has (q D3 vs h) k
        refine fin _ _ ?_ ?_
        · have hd' : List.drop most (u8I (List.drop a bs)) = [] := by rw [← hn0]; simp [u8I, List.map_drop, List.drop_drop]
          rw [hd']
          have he : storedB most bs = f ++ blk true p ++ be32 (sumB bs) := by rw [hall]; rfl
          rw [he, u8I_append, u8I_append, u8I_blk true p (by omega), ← List.append_assoc]
          refine IntsAre.append (IntsAre.append (IntsAre.append hf ?_) hpi) (by rw [hbe] at hy ⊢; exact hy)
          exact .cons _ _ (.cons _ _ (.cons _ _ (.cons _ _ (.cons _ _ .nil))))
        · k_extra "has"
    · have hn0 : u8I (bs.drop (a + most)) ≠ [] := by
        intro e
        have := congrArg List.length e
        simp [u8I] at this
        omega
      have hn1 : decide (u8I (bs.drop (a + most)) = []) = false := decide_eq_false hn0
      rw [hn1]
      k_extra "gos"
      obtain ⟨k, rfl⟩ : ∃ k', k = k' + 1 := ⟨k - 1, by omega⟩
      have hpm : p.length = most := by rw [hpl, hsz]; omega
      refine ⟨k, _, (D2, LST _) :: (lf, LST _) :: (L + 1, CE none) :: (c.L, F) :: n, by omega, ⟨a + most, f ++ blk false p, D2, lf, _, _, rfl, rfl, ?_, hdi, by omega, by omega, ?_, ?_⟩, by k_extra "sbl", by k_extra "sbl"⟩
      · have hd' : List.drop most (u8I (List.drop a bs)) = u8I (bs.drop (a + most)) := by simp [u8I, List.map_drop, List.drop_drop]
        rw [hd', hn1]
        rw [u8I_append, u8I_blk false p (by omega), ← List.append_assoc]
        refine IntsAre.append (IntsAre.append hf ?_) hpi
        exact .cons _ _ (.cons _ _ (.cons _ _ (.cons _ _ (.cons _ _ .nil))))
      · rw [← hff, blks_more (by simp; omega), ← hpd, List.drop_drop, List.append_assoc]
      · rw [List.length_append, blk_len]; omega
example : True := by
  k_with_none
  k_with "ex" => skip
  k_with "mm" => first
    | exact List.mem_cons_self
    | (refine List.mem_cons_of_mem _ ?_; k_extra "mm")
    | fail "none"
  k_with "put" => first
    | with_reducible exact Put.hit
    | with_reducible exact Put.nil
    | ((with_reducible show Put _ _ (_ :: _) _); exact Put.skipS (by decide) (by k_extra "put"))
    | fail "none"
  k_with "lset" => first
    | exact LSet.head
    | ((with_reducible show LSet _ _ _ (_ :: _) _); exact LSet.tail (by k_extra "lset"))
    | fail "none"
  k_with "sbl" => first
    | exact List.Sublist.refl _
    | (refine List.Sublist.cons_cons _ ?_; k_extra "sbl")
    | (refine List.Sublist.cons _ ?_; k_extra "sbl")
    | exact List.nil_sublist _
    | fail "none"
  k_with "ints" => first
    | exact IntsAre.nil
    | (refine IntsAre.cons _ _ ?_; k_extra "ints")
    | fail "none"
  k_with "back" => first
    | exact ⟨_, List.perm_middle (l₁ := []), by k_extra "sbl"⟩
    | exact ⟨_, List.perm_middle (l₁ := [_]), by k_extra "sbl"⟩
    | exact ⟨_, List.perm_middle (l₁ := [_, _]), by k_extra "sbl"⟩
    | exact ⟨_, List.perm_middle (l₁ := [_, _, _]), by k_extra "sbl"⟩
    | exact ⟨_, List.perm_middle (l₁ := [_, _, _, _]), by k_extra "sbl"⟩
    | exact ⟨_, List.perm_middle (l₁ := [_, _, _, _, _]), by k_extra "sbl"⟩
    | exact ⟨_, List.perm_middle (l₁ := [_, _, _, _, _, _]), by k_extra "sbl"⟩
    | exact ⟨_, List.perm_middle (l₁ := [_, _, _, _, _, _, _]), by k_extra "sbl"⟩
    | fail "none"
  k_with "def" => (
    (case ho => k_is); (case hcd => k_is)
    (case hb => first | exact fun s X => BindsTo.of_eq rfl | exact fun s X => binds_K X rfl (by k_is) rfl rfl (by kernel_rfl))
    (case hl => exact locs (by rfl)); (case hn => (simp only [List.map_cons, List.map_nil]; decide)); (case hc => decide); (case h1 => rfl); (case h2 => rfl); (case h3 => rfl))
  k_with "stmt" => first
    | ((with_reducible show Mine.W _ _ _ (execs (Stmt.Assign [Expr.Name _ _] _ _ :: _) _) _ _); refine S_assign ?_)
    | ((with_reducible show Mine.W _ _ _ (execs (Stmt.If _ _ _ _ :: _) _) _ _); refine S_if ?_)
    | ((with_reducible show Mine.W _ _ _ (execs (Stmt.Return _ _ :: _) _) _ _); refine S_return ?_)
    | ((with_reducible show Mine.W _ _ _ (execs (Stmt.Expr _ _ :: _) _) _ _); refine S_expr ?_)
    | ((with_reducible show Mine.W _ _ _ (execs (Stmt.For _ _ _ _ _ :: _) _) _ _); refine S_for ?_)
    | with_reducible refine S_nil ?_
    | ((with_reducible show Mine.W _ _ _ (execs (Stmt.Assign [Expr.Attribute _ _ _] _ _ :: _) _) _ _); refine S_assignA ?_)
    | ((with_reducible show Mine.W _ _ _ (execs (Stmt.Assign [Expr.Subscript _ _ _] _ _ :: _) _) _ _); refine S_assignS ?_)
    | ((with_reducible show Mine.W _ _ _ (execs (Stmt.Assign [Expr.Tuple [_, _] _ _] (Expr.Tuple _ _ _) _ :: _) _) _ _); refine S_tup2 (Cok.hh (by assumption)) ?_ (by rfl))
    | ((with_reducible show Mine.W _ _ _ (execs (Stmt.Assign [Expr.Tuple [_, _, _] _ _] (Expr.Tuple _ _ _) _ :: _) _) _ _); refine S_tup3 (Cok.hh (by assumption)) ?_ (by rfl))
    | ((with_reducible show Mine.W _ _ _ (execs (Stmt.Assign [Expr.Tuple _ _ _] _ _ :: _) _) _ _); refine S_unpack ?_)
    | fail "none"
  k_with "name" => first
    | refine E_nameL (by with_reducible k_extra "mm") ⟨rfl, rfl, rfl⟩ (by rfl) ?_
    | refine E_nameG (K := Mine.hd.heap_1 _) (by assumption) rfl rfl (by rfl) (by k_is) ?_
    | (refine E_nameB (K := Mine.hd.heap_1 _) (by assumption) rfl rfl rfl (by rfl) (by k_is) (by first | boot_fast | boot_by_name) (by decide) ?_)
    | refine E_nameC rfl (by rfl) (by rfl) (by with_reducible k_extra "mm") ?_
    | refine E_nameF rfl (by rfl) (by rfl) (by with_reducible k_extra "mm") ?_
    | fail "none"
  k_with "expr" => first
    | ((with_reducible show Mine.W _ _ _ (eval (Expr.Name _ _) _) _ _); k_extra "name")
    | ((with_reducible show Mine.W _ _ _ (eval (Expr.Constant _ _ _) _) _ _); (first | (refine E_int ?_; intro _) | (refine E_str ?_; intro _) | refine E_bool ?_ | refine E_none ?_ | (refine E_bytes ?_; intro _)))
    | ((with_reducible show Mine.W _ _ _ (eval (Expr.BinOp _ _ _ _) _) _ _); refine E_bin ?_)
    | ((with_reducible show Mine.W _ _ _ (eval (Expr.Call (Expr.Attribute _ _ _) _ _ _) _) _ _); refine E_meth ?_)
    | ((with_reducible show Mine.W _ _ _ (eval (Expr.Call _ _ _ _) _) _ _); refine E_call ?_)
    | ((with_reducible show Mine.W _ _ _ (eval (Expr.Attribute _ _ _) _) _ _); refine E_attr ?_)
    | ((with_reducible show Mine.W _ _ _ (eval (Expr.Subscript _ (Expr.Slice _ _ _ _) _) _) _ _); k_extra "slice")
    | ((with_reducible show Mine.W _ _ _ (eval (Expr.Subscript _ _ _) _) _ _); refine E_sub ?_)
    | ((with_reducible show Mine.W _ _ _ (eval (Expr.Tuple _ _ _) _) _ _); refine E_tuple ?_)
    | ((with_reducible show Mine.W _ _ _ (eval (Expr.List _ _) _) _ _); refine E_list ?_)
    | ((with_reducible show Mine.W _ _ _ (eval (Expr.IfExp _ _ _ _) _) _ _); refine E_ife ?_)
    | ((with_reducible show Mine.W _ _ _ (eval (Expr.Compare _ _ _ _) _) _ _); refine E_cmp ?_)
    | ((with_reducible show Mine.W _ _ _ (eval (Expr.UnaryOp _ _ _) _) _ _); refine E_un ?_)
    | fail "none"
  k_with "slice" => first
    | ((with_reducible show Mine.W _ _ _ (eval (Expr.Subscript _ (Expr.Slice (some _) (some _) none _) _) _) _ _); refine E_slice ?_)
    | ((with_reducible show Mine.W _ _ _ (eval (Expr.Subscript _ (Expr.Slice none (some _) none _) _) _) _ _); refine E_sliceU ?_)
    | ((with_reducible show Mine.W _ _ _ (eval (Expr.Subscript _ (Expr.Slice (some _) none none _) _) _) _ _); refine E_sliceL ?_)
    | fail "none"
  k_with "test" => first
    | ((with_reducible show Mine.W _ _ _ (PySem.isTrue (Expr.Compare _ [_] _ _) _ _) _ _); refine T_cmp ?_)
    | ((with_reducible show Mine.W _ _ _ (PySem.isTrue (Expr.Compare _ _ _ _) _ _) _ _); refine T_chain ?_)
    | ((with_reducible show Mine.W _ _ _ (PySem.isTrue (Expr.UnaryOp UnaryOp.Not _ _) _ _) _ _); refine T_not ?_)
    | ((with_reducible show Mine.W _ _ _ (PySem.isTrue (Expr.BoolOp _ _ _) _ _) _ _); refine T_bool ?_)
    | refine T_val ?_
    | fail "none"
  k_with "op" => first
    | ((with_reducible refine O_add ?_); intro _)
    | ((with_reducible refine O_sub ?_); intro _)
    | ((with_reducible refine O_and ?_); intro _)
    | ((with_reducible refine O_or ?_); intro _)
    | ((with_reducible refine O_xor ?_); intro _)
    | ((with_reducible refine O_mod ?_ ?_); (focus first | decide | omega); intro _)
    | ((with_reducible refine O_mul ?_ ?_); rotate_left; (focus first | exact IntMulOk.of_left (by decide) | exact IntMulOk.of_right (by decide) | mul_fits); intro _)
    | ((with_reducible refine O_shl ?_ ?_ ?_ ?_); (focus first | decide | omega); (focus first | decide | omega); (focus first | exact u8_lt _ | omega); intro _)
    | ((with_reducible refine O_shr ?_ ?_); (focus first | decide | omega); intro _)
    | ((with_reducible refine B_add ?_ ?_); (focus first | decide | omega | (simp only [List.length_append, List.length_cons, List.length_nil]; omega)); intro _)
    | fail "none"
  k_with "cmp" => first
    | with_reducible refine O_eq ?_
    | with_reducible refine O_lt ?_
    | with_reducible refine O_le ?_
    | with_reducible refine O_gt ?_
    | with_reducible refine O_ge ?_
    | with_reducible refine O_ne ?_
    | with_reducible refine B_ne ?_
    | with_reducible refine O_isNone ?_
    | fail "none"
  k_with "callw" => first
    | refine C_def (K := Mine.hd.heap_1 _) (d := _) (by assumption) (by k_is) ?_
    | refine C_def0 (K := Mine.hd.heap_1 _) (d := _) (by assumption) (by k_is) ?_
    | fail "none"
  k_with "call" => first
    | ((with_reducible show Mine.W _ _ _ (call _ (_ ++ _) _) _ _); dsimp only [List.nil_append, List.cons_append])
    | ((with_reducible refine B_len ?_ ?_); (focus first | decide | omega); intro _)
    | ((with_reducible refine C_range1 ?_); intro _)
    | ((with_reducible show Mine.W _ _ _ (call (Value.type _) [Value.ref _] _) _ _); refine B_ofBA (by with_reducible k_extra "mm") (by (rw [sizeLine_eq]; (try simp only [List.length_append, List.length_map, List.length_cons, List.length_nil, List.length_take]); omega)) ?_; intro _)
    | fail "none"
  k_with "w" => first
    | ((with_reducible show Mine.W _ _ _ (storeName _ _ _) _ _); k_extra "store")
    | ((with_reducible show Mine.W _ _ _ (PySem.isTrue _ _ _) _ _); k_extra "test")
    | ((with_reducible show Mine.W _ _ _ (spliced _) _ _); (first | refine L_nil ?_ | refine L_cons ?_))
    | ((with_reducible show Mine.W _ _ _ (callWith _ (Value.ref _) _ _ _) _ _); k_extra "callw")
    | ((with_reducible show Mine.W _ _ _ (callWith _ _ _ _ _) _ _); (with_reducible first | refine C_type ?_ | refine C_bi ?_))
    | ((with_reducible show Mine.W _ _ _ (call _ _ _) _ _); k_extra "call")
    | ((with_reducible show Mine.W _ _ _ (binaryOp _ _ _) _ _); k_extra "op")
    | ((with_reducible show Mine.W _ _ _ (compareOp _ _ _) _ _); k_extra "cmp")
    | ((with_reducible show Mine.W _ _ _ (truthy _) _ _); (with_reducible refine T_b ?_))
    | ((with_reducible show Mine.W _ _ _ (assign _ _ _) _ _); (with_reducible first | refine A_name ?_ | refine A_tuple (Cok.hh (by assumption)) (.tup List.mem_cons_self) ?_))
    | ((with_reducible refine N_list ?_ ?_); (focus first | decide | size_fits); intro _)
    | ((with_reducible refine N_tuple ?_ ?_); (focus first | decide | size_fits); intro _)
    | ((with_reducible show Mine.W _ _ _ (assignInOrder _ _) _ _); (with_reducible first | refine IO_cons ?_ | refine IO_done ?_))
    | ((with_reducible show Mine.W _ _ _ (allTrue _ _ _) _ _); (with_reducible first | refine T_orN ?_ | refine T_or ?_))
    | ((with_reducible show Mine.W _ _ _ (testChain _ _ _ _) _ _); (first | refine TC_last ?_ | refine TC_cons ?_))
    | ((with_reducible show Mine.W _ _ _ (getMethod _ _ _) _ _); k_extra "meth")
    | ((with_reducible show Mine.W _ _ _ (subscriptTail _ _ _ _) _ _); (with_reducible refine B_item ?_ ?_ ?_ ?_); (focus omega); (focus omega); (focus omega); intro _)
    | fail "none"
  k_with "store" => first
    | refine W_store ⟨rfl, rfl, rfl⟩ (by rfl) (by k_extra "put") ?_
    | fail "none"
  k_with "meth" => first
    | (refine G_list (by with_reducible k_extra "mm") (by first | with_reducible exact slot_list_append) (by first | with_reducible exact type_list_append) ?_)
    | (refine G_ba (by with_reducible k_extra "mm") (by first | with_reducible exact By.sl_extend | with_reducible exact By.sl_append) (by first | with_reducible exact By.ty_extend | with_reducible exact By.ty_append) ?_)
    | fail "none"
  k_with "p" => first
    | ((with_reducible show (if _ = true then _ else _)); k_extra "ite")
    | (with_reducible first | refine Cont_next ?_ | refine Cont_ret ?_)
    | (refine ⟨_, _, _, _, _, _, rfl, rfl, rfl, ?_, ?_, ?_, ?_⟩; (focus omega); (focus omega); (focus omega); intro _)
    | (refine ⟨_, _, _, _, rfl, rfl, ?_, ?_, ?_⟩; (focus omega); (focus omega); intro _)
    | ((with_reducible show _ = Value.none ∧ _); refine ⟨rfl, ?_⟩)
    | ((with_reducible show ∃ a b, [_, _] = [a, b] ∧ _); refine ⟨_, _, rfl, ?_⟩)
    | ((with_reducible show ∃ a b d, [_, _, _] = [a, b, d] ∧ _); refine ⟨_, _, _, rfl, ?_⟩)
    | fail "none"
  k_with "ite" => first
    | ((with_reducible refine ite_no ?_ ?_); (focus first | decide | exact decide_eq_false (by omega) | exact not_dec (by omega) | exact beq_ne (by omega)))
    | ((with_reducible refine ite_yes ?_ ?_); (focus first | decide | exact decide_eq_true (by omega) | exact not_decT (by omega) | exact beq_eq (by omega)))
    | fail "none"
  k_with "ms" => first
    | ((with_reducible show Mine.W _ _ _ (eval _ _) _ _); k_extra "expr")
    | ((with_reducible show Mine.W _ _ _ (execs _ _) _ _); k_extra "stmt")
    | ((with_reducible show Mine.W _ _ _ _ _ _); k_extra "w")
    | k_extra "p"
    | fail "none"
  k_with "go" => repeat' (k_extra "ms")
  k_with "vstmt" => first
    | ((with_reducible show Mine.V _ _ _ (execs (Stmt.Assign [Expr.Name _ _] _ _ :: _) _) _ _); refine VS_assign ?_)
    | ((with_reducible show Mine.V _ _ _ (execs (Stmt.If _ _ _ _ :: _) _) _ _); refine VS_if ?_)
    | ((with_reducible show Mine.V _ _ _ (execs (Stmt.Return _ _ :: _) _) _ _); refine VS_return ?_)
    | ((with_reducible show Mine.V _ _ _ (execs (Stmt.Expr _ _ :: _) _) _ _); refine VS_expr ?_)
    | ((with_reducible show Mine.V _ _ _ (execs (Stmt.For _ _ _ _ _ :: _) _) _ _); refine VS_for ?_)
    | with_reducible refine VS_nil ?_
    | ((with_reducible show Mine.V _ _ _ (execs (Stmt.Assign [Expr.Tuple [_, _] _ _] (Expr.Tuple _ _ _) _ :: _) _) _ _); refine VS_tup2 (Cok.hh (by assumption)) ?_ (by rfl))
    | ((with_reducible show Mine.V _ _ _ (execs (Stmt.Assign [Expr.Tuple [_, _, _] _ _] (Expr.Tuple _ _ _) _ :: _) _) _ _); refine VS_tup3 (Cok.hh (by assumption)) ?_ (by rfl))
    | fail "none"
  k_with "v" => first
    | ((with_reducible refine BA_new (Cok.guards (by assumption)) ?_); intro _)
    | ((with_reducible show Mine.V _ _ _ (eval (Expr.Call (Expr.Attribute _ _ _) _ _ _) _) _ _); refine VE_meth ?_)
    | ((with_reducible show Mine.V _ _ _ (eval (Expr.Call _ _ _ _) _) _ _); refine VE_call ?_)
    | ((with_reducible show Mine.V _ _ _ (eval _ _) _ _); refine V_of ?_)
    | ((with_reducible show Mine.V _ _ _ (storeName _ _ _) _ _); refine V_of ?_)
    | ((with_reducible show Mine.V _ _ _ (PySem.isTrue _ _ _) _ _); refine V_of ?_)
    | ((with_reducible show Mine.V _ _ _ (spliced _) _ _); (first | refine VL_nil ?_ | refine VL_cons ?_))
    | ((with_reducible show Mine.V _ _ _ (callWith _ (Value.type _) _ _ _) _ _); (first | refine VC_type ?_ | refine VC_type0 ?_))
    | ((with_reducible show Mine.V _ _ _ (callWith _ (Value.builtin _) _ _ _) _ _); refine VC_bi ?_)
    | ((with_reducible show Mine.V _ _ _ (callWith _ (Value.ref _) _ _ _) _ _); refine VC_def (K := Mine.hd.heap_1 _) (d := _) (by assumption) (by k_is) ?_)
    | ((with_reducible show Mine.V _ _ _ (call _ (_ ++ _) _) _ _); dsimp only [List.nil_append, List.cons_append])
    | ((with_reducible show Mine.V _ _ _ (call (Value.builtin "len") [Value.bytes _ _] _) _ _); refine V_of ?_)
    | ((with_reducible show Mine.V _ _ _ (call (Value.type "bytes") _ _) _ _); refine V_of ?_)
    | fail "none"
  k_with "vs" => first
    | ((with_reducible show Mine.V _ _ _ (execs _ _) _ _); k_extra "vstmt")
    | ((with_reducible show Mine.V _ _ _ _ _ _); k_extra "v")
    | (with_reducible first | refine ContV_next ?_ | refine ContV_ret ?_)
    | k_extra "ms"
    | fail "none"
  k_with "vgo" => repeat' (k_extra "vs")
  trivial
example : True := by
  k_with "defc" => (
    (case ho => k_is); (case hcd => k_is)
    (case hb => first | exact fun s X => BindsTo.of_eq rfl | exact fun s X => binds_K X rfl (by k_is) rfl rfl (by kernel_rfl))
    (case hk => exact rfl); (case hn => (simp only [List.map_cons, List.map_nil]; decide)); (case hlb => rfl); (case hcn => decide); (case hcs => (intro L; rfl)); (case hc2 => (intro L; first | (simp; done) | (simp; exact fun e => absurd e (Nat.ne_of_gt (Nat.lt_of_lt_of_le (Nat.lt_succ_self _) (Nat.le_succ _)))))); (case hln => (simp only [List.map_cons, List.map_nil]; decide)); (case h1 => rfl); (case h2 => rfl); (case h3 => rfl))
  k_with "mm" => first
    | (with_reducible refine List.mem_append_right _ ?_; k_extra "mm")
    | with_reducible assumption
    | fail "none"
  k_with "pick" => first
    | with_reducible exact Pick.head
    | ((with_reducible show Pick _ (_ :: _) _); exact Pick.tail (by k_extra "pick"))
    | fail "none"
  k_with "has" => first
    | exact Has.refl _
    | ((with_reducible show Has _ (_ :: _)); exact Has.pick (by k_extra "pick") (by k_extra "has"))
    | (refine Has.of_sub ?_; k_extra "sbl")
    | fail "none"
  k_with "lk" => first
    | with_reducible exact lk_hit
    | exact rfl
    | (refine lk_skip (by decide) ?_; k_extra "lk")
    | fail "none"
  k_with "store" => first
    | (refine W_storeC ⟨rfl, rfl, rfl⟩ (by rfl) (by rfl) (by k_extra "lset") ?_)
    | fail "none"
  k_with "expr" => first
    | ((with_reducible show Mine.W _ _ _ (eval (Expr.ListComp _ [_] _ _) _) _ _); refine E_compK (CompNew.plain rfl (by decide)) ?_ rfl)
    | ((with_reducible show Mine.W _ _ _ (eval (Expr.BoolOp _ [_] _) _) _ _); refine E_one ?_)
    | ((with_reducible show Mine.W _ _ _ (eval (Expr.BoolOp _ _ _) _) _ _); refine E_and ?_)
    | ((with_reducible show Mine.W _ _ _ (eval (Expr.Compare _ (_ :: _ :: _) _ _) _) _ _); refine E_chain ?_)
    | fail "none"
  k_with "stmt" => first
    | ((with_reducible show Mine.W _ _ _ (execs (Stmt.Assign [Expr.Name _ _] (Expr.ListComp _ [_] _ _) _ :: _) _) _ _); refine S_assignC rfl (CompNew.plain rfl (by decide)) ?_ rfl)
    | fail "none"
  k_with "slice" => first
    | ((with_reducible show Mine.W _ _ _ (eval (Expr.Subscript _ (Expr.Slice (some _) none none _) _) _) _ _); refine E_sliceLx ?_)
    | fail "none"
  k_with "op" => first
    | ((with_reducible refine O_div ?_ ?_ ?_); (focus first | decide | omega); (focus exact PyProof.noPylong_small (by first | decide | omega)); intro _)
    | fail "none"
  k_with "call" => first
    | ((with_reducible refine O_min (Cok.hh (by assumption)) ?_); intro _)
    | ((with_reducible refine O_max (Cok.hh (by assumption)) ?_); intro _)
    | ((with_reducible refine F_chr ?_ ?_ ?_); (focus omega); (focus omega); intro _)
    | with_reducible refine B_ofBytes ?_
    | fail "none"
  k_with "w" => first
    | ((with_reducible show Mine.W _ _ _ (compareChain _ _ _ _) _ _); (first | refine CC_last ?_ | refine CC_link ?_))
    | ((with_reducible show Mine.W _ _ _ (getAttr (Value.ref _) _ _) _ _); (refine GA_own (K := Mine.hd.heap_1 _) (d := _) (by assumption) (by first | assumption | with_reducible k_extra "mm") (by first | assumption | with_reducible k_extra "mm") (by k_extra "lk") (by k_is) (by k_is) (by k_is) (by k_is) (by rfl) ?_))
    | ((with_reducible show Mine.W _ _ _ (setAttr (Value.ref _) _ _) _ _); (refine SA_dict (K := Mine.hd.heap_1 _) (d := _) (by assumption) (by first | assumption | with_reducible k_extra "mm") (by k_extra "lset") (by k_extra "put") (Nat.le_of_ble_eq_true rfl) (by k_is) (by k_is) (by k_is) (by k_is) ?_))
    | ((with_reducible show Mine.W _ _ _ (unaryOp _ _) _ _); (with_reducible refine O_neg ?_); intro _)
    | fail "none"
  k_with "meth" => first
    | with_reducible refine G_join ?_
    | (refine GM_inst (K := Mine.hd.heap_1 _) (d := _) (by assumption) (by first | assumption | with_reducible k_extra "mm") (by first | assumption | with_reducible k_extra "mm") (by k_extra "lk") (by k_is) (by k_is) (by k_is) ?_)
    | fail "none"
  k_with "p" => first
    | ((with_reducible show ∃ n4, _ :: _ = _ :: n4 ∧ _); refine ⟨_, rfl, ?_⟩)
    | fail "none"
  k_with "v" => first
    | ((with_reducible show Mine.V _ _ _ (eval (Expr.Tuple _ _ _) _) _ _); refine VE_tuple ?_)
    | ((with_reducible show Mine.V _ _ _ (callWith _ (Value.ref _) _ (backTo _ (starEach [] _)) _) _ _); refine V_of ?_)
    | fail "none"
  k_with "call" => first
    | with_reducible refine O_int ?_
    | ((with_reducible refine O_intB ?_); intro _)
    | fail "none"
  k_with "cmp" => first
    | with_reducible refine O_neS ?_
    | with_reducible refine O_eqS ?_
    | fail "none"
  trivial
example : True := by
  k_with "v" => first
    | ((with_reducible show Mine.V _ _ _ (PySem.isTrue (Expr.BoolOp _ _ _) _ _) _ _); refine VT_bool ?_)
    | ((with_reducible show Mine.V _ _ _ (PySem.isTrue (Expr.UnaryOp UnaryOp.Not _ _) _ _) _ _); refine VT_not ?_)
    | ((with_reducible show Mine.V _ _ _ (PySem.isTrue (Expr.Call _ _ _ _) _ _) _ _); refine VT_val ?_)
    | ((with_reducible show Mine.V _ _ _ (allTrue _ _ _) _ _); (first | refine VT_orN ?_ | refine VT_or ?_))
    | ((with_reducible show Mine.V _ _ _ (truthy (Value.bool _)) _ _); refine V_of ?_)
    | fail "none"
  trivial
noncomputable def lamQ : Str := "_law_right.<locals>.<lambda>"
theorem Has.front4 {x y z w : Addr × Desc} {tb m : Led} : Has (x :: y :: z :: w :: (tb ++ m)) (tb ++ (x :: y :: z :: w :: m)) := by
  have := (List.perm_append_comm (l₁ := [x, y, z, w]) (l₂ := tb)).append_right m
  exact .of_perm (by simpa using this)
theorem Has.back4 {f x y z p : Addr × Desc} {tb m : Led} : Has (f :: (tb ++ (x :: y :: z :: p :: m))) (p :: (tb ++ m)) := by
  have h0 : Has (tb ++ [x, y, z] ++ m) (tb ++ m) := .of_sub ((List.sublist_append_left tb [x, y, z]).append (List.Sublist.refl m))
  have := Has.drop f (Has.pull (p := p) h0)
  simpa using this
theorem refused_same {c : Cx} {l : Loc} {n : Led} {E : Value → Shared → Prop} {Q : Value → Loc → Led → Prop} {f : Addr} {b : Bool} {d : Nat} (V : Cok (hd.heap_1 c.w.params) c (d + 1)) (hh : Held c n) (hf : ∀ g L l h, St g L l n h → FnAt f h)
    (H : ∀ (env : Env) (L : Addr) (F : Desc) (l' : Loc), Cok (hd.heap_1 c.w.params) (c.sub env L) d → Held (c.sub env L) ((c.L, F) :: n) → Mine.V (c.sub env L) l' ((c.L, F) :: n) (call (.ref f) [])
      (fun v l1 n1 => b = false ∧ (∀ a, v ≠ .ref a) ∧ Has n1 ((c.L, F) :: n)) (Flown (c.sub env L) 63 fun l1 n1 => b = true ∧ l1 = l' ∧ n1 = (c.L, F) :: n))
    (q : Q (.bool b) l n) : Mine.V c l n (call (.ref 315) [.ref f]) Q E :=
  refused_is (Rn := fun n2 => n2 = n) V hh hf (fun env L F l' V' hH => ((H env L F l' V' hH).mono fun v l1 n1 x => ⟨x.1, x.2.1, n, x.2.2, rfl⟩).monoE fun ev s x => x.mono fun l1 n1 y => ⟨y.1, n, y.2.2 ▸ Has.refl _, rfl⟩) fun n2 e => e ▸ q
set_option maxHeartbeats 4000000 in
theorem law_right_out {c : Cx} {l : Loc} {tb m : Led} {E : Value → Shared → Prop} {Q : Value → Loc → Led → Prop} {bs : List UInt8} {cv : Addr} {px : List Px} {most : Int} {t u : Tok} (V : Cok (hd.heap_1 c.w.params) c 30) (hh : Held c m) (htb : Tb 329 lamQ tb) (C : Cv m cv px) (ok : ∀ p ∈ px, pxOk p) (hz : px.length ≤ 100) (hm : most < 1 ∨ 65535 < most)
    (q : ∀ tb', Tb 329 lamQ tb' → Q (.bool true) l (tb' ++ m)) : Mine.V c l (tb ++ m) (call (.ref 332) [.bytes bs.toArray t, .ref cv, .int most u]) Q E := by
  refine' V_defC (K := hd.heap_1 c.w.params) (d := 29) (binds := [(Str.ofString "octets", .bytes bs.toArray t), (Str.ofString "canvas", .ref cv), (Str.ofString "most", .int most u)]) (lb := []) (cs := fun L => [(L + 1 + 1 + 1, some (.int most u)), (L + 1 + 1, some (.ref cv)), (L + 1, some (.bytes bs.toArray t))]) V ?ho ?hcd ?hb ?hk ?hn ?hlb ?hcn ?hcs ?hc2 ?hln ?H ?h1 ?h2 ?h3
  k_extra "defc"
  intro L F V' wf hlt
  show Mine.V _ _ ((L + 1 + 1 + 1, CE (some (.int most u))) :: (L + 1 + 1, CE (some (.ref cv))) :: (L + 1, CE (some (.bytes bs.toArray t))) :: (c.L, F) :: (tb ++ m)) _ _ _
  refine Mine.V.has Has.front4 ?_
  have hhm : ∀ env : Env, env.frame = some L → env.scope.kind = .function → ∀ tb', Held (c.sub env L) (tb' ++ ((L + 1 + 1 + 1, CE (some (.int most u))) :: (L + 1 + 1, CE (some (.ref cv))) :: (L + 1, CE (some (.bytes bs.toArray t))) :: (c.L, F) :: m)) := fun env a b tb' =>
    hh.call a b wf (List.mem_append_right _ (by simp)) fun p hp => List.mem_append_right _ (by simp [hp])
  k_extra "vgo"
  have hm0 := hm
  rcases hm with hm | hm
  all_goals
    k_extra "vgo"
    refine E_lam V' (Has.refl _) htb rfl rfl rfl fun f c' pm ctv tb1 htb1 hc1 => ?_
    k_extra "vgo"
    refine refused_same (d := 25) (b := true) (V'.le (by decide)) ((hhm _ rfl rfl tb1).sub fun p hp => List.mem_cons_of_mem _ hp) (fun g L l h S => LAMO.fnAt List.mem_cons_self S) (fun env Lr Fr l' V2 hH2 => ?_) ?_
    · refine Mine.V.monoE (V_lamX (C := 63) (R := fun n1 => n1 = _) V2 (List.mem_cons_of_mem _ List.mem_cons_self) (List.mem_cons_of_mem _ (List.mem_cons_of_mem _ (List.mem_append_left _ hc1))) rfl (fun L3 F3 V3 wf3 hlt3 => ?_) (by decide)) fun ev s x => x.mono fun l1 n1 y => ⟨rfl, y.1, y.2⟩
      k_extra "vgo"
      exact Mine.V.monoE (stored_raises (V3.le (by decide)) (hH2.call rfl rfl wf3 List.mem_cons_self fun p hp => List.mem_cons_of_mem _ hp) hm0) fun ev s x => x.mono fun l1 n1 y => ⟨_, y.2 ▸ Has.refl _, rfl⟩
    k_extra "vgo"
    refine E_lam V' (Has.drop _ (Has.refl _)) htb1 rfl rfl rfl fun f2 c2' pm2 ctv2 tb2 htb2 hc2 => ?_
    k_extra "vgo"
    refine refused_same (d := 25) (b := true) (V'.le (by decide)) ((hhm _ rfl rfl tb2).sub fun p hp => List.mem_cons_of_mem _ hp) (fun g L l h S => LAMO.fnAt List.mem_cons_self S) (fun env Lr Fr l' V2 hH2 => ?_) ?_
    · refine Mine.V.monoE (V_lamX (C := 63) (R := fun n1 => n1 = _) V2 (List.mem_cons_of_mem _ List.mem_cons_self) (List.mem_cons_of_mem _ (List.mem_cons_of_mem _ (List.mem_append_left _ hc2))) rfl (fun L3 F3 V3 wf3 hlt3 => ?_) (by decide)) fun ev s x => x.mono fun l1 n1 y => ⟨rfl, y.1, y.2⟩
      k_extra "vgo"
      exact Mine.V.monoE (stored_raises (bs := []) (V3.le (by decide)) (hH2.call rfl rfl wf3 List.mem_cons_self fun p hp => List.mem_cons_of_mem _ hp) hm0) fun ev s x => x.mono fun l1 n1 y => ⟨_, y.2 ▸ Has.refl _, rfl⟩
    k_extra "vgo"
    refine E_lam V' (Has.drop _ (Has.refl _)) htb2 rfl rfl rfl fun f3 c3' pm3 ctv3 tb3 htb3 hc3 => ?_
    k_extra "vgo"
    refine refused_same (d := 25) (b := true) (V'.le (by decide)) ((hhm _ rfl rfl tb3).sub fun p hp => List.mem_cons_of_mem _ hp) (fun g L l h S => LAMO.fnAt List.mem_cons_self S) (fun env Lr Fr l' V2 hH2 => ?_) ?_
    · refine Mine.V.monoE (V_lamX (C := 63) (R := fun n1 => n1 = _) V2 (List.mem_cons_of_mem _ List.mem_cons_self) (List.mem_cons_of_mem _ (List.mem_cons_of_mem _ (List.mem_append_left _ hc3))) rfl (fun L3 F3 V3 wf3 hlt3 => ?_) (by decide)) fun ev s x => x.mono fun l1 n1 y => ⟨rfl, y.1, y.2⟩
      k_extra "vgo"
      exact Mine.V.monoE (write_png_raises (V3.le (by decide)) (hH2.call rfl rfl wf3 List.mem_cons_self fun p hp => List.mem_cons_of_mem _ hp) (C.mono fun x hx => List.mem_cons_of_mem _ (List.mem_cons_of_mem _ (List.mem_cons_of_mem _ (List.mem_append_right _ (List.mem_cons_of_mem _ (List.mem_cons_of_mem _ (List.mem_cons_of_mem _ (List.mem_cons_of_mem _ hx)))))))) ok hz hm0) fun ev s x => x.mono fun l1 n1 y => ⟨_, y.2 ▸ Has.refl _, rfl⟩
    k_extra "vgo"
    exact Back.of_has (q tb3 htb3) Has.back4
example : True := by
  k_with "v" => first
    | ((with_reducible show Mine.V _ _ _ (PySem.isTrue (Expr.Compare _ [_] [_] _) _ _) _ _); refine VT_cmp ?_)
    | ((with_reducible show Mine.V _ _ _ (call (Value.type "list") _ _) _ _); refine V_of ?_)
    | fail "none"
  k_with "vstmt" => first
    | ((with_reducible show Mine.V _ _ _ (execs (Stmt.Assign [Expr.Tuple _ _ _] (Expr.Call _ _ _ _) _ :: _) _) _ _); refine VS_unpack ?_)
    | fail "none"
  trivial
theorem Has.append_right {n n' : Led} (h : Has n n') (m : Led) : Has (n ++ m) (n' ++ m) := let ⟨k, p, s⟩ := h; ⟨k ++ m, p.append_right m, s.append (List.Sublist.refl m)⟩
theorem get_is2 {c : Cx} {l : Loc} {n : Led} {E : Value → Shared → Prop} {Q : Value → Loc → Led → Prop} {cv : Addr} {px : List Px} {x y : Int} {t u : Tok} (V : Cok (hd.heap_1 c.w.params) c 2) (C : Cv n cv px) (h0 : 0 ≤ x) (h1 : x < px.length) (hz : px.length ≤ 100) (hy : y = 0)
    (q : ∀ v, C.vs[x.toNat]? = some v → Q v l n) : W c l n (call (.ref 152) [.ref cv, .int x t, .int y u]) Q E := by
  refine' W_def (K := hd.heap_1 c.w.params) (d := 1) (binds := [(Str.ofString "self", .ref cv), (Str.ofString "x", .int x t), (Str.ofString "y", .int y u)]) V ?ho ?hcd ?hb ?hl ?hn ?H ?hc ?h1 ?h2 ?h3
  k_extra "def"
  intro L F V' wf
  have C' : Cv ((c.L, F) :: n) cv px := C.mono fun x hx => List.mem_cons_of_mem _ hx
  obtain ⟨dx, ce, ra, t1, t2, vs, hI, hA, hC, hR, cols⟩ := C
  unfold cvA at hA
  dsimp only at q
  have hlen := cols.len
  obtain ⟨v, hv⟩ : ∃ v, vs[x.toNat]? = some v := ⟨vs[x.toNat]'(by omega), List.getElem?_eq_getElem _⟩
  k_extra "go"
  refine holds_is (V'.le (by decide)) C' h0 h1 hy ?_
  k_extra "go"
  refine L_item (v := .ref ra) (.list (by k_extra "mm")) (by omega) (by omega) (by rw [show (y - 0).toNat = 0 by omega]; rfl) ?_
  k_extra "go"
  refine L_item (v := v) (.list (by k_extra "mm")) (by omega) (by omega) (by rw [show (x - 0).toNat = x.toNat by omega]; exact hv) ?_
  k_extra "go"
  exact ⟨_, q v hv, by k_extra "back"⟩
theorem stored_isB {c : Cx} {l : Loc} {n : Led} {E : Value → Shared → Prop} {Q : Value → Loc → Led → Prop} {bs : List UInt8} {most : Nat} {t u : Tok} (V : Cok (hd.heap_1 c.w.params) c 3) (h0 : 1 ≤ most) (h1 : most ≤ 65535) (hz : bs.length ≤ 65535)
    (q : ∀ t, Q (.bytes (storedB most bs).toArray t) l n) : Mine.V c l n (call (.ref 110) [.bytes bs.toArray t, .int most u]) Q E := stored_is V h0 h1 hz q
theorem unstored_isB {c : Cx} {l : Loc} {n : Led} {E : Value → Shared → Prop} {Q : Value → Loc → Led → Prop} {bs : List UInt8} {most : Nat} {t : Tok} (V : Cok (hd.heap_1 c.w.params) c 3) (hm0 : 1 ≤ most) (hm1 : most ≤ 65535) (hz : bs.length ≤ 65535)
    (q : ∀ t, Q (.bytes bs.toArray t) l n) : Mine.V c l n (call (.ref 124) [.bytes (storedB most bs).toArray t]) Q E := unstored_is V hm0 hm1 hz q
set_option maxHeartbeats 4000000 in
theorem law_right_in {c : Cx} {l : Loc} {tb m : Led} {E : Value → Shared → Prop} {Q : Value → Loc → Led → Prop} {bs : List UInt8} {cv : Addr} {px : List Px} {most : Nat} {t u : Tok} (V : Cok (hd.heap_1 c.w.params) c 40) (hh : Held c m) (htb : Tb 329 lamQ tb) (C : Cv m cv px) (ok : ∀ p ∈ px, pxOk p) (hw : 1 ≤ px.length) (hz : px.length ≤ 100) (hb : bs.length ≤ 1000) (h0 : 1 ≤ most) (h1 : most ≤ 65535)
    (q : ∀ tb', Tb 329 lamQ tb' → Q (.bool true) l (tb' ++ m)) : Mine.V c l (tb ++ m) (call (.ref 332) [.bytes bs.toArray t, .ref cv, .int most u]) Q E := by
  refine' V_defC (K := hd.heap_1 c.w.params) (d := 39) (binds := [(Str.ofString "octets", .bytes bs.toArray t), (Str.ofString "canvas", .ref cv), (Str.ofString "most", .int most u)]) (lb := []) (cs := fun L => [(L + 1 + 1 + 1, some (.int most u)), (L + 1 + 1, some (.ref cv)), (L + 1, some (.bytes bs.toArray t))]) V ?ho ?hcd ?hb ?hk ?hn ?hlb ?hcn ?hcs ?hc2 ?hln ?H ?h1 ?h2 ?h3
  k_extra "defc"
  intro L F V' wf hlt
  show Mine.V _ _ ((L + 1 + 1 + 1, CE (some (.int most u))) :: (L + 1 + 1, CE (some (.ref cv))) :: (L + 1, CE (some (.bytes bs.toArray t))) :: (c.L, F) :: (tb ++ m)) _ _ _
  refine Mine.V.has Has.front4 ?_
  have hhm : ∀ env : Env, env.frame = some L → env.scope.kind = .function → ∀ tb', Held (c.sub env L) (tb' ++ ((L + 1 + 1 + 1, CE (some (.int most u))) :: (L + 1 + 1, CE (some (.ref cv))) :: (L + 1, CE (some (.bytes bs.toArray t))) :: (c.L, F) :: m)) := fun env a b tb' =>
    hh.call a b wf (List.mem_append_right _ (by simp)) fun p hp => List.mem_append_right _ (by simp [hp])
  k_extra "vgo"
  refine E_lam V' (Has.refl _) htb rfl rfl rfl fun f c' pm ctv tb1 htb1 hc1 => ?_
  k_extra "vgo"
  refine refused_same (d := 25) (b := false) (V'.le (by decide)) ((hhm _ rfl rfl tb1).sub fun p hp => List.mem_cons_of_mem _ hp) (fun g L l h S => LAMO.fnAt List.mem_cons_self S) (fun env Lr Fr l' V2 hH2 => ?_) ?_
  · refine V_lam V2 (List.mem_cons_of_mem _ List.mem_cons_self) (List.mem_cons_of_mem _ (List.mem_cons_of_mem _ (List.mem_append_left _ hc1))) rfl (fun L3 F3 V3 wf3 hlt3 ret => ?_) (by decide)
    k_extra "vgo"
    refine stored_isB (V3.le (by decide)) h0 h1 (by omega) fun t2 => ?_
    exact ⟨_, ⟨rfl, fun a e => (by cases e), Has.refl _⟩, Has.refl _⟩
  k_extra "vgo"
  refine stored_isB (V'.le (by decide)) h0 h1 (by omega) fun t2 => ?_
  k_extra "vgo"
  have hsl := storedB_len most bs
  refine C_listB V'.hh (by rw [sizeLine_eq]; omega) fun la ls hls => ?_
  k_extra "vgo"
  refine V_of ?_
  refine law_stream_is (V'.le (by decide)) h0 h1 (by omega) fun D vs hvs => ?_
  k_extra "vgo"
  have hu : ∀ (env : Env), (c.sub env L).A.units + 64 < cLine := fun env => by have := V.units; show c.A.units + 3 + 64 < _; omega
  refine O_neI (ns := u8I (storedB most bs)) (ms := u8I (storedB most bs)) (.list (by k_extra "mm")) (.list (by k_extra "mm")) hls hvs (hu _) ?_
  rw [show (!decide (u8I (storedB most bs) = u8I (storedB most bs))) = false by simp]
  k_extra "vgo"
  refine stored_isB (V'.le (by decide)) h0 h1 (by omega) fun t3 => ?_
  k_extra "vgo"
  refine unstored_isB (bs := bs) (most := most) (V'.le (by show 3 ≤ _; decide)) h0 h1 (by omega) fun t4 => ?_
  k_extra "vgo"
  k_extra "ex"
  rw [show (bs != bs) = false by simp]
  refine Mine.V.has (Has.drop _ (Has.drop _ (Has.drop _ (Has.refl _)))) ?_
  k_extra "vgo"
  have C1 := C.mono (n' := tb1 ++ ((L + 1 + 1 + 1, CE (some (.int most u))) :: (L + 1 + 1, CE (some (.ref cv))) :: (L + 1, CE (some (.bytes bs.toArray t))) :: (c.L, F) :: m)) fun x hx => List.mem_append_right _ (List.mem_cons_of_mem _ (List.mem_cons_of_mem _ (List.mem_cons_of_mem _ (List.mem_cons_of_mem _ hx))))
  refine write_png_is (V'.le (by decide)) C1 ok hz h0 h1 fun t5 => ?_
  k_extra "vgo"
  refine read_png_is (V'.le (by decide)) hw hz h0 h1 fun T ro r0 os t6 t7 ho hos => ?_
  k_extra "vgo"
  have hro : ∀ (j : Nat) v, (os.map fun p => Value.ref p.1)[j]? = some v → ∃ a x, v = .ref a ∧ px[j]? = some x ∧ (a, TUPI (pxI x)) ∈ os.reverse ++ tb1 := fun j v e => by
    rw [List.getElem?_map] at e
    cases hp : os[j]? with
    | none => rw [hp] at e; cases e
    | some p =>
      rw [hp] at e
      obtain ⟨x, hx, hd⟩ := hos j p hp
      exact ⟨p.1, x, (Option.some.inj e).symm, hx, List.mem_append_left _ (List.mem_reverse.mpr (by rw [← hd]; exact List.mem_of_getElem? hp))⟩
  rw [← List.append_assoc]
  have hrs : Has (os.reverse ++ tb1) tb1 := .of_sub (List.sublist_append_right ..)
  have hvl : (os.map fun p => Value.ref p.1).length = px.length := by rw [List.length_map, ho]
  generalize os.reverse ++ tb1 = rs at hro hrs ⊢
  generalize (os.map fun p => Value.ref p.1) = vr at hro hvl ⊢
  refine V_of ?_
  have hI := C.hI
  have hA := C.hA
  unfold cvA at hA
  refine S_assignC rfl (CompNew.one (y := Str.ofString "y") (fun _ _ => rfl) (fun _ => rfl)) ?_ rfl
  k_extra "go"
  refine I_range List.mem_cons_self (by decide) (by decide) (by omega) (by omega) fun it => ⟨it, rfl, fun C0 acc F1 wf1 => ?_⟩
  have hvs := C.cols.len
  refine RK_once (ex := [(C0 + 1, CE none)]) (R := fun y n4 => ∃ d0, y = .ref d0 ∧ n4 = (d0, LST C.vs) :: (L, F1) :: (T, TUP [.int (px.length : Int) t6, .int 1 t7, .ref ro]) :: (ro, LST [.ref r0]) :: (r0, LST vr) :: (rs ++ ((L + 1 + 1 + 1, CE (some (.int most u))) :: (L + 1 + 1, CE (some (.ref cv))) :: (L + 1, CE (some (.bytes bs.toArray t))) :: (c.L, F) :: m))) rfl (itr_range (V'.comp C0).hh it 0 (1 - 0 : Int).toNat) (fun l n Q E q hm => SI_range hm q) ?_ ?_
  · rintro v d ⟨t8, rfl⟩
    have V1 := V'.comp C0
    show W _ _ ((it, d) :: (acc, LST []) :: (C0 + 1, CE none) :: (L, F1) :: _) _ _ _
    k_extra "go"
    refine I_range List.mem_cons_self (by decide) (by decide) (by omega) (by omega) fun it2 => ⟨it2, rfl, fun C2 acc2 F2 wf2 => ?_⟩
    refine RKp (R := fun i ys => ys = C.vs.take i) (itr_range (V1.comp C2).hh it2 0 (px.length - 0 : Int).toNat) (fun l n Q E q hm => SI_range hm q) (by rw [sizeLine_eq]; omega) rfl (fun i ys h => by rw [h]; exact List.length_take_le _ _) (fun _ => trivial) ?_ ?_
    · rintro i ys v d2 hi rfl ⟨t9, rfl⟩
      have V2 := V1.comp C2
      k_extra "go"
      refine get_is2 (V2.le (by decide)) (C.mono fun x hx => by with_reducible k_extra "mm") (by omega) (by omega) hz (by omega) fun v hv => ?_
      refine ⟨?_, Has.refl _⟩
      have e : C.vs[i]? = some v := by rw [← hv]; congr 1; omega
      rw [List.take_succ, e]
      rfl
    · rintro ys n' hy hn'
      obtain rfl : ys = C.vs := by rw [hy, List.take_of_length_le (by omega)]
      refine ⟨_, hn', _, ⟨acc2, rfl, rfl⟩, ?_⟩
      k_extra "has"
  · rintro y n' ⟨d0, rfl, rfl⟩
    refine ⟨_, by k_extra "has", fun p => ?_⟩
    k_extra "go"
    k_extra "ex"
    rename_i tA tB
    have hu : ∀ (env : Env), (c.sub env L).A.units + 3 < cLine := fun env => by have := V.units; show c.A.units + 3 + 3 < _; omega
    refine O_eqTup (vs := [.int (px.length : Int) t6, .int 1 t7]) (ws := [.int (px.length : Int) C.t1, .int 1 C.t2]) (ns := [(px.length : Int), 1]) (.tup (by k_extra "mm")) (.tup (by k_extra "mm")) (.cons _ _ (.cons _ _ .nil)) (.cons _ _ (.cons _ _ .nil)) (Nat.lt_of_le_of_lt (Nat.le_add_right _ 3) (hu _)) ?_
    k_extra "go"
    refine I_list (vs := [.ref r0]) (.list (by k_extra "mm")) fun it3 hne => ⟨it3, rfl, fun C3 acc3 F3 wf3 => ?_⟩
    refine RKn (G := fun _ d => d = LST vr) (itr_list (V'.comp C3).hh it3 ro [.ref r0]) (fun l n Q E q hm => SI_list hm q) (by rw [sizeLine_eq]; show 1 ≤ _; decide) (fun ys os => ⟨.list (by k_extra "mm"), hne⟩) ?_ ?_
    · rintro i os v d hi ho hv
      have V3 := V'.comp C3
      have hi : i < 1 := hi
      obtain rfl : i = 0 := by omega
      obtain rfl : v = .ref r0 := by simpa using hv.symm
      k_extra "go"
      refine C_listL (vs := vr) (.list (by k_extra "mm")) (by rw [sizeLine_eq]; omega) fun D3 => ?_
      exact ⟨D3, _, rfl, rfl, by k_extra "has"⟩
    · intro os3 n' ho3 hg hn'
      obtain ⟨⟨d1, o1⟩, rfl⟩ : ∃ p, os3 = [p] := by
        rcases os3 with _ | ⟨p, _ | ⟨_, _⟩⟩
        · simp at ho3
        · exact ⟨p, rfl⟩
        · simp at ho3
      obtain rfl : o1 = LST vr := hg 0 _ rfl
      refine ⟨_, hn', ?_⟩
      show W _ _ ((acc3, LST [.ref d1]) :: (d1, LST vr) :: _) _ _ _
      k_extra "go"
      refine O_eqRows (r := d1) (d := d0) (vs := vr) (ws := C.vs) (.list (by k_extra "mm")) (.list (by k_extra "mm")) (.list (by k_extra "mm")) (.list (by k_extra "mm")) (hvl.trans hvs.symm) (hu _) (fun j v w e1 e2 => ?_) ?_
      · obtain ⟨a, x, rfl, hx, hm⟩ := hro j v e1
        obtain ⟨p, hp, hcol⟩ := C.cols.at e2
        obtain rfl : x = p := Option.some.inj (hx.symm.trans hp)
        obtain ⟨b, ws, rfl, hi, kn⟩ := hcol.kn V' (by k_is)
        refine ⟨a, b, ws, ws, _, rfl, rfl, hi, hi, .led (a := a) (d := TUPI (pxI x)) ?_ fun h o ho ⟨us, h1, h2⟩ => ⟨us, h1, TUP.is ho h2⟩, fun l h S => ⟨ws, hi, kn l h (S.has (.drop _ (.drop _ (.drop _ (.drop _ (.drop _ (.drop _ (.drop _ (.drop _ (.drop _ (.of_sub (((((List.Sublist.refl m).cons _).cons _).cons _).cons _ |>.trans (List.sublist_append_right rs _)))))))))))))⟩⟩
        exact List.mem_cons_of_mem _ (List.mem_cons_of_mem _ (List.mem_cons_of_mem _ (List.mem_cons_of_mem _ (List.mem_cons_of_mem _ (List.mem_cons_of_mem _ (List.mem_cons_of_mem _ (List.mem_cons_of_mem _ (List.mem_cons_of_mem _ (List.mem_append_left _ hm)))))))))
      · k_extra "go"
        refine Back.of_has (q tb1 htb1) ?_
        have h0 : Has (rs ++ ((L + 1 + 1 + 1, CE (some (.int (most : Int) u))) :: (L + 1 + 1, CE (some (.ref cv))) :: (L + 1, CE (some (.bytes bs.toArray t))) :: (c.L, F) :: m)) ((c.L, F) :: (rs ++ m)) := by
          have h0 : Has (rs ++ [(L + 1 + 1 + 1, CE (some (.int (most : Int) u))), (L + 1 + 1, CE (some (.ref cv))), (L + 1, CE (some (.bytes bs.toArray t)))] ++ m) (rs ++ m) := .of_sub ((List.sublist_append_left rs _).append (List.Sublist.refl m))
          have := Has.pull (p := (c.L, F)) h0
          simpa using this
        exact .drop _ (.drop _ (.drop _ (.drop _ (.drop _ (.drop _ (.drop _ (.drop _ (.drop _ (h0.trans ((hrs.append_right m).cons _))))))))))
example : True := by
  k_with_none
  k_with "ex" => skip
  k_with "mm" => first
    | exact List.mem_cons_self
    | (refine List.mem_cons_of_mem _ ?_; k_extra "mm")
    | fail "none"
  k_with "put" => first
    | with_reducible exact Put.hit
    | with_reducible exact Put.nil
    | ((with_reducible show Put _ _ (_ :: _) _); exact Put.skipS (by decide) (by k_extra "put"))
    | fail "none"
  k_with "lset" => first
    | exact LSet.head
    | ((with_reducible show LSet _ _ _ (_ :: _) _); exact LSet.tail (by k_extra "lset"))
    | fail "none"
  k_with "sbl" => first
    | exact List.Sublist.refl _
    | (refine List.Sublist.cons_cons _ ?_; k_extra "sbl")
    | (refine List.Sublist.cons _ ?_; k_extra "sbl")
    | exact List.nil_sublist _
    | fail "none"
  k_with "ints" => first
    | exact IntsAre.nil
    | (refine IntsAre.cons _ _ ?_; k_extra "ints")
    | fail "none"
  k_with "back" => first
    | exact ⟨_, List.perm_middle (l₁ := []), by k_extra "sbl"⟩
    | exact ⟨_, List.perm_middle (l₁ := [_]), by k_extra "sbl"⟩
    | exact ⟨_, List.perm_middle (l₁ := [_, _]), by k_extra "sbl"⟩
    | exact ⟨_, List.perm_middle (l₁ := [_, _, _]), by k_extra "sbl"⟩
    | exact ⟨_, List.perm_middle (l₁ := [_, _, _, _]), by k_extra "sbl"⟩
    | exact ⟨_, List.perm_middle (l₁ := [_, _, _, _, _]), by k_extra "sbl"⟩
    | exact ⟨_, List.perm_middle (l₁ := [_, _, _, _, _, _]), by k_extra "sbl"⟩
    | exact ⟨_, List.perm_middle (l₁ := [_, _, _, _, _, _, _]), by k_extra "sbl"⟩
    | fail "none"
  k_with "def" => (
    (case ho => k_is); (case hcd => k_is)
    (case hb => first | exact fun s X => BindsTo.of_eq rfl | exact fun s X => binds_K X rfl (by k_is) rfl rfl (by kernel_rfl))
    (case hl => exact locs (by rfl)); (case hn => (simp only [List.map_cons, List.map_nil]; decide)); (case hc => decide); (case h1 => rfl); (case h2 => rfl); (case h3 => rfl))
  k_with "stmt" => first
    | ((with_reducible show Mine.W _ _ _ (execs (Stmt.Assign [Expr.Name _ _] _ _ :: _) _) _ _); refine S_assign ?_)
    | ((with_reducible show Mine.W _ _ _ (execs (Stmt.If _ _ _ _ :: _) _) _ _); refine S_if ?_)
    | ((with_reducible show Mine.W _ _ _ (execs (Stmt.Return _ _ :: _) _) _ _); refine S_return ?_)
    | ((with_reducible show Mine.W _ _ _ (execs (Stmt.Expr _ _ :: _) _) _ _); refine S_expr ?_)
    | ((with_reducible show Mine.W _ _ _ (execs (Stmt.For _ _ _ _ _ :: _) _) _ _); refine S_for ?_)
    | with_reducible refine S_nil ?_
    | ((with_reducible show Mine.W _ _ _ (execs (Stmt.Assign [Expr.Attribute _ _ _] _ _ :: _) _) _ _); refine S_assignA ?_)
    | ((with_reducible show Mine.W _ _ _ (execs (Stmt.Assign [Expr.Subscript _ _ _] _ _ :: _) _) _ _); refine S_assignS ?_)
    | ((with_reducible show Mine.W _ _ _ (execs (Stmt.Assign [Expr.Tuple [_, _] _ _] (Expr.Tuple _ _ _) _ :: _) _) _ _); refine S_tup2 (Cok.hh (by assumption)) ?_ (by rfl))
    | ((with_reducible show Mine.W _ _ _ (execs (Stmt.Assign [Expr.Tuple [_, _, _] _ _] (Expr.Tuple _ _ _) _ :: _) _) _ _); refine S_tup3 (Cok.hh (by assumption)) ?_ (by rfl))
    | ((with_reducible show Mine.W _ _ _ (execs (Stmt.Assign [Expr.Tuple _ _ _] _ _ :: _) _) _ _); refine S_unpack ?_)
    | fail "none"
  k_with "name" => first
    | refine E_nameL (by with_reducible k_extra "mm") ⟨rfl, rfl, rfl⟩ (by rfl) ?_
    | refine E_nameG (K := Mine.hd.heap_1 _) (by assumption) rfl rfl (by rfl) (by k_is) ?_
    | (refine E_nameB (K := Mine.hd.heap_1 _) (by assumption) rfl rfl rfl (by rfl) (by k_is) (by first | boot_fast | boot_by_name) (by decide) ?_)
    | refine E_nameC rfl (by rfl) (by rfl) (by with_reducible k_extra "mm") ?_
    | refine E_nameF rfl (by rfl) (by rfl) (by with_reducible k_extra "mm") ?_
    | fail "none"
  k_with "expr" => first
    | ((with_reducible show Mine.W _ _ _ (eval (Expr.Name _ _) _) _ _); k_extra "name")
    | ((with_reducible show Mine.W _ _ _ (eval (Expr.Constant _ _ _) _) _ _); (first | (refine E_int ?_; intro _) | (refine E_str ?_; intro _) | refine E_bool ?_ | refine E_none ?_ | (refine E_bytes ?_; intro _)))
    | ((with_reducible show Mine.W _ _ _ (eval (Expr.BinOp _ _ _ _) _) _ _); refine E_bin ?_)
    | ((with_reducible show Mine.W _ _ _ (eval (Expr.Call (Expr.Attribute _ _ _) _ _ _) _) _ _); refine E_meth ?_)
    | ((with_reducible show Mine.W _ _ _ (eval (Expr.Call _ _ _ _) _) _ _); refine E_call ?_)
    | ((with_reducible show Mine.W _ _ _ (eval (Expr.Attribute _ _ _) _) _ _); refine E_attr ?_)
    | ((with_reducible show Mine.W _ _ _ (eval (Expr.Subscript _ (Expr.Slice _ _ _ _) _) _) _ _); k_extra "slice")
    | ((with_reducible show Mine.W _ _ _ (eval (Expr.Subscript _ _ _) _) _ _); refine E_sub ?_)
    | ((with_reducible show Mine.W _ _ _ (eval (Expr.Tuple _ _ _) _) _ _); refine E_tuple ?_)
    | ((with_reducible show Mine.W _ _ _ (eval (Expr.List _ _) _) _ _); refine E_list ?_)
    | ((with_reducible show Mine.W _ _ _ (eval (Expr.IfExp _ _ _ _) _) _ _); refine E_ife ?_)
    | ((with_reducible show Mine.W _ _ _ (eval (Expr.Compare _ _ _ _) _) _ _); refine E_cmp ?_)
    | ((with_reducible show Mine.W _ _ _ (eval (Expr.UnaryOp _ _ _) _) _ _); refine E_un ?_)
    | fail "none"
  k_with "slice" => first
    | ((with_reducible show Mine.W _ _ _ (eval (Expr.Subscript _ (Expr.Slice (some _) (some _) none _) _) _) _ _); refine E_slice ?_)
    | ((with_reducible show Mine.W _ _ _ (eval (Expr.Subscript _ (Expr.Slice none (some _) none _) _) _) _ _); refine E_sliceU ?_)
    | ((with_reducible show Mine.W _ _ _ (eval (Expr.Subscript _ (Expr.Slice (some _) none none _) _) _) _ _); refine E_sliceL ?_)
    | fail "none"
  k_with "test" => first
    | ((with_reducible show Mine.W _ _ _ (PySem.isTrue (Expr.Compare _ [_] _ _) _ _) _ _); refine T_cmp ?_)
    | ((with_reducible show Mine.W _ _ _ (PySem.isTrue (Expr.Compare _ _ _ _) _ _) _ _); refine T_chain ?_)
    | ((with_reducible show Mine.W _ _ _ (PySem.isTrue (Expr.UnaryOp UnaryOp.Not _ _) _ _) _ _); refine T_not ?_)
    | ((with_reducible show Mine.W _ _ _ (PySem.isTrue (Expr.BoolOp _ _ _) _ _) _ _); refine T_bool ?_)
    | refine T_val ?_
    | fail "none"
  k_with "op" => first
    | ((with_reducible refine O_add ?_); intro _)
    | ((with_reducible refine O_sub ?_); intro _)
    | ((with_reducible refine O_and ?_); intro _)
    | ((with_reducible refine O_or ?_); intro _)
    | ((with_reducible refine O_xor ?_); intro _)
    | ((with_reducible refine O_mod ?_ ?_); (focus first | decide | omega); intro _)
    | ((with_reducible refine O_mul ?_ ?_); rotate_left; (focus first | exact IntMulOk.of_left (by decide) | exact IntMulOk.of_right (by decide) | mul_fits); intro _)
    | ((with_reducible refine O_shl ?_ ?_ ?_ ?_); (focus first | decide | omega); (focus first | decide | omega); (focus first | exact u8_lt _ | omega); intro _)
    | ((with_reducible refine O_shr ?_ ?_); (focus first | decide | omega); intro _)
    | ((with_reducible refine B_add ?_ ?_); (focus first | decide | omega | (simp only [List.length_append, List.length_cons, List.length_nil]; omega)); intro _)
    | fail "none"
  k_with "cmp" => first
    | with_reducible refine O_eq ?_
    | with_reducible refine O_lt ?_
    | with_reducible refine O_le ?_
    | with_reducible refine O_gt ?_
    | with_reducible refine O_ge ?_
    | with_reducible refine O_ne ?_
    | with_reducible refine B_ne ?_
    | with_reducible refine O_isNone ?_
    | fail "none"
  k_with "callw" => first
    | refine C_def (K := Mine.hd.heap_1 _) (d := _) (by assumption) (by k_is) ?_
    | refine C_def0 (K := Mine.hd.heap_1 _) (d := _) (by assumption) (by k_is) ?_
    | fail "none"
  k_with "call" => first
    | ((with_reducible show Mine.W _ _ _ (call _ (_ ++ _) _) _ _); dsimp only [List.nil_append, List.cons_append])
    | ((with_reducible refine B_len ?_ ?_); (focus first | decide | omega); intro _)
    | ((with_reducible refine C_range1 ?_); intro _)
    | ((with_reducible show Mine.W _ _ _ (call (Value.type _) [Value.ref _] _) _ _); refine B_ofBA (by with_reducible k_extra "mm") (by (rw [sizeLine_eq]; (try simp only [List.length_append, List.length_map, List.length_cons, List.length_nil, List.length_take]); omega)) ?_; intro _)
    | fail "none"
  k_with "w" => first
    | ((with_reducible show Mine.W _ _ _ (storeName _ _ _) _ _); k_extra "store")
    | ((with_reducible show Mine.W _ _ _ (PySem.isTrue _ _ _) _ _); k_extra "test")
    | ((with_reducible show Mine.W _ _ _ (spliced _) _ _); (first | refine L_nil ?_ | refine L_cons ?_))
    | ((with_reducible show Mine.W _ _ _ (callWith _ (Value.ref _) _ _ _) _ _); k_extra "callw")
    | ((with_reducible show Mine.W _ _ _ (callWith _ _ _ _ _) _ _); (with_reducible first | refine C_type ?_ | refine C_bi ?_))
    | ((with_reducible show Mine.W _ _ _ (call _ _ _) _ _); k_extra "call")
    | ((with_reducible show Mine.W _ _ _ (binaryOp _ _ _) _ _); k_extra "op")
    | ((with_reducible show Mine.W _ _ _ (compareOp _ _ _) _ _); k_extra "cmp")
    | ((with_reducible show Mine.W _ _ _ (truthy _) _ _); (with_reducible refine T_b ?_))
    | ((with_reducible show Mine.W _ _ _ (assign _ _ _) _ _); (with_reducible first | refine A_name ?_ | refine A_tuple (Cok.hh (by assumption)) (.tup List.mem_cons_self) ?_))
    | ((with_reducible refine N_list ?_ ?_); (focus first | decide | size_fits); intro _)
    | ((with_reducible refine N_tuple ?_ ?_); (focus first | decide | size_fits); intro _)
    | ((with_reducible show Mine.W _ _ _ (assignInOrder _ _) _ _); (with_reducible first | refine IO_cons ?_ | refine IO_done ?_))
    | ((with_reducible show Mine.W _ _ _ (allTrue _ _ _) _ _); (with_reducible first | refine T_orN ?_ | refine T_or ?_))
    | ((with_reducible show Mine.W _ _ _ (testChain _ _ _ _) _ _); (first | refine TC_last ?_ | refine TC_cons ?_))
    | ((with_reducible show Mine.W _ _ _ (getMethod _ _ _) _ _); k_extra "meth")
    | ((with_reducible show Mine.W _ _ _ (subscriptTail _ _ _ _) _ _); (with_reducible refine B_item ?_ ?_ ?_ ?_); (focus omega); (focus omega); (focus omega); intro _)
    | fail "none"
  k_with "store" => first
    | refine W_store ⟨rfl, rfl, rfl⟩ (by rfl) (by k_extra "put") ?_
    | fail "none"
  k_with "meth" => first
    | (refine G_list (by with_reducible k_extra "mm") (by first | with_reducible exact slot_list_append) (by first | with_reducible exact type_list_append) ?_)
    | (refine G_ba (by with_reducible k_extra "mm") (by first | with_reducible exact By.sl_extend | with_reducible exact By.sl_append) (by first | with_reducible exact By.ty_extend | with_reducible exact By.ty_append) ?_)
    | fail "none"
  k_with "p" => first
    | ((with_reducible show (if _ = true then _ else _)); k_extra "ite")
    | (with_reducible first | refine Cont_next ?_ | refine Cont_ret ?_)
    | (refine ⟨_, _, _, _, _, _, rfl, rfl, rfl, ?_, ?_, ?_, ?_⟩; (focus omega); (focus omega); (focus omega); intro _)
    | (refine ⟨_, _, _, _, rfl, rfl, ?_, ?_, ?_⟩; (focus omega); (focus omega); intro _)
    | ((with_reducible show _ = Value.none ∧ _); refine ⟨rfl, ?_⟩)
    | ((with_reducible show ∃ a b, [_, _] = [a, b] ∧ _); refine ⟨_, _, rfl, ?_⟩)
    | ((with_reducible show ∃ a b d, [_, _, _] = [a, b, d] ∧ _); refine ⟨_, _, _, rfl, ?_⟩)
    | fail "none"
  k_with "ite" => first
    | ((with_reducible refine ite_no ?_ ?_); (focus first | decide | exact decide_eq_false (by omega) | exact not_dec (by omega) | exact beq_ne (by omega)))
    | ((with_reducible refine ite_yes ?_ ?_); (focus first | decide | exact decide_eq_true (by omega) | exact not_decT (by omega) | exact beq_eq (by omega)))
    | fail "none"
  k_with "ms" => first
    | ((with_reducible show Mine.W _ _ _ (eval _ _) _ _); k_extra "expr")
    | ((with_reducible show Mine.W _ _ _ (execs _ _) _ _); k_extra "stmt")
    | ((with_reducible show Mine.W _ _ _ _ _ _); k_extra "w")
    | k_extra "p"
    | fail "none"
  k_with "go" => repeat' (k_extra "ms")
  k_with "vstmt" => first
    | ((with_reducible show Mine.V _ _ _ (execs (Stmt.Assign [Expr.Name _ _] _ _ :: _) _) _ _); refine VS_assign ?_)
    | ((with_reducible show Mine.V _ _ _ (execs (Stmt.If _ _ _ _ :: _) _) _ _); refine VS_if ?_)
    | ((with_reducible show Mine.V _ _ _ (execs (Stmt.Return _ _ :: _) _) _ _); refine VS_return ?_)
    | ((with_reducible show Mine.V _ _ _ (execs (Stmt.Expr _ _ :: _) _) _ _); refine VS_expr ?_)
    | ((with_reducible show Mine.V _ _ _ (execs (Stmt.For _ _ _ _ _ :: _) _) _ _); refine VS_for ?_)
    | with_reducible refine VS_nil ?_
    | ((with_reducible show Mine.V _ _ _ (execs (Stmt.Assign [Expr.Tuple [_, _] _ _] (Expr.Tuple _ _ _) _ :: _) _) _ _); refine VS_tup2 (Cok.hh (by assumption)) ?_ (by rfl))
    | ((with_reducible show Mine.V _ _ _ (execs (Stmt.Assign [Expr.Tuple [_, _, _] _ _] (Expr.Tuple _ _ _) _ :: _) _) _ _); refine VS_tup3 (Cok.hh (by assumption)) ?_ (by rfl))
    | fail "none"
  k_with "v" => first
    | ((with_reducible refine BA_new (Cok.guards (by assumption)) ?_); intro _)
    | ((with_reducible show Mine.V _ _ _ (eval (Expr.Call (Expr.Attribute _ _ _) _ _ _) _) _ _); refine VE_meth ?_)
    | ((with_reducible show Mine.V _ _ _ (eval (Expr.Call _ _ _ _) _) _ _); refine VE_call ?_)
    | ((with_reducible show Mine.V _ _ _ (eval _ _) _ _); refine V_of ?_)
    | ((with_reducible show Mine.V _ _ _ (storeName _ _ _) _ _); refine V_of ?_)
    | ((with_reducible show Mine.V _ _ _ (PySem.isTrue _ _ _) _ _); refine V_of ?_)
    | ((with_reducible show Mine.V _ _ _ (spliced _) _ _); (first | refine VL_nil ?_ | refine VL_cons ?_))
    | ((with_reducible show Mine.V _ _ _ (callWith _ (Value.type _) _ _ _) _ _); (first | refine VC_type ?_ | refine VC_type0 ?_))
    | ((with_reducible show Mine.V _ _ _ (callWith _ (Value.builtin _) _ _ _) _ _); refine VC_bi ?_)
    | ((with_reducible show Mine.V _ _ _ (callWith _ (Value.ref _) _ _ _) _ _); refine VC_def (K := Mine.hd.heap_1 _) (d := _) (by assumption) (by k_is) ?_)
    | ((with_reducible show Mine.V _ _ _ (call _ (_ ++ _) _) _ _); dsimp only [List.nil_append, List.cons_append])
    | ((with_reducible show Mine.V _ _ _ (call (Value.builtin "len") [Value.bytes _ _] _) _ _); refine V_of ?_)
    | ((with_reducible show Mine.V _ _ _ (call (Value.type "bytes") _ _) _ _); refine V_of ?_)
    | fail "none"
  k_with "vs" => first
    | ((with_reducible show Mine.V _ _ _ (execs _ _) _ _); k_extra "vstmt")
    | ((with_reducible show Mine.V _ _ _ _ _ _); k_extra "v")
    | (with_reducible first | refine ContV_next ?_ | refine ContV_ret ?_)
    | k_extra "ms"
    | fail "none"
  k_with "vgo" => repeat' (k_extra "vs")
  trivial
example : True := by
  k_with "defc" => (
    (case ho => k_is); (case hcd => k_is)
    (case hb => first | exact fun s X => BindsTo.of_eq rfl | exact fun s X => binds_K X rfl (by k_is) rfl rfl (by kernel_rfl))
    (case hk => exact rfl); (case hn => (simp only [List.map_cons, List.map_nil]; decide)); (case hlb => rfl); (case hcn => decide); (case hcs => (intro L; rfl)); (case hc2 => (intro L; first | (simp; done) | (simp; exact fun e => absurd e (Nat.ne_of_gt (Nat.lt_of_lt_of_le (Nat.lt_succ_self _) (Nat.le_succ _)))))); (case hln => (simp only [List.map_cons, List.map_nil]; decide)); (case h1 => rfl); (case h2 => rfl); (case h3 => rfl))
  k_with "mm" => first
    | (with_reducible refine List.mem_append_right _ ?_; k_extra "mm")
    | with_reducible assumption
    | fail "none"
  k_with "pick" => first
    | with_reducible exact Pick.head
    | ((with_reducible show Pick _ (_ :: _) _); exact Pick.tail (by k_extra "pick"))
    | fail "none"
  k_with "has" => first
    | exact Has.refl _
    | ((with_reducible show Has _ (_ :: _)); exact Has.pick (by k_extra "pick") (by k_extra "has"))
    | (refine Has.of_sub ?_; k_extra "sbl")
    | fail "none"
  k_with "lk" => first
    | with_reducible exact lk_hit
    | exact rfl
    | (refine lk_skip (by decide) ?_; k_extra "lk")
    | fail "none"
  k_with "store" => first
    | (refine W_storeC ⟨rfl, rfl, rfl⟩ (by rfl) (by rfl) (by k_extra "lset") ?_)
    | fail "none"
  k_with "expr" => first
    | ((with_reducible show Mine.W _ _ _ (eval (Expr.ListComp _ [_] _ _) _) _ _); refine E_compK (CompNew.plain rfl (by decide)) ?_ rfl)
    | ((with_reducible show Mine.W _ _ _ (eval (Expr.BoolOp _ [_] _) _) _ _); refine E_one ?_)
    | ((with_reducible show Mine.W _ _ _ (eval (Expr.BoolOp _ _ _) _) _ _); refine E_and ?_)
    | ((with_reducible show Mine.W _ _ _ (eval (Expr.Compare _ (_ :: _ :: _) _ _) _) _ _); refine E_chain ?_)
    | fail "none"
  k_with "stmt" => first
    | ((with_reducible show Mine.W _ _ _ (execs (Stmt.Assign [Expr.Name _ _] (Expr.ListComp _ [_] _ _) _ :: _) _) _ _); refine S_assignC rfl (CompNew.plain rfl (by decide)) ?_ rfl)
    | fail "none"
  k_with "slice" => first
    | ((with_reducible show Mine.W _ _ _ (eval (Expr.Subscript _ (Expr.Slice (some _) none none _) _) _) _ _); refine E_sliceLx ?_)
    | fail "none"
  k_with "op" => first
    | ((with_reducible refine O_div ?_ ?_ ?_); (focus first | decide | omega); (focus exact PyProof.noPylong_small (by first | decide | omega)); intro _)
    | fail "none"
  k_with "call" => first
    | ((with_reducible refine O_min (Cok.hh (by assumption)) ?_); intro _)
    | ((with_reducible refine O_max (Cok.hh (by assumption)) ?_); intro _)
    | ((with_reducible refine F_chr ?_ ?_ ?_); (focus omega); (focus omega); intro _)
    | with_reducible refine B_ofBytes ?_
    | fail "none"
  k_with "w" => first
    | ((with_reducible show Mine.W _ _ _ (compareChain _ _ _ _) _ _); (first | refine CC_last ?_ | refine CC_link ?_))
    | ((with_reducible show Mine.W _ _ _ (getAttr (Value.ref _) _ _) _ _); (refine GA_own (K := Mine.hd.heap_1 _) (d := _) (by assumption) (by first | assumption | with_reducible k_extra "mm") (by first | assumption | with_reducible k_extra "mm") (by k_extra "lk") (by k_is) (by k_is) (by k_is) (by k_is) (by rfl) ?_))
    | ((with_reducible show Mine.W _ _ _ (setAttr (Value.ref _) _ _) _ _); (refine SA_dict (K := Mine.hd.heap_1 _) (d := _) (by assumption) (by first | assumption | with_reducible k_extra "mm") (by k_extra "lset") (by k_extra "put") (Nat.le_of_ble_eq_true rfl) (by k_is) (by k_is) (by k_is) (by k_is) ?_))
    | ((with_reducible show Mine.W _ _ _ (unaryOp _ _) _ _); (with_reducible refine O_neg ?_); intro _)
    | fail "none"
  k_with "meth" => first
    | with_reducible refine G_join ?_
    | (refine GM_inst (K := Mine.hd.heap_1 _) (d := _) (by assumption) (by first | assumption | with_reducible k_extra "mm") (by first | assumption | with_reducible k_extra "mm") (by k_extra "lk") (by k_is) (by k_is) (by k_is) ?_)
    | fail "none"
  k_with "p" => first
    | ((with_reducible show ∃ n4, _ :: _ = _ :: n4 ∧ _); refine ⟨_, rfl, ?_⟩)
    | fail "none"
  k_with "v" => first
    | ((with_reducible show Mine.V _ _ _ (eval (Expr.Tuple _ _ _) _) _ _); refine VE_tuple ?_)
    | ((with_reducible show Mine.V _ _ _ (callWith _ (Value.ref _) _ (backTo _ (starEach [] _)) _) _ _); refine V_of ?_)
    | fail "none"
  k_with "call" => first
    | with_reducible refine O_int ?_
    | ((with_reducible refine O_intB ?_); intro _)
    | fail "none"
  k_with "cmp" => first
    | with_reducible refine O_neS ?_
    | with_reducible refine O_eqS ?_
    | fail "none"
  trivial
example : True := by
  k_with "v" => first
    | ((with_reducible show Mine.V _ _ _ (PySem.isTrue (Expr.BoolOp _ _ _) _ _) _ _); refine VT_bool ?_)
    | ((with_reducible show Mine.V _ _ _ (PySem.isTrue (Expr.UnaryOp UnaryOp.Not _ _) _ _) _ _); refine VT_not ?_)
    | ((with_reducible show Mine.V _ _ _ (PySem.isTrue (Expr.Call _ _ _ _) _ _) _ _); refine VT_val ?_)
    | ((with_reducible show Mine.V _ _ _ (allTrue _ _ _) _ _); (first | refine VT_orN ?_ | refine VT_or ?_))
    | ((with_reducible show Mine.V _ _ _ (truthy (Value.bool _)) _ _); refine V_of ?_)
    | fail "none"
  trivial
theorem law_right_is {c : Cx} {l : Loc} {tb m : Led} {E : Value → Shared → Prop} {Q : Value → Loc → Led → Prop} {bs : List UInt8} {cv : Addr} {px : List Px} {most : Int} {t u : Tok} (V : Cok (hd.heap_1 c.w.params) c 40) (hh : Held c m) (htb : Tb 329 lamQ tb) (C : Cv m cv px) (ok : ∀ p ∈ px, pxOk p) (hw : 1 ≤ px.length) (hz : px.length ≤ 100) (hb : bs.length ≤ 1000)
    (q : ∀ tb', Tb 329 lamQ tb' → Q (.bool true) l (tb' ++ m)) : Mine.V c l (tb ++ m) (call (.ref 332) [.bytes bs.toArray t, .ref cv, .int most u]) Q E := by
  by_cases h : most < 1 ∨ 65535 < most
  · exact law_right_out (V.le (by decide)) hh htb C ok hz h q
  · obtain ⟨k, rfl⟩ : ∃ k : Nat, most = (k : Int) := ⟨most.toNat, by omega⟩
    exact law_right_in V hh htb C ok hw hz hb (by omega) (by omega) q
theorem Has.swap {m tb : Led} : Has (m ++ tb) (tb ++ m) := .of_perm List.perm_append_comm
/-- ints of a byte's size -/
noncomputable def B8 (i : Nat) (ys : List Value) : Prop := ∃ ns : List Int, IntsAre ys ns ∧ ns.length = i ∧ ∀ x ∈ ns, 0 ≤ x ∧ x < 256
theorem B8.len {i : Nat} {ys : List Value} (h : B8 i ys) : ys.length = i := let ⟨_, a, b, _⟩ := h; (ints_size a).trans b
theorem B8.snoc {i : Nat} {ys : List Value} (h : B8 i ys) {r : Int} (h0 : 0 ≤ r) (h1 : r < 256) (t : Tok) : B8 (i + 1) (ys ++ [.int r t]) := by
  obtain ⟨ns, a, b, k⟩ := h
  refine ⟨ns ++ [r], intsAre_snoc a _ _, by simp [b], fun x hx => ?_⟩
  rcases List.mem_append.mp hx with hx | hx
  · exact k x hx
  · rw [List.mem_singleton.mp hx]; exact ⟨h0, h1⟩
theorem Cols.rep : ∀ w : Nat, Cols [] (List.replicate w (.ref 125)) (List.replicate w ((0, 0, 0, 0) : Px))
  | 0 => .nil
  | w + 1 => .cons ⟨125, _, rfl, .cons _ _ (.cons _ _ (.cons _ _ (.cons _ _ .nil))), .inr ⟨rfl, rfl⟩⟩ (Cols.rep w)
theorem B8.px {ys : List Value} (h : B8 3 ys) (t : Tok) : ∃ p : Px, pxOk p ∧ IntsAre (ys ++ [.int 255 t]) (pxI p) := by
  obtain ⟨ns, a, b, k⟩ := h
  rcases ns with _ | ⟨x, _ | ⟨y, _ | ⟨z, _ | ⟨_, _⟩⟩⟩⟩ <;> simp at b
  have hx := k x (by simp)
  have hy := k y (by simp)
  have hz := k z (by simp)
  refine ⟨(x.toNat.toUInt8, y.toNat.toUInt8, z.toNat.toUInt8, 255), .inr rfl, ?_⟩
  have e : pxI (x.toNat.toUInt8, y.toNat.toUInt8, z.toNat.toUInt8, 255) = [x, y, z] ++ [255] := by
    show [((x.toNat.toUInt8.toNat : Nat) : Int), ((y.toNat.toUInt8.toNat : Nat) : Int), ((z.toNat.toUInt8.toNat : Nat) : Int), 255] = _
    rw [byte_back hx.1 hx.2, byte_back hy.1 hy.2, byte_back hz.1 hz.2]
    rfl
  rw [e]
  exact intsAre_snoc a _ _
theorem Has.last {r x y z p q : Addr × Desc} {ex tb : Led} : Has (r :: (ex ++ x :: y :: z :: p :: q :: tb)) (tb ++ (r :: (ex ++ [x, y, z]))) := by
  have h : Has ((r :: (ex ++ [x, y, z])) ++ (p :: q :: tb)) (tb ++ (r :: (ex ++ [x, y, z]))) := (Has.of_sub ((List.Sublist.refl _).append (((List.Sublist.refl tb).cons _).cons _))).trans Has.swap
  simpa using h
theorem L_ints {c : Cx} {l : Loc} {n : Led} {E : Value → Shared → Prop} {Q : Value → Loc → Led → Prop} {ax : Addr} {vs : List Value} {ns : List Int} {a : Int} {u : Tok} {e s : Expr} (k : Knows c n (·.IsList ax vs.toArray)) (hi : IntsAre vs ns) (h0 : 0 ≤ a) (h1 : a < vs.length) (h2 : vs.length ≤ 64) (q : ∀ x t, Q (.int x t) l n)
    (hs : subscripted s false (.ref ax) (.int a u) = operate [.ref ax, .int a u] (getItem (.ref ax) (.int a u)) := by with_unfolding_all rfl) : W c l n (subscriptTail e s (.ref ax) (.int a u)) Q E := by
  obtain ⟨v, hv⟩ : ∃ v, vs[a.toNat]? = some v := ⟨vs[a.toNat]'(by omega), List.getElem?_eq_getElem _⟩
  obtain ⟨x, t, -, rfl⟩ := ints_get hi hv
  exact L_item k h0 (by omega) hv (q x t) hs
set_option maxHeartbeats 8000000 in
theorem law_top {c : Cx} {h : Heap} {tk : Nat} {E : Value → Shared → Prop} {sa : Addr} {vs : List Value} (V : Cok (hd.heap_1 c.w.params) c 60) (hA : c.A.frames = some []) (h9 : h.get? 329 = some (tabObj #[])) (g9 : c.g.get? 329 = none)
    (keep : ∀ b o, c.g.get? b = some o → h.get? b = some o) (hsz : c.g.objs.size ≤ h.objs.size) (hk : ∀ L l n h, St c.g L l n h → h.IsList sa vs.toArray) (hv : ∀ v ∈ vs, ∃ x t, v = .int x t) (hz : vs.length ≤ 63) :
    wpN (model c.P c.w) c.A (call (.ref 337) [.ref sa]) (fun v s' => ∃ L l' n' h' tk', s' = { c.r with heap := h', toks := tk' } ∧ St c.g L l' n' h' ∧ v = .bool true ∧ ∃ ps, (329, TAB ps) ∈ n') E { c.r with heap := h, toks := tk } := by
  refine' top_call (K := hd.heap_1 c.w.params) (d := 59) (R := fun v n' => v = .bool true ∧ ∃ ps, (329, TAB ps) ∈ n') (n := [(329, TAB #[])]) (binds := [(Str.ofString "script", .ref sa)]) (lb := [(Str.ofString "script", .ref sa)]) (cs := fun L => [(L + 1, none)]) V ?ho ?hcd keep hsz ?hN ?hO ?hb ?hk ?hn ?hlb ?hcn ?hcs ?hc2 ?hln ?H ?h1 ?h2 ?h3
  case hN => exact List.nodup_cons.mpr ⟨List.not_mem_nil, List.nodup_nil⟩
  case hO =>
    intro p hp
    obtain rfl := List.mem_singleton.mp hp
    exact ⟨g9, _, h9, rfl⟩
  k_extra "defc"
  intro L V'
  have htb : Tb 329 lamQ [(329, TAB #[])] := ⟨#[], [], rfl, trivial, fun pos cv e => by cases e⟩
  generalize [(329, TAB #[])] = tb at htb ⊢
  show Mine.V _ _ ((L + 1, CE none) :: tb) _ _ _
  have hhm : ∀ (env : Env) m, env.frame = some L → env.scope.kind = .function → Held (c.sub env L) m := fun env m a b => ⟨env, [], Around.frames_deeper hA, a, b, fun x hx => nomatch hx⟩
  k_extra "vgo"
  refine V_of ?_
  refine canvas_is (w := 1) (V'.le (by decide)) (by decide) (by decide) fun cv dx ce ra => ?_
  k_extra "vgo"
  k_extra "ex"
  rename_i tw th i0 i1 i2 i3 fl
  refine R_listV V'.hh (vs := [.int 0 i0, .int 2 i1, .int 65535 i2, .int 65536 i3]) (fun i l' n' => l' = [(Str.ofString "script", .ref sa), (Str.ofString "canvas", .ref cv)] ∧ ∃ tb', Tb 329 lamQ tb' ∧
    n' = (fl, LST [.int 0 i0, .int 2 i1, .int 65535 i2, .int 65536 i3]) :: (ce, LST [.ref ra]) :: (ra, LST [.ref 125]) :: (cv, INST 193 dx) :: (dx, ATT (cvA 1 tw th ce)) :: (L + 1, CE none) :: tb') [(Str.ofString "script", .ref sa), (Str.ofString "canvas", .ref cv)]
    ((fl, LST [.int 0 i0, .int 2 i1, .int 65535 i2, .int 65536 i3]) :: (ce, LST [.ref ra]) :: (ra, LST [.ref 125]) :: (cv, INST 193 dx) :: (dx, ATT (cvA 1 tw th ce)) :: (L + 1, CE none) :: tb) List.mem_cons_self (List.Sublist.refl _) (List.Sublist.refl _) ⟨rfl, tb, htb, rfl⟩ ?_ ?_ ?_
  · rintro i l' n' ⟨_, tb', _, rfl⟩
    exact List.mem_cons_self
  · rintro i v l' n' a d hi ⟨rfl, tb1, htb1, rfl⟩
    obtain ⟨x, tx, -, rfl⟩ := ints_get (ns := [0, 2, 65535, 65536]) (.cons _ _ (.cons _ _ (.cons _ _ (.cons _ _ .nil)))) hi
    k_extra "vgo"
    refine' B_make (ns := [1, 2, 3]) V'.hh (.list List.mem_cons_self) (.cons _ _ (.cons _ _ (.cons _ _ .nil))) ?r ?z ?q
    case r => decide
    case z => rw [sizeLine_eq]; show 3 ≤ _; decide
    intro t1
    k_extra "vgo"
    refine Mine.V.has (Has.drop _ (Has.swap (m := [_, _, _, _, _, _, _]) (tb := tb1))) ?_
    refine law_right_is (V'.le (by decide)) (hhm _ _ rfl rfl) htb1 (px := [(0, 0, 0, 0)]) { dx := dx, ce := ce, ra := ra, t1 := tw, t2 := th, vs := [.ref 125], hI := by k_extra "mm", hA := by k_extra "mm", hC := by k_extra "mm", hR := by k_extra "mm", cols := .cons ⟨125, _, rfl, .cons _ _ (.cons _ _ (.cons _ _ (.cons _ _ .nil))), .inr ⟨rfl, rfl⟩⟩ .nil } (fun p hp => .inl (List.mem_singleton.mp hp)) (by decide) (by decide) (by decide) fun tb2 htb2 => ?_
    refine W.has (Has.swap (m := tb2) (tb := [_, _, _, _, _, _, _])) ?_
    k_extra "vgo"
    exact ⟨_, _, ⟨rfl, tb2, htb2, rfl⟩, by k_extra "sbl", by k_extra "sbl"⟩
  · rintro l' n' ⟨rfl, tb1, htb1, rfl⟩
    k_extra "vgo"
    refine Mine.V.has (n' := (L + 1, CE none) :: tb1) (.drop _ (.drop _ (.drop _ (.drop _ (.drop _ (.refl _)))))) ?_
    refine V_of ?_
    refine law_pool_is (V'.le (by decide)) (fun L l h S => hk L l _ h S) hv hz fun p => ?_
    k_extra "vgo"
    refine law_take_is (V'.le (by decide)) (by with_reducible k_extra "mm") (by decide) (by decide) fun r13 t13 h13 h13' => ?_
    k_extra "vgo"
    refine I_range List.mem_cons_self (by decide) (by decide) (by omega) (by omega) fun it => ⟨it, rfl, fun C0 acc F1 wf1 => ?_⟩
    refine RKp (R := B8) (itr_range (V'.comp C0).hh it 0 (r13 - 0 : Int).toNat) (fun l n Q E q hm => SI_range hm q) (by rw [sizeLine_eq]; omega) ⟨[], .nil, rfl, fun x hx => nomatch hx⟩ (fun i ys h => Nat.le_of_eq h.len) (fun _ => trivial) ?_ ?_
    · rintro i ys v d hi hy ⟨t1, rfl⟩
      have V1 := V'.comp C0
      k_extra "go"
      refine law_take_is (V1.le (by decide)) (by with_reducible k_extra "mm") (by decide) (by decide) fun r t h0 h1 => ?_
      exact ⟨hy.snoc h0 h1 t, Has.refl _⟩
    · rintro ys n' hy hn'
      refine ⟨_, hn', ?_⟩
      obtain ⟨ns, hns, hnl, hnb⟩ := hy
      k_extra "vgo"
      refine' B_make (ns := ns) V'.hh (.list List.mem_cons_self) hns ?rA ?zA ?qA
      case rA => exact hnb
      case zA => rw [ints_size hns, hnl, sizeLine_eq]; omega
      intro t2
      have hbl : (ns.map fun x => x.toNat.toUInt8).length ≤ 1000 := by rw [List.length_map]; omega
      generalize (ns.map fun x => x.toNat.toUInt8) = bs at hbl ⊢
      refine Mine.V.has (n' := (p, POOL) :: (L + 1, CE (some (.ref p))) :: tb1) (by k_extra "has") ?_
      k_extra "vgo"
      refine law_take_is (V'.le (by decide)) (by with_reducible k_extra "mm") (by decide) (by decide) fun r3 t3 h3 h3' => ?_
      k_extra "vgo"
      obtain ⟨w, hw⟩ : ∃ w : Nat, 1 + r3 = (w : Int) := ⟨(1 + r3).toNat, by omega⟩
      rw [hw]
      refine V_of ?_
      refine canvas_is (w := w) (V'.le (by decide)) (by omega) (by omega) fun cv dx ce ra => ?_
      k_extra "vgo"
      k_extra "ex"
      rename_i u1 u0 rg
      refine W.has (n' := (rg, RNG 0 (w : Int)) :: (ra, LST (List.replicate w (.ref 125))) :: (ce, LST [.ref ra]) :: (cv, INST 193 dx) :: (dx, ATT (cvA w u1 u0 ce)) :: (p, POOL) :: (L + 1, CE (some (.ref p))) :: tb1) (by k_extra "has") ?_
      refine R_rangeV (k := w) V'.hh (fun i l' n' => l' = [(Str.ofString "script", .ref sa), (Str.ofString "canvas", .ref cv), (Str.ofString "octets", .bytes bs.toArray t2)] ∧ ∃ (ex : Led) (vs' : List Value) (px : List Px),
        n' = (ra, LST vs') :: (ex ++ ((ce, LST [.ref ra]) :: (cv, INST 193 dx) :: (dx, ATT (cvA w u1 u0 ce)) :: (p, POOL) :: (L + 1, CE (some (.ref p))) :: tb1)) ∧ Cols ex vs' px ∧ (∀ p ∈ px, pxOk p) ∧ px.length = w)
        [(Str.ofString "script", .ref sa), (Str.ofString "canvas", .ref cv), (Str.ofString "octets", .bytes bs.toArray t2)] ((ra, LST (List.replicate w (.ref 125))) :: (ce, LST [.ref ra]) :: (cv, INST 193 dx) :: (dx, ATT (cvA w u1 u0 ce)) :: (p, POOL) :: (L + 1, CE (some (.ref p))) :: tb1)
        List.mem_cons_self (by omega) (List.Sublist.refl _) ((List.Sublist.refl _).cons _) ⟨rfl, [], _, _, rfl, Cols.rep w, fun p hp => .inl (List.eq_of_mem_replicate hp), List.length_replicate⟩ ?_ ?_
      · rintro i l' n' u a d hi ⟨rfl, ex, vs', px, rfl, hcols, hok, hpl⟩
        k_extra "vgo"
        refine I_range List.mem_cons_self (by decide) (by decide) (by decide) (by decide) fun it2 => ⟨it2, rfl, fun C2 acc2 F2 wf2 => ?_⟩
        refine RKp (R := B8) (itr_range (V'.comp C2).hh it2 0 (3 - 0 : Int).toNat) (fun l n Q E q hm => SI_range hm q) (by decide) ⟨[], .nil, rfl, fun x hx => nomatch hx⟩ (fun i ys h => Nat.le_of_eq h.len) (fun _ => trivial) ?_ ?_
        · rintro i2 ys v d2 hi2 hy ⟨t1, rfl⟩
          have V1 := V'.comp C2
          k_extra "go"
          refine law_take_is (V1.le (by decide)) (by with_reducible k_extra "mm") (by decide) (by decide) fun r t h0 h1 => ?_
          exact ⟨hy.snoc h0 h1 t, Has.refl _⟩
        · rintro ys n' hy hn'
          refine ⟨_, hn', ?_⟩
          k_extra "vgo"
          refine C_tupL (vs := ys) (.list List.mem_cons_self) (by rw [hy.len, sizeLine_eq]; decide) fun D => ?_
          k_extra "vgo"
          k_extra "ex"
          rename_i t255 fb
          have hyl := hy.len
          have hyl3 : ys.length = 3 := hyl
          refine O_addT (vs := ys) (ws := [.int 255 t255]) (.tup (by k_extra "mm")) (.tup (by k_extra "mm")) (fun e => by rw [e] at hyl3; cases hyl3) (fun e => by cases e) (by rw [hyl3, sizeLine_eq]; show 3 + 1 ≤ _; decide) fun D2 => ?_
          obtain ⟨pz, hpz, hpi⟩ := B8.px hy t255
          k_extra "vgo"
          refine V_of ?_
          have hii : ((i : Int)).toNat = i := by omega
          refine put_is (V'.le (by decide)) { dx := dx, ce := ce, ra := ra, t1 := u1, t2 := u0, vs := vs', hI := by k_extra "mm", hA := by rw [hpl]; k_extra "mm", hC := by k_extra "mm", hR := by k_extra "mm", cols := hcols.mono fun y hy => List.mem_cons_of_mem _ (List.mem_cons_of_mem _ (List.mem_cons_of_mem _ (List.mem_cons_of_mem _ (List.mem_cons_of_mem _ (List.mem_cons_of_mem _ (List.mem_cons_of_mem _ (List.mem_append_left _ hy))))))) } (by omega) (by omega) (by omega) rfl (by k_extra "lset") ?_
          refine ⟨rfl, ?_⟩
          rw [hii]
          refine Mine.V.has (n' := (a, d) :: (ra, LST (vs'.set i (.ref D2))) :: (((D2, TUP (ys ++ [.int 255 t255])) :: ex) ++ ((ce, LST [.ref ra]) :: (cv, INST 193 dx) :: (dx, ATT (cvA w u1 u0 ce)) :: (p, POOL) :: (L + 1, CE (some (.ref p))) :: tb1))) ?_ ?_
          · show Has ((D2, TUP (ys ++ [.int 255 t255])) :: (fb, TUP [.int 255 t255]) :: (D, TUP ys) :: (acc2, LST ys) :: (_, RNG 0 3) :: (a, d) :: (ra, LST (vs'.set i (.ref D2))) :: (ex ++ _)) ((a, d) :: (ra, LST (vs'.set i (.ref D2))) :: (D2, TUP (ys ++ [.int 255 t255])) :: (ex ++ _))
            k_extra "has"
          · k_extra "vgo"
            refine ⟨_, _, ⟨rfl, (D2, TUP (ys ++ [.int 255 t255])) :: ex, vs'.set i (.ref D2), px.set i pz, rfl, ?_, ?_, by rw [List.length_set]; exact hpl⟩, by k_extra "sbl", List.Sublist.refl _⟩
            · exact (hcols.mono fun y hy => List.mem_cons_of_mem _ hy).set ⟨D2, _, rfl, hpi, .inl List.mem_cons_self⟩ i
            · intro p' hp'
              rcases List.mem_or_eq_of_mem_set hp' with h | h
              · exact hok p' h
              · rw [h]; exact hpz
      · rintro l' n' ⟨rfl, ex, vs', px, rfl, hcols, hok, hpl⟩
        k_extra "vgo"
        refine law_take_is (V'.le (by decide)) (by with_reducible k_extra "mm") (by decide) (by decide) fun r24 t24 _ _ => ?_
        k_extra "vgo"
        refine law_take_is (V'.le (by decide)) (by with_reducible k_extra "mm") (by decide) (by decide) fun r4 t4 _ _ => ?_
        k_extra "vgo"
        cases hb4 : (r4 == 0)
        · k_extra "vgo"
          refine Mine.V.has Has.last ?_
          refine law_right_is (V'.le (by decide)) (hhm _ _ rfl rfl) htb1 (px := px) { dx := dx, ce := ce, ra := ra, t1 := u1, t2 := u0, vs := vs', hI := by k_extra "mm", hA := by rw [hpl]; k_extra "mm", hC := by k_extra "mm", hR := by k_extra "mm", cols := hcols.mono fun y hy => List.mem_cons_of_mem _ (List.mem_append_left _ hy) } hok (by omega) (by omega) hbl fun tb2 htb2 => ?_
          k_extra "vgo"
          obtain ⟨ps, cds, rfl, _⟩ := htb2
          exact ⟨rfl, ps, List.mem_append_left _ List.mem_cons_self⟩
        · k_extra "vgo"
          refine O_pow (by decide) (by decide) fun tp1 => ?_
          k_extra "vgo"
          refine O_pow (by decide) (by decide) fun tp2 => ?_
          k_extra "vgo"
          refine O_pow (by decide) (by decide) fun tp3 => ?_
          k_extra "vgo"
          refine law_take_is (V'.le (by decide)) (by with_reducible k_extra "mm") (by decide) (by decide) fun r7 t7 h7 h7' => ?_
          k_extra "vgo"
          refine L_ints (.list List.mem_cons_self) (.cons _ _ (.cons _ _ (.cons _ _ (.cons _ _ (.cons _ _ (.cons _ _ (.cons _ _ .nil))))))) h7 h7' (by show 7 ≤ _; decide) fun x tx => ?_
          k_extra "vgo"
          refine Mine.V.has (Has.drop _ Has.last) ?_
          refine law_right_is (V'.le (by decide)) (hhm _ _ rfl rfl) htb1 (px := px) { dx := dx, ce := ce, ra := ra, t1 := u1, t2 := u0, vs := vs', hI := by k_extra "mm", hA := by rw [hpl]; k_extra "mm", hC := by k_extra "mm", hR := by k_extra "mm", cols := hcols.mono fun y hy => List.mem_cons_of_mem _ (List.mem_append_left _ hy) } hok (by omega) (by omega) hbl fun tb2 htb2 => ?_
          k_extra "vgo"
          obtain ⟨ps, cds, rfl, _⟩ := htb2
          exact ⟨rfl, ps, List.mem_append_left _ List.mem_cons_self⟩
end Mine
end
section
open PySem PySem.W PySem.Calls PyProof.Rows
set_option Elab.async false
set_option maxRecDepth 100000
set_option linter.unusedVariables false
set_option maxHeartbeats 4000000
namespace Mine
example (w : World) (c : Cx) : c.P = PySem.Challenge.rw_qz0062_01.row.prog → (hd.heap_1 w.params).lookup 102 = none → True := by
  k_fill
  intro _ _; trivial
set_option maxHeartbeats 8000000 in
theorem J : PySem.Challenge.rw_qz0062_01.Holds := by
  refine hd ⟨left1 _ _, ?_⟩
  k_fill
  intro w s₀ s₁ mg mb G Y fa o pm cd doc dV kV ho hd' hcd hD hmg hg args vals as hpre hlay hrd hwl hlo
  have KX := km_in_of Y
  km_tabs Y
  have X := (Ground.X G).1
  have V := (Ground.X G).2
  refine Ground.open G ?_
  intro T B D TE TW
  try (refine guard_noD D (by decide +kernel) ?_; clear D)
  km_lay T hmg ho hd' cd
  have hfa : mg (Str.ofString "law") = some (.ref 337) := mg_of KX T.g (by k_is)
  obtain rfl : fa = 337 := by
    have e := hmg.symm.trans hfa
    injection e with e
    injection e
  clear hmg
  wrow_args hpre hlay hrd hwl hlo
  rename_i ns _ _ _ _ _ _ _ sa vs _ hL _ _ _ hI _ hcond _
  have hG := ghost_K hT9 KX (by kernel_rfl)
  have hpost : PySem.Challenge.rw_qz0062_01.row.claim.post [ofPy (PyData.list (List.map PyData.int ns))] (WData.bool true) [ofPy (PyData.list (List.map PyData.int ns))] = true := by with_unfolding_all rfl
  refine wpAny_guarded ?_ ?_
  · exact goodTop0 (fun _ => rfl) hpost hg
  · have hq : ((331, 329) : Addr × Addr) ∈ T9 := List.mem_cons_self
    have e9 : s₁.heap.get? 329 = some (tabObj #[]) := (hT9 _ hq).2
    have keep : ∀ b o, (ghostOf s₁.heap T9).get? b = some o → s₁.heap.get? b = some o := fun b o e => of_hideAll _ e
    have hL' := ghost_list hT9 hL
    refine wpN_mono (law_top (c := { P := PySem.Challenge.rw_qz0062_01.row.prog, w := w, A := callerA, r := s₁, g := ghostOf s₁.heap T9, L := 0 }) (h := s₁.heap) (tk := s₁.toks) (E := fun _ _ => False) (sa := sa) (vs := vs) ⟨⟨_, _, _, _, _, [], ghost_top hT9 T, rfl⟩, hG, codeHd_of_K hG (by kernel_rfl), rfl, rfl, by show callerA.depth + 60 < _; decide, by show callerA.units + 8 * 60 < _; decide⟩ rfl e9 (hideAll_none _ (List.mem_map_of_mem hq)) keep (Nat.le_of_eq (hideAll_size _ _)) (fun L l n h S => let ⟨o, e, r⟩ := hL'; ⟨o, S.keep _ _ e, r⟩) (fun v hv => ?_) ?_) (fun v s' ⟨L, l', n', h', tk', e, S, hv, ps, hm⟩ => ?_) fun _ _ x => x.elim
    · obtain ⟨j, hj⟩ := List.getElem?_of_mem hv
      obtain ⟨x, t, -, e⟩ := ints_get hI hj
      exact ⟨x, t, e⟩
    · rw [ints_size hI]; omega
    · subst e hv
      exact goodTop hT9 (fun _ => rfl) hpost hg S hm
end Mine
end
set_option maxRecDepth 100000 in
set_option maxHeartbeats 8000000 in
theorem PySem.Challenge.cw_qz0062_01_holds : PySem.Challenge.rw_qz0062_01.Holds :=
  Mine.J
