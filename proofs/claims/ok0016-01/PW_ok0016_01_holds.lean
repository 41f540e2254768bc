import PyProof.Rows.All
import Wide.All
import OpenK.AllK
import Wide.FinOn
import ObjForm.ListNI
import KE.KDictSum
import KE.KRevIter
import Lean
import PySem.Challenge.RW_ok0016_01
set_option Elab.async false
set_option maxRecDepth 100000
set_option linter.all false
set_option compiler.extract_closed false
set_option compiler.reuse false
set_option compiler.small 0
section
open PySem PySem.W PySem.W.X PyProof.Rows
namespace Mine

/-! ## Views, cells, states -/
noncomputable abbrev View := Addr → Option Obj
noncomputable abbrev Cell := Addr × (Obj → Prop)
noncomputable def Sub (B B' : View) : Prop := ∀ a o, B a = some o → B' a = some o
theorem Sub.refl (B : View) : Sub B B := fun _ _ e => e
theorem Sub.trans {B B' B'' : View} (x : Sub B B') (y : Sub B' B'') : Sub B B'' := fun a o e => y a o (x a o e)
noncomputable def put (B : View) (a : Addr) (o : Obj) : View := fun b => if b = a then some o else B b
theorem put_self {B : View} {a : Addr} {o : Obj} : put B a o a = some o := if_pos rfl
theorem put_ne {B : View} {a b : Addr} {o : Obj} (h : b ≠ a) : put B a o b = B b := if_neg h
theorem sub_put {B : View} {a : Addr} {o : Obj} (h : B a = none) : Sub B (put B a o) := fun b o' e => by
  have : b ≠ a := by rintro rfl; rw [h] at e; cases e
  rw [put_ne this]; exact e

structure St (z : Shared) (B : View) (cs : List Cell) (s : Shared) : Prop where
  gens : s.gens = z.gens
  drawn : s.drawn = z.drawn
  os : s.os = z.os
  base : ∀ a o, B a = some o → s.heap.get? a = some o
  cells : ∀ c ∈ cs, ∃ o, s.heap.get? c.1 = some o ∧ c.2 o
  nd : (cs.map (·.1)).Nodup
  off : ∀ c ∈ cs, B c.1 = none

section
variable {z : Shared} {B B' : View} {cs cs' : List Cell} {s : Shared}

theorem St.sub (S : St z B cs s) (h : Sub B' B) (hc : cs'.Sublist cs) : St z B' cs' s where
  gens := S.gens
  drawn := S.drawn
  os := S.os
  base := fun a o e => S.base a o (h a o e)
  cells := fun c hm => S.cells c (hc.subset hm)
  nd := S.nd.sublist (hc.map _)
  off := fun c hm => by
    cases e : B' c.1 with
    | none => rfl
    | some o => exact absurd (h _ _ e) (by rw [S.off c (hc.subset hm)]; simp)
theorem St.drop (S : St z B cs s) (hc : cs'.Sublist cs) : St z B cs' s := S.sub (Sub.refl _) hc
theorem St.tail {c : Cell} (S : St z B (c :: cs) s) : St z B cs s := S.drop (List.sublist_cons_self _ _)
theorem St.perm (S : St z B cs s) (p : cs.Perm cs') : St z B cs' s where
  gens := S.gens
  drawn := S.drawn
  os := S.os
  base := S.base
  cells := fun c hm => S.cells c (p.mem_iff.mpr hm)
  nd := (p.map _).nodup_iff.mp S.nd
  off := fun c hm => S.off c (p.mem_iff.mpr hm)

theorem St.toks (S : St z B cs s) (t : Nat) : St z B cs { s with toks := t } := ⟨S.gens, S.drawn, S.os, S.base, S.cells, S.nd, S.off⟩

/-- a step that keeps all that B and the cells say -/
theorem St.step (S : St z B cs s) {h' : Heap} {t : Nat} (k : ∀ a o, s.heap.get? a = some o → h'.get? a = some o) : St z B cs { s with heap := h', toks := t } where
  gens := S.gens
  drawn := S.drawn
  os := S.os
  base := fun a o e => k a o (S.base a o e)
  cells := fun c hm => let ⟨o, e, p⟩ := S.cells c hm; ⟨o, k _ _ e, p⟩
  nd := S.nd
  off := S.off

theorem St.new_off (S : St z B cs s) {a : Addr} (h : s.heap.get? a = none) : B a = none ∧ a ∉ cs.map (·.1) := by
  constructor
  · cases e : B a with
    | none => rfl
    | some o => rw [S.base a o e] at h; cases h
  · intro hm
    obtain ⟨c, hc, rfl⟩ := List.mem_map.mp hm
    obtain ⟨o, e, _⟩ := S.cells c hc
    rw [h] at e; cases e

/-- one new object becomes a cell -/
theorem St.alloc (S : St z B cs s) {h' : Heap} {t : Nat} {a : Addr} {P : Obj → Prop} {o : Obj} (hn : s.heap.get? a = none) (k : ∀ b o, b ≠ a → s.heap.get? b = some o → h'.get? b = some o)
    (ho : h'.get? a = some o) (hP : P o) : St z B ((a, P) :: cs) { s with heap := h', toks := t } where
  gens := S.gens
  drawn := S.drawn
  os := S.os
  base := fun b o e => k b o (by rintro rfl; rw [S.base _ _ e] at hn; cases hn) (S.base b o e)
  cells := fun c hm => by
    rcases List.mem_cons.mp hm with rfl | hm
    · exact ⟨o, ho, hP⟩
    · obtain ⟨x, e, p⟩ := S.cells c hm
      exact ⟨x, k _ _ (by intro q; rw [q, hn] at e; cases e) e, p⟩
  nd := by
    rw [List.map_cons, List.nodup_cons]
    exact ⟨(S.new_off hn).2, S.nd⟩
  off := fun c hm => by
    rcases List.mem_cons.mp hm with rfl | hm
    · exact (S.new_off hn).1
    · exact S.off c hm

/-- the cell at a, wherever it stands, says another thing -/
inductive At (a : Addr) (P P' : Obj → Prop) : List Cell → List Cell → Prop
  | here {r : List Cell} : At a P P' ((a, P) :: r) ((a, P') :: r)
  | there {c : Cell} {r r' : List Cell} : At a P P' r r' → At a P P' (c :: r) (c :: r')
theorem At.mem {a : Addr} {P P' : Obj → Prop} : ∀ {l l' : List Cell}, At a P P' l l' → (a, P) ∈ l
  | _, _, .here => .head _
  | _, _, .there h => .tail _ h.mem
theorem At.map {a : Addr} {P P' : Obj → Prop} : ∀ {l l' : List Cell}, At a P P' l l' → l'.map (·.1) = l.map (·.1)
  | _, _, .here => rfl
  | _, _, .there h => by simp only [List.map_cons, h.map]
theorem At.mem' {a : Addr} {P P' : Obj → Prop} : ∀ {l l' : List Cell}, At a P P' l l' → (l.map (·.1)).Nodup → ∀ c ∈ l', c = (a, P') ∨ (c ∈ l ∧ c.1 ≠ a)
  | _, _, .here, nd, c, hm => by
    rcases List.mem_cons.mp hm with rfl | hm
    · exact .inl rfl
    · exact .inr ⟨.tail _ hm, fun q => (List.nodup_cons.mp nd).1 (by rw [← q]; exact List.mem_map.mpr ⟨c, hm, rfl⟩)⟩
  | _, _, .there h, nd, c, hm => by
    rcases List.mem_cons.mp hm with rfl | hm
    · exact .inr ⟨.head _, fun q => (List.nodup_cons.mp nd).1 (by show c.1 ∈ _; rw [q]; exact List.mem_map.mpr ⟨_, h.mem, rfl⟩)⟩
    · rcases h.mem' (List.nodup_cons.mp nd).2 c hm with q | q
      · exact .inl q
      · exact .inr ⟨.tail _ q.1, q.2⟩
theorem St.at {a : Addr} {P P' : Obj → Prop} (S : St z B cs s) (u : At a P P' cs cs') : ∃ o, s.heap.get? a = some o ∧ P o := S.cells _ u.mem
theorem St.upd {a : Addr} {P P' : Obj → Prop} {o' : Obj} {h' : Heap} {t : Nat} (S : St z B cs s) (u : At a P P' cs cs') (k : ∀ b o, b ≠ a → s.heap.get? b = some o → h'.get? b = some o)
    (ho : h'.get? a = some o') (hP : P' o') : St z B cs' { s with heap := h', toks := t } where
  gens := S.gens
  drawn := S.drawn
  os := S.os
  base := fun b o e => k b o (by rintro rfl; have := S.off _ u.mem; rw [this] at e; cases e) (S.base b o e)
  cells := fun c hm => by
    rcases u.mem' S.nd c hm with rfl | ⟨q, ne⟩
    · exact ⟨o', ho, hP⟩
    · obtain ⟨x, e, p⟩ := S.cells c q
      exact ⟨x, k _ _ ne e, p⟩
  nd := by rw [u.map]; exact S.nd
  off := fun c hm => by
    rcases u.mem' S.nd c hm with rfl | ⟨q, _⟩
    · exact S.off (a, P) u.mem
    · exact S.off c q

/-- a cell goes into the frozen part -/
inductive Take (a : Addr) (P : Obj → Prop) : List Cell → List Cell → Prop
  | here {r : List Cell} : Take a P ((a, P) :: r) r
  | there {c : Cell} {r r' : List Cell} : Take a P r r' → Take a P (c :: r) (c :: r')
theorem Take.perm {a : Addr} {P : Obj → Prop} : ∀ {l l' : List Cell}, Take a P l l' → l.Perm ((a, P) :: l')
  | _, _, .here => .refl _
  | _, _, .there h => (h.perm.cons _).trans (.swap _ _ _)
theorem St.freeze1 {a : Addr} {P : Obj → Prop} (S : St z B ((a, P) :: cs) s) : ∃ o, P o ∧ B a = none ∧ St z (put B a o) cs s := by
  obtain ⟨o, e, p⟩ := S.cells _ (.head _)
  have hB := S.off _ (.head _)
  refine ⟨o, p, hB, S.gens, S.drawn, S.os, fun b o' q => ?_, fun c hm => S.cells c (.tail _ hm), (List.nodup_cons.mp S.nd).2, fun c hm => ?_⟩
  · by_cases hb : b = a
    · subst hb; rw [put_self] at q; cases q; exact e
    · rw [put_ne hb] at q; exact S.base b o' q
  · have ne : c.1 ≠ a := fun q => (List.nodup_cons.mp S.nd).1 (by rw [← q]; exact List.mem_map.mpr ⟨c, hm, rfl⟩)
    rw [put_ne ne]; exact S.off c (.tail _ hm)
theorem St.freeze {a : Addr} {P : Obj → Prop} (S : St z B cs s) (u : Take a P cs cs') : ∃ B' o, Sub B B' ∧ P o ∧ B' a = some o ∧ St z B' cs' s := by
  obtain ⟨o, p, hB, S'⟩ := (S.perm u.perm).freeze1
  exact ⟨_, o, sub_put hB, p, put_self, S'⟩
end

/-! ## What the objects say -/
/-- a frame's names -/
noncomputable def Lo (m : Str → Option Value) : Obj → Prop := fun o => ∃ es ep, o.data = .dict es ep ∧ StrKeys es ∧ ∀ name, nsFind es name = m name
noncomputable def LsO (vs : List Value) : Obj → Prop := fun o => ∃ n, o = { cls := .type "list", data := .seq vs.toArray n }
noncomputable def TpO (vs : List Value) : Obj → Prop := fun o => o.cls = .type "tuple" ∧ ∃ n, o.data = .seq vs.toArray n
/-- the attributes of an object -/
noncomputable def AtO (m : Str → Option Value) : Obj → Prop := fun o => ∃ es ep, o.data = .dict es ep ∧ StrKeys es ∧ UniqKeys es ∧ ∀ name, nsFind es name = m name
noncomputable def Has (B : View) (a : Addr) (P : Obj → Prop) : Prop := ∃ o, B a = some o ∧ P o
theorem Has.mono {B B' : View} {a : Addr} {P : Obj → Prop} (x : Has B a P) (h : Sub B B') : Has B' a P := let ⟨o, e, p⟩ := x; ⟨o, h _ _ e, p⟩
noncomputable def upd (m : Str → Option Value) (x : Str) (v : Value) : Str → Option Value := fun y => if y = x then some v else m y
theorem look_self {m : Str → Option Value} {x : Str} {v : Value} : upd m x v x = some v := if_pos rfl
theorem look_ne {m : Str → Option Value} {x y : Str} {v : Value} {r : Option Value} (h : y ≠ x) (e : m y = r) : upd m x v y = r := (if_neg h).trans e

section
variable {z : Shared} {B : View} {cs cs' : List Cell} {s : Shared} {a L : Addr} {m : Str → Option Value}
theorem St.has {P : Obj → Prop} (S : St z B cs s) (x : Has B a P) : ∃ o, s.heap.get? a = some o ∧ P o := let ⟨o, e, p⟩ := x; ⟨o, S.base _ _ e, p⟩
theorem St.ns (S : St z B ((L, Lo m) :: cs) s) : s.heap.Ns L m := by
  obtain ⟨o, e, es, ep, d, k, f⟩ := S.cells _ (.head _)
  exact ⟨o, es, ep, e, d, k, f⟩
theorem lo_of {h : Heap} (n : h.Ns L m) : ∃ o, h.get? L = some o ∧ Lo m o := let ⟨o, es, ep, e, d, k, f⟩ := n; ⟨o, e, es, ep, d, k, f⟩
end

/-! ## Names, constants -/
section
variable {M : Model} {A : Around} {E : Value → Shared → Prop} {z : Shared} {B : View} {cs cs' : List Cell} {s : Shared} {L fa : Addr} {m : Str → Option Value} {cn : Str} {sc : Scope} {cd : Value} {cl : List (Str × Addr)}
theorem r_int {i : Int} {k : Nat} {pos : Pos} {env : Env} {Q : Value → Shared → Prop} (S : St z B cs s) (h : ∀ t s', St z B cs s' → Q (.int i t) s') :
    wpAny M A (eval (.Constant (.int i) k pos) env) Q E s := wpAny_Constant_int (h _ _ (S.toks _))
theorem r_str {x : Str} {k : Nat} {pos : Pos} {env : Env} {Q : Value → Shared → Prop} (S : St z B cs s) (h : ∀ t s', St z B cs s' → Q (.str x t) s') :
    wpAny M A (eval (.Constant (.str x) k pos) env) Q E s := Calls.Constant_str (h _ _ (S.toks _))
end

/-! ## The program's parts -/
noncomputable abbrev pw : Program := PySem.Challenge.pw_ok0016_01
noncomputable def q : Program := { PySem.Challenge.pw_ok0016_01 with main := { PySem.Challenge.pw_ok0016_01.main with body := PySem.Challenge.pw_ok0016_01.main.body.filter fun st => match st with | .Assign .. => false | _ => true } }
noncomputable def loose : List Str := ["__name__"]
noncomputable def lw : List Str := looseW q loose
noncomputable def bodyN (l : List Stmt) : Nat → Stmt
  | 0 => (match l with | [] => .Pass default | s :: _ => s)
  | n + 1 => (match l with | [] => .Pass default | _ :: r => bodyN r n)
noncomputable def dOf (st : Stmt) : DefRec := match st with
  | .FunctionDef name a b _ _ _ sc _ _ pos => ⟨name, a, b, sc, pos⟩
  | _ => ⟨"", ⟨[], [], none, [], [], none, []⟩, [], default, default⟩
noncomputable def stN (n : Nat) : Stmt := bodyN pw.main.body n
noncomputable def dN (n : Nat) : DefRec := dOf (stN n)
noncomputable def cBody (st : Stmt) : List Stmt := match st with
  | .ClassDef _ _ _ b _ _ _ _ _ _ _ => b
  | _ => []
noncomputable def cName (st : Stmt) : Str := match st with
  | .ClassDef n .. => n
  | _ => ""
noncomputable def mRec (n k : Nat) : MethRec := match dOf (bodyN (cBody (stN n)) k) with | ⟨name, a, b, sc, _⟩ => ⟨name, a, b, sc⟩
noncomputable def cRec (n : Nat) : ClsRec := match stN n with
  | .ClassDef nm _ _ b _ _ _ _ _ st pos => ⟨nm, none, b, st, pos.line, methsOf b⟩
  | _ => ⟨"", none, [], [], 0, []⟩
theorem recs_eq : recsOf q = [dN 0, dN 3, dN 4, dN 6, dN 7, dN 8, dN 9, dN 10, dN 11, dN 13, dN 14, dN 15, dN 19, dN 21, dN 22, dN 23, dN 25, dN 26, dN 27, dN 28, dN 29, dN 30, dN 31, dN 32, dN 33, dN 34, dN 35] := by kernel_rfl
theorem plains_eq : plainsOf q lw = [cRec 2, cRec 17, cRec 18, cRec 20] := by kernel_rfl
theorem meth2 : (cRec 2).withCmp.meths = [mRec 2 0] := by kernel_rfl
theorem meth17 : (cRec 17).withCmp.meths = [mRec 17 0] := by kernel_rfl
theorem meth18 : (cRec 18).withCmp.meths = [mRec 18 0, mRec 18 1, mRec 18 2, mRec 18 3, mRec 18 4, mRec 18 5] := by kernel_rfl
theorem meth20 : (cRec 20).withCmp.meths = [mRec 20 0, mRec 20 1, mRec 20 2] := by kernel_rfl
theorem quiet2 : (cRec 2).withCmp.quiet = (["__setattr__", "__getattribute__", "__getattr__", "args", "count", "functor", "goals", "__eq__", "__ne__"] : List Str) := by kernel_rfl
theorem quiet17 : (cRec 17).withCmp.quiet = (["__setattr__", "__getattribute__", "__getattr__", "count", "first", "first_chunk", "kind", "last_chunk", "last_goal", "slot", "unsafe", "var", "__eq__", "__ne__"] : List Str) := by kernel_rfl
theorem quiet18 : (cRec 18).withCmp.quiet = (["__setattr__", "__getattribute__", "__getattr__", "chunks", "env_size", "infos", "live_after", "needs_env", "__eq__", "__ne__"] : List Str) := by kernel_rfl
theorem quiet20 : (cRec 20).withCmp.quiet = (["__setattr__", "__getattribute__", "__getattr__", "infos", "__eq__", "__ne__"] : List Str) := by kernel_rfl
/-! ## The top's run over a tree of objects -/
noncomputable def growT : List Obj → BT → Nat → Option BT
  | [], T, _ => some T
  | o :: l, T, n => match ((T.ins n o).get n).isSome with
    | true => growT l (T.ins n o) (n + 1)
    | false => none
theorem growT_spec {life : Life} : ∀ {l : List Obj} {T T' : BT} {n : Nat}, growT l T n = some T' → absHeap T' (n + l.length) life = ⟨((absHeap T n life).objs.toList ++ l).toArray, life⟩
  | [], T, T', n, h => by cases h; simp [absHeap]
  | o :: l, T, T', n, h => by
    unfold growT at h
    cases e : ((T.ins n o).get n).isSome with
    | false => rw [e] at h; cases h
    | true =>
      rw [e] at h
      have := growT_spec (life := life) h
      rw [absHeap_ins e] at this
      rw [List.length_cons, show n + (l.length + 1) = n + 1 + l.length by omega, this]
      simp [Heap.push]
noncomputable def toT (s : Shared) : Option SharedT := match growT s.heap.objs.toList .nil 0 with
  | some T => some ⟨T, s.heap.objs.size, s.heap.life, s.gens, s.drawn, s.toks, s.os⟩
  | none => none
theorem toT_abs {s : Shared} {x : SharedT} (h : toT s = some x) : x.abs = s := by
  obtain ⟨⟨objs, life⟩, gens, drawn, toks, os⟩ := s
  unfold toT at h
  cases e : growT objs.toList .nil 0 with
  | none => simp only [e] at h; cases h
  | some T =>
    simp only [e] at h
    cases h
    have := growT_spec (life := life) e
    simp only [Nat.zero_add, Array.length_toList] at this
    unfold SharedT.abs
    dsimp only
    rw [this]
    simp [absHeap, BT.list]
noncomputable def topRunT (tb : String → Option Builtin) (p : Program) (w : World) (n₀ : Nat) (ann : Option Value) : Nat → SharedT → Thread → Option SharedT
  | 0, _, _ => none
  | n + 1, s, t => match through t with
    | true => some s
    | false => match stepOk n₀ ann t with
      | false => none
      | true => match stepT (denote tb) p w s t with
        | some (s', t') => topRunT tb p w n₀ ann n s' t'
        | none => none
theorem topRunT_spec {tb : String → Option Builtin} {p : Program} {w : World} {n₀ : Nat} {ann : Option Value} : ∀ {n : Nat} {s s' : SharedT} {t : Thread}, topRunT tb p w n₀ ann n s t = some s' → topRun tb p w n₀ ann n s.abs t = some s'.abs
  | 0, _, _, _, h => by cases h
  | n + 1, s, s', t, h => by
    unfold topRunT at h
    unfold topRun
    cases he : through t with
    | true => rw [he] at h; cases h; rfl
    | false =>
      rw [he] at h
      cases hk : stepOk n₀ ann t with
      | false => rw [hk] at h; cases h
      | true =>
        rw [hk] at h
        cases hs : stepT (denote tb) p w s t with
        | none => rw [hs] at h; cases h
        | some r => obtain ⟨s₂, t₂⟩ := r; rw [hs] at h; rw [stepT_spec hs]; exact topRunT_spec h
/-- the top from `s₀`, run over the tree, and looked at by `f` -/
noncomputable def lookT {β : Type} (tb : String → Option Builtin) (p : Program) (w : World) (N : Nat) (f : Shared → β) (s₀ : Shared) : Option β :=
  match s₀.heap.isNs mainGlobals && s₀.gens.size == 0 with
  | true => match toT s₀ with
    | some x => match topRunT tb p w s₀.heap.objs.size (s₀.heap.nsMap mainGlobals "__annotations__") N x (topStub p) with
      | some y => (fun s₁ : Shared => match staticsOk (importedModules p.main.body) s₀.heap s₁.heap && namesBound p s₁.heap && gensDone s₁ && laidKept s₀.heap s₁.heap with
        | true => some (f s₁)
        | false => none) y.abs
      | none => none
    | none => none
  | false => none
theorem lookT_spec {β : Type} {tb : String → Option Builtin} {p : Program} {w : World} {N : Nat} {f : Shared → β} {s₀ : Shared} {r : β} (h : lookT tb p w N f s₀ = some r) : (topFrom tb p w N s₀).map f = some r := by
  unfold lookT at h
  unfold topFrom
  split at h
  · rename_i e0
    split at h
    · rename_i x ex
      split at h
      · rename_i y ey
        have := topRunT_spec ey
        rw [toT_abs ex] at this
        rw [e0]
        dsimp only
        rw [this]
        dsimp only [Option.bind_some]
        dsimp only at h
        split at h
        · rename_i e2
          rw [e2]; exact h
        · cases h
      · cases h
    · cases h
  · cases h
theorem left_of_T {p q : Program} {loose : List Str} {Xt : Shared → Bool} {α : Type} {Yf : Shared → α} {Ya : World → α} {N : Nat} {g0 : Bool}
    (h : ∀ w, (fencedOpening treeTable p w N).bind (lookT treeTable p w N fun s => (openSeen q loose (importedModules p.main.body) Xt g0 s, Yf s)) = some (openGood q loose, Ya w)) : LeftO p q loose Xt Yf Ya N g0 := fun w => by
  obtain ⟨s₀, a, b⟩ := Option.bind_eq_some_iff.mp (h w)
  unfold openEnds
  rw [a]
  exact lookT_spec b
set_option maxRecDepth 100000 in
set_option maxHeartbeats 0 in
theorem leftT : ∀ w, (fencedOpening treeTable PySem.Challenge.pw_ok0016_01 w 4226).bind (lookT treeTable PySem.Challenge.pw_ok0016_01 w 4226 fun s => (openSeen q loose (importedModules PySem.Challenge.pw_ok0016_01.main.body) (fun s => xlAt q [] s && recOk [] s) true s, Hook.obs Hook.none s)) = some (openGood q loose, Hook.val Hook.none w) := by
  intro w; kernel_rfl
theorem left : LeftO PySem.Challenge.pw_ok0016_01 q loose (fun s => xlAt q [] s && recOk [] s) (Hook.obs Hook.none) (Hook.val Hook.none) 4226 := left_of_T leftT
end Mine
end
open PySem PySem.Calls PySem.W PySem.W.X PyProof.Rows
namespace Mine

/-! ## The world at hand -/
structure Wk where
  w : World
  mean : ExcName → Option Value
  mg : Str → Option Value
  mb : Str → Option Value
noncomputable abbrev Wk.M (K : Wk) : Model := model pw K.w
noncomputable def Lib (K : Wk) (B : View) : Prop := ∀ h : Heap, (∀ a o, B a = some o → h.get? a = some o) → Top q lw K.mean K.mg K.mb h ∧ TopE q lw K.mg h
theorem Lib.mono {K : Wk} {B B' : View} (x : Lib K B) (h : Sub B B') : Lib K B' := fun h' k => x h' fun a o e => k a o (h a o e)
theorem St.top {K : Wk} {z s : Shared} {B : View} {cs : List Cell} (S : St z B cs s) (W : Lib K B) : Top q lw K.mean K.mg K.mb s.heap := (W _ S.base).1
theorem St.topE {K : Wk} {z s : Shared} {B : View} {cs : List Cell} (S : St z B cs s) (W : Lib K B) : TopE q lw K.mg s.heap := (W _ S.base).2

structure Ok (d u : Nat) (A : Around) : Prop where
  handled : A.handled = none
  depth : A.depth + d < recursionLimit
  units : A.units + u < cLine
theorem Ok.deeper {d u : Nat} {A : Around} {env : Env} (h : Ok (d + 1) (u + 3) A) : Ok d u (A.deeper env) :=
  ⟨h.handled, by show A.depth + 1 + d < _; have := h.depth; lia, by show A.units + 3 + u < _; have := h.units; lia⟩
theorem Ok.le {d u d' u' : Nat} {A : Around} (h : Ok d u A) (hd : d' ≤ d) (hu : u' ≤ u) : Ok d' u' A :=
  ⟨h.handled, by have := h.depth; lia, by have := h.units; lia⟩
theorem Ok.room {d u : Nat} {A : Around} (h : Ok d u A) : A.depth < recursionLimit := by have := h.depth; lia

section
variable {K : Wk} {A : Around} {E : Value → Shared → Prop} {z : Shared} {B : View} {cs cs' : List Cell} {s : Shared} {L fa : Addr} {m : Str → Option Value} {cn : Str} {sc : Scope} {cd : Value} {cl : List (Str × Addr)}

theorem r_call {n : Nat} {f : Addr} {args : List Value} {binds : List (Str × Value)} {Q : Value → Shared → Prop} (S : St z B cs s) (W : Lib K B) (hm : dN n ∈ recsOf q) (hf : K.mg (dN n).name = some (.ref f)) (hroom : A.depth < recursionLimit)
    (hbind : ∀ pm cd doc, bindArgs (Calls.docDef (dN n).name (dN n).params (dN n).body (dN n).scope pm cd doc) ⟨args, []⟩ = pure binds)
    (hloc : ∀ x ∈ binds, (dN n).scope.names.lookup x.1 = some .local) (hcell : ∀ x ∈ (dN n).scope.names, x.2 ≠ .cell)
    (h : ∀ L cd s', St z B ((L, Lo fun y => binds.reverse.lookup y) :: cs) s' → wpAny K.M (A.deeper (envX (dN n).name (dN n).scope L f cd [])) (execs (dN n).body (envX (dN n).name (dN n).scope L f cd []))
      (fun fl s' => Q (match fl with | .ret v => v | _ => .none) s') (fun _ _ => False) s')
    (hco : (dN n).scope.isCoroutine = false := by rfl) (hgen : (dN n).scope.isGenerator = false := by rfl) (hk : (dN n).scope.kind = .function := by rfl) :
    wpAny K.M A (call (.ref f) args) Q E s := by
  have T := S.top W
  obtain ⟨a, o, pm, code, doc, h1, h2, h3, h4⟩ := T.fn _ hm
  rw [hf] at h1
  obtain rfl := Value.ref.inj (Option.some.inj h1)
  refine wpAny_call (call_plain_ret hroom h2 h3 T.nolimit h4 (hbind _ _ _) hloc (fun h₁ F => ?_) hco hgen hk hcell)
  obtain ⟨o', ho, hp⟩ := lo_of F.ns
  have hn : s.heap.get? s.heap.objs.size = none := by
    cases e : s.heap.get? s.heap.objs.size with
    | none => rfl
    | some o' => exact absurd (Heap.lt_size e) (Nat.lt_irrefl _)
  exact h _ _ _ (S.alloc hn (fun b o _ e => F.keep b o e) ho hp)
end

/-! ## Ghost data -/
inductive Tm where
  | atom
  | var (k : Int)
  | num (i : Int)
  | str (ts : List Tm)
inductive Gl where
  | call (ts : List Tm)
  | builtin (ts : List Tm)
  | unify (t u : Tm)
  | level
  | mark
  | cutto
  | cut

inductive TmAt (B : View) : Value → Tm → Prop
  | atom {a : Addr} {t t' : Tok} : Has B a (TpO [.str "a" t, .int 3 t']) → TmAt B (.ref a) .atom
  | var {a : Addr} {t t' : Tok} {k : Int} : Has B a (TpO [.str "v" t, .int k t']) → TmAt B (.ref a) (.var k)
  | num {a : Addr} {t t' : Tok} {i : Int} : Has B a (TpO [.str "i" t, .int i t']) → TmAt B (.ref a) (.num i)
  | str {a b : Addr} {t t' : Tok} {vs : List Value} {ts : List Tm} : Has B a (TpO [.str "s" t, .int 2 t', .ref b]) → Has B b (TpO vs) → vs.length = ts.length →
      (∀ (i : Nat) v x, vs[i]? = some v → ts[i]? = some x → TmAt B v x) → TmAt B (.ref a) (.str ts)
noncomputable def All2 {α β : Type} (R : α → β → Prop) (vs : List α) (ts : List β) : Prop := vs.length = ts.length ∧ ∀ (i : Nat) v x, vs[i]? = some v → ts[i]? = some x → R v x
theorem TmAt.mono {B B' : View} {v : Value} {t : Tm} (h : Sub B B') (x : TmAt B v t) : TmAt B' v t := by
  induction x with
  | atom p => exact .atom (p.mono h)
  | var p => exact .var (p.mono h)
  | num p => exact .num (p.mono h)
  | str p r l _ ih => exact .str (p.mono h) (r.mono h) l ih
theorem All2.imp {α β : Type} {R R' : α → β → Prop} {vs : List α} {ts : List β} (x : All2 R vs ts) (h : ∀ v t, R v t → R' v t) : All2 R' vs ts := ⟨x.1, fun i v t a b => h _ _ (x.2 i v t a b)⟩
/-- a tuple of terms -/
noncomputable def TmsAt (B : View) (v : Value) (ts : List Tm) : Prop := ∃ b vs, v = .ref b ∧ Has B b (TpO vs) ∧ All2 (TmAt B) vs ts
theorem TmsAt.mono {B B' : View} {v : Value} {ts : List Tm} (h : Sub B B') (x : TmsAt B v ts) : TmsAt B' v ts :=
  let ⟨b, vs, e, p, r⟩ := x; ⟨b, vs, e, p.mono h, r.imp fun _ _ => TmAt.mono h⟩
inductive GlAt (B : View) : Value → Gl → Prop
  | call {a : Addr} {t t' : Tok} {v : Value} {ts : List Tm} : Has B a (TpO [.str "call" t, .int 5 t', v]) → TmsAt B v ts → GlAt B (.ref a) (.call ts)
  | builtin {a : Addr} {t t' : Tok} {v : Value} {ts : List Tm} : Has B a (TpO [.str "builtin" t, .int 6 t', v]) → TmsAt B v ts → GlAt B (.ref a) (.builtin ts)
  | unify {a : Addr} {t : Tok} {v v' : Value} {x y : Tm} : Has B a (TpO [.str "unify" t, v, v']) → TmAt B v x → TmAt B v' y → GlAt B (.ref a) (.unify x y)
  | level {a : Addr} {t t' : Tok} : Has B a (TpO [.str "level" t, .int 6 t']) → GlAt B (.ref a) .level
  | mark {a : Addr} {t t' : Tok} : Has B a (TpO [.str "mark" t, .int 6 t']) → GlAt B (.ref a) .mark
  | cutto {a : Addr} {t t' : Tok} : Has B a (TpO [.str "cutto" t, .int 6 t']) → GlAt B (.ref a) .cutto
  | cut {a : Addr} {t : Tok} : Has B a (TpO [.str "cut" t]) → GlAt B (.ref a) .cut
theorem GlAt.mono {B B' : View} {v : Value} {g : Gl} (h : Sub B B') (x : GlAt B v g) : GlAt B' v g := by
  cases x with
  | call p r => exact .call (p.mono h) (r.mono h)
  | builtin p r => exact .builtin (p.mono h) (r.mono h)
  | unify p r r' => exact .unify (p.mono h) (r.mono h) (r'.mono h)
  | level p => exact .level (p.mono h)
  | mark p => exact .mark (p.mono h)
  | cutto p => exact .cutto (p.mono h)
  | cut p => exact .cut (p.mono h)

section
variable {K : Wk} {A : Around} {E : Value → Shared → Prop} {z : Shared} {B : View} {cs cs' : List Cell} {s : Shared} {L fa a : Addr} {m : Str → Option Value} {cn : Str} {sc : Scope} {cd : Value} {cl : List (Str × Addr)}
theorem isTup {h : Heap} {o : Obj} {vs : List Value} (e : h.get? a = some o) (p : TpO vs o) : IsTup h a vs.toArray := let ⟨c, n, d⟩ := p; ⟨o, e, c, n, d⟩
/-- t[j] of a frozen tuple at a written place -/
theorem r_tup {value slice : Expr} {vs : List Value} {k : Int} {u : Tok} {j : Nat} {v : Value} {Q : Value → Shared → Prop} (S : St z B cs s) (x : Has B a (TpO vs)) (hj : seqIndex? k vs.length = some j) (hv : vs[j]? = some v) (h : Q v s)
    (hlo : -(2 ^ 63) ≤ k := by decide) (hhi : k < 2 ^ 63 := by decide)
    (hs : subscripted slice false (.ref a) (.int k u) = operate [.ref a, .int k u] (getItem (.ref a) (.int k u)) := by with_unfolding_all rfl) :
    wpAny K.M A (subscriptTail value slice (.ref a) (.int k u)) Q E s := by
  obtain ⟨o, e, p⟩ := S.has x
  exact item_tupleT (isTup e p) hlo hhi hj hv h hs
end

/-! ## Branches -/
noncomputable def Br (b : Bool) (P R : Prop) : Prop := (b = true → P) ∧ (b = false → R)
theorem Br.tt {b : Bool} {P R : Prop} (h : b = true) (p : P) : Br b P R := ⟨fun _ => p, fun e => by rw [h] at e; cases e⟩
theorem Br.ff {b : Bool} {P R : Prop} (h : b = false) (r : R) : Br b P R := ⟨(fun e => by rw [h] at e; cases e), fun _ => r⟩
theorem Br.ite {b : Bool} {P R : Prop} (h : Br b P R) : if b = true then P else R := by
  cases b with
  | true => exact h.1 rfl
  | false => exact h.2 rfl
section
variable {M : Model} {A : Around} {E : Value → Shared → Prop} {s : Shared} {env : Env}
theorem r_if {test body orelse pos} {Q : Flow → Shared → Prop}
    (h : wpAny M A (isTrue test env (eval test env)) (fun b s₂ => Br b (wpAny M A (execs body env) Q E s₂) (wpAny M A (execs orelse env) Q E s₂)) E s) :
    wpAny M A (exec (.If test body orelse pos) env) Q E s := wpAny_If (wpAny_mono h (fun _ _ x => x.ite) fun _ _ x => x)
theorem r_ifexp {test body orelse pos} {Q : Value → Shared → Prop}
    (h : wpAny M A (isTrue test env (eval test env)) (fun c s₂ => Br c (wpAny M A (eval body env) Q E s₂) (wpAny M A (eval orelse env) Q E s₂)) E s) :
    wpAny M A (eval (.IfExp test body orelse pos) env) Q E s := IfExp_ (wpAny_mono h (fun _ _ x => x.ite) fun _ _ x => x)
theorem r_tor {x rest pos whole} {Q : Bool → Shared → Prop}
    (h : wpAny M A (isTrue x env (eval x env)) (fun c s' => Br c (Q true s') (wpAny M A (isTrue (.BoolOp .Or rest pos) env whole) Q E s')) E s) :
    wpAny M A (isTrue (.BoolOp .Or (x :: rest) pos) env whole) Q E s := isTrue_or (wpAny_mono h (fun _ _ x => x.ite) fun _ _ x => x)
theorem r_tand {x rest pos whole} {Q : Bool → Shared → Prop}
    (h : wpAny M A (isTrue x env (eval x env)) (fun c s' => Br c (wpAny M A (isTrue (.BoolOp .And rest pos) env whole) Q E s') (Q false s')) E s) :
    wpAny M A (isTrue (.BoolOp .And (x :: rest) pos) env whole) Q E s := isTrue_and (wpAny_mono h (fun _ _ x => x.ite) fun _ _ x => x)
theorem r_cons {st rest} {Q : Flow → Shared → Prop}
    (h : wpAny M A (exec st env) (fun f s' => match f with | .next => wpAny M A (execs rest env) Q E s' | f => Q f s') E s) : wpAny M A (execs (st :: rest) env) Q E s := wpAny_execs_cons h
theorem r_neg {a : Int} {t : Tok} {z : Shared} {B : View} {cs : List Cell} {K : Wk} {Q : Value → Shared → Prop} (S : St z B cs s) (h : ∀ t s', St z B cs s' → Q (.int (-a) t) s') : wpAny K.M A (unaryOp .USub (.int a t)) Q E s :=
  PyProof.Rows.neg_int (h _ _ (S.toks _))
end

/-! ## Iterators -/
structure Iter (K : Wk) (A : Around) (B : View) (I : Addr) (ItO : Nat → Obj → Prop) (n : Nat) (V : Nat → Value → Prop) : Prop where
  item : ∀ {z : Shared} {B' : View} {c : Cell} {cs : List Cell} {i : Nat} {s : Shared} {E : Value → Shared → Prop} {Q : Option Value → Shared → Prop}, Sub B B' → i < n → St z B' (c :: (I, ItO i) :: cs) s →
    (∀ v s', V i v → St z B' (c :: (I, ItO (i + 1)) :: cs) s' → Q (some v) s') → wpAny K.M A (pyNext (.ref I)) Q E s
  done : ∀ {z : Shared} {B' : View} {c : Cell} {cs : List Cell} {s : Shared} {E : Value → Shared → Prop} {Q : Option Value → Shared → Prop}, Sub B B' → St z B' (c :: (I, ItO n) :: cs) s →
    (∀ s', St z B' (c :: cs) s' → Q none s') → wpAny K.M A (pyNext (.ref I)) Q E s
  self : ∀ {z : Shared} {B' : View} {c : Cell} {cs : List Cell} {s : Shared} {E : Value → Shared → Prop} {Q : Value → Shared → Prop}, Sub B B' → St z B' (c :: (I, ItO 0) :: cs) s → Q (.ref I) s → wpAny K.M A (pyIter (.ref I)) Q E s

section
variable {z : Shared} {B : View} {cs : List Cell} {s : Shared}
/-- all but the second cell is kept; that one is let go -/
theorem St.lose {c : Cell} {a : Addr} {P : Obj → Prop} {h' : Heap} {t : Nat} (S : St z B (c :: (a, P) :: cs) s) (k : ∀ b o, b ≠ a → s.heap.get? b = some o → h'.get? b = some o) : St z B (c :: cs) { s with heap := h', toks := t } where
  gens := S.gens
  drawn := S.drawn
  os := S.os
  base := fun b o e => k b o (by rintro rfl; have := S.off (b, P) (.tail _ (.head _)); rw [this] at e; cases e) (S.base b o e)
  cells := fun x hm => by
    have nd := S.nd
    simp only [List.map_cons, List.nodup_cons, List.mem_cons, not_or] at nd
    have ne : x.1 ≠ a := by
      rcases List.mem_cons.mp hm with rfl | hm
      · exact nd.1.1
      · intro q; exact nd.2.1 (by rw [← q]; exact List.mem_map.mpr ⟨x, hm, rfl⟩)
    obtain ⟨o, e, p⟩ := S.cells x (by rcases List.mem_cons.mp hm with rfl | hm; exact .head _; exact .tail _ (.tail _ hm))
    exact ⟨o, k _ _ ne e, p⟩
  nd := by
    have nd := S.nd
    simp only [List.map_cons, List.nodup_cons, List.mem_cons, not_or] at nd ⊢
    exact ⟨nd.1.2, nd.2.2⟩
  off := fun x hm => S.off x (by rcases List.mem_cons.mp hm with rfl | hm; exact .head _; exact .tail _ (.tail _ hm))
theorem St.fresh (s : Shared) : s.heap.get? s.heap.objs.size = none := by
  cases e : s.heap.get? s.heap.objs.size with
  | none => rfl
  | some o' => exact absurd (Heap.lt_size e) (Nat.lt_irrefl _)
/-- a pushed object, second -/
theorem St.push2 {c : Cell} {P : Obj → Prop} {o : Obj} {t : Nat} (S : St z B (c :: cs) s) (hf : o.isFreed = false) (hP : P o) : St z B (c :: (s.heap.objs.size, P) :: cs) { s with heap := s.heap.push o, toks := t } :=
  (S.alloc (St.fresh s) (fun b o' _ e => Heap.get?_push_of_some _ e) (Heap.get?_push_size _ hf) hP).perm (.swap _ _ _)
end

noncomputable def TitO (a : Addr) (i : Nat) : Obj → Prop := fun o => o.cls = .type "tuple_iterator" ∧ o.data = .fields #[.ref a, .int i 0]
noncomputable def LitO (a : Addr) (i : Nat) : Obj → Prop := fun o => o.cls = .type "list_iterator" ∧ o.data = .fields #[.ref a, .int i 0]
section
variable {K : Wk} {A : Around} {E : Value → Shared → Prop} {z : Shared} {B : View} {cs : List Cell} {s : Shared} {c : Cell} {a : Addr} {vs : List Value}
theorem HasTp.tuple (S : St z B cs s) (x : Has B a (TpO vs)) : s.heap.IsTuple a vs.toArray := by
  obtain ⟨o, e, c, n, d⟩ := S.has x
  exact ⟨o, e, c, n, d⟩
theorem HasLs.list (S : St z B cs s) (x : Has B a (LsO vs)) : s.heap.IsList a vs.toArray := by
  obtain ⟨o, e, n, rfl⟩ := S.has x
  exact ⟨_, e, rfl, n, rfl⟩
theorem iter_tup {I : Addr} (hh : A.handled = none) (x : Has B a (TpO vs)) : Iter K A B I (TitO a) vs.length (fun i v => vs[i]? = some v) where
  item := by
    intro z B' c cs i s E Q hB hi S h
    obtain ⟨o, e, oc, od⟩ := S.at (P' := TitO a (i + 1)) (.there .here)
    refine wpAny_pyNext_tuple_item (x := vs[i]) ⟨o, e, oc, od⟩ (HasTp.tuple S (x.mono hB)) (by simp [hi]) fun h' hit hs => ?_
    obtain ⟨o', e', p'⟩ := hit
    exact h _ _ (List.getElem?_eq_getElem hi) (S.upd (t := s.toks) (.there .here) (fun b o hb e => (hs.2 b hb).trans e) e' p')
  done := by
    intro z B' c cs s E Q hB S h
    obtain ⟨o, e, oc, od⟩ := S.at (P' := TitO a 0) (.there .here)
    refine wpAny_pyNext_tuple_end hh ⟨o, e, oc, od⟩ (HasTp.tuple S (x.mono hB)) (by simp) fun h' hs => ?_
    exact h _ (S.lose (t := s.toks) hs)
  self := by
    intro z B' c cs s E Q hB S h
    obtain ⟨o, e, oc, od⟩ := S.at (P' := TitO a 0) (.there .here)
    exact wpAny_pyIter_tupleiter ⟨o, e, oc, od⟩ h
theorem iter_ls {I : Addr} (hh : A.handled = none) (x : Has B a (LsO vs)) : Iter K A B I (LitO a) vs.length (fun i v => vs[i]? = some v) where
  item := by
    intro z B' c cs i s E Q hB hi S h
    obtain ⟨o, e, oc, od⟩ := S.at (P' := LitO a (i + 1)) (.there .here)
    refine wpAny_pyNext_list_item (x := vs[i]) ⟨o, e, oc, od⟩ (HasLs.list S (x.mono hB)) (by simp [hi]) fun h' hit hs => ?_
    obtain ⟨o', e', p'⟩ := hit
    exact h _ _ (List.getElem?_eq_getElem hi) (S.upd (t := s.toks) (.there .here) (fun b o hb e => (hs.2 b hb).trans e) e' p')
  done := by
    intro z B' c cs s E Q hB S h
    obtain ⟨o, e, oc, od⟩ := S.at (P' := LitO a 0) (.there .here)
    refine wpAny_pyNext_list_end hh ⟨o, e, oc, od⟩ (HasLs.list S (x.mono hB)) (by simp) fun h' hs => ?_
    exact h _ (S.lose (t := s.toks) hs)
  self := by
    intro z B' c cs s E Q hB S h
    obtain ⟨o, e, oc, od⟩ := S.at (P' := LitO a 0) (.there .here)
    exact wpAny_pyIter_listiter ⟨o, e, oc, od⟩ h
theorem r_iter_tup {Q : Value → Shared → Prop} (S : St z B (c :: cs) s) (hh : A.handled = none) (x : Has B a (TpO vs))
    (h : ∀ I s', Iter K A B I (TitO a) vs.length (fun i v => vs[i]? = some v) → St z B (c :: (I, TitO a 0) :: cs) s' → Q (.ref I) s') : wpAny K.M A (pyIter (.ref a)) Q E s :=
  wpAny_pyIter_tuple (HasTp.tuple S x) (h _ _ (iter_tup hh x) (S.push2 (t := s.toks) rfl ⟨rfl, rfl⟩))
theorem r_iter_ls {Q : Value → Shared → Prop} (S : St z B (c :: cs) s) (hh : A.handled = none) (x : Has B a (LsO vs))
    (h : ∀ I s', Iter K A B I (LitO a) vs.length (fun i v => vs[i]? = some v) → St z B (c :: (I, LitO a 0) :: cs) s' → Q (.ref I) s') : wpAny K.M A (pyIter (.ref a)) Q E s :=
  wpAny_pyIter_list (HasLs.list S x) (h _ _ (iter_ls hh x) (S.push2 (t := s.toks) rfl ⟨rfl, rfl⟩))
end

/-! ## Loops -/
noncomputable abbrev LInv := Nat → View → (Str → Option Value) → List Cell → Prop
section
variable {K : Wk} {A : Around} {z : Shared} {B B₀ : View} {cs : List Cell} {s : Shared} {m : Str → Option Value} {env : Env} {I : Addr} {ItO : Nat → Obj → Prop} {n : Nat} {V : Nat → Value → Prop}
  {target : Expr} {body : List Stmt} {Q : Flow → Shared → Prop} {G : Value → Shared → Prop}
noncomputable def Turn (z : Shared) (B : View) (L I : Addr) (P : Obj → Prop) (Inv : View → (Str → Option Value) → List Cell → Prop) (Q : Flow → Shared → Prop) (f : Flow) (s : Shared) : Prop := match f with
  | .brk => Q .next s
  | .ret v => Q (.ret v) s
  | _ => ∃ B' m' cs', Sub B B' ∧ Inv B' m' cs' ∧ St z B' ((L, Lo m') :: (I, P) :: cs') s
theorem r_loop {L : Addr} (W : Iter K A B I ItO n V) (Inv : LInv) (S : St z B₀ ((L, Lo m) :: (I, ItO 0) :: cs) s) (hB : Sub B B₀) (h0 : Inv 0 B₀ m cs)
    (turn : ∀ i B' m' cs' v s, Sub B B' → i < n → V i v → Inv i B' m' cs' → St z B' ((L, Lo m') :: (I, ItO (i + 1)) :: cs') s →
      wpAny K.M A (assign target env v) (fun _ s => wpAny K.M A (execs body env) (Turn z B L I (ItO (i + 1)) (Inv (i + 1)) Q) (fun _ _ => False) s) (fun _ _ => False) s)
    (done : ∀ B' m' cs' s, Sub B B' → Inv n B' m' cs' → St z B' ((L, Lo m') :: cs') s → Q .next s)
    (ht : ∀ v, letOwnedTupleGo target (.ref I) v = pure () := by intro _; rfl) (hL : env.locals = L := by rfl) :
    codeAny K.M A (.forLoop target (.ref I) body [] env) (fun r s' => match r with | .ok f => Q f s' | .error e => G e s') s := by
  subst hL
  refine codeAny_forLoop (fun k s => ∃ i B' m' cs', k = n - i ∧ i ≤ n ∧ Sub B B' ∧ Inv i B' m' cs' ∧ St z B' ((env.locals, Lo m') :: (I, ItO i) :: cs') s) ?_ n ⟨0, B₀, m, cs, rfl, Nat.zero_le _, hB, h0, S⟩ ht
  rintro k s ⟨i, B', m', cs', rfl, hi, hB', hI, S'⟩
  by_cases hlt : i < n
  · refine W.item hB' hlt S' fun v s₁ hv S₁ => ?_
    refine wpAny_mono (turn i B' m' cs' v s₁ hB' hlt hv hI S₁) (fun _ s₂ h₂ => wpAny_mono h₂ (fun f s₃ h₃ => ?_) fun _ _ x => x.elim) fun _ _ x => x.elim
    have go : (∃ B' m' cs', Sub B B' ∧ Inv (i + 1) B' m' cs' ∧ St z B' ((env.locals, Lo m') :: (I, ItO (i + 1)) :: cs') s₃) →
        ∃ k, k < n - i ∧ ∃ i B' m' cs', k = n - i ∧ i ≤ n ∧ Sub B B' ∧ Inv i B' m' cs' ∧ St z B' ((env.locals, Lo m') :: (I, ItO i) :: cs') s₃ := by
      rintro ⟨B₂, m₂, cs₂, a, b, c⟩
      exact ⟨n - (i + 1), by lia, i + 1, B₂, m₂, cs₂, rfl, hlt, a, b, c⟩
    cases f with
    | next => exact go h₃
    | cont => exact go h₃
    | brk => exact h₃
    | ret v => exact h₃
  · obtain rfl : i = n := by lia
    refine W.done hB' S' fun s₁ S₁ => wpAny_execs_nil ?_
    exact done B' m' cs' s₁ hB' hI S₁
/-- a while -/
noncomputable def TurnW (z : Shared) (L : Addr) (Inv : LInv) (n : Nat) (Q : Flow → Shared → Prop) (f : Flow) (s : Shared) : Prop := match f with
  | .brk => Q .next s
  | .ret v => Q (.ret v) s
  | _ => ∃ k, k < n ∧ ∃ B' m' cs', Inv k B' m' cs' ∧ St z B' ((L, Lo m') :: cs') s
theorem r_while {L : Addr} {test : Expr} {pos : Pos} {E : Value → Shared → Prop} (Inv : LInv) (n : Nat) (S : St z B ((L, Lo m) :: cs) s) (h0 : Inv n B m cs)
    (turn : ∀ k B' m' cs' s, Inv k B' m' cs' → St z B' ((L, Lo m') :: cs') s →
      wpAny K.M A (isTrue test env (eval test env)) (fun b s => Br b (wpAny K.M A (execs body env) (TurnW z L Inv k Q) (fun _ _ => False) s) (Q .next s)) (fun _ _ => False) s) (hL : env.locals = L := by rfl) :
    wpAny K.M A (exec (.While test body [] pos) env) Q E s := by
  subst hL
  refine wpAny_While (codeAny_whileLoop (fun k s => ∃ B' m' cs', Inv k B' m' cs' ∧ St z B' ((env.locals, Lo m') :: cs') s) ?_ n ⟨B, m, cs, h0, S⟩)
  rintro k s ⟨B', m', cs', hI, S'⟩
  refine wpAny_mono (turn k B' m' cs' s hI S') (fun b s₁ h₁ => ?_) fun _ _ x => x.elim
  cases b with
  | true =>
    refine wpAny_mono (h₁.1 rfl) (fun f s₂ h₂ => ?_) fun _ _ x => x.elim
    cases f with
    | next => exact h₂
    | cont => exact h₂
    | brk => exact h₂
    | ret v => exact h₂
  | false => exact wpAny_execs_nil (h₁.2 rfl)
theorem r_for {iter : Expr} {pos : Pos} {E : Value → Shared → Prop}
    (h : wpAny K.M A (eval iter env) (fun x s₁ => wpAny K.M A (pyIter x) (fun it s₂ =>
      codeAny K.M A (.forLoop target it body [] env) (fun r s' => match r with | .ok f => Q f s' | .error e => cameBackBy K.M A env E e s') s₂) E s₁) E s)
    (hs : ∀ x, foldedSetIterable iter env x = pure x := by intro _; rfl) : wpAny K.M A (exec (.For target iter body [] pos) env) Q E s := wpAny_For h hs
end

/-! ## reversed(a tuple) -/
namespace Rv
theorem slot_next : Slot "reversed" "__next__" "reversed.__next__" :=
  .of (owner := "reversed") (n := "__next__") (by rw [typeLookup_type, builtinLookup_eq_fast]; kernel_rfl) (by decide +kernel) (by decide +kernel) (by decide +kernel)
    (by first | exact .inl (by decide +kernel) | exact .inr (by decide +kernel)) (by rw [isSubtype_type]; kernel_rfl)
theorem entry_next : entryFor table "reversed.__next__" = some Builtin.«reversed.__next__» := entryFor_of_tree (by kernel_rfl)
theorem owner : Manifest.owners.lookup (String.ofList ['d', 'e', 's', 'r', 'e', 'v', 'e', 'r'].reverse) = some Manifest.sig_reversed := by kernel_rfl
theorem args_next (a : Value) : argsOk "reversed.__next__" ⟨[a], []⟩ := by
  unfold argsOk; rw [signature?_of (id := "reversed.__next__") (n := ['_', '_', 't', 'x', 'e', 'n', '_', '_']) (o := ['d', 'e', 's', 'r', 'e', 'v', 'e', 'r']) (by kernel_rfl) owner]; kernel_rfl
theorem slot_iter : Slot "reversed" "__iter__" "reversed.__iter__" :=
  .of (owner := "reversed") (n := "__iter__") (by rw [typeLookup_type, builtinLookup_eq_fast]; kernel_rfl) (by decide +kernel) (by decide +kernel) (by decide +kernel)
    (by first | exact .inl (by decide +kernel) | exact .inr (by decide +kernel)) (by rw [isSubtype_type]; kernel_rfl)
theorem args_iter (a : Value) : argsOk "reversed.__iter__" ⟨[a], []⟩ := by
  unfold argsOk; rw [signature?_of (id := "reversed.__iter__") (n := ['_', '_', 'r', 'e', 't', 'i', '_', '_']) (o := ['d', 'e', 's', 'r', 'e', 'v', 'e', 'r']) (by kernel_rfl) owner]; kernel_rfl
theorem entry_iter : entryFor table "reversed.__iter__" = some Builtin.«dict_keyiterator.__iter__» :=
  entryFor_alias (id' := "dict_keyiterator.__iter__") (by kernel_rfl) (by first | rfl | decide +kernel | (unfold String.splitOn; simp +decide [String.splitOnAux])) (by decide +kernel) (by kernel_rfl)
theorem tup_noRev : typeLookup (.type "tuple") "__reversed__" = pure none := by rw [typeLookup_type, builtinLookup_eq_fast]; kernel_rfl
theorem sub_tup_dict : isSubtype (.type "tuple") (.type "dict") = pure false := by rw [isSubtype_type]; kernel_rfl
theorem sub_rev_stop : isSubtype (.type "reversed") (.type "reversed") = pure true := by rw [isSubtype_type]; kernel_rfl
theorem called : TypeCalled "reversed" "reversed.__new__" "object.__init__" where
  notType := by decide +kernel
  canCreate := PySem.F.create_reversed
  mro := ⟨_, _, PySem.F.mro_reversed⟩
  made := PySem.F.made_reversed
  plain := PySem.F.plain_reversed_new
  sub := PySem.F.sub_reversed_self
  init := .of (owner := "object") (n := "__init__") (by rw [typeLookup_type, builtinLookup_eq_fast]; kernel_rfl) (by decide +kernel) (by decide +kernel) (by decide +kernel)
    (by first | exact .inl (by decide +kernel) | exact .inr (by decide +kernel)) (by rw [isSubtype_type]; kernel_rfl)
set_option maxHeartbeats 2000000 in
theorem meets_new (prog : Program) (w : World) (t : Addr) (items : Array Value) :
    MeetsIn prog w (Builtin.«reversed.__new__» ⟨[.type "reversed", .ref t], []⟩) (fun _ R s => s.heap.IsTuple t items ∧ items.size ≤ 1000 ∧
      ∀ tk, R (.ok (.ret (.ref s.heap.objs.size))) { s with heap := s.heap.push { cls := .type "reversed", data := .fields #[.ref t, rawInt ((items.size : Int) - 1)] }, toks := tk }) :=
  .of_wp fun A R s h => by
    obtain ⟨ht, hz, h⟩ := h
    unfold Builtin.«reversed.__new__»
    refine wpAny_bind (wpAny_of_eq (newClass_reversed _) ?_)
    try dsimp only
    refine wpAny_bind (wpAny_of_eq (a := ()) (by first | rfl | kernel_rfl) ?_)
    refine wpAny_bind (wpAny_of_eq (a := ()) (by first | rfl | kernel_rfl) ?_)
    try dsimp only
    refine wpAny_bind (wpAny_specialOf ht.typeIs tup_noRev ?_)
    try dsimp only
    refine wpAny_bind ?_
    show wpAny _ _ (isInstance (.ref t) (.type "dict") >>= _) _ _ _
    refine wpAny_bind (wpAny_isInstance (T := "tuple") (b := false) ht.typeIs sub_tup_dict ?_)
    show wpAny _ _ (specialOf (.ref t) "__getitem__" >>= _) _ _ _
    refine wpAny_bind (wpAny_specialOf ht.typeIs PySem.F.slot_tuple_getitem.lookup ?_)
    show wpAny _ _ (if (_ : Bool) = true then _ else _) _ _ _
    rw [if_pos (by decide)]
    refine wpAny_pure ?_
    show wpAny _ _ (call (.builtin "len") [.ref t] >>= _) _ _ _
    refine wpAny_bind (len_tuple (let ⟨o, a, b⟩ := ht; ⟨o, a, b⟩) (by lia) ?_)
    refine wpAny_bind (wpAny_pure ?_)
    show wpAny _ _ (newObj (.type "reversed") (.fields #[.ref t, rawInt ((items.size : Int) - 1)]) >>= _) _ _ _
    exact wpAny_bind (wpAny_newObj_type (wpAny_pure ⟨_, rfl, h _⟩))
end Rv
theorem upd_keep {h : Heap} {a b : Addr} {f : Obj → Obj} {o : Obj} (hb : b ≠ a) (e : h.get? b = some o) : (h.update a f).get? b = some o := (Heap.get?_update_other h f (Ne.symm hb)).trans e
section
variable {K : Wk} {A : Around} {E : Value → Shared → Prop} {z : Shared} {B : View} {cs : List Cell} {s : Shared} {c : Cell} {a : Addr} {vs : List Value}
/-- j items are left -/
noncomputable def RvO (a : Addr) (n i : Nat) : Obj → Prop := fun o => o.cls = .type "reversed" ∧ o.data = .fields #[.ref a, rawInt ((n : Int) - 1 - (i : Int))]
theorem r_reversed {Q : Value → Shared → Prop} (S : St z B (c :: cs) s) (x : Has B a (TpO vs)) (hz : vs.length ≤ 1000)
    (h : ∀ I s', St z B (c :: (I, RvO a vs.length 0) :: cs) s' → Q (.ref I) s') : wpAny K.M A (call (.type "reversed") [.ref a]) Q E s := by
  refine callType_newIn Rv.called (by decide) (PySem.F.typeCall_reversed_1 _) (PySem.F.newCall_reversed_1 _) (fun obj => PySem.F.args_object_init_2 obj _) PySem.F.entry_reversed_new (Rv.meets_new pw K.w a vs.toArray)
    ⟨HasTp.tuple S x, by simpa using hz, fun tk => ?_⟩
  exact ⟨⟨_, Heap.get?_push_size _ rfl, rfl⟩, h _ _ (S.push2 (t := tk) rfl ⟨rfl, by simp⟩)⟩
theorem rv_next_item {Q : Option Value → Shared → Prop} {I : Addr} {i : Nat} {v : Value} (S : St z B (c :: (I, RvO a vs.length i) :: cs) s) (x : Has B a (TpO vs)) (hz : vs.length ≤ 1000) (hi : i < vs.length) (hv : vs[vs.length - 1 - i]? = some v)
    (h : ∀ s', St z B (c :: (I, RvO a vs.length (i + 1)) :: cs) s' → Q (some v) s') : wpAny K.M A (pyNext (.ref I)) Q E s := by
  obtain ⟨o, ho, oc, od⟩ := S.at (P' := RvO a vs.length (i + 1)) (.there .here)
  have hT : s.TypeIs (.ref I) "reversed" := ⟨o, ho, oc⟩
  have ht := HasTp.tuple S x
  unfold pyNext
  refine wpAny_bind (wpAny_attempt (wpAny_callSpecial?_slot (name := Str.ofString "__next__") hT Rv.slot_next (wpAny_call_entry Rv.slot_next hT Rv.entry_next ?_ (Rv.args_next _))))
  unfold Builtin.«reversed.__next__»
  refine wpAny_bind (wpAny_of_eq (a := (Value.ref I, [])) rfl ?_)
  try dsimp only
  refine wpAny_bind (wpAny_field ho od (x := .ref a) rfl ?_)
  refine wpAny_bind (wpAny_field ho od (x := rawInt ((vs.length : Int) - 1 - (i : Int))) rfl ?_)
  show wpAny _ _ (if ((vs.length : Int) - 1 - (i : Int)) < 0 then _ else _) _ _ s
  rw [if_neg (by lia)]
  refine wpAny_bind (wpAny_specialOf ht.typeIs PySem.F.slot_tuple_getitem.lookup ?_)
  rw [if_neg (by decide)]
  refine wpAny_bind (wpAny_mkInt ?_)
  have hn : vs.toArray.size = vs.length := by simp
  refine wpAny_bind (wpAny_attempt (PyProof.Rows.getItem_tuple (j := vs.length - 1 - i) (let ⟨o, a, b⟩ := ht; ⟨o, a, b⟩) (by lia) (by lia) ?_ (by simpa using hv) ?_))
  · rw [hn]; unfold seqIndex?
    have e1 : ¬ ((vs.length : Int) - 1 - (i : Int) < 0) := by lia
    simp only [e1, if_false]
    rw [if_pos (by simp only [Bool.and_eq_true, decide_eq_true_eq]; lia)]
    congr 1; lia
  refine wpAny_bind (wpAny_field ho od (x := rawInt ((vs.length : Int) - 1 - (i : Int))) rfl ?_)
  refine wpAny_bind (wpAny_setField ho od (by simp) ?_)
  refine wpAny_pure ⟨v, rfl, wpAny_pure (h _ (S.upd (t := _) (.there .here) (fun b o hb e => upd_keep hb e) (Heap.get?_update_self _ ho (Obj.isFreed_of_fields (Obj.data_mapFields od _))) ⟨(Obj.cls_mapFields ..).trans oc, ?_⟩))⟩
  rw [Obj.data_mapFields od]
  have e2 : (vs.length : Int) - 1 - (i : Int) - 1 = (vs.length : Int) - 1 - ((i + 1 : Nat) : Int) := by lia
  rw [e2]; rfl
theorem rv_next_end {Q : Option Value → Shared → Prop} {I : Addr} {n : Nat} (hh : A.handled = none) (S : St z B (c :: (I, RvO a n n) :: cs) s)
    (h : ∀ s', St z B (c :: cs) s' → Q none s') : wpAny K.M A (pyNext (.ref I)) Q E s := by
  obtain ⟨o, ho, oc, od⟩ := S.at (P' := RvO a n 0) (.there .here)
  have hT : s.TypeIs (.ref I) "reversed" := ⟨o, ho, oc⟩
  unfold pyNext
  refine wpAny_bind (wpAny_attempt (wpAny_callSpecial?_slot (name := Str.ofString "__next__") hT Rv.slot_next (wpAny_call_entry Rv.slot_next hT Rv.entry_next ?_ (Rv.args_next _))))
  unfold Builtin.«reversed.__next__»
  refine wpAny_bind (wpAny_of_eq (a := (Value.ref I, [])) rfl ?_)
  try dsimp only
  refine wpAny_bind (wpAny_field ho od (x := .ref a) rfl ?_)
  refine wpAny_bind (wpAny_field ho od (x := rawInt ((n : Int) - 1 - (n : Int))) rfl ?_)
  show wpAny _ _ (if ((n : Int) - 1 - (n : Int)) < 0 then _ else _) _ _ s
  rw [if_pos (by lia)]
  refine wpAny_bind (wpAny_rule ?_)
  refine wpAny_bind ?_
  show wpAny _ _ (setField (.ref I) 1 (rawInt (-1)) >>= _) _ _ s
  refine wpAny_bind (wpAny_setField ho od (by simp) ?_)
  have ho1 := Heap.get?_update_self (h := s.heap) (a := I) (Obj.mapFields fun vs => vs.setIfInBounds 1 (rawInt (-1))) ho (Obj.isFreed_of_fields (Obj.data_mapFields od _))
  refine wpAny_setField ho1 (Obj.data_mapFields od _) (by simp) ?_
  refine wpAny_bind ?_
  show wpAny _ _ (newExc (.type "StopIteration") [] >>= _) _ _ _
  refine wpAny_bind ?_
  simp only [newExc, newTuple]
  refine wpAny_bind (wpAny_newObj_type ?_ (by size_fits))
  refine wpAny_bind (m := firstArgMember _ _) (wpAny_of_eq (a := Value.none) (by first | rfl | (simp only [firstArgMember]; rfl)) ?_)
  refine wpAny_newObj_type ?_ (by size_fits)
  simp only [raiseNew]
  refine wpAny_bind (wpAny_handled ?_)
  first | rw [show A.in1.handled = none from hh] | rw [hh]
  refine wpAny_bind (wpAny_pure (wpAny_throw ?_))
  refine wpAny_bind (wpAny_isInstance (T := "StopIteration") (b := true) ⟨_, Heap.get?_push_size _ rfl, rfl⟩ isSubtype_stop ?_)
  exact wpAny_pure (h _ (S.lose (t := s.toks) fun b o hb e => Heap.get?_push_of_some _ (Heap.get?_push_of_some _ (upd_keep hb (upd_keep hb e)))))
theorem r_iter_rv {Q : Value → Shared → Prop} {I : Addr} {n i : Nat} (S : St z B (c :: (I, RvO a n i) :: cs) s) (h : Q (.ref I) s) : wpAny K.M A (pyIter (.ref I)) Q E s := by
  obtain ⟨o, ho, oc, od⟩ := S.at (P' := RvO a n 0) (.there .here)
  have hT : s.TypeIs (.ref I) "reversed" := ⟨o, ho, oc⟩
  refine wpAny_pyIter_slot hT Rv.slot_iter (wpAny_call_entry Rv.slot_iter hT Rv.entry_iter ?_ (Rv.args_iter _))
  show wpAny _ _ (ret (.ref I)) _ _ s
  exact wpAny_pure ⟨_, rfl, "reversed", _, hT, Rv.slot_next.lookup, h⟩
theorem iter_rv {I : Addr} (hh : A.handled = none) (x : Has B a (TpO vs)) (hz : vs.length ≤ 1000) : Iter K A B I (RvO a vs.length) vs.length (fun i v => vs.reverse[i]? = some v) where
  item := by
    intro z B' c cs i s E Q hB hi S h
    have hv := List.getElem?_reverse (l := vs) hi
    refine rv_next_item (v := vs[vs.length - 1 - i]'(by lia)) S (x.mono hB) hz hi (List.getElem?_eq_getElem (by lia)) fun s' S' => h _ _ ?_ S'
    rw [hv]; exact List.getElem?_eq_getElem (by lia)
  done := by
    intro z B' c cs s E Q hB S h
    exact rv_next_end hh S h
  self := by
    intro z B' c cs s E Q hB S h
    exact r_iter_rv S h
end

/-- read in the heap as it stands -/
noncomputable def In (s : Shared) (a : Addr) (P : Obj → Prop) : Prop := ∃ o, s.heap.get? a = some o ∧ P o
theorem St.inB {z s : Shared} {B : View} {cs : List Cell} {a : Addr} {P : Obj → Prop} (S : St z B cs s) (x : Has B a P) : In s a P := S.has x
theorem St.inC {z s : Shared} {B : View} {cs : List Cell} {a : Addr} {P : Obj → Prop} (S : St z B cs s) (x : (a, P) ∈ cs) : In s a P := S.cells _ x
noncomputable def DcO (K : Wk) (kvs : List (Int × Value)) : Obj → Prop := fun o => o.IsDictOf (PySem.intKind pw K.w) kvs

section
variable {K : Wk} {A : Around} {E : Value → Shared → Prop} {z : Shared} {B : View} {cs cs' : List Cell} {s : Shared} {c : Cell} {a : Addr} {vs : List Value} {v w : Value} {kvs : List (Int × Value)}
theorem sz_fit {n : Nat} (h : n ≤ 1000) : n ≤ sizeLine := by rw [sizeLine_eq]; lia

/-! ## tuples, lists -/
theorem r_newTuple {Q : Value → Shared → Prop} (S : St z B cs s) (hz : vs.length ≤ 1000) (h : ∀ a B' s', Sub B B' → Has B' a (TpO vs) → St z B' cs s' → Q (.ref a) s') : wpAny K.M A (newTuple vs) Q E s := by
  refine wpAny_newObj_type ?_ (by show vs.toArray.size ≤ sizeLine; rw [List.size_toArray]; exact sz_fit hz)
  have S' := S.alloc (t := s.toks) (P := TpO vs) (St.fresh s) (fun b o' _ e => Heap.get?_push_of_some _ e) (Heap.get?_push_size s.heap (o := { cls := .type "tuple", data := .seq vs.toArray }) rfl) ⟨rfl, _, rfl⟩
  obtain ⟨B', o, hB, hp, e, S''⟩ := S'.freeze .here
  exact h _ _ _ hB ⟨o, e, hp⟩ S''
theorem r_newList {Q : Value → Shared → Prop} (S : St z B (c :: cs) s) (hz : vs.length ≤ 1000) (h : ∀ a s', St z B (c :: (a, LsO vs) :: cs) s' → Q (.ref a) s') : wpAny K.M A (newList vs) Q E s := by
  refine wpAny_newObj_type ?_ (by show vs.toArray.size ≤ sizeLine; rw [List.size_toArray]; exact sz_fit hz)
  exact h _ _ (S.push2 (t := s.toks) rfl ⟨_, rfl⟩)
theorem r_append {Q : Value → Shared → Prop} (S : St z B cs s) (u : At a (LsO vs) (LsO (vs ++ [v])) cs cs') (hz : vs.length ≤ sizeLine) (h : ∀ s', St z B cs' s' → Q .none s') :
    wpAny K.M A (call (.builtin "list.append") [.ref a, v]) Q E s := by
  obtain ⟨o, ho, n, rfl⟩ := S.at u
  refine wpAny_list_append_plain (hsz := by rw [List.size_toArray]; exact hz) ⟨n, ho⟩ fun h' hp hs => ?_
  obtain ⟨n', e⟩ := hp
  exact h _ (S.upd (t := s.toks) u (fun b o hb e => (hs.2 b hb).trans e) e ⟨n', by simp⟩)
theorem r_pop {Q : Value → Shared → Prop} (S : St z B cs s) (u : At a (LsO (vs ++ [v])) (LsO vs) cs cs') (hz : vs.length < sizeLine) (h : ∀ s', St z B cs' s' → Q v s') :
    wpAny K.M A (call (.builtin "list.pop") [.ref a]) Q E s := by
  obtain ⟨o, ho, n, rfl⟩ := S.at u
  refine Copied.pop_at (hsz := by simp; lia) ho (y := v) (by simp) fun h' hs e => ?_
  exact h _ (S.upd (t := s.toks) u (fun b o hb e => (hs.2 b hb).trans e) e ⟨n + 1, by simp⟩)
theorem In.lsType {s : Shared} (x : In s a (LsO vs)) : s.TypeIs (.ref a) "list" := by obtain ⟨o, ho, n, rfl⟩ := x; exact ⟨_, ho, rfl⟩
theorem r_meth_list {name : Str} {id : String} {pl : Sem Bool} {Q : Value × List Value → Shared → Prop} (x : In s a (LsO vs)) (slot : Slot "list" name id) (ty : typeOf (.builtin id) = pure (.type "method_descriptor")) (h : Q (.builtin id, [.ref a]) s) :
    wpAny K.M A (getMethod (.ref a) name pl) Q E s := by
  obtain ⟨o, ho, n, rfl⟩ := x
  exact getMethod_builtin ⟨_, ho, rfl⟩ PySem.F.plainAttrs_list slot ty (fun b e => by cases e; exact ⟨_, ho, rfl⟩) h
theorem In.list (x : In s a (LsO vs)) : s.heap.IsList a vs.toArray := by obtain ⟨o, ho, n, rfl⟩ := x; exact ⟨_, ho, rfl, n, rfl⟩
theorem In.tuple (x : In s a (TpO vs)) : s.heap.IsTuple a vs.toArray := by obtain ⟨o, ho, hc, n, hd⟩ := x; exact ⟨_, ho, hc, n, hd⟩
theorem r_item_ls {value slice : Expr} {k : Nat} {i : Int} {u : Tok} {Q : Value → Shared → Prop} (x : In s a (LsO vs)) (hi : i = (k : Int)) (hk : k < 2 ^ 60) (hv : vs[k]? = some v) (h : Q v s)
    (hs : subscripted slice false (.ref a) (.int i u) = operate [.ref a, .int i u] (getItem (.ref a) (.int i u)) := by with_unfolding_all rfl) : wpAny K.M A (subscriptTail value slice (.ref a) (.int i u)) Q E s := by
  subst hi
  exact tail_any x.lsType PySem.F.slot_list_getitem.lookup (wpAny_getItem_list x.list (by lia) (by lia) (by simpa using hv) h) hs
theorem r_len_ls {Q : Value → Shared → Prop} (S : St z B cs s) (x : In s a (LsO vs)) (hz : vs.length ≤ 1000000) (h : ∀ t s', St z B cs s' → Q (.int vs.length t) s') : wpAny K.M A (call (.builtin "len") [.ref a]) Q E s := by
  refine call_len_list x.list (by simp; lia) ?_
  simpa using h _ _ (S.toks _)
theorem r_len_tp {Q : Value → Shared → Prop} (S : St z B cs s) (x : In s a (TpO vs)) (hz : vs.length ≤ 1000000) (h : ∀ t s', St z B cs s' → Q (.int vs.length t) s') : wpAny K.M A (call (.builtin "len") [.ref a]) Q E s := by
  refine PyProof.Rows.len_tuple (items := vs.toArray) (let ⟨o, a, b⟩ := x.tuple; ⟨o, a, b⟩) (by simp; lia) ?_
  simpa using h _ _ (S.toks _)
theorem r_unpack {env : Env} {elts : List Expr} {x1 : Nat} {pos : Pos} {Q : Unit → Shared → Prop} (S : St z B cs s) (hh : A.handled = none) (x : In s a (TpO vs)) (hn : (assignEach elts env).length = vs.length) (hstar : (assignEach elts env).findIdx? (·.1) = none)
    (h : ∀ s', St z B cs s' → wpAny K.M A (assignInOrder ((assignEach elts env).map (·.2)) vs) Q E s') : wpAny K.M A (assign (.Tuple elts x1 pos) env (.ref a)) Q E s := by
  refine assign_Tuple_tuple (items := vs.toArray) hh (let ⟨o, a, b⟩ := x.tuple; ⟨o, a, b⟩) (by simpa using hn) hstar fun h' he => ?_
  refine h _ (S.step (t := s.toks) fun b o e => he b o (Nat.ne_of_lt (Heap.lt_size e)) e)
theorem r_addstr {x y : Str} {t u : Tok} {Q : Value → Shared → Prop} (S : St z B cs s) (hz : x.length + y.length ≤ 1000) (h : ∀ t s', St z B cs s' → Q (.str (x ++ y) t) s') : wpAny K.M A (binaryOp .Add (.str x t) (.str y u)) Q E s :=
  PyProof.Rows.add_str (hsz := sz_fit hz) fun t' tk => h _ _ (S.toks _)

/-! ## dicts keyed by ints -/
theorem In.dict {s : Shared} (x : In s a (DcO K kvs)) : s.heap.DictOf (PySem.intKind pw K.w) a kvs := Heap.dictOf_iff.mpr x
theorem r_dict0 {env : Env} {pos : Pos} {Q : Value → Shared → Prop} (S : St z B (c :: cs) s) (W : Lib K B) (h : ∀ d s', (d == sysModules) = false → St z B (c :: (d, DcO K []) :: cs) s' → Q (.ref d) s') : wpAny K.M A (eval (.Dict [] [] pos) env) Q E s := by
  have big := modules_low (S.top W).nolimit
  refine wpAny_Dict_empty (h _ _ (beq_eq_false_iff_ne.mpr (Nat.ne_of_gt big)) (S.push2 (t := s.toks) rfl ?_))
  obtain ⟨o, ho, hd⟩ := Heap.dictOf_iff.mp (Heap.DictOf.new (knd := PySem.intKind pw K.w) s.heap)
  rw [Heap.get?_push_size _ rfl] at ho
  exact (Option.some.inj ho) ▸ hd
theorem r_set_dc {k : Int} {u : Tok} {Q : Unit → Shared → Prop} (S : St z B cs s) (m : At a (DcO K kvs) (DcO K (stored kvs k v)) cs cs') (hz : kvs.length ≤ 1000) (h : ∀ s', St z B cs' s' → Q () s') : wpAny K.M A (setItem (.ref a) (.int k u) v) Q E s := by
  have hD := In.dict (S.at m)
  refine wpAny_setItem_pairs (hsz := sz_fit hz) (intKind_is _ _ k u) hD fun h' hmm hs => ?_
  obtain ⟨o', ho', hd'⟩ := Heap.dictOf_iff.mp hmm
  exact h _ (S.upd m (fun b o hb e => (hs.2 b hb).trans e) ho' hd')
theorem r_notin_dc {k : Int} {u : Tok} {Q : Value → Shared → Prop} (S : St z B cs s) (x : In s a (DcO K kvs)) (lo : (a == sysModules) = false) (h : ∀ s', St z B cs s' → Q (.bool (!(valueAt kvs k).isSome)) s') : wpAny K.M A (compareOp .NotIn (.int k u) (.ref a)) Q E s :=
  wpAny_notIn_of (intKind_is _ _ k u) lo x.dict.mapOf (h _ (S.toks _))
theorem r_meth_dict {name : Str} {id : String} {pl : Sem Bool} {Q : Value × List Value → Shared → Prop} (x : In s a (DcO K kvs)) (slot : Slot "dict" name id) (ty : typeOf (.builtin id) = pure (.type "method_descriptor")) (h : Q (.builtin id, [.ref a]) s) :
    wpAny K.M A (getMethod (.ref a) name pl) Q E s :=
  have hD := x.dict
  getMethod_builtin hD.typeIs PySem.F.plainAttrs_dict slot ty hD.mapOf.noDict h
theorem r_get_dc {k : Int} {u : Tok} {Q : Value → Shared → Prop} (S : St z B cs s) (x : In s a (DcO K kvs)) (lo : (a == sysModules) = false) (h : ∀ s', St z B cs s' → Q ((valueAt kvs k).getD v) s') : wpAny K.M A (call (.builtin "dict.get") [.ref a, .int k u, v]) Q E s :=
  have hD := x.dict
  call_meetsIn PySem.F.slot_dict_get hD.typeIs PySem.F.entry_dict_get (PySem.F.args_dict_get_3 _ _ _) (meets_dict_get_default (PySem.intKind pw K.w) a (intKind_is _ _ k u) lo v) ⟨_, hD.mapOf, h _ (S.toks _)⟩
theorem r_setdef_there {k : Int} {u : Tok} {Q : Value → Shared → Prop} (S : St z B cs s) (x : In s a (DcO K kvs)) (lo : (a == sysModules) = false) (hl : valueAt kvs k = some w) (hz : kvs.length ≤ 1000) (h : ∀ s', St z B cs s' → Q w s') :
    wpAny K.M A (call (.builtin "dict.setdefault") [.ref a, .int k u, v]) Q E s :=
  have hD := x.dict
  call_meetsIn PySem.F.slot_dict_setdefault hD.typeIs PySem.F.entry_dict_setdefault (PySem.F.args_dict_setdefault_3 _ _ _) (kt_meets_setdefault (PySem.intKind pw K.w) a (intKind_is _ _ k u) lo v) ⟨kvs, hD, sz_fit hz, (fun v' hv' => by rw [hl] at hv'; cases hv'; exact h _ (S.toks _)), fun hn => by rw [hl] at hn; cases hn⟩
theorem r_setdef_new {k : Int} {u : Tok} {Q : Value → Shared → Prop} (S : St z B cs s) (m : At a (DcO K kvs) (DcO K (stored kvs k v)) cs cs') (lo : (a == sysModules) = false) (hl : valueAt kvs k = none) (hz : kvs.length ≤ 1000) (h : ∀ s', St z B cs' s' → Q v s') :
    wpAny K.M A (call (.builtin "dict.setdefault") [.ref a, .int k u, v]) Q E s := by
  have hD := In.dict (S.at m)
  refine call_meetsIn PySem.F.slot_dict_setdefault hD.typeIs PySem.F.entry_dict_setdefault (PySem.F.args_dict_setdefault_3 _ _ _) (kt_meets_setdefault (PySem.intKind pw K.w) a (intKind_is _ _ k u) lo v) ⟨kvs, hD, sz_fit hz, (fun v hv' => by rw [hl] at hv'; cases hv'), fun _ h' hmm hs => ?_⟩
  obtain ⟨o', ho', hd'⟩ := Heap.dictOf_iff.mp hmm
  exact h _ (S.upd m (fun b o hb e => (hs.2 b hb).trans e) ho' hd')
end

section
variable {K : Wk} {A : Around} {E : Value → Shared → Prop} {z : Shared} {B : View} {cs cs' : List Cell} {s : Shared} {c : Cell} {a : Addr} {vs : List Value} {v w : Value} {kvs : List (Int × Value)}

theorem Iter.ofWalks {I : Addr} {fp : List Addr} {n : Nat} {P : Nat → Value → Prop} {T : Nat → Heap → Prop} (W : Walks pw K.w A I fp [I] n P T) (hfp : ∀ b ∈ fp, b = I ∨ ∃ o, B b = some o) (hex : ∀ i h, T i h → ∃ o, h.get? I = some o) :
    Iter K A B I (fun i o => ∀ h : Heap, (∀ a o, B a = some o → h.get? a = some o) → h.get? I = some o → T i h) n P where
  item := by
    intro z B' c cs i s E Q hB hi S h
    obtain ⟨o, e, p⟩ := S.at (P' := fun o => ∀ h : Heap, (∀ a o, B a = some o → h.get? a = some o) → h.get? I = some o → T (i + 1) h) (.there .here)
    have hb : ∀ a o, B a = some o → s.heap.get? a = some o := fun a o q => S.base a o (hB a o q)
    refine W.item i s Q E hi (p _ hb e) fun v h' tk hP hst hk => ?_
    obtain ⟨o', e'⟩ := hex _ _ hst
    have hb' : ∀ a o, B a = some o → h'.get? a = some o := fun a o q => hk a o (by
      intro hm
      rw [List.mem_singleton.mp hm] at q
      have := S.off (I, _) (.tail _ (.head _))
      rw [hB _ _ q] at this; cases this) (hb a o q)
    refine h v _ hP (S.upd (t := tk) (.there .here) (fun b ob ne eb => hk b ob (by simpa using ne) eb) e' fun h₂ hb₂ e₂ => W.frame _ h' h₂ hst fun b hm ob eb => ?_)
    rcases hfp b hm with rfl | ⟨ob', q⟩
    · rw [e'] at eb; cases eb; exact e₂
    · rw [hb' b ob' q] at eb; cases eb; exact hb₂ b _ q
  done := by
    intro z B' c cs s E Q hB S h
    obtain ⟨o, e, p⟩ := S.at (P' := fun o => ∀ h : Heap, (∀ a o, B a = some o → h.get? a = some o) → h.get? I = some o → T 0 h) (.there .here)
    have hb : ∀ a o, B a = some o → s.heap.get? a = some o := fun a o q => S.base a o (hB a o q)
    exact W.done s Q E (p _ hb e) fun h' tk hk => h _ (S.lose (t := tk) fun b ob ne eb => hk b ob (by simpa using ne) eb)
  self := by
    intro z B' c cs s E Q hB S h
    obtain ⟨o, e, p⟩ := S.at (P' := fun o => ∀ h : Heap, (∀ a o, B a = some o → h.get? a = some o) → h.get? I = some o → T 0 h) (.there .here)
    exact W.self 0 s Q E (p _ (fun a o q => S.base a o (hB a o q)) e) h

/-! ## ranges -/
theorem iter_range {I : Addr} (hh : A.handled = none) (a0 : Int) (n : Nat) : Iter K A B I (fun i o => ∀ h : Heap, (∀ a o, B a = some o → h.get? a = some o) → h.get? I = some o → IsRangeIter h I (a0 + (i : Nat) * 1) ((n : Int) - (i : Nat)) 1) n (fun i v => ∃ t, v = .int (a0 + (i : Int)) t) :=
  .ofWalks (by simpa using Walks.range (prog := pw) (w := K.w) hh I a0 1 n) (by simp) (fun _ _ e => ⟨_, e⟩)
noncomputable def RgO (a b : Int) : Obj → Prop := fun o => ∃ t u v, o = { cls := .type "range", dict := none, data := .fields #[.int a t, .int b u, .int 1 v], slots := #[] }
theorem r_range1 {n : Int} {t : Tok} {Q : Value → Shared → Prop} (S : St z B (c :: cs) s) (h : ∀ r s', St z B (c :: (r, RgO 0 n) :: cs) s' → Q (.ref r) s') : wpAny K.M A (call (.type "range") [.int n t]) Q E s :=
  call_range_1 (h _ _ (S.push2 (t := _) rfl ⟨_, _, _, rfl⟩))
theorem r_range2 {a b : Int} {t u : Tok} {Q : Value → Shared → Prop} (S : St z B (c :: cs) s) (h : ∀ r s', St z B (c :: (r, RgO a b) :: cs) s' → Q (.ref r) s') : wpAny K.M A (call (.type "range") [.int a t, .int b u]) Q E s :=
  call_range_2 (h _ _ (S.push2 (t := _) rfl ⟨_, _, _, rfl⟩))
theorem range_small {a b : Int} (ha : -1000000 ≤ a) (ha' : a ≤ 1000000) (hb : -1000000 ≤ b) (hb' : b ≤ 1000000) : Builtin.Range.small a b 1 = true := by
  have h1 : ∀ x : Int, -4000000 ≤ x → x ≤ 4000000 → Builtin.Range.rangeFitsLong x = true := fun x h h' => by
    unfold Builtin.Range.rangeFitsLong
    simp only [Bool.and_eq_true, decide_eq_true_eq]
    lia
  unfold Builtin.Range.small
  rw [rangeSize_one, h1 a (by lia) (by lia), h1 b (by lia) (by lia), h1 1 (by lia) (by lia), h1 (if a < b then b - a else 0) (by split <;> lia) (by split <;> lia)]
  simp only [Bool.true_and, Bool.or_eq_true]
  right
  rw [if_pos (by decide)]
  exact h1 _ (by lia) (by lia)
/-- the iterator of a range that is not kept -/
theorem r_iter_range {r : Addr} {x y : Int} {n : Nat} {Q : Value → Shared → Prop} (S : St z B (c :: (r, RgO x y) :: cs) s) (hh : A.handled = none) (hn : (n : Int) = if x < y then y - x else 0) (ha : -1000000 ≤ x) (ha' : x ≤ 1000000) (hb : -1000000 ≤ y) (hb' : y ≤ 1000000)
    (h : ∀ I ItO s', Iter K A B I ItO n (fun i v => ∃ t, v = .int (x + (i : Int)) t) → St z B (c :: (I, ItO 0) :: cs) s' → Q (.ref I) s') : wpAny K.M A (pyIter (.ref r)) Q E s := by
  obtain ⟨o, ho, t, u, v, rfl⟩ := S.at (P' := RgO x y) (.there .here)
  refine wpAny_pyIter_range ho (range_small ha ha' hb hb') ?_
  refine h _ _ _ (iter_range hh x n) ((S.push2 (t := s.toks) rfl ?_).drop (.cons_cons _ (.cons_cons _ (List.sublist_cons_self _ _))))
  intro h' _ e
  rw [rangeSize_one, ← hn] at e
  simpa [rawInt, IsRangeIter] using e

/-! ## the keys of a dict -/
theorem r_iter_dc {d : Addr} {Q : Value → Shared → Prop} (S : St z B (c :: cs) s) (hh : A.handled = none) (x : Has B d (DcO K kvs)) (lo : (d == sysModules) = false)
    (h : ∀ I ItO s', Iter K A B I ItO kvs.length (fun i v => ∃ k x t, kvs[i]? = some (k, x) ∧ v = .int k t) → St z B (c :: (I, ItO 0) :: cs) s' → Q (.ref I) s') : wpAny K.M A (pyIter (.ref d)) Q E s := by
  obtain ⟨o, e, p⟩ := id x
  obtain ⟨ep, ha⟩ := KdkAt.of p
  have ho := S.base _ _ e
  refine wpAny_pyIter_dict lo (ha.dictAt ho) ?_
  have hI : s.heap.get? s.heap.objs.size = none := St.fresh s
  have hne : d ≠ s.heap.objs.size := by rintro rfl; rw [ho] at hI; cases hI
  have W := Walks.dictKeys (prog := pw) (w := K.w) (knd := PySem.intKind pw K.w) hh s.heap.objs.size d hne kvs ep
  have It := Iter.ofWalks (K := K) (B := B) W (fun b hb => by
    simp only [List.mem_cons, List.not_mem_nil, or_false] at hb
    rcases hb with rfl | rfl
    · exact .inl rfl
    · exact .inr ⟨_, e⟩) (fun i h x => by obtain ⟨⟨o, q, _⟩, _⟩ := x; exact ⟨o, q⟩)
  refine h _ _ _ ⟨fun hB hi S' k => It.item hB hi S' fun v s' hv S'' => k v s' ?_ S'', fun hB S' k => It.done hB S' k, fun hB S' k => It.self hB S' k⟩ (S.push2 (t := s.toks) rfl ?_)
  · obtain ⟨k', x', h1, h2⟩ := hv
    obtain ⟨t, rfl⟩ := Value.isInt_shape h2
    exact ⟨k', x', t, h1, rfl⟩
  · intro h' hb' e'
    exact ⟨⟨_, e', rfl, rfl⟩, ha.dictAt (hb' _ _ e)⟩
end

/-! ## objects of classes -/
structure Inst (B : View) (x C dx : Addr) : Prop where
  obj : ∃ o, B x = some o ∧ o.cls = .ref C ∧ o.dict = some dx ∧ ∀ c, o.data ≠ .cls c
  ne : dx ≠ x
theorem Inst.mono {B B' : View} {x C dx : Addr} (X : Inst B x C dx) (h : Sub B B') : Inst B' x C dx := ⟨let ⟨o, e, r⟩ := X.obj; ⟨o, h _ _ e, r⟩, X.ne⟩
theorem Inst.inst {z s : Shared} {B : View} {cs : List Cell} {x C dx : Addr} {m : Str → Option Value} (X : Inst B x C dx) (S : St z B cs s) (h : In s dx (AtO m)) : s.heap.Inst x C m := by
  obtain ⟨o, e, c, d, n⟩ := X.obj
  obtain ⟨o', e', es, ep, hd, hs, hu, hf⟩ := h
  exact ⟨o, S.base _ _ e, c, n, .inr ⟨dx, d, X.ne, o', es, ep, e', hd, hs, hu, hf⟩⟩
theorem ats_of {h : Heap} {a : Addr} {m : Str → Option Value} (x : h.Ns1 a m) : ∃ o, h.get? a = some o ∧ AtO m o := let ⟨o, es, ep, e, r⟩ := x; ⟨o, e, es, ep, r⟩
/-- what the top says of a class: where it lies, and that none of the names stands in it -/
structure Cls (K : Wk) (i : Nat) (C : Addr) : Prop where
  name : K.mg (cRec i).name = some (.ref C)
section
variable {K : Wk} {A : Around} {E : Value → Shared → Prop} {z : Shared} {B : View} {cs cs' : List Cell} {s : Shared} {x C dx : Addr} {m : Str → Option Value} {v : Value} {i : Nat} {name : Str}
theorem St.plain (S : St z B cs s) (W : Lib K B) (hm : cRec i ∈ plainsOf q lw) (Y : Cls K i C) : ∃ N mN, PlainAt s.heap (cRec i).withCmp C N mN := by
  obtain ⟨C', N, mN, h1, P⟩ := S.topE W _ hm
  rw [Y.name] at h1
  obtain rfl := Value.ref.inj (Option.some.inj h1)
  exact ⟨N, mN, P⟩
theorem r_attr {expr : Bool} {Q : Value → Shared → Prop} (S : St z B cs s) (W : Lib K B) (hm : cRec i ∈ plainsOf q lw) (Y : Cls K i C) (X : Inst B x C dx) (h : In s dx (AtO m)) (hv : m name = some v) (hq : name ∈ (cRec i).withCmp.quiet) (hh : handedOut v = pure v)
    (k : ∀ s', St z B cs s' → Q v s')
    (hB : typeLookup (.type "object") name = pure none := by rw [typeLookup_type, builtinLookup_eq_fast]; kernel_rfl) (hg : ("__getattribute__" : Str) ∈ (cRec i).withCmp.quiet := by simp [ClsRec.quiet]) : wpAny K.M A (getAttr (.ref x) name expr) Q E s := by
  obtain ⟨N, mN, P⟩ := S.plain W hm Y
  have I := X.inst S h
  obtain ⟨nm, q, bs, sn, sub, col, dd, k0, k1, k2, k3, k5, hC⟩ := P.cls.obj
  have S' := S.toks (s.toks + 1)
  obtain ⟨hp, g, d, t, os⟩ := s
  exact load_attr hC P.cls.ns (P.quiet _ hg) (P.quiet _ hq) hB I hv hh (k _ S')
theorem r_setattr {Q : Unit → Shared → Prop} {ns : List Str} (S : St z B cs s) (W : Lib K B) (hm : cRec i ∈ plainsOf q lw) (Y : Cls K i C) (X : Inst B x C dx) (u : At dx (AtO m) (AtO (upd m name v)) cs cs') (hq : name ∈ (cRec i).withCmp.quiet) (hw : Within m ns) (hsz : ns.length ≤ 1000)
    (k : ∀ s', St z B cs' s' → Q () s')
    (hB : typeLookup (.type "object") name = pure none := by rw [typeLookup_type, builtinLookup_eq_fast]; kernel_rfl) (hg : ("__setattr__" : Str) ∈ (cRec i).withCmp.quiet := by simp [ClsRec.quiet]) : wpAny K.M A (setAttr (.ref x) name v) Q E s := by
  obtain ⟨N, mN, P⟩ := S.plain W hm Y
  have I := X.inst S (S.at u)
  obtain ⟨o, ho, hc, hd, hn⟩ := X.obj
  obtain ⟨nm, q, bs, sn, sub, col, dd, k0, k1, k2, k3, k5, hC⟩ := P.cls.obj
  have hxC : x ≠ C := by
    rintro rfl
    have := S.base _ _ ho
    rw [hC] at this
    cases this
    exact hn _ rfl
  have S0 := S
  have hx := S.base _ _ ho
  obtain ⟨hp, g, d, t, os⟩ := s
  refine store_attr PySem.F.store_object hC P.cls.ns (P.quiet _ hg) (P.quiet _ hq) hB hxC I (fun h' tk' I' hk hsame => ?_) hw (sz_fit hsz)
  obtain ⟨o₁, e₁, c₁, d₁, s₁, dk⟩ := hsame o hx
  have eo : o₁ = o := by
    obtain ⟨a1, a2, a3, a4⟩ := o₁
    obtain ⟨b1, b2, b3, b4⟩ := o
    simp only at c₁ d₁ s₁ dk hd
    subst c₁ d₁ s₁
    rw [dk dx hd, hd]
  obtain ⟨o', e', _, _, hd'⟩ := I'
  rw [e₁] at e'
  cases e'
  rcases hd' with ⟨hn0, _⟩ | ⟨d', hd', _, hns'⟩
  · rw [dk dx hd] at hn0; cases hn0
  · rw [dk dx hd] at hd'
    cases hd'
    obtain ⟨oo, eo', po⟩ := ats_of hns'
    refine k _ (S0.upd u (fun b ob ne eb => ?_) eo' po)
    by_cases hb : b = x
    · subst hb
      rw [hx] at eb; cases eb
      rw [e₁, eo]
    · exact hk b ob hb (fun o₀ d₀ e₀ ed => by rw [hx] at e₀; cases e₀; rw [hd] at ed; cases ed; exact ne) eb
end
/-- where the top's name lies -/
noncomputable def fa (K : Wk) (x : Str) : Addr := match K.mg x with | some (.ref a) => a | _ => 0
noncomputable def fnNames : List Str := ["_wall", "goal_terms", "goal_special", "places_of", "crosses_call", "check_plan", "check_variable", "first_word", "check_goals", "variables", "variables_of", "occurrences", "chunk_numbers", "kind_of", "slot_order", "classify",
  "_law_pull", "_law_term", "_law_terms", "_law_clause", "_law_walk", "_law_all_places", "_law_parted", "_law_spoil_lists", "_law_spoil_variable", "_law_spoil_slots", "law"]
noncomputable def clNames : List Str := ["KernelClause", "VarInfo", "ClausePlan", "Survey"]
noncomputable def biNames : List Str := ["len", "range", "reversed", "sorted", "list", "tuple", "min", "max"]
theorem fn_names : (recsOf q).map (·.name) = fnNames := by rw [recs_eq]; kernel_rfl
theorem cl_names : (plainsOf q lw).map (·.name) = clNames := by rw [plains_eq]; kernel_rfl
theorem bi_free : ∀ x ∈ biNames, x ∉ startupNames ∧ x ∉ lw ∧ x ∉ fnNames ∧ x ∉ (litsOf q).map (·.1) ∧ x ∉ (clssOf q lw).map (·.name) ∧ x ≠ "__name__" := by decide +kernel
theorem boot_len : bootBuiltins "len" = some (.builtin "len") := by boot_by_name
theorem boot_range : bootBuiltins "range" = some (.type "range") := by boot_by_name
theorem boot_reversed : bootBuiltins "reversed" = some (.type "reversed") := by boot_by_name
theorem boot_sorted : bootBuiltins "sorted" = some (.builtin "sorted") := by boot_by_name
theorem boot_list : bootBuiltins "list" = some (.type "list") := by boot_by_name
theorem boot_tuple : bootBuiltins "tuple" = some (.type "tuple") := by boot_by_name
theorem boot_min : bootBuiltins "min" = some (.builtin "min") := by boot_by_name
theorem boot_max : bootBuiltins "max" = some (.builtin "max") := by boot_by_name
section
variable {K : Wk} {A : Around} {E : Value → Shared → Prop} {z : Shared} {B : View} {cs cs' : List Cell} {s : Shared} {L fa' : Addr} {m : Str → Option Value} {cn : Str} {sc : Scope} {cd : Value} {cl : List (Str × Addr)}
theorem mg_fn {x : Str} (S : St z B cs s) (W : Lib K B) (hx : fnNames.contains x = true) : K.mg x = some (.ref (fa K x)) := by
  have h := List.contains_iff_mem.mp hx
  rw [← fn_names] at h
  obtain ⟨d, hd, rfl⟩ := List.mem_map.mp h
  obtain ⟨a, o, pm, code, doc, h1, _⟩ := (S.top W).fn d hd
  unfold fa; rw [h1]
theorem mg_cl {x : Str} (S : St z B cs s) (W : Lib K B) (hx : clNames.contains x = true) : K.mg x = some (.ref (fa K x)) := by
  have h := List.contains_iff_mem.mp hx
  rw [← cl_names] at h
  obtain ⟨d, hd, rfl⟩ := List.mem_map.mp h
  obtain ⟨C, N, mN, h1, _⟩ := S.topE W d hd
  unfold fa; rw [h1]
theorem cls_of {i : Nat} {x : Str} (S : St z B cs s) (W : Lib K B) (hn : (cRec i).name = x) (hx : clNames.contains x = true) : Cls K i (fa K x) := ⟨by rw [hn]; exact mg_cl S W hx⟩
theorem cn2 : (cRec 2).name = "KernelClause" := by kernel_rfl
theorem cn17 : (cRec 17).name = "VarInfo" := by kernel_rfl
theorem cn18 : (cRec 18).name = "ClausePlan" := by kernel_rfl
theorem cn20 : (cRec 20).name = "Survey" := by kernel_rfl
theorem r_def (n : Nat) {x : Str} {args : List Value} (binds : List (Str × Value)) {Q : Value → Shared → Prop} (S : St z B cs s) (W : Lib K B) (hm : dN n ∈ recsOf q) (hn : (dN n).name = x) (hroom : A.depth < recursionLimit)
    (hbind : ∀ pm cd doc, bindArgs (Calls.docDef (dN n).name (dN n).params (dN n).body (dN n).scope pm cd doc) ⟨args, []⟩ = pure binds)
    (hloc : ∀ x ∈ binds, (dN n).scope.names.lookup x.1 = some .local) (hcell : ∀ x ∈ (dN n).scope.names, x.2 ≠ .cell)
    (h : ∀ L cd s', St z B ((L, Lo fun y => binds.reverse.lookup y) :: cs) s' → wpAny K.M (A.deeper (envX (dN n).name (dN n).scope L (fa K x) cd [])) (execs (dN n).body (envX (dN n).name (dN n).scope L (fa K x) cd []))
      (fun fl s' => Q (match fl with | .ret v => v | _ => .none) s') (fun _ _ => False) s')
    (hco : (dN n).scope.isCoroutine = false := by rfl) (hgen : (dN n).scope.isGenerator = false := by rfl) (hk : (dN n).scope.kind = .function := by rfl) :
    wpAny K.M A (call (.ref (fa K x)) args) Q E s :=
  r_call (n := n) S W hm (by rw [hn]; exact mg_fn S W (by rw [List.contains_iff_mem, ← fn_names, ← hn]; exact List.mem_map_of_mem hm)) hroom hbind hloc hcell h hco hgen hk
end
/-! ## calls by a name -/
noncomputable def IsFn (a : Addr) (h : Heap) : Prop := ∃ o fd, h.get? a = some o ∧ o.data = .func fd
noncomputable def IsCl (C : Addr) (h : Heap) : Prop := ∃ N mN, ClsAt h C N mN
theorem isFn_looks {M : Model} {a : Addr} (h : Heap) (X : IsFn a h) : ∃ k, (k = Keeper.frame ∨ k = Keeper.machine ∨ k = Keeper.boundFrame) ∧ Looks M h (keeperOf (.ref a)) k := by
  obtain ⟨o, fd, e, d⟩ := X
  refine ⟨.frame, .inl rfl, fun A Q E s k q => ?_⟩
  unfold keeperOf
  refine wpAny_bind (wpAny_load (k _ _ e) ?_)
  rw [d]; exact wpAny_pure q
theorem isCl_looks {M : Model} {a : Addr} (h : Heap) (X : IsCl a h) : ∃ k, (k = Keeper.frame ∨ k = Keeper.machine ∨ k = Keeper.boundFrame) ∧ Looks M h (keeperOf (.ref a)) k := by
  obtain ⟨N, mN, X⟩ := X
  refine ⟨.machine, .inr (.inl rfl), fun A Q E s k q => ?_⟩
  obtain ⟨nm, qq, bs, sn, sub, col, dd, k0, k1, k2, k3, k5, hC⟩ := (X.keeps k).obj
  have f1 := tc_lookup
  have hT : s.TypeIs (.ref a) "type" := ⟨_, hC, rfl⟩
  unfold keeperOf
  refine wpAny_bind (wpAny_load hC ?_)
  show wpAny _ _ (specialOf (.ref a) "__call__" >>= _) _ _ _
  refine wpAny_bind (wpAny_specialOf hT f1 ?_)
  exact wpAny_pure q
section
variable {K : Wk} {A : Around} {E : Value → Shared → Prop} {z : Shared} {B : View} {cs cs' : List Cell} {s : Shared} {env : Env} {first : List Value} {pos : Pos} {e : Expr} {rest : List Expr} {Q : Value → Shared → Prop} {a : Addr}
theorem St.isFn {x : Str} (S : St z B cs s) (W : Lib K B) (hx : fnNames.contains x = true) : IsFn (fa K x) s.heap := by
  have h := List.contains_iff_mem.mp hx
  rw [← fn_names] at h
  obtain ⟨d, hd, rfl⟩ := List.mem_map.mp h
  obtain ⟨a, o, pm, code, doc, h1, h2, h3, _⟩ := (S.top W).fn d hd
  have : fa K d.name = a := by unfold fa; rw [h1]
  rw [this]; exact ⟨o, _, h2, h3⟩
theorem St.isCl {x : Str} (S : St z B cs s) (W : Lib K B) (hx : clNames.contains x = true) : IsCl (fa K x) s.heap := by
  have h := List.contains_iff_mem.mp hx
  rw [← cl_names] at h
  obtain ⟨d, hd, rfl⟩ := List.mem_map.mp h
  obtain ⟨C, N, mN, h1, P⟩ := S.topE W d hd
  have : fa K d.name = C := by unfold fa; rw [h1]
  rw [this]; exact ⟨N, mN, P.cls⟩
theorem r_cw (h : wpAny K.M A (spliced (backTo pos (starEach (e :: rest) env))) (fun vs s₁ => IsFn a s₁.heap ∧ wpAny K.M A (call (.ref a) (first ++ vs)) Q E s₁) E s)
    (he : starEach (e :: rest) env = (false, eval e env) :: starEach rest env := by rfl) (hplain : (backTo pos (starEach rest env)).any (·.1) = false := by rfl) :
    wpAny K.M A (callWith pos (.ref a) first (backTo pos (starEach (e :: rest) env)) []) Q E s := by
  rw [he] at h ⊢
  exact callWith_of (P := IsFn a) (by show ((false || (backTo pos (starEach rest env)).any (·.1)) || false) = false; rw [hplain]; rfl) isFn_looks (evalArgs_plain h)
theorem r_cwC (h : wpAny K.M A (spliced (backTo pos (starEach (e :: rest) env))) (fun vs s₁ => IsCl a s₁.heap ∧ wpAny K.M A (call (.ref a) (first ++ vs)) Q E s₁) E s)
    (he : starEach (e :: rest) env = (false, eval e env) :: starEach rest env := by rfl) (hplain : (backTo pos (starEach rest env)).any (·.1) = false := by rfl) :
    wpAny K.M A (callWith pos (.ref a) first (backTo pos (starEach (e :: rest) env)) []) Q E s := by
  rw [he] at h ⊢
  exact callWith_of (P := IsCl a) (by show ((false || (backTo pos (starEach rest env)).any (·.1)) || false) = false; rw [hplain]; rfl) isCl_looks (evalArgs_plain h)
theorem r_cw0 (X : IsFn a s.heap) (h : wpAny K.M A (call (.ref a) (first ++ [])) Q E s) : wpAny K.M A (callWith pos (.ref a) first (backTo pos (starEach [] env)) []) Q E s :=
  callWith_of (P := IsFn a) rfl isFn_looks (evalArgs_nil3 ⟨X, h⟩)
theorem r_cwC0 (X : IsCl a s.heap) (h : wpAny K.M A (call (.ref a) (first ++ [])) Q E s) : wpAny K.M A (callWith pos (.ref a) first (backTo pos (starEach [] env)) []) Q E s :=
  callWith_of (P := IsCl a) rfl isCl_looks (evalArgs_nil3 ⟨X, h⟩)
end
theorem rec_mem {n : Nat} (h : [0, 3, 4, 6, 7, 8, 9, 10, 11, 13, 14, 15, 19, 21, 22, 23, 25, 26, 27, 28, 29, 30, 31, 32, 33, 34, 35].contains n = true) : dN n ∈ recsOf q := by
  rw [recs_eq]
  have := List.contains_iff_mem.mp h
  exact List.mem_map_of_mem (f := dN) this
theorem Inst.up {B B' : View} {x C dx : Addr} (h : Sub B B') (X : Inst B x C dx) : Inst B' x C dx := X.mono h
theorem Has.up {B B' : View} {a : Addr} {P : Obj → Prop} (h : Sub B B') (X : Has B a P) : Has B' a P := X.mono h
theorem Lib.up {K : Wk} {B B' : View} (h : Sub B B') (X : Lib K B) : Lib K B' := X.mono h
theorem Br.split {b : Bool} {P R : Prop} (p : b = true → P) (r : b = false → R) : Br b P R := ⟨p, r⟩
theorem c2_mem : cRec 2 ∈ plainsOf q lw := by rw [plains_eq]; simp
theorem c17_mem : cRec 17 ∈ plainsOf q lw := by rw [plains_eq]; simp
theorem c18_mem : cRec 18 ∈ plainsOf q lw := by rw [plains_eq]; simp
theorem c20_mem : cRec 20 ∈ plainsOf q lw := by rw [plains_eq]; simp
noncomputable def at2 : List Str := ["args", "count", "functor", "goals"]
noncomputable def at17 : List Str := ["count", "first", "first_chunk", "kind", "last_chunk", "last_goal", "slot", "unsafe", "var"]
noncomputable def at18 : List Str := ["chunks", "env_size", "infos", "live_after", "needs_env"]
noncomputable def at20 : List Str := ["infos"]
noncomputable def methNames : List Str := ["meet", "terms", "perms"]
noncomputable def Free (name : Str) : Prop := typeLookup (.type "object") name = pure none
theorem free_of {name : Str} (h : (at2 ++ at17 ++ at18 ++ at20 ++ methNames).contains name = true) : typeLookup (.type "object") name = pure none := by
  have h := List.contains_iff_mem.mp h
  simp only [at2, at17, at18, at20, methNames, List.cons_append, List.nil_append, List.mem_cons, List.not_mem_nil, or_false] at h
  rcases h with rfl | rfl | rfl | rfl | rfl | rfl | rfl | rfl | rfl | rfl | rfl | rfl | rfl | rfl | rfl | rfl | rfl | rfl | rfl | rfl | rfl | rfl
  all_goals (rw [typeLookup_type, builtinLookup_eq_fast]; kernel_rfl)
theorem sub_mem {name : Str} {l r : List Str} (h : l.contains name = true) (k : l.all r.contains = true) : name ∈ r := List.contains_iff_mem.mp (List.all_eq_true.mp k _ (List.contains_iff_mem.mp h))
theorem q2 {name : Str} (h : at2.contains name = true) : name ∈ (cRec 2).withCmp.quiet := by rw [quiet2]; exact sub_mem h (by decide +kernel)
theorem q17 {name : Str} (h : at17.contains name = true) : name ∈ (cRec 17).withCmp.quiet := by rw [quiet17]; exact sub_mem h (by decide +kernel)
theorem q18 {name : Str} (h : at18.contains name = true) : name ∈ (cRec 18).withCmp.quiet := by rw [quiet18]; exact sub_mem h (by decide +kernel)
theorem q20 {name : Str} (h : at20.contains name = true) : name ∈ (cRec 20).withCmp.quiet := by rw [quiet20]; exact sub_mem h (by decide +kernel)
theorem f2 {name : Str} (h : at2.contains name = true) : typeLookup (.type "object") name = pure none := free_of (List.contains_iff_mem.mpr (sub_mem h (by decide +kernel)))
theorem f17 {name : Str} (h : at17.contains name = true) : typeLookup (.type "object") name = pure none := free_of (List.contains_iff_mem.mpr (sub_mem h (by decide +kernel)))
theorem f18 {name : Str} (h : at18.contains name = true) : typeLookup (.type "object") name = pure none := free_of (List.contains_iff_mem.mpr (sub_mem h (by decide +kernel)))
theorem f20 {name : Str} (h : at20.contains name = true) : typeLookup (.type "object") name = pure none := free_of (List.contains_iff_mem.mpr (sub_mem h (by decide +kernel)))
noncomputable abbrev Kc (K : Wk) : Addr := fa K "KernelClause"
noncomputable abbrev Vi (K : Wk) : Addr := fa K "VarInfo"
noncomputable abbrev Cp (K : Wk) : Addr := fa K "ClausePlan"
noncomputable abbrev Su (K : Wk) : Addr := fa K "Survey"
theorem i2 {K : Wk} {z : Shared} {B : View} {cs : List Cell} {s : Shared} (S : St z B cs s) (W : Lib K B) : Cls K 2 (Kc K) := cls_of S W cn2 (by rfl)
theorem i17 {K : Wk} {z : Shared} {B : View} {cs : List Cell} {s : Shared} (S : St z B cs s) (W : Lib K B) : Cls K 17 (Vi K) := cls_of S W cn17 (by rfl)
theorem i18 {K : Wk} {z : Shared} {B : View} {cs : List Cell} {s : Shared} (S : St z B cs s) (W : Lib K B) : Cls K 18 (Cp K) := cls_of S W cn18 (by rfl)
theorem i20 {K : Wk} {z : Shared} {B : View} {cs : List Cell} {s : Shared} (S : St z B cs s) (W : Lib K B) : Cls K 20 (Su K) := cls_of S W cn20 (by rfl)
theorem g2 : ("__getattribute__" : Str) ∈ (cRec 2).withCmp.quiet := by simp [ClsRec.quiet]
section
variable {K : Wk} {A : Around} {E : Value → Shared → Prop} {z : Shared} {B : View} {cs cs' : List Cell} {s : Shared} {c : Cell} {x C dx a : Addr} {m : Str → Option Value} {v : Value} {vs : List Value} {name : Str} {expr : Bool} {Q : Value → Shared → Prop} {R : Unit → Shared → Prop} {ns : List Str}
theorem r_get2 (S : St z B cs s) (W : Lib K B) (X : Inst B x (Kc K) dx) (h : In s dx (AtO m)) (hv : m name = some v) (hq : at2.contains name = true) (hh : handedOut v = pure v) (k : ∀ s', St z B cs s' → Q v s') :
    wpAny K.M A (getAttr (.ref x) name expr) Q E s := r_attr S W c2_mem (i2 S W) X h hv (q2 hq) hh k (f2 hq)
theorem r_get17 (S : St z B cs s) (W : Lib K B) (X : Inst B x (Vi K) dx) (h : In s dx (AtO m)) (hv : m name = some v) (hq : at17.contains name = true) (hh : handedOut v = pure v) (k : ∀ s', St z B cs s' → Q v s') :
    wpAny K.M A (getAttr (.ref x) name expr) Q E s := r_attr S W c17_mem (i17 S W) X h hv (q17 hq) hh k (f17 hq)
theorem r_get18 (S : St z B cs s) (W : Lib K B) (X : Inst B x (Cp K) dx) (h : In s dx (AtO m)) (hv : m name = some v) (hq : at18.contains name = true) (hh : handedOut v = pure v) (k : ∀ s', St z B cs s' → Q v s') :
    wpAny K.M A (getAttr (.ref x) name expr) Q E s := r_attr S W c18_mem (i18 S W) X h hv (q18 hq) hh k (f18 hq)
theorem r_get20 (S : St z B cs s) (W : Lib K B) (X : Inst B x (Su K) dx) (h : In s dx (AtO m)) (hv : m name = some v) (hq : at20.contains name = true) (hh : handedOut v = pure v) (k : ∀ s', St z B cs s' → Q v s') :
    wpAny K.M A (getAttr (.ref x) name expr) Q E s := r_attr S W c20_mem (i20 S W) X h hv (q20 hq) hh k (f20 hq)
theorem r_set2 (S : St z B cs s) (W : Lib K B) (X : Inst B x (Kc K) dx) (u : At dx (AtO m) (AtO (upd m name v)) cs cs') (hq : at2.contains name = true) (hw : Within m at2) (k : ∀ s', St z B cs' s' → R () s') :
    wpAny K.M A (setAttr (.ref x) name v) R E s := r_setattr S W c2_mem (i2 S W) X u (q2 hq) hw (by decide) k (f2 hq)
theorem r_set17 (S : St z B cs s) (W : Lib K B) (X : Inst B x (Vi K) dx) (u : At dx (AtO m) (AtO (upd m name v)) cs cs') (hq : at17.contains name = true) (hw : Within m at17) (k : ∀ s', St z B cs' s' → R () s') :
    wpAny K.M A (setAttr (.ref x) name v) R E s := r_setattr S W c17_mem (i17 S W) X u (q17 hq) hw (by decide) k (f17 hq)
theorem r_set18 (S : St z B cs s) (W : Lib K B) (X : Inst B x (Cp K) dx) (u : At dx (AtO m) (AtO (upd m name v)) cs cs') (hq : at18.contains name = true) (hw : Within m at18) (k : ∀ s', St z B cs' s' → R () s') :
    wpAny K.M A (setAttr (.ref x) name v) R E s := r_setattr S W c18_mem (i18 S W) X u (q18 hq) hw (by decide) k (f18 hq)
theorem r_set20 (S : St z B cs s) (W : Lib K B) (X : Inst B x (Su K) dx) (u : At dx (AtO m) (AtO (upd m name v)) cs cs') (hq : at20.contains name = true) (hw : Within m at20) (k : ∀ s', St z B cs' s' → R () s') :
    wpAny K.M A (setAttr (.ref x) name v) R E s := r_setattr S W c20_mem (i20 S W) X u (q20 hq) hw (by decide) k (f20 hq)
/-- all that stands in a frame of attributes is among the names -/
theorem Within.none' {l : List Str} : Within (fun _ => none) l := fun n h => absurd rfl h
theorem Within.upd' {l : List Str} {m : Str → Option Value} (h : Within m l) (hn : l.contains name = true) : Within (upd m name v) l := by
  intro y hy
  unfold upd at hy
  by_cases e : y = name
  · subst e; exact List.contains_iff_mem.mp hn
  · rw [if_neg e] at hy; exact h y hy

/-! ## methods -/
theorem r_callM {i k : Nat} {qual : Str} {f : Addr} {args : List Value} {binds : List (Str × Value)} (S : St z B cs s) (W : Lib K B) (F : ∃ o pm cd doc, s.heap.get? f = some o ∧ o.data = .func (methDef (mRec i k).name qual (mRec i k).params (mRec i k).body (mRec i k).scope pm cd doc) ∧ s.heap.CodeRec cd qual) (hroom : A.depth < recursionLimit)
    (hbind : ∀ pm cd doc, bindArgs (methDef (mRec i k).name qual (mRec i k).params (mRec i k).body (mRec i k).scope pm cd doc) ⟨args, []⟩ = pure binds)
    (hloc : ∀ x ∈ binds, (mRec i k).scope.names.lookup x.1 = some .local) (hcell : ∀ x ∈ (mRec i k).scope.names, x.2 ≠ .cell)
    (h : ∀ L cd s', St z B ((L, Lo fun y => binds.reverse.lookup y) :: cs) s' → wpAny K.M (A.deeper (envX qual (mRec i k).scope L f cd [])) (execs (mRec i k).body (envX qual (mRec i k).scope L f cd []))
      (fun fl s' => Q (match fl with | .ret v => v | _ => .none) s') (fun _ _ => False) s')
    (hco : (mRec i k).scope.isCoroutine = false := by rfl) (hgen : (mRec i k).scope.isGenerator = false := by rfl) (hk : (mRec i k).scope.kind = .function := by rfl) :
    wpAny K.M A (call (.ref f) args) Q E s := by
  have T := S.top W
  obtain ⟨o, pm, code, doc, h2, h3, h4⟩ := F
  refine wpAny_call (codeAny_call_def hroom h2 h3 T.nolimit h4 rfl (.of_eq (hbind _ _ _)) hcell hloc (fun h₀ hns hkeep => ?_) hco hgen hk)
  obtain ⟨o', ho, hp⟩ := lo_of hns
  exact wpAny_mono (h _ code _ (S.alloc (t := s.toks + binds.length) (St.fresh s) (fun b o _ e => hkeep b o e) ho hp)) (fun _ _ x => x) fun _ _ x => x.elim
theorem Ok.make {d u : Nat} {A : Around} {C : Addr} {args : List Value} (h : Ok (d + 1) (u + 3) A) : Ok d u (A.under (.builtin "type.__call__" ⟨.ref C :: args, []⟩)) := by
  exact ⟨h.handled, by have := h.depth; rw [depth_under_make]; lia, by have := h.units; rw [units_under_make]; lia⟩
theorem r_make {i : Nat} {nm : Str} {args : List Value} (S : St z B cs s) (W : Lib K B) (O : Ok 5 20 A) (hm : cRec i ∈ plainsOf q lw) (Y : Cls K i (fa K nm)) (mm : mRec i 0 ∈ (cRec i).withCmp.meths) (hn : (mRec i 0).name = "__init__") (binds : Addr → List (Str × Value))
    (hbind : ∀ x qual pm cd doc, bindArgs (methDef (mRec i 0).name qual (mRec i 0).params (mRec i 0).body (mRec i 0).scope pm cd doc) ⟨.ref x :: args, []⟩ = pure (binds x))
    (hloc : ∀ y, ∀ x ∈ binds y, (mRec i 0).scope.names.lookup x.1 = some .local) (hcell : ∀ x ∈ (mRec i 0).scope.names, x.2 ≠ .cell)
    (h : ∀ A x dx B' qual L f cd s', Ok 3 14 A → Sub B B' → Inst B' x (fa K nm) dx → St z B' ((L, Lo fun y => (binds x).reverse.lookup y) :: (dx, AtO fun _ => none) :: cs) s' →
      wpAny K.M A (execs (mRec i 0).body (envX qual (mRec i 0).scope L f cd []))
      (fun fl s' => (match fl with | .ret v => v | _ => .none) = Value.none ∧ Q (.ref x) s') (fun _ _ => False) s')
    (hco : (mRec i 0).scope.isCoroutine = false := by rfl) (hgen : (mRec i 0).scope.isGenerator = false := by rfl) (hk : (mRec i 0).scope.kind = .function := by rfl) :
    wpAny K.M A (call (.ref (fa K nm)) args) Q E s := by
  obtain ⟨N, mN, P⟩ := S.plain W hm Y
  obtain ⟨nm', q, bs, sn, sub, col, dd, k0, k1, k2, k3, k5, hC⟩ := P.cls.obj
  obtain ⟨f, o, pm, cd, doc, h1, h2, h3, h4, h5⟩ := P.meths _ mm
  rw [hn] at h1
  have S₀ := S
  obtain ⟨hp, g, d, t, os⟩ := s
  refine wpAny_call_obj_init PySem.F.objNew hC P.cls.ns h1 h2 h3 fun h' x dx Mk => ?_
  have hB : B x = none ∧ x ∉ cs.map (·.1) := S₀.new_off Mk.newX
  have hBd : B dx = none ∧ dx ∉ cs.map (·.1) := S₀.new_off Mk.newD
  obtain ⟨ox, hx, hcx, hncx, hdx⟩ := Mk.inst
  have hdd := Mk.dict ox hx
  have hnsd : h'.Ns1 dx fun _ => none := by
    rcases hdx with ⟨hn0, _⟩ | ⟨d', hd', _, hns'⟩
    · rw [hn0] at hdd; cases hdd
    · obtain rfl := Option.some.inj (hd'.symm.trans hdd); exact hns'
  have hne : dx ≠ x := by
    rcases hdx with ⟨hn0, _⟩ | ⟨d', hd', hne', _⟩
    · rw [hn0] at hdd; cases hdd
    · obtain rfl := Option.some.inj (hd'.symm.trans hdd); exact hne'
  have S₁ : St z (put B x ox) ((dx, AtO fun _ => none) :: cs) ⟨h', g, d, t, os⟩ := by
    refine ⟨S₀.gens, S₀.drawn, S₀.os, fun b ob e => ?_, fun c hc => ?_, ?_, fun c hc => ?_⟩
    · by_cases hb : b = x
      · subst hb; rw [put_self] at e; cases e; exact hx
      · rw [put_ne hb] at e; exact Mk.keeps _ _ (S₀.base _ _ e)
    · rcases List.mem_cons.mp hc with rfl | hc
      · exact ats_of hnsd
      · obtain ⟨oc, e, p⟩ := S₀.cells c hc; exact ⟨oc, Mk.keeps _ _ e, p⟩
    · rw [List.map_cons, List.nodup_cons]; exact ⟨hBd.2, S₀.nd⟩
    · rcases List.mem_cons.mp hc with rfl | hc
      · rw [put_ne hne]; exact hBd.1
      · have : c.1 ≠ x := fun q => hB.2 (by rw [← q]; exact List.mem_map_of_mem hc)
        rw [put_ne this]; exact S₀.off c hc
  have hs := sub_put (o := ox) hB.1
  refine r_callM (i := i) (k := 0) S₁ (W.mono hs) ⟨o, pm, cd, doc, Mk.keeps _ _ h2, h4, h5.keeps Mk.keeps⟩ O.make.room (fun pm cd doc => hbind x _ pm cd doc) (hloc x) hcell (fun L cd s' S' => ?_) hco hgen hk
  exact h _ x dx _ _ L f cd s' (Ok.deeper (Ok.make (d := 4) (u := 17) O)) hs ⟨⟨ox, put_self, hcx, hdd, hncx⟩, hne⟩ S'

/-! ## more of lists and ranges -/
theorem r_truthy_ls {Q : Bool → Shared → Prop} (S : St z B cs s) (x : In s a (LsO vs)) (hz : vs.length ≤ 1000000) (h : ∀ s', St z B cs s' → Q (!vs.isEmpty) s') : wpAny K.M A (truthy (.ref a)) Q E s := by
  refine wpAny_truthy_list x.list (by simp; lia) ?_
  simpa using h _ (S.toks _)
theorem r_iter_range0 {r : Addr} {n : Nat} {Q : Value → Shared → Prop} (S : St z B (c :: (r, RgO 0 n) :: cs) s) (hh : A.handled = none) (hb : n ≤ 1000000)
    (h : ∀ I ItO s', Iter K A B I ItO n (fun i v => ∃ t, v = .int (i : Int) t) → St z B (c :: (I, ItO 0) :: cs) s' → Q (.ref I) s') : wpAny K.M A (pyIter (.ref r)) Q E s := by
  refine r_iter_range (n := n) S hh (by split <;> lia) (by lia) (by lia) (by lia) (by lia) fun I ItO s' It S' => h I ItO s' ⟨fun hB hi S k => It.item hB hi S fun v s' hv S' => k v s' (by simpa using hv) S', It.done, It.self⟩ S'
end
section
variable {K : Wk} {A : Around} {E : Value → Shared → Prop} {z : Shared} {B : View} {cs cs' : List Cell} {s : Shared}
theorem r_fnc (n : Nat) {d u : Nat} {x : Str} {args : List Value} (binds : List (Str × Value)) {Q : Value → Shared → Prop} (S : St z B cs s) (W : Lib K B) (O : Ok (d + 1) (u + 3) A) (hm : dN n ∈ recsOf q) (hn : (dN n).name = x)
    (hbind : ∀ pm cd doc, bindArgs (Calls.docDef (dN n).name (dN n).params (dN n).body (dN n).scope pm cd doc) ⟨args, []⟩ = pure binds)
    (hloc : ∀ x ∈ binds, (dN n).scope.names.lookup x.1 = some .local) (hcell : ∀ x ∈ (dN n).scope.names, x.2 ≠ .cell)
    (h : ∀ A L cd s', Ok d u A → St z B ((L, Lo fun y => binds.reverse.lookup y) :: cs) s' → wpAny K.M A (execs (dN n).body (envX (dN n).name (dN n).scope L (fa K x) cd []))
      (fun fl s' => Q (match fl with | .ret v => v | _ => .none) s') (fun _ _ => False) s')
    (hco : (dN n).scope.isCoroutine = false := by rfl) (hgen : (dN n).scope.isGenerator = false := by rfl) (hk : (dN n).scope.kind = .function := by rfl) :
    wpAny K.M A (call (.ref (fa K x)) args) Q E s :=
  r_def n binds S W hm hn O.room hbind hloc hcell (fun L cd s' S' => h _ L cd s' O.deeper S') hco hgen hk
end
theorem r_if_join {M : Model} {A : Around} {E : Value → Shared → Prop} {s : Shared} {env : Env} {test body orelse pos} {Q : Flow → Shared → Prop} (P : Shared → Prop)
    (h : wpAny M A (isTrue test env (eval test env)) (fun b s₂ => Br b (wpAny M A (execs body env) (fun f s => f = .next ∧ P s) E s₂) (wpAny M A (execs orelse env) (fun f s => f = .next ∧ P s) E s₂)) E s)
    (k : ∀ s, P s → Q .next s) : wpAny M A (exec (.If test body orelse pos) env) Q E s :=
  wpAny_mono (r_if h) (fun f s x => by obtain ⟨rfl, x⟩ := x; exact k s x) fun _ _ x => x
theorem Turn.next {z : Shared} {B : View} {L I : Addr} {P : Obj → Prop} {Inv : View → (Str → Option Value) → List Cell → Prop} {Q : Flow → Shared → Prop} {s : Shared} {B' : View} {m' : Str → Option Value} {cs' : List Cell}
    (S : St z B' ((L, Lo m') :: (I, P) :: cs') s) (h : Sub B B') (i : Inv B' m' cs') : Turn z B L I P Inv Q .next s := ⟨B', m', cs', h, i, S⟩
theorem TurnW.next {z : Shared} {L : Addr} {Inv : LInv} {n k : Nat} {Q : Flow → Shared → Prop} {s : Shared} {B' : View} {m' : Str → Option Value} {cs' : List Cell}
    (S : St z B' ((L, Lo m') :: cs') s) (h : k < n) (i : Inv k B' m' cs') : TurnW z L Inv n Q .next s := ⟨k, h, B', m', cs', i, S⟩
theorem St.frz {z : Shared} {B : View} {cs cs' : List Cell} {s : Shared} {a : Addr} {P : Obj → Prop} (S : St z B cs s) (u : Take a P cs cs') : ∃ B', Sub B B' ∧ Has B' a P ∧ St z B' cs' s := by
  obtain ⟨B', o, h1, h2, h3, h4⟩ := S.freeze u
  exact ⟨B', h1, ⟨o, h3, h2⟩, h4⟩
section
variable {K : Wk} {A : Around} {z : Shared} {B B₀ : View} {cs : List Cell} {s : Shared} {m : Str → Option Value} {env : Env} {I a : Addr} {n : Nat} {V : Nat → Value → Prop}
  {target : Expr} {body : List Stmt} {Q : Flow → Shared → Prop} {G : Value → Shared → Prop}
theorem forLoopT {R : Result → Shared → Prop} {M : Model} {w : World} {prog : Program} {target it body orelse env} (I : Nat → Shared → Prop)
    (turn : ∀ n s, I n s → wpAny (model prog w) A (pyNext it) (fun r s₁ => match r with
      | none => wpAny (model prog w) A (execs orelse env) (fun f s₃ => R (.ok f) s₃) (fun _ _ => False) s₁
      | some v => wpAny (model prog w) A (letOwnedTupleGo target it v) (fun _ s₁ => wpAny (model prog w) A (assign target env v) (fun _ s₂ => wpAny (model prog w) A (execs body env) (fun f s₃ => match f with
          | .next | .cont => ∃ m, m < n ∧ I m s₃
          | .brk => R (.ok .next) s₃
          | .ret v => R (.ok (.ret v)) s₃) (fun _ _ => False) s₂) (fun _ _ => False) s₁) (fun _ _ => False) s₁) (fun _ _ => False) s)
    (n : Nat) (h : I n s) : codeAny (model prog w) A (.forLoop target it body orelse env) R s := by
  refine codeAny_loop' rfl I (fun n s hI => ?_) n h
  show wpAny _ _ ((forTurn target it body orelse env).onRaise (fun x => do noteFrame x env; theTreesLotGoes x)) _ _ s
  refine wpAny_noted ?_
  simp only [forTurn]
  refine wpAny_bind (wpAny_standAt (wpAny_bind (wpAny_onRaise (wpAny_mono (turn n s hI) (fun r s₁ h₁ => ?_) fun _ _ h' => h'.elim))))
  cases r with
  | none => exact wpAny_pure (.inr ⟨rfl, codeAny_block (wpAny_mono h₁ (fun _ _ x => x) fun _ _ x => x.elim)⟩)
  | some v =>
    refine wpAny_bind (wpAny_mono h₁ (fun _ s₁ h₁ => ?_) fun _ _ h' => h'.elim)
    refine wpAny_bind (wpAny_mono h₁ (fun _ s₂ h₂ => wpAny_bind (wpAny_mono h₂ (fun f s₃ h₃ => ?_) fun _ _ h' => h'.elim)) fun _ _ h' => h'.elim)
    cases f with
    | next => exact wpAny_pure (.inl ⟨rfl, h₃⟩)
    | cont => exact wpAny_pure (.inl ⟨rfl, h₃⟩)
    | brk => exact wpAny_pure h₃
    | ret v => exact wpAny_pure h₃
/-- a loop over a list, whose target may be a tuple -/
theorem r_loopT {L : Addr} (W : Iter K A B I (LitO a) n V) (Inv : LInv) (S : St z B₀ ((L, Lo m) :: (I, LitO a 0) :: cs) s) (hB : Sub B B₀) (h0 : Inv 0 B₀ m cs)
    (turn : ∀ i B' m' cs' v s, Sub B B' → i < n → V i v → Inv i B' m' cs' → St z B' ((L, Lo m') :: (I, LitO a (i + 1)) :: cs') s →
      wpAny K.M A (assign target env v) (fun _ s => wpAny K.M A (execs body env) (Turn z B L I (LitO a (i + 1)) (Inv (i + 1)) Q) (fun _ _ => False) s) (fun _ _ => False) s)
    (done : ∀ B' m' cs' s, Sub B B' → Inv n B' m' cs' → St z B' ((L, Lo m') :: cs') s → Q .next s) (hL : env.locals = L := by rfl) :
    codeAny K.M A (.forLoop target (.ref I) body [] env) (fun r s' => match r with | .ok f => Q f s' | .error e => G e s') s := by
  subst hL
  refine forLoopT (M := K.M) (fun k s => ∃ i B' m' cs', k = n - i ∧ i ≤ n ∧ Sub B B' ∧ Inv i B' m' cs' ∧ St z B' ((env.locals, Lo m') :: (I, LitO a i) :: cs') s) ?_ n ⟨0, B₀, m, cs, rfl, Nat.zero_le _, hB, h0, S⟩
  rintro k s ⟨i, B', m', cs', rfl, hi, hB', hI, S'⟩
  by_cases hlt : i < n
  · refine W.item hB' hlt S' fun v s₁ hv S₁ => ?_
    have hit : s₁.heap.IsListIter I a (i + 1) := by obtain ⟨o, e, c, d⟩ := S₁.cells _ (.tail _ (.head _)); exact ⟨o, e, c, d⟩
    refine letGo_listiter hit ?_
    refine wpAny_mono (turn i B' m' cs' v s₁ hB' hlt hv hI S₁) (fun _ s₂ h₂ => wpAny_mono h₂ (fun f s₃ h₃ => ?_) fun _ _ x => x.elim) fun _ _ x => x.elim
    have go : (∃ B' m' cs', Sub B B' ∧ Inv (i + 1) B' m' cs' ∧ St z B' ((env.locals, Lo m') :: (I, LitO a (i + 1)) :: cs') s₃) →
        ∃ k, k < n - i ∧ ∃ i B' m' cs', k = n - i ∧ i ≤ n ∧ Sub B B' ∧ Inv i B' m' cs' ∧ St z B' ((env.locals, Lo m') :: (I, LitO a i) :: cs') s₃ := by
      rintro ⟨B₂, m₂, cs₂, a, b, c⟩
      exact ⟨n - (i + 1), by lia, i + 1, B₂, m₂, cs₂, rfl, hlt, a, b, c⟩
    cases f with
    | next => exact go h₃
    | cont => exact go h₃
    | brk => exact h₃
    | ret v => exact h₃
  · obtain rfl : i = n := by lia
    refine W.done hB' S' fun s₁ S₁ => wpAny_execs_nil ?_
    exact done B' m' cs' s₁ hB' hI S₁
end
section
variable {K : Wk} {A : Around} {E : Value → Shared → Prop} {z : Shared} {B : View} {cs cs' : List Cell} {s : Shared} {m : Str → Option Value} {env : Env}
/-! ## names, in any frame -/
theorem e_local {x : Str} {pos : Pos} {v : Value} {Q : Value → Shared → Prop} (hx : env.kindOf x = some .local) (hk : env.scope.kind = .function) (S : St z B ((env.locals, Lo m) :: cs) s) (hv : m x = some v) (h : Q v s)
    (hd : (x == ("__debug__" : Str)) = false := by decide) : wpAny K.M A (eval (.Name x pos) env) Q E s := wpAny_Name (wpAny_loadName_local hk hx S.ns hv h) hd
theorem e_global {x : Str} {pos : Pos} {v : Value} {Q : Value → Shared → Prop} (hx : env.kindOf x = some .globalImplicit) (hk : env.scope.kind = .function) (hg : env.globals = mainGlobals) (S : St z B cs s) (W : Lib K B) (e : K.mg x = some v) (h : Q v s)
    (hd : (x == ("__debug__" : Str)) = false := by decide) : wpAny K.M A (eval (.Name x pos) env) Q E s :=
  Name_function_global hk hx (loadGlobal_global (env := env) (by rw [hg]; exact (S.top W).g) e h) hd
theorem e_fn {x : Str} {pos : Pos} {Q : Value → Shared → Prop} (hx : env.kindOf x = some .globalImplicit) (hk : env.scope.kind = .function) (hg : env.globals = mainGlobals) (S : St z B cs s) (W : Lib K B) (e : fnNames.contains x = true) (h : Q (.ref (fa K x)) s)
    (hd : (x == ("__debug__" : Str)) = false := by decide) : wpAny K.M A (eval (.Name x pos) env) Q E s := e_global hx hk hg S W (mg_fn S W e) h hd
theorem e_cl {x : Str} {pos : Pos} {Q : Value → Shared → Prop} (hx : env.kindOf x = some .globalImplicit) (hk : env.scope.kind = .function) (hg : env.globals = mainGlobals) (S : St z B cs s) (W : Lib K B) (e : clNames.contains x = true) (h : Q (.ref (fa K x)) s)
    (hd : (x == ("__debug__" : Str)) = false := by decide) : wpAny K.M A (eval (.Name x pos) env) Q E s := e_global hx hk hg S W (mg_cl S W e) h hd
theorem e_bi {x : Str} {pos : Pos} {v : Value} {Q : Value → Shared → Prop} (hx : env.kindOf x = some .globalImplicit) (hk : env.scope.kind = .function) (hg : env.globals = mainGlobals) (hb : env.builtins = builtinsNs) (S : St z B cs s) (W : Lib K B) (e : biNames.contains x = true) (hv : bootBuiltins x = some v) (h : Q v s)
    (hd : (x == ("__debug__" : Str)) = false := by decide) : wpAny K.M A (eval (.Name x pos) env) Q E s := by
  have T := S.top W
  obtain ⟨h1, h2, h3, h4, h5, h6⟩ := bi_free x (List.contains_iff_mem.mp e)
  rw [← fn_names] at h3
  exact Name_function_global hk hx (loadGlobal_builtin (env := env) (by rw [hg]; exact T.g) (T.free x h1 (fun hm => by
    unfold lw looseW at *
    exact h2 hm) h3 h4 h5) (by rw [hb]; exact T.b) ((T.builtins x h6).trans hv) h) hd
/-- what a variable of an inner frame holds -/
noncomputable def CeO (v : Value) : Obj → Prop := fun o => o.cls = .type "cell" ∧ o.data = .cell (some v)
theorem e_loadName {x : Str} {v : Value} {Q : Value → Shared → Prop} (hx : env.kindOf x = some .local) (hk : env.scope.kind = .function) (S : St z B ((env.locals, Lo m) :: cs) s) (hv : m x = some v) (h : Q v s) :
    wpAny K.M A (loadName env x) Q E s := wpAny_loadName_local hk hx S.ns hv h
theorem e_store {L : Addr} {x : Str} {v : Value} {Q : Unit → Shared → Prop} (hx : env.kindOf x = some .local) (hk : env.scope.kind = .function) (S : St z B ((L, Lo m) :: cs) s) (h : ∀ s', St z B ((L, Lo (upd m x v)) :: cs) s' → Q () s') (hL : env.locals = L := by rfl) :
    wpAny K.M A (storeName env x v) Q E s := by
  subst hL
  exact wpAny_storeName_local hx S.ns (fun h' hn hs => by
    obtain ⟨o, ho, hp⟩ := lo_of hn
    exact h _ (S.upd .here (fun b o' hb e => (hs.2 b hb).trans e) ho hp)) (by rw [hk]; rfl)
theorem e_assign {L : Addr} {x : Str} {pos : Pos} {v : Value} {Q : Unit → Shared → Prop} (hx : env.kindOf x = some .local) (hk : env.scope.kind = .function) (S : St z B ((L, Lo m) :: cs) s) (h : ∀ s', St z B ((L, Lo (upd m x v)) :: cs) s' → Q () s') (hL : env.locals = L := by rfl) :
    wpAny K.M A (assign (.Name x pos) env v) Q E s := wpAny_assign_Name (e_store hx hk S h hL)

/-! ## list comprehensions over a walk, one name, no test -/
noncomputable abbrev CInv := Nat → View → List Value → List Cell → Prop
inductive CompIn (K : Wk) (A : Around) (z : Shared) (elt : Expr) (en : Addr → Env) (x : Str) (Q : Value → Shared → Prop) (it : Value) (s₂ : Shared) : Prop
  | mk : ∀ (I : Addr) (ItO : Nat → Obj → Prop) (n : Nat) (V : Nat → Value → Prop) (B : View) (c : Cell) (cs : List Cell) (Inv : CInv), it = .ref I → Iter K A B I ItO n V → n ≤ 1000 → St z B (c :: (I, ItO 0) :: cs) s₂ → Inv 0 B [] cs →
      (∀ C D i B' mc ys cs' v s E, Sub B B' → i < n → V i v → ys.length = i → Inv i B' ys cs' → mc x = some v → St z B' ((C, Lo mc) :: (I, ItO (i + 1)) :: (D, LsO ys) :: c :: cs') s →
        wpAny K.M A (eval elt (en C)) (fun y s => ∃ B'' cs'', Sub B' B'' ∧ Inv (i + 1) B'' (ys ++ [y]) cs'' ∧ St z B'' ((C, Lo mc) :: (I, ItO (i + 1)) :: (D, LsO ys) :: c :: cs'') s) E s) →
      (∀ D B' ys cs' s, Sub B B' → Inv n B' ys cs' → ys.length = n → St z B' (c :: (D, LsO ys) :: cs') s → Q (.ref D) s) → CompIn K A z elt en x Q it s₂
theorem r_comp {elt iter : Expr} {x : Str} {px : Pos} {scope : Scope} {cl : List (Str × Addr)} {pos : Pos} {Q : Value → Shared → Prop}
    (hclos : closureFor scope env = pure cl) (hcell : ∀ y ∈ scope.names, y.2 ≠ .cell) (hkind : scope.kind = .function)
    (hnames : ∀ y ∈ scope.names, y.2 = .local → scope.names.lookup y.1 = some .local) (hx : scope.names.lookup x = some .local)
    (h : wpAny K.M A (eval iter env) (fun xv s₁ => wpAny K.M A (pyIter xv) (fun it s₂ => CompIn K A z elt (fun C => compEnvC scope cl C env) x Q it s₂) E s₁) E s)
    (hs : ∀ x, foldedSetIterable iter env x = pure x := by intro _; rfl) :
    wpAny K.M A (eval (.ListComp elt [⟨.Name x px, iter, [], 0⟩] scope pos) env) Q E s := by
  rw [eval_ListComp]
  refine wpAny_comprehension_free (use := none) rfl hs hclos hkind hnames (wpAny_mono h (fun xv s₁ h₁ => wpAny_mono h₁ (fun it s₂ h₂ => ?_) fun _ _ e => e) fun _ _ e => e)
  obtain ⟨I, ItO, n, V, B, c, cs, Inv, rfl, W, hsz, S, h0, turn, done⟩ := h₂
  refine wpAny_newObj_type (wpAny_newFunctionEnv hcell (by intro y hy; simp at hy) (fun h₁ hns₁ hsb₁ => ?_) hkind)
  dsimp only at hns₁ hsb₁ ⊢
  have S1 := S.alloc (t := s₂.toks) (P := LsO []) (St.fresh s₂) (fun b o' _ e => Heap.get?_push_of_some _ e) (Heap.get?_push_size s₂.heap (o := { cls := .type "list", dict := none, data := .seq ([] : List Value).toArray }) rfl) ⟨_, rfl⟩
  obtain ⟨oC, hoC, hpC⟩ := lo_of hns₁
  have S2 := S1.alloc (t := s₂.toks + ([] : List (Str × Value)).length) (h' := h₁) (St.fresh _) (fun b o' hb e => hsb₁.extBut b o' hb (Heap.get?_push_of_some _ e)) hoC hpC
  generalize hC : (s₂.heap.push { cls := .type "list", dict := none, data := .seq ([] : List Value).toArray }).objs.size = C at S2 ⊢
  generalize hD : s₂.heap.objs.size = D at S2 ⊢
  have S3 := S2.perm (cs' := (C, Lo fun y => ([] : List (Str × Value)).reverse.lookup y) :: (I, ItO 0) :: (D, LsO []) :: c :: cs) (.cons _ (((List.Perm.swap _ _ _).cons _).trans (List.Perm.swap _ _ _)))
  clear S2
  have loop : ∀ s₃ : Shared, St z B ((C, Lo fun y => ([] : List (Str × Value)).reverse.lookup y) :: (I, ItO 0) :: (D, LsO []) :: c :: cs) s₃ →
      codeAny K.M A (.compLoop (.ListComp elt [⟨.Name x px, iter, [], 0⟩] scope pos) 0 (.ref I) (.ref D) (compEnvC scope cl C env))
        (compPost K.M A E none Q (.ref D) C) s₃ := by
    intro s₃ S3
    refine codeAny_compLoop_tests (fun k s => ∃ i B' mc ys cs', k = n - i ∧ i ≤ n ∧ Sub B B' ∧ ys.length = i ∧ Inv i B' ys cs' ∧ St z B' ((C, Lo mc) :: (I, ItO i) :: (D, LsO ys) :: c :: cs') s) ?_ n ⟨0, B, _, [], cs, rfl, Nat.zero_le _, Sub.refl _, rfl, h0, S3⟩
    rintro k s ⟨i, B', mc, ys, cs', rfl, hi, hB', hl, hI, S'⟩
    by_cases hlt : i < n
    · refine W.item hB' hlt S' fun v s₁ hv S₁ => ?_
      refine wpAny_assign_Name (wpAny_storeName_local (lookup_relabel_local hx) S₁.ns (fun h₂ hn₂ hs₂ => ?_) (by simp [compEnvC, relabel, hkind]))
      obtain ⟨o, ho, hp⟩ := lo_of hn₂
      have S₂ := S₁.upd (t := s₁.toks + 1) .here (fun b o' hb e => (hs₂.2 b hb).trans e) ho hp
      simp only [List.forIn_nil]
      refine wpAny_pure ?_
      rw [if_pos rfl]
      refine wpAny_mono (turn C D i B' _ ys cs' v _ _ hB' hlt hv hl hI (if_pos rfl) S₂) (fun y s₃ h₃ => ?_) fun _ _ e => e
      obtain ⟨B'', cs'', hB'', hI', S₃⟩ := h₃
      refine r_append S₃ (.there (.there .here)) (sz_fit (by lia)) fun s₄ S₄ => ?_
      exact ⟨n - (i + 1), by lia, i + 1, B'', _, ys ++ [y], cs'', rfl, hlt, hB'.trans hB'', by simp [hl], hI', S₄⟩
    · obtain rfl : i = n := by lia
      refine W.done hB' S' fun s₁ S₁ => ?_
      refine ⟨_, S₁.ns, fun h' hs => ?_⟩
      refine done D B' ys cs' _ hB' hI hl ?_
      have hCB : B' C = none := S₁.off (C, _) (.head _)
      have hnd := S₁.nd
      have hnd := List.nodup_cons.mp hnd
      refine ((⟨S₁.gens, S₁.drawn, S₁.os, fun b o e => (hs.2 b ?_).trans (S₁.base b o e), fun x hm => ?_, hnd.2, fun x hm => S₁.off x (.tail _ hm)⟩ : St z B' ((D, LsO ys) :: c :: cs') { s₁ with heap := h' }).perm (.swap _ _ _))
      · rintro rfl; rw [hCB] at e; cases e
      · obtain ⟨o, e, p⟩ := S₁.cells x (.tail _ hm)
        exact ⟨o, (hs.2 x.1 (by rintro q; exact hnd.1 (by exact List.mem_map.mpr ⟨x, hm, q⟩))).trans e, p⟩
  exact codeAny_compStart_list (loop _ S3) (W.self (Sub.refl _) S3 (loop _ S3))
end
section
variable {K : Wk} {A : Around} {E : Value → Shared → Prop} {z : Shared} {B : View} {cs cs' : List Cell} {s : Shared} {c : Cell} {a : Addr} {vs : List Value} {ns : List Int} {Q : Value → Shared → Prop}
theorem intsAt {vs : List Value} {ns : List Int} (h : IntsAre vs ns) (i : Nat) (v : Value) (e : vs[i]? = some v) : ∃ t, v = .int (ns.getD i 0) t := h.int_at i v e
theorem getD_mem' {ns : List Int} {i : Nat} (h : i < ns.length) : ns.getD i 0 ∈ ns := by
  rw [List.getD_eq_getElem?_getD, List.getElem?_eq_getElem h]; exact List.getElem_mem h
theorem r_max (S : St z B cs s) (hh : A.handled = none) (x : In s a (LsO vs)) (hI : IntsAre vs ns) (hne : 0 < ns.length) (h : ∀ M t s', M ∈ ns → (∀ a ∈ ns, a ≤ M) → St z B cs s' → Q (.int M t) s') :
    wpAny K.M A (call (.builtin "max") [.ref a]) Q E s := by
  have hl := x.list
  have hlen := hI.length
  refine call_max_walk (wpAny_pyIter_list hl ?_)
  have hI0 : s.heap.get? s.heap.objs.size = none := St.fresh s
  have hlt : a < s.heap.objs.size := by obtain ⟨o, e, _⟩ := hl; exact Heap.lt_size e
  obtain ⟨f, hf⟩ : ∃ f : Nat → Int, f = fun i => ns.getD i 0 := ⟨_, rfl⟩
  have hat : ∀ (i : Nat) (v : Value), vs[i]? = some v → ∃ t, v = .int (f i) t := fun i v e => by rw [hf]; exact intsAt hI i v e
  refine ⟨_, _, _, _, _, _, _, rfl, Walks.list (A := A.in1) hh _ a (Nat.ne_of_lt hlt) vs.toArray, ⟨⟨_, Heap.get?_push_size _ rfl, rfl, rfl⟩, hl.push _⟩, fun c hc => ?_, by simpa using (hlen ▸ hne : 0 < vs.length),
    CmpOf.ints_gt f (fun i v e => hat i v (by simpa using e)), fun v h' tk hP hk => ?_⟩
  · rw [Heap.size_push]
    simp only [List.mem_cons, List.not_mem_nil, or_false] at hc
    rcases hc with rfl | rfl
    · exact Nat.lt_succ_self _
    · exact Nat.lt_succ_of_lt hlt
  · obtain ⟨t, rfl⟩ := hat _ v (by simpa using hP)
    obtain ⟨h1, h2⟩ := argBest_gt f (vs.toArray.size - 1)
    have hsz : vs.toArray.size = ns.length := by simp [hlen]
    refine h _ t _ (by rw [hf]; exact getD_mem' (Nat.lt_of_le_of_lt (by rw [← hf]; exact h1) (by lia))) (fun b hb => ?_) (S.step fun b o e => hk b o ?_ (Heap.get?_push_of_some _ e))
    · obtain ⟨j, hj, rfl⟩ := List.getElem_of_mem hb
      have := h2 j (by lia)
      have hfj : f j = ns[j] := by rw [hf]; simp [List.getD_eq_getElem?_getD, List.getElem?_eq_getElem hj]
      rw [hfj] at this; exact this
    · intro hm; rw [List.mem_singleton.mp hm, hI0] at e; cases e
theorem r_min (S : St z B cs s) (hh : A.handled = none) (x : In s a (LsO vs)) (hI : IntsAre vs ns) (hne : 0 < ns.length) (h : ∀ M t s', M ∈ ns → (∀ a ∈ ns, M ≤ a) → St z B cs s' → Q (.int M t) s') :
    wpAny K.M A (call (.builtin "min") [.ref a]) Q E s := by
  have hl := x.list
  have hlen := hI.length
  refine call_min_walk (wpAny_pyIter_list hl ?_)
  have hI0 : s.heap.get? s.heap.objs.size = none := St.fresh s
  have hlt : a < s.heap.objs.size := by obtain ⟨o, e, _⟩ := hl; exact Heap.lt_size e
  obtain ⟨f, hf⟩ : ∃ f : Nat → Int, f = fun i => ns.getD i 0 := ⟨_, rfl⟩
  have hat : ∀ (i : Nat) (v : Value), vs[i]? = some v → ∃ t, v = .int (f i) t := fun i v e => by rw [hf]; exact intsAt hI i v e
  refine ⟨_, _, _, _, _, _, _, rfl, Walks.list (A := A.in1) hh _ a (Nat.ne_of_lt hlt) vs.toArray, ⟨⟨_, Heap.get?_push_size _ rfl, rfl, rfl⟩, hl.push _⟩, fun c hc => ?_, by simpa using (hlen ▸ hne : 0 < vs.length),
    CmpOf.ints_lt f (fun i v e => hat i v (by simpa using e)), fun v h' tk hP hk => ?_⟩
  · rw [Heap.size_push]
    simp only [List.mem_cons, List.not_mem_nil, or_false] at hc
    rcases hc with rfl | rfl
    · exact Nat.lt_succ_self _
    · exact Nat.lt_succ_of_lt hlt
  · obtain ⟨t, rfl⟩ := hat _ v (by simpa using hP)
    obtain ⟨h1, h2⟩ := argBest_lt f (vs.toArray.size - 1)
    have hsz : vs.toArray.size = ns.length := by simp [hlen]
    refine h _ t _ (by rw [hf]; exact getD_mem' (Nat.lt_of_le_of_lt (by rw [← hf]; exact h1) (by lia))) (fun b hb => ?_) (S.step fun b o e => hk b o ?_ (Heap.get?_push_of_some _ e))
    · obtain ⟨j, hj, rfl⟩ := List.getElem_of_mem hb
      have := h2 j (by lia)
      have hfj : f j = ns[j] := by rw [hf]; simp [List.getD_eq_getElem?_getD, List.getElem?_eq_getElem hj]
      rw [hfj] at this; exact this
    · intro hm; rw [List.mem_singleton.mp hm, hI0] at e; cases e
/-- a new object after others of no use -/
theorem St.cell2 {h' : Heap} {tk : Nat} {b : Addr} {P : Obj → Prop} {o : Obj} (S : St z B (c :: cs) s) (hn : s.heap.get? b = none) (k : ∀ b o, s.heap.get? b = some o → h'.get? b = some o) (ho : h'.get? b = some o) (hP : P o) :
    St z B (c :: (b, P) :: cs) { s with heap := h', toks := tk } := (S.alloc (t := tk) hn (fun b o _ e => k b o e) ho hP).perm (.swap _ _ _)
theorem r_sorted_ls (S : St z B (c :: cs) s) (x : In s a (LsO vs)) (hI : IntsAre vs ns) (hz : ns.length < 64)
    (h : ∀ b us ks s', IntsAre us ks → ks.Perm ns → ks.Pairwise (· ≤ ·) → St z B (c :: (b, LsO us) :: cs) s' → Q (.ref b) s') : wpAny K.M A (call (.builtin "sorted") [.ref a]) Q E s := by
  refine sorted_ints x.list hI (by rw [hI.length]; exact hz) fun out ns' h1 h2 h3 => ?_
  obtain ⟨e, he⟩ := sortedAll_at s.heap vs out
  exact h _ out.toList ns' _ h1 h2 h3 (S.cell2 (tk := s.toks) (Heap.get?_none_of_le (Nat.le_succ _)) (fun b o q => sortedAll_old q) he ⟨e, rfl⟩)
theorem r_list_range {r : Addr} {x y : Int} {n : Nat} (S : St z B (c :: (r, RgO x y) :: cs) s) (hh : A.handled = none) (hn : (n : Int) = if x < y then y - x else 0) (ha : -1000000 ≤ x) (ha' : x ≤ 1000000) (hb : -1000000 ≤ y) (hb' : y ≤ 1000000)
    (h : ∀ b us s', IntsAre us ((List.range n).map fun (i : Nat) => x + (i : Int)) → St z B (c :: (b, LsO us) :: cs) s' → Q (.ref b) s') : wpAny K.M A (call (.type "list") [.ref r]) Q E s := by
  obtain ⟨o, ho, t, u, v, rfl⟩ := S.at (P' := RgO x y) (.there .here)
  have hn' : Builtin.Range.rangeSize x y 1 = (n : Int) := by rw [rangeSize_one, hn]
  refine call_list_range hh ho (range_small ha ha' hb hb') hn' (by split at hn <;> lia) fun h' tk acc' c' hk hD hacc => ?_
  have S1 := (S.drop (cs' := c :: cs) (.cons_cons _ (List.sublist_cons_self _ _))).cell2 (tk := tk) (P := LsO acc'.toList) (St.fresh s) hk hD ⟨c', rfl⟩
  refine h _ _ _ ?_ S1
  have : ∀ (m : Nat) (l : List Value) (f : Nat → Int), l.length = m → (∀ j v, l[j]? = some v → ∃ t, v = Value.int (f j) t) → IntsAre l ((List.range m).map f) := by
    intro m
    induction m with
    | zero => intro l f hl _; rw [List.length_eq_zero_iff.mp hl]; exact .nil
    | succ m ih =>
      intro l f hl hv
      cases l with
      | nil => cases hl
      | cons w l =>
        obtain ⟨t, rfl⟩ := hv 0 w rfl
        rw [List.range_succ_eq_map, List.map_cons, List.map_map]
        exact .cons _ _ (ih l (fun j => f (j + 1)) (by simpa using hl) fun j v e => hv (j + 1) v (by simpa using e))
  exact this n _ _ (by simpa using hacc.1) fun j v e => by
    obtain ⟨t, q⟩ := hacc.2 j v (by simpa using e)
    exact ⟨t, by rw [q, Int.mul_one]⟩
end
theorem Sub.up {B B1 B2 : View} (h2 : Sub B1 B2) (h1 : Sub B B1) : Sub B B2 := h1.trans h2
section
variable {K : Wk} {A : Around} {E : Value → Shared → Prop} {z : Shared} {B : View} {cs cs' : List Cell} {s : Shared} {c : Cell} {a : Addr} {vs : List Value} {ns : List Int} {Q : Value → Shared → Prop} {kvs : List (Int × Value)} {d : Addr}
theorem ints_of {l : List Value} {ns : List Int} (hl : l.length = ns.length) (h : ∀ (j : Nat) v, l[j]? = some v → ∃ k t, v = Value.int k t ∧ ns[j]? = some k) : IntsAre l ns := by
  induction l generalizing ns with
  | nil => rw [List.length_eq_zero_iff.mp hl.symm]; exact .nil
  | cons w l ih =>
    cases ns with
    | nil => cases hl
    | cons n ns =>
      obtain ⟨k, t, rfl, e⟩ := h 0 w rfl
      cases e
      exact .cons _ _ (ih (by simpa using hl) fun j v e => by simpa using h (j + 1) v (by simpa using e))
theorem r_sorted_dc (S : St z B (c :: cs) s) (hh : A.handled = none) (x : In s d (DcO K kvs)) (lo : (d == sysModules) = false) (hz : kvs.length < 64)
    (h : ∀ b us ks s', IntsAre us ks → ks.Perm (kvs.map (·.1)) → ks.Pairwise (· ≤ ·) → St z B (c :: (b, LsO us) :: cs) s' → Q (.ref b) s') : wpAny K.M A (call (.builtin "sorted") [.ref d]) Q E s := by
  obtain ⟨o, ho, p⟩ := id x
  obtain ⟨ep, ha⟩ := KdkAt.of p
  refine call_function_entry kind_sorted plain_sorted entry_sorted (args_sorted1 _) ?_
  unfold Builtin.«sorted»
  refine wpAny_bind (m := checkCount "sorted" 1 1 _) (wpAny_pure ?_)
  refine wpAny_bind (kdu_collect (A := A.in1) (kdl_dict lo) hh (ha.dictAt ho) (sz_fit (by lia)) fun h' tk acc hk hacc => ?_)
  have hl : acc.toList.length = kvs.length := by rw [Array.length_toList]; exact hacc.1
  refine wpAny_bind (wpAny_newList ?_ (by rw [hl]; exact sz_fit (by lia)))
  have hI : IntsAre acc.toList (kvs.map (·.1)) := ints_of (by simp [hl]) fun j v e => by
    obtain ⟨k, x, e1, e2⟩ := hacc.2 j v (by rw [← Array.getElem?_toList]; exact e)
    obtain ⟨t, rfl⟩ := Value.isInt_shape e2
    exact ⟨k, t, rfl, by simp [e1]⟩
  have hoL : (h'.push (seqObj "list" acc.toList.toArray 0)).get? h'.objs.size = some (seqObj "list" acc.toList.toArray 0) := Heap.get?_push_size _ rfl
  refine wpAny_bind (wpAny_holding (wpAny_call_entry slot_list_sort ⟨_, hoL, rfl⟩ entry_list_sort (list_sort_tree hoL hI (by rw [hl]; exact hz) fun out ns' a1 a2 a3 => ⟨_, rfl, ?_⟩) (args_list_sort _)))
  obtain ⟨e, he⟩ := sortedHeap_at (out := out) hoL
  have hle : s.heap.get? h'.objs.size = none := by
    cases e : s.heap.get? h'.objs.size with
    | none => rfl
    | some o' => exact absurd (Heap.lt_size (hk _ _ e)) (Nat.lt_irrefl _)
  refine wpAny_pure ⟨_, rfl, h _ out.toList ns' _ a1 a2 a3 (S.cell2 (tk := tk) hle (fun b o q => ?_) he ⟨e, rfl⟩)⟩
  have hb := Heap.lt_size (hk b o q)
  rw [sortedHeap_old (Nat.ne_of_lt hb) (by rw [Heap.size_push]; exact Nat.lt_succ_of_lt hb)]
  exact Heap.get?_push_of_some _ (hk b o q)
/-- two lists of ints -/
theorem eqv_ints : ∀ a b : List Int, PyData.eqv (.list (a.map .int)) (.list (b.map .int)) = decide (a = b)
  | [], [] => by simp [PyData.eqv, PyData.eqvAll]
  | [], _ :: _ => by simp [PyData.eqv, PyData.eqvAll]
  | _ :: _, [] => by simp [PyData.eqv, PyData.eqvAll]
  | x :: a, y :: b => by
    have ih := eqv_ints a b
    simp only [PyData.eqv, List.map_cons, PyData.eqvAll] at ih ⊢
    rw [ih, Bool.eq_iff_iff]
    simp
theorem In.reads {s : Shared} (x : In s a (LsO vs)) (h : IntsAre vs ns) : Reads s.heap (.ref a) (.list (ns.map .int)) [a] := by
  obtain ⟨o, ho, n, rfl⟩ := x
  exact .list ho rfl rfl (h.reads _)
theorem r_ne_ints {b : Addr} {us : List Value} {ks : List Int} (S : St z B cs s) (x : In s a (LsO vs)) (y : In s b (LsO us)) (h1 : IntsAre vs ns) (h2 : IntsAre us ks) (hu : A.units + 64 < cLine) (h : ∀ s', St z B cs s' → Q (.bool (!decide (ns = ks))) s') :
    wpAny K.M A (compareOp .NotEq (.ref a) (.ref b)) Q E s :=
  SeqAt.compareNe_shaped (x.reads h1) (y.reads h2) (ke_shaped_ints _) (ke_shaped_ints _) hu (by rw [eqv_ints]; exact h s S)
/-- a word among words -/
noncomputable def isWord (x : Str) : Value → Bool
  | .str y _ => y == x
  | _ => false
noncomputable abbrev Words (vs : List Value) (ws : List Str) : Prop := All2 (fun v x => ∃ t, v = Value.str x t) vs ws
theorem any_words (x : Str) : ∀ {vs : List Value} {ws : List Str}, Words vs ws → vs.any (isWord x) = ws.contains x
  | [], ws, h => by rw [List.length_eq_zero_iff.mp h.1.symm]; rfl
  | v :: vs, [], h => by have := h.1; simp at this
  | v :: vs, w :: ws, h => by
    obtain ⟨t', rfl⟩ := h.2 0 v w rfl rfl
    have ih := any_words x (vs := vs) (ws := ws) ⟨by have := h.1; simpa using this, fun i a b e1 e2 => h.2 (i + 1) a b (by simpa using e1) (by simpa using e2)⟩
    rw [List.any_cons, List.contains_cons, ih]
    have : isWord x (.str w t') = (x == w) := by
      show (w == x) = (x == w)
      exact Bool.eq_iff_iff.mpr (by rw [beq_iff_eq, beq_iff_eq]; exact eq_comm)
    rw [this]
theorem words_eq {x : Str} {t : Tok} {ws : List Str} {vs : List Value} {A : Around} {s : Shared} (h : Words vs ws) (v : Value) (hv : v ∈ vs.toArray) : SeqAt.EqAt A s v (.str x t) (isWord x v) := by
  obtain ⟨i, hi, e⟩ := List.getElem_of_mem (show v ∈ vs by simpa using hv)
  obtain ⟨t', q⟩ := h.2 i v (ws[i]'(h.1 ▸ hi)) (by rw [List.getElem?_eq_getElem hi, e]) (List.getElem?_eq_getElem _)
  rw [q]; exact SeqAt.EqAt.str_str _ _ _ _
theorem r_notin_tp {x : Str} {t : Tok} {ws : List Str} {vs : List Value} (S : St z B cs s) (y : In s a (TpO vs)) (h : Words vs ws) (k : ∀ s', St z B cs s' → Q (.bool (!ws.contains x)) s') :
    wpAny K.M A (compareOp .NotIn (.str x t) (.ref a)) Q E s :=
  SeqAt.notIn_tupleAt (isWord x) y.tuple (fun v hv => words_eq h v hv) (by rw [List.any_toArray, any_words x h]; exact k s S)
theorem r_in_ls {x : Str} {t : Tok} {ws : List Str} {vs : List Value} (S : St z B cs s) (y : In s a (LsO vs)) (h : Words vs ws) (k : ∀ s', St z B cs s' → Q (.bool (ws.contains x)) s') :
    wpAny K.M A (compareOp .In (.str x t) (.ref a)) Q E s :=
  SeqAt.in_listAt (isWord x) y.list (fun v hv => words_eq h v hv) (by rw [List.any_toArray, any_words x h]; exact k s S)
theorem r_and {e₁ e₂ rest pos} {env : Env} (h : wpAny K.M A (eval e₁ env) (fun v s₁ => wpAny K.M A (truthy v) (fun c s₂ => Br c (wpAny K.M A (eval (.BoolOp .And (e₂ :: rest) pos) env) Q E s₂) (Q v s₂)) E s₁) E s) : wpAny K.M A (eval (.BoolOp .And (e₁ :: e₂ :: rest) pos) env) Q E s :=
  BoolOp_and (wpAny_mono h (fun _ _ x => wpAny_mono x (fun _ _ y => y.ite) fun _ _ e => e) fun _ _ e => e)
theorem r_or {e₁ e₂ rest pos} {env : Env} (h : wpAny K.M A (eval e₁ env) (fun v s₁ => wpAny K.M A (truthy v) (fun c s₂ => Br c (Q v s₂) (wpAny K.M A (eval (.BoolOp .Or (e₂ :: rest) pos) env) Q E s₂)) E s₁) E s) : wpAny K.M A (eval (.BoolOp .Or (e₁ :: e₂ :: rest) pos) env) Q E s :=
  BoolOp_or (wpAny_mono h (fun _ _ x => wpAny_mono x (fun _ _ y => y.ite) fun _ _ e => e) fun _ _ e => e)
theorem r_addi {x y : Int} {t u : Tok} (S : St z B cs s) (h : ∀ t s', St z B cs s' → Q (.int (x + y) t) s') : wpAny K.M A (binaryOp .Add (.int x t) (.int y u)) Q E s := PyProof.Rows.add_int (h _ _ (S.toks _))
theorem r_subi {x y : Int} {t u : Tok} (S : St z B cs s) (h : ∀ t s', St z B cs s' → Q (.int (x - y) t) s') : wpAny K.M A (binaryOp .Sub (.int x t) (.int y u)) Q E s := PyProof.Rows.sub_int (h _ _ (S.toks _))
theorem r_iaddi {x y : Int} {t u : Tok} (S : St z B cs s) (h : ∀ t s', St z B cs s' → Q (.int (x + y) t) s') : wpAny K.M A (inplaceOp .Add (.int x t) (.int y u)) Q E s := PyProof.Rows.iadd_int (h _ _ (S.toks _))
theorem r_isubi {x y : Int} {t u : Tok} (S : St z B cs s) (h : ∀ t s', St z B cs s' → Q (.int (x - y) t) s') : wpAny K.M A (inplaceOp .Sub (.int x t) (.int y u)) Q E s := PyProof.Rows.isub_int (h _ _ (S.toks _))
theorem r_modi {x y : Int} {t u : Tok} (S : St z B cs s) (hy : y ≠ 0) (h : ∀ t s', St z B cs s' → Q (.int (x.fmod y) t) s') : wpAny K.M A (binaryOp .Mod (.int x t) (.int y u)) Q E s := PyProof.Rows.mod_int hy (h _ _ (S.toks _))
end
section
variable {K : Wk} {A : Around} {E : Value → Shared → Prop} {z : Shared} {B : View} {cs cs' : List Cell} {s : Shared} {c : Cell} {a : Addr} {vs : List Value} {ns : List Int} {Q : Value → Shared → Prop} {kvs : List (Int × Value)} {d : Addr} {v : Value}
theorem r_item_dc2 {value slice : Expr} {k : Int} {u : Tok} (S : St z B cs s) (x : In s a (DcO K kvs)) (hv : valueAt kvs k = some v) (h : ∀ s', St z B cs s' → Q v s')
    (hs : subscripted slice false (.ref a) (.int k u) = operate [.ref a, .int k u] (getItem (.ref a) (.int k u)) := by with_unfolding_all rfl) :
    wpAny K.M A (subscriptTail value slice (.ref a) (.int k u)) Q E s :=
  have hD := x.dict
  tail_any hD.typeIs slot_dict_getitem.lookup (wpAny_getItem_of (intKind_is _ _ k u) hD.mapOf hv (h _ (S.toks _))) hs
end
section
variable {K : Wk} {A : Around} {E : Value → Shared → Prop} {z : Shared} {B : View} {cs : List Cell} {s : Shared} {c : Cell} {a I : Addr} {vs : List Value}
theorem rvw_item {Q : Option Value → Shared → Prop} {i : Nat} {v : Value} {o : Obj} (ho : s.heap.get? I = some o) (p : RvO a vs.length i o) (ht : s.heap.IsTuple a vs.toArray) (hz : vs.length ≤ 1000) (hi : i < vs.length) (hv : vs[vs.length - 1 - i]? = some v)
    (h : ∀ h' tk, (∃ o, h'.get? I = some o ∧ RvO a vs.length (i + 1) o) → (∀ b o, b ≠ I → s.heap.get? b = some o → h'.get? b = some o) → Q (some v) { s with heap := h', toks := tk }) : wpAny K.M A (pyNext (.ref I)) Q E s := by
  obtain ⟨oc, od⟩ := p
  have hT : s.TypeIs (.ref I) "reversed" := ⟨o, ho, oc⟩
  unfold pyNext
  refine wpAny_bind (wpAny_attempt (wpAny_callSpecial?_slot (name := Str.ofString "__next__") hT Rv.slot_next (wpAny_call_entry Rv.slot_next hT Rv.entry_next ?_ (Rv.args_next _))))
  unfold Builtin.«reversed.__next__»
  refine wpAny_bind (wpAny_of_eq (a := (Value.ref I, [])) rfl ?_)
  try dsimp only
  refine wpAny_bind (wpAny_field ho od (x := .ref a) rfl ?_)
  refine wpAny_bind (wpAny_field ho od (x := rawInt ((vs.length : Int) - 1 - (i : Int))) rfl ?_)
  show wpAny _ _ (if ((vs.length : Int) - 1 - (i : Int)) < 0 then _ else _) _ _ s
  rw [if_neg (by lia)]
  refine wpAny_bind (wpAny_specialOf ht.typeIs PySem.F.slot_tuple_getitem.lookup ?_)
  rw [if_neg (by decide)]
  refine wpAny_bind (wpAny_mkInt ?_)
  have hn : vs.toArray.size = vs.length := by simp
  refine wpAny_bind (wpAny_attempt (PyProof.Rows.getItem_tuple (j := vs.length - 1 - i) (let ⟨o, a, b⟩ := ht; ⟨o, a, b⟩) (by lia) (by lia) ?_ (by simpa using hv) ?_))
  · rw [hn]; unfold seqIndex?
    have e1 : ¬ ((vs.length : Int) - 1 - (i : Int) < 0) := by lia
    simp only [e1, if_false]
    rw [if_pos (by simp only [Bool.and_eq_true, decide_eq_true_eq]; lia)]
    congr 1; lia
  refine wpAny_bind (wpAny_field ho od (x := rawInt ((vs.length : Int) - 1 - (i : Int))) rfl ?_)
  refine wpAny_bind (wpAny_setField ho od (by simp) ?_)
  refine wpAny_pure ⟨v, rfl, wpAny_pure (h _ _ ⟨_, Heap.get?_update_self _ ho (Obj.isFreed_of_fields (Obj.data_mapFields od _)), (Obj.cls_mapFields ..).trans oc, ?_⟩ fun b o hb e => upd_keep hb e)⟩
  rw [Obj.data_mapFields od]
  have e2 : (vs.length : Int) - 1 - (i : Int) - 1 = (vs.length : Int) - 1 - ((i + 1 : Nat) : Int) := by lia
  rw [e2]; rfl
theorem rvw_end {Q : Option Value → Shared → Prop} {n : Nat} {o : Obj} (hh : A.handled = none) (ho : s.heap.get? I = some o) (p : RvO a n n o)
    (h : ∀ h' tk, (∀ b o, b ≠ I → s.heap.get? b = some o → h'.get? b = some o) → Q none { s with heap := h', toks := tk }) : wpAny K.M A (pyNext (.ref I)) Q E s := by
  obtain ⟨oc, od⟩ := p
  have hT : s.TypeIs (.ref I) "reversed" := ⟨o, ho, oc⟩
  unfold pyNext
  refine wpAny_bind (wpAny_attempt (wpAny_callSpecial?_slot (name := Str.ofString "__next__") hT Rv.slot_next (wpAny_call_entry Rv.slot_next hT Rv.entry_next ?_ (Rv.args_next _))))
  unfold Builtin.«reversed.__next__»
  refine wpAny_bind (wpAny_of_eq (a := (Value.ref I, [])) rfl ?_)
  try dsimp only
  refine wpAny_bind (wpAny_field ho od (x := .ref a) rfl ?_)
  refine wpAny_bind (wpAny_field ho od (x := rawInt ((n : Int) - 1 - (n : Int))) rfl ?_)
  show wpAny _ _ (if ((n : Int) - 1 - (n : Int)) < 0 then _ else _) _ _ s
  rw [if_pos (by lia)]
  refine wpAny_bind (wpAny_rule ?_)
  refine wpAny_bind ?_
  show wpAny _ _ (setField (.ref I) 1 (rawInt (-1)) >>= _) _ _ s
  refine wpAny_bind (wpAny_setField ho od (by simp) ?_)
  have ho1 := Heap.get?_update_self (h := s.heap) (a := I) (Obj.mapFields fun vs => vs.setIfInBounds 1 (rawInt (-1))) ho (Obj.isFreed_of_fields (Obj.data_mapFields od _))
  refine wpAny_setField ho1 (Obj.data_mapFields od _) (by simp) ?_
  refine wpAny_bind ?_
  show wpAny _ _ (newExc (.type "StopIteration") [] >>= _) _ _ _
  refine wpAny_bind ?_
  simp only [newExc, newTuple]
  refine wpAny_bind (wpAny_newObj_type ?_ (by size_fits))
  refine wpAny_bind (m := firstArgMember _ _) (wpAny_of_eq (a := Value.none) (by first | rfl | (simp only [firstArgMember]; rfl)) ?_)
  refine wpAny_newObj_type ?_ (by size_fits)
  simp only [raiseNew]
  refine wpAny_bind (wpAny_handled ?_)
  first | rw [show A.in1.handled = none from hh] | rw [hh]
  refine wpAny_bind (wpAny_pure (wpAny_throw ?_))
  refine wpAny_bind (wpAny_isInstance (T := "StopIteration") (b := true) ⟨_, Heap.get?_push_size _ rfl, rfl⟩ isSubtype_stop ?_)
  exact wpAny_pure (h _ _ fun b o hb e => Heap.get?_push_of_some _ (Heap.get?_push_of_some _ (upd_keep hb (upd_keep hb e))))
/-- k items stand already; then those of the tuple, from behind -/
theorem walks_rv (hh : A.handled = none) (hz : vs.length ≤ 1000) (hne : a ≠ I) (k : Nat) (P : Nat → Value → Prop) (hP : ∀ i v, vs.reverse[i]? = some v → P (k + i) v) :
    Walks pw K.w A I [I, a] [I] (k + vs.length) P (fun i h => k ≤ i ∧ (∃ o, h.get? I = some o ∧ RvO a vs.length (i - k) o) ∧ h.IsTuple a vs.toArray) where
  sub := by intro b hb; exact .head _ |> fun (x : I ∈ [I, a]) => by rw [List.mem_singleton.mp hb]; exact x
  frame := by
    rintro i h h' ⟨hk, ⟨o, ho, p⟩, o', ho', q⟩ kk
    exact ⟨hk, ⟨o, kk I (.head _) o ho, p⟩, o', kk a (.tail _ (.head _)) o' ho', q⟩
  item := by
    rintro i s Q E hi ⟨hk, ⟨o, ho, p⟩, ht⟩ h
    have hlt : i - k < vs.length := by lia
    refine rvw_item (v := vs[vs.length - 1 - (i - k)]'(by lia)) ho p ht hz hlt (List.getElem?_eq_getElem (by lia)) fun h' tk hI hb => ?_
    refine h _ h' tk ?_ ⟨by lia, ?_, ?_⟩ fun b o hb' e => hb b o (by simpa using hb') e
    · have := hP (i - k) (vs[vs.length - 1 - (i - k)]'(by lia)) (by rw [List.getElem?_reverse hlt]; exact List.getElem?_eq_getElem (by lia))
      rwa [show k + (i - k) = i from by lia] at this
    · rw [show i + 1 - k = i - k + 1 from by lia]; exact hI
    · obtain ⟨o', ho', q⟩ := ht; exact ⟨o', hb a o' hne ho', q⟩
  done := by
    rintro s Q E ⟨hk, ⟨o, ho, p⟩, ht⟩ h
    rw [show k + vs.length - k = vs.length from by lia] at p
    exact rvw_end hh ho p fun h' tk hb => h h' tk fun b o hb' e => hb b o (by simpa using hb') e
  self := by
    rintro i s Q E ⟨hk, ⟨o, ho, p⟩, ht⟩ h
    have hT : s.TypeIs (.ref I) "reversed" := ⟨o, ho, p.1⟩
    refine wpAny_pyIter_slot hT Rv.slot_iter (wpAny_call_entry Rv.slot_iter hT Rv.entry_iter ?_ (Rv.args_iter _))
    show wpAny _ _ (ret (.ref I)) _ _ s
    exact wpAny_pure ⟨_, rfl, "reversed", _, hT, Rv.slot_next.lookup, h⟩
end
namespace Rv
theorem no_len : typeLookup (.type "reversed") "__len__" = pure none := by rw [typeLookup_type, builtinLookup_eq_fast]; kernel_rfl
theorem slot_hint : Slot "reversed" "__length_hint__" "reversed.__length_hint__" :=
  .of (owner := "reversed") (n := "__length_hint__") (by rw [typeLookup_type, builtinLookup_eq_fast]; kernel_rfl) (by decide +kernel) (by decide +kernel) (by decide +kernel)
    (by first | exact .inl (by decide +kernel) | exact .inr (by decide +kernel)) (by rw [isSubtype_type]; kernel_rfl)
theorem entry_hint : entryFor table "reversed.__length_hint__" = some Builtin.«reversed.__length_hint__» := entryFor_of_tree (by kernel_rfl)
theorem args_hint (a : Value) : argsOk "reversed.__length_hint__" ⟨[a], []⟩ := by
  unfold argsOk; rw [signature?_of (id := "reversed.__length_hint__") (n := "__length_hint__".toList.reverse) (o := ['d', 'e', 's', 'r', 'e', 'v', 'e', 'r']) (by kernel_rfl) owner]; kernel_rfl
theorem sub_self : isSubtype (.type "reversed") (.type "reversed") = pure true := by rw [isSubtype_type]; kernel_rfl
end Rv
section
variable {K : Wk} {A : Around} {E : Value → Shared → Prop} {z : Shared} {B : View} {cs : List Cell} {s : Shared} {c : Cell} {a I : Addr} {vs : List Value}
theorem rv_hint {Q : Bool → Shared → Prop} {o : Obj} (ho : s.heap.get? I = some o) (p : RvO a vs.length 0 o) (ht : s.heap.IsTuple a vs.toArray) (hz : vs.length ≤ 1000)
    (h : ∀ b tk, Q b { s with toks := tk }) : wpAny K.M A (Builtin.List.listLengthHint (.ref I)) Q E s := by
  obtain ⟨oc, od⟩ := p
  have hT : s.TypeIs (.ref I) "reversed" := ⟨o, ho, oc⟩
  unfold Builtin.List.listLengthHint
  refine wpAny_bind (wpAny_specialOf hT Rv.no_len ?_)
  dsimp only
  refine wpAny_ite_split (fun hab => absurd hab (by decide)) (fun _ => ?_)
  refine wpAny_ite_split (fun hab => absurd hab (by decide)) (fun _ => ?_)
  refine wpAny_bind (wpAny_specialOf hT Rv.slot_hint.lookup ?_)
  generalize hid : ("reversed.__length_hint__" : String) = id0
  wp_delta
  rw [show splitId id0 = some ("reversed", "__length_hint__") from by subst hid; decide +kernel]
  subst hid
  dsimp only
  refine wpAny_bind (wpAny_isInstance (T := "reversed") (b := true) hT Rv.sub_self ?_)
  refine wpAny_ite_split (fun hab => absurd hab (by decide)) (fun _ => ?_)
  refine wpAny_ite_split (fun hab => absurd hab (by decide +kernel)) (fun _ => ?_)
  refine wpAny_bind (wpAny_rule ?_)
  refine wpAny_bind (wpAny_of_eq (a := (Value.builtin "reversed.__length_hint__", [Value.ref I])) (by first | rfl | kernel_rfl) ?_)
  refine wpAny_bind (wpAny_attempt (wpAny_call_entry Rv.slot_hint hT Rv.entry_hint ?_ (Rv.args_hint _)))
  unfold Builtin.«reversed.__length_hint__»
  refine wpAny_bind (wpAny_of_eq (a := Value.ref I) (by first | rfl | kernel_rfl) ?_)
  try dsimp only
  refine wpAny_bind (wpAny_field ho od (x := .ref a) rfl ?_)
  refine wpAny_ite_split (fun hab => absurd hab (show ¬ ((Value.ref a == Value.none) = true) from Bool.false_ne_true)) (fun _ => ?_)
  refine wpAny_bind (PyProof.Rows.len_tuple (items := vs.toArray) (let ⟨o, a, b⟩ := ht; ⟨o, a, b⟩) (by simp; lia) ?_)
  refine wpAny_bind (wpAny_of_eq (a := some (vs.toArray.size : Int)) (by first | rfl | kernel_rfl) ?_)
  try dsimp only
  refine wpAny_bind (wpAny_field (s := { s with toks := s.toks + 1 + 1 }) ho od (x := rawInt ((vs.length : Int) - 1 - ((0 : Nat) : Int))) rfl ?_)
  show wpAny _ _ (if ((vs.toArray.size : Nat) : Int) < ((vs.length : Int) - 1 - ((0 : Nat) : Int)) + 1 then _ else _) _ _ _
  rw [if_neg (by simp)]
  have e1 : (vs.length : Int) - 1 - ((0 : Nat) : Int) + 1 = (vs.length : Int) := by lia
  rw [e1]
  show wpAny _ _ (mkInt _ >>= fun v => ret v) _ _ _
  refine wpAny_bind (wpAny_mkInt (wpAny_pure ⟨_, rfl, ?_⟩))
  show wpAny _ _ (asInt? (Value.int _ _) >>= _) _ _ _
  generalize hN : (vs.length : Int) = N
  refine wpAny_bind (wpAny_of_eq (a := some N) rfl ?_)
  subst hN
  try dsimp only
  have f1 : Builtin.List.listFitsIndex (vs.length : Int) = true := by unfold Builtin.List.listFitsIndex; simp; lia
  have f2 : Builtin.List.listTooLong (vs.length : Int).toNat = false := by unfold Builtin.List.listTooLong; rw [decide_eq_false_iff_not, sizeLine_eq]; simp; lia
  rw [f1, f2]
  refine wpAny_ite_split (fun hab => absurd hab (by decide)) (fun _ => ?_)
  refine wpAny_ite_split (fun hab => absurd hab (by lia)) (fun _ => ?_)
  refine wpAny_ite_split (fun hab => absurd hab (by decide)) (fun _ => ?_)
  exact wpAny_pure (h _ _)
end
section
variable {prog : Program} {w : World} {A : Around} {s : Shared} {I S : Addr} {fp : List Addr} {n : Nat} {P : Nat → Value → Prop} {St : Nat → Heap → Prop}
theorem ext_with {R : Result → Shared → Prop} {T : String} {k c : Nat} {acc : Array Value} (W : Walks prog w A.in1 I fp [I] n P St) (hT : s.TypeIs (.ref I) T) (nl : (Value.type T == Value.type "list") = false) (nt : (Value.type T == Value.type "tuple") = false)
    (hint : ∀ (s : Shared) (E : Value → Shared → Prop) (Q : Bool → Shared → Prop), St k s.heap → (∀ b tk, Q b { s with toks := tk }) → wpAny (model prog w) A.in1 (Builtin.List.listLengthHint (.ref I)) Q E s)
    (hSf : S ∉ fp) (hI : I ∈ fp) (hst : St k s.heap) (res : Value) (hS : s.heap.get? S = some { cls := .type "list", dict := none, data := .seq acc c, slots := #[] }) (hacc : ItemsOf P acc k) (hk : k ≤ n) (hn : n ≤ 3000)
    (hR : ∀ h' tk acc' c', (∀ b o, b ≠ S → b ≠ I → s.heap.get? b = some o → h'.get? b = some o) → h'.get? S = some { cls := .type "list", dict := none, data := .seq acc' c', slots := #[] } → ItemsOf P acc' n → R (.ok (.ret res)) { s with heap := h', toks := tk }) :
    wpAny (model prog w) A.in1 (Builtin.List.listExtendWith (.ref S) (.ref I) res)
      (fun fin s' => match fin with | .done f => R (.ok f) s' | .again c' => c'.quiet = true ∧ codeAny (model prog w) A c' R s') (fun e s' => R (.error e) s') s := by
  have hSI : S ≠ I := fun e => hSf (e ▸ hI)
  have hsl : n ≤ sizeLine := by rw [sizeLine_eq]; lia
  have key : ∀ (h : Heap) (c₁ tk : Nat), St k h → (∀ b o, b ≠ S → s.heap.get? b = some o → h.get? b = some o) →
      h.get? S = some { cls := .type "list", data := .seq acc c₁ } → codeAny (model prog w) A (.builtin "list.extend.loop" ⟨[.ref S, .ref I, res], []⟩) R { s with heap := h, toks := tk } := by
    intro h c₁ tk hst hk' hS₁
    refine codeAny_extend_loopS W.toS hsl S hSf res (n - k) k _ acc c₁ rfl hk hst hS₁ hacc fun s' acc' c' hm hS' hacc' => ?_
    rw [Moved.eq_with hm]
    refine hR s'.heap s'.toks acc' c' (fun b o hb hbI e => hm.heap b o (fun hmem => ?_) (hk' b o hb e)) hS' hacc'
    simp only [List.mem_cons, List.not_mem_nil, or_false] at hmem
    rcases hmem with e' | e'
    · exact hb e'
    · exact hbI e'
  unfold Builtin.List.listExtendWith
  refine wpAny_bind (wpAny_typeOf (T := T) hT ?_)
  have h1 : Builtin.List.listSameRef (.ref S) (.ref I) = false := by simp [Builtin.List.listSameRef, hSI]
  simp only [h1, nl, nt, Bool.or_false, Bool.false_eq_true, if_false]
  refine wpAny_bind (W.self k _ _ _ hst ?_)
  refine wpAny_bind (wpAny_holding (hint _ _ _ hst fun b tk => ?_))
  refine wpAny_ite_split (fun _ => ?_) (fun _ => wpAny_pure ⟨plainId_quiet PySem.F.plain_extend_loop _, key _ c tk hst (fun b o _ e => e) hS⟩)
  refine wpAny_bind (wpAny_rule ?_)
  refine wpAny_bind ?_
  show wpAny _ _ (updateSeq S (·.push .none) >>= fun _ => updateSeq S (·.pop)) _ _ _
  have hsz : acc.size = k := hacc.1
  refine wpAny_bind (wpAny_updateSeq (hz := by rw [sizeLine_eq]; lia) (_hz' := by rw [sizeLine_eq, Array.size_push]; lia) hS rfl ?_)
  have hS₂ := Heap.get?_update_self (Obj.mapSeq (·.push Value.none)) hS rfl
  refine wpAny_updateSeq (hz := by rw [sizeLine_eq, Array.size_push]; lia) (_hz' := by rw [sizeLine_eq]; simp; lia) hS₂ rfl ?_
  have hS₃ := Heap.get?_update_self (Obj.mapSeq (·.pop)) hS₂ rfl
  have hp : (acc.push Value.none).pop = acc := by simp
  refine wpAny_pure ⟨plainId_quiet PySem.F.plain_extend_loop _, key _ (c + 1 + 1) _ ?_ (fun b o hb e => ?_) ?_⟩
  · refine W.frame k _ _ hst fun b hb o e => ?_
    have hbS : b ≠ S := fun h => hSf (h ▸ hb)
    exact (Heap.get?_update_other _ _ (Ne.symm hbS)).trans ((Heap.get?_update_other _ _ (Ne.symm hbS)).trans e)
  · exact (Heap.get?_update_other _ _ (Ne.symm hb)).trans ((Heap.get?_update_other _ _ (Ne.symm hb)).trans e)
  · rw [hS₃]; simp [Obj.mapSeq]
end
section
variable {K : Wk} {A : Around} {E : Value → Shared → Prop} {z : Shared} {B : View} {cs cs' : List Cell} {s : Shared} {c : Cell} {a I D : Addr} {vs us : List Value}
theorem St.upd2 {P P' PI : Obj → Prop} {o' : Obj} {h' : Heap} {t : Nat} (S : St z B (c :: (I, PI) :: cs) s) (u : At a P P' cs cs') (k : ∀ b o, b ≠ a → b ≠ I → s.heap.get? b = some o → h'.get? b = some o)
    (ho : h'.get? a = some o') (hP : P' o') : St z B (c :: cs') { s with heap := h', toks := t } := by
  have S0 : St z B (c :: cs) s := S.drop (.cons_cons _ (List.sublist_cons_self _ _))
  have nd := S.nd
  simp only [List.map_cons, List.nodup_cons, List.mem_cons, not_or] at nd
  have offI : ∀ x ∈ c :: cs, x.1 ≠ I := by
    intro x hx q
    rcases List.mem_cons.mp hx with rfl | hx
    · exact nd.1.1 q
    · exact nd.2.1 (by rw [← q]; exact List.mem_map_of_mem hx)
  have u' : At a P P' (c :: cs) (c :: cs') := .there u
  refine ⟨S0.gens, S0.drawn, S0.os, fun b o e => ?_, fun x hm => ?_, by rw [u'.map]; exact S0.nd, fun x hm => ?_⟩
  · refine k b o ?_ ?_ (S0.base b o e)
    · rintro rfl; have := S0.off _ u'.mem; rw [this] at e; cases e
    · rintro rfl; have := S.off (b, PI) (.tail _ (.head _)); rw [this] at e; cases e
  · rcases u'.mem' S0.nd x hm with rfl | ⟨q, ne⟩
    · exact ⟨o', ho, hP⟩
    · obtain ⟨y, e, p⟩ := S0.cells x q
      exact ⟨y, k _ _ ne (offI x q) e, p⟩
  · rcases u'.mem' S0.nd x hm with rfl | ⟨q, _⟩
    · exact S0.off (a, P) u'.mem
    · exact S0.off x q
/-- l.extend(reversed(t)) -/
theorem r_extend_rv {Q : Value → Shared → Prop} (hh : A.handled = none) (S : St z B (c :: (I, RvO a vs.length 0) :: cs) s) (x : Has B a (TpO vs)) (u : At D (LsO us) (LsO (us ++ vs.reverse)) cs cs') (hz : vs.length ≤ 1000) (hz2 : us.length ≤ 1000)
    (h : ∀ s', St z B (c :: cs') s' → Q .none s') : wpAny K.M A (call (.builtin "list.extend") [.ref D, .ref I]) Q E s := by
  obtain ⟨o, ho, n, rfl⟩ := S.cells (D, LsO us) (.tail _ (.tail _ u.mem))
  obtain ⟨oI, hI, pI⟩ := S.cells (I, RvO a vs.length 0) (.tail _ (.head _))
  have ht := HasTp.tuple S x
  have hDI : D ≠ I := by
    rintro rfl
    have nd := S.nd
    simp only [List.map_cons, List.nodup_cons] at nd
    exact nd.2.1 (List.mem_map.mpr ⟨_, u.mem, rfl⟩)
  have haI : a ≠ I := by
    rintro rfl
    obtain ⟨o, e, _⟩ := x
    have := S.off (a, RvO a vs.length 0) (.tail _ (.head _))
    rw [this] at e; cases e
  have haD : a ≠ D := by
    rintro rfl
    obtain ⟨o, e, _⟩ := x
    have := S.off (a, LsO us) (.tail _ (.tail _ u.mem))
    rw [this] at e; cases e
  refine wpAny_call (codeAny_call_builtin PySem.F.slot_list_extend.plain PySem.F.entry_list_extend (PySem.F.slot_list_extend.check _ _ _ _ _ _ _ _ ⟨_, ho, rfl⟩ (PySem.F.args_list_extend_2 _ _) ?_))
  unfold Builtin.«list.extend»
  refine wpAny_bind (wpAny_of_eq (a := (Value.ref D, Value.ref I)) (by first | rfl | kernel_rfl) ?_)
  dsimp only
  have WK := walks_rv (K := K) (A := A.in1) hh hz haI us.length (fun i v => (us ++ vs.reverse)[i]? = some v) (fun i v e => by
    show (us ++ vs.reverse)[us.length + i]? = some v
    rw [List.getElem?_append_right (by lia)]; simpa using e)
  refine ext_with (R := fun r s' => match r with | .ok (.ret v) => Q v s' | .ok _ => False | .error e => E e s') (prog := pw) (w := K.w) (T := "reversed") (k := us.length) WK ⟨oI, hI, pI.1⟩ (by decide) (by decide) ?_ ?_ (.head _) ⟨Nat.le_refl _, ?_, ht⟩ _ ho ⟨by simp, ?_⟩ (by lia) (by lia) ?_
  · rintro s₁ E₁ Q₁ ⟨_, ⟨o₁, e₁, p₁⟩, ht₁⟩ h₁
    rw [Nat.sub_self] at p₁
    exact rv_hint e₁ p₁ ht₁ hz h₁
  · simp only [List.mem_cons, List.not_mem_nil, or_false, not_or]; exact ⟨hDI, haD.symm⟩
  · rw [Nat.sub_self]; exact ⟨oI, hI, pI⟩
  · intro j v e
    simp only [List.getElem?_toArray] at e
    have := (List.getElem?_eq_some_iff.mp e).1
    rw [List.getElem?_append_left this]; exact e
  · intro h' tk acc' c' hk hS' hacc
    have ec : acc' = (us ++ vs.reverse).toArray := by
      apply Array.toList_inj.mp
      refine List.ext_getElem? fun i => ?_
      cases e : acc'[i]? with
      | some v => rw [Array.getElem?_toList, e]; exact (hacc.2 i v e).symm
      | none =>
        rw [Array.getElem?_toList, e]
        have : acc'.size ≤ i := by simpa using e
        rw [hacc.1] at this
        rw [List.getElem?_eq_none (by simp; lia)]
    subst ec
    exact h _ (S.upd2 (t := tk) u (fun b o h1 h2 e => hk b o h1 h2 e) hS' ⟨c', rfl⟩)
/-! ## list(reversed(l)) -/
noncomputable def LriO (l : Addr) (n : Nat) : Obj → Prop := fun o => o.cls = .type "list_reverseiterator" ∧ o.data = .fields #[.ref l, rawInt ((n : Int) - 1)]
theorem r_reversed_ls {l : Addr} {Q : Value → Shared → Prop} (S : St z B (c :: cs) s) (x : Has B l (LsO vs)) (h : ∀ I s', St z B (c :: (I, LriO l vs.length) :: cs) s' → Q (.ref I) s') : wpAny K.M A (call (.type "reversed") [.ref l]) Q E s := by
  refine call_reversed_list (HasLs.list S x) ?_
  exact h _ _ (S.push2 (t := s.toks) rfl ⟨rfl, by simp [revObj]⟩)
theorem lri_hint {l : Addr} {i : Int} {Q : Bool → Shared → Prop} (hT : s.heap.IsRevIter I l i) (h : Q false s) : wpAny K.M A (Builtin.List.listLengthHint (.ref I)) Q E s := by
  have hT := hT.typeIs
  have nl : typeLookup (.type "list_reverseiterator") "__len__" = pure none := by rw [typeLookup_type, builtinLookup_eq_fast]; kernel_rfl
  have sh : typeLookup (.type "list_reverseiterator") "__length_hint__" = pure (some (.builtin "list_reverseiterator.__length_hint__")) := by rw [typeLookup_type, builtinLookup_eq_fast]; kernel_rfl
  have ss : isSubtype (.type "list_reverseiterator") (.type "list_reverseiterator") = pure true := by rw [isSubtype_type]; kernel_rfl
  unfold Builtin.List.listLengthHint
  refine wpAny_bind (wpAny_specialOf hT nl ?_)
  dsimp only
  refine wpAny_ite_split (fun hab => absurd hab (by decide)) (fun _ => ?_)
  refine wpAny_ite_split (fun hab => absurd hab (by decide)) (fun _ => ?_)
  refine wpAny_bind (wpAny_specialOf hT sh ?_)
  generalize hid : ("list_reverseiterator.__length_hint__" : String) = id0
  wp_delta
  rw [show splitId id0 = some ("list_reverseiterator", "__length_hint__") from by subst hid; decide +kernel]
  subst hid
  dsimp only
  refine wpAny_bind (wpAny_isInstance (T := "list_reverseiterator") (b := true) hT ss ?_)
  refine wpAny_ite_split (fun hab => absurd hab (by decide)) (fun _ => ?_)
  refine wpAny_ite_split (fun _ => ?_) (fun hab => absurd (by decide +kernel) hab)
  refine wpAny_ite_split (fun hab => absurd hab (by decide +kernel)) (fun _ => ?_)
  exact wpAny_pure h
theorem r_list_lri {l : Addr} {Q : Value → Shared → Prop} (hh : A.handled = none) (S : St z B (c :: (I, LriO l vs.length) :: cs) s) (x : Has B l (LsO vs)) (hz : vs.length ≤ 1000)
    (h : ∀ D s', St z B (c :: (D, LsO vs.reverse) :: cs) s' → Q (.ref D) s') : wpAny K.M A (call (.type "list") [.ref I]) Q E s := by
  obtain ⟨oI, hI, pI⟩ := S.cells (I, LriO l vs.length) (.tail _ (.head _))
  have hl := HasLs.list S x
  have hIt : s.heap.IsRevIter I l ((vs.length : Int) - 1) := ⟨oI, hI, pI.1, pI.2⟩
  have hlI : l ≠ I := by
    rintro rfl
    obtain ⟨o, e, _⟩ := x
    have := S.off (l, LriO l vs.length) (.tail _ (.head _))
    rw [this] at e; cases e
  have hlt1 : I < s.heap.objs.size := Heap.lt_size hI
  have hlt2 : l < s.heap.objs.size := by obtain ⟨o, e, _⟩ := hl; exact Heap.lt_size e
  refine callType_codes (Q₁ := fun obj s₁ => obj = .ref s.heap.objs.size ∧ s₁ = { s with heap := s.heap.push { cls := .type "list", data := .seq #[] } }) PySem.F.called_list (PySem.F.typeCall_list_1 _) PySem.F.entry_list_init
    (code_list_new _ ⟨rfl, rfl⟩) fun obj s₁ h₁ => ?_
  obtain ⟨rfl, rfl⟩ := h₁
  have hS : (s.heap.push { cls := .type "list", data := .seq #[] }).get? s.heap.objs.size = some { cls := .type "list", data := .seq #[] } := Heap.get?_push_size _ rfl
  refine ⟨⟨_, hS, rfl⟩, PySem.F.args_list_init_2 _ _, ?_⟩
  show wpAny _ _ (do let old ← Builtin.List.listItems (.ref s.heap.objs.size); Builtin.List.listUpdate (.ref s.heap.objs.size) (fun _ => #[]); letGo old.toList.reverse; Builtin.List.listExtendWith (.ref s.heap.objs.size) (.ref I) .none) _ _ _
  refine wpAny_bind ?_
  unfold Builtin.List.listItems
  refine wpAny_bind (wpAny_seqItems hS rfl (wpAny_pure ?_))
  show wpAny _ _ (updateSeq s.heap.objs.size (fun _ => #[]) >>= fun _ => letGo (#[] : Array Value).toList.reverse >>= fun _ => Builtin.List.listExtendWith (.ref s.heap.objs.size) (.ref I) .none) _ _ _
  refine wpAny_bind (wpAny_updateSeq hS rfl ?_)
  have hS₂ := Heap.get?_update_self (Obj.mapSeq (fun _ => (#[] : Array Value))) hS rfl
  have oth : ∀ b o, b ≠ s.heap.objs.size → s.heap.get? b = some o → ((s.heap.push { cls := .type "list", data := .seq #[] }).update s.heap.objs.size (Obj.mapSeq (fun _ => (#[] : Array Value)))).get? b = some o :=
    fun b o hb e => (Heap.get?_update_other _ _ (Ne.symm hb)).trans (Heap.get?_push_of_some _ e)
  refine wpAny_bind (wpAny_letGo ?_)
  have W := Walks.listRev (prog := pw) (w := K.w) (A := A.in1.in1) hh I l hlI vs.toArray
  have keep : ∀ {b : Addr} {o : Obj}, s.heap.get? b = some o → ((s.heap.push { cls := .type "list", data := .seq #[] }).update s.heap.objs.size (Obj.mapSeq (fun _ => (#[] : Array Value)))).get? b = some o := fun {b o} e => oth b o (Nat.ne_of_lt (Heap.lt_size e)) e
  refine ext_with (T := "list_reverseiterator") (k := 0) (acc := #[]) W ⟨oI, keep hI, pI.1⟩ (by decide) (by decide) ?_ ?_ (.head _) ⟨Nat.zero_le _, (by have := hIt.at fun o e => keep e; simpa using this), ?_⟩ .none hS₂ (ItemsOf.nil _) (Nat.zero_le _) (by simp; lia) ?_
  · rintro s₁ E₁ Q₁ ⟨_, h1, _⟩ h₁
    exact lri_hint (K := K) h1 (h₁ false s₁.toks)
  · simp only [List.mem_cons, List.not_mem_nil, or_false, not_or]; exact ⟨Nat.ne_of_gt hlt1, Nat.ne_of_gt hlt2⟩
  · obtain ⟨o, e, r⟩ := hl; exact ⟨o, keep e, r⟩
  · intro h' tk acc' c' hk hS' hacc
    have ec : acc' = vs.reverse.toArray := by
      apply Array.toList_inj.mp
      refine List.ext_getElem? fun i => ?_
      cases e : acc'[i]? with
      | some v =>
        have hi : i < acc'.size := (Array.getElem?_eq_some_iff.mp e).1
        have hi' : i < vs.length := by have := hacc.1; simp at this; lia
        have := hacc.2 i v e
        rw [Array.getElem?_toList, e]
        rw [List.getElem?_reverse hi']
        simpa using this.symm
      | none =>
        rw [Array.getElem?_toList, e]
        have : acc'.size ≤ i := by simpa using e
        rw [hacc.1] at this
        simp at this
        rw [List.getElem?_eq_none (by simp; lia)]
    subst ec
    refine ⟨rfl, h _ _ ?_⟩
    have S1 := S.alloc (t := tk) (P := LsO vs.reverse) (St.fresh s) (fun b o' _ e => Heap.get?_push_of_some _ e) (Heap.get?_push_size s.heap (o := { cls := .type "list", dict := none, data := .seq vs.reverse.toArray c', slots := #[] }) rfl) ⟨_, rfl⟩
    have S2 := (S1.perm (cs' := c :: (I, LriO l vs.length) :: (s.heap.objs.size, LsO vs.reverse) :: cs) ((List.Perm.swap _ _ _).trans (.cons _ (.swap _ _ _)))).lose (h' := h') (t := tk) (fun b o hb e => ?_)
    · exact S2
    · rcases Heap.get?_push_cases e with ⟨rfl, rfl⟩ | e'
      · exact hS'
      · exact hk b o (Nat.ne_of_lt (Heap.lt_size e')) hb (keep e')
end
open Classical in
noncomputable def restrict (B : View) (h : Heap) : Heap := { h with objs := h.objs.mapIdx fun i o => if B i = some o then o else { o with data := .freed } }
theorem get_iff {h : Heap} {a : Addr} {o : Obj} : h.get? a = some o ↔ h.objs[a]? = some o ∧ o.isFreed = false := Heap.get?_some_iff
theorem restrict_of {B : View} {h : Heap} {a : Addr} {o : Obj} (e : h.get? a = some o) (b : B a = some o) : (restrict B h).get? a = some o := by
  obtain ⟨e1, e2⟩ := Heap.get?_some_iff.mp e
  refine Heap.get?_some_iff.mpr ⟨?_, e2⟩
  unfold restrict
  simp [e1, b]
theorem restrict_get {B : View} {h : Heap} {a : Addr} {o : Obj} (e : (restrict B h).get? a = some o) : B a = some o ∧ h.get? a = some o := by
  obtain ⟨e1, e2⟩ := Heap.get?_some_iff.mp e
  unfold restrict at e1
  simp only [Array.getElem?_mapIdx] at e1
  cases eo : h.objs[a]? with
  | none => rw [eo] at e1; cases e1
  | some o' =>
    rw [eo] at e1
    simp only [Option.map_some, Option.some.injEq] at e1
    split at e1
    · next hb => subst e1; exact ⟨hb, Heap.get?_some_iff.mpr ⟨eo, e2⟩⟩
    · subst e1; cases e2
/-- a method, among the frozen things -/
structure MethAt (B : View) (f : Addr) (i k : Nat) : Prop where
  it : ∃ o pm cd doc, B f = some o ∧ o.data = .func (methDef (mRec i k).name ((cRec i).withCmp.name ++ "." ++ (mRec i k).name) (mRec i k).params (mRec i k).body (mRec i k).scope pm cd doc) ∧
    ∀ h : Heap, (∀ a o, B a = some o → h.get? a = some o) → h.CodeRec cd ((cRec i).withCmp.name ++ "." ++ (mRec i k).name)
theorem MethAt.mono {B B' : View} {f : Addr} {i k : Nat} (x : MethAt B f i k) (h : Sub B B') : MethAt B' f i k :=
  let ⟨o, pm, cd, doc, e, d, c⟩ := x.it; ⟨o, pm, cd, doc, h _ _ e, d, fun hp k => c hp fun a o q => k a o (h a o q)⟩
theorem MethAt.up {B B' : View} {f : Addr} {i k : Nat} (h : Sub B B') (x : MethAt B f i k) : MethAt B' f i k := x.mono h
section
variable {K : Wk} {A : Around} {E : Value → Shared → Prop} {z : Shared} {B : View} {cs cs' : List Cell} {s : Shared} {x C dx : Addr} {m : Str → Option Value} {v : Value} {i k : Nat} {name nm : Str}
theorem r_method2 {pl : Sem Bool} {Q : Value × List Value → Shared → Prop} (S : St z B cs s) (W : Lib K B) (hm : cRec i ∈ plainsOf q lw) (Y : Cls K i C) (mm : mRec i k ∈ (cRec i).withCmp.meths) (hn : (mRec i k).name = nm) (X : Inst B x C dx) (h : In s dx (AtO m)) (hv : m nm = none) (hf : typeLookup (.type "object") nm = pure none)
    (kk : ∀ f, MethAt B f i k → Q (.ref f, [.ref x]) s)
    (hg : ("__getattribute__" : Str) ∈ (cRec i).withCmp.quiet := by simp [ClsRec.quiet]) (hg' : ("__getattr__" : Str) ∈ (cRec i).withCmp.quiet := by simp [ClsRec.quiet]) : wpAny K.M A (getMethod (.ref x) nm pl) Q E s := by
  obtain ⟨C', N, mN, hC', P⟩ := (W (restrict B s.heap) fun a o e => restrict_of (S.base a o e) e).2 _ hm
  rw [Y.name] at hC'
  obtain rfl := Value.ref.inj (Option.some.inj hC')
  have up : ∀ b o, (restrict B s.heap).get? b = some o → s.heap.get? b = some o := fun b o e => (restrict_get e).2
  have P2 := P.cls.keeps up
  have I := X.inst S h
  obtain ⟨nm', q, bs, sn, sub, col, dd, k0, k1, k2, k3, k5, hC⟩ := P2.obj
  obtain ⟨f, o, pm, cd, doc, h1, h2, h3, h4, h5⟩ := P.meths _ mm
  obtain ⟨hp, g, d, t, os⟩ := s
  rw [hn] at h1
  refine method_of hC P2.ns (P.quiet _ hg) (P.quiet _ hg') h1 (up _ _ h2) h3 hf I hv (kk f ⟨o, pm, cd, doc, (restrict_get h2).1, h4, fun hp' k' => h5.keeps fun b o e => k' b o (restrict_get e).1⟩)
theorem MethAt.isFn {f : Addr} (S : St z B cs s) (F : MethAt B f i k) : IsFn f s.heap := by
  obtain ⟨o, pm, cd, doc, e, d, c⟩ := F.it
  exact ⟨o, _, S.base _ _ e, d⟩
theorem r_callM2 {d u : Nat} {f : Addr} {args : List Value} (binds : List (Str × Value)) {Q : Value → Shared → Prop} (S : St z B cs s) (W : Lib K B) (F : MethAt B f i k) (O : Ok (d + 1) (u + 3) A)
    (hbind : ∀ qual pm cd doc, bindArgs (methDef (mRec i k).name qual (mRec i k).params (mRec i k).body (mRec i k).scope pm cd doc) ⟨args, []⟩ = pure binds)
    (hloc : ∀ x ∈ binds, (mRec i k).scope.names.lookup x.1 = some .local) (hcell : ∀ x ∈ (mRec i k).scope.names, x.2 ≠ .cell)
    (h : ∀ A L qual cd s', Ok d u A → St z B ((L, Lo fun y => binds.reverse.lookup y) :: cs) s' → wpAny K.M A (execs (mRec i k).body (envX qual (mRec i k).scope L f cd []))
      (fun fl s' => Q (match fl with | .ret v => v | _ => .none) s') (fun _ _ => False) s')
    (hco : (mRec i k).scope.isCoroutine = false := by rfl) (hgen : (mRec i k).scope.isGenerator = false := by rfl) (hk : (mRec i k).scope.kind = .function := by rfl) :
    wpAny K.M A (call (.ref f) args) Q E s := by
  obtain ⟨o, pm, cd, doc, e, dd, c⟩ := F.it
  exact r_callM S W ⟨o, pm, cd, doc, S.base _ _ e, dd, c _ S.base⟩ O.room (fun pm cd doc => hbind _ pm cd doc) hloc hcell (fun L cd s' S' => h _ L _ cd s' O.deeper S') hco hgen hk
end
section
variable {K : Wk} {A : Around} {E : Value → Shared → Prop} {z : Shared} {B : View} {cs cs' : List Cell} {s : Shared} {c : Cell} {a b : Addr} {vs us : List Value} {v w : Value} {kvs : List (Int × Value)} {Q : Value → Shared → Prop}
/-- what was frozen for a while is owned again -/
theorem St.thaw {B2 : View} {l : List Cell} (S2 : St z B2 cs s) (h : Sub B B2) (hl : ∀ c ∈ l, Has B2 c.1 c.2) (hoff : ∀ c ∈ l, B c.1 = none) (nd : (l.map (·.1)).Nodup) : St z B (l ++ cs) s where
  gens := S2.gens
  drawn := S2.drawn
  os := S2.os
  base := fun a o e => S2.base a o (h a o e)
  cells := fun c hm => by
    rcases List.mem_append.mp hm with hm | hm
    · exact S2.has (hl c hm)
    · exact S2.cells c hm
  nd := by
    rw [List.map_append, List.nodup_append]
    refine ⟨nd, S2.nd, fun a ha b hb e => ?_⟩
    obtain ⟨c, hc, rfl⟩ := List.mem_map.mp ha
    obtain ⟨c', hc', rfl⟩ := List.mem_map.mp hb
    obtain ⟨o, ho, _⟩ := hl c hc
    have := S2.off c' hc'
    rw [← e, ho] at this; cases this
  off := fun c hm => by
    rcases List.mem_append.mp hm with hm | hm
    · exact hoff c hm
    · cases e : B c.1 with
      | none => rfl
      | some o => have := S2.off c hm; rw [h _ _ e] at this; cases this
theorem St.offs {l : List Cell} (S : St z B (l ++ cs) s) : ∀ c ∈ l, B c.1 = none := fun c hc => S.off c (List.mem_append_left _ hc)
theorem St.nds {l : List Cell} (S : St z B (l ++ cs) s) : (l.map (·.1)).Nodup := by have := S.nd; rw [List.map_append, List.nodup_append] at this; exact this.1
theorem r_insert {i : Nat} {t : Tok} (S : St z B cs s) (u : At a (LsO vs) (LsO (vs.take i ++ v :: vs.drop i)) cs cs') (hi : i ≤ vs.length) (hz : vs.length ≤ 1000) (h : ∀ s', St z B cs' s' → Q .none s') :
    wpAny K.M A (call (.builtin "list.insert") [.ref a, .int (i : Int) t, v]) Q E s := by
  obtain ⟨o, ho, n, rfl⟩ := S.at u
  have hf : Builtin.List.listFitsIndex (i : Int) = true := fitsIndex_of (by lia) (by lia)
  generalize hx : (i : Int) = x at *
  refine call_meets PySem.F.slot_list_insert ⟨_, ho, rfl⟩ PySem.F.entry_list_insert (PySem.F.args_list_insert_3 _ _ _) (PySem.AutoSeq1.list_insert_list_int_val_1 a _ n x t v (by simp [hf]) (by rw [List.size_toArray]; exact sz_fit (by lia))) ⟨ho, h _ (S.upd u (fun b ob hb e => upd_keep hb e) (Heap.get?_update_self _ ho rfl) ⟨?_, ?_⟩)⟩
  · exact n + 1
  · show ({ cls := _, dict := none, data := .seq _ _, slots := _ } : Obj) = _
    have e1 : ¬ (x < 0) := by lia
    have e2 : min x.toNat vs.length = i := by lia
    simp only [e1, if_false, List.size_toArray, e2]
    have ee : (vs.toArray.extract 0 i).push v ++ vs.toArray.extract i vs.length = (vs.take i ++ v :: vs.drop i).toArray := by
      have := kl_ins_eq vs i v
      rwa [List.size_toArray] at this
    rw [ee]
    simp
    lia
theorem r_add_ls {u₁ : List Value} (S : St z B (c :: cs) s) (x : In s a (LsO vs)) (y : In s b (LsO us)) (hz : vs.length + us.length ≤ 1000) (h : ∀ d s', St z B (c :: (d, LsO (vs ++ us)) :: cs) s' → Q (.ref d) s') :
    wpAny K.M A (binaryOp .Add (.ref a) (.ref b)) Q E s := by
  obtain ⟨o, ho, n, rfl⟩ := x
  obtain ⟨o', ho', n', rfl⟩ := y
  refine PySem.P.add_list ho ho' (h _ _ (S.push2 (t := s.toks) rfl ⟨0, by simp⟩)) (by rw [List.size_toArray, List.size_toArray]; exact sz_fit hz)
theorem r_mul_ls {n : Nat} {t : Tok} (S : St z B (c :: cs) s) (x : In s a (LsO [v])) (hz : n ≤ 1000) (h : ∀ d s', St z B (c :: (d, LsO (List.replicate n v)) :: cs) s' → Q (.ref d) s') :
    wpAny K.M A (binaryOp .Mult (.ref a) (.int (n : Int) t)) Q E s := by
  obtain ⟨o, ho, k, rfl⟩ := x
  have e1 : (n : Int).toNat = n := by simp
  have e3 := fitsIndex_of (k := (n : Int)) (by lia) (by lia)
  have e0 : ([v] : List Value).toArray.size * (n : Int).toNat ≤ 2 ^ 24 := by simp; lia
  generalize hx : (n : Int) = x at *
  refine wpAny_binaryOp_repeat_ref (T := "list") (U := "int") (by decide) ⟨_, ho, rfl⟩ (fun s' => typeIs_int s' _ t) noFill_list_mul PySem.F.fills_int_mul PySem.F.slot_int_rmul repeat_list PySem.F.slot_int_index.lookup
    (call_meets PySem.F.slot_int_rmul (typeIs_int s _ t) PySem.F.entry_int_rmul (PySem.F.args_int_rmul_2 _ _) (lm_int_rmul_list_any x t a [v].toArray k none #[])
      ⟨ho, rfl, ⟨_, ho, rfl⟩, call_meets PySem.F.slot_list_mul ⟨_, ho, rfl⟩ PySem.F.entry_list_mul (PySem.F.args_list_mul_2 _ _)
        (lm_list_mul_any a [v].toArray k none #[] x t (by rw [e3]; simp) (by lia) (by simp only [Builtin.List.listTooLong, sizeLine]; simp; lia))
        ⟨ho, ?_⟩⟩)
  refine h _ _ (S.push2 (t := s.toks) rfl ⟨0, ?_⟩)
  rw [listMul_foldl_if, e1]
  simp
theorem r_dpop {k : Int} {t : Tok} (S : St z B cs s) (u : At a (DcO K kvs) (DcO K (without kvs k)) cs cs') (hz : kvs.length ≤ 1000) (hv : valueAt kvs k = some v) (h : ∀ s', St z B cs' s' → Q v s') :
    wpAny K.M A (call (.builtin "dict.pop") [.ref a, .int k t]) Q E s := by
  have hD := In.dict (S.at u)
  refine call_meetsIn PySem.F.slot_dict_pop hD.typeIs PySem.F.entry_dict_pop (PySem.F.args_dict_pop_2 _ _) (meets_dict_pop_there (knd := PySem.intKind pw K.w) (d := a) (intKind_is _ _ k t) [] (.inl rfl) rfl) ⟨kvs, v, hD, sz_fit hz, hv, fun h' hmm hs => ?_⟩
  obtain ⟨o', ho', hd'⟩ := Heap.dictOf_iff.mp hmm
  exact h _ (S.upd u (fun b o hb e => (hs.2 b hb).trans e) ho' hd')
theorem r_gitem_ls {k : Nat} {i : Int} {t : Tok} (x : In s a (LsO vs)) (hi : i = (k : Int)) (hk : k < 2 ^ 60) (hv : vs[k]? = some v) (h : Q v s) : wpAny K.M A (getItem (.ref a) (.int i t)) Q E s := by
  subst hi
  exact wpAny_getItem_list x.list (by lia) (by lia) (by simpa using hv) h
theorem r_sitem_ls {k : Nat} {i : Int} {t : Tok} {R : Unit → Shared → Prop} (S : St z B cs s) (u : At a (LsO vs) (LsO (vs.set k v)) cs cs') (hi : i = (k : Int)) (hk : k < vs.length) (hz : vs.length ≤ 1000) (h : ∀ s', St z B cs' s' → R () s') :
    wpAny K.M A (setItem (.ref a) (.int i t) v) R E s := by
  obtain ⟨o, ho, n, rfl⟩ := S.at u
  have hl : s.heap.IsList a vs.toArray := ⟨_, ho, rfl, n, rfl⟩
  unfold setItem
  try with_reducible refine wpAny_holding ?_
  first | refine wpAny_bind (wpAny_pure ?_) | skip
  refine wpAny_bind (wpAny_sequenceKey hl.typeIs (by decide) ?_)
  refine wpAny_bind (wpAny_callSpecial?_slot (name := Str.ofString "__setitem__") hl.typeIs slot_list_setitem
    (wpAny_call_entry slot_list_setitem hl.typeIs entry_list_setitem ?_ (args_list_setitem _ _ _)))
  show wpAny _ _ (Builtin.List.listSubscript? (.int i t) >>= _) _ _ s
  refine wpAny_bind (wpAny_listSubscript_int (fitsIndex_of (by lia) (by lia)) ?_)
  subst hi
  have hj : k < vs.toArray.size := by simpa using hk
  have hx' : vs.toArray[k]? = some vs.toArray[k] := Array.getElem?_eq_getElem hj
  show wpAny _ _ ((seqItemAt a k >>= fun r => pure (r.map (k, ·))) >>= _) _ _ s
  refine wpAny_bind (wpAny_bind (wpAny_seqItemAt ho rfl (wpAny_pure ?_)))
  rw [hx']
  show wpAny _ _ (setSeqItemAt a k v >>= _) _ _ s
  have S' := S.upd (t := s.toks) (h' := s.heap.update a (Obj.mapSeq (·.setIfInBounds k v))) u (fun b ob hb e => upd_keep hb e) (Heap.get?_update_self _ ho rfl) ⟨_, by simp [Obj.mapSeq]; rfl⟩
  refine wpAny_bind (wpAny_setSeqItemAt ho rfl ?_)
  first
    | exact wpAny_bind (wpAny_pure (wpAny_pure ⟨.none, rfl, wpAny_pure (h _ S')⟩))
    | exact wpAny_pure ⟨.none, rfl, wpAny_pure (h _ S')⟩
theorem r_tuple_ls (S : St z B cs s) (x : In s a (LsO vs)) (hz : vs.length ≤ 1000) (h : ∀ d B' s', Sub B B' → Has B' d (TpO vs) → St z B' cs s' → Q (.ref d) s') : wpAny K.M A (call (.type "tuple") [.ref a]) Q E s := by
  refine call_tuple_list x.list (fun h' hk => ?_) (by rw [List.size_toArray]; exact sz_fit hz)
  have hn : s.heap.get? h'.objs.size = none := by
    cases e : s.heap.get? h'.objs.size with
    | none => rfl
    | some o' => exact absurd (Heap.lt_size (hk _ _ e)) (Nat.lt_irrefl _)
  have S' := S.alloc (t := s.toks) (P := TpO vs) hn (fun b o' _ e => Heap.get?_push_of_some _ (hk _ _ e)) (Heap.get?_push_size h' (o := { cls := .type "tuple", data := .seq vs.toArray }) rfl) ⟨rfl, _, rfl⟩
  obtain ⟨B', o, hB, hp, e, S''⟩ := S'.freeze .here
  exact h _ _ _ hB ⟨o, e, hp⟩ S''
theorem r_max2 {x y : Int} {t u : Tok} (hh : A.handled = none) (S : St z B cs s) (h : ∀ t s', St z B cs s' → Q (.int (max x y) t) s') : wpAny K.M A (call (.builtin "max") [.int x t, .int y u]) Q E s := by
  refine max_two_ints hh fun h' tk hk => ?_
  have S' := S.step (t := tk) hk
  split
  · have := h u _ S'; rwa [show max x y = y from by lia] at this
  · have := h t _ S'; rwa [show max x y = x from by lia] at this
end
section
variable {K : Wk} {A : Around} {E : Value → Shared → Prop} {z : Shared} {B : View} {cs cs' : List Cell} {s : Shared} {m : Str → Option Value} {env : Env}
noncomputable def CeV (v : Option Value) : Obj → Prop := fun o => o.data = .cell v
theorem e_cellv {x : Str} {pos : Pos} {c : Addr} {v : Value} {Q : Value → Shared → Prop} (hx : env.kindOf x = some .cell) (hk : env.scope.kind = .function) (S : St z B cs s) (hc : env.cells.lookup x = some c) (hv : Has B c (CeV (some v))) (h : Q v s)
    (hd : (x == ("__debug__" : Str)) = false := by decide) : wpAny K.M A (eval (.Name x pos) env) Q E s := by
  obtain ⟨o, e, p⟩ := S.has hv
  exact wpAny_Name (wpAny_loadName_cell hk hx hc ⟨o, e, p⟩ h) hd
theorem St.claim {a : Addr} {P : Obj → Prop} {o : Obj} (S : St z B cs s) (hB : B a = none) (hc : a ∉ cs.map (·.1)) (ho : s.heap.get? a = some o) (hP : P o) : St z B ((a, P) :: cs) s where
  gens := S.gens
  drawn := S.drawn
  os := S.os
  base := S.base
  cells := fun c hm => by
    rcases List.mem_cons.mp hm with rfl | hm
    · exact ⟨o, ho, hP⟩
    · exact S.cells c hm
  nd := by rw [List.map_cons, List.nodup_cons]; exact ⟨hc, S.nd⟩
  off := fun c hm => by
    rcases List.mem_cons.mp hm with rfl | hm
    · exact hB
    · exact S.off c hm
theorem r_fncC (n : Nat) {d u : Nat} {x : Str} {args : List Value} (binds : List (Str × Value)) {Q : Value → Shared → Prop} (S : St z B cs s) (W : Lib K B) (O : Ok (d + 1) (u + 3) A) (hm : dN n ∈ recsOf q) (hn : (dN n).name = x)
    (hbind : ∀ pm cd doc, bindArgs (Calls.docDef (dN n).name (dN n).params (dN n).body (dN n).scope pm cd doc) ⟨args, []⟩ = pure binds)
    (hkind : ∀ N, ∀ x ∈ binds, (dN n).scope.names.lookup x.1 = some .local ∨ ((dN n).scope.names.lookup x.1 = some .cell ∧ ((cellsFrom N (dN n).scope.names []).lookup x.1).isSome = true))
    (hlk : ∀ N, ∀ p ∈ cellsFrom N (dN n).scope.names [], (cellsFrom N (dN n).scope.names []).lookup p.1 = some p.2)
    (h : ∀ A L cl cd s' B', Ok d u A → Sub B B' → cl = cellsFrom (L + 1) (dN n).scope.names [] → (∀ y c, cl.lookup y = some c → Has B' c (CeV (bindC (fun y => (dN n).scope.names.lookup y) binds (fun _ => none) y))) → St z B' ((L, Lo (bindL (fun y => (dN n).scope.names.lookup y) binds fun _ => none)) :: cs) s' →
      wpAny K.M A (execs (dN n).body (envX (dN n).name (dN n).scope L (fa K x) cd cl)) (fun fl s' => Q (match fl with | .ret v => v | _ => .none) s') (fun _ _ => False) s')
    (hco : (dN n).scope.isCoroutine = false := by rfl) (hgen : (dN n).scope.isGenerator = false := by rfl) (hk : (dN n).scope.kind = .function := by rfl) :
    wpAny K.M A (call (.ref (fa K x)) args) Q E s := by
  have T := S.top W
  obtain ⟨a, o, pm, code, doc, h1, h2, h3, h4⟩ := T.fn _ hm
  have hmg : K.mg (dN n).name = some (.ref (fa K x)) := by rw [hn]; exact mg_fn S W (by rw [List.contains_iff_mem, ← fn_names, ← hn]; exact List.mem_map_of_mem hm)
  rw [hmg] at h1
  obtain rfl := Value.ref.inj (Option.some.inj h1)
  refine wpAny_call (codeAny_call_cells O.room h2 h3 T.nolimit h4 rfl (hbind _ _ _) rfl (fun y hy => hkind _ y hy) (fun s₁ X => ?_) hco hgen hk)
  obtain ⟨h', tk, e, keep⟩ := X.done
  have S1 : St z B cs s₁ := by rw [e]; exact S.step (t := tk) keep
  have new : ∀ c, s.heap.objs.size ≤ c → B c = none ∧ c ∉ cs.map (·.1) := fun c hc => S.new_off (by
    cases e : s.heap.get? c with
    | none => rfl
    | some o => exact absurd (Heap.lt_size e) (Nat.not_lt.mpr hc))
  have claims : ∀ l : List (Str × Addr), (∀ p ∈ l, s.heap.objs.size < p.2 ∧ ∃ y, s₁.heap.IsCell p.2 y) → l.Pairwise (fun x y => x.2 ≠ y.2) → ∃ B', Sub B B' ∧ (∀ p ∈ l, ∀ y, s₁.heap.IsCell p.2 y → Has B' p.2 (CeV y)) ∧ St z B' cs s₁ ∧ ∀ c, B' c ≠ none → B c ≠ none ∨ ∃ p ∈ l, p.2 = c := by
    intro l
    induction l with
    | nil => intro _ _; exact ⟨B, Sub.refl _, (fun _ hp => nomatch hp), S1, fun c hc => .inl hc⟩
    | cons p l ih =>
      intro hp hap
      obtain ⟨B1, s1, s2, s3, s4⟩ := ih (fun q hq => hp q (.tail _ hq)) (List.pairwise_cons.mp hap).2
      obtain ⟨h1, y, o, ho, hd⟩ := hp p (.head _)
      have hb : B1 p.2 = none := by
        cases e : B1 p.2 with
        | none => rfl
        | some o =>
          rcases s4 p.2 (by rw [e]; simp) with h | ⟨q, hq, e2⟩
          · exact absurd (new p.2 (by lia)).1 h
          · exact absurd e2.symm ((List.pairwise_cons.mp hap).1 q hq)
      have S2 := s3.claim (P := fun ob => ob = o) hb (new p.2 (by lia)).2 ho rfl
      obtain ⟨o', hP, hB', S3⟩ := S2.freeze1
      subst hP
      refine ⟨_, s1.trans (sub_put hb), fun q hq y' hy' => ?_, S3, fun c hc => ?_⟩
      · rcases List.mem_cons.mp hq with rfl | hq
        · obtain ⟨o2, e2, d2⟩ := hy'
          rw [ho] at e2; cases e2
          exact ⟨o', put_self, d2⟩
        · exact (s2 q hq y' hy').mono (sub_put hb)
      · by_cases hcp : c = p.2
        · exact .inr ⟨p, .head _, hcp.symm⟩
        · rw [put_ne hcp] at hc
          rcases s4 c hc with h | ⟨q, hq, e⟩
          · exact .inl h
          · exact .inr ⟨q, .tail _ hq, e⟩
  obtain ⟨o1, ho1, hp1⟩ := lo_of X.toInCall.ns
  obtain ⟨B', s1, s2, s3, s4⟩ := claims (cellsFrom (s.heap.objs.size + 1) (dN n).scope.names []) (fun p hp => ⟨X.above p.1 p.2 hp, _, X.cell p.1 p.2 (hlk _ p hp)⟩) X.apart
  have hL : B' s.heap.objs.size = none := by
    cases e : B' s.heap.objs.size with
    | none => rfl
    | some ob =>
      rcases s4 s.heap.objs.size (by rw [e]; simp) with h | ⟨p, hp, e2⟩
      · exact absurd (new _ (Nat.le_refl _)).1 h
      · have := X.above p.1 p.2 hp
        rw [e2] at this
        exact absurd this (Nat.lt_irrefl _)
  have S4 := s3.claim hL (new _ (Nat.le_refl _)).2 ho1 hp1
  exact wpAny_mono (h _ s.heap.objs.size _ code s₁ B' O.deeper s1 rfl (fun y c hy => by
    have hy' : (y, c) ∈ cellsFrom (s.heap.objs.size + 1) (dN n).scope.names [] := by
      have : ∀ (l : List (Str × Addr)), l.lookup y = some c → (y, c) ∈ l := by
        intro l
        induction l with
        | nil => intro h; cases h
        | cons p l ih =>
          intro h
          rw [List.lookup_cons] at h
          split at h
          · next e => cases h; have := beq_iff_eq.mp e; subst this; exact .head _
          · exact .tail _ (ih h)
      exact this _ hy
    exact s2 (y, c) hy' _ (X.cell y c hy)) S4) (fun _ _ x => x) fun _ _ x => x.elim
end
section
variable {K : Wk} {A : Around} {E : Value → Shared → Prop} {z : Shared} {B : View} {cs cs' : List Cell} {c : Cell} {s : Shared} {value slice : Expr} {x : Str} {t : Tok} {Q : Value → Shared → Prop} {a : Addr} {vs : List Value}
theorem r_slice_str {j : Int} {uj : Tok} (S : St z B cs s) (hz : x.length ≤ 1000) (h : ∀ t' s', St z B cs s' → Q (.str (Txt.slice x none (some j)) t') s')
    (hs : subscripted slice false (.str x t) (.ref s.heap.objs.size) = operate [.ref s.heap.objs.size, .str x t] (getItem (.str x t) (.ref s.heap.objs.size)) := by with_unfolding_all rfl)
    (ht : ∀ r, letTemporaryGo value (.str x t) r = pure () := by intro _; with_unfolding_all rfl) :
    wpAny K.M A (subscriptTail value slice (.str x t) (.ref s.heap.objs.size)) Q E { s with heap := s.heap.push { cls := .type "slice", data := .fields #[.none, .int j uj, .none] } } :=
  tail_of_ItemOn (SBH.sliceItem_ns (P := fun hp => St z B cs { s with heap := hp }) (fun hp ob S => S.step (t := s.toks) fun _ _ e => Heap.get?_push_of_some ob e) S (fun h' t' k S' => h t' _ (S'.toks k)) (sz_fit hz)) hs ht
theorem r_slice_ls {j : Nat} {uj : Tok} (S : St z B (c :: cs) s) (y : In s a (LsO vs)) (hz : vs.length ≤ 1000) (h : ∀ d s', St z B (c :: (d, LsO (vs.take j)) :: cs) s' → Q (.ref d) s')
    (hs : subscripted slice false (.ref a) (.ref s.heap.objs.size) = operate [.ref s.heap.objs.size, .ref a] (getItem (.ref a) (.ref s.heap.objs.size)) := by with_unfolding_all rfl) :
    wpAny K.M A (subscriptTail value slice (.ref a) (.ref s.heap.objs.size)) Q E { s with heap := s.heap.push { cls := .type "slice", data := .fields #[.none, .int (j : Int) uj, .none] } } := by
  have hl := y.list
  have S1 := S.step (t := s.toks) (h' := s.heap.push { cls := .type "slice", data := .fields #[.none, .int (j : Int) uj, .none] }) fun b o e => Heap.get?_push_of_some _ e
  refine tail_any (Heap.IsList.typeIs (s := { s with heap := s.heap.push { cls := .type "slice", data := .fields #[.none, .int (j : Int) uj, .none] } }) (hl.push _)) list_getitem_lookup
    (wpAny_getItem_list_slice (hl.push _) (Heap.IsSliceOf.new ..) .none (.int _ _) .none (by simp) ?_ (by rw [List.size_toArray]; exact sz_fit hz)) hs
  rw [slicePick_upto']
  exact h _ _ (S1.push2 (t := s.toks) rfl ⟨0, by simp⟩)
end

/-! ## A statement's post, held -/
section
variable {M : Model} {A : Around} {E : Value → Shared → Prop} {s : Shared} {env : Env}
structure Held (M : Model) (A : Around) (rest : List Stmt) (env : Env) (Q : Flow → Shared → Prop) (E : Value → Shared → Prop) (Q' : Flow → Shared → Prop) : Prop where
  next : ∀ {s}, wpAny M A (execs rest env) Q E s → Q' .next s
  ret : ∀ {v s}, Q (.ret v) s → Q' (.ret v) s
  brk : ∀ {s}, Q .brk s → Q' .brk s
  cont : ∀ {s}, Q .cont s → Q' .cont s
theorem r_hold {st rest} {Q : Flow → Shared → Prop}
    (h : ∀ Q', Held M A rest env Q E Q' → wpAny M A (exec st env) Q' E s) : wpAny M A (execs (st :: rest) env) Q E s :=
  r_cons (h _ ⟨fun x => x, fun x => x, fun x => x, fun x => x⟩)
theorem Held.nil {Q Q' : Flow → Shared → Prop} (H : Held M A [] env Q E Q') {s} (h : Q .next s) : Q' .next s := H.next (wpAny_execs_nil h)
theorem Turn.ret {z : Shared} {B : View} {L I : Addr} {P : Obj → Prop} {Inv : View → (Str → Option Value) → List Cell → Prop} {Q : Flow → Shared → Prop} {v s} (h : Q (.ret v) s) : Turn z B L I P Inv Q (.ret v) s := h
theorem TurnW.ret {z : Shared} {L : Addr} {Inv : LInv} {n : Nat} {Q : Flow → Shared → Prop} {v s} (h : Q (.ret v) s) : TurnW z L Inv n Q (.ret v) s := h
end
noncomputable def LiO (vs : List Value) : Obj → Prop := fun o => o.cls = .type "list" ∧ ∃ n, o.data = .seq vs.toArray n
noncomputable def LawGoes : Prop := ∀ {K : Wk} {A : Around} {E : Value → Shared → Prop} {z : Shared} {B : View} {cs : List Cell} {s : Shared} {Q : Value → Shared → Prop} {sl : Addr} {svs : List Value} {ns : List Int} (_ : St z B cs s) (_ : Lib K B) (_ : Ok 40 300 A) (_ : Has B sl (LiO svs)) (_ : IntsAre svs ns) (_ : svs.length ≤ 63)
    (_ : ∀ s', St z B cs s' → Q (.bool true) s'), wpAny K.M A (call (.ref (fa K "law")) [.ref sl]) Q E s
theorem post_true (xs : WData) : PySem.Challenge.rw_ok0016_01.row.claim.post [xs] (.bool true) [xs] = true := by kernel_rfl
set_option maxRecDepth 100000 in
set_option maxHeartbeats 8000000 in
theorem said0 : PySem.Challenge.rw_ok0016_01.wellSaid = true := by
  unfold OpenLaw.wellSaid OpenRow.wellSaid OpenRow.partSaid looksOpen
  repeat' with_reducible refine look_both ?_ ?_
  all_goals decide +kernel
set_option maxRecDepth 100000 in
set_option maxHeartbeats 8000000 in
theorem top_of (c_law : LawGoes) : PySem.Challenge.rw_ok0016_01.Holds := by
  refine holds_law said0 fun said => ?_
  refine holds_open (q := q) (loose := loose) (Xt := fun s => xlAt q [] s && recOk [] s) (XP := XL q []) (Yf := Hook.obs Hook.none) (Ya := Hook.val Hook.none) (YP := Hook.says Hook.none) (N := 4226) left (Hook.of Hook.none) (Hook.keeps Hook.none) (fun s e => xl_of s (Bool.and_eq_true_iff.mp e).1) XL.keeps (by rfl) (by rfl) (by rfl) (fun s e => recFacts_of (Bool.and_eq_true_iff.mp e).2) (by rfl) said (by decide +kernel) ⟨rfl, rfl, rfl, rfl, rfl, by decide +kernel⟩ ?hw ?hc
  case hw => w_witness2
  intro w s₀ s₁ mg mb G Y fa' o pm cd doc dV kV ho hd hcd hD hmg hg args vals as hpre hlay hrd hwl hlo
  refine Ground.open G ?_
  intro T B D TE TW
  wrow_args hpre hlay hrd hwl hlo
  have hI := ‹IntsAre _ _›
  have hl := ‹Heap.IsList _ _ _›
  have hfa : fa ⟨w, ExcName.means s₀.heap, mg, mb⟩ "law" = fa' := by
    have hmg' : mg ("law" : Str) = some (.ref fa') := hmg
    unfold fa
    show (match mg ("law" : Str) with | some (.ref a) => a | _ => 0) = fa'
    rw [hmg']
  have S : St s₁ (fun a => s₁.heap.get? a) [] s₁ := ⟨rfl, rfl, rfl, fun a o e => e, (fun c hc => nomatch hc), List.nodup_nil, (fun c hc => nomatch hc)⟩
  have W : Lib ⟨w, ExcName.means s₀.heap, mg, mb⟩ (fun a => s₁.heap.get? a) := fun h k => ⟨T.keeps k, TE.keeps k⟩
  have O : Ok 40 300 callerA := ⟨rfl, by decide, by decide⟩
  obtain ⟨ol, e1, e2, n, e3⟩ := id hl
  have hlen := hI.length
  rw [← hfa]
  refine c_law S W O ⟨ol, e1, e2, n, e3⟩ hI (by omega) fun s' S' => ?_
  refine ⟨.inl ⟨.bool true, .bool true, [], rfl, fun cls => ?_, .bool true, ?_, ?_⟩, OldK.of_keep S'.base, S'.os, ?_⟩
  · rfl
  · exact post_true _
  · intro h; exact ⟨List.nodup_nil, fun a ha => nomatch ha⟩
  · exact AllBare.of_eq (S'.gens.trans hg)
local macro_rules | `(tactic| wtm_at "br") => `(tactic| first
  | refine Br.tt (by decide) ?_
  | refine Br.ff (by decide) ?_)
local macro_rules | `(tactic| wtm_at "lk") => `(tactic| first | with_reducible exact look_self | assumption | (with_reducible refine look_ne (by decide) ?_; wtm_at "lk") | rfl)
local macro_rules | `(tactic| wtm_at "up") => `(tactic| first
  | assumption
  | (guard_target = Has _ _ _; with_reducible exact Has.up (by assumption) (by wtm_at "up"))
  | (guard_target = Lib _ _; with_reducible exact Lib.up (by assumption) (by wtm_at "up"))
  | (guard_target = Inst _ _ _ _; with_reducible exact Inst.up (by assumption) (by wtm_at "up"))
  | (guard_target = TmAt _ _ _; with_reducible exact TmAt.mono (by assumption) (by wtm_at "up"))
  | (guard_target = TmsAt _ _ _; with_reducible exact TmsAt.mono (by assumption) (by wtm_at "up"))
  | (guard_target = GlAt _ _ _; with_reducible exact GlAt.mono (by assumption) (by wtm_at "up"))
  | (guard_target = MethAt _ _ _ _; with_reducible exact MethAt.up (by assumption) (by wtm_at "up")))
local macro_rules | `(tactic| wtm_at "sl") => `(tactic| first | exact List.Sublist.refl _ | (refine List.Sublist.cons_cons _ ?_; wtm_at "sl") | (refine List.Sublist.cons _ ?_; wtm_at "sl"))
local macro_rules | `(tactic| wtm_at "sub") => `(tactic| first | exact Sub.refl _ | assumption | exact Sub.up (by assumption) (by wtm_at "sub"))
local macro_rules | `(tactic| wtm_at "at") => `(tactic| first | exact At.here | (apply At.there; wtm_at "at"))
local macro_rules | `(tactic| wtm_at "wi") => `(tactic| first | assumption | exact Within.none' | exact Within.upd' (by wtm_at "wi") (by rfl))
local macro_rules | `(tactic| wtm_at "mem") => `(tactic| first | exact .head _ | exact List.Mem.tail _ (by assumption) | (refine List.Mem.tail _ ?_; wtm_at "mem"))
local macro_rules | `(tactic| wtm_at "sz") => `(tactic| first | lia | (simp; done) | (simp; lia))
local macro_rules | `(tactic| wtm_at "ok") => `(tactic| first | assumption | exact Ok.le (by assumption) (by decide) (by decide))
local macro_rules | `(tactic| wtm_at "in") => `(tactic| first | exact St.inB (by assumption) (by wtm_at "up") | exact St.inC (by assumption) (by wtm_at "mem"))
local macro_rules | `(tactic| wtm_at "boot") => `(tactic| with_reducible first | exact boot_len | exact boot_range | exact boot_reversed | exact boot_sorted | exact boot_list | exact boot_tuple | exact boot_min | exact boot_max)
local macro_rules | `(tactic| wtm_at "ev:callWith") => `(tactic| first
  | with_reducible refine PyProof.Rows.callWith_method0 ?_
  | (guard_target = wpAny _ _ (callWith _ (Value.builtin _) [] _ _) _ _ _; refine PyProof.Rows.callWith_builtin1 ?_)
  | (guard_target = wpAny _ _ (callWith _ (Value.builtin _) _ _ _) _ _ _; refine PyProof.Rows.callWith_method1 ?_)
  | (guard_target = wpAny _ _ (callWith _ (Value.type _) _ _ _) _ _ _; refine PyProof.Rows.callWith_type1 ?_)
  | (guard_target = wpAny _ _ (callWith _ (Value.ref _) _ (backTo _ (starEach [] _)) _) _ _ _; first | refine r_cwC0 (St.isCl (by assumption) (by wtm_at "up") (by rfl)) ?_ | refine r_cw0 (MethAt.isFn (by assumption) (by wtm_at "up")) ?_)
  | (guard_target = wpAny _ _ (callWith _ (Value.ref (fa _ (Str.ofString "VarInfo"))) _ _ _) _ _ _; refine r_cwC ?_)
  | (guard_target = wpAny _ _ (callWith _ (Value.ref (fa _ (Str.ofString "ClausePlan"))) _ _ _) _ _ _; refine r_cwC ?_)
  | (guard_target = wpAny _ _ (callWith _ (Value.ref (fa _ (Str.ofString "KernelClause"))) _ _ _) _ _ _; refine r_cwC ?_)
  | refine r_cw ?_)
local macro_rules | `(tactic| wtm_at "ev:name") => `(tactic| first
  | refine e_local (by rfl) (by rfl) (by assumption) (by wtm_at "lk") ?_
  | refine e_cellv (by rfl) (by rfl) (by assumption) (by rfl) (by wtm_at "up") ?_
  | refine e_bi (by rfl) (by rfl) (by rfl) (by rfl) (by assumption) (by wtm_at "up") (by rfl) (by wtm_at "boot") ?_
  | refine e_fn (by rfl) (by rfl) (by rfl) (by assumption) (by wtm_at "up") (by rfl) ?_
  | refine e_cl (by rfl) (by rfl) (by rfl) (by assumption) (by wtm_at "up") (by rfl) ?_)
local macro_rules | `(tactic| wtm_at "ev:eval") => `(tactic| first
  | (guard_target = wpAny _ _ (eval (Expr.Name _ _) _) _ _ _; wtm_at "ev:name")
  | (guard_target = wpAny _ _ (eval (Expr.Attribute (Expr.Name _ _) _ _) _) _ _ _; refine Attribute_Name_ ?_)
  | (guard_target = wpAny _ _ (eval (Expr.Attribute _ _ _) _) _ _ _; refine Attribute_any_ ?_)
  | with_reducible refine Subscript_ ?_
  | (with_reducible refine r_int (by assumption) ?_; intro _ _ _)
  | (guard_target = wpAny _ _ (eval (Expr.Call (Expr.Attribute _ _ _) _ _ _) _) _ _ _; refine MethodCall_ ?_)
  | (guard_target = wpAny _ _ (eval (Expr.Call _ _ _ _) _) _ _ _; refine Call_ ?_)
  | (guard_target = wpAny _ _ (eval (Expr.Compare _ _ _ _) _) _ _ _; refine wpAny_Compare1 ?_)
  | (with_reducible refine r_str (by assumption) ?_; intro _ _ _)
  | with_reducible refine Constant_bool ?_
  | with_reducible refine wpAny_BinOp ?_
  | with_reducible refine UnaryOp_ ?_
  | with_reducible refine r_ifexp ?_
  | with_reducible refine PyProof.Rows.Tuple_ ?_
  | with_reducible refine PyProof.Rows.List_ ?_
  | with_reducible refine r_and ?_
  | with_reducible refine r_or ?_
  | with_reducible refine BoolOp_one ?_
  | with_reducible refine wpAny_Slice ?_
  | (guard_target = wpAny _ _ (eval (Expr.Dict _ _ _) _) _ _ _; refine r_dict0 (by assumption) (by wtm_at "up") ?_; intro _ _ _ _))
local macro_rules | `(tactic| wtm_at "ev:setAttr") => `(tactic| first
  | refine r_set17 (by assumption) (by wtm_at "up") (by wtm_at "up") (by wtm_at "at") (by rfl) (by wtm_at "wi") ?_
  | refine r_set18 (by assumption) (by wtm_at "up") (by wtm_at "up") (by wtm_at "at") (by rfl) (by wtm_at "wi") ?_
  | refine r_set20 (by assumption) (by wtm_at "up") (by wtm_at "up") (by wtm_at "at") (by rfl) (by wtm_at "wi") ?_
  | refine r_set2 (by assumption) (by wtm_at "up") (by wtm_at "up") (by wtm_at "at") (by rfl) (by wtm_at "wi") ?_)
local macro_rules | `(tactic| wtm_at "ev:getAttr") => `(tactic| first
  | refine r_get2 (by assumption) (by wtm_at "up") (by wtm_at "up") (by wtm_at "in") (by wtm_at "lk") (by rfl) (by rfl) ?_
  | refine r_get17 (by assumption) (by wtm_at "up") (by wtm_at "up") (by wtm_at "in") (by wtm_at "lk") (by rfl) (by rfl) ?_
  | refine r_get18 (by assumption) (by wtm_at "up") (by wtm_at "up") (by wtm_at "in") (by wtm_at "lk") (by rfl) (by rfl) ?_
  | refine r_get20 (by assumption) (by wtm_at "up") (by wtm_at "up") (by wtm_at "in") (by wtm_at "lk") (by rfl) (by rfl) ?_)
local macro_rules | `(tactic| wtm_at "ev:exec") => `(tactic| first
  | (guard_target = wpAny _ _ (exec (Stmt.Assign [Expr.Name _ _] _ _) _) _ _ _; refine wpAny_Assign_Name ?_)
  | (guard_target = wpAny _ _ (exec (Stmt.Expr _ _) _) _ _ _; refine wpAny_Expr_any ?_)
  | with_reducible refine wpAny_Return_some ?_
  | with_reducible refine wpAny_AugAssign_Name ?_
  | (guard_target = wpAny _ _ (exec (Stmt.Assign [Expr.Tuple _ _ _] _ _) _) _ _ _; refine Assign_Tuple ?_)
  | (guard_target = wpAny _ _ (exec (Stmt.AugAssign (Expr.Subscript _ _ _) _ _ _) _) _ _ _; refine wpAny_AugAssign_SubscriptAny ?_)
  | with_reducible refine wpAny_AugAssign_AttributeAny ?_
  | (guard_target = wpAny _ _ (exec (Stmt.For _ _ _ _ _) _) _ _ _; refine r_for ?_)
  | (guard_target = wpAny _ _ (exec (Stmt.Assign [Expr.Subscript _ _ _] _ _) _) _ _ _; refine wpAny_Assign_Subscript ?_ (by with_unfolding_all rfl))
  | (guard_target = wpAny _ _ (exec (Stmt.Assign [Expr.Attribute _ _ _] _ _) _) _ _ _; refine plainObj_wpAny_Assign_Attribute ?_ (by with_unfolding_all rfl)))
local macro_rules | `(tactic| wtm_at "ev:getMethod") => `(tactic| first
  | (guard_target = wpAny _ _ (getMethod _ (Str.ofString "append") _) _ _ _; refine r_meth_list (by wtm_at "in") PySem.F.slot_list_append PySem.F.type_list_append ?_)
  | (guard_target = wpAny _ _ (getMethod _ (Str.ofString "extend") _) _ _ _; refine r_meth_list (by wtm_at "in") PySem.F.slot_list_extend PySem.F.type_list_extend ?_)
  | (guard_target = wpAny _ _ (getMethod _ (Str.ofString "insert") _) _ _ _; refine r_meth_list (by wtm_at "in") PySem.F.slot_list_insert PySem.F.type_list_insert ?_)
  | (guard_target = wpAny _ _ (getMethod _ (Str.ofString "get") _) _ _ _; refine r_meth_dict (by wtm_at "in") PySem.F.slot_dict_get PySem.F.type_dict_get ?_)
  | (guard_target = wpAny _ _ (getMethod _ (Str.ofString "setdefault") _) _ _ _; refine r_meth_dict (by wtm_at "in") PySem.F.slot_dict_setdefault PySem.F.type_dict_setdefault ?_)
  | (guard_target = wpAny _ _ (getMethod _ (Str.ofString "pop") _) _ _ _; first | refine r_meth_dict (by wtm_at "in") PySem.F.slot_dict_pop PySem.F.type_dict_pop ?_ | refine r_meth_list (by wtm_at "in") PySem.F.slot_list_pop PySem.F.type_list_pop ?_))
local macro_rules | `(tactic| wtm_at "ev:call") => `(tactic| first
  | (guard_target = wpAny _ _ (call (Value.type "reversed") [Value.ref _]) _ _ _; first | refine r_reversed_ls (by assumption) (by wtm_at "up") ?_ | refine r_reversed (by assumption) (by wtm_at "up") (by wtm_at "sz") ?_)
  | (guard_target = wpAny _ _ (call (Value.type "range") [Value.int _ _]) _ _ _; refine r_range1 (by assumption) ?_)
  | (guard_target = wpAny _ _ (call (Value.builtin "len") [Value.ref _]) _ _ _; first
      | refine r_len_ls (by assumption) (by wtm_at "in") (by wtm_at "sz") ?_
      | refine r_len_tp (by assumption) (by wtm_at "in") (by wtm_at "sz") ?_))
local macro_rules | `(tactic| wtm_at "ev:pyIter") => `(tactic| first
  | refine r_iter_range0 (by assumption) (Ok.handled (by assumption)) (by wtm_at "sz") ?_
  | refine r_iter_rv (by assumption) ?_
  | refine r_iter_tup (by assumption) (Ok.handled (by assumption)) (by wtm_at "up") ?_
  | refine r_iter_ls (by assumption) (Ok.handled (by assumption)) (by wtm_at "up") ?_
  | refine r_iter_dc (by assumption) (Ok.handled (by assumption)) (by wtm_at "up") (by assumption) ?_)
local macro_rules | `(tactic| wtm_at "ev:isTrue") => `(tactic| first
  | (guard_target = wpAny _ _ (isTrue (Expr.Compare _ _ _ _) _ _) _ _ _; refine wpAny_isTrue_Compare1 ?_)
  | with_reducible refine r_tor ?_
  | with_reducible refine isTrue_or_nil ?_
  | with_reducible refine r_tand ?_
  | with_reducible refine isTrue_and_nil ?_
  | with_reducible refine isTrue_not ?_
  | refine isTrue_plain ?_)
local macro_rules | `(tactic| wtm_at "ev:compareOp") => `(tactic| first
  | with_reducible refine PyProof.Rows.eq_str ?_
  | with_reducible refine PyProof.Rows.ne_str ?_
  | with_reducible refine PyProof.Rows.eq_int ?_
  | with_reducible refine PyProof.Rows.ne_int ?_
  | with_reducible refine PyProof.Rows.lt_int ?_
  | with_reducible refine PyProof.Rows.le_int ?_
  | with_reducible refine PyProof.Rows.gt_int ?_
  | with_reducible refine PyProof.Rows.ge_int ?_
  | with_reducible refine PyProof.Rows.eq_bool ?_
  | with_reducible refine PyProof.Rows.ne_bool ?_)
local macro_rules | `(tactic| wtm_at "ev:rare") => `(tactic| first
  | (guard_target = wpAny _ _ (unaryOp UnaryOp.Not _) _ _ _; refine PyProof.Rows.not_of ?_)
  | (with_reducible refine r_neg (by assumption) ?_; intro _ _ _)
  | with_reducible refine wpAny_truthy_bool ?_
  | (guard_target = wpAny _ _ (truthy (Value.ref _)) _ _ _; refine r_truthy_ls (by assumption) (by wtm_at "in") (by wtm_at "sz") ?_; intro _ _)
  | with_reducible refine evalPart_none_step ?_
  | with_reducible refine evalPart_some_step ?_
  | (guard_target = wpAny _ _ (loadName _ _) _ _ _; refine e_loadName (by rfl) (by rfl) (by assumption) (by wtm_at "lk") ?_)
  | (guard_target = wpAny _ _ (newTuple _) _ _ _; refine r_newTuple (by assumption) (by simp) ?_; intro _ _ _ _ _ _)
  | (guard_target = wpAny _ _ (newList _) _ _ _; refine r_newList (by assumption) (by simp) ?_; intro _ _ _)
  | (with_reducible refine r_iaddi (by assumption) ?_; intro _ _ _)
  | (with_reducible refine r_isubi (by assumption) ?_; intro _ _ _)
  | (guard_target = wpAny _ _ (assignInOrder _ (_ :: _)) _ _ _; refine assignInOrder_cons ?_; try dsimp only)
  | (guard_target = wpAny _ _ (assignInOrder _ []) _ _ _; refine assignInOrder_nil ?_)
  | (guard_target = IsFn _ _ ∧ _; first | refine ⟨St.isFn (by assumption) (by wtm_at "up") (by rfl), ?_⟩ | refine ⟨MethAt.isFn (by assumption) (by wtm_at "up"), ?_⟩)
  | (guard_target = IsCl _ _ ∧ _; refine ⟨St.isCl (by assumption) (by wtm_at "up") (by rfl), ?_⟩)
  | with_reducible refine Held.nil (by assumption) ?_
  | with_reducible refine Held.next (by assumption) ?_
  | with_reducible refine Held.ret (by assumption) ?_
  | with_reducible refine Turn.ret ?_
  | with_reducible refine TurnW.ret ?_
  | wtm_at "br")
local macro_rules | `(tactic| wtm_at "ev:oper") => `(tactic| first
  | (with_reducible refine r_addi (by assumption) ?_; intro _ _ _)
  | (with_reducible refine r_subi (by assumption) ?_; intro _ _ _)
  | (guard_target = wpAny _ _ (binaryOp Operator.Add (Value.str _ _) (Value.str _ _)) _ _ _; refine r_addstr (by assumption) (by first | assumption | decide) ?_; intro _ _ _))
local macro_rules | `(tactic| wtm_at "ev") => `(tactic| first
  | (guard_target = wpAny _ _ (eval _ _) _ _ _; wtm_at "ev:eval")
  | (guard_target = wpAny _ _ (exec _ _) _ _ _; wtm_at "ev:exec")
  | with_reducible refine wpAny_execs_nil ?_
  | (guard_target = wpAny _ _ (execs _ _) _ _ _; refine r_hold ?_; intro _ _)
  | (guard_target = wpAny _ _ (storeName _ _ _) _ _ _; refine e_store (by rfl) (by rfl) (by assumption) ?_; intro _ _)
  | (guard_target = wpAny _ _ (subscriptTail _ _ (Value.ref _) (Value.int _ _)) _ _ _; refine r_tup (by assumption) (by wtm_at "up") rfl rfl ?_)
  | with_reducible refine spliced_none ?_
  | (guard_target = wpAny _ _ (spliced _) _ _ _; refine spliced_more ?_)
  | (guard_target = wpAny _ _ (isTrue _ _ _) _ _ _; wtm_at "ev:isTrue")
  | (guard_target = wpAny _ _ (callWith _ _ _ _ _) _ _ _; wtm_at "ev:callWith")
  | (guard_target = wpAny _ _ (setAttr (Value.ref _) _ _) _ _ _; wtm_at "ev:setAttr"; intro _ _)
  | (guard_target = wpAny _ _ (getMethod (Value.ref _) _ _) _ _ _; wtm_at "ev:getMethod")
  | (guard_target = wpAny _ _ (call _ _) _ _ _; wtm_at "ev:call"; intro _ _ _)
  | (guard_target = wpAny _ _ (assign (Expr.Name _ _) _ _) _ _ _; refine e_assign (by rfl) (by rfl) (by assumption) ?_; intro _ _)
  | (guard_target = wpAny _ _ (assign (Expr.Tuple _ _ _) _ (Value.ref _)) _ _ _; refine r_unpack (by assumption) (Ok.handled (by assumption)) (by wtm_at "in") (by rfl) (by rfl) ?_; intro _ _)
  | (guard_target = wpAny _ _ (pyIter (Value.ref _)) _ _ _; wtm_at "ev:pyIter")
  | (guard_target = wpAny _ _ (compareOp _ _ _) _ _ _; wtm_at "ev:compareOp")
  | (guard_target = wpAny _ _ (binaryOp _ _ _) _ _ _; wtm_at "ev:oper")
  | (guard_target = wpAny _ _ (getAttr (Value.ref _) _ _) _ _ _; wtm_at "ev:getAttr"; intro _ _)
  | wtm_at "ev:rare")
local macro_rules | `(tactic| wtm_at "evi") => `(tactic| first
  | wtm_at "ev"
  | with_reducible refine r_if ?_)
noncomputable def Gl.special : Gl → Int
  | .level | .mark | .cutto => 6
  | _ => -1
noncomputable def Gl.terms : Gl → List Tm
  | .call ts | .builtin ts => ts
  | .unify t u => [t, u]
  | _ => []
section
variable {K : Wk} {A : Around} {E : Value → Shared → Prop} {z : Shared} {B : View} {cs : List Cell} {s : Shared} {f : Addr} {v : Value} {g : Gl} {Q : Value → Shared → Prop}
set_option maxHeartbeats 4000000 in
theorem c_goal_special (S : St z B cs s) (W : Lib K B) (O : Ok 1 10 A) (hg : GlAt B v g)
    (k : ∀ t s', St z B cs s' → Q (.int g.special t) s') : wpAny K.M A (call (.ref (fa K "goal_special")) [v]) Q E s := by
  refine r_def 4 [("goal", v)] S W (rec_mem (by decide)) rfl O.room (fun _ _ _ => rfl) (locs rfl) (by decide) ?_
  intro L cd s S
  cases hg
  all_goals (repeat (first | wtm_at "evi" | exact k _ _ (St.tail (by assumption))))
theorem TmsAt.nil {B : View} {a : Addr} (h : Has B a (TpO [])) : TmsAt B (.ref a) [] := ⟨a, [], rfl, h, rfl, fun i v t e => by simp at e⟩
theorem TmsAt.two {B : View} {a : Addr} {v w : Value} {t u : Tm} (h : Has B a (TpO [v, w])) (hv : TmAt B v t) (hw : TmAt B w u) : TmsAt B (.ref a) [t, u] := by
  refine ⟨a, _, rfl, h, rfl, fun i x y e1 e2 => ?_⟩
  match i with
  | 0 => cases e1; cases e2; exact hv
  | 1 => cases e1; cases e2; exact hw
  | n + 2 => simp at e1
set_option maxHeartbeats 4000000 in
theorem c_goal_terms (S : St z B cs s) (W : Lib K B) (O : Ok 1 10 A) (hg : GlAt B v g)
    (k : ∀ v' B' s', Sub B B' → TmsAt B' v' g.terms → St z B' cs s' → Q v' s') : wpAny K.M A (call (.ref (fa K "goal_terms")) [v]) Q E s := by
  refine r_def 3 [("goal", v)] S W (rec_mem (by decide)) rfl O.room (fun _ _ _ => rfl) (locs rfl) (by decide) ?_
  intro L cd s S
  cases hg
  all_goals (repeat (first | wtm_at "evi"))
  · exact k _ _ _ (Sub.refl _) (by assumption) (St.tail (by assumption))
  · exact k _ _ _ (Sub.refl _) (by assumption) (St.tail (by assumption))
  · exact k _ _ _ (by assumption) (TmsAt.two (by assumption) (TmAt.mono (by assumption) (by assumption)) (TmAt.mono (by assumption) (by assumption))) (St.tail (by assumption))
  all_goals exact k _ _ _ (by assumption) (TmsAt.nil (by assumption)) (St.tail (by assumption))
end
/-! ## places: ghost and heap -/
noncomputable abbrev Pl := Int × Str
noncomputable abbrev Tbl := List (Int × List Pl)
noncomputable def addP (T : Tbl) (k : Int) (p : Pl) : Tbl := if T.any (fun e => e.1 = k) then T.map (fun e => if e.1 = k then (e.1, e.2 ++ [p]) else e) else T ++ [(k, [p])]
structure PE where
  k : Int
  l : Addr
  vs : List Value
noncomputable def PE.cell (e : PE) : Cell := (e.l, LsO e.vs)
noncomputable def PE.kv (e : PE) : Int × Value := (e.k, .ref e.l)
inductive PlAt (B : View) (v : Value) (p : Pl)  : Prop
  | mk : ∀ a t t', (v = .ref a) → (Has B a (TpO [.int p.1 t, .str p.2 t'])) → PlAt B v p
theorem PlAt.mono {B B' : View} {v : Value} {p : Pl} (h : Sub B B') (x : PlAt B v p) : PlAt B' v p := let ⟨a, t, t', e, r⟩ := x; ⟨a, t, t', e, r.mono h⟩
inductive Rep (B : View) : List PE → Tbl → Prop
  | nil : Rep B [] []
  | cons {e : PE} {ps : List Pl} {es : List PE} {T : Tbl} : All2 (PlAt B) e.vs ps → Rep B es T → Rep B (e :: es) ((e.k, ps) :: T)
theorem Rep.mono {B B' : View} {es : List PE} {T : Tbl} (h : Sub B B') (x : Rep B es T) : Rep B' es T := by
  induction x with
  | nil => exact .nil
  | cons r _ ih => exact .cons (r.imp fun _ _ => PlAt.mono h) ih
theorem Rep.length {B : View} {es : List PE} {T : Tbl} (x : Rep B es T) : es.length = T.length := by
  induction x with
  | nil => rfl
  | cons _ _ ih => simp [ih]
theorem All2.snoc {α β : Type} {R : α → β → Prop} {vs : List α} {ts : List β} {v : α} {t : β} (x : All2 R vs ts) (h : R v t) : All2 R (vs ++ [v]) (ts ++ [t]) := by
  refine ⟨by simp [x.1], fun i a b e1 e2 => ?_⟩
  by_cases hi : i < vs.length
  · rw [List.getElem?_append_left hi] at e1
    rw [List.getElem?_append_left (x.1 ▸ hi)] at e2
    exact x.2 i a b e1 e2
  · by_cases he : i = vs.length
    · subst he
      rw [List.getElem?_append_right (Nat.le_refl _)] at e1
      rw [x.1, List.getElem?_append_right (Nat.le_refl _)] at e2
      simp at e1 e2
      subst e1 e2; exact h
    · rw [List.getElem?_eq_none (by simp; lia)] at e1
      cases e1
theorem All2.nil {α β : Type} {R : α → β → Prop} : All2 R ([] : List α) ([] : List β) := ⟨rfl, fun i a b e => by simp at e⟩
theorem All2.cons {α β : Type} {R : α → β → Prop} {vs : List α} {ts : List β} {v : α} {t : β} (h : R v t) (x : All2 R vs ts) : All2 R (v :: vs) (t :: ts) := by
  refine ⟨by simp [x.1], fun i a b e1 e2 => ?_⟩
  cases i with
  | zero => simp at e1 e2; subst e1 e2; exact h
  | succ i => simp at e1 e2; exact x.2 i a b e1 e2
theorem All2.head {α β : Type} {R : α → β → Prop} {vs : List α} {ts : List β} {v : α} {t : β} (x : All2 R (v :: vs) (t :: ts)) : R v t := x.2 0 v t rfl rfl
theorem All2.tail {α β : Type} {R : α → β → Prop} {vs : List α} {ts : List β} {v : α} {t : β} (x : All2 R (v :: vs) (t :: ts)) : All2 R vs ts := ⟨by have := x.1; simpa using this, fun i a b e1 e2 => x.2 (i + 1) a b (by simpa using e1) (by simpa using e2)⟩

/-- the key is there, or it is not -/
theorem find_key {es : List PE} {k : Int} : (valueAt (es.map PE.kv) k = none ∧ ∀ e ∈ es, e.k ≠ k) ∨ ∃ e1 e e2, es = e1 ++ e :: e2 ∧ e.k = k ∧ (∀ x ∈ e1, x.k ≠ k) ∧ valueAt (es.map PE.kv) k = some (.ref e.l) := by
  induction es with
  | nil => exact .inl ⟨rfl, fun e h => by cases h⟩
  | cons e es ih =>
    by_cases hk : e.k = k
    · exact .inr ⟨[], e, es, rfl, hk, (fun x h => nomatch h), by simp [valueAt, PE.kv, hk]⟩
    · have hv : valueAt ((e :: es).map PE.kv) k = valueAt (es.map PE.kv) k := by simp [valueAt, PE.kv, hk]
      rw [hv]
      rcases ih with ⟨h1, h2⟩ | ⟨e1, x, e2, rfl, h2, h3, h4⟩
      · exact .inl ⟨h1, (fun y hy => by rcases List.mem_cons.mp hy with rfl | hy; exact hk; exact h2 y hy)⟩
      · exact .inr ⟨e :: e1, x, e2, rfl, h2, (fun y hy => by rcases List.mem_cons.mp hy with rfl | hy; exact hk; exact h3 y hy), h4⟩
theorem stored_new {es : List PE} {k : Int} {v : Value} (h : ∀ e ∈ es, e.k ≠ k) : stored (es.map PE.kv) k v = es.map PE.kv ++ [(k, v)] := by
  unfold stored
  rw [if_neg]
  simp only [List.any_map, List.any_eq_true, Function.comp, PE.kv, not_exists, not_and, decide_eq_true_eq]
  exact fun e he q => h e he (of_decide_eq_true q)
/-- the ghost's add, by the split -/
theorem Rep.add {B : View} {es : List PE} {T : Tbl} {k : Int} {p : Pl} {v : Value} {e : PE} : ∀ {e1 e2 : List PE} {T : Tbl}, Rep B (e1 ++ e :: e2) T → e.k = k → (∀ x ∈ e1, x.k ≠ k) → (∀ x ∈ e2, x.k ≠ k) → PlAt B v p →
    Rep B (e1 ++ { e with vs := e.vs ++ [v] } :: e2) (T.map (fun x => if x.1 = k then (x.1, x.2 ++ [p]) else x))
  | [], e2, T, x, hk, _, h2, hp => by
    cases x with
    | cons r rest =>
      simp only [List.map_cons, hk, if_true, List.nil_append]
      refine .cons (r.snoc hp) ?_
      have : ∀ {es : List PE} {T : Tbl}, Rep B es T → (∀ x ∈ es, x.k ≠ k) → T.map (fun x => if x.1 = k then (x.1, x.2 ++ [p]) else x) = T := by
        intro es T r h
        induction r with
        | nil => rfl
        | cons _ _ ih => simp only [List.map_cons]; rw [if_neg (h _ (.head _)), ih fun x hx => h x (.tail _ hx)]
      rw [this rest h2]; exact rest
  | y :: e1, e2, T, x, hk, h1, h2, hp => by
    cases x with
    | cons r rest =>
      simp only [List.map_cons, List.cons_append]
      rw [if_neg (h1 _ (.head _))]
      exact .cons r (Rep.add (es := es) (T := T) rest hk (fun x hx => h1 x (.tail _ hx)) h2 hp)
theorem Rep.any {B : View} {es : List PE} {T : Tbl} {k : Int} (x : Rep B es T) : (T.any fun e => e.1 = k) = es.any fun e => e.k = k := by
  induction x with
  | nil => rfl
  | cons _ _ ih => simp only [List.any_cons, ih]
theorem Rep.snoc {B : View} {es : List PE} {T : Tbl} {e : PE} {ps : List Pl} (x : Rep B es T) (h : All2 (PlAt B) e.vs ps) : Rep B (es ++ [e]) (T ++ [(e.k, ps)]) := by
  induction x with
  | nil => exact .cons h .nil
  | cons r _ ih => exact .cons r ih
theorem Rep.mem {B : View} {es : List PE} {T : Tbl} {e : PE} (x : Rep B es T) (h : e ∈ es) : ∃ ps, (e.k, ps) ∈ T ∧ All2 (PlAt B) e.vs ps := by
  induction x with
  | nil => cases h
  | cons r _ ih =>
    rcases List.mem_cons.mp h with rfl | h
    · exact ⟨_, .head _, r⟩
    · obtain ⟨ps, a, b⟩ := ih h; exact ⟨ps, .tail _ a, b⟩
theorem At.left {a : Addr} {P P' : Obj → Prop} {r r' : List Cell} (h : At a P P' r r') : ∀ l : List Cell, At a P P' (l ++ r) (l ++ r')
  | [] => h
  | _ :: l => .there (h.left l)
theorem At.pe {e : PE} {vs' : List Value} {e1 e2 : List PE} {R : List Cell} : At e.l (LsO e.vs) (LsO vs') ((e1 ++ e :: e2).map PE.cell ++ R) ((e1 ++ { e with vs := vs' } :: e2).map PE.cell ++ R) := by
  simp only [List.map_append, List.map_cons, List.append_assoc, List.cons_append]
  exact (At.here).left _
section
variable {K : Wk} {A : Around} {E : Value → Shared → Prop} {z : Shared} {B : View} {R : List Cell} {s : Shared} {L fa d : Addr} {m : Str → Option Value} {cn : Str} {sc : Scope} {cd : Value} {es : List PE} {T : Tbl} {k : Int} {p : Pl} {Q : Value → Shared → Prop}
theorem Rep.kvs_nodup {c : Cell} {cs : List Cell} (S : St z B (c :: (d, DcO K (es.map PE.kv)) :: cs) s) : (es.map (·.k)).Nodup := by
  obtain ⟨o, _, es', ep, _, _, _, _, h⟩ := S.cells _ (.tail _ (.head _))
  rw [List.map_map] at h
  exact h
/-- the cells of a table of places: the dict, then the lists -/
noncomputable abbrev PlC (K : Wk) (d : Addr) (es : List PE) (R : List Cell) : List Cell := (d, DcO K (es.map PE.kv)) :: (es.map PE.cell ++ R)
/-- an open list: what an append to it makes -/
structure OpenP (K : Wk) (B : View) (d : Addr) (R : List Cell) (T : Tbl) (k : Int) (p : Pl) (l : Addr) (vs : List Value) (es1 : List PE) : Prop where
  mem : (l, LsO vs) ∈ PlC K d es1 R
  small : vs.length ≤ 900
  add : ∀ B' v, Sub B B' → PlAt B' v p → ∃ es', Rep B' es' (addP T k p) ∧ At l (LsO vs) (LsO (vs ++ [v])) (PlC K d es1 R) (PlC K d es' R)
theorem mem_of_split {e : PE} {e1 e2 : List PE} : (e.l, LsO e.vs) ∈ PlC K d (e1 ++ e :: e2) R := by
  refine .tail _ (List.mem_append_left _ (List.mem_map.mpr ⟨e, by simp, rfl⟩))
theorem kv_upd {e : PE} {vs' : List Value} {e1 e2 : List PE} : (e1 ++ { e with vs := vs' } :: e2).map PE.kv = (e1 ++ e :: e2).map PE.kv := by simp [PE.kv]
theorem openP_there {e : PE} {e1 e2 : List PE} (r : Rep B (e1 ++ e :: e2) T) (hk : e.k = k) (h1 : ∀ x ∈ e1, x.k ≠ k) (h2 : ∀ x ∈ e2, x.k ≠ k) (hz2 : ∀ x ∈ T, x.2.length ≤ 900) : OpenP K B d R T k p e.l e.vs (e1 ++ e :: e2) where
  mem := mem_of_split
  small := by
    obtain ⟨ps, a, b⟩ := r.mem (e := e) (by simp)
    rw [b.1]; exact hz2 _ a
  add := fun B' v hB hp => by
    refine ⟨e1 ++ { e with vs := e.vs ++ [v] } :: e2, ?_, ?_⟩
    · unfold addP
      rw [if_pos]
      · exact Rep.add (es := []) (T := T) (r.mono hB) hk h1 h2 hp
      · rw [r.any]; simp [hk]
    · show At _ _ _ ((d, DcO K ((e1 ++ e :: e2).map PE.kv)) :: _) ((d, DcO K ((e1 ++ { e with vs := e.vs ++ [v] } :: e2).map PE.kv)) :: _)
      have e3 : (e1 ++ { e with vs := e.vs ++ [v] } :: e2).map PE.kv = (e1 ++ e :: e2).map PE.kv := kv_upd
      rw [e3]
      exact .there At.pe
theorem openP_new {l : Addr} (r : Rep B es T) (h : ∀ e ∈ es, e.k ≠ k) : OpenP K B d R T k p l [] (es ++ [⟨k, l, []⟩]) where
  mem := mem_of_split (e := ⟨k, l, []⟩) (e2 := [])
  small := by simp
  add := fun B' v hB hp => by
    refine ⟨es ++ [⟨k, l, [v]⟩], ?_, ?_⟩
    · unfold addP
      rw [if_neg]
      · exact (r.mono hB).snoc (All2.cons hp .nil)
      · rw [r.any]; simpa using h
    · have := At.pe (e := ⟨k, l, []⟩) (vs' := [v]) (e1 := es) (e2 := []) (R := R)
      show At _ _ _ ((d, DcO K ((es ++ [(⟨k, l, []⟩ : PE)]).map PE.kv)) :: _) ((d, DcO K ((es ++ [(⟨k, l, [v]⟩ : PE)]).map PE.kv)) :: _)
      have e : (es ++ [(⟨k, l, [v]⟩ : PE)]).map PE.kv = (es ++ [(⟨k, l, []⟩ : PE)]).map PE.kv := by simp [PE.kv]
      rw [e]
      exact .there this
theorem r_setdefP {n : Addr} {t : Tok} {c : Cell} (S : St z B (c :: (n, LsO []) :: PlC K d es R) s) (r : Rep B es T) (lo : (d == sysModules) = false) (hz : T.length ≤ 900) (hz2 : ∀ x ∈ T, x.2.length ≤ 900)
    (h : ∀ l vs es1 s', OpenP K B d R T k p l vs es1 → St z B (c :: PlC K d es1 R) s' → Q (.ref l) s') : wpAny K.M A (call (.builtin "dict.setdefault") [.ref d, .int k t, .ref n]) Q E s := by
  have hl : (es.map PE.kv).length ≤ 1000 := by rw [List.length_map, r.length]; lia
  rcases find_key (es := es) (k := k) with ⟨hv, hne⟩ | ⟨e1, e, e2, rfl, hk, h1, hv⟩
  · refine r_setdef_new (v := .ref n) S (.there (.there .here)) lo hv hl fun s' S' => ?_
    refine h n [] _ s' (openP_new r hne) ?_
    rw [stored_new hne] at S'
    refine S'.perm ?_
    refine .cons _ ?_
    have e : (es ++ [(⟨k, n, []⟩ : PE)]).map PE.kv = es.map PE.kv ++ [(k, .ref n)] := by simp [PE.kv]
    show ((n, LsO []) :: (d, DcO K (es.map PE.kv ++ [(k, .ref n)])) :: (es.map PE.cell ++ R)).Perm ((d, DcO K ((es ++ [(⟨k, n, []⟩ : PE)]).map PE.kv)) :: ((es ++ [(⟨k, n, []⟩ : PE)]).map PE.cell ++ R))
    rw [e]
    refine (List.Perm.swap _ _ _).trans (.cons _ ?_)
    simp only [List.map_append, List.map_cons, List.map_nil, List.append_assoc, List.singleton_append]
    exact (List.perm_middle (a := (PE.cell ⟨k, n, []⟩)) (l₁ := es.map PE.cell) (l₂ := R)).symm
  · have hnd := Rep.kvs_nodup (c := c) (cs := ((e1 ++ e :: e2).map PE.cell ++ R)) (S.drop (.cons_cons _ (List.sublist_cons_self _ _)))
    have h2 : ∀ x ∈ e2, x.k ≠ k := by
      intro x hx q
      rw [List.map_append, List.map_cons, List.nodup_append] at hnd
      have := (List.nodup_cons.mp hnd.2.1).1
      exact this (by rw [hk, ← q]; exact List.mem_map_of_mem hx)
    refine r_setdef_there (v := .ref n) S (S.inC (.tail _ (.tail _ (.head _)))) lo hv hl fun s' S' => ?_
    exact h _ _ _ s' (openP_there r hk h1 h2 hz2) (S'.drop (.cons_cons _ (List.sublist_cons_self _ _)))
end
/-! ## events -/
mutual
noncomputable def Tm.vars : Tm → List Int
  | .var k => [k]
  | .str ts => Tm.varsL ts
  | _ => []
noncomputable def Tm.varsL : List Tm → List Int
  | [] => []
  | t :: ts => t.vars ++ Tm.varsL ts
end
mutual
noncomputable def Tm.size : Tm → Nat
  | .str ts => 1 + Tm.sizeL ts
  | _ => 1
noncomputable def Tm.sizeL : List Tm → Nat
  | [] => 0
  | t :: ts => t.size + Tm.sizeL ts
end
noncomputable abbrev Ev := Int × Pl
noncomputable def wArg (place : Str) : Str := place ++ ("_arg" : Str)
noncomputable def wStr (place : Str) : Str := place ++ ("_struct" : Str)
/-- what an item of the stack is to bring -/
noncomputable def itemEv (at_ : Int) (place : Str) (i : Tm × Str) : List Ev := match i.1 with
  | .var k => [(k, (at_, i.2))]
  | .str ts => (Tm.varsL ts).map fun k => (k, (at_, wStr place))
  | _ => []
noncomputable def rowEv (at_ : Int) (place : Str) (ts : List Tm) : List Ev := ts.flatMap fun t => itemEv at_ place (t, wArg place)
noncomputable def runP (T : Tbl) (evs : List Ev) : Tbl := evs.foldl (fun T e => addP T e.1 e.2) T
theorem runP_append (T : Tbl) (a b : List Ev) : runP T (a ++ b) = runP (runP T a) b := List.foldl_append ..
theorem itemEv_str (at_ : Int) (place : Str) (t : Tm) : itemEv at_ place (t, wStr place) = t.vars.map fun k => (k, (at_, wStr place)) := by
  cases t <;> simp [itemEv, Tm.vars]
theorem items_str (at_ : Int) (place : Str) : ∀ ts : List Tm, (ts.map fun t => (t, wStr place)).flatMap (itemEv at_ place) = (Tm.varsL ts).map fun k => (k, (at_, wStr place))
  | [] => by simp [Tm.varsL]
  | t :: ts => by
    rw [List.map_cons, List.flatMap_cons, items_str at_ place ts, itemEv_str, Tm.varsL, List.map_append]
theorem Tm.size_pos (t : Tm) : 1 ≤ t.size := by cases t <;> simp [Tm.size]
theorem Tm.sizeL_length : ∀ ts : List Tm, ts.length ≤ Tm.sizeL ts
  | [] => by simp [Tm.sizeL]
  | t :: ts => by have := Tm.sizeL_length ts; have := t.size_pos; simp [Tm.sizeL]; lia
theorem Tm.sizeL_append : ∀ a b : List Tm, Tm.sizeL (a ++ b) = Tm.sizeL a + Tm.sizeL b
  | [], b => by simp [Tm.sizeL]
  | t :: a, b => by simp [Tm.sizeL, Tm.sizeL_append a b]; lia
theorem Tm.sizeL_reverse : ∀ a : List Tm, Tm.sizeL a.reverse = Tm.sizeL a
  | [] => by simp
  | t :: a => by simp [Tm.sizeL, Tm.sizeL_append, Tm.sizeL_reverse a]; lia
mutual
theorem Tm.vars_size : ∀ t : Tm, t.vars.length ≤ t.size
  | .var k => by simp [Tm.vars, Tm.size]
  | .str ts => by have := Tm.varsL_size ts; simp [Tm.vars, Tm.size]; lia
  | .atom => by simp [Tm.vars]
  | .num _ => by simp [Tm.vars]
theorem Tm.varsL_size : ∀ ts : List Tm, (Tm.varsL ts).length ≤ Tm.sizeL ts
  | [] => by simp [Tm.varsL]
  | t :: ts => by have := t.vars_size; have := Tm.varsL_size ts; simp [Tm.varsL, Tm.sizeL]; lia
end
/-- the table is as long as its events, and so are its lists -/
structure Sm (T : Tbl) (n : Nat) : Prop where
  len : T.length ≤ n
  each : ∀ x ∈ T, x.2.length ≤ n
theorem Sm.nil (n : Nat) : Sm [] n := ⟨Nat.zero_le _, fun x h => nomatch h⟩
theorem Sm.add {T : Tbl} {n : Nat} (h : Sm T n) (k : Int) (p : Pl) : Sm (addP T k p) (n + 1) := by
  unfold addP
  split
  · refine ⟨by have := h.len; simp; lia, fun x hx => ?_⟩
    obtain ⟨e, he, rfl⟩ := List.mem_map.mp hx
    have := h.each e he
    split <;> simp <;> lia
  · refine ⟨by have := h.len; simp; lia, fun x hx => ?_⟩
    rcases List.mem_append.mp hx with hx | hx
    · have := h.each x hx; lia
    · rw [List.mem_singleton.mp hx]; simp
theorem Sm.run : ∀ {evs : List Ev} {T : Tbl} {n : Nat}, Sm T n → Sm (runP T evs) (n + evs.length)
  | [], T, n, h => h
  | e :: r, T, n, h => by
    have := Sm.run (evs := r) (T := addP T e.1 e.2) (h.add e.1 e.2)
    simp only [List.length_cons]
    rw [show n + (r.length + 1) = n + 1 + r.length from by lia]
    exact this
theorem Sm.le {T : Tbl} {n m : Nat} (h : Sm T n) (hm : n ≤ m) : Sm T m := ⟨by have := h.len; lia, fun x hx => by have := h.each x hx; lia⟩

/-! ## the clause -/
structure Cla where
  args : List Tm
  goals : List Gl
inductive LstAt (B : View) (R : Value → α → Prop) (v : Value) (xs : List α)  : Prop
  | mk : ∀ b vs, (v = .ref b) → (Has B b (LsO vs)) → (All2 R vs xs) → LstAt B R v xs
inductive ClAt (K : Wk) (B : View) (v : Value) (c : Cla) : Prop
  | mk : ∀ x dx m va vg, v = .ref x → Inst B x (Kc K) dx → Has B dx (AtO m) → m "args" = some va → m "goals" = some vg → TmsAt B va c.args → LstAt B (GlAt B) vg c.goals → ClAt K B v c
noncomputable def Cla.specials (c : Cla) : List Ev := c.goals.zipIdx.flatMap fun g => if 0 ≤ g.1.special then [(g.1.special, ((g.2 : Int), ("special" : Str)))] else []
/-- a row of places_of -/
noncomputable abbrev PRow := Int × Str × List Tm
noncomputable def Cla.rows (c : Cla) : List PRow := (-1, ("head" : Str), c.args) :: c.goals.zipIdx.map fun g => ((g.2 : Int), ("goal" : Str), g.1.terms)
noncomputable def Cla.evs (c : Cla) : List Ev := c.specials ++ c.rows.flatMap fun r => rowEv r.1 r.2.1 r.2.2
noncomputable def Cla.places (c : Cla) : Tbl := runP [] c.evs
noncomputable def Cla.size (c : Cla) : Nat := c.goals.length + (c.rows.map fun r => Tm.sizeL r.2.2).sum
inductive RowAt (B : View) (v : Value) (r : PRow)  : Prop
  | mk : ∀ a t t' tv, (v = .ref a) → (Has B a (TpO [.int r.1 t, .str r.2.1 t', tv])) → (TmsAt B tv r.2.2) → RowAt B v r
theorem RowAt.mono {B B' : View} {v : Value} {r : PRow} (h : Sub B B') (x : RowAt B v r) : RowAt B' v r := let ⟨a, t, t', tv, e, p, q⟩ := x; ⟨a, t, t', tv, e, p.mono h, q.mono h⟩
inductive ItAt (B : View) (v : Value) (i : Tm × Str)  : Prop
  | mk : ∀ a t tv, (v = .ref a) → (Has B a (TpO [tv, .str i.2 t])) → (TmAt B tv i.1) → ItAt B v i
theorem ItAt.mono {B B' : View} {v : Value} {r : Tm × Str} (h : Sub B B') (x : ItAt B v r) : ItAt B' v r := let ⟨a, t, tv, e, p, q⟩ := x; ⟨a, t, tv, e, p.mono h, q.mono h⟩
theorem All2.mono {α : Type} {R : View → Value → α → Prop} (hR : ∀ {B B' v t}, Sub B B' → R B v t → R B' v t) {B B' : View} {vs : List Value} {ts : List α} (h : Sub B B') (x : All2 (R B) vs ts) : All2 (R B') vs ts := x.imp fun _ _ => hR h
theorem ClAt.mono {K : Wk} {B B' : View} {v : Value} {c : Cla} (h : Sub B B') (x : ClAt K B v c) : ClAt K B' v c := by
  obtain ⟨x, dx, m, va, vg, e, I, hm, h1, h2, t, b, vs, e2, hb, g⟩ := x
  exact ⟨x, dx, m, va, vg, e, I.mono h, hm.mono h, h1, h2, t.mono h, b, vs, e2, hb.mono h, g.imp fun _ _ => GlAt.mono h⟩
theorem PlC.move {K : Wk} {d : Addr} {es : List PE} {R : List Cell} {c : Cell} : (c :: PlC K d es R).Perm (PlC K d es (c :: R)) :=
  (List.Perm.swap _ _ _).trans (.cons _ (List.perm_middle (a := c) (l₁ := es.map PE.cell) (l₂ := R)).symm)
theorem All2.at {α β : Type} {R : α → β → Prop} {vs : List α} {ts : List β} (x : All2 R vs ts) {i : Nat} {t : β} (hi : ts[i]? = some t) : ∃ v, vs[i]? = some v ∧ R v t := by
  have h1 : i < ts.length := (List.getElem?_eq_some_iff.mp hi).1
  have h2 : i < vs.length := x.1 ▸ h1
  exact ⟨vs[i], List.getElem?_eq_getElem h2, x.2 i _ _ (List.getElem?_eq_getElem h2) hi⟩
theorem PlC.move2 {K : Wk} {d : Addr} {es : List PE} {R : List Cell} {c c' : Cell} : (c :: c' :: PlC K d es R).Perm (PlC K d es (c :: c' :: R)) := (List.Perm.cons _ PlC.move).trans PlC.move

theorem All2.tm {B B' : View} {vs : List Value} {ts : List Tm} (h : Sub B B') (x : All2 (TmAt B) vs ts) : All2 (TmAt B') vs ts := x.imp fun _ _ => TmAt.mono h
theorem All2.gl {B B' : View} {vs : List Value} {ts : List Gl} (h : Sub B B') (x : All2 (GlAt B) vs ts) : All2 (GlAt B') vs ts := x.imp fun _ _ => GlAt.mono h
theorem All2.row {B B' : View} {vs : List Value} {ts : List PRow} (h : Sub B B') (x : All2 (RowAt B) vs ts) : All2 (RowAt B') vs ts := x.imp fun _ _ => RowAt.mono h
theorem All2.item {B B' : View} {vs : List Value} {ts : List (Tm × Str)} (h : Sub B B') (x : All2 (ItAt B) vs ts) : All2 (ItAt B') vs ts := x.imp fun _ _ => ItAt.mono h
theorem All2.pl {B B' : View} {vs : List Value} {ts : List Pl} (h : Sub B B') (x : All2 (PlAt B) vs ts) : All2 (PlAt B') vs ts := x.imp fun _ _ => PlAt.mono h
/-- a frozen table of places -/
inductive PlsAt (K : Wk) (B : View) (d : Addr) (T : Tbl)  : Prop
  | mk : ∀ es : List PE, (Has B d (DcO K (es.map PE.kv))) → ((∀ e ∈ es, Has B e.l (LsO e.vs))) → (Rep B es T) → PlsAt K B d T
theorem PlsAt.mono {K : Wk} {B B' : View} {d : Addr} {T : Tbl} (h : Sub B B') (x : PlsAt K B d T) : PlsAt K B' d T := let ⟨es, a, b, r⟩ := x; ⟨es, a.mono h, fun e he => (b e he).mono h, r.mono h⟩
theorem cells_frz {z : Shared} {s : Shared} {cs : List Cell} : ∀ {l : List Cell} {B : View}, St z B (l ++ cs) s → ∃ B', Sub B B' ∧ (∀ c ∈ l, Has B' c.1 c.2) ∧ St z B' cs s
  | [], B, S => ⟨B, Sub.refl _, (fun _ h => nomatch h), S⟩
  | c :: l, B, S => by
    obtain ⟨B1, h1, p1, S1⟩ := S.frz .here
    obtain ⟨B2, h2, p2, S2⟩ := cells_frz S1
    refine ⟨B2, h1.trans h2, fun x hx => ?_, S2⟩
    rcases List.mem_cons.mp hx with rfl | hx
    · exact p1.mono h2
    · exact p2 x hx
theorem PlC.frz {K : Wk} {z : Shared} {s : Shared} {B : View} {cs : List Cell} {d : Addr} {es : List PE} {T : Tbl} (S : St z B (PlC K d es cs) s) (r : Rep B es T) : ∃ B', Sub B B' ∧ PlsAt K B' d T ∧ St z B' cs s := by
  obtain ⟨B', h, p, S'⟩ := cells_frz (l := (d, DcO K (es.map PE.kv)) :: es.map PE.cell) (by exact S)
  exact ⟨B', h, ⟨es, p _ (.head _), fun e he => p e.cell (.tail _ (List.mem_map_of_mem he)), r.mono h⟩, S'⟩
theorem All2.unsnoc {α β : Type} {R : α → β → Prop} {vs : List α} {v : α} {ts : List β} (x : All2 R (vs ++ [v]) ts) : ∃ us u, ts = us ++ [u] ∧ All2 R vs us ∧ R v u := by
  rcases List.eq_nil_or_concat ts with rfl | ⟨us, u, rfl⟩
  · have := x.1; simp at this
  · have hl : vs.length = us.length := by have := x.1; simpa using this
    refine ⟨us, u, by simp, ⟨hl, fun i a b e1 e2 => ?_⟩, ?_⟩
    · have h1 := (List.getElem?_eq_some_iff.mp e1).1
      exact x.2 i a b (by rw [List.getElem?_append_left h1]; exact e1) (by simp [List.getElem?_append_left (hl ▸ h1 : i < us.length), e2])
    · exact x.2 vs.length v u (by simp) (by simp [hl])
theorem All2.rev {α β : Type} {R : α → β → Prop} {vs : List α} {ts : List β} (x : All2 R vs ts) : All2 R vs.reverse ts.reverse := by
  refine ⟨by simp [x.1], fun i a b e1 e2 => ?_⟩
  have h1 : i < vs.length := by have := (List.getElem?_eq_some_iff.mp e1).1; simpa using this
  rw [List.getElem?_reverse h1] at e1
  rw [List.getElem?_reverse (x.1 ▸ h1), ← x.1] at e2
  exact x.2 _ a b e1 e2
/-! ## the events up to a row -/
noncomputable def evUpTo (c : Cla) (i : Nat) : List Ev := c.specials ++ (c.rows.take i).flatMap fun r => rowEv r.1 r.2.1 r.2.2
theorem take_step {α : Type} {l : List α} {i : Nat} {x : α} (h : l[i]? = some x) : l.take (i + 1) = l.take i ++ [x] := by
  rw [List.take_add_one, h]; rfl
theorem zip_at {α : Type} {l : List α} {i : Nat} {x : α} (h : l[i]? = some x) : l.zipIdx[i]? = some (x, i) := by simp [List.getElem?_zipIdx, h]
theorem ev_step {c : Cla} {i : Nat} {r : PRow} (h : c.rows[i]? = some r) : evUpTo c (i + 1) = evUpTo c i ++ rowEv r.1 r.2.1 r.2.2 := by
  unfold evUpTo; rw [take_step h, List.flatMap_append, List.append_assoc]; simp
theorem evUpTo_all (c : Cla) : evUpTo c c.rows.length = c.evs := by unfold evUpTo Cla.evs; rw [List.take_length]
theorem spec_le (l : List (Gl × Nat)) : ((l.map fun g => (if 0 ≤ g.1.special then [(g.1.special, ((g.2 : Int), ("special" : Str)))] else [] : List Ev).length)).sum ≤ l.length := by
  induction l with
  | nil => simp
  | cons x l ih => simp only [List.map_cons, List.sum_cons, List.length_cons]; split <;> simp at * <;> lia
theorem itemEv_len (a : Int) (p : Str) (i : Tm × Str) : (itemEv a p i).length ≤ i.1.size := by
  obtain ⟨t, w⟩ := i
  cases t with
  | str ts => have := Tm.varsL_size ts; simp [itemEv, Tm.size]; lia
  | _ => simp [itemEv, Tm.size]
theorem rowEv_len (a : Int) (p : Str) : ∀ ts : List Tm, (rowEv a p ts).length ≤ Tm.sizeL ts
  | [] => by simp [rowEv]
  | t :: ts => by
    have h1 := rowEv_len a p ts
    have h2 := itemEv_len a p (t, wArg p)
    unfold rowEv at *
    simp only [List.flatMap_cons, List.length_append, Tm.sizeL] at *
    lia
theorem rows_ev_len : ∀ l : List PRow, (l.flatMap fun r => rowEv r.1 r.2.1 r.2.2).length ≤ (l.map fun r => Tm.sizeL r.2.2).sum
  | [] => by simp
  | r :: l => by
    have h1 := rows_ev_len l
    have h2 := rowEv_len r.1 r.2.1 r.2.2
    simp only [List.flatMap_cons, List.length_append, List.map_cons, List.sum_cons]
    lia
theorem sum_take (l : List Nat) (i : Nat) : (l.take i).sum ≤ l.sum := by
  conv => rhs; rw [← List.take_append_drop i l]
  rw [List.sum_append]; lia
theorem evUpTo_len (c : Cla) (i : Nat) : (evUpTo c i).length ≤ c.size := by
  unfold evUpTo Cla.size Cla.specials
  have h1 := spec_le c.goals.zipIdx
  have h2 := rows_ev_len (c.rows.take i)
  rw [List.map_take] at h2
  have h3 := sum_take (c.rows.map fun r => Tm.sizeL r.2.2) i
  rw [List.length_append, List.length_flatMap]
  rw [List.length_zipIdx] at h1
  lia
theorem row_size {c : Cla} {i : Nat} {r : PRow} (h : c.rows[i]? = some r) : Tm.sizeL r.2.2 ≤ c.size := by
  have hm : Tm.sizeL r.2.2 ∈ c.rows.map fun r => Tm.sizeL r.2.2 := List.mem_map.mpr ⟨r, List.mem_of_getElem? h, rfl⟩
  have : ∀ {l : List Nat} {x : Nat}, x ∈ l → x ≤ l.sum := by
    intro l x hx
    induction l with
    | nil => cases hx
    | cons y l ih => rcases List.mem_cons.mp hx with rfl | hx; simp; have := ih hx; simp; lia
  have := this hm
  unfold Cla.size; lia
noncomputable def meas (items : List (Tm × Str)) : Nat := (items.map fun i => i.1.size).sum
theorem meas_append (a b : List (Tm × Str)) : meas (a ++ b) = meas a + meas b := by simp [meas]
theorem meas_terms (w : Str) : ∀ ts : List Tm, meas (ts.map fun t => (t, w)) = Tm.sizeL ts
  | [] => by simp [meas, Tm.sizeL]
  | t :: ts => by have := meas_terms w ts; simp only [meas, List.map_cons, List.sum_cons, Tm.sizeL] at *; lia
theorem meas_len (items : List (Tm × Str)) : items.length ≤ meas items := by
  induction items with
  | nil => simp
  | cons i l ih => have := i.1.size_pos; simp only [meas, List.map_cons, List.sum_cons, List.length_cons] at *; lia
section
variable {K : Wk} {A : Around} {E : Value → Shared → Prop} {z : Shared} {B : View} {cs : List Cell} {s : Shared} {v : Value} {c : Cla} {Q : Value → Shared → Prop}
noncomputable def specUpTo (c : Cla) (i : Nat) : List Ev := (c.goals.zipIdx.take i).flatMap fun g => if 0 ≤ g.1.special then [(g.1.special, ((g.2 : Int), ("special" : Str)))] else []
noncomputable def rowsUpTo (c : Cla) (i : Nat) : List PRow := (-1, ("head" : Str), c.args) :: (c.goals.zipIdx.take i).map fun g => ((g.2 : Int), ("goal" : Str), g.1.terms)
theorem spec_step {c : Cla} {i : Nat} {g : Gl} (h : c.goals[i]? = some g) : specUpTo c (i + 1) = specUpTo c i ++ (if 0 ≤ g.special then [(g.special, ((i : Int), ("special" : Str)))] else []) := by
  unfold specUpTo; rw [take_step (zip_at h), List.flatMap_append]; simp
theorem rows_step {c : Cla} {i : Nat} {g : Gl} (h : c.goals[i]? = some g) : rowsUpTo c (i + 1) = rowsUpTo c i ++ [((i : Int), ("goal" : Str), g.terms)] := by
  unfold rowsUpTo; rw [take_step (zip_at h), List.map_append]; simp
theorem spec_len (c : Cla) (i : Nat) : (specUpTo c i).length ≤ i := by
  unfold specUpTo
  rw [List.length_flatMap]
  have : ∀ l : List (Gl × Nat), ((l.map fun g => (if 0 ≤ g.1.special then [(g.1.special, ((g.2 : Int), ("special" : Str)))] else [] : List Ev).length)).sum ≤ l.length := by
    intro l
    induction l with
    | nil => simp
    | cons x l ih => simp only [List.map_cons, List.sum_cons, List.length_cons]; split <;> simp at * <;> lia
  have h := this (c.goals.zipIdx.take i); simp only [List.length_take] at h; lia
theorem rows_len (c : Cla) (i : Nat) : (rowsUpTo c i).length ≤ i + 1 := by unfold rowsUpTo; simp; lia
/-- what the first loop keeps -/
inductive PI1 (K : Wk) (c : Cla) (v : Value) (cs : List Cell) (i : Nat) (B' : View) (m' : Str → Option Value) (cs' : List Cell) : Prop
  | mk : ∀ d r es rvs, (m' "kernel" = some v) → (m' "places" = some (.ref d)) → (m' "rows" = some (.ref r)) → ((d == sysModules) = false) → (cs' = (r, LsO rvs) :: PlC K d es cs) → (Rep B' es (runP [] (specUpTo c i))) → (All2 (RowAt B') rvs (rowsUpTo c i)) → PI1 K c v cs i B' m' cs'
theorem specUpTo_all (c : Cla) : specUpTo c c.goals.zipIdx.length = c.specials := by unfold specUpTo Cla.specials; rw [List.take_length]
theorem rowsUpTo_all (c : Cla) : rowsUpTo c c.goals.zipIdx.length = c.rows := by unfold rowsUpTo Cla.rows; rw [List.take_length]
theorem ev_zero (c : Cla) : evUpTo c 0 = c.specials := by simp [evUpTo]
inductive PI2 (K : Wk) (c : Cla) (cs : List Cell) (i : Nat) (B' : View) (m' : Str → Option Value) (cs' : List Cell) : Prop
  | mk : ∀ d es, (m' "places" = some (.ref d)) → ((d == sysModules) = false) → (cs' = PlC K d es cs) → (Rep B' es (runP [] (evUpTo c i))) → PI2 K c cs i B' m' cs'
inductive PI3 (d : Addr) (t t' : Tok) (a : Int) (p : Str) (ts : List Tm) (R : List Cell) (i : Nat) (B' : View) (m' : Str → Option Value) (cs' : List Cell) : Prop
  | mk : ∀ st svs, (m' "places" = some (.ref d)) → (m' "at" = some (.int a t)) → (m' "place" = some (.str p t')) → (m' "stack" = some (.ref st)) → (cs' = (st, LsO svs) :: R) → (All2 (ItAt B') svs ((ts.reverse.take i).map fun x => (x, wArg p))) → PI3 d t t' a p ts R i B' m' cs'
theorem row_word {c : Cla} {i : Nat} {r : PRow} (h : c.rows[i]? = some r) : r.2.1 = ("head" : Str) ∨ r.2.1 = ("goal" : Str) := by
  have := List.mem_of_getElem? h
  unfold Cla.rows at this
  rcases List.mem_cons.mp this with rfl | h
  · exact .inl rfl
  · obtain ⟨g, _, rfl⟩ := List.mem_map.mp h; exact .inr rfl
inductive PI4 (K : Wk) (B₀ : View) (d : Addr) (t t' : Tok) (a : Int) (p : Str) (tgt : List Ev) (I : Addr) (P : Obj → Prop) (cs : List Cell) (n : Nat) (B' : View) (m' : Str → Option Value) (cs' : List Cell) : Prop
  | mk : ∀ st svs items es pre, (Sub B₀ B') → ((d == sysModules) = false) → (m' "places" = some (.ref d)) → (m' "at" = some (.int a t)) → (m' "place" = some (.str p t')) → (m' "stack" = some (.ref st)) → (cs' = (st, LsO svs) :: (I, P) :: PlC K d es cs) → (All2 (ItAt B') svs items) → (Rep B' es (runP [] pre)) → (pre ++ items.reverse.flatMap (itemEv a p) = tgt) → (n = meas items) → (meas items ≤ 800) → PI4 K B₀ d t t' a p tgt I P cs n B' m' cs'
inductive PI5 (d : Addr) (t t' : Tok) (a : Int) (p : Str) (ts : List Tm) (svs : List Value) (items : List (Tm × Str)) (R : List Cell) (i : Nat) (B' : View) (m' : Str → Option Value) (cs' : List Cell) : Prop
  | mk : ∀ st ws, (m' "places" = some (.ref d)) → (m' "at" = some (.int a t)) → (m' "place" = some (.str p t')) → (m' "stack" = some (.ref st)) → (cs' = (st, LsO (svs ++ ws)) :: R) → (All2 (ItAt B') ws ((ts.reverse.take i).map fun x => (x, wStr p))) → PI5 d t t' a p ts svs items R i B' m' cs'
theorem All2.append {α β : Type} {R : α → β → Prop} {vs us : List α} {ts rs : List β} (x : All2 R vs ts) (y : All2 R us rs) : All2 R (vs ++ us) (ts ++ rs) := by
  refine ⟨by simp [x.1, y.1], fun i a b e1 e2 => ?_⟩
  by_cases h : i < vs.length
  · rw [List.getElem?_append_left h] at e1
    rw [List.getElem?_append_left (x.1 ▸ h)] at e2
    exact x.2 i a b e1 e2
  · rw [List.getElem?_append_right (by lia)] at e1
    rw [List.getElem?_append_right (by have := x.1; lia), ← x.1] at e2
    exact y.2 _ a b e1 e2
set_option maxHeartbeats 4000000 in
theorem c_places_of (S : St z B cs s) (W : Lib K B) (O : Ok 3 20 A) (hc : ClAt K B v c) (hz : c.size ≤ 800)
    (k : ∀ d B' s', (d == sysModules) = false → Sub B B' → PlsAt K B' d c.places → St z B' cs s' → Q (.ref d) s') : wpAny K.M A (call (.ref (fa K "places_of")) [v]) Q E s := by
  refine r_fnc 6 [("kernel", v)] S W O (rec_mem (by decide)) rfl (fun _ _ _ => rfl) (locs rfl) (by decide) ?_
  intro A L cd s O S
  obtain ⟨x, dx, m, va, vg, rfl, X, hm, h1, h2, ht, g, gs, rfl, hg, hgs⟩ := hc
  obtain ⟨ta, tvs, rfl, hta, htv⟩ := ht
  have hgl := hgs.1
  have hsz : c.goals.length ≤ 800 := by unfold Cla.size at hz; lia
  repeat (first | wtm_at "ev")
  intro I ItO s' It S'
  refine r_loop It (PI1 K c (.ref x) cs) S' (Sub.refl _) ⟨_, _, [], [_], by wtm_at "lk", by wtm_at "lk", by wtm_at "lk", by assumption, rfl, .nil, ?_⟩ ?_ ?_
  · exact All2.cons ⟨_, _, _, _, rfl, (by assumption), ta, tvs, rfl, (by wtm_at "up"), htv.tm (by assumption)⟩ .nil
  · rintro i B' m' cs' v s hB hi ⟨t, rfl⟩ ⟨d, r, es, rvs, hk, hp, hr, lo, rfl, hrep, hrows⟩ S
    obtain ⟨gl, hgl⟩ : ∃ gl, c.goals[i]? = some gl := ⟨_, List.getElem?_eq_getElem (by lia)⟩
    obtain ⟨gv, hgv, hga⟩ := hgs.at hgl
    have hB' := Sub.trans (by assumption) hB
    repeat (first | wtm_at "ev")
    refine r_item_ls (by wtm_at "in") rfl (by lia) hgv ?_
    repeat (first | wtm_at "ev")
    refine c_goal_special (by assumption) (by wtm_at "up") (by wtm_at "ok") (by wtm_at "up") ?_
    intro t2 s2 S2
    repeat (first | wtm_at "ev")
    refine r_if_join (fun s2 => ∃ B2 m2 es2, St z B2 ((L, Lo m2) :: (I, ItO (i + 1)) :: (r, LsO rvs) :: PlC K d es2 cs) s2 ∧ Sub B' B2 ∧ m2 "kernel" = some (.ref x) ∧ m2 "places" = some (.ref d) ∧ m2 "rows" = some (.ref r) ∧ m2 "at" = some (.int i t) ∧ m2 "goal" = some gv ∧ Rep B2 es2 (runP [] (specUpTo c (i + 1)))) ?_ ?_
    · repeat (first | wtm_at "ev")
      refine Br.split (fun hb => ?_) (fun hb => ?_)
      · have S := St.perm (by assumption) (.cons _ PlC.move2)
        repeat (first | wtm_at "ev")
        refine r_setdefP (p := ((i : Int), ("special" : Str))) (T := runP [] (specUpTo c i)) (by assumption) (by wtm_at "up") (by assumption) ?_ ?_ ?_
        · have := (Sm.run (Sm.nil 0) (evs := specUpTo c i)).len; have := spec_len c i; lia
        · intro y hy; have := (Sm.run (Sm.nil 0) (evs := specUpTo c i)).each y hy; have := spec_len c i; lia
        intro l vs es1 s3 HO S3
        have hmem := HO.mem
        repeat (first | wtm_at "ev")
        obtain ⟨es2, r2, hat⟩ := HO.add _ (.ref _) (by assumption) ⟨_, _, _, rfl, by assumption⟩
        refine r_append (by assumption) (.there hat) ?_ ?_
        · have := HO.small; exact sz_fit (by lia)
        intro s4 S4
        repeat (first | wtm_at "ev")
        refine ⟨rfl, _, _, es2, St.perm (by assumption) (.cons _ PlC.move2.symm), by assumption, by wtm_at "lk", by wtm_at "lk", by wtm_at "lk", by wtm_at "lk", by wtm_at "lk", ?_⟩
        rw [spec_step hgl, runP_append]
        rw [if_pos (of_decide_eq_true hb)]; exact r2
      · repeat (first | wtm_at "ev")
        refine ⟨rfl, _, _, es, by assumption, Sub.refl _, by wtm_at "lk", by wtm_at "lk", by wtm_at "lk", by wtm_at "lk", by wtm_at "lk", ?_⟩
        rw [spec_step hgl, runP_append, if_neg (of_decide_eq_false hb)]; exact hrep
    · rintro s3 ⟨B2, m2, es2, S3, hB2, n1, n2, n3, n4, n5, hr2⟩
      repeat (first | wtm_at "ev")
      refine c_goal_terms (by assumption) (by wtm_at "up") (by wtm_at "ok") (by wtm_at "up") ?_
      intro w B3 s4 hB3 hw S4
      repeat (first | wtm_at "ev")
      refine r_append (by assumption) (.there (.there .here)) ?_ ?_
      · have := hrows.1; have := rows_len c i; exact sz_fit (by lia)
      intro s5 S5
      repeat (first | wtm_at "ev")
      refine Turn.next (by assumption) (Sub.trans hB (Sub.trans hB2 (Sub.trans hB3 (by assumption)))) ⟨d, r, _, _, by wtm_at "lk", by wtm_at "lk", by wtm_at "lk", lo, rfl, Rep.mono (Sub.trans hB3 (by assumption)) hr2, ?_⟩
      rw [rows_step hgl]
      exact (hrows.row (Sub.trans hB2 (Sub.trans hB3 (by assumption)))).snoc ⟨_, _, _, _, rfl, by assumption, hw.mono (by assumption)⟩
  · rintro B' m' cs' s hB ⟨d, r, es, rvs, hk, hp, hr, lo, rfl, hrep, hrows⟩ S
    have hB' := Sub.trans (by assumption) hB
    obtain ⟨B2, hB2, hr0, S⟩ := S.frz (.there .here)
    repeat (first | wtm_at "ev")
    intro I s' It2 S'
    rw [show gs.length = c.goals.zipIdx.length from by simp [hgl], specUpTo_all] at hrep
    rw [show gs.length = c.goals.zipIdx.length from by simp [hgl], rowsUpTo_all] at hrows
    replace hrows := hrows.row hB2
    have hrl := hrows.1
    refine r_loopT It2 (PI2 K c cs) (by assumption) (Sub.refl _) ⟨d, es, by wtm_at "lk", lo, rfl, ?_⟩ ?_ ?_
    · rw [ev_zero]; exact hrep.mono hB2
    · rintro i B3 m' cs' v s hB3 hi hv ⟨d, es, hp, lo, rfl, hrep⟩ S
      obtain ⟨row, hrow⟩ : ∃ row, c.rows[i]? = some row := ⟨_, List.getElem?_eq_getElem (by lia)⟩
      obtain ⟨a, t, t', tv, rfl, ha, htm⟩ := hrows.2 i _ _ hv hrow
      have hrs := row_size hrow
      obtain ⟨ra, rp, rts⟩ := row
      obtain ⟨tb, tvs, rfl, htb, htvs⟩ := htm
      have htl := htvs.1
      have hlen := Tm.sizeL_length rts
      simp only at hrs ha htvs hlen htl
      replace htb := htb.mono hB3
      replace htvs := htvs.tm hB3
      obtain ⟨hl1, hl2⟩ : rp.length + ("_arg" : Str).length ≤ 1000 ∧ rp.length + ("_struct" : Str).length ≤ 1000 := by
        rcases row_word hrow with e | e <;> (simp only at e; subst e; decide)
      repeat (first | wtm_at "ev")
      refine r_loop (iter_rv (B := B3) (Ok.handled (by assumption)) htb (by lia)) (PI3 d t t' ra rp rts ((I, LitO r (i + 1)) :: PlC K d es cs)) (by assumption) (Sub.refl _) ⟨_, [], by wtm_at "lk", by wtm_at "lk", by wtm_at "lk", by wtm_at "lk", rfl, All2.nil⟩ ?_ ?_
      · rintro j B4 m4 cs4 v s4 hB4 hj hv ⟨st, svs, n1, n2, n3, n4, rfl, hsv⟩ S4
        obtain ⟨tm, htm⟩ : ∃ tm, rts.reverse[j]? = some tm := ⟨_, List.getElem?_eq_getElem (by simp; lia)⟩
        have hta := (htvs.rev.2 j _ _ hv htm).mono hB4
        repeat (first | wtm_at "ev")
        refine r_append (by assumption) (.there (.there .here)) ?_ ?_
        · have := hsv.1; simp at this; exact sz_fit (by lia)
        intro s5 S5
        repeat (first | wtm_at "ev")
        refine Turn.next (by assumption) (Sub.trans hB4 (by assumption)) ⟨st, _, by wtm_at "lk", by wtm_at "lk", by wtm_at "lk", by wtm_at "lk", rfl, ?_⟩
        rw [take_step htm, List.map_append]
        exact (hsv.item (by assumption)).snoc ⟨_, _, _, rfl, by assumption, hta.mono (by assumption)⟩
      · rintro B4 m4 cs4 s4 hB4 ⟨st, svs, n1, n2, n3, n4, rfl, hsv⟩ S4
        repeat (first | wtm_at "ev")
        have hml : meas ((rts.reverse.take tvs.length).map fun x => (x, wArg rp)) ≤ 800 := by
          rw [meas_terms, htl, show rts.length = rts.reverse.length from by simp, List.take_length, Tm.sizeL_reverse]; lia
        refine r_while (PI4 K B3 d t t' ra rp (evUpTo c (i + 1)) I (LitO r (i + 1)) cs) _ S4 ⟨st, svs, _, es, _, hB4, lo, n1, n2, n3, n4, rfl, hsv, hrep.mono hB4, ?_, rfl, hml⟩ ?_
        · rw [ev_step hrow, htl, show rts.length = rts.reverse.length from by simp, List.take_length, ← List.map_reverse, List.reverse_reverse]
          simp only [rowEv, List.flatMap_map]
        rintro n B5 m5 cs5 s5 ⟨st, svs, items, es, pre, hB5, lo', n1, n2, n3, n4, rfl, hsv, hrep, htgt, rfl, hml⟩ S5
        have hil := meas_len items
        have hsl := hsv.1
        repeat (first | wtm_at "ev")
        refine Br.split (fun hb => ?_) (fun hb => ?_)
        · rcases List.eq_nil_or_concat svs with rfl | ⟨svs, v, rfl⟩
          · simp at hb
          rw [List.concat_eq_append] at *
          obtain ⟨items, ⟨tm, w⟩, rfl, hsv', hv⟩ := hsv.unsnoc
          repeat (first | wtm_at "ev")
          refine r_pop (by assumption) (.there .here) ?_ ?_
          · rw [List.length_append] at hsl; have := sz_fit (n := svs.length + 1) (by simp at hsl hil; lia); lia
          intro s6 S6
          obtain ⟨a, tw, tv, rfl, ha2, htm⟩ := hv
          repeat (first | wtm_at "ev")
          have hpos := tm.size_pos
          have hm1 : meas [(tm, w)] = tm.size := by simp [meas]
          have hm2 : meas (items ++ [(tm, w)]) = meas items + tm.size := by rw [meas_append, hm1]
          rw [hm2] at hml
          rw [List.reverse_append] at htgt
          simp only [List.reverse_cons, List.reverse_nil, List.nil_append, List.singleton_append, List.flatMap_cons] at htgt
          have hpre : pre.length ≤ 800 := by
            have h1 := evUpTo_len c (i + 1); rw [← htgt] at h1; simp only [List.length_append] at h1; lia
          cases htm with
          | atom hT =>
            repeat (first | wtm_at "evi")
            refine TurnW.next (by assumption) (by lia) ⟨st, _, items, es, pre, hB5, lo', by wtm_at "lk", by wtm_at "lk", by wtm_at "lk", by wtm_at "lk", rfl, hsv', hrep, by simpa [itemEv] using htgt, rfl, by lia⟩
          | @var _ _ _ kk hT =>
            repeat (first | wtm_at "evi")
            have S := St.perm (by assumption) (.cons _ (.cons _ PlC.move2))
            refine r_setdefP (p := (ra, w)) (T := runP [] pre) S hrep lo' ?_ ?_ ?_
            · have := (Sm.run (Sm.nil 0) (evs := pre)).len; lia
            · intro y hy; have := (Sm.run (Sm.nil 0) (evs := pre)).each y hy; lia
            intro l vs es1 s3 HO S3
            have hmem := HO.mem
            repeat (first | wtm_at "ev")
            obtain ⟨es2, r2, hat⟩ := HO.add _ (.ref _) (by assumption) ⟨_, _, _, rfl, by assumption⟩
            refine r_append (by assumption) (.there hat) ?_ ?_
            · have := HO.small; exact sz_fit (by lia)
            intro s4 S4
            repeat (first | wtm_at "ev")
            refine TurnW.next (St.perm (by assumption) (.cons _ PlC.move2.symm)) (by lia) ⟨st, _, items, es2, pre ++ [(kk, (ra, w))], Sub.trans hB5 (by assumption), lo', by wtm_at "lk", by wtm_at "lk", by wtm_at "lk", by wtm_at "lk", rfl, hsv'.item (by assumption), ?_, by simpa [itemEv] using htgt, rfl, by lia⟩
            rw [runP_append]; exact r2
          | num hT =>
            repeat (first | wtm_at "evi")
            refine TurnW.next (by assumption) (by lia) ⟨st, _, items, es, pre, hB5, lo', by wtm_at "lk", by wtm_at "lk", by wtm_at "lk", by wtm_at "lk", rfl, hsv', hrep, by simpa [itemEv] using htgt, rfl, by lia⟩
          | @str _ ub _ _ uvs us hT hus hl hall =>
            have hup : All2 (TmAt B5) uvs us := ⟨hl, hall⟩
            have hse : (Tm.str us).size = 1 + Tm.sizeL us := by simp [Tm.size]
            have hul := Tm.sizeL_length us
            repeat (first | wtm_at "evi")
            refine r_loop (iter_rv (B := B5) (Ok.handled (by assumption)) hus (by lia)) (PI5 d t t' ra rp us svs items ((I, LitO r (i + 1)) :: PlC K d es cs)) (by assumption) (Sub.refl _) ⟨st, [], by wtm_at "lk", by wtm_at "lk", by wtm_at "lk", by wtm_at "lk", by rw [List.append_nil], All2.nil⟩ ?_ ?_
            · rintro j B6 m6 cs6 v s7 hB6 hj hv ⟨st, ws, n1, n2, n3, n4, rfl, hws⟩ S7
              obtain ⟨tm, htm⟩ : ∃ tm, us.reverse[j]? = some tm := ⟨_, List.getElem?_eq_getElem (by simp; lia)⟩
              have hta := (hup.rev.2 j _ _ hv htm).mono hB6
              repeat (first | wtm_at "ev")
              refine r_append (by assumption) (.there (.there .here)) ?_ ?_
              · have h1 := hws.1; have h2 := hsv'.1; have h3 := meas_len items; simp at h1; exact sz_fit (by simp; lia)
              intro s5 S5
              repeat (first | wtm_at "ev")
              refine Turn.next (by assumption) (Sub.trans hB6 (by assumption)) ⟨st, _, by wtm_at "lk", by wtm_at "lk", by wtm_at "lk", by wtm_at "lk", by rw [List.append_assoc], ?_⟩
              rw [take_step htm, List.map_append]
              exact (hws.item (by assumption)).snoc ⟨_, _, _, rfl, by assumption, hta.mono (by assumption)⟩
            · rintro B6 m6 cs6 s6 hB6 ⟨st, ws, n1, n2, n3, n4, rfl, hws⟩ S6
              repeat (first | wtm_at "ev")
              rw [hl, show us.length = us.reverse.length from by simp, List.take_length] at hws
              have hme : meas (items ++ us.reverse.map fun x => (x, wStr rp)) = meas items + Tm.sizeL us := by rw [meas_append, meas_terms, Tm.sizeL_reverse]
              refine TurnW.next (by assumption) (by rw [hm2, hse]; exact Nat.lt_of_le_of_lt (Nat.le_of_eq hme) (by lia)) ⟨st, _, items ++ us.reverse.map fun x => (x, wStr rp), es, pre, Sub.trans hB5 hB6, lo', n1, n2, n3, n4, rfl, (hsv'.item hB6).append hws, hrep.mono hB6, ?_, rfl, by lia⟩
              rw [List.reverse_append, ← List.map_reverse, List.reverse_reverse, List.flatMap_append, items_str]
              simpa [itemEv] using htgt
        · have hnil : svs = [] := by simpa using hb
          subst hnil
          have : items = [] := List.length_eq_zero_iff.mp hsl.symm
          subst this
          repeat (first | wtm_at "ev")
          refine Turn.next (cs' := PlC K d es cs) (St.drop (by assumption) (.cons_cons _ (List.sublist_cons_self _ _))) (Sub.trans hB3 hB5) ⟨d, es, n1, lo, rfl, ?_⟩
          rw [← htgt]; simpa using hrep
    · rintro B3 m' cs' s hB3 ⟨d, es, hp, lo, rfl, hrep⟩ S
      repeat (first | wtm_at "ev")
      obtain ⟨B4, hB4, hpl, S⟩ := PlC.frz (St.tail (by assumption)) hrep
      rw [hrl, evUpTo_all] at hpl
      exact k d B4 _ lo (Sub.trans hB' (Sub.trans hB2 (Sub.trans hB3 hB4))) hpl S
end
noncomputable def Gl.kind : Gl → Str
  | .call _ => "call"
  | .builtin _ => "builtin"
  | .unify _ _ => "unify"
  | .level => "level"
  | .mark => "mark"
  | .cutto => "cutto"
  | .cut => "cut"
theorem GlAt.head {B : View} {v : Value} {g : Gl} (h : GlAt B v g) : ∃ a t rest, v = .ref a ∧ Has B a (TpO (.str g.kind t :: rest)) ∧ rest.length ≤ 2 := by
  cases h with
  | call p r => exact ⟨_, _, _, rfl, p, by simp⟩
  | builtin p r => exact ⟨_, _, _, rfl, p, by simp⟩
  | unify p r r' => exact ⟨_, _, _, rfl, p, by simp⟩
  | level p => exact ⟨_, _, _, rfl, p, by simp⟩
  | mark p => exact ⟨_, _, _, rfl, p, by simp⟩
  | cutto p => exact ⟨_, _, _, rfl, p, by simp⟩
  | cut p => exact ⟨_, _, _, rfl, p, by simp⟩
section
variable {K : Wk} {A : Around} {E : Value → Shared → Prop} {z : Shared} {B : View} {cs : List Cell} {s : Shared} {v : Value} {c : Cla} {Q : Value → Shared → Prop}
theorem r_tup0 {value slice : Expr} {w : Value} {ws : List Value} {u : Tok} {a : Addr} (S : St z B cs s) (x : Has B a (TpO (w :: ws))) (hz : ws.length ≤ 2) (h : Q w s)
    (hs : subscripted slice false (.ref a) (.int 0 u) = operate [.ref a, .int 0 u] (getItem (.ref a) (.int 0 u)) := by with_unfolding_all rfl) :
    wpAny K.M A (subscriptTail value slice (.ref a) (.int 0 u)) Q E s := by
  refine r_tup (j := 0) S x ?_ rfl h (by decide) (by decide) hs
  unfold seqIndex?; simp
/-! ## crosses_call -/
noncomputable def crossAt (c : Cla) (ps : List Pl) (i : Nat) : Bool := match c.goals[i]? with
  | some (.call _) => (ps.any fun p => decide (p.1 ≤ (i : Int))) && (ps.any fun p => !decide (p.1 ≤ (i : Int)))
  | _ => false
noncomputable def crossM (c : Cla) (ps : List Pl) : Bool := (List.range c.goals.length).any (crossAt c ps)
theorem kind_call {g : Gl} : (g.kind = ("call" : Str)) ↔ ∃ ts, g = .call ts := by
  cases g <;> simp [Gl.kind] <;> decide
theorem crossAt_not {c : Cla} {ps : List Pl} {i : Nat} {g : Gl} (h : c.goals[i]? = some g) (k : g.kind ≠ ("call" : Str)) : crossAt c ps i = false := by
  unfold crossAt; rw [h]
  cases g with
  | call ts => exact absurd rfl k
  | _ => rfl
theorem crossAt_call {c : Cla} {ps : List Pl} {i : Nat} {g : Gl} (h : c.goals[i]? = some g) (k : g.kind = ("call" : Str)) : crossAt c ps i = ((ps.any fun p => decide (p.1 ≤ (i : Int))) && (ps.any fun p => !decide (p.1 ≤ (i : Int)))) := by
  unfold crossAt; rw [h]
  obtain ⟨ts, rfl⟩ := kind_call.mp k
  rfl
theorem any_step {α : Type} {p : α → Bool} {l : List α} {i : Nat} {x : α} (h : l[i]? = some x) : (l.take (i + 1)).any p = ((l.take i).any p || p x) := by
  rw [take_step h, List.any_append]; simp
inductive CI1 (c : Cla) (ps : List Pl) (v p : Value) (cs : List Cell) (i : Nat) (B' : View) (m' : Str → Option Value) (cs' : List Cell) : Prop
  | mk : (m' "kernel" = some v) → (m' "places" = some p) → (cs' = cs) → ((List.range i).any (crossAt c ps) = false) → CI1 c ps v p cs i B' m' cs'
inductive CI2 (ps : List Pl) (a : Int) (v p : Value) (t : Tok) (cs : List Cell) (i : Nat) (B' : View) (m' : Str → Option Value) (cs' : List Cell) : Prop
  | mk : (m' "kernel" = some v) → (m' "places" = some p) → (m' "at" = some (.int a t)) → (cs' = cs) → ∀ b1 b2, (m' "before" = some (.bool b1)) → (m' "behind" = some (.bool b2)) → (b1 = ((ps.take i).any fun p => decide (p.1 ≤ a))) → (b2 = ((ps.take i).any fun p => !decide (p.1 ≤ a))) → CI2 ps a v p t cs i B' m' cs'
set_option maxHeartbeats 4000000 in
theorem c_crosses_call {pa : Addr} {pvs : List Value} {ps : List Pl} (S : St z B cs s) (W : Lib K B) (O : Ok 2 10 A) (hc : ClAt K B v c) (hp : Has B pa (LsO pvs)) (hps : All2 (PlAt B) pvs ps) (hz : c.goals.length ≤ 800)
    (k : ∀ s', St z B cs s' → Q (.bool (crossM c ps)) s') : wpAny K.M A (call (.ref (fa K "crosses_call")) [v, .ref pa]) Q E s := by
  refine r_fnc 7 [("kernel", v), ("places", .ref pa)] S W O (rec_mem (by decide)) rfl (fun _ _ _ => rfl) (locs rfl) (by decide) ?_
  intro A L cd s O S
  obtain ⟨x, dx, m, va, vg, rfl, X, hm, h1, h2, ht, g, gs, rfl, hg, hgs⟩ := hc
  have hgl := hgs.1
  have hpl := hps.1
  repeat (first | wtm_at "ev")
  intro I ItO s' It S'
  refine r_loop It (CI1 c ps (.ref x) (.ref pa) cs) S' (Sub.refl _) ⟨by wtm_at "lk", by wtm_at "lk", rfl, rfl⟩ ?_ ?_
  · rintro i B' m' cs' v s hB hi ⟨t, rfl⟩ ⟨n1, n2, rfl, hno⟩ S
    obtain ⟨gl, hgl⟩ : ∃ gl, c.goals[i]? = some gl := ⟨_, List.getElem?_eq_getElem (by lia)⟩
    obtain ⟨gv, hgv, hga⟩ := hgs.at hgl
    obtain ⟨ga, gt, grest, rfl, hgh, hgr⟩ := (hga.mono hB).head
    repeat (first | wtm_at "evi" | (refine r_item_ls (by wtm_at "in") rfl (by lia) hgv ?_) | (refine r_tup0 (by assumption) (by assumption) hgr ?_))
    refine Br.split (fun hb => ?_) (fun hb => ?_)
    · repeat (first | wtm_at "ev")
      intro I2 s2 It2 S2
      refine r_loop It2 (CI2 ps i (.ref x) (.ref pa) t ((I, ItO (i + 1)) :: cs')) S2 (Sub.refl _) ⟨by wtm_at "lk", by wtm_at "lk", by wtm_at "lk", rfl, false, false, by wtm_at "lk", by wtm_at "lk", rfl, rfl⟩ ?_ ?_
      · rintro j B2 m2 cs2 v s2 hB2 hj hv ⟨n1, n2, n3, rfl, b1, b2, n4, n5, e1, e2⟩ S2
        obtain ⟨p, hpj⟩ : ∃ p, ps[j]? = some p := ⟨_, List.getElem?_eq_getElem (by lia)⟩
        obtain ⟨a, u, u', rfl, ha⟩ := (hps.2 j _ _ hv hpj).mono (hB.trans hB2)
        repeat (first | wtm_at "evi")
        refine Br.split (fun hb => ?_) (fun hb => ?_)
        all_goals (
          repeat (first | wtm_at "ev")
          refine Turn.next (by assumption) hB2 ⟨by wtm_at "lk", by wtm_at "lk", by wtm_at "lk", rfl, _, _, by wtm_at "lk", by wtm_at "lk", ?_, ?_⟩
          · simp only [any_step hpj, hb, ← e1]; simp
          · simp only [any_step hpj, hb, ← e2]; simp)
      · rintro B2 m2 cs2 s2 hB2 ⟨n1, n2, n3, rfl, b1, b2, n4, n5, e1, e2⟩ S2
        rw [hpl, List.take_length] at e1 e2
        have hat := crossAt_call (ps := ps) hgl (of_decide_eq_true hb)
        rw [← e1, ← e2] at hat
        have no : ∀ x, (b1 && b2) = x → x = false → (List.range (i + 1)).any (crossAt c ps) = false := by
          rintro x rfl hx
          rw [List.range_succ, List.any_append, hno]; simp [hat, hx]
        repeat (first | wtm_at "evi")
        refine Br.split (fun h1 => ?_) (fun h1 => ?_)
        · repeat (first | wtm_at "evi")
          refine Br.split (fun h2 => ?_) (fun h2 => ?_)
          · repeat (first | wtm_at "evi")
            have : crossM c ps = true := by
              unfold crossM; rw [List.any_eq_true]; exact ⟨i, List.mem_range.mpr (by lia), by rw [hat, h1, h2]; rfl⟩
            rw [this] at k
            exact k _ (St.sub (by assumption) (hB.trans hB2) ((List.sublist_cons_self _ _).trans (List.sublist_cons_self _ _)))
          · repeat (first | wtm_at "evi")
            refine Turn.next (by assumption) (hB.trans hB2) ⟨by wtm_at "lk", by wtm_at "lk", rfl, no _ rfl (by rw [h1, h2]; rfl)⟩
        · repeat (first | wtm_at "evi")
          refine Turn.next (by assumption) (hB.trans hB2) ⟨by wtm_at "lk", by wtm_at "lk", rfl, no _ rfl (by rw [h1]; rfl)⟩
    · repeat (first | wtm_at "ev")
      refine Turn.next (by assumption) hB ⟨by wtm_at "lk", by wtm_at "lk", rfl, ?_⟩
      rw [List.range_succ, List.any_append, hno]
      simp [crossAt_not hgl (of_decide_eq_false hb)]
  · rintro B' m' cs' s hB ⟨n1, n2, rfl, hno⟩ S
    repeat (first | wtm_at "ev")
    have : crossM c ps = false := by unfold crossM; rw [← hgl]; exact hno
    rw [this] at k
    exact k _ (St.sub (by assumption) hB (List.sublist_cons_self _ _))
/-! ## first_word -/
noncomputable def bestM (ps : List Pl) (p : Pl) : Pl := ps.foldl (fun b p => if p.1 < b.1 then p else b) p
noncomputable def firstM : List Pl → Str
  | [] => ""
  | p :: ps => (bestM (p :: ps) p).2
inductive FI (ps : List Pl) (p0 : Pl) (p : Value) (cs : List Cell) (i : Nat) (B' : View) (m' : Str → Option Value) (cs' : List Cell) : Prop
  | mk : (m' "places" = some p) → (cs' = cs) → ∀ bv, (m' "best" = some bv) → (PlAt B' bv (bestM (ps.take i) p0)) → FI ps p0 p cs i B' m' cs'
set_option maxHeartbeats 4000000 in
theorem c_first_word {pa : Addr} {pvs : List Value} {ps : List Pl} (S : St z B cs s) (W : Lib K B) (O : Ok 2 10 A) (hp : Has B pa (LsO pvs)) (hps : All2 (PlAt B) pvs ps) (hne : ps ≠ [])
    (k : ∀ t s', St z B cs s' → Q (.str (firstM ps) t) s') : wpAny K.M A (call (.ref (fa K "first_word")) [.ref pa]) Q E s := by
  refine r_fnc 10 [("places", .ref pa)] S W O (rec_mem (by decide)) rfl (fun _ _ _ => rfl) (locs rfl) (by decide) ?_
  intro A L cd s O S
  have hpl := hps.1
  obtain ⟨p0, ps', rfl⟩ : ∃ p0 ps', ps = p0 :: ps' := by cases ps with | nil => exact absurd rfl hne | cons a b => exact ⟨a, b, rfl⟩
  obtain ⟨v0, hv0, hpa0⟩ := hps.at (i := 0) rfl
  repeat (first | wtm_at "ev" | (refine r_item_ls (k := 0) (by wtm_at "in") rfl (by lia) hv0 ?_))
  intro I s' It S'
  refine r_loop It (FI (p0 :: ps') p0 (.ref pa) cs) S' (Sub.refl _) ⟨by wtm_at "lk", rfl, v0, by wtm_at "lk", hpa0⟩ ?_ ?_
  · rintro j B2 m2 cs2 v s2 hB2 hj hv ⟨n1, rfl, bv, n2, hbv⟩ S2
    obtain ⟨p, hpj⟩ : ∃ p, (p0 :: ps')[j]? = some p := ⟨_, List.getElem?_eq_getElem (by lia)⟩
    have hst : bestM ((p0 :: ps').take (j + 1)) p0 = if p.1 < (bestM ((p0 :: ps').take j) p0).1 then p else bestM ((p0 :: ps').take j) p0 := by
      unfold bestM; rw [take_step hpj, List.foldl_append]; rfl
    obtain ⟨a, u, u', rfl, ha⟩ := (hps.2 j _ _ hv hpj).mono hB2
    have hbv' := hbv
    obtain ⟨a', w, w', rfl, ha'⟩ := hbv
    repeat (first | wtm_at "evi")
    refine Br.split (fun hb => ?_) (fun hb => ?_)
    · repeat (first | wtm_at "ev")
      refine Turn.next (by assumption) hB2 ⟨by wtm_at "lk", rfl, _, by wtm_at "lk", ?_⟩
      rw [hst, if_pos (of_decide_eq_true hb)]; exact ⟨_, _, _, rfl, ha⟩
    · repeat (first | wtm_at "ev")
      refine Turn.next (by assumption) hB2 ⟨by wtm_at "lk", rfl, _, by wtm_at "lk", ?_⟩
      rw [hst, if_neg (of_decide_eq_false hb)]; exact hbv'
  · rintro B' m' cs' s hB ⟨n1, rfl, bv, n2, hbv⟩ S
    rw [hpl, List.take_length] at hbv
    obtain ⟨a', w, w', rfl, ha'⟩ := hbv
    repeat (first | wtm_at "ev")
    exact k _ _ (St.sub (by assumption) hB (List.sublist_cons_self _ _))
end
/-! ## plans -/
structure Inf where
  var : Int
  kind : Str
  slot : Int
  first : Str
  risk : Bool
  last : Int
inductive InfM (m : Str → Option Value) (i : Inf)  : Prop
  | mk : ∀ t1 t2 t3 t4 t5, (m "var" = some (.int i.var t1)) → (m "kind" = some (.str i.kind t2)) → (m "slot" = some (.int i.slot t3)) → (m "first" = some (.str i.first t4)) → (m "unsafe" = some (.bool i.risk)) → (m "last_goal" = some (.int i.last t5)) → InfM m i
inductive InfAt (K : Wk) (B : View) (v : Value) (i : Inf)  : Prop
  | mk : ∀ x dx m, (v = .ref x) → (Inst B x (Vi K) dx) → (Has B dx (AtO m)) → (InfM m i) → InfAt K B v i
theorem InfAt.mono {K : Wk} {B B' : View} {v : Value} {i : Inf} (h : Sub B B') (x : InfAt K B v i) : InfAt K B' v i := let ⟨a, b, m, e, I, H, M⟩ := x; ⟨a, b, m, e, I.mono h, H.mono h, M⟩
structure Pln where
  infos : List (Int × Inf)
  chunks : List Int
  needs : Bool
  env : Int
  live : List Int
noncomputable abbrev InfKV (K : Wk) (B : View) (kv : Int × Value) (ki : Int × Inf) : Prop := kv.1 = ki.1 ∧ InfAt K B kv.2 ki.2
inductive PlnAt (K : Wk) (B : View) (v : Value) (p : Pln) : Prop
  | mk : ∀ x dx m di ch lv t kvs cvs lvs, v = .ref x → Inst B x (Cp K) dx → Has B dx (AtO m) → m "infos" = some (.ref di) → m "chunks" = some (.ref ch) → m "needs_env" = some (.bool p.needs) → m "env_size" = some (.int p.env t) → m "live_after" = some (.ref lv) →
    (di == sysModules) = false → Has B di (DcO K kvs) → All2 (InfKV K B) kvs p.infos → Has B ch (LsO cvs) → IntsAre cvs p.chunks → Has B lv (LsO lvs) → IntsAre lvs p.live → PlnAt K B v p
theorem All2.inf {K : Wk} {B B' : View} {kvs : List (Int × Value)} {is : List (Int × Inf)} (h : Sub B B') (x : All2 (InfKV K B) kvs is) : All2 (InfKV K B') kvs is := x.imp fun _ _ y => ⟨y.1, y.2.mono h⟩
theorem PlnAt.mono {K : Wk} {B B' : View} {v : Value} {p : Pln} (h : Sub B B') (x : PlnAt K B v p) : PlnAt K B' v p := by
  obtain ⟨x, dx, m, di, ch, lv, t, kvs, cvs, lvs, a1, a2, a3, a4, a5, a6, a7, a8, a9, b1, b2, b3, b4, b5, b6⟩ := x
  exact ⟨x, dx, m, di, ch, lv, t, kvs, cvs, lvs, a1, a2.mono h, a3.mono h, a4, a5, a6, a7, a8, a9, b1.mono h, b2.inf h, b3.mono h, b4, b5.mono h, b6⟩
noncomputable def IsMax (M : Int) (ps : List Pl) : Prop := (∃ p ∈ ps, p.1 = M) ∧ ∀ p ∈ ps, p.1 ≤ M
theorem IsMax.unique {M N : Int} {ps : List Pl} (h : IsMax M ps) (k : IsMax N ps) : M = N := by
  obtain ⟨⟨p, hp, rfl⟩, h2⟩ := h
  obtain ⟨⟨q, hq, rfl⟩, k2⟩ := k
  have := h2 q hq; have := k2 p hp; lia
theorem beq_dec (a b : Str) : (a == b) = decide (a = b) := by rw [Bool.eq_iff_iff]; simp
structure VarOk (c : Cla) (k : Int) (ps : List Pl) (i : Inf) : Prop where
  var : i.var = k
  first : i.first = firstM ps
  last : IsMax i.last ps
  void : decide (i.kind = ("void" : Str)) = decide (ps.length = 1)
  perm : decide (i.kind = ("perm" : Str)) = crossM c ps
  kinds : (["void", "perm", "temp"] : List Str).contains i.kind = true
  rest : i.kind ≠ ("perm" : Str) → i.slot = 0 ∧ i.risk = false
  risk : i.kind = ("perm" : Str) → i.risk = decide (i.first = ("goal_arg" : Str))
section
variable {K : Wk} {A : Around} {E : Value → Shared → Prop} {z : Shared} {B : View} {cs : List Cell} {s : Shared} {v : Value} {c : Cla} {Q : Value → Shared → Prop}
set_option maxHeartbeats 8000000 in
theorem c_check_variable {kk : Int} {kt : Tok} {iv : Value} {inf : Inf} {pa : Addr} {pvs : List Value} {ps : List Pl} (S : St z B cs s) (W : Lib K B) (O : Ok 4 200 A) (hc : ClAt K B v c) (hp : Has B pa (LsO pvs)) (hps : All2 (PlAt B) pvs ps) (hne : ps ≠ []) (hz : c.goals.length ≤ 800) (hz2 : ps.length ≤ 800)
    (hi : InfAt K B iv inf) (k : ∀ b s', (b = true ↔ VarOk c kk ps inf) → St z B cs s' → Q (.bool b) s') : wpAny K.M A (call (.ref (fa K "check_variable")) [v, .int kk kt, .ref pa, iv]) Q E s := by
  refine r_fnc 9 [("kernel", v), ("k", .int kk kt), ("places", .ref pa), ("info", iv)] S W O (rec_mem (by decide)) rfl (fun _ _ _ => rfl) (locs rfl) (by decide) ?_
  intro A L cd s O S
  obtain ⟨x, dx, m, rfl, X, hm, t1, t2, t3, t4, t5, m1, m2, m3, m4, m5, m6⟩ := hi
  have hpl := hps.1
  repeat (first | wtm_at "ev")
  refine c_crosses_call (by assumption) (by wtm_at "up") (by wtm_at "ok") hc hp hps hz ?_
  intro s2 S2
  have hlen1 : ((pvs.length : Int) == 1) = decide (ps.length = 1) := by rw [hpl, Bool.eq_iff_iff]; simp; lia
  have done : ∀ b s' B' l, St z B' l s' → Sub B B' → cs.Sublist l → (b = true ↔ VarOk c kk ps inf) → Q (.bool b) s' := fun b s' B' l S' h1 h2 h3 => k b s' h3 (S'.sub h1 h2)
  have no : ∀ s' B' l, St z B' l s' → Sub B B' → cs.Sublist l → ¬ VarOk c kk ps inf → Q (.bool false) s' :=
    fun s' B' l S' h1 h2 h => done false s' B' l S' h1 h2 ⟨(fun e => nomatch e), fun e => absurd e h⟩
  repeat (first | wtm_at "evi")
  refine Br.split (fun hb => ?_) (fun h1 => ?_)
  · refine Br.tt rfl ?_
    repeat (first | wtm_at "evi")
    refine no _ _ _ (by assumption) (by wtm_at "sub") (by wtm_at "sl") fun h => by simp [h.var] at hb
  have e1 : inf.var = kk := by simpa using h1
  repeat (first | wtm_at "evi")
  refine c_first_word (by assumption) (by wtm_at "up") (by wtm_at "ok") hp hps hne ?_
  intro t6 s3 S3
  repeat (first | wtm_at "evi")
  refine Br.split (fun hb => ?_) (fun h2 => ?_)
  · repeat (first | wtm_at "evi")
    refine no _ _ _ (by assumption) (by wtm_at "sub") (by wtm_at "sl") fun h => by simp [h.first] at hb
  have e2 : inf.first = firstM ps := by simpa using h2
  repeat (first | wtm_at "evi")
  refine r_comp (z := z) (cl := []) (by rfl) (by decide) (by rfl) (by decide) (by rfl) ?_
  repeat (first | wtm_at "evi")
  intro I s4 It S4
  refine ⟨I, _, _, _, B, _, _, fun i B' ys cs' => cs' = cs ∧ IntsAre ys ((ps.take i).map (·.1)), rfl, It, by lia, S4, ⟨rfl, .nil⟩, ?_, ?_⟩
  · rintro C D i B' mc ys cs' v s E hB hi hv hl ⟨rfl, hI⟩ hm S
    obtain ⟨p, hpj⟩ : ∃ p, ps[i]? = some p := ⟨_, List.getElem?_eq_getElem (by lia)⟩
    obtain ⟨a, u, u', rfl, ha⟩ := (hps.2 i _ _ hv hpj).mono hB
    repeat (first | wtm_at "evi")
    refine ⟨B', cs', Sub.refl _, ⟨rfl, ?_⟩, by assumption⟩
    rw [take_step hpj, List.map_append]
    exact hI.append (.cons _ _ .nil)
  rintro D B' ys cs' s5 hB ⟨rfl, hI⟩ hl S5
  repeat (first | wtm_at "evi")
  rw [hpl, List.take_length] at hI
  refine r_max (by assumption) (Ok.handled (by assumption)) (by wtm_at "in") hI ?_ ?_
  · rw [List.length_map]; exact List.length_pos_iff.mpr hne
  intro M t7 s6 hM1 hM2 S6
  have hM : IsMax M ps := by
    obtain ⟨p, hp, rfl⟩ := List.mem_map.mp hM1
    exact ⟨⟨p, hp, rfl⟩, fun q hq => hM2 _ (List.mem_map_of_mem hq)⟩
  repeat (first | wtm_at "evi")
  refine Br.split (fun hb => ?_) (fun h3 => ?_)
  · repeat (first | wtm_at "evi")
    refine no _ _ _ (by assumption) (by wtm_at "sub") (by wtm_at "sl") fun h => by simp [h.last.unique hM] at hb
  have e3 : inf.last = M := by simpa using h3
  repeat (first | wtm_at "evi")
  refine Br.split (fun hb => ?_) (fun h4 => ?_)
  · repeat (first | wtm_at "evi")
    refine no _ _ _ (by assumption) (by wtm_at "sub") (by wtm_at "sl") fun h => ?_
    rw [beq_dec, hlen1, h.void] at hb; simp at hb
  rw [beq_dec, hlen1] at h4
  repeat (first | wtm_at "evi")
  refine Br.split (fun hb => ?_) (fun h5 => ?_)
  · repeat (first | wtm_at "evi")
    refine no _ _ _ (by assumption) (by wtm_at "sub") (by wtm_at "sl") fun h => ?_
    rw [beq_dec, h.perm] at hb; simp at hb
  rw [beq_dec] at h5
  repeat (first | wtm_at "evi")
  refine r_notin_tp (ws := ["void", "perm", "temp"]) (by assumption) (by wtm_at "in") (All2.cons ⟨_, rfl⟩ (All2.cons ⟨_, rfl⟩ (All2.cons ⟨_, rfl⟩ All2.nil))) ?_
  intro s7 S7
  repeat (first | wtm_at "evi")
  refine Br.split (fun hb => ?_) (fun h6 => ?_)
  · repeat (first | wtm_at "evi")
    refine no _ _ _ (by assumption) (by wtm_at "sub") (by wtm_at "sl") fun h => ?_
    rw [h.kinds] at hb; cases hb
  repeat (first | wtm_at "evi")
  have all : ∀ b, (b = true ↔ (inf.kind ≠ ("perm" : Str) → inf.slot = 0 ∧ inf.risk = false) ∧ (inf.kind = ("perm" : Str) → inf.risk = decide (inf.first = ("goal_arg" : Str)))) → (b = true ↔ VarOk c kk ps inf) := by
    intro b hb
    rw [hb]
    exact ⟨fun h => ⟨e1, e2, e3 ▸ hM, by simpa using h4, by simpa using h5, (by cases hc : (["void", "perm", "temp"] : List Str).contains inf.kind with | true => rfl | false => rw [hc] at h6; cases h6), h.1, h.2⟩, fun h => ⟨h.rest, h.risk⟩⟩
  refine Br.split (fun h7 => ?_) (fun h7 => ?_)
  · have f7 : inf.kind ≠ ("perm" : Str) := by simpa using h7
    repeat (first | wtm_at "evi")
    refine Br.split (fun h8 => ?_) (fun h8 => ?_)
    · have f8 : inf.slot ≠ 0 := by simpa using h8
      repeat (first | wtm_at "evi")
      exact done false _ _ _ (by assumption) (by wtm_at "sub") (by wtm_at "sl") (all _ (by simp [f7, f8]))
    · have f8 : inf.slot = 0 := by simpa using h8
      repeat (first | wtm_at "evi")
      refine Br.split (fun h9 => ?_) (fun h9 => ?_)
      · repeat (first | wtm_at "evi")
        exact done false _ _ _ (by assumption) (by wtm_at "sub") (by wtm_at "sl") (all _ (by simp [f7, h9]))
      · repeat (first | wtm_at "evi")
        refine Br.tt (by simp [f7]) ?_
        repeat (first | wtm_at "evi")
        exact done _ _ _ _ (by assumption) (by wtm_at "sub") (by wtm_at "sl") (all _ (by simp [f7, f8, h9]))
  · have f7 : inf.kind = ("perm" : Str) := by simpa using h7
    repeat (first | wtm_at "evi")
    refine Br.ff (by simp [f7]) ?_
    repeat (first | wtm_at "evi")
    exact done _ _ _ _ (by assumption) (by wtm_at "sub") (by wtm_at "sl") (all _ (by simp [f7, beq_dec]))
end
noncomputable def look {α : Type} (l : List (Int × α)) (k : Int) : Option α := (l.find? fun kv => kv.1 = k).map (·.2)
theorem look_inf {K : Wk} {B : View} {k : Int} {inf : Inf} : ∀ {kvs : List (Int × Value)} {is : List (Int × Inf)}, All2 (InfKV K B) kvs is → look is k = some inf → ∃ v, valueAt kvs k = some v ∧ InfAt K B v inf
  | [], is, h, e => by rw [List.length_eq_zero_iff.mp h.1.symm] at e; cases e
  | kv :: kvs, [], h, e => by have := h.1; simp at this
  | kv :: kvs, ki :: is, h, e => by
    obtain ⟨h1, h2⟩ := h.head
    by_cases hk : ki.1 = k
    · simp only [look, List.find?_cons, hk, decide_true, Option.map_some, Option.some.injEq] at e
      subst e
      exact ⟨kv.2, by simp [valueAt, h1, hk], h2⟩
    · have : look is k = some inf := by simpa [look, hk] using e
      obtain ⟨v, e1, e2⟩ := look_inf h.tail this
      exact ⟨v, by have hk' : ¬ kv.1 = k := by rw [h1]; exact hk
                   simpa [valueAt, hk'] using e1, e2⟩
theorem In.keys {K : Wk} {s : Shared} {d : Addr} {kvs : List (Int × Value)} (x : In s d (DcO K kvs)) : (kvs.map (·.1)).Nodup := by
  obtain ⟨o, _, es', ep, _, _, _, _, h⟩ := x
  exact h
theorem Has.keys {K : Wk} {B : View} {d : Addr} {kvs : List (Int × Value)} (x : Has B d (DcO K kvs)) : (kvs.map (·.1)).Nodup := by
  obtain ⟨o, _, es', ep, _, _, _, _, h⟩ := x
  exact h
theorem valueAt_at {k : Int} {v : Value} : ∀ {kvs : List (Int × Value)} {i : Nat}, (kvs.map (·.1)).Nodup → kvs[i]? = some (k, v) → valueAt kvs k = some v
  | [], i, _, e => by simp at e
  | kv :: kvs, 0, _, e => by simp at e; subst e; simp [valueAt]
  | kv :: kvs, i + 1, h, e => by
    have hm : (k, v) ∈ kvs := List.mem_of_getElem? (by simpa using e)
    have hne : ¬ kv.1 = k := fun q => (List.nodup_cons.mp h).1 (List.mem_map.mpr ⟨_, hm, q.symm⟩)
    have := valueAt_at (List.nodup_cons.mp h).2 (by simpa using e : kvs[i]? = some (k, v))
    simpa [valueAt, hne] using this
theorem Rep.at {B : View} {es : List PE} {T : Tbl} (r : Rep B es T) : ∀ {i : Nat} {e : PE}, es[i]? = some e → ∃ ps, T[i]? = some (e.k, ps) ∧ All2 (PlAt B) e.vs ps := by
  induction r with
  | nil => intro i e h; simp at h
  | cons h _ ih =>
    intro i e he
    cases i with
    | zero => simp at he; subst he; exact ⟨_, rfl, h⟩
    | succ i => simp at he; obtain ⟨ps, a, b⟩ := ih he; exact ⟨ps, by simpa using a, b⟩
noncomputable def callsB (c : Cla) (i : Nat) : Nat := (c.goals.take i).countP fun g => decide (g.kind = ("call" : Str))
noncomputable def innerAt (c : Cla) (i : Nat) : Bool := match c.goals[i]? with
  | some g => decide (g.kind = ("call" : Str)) && decide (i + 1 ≠ c.goals.length)
  | none => false
noncomputable def innerC (c : Cla) (i : Nat) : Bool := (List.range i).any (innerAt c)
structure GoalOk (c : Cla) (p : Pln) (T : Tbl) (i : Nat) : Prop where
  chunk : p.chunks[i]? = some (callsB c i : Int)
  vars : ∀ e ∈ T, ∀ inf, look p.infos e.1 = some inf → inf.kind = ("perm" : Str) → ∀ lv, p.live[i]? = some lv → (e.2.any fun q => decide (q.1 > (i : Int))) = decide (inf.slot ≤ lv)
  live : ∀ lv, p.live[i]? = some lv → 0 ≤ lv ∧ lv ≤ p.env
structure GoalsOk (c : Cla) (p : Pln) (T : Tbl) : Prop where
  n1 : p.chunks.length = c.goals.length
  n2 : p.live.length = c.goals.length
  each : ∀ i < c.goals.length, GoalOk c p T i
  needs : p.needs = innerC c c.goals.length
theorem callsB_step {c : Cla} {i : Nat} {g : Gl} (h : c.goals[i]? = some g) : callsB c (i + 1) = callsB c i + if g.kind = ("call" : Str) then 1 else 0 := by
  unfold callsB; rw [take_step h, List.countP_append]; simp [List.countP_cons]
theorem innerC_step {c : Cla} {i : Nat} : innerC c (i + 1) = (innerC c i || innerAt c i) := by
  unfold innerC; rw [List.range_succ, List.any_append]; simp
section
variable {K : Wk} {A : Around} {E : Value → Shared → Prop} {z : Shared} {B : View} {cs : List Cell} {s : Shared} {v : Value} {c : Cla} {Q : Value → Shared → Prop}
inductive GI1 (c : Cla) (p : Pln) (T : Tbl) (v pv pl : Value) (g : Addr) (cs : List Cell) (i : Nat) (B' : View) (m' : Str → Option Value) (cs' : List Cell) : Prop
  | mk : (m' "kernel" = some v) → (m' "plan" = some pv) → (m' "places" = some pl) → (m' "goals" = some (.ref g)) → (m' "inner_call" = some (.bool (innerC c i))) → (cs' = cs) → (∀ j < i, GoalOk c p T j) → GI1 c p T v pv pl g cs i B' m' cs'
inductive GI2 (c : Cla) (i : Nat) (t : Tok) (b : Bool) (v pv pl : Value) (g : Addr) (cs : List Cell) (j : Nat) (B' : View) (m' : Str → Option Value) (cs' : List Cell) : Prop
  | mk : (m' "kernel" = some v) → (m' "plan" = some pv) → (m' "places" = some pl) → (m' "goals" = some (.ref g)) → (m' "inner_call" = some (.bool b)) → (m' "at" = some (.int i t)) → (cs' = cs) → ∀ u, (m' "calls" = some (.int (callsB c j) u)) → GI2 c i t b v pv pl g cs j B' m' cs'
inductive GI3 (c : Cla) (p : Pln) (T : Tbl) (i : Nat) (t : Tok) (v pv pl : Value) (g : Addr) (cs : List Cell) (j : Nat) (B' : View) (m' : Str → Option Value) (cs' : List Cell) : Prop
  | mk : (m' "kernel" = some v) → (m' "plan" = some pv) → (m' "places" = some pl) → (m' "goals" = some (.ref g)) → (m' "inner_call" = some (.bool (innerC c (i + 1)))) → (m' "at" = some (.int i t)) → (cs' = cs) → (∀ j' < j, ∀ e, T[j']? = some e → ∀ inf, look p.infos e.1 = some inf → inf.kind = ("perm" : Str) → ∀ lv, p.live[i]? = some lv → (e.2.any fun q => decide (q.1 > (i : Int))) = decide (inf.slot ≤ lv)) → GI3 c p T i t v pv pl g cs j B' m' cs'
inductive GI4 (c : Cla) (i : Nat) (t : Tok) (ps : List Pl) (v pv pl iv : Value) (g : Addr) (cs : List Cell) (j : Nat) (B' : View) (m' : Str → Option Value) (cs' : List Cell) : Prop
  | mk : (m' "kernel" = some v) → (m' "plan" = some pv) → (m' "places" = some pl) → (m' "goals" = some (.ref g)) → (m' "inner_call" = some (.bool (innerC c (i + 1)))) → (m' "at" = some (.int i t)) → (m' "info" = some iv) → (cs' = cs) → ∀ b, (m' "used_later" = some (.bool b)) → (b = ((ps.take j).any fun q => decide (q.1 > (i : Int)))) → GI4 c i t ps v pv pl iv g cs j B' m' cs'
set_option maxHeartbeats 8000000 in
theorem c_check_goals {pv : Value} {p : Pln} {d : Addr} {T : Tbl} (S : St z B cs s) (W : Lib K B) (O : Ok 4 200 A) (hc : ClAt K B v c) (hp : PlnAt K B pv p) (hT : PlsAt K B d T) (lo : (d == sysModules) = false) (hz : c.goals.length ≤ 800) (hz1 : p.chunks.length ≤ 900) (hz2 : p.live.length ≤ 900)
    (hkeys : ∀ e ∈ T, ∃ inf, look p.infos e.1 = some inf)
    (k : ∀ b s', (b = true ↔ GoalsOk c p T) → St z B cs s' → Q (.bool b) s') : wpAny K.M A (call (.ref (fa K "check_goals")) [v, pv, .ref d]) Q E s := by
  refine r_fnc 11 [("kernel", v), ("plan", pv), ("places", .ref d)] S W O (rec_mem (by decide)) rfl (fun _ _ _ => rfl) (locs rfl) (by decide) ?_
  intro A L cd s O S
  obtain ⟨x, dx, m, va, vg, rfl, X, hm, h1, h2, ht, g, gs, rfl, hg, hgs⟩ := hc
  obtain ⟨px, pdx, pm, di, ch, lv, pt, kvs, cvs, lvs, rfl, PX, hpm, p1, p2, p3, p4, p5, lod, hdi, hkvs, hch, hcv, hlv, hlvs⟩ := hp
  obtain ⟨es, hd, hes, hrep⟩ := hT
  have hgl := hgs.1
  have hc1 := hcv.length
  have hc2 := hlvs.length
  have done : ∀ b s' B' l, St z B' l s' → Sub B B' → cs.Sublist l → (b = true ↔ GoalsOk c p T) → Q (.bool b) s' := fun b s' B' l S' h1 h2 h3 => k b s' h3 (S'.sub h1 h2)
  have no : ∀ s' B' l, St z B' l s' → Sub B B' → cs.Sublist l → ¬ GoalsOk c p T → Q (.bool false) s' :=
    fun s' B' l S' h1 h2 h => done false s' B' l S' h1 h2 ⟨(fun e => nomatch e), fun e => absurd e h⟩
  repeat (first | wtm_at "evi")
  refine Br.split (fun hb => ?_) (fun e1 => ?_)
  · refine Br.tt rfl ?_
    repeat (first | wtm_at "evi")
    refine no _ _ _ (by assumption) (by wtm_at "sub") (by wtm_at "sl") fun h => ?_
    have := h.n1; simp at hb; lia
  have e1 : p.chunks.length = c.goals.length := by simp at e1; lia
  repeat (first | wtm_at "evi")
  refine Br.split (fun hb => ?_) (fun e2 => ?_)
  · repeat (first | wtm_at "evi")
    refine no _ _ _ (by assumption) (by wtm_at "sub") (by wtm_at "sl") fun h => ?_
    have := h.n2; simp at hb; lia
  have e2 : p.live.length = c.goals.length := by simp at e2; lia
  repeat (first | wtm_at "evi")
  intro I ItO s2 It S2
  refine r_loop It (GI1 c p T (.ref x) (.ref px) (.ref d) g cs) S2 (Sub.refl _) ⟨by wtm_at "lk", by wtm_at "lk", by wtm_at "lk", by wtm_at "lk", by wtm_at "lk", rfl, (fun j hj => by lia)⟩ ?_ ?_
  · rintro i B1 m1 cs1 v s1 hB1 hi ⟨t, rfl⟩ ⟨n1, n2, n3, n4, n5, rfl, hall⟩ S1
    have hin : i < c.goals.length := by lia
    obtain ⟨gl, hgl⟩ : ∃ gl, c.goals[i]? = some gl := ⟨_, List.getElem?_eq_getElem hin⟩
    obtain ⟨gv, hgv, hga⟩ := hgs.at hgl
    obtain ⟨ga, gt, grest, rfl, hgh, hgr⟩ := (hga.mono hB1).head
    repeat (first | wtm_at "evi")
    intro I2 ItO2 s3 It2 S3
    refine r_loop It2 (GI2 c i t (innerC c i) (.ref x) (.ref px) (.ref d) g ((I, ItO (i + 1)) :: cs1)) S3 (Sub.refl _) ⟨by wtm_at "lk", by wtm_at "lk", by wtm_at "lk", by wtm_at "lk", by wtm_at "lk", by wtm_at "lk", rfl, _, by wtm_at "lk"⟩ ?_ ?_
    · rintro j B2 m2 cs2 v s2 hB2 hj ⟨t2, rfl⟩ ⟨q1, q2, q3, q4, q5, q6, rfl, u, q7⟩ S2
      obtain ⟨gl2, hgl2⟩ : ∃ gl, c.goals[j]? = some gl := ⟨_, List.getElem?_eq_getElem (by lia)⟩
      obtain ⟨gv2, hgv2, hga2⟩ := hgs.at hgl2
      obtain ⟨ga2, gt2, grest2, rfl, hgh2, hgr2⟩ := (hga2.mono (hB1.trans hB2)).head
      repeat (first | wtm_at "evi" | (refine r_item_ls (by wtm_at "in") rfl (by lia) hgv2 ?_) | (refine r_tup0 (by assumption) (by assumption) hgr2 ?_))
      refine Br.split (fun hb => ?_) (fun hb => ?_)
      · repeat (first | wtm_at "evi")
        refine Turn.next (by assumption) hB2 ⟨by wtm_at "lk", by wtm_at "lk", by wtm_at "lk", by wtm_at "lk", by wtm_at "lk", by wtm_at "lk", rfl, _, by rw [callsB_step hgl2, if_pos (of_decide_eq_true hb), Int.natCast_add]; exact look_self⟩
      · repeat (first | wtm_at "evi")
        refine Turn.next (by assumption) hB2 ⟨by wtm_at "lk", by wtm_at "lk", by wtm_at "lk", by wtm_at "lk", by wtm_at "lk", by wtm_at "lk", rfl, u, ?_⟩
        rw [callsB_step hgl2, if_neg (of_decide_eq_false hb)]; wtm_at "lk"
    · rintro B2 m2 cs2 s2 hB2 ⟨q1, q2, q3, q4, q5, q6, rfl, u, q7⟩ S2
      have hB12 := hB1.trans hB2
      replace hgh := hgh.mono hB2
      obtain ⟨lt, hlt⟩ := hcv.get i _ (List.getElem?_eq_getElem (by lia))
      obtain ⟨lt2, hlt2⟩ := hlvs.get i _ (List.getElem?_eq_getElem (by lia))
      repeat (first | wtm_at "evi" | (refine r_item_ls (by wtm_at "in") rfl (by lia) hlt ?_))
      refine Br.split (fun hb => ?_) (fun e3 => ?_)
      · repeat (first | wtm_at "evi")
        refine no _ _ _ (by assumption) (by wtm_at "sub") (by wtm_at "sl") fun h => ?_
        have := (h.each i hin).chunk
        rw [List.getElem?_eq_getElem (by lia)] at this
        simp only [Option.some.injEq] at this
        simp [this] at hb
      have e3 : p.chunks[i]? = some (callsB c i : Int) := by rw [List.getElem?_eq_getElem (by lia)]; simpa using e3
      repeat (first | wtm_at "ev")
      refine r_if_join (fun s3 => ∃ B3 m3, St z B3 ((L, Lo m3) :: (I, ItO (i + 1)) :: cs1) s3 ∧ Sub B2 B3 ∧ m3 "kernel" = some (.ref x) ∧ m3 "plan" = some (.ref px) ∧ m3 "places" = some (.ref d) ∧ m3 "goals" = some (.ref g) ∧ m3 "inner_call" = some (.bool (innerC c (i + 1))) ∧ m3 "at" = some (.int i t)) ?_ ?_
      · repeat (first | wtm_at "evi" | (refine r_item_ls (by wtm_at "in") rfl (by lia) hgv ?_) | (refine r_tup0 (by assumption) (by wtm_at "up") hgr ?_))
        have hia : innerAt c i = (decide (gl.kind = ("call" : Str)) && decide (i + 1 ≠ c.goals.length)) := by unfold innerAt; rw [hgl]
        refine Br.split (fun h3 => ?_) (fun h3 => ?_)
        · rw [beq_dec] at h3
          repeat (first | wtm_at "evi")
          refine Br.split (fun h4 => ?_) (fun h4 => ?_)
          · have h4 : i + 1 ≠ c.goals.length := by simp at h4; lia
            repeat (first | wtm_at "evi")
            refine ⟨rfl, B2, _, by assumption, Sub.refl _, by wtm_at "lk", by wtm_at "lk", by wtm_at "lk", by wtm_at "lk", ?_, by wtm_at "lk"⟩
            rw [innerC_step, hia, h3, decide_eq_true h4, Bool.and_self, Bool.or_true]; exact look_self
          · have h4 : ¬ (i + 1 ≠ c.goals.length) := by simp at h4; lia
            repeat (first | wtm_at "evi")
            refine ⟨rfl, B2, _, by assumption, Sub.refl _, by wtm_at "lk", by wtm_at "lk", by wtm_at "lk", by wtm_at "lk", ?_, by wtm_at "lk"⟩
            rw [innerC_step, hia, decide_eq_false h4, Bool.and_false, Bool.or_false]; wtm_at "lk"
        · rw [beq_dec] at h3
          repeat (first | wtm_at "evi")
          refine ⟨rfl, B2, _, by assumption, Sub.refl _, by wtm_at "lk", by wtm_at "lk", by wtm_at "lk", by wtm_at "lk", ?_, by wtm_at "lk"⟩
          rw [innerC_step, hia, h3, Bool.false_and, Bool.or_false]; wtm_at "lk"
      · rintro s3 ⟨B3, m3, S3, hB3, n1, n2, n3, n4, n5, n6⟩
        have hB13 := hB12.trans hB3
        repeat (first | wtm_at "ev")
        intro I3 ItO3 s4 It3 S4
        refine r_loop It3 (GI3 c p T i t (.ref x) (.ref px) (.ref d) g ((I, ItO (i + 1)) :: cs1)) S4 (Sub.refl _) ⟨n1, n2, n3, n4, n5, n6, rfl, (fun j hj => by lia)⟩ ?_ ?_
        · rintro j B4 m4 cs4 v s5 hB4 hj ⟨ky, kx, kt, hkx, rfl⟩ ⟨n1, n2, n3, n4, n5, n6, rfl, hvars⟩ S5
          have hB14 := hB13.trans hB4
          obtain ⟨e, he, hek⟩ : ∃ e, es[j]? = some e ∧ PE.kv e = (ky, kx) := by simpa using hkx
          obtain ⟨rfl, rfl⟩ := Prod.mk.inj hek
          obtain ⟨ps, hTj, hps⟩ := hrep.at he
          obtain ⟨inf, hinf⟩ := hkeys _ (List.mem_of_getElem? hTj)
          obtain ⟨iv, hiv, ix, idx, im, rfl, IX, him, t1, t2, t3, t4, t5, i1, i2, i3, i4, i5, i6⟩ := look_inf hkvs hinf
          have hel := (hes e (List.mem_of_getElem? he)).mono hB14
          have hval := valueAt_at hd.keys hkx
          have hpsl := hps.1
          repeat (first | wtm_at "ev" | (refine r_item_dc2 (by assumption) (by wtm_at "in") hiv ?_; intro _ _))
          have step : (inf.kind = ("perm" : Str) → ∀ lv, p.live[i]? = some lv → (ps.any fun q => decide (q.1 > (i : Int))) = decide (inf.slot ≤ lv)) →
              ∀ j' < j + 1, ∀ e, T[j']? = some e → ∀ inf, look p.infos e.1 = some inf → inf.kind = ("perm" : Str) → ∀ lv, p.live[i]? = some lv → (e.2.any fun q => decide (q.1 > (i : Int))) = decide (inf.slot ≤ lv) := by
            intro h j' hj' e' he' inf' hl' hk'
            rcases Nat.lt_succ_iff_lt_or_eq.mp hj' with hlt | rfl
            · exact hvars j' hlt e' he' inf' hl' hk'
            · rw [hTj] at he'; cases he'
              rw [hinf] at hl'; cases hl'
              exact h hk'
          repeat (first | wtm_at "evi")
          refine Br.split (fun h5 => ?_) (fun h5 => ?_)
          · have h5 : inf.kind = ("perm" : Str) := by simpa using h5
            repeat (first | wtm_at "evi" | (refine r_item_dc2 (by assumption) (by wtm_at "in") hval ?_; intro _ _))
            intro I4 s6 It4 S6
            refine r_loop It4 (GI4 c i t ps (.ref x) (.ref px) (.ref d) (.ref ix) g ((I3, ItO3 (j + 1)) :: (I, ItO (i + 1)) :: cs1)) S6 (Sub.refl _) ⟨by wtm_at "lk", by wtm_at "lk", by wtm_at "lk", by wtm_at "lk", by wtm_at "lk", by wtm_at "lk", by wtm_at "lk", rfl, false, by wtm_at "lk", rfl⟩ ?_ ?_
            · rintro l B5 m5 cs5 v s7 hB5 hl hv ⟨n1, n2, n3, n4, n5, n6, n7, rfl, b, n8, n9⟩ S7
              obtain ⟨q, hql⟩ : ∃ q, ps[l]? = some q := ⟨_, List.getElem?_eq_getElem (by lia)⟩
              obtain ⟨qa, u, u', rfl, hqa⟩ := (hps.2 l _ _ hv hql).mono (hB14.trans hB5)
              repeat (first | wtm_at "evi")
              refine Br.split (fun hb => ?_) (fun hb => ?_)
              · repeat (first | wtm_at "evi")
                refine Turn.next (by assumption) hB5 ⟨by wtm_at "lk", by wtm_at "lk", by wtm_at "lk", by wtm_at "lk", by wtm_at "lk", by wtm_at "lk", by wtm_at "lk", rfl, _, by wtm_at "lk", ?_⟩
                simp only [any_step hql, hb]; simp
              · repeat (first | wtm_at "evi")
                refine Turn.next (by assumption) hB5 ⟨by wtm_at "lk", by wtm_at "lk", by wtm_at "lk", by wtm_at "lk", by wtm_at "lk", by wtm_at "lk", by wtm_at "lk", rfl, _, by wtm_at "lk", ?_⟩
                simp only [any_step hql, hb, ← n9]; simp
            · rintro B5 m5 cs5 s7 hB5 ⟨n1, n2, n3, n4, n5, n6, n7, rfl, b, n8, n9⟩ S7
              rw [hpsl, List.take_length] at n9
              have hB15 := hB14.trans hB5
              have hlvi : p.live[i]? = some p.live[i] := List.getElem?_eq_getElem (by lia)
              repeat (first | wtm_at "evi" | (refine r_item_ls (by wtm_at "in") rfl (by lia) hlt2 ?_))
              refine Br.split (fun hb => ?_) (fun h6 => ?_)
              · repeat (first | wtm_at "evi")
                refine no _ _ _ (by assumption) (by wtm_at "sub") (by wtm_at "sl") fun h => ?_
                have := (h.each i hin).vars _ (List.mem_of_getElem? hTj) inf hinf h5 _ hlvi
                rw [n9, this] at hb
                simp at hb
              · repeat (first | wtm_at "evi")
                refine Turn.next (by assumption) (hB4.trans hB5) ⟨by wtm_at "lk", by wtm_at "lk", by wtm_at "lk", by wtm_at "lk", by wtm_at "lk", by wtm_at "lk", rfl, step fun _ lv hlv => ?_⟩
                rw [hlvi] at hlv; cases hlv
                rw [← n9]; simpa using h6
          · have h5 : inf.kind ≠ ("perm" : Str) := by simpa using h5
            repeat (first | wtm_at "evi")
            exact Turn.next (by assumption) hB4 ⟨by wtm_at "lk", by wtm_at "lk", by wtm_at "lk", by wtm_at "lk", by wtm_at "lk", by wtm_at "lk", rfl, step fun h => absurd h h5⟩
        · rintro B4 m4 cs4 s5 hB4 ⟨n1, n2, n3, n4, n5, n6, rfl, hvars⟩ S5
          have hB14 := hB13.trans hB4
          have hlvi : p.live[i]? = some p.live[i] := List.getElem?_eq_getElem (by lia)
          repeat (first | wtm_at "evi" | (refine r_item_ls (by wtm_at "in") rfl (by lia) hlt2 ?_))
          have nope : ¬ (0 ≤ p.live[i] ∧ p.live[i] ≤ p.env) → ¬ GoalsOk c p T := fun hn h => hn ((h.each i hin).live _ hlvi)
          refine Br.split (fun h7 => ?_) (fun h7 => ?_)
          · refine Br.tt rfl ?_
            repeat (first | wtm_at "evi")
            exact no _ _ _ (by assumption) (by wtm_at "sub") (by wtm_at "sl") (nope (by simp at h7; lia))
          · repeat (first | wtm_at "evi" | (refine r_item_ls (by wtm_at "in") rfl (by lia) hlt2 ?_))
            refine Br.split (fun h8 => ?_) (fun h8 => ?_)
            · repeat (first | wtm_at "evi")
              exact no _ _ _ (by assumption) (by wtm_at "sub") (by wtm_at "sl") (nope (by simp at h8; lia))
            · repeat (first | wtm_at "evi")
              refine Turn.next (by assumption) hB14 ⟨n1, n2, n3, n4, n5, rfl, fun j hj => ?_⟩
              rcases Nat.lt_succ_iff_lt_or_eq.mp hj with hlt | rfl
              · exact hall j hlt
              · refine ⟨e3, fun e he inf hl hk lv hlv => ?_, fun lv hlv => ?_⟩
                · obtain ⟨j', hj', rfl⟩ := List.getElem_of_mem he
                  have hTl := hrep.length
                  exact hvars j' (by simp; lia) _ (List.getElem?_eq_getElem hj') inf hl hk lv hlv
                · rw [hlvi] at hlv; cases hlv
                  simp at h7 h8; lia
  · rintro B1 m1 cs1 s1 hB1 ⟨n1, n2, n3, n4, n5, rfl, hall⟩ S1
    repeat (first | wtm_at "evi")
    refine done _ _ _ _ (by assumption) (by wtm_at "sub") (by wtm_at "sl") ?_
    rw [hgl, beq_iff_eq]
    exact ⟨fun h => ⟨e1, e2, fun i hi => hall i (by lia), h⟩, fun h => h.needs⟩
end
noncomputable def permsM (p : Pln) (T : Tbl) : List Inf := T.filterMap fun e => (look p.infos e.1).filter fun i => decide (i.kind = ("perm" : Str))
structure PlanOk (c : Cla) (p : Pln) : Prop where
  keys : (c.places.map (·.1)).Perm (p.infos.map (·.1))
  vars : ∀ e ∈ c.places, ∀ inf, look p.infos e.1 = some inf → VarOk c e.1 e.2 inf
  env : p.env = ((permsM p c.places).length : Int)
  slots : ((permsM p c.places).map (·.slot)).Perm ((List.range (permsM p c.places).length).map fun (i : Nat) => 1 + (i : Int))
  order : ∀ a ∈ permsM p c.places, ∀ b ∈ permsM p c.places, ¬ (a.last > b.last ∧ a.slot > b.slot) ∧ ¬ (a.last = b.last ∧ a.var < b.var ∧ a.slot > b.slot)
  goals : GoalsOk c p c.places
theorem sorted_perm {a b a' b' : List Int} (h1 : a'.Perm a) (h2 : b'.Perm b) (s1 : a'.Pairwise (· ≤ ·)) (s2 : b'.Pairwise (· ≤ ·)) : a' = b' ↔ a.Perm b := by
  constructor
  · rintro rfl; exact h1.symm.trans h2
  · intro h
    exact List.Perm.eq_of_pairwise (fun a b _ _ h k => Int.le_antisymm h k) s1 s2 (h1.trans (h.trans h2.symm))
theorem look_some {α : Type} {l : List (Int × α)} {k : Int} (h : k ∈ l.map (·.1)) : ∃ x, look l k = some x := by
  obtain ⟨e, he, rfl⟩ := List.mem_map.mp h
  unfold look
  cases hf : l.find? fun kv => kv.1 = e.1 with
  | some y => exact ⟨y.2, rfl⟩
  | none => have := List.find?_eq_none.mp hf e he; simp at this
theorem Rep.keysT {B : View} {es : List PE} {T : Tbl} (r : Rep B es T) : (es.map PE.kv).map (·.1) = T.map (·.1) := by
  induction r with
  | nil => rfl
  | cons _ _ ih => simp only [List.map_cons, ih]; rfl
theorem All2.keysT {K : Wk} {B : View} {kvs : List (Int × Value)} {is : List (Int × Inf)} (h : All2 (InfKV K B) kvs is) : kvs.map (·.1) = is.map (·.1) := by
  refine List.ext_getElem? fun i => ?_
  rw [List.getElem?_map, List.getElem?_map]
  cases e : kvs[i]? with
  | none =>
    have : is[i]? = none := by rw [List.getElem?_eq_none_iff] at e ⊢; have := h.1; lia
    rw [this]; rfl
  | some kv =>
    have hi := (List.getElem?_eq_some_iff.mp e).1
    have hi' : i < is.length := h.1 ▸ hi
    have e2 : is[i]? = some is[i] := List.getElem?_eq_getElem hi'
    have e3 := (h.2 i _ _ e e2).1
    rw [e2]; simp [e3]
section
variable {K : Wk} {A : Around} {E : Value → Shared → Prop} {z : Shared} {B : View} {cs : List Cell} {s : Shared} {v : Value} {c : Cla} {Q : Value → Shared → Prop}
inductive HI1 (K : Wk) (c : Cla) (p : Pln) (v pv pl : Value) (cs : List Cell) (i : Nat) (B' : View) (m' : Str → Option Value) (cs' : List Cell) : Prop
  | mk : ∀ pc pvs, (m' "kernel" = some v) → (m' "plan" = some pv) → (m' "places" = some pl) → (m' "perms" = some (.ref pc)) → (cs' = (pc, LsO pvs) :: cs) → (All2 (InfAt K B') pvs (permsM p (c.places.take i))) → (∀ j < i, ∀ e, c.places[j]? = some e → ∀ inf, look p.infos e.1 = some inf → VarOk c e.1 e.2 inf) → HI1 K c p v pv pl cs i B' m' cs'
noncomputable def Ord (a b : Inf) : Prop := ¬ (a.last > b.last ∧ a.slot > b.slot) ∧ ¬ (a.last = b.last ∧ a.var < b.var ∧ a.slot > b.slot)
inductive HI2 (p : Pln) (T : Tbl) (v pv pl : Value) (pc : Addr) (cs : List Cell) (i : Nat) (B' : View) (m' : Str → Option Value) (cs' : List Cell) : Prop
  | mk : (m' "kernel" = some v) → (m' "plan" = some pv) → (m' "places" = some pl) → (m' "perms" = some (.ref pc)) → (cs' = cs) → (∀ j < i, ∀ a, (permsM p T)[j]? = some a → ∀ b ∈ permsM p T, Ord a b) → HI2 p T v pv pl pc cs i B' m' cs'
inductive HI3 (p : Pln) (T : Tbl) (a : Inf) (v pv pl : Value) (pc : Addr) (one : Value) (cs : List Cell) (i : Nat) (B' : View) (m' : Str → Option Value) (cs' : List Cell) : Prop
  | mk : (m' "kernel" = some v) → (m' "plan" = some pv) → (m' "places" = some pl) → (m' "perms" = some (.ref pc)) → (m' "one" = some one) → (cs' = cs) → (∀ j < i, ∀ b, (permsM p T)[j]? = some b → Ord a b) → HI3 p T a v pv pl pc one cs i B' m' cs'
set_option maxHeartbeats 8000000 in
theorem c_check_plan {pv : Value} {p : Pln} (S : St z B cs s) (W : Lib K B) (O : Ok 5 203 A) (hc : ClAt K B v c) (hp : PlnAt K B pv p) (hz : c.size ≤ 800) (hz1 : p.chunks.length ≤ 900) (hz2 : p.live.length ≤ 900) (hT1 : c.places.length < 64) (hT2 : p.infos.length < 64)
    (hT3 : ∀ e ∈ c.places, e.2 ≠ [] ∧ e.2.length ≤ 800)
    (k : ∀ b s', (b = true ↔ PlanOk c p) → St z B cs s' → Q (.bool b) s') : wpAny K.M A (call (.ref (fa K "check_plan")) [v, pv]) Q E s := by
  refine r_fnc 8 [("kernel", v), ("plan", pv)] S W O (rec_mem (by decide)) rfl (fun _ _ _ => rfl) (locs rfl) (by decide) ?_
  intro A L cd s O S
  have hzg : c.goals.length ≤ 800 := by unfold Cla.size at hz; lia
  have hu : A.units + 64 < cLine := by have := O.units; lia
  repeat (first | wtm_at "ev")
  refine c_places_of (by assumption) (by wtm_at "up") (by wtm_at "ok") hc hz ?_
  intro d B1 s1 lo hB1 hT S1
  replace hc := hc.mono hB1
  have W0 := W.mono hB1
  replace hp := hp.mono hB1
  obtain ⟨px, pdx, pm, di, ch, lv, pt, kvs, cvs, lvs, rfl, PX, hpm, p1, p2, p3, p4, p5, lod, hdi, hkvs, hch, hcv, hlv, hlvs⟩ := id hp
  obtain ⟨es, hd, hes, hrep⟩ := id hT
  have hel := hrep.length
  have hkl := hkvs.1
  have done : ∀ b s' B' l, St z B' l s' → Sub B B' → cs.Sublist l → (b = true ↔ PlanOk c p) → Q (.bool b) s' := fun b s' B' l S' h1 h2 h3 => k b s' h3 (S'.sub h1 h2)
  have no : ∀ s' B' l, St z B' l s' → Sub B B' → cs.Sublist l → ¬ PlanOk c p → Q (.bool false) s' :=
    fun s' B' l S' h1 h2 h => done false s' B' l S' h1 h2 ⟨(fun e => nomatch e), fun e => absurd e h⟩
  repeat (first | wtm_at "evi")
  refine r_sorted_dc (by assumption) (Ok.handled (by assumption)) (by wtm_at "in") lo (by simp; lia) ?_
  intro b1 us1 ks1 s2 hi1 hp1 hs1 S2
  repeat (first | wtm_at "evi")
  refine r_sorted_dc (by assumption) (Ok.handled (by assumption)) (by wtm_at "in") lod (by lia) ?_
  intro b2 us2 ks2 s3 hi2 hp2 hs2 S3
  repeat (first | wtm_at "evi")
  refine r_ne_ints (by assumption) (by wtm_at "in") (by wtm_at "in") hi1 hi2 hu ?_
  intro s4 S4
  rw [hrep.keysT] at hp1
  rw [hkvs.keysT] at hp2
  have hkeq := sorted_perm hp1 hp2 hs1 hs2
  repeat (first | wtm_at "evi")
  refine Br.split (fun hb => ?_) (fun hb => ?_)
  · repeat (first | wtm_at "evi")
    exact no _ _ _ (by assumption) (by wtm_at "sub") (by wtm_at "sl") fun h => by simp [hkeq.mpr h.keys] at hb
  have hkeys : (c.places.map (·.1)).Perm (p.infos.map (·.1)) := hkeq.mp (by simpa using hb)
  repeat (first | wtm_at "evi")
  intro I ItO s5 It S5
  refine r_loop It (HI1 K c p v (.ref px) (.ref d) _) S5 (Sub.refl _) ⟨_, [], by wtm_at "lk", by wtm_at "lk", by wtm_at "lk", by wtm_at "lk", rfl, All2.nil, (fun j hj => by lia)⟩ ?_ ?_
  · rintro j B2 m2 cs2 w s6 hB2 hj ⟨ky, kx, kt, hkx, rfl⟩ ⟨pc, pvs, n1, n2, n3, n4, rfl, hpvs, hvars⟩ S6
    obtain ⟨e, he, hek⟩ : ∃ e, es[j]? = some e ∧ PE.kv e = (ky, kx) := by simpa using hkx
    obtain ⟨rfl, rfl⟩ := Prod.mk.inj hek
    obtain ⟨ps, hTj, hps⟩ := hrep.at he
    have hmem := List.mem_of_getElem? hTj
    obtain ⟨inf, hinf⟩ := look_some (hkeys.mem_iff.mp (List.mem_map_of_mem hmem))
    obtain ⟨iv, hiv, hia⟩ := look_inf hkvs hinf
    have hel := (hes e (List.mem_of_getElem? he)).mono hB2
    have hval := valueAt_at hd.keys hkx
    have hpsl := hps.1
    have hps' := hps.pl hB2
    have hia2 := hia.mono hB2
    have hia3 := hia2
    obtain ⟨ix, idx, im, rfl, IX, him, t1, t2, t3, t4, t5, i1, i2, i3, i4, i5, i6⟩ := hia3
    have step : VarOk c e.k ps inf → ∀ j' < j + 1, ∀ e, c.places[j']? = some e → ∀ inf, look p.infos e.1 = some inf → VarOk c e.1 e.2 inf := by
      intro h j' hj' e' he' inf' hl'
      rcases Nat.lt_succ_iff_lt_or_eq.mp hj' with hlt | rfl
      · exact hvars j' hlt e' he' inf' hl'
      · rw [hTj] at he'; cases he'
        rw [hinf] at hl'; cases hl'
        exact h
    have hpm1 : permsM p (c.places.take (j + 1)) = permsM p (c.places.take j) ++ (if inf.kind = ("perm" : Str) then [inf] else []) := by
      unfold permsM
      rw [take_step hTj, List.filterMap_append]
      congr 1
      simp only [List.filterMap_cons, List.filterMap_nil, hinf]
      by_cases hk : inf.kind = ("perm" : Str) <;> simp [Option.filter, hk]
    have hpvl := hpvs.1
    have hpml : (permsM p (c.places.take j)).length ≤ 64 := Nat.le_trans (List.length_filterMap_le _ _) (by simp; lia)
    repeat (first | wtm_at "evi" | (refine r_item_dc2 (by assumption) (by wtm_at "in") hval ?_; intro _ _) | (refine r_item_dc2 (by assumption) (by wtm_at "in") hiv ?_; intro _ _))
    refine c_check_variable (by assumption) (by wtm_at "up") (by wtm_at "ok") (hc.mono hB2) hel hps' (hT3 _ hmem).1 hzg (hT3 _ hmem).2 hia2 ?_
    intro bv s7 hbv S7
    repeat (first | wtm_at "evi" | (refine r_item_dc2 (by assumption) (by wtm_at "in") hval ?_; intro _ _) | (refine r_item_dc2 (by assumption) (by wtm_at "in") hiv ?_; intro _ _))
    refine Br.split (fun hb => ?_) (fun h1 => ?_)
    · repeat (first | wtm_at "evi")
      refine no _ _ _ (by assumption) (by wtm_at "sub") (by wtm_at "sl") fun h => ?_
      have := hbv.mpr (h.vars _ hmem inf hinf)
      rw [this] at hb; cases hb
    have hvok := hbv.mp (by simpa using h1)
    repeat (first | wtm_at "evi" | (refine r_item_dc2 (by assumption) (by wtm_at "in") hval ?_; intro _ _) | (refine r_item_dc2 (by assumption) (by wtm_at "in") hiv ?_; intro _ _))
    refine Br.split (fun hb => ?_) (fun hb => ?_)
    · have hkp : inf.kind = ("perm" : Str) := by simpa using hb
      repeat (first | wtm_at "evi" | (refine r_item_dc2 (by assumption) (by wtm_at "in") hval ?_; intro _ _) | (refine r_item_dc2 (by assumption) (by wtm_at "in") hiv ?_; intro _ _))
      refine r_append (by assumption) (.there (.there .here)) (sz_fit (by lia)) ?_
      intro s8 S8
      repeat (first | wtm_at "evi")
      refine Turn.next (by assumption) hB2 ⟨pc, _, by wtm_at "lk", by wtm_at "lk", by wtm_at "lk", by wtm_at "lk", rfl, ?_, step hvok⟩
      rw [hpm1, if_pos hkp]
      exact hpvs.snoc hia2
    · have hkp : inf.kind ≠ ("perm" : Str) := by simpa using hb
      repeat (first | wtm_at "evi")
      refine Turn.next (by assumption) hB2 ⟨pc, _, by wtm_at "lk", by wtm_at "lk", by wtm_at "lk", by wtm_at "lk", rfl, ?_, step hvok⟩
      rw [hpm1, if_neg hkp, List.append_nil]
      exact hpvs
  · rintro B2 m2 cs2 s6 hB2 ⟨pc, pvs, n1, n2, n3, n4, rfl, hpvs, hvars⟩ S6
    obtain ⟨B3, hB3, hpc, S7⟩ := S6.frz (.there .here)
    replace hpvs : All2 (InfAt K B3) pvs (permsM p c.places) := by
      have : (c.places.take (es.map PE.kv).length) = c.places := by rw [List.length_map, hel, List.take_length]
      rw [this] at hpvs
      exact hpvs.imp fun _ _ => InfAt.mono hB3
    have hpl := hpvs.1
    have hpml : (permsM p c.places).length < 64 := Nat.lt_of_le_of_lt (List.length_filterMap_le _ _) hT1
    have hB13 := hB2.trans hB3
    repeat (first | wtm_at "evi")
    refine Br.split (fun hb => ?_) (fun h1 => ?_)
    · repeat (first | wtm_at "evi")
      refine no _ _ _ (by assumption) (hB1.trans hB13) (by wtm_at "sl") fun h => ?_
      rw [h.env, hpl] at hb; simp at hb
    have henv : p.env = ((permsM p c.places).length : Int) := by rw [← hpl]; simpa using h1
    repeat (first | wtm_at "evi")
    refine r_comp (z := z) (cl := []) (by rfl) (by decide) (by rfl) (by decide) (by rfl) ?_
    repeat (first | wtm_at "evi")
    intro I2 s7 It2 S8
    refine ⟨I2, _, _, _, B3, _, _, fun i B' ys cs' => cs' = _ ∧ IntsAre ys (((permsM p c.places).take i).map (·.slot)), rfl, It2, by lia, S8, ⟨rfl, .nil⟩, ?_, ?_⟩
    · rintro C D i B' mc ys cs' v s E hB hi hv hl ⟨rfl, hI⟩ hm S
      obtain ⟨inf, hpj⟩ : ∃ inf, (permsM p c.places)[i]? = some inf := ⟨_, List.getElem?_eq_getElem (by lia)⟩
      obtain ⟨ix, idx, im, rfl, IX, him, t1, t2, t3, t4, t5, i1, i2, i3, i4, i5, i6⟩ := (hpvs.2 i _ _ hv hpj).mono hB
      have W1 := W0.mono (hB13.trans hB)
      repeat (first | wtm_at "evi")
      refine ⟨B', _, Sub.refl _, ⟨rfl, ?_⟩, by assumption⟩
      rw [take_step hpj, List.map_append]
      exact hI.append (.cons _ _ .nil)
    rintro D B4 ys cs4 s8 hB4 ⟨rfl, hI⟩ hl S9
    rw [hpl, List.take_length] at hI
    repeat (first | wtm_at "evi")
    refine r_sorted_ls (by assumption) (by wtm_at "in") hI (by simp; lia) ?_
    intro b3 us3 ks3 s9 hi3 hp3 hs3 S10
    have hpc4 := hpc.mono hB4
    repeat (first | wtm_at "evi")
    refine r_range2 (by assumption) ?_
    intro rg s10 S11
    repeat (first | wtm_at "evi")
    refine r_list_range (n := pvs.length) (by assumption) (Ok.handled (by assumption)) (by split <;> lia) (by lia) (by lia) (by lia) (by lia) ?_
    intro b4 us4 s11 hi4 S12
    repeat (first | wtm_at "evi")
    refine r_ne_ints (by assumption) (by wtm_at "in") (by wtm_at "in") hi3 hi4 hu ?_
    intro s12 S13
    have hs4 : ((List.range pvs.length).map fun (i : Nat) => 1 + (i : Int)).Pairwise (· ≤ ·) := by
      rw [List.pairwise_map]
      exact List.pairwise_lt_range.imp fun h => by lia
    have hseq := sorted_perm hp3 (List.Perm.refl _) hs3 hs4
    rw [hpl] at hseq
    repeat (first | wtm_at "evi")
    refine Br.split (fun hb => ?_) (fun h2 => ?_)
    · repeat (first | wtm_at "evi")
      refine no _ _ _ (by assumption) (hB1.trans (hB13.trans hB4)) (by wtm_at "sl") fun h => ?_
      rw [hpl, hseq.mpr h.slots] at hb; simp at hb
    have hslots := hseq.mp (by rw [hpl] at h2; simpa using h2)
    repeat (first | wtm_at "evi")
    intro I3 s13 It3 S14
    have hpvs4 := hpvs.imp fun _ _ => InfAt.mono (K := K) hB4
    have hB14 := hB13.trans hB4
    have W4 := W0.mono hB14
    refine r_loop It3 (HI2 p c.places v (.ref px) (.ref d) pc _) S14 (Sub.refl _) ⟨n1, n2, n3, n4, rfl, (fun j hj => by lia)⟩ ?_ ?_
    · rintro i B5 m5 cs5 w s14 hB5 hi hv ⟨n1, n2, n3, n4, rfl, hord⟩ S15
      obtain ⟨a, ha⟩ : ∃ a, (permsM p c.places)[i]? = some a := ⟨_, List.getElem?_eq_getElem (by lia)⟩
      have hpc5 := hpc4.mono hB5
      have W5 := W4.mono hB5
      have ham := List.mem_of_getElem? ha
      obtain ⟨ax, adx, am, rfl, AX, hadx, ta1, ta2, ta3, ta4, ta5, a1, a2, a3, a4, a5, a6⟩ := (hpvs4.2 i _ _ hv ha).mono hB5
      repeat (first | wtm_at "evi")
      intro I4 s15 It4 S16
      refine r_loop It4 (HI3 p c.places a v (.ref px) (.ref d) pc (.ref ax) _) S16 (Sub.refl _) ⟨by wtm_at "lk", by wtm_at "lk", by wtm_at "lk", by wtm_at "lk", by wtm_at "lk", rfl, (fun j hj => by lia)⟩ ?_ ?_
      · rintro j B6 m6 cs6 w s16 hB6 hj hv ⟨n1, n2, n3, n4, n5, rfl, hor⟩ S17
        obtain ⟨b, hb⟩ : ∃ b, (permsM p c.places)[j]? = some b := ⟨_, List.getElem?_eq_getElem (by lia)⟩
        have hbm := List.mem_of_getElem? hb
        have W6 := W5.mono hB6
        obtain ⟨bx, bdx, bm, rfl, BX, hbdx, tb1, tb2, tb3, tb4, tb5, b1, b2, b3, b4, b5, b6⟩ := (hpvs4.2 j _ _ hv hb).mono (hB5.trans hB6)
        repeat (first | wtm_at "evi")
        have step : Ord a b → ∀ j' < j + 1, ∀ b, (permsM p c.places)[j']? = some b → Ord a b := by
          intro h j' hj' b' hb'
          rcases Nat.lt_succ_iff_lt_or_eq.mp hj' with hlt | rfl
          · exact hor j' hlt b' hb'
          · rw [hb] at hb'; cases hb'; exact h
        have bad : ¬ Ord a b → ¬ PlanOk c p := fun h k => h (k.order a ham b hbm)
        have tail : ∀ {h1 : Bool}, True := fun {_} => trivial
        refine Br.split (fun h3 => ?_) (fun h3 => ?_)
        · have h3 : b.last < a.last := of_decide_eq_true h3
          repeat (first | wtm_at "evi")
          refine Br.split (fun h4 => ?_) (fun h4 => ?_)
          · have h4 : b.slot < a.slot := of_decide_eq_true h4
            repeat (first | wtm_at "evi")
            exact no _ _ _ (by assumption) (hB1.trans (hB14.trans (hB5.trans hB6))) (by wtm_at "sl") (bad fun h => h.1 ⟨h3, h4⟩)
          · have h4 : ¬ b.slot < a.slot := of_decide_eq_false h4
            repeat (first | wtm_at "evi")
            refine Br.ff (by simp; lia) ?_
            repeat (first | wtm_at "evi")
            exact Turn.next (by assumption) hB6 ⟨by wtm_at "lk", by wtm_at "lk", by wtm_at "lk", by wtm_at "lk", by wtm_at "lk", rfl, step ⟨fun h => h4 h.2, fun h => h4 h.2.2⟩⟩
        · have h3 : ¬ b.last < a.last := of_decide_eq_false h3
          repeat (first | wtm_at "evi")
          refine Br.split (fun h4 => ?_) (fun h4 => ?_)
          · have h4 : a.last = b.last := by simpa using h4
            repeat (first | wtm_at "evi")
            refine Br.split (fun h5 => ?_) (fun h5 => ?_)
            · have h5 : a.var < b.var := of_decide_eq_true h5
              repeat (first | wtm_at "evi")
              refine Br.split (fun h6 => ?_) (fun h6 => ?_)
              · have h6 : b.slot < a.slot := of_decide_eq_true h6
                repeat (first | wtm_at "evi")
                exact no _ _ _ (by assumption) (hB1.trans (hB14.trans (hB5.trans hB6))) (by wtm_at "sl") (bad fun h => h.2 ⟨h4, h5, h6⟩)
              · have h6 : ¬ b.slot < a.slot := of_decide_eq_false h6
                repeat (first | wtm_at "evi")
                exact Turn.next (by assumption) hB6 ⟨by wtm_at "lk", by wtm_at "lk", by wtm_at "lk", by wtm_at "lk", by wtm_at "lk", rfl, step ⟨fun h => h3 h.1, fun h => h6 h.2.2⟩⟩
            · have h5 : ¬ a.var < b.var := of_decide_eq_false h5
              repeat (first | wtm_at "evi")
              exact Turn.next (by assumption) hB6 ⟨by wtm_at "lk", by wtm_at "lk", by wtm_at "lk", by wtm_at "lk", by wtm_at "lk", rfl, step ⟨fun h => h3 h.1, fun h => h5 h.2.1⟩⟩
          · have h4 : ¬ a.last = b.last := by simpa using h4
            repeat (first | wtm_at "evi")
            exact Turn.next (by assumption) hB6 ⟨by wtm_at "lk", by wtm_at "lk", by wtm_at "lk", by wtm_at "lk", by wtm_at "lk", rfl, step ⟨fun h => h3 h.1, fun h => h4 h.1⟩⟩
      · rintro B6 m6 cs6 s16 hB6 ⟨n1, n2, n3, n4, n5, rfl, hor⟩ S17
        repeat (first | wtm_at "evi")
        refine Turn.next (by assumption) (hB5.trans hB6) ⟨n1, n2, n3, n4, rfl, fun j' hj' a' ha' b' hb' => ?_⟩
        rcases Nat.lt_succ_iff_lt_or_eq.mp hj' with hlt | rfl
        · exact hord j' hlt a' ha' b' hb'
        · rw [ha] at ha'; cases ha'
          obtain ⟨j, hj, rfl⟩ := List.getElem_of_mem hb'
          exact hor j (by lia) _ (List.getElem?_eq_getElem hj)
    · rintro B5 m5 cs5 s14 hB5 ⟨n1, n2, n3, n4, rfl, hord⟩ S15
      have W5 := W4.mono hB5
      have hB15 := hB14.trans hB5
      repeat (first | wtm_at "evi")
      refine c_check_goals (by assumption) (by assumption) (by wtm_at "ok") (hc.mono hB15) (hp.mono hB15) (hT.mono hB15) lo hzg hz1 hz2 ?_ ?_
      · intro e he
        exact look_some (hkeys.mem_iff.mp (List.mem_map_of_mem he))
      intro bv s15 hbv S16
      repeat (first | wtm_at "evi")
      refine done _ _ _ _ (by assumption) (hB1.trans hB15) (by wtm_at "sl") (hbv.trans ⟨fun h => ⟨hkeys, ?_, henv, hslots, ?_, h⟩, fun h => h.goals⟩)
      · intro e he inf hl
        obtain ⟨j, hj, rfl⟩ := List.getElem_of_mem he
        exact hvars j (by simp; lia) _ (List.getElem?_eq_getElem hj) inf hl
      · intro a ha b hb
        obtain ⟨j, hj, rfl⟩ := List.getElem_of_mem ha
        exact hord j (by lia) _ (List.getElem?_eq_getElem hj) b hb
end
section
variable {K : Wk} {A : Around} {E : Value → Shared → Prop} {z : Shared} {B : View} {cs : List Cell} {s : Shared} {v : Value} {c : Cla} {Q : Value → Shared → Prop}
/-! ## chunk_numbers -/
inductive CN (B₀ : View) (gl : List Gl) (cs : List Cell) (i : Nat) (B' : View) (m' : Str → Option Value) (cs' : List Cell) : Prop
  | mk : ∀ ch cvs, (m' "chunks" = some (.ref ch)) → (cs' = (ch, LsO cvs) :: cs) → (IntsAre cvs ((List.range i).map fun j => (callsB ⟨[], gl⟩ j : Int))) → ∀ t, (m' "chunk" = some (.int (callsB ⟨[], gl⟩ i) t)) → CN B₀ gl cs i B' m' cs'
set_option maxHeartbeats 4000000 in
theorem c_chunk_numbers {g : Addr} {gs : List Value} {gl : List Gl} (S : St z B cs s) (W : Lib K B) (O : Ok 2 20 A) (hg : Has B g (LsO gs)) (hgs : All2 (GlAt B) gs gl) (hz : gl.length ≤ 800)
    (k : ∀ ch cvs s', IntsAre cvs ((List.range gl.length).map fun j => (callsB ⟨[], gl⟩ j : Int)) → St z B ((ch, LsO cvs) :: cs) s' → Q (.ref ch) s') : wpAny K.M A (call (.ref (fa K "chunk_numbers")) [.ref g]) Q E s := by
  refine r_fnc 19 [("goals", .ref g)] S W O (rec_mem (by decide)) rfl (fun _ _ _ => rfl) (locs rfl) (by decide) ?_
  intro A L cd s O S
  have hgl := hgs.1
  repeat (first | wtm_at "ev")
  intro I s1 It S1
  refine r_loop It (CN B gl cs) S1 (Sub.refl _) ⟨_, [], by wtm_at "lk", rfl, .nil, _, by wtm_at "lk"⟩ ?_ ?_
  · rintro i B1 m1 cs1 w s2 hB1 hi hv ⟨ch, cvs, n1, rfl, hI, t, n2⟩ S2
    obtain ⟨g1, hg1⟩ : ∃ g1, gl[i]? = some g1 := ⟨_, List.getElem?_eq_getElem (by lia)⟩
    obtain ⟨ga, gt, grest, rfl, hgh, hgr⟩ := ((hgs.2 i _ _ hv hg1).mono hB1).head
    have hcl := hI.length
    simp only [List.length_map, List.length_range] at hcl
    repeat (first | wtm_at "ev")
    refine r_append (by assumption) (.there (.there .here)) (sz_fit (by lia)) ?_
    intro s3 S3
    have hI2 : IntsAre (cvs ++ [.int (callsB ⟨[], gl⟩ i) t]) ((List.range (i + 1)).map fun j => (callsB ⟨[], gl⟩ j : Int)) := by
      rw [List.range_succ, List.map_append]; exact hI.append (.cons _ _ .nil)
    have hst := callsB_step (c := ⟨[], gl⟩) hg1
    repeat (first | wtm_at "evi" | (refine r_tup0 (by assumption) (by assumption) hgr ?_))
    refine Br.split (fun hb => ?_) (fun hb => ?_)
    · repeat (first | wtm_at "evi")
      refine Turn.next (by assumption) hB1 ⟨ch, _, by wtm_at "lk", rfl, hI2, _, by rw [hst, if_pos (by simpa using hb), Int.natCast_add]; exact look_self⟩
    · repeat (first | wtm_at "evi")
      refine Turn.next (by assumption) hB1 ⟨ch, _, by wtm_at "lk", rfl, hI2, t, ?_⟩
      rw [hst, if_neg (by simpa using hb)]; exact n2
  · rintro B1 m1 cs1 s2 hB1 ⟨ch, cvs, n1, rfl, hI, t, n2⟩ S2
    repeat (first | wtm_at "ev")
    rw [hgl] at hI
    exact k _ _ _ hI (St.sub (by assumption) hB1 (List.sublist_cons_self _ _))
end
/-! ## distinct variables -/
noncomputable def addV (l : List Int) (k : Int) : List Int := if k ∈ l then l else l ++ [k]
noncomputable def dedV (l : List Int) : List Int := l.foldl addV []
theorem dedV_snoc (l : List Int) (k : Int) : dedV (l ++ [k]) = addV (dedV l) k := by unfold dedV; rw [List.foldl_append]; rfl
theorem addV_len (l : List Int) (k : Int) : (addV l k).length ≤ l.length + 1 := by unfold addV; split <;> simp
theorem foldV_len : ∀ (l a : List Int), (l.foldl addV a).length ≤ a.length + l.length
  | [], a => by simp
  | k :: l, a => by have h1 := foldV_len l (addV a k); have h2 := addV_len a k; simp only [List.foldl_cons, List.length_cons]; lia
theorem dedV_len (l : List Int) : (dedV l).length ≤ l.length := by have := foldV_len l []; simpa [dedV] using this
theorem valueAt_isSome {k : Int} : ∀ {kvs : List (Int × Value)}, (valueAt kvs k).isSome = decide (k ∈ kvs.map (·.1))
  | [] => by simp [valueAt]
  | kv :: kvs => by
    have ih := valueAt_isSome (k := k) (kvs := kvs)
    by_cases h : kv.1 = k
    · simp [valueAt, h]
    · have h' : ¬ k = kv.1 := fun e => h e.symm
      simp only [List.map_cons, List.mem_cons, h', false_or]
      rw [← ih]; simp [valueAt, h]
theorem stored_new' {kvs : List (Int × Value)} {k : Int} {v : Value} (h : k ∉ kvs.map (·.1)) : stored kvs k v = kvs ++ [(k, v)] := by
  unfold stored
  rw [if_neg]
  simp only [List.any_eq_true, decide_eq_true_eq, not_exists, not_and]
  exact fun e he q => h (List.mem_map.mpr ⟨e, he, q⟩)
theorem Tm.varsL_append : ∀ a b : List Tm, Tm.varsL (a ++ b) = Tm.varsL a ++ Tm.varsL b
  | [], b => by simp [Tm.varsL]
  | t :: a, b => by simp [Tm.varsL, Tm.varsL_append a b]
section
variable {K : Wk} {A : Around} {E : Value → Shared → Prop} {z : Shared} {B : View} {cs : List Cell} {s : Shared} {v : Value} {Q : Value → Shared → Prop}
inductive VI (K : Wk) (B₀ : View) (tgt : List Int) (cs : List Cell) (n : Nat) (B' : View) (m' : Str → Option Value) (cs' : List Cell) : Prop
  | mk : ∀ td tvs items sd kvs rs rvs pre, (Sub B₀ B') → ((sd == sysModules) = false) → (m' "todo" = some (.ref td)) → (m' "seen" = some (.ref sd)) → (m' "result" = some (.ref rs)) → (cs' = (td, LsO tvs) :: (rs, LsO rvs) :: (sd, DcO K kvs) :: cs) → (All2 (TmAt B') tvs items) → (IntsAre rvs (dedV pre)) → (kvs.map (·.1) = dedV pre) → (pre ++ Tm.varsL items.reverse = tgt) → (n = Tm.sizeL items) → (n ≤ 800) → VI K B₀ tgt cs n B' m' cs'
set_option maxHeartbeats 4000000 in
theorem c_variables_of {l : Addr} {vs : List Value} {ts : List Tm} (S : St z B cs s) (W : Lib K B) (O : Ok 2 20 A) (x : Has B l (LsO vs)) (hts : All2 (TmAt B) vs ts) (hz : Tm.sizeL ts ≤ 800)
    (k : ∀ D us s', IntsAre us (dedV (Tm.varsL ts)) → St z B ((D, LsO us) :: cs) s' → Q (.ref D) s') : wpAny K.M A (call (.ref (fa K "variables_of")) [.ref l]) Q E s := by
  refine r_fnc 14 [("terms", .ref l)] S W O (rec_mem (by decide)) rfl (fun _ _ _ => rfl) (locs rfl) (by decide) ?_
  intro A L cd s O S
  have hl := hts.1
  have hlz := Tm.sizeL_length ts
  repeat (first | wtm_at "ev")
  refine r_list_lri (Ok.handled (by assumption)) (by assumption) x (by lia) ?_
  intro td s1 S1
  repeat (first | wtm_at "ev")
  refine r_while (VI K B (Tm.varsL ts) cs) _ (by assumption) ⟨td, _, ts.reverse, _, [], _, [], [], Sub.refl _, by assumption, by wtm_at "lk", by wtm_at "lk", by wtm_at "lk", rfl, hts.rev, .nil, rfl, by simp, rfl, by rw [Tm.sizeL_reverse]; exact hz⟩ ?_
  rintro n B5 m5 cs5 s5 ⟨td, tvs, items, sd, kvs, rs, rvs, pre, hB, lo, n1, n2, n3, rfl, htv, hrv, hkv, htgt, rfl, hml⟩ S5
  have hsl := htv.1
  have hil := Tm.sizeL_length items
  have hrl := hrv.length
  have hpre : pre.length ≤ 800 := by
    have h1 := Tm.varsL_size ts; rw [← htgt] at h1; simp only [List.length_append] at h1; lia
  have hded := dedV_len pre
  have hkl : kvs.length = (dedV pre).length := by rw [← hkv, List.length_map]
  repeat (first | wtm_at "ev")
  refine Br.split (fun hb => ?_) (fun hb => ?_)
  · rcases List.eq_nil_or_concat tvs with rfl | ⟨tvs, v, rfl⟩
    · simp at hb
    rw [List.concat_eq_append] at *
    obtain ⟨items, tm, rfl, htv', hv⟩ := htv.unsnoc
    repeat (first | wtm_at "ev")
    refine r_pop (by assumption) (.there .here) ?_ ?_
    · rw [List.length_append] at hsl; have := sz_fit (n := tvs.length + 1) (by simp at hsl hil; lia); lia
    intro s6 S6
    have hpos := tm.size_pos
    have hm1 : Tm.sizeL [tm] = tm.size := by simp [Tm.sizeL]
    have hm2 : Tm.sizeL (items ++ [tm]) = Tm.sizeL items + tm.size := by rw [Tm.sizeL_append, hm1]
    rw [hm2] at hml
    rw [List.reverse_append] at htgt
    simp only [List.reverse_cons, List.reverse_nil, List.nil_append, List.singleton_append, Tm.varsL] at htgt
    cases hv with
    | atom hT =>
      repeat (first | wtm_at "evi")
      refine TurnW.next (by assumption) (by lia) ⟨td, _, items, sd, kvs, rs, rvs, pre, hB, lo, by wtm_at "lk", by wtm_at "lk", by wtm_at "lk", rfl, htv', hrv, hkv, by simpa [Tm.vars] using htgt, rfl, by lia⟩
    | @var _ _ _ kk hT =>
      repeat (first | wtm_at "evi")
      refine r_notin_dc (by assumption) (by wtm_at "in") lo ?_
      intro s7 S7
      rw [valueAt_isSome, hkv]
      repeat (first | wtm_at "evi")
      refine Br.split (fun h1 => ?_) (fun h1 => ?_)
      · have h2 : kk ∉ dedV pre := by simpa using h1
        repeat (first | wtm_at "evi")
        refine r_set_dc (by assumption) (.there (.there (.there .here))) (by lia) ?_
        intro s8 S8
        rw [stored_new' (by rw [hkv]; exact h2)] at S8
        repeat (first | wtm_at "evi")
        refine r_append (by assumption) (.there (.there .here)) (sz_fit (by lia)) ?_
        intro s9 S9
        repeat (first | wtm_at "evi")
        have e : dedV (pre ++ [kk]) = dedV pre ++ [kk] := by rw [dedV_snoc]; unfold addV; rw [if_neg h2]
        refine TurnW.next (by assumption) (by lia) ⟨td, _, items, sd, _, rs, _, pre ++ [kk], hB, lo, by wtm_at "lk", by wtm_at "lk", by wtm_at "lk", rfl, htv', by rw [e]; exact hrv.append (.cons _ _ .nil), by rw [e, List.map_append, hkv]; rfl, by simpa [Tm.vars] using htgt, rfl, by lia⟩
      · have h2 : kk ∈ dedV pre := by simpa using h1
        repeat (first | wtm_at "evi")
        have e : dedV (pre ++ [kk]) = dedV pre := by rw [dedV_snoc]; unfold addV; rw [if_pos h2]
        refine TurnW.next (by assumption) (by lia) ⟨td, _, items, sd, kvs, rs, rvs, pre ++ [kk], hB, lo, by wtm_at "lk", by wtm_at "lk", by wtm_at "lk", rfl, htv', by rw [e]; exact hrv, by rw [e]; exact hkv, by simpa [Tm.vars] using htgt, rfl, by lia⟩
    | num hT =>
      repeat (first | wtm_at "evi")
      refine TurnW.next (by assumption) (by lia) ⟨td, _, items, sd, kvs, rs, rvs, pre, hB, lo, by wtm_at "lk", by wtm_at "lk", by wtm_at "lk", rfl, htv', hrv, hkv, by simpa [Tm.vars] using htgt, rfl, by lia⟩
    | @str _ ub _ _ uvs us hT hus hl hall =>
      have hup : All2 (TmAt B5) uvs us := ⟨hl, hall⟩
      have hse : (Tm.str us).size = 1 + Tm.sizeL us := by simp [Tm.size]
      have hul := Tm.sizeL_length us
      repeat (first | wtm_at "evi")
      refine r_extend_rv (Ok.handled (by assumption)) (by assumption) hus .here (by lia) (by have := htv'.1; have := Tm.sizeL_length items; lia) ?_
      intro s7 S7
      repeat (first | wtm_at "evi")
      refine TurnW.next (by assumption) (n := _) (k := Tm.sizeL (items ++ us.reverse)) (by rw [hm2, Tm.sizeL_append, Tm.sizeL_reverse]; lia) ⟨td, _, items ++ us.reverse, sd, kvs, rs, rvs, pre, hB, lo, by wtm_at "lk", by wtm_at "lk", by wtm_at "lk", rfl, htv'.append hup.rev, hrv, hkv, ?_, rfl, by rw [Tm.sizeL_append, Tm.sizeL_reverse]; lia⟩
      rw [List.reverse_append, List.reverse_reverse, Tm.varsL_append]
      simpa [Tm.vars] using htgt
  · have hnil : tvs = [] := by simpa using hb
    subst hnil
    have : items = [] := List.length_eq_zero_iff.mp hsl.symm
    subst this
    repeat (first | wtm_at "ev")
    simp [Tm.varsL] at htgt
    subst htgt
    exact k rs rvs _ hrv (St.sub (by assumption) hB (by wtm_at "sl"))
end
theorem valueAt_stored {kvs : List (Int × Value)} {k : Int} {v : Value} (k' : Int) : valueAt (stored kvs k v) k' = if k' = k then some v else valueAt kvs k' := by
  by_cases h : k ∈ kvs.map (·.1)
  · have e : stored kvs k v = kvs.map fun kv => if kv.1 = k then (kv.1, v) else kv := by
      unfold stored; rw [if_pos]
      obtain ⟨e, he, rfl⟩ := List.mem_map.mp h
      rw [List.any_eq_true]; exact ⟨e, he, by simp⟩
    rw [e]; clear e
    induction kvs with
    | nil => simp at h
    | cons kv kvs ih =>
      by_cases hk : kv.1 = k
      · by_cases hk' : k' = k
        · simp [valueAt, hk, hk']
        · have h1 : ¬ k = k' := fun e => hk' e.symm
          by_cases hm : k ∈ kvs.map (·.1)
          · have := ih hm
            simp only [valueAt, hk', if_false] at this
            simp only [valueAt, List.map_cons, hk, if_true, List.find?_cons, h1, decide_false, hk', if_false]
            exact this
          · have : (kvs.map fun kv => if kv.1 = k then (kv.1, v) else kv) = kvs := by
              conv => rhs; rw [← List.map_id kvs]
              refine List.map_congr_left fun x hx => ?_
              rw [if_neg (fun e => hm (List.mem_map.mpr ⟨x, hx, e⟩))]; rfl
            rw [List.map_cons, this]
            simp [valueAt, hk, h1, hk']
      · have hm : k ∈ kvs.map (·.1) := by
          rcases List.mem_cons.mp h with e | e
          · exact absurd e.symm hk
          · exact e
        have := ih hm
        by_cases hk' : kv.1 = k'
        · have : ¬ k' = k := fun e => hk (hk'.trans e)
          simp [valueAt, hk, hk', this]
        · simp only [valueAt] at this
          simp only [valueAt, List.map_cons, hk, if_false, List.find?_cons, hk', decide_false]
          exact this
  · rw [stored_new' h]
    have hn : valueAt kvs k = none := by
      have := valueAt_isSome (kvs := kvs) (k := k)
      cases e : valueAt kvs k with
      | none => rfl
      | some _ => rw [e] at this; simp [h] at this
    unfold valueAt at *
    rw [List.find?_append]
    by_cases hk' : k' = k
    · subst hk'
      have : kvs.find? (fun kv => kv.1 = k') = none := by simpa using hn
      rw [this]; simp
    · rw [if_neg hk']
      have h1 : ¬ k = k' := fun e => hk' e.symm
      simp [h1]
/-- a dict that counts -/
structure CntAt (kvs : List (Int × Value)) (l : List Int) : Prop where
  there : ∀ k ∈ l, ∃ t, valueAt kvs k = some (.int (l.count k) t)
  off : ∀ k, k ∉ l → valueAt kvs k = none
  len : kvs.length ≤ l.length
theorem CntAt.nil : CntAt [] [] := ⟨(fun k h => nomatch h), fun k _ => rfl, Nat.le_refl _⟩
theorem CntAt.get {kvs : List (Int × Value)} {l : List Int} (h : CntAt kvs l) (k : Int) (t : Tok) : ∃ t', (valueAt kvs k).getD (.int 0 t) = .int (l.count k) t' := by
  by_cases hk : k ∈ l
  · obtain ⟨t', e⟩ := h.there k hk; exact ⟨t', by rw [e]; rfl⟩
  · exact ⟨t, by rw [h.off k hk, List.count_eq_zero_of_not_mem hk]; rfl⟩
theorem CntAt.add {kvs : List (Int × Value)} {l : List Int} (h : CntAt kvs l) (k : Int) (t : Tok) : CntAt (stored kvs k (.int ((l.count k : Int) + 1) t)) (l ++ [k]) := by
  refine ⟨fun k' hk' => ?_, fun k' hk' => ?_, ?_⟩
  · rw [valueAt_stored]
    by_cases e : k' = k
    · subst e; exact ⟨t, by rw [if_pos rfl, List.count_append]; simp⟩
    · rw [if_neg e]
      have hm : k' ∈ l := by simpa [e] using hk'
      obtain ⟨t', q⟩ := h.there k' hm
      have e' : ¬ k = k' := fun q => e q.symm
      exact ⟨t', by rw [q, List.count_append]; simp [e']⟩
  · have e : ¬ k' = k := fun e => hk' (by simp [e])
    rw [valueAt_stored, if_neg e]
    exact h.off k' fun hm => hk' (by simp [hm])
  · have := stored_length_le kvs k (.int ((l.count k : Int) + 1) t); have := h.len; simp; lia
section
variable {K : Wk} {A : Around} {E : Value → Shared → Prop} {z : Shared} {B : View} {cs : List Cell} {s : Shared} {v : Value} {t : Tm} {Q : Value → Shared → Prop}
set_option maxHeartbeats 4000000 in
theorem c_variables (S : St z B cs s) (W : Lib K B) (O : Ok 3 23 A) (ht : TmAt B v t) (hz : t.size ≤ 800)
    (k : ∀ D us s', IntsAre us (dedV t.vars) → St z B ((D, LsO us) :: cs) s' → Q (.ref D) s') : wpAny K.M A (call (.ref (fa K "variables")) [v]) Q E s := by
  refine r_fnc 13 [("term", v)] S W O (rec_mem (by decide)) rfl (fun _ _ _ => rfl) (locs rfl) (by decide) ?_
  intro A L cd s O S
  repeat (first | wtm_at "ev")
  obtain ⟨B1, h1, p1, S1⟩ := St.frz (by assumption) (.there .here)
  refine c_variables_of (ts := [t]) S1 (by wtm_at "up") (by wtm_at "ok") p1 (All2.cons (ht.mono h1) .nil) (by simpa [Tm.sizeL] using hz) ?_
  intro D us s2 hI S2
  simp [Tm.varsL] at hI
  wtm_at "ev"
  exact k D us _ hI (St.sub S2 h1 (by wtm_at "sl"))
inductive OI (K : Wk) (B₀ : View) (tgt : List Int) (cs : List Cell) (n : Nat) (B' : View) (m' : Str → Option Value) (cs' : List Cell) : Prop
  | mk : ∀ td tvs items sd kvs pre, (Sub B₀ B') → ((sd == sysModules) = false) → (m' "todo" = some (.ref td)) → (m' "counts" = some (.ref sd)) → (cs' = (td, LsO tvs) :: (sd, DcO K kvs) :: cs) → (All2 (TmAt B') tvs items) → (CntAt kvs pre) → (pre ++ Tm.varsL items.reverse = tgt) → (n = Tm.sizeL items) → (n ≤ 800) → OI K B₀ tgt cs n B' m' cs'
set_option maxHeartbeats 4000000 in
theorem c_occurrences (S : St z B cs s) (W : Lib K B) (O : Ok 2 20 A) (ht : TmAt B v t) (hz : t.size ≤ 800)
    (k : ∀ D kvs s', (D == sysModules) = false → CntAt kvs t.vars → St z B ((D, DcO K kvs) :: cs) s' → Q (.ref D) s') : wpAny K.M A (call (.ref (fa K "occurrences")) [v]) Q E s := by
  refine r_fnc 15 [("term", v)] S W O (rec_mem (by decide)) rfl (fun _ _ _ => rfl) (locs rfl) (by decide) ?_
  intro A L cd s O S
  repeat (first | wtm_at "ev")
  refine r_while (OI K B t.vars cs) _ (by assumption) ⟨_, _, [t], _, [], [], Sub.refl _, by assumption, by wtm_at "lk", by wtm_at "lk", rfl, All2.cons ht .nil, .nil, by simp [Tm.varsL], rfl, by simpa [Tm.sizeL] using hz⟩ ?_
  rintro n B5 m5 cs5 s5 ⟨td, tvs, items, sd, kvs, pre, hB, lo, n1, n2, rfl, htv, hcn, htgt, rfl, hml⟩ S5
  have hsl := htv.1
  have hil := Tm.sizeL_length items
  have hpre : pre.length ≤ 800 := by
    have h1 := Tm.vars_size t; rw [← htgt] at h1; simp only [List.length_append] at h1; lia
  have hkl := hcn.len
  repeat (first | wtm_at "ev")
  refine Br.split (fun hb => ?_) (fun hb => ?_)
  · rcases List.eq_nil_or_concat tvs with rfl | ⟨tvs, v, rfl⟩
    · simp at hb
    rw [List.concat_eq_append] at *
    obtain ⟨items, tm, rfl, htv', hv⟩ := htv.unsnoc
    repeat (first | wtm_at "ev")
    refine r_pop (by assumption) (.there .here) ?_ ?_
    · rw [List.length_append] at hsl; have := sz_fit (n := tvs.length + 1) (by simp at hsl hil; lia); lia
    intro s6 S6
    have hpos := tm.size_pos
    have hm1 : Tm.sizeL [tm] = tm.size := by simp [Tm.sizeL]
    have hm2 : Tm.sizeL (items ++ [tm]) = Tm.sizeL items + tm.size := by rw [Tm.sizeL_append, hm1]
    rw [hm2] at hml
    rw [List.reverse_append] at htgt
    simp only [List.reverse_cons, List.reverse_nil, List.nil_append, List.singleton_append, Tm.varsL] at htgt
    cases hv with
    | atom hT =>
      repeat (first | wtm_at "evi")
      refine TurnW.next (by assumption) (by lia) ⟨td, _, items, sd, kvs, pre, hB, lo, by wtm_at "lk", by wtm_at "lk", rfl, htv', hcn, by simpa [Tm.vars] using htgt, rfl, by lia⟩
    | @var _ _ _ kk hT =>
      repeat (first | wtm_at "evi")
      refine r_get_dc (by assumption) (by wtm_at "in") lo ?_
      intro s7 S7
      obtain ⟨t', e⟩ := hcn.get kk (by assumption)
      rw [e]
      repeat (first | wtm_at "evi")
      refine r_set_dc (by assumption) (.there (.there .here)) (by lia) ?_
      intro s8 S8
      repeat (first | wtm_at "evi")
      refine TurnW.next (by assumption) (by lia) ⟨td, _, items, sd, _, pre ++ [kk], hB, lo, by wtm_at "lk", by wtm_at "lk", rfl, htv', hcn.add kk _, by simpa [Tm.vars] using htgt, rfl, by lia⟩
    | num hT =>
      repeat (first | wtm_at "evi")
      refine TurnW.next (by assumption) (by lia) ⟨td, _, items, sd, kvs, pre, hB, lo, by wtm_at "lk", by wtm_at "lk", rfl, htv', hcn, by simpa [Tm.vars] using htgt, rfl, by lia⟩
    | @str _ ub _ _ uvs us hT hus hl hall =>
      have hup : All2 (TmAt B5) uvs us := ⟨hl, hall⟩
      have hse : (Tm.str us).size = 1 + Tm.sizeL us := by simp [Tm.size]
      have hul := Tm.sizeL_length us
      repeat (first | wtm_at "evi")
      refine r_extend_rv (Ok.handled (by assumption)) (by assumption) hus .here (by lia) (by have := htv'.1; have := Tm.sizeL_length items; lia) ?_
      intro s7 S7
      repeat (first | wtm_at "evi")
      refine TurnW.next (by assumption) (n := _) (k := Tm.sizeL (items ++ us.reverse)) (by rw [hm2, Tm.sizeL_append, Tm.sizeL_reverse]; lia) ⟨td, _, items ++ us.reverse, sd, kvs, pre, hB, lo, by wtm_at "lk", by wtm_at "lk", rfl, htv'.append hup.rev, hcn, ?_, rfl, by rw [Tm.sizeL_append, Tm.sizeL_reverse]; lia⟩
      rw [List.reverse_append, List.reverse_reverse, Tm.varsL_append]
      simpa [Tm.vars] using htgt
  · have hnil : tvs = [] := by simpa using hb
    subst hnil
    have : items = [] := List.length_eq_zero_iff.mp hsl.symm
    subst this
    repeat (first | wtm_at "ev")
    simp [Tm.varsL] at htgt
    subst htgt
    exact k sd kvs _ lo hcn (St.sub (by assumption) hB (by wtm_at "sl"))
end
/-! ## making -/
structure Sv where
  inf : Inf
  count : Int
  fc : Int
  lc : Int
structure SvM (m : Str → Option Value) (i : Sv) : Prop where
  inf : InfM m i.inf
  count : ∃ t, m "count" = some (.int i.count t)
  fc : ∃ t, m "first_chunk" = some (.int i.fc t)
  lc : ∃ t, m "last_chunk" = some (.int i.lc t)
  wi : Within m at17
noncomputable def newSv (k : Int) (first : Str) : Sv := ⟨⟨k, "temp", 0, first, false, -1⟩, 0, 0, 0⟩
section
variable {K : Wk} {A : Around} {E : Value → Shared → Prop} {z : Shared} {B : View} {cs : List Cell} {s : Shared} {v : Value} {Q : Value → Shared → Prop}
theorem m17_0 : mRec 17 0 ∈ (cRec 17).withCmp.meths := by rw [meth17]; simp
theorem m20_0 : mRec 20 0 ∈ (cRec 20).withCmp.meths := by rw [meth20]; simp
theorem m18_0 : mRec 18 0 ∈ (cRec 18).withCmp.meths := by rw [meth18]; simp
theorem m2_0 : mRec 2 0 ∈ (cRec 2).withCmp.meths := by rw [meth2]; simp
set_option maxHeartbeats 4000000 in
theorem c_VarInfo {k : Int} {t t' : Tok} {first : Str} (S : St z B cs s) (W : Lib K B) (O : Ok 5 20 A)
    (kk : ∀ x dx m B' s', Sub B B' → Inst B' x (Vi K) dx → SvM m (newSv k first) → St z B' ((dx, AtO m) :: cs) s' → Q (.ref x) s') : wpAny K.M A (call (.ref (fa K "VarInfo")) [.int k t, .str first t']) Q E s := by
  refine r_make S W O c17_mem (i17 S W) m17_0 rfl (fun x => [("self", .ref x), ("k", .int k t), ("first", .str first t')]) (fun _ _ _ _ _ => rfl) (fun _ => locs rfl) (by decide) ?_
  intro A x dx B' qual L f cd s' O hB X S
  repeat (first | wtm_at "ev")
  refine ⟨rfl, kk x dx _ B' _ hB X ?_ (St.sub (by assumption) (Sub.refl _) (by wtm_at "sl"))⟩
  refine ⟨⟨_, _, _, _, _, by wtm_at "lk", by wtm_at "lk", by wtm_at "lk", by wtm_at "lk", by wtm_at "lk", by wtm_at "lk"⟩, ⟨_, by wtm_at "lk"⟩, ⟨_, by wtm_at "lk"⟩, ⟨_, by wtm_at "lk"⟩, by wtm_at "wi"⟩
set_option maxHeartbeats 4000000 in
theorem c_Survey (S : St z B cs s) (W : Lib K B) (O : Ok 5 20 A)
    (kk : ∀ x dx d m B' s', (d == sysModules) = false → Sub B B' → Inst B' x (Su K) dx → m "infos" = some (.ref d) → m "meet" = none → m "terms" = none → St z B' ((d, DcO K []) :: (dx, AtO m) :: cs) s' → Q (.ref x) s') : wpAny K.M A (call (.ref (fa K "Survey")) []) Q E s := by
  refine r_make S W O c20_mem (i20 S W) m20_0 rfl (fun x => [("self", .ref x)]) (fun _ _ _ _ _ => rfl) (fun _ => locs rfl) (by decide) ?_
  intro A x dx B' qual L f cd s' O hB X S
  repeat (first | wtm_at "ev")
  refine ⟨rfl, kk x dx _ _ B' _ (by assumption) hB X ?_ ?_ ?_ (St.sub (by assumption) (Sub.refl _) (by wtm_at "sl"))⟩
  all_goals wtm_at "lk"
end
/-! ## the survey -/
structure VE where
  k : Int
  x : Addr
  dx : Addr
  m : Str → Option Value
noncomputable def VE.cell (e : VE) : Cell := (e.dx, AtO e.m)
noncomputable def VE.kv (e : VE) : Int × Value := (e.k, .ref e.x)
noncomputable abbrev VEAt (K : Wk) (B : View) (e : VE) (p : Int × Sv) : Prop := e.k = p.1 ∧ Inst B e.x (Vi K) e.dx ∧ SvM e.m p.2
noncomputable abbrev RepV (K : Wk) (B : View) (es : List VE) (T : List (Int × Sv)) : Prop := All2 (VEAt K B) es T
theorem RepV.mono {K : Wk} {B B' : View} {es : List VE} {T : List (Int × Sv)} (h : Sub B B') (x : RepV K B es T) : RepV K B' es T := x.imp fun _ _ y => ⟨y.1, y.2.1.mono h, y.2.2⟩
noncomputable abbrev SvC (K : Wk) (d : Addr) (es : List VE) (R : List Cell) : List Cell := (d, DcO K (es.map VE.kv)) :: (es.map VE.cell ++ R)
noncomputable def seenM (T : List (Int × Sv)) (k : Int) (first : Str) (chunk : Int) : List (Int × Sv) := if k ∈ T.map (·.1) then T else T ++ [(k, { newSv k first with fc := chunk })]
noncomputable def bumpM (p : Sv) (goal chunk count : Int) : Sv := { p with inf := { p.inf with last := goal }, count := p.count + count, lc := chunk }
noncomputable def meetM (T : List (Int × Sv)) (k : Int) (first : Str) (goal chunk count : Int) : List (Int × Sv) := (seenM T k first chunk).map fun e => if e.1 = k then (e.1, bumpM e.2 goal chunk count) else e
theorem All2.split {α β : Type} {R : α → β → Prop} {x : α} {b : List α} : ∀ {a : List α} {ts : List β}, All2 R (a ++ x :: b) ts → ∃ t1 t t2, ts = t1 ++ t :: t2 ∧ All2 R a t1 ∧ R x t ∧ All2 R b t2
  | [], ts, h => by
    cases ts with
    | nil => have := h.1; simp at this
    | cons t ts => exact ⟨[], t, ts, rfl, .nil, h.head, h.tail⟩
  | y :: a, ts, h => by
    cases ts with
    | nil => have := h.1; simp at this
    | cons t ts =>
      obtain ⟨t1, u, t2, rfl, h1, h2, h3⟩ := All2.split (a := a) h.tail
      exact ⟨t :: t1, u, t2, rfl, .cons h.head h1, h2, h3⟩
theorem RepV.keys {K : Wk} {B : View} : ∀ {es : List VE} {T : List (Int × Sv)}, RepV K B es T → es.map (·.k) = T.map (·.1)
  | [], [], _ => rfl
  | [], _ :: _, h => by have := h.1; simp at this
  | _ :: _, [], h => by have := h.1; simp at this
  | e :: es, p :: T, h => by rw [List.map_cons, List.map_cons, h.head.1, RepV.keys h.tail]
theorem VE.keys (es : List VE) : (es.map VE.kv).map (·.1) = es.map (·.k) := by rw [List.map_map]; rfl
theorem findV {es : List VE} {k : Int} (h : k ∈ es.map (·.k)) (nd : (es.map (·.k)).Nodup) : ∃ e1 e e2, es = e1 ++ e :: e2 ∧ e.k = k ∧ (∀ x ∈ e1, x.k ≠ k) ∧ (∀ x ∈ e2, x.k ≠ k) ∧ valueAt (es.map VE.kv) k = some (.ref e.x) := by
  induction es with
  | nil => simp at h
  | cons e es ih =>
    rw [List.map_cons, List.nodup_cons] at nd
    by_cases hk : e.k = k
    · refine ⟨[], e, es, rfl, hk, (fun x h => nomatch h), fun x hx q => nd.1 ?_, by simp [valueAt, VE.kv, hk]⟩
      rw [hk, ← q]; exact List.mem_map_of_mem hx
    · have hm : k ∈ es.map (·.k) := by
        rcases List.mem_cons.mp h with q | q
        · exact absurd q.symm hk
        · exact q
      obtain ⟨e1, x, e2, rfl, h2, h3, h4, h5⟩ := ih hm nd.2
      refine ⟨e :: e1, x, e2, rfl, h2, (fun y hy => by rcases List.mem_cons.mp hy with rfl | hy; exact hk; exact h3 y hy), h4, ?_⟩
      rw [← h5]; simp [valueAt, VE.kv, hk]
theorem SvC.nodup {K : Wk} {z : Shared} {B : View} {cs : List Cell} {s : Shared} {d : Addr} {es : List VE} (S : St z B cs s) (h : (d, DcO K (es.map VE.kv)) ∈ cs) : (es.map (·.k)).Nodup := by
  have := In.keys (S.inC h)
  rwa [VE.keys] at this
theorem SvC.front {K : Wk} {d : Addr} {e : VE} {e1 e2 : List VE} {R : List Cell} : (SvC K d (e1 ++ e :: e2) R).Perm ((e.dx, AtO e.m) :: (d, DcO K ((e1 ++ e :: e2).map VE.kv)) :: (e1.map VE.cell ++ (e2.map VE.cell ++ R))) := by
  refine List.Perm.trans (.cons _ ?_) (.swap _ _ _)
  simp only [List.map_append, List.map_cons, List.append_assoc, List.cons_append]
  exact List.perm_middle
theorem VE.kv_upd {e : VE} {m : Str → Option Value} {e1 e2 : List VE} : (e1 ++ { e with m := m } :: e2).map VE.kv = (e1 ++ e :: e2).map VE.kv := by simp [VE.kv]
theorem SvC.back {K : Wk} {d : Addr} {e : VE} {m : Str → Option Value} {e1 e2 : List VE} {R : List Cell} : ((e.dx, AtO m) :: (d, DcO K ((e1 ++ e :: e2).map VE.kv)) :: (e1.map VE.cell ++ (e2.map VE.cell ++ R))).Perm (SvC K d (e1 ++ { e with m := m } :: e2) R) := by
  have := (SvC.front (K := K) (d := d) (e := { e with m := m }) (e1 := e1) (e2 := e2) (R := R)).symm
  rw [VE.kv_upd] at this
  exact this
theorem map_at {T1 T2 : List (Int × Sv)} {p : Int × Sv} {k : Int} {f : Sv → Sv} (hk : p.1 = k) (h1 : ∀ x ∈ T1, x.1 ≠ k) (h2 : ∀ x ∈ T2, x.1 ≠ k) : (T1 ++ p :: T2).map (fun e => if e.1 = k then (e.1, f e.2) else e) = T1 ++ (p.1, f p.2) :: T2 := by
  have : ∀ T : List (Int × Sv), (∀ x ∈ T, x.1 ≠ k) → T.map (fun e => if e.1 = k then (e.1, f e.2) else e) = T := by
    intro T h
    conv => rhs; rw [← List.map_id T]
    exact List.map_congr_left fun x hx => by rw [if_neg (h x hx)]; rfl
  rw [List.map_append, List.map_cons, this T1 h1, this T2 h2, if_pos hk]
theorem All2.mem {α β : Type} {R : α → β → Prop} {l : List α} {ts : List β} (x : All2 R l ts) {t : β} (h : t ∈ ts) : ∃ v ∈ l, R v t := by
  obtain ⟨i, hi, rfl⟩ := List.getElem_of_mem h
  obtain ⟨v, hv, r⟩ := x.at (List.getElem?_eq_getElem hi)
  exact ⟨v, List.mem_of_getElem? hv, r⟩
theorem SvM.fcs {m : Str → Option Value} {i : Sv} (h : SvM m i) (c : Int) (t : Tok) : SvM (upd m "first_chunk" (.int c t)) { i with fc := c } := by
  obtain ⟨⟨t1, t2, t3, t4, t5, h1, h2, h3, h4, h5, h6⟩, ⟨t6, h7⟩, ⟨t7, h8⟩, ⟨t8, h9⟩, wi⟩ := h
  exact ⟨⟨_, _, _, _, _, by wtm_at "lk", by wtm_at "lk", by wtm_at "lk", by wtm_at "lk", by wtm_at "lk", by wtm_at "lk"⟩, ⟨_, by wtm_at "lk"⟩, ⟨_, by wtm_at "lk"⟩, ⟨_, by wtm_at "lk"⟩, by wtm_at "wi"⟩
theorem SvM.bump {m : Str → Option Value} {i : Sv} (h : SvM m i) (g c n : Int) (t t' t'' : Tok) : SvM (upd (upd (upd m "count" (.int (i.count + n) t)) "last_goal" (.int g t')) "last_chunk" (.int c t'')) (bumpM i g c n) := by
  obtain ⟨⟨t1, t2, t3, t4, t5, h1, h2, h3, h4, h5, h6⟩, ⟨t6, h7⟩, ⟨t7, h8⟩, ⟨t8, h9⟩, wi⟩ := h
  exact ⟨⟨_, _, _, _, _, by wtm_at "lk", by wtm_at "lk", by wtm_at "lk", by wtm_at "lk", by wtm_at "lk", by wtm_at "lk"⟩, ⟨_, by wtm_at "lk"⟩, ⟨_, by wtm_at "lk"⟩, ⟨_, by wtm_at "lk"⟩, by wtm_at "wi"⟩
section
variable {K : Wk} {A : Around} {E : Value → Shared → Prop} {z : Shared} {B : View} {R : List Cell} {s : Shared} {v : Value} {Q : Value → Shared → Prop} {d sx sdx f : Addr} {m : Str → Option Value} {es : List VE} {T : List (Int × Sv)}
set_option maxHeartbeats 4000000 in
theorem c_meet {kk goal chunk count : Int} {first : Str} {t0 t1 t2 t3 t4 : Tok} (S : St z B (SvC K d es R) s) (W : Lib K B) (O : Ok 6 23 A) (F : MethAt B f 20 1) (X : Inst B sx (Su K) sdx) (hm : Has B sdx (AtO m)) (hi : m "infos" = some (.ref d)) (lo : (d == sysModules) = false) (r : RepV K B es T) (hz : T.length ≤ 900)
    (k : ∀ B' es' s', Sub B B' → RepV K B' es' (meetM T kk first goal chunk count) → St z B' (SvC K d es' R) s' → Q .none s') :
    wpAny K.M A (call (.ref f) [.ref sx, .int kk t0, .str first t1, .int goal t2, .int chunk t3, .int count t4]) Q E s := by
  refine r_callM2 [("self", .ref sx), ("k", .int kk t0), ("first", .str first t1), ("goal", .int goal t2), ("chunk", .int chunk t3), ("count", .int count t4)] S W F O (fun _ _ _ _ => rfl) (locs rfl) (by decide) ?_
  intro A L qual cd s O S
  have hel := r.1
  repeat (first | wtm_at "ev")
  refine r_if_join (fun s2 => ∃ B2 m2 es2, St z B2 ((L, Lo m2) :: SvC K d es2 R) s2 ∧ Sub B B2 ∧ m2 "self" = some (.ref sx) ∧ m2 "k" = some (.int kk t0) ∧ m2 "goal" = some (.int goal t2) ∧ m2 "chunk" = some (.int chunk t3) ∧ m2 "count" = some (.int count t4) ∧ RepV K B2 es2 (seenM T kk first chunk)) ?_ ?_
  · repeat (first | wtm_at "ev")
    refine r_notin_dc (by assumption) (by wtm_at "in") lo ?_
    intro s1 S1
    rw [valueAt_isSome, VE.keys, r.keys]
    repeat (first | wtm_at "ev")
    refine Br.split (fun hb => ?_) (fun hb => ?_)
    · have hk : kk ∉ T.map (·.1) := by simpa using hb
      repeat (first | wtm_at "ev")
      refine c_VarInfo (by assumption) (by wtm_at "up") (by wtm_at "ok") ?_
      intro x dx m1 B2 s2 hB2 X2 hs2 S2
      replace S2 := S2.perm (.swap _ _ _)
      repeat (first | wtm_at "ev")
      refine r_set_dc (by assumption) (.there (.there .here)) (by simp; lia) ?_
      intro s3 S3
      rw [stored_new' (by rw [VE.keys, r.keys]; exact hk)] at S3
      have hv2 : valueAt (es.map VE.kv ++ [(kk, Value.ref x)]) kk = some (.ref x) := by
        rw [← stored_new' (by rw [VE.keys, r.keys]; exact hk), valueAt_stored, if_pos rfl]
      have hwi := hs2.wi
      repeat (first | wtm_at "ev" | (refine r_item_dc2 (by assumption) (by wtm_at "in") hv2 ?_; intro _ _))
      refine ⟨rfl, B2, _, es ++ [⟨kk, x, dx, upd m1 "first_chunk" (.int chunk t3)⟩], St.perm (by assumption) (.cons _ ?_), hB2, by wtm_at "lk", by wtm_at "lk", by wtm_at "lk", by wtm_at "lk", by wtm_at "lk", ?_⟩
      · have := (SvC.front (K := K) (d := d) (e := ⟨kk, x, dx, upd m1 "first_chunk" (.int chunk t3)⟩) (e1 := es) (e2 := []) (R := R)).symm
        simpa [VE.kv] using this
      · unfold seenM; rw [if_neg hk]
        exact (r.mono hB2).snoc ⟨rfl, X2, hs2.fcs _ _⟩
    · have hk : kk ∈ T.map (·.1) := by simpa using hb
      repeat (first | wtm_at "ev")
      refine ⟨rfl, B, _, es, by assumption, Sub.refl _, by wtm_at "lk", by wtm_at "lk", by wtm_at "lk", by wtm_at "lk", by wtm_at "lk", ?_⟩
      unfold seenM; rw [if_pos hk]; exact r
  · rintro s2 ⟨B2, m2, es2, S2, hB2, n1, n2, n3, n4, n5, r2⟩
    have hk2 : kk ∈ es2.map (·.k) := by
      rw [r2.keys]; unfold seenM; split
      · assumption
      · simp
    obtain ⟨e1, e, e2, rfl, hk, h1, h2, hv⟩ := findV hk2 (SvC.nodup S2 (.tail _ (.head _)))
    obtain ⟨T1, p, T2, hT, r3, ⟨q1, X2, hs⟩, r4⟩ := r2.split
    have hfin : meetM T kk first goal chunk count = T1 ++ (p.1, bumpM p.2 goal chunk count) :: T2 := by
      unfold meetM; rw [hT]
      refine map_at (f := fun p => bumpM p goal chunk count) (q1.symm.trans hk) (fun x hx => ?_) fun x hx => ?_
      · obtain ⟨y, hy, z, _⟩ := r3.mem hx; rw [← z]; exact h1 y hy
      · obtain ⟨y, hy, z, _⟩ := r4.mem hx; rw [← z]; exact h2 y hy
    rw [hfin] at k
    replace S2 := S2.perm (.cons _ SvC.front)
    obtain ⟨tc, hc⟩ := hs.count
    have hwi := hs.wi
    repeat (first | wtm_at "ev" | (refine r_item_dc2 (by assumption) (by wtm_at "in") hv ?_; intro _ _))
    refine k B2 (e1 ++ { e with m := _ } :: e2) _ hB2 ?_ (St.perm (St.tail (by assumption)) SvC.back)
    exact r3.append (.cons ⟨q1, X2, hs.bump _ _ _ _ _ _⟩ r4)
end
theorem SvC.mv1 {K : Wk} {d : Addr} {es : List VE} {R : List Cell} {a : Cell} : (a :: SvC K d es R).Perm (SvC K d es (a :: R)) :=
  (List.Perm.swap _ _ _).trans (.cons _ (List.perm_middle (a := a) (l₁ := es.map VE.cell) (l₂ := R)).symm)
theorem SvC.mv2 {K : Wk} {d : Addr} {es : List VE} {R : List Cell} {a b : Cell} : (a :: b :: SvC K d es R).Perm (SvC K d es (a :: b :: R)) := (List.Perm.cons _ SvC.mv1).trans SvC.mv1
theorem SvC.mv3 {K : Wk} {d : Addr} {es : List VE} {R : List Cell} {a b c : Cell} : (a :: b :: c :: SvC K d es R).Perm (SvC K d es (a :: b :: c :: R)) := (List.Perm.cons _ SvC.mv2).trans SvC.mv1
/-- var, word, how often -/
noncomputable abbrev SEv := Int × Str × Int
noncomputable def termEv (place : Str) (t : Tm) : List SEv := match t with
  | .var k => [(k, wArg place, 1)]
  | t => (dedV t.vars).map fun k => (k, wStr place, (t.vars.count k : Int))
noncomputable def surveyM (T : List (Int × Sv)) (evs : List SEv) (goal chunk : Int) : List (Int × Sv) := evs.foldl (fun T e => meetM T e.1 e.2.1 goal chunk e.2.2) T
theorem surveyM_append (T : List (Int × Sv)) (a b : List SEv) (goal chunk : Int) : surveyM T (a ++ b) goal chunk = surveyM (surveyM T a goal chunk) b goal chunk := List.foldl_append ..
noncomputable def termsM (T : List (Int × Sv)) (ts : List Tm) (place : Str) (goal chunk : Int) : List (Int × Sv) := surveyM T (ts.flatMap (termEv place)) goal chunk
theorem seenM_len (T : List (Int × Sv)) (k : Int) (first : Str) (chunk : Int) : (seenM T k first chunk).length ≤ T.length + 1 := by unfold seenM; split <;> simp
theorem meetM_len (T : List (Int × Sv)) (k : Int) (first : Str) (g c n : Int) : (meetM T k first g c n).length ≤ T.length + 1 := by unfold meetM; rw [List.length_map]; exact seenM_len ..
theorem surveyM_len (g c : Int) : ∀ (evs : List SEv) (T : List (Int × Sv)), (surveyM T evs g c).length ≤ T.length + evs.length
  | [], T => by simp [surveyM]
  | e :: evs, T => by
    have h1 := surveyM_len g c evs (meetM T e.1 e.2.1 g c e.2.2)
    have h2 := meetM_len T e.1 e.2.1 g c e.2.2
    simp only [surveyM, List.foldl_cons, List.length_cons] at *
    lia
theorem termEv_len (place : Str) (t : Tm) : (termEv place t).length ≤ t.size := by
  have h := t.vars_size
  have h2 := dedV_len t.vars
  cases t <;> simp [termEv, Tm.size] at * <;> lia
theorem termsEv_len (place : Str) : ∀ ts : List Tm, (ts.flatMap (termEv place)).length ≤ Tm.sizeL ts
  | [] => by simp
  | t :: ts => by have h1 := termsEv_len place ts; have h2 := termEv_len place t; simp only [List.flatMap_cons, List.length_append, Tm.sizeL]; lia
theorem mem_addV (l : List Int) (k x : Int) : x ∈ addV l k ↔ x ∈ l ∨ x = k := by
  unfold addV; split
  · constructor
    · exact .inl
    · rintro (h | rfl) <;> assumption
  · simp
theorem mem_foldV (x : Int) : ∀ (l a : List Int), x ∈ l.foldl addV a ↔ x ∈ a ∨ x ∈ l
  | [], a => by simp
  | k :: l, a => by rw [List.foldl_cons, mem_foldV x l, mem_addV, List.mem_cons, or_assoc]
theorem mem_dedV {l : List Int} {x : Int} : x ∈ dedV l ↔ x ∈ l := by unfold dedV; rw [mem_foldV]; simp
theorem flat_step {α β : Type} {l : List α} {i : Nat} {x : α} {f : α → List β} (h : l[i]? = some x) : (l.take (i + 1)).flatMap f = (l.take i).flatMap f ++ f x := by rw [take_step h, List.flatMap_append]; simp
theorem m20_1 : mRec 20 1 ∈ (cRec 20).withCmp.meths := by rw [meth20]; simp
theorem m20_2 : mRec 20 2 ∈ (cRec 20).withCmp.meths := by rw [meth20]; simp
section
variable {K : Wk} {A : Around} {E : Value → Shared → Prop} {z : Shared} {B : View} {R cs : List Cell} {s : Shared} {v : Value} {Q : Value → Shared → Prop} {d sx sdx f : Addr} {m : Str → Option Value} {es : List VE} {T : List (Int × Sv)}
theorem r_m_meet {pl : Sem Bool} {Q : Value × List Value → Shared → Prop} (S : St z B cs s) (W : Lib K B) (X : Inst B sx (Su K) sdx) (h : In s sdx (AtO m)) (hv : m "meet" = none) (kk : ∀ f, MethAt B f 20 1 → Q (.ref f, [.ref sx]) s) : wpAny K.M A (getMethod (.ref sx) "meet" pl) Q E s :=
  r_method2 S W c20_mem (i20 S W) m20_1 rfl X h hv (free_of (by decide +kernel)) kk
theorem r_m_terms {pl : Sem Bool} {Q : Value × List Value → Shared → Prop} (S : St z B cs s) (W : Lib K B) (X : Inst B sx (Su K) sdx) (h : In s sdx (AtO m)) (hv : m "terms" = none) (kk : ∀ f, MethAt B f 20 2 → Q (.ref f, [.ref sx]) s) : wpAny K.M A (getMethod (.ref sx) "terms" pl) Q E s :=
  r_method2 S W c20_mem (i20 S W) m20_2 rfl X h hv (free_of (by decide +kernel)) kk
theorem TmAt.head {v : Value} {tm : Tm} (h : TmAt B v tm) : ∃ a kd t rest, v = .ref a ∧ Has B a (TpO (.str kd t :: rest)) ∧ rest.length ≤ 2 ∧ (kd = ("v" : Str) → ∃ k t', tm = .var k ∧ rest = [.int k t']) ∧ (kd ≠ ("v" : Str) → ∀ k, tm ≠ .var k) := by
  cases h with
  | atom p => exact ⟨_, _, _, _, rfl, p, by simp, fun e => absurd e (by decide), fun _ k e => nomatch e⟩
  | var p => exact ⟨_, _, _, _, rfl, p, by simp, fun _ => ⟨_, _, rfl, rfl⟩, fun e => absurd rfl e⟩
  | num p => exact ⟨_, _, _, _, rfl, p, by simp, fun e => absurd e (by decide), fun _ k e => nomatch e⟩
  | str p => exact ⟨_, _, _, _, rfl, p, by simp, fun e => absurd e (by decide), fun _ k e => nomatch e⟩
theorem termEv_not {place : Str} {tm : Tm} (h : ∀ k, tm ≠ .var k) : termEv place tm = (dedV tm.vars).map fun k => (k, wStr place, (tm.vars.count k : Int)) := by
  cases tm with
  | var k => exact absurd rfl (h k)
  | _ => rfl
inductive TI1 (K : Wk) (T : List (Int × Sv)) (ts : List Tm) (d : Addr) (place : Str) (goal chunk : Int) (self pv gv cv : Value) (R : List Cell) (i : Nat) (B' : View) (m' : Str → Option Value) (cs' : List Cell) : Prop
  | mk : ∀ es, (m' "self" = some self) → (m' "place" = some pv) → (m' "goal" = some gv) → (m' "chunk" = some cv) → (cs' = SvC K d es R) → (RepV K B' es (surveyM T ((ts.take i).flatMap (termEv place)) goal chunk)) → TI1 K T ts d place goal chunk self pv gv cv R i B' m' cs'
inductive TI2 (K : Wk) (T : List (Int × Sv)) (t : Tm) (d : Addr) (place : Str) (goal chunk : Int) (self pv gv cv cn : Value) (c : Cell) (R : List Cell) (i : Nat) (B' : View) (m' : Str → Option Value) (cs' : List Cell) : Prop
  | mk : ∀ es, (m' "self" = some self) → (m' "place" = some pv) → (m' "goal" = some gv) → (m' "chunk" = some cv) → (m' "counts" = some cn) → (cs' = c :: SvC K d es R) → (RepV K B' es (surveyM T (((dedV t.vars).take i).map fun k => (k, wStr place, (t.vars.count k : Int))) goal chunk)) → TI2 K T t d place goal chunk self pv gv cv cn c R i B' m' cs'
set_option maxHeartbeats 8000000 in
theorem c_terms {goal chunk : Int} {place : Str} {tv : Value} {ts : List Tm} {t1 t2 t3 : Tok} (S : St z B (SvC K d es R) s) (W : Lib K B) (O : Ok 7 30 A) (F : MethAt B f 20 2) (X : Inst B sx (Su K) sdx) (hm : Has B sdx (AtO m)) (hinf : m "infos" = some (.ref d)) (hme : m "meet" = none) (lo : (d == sysModules) = false) (r : RepV K B es T) (ht : TmsAt B tv ts) (hz : T.length + Tm.sizeL ts ≤ 800)
    (hp : place = ("head" : Str) ∨ place = ("goal" : Str))
    (k : ∀ B' es' s', Sub B B' → RepV K B' es' (termsM T ts place goal chunk) → St z B' (SvC K d es' R) s' → Q .none s') :
    wpAny K.M A (call (.ref f) [.ref sx, tv, .str place t1, .int goal t2, .int chunk t3]) Q E s := by
  refine r_callM2 [("self", .ref sx), ("terms", tv), ("place", .str place t1), ("goal", .int goal t2), ("chunk", .int chunk t3)] S W F O (fun _ _ _ _ => rfl) (locs rfl) (by decide) ?_
  intro A L qual cd s O S
  obtain ⟨ta, tvs, rfl, hta, htv⟩ := ht
  have htl := htv.1
  obtain ⟨hl1, hl2⟩ : place.length + ("_arg" : Str).length ≤ 1000 ∧ place.length + ("_struct" : Str).length ≤ 1000 := by
    rcases hp with rfl | rfl <;> decide
  repeat (first | wtm_at "ev")
  intro I s1 It S1
  refine r_loop It (TI1 K T ts d place goal chunk (.ref sx) (.str place t1) (.int goal t2) (.int chunk t3) R) S1 (Sub.refl _) ⟨es, by wtm_at "lk", by wtm_at "lk", by wtm_at "lk", by wtm_at "lk", rfl, r⟩ ?_ ?_
  · rintro i B1 m1 cs1 v s hB1 hi hv ⟨es, n1, n2, n3, n4, rfl, r⟩ S
    obtain ⟨tm, htm⟩ : ∃ tm, ts[i]? = some tm := ⟨_, List.getElem?_eq_getElem (by lia)⟩
    have hta := (htv.2 i _ _ hv htm).mono hB1
    have hst := flat_step (f := termEv place) htm
    have hlen : (surveyM T ((ts.take i).flatMap (termEv place)) goal chunk).length + tm.size ≤ 800 := by
      have h1 := surveyM_len goal chunk ((ts.take i).flatMap (termEv place)) T
      have h2 := termsEv_len place (ts.take i)
      have h3 : Tm.sizeL (ts.take i) + tm.size ≤ Tm.sizeL ts := by
        conv => rhs; rw [← List.take_append_drop (i + 1) ts, take_step htm]
        rw [Tm.sizeL_append, Tm.sizeL_append]; simp [Tm.sizeL]
      lia
    have hsz : tm.size ≤ 800 := by lia
    generalize hT1 : surveyM T ((ts.take i).flatMap (termEv place)) goal chunk = T1 at *
    have fin : ∀ B2 es2 m2 s2, Sub B1 B2 → RepV K B2 es2 (surveyM T1 (termEv place tm) goal chunk) → m2 "self" = some (.ref sx) → m2 "place" = some (.str place t1) → m2 "goal" = some (.int goal t2) → m2 "chunk" = some (.int chunk t3) →
        St z B2 ((L, Lo m2) :: (I, TitO ta (i + 1)) :: SvC K d es2 R) s2 → TI1 K T ts d place goal chunk (.ref sx) (.str place t1) (.int goal t2) (.int chunk t3) R (i + 1) B2 m2 (SvC K d es2 R) := by
      intro B2 es2 m2 s2 hB2 r2 q1 q2 q3 q4 S2
      refine ⟨es2, q1, q2, q3, q4, rfl, ?_⟩
      rw [hst, surveyM_append, hT1]; exact r2
    obtain ⟨a, kd, tk, rest, rfl, ha, hrl, hvar, hnot⟩ := hta.head
    repeat (first | wtm_at "evi" | (refine r_tup0 (by assumption) (by assumption) hrl ?_))
    refine Br.split (fun hb => ?_) (fun hb => ?_)
    · obtain ⟨kk, t', rfl, rfl⟩ := hvar (by simpa using hb)
      repeat (first | wtm_at "evi" | (refine r_m_meet (by assumption) (by wtm_at "up") (by wtm_at "up") (by wtm_at "in") hme ?_; intro f F))
      refine c_meet (St.perm (by assumption) SvC.mv2) (by wtm_at "up") (by wtm_at "ok") F (by wtm_at "up") (by wtm_at "up") hinf lo r (by lia) ?_
      intro B2 es2 s2 hB2 r2 S2
      replace S2 := S2.perm SvC.mv2.symm
      repeat (first | wtm_at "evi")
      refine Turn.next S2 (hB1.trans hB2) (fin _ _ _ _ hB2 r2 (by wtm_at "lk") (by wtm_at "lk") (by wtm_at "lk") (by wtm_at "lk") S2)
    · have hne := hnot (by simpa using hb)
      rw [termEv_not hne] at fin
      repeat (first | wtm_at "evi")
      refine c_occurrences (by assumption) (by wtm_at "up") (by wtm_at "ok") hta hsz ?_
      intro C kvs s2 loC hcn S2
      obtain ⟨B2, hB2, pC, S2⟩ := S2.frz .here
      repeat (first | wtm_at "evi")
      refine c_variables (by assumption) (by wtm_at "up") (by wtm_at "ok") (hta.mono hB2) hsz ?_
      intro D us s3 hI S3
      obtain ⟨B3, hB3, pD, S3⟩ := S3.frz .here
      have hul := hI.length
      repeat (first | wtm_at "evi")
      intro I2 s4 It2 S4
      refine r_loop It2 (TI2 K T1 tm d place goal chunk (.ref sx) (.str place t1) (.int goal t2) (.int chunk t3) (.ref C) (I, TitO ta (i + 1)) R) S4 (Sub.refl _) ⟨es, by wtm_at "lk", by wtm_at "lk", by wtm_at "lk", by wtm_at "lk", by wtm_at "lk", rfl, r.mono (hB2.trans hB3)⟩ ?_ ?_
      · rintro j B4 m4 cs4 w s4 hB4 hj hw ⟨es4, q1, q2, q3, q4, q5, rfl, r4⟩ S4
        obtain ⟨t5, rfl⟩ := intsAt hI j w hw
        have hjl : j < (dedV tm.vars).length := by lia
        obtain ⟨kk, hkk⟩ : ∃ kk, (dedV tm.vars)[j]? = some kk := ⟨_, List.getElem?_eq_getElem hjl⟩
        have ekk : (dedV tm.vars).getD j 0 = kk := by rw [List.getD_eq_getElem?_getD, hkk]; rfl
        rw [ekk]
        obtain ⟨t6, hval⟩ := hcn.there kk (mem_dedV.mp (List.mem_of_getElem? hkk))
        have hl4 := surveyM_len goal chunk (((dedV tm.vars).take j).map fun k => (k, wStr place, (tm.vars.count k : Int))) T1
        have hdl := dedV_len tm.vars
        have hvs := tm.vars_size
        simp only [List.length_map, List.length_take] at hl4
        repeat (first | wtm_at "evi" | (refine r_m_meet (by assumption) (by wtm_at "up") (by wtm_at "up") (by wtm_at "in") hme ?_; intro f F) | (refine r_item_dc2 (by assumption) (by wtm_at "in") hval ?_; intro _ _))
        refine c_meet (St.perm (by assumption) SvC.mv3) (by wtm_at "up") (by wtm_at "ok") F (by wtm_at "up") (by wtm_at "up") hinf lo r4 (by lia) ?_
        intro B5 es5 s5 hB5 r5 S5
        replace S5 := S5.perm SvC.mv3.symm
        repeat (first | wtm_at "evi")
        refine Turn.next S5 (hB4.trans hB5) ⟨es5, by wtm_at "lk", by wtm_at "lk", by wtm_at "lk", by wtm_at "lk", by wtm_at "lk", rfl, ?_⟩
        rw [take_step hkk, List.map_append, surveyM_append]; exact r5
      · rintro B4 m4 cs4 s4 hB4 ⟨es4, q1, q2, q3, q4, q5, rfl, r4⟩ S4
        rw [hul, List.take_length] at r4
        repeat (first | wtm_at "evi")
        exact Turn.next S4 (hB1.trans (hB2.trans (hB3.trans hB4))) (fin _ _ _ _ (hB2.trans (hB3.trans hB4)) r4 q1 q2 q3 q4 S4)
  · rintro B1 m1 cs1 s hB1 ⟨es, n1, n2, n3, n4, rfl, r⟩ S
    repeat (first | wtm_at "ev")
    rw [htl, List.take_length] at r
    exact k B1 es _ hB1 r (St.tail (by assumption))
end
/-! ## order of the slots -/
noncomputable def kindM (i : Sv) : Str := if i.count = 1 then "void" else if i.fc < i.lc then "perm" else "temp"
noncomputable def OrdRel (T : List (Int × Sv)) (a b : Int) : Prop := ∀ sa sb, (a, sa) ∈ T → (b, sb) ∈ T → sb.inf.last < sa.inf.last ∨ (sa.inf.last = sb.inf.last ∧ a < b)
noncomputable def IsPerm (T : List (Int × Sv)) (k : Int) : Prop := ∃ sv, (k, sv) ∈ T ∧ sv.inf.kind = ("perm" : Str)
structure OrdOk (T : List (Int × Sv)) (order : List Int) : Prop where
  mem : ∀ k, k ∈ order ↔ IsPerm T k
  sorted : order.Pairwise (OrdRel T)
  nd : order.Nodup
theorem uniqT {α : Type} {T : List (Int × α)} (nd : (T.map (·.1)).Nodup) {k : Int} {a b : α} (h1 : (k, a) ∈ T) (h2 : (k, b) ∈ T) : a = b := by
  induction T with
  | nil => cases h1
  | cons p T ih =>
    rw [List.map_cons, List.nodup_cons] at nd
    rcases List.mem_cons.mp h1 with e1 | g1
    · rcases List.mem_cons.mp h2 with e2 | g2
      · rw [← e1] at e2; cases e2; rfl
      · exact absurd (List.mem_map.mpr ⟨(k, b), g2, by rw [← e1]⟩) nd.1
    · rcases List.mem_cons.mp h2 with e2 | g2
      · exact absurd (List.mem_map.mpr ⟨(k, a), g1, by rw [← e2]⟩) nd.1
      · exact ih nd.2 g1 g2
theorem ins_sorted {T : List (Int × Sv)} {order : List Int} {n : Nat} {k : Int} {sv : Sv} (ndT : (T.map (·.1)).Nodup) (hk : (k, sv) ∈ T) (hs : order.Pairwise (OrdRel T)) (hlt : ∀ a ∈ order, a < k)
    (h1 : ∀ j, n ≤ j → ∀ a, order[j]? = some a → ∀ sa, (a, sa) ∈ T → sa.inf.last < sv.inf.last) (h2 : n = 0 ∨ ∃ a sa, order[n - 1]? = some a ∧ (a, sa) ∈ T ∧ sv.inf.last ≤ sa.inf.last) :
    (order.take n ++ k :: order.drop n).Pairwise (OrdRel T) := by
  have hb : ∀ b ∈ order.drop n, OrdRel T k b := by
    intro b hb sa sb ha hsb
    obtain ⟨j, hj, rfl⟩ := List.getElem_of_mem hb
    have := uniqT ndT ha hk; subst this
    left
    refine h1 (n + j) (by lia) _ ?_ sb hsb
    rw [List.getElem_drop]; exact List.getElem?_eq_getElem _
  have ha : ∀ a ∈ order.take n, OrdRel T a k := by
    intro a ha sa sb hsa hsb
    have := uniqT ndT hsb hk; subst this
    obtain ⟨j, hj, rfl⟩ := List.getElem_of_mem ha
    have hj' : j < n ∧ j < order.length := by simp at hj; lia
    rw [List.getElem_take] at *
    have hm : order[j]'hj'.2 < k := hlt _ (List.getElem_mem _)
    rcases h2 with rfl | ⟨c, sc, hc, hsc, hle⟩
    · lia
    · by_cases e : j = n - 1
      · have : order[j]'hj'.2 = c := by subst e; exact Option.some.inj ((List.getElem?_eq_getElem _).symm.trans hc)
        have e2 := uniqT ndT (this ▸ hsa) hsc
        subst e2
        lia
      · have hlt' := (List.getElem?_eq_some_iff.mp hc).1
        have := (List.pairwise_iff_getElem.mp hs) j (n - 1) hj'.2 hlt' (by lia)
        rw [(List.getElem?_eq_some_iff.mp hc).2] at this
        rcases this sa sc hsa hsc with h | ⟨h, _⟩ <;> lia
  rw [List.pairwise_append]
  refine ⟨hs.sublist (List.take_sublist _ _), List.pairwise_cons.mpr ⟨hb, hs.sublist (List.drop_sublist _ _)⟩, fun a h b hb' => ?_⟩
  rcases List.mem_cons.mp hb' with rfl | hb'
  · exact ha a h
  · obtain ⟨i, hi, rfl⟩ := List.getElem_of_mem h
    obtain ⟨j, hj, rfl⟩ := List.getElem_of_mem hb'
    rw [List.getElem_take, List.getElem_drop]
    exact (List.pairwise_iff_getElem.mp hs) _ _ _ _ (by simp at hi; lia)
theorem IntsAre.take {vs : List Value} {ns : List Int} (h : IntsAre vs ns) : ∀ n, IntsAre (vs.take n) (ns.take n) := by
  induction h with
  | nil => intro n; simp; exact .nil
  | cons a t _ ih => intro n; cases n with
    | zero => exact .nil
    | succ n => exact .cons _ _ (ih n)
theorem IntsAre.drop {vs : List Value} {ns : List Int} (h : IntsAre vs ns) : ∀ n, IntsAre (vs.drop n) (ns.drop n) := by
  induction h with
  | nil => intro n; simp; exact .nil
  | cons a t h ih => intro n; cases n with
    | zero => exact .cons _ _ h
    | succ n => exact ih n
theorem intsAt2 {vs : List Value} {ns : List Int} (h : IntsAre vs ns) {i : Nat} {k : Int} (e : ns[i]? = some k) : ∃ t, vs[i]? = some (.int k t) := by
  have hi := (List.getElem?_eq_some_iff.mp e).1
  have hl := h.length
  have hv : vs[i]? = some (vs[i]'(by lia)) := List.getElem?_eq_getElem _
  obtain ⟨t, q⟩ := intsAt h i _ hv
  refine ⟨t, hv.trans ?_⟩
  rw [q, List.getD_eq_getElem?_getD, e]; rfl
section
variable {K : Wk} {A : Around} {E : Value → Shared → Prop} {z : Shared} {B : View} {R cs : List Cell} {s : Shared} {v : Value} {Q : Value → Shared → Prop} {d : Addr} {m : Str → Option Value} {es : List VE} {T : List (Int × Sv)}
theorem getV {k : Int} (r : RepV K B es T) (nd : (T.map (·.1)).Nodup) (h : k ∈ T.map (·.1)) : ∃ e sv, e ∈ es ∧ e.k = k ∧ valueAt (es.map VE.kv) k = some (.ref e.x) ∧ Inst B e.x (Vi K) e.dx ∧ SvM e.m sv ∧ (k, sv) ∈ T := by
  rw [← r.keys] at h nd
  obtain ⟨e1, e, e2, rfl, hk, h1, h2, hv⟩ := findV h nd
  obtain ⟨T1, p, T2, rfl, r1, ⟨q1, X, hs⟩, r2⟩ := r.split
  refine ⟨e, p.2, by simp, hk, hv, X, hs, ?_⟩
  rw [← hk, q1]; simp
set_option maxHeartbeats 4000000 in
theorem c_kind_of {x dx : Addr} {sv : Sv} (S : St z B ((dx, AtO m) :: cs) s) (W : Lib K B) (O : Ok 2 20 A) (X : Inst B x (Vi K) dx) (hs : SvM m sv)
    (k : ∀ t s', St z B ((dx, AtO m) :: cs) s' → Q (.str (kindM sv) t) s') : wpAny K.M A (call (.ref (fa K "kind_of")) [.ref x]) Q E s := by
  refine r_fnc 21 [("info", .ref x)] S W O (rec_mem (by decide)) rfl (fun _ _ _ => rfl) (locs rfl) (by decide) ?_
  intro A L cd s O S
  obtain ⟨hinf, ⟨t1, h1⟩, ⟨t2, h2⟩, ⟨t3, h3⟩, wi⟩ := hs
  have k' : ∀ w t s', w = kindM sv → St z B ((dx, AtO m) :: cs) s' → Q (.str w t) s' := fun w t s' e S => e ▸ k t s' S
  repeat (first | wtm_at "evi")
  refine Br.split (fun hb => ?_) (fun hb => ?_)
  · repeat (first | wtm_at "evi")
    refine k' _ _ _ ?_ (St.tail (by assumption))
    unfold kindM; rw [if_pos (by simpa using hb)]
  · repeat (first | wtm_at "evi")
    refine Br.split (fun hb2 => ?_) (fun hb2 => ?_)
    · repeat (first | wtm_at "evi")
      refine k' _ _ _ ?_ (St.tail (by assumption))
      unfold kindM; rw [if_neg (by simpa using hb), if_pos (by simpa using hb2)]
    · repeat (first | wtm_at "evi")
      refine k' _ _ _ ?_ (St.tail (by assumption))
      unfold kindM; rw [if_neg (by simpa using hb), if_neg (by simpa using hb2)]
theorem r_join {M : Model} {A : Around} {E : Value → Shared → Prop} {s : Shared} {env : Env} {st : Stmt} {Q : Flow → Shared → Prop} (P : Shared → Prop) (h : wpAny M A (exec st env) (fun f s => f = .next ∧ P s) E s)
    (k : ∀ s, P s → Q .next s) : wpAny M A (exec st env) Q E s :=
  wpAny_mono h (fun f s x => by obtain ⟨rfl, x⟩ := x; exact k s x) fun _ _ x => x
inductive SO1 (T : List (Int × Sv)) (ks : List Int) (dv : Value) (cs : List Cell) (i : Nat) (B' : View) (m' : Str → Option Value) (cs' : List Cell) : Prop
  | mk : ∀ D us order, (m' "infos" = some dv) → (m' "order" = some (.ref D)) → (cs' = (D, LsO us) :: cs) → (IntsAre us order) → ((∀ k, k ∈ order ↔ k ∈ ks.take i ∧ IsPerm T k)) → (order.Pairwise (OrdRel T)) → (order.Nodup) → (order.length ≤ i) → SO1 T ks dv cs i B' m' cs'
inductive SO2 (B₀ : View) (T : List (Int × Sv)) (order : List Int) (dv kv iv : Value) (last : Int) (D : Addr) (cs : List Cell) (n : Nat) (B' : View) (m' : Str → Option Value) (cs' : List Cell) : Prop
  | mk : (Sub B₀ B') → (m' "infos" = some dv) → (m' "order" = some (.ref D)) → (m' "k" = some kv) → (m' "info" = some iv) → ((∃ t, m' "at" = some (.int (n : Int) t))) → (cs' = cs) → (n ≤ order.length) → (∀ j, n ≤ j → ∀ a, order[j]? = some a → ∀ sa, (a, sa) ∈ T → sa.inf.last < last) → SO2 B₀ T order dv kv iv last D cs n B' m' cs'
set_option maxHeartbeats 4000000 in
theorem c_slot_order (S : St z B cs s) (W : Lib K B) (O : Ok 2 20 A) (lo : (d == sysModules) = false) (hd : Has B d (DcO K (es.map VE.kv))) (hes : ∀ e ∈ es, Has B e.dx (AtO e.m)) (r : RepV K B es T) (hz : T.length < 64)
    (k : ∀ D us order s', IntsAre us order → OrdOk T order → order.length ≤ T.length → St z B ((D, LsO us) :: cs) s' → Q (.ref D) s') : wpAny K.M A (call (.ref (fa K "slot_order")) [.ref d]) Q E s := by
  refine r_fnc 22 [("infos", .ref d)] S W O (rec_mem (by decide)) rfl (fun _ _ _ => rfl) (locs rfl) (by decide) ?_
  intro A L cd s O S
  have hel := r.1
  have hkeys := Has.keys hd
  rw [VE.keys, r.keys] at hkeys
  repeat (first | wtm_at "ev")
  refine r_sorted_dc (by assumption) (Ok.handled (by assumption)) (by wtm_at "in") lo (by simp; lia) ?_
  intro Sd us ks s1 hI hp hsrt S1
  rw [VE.keys, r.keys] at hp
  obtain ⟨B1, hB1, pS, S1⟩ := S1.frz (.there .here)
  have hksl : ks.length = T.length := by rw [hp.length_eq, List.length_map]
  have hul := hI.length
  have hnd : ks.Nodup := hp.nodup_iff.mpr hkeys
  repeat (first | wtm_at "ev")
  intro I s2 It S2
  refine r_loop It (SO1 T ks (.ref d) cs) S2 (Sub.refl _) ⟨_, [], [], by wtm_at "lk", by wtm_at "lk", rfl, .nil, by simp, .nil, .nil, by simp⟩ ?_ ?_
  · rintro i B2 m2 cs2 w s3 hB2 hi hw ⟨D, us, order, n1, n2, rfl, hio, hmem, hsort, hndo, hlen⟩ S3
    obtain ⟨kk, hkk⟩ : ∃ kk, ks[i]? = some kk := ⟨_, List.getElem?_eq_getElem (by lia)⟩
    obtain ⟨tk, e⟩ := intsAt2 hI hkk
    rw [hw] at e
    cases e
    have hkT : kk ∈ T.map (·.1) := hp.mem_iff.mp (List.mem_of_getElem? hkk)
    obtain ⟨e, sv, hem, hek, hval, X, hsv, hsT⟩ := getV r hkeys hkT
    have hed := (hes e hem).mono (hB1.trans hB2)
    replace X := X.mono (hB1.trans hB2)
    have hd2 := hd.mono (hB1.trans hB2)
    obtain ⟨⟨t1, t2, t3, t4, t5, h1, h2, h3, h4, h5, h6⟩, -, -, -, -⟩ := id hsv
    have hpm : IsPerm T kk ↔ sv.inf.kind = ("perm" : Str) := ⟨fun ⟨s', a, b⟩ => by rw [uniqT hkeys hsT a]; exact b, fun h => ⟨sv, hsT, h⟩⟩
    have htk : ks.take (i + 1) = ks.take i ++ [kk] := take_step hkk
    have hlt : ∀ a ∈ order, a < kk := by
      intro a ha
      obtain ⟨j, hj, rfl⟩ := List.getElem_of_mem ((hmem a).mp ha).1
      rw [List.getElem_take]
      have hjl : j < i ∧ j < ks.length := by simp at hj; lia
      have q1 := (List.pairwise_iff_getElem.mp hsrt) j i hjl.2 (by lia) hjl.1
      have q2 := (List.pairwise_iff_getElem.mp hnd) j i hjl.2 (by lia) hjl.1
      rw [(List.getElem?_eq_some_iff.mp hkk).2] at q1 q2
      lia
    have hol := hio.length
    repeat (first | wtm_at "evi" | (refine r_item_dc2 (by assumption) (by wtm_at "in") hval ?_; intro _ _))
    refine Br.split (fun hb => ?_) (fun hb => ?_)
    · have hperm := hpm.mpr (by simpa using hb)
      repeat (first | wtm_at "evi")
      refine r_join (fun s5 => ∃ n m3, St z B2 ((L, Lo m3) :: (I, LitO Sd (i + 1)) :: (D, LsO us) :: cs) s5 ∧ n ≤ order.length ∧ m3 "infos" = some (.ref d) ∧ m3 "order" = some (.ref D) ∧ m3 "k" = some (.int kk tk) ∧ (∃ t, m3 "at" = some (.int (n : Int) t)) ∧
        (∀ j, n ≤ j → ∀ a, order[j]? = some a → ∀ sa, (a, sa) ∈ T → sa.inf.last < sv.inf.last) ∧ (n = 0 ∨ ∃ a sa, order[n - 1]? = some a ∧ (a, sa) ∈ T ∧ sv.inf.last ≤ sa.inf.last)) ?_ ?_
      · refine r_while (B := B2) (SO2 B2 T order (.ref d) (.int kk tk) (.ref e.x) sv.inf.last D ((I, LitO Sd (i + 1)) :: (D, LsO us) :: cs)) order.length (by assumption) ⟨Sub.refl _, by wtm_at "lk", by wtm_at "lk", by wtm_at "lk", by wtm_at "lk", ⟨_, by rw [← hol]; wtm_at "lk"⟩, rfl, Nat.le_refl _, fun j hj a ha => ?_⟩ ?_
        · rw [List.getElem?_eq_none (by lia)] at ha; cases ha
        rintro n B3 m3 cs3 s4 ⟨hB3, q1, q2, q3, q4, ⟨ta, q5⟩, rfl, hn, hgt⟩ S4
        repeat (first | wtm_at "evi")
        refine Br.split (fun hb => ?_) (fun hb => ?_)
        · have hn0 : 0 < n := by have := of_decide_eq_true hb; lia
          obtain ⟨k2, hk2⟩ : ∃ k2, order[n - 1]? = some k2 := ⟨_, List.getElem?_eq_getElem (by lia)⟩
          obtain ⟨tk2, hv2⟩ := intsAt2 hio hk2
          have hk2T : k2 ∈ T.map (·.1) := by
            obtain ⟨sv2, a, _⟩ := ((hmem k2).mp (List.mem_of_getElem? hk2)).2; exact List.mem_map.mpr ⟨_, a, rfl⟩
          obtain ⟨e2, sv2, hem2, hek2, hval2, X2, hsv2, hsT2⟩ := getV r hkeys hk2T
          have hed2 := (hes e2 hem2).mono (hB1.trans (hB2.trans hB3))
          have hd3 := hd2.mono hB3
          have X3 := X.mono hB3
          replace X2 := X2.mono (hB1.trans (hB2.trans hB3))
          obtain ⟨⟨u1, u2, u3, u4, u5, g1, g2, g3, g4, g5, g6⟩, -, -, -, -⟩ := id hsv2
          repeat (first | wtm_at "evi" | (refine r_item_ls (k := n - 1) (by wtm_at "in") (by lia) (by lia) hv2 ?_) | (refine r_item_dc2 (by assumption) (by wtm_at "in") hval2 ?_; intro _ _))
          refine Br.split (fun hb2 => ?_) (fun hb2 => ?_)
          · have hlt2 := of_decide_eq_true hb2
            repeat (first | wtm_at "evi")
            refine TurnW.next (by assumption) (k := n - 1) (by lia) ⟨hB3, by wtm_at "lk", by wtm_at "lk", by wtm_at "lk", by wtm_at "lk", ⟨_, by rw [show ((n - 1 : Nat) : Int) = (n : Int) - 1 from by lia]; wtm_at "lk"⟩, rfl, by lia, fun j hj a ha sa hsa => ?_⟩
            by_cases hjn : j = n - 1
            · subst hjn; rw [hk2] at ha; cases ha; rw [uniqT hkeys hsa hsT2]; exact hlt2
            · exact hgt j (by lia) a ha sa hsa
          · have hge2 : sv.inf.last ≤ sv2.inf.last := by have := of_decide_eq_false hb2; lia
            repeat (first | wtm_at "evi")
            exact ⟨rfl, n, m3, St.sub (by assumption) hB3 (List.Sublist.refl _), hn, q1, q2, q3, ⟨ta, q5⟩, hgt, .inr ⟨k2, sv2, hk2, hsT2, hge2⟩⟩
        · have hn0 : n = 0 := by have := of_decide_eq_false hb; lia
          repeat (first | wtm_at "evi")
          exact ⟨rfl, n, m3, St.sub (by assumption) hB3 (List.Sublist.refl _), hn, q1, q2, q3, ⟨ta, q5⟩, hgt, .inl hn0⟩
      · rintro s5 ⟨n, m3, S5, hn, q1, q2, q3, ⟨ta, q4⟩, hgt, hex⟩
        repeat (first | wtm_at "evi")
        refine r_insert (by assumption) (.there (.there .here)) (by lia) (by lia) ?_
        intro s6 S6
        repeat (first | wtm_at "evi")
        have hnd2 : (order.take n ++ kk :: order.drop n).Perm (kk :: order) := by
          refine List.perm_middle.trans ?_
          rw [List.take_append_drop]
        refine Turn.next (by assumption) hB2 ⟨D, _, order.take n ++ kk :: order.drop n, by wtm_at "lk", by wtm_at "lk", rfl, (hio.take n).append (.cons _ _ (hio.drop n)), fun k => ?_, ins_sorted hkeys hsT hsort hlt hgt hex, ?_, ?_⟩
        · rw [hnd2.mem_iff, List.mem_cons, hmem, htk, List.mem_append, List.mem_singleton]
          constructor
          · rintro (rfl | ⟨a, b⟩)
            · exact ⟨.inr rfl, hperm⟩
            · exact ⟨.inl a, b⟩
          · rintro ⟨a | rfl, b⟩
            · exact .inr ⟨a, b⟩
            · exact .inl rfl
        · rw [hnd2.nodup_iff, List.nodup_cons]
          exact ⟨fun h => by have := hlt kk h; lia, hndo⟩
        · rw [hnd2.length_eq, List.length_cons]; lia
    · repeat (first | wtm_at "evi")
      refine Turn.next (by assumption) hB2 ⟨D, us, order, by wtm_at "lk", by wtm_at "lk", rfl, hio, fun k => ?_, hsort, hndo, by lia⟩
      rw [hmem, htk, List.mem_append, List.mem_singleton]
      constructor
      · rintro ⟨a, b⟩; exact ⟨.inl a, b⟩
      · rintro ⟨a | rfl, b⟩
        · exact ⟨a, b⟩
        · exact absurd (hpm.mp b) (by simpa using hb)
  · rintro B2 m2 cs2 s3 hB2 ⟨D, us, order, n1, n2, rfl, hio, hmem, hsort, hndo, hlen⟩ S3
    repeat (first | wtm_at "ev")
    refine k _ us order _ hio ⟨fun k => ?_, hsort, hndo⟩ (by lia) (St.sub (by assumption) (hB1.trans hB2) (by wtm_at "sl"))
    rw [hmem, hul, List.take_length, hp.mem_iff]
    exact ⟨fun h => h.2, fun h => ⟨by obtain ⟨sv, a, _⟩ := h; exact List.mem_map.mpr ⟨_, a, rfl⟩, h⟩⟩
end
/-! ## entries by their place -/
theorem perm_erase {α : Type} : ∀ {l : List α} {i : Nat} {e : α}, l[i]? = some e → l.Perm (e :: l.eraseIdx i)
  | [], i, e, h => by simp at h
  | a :: l, 0, e, h => by simp at h; subst h; simp
  | a :: l, i + 1, e, h => by
    have := perm_erase (l := l) (i := i) (e := e) (by simpa using h)
    simp only [List.eraseIdx_cons_succ]
    exact (this.cons a).trans (.swap _ _ _)
theorem nd_inj {α : Type} {l : List α} (nd : l.Nodup) {i j : Nat} {a : α} (h1 : l[i]? = some a) (h2 : l[j]? = some a) : i = j := by
  obtain ⟨a1, b1⟩ := List.getElem?_eq_some_iff.mp h1
  obtain ⟨a2, b2⟩ := List.getElem?_eq_some_iff.mp h2
  have hp := List.pairwise_iff_getElem.mp nd
  rcases Nat.lt_trichotomy i j with h | h | h
  · exact absurd (b1.trans b2.symm) (hp i j a1 a2 h)
  · exact h
  · exact absurd (b2.trans b1.symm) (hp j i a2 a1 h)
theorem VE.out {es : List VE} {i : Nat} {e : VE} {R : List Cell} (h : es[i]? = some e) : (es.map VE.cell ++ R).Perm (e.cell :: ((es.eraseIdx i).map VE.cell ++ R)) := by
  exact (((perm_erase h).map VE.cell).append_right R)
theorem VE.back {es : List VE} {i : Nat} {e e' : VE} {R : List Cell} (h : es[i]? = some e) : (e'.cell :: ((es.eraseIdx i).map VE.cell ++ R)).Perm ((es.set i e').map VE.cell ++ R) := by
  obtain ⟨hi, rfl⟩ := List.getElem?_eq_some_iff.mp h
  have h2 : (es.set i e')[i]? = some e' := by simp [hi]
  have := (VE.out (R := R) h2).symm
  rwa [List.eraseIdx_set_eq] at this
theorem VE.kv_set {es : List VE} {i : Nat} {e e' : VE} (h : es[i]? = some e) (hk : e'.k = e.k) (hx : e'.x = e.x) : (es.set i e').map VE.kv = es.map VE.kv := by
  refine List.ext_getElem? fun j => ?_
  rw [List.getElem?_map, List.getElem?_map, List.getElem?_set]
  by_cases hj : i = j
  · subst hj
    have hi := (List.getElem?_eq_some_iff.mp h).1
    rw [if_pos rfl, if_pos hi, h]
    simp [VE.kv, hk, hx]
  · rw [if_neg hj]
theorem RepV.set {K : Wk} {B : View} {es : List VE} {T : List (Int × Sv)} {i : Nat} {e' : VE} {p' : Int × Sv} (r : RepV K B es T) (h : VEAt K B e' p') : RepV K B (es.set i e') (T.set i p') := by
  refine ⟨by simp [r.1], fun j a b ha hb => ?_⟩
  rw [List.getElem?_set] at ha hb
  by_cases hj : i = j
  · subst hj
    rw [if_pos rfl] at ha hb
    by_cases hl : i < es.length
    · rw [if_pos hl] at ha
      rw [if_pos (r.1 ▸ hl)] at hb
      cases ha; cases hb; exact h
    · rw [if_neg hl] at ha; cases ha
  · rw [if_neg hj] at ha hb
    exact r.2 j a b ha hb
theorem map_upd {T : List (Int × Sv)} {j : Nat} {p : Int × Sv} {f g : Int × Sv → Int × Sv} (nd : (T.map (·.1)).Nodup) (h : T[j]? = some p) (hg : ∀ q ∈ T, q.1 ≠ p.1 → g q = f q) : T.map g = (T.map f).set j (g p) := by
  refine List.ext_getElem? fun i => ?_
  rw [List.getElem?_set, List.getElem?_map, List.getElem?_map, List.length_map]
  by_cases hj : j = i
  · subst hj
    have := (List.getElem?_eq_some_iff.mp h).1
    rw [if_pos rfl, if_pos this, h]; rfl
  · rw [if_neg hj]
    cases e : T[i]? with
    | none => rfl
    | some q =>
      refine congrArg some (hg q (List.mem_of_getElem? e) fun q1 => hj ?_)
      exact nd_inj nd (a := p.1) (by rw [List.getElem?_map, h]; rfl) (by rw [List.getElem?_map, e, ← q1]; rfl)
/-! ## the survey of a clause -/
noncomputable def goalM (T : List (Int × Sv)) (g : Gl) (at_ chunk : Int) : List (Int × Sv) := termsM (if 0 ≤ g.special then meetM T g.special "special" at_ chunk 1 else T) g.terms "goal" at_ chunk
noncomputable def svUpTo (c : Cla) : Nat → List (Int × Sv)
  | 0 => termsM [] c.args "head" (-1) 0
  | i + 1 => match c.goals[i]? with
    | some g => goalM (svUpTo c i) g i (callsB c i)
    | none => svUpTo c i
theorem sv_step {c : Cla} {i : Nat} {g : Gl} (h : c.goals[i]? = some g) : svUpTo c (i + 1) = goalM (svUpTo c i) g i (callsB c i) := by simp [svUpTo, h]
noncomputable def szG (gs : List Gl) : Nat := (gs.map fun g => 1 + Tm.sizeL g.terms).sum
theorem zip_map {α β : Type} (f : α → β) : ∀ (l : List α) (n : Nat), (l.zipIdx n).map (fun g => f g.1) = l.map f
  | [], n => rfl
  | a :: l, n => by simp [List.zipIdx_cons, zip_map f l]
theorem sum_add (l : List Gl) : szG l = l.length + (l.map fun g => Tm.sizeL g.terms).sum := by
  induction l with
  | nil => rfl
  | cons g l ih => simp only [szG, List.map_cons, List.sum_cons, List.length_cons] at *; lia
theorem size_eq (c : Cla) : c.size = Tm.sizeL c.args + szG c.goals := by
  unfold Cla.size Cla.rows
  rw [sum_add]
  simp only [List.map_cons, List.sum_cons, List.map_map]
  have := zip_map (fun g : Gl => Tm.sizeL g.terms) c.goals 0
  simp only [Function.comp_def] at *
  rw [this]; lia
theorem termsM_len (T : List (Int × Sv)) (ts : List Tm) (p : Str) (g k : Int) : (termsM T ts p g k).length ≤ T.length + Tm.sizeL ts := by
  have h1 := surveyM_len g k (ts.flatMap (termEv p)) T
  have h2 := termsEv_len p ts
  unfold termsM; lia
theorem goalM_len (T : List (Int × Sv)) (g : Gl) (a k : Int) : (goalM T g a k).length ≤ T.length + 1 + Tm.sizeL g.terms := by
  have h2 := meetM_len T g.special "special" a k 1
  by_cases h : 0 ≤ g.special
  · have h1 := termsM_len (meetM T g.special "special" a k 1) g.terms "goal" a k
    unfold goalM; rw [if_pos h]; lia
  · have h1 := termsM_len T g.terms "goal" a k
    unfold goalM; rw [if_neg h]; lia
theorem sv_len (c : Cla) : ∀ i, i ≤ c.goals.length → (svUpTo c i).length + szG (c.goals.drop i) ≤ c.size
  | 0, _ => by have := termsM_len [] c.args "head" (-1) 0; rw [size_eq]; simp [svUpTo] at *; lia
  | i + 1, h => by
    have ih := sv_len c i (by lia)
    have hg : c.goals[i]? = some (c.goals[i]'(by lia)) := List.getElem?_eq_getElem _
    have h1 := goalM_len (svUpTo c i) (c.goals[i]'(by lia)) i (callsB c i)
    rw [sv_step hg]
    have e : c.goals.drop i = c.goals[i]'(by lia) :: c.goals.drop (i + 1) := List.drop_eq_getElem_cons _
    rw [e] at ih
    simp only [szG, List.map_cons, List.sum_cons] at *
    lia
theorem sv_room {c : Cla} {i : Nat} {g : Gl} (h : c.goals[i]? = some g) : (svUpTo c i).length + 1 + Tm.sizeL g.terms ≤ c.size := by
  obtain ⟨hi, rfl⟩ := List.getElem?_eq_some_iff.mp h
  have ih := sv_len c i (by lia)
  have e : c.goals.drop i = c.goals[i] :: c.goals.drop (i + 1) := List.drop_eq_getElem_cons _
  rw [e] at ih
  simp only [szG, List.map_cons, List.sum_cons] at *
  lia
section
variable {K : Wk} {A : Around} {E : Value → Shared → Prop} {z : Shared} {B : View} {R cs : List Cell} {s : Shared} {v : Value} {c : Cla}
inductive SI1 (K : Wk) (c : Cla) (kv gv : Value) (ch sx : Addr) (cvs : List Value) (d : Addr) (R : List Cell) (i : Nat) (B' : View) (m' : Str → Option Value) (cs' : List Cell) : Prop
  | mk : ∀ es, (m' "kernel" = some kv) → (m' "goals" = some gv) → (m' "chunks" = some (.ref ch)) → (m' "survey" = some (.ref sx)) → (m' "needs_env" = some (.bool (innerC c i))) → (cs' = (ch, LsO cvs) :: SvC K d es R) → (RepV K B' es (svUpTo c i)) → SI1 K c kv gv ch sx cvs d R i B' m' cs'
set_option maxHeartbeats 8000000 in
/-- to the end of the survey -/
theorem p_survey {Q : Flow → Shared → Prop} {L : Addr} {cd : Value} (S : St z B ((L, Lo fun y => [(("kernel" : Str), v)].reverse.lookup y) :: cs) s) (W : Lib K B) (O : Ok 8 60 A) (hc : ClAt K B v c) (hz : c.size ≤ 800)
    (k : ∀ B' m' g sx sdx sm d es ch cvs s', Sub B B' → (d == sysModules) = false → m' "goals" = some (.ref g) → (∃ gs, Has B' g (LsO gs) ∧ gs.length = c.goals.length) → m' "chunks" = some (.ref ch) → m' "survey" = some (.ref sx) → m' "needs_env" = some (.bool (innerC c c.goals.length)) →
      Inst B' sx (Su K) sdx → Has B' sdx (AtO sm) → sm "infos" = some (.ref d) → IntsAre cvs ((List.range c.goals.length).map fun j => (callsB c j : Int)) → RepV K B' es (svUpTo c c.goals.length) →
      St z B' ((L, Lo m') :: (ch, LsO cvs) :: SvC K d es cs) s' → wpAny K.M A (execs ((dN 23).body.drop 6) (envX (dN 23).name (dN 23).scope L (fa K "classify") cd [])) Q (fun _ _ => False) s') :
    wpAny K.M A (execs (dN 23).body (envX (dN 23).name (dN 23).scope L (fa K "classify") cd [])) Q (fun _ _ => False) s := by
  obtain ⟨x, dx, m, va, vg, rfl, X, hm, h1, h2, ht, g, gs, rfl, hg, hgs⟩ := hc
  have hgl := hgs.1
  obtain ⟨ta, tvs, rfl, -⟩ := id ht
  have hsz : c.goals.length ≤ 800 := by unfold Cla.size at hz; lia
  repeat (first | wtm_at "ev")
  refine c_chunk_numbers (by assumption) (by wtm_at "up") (by wtm_at "ok") hg hgs hsz ?_
  intro ch cvs s1 hI S1
  replace S1 := S1.perm (.swap _ _ _)
  repeat (first | wtm_at "ev")
  refine c_Survey (by assumption) (by wtm_at "up") (by wtm_at "ok") ?_
  intro sx sdx d sm B1 s2 lo hB1 SX e1 e2 e3 S2
  obtain ⟨B2, hB2, pS, S2⟩ := S2.frz (.there .here)
  replace SX := SX.mono hB2
  replace S2 := S2.perm ((List.Perm.swap _ _ _).trans (.cons _ (.swap _ _ _)))
  repeat (first | wtm_at "ev" | (refine r_m_terms (by assumption) (by wtm_at "up") (by wtm_at "up") (by wtm_at "in") e3 ?_; intro f F))
  refine c_terms (es := []) (T := []) (St.perm (by assumption) SvC.mv2) (by wtm_at "up") (by wtm_at "ok") F SX pS e1 e2 lo All2.nil (by wtm_at "up") ?_ (.inl rfl) ?_
  · rw [size_eq] at hz; simp; lia
  intro B3 es s3 hB3 r S3
  replace S3 := S3.perm SvC.mv2.symm
  repeat (first | wtm_at "ev")
  intro I ItO s4 It S4
  refine r_loop It (SI1 K c (.ref x) (.ref g) ch sx cvs d cs) S4 (Sub.refl _) ⟨es, by wtm_at "lk", by wtm_at "lk", by wtm_at "lk", by wtm_at "lk", by wtm_at "lk", rfl, r⟩ ?_ ?_
  · rintro i B4 m4 cs4 w s hB4 hi ⟨t, rfl⟩ ⟨es, n1, n2, n3, n4, n5, rfl, r⟩ S
    obtain ⟨gl, hgl⟩ : ∃ gl, c.goals[i]? = some gl := ⟨_, List.getElem?_eq_getElem (by lia)⟩
    obtain ⟨gv, hgv, hga⟩ := hgs.at hgl
    have hB := Sub.trans (Sub.trans hB1 hB2) (Sub.trans hB3 hB4)
    replace hga := hga.mono hB
    have hroom := sv_room hgl
    have hW := W.mono hB
    have SX4 := SX.mono (hB3.trans hB4)
    have pS4 := pS.mono (hB3.trans hB4)
    have X4 := X.mono hB
    have hm4 := hm.mono hB
    have hg4 := hg.mono hB
    clear hB
    repeat (first | wtm_at "ev" | (refine r_item_ls (by wtm_at "in") rfl (by lia) hgv ?_))
    refine c_goal_special (by assumption) (by wtm_at "up") (by wtm_at "ok") hga ?_
    intro ts s5 S5
    have hcl : (List.range c.goals.length)[i]? = some i := by rw [List.getElem?_range]; lia
    obtain ⟨tc, hcv⟩ := intsAt2 hI (i := i) (k := (callsB c i : Int)) (by rw [List.getElem?_map, hcl]; rfl)
    repeat (first | wtm_at "ev")
    refine r_if_join (fun s6 => ∃ B5 m5 es5, St z B5 ((L, Lo m5) :: (I, ItO (i + 1)) :: (ch, LsO cvs) :: SvC K d es5 cs) s6 ∧ Sub B4 B5 ∧ m5 "kernel" = some (.ref x) ∧ m5 "goals" = some (.ref g) ∧ m5 "chunks" = some (.ref ch) ∧ m5 "survey" = some (.ref sx) ∧ m5 "needs_env" = some (.bool (innerC c i)) ∧
      m5 "at" = some (.int (i : Int) t) ∧ m5 "goal" = some gv ∧ RepV K B5 es5 (if 0 ≤ gl.special then meetM (svUpTo c i) gl.special "special" i (callsB c i) 1 else svUpTo c i)) ?_ ?_
    · repeat (first | wtm_at "ev")
      refine Br.split (fun hb => ?_) (fun hb => ?_)
      · have hb' : 0 ≤ gl.special := of_decide_eq_true hb
        repeat (first | wtm_at "ev" | (refine r_item_ls (by wtm_at "in") rfl (by lia) hcv ?_) | (refine r_m_meet (by assumption) (by wtm_at "up") (by wtm_at "up") (by wtm_at "in") e2 ?_; intro f F))
        refine c_meet (St.perm (by assumption) SvC.mv3) (by wtm_at "up") (by wtm_at "ok") F (by wtm_at "up") (by wtm_at "up") e1 lo r (by lia) ?_
        intro B5 es5 s6 hB5 r5 S6
        replace S6 := S6.perm SvC.mv3.symm
        repeat (first | wtm_at "ev")
        refine ⟨rfl, B5, _, es5, S6, hB5, by wtm_at "lk", by wtm_at "lk", by wtm_at "lk", by wtm_at "lk", by wtm_at "lk", by wtm_at "lk", by wtm_at "lk", ?_⟩
        rw [if_pos hb']; exact r5
      · have hb' : ¬ 0 ≤ gl.special := of_decide_eq_false hb
        repeat (first | wtm_at "ev")
        refine ⟨rfl, B4, _, es, by assumption, Sub.refl _, by wtm_at "lk", by wtm_at "lk", by wtm_at "lk", by wtm_at "lk", by wtm_at "lk", by wtm_at "lk", by wtm_at "lk", ?_⟩
        rw [if_neg hb']; exact r
    · rintro s6 ⟨B5, m5, es5, S6, hB5, q1, q2, q3, q4, q5, q6, q7, r5⟩
      replace hga := hga.mono hB5
      have hlen5 : (if 0 ≤ gl.special then meetM (svUpTo c i) gl.special "special" i (callsB c i) 1 else svUpTo c i).length ≤ (svUpTo c i).length + 1 := by
        split
        · exact meetM_len ..
        · lia
      repeat (first | wtm_at "ev" | (refine r_m_terms (by assumption) (by wtm_at "up") (by wtm_at "up") (by wtm_at "in") e3 ?_; intro f F))
      refine c_goal_terms (by assumption) (by wtm_at "up") (by wtm_at "ok") hga ?_
      intro tv B6 s7 hB6 htm S7
      repeat (first | wtm_at "ev" | (refine r_item_ls (by wtm_at "in") rfl (by lia) hcv ?_))
      refine c_terms (St.perm (by assumption) SvC.mv3) (by wtm_at "up") (by wtm_at "ok") (by wtm_at "up") (by wtm_at "up") (by wtm_at "up") e1 e2 lo (r5.mono hB6) htm (by lia) (.inr rfl) ?_
      intro B7 es7 s8 hB7 r7 S8
      replace S8 := S8.perm SvC.mv3.symm
      replace hga := hga.mono (hB6.trans hB7)
      obtain ⟨ga, gt, grest, rfl, hgh, hgr⟩ := hga.head
      have hr7 : RepV K B7 es7 (svUpTo c (i + 1)) := by rw [sv_step hgl]; exact r7
      repeat (first | wtm_at "ev")
      refine r_if_join (fun s9 => ∃ m5, St z B7 ((L, Lo m5) :: (I, ItO (i + 1)) :: (ch, LsO cvs) :: SvC K d es7 cs) s9 ∧ m5 "kernel" = some (.ref x) ∧ m5 "goals" = some (.ref g) ∧ m5 "chunks" = some (.ref ch) ∧ m5 "survey" = some (.ref sx) ∧ m5 "needs_env" = some (.bool (innerC c (i + 1)))) ?_ ?_
      · repeat (first | wtm_at "evi" | (refine r_tup0 (by assumption) (by assumption) hgr ?_))
        have hic : innerC c (i + 1) = (innerC c i || (decide (gl.kind = ("call" : Str)) && decide (i + 1 ≠ c.goals.length))) := by
          rw [innerC_step]; unfold innerAt; rw [hgl]
        refine Br.split (fun h1 => ?_) (fun h1 => ?_)
        · repeat (first | wtm_at "evi")
          refine Br.split (fun h2 => ?_) (fun h2 => ?_)
          · have e : innerC c (i + 1) = true := by
              have h2' := of_decide_eq_true h2
              rw [hic, ← beq_dec, h1, decide_eq_true (by lia : i + 1 ≠ c.goals.length)]; simp
            repeat (first | wtm_at "evi")
            exact ⟨rfl, _, by assumption, by wtm_at "lk", by wtm_at "lk", by wtm_at "lk", by wtm_at "lk", by rw [e]; wtm_at "lk"⟩
          · have e : innerC c (i + 1) = innerC c i := by
              have h2' := of_decide_eq_false h2
              rw [hic, decide_eq_false (by lia : ¬ i + 1 ≠ c.goals.length)]; simp
            repeat (first | wtm_at "evi")
            exact ⟨rfl, _, by assumption, by wtm_at "lk", by wtm_at "lk", by wtm_at "lk", by wtm_at "lk", by rw [e]; wtm_at "lk"⟩
        · have e : innerC c (i + 1) = innerC c i := by
            rw [hic, ← beq_dec, h1]; simp
          repeat (first | wtm_at "evi")
          exact ⟨rfl, _, by assumption, by wtm_at "lk", by wtm_at "lk", by wtm_at "lk", by wtm_at "lk", by rw [e]; wtm_at "lk"⟩
      · rintro s9 ⟨m9, S9, y1, y2, y3, y4, y5⟩
        repeat (first | wtm_at "evi")
        exact Turn.next S9 (hB4.trans (hB5.trans (hB6.trans hB7))) ⟨es7, y1, y2, y3, y4, y5, rfl, hr7⟩
  · rintro B4 m4 cs4 s hB4 ⟨es, n1, n2, n3, n4, n5, rfl, r⟩ S
    rw [hgl] at r n5
    wtm_at "ev"
    refine k B4 m4 g sx sdx sm d es ch cvs s (hB1.trans (hB2.trans (hB3.trans hB4))) lo n2 ⟨gs, by wtm_at "up", hgl⟩ n3 n4 n5 (by wtm_at "up") (by wtm_at "up") e1 hI r S
end
/-! ## kinds and slots -/
noncomputable def kinded (i : Sv) : Sv := { i with inf := { i.inf with kind := kindM i } }
noncomputable def kindI (T : List (Int × Sv)) (i : Nat) (p : Int × Sv) : Int × Sv := if p.1 ∈ (T.take i).map (·.1) then (p.1, kinded p.2) else p
noncomputable def kindsT (T : List (Int × Sv)) : List (Int × Sv) := T.map fun p => (p.1, kinded p.2)
theorem SvM.kind {m : Str → Option Value} {i : Sv} (h : SvM m i) (t : Tok) : SvM (upd m "kind" (.str (kindM i) t)) (kinded i) := by
  obtain ⟨⟨t1, t2, t3, t4, t5, h1, h2, h3, h4, h5, h6⟩, ⟨t6, h7⟩, ⟨t7, h8⟩, ⟨t8, h9⟩, wi⟩ := h
  exact ⟨⟨_, _, _, _, _, by wtm_at "lk", by wtm_at "lk", by wtm_at "lk", by wtm_at "lk", by wtm_at "lk", by wtm_at "lk"⟩, ⟨_, by wtm_at "lk"⟩, ⟨_, by wtm_at "lk"⟩, ⟨_, by wtm_at "lk"⟩, by wtm_at "wi"⟩
theorem kindI_zero (T : List (Int × Sv)) : T.map (kindI T 0) = T := by
  conv => rhs; rw [← List.map_id T]
  exact List.map_congr_left fun p _ => by simp [kindI]
theorem kindI_all (T : List (Int × Sv)) : T.map (kindI T T.length) = kindsT T := List.map_congr_left fun p hp => by
  unfold kindI; rw [List.take_length, if_pos (List.mem_map_of_mem hp)]
theorem kindI_at {T : List (Int × Sv)} {i : Nat} {p : Int × Sv} (nd : (T.map (·.1)).Nodup) (h : T[i]? = some p) : kindI T i p = p := by
  unfold kindI; rw [if_neg]
  intro hm
  obtain ⟨q, hq, e⟩ := List.mem_map.mp hm
  obtain ⟨j, hj, rfl⟩ := List.getElem_of_mem hq
  rw [List.getElem_take] at e
  have hj' : j < i ∧ j < T.length := by simp at hj; lia
  have := nd_inj nd (i := i) (j := j) (a := p.1) (by rw [List.getElem?_map, h]; rfl) (by rw [List.getElem?_map, List.getElem?_eq_getElem hj'.2, ← e]; rfl)
  lia
theorem kindI_step {T : List (Int × Sv)} {i : Nat} {p : Int × Sv} (nd : (T.map (·.1)).Nodup) (h : T[i]? = some p) : T.map (kindI T (i + 1)) = (T.map (kindI T i)).set i (p.1, kinded p.2) := by
  have hs : (T.take (i + 1)).map (·.1) = (T.take i).map (·.1) ++ [p.1] := by rw [take_step h, List.map_append]; rfl
  have e : kindI T (i + 1) p = (p.1, kinded p.2) := by unfold kindI; rw [hs, if_pos (by simp)]
  rw [← e]
  refine map_upd nd h fun q hq hne => ?_
  unfold kindI
  rw [hs]
  by_cases hm : q.1 ∈ (T.take i).map (·.1)
  · rw [if_pos hm, if_pos (List.mem_append_left _ hm)]
  · rw [if_neg hm, if_neg]
    intro hm2
    rcases List.mem_append.mp hm2 with h2 | h2
    · exact hm h2
    · exact hne (List.mem_singleton.mp h2)
theorem kindsT_keys (T : List (Int × Sv)) : (kindsT T).map (·.1) = T.map (·.1) := by unfold kindsT; rw [List.map_map]; rfl
section
variable {K : Wk} {A : Around} {E : Value → Shared → Prop} {z : Shared} {B : View} {R cs : List Cell} {s : Shared} {v : Value}
inductive KI (K : Wk) (B : View) (T : List (Int × Sv)) (es : List VE) (d ch : Addr) (gv nv : Value) (cvs : List Value) (R : List Cell) (i : Nat) (B' : View) (m' : Str → Option Value) (cs' : List Cell) : Prop
  | mk : ∀ es', (m' "infos" = some (.ref d)) → (m' "goals" = some gv) → (m' "chunks" = some (.ref ch)) → (m' "needs_env" = some nv) → (cs' = (ch, LsO cvs) :: (es'.map VE.cell ++ R)) → (es'.map VE.kv = es.map VE.kv) → (RepV K B es' (T.map (kindI T i))) → KI K B T es d ch gv nv cvs R i B' m' cs'
set_option maxHeartbeats 8000000 in
theorem p_kinds {Q : Flow → Shared → Prop} {L : Addr} {cd gv nv : Value} {m sm : Str → Option Value} {ch sx sdx d : Addr} {cvs : List Value} {es : List VE} {T : List (Int × Sv)} (S : St z B ((L, Lo m) :: (ch, LsO cvs) :: SvC K d es cs) s) (W : Lib K B) (O : Ok 8 60 A)
    (lo : (d == sysModules) = false) (m1 : m "goals" = some gv) (m2 : m "chunks" = some (.ref ch)) (m3 : m "survey" = some (.ref sx)) (m4 : m "needs_env" = some nv) (X : Inst B sx (Su K) sdx) (hm : Has B sdx (AtO sm)) (hi : sm "infos" = some (.ref d)) (r : RepV K B es T) (hz : T.length < 64)
    (k : ∀ m' D us order es' s', m' "goals" = some gv → m' "chunks" = some (.ref ch) → m' "infos" = some (.ref d) → m' "needs_env" = some nv → m' "order" = some (.ref D) → IntsAre us order → OrdOk (kindsT T) order → order.length ≤ T.length → RepV K B es' (kindsT T) →
      St z B ((L, Lo m') :: (ch, LsO cvs) :: (D, LsO us) :: SvC K d es' cs) s' → wpAny K.M A (execs ((dN 23).body.drop 9) (envX (dN 23).name (dN 23).scope L (fa K "classify") cd [])) Q (fun _ _ => False) s') :
    wpAny K.M A (execs ((dN 23).body.drop 6) (envX (dN 23).name (dN 23).scope L (fa K "classify") cd [])) Q (fun _ _ => False) s := by
  have hel := r.1
  have hnd : (T.map (·.1)).Nodup := by rw [← r.keys]; exact SvC.nodup S (.tail _ (.tail _ (.head _)))
  repeat (first | wtm_at "ev")
  have hoff : B d = none := S.off (d, DcO K (es.map VE.kv)) (.tail _ (.tail _ (.head _)))
  obtain ⟨B1, hB1, pd, S1⟩ := St.frz (by assumption) (.there (.there .here))
  repeat (first | wtm_at "ev")
  intro I ItO s2 It S2
  rw [List.length_map] at It
  refine r_loop It (KI K B T es d ch gv nv cvs cs) S2 (Sub.refl _) ⟨es, by wtm_at "lk", by wtm_at "lk", by wtm_at "lk", by wtm_at "lk", rfl, rfl, by rw [kindI_zero]; exact r⟩ ?_ ?_
  · rintro i B2 m2 cs2 w s3 hB2 hi2 ⟨kk, xv, tk, hkv, rfl⟩ ⟨es', n1, n2, n3, n4, rfl, hkvs, r2⟩ S3
    have hl' : es'.length = es.length := by have := congrArg List.length hkvs; simpa using this
    obtain ⟨e, he⟩ : ∃ e, es'[i]? = some e := ⟨_, List.getElem?_eq_getElem (by lia)⟩
    obtain ⟨p, hp⟩ : ∃ p, T[i]? = some p := ⟨_, List.getElem?_eq_getElem (by lia)⟩
    have hp2 : (T.map (kindI T i))[i]? = some p := by rw [List.getElem?_map, hp]; exact congrArg some (kindI_at hnd hp)
    obtain ⟨q1, X1, hs⟩ := r2.2 i _ _ he hp2
    rw [← hkvs, List.getElem?_map, he] at hkv
    cases hkv
    have hval : valueAt (es.map VE.kv) e.k = some (.ref e.x) := by
      rw [← hkvs]
      refine valueAt_at (i := i) ?_ (by rw [List.getElem?_map, he]; rfl)
      rw [VE.keys, r2.keys, List.map_map]
      have : ((fun x : Int × Sv => x.1) ∘ kindI T i) = (·.1) := by funext q; simp only [Function.comp, kindI]; split <;> rfl
      rw [this]; exact hnd
    replace X1 := X1.mono (hB1.trans hB2)
    have hwi := hs.wi
    replace S3 := S3.perm (.cons _ (((VE.out he).append_left [_, _]).trans List.perm_middle))
    repeat (first | wtm_at "ev" | (refine r_item_dc2 (by assumption) (by wtm_at "in") hval ?_; intro _ _))
    refine c_kind_of (St.perm (by assumption) (.swap _ _ _)) (by wtm_at "up") (by wtm_at "ok") X1 hs ?_
    intro t4 s4 S4
    replace S4 := S4.perm (.swap _ _ _)
    repeat (first | wtm_at "ev" | (refine r_item_dc2 (by assumption) (by wtm_at "in") hval ?_; intro _ _))
    refine Turn.next (St.perm (by assumption) (.cons _ (List.perm_middle.symm.trans ((VE.back (e' := { e with m := upd e.m "kind" (.str (kindM p.2) t4) }) he).append_left [_, _])))) hB2 ⟨es'.set i { e with m := upd e.m "kind" (.str (kindM p.2) t4) }, by wtm_at "lk", by wtm_at "lk", by wtm_at "lk", by wtm_at "lk", rfl, (VE.kv_set (e' := { e with m := upd e.m "kind" (.str (kindM p.2) t4) }) he rfl rfl).trans hkvs, ?_⟩
    rw [kindI_step hnd hp]
    exact r2.set ⟨q1, (r2.2 i _ _ he hp2).2.1, hs.kind _⟩
  · rintro B2 m2 cs2 s3 hB2 ⟨es', n1, n2, n3, n4, rfl, hkvs, r2⟩ S3
    rw [hel, kindI_all] at r2
    have pd2 := pd.mono hB2
    rw [← hkvs] at pd2
    have W2 := W.mono (hB1.trans hB2)
    repeat (first | wtm_at "ev")
    have S4 := St.perm (cs' := es'.map VE.cell ++ ([(L, Lo m2), (ch, LsO cvs)] ++ cs)) (by assumption) (List.perm_append_comm_assoc [(L, Lo m2), (ch, LsO cvs)] _ _)
    obtain ⟨B3, hB3, pes, S5⟩ := cells_frz S4
    refine c_slot_order S5 (by wtm_at "up") (by wtm_at "ok") lo (pd2.mono hB3) (fun e he => pes e.cell (List.mem_map_of_mem he)) (r2.mono (hB1.trans (hB2.trans hB3))) (by unfold kindsT; rw [List.length_map]; exact hz) ?_
    intro D us order s6 hI hO hol S6
    have S7 := S6.thaw hB3 pes S4.offs S4.nds
    have S8 := S7.thaw (B := B) (l := [(d, DcO K (es'.map VE.kv))]) (hB1.trans hB2) (fun c hc => by rw [List.mem_singleton.mp hc]; exact pd2) (fun c hc => by rw [List.mem_singleton.mp hc]; exact hoff) (by simp)
    have S9 := S8.perm (cs' := (L, Lo m2) :: (ch, LsO cvs) :: (D, LsO us) :: SvC K d es' cs) (by
      refine List.Perm.trans (.cons _ (List.perm_append_comm_assoc (es'.map VE.cell) [(D, LsO us), (L, Lo m2), (ch, LsO cvs)] cs)) ?_
      refine (List.perm_middle (l₁ := [(D, LsO us), (L, Lo m2), (ch, LsO cvs)]) (a := (d, DcO K (es'.map VE.kv)))).symm.trans ?_
      exact (List.Perm.swap _ _ _).trans (.cons _ (.swap _ _ _)))
    wtm_at "ev"
    wtm_at "ev"
    refine k _ D us order es' _ ?_ ?_ ?_ ?_ ?_ hI hO (by unfold kindsT at hol; rwa [List.length_map] at hol) r2 (by assumption)
    all_goals wtm_at "lk"
end
/-! ## slots -/
noncomputable def slotted (i : Sv) (n : Int) : Sv := { i with inf := { i.inf with slot := n, risk := i.inf.first == ("goal_arg" : Str) } }
noncomputable def posOf : List Int → Int → Nat
  | [], _ => 0
  | a :: l, k => if a = k then 0 else posOf l k + 1
theorem posOf_at : ∀ {l : List Int} {i : Nat} {k : Int}, l.Nodup → l[i]? = some k → posOf l k = i
  | [], i, k, _, h => by simp at h
  | a :: l, 0, k, _, h => by simp at h; simp [posOf, h]
  | a :: l, i + 1, k, nd, h => by
    have hk : l[i]? = some k := by simpa using h
    have hne : a ≠ k := fun e => (List.nodup_cons.mp nd).1 (by rw [e]; exact List.mem_of_getElem? hk)
    simp [posOf, hne, posOf_at (List.nodup_cons.mp nd).2 hk]
noncomputable def slotI (order : List Int) (i : Nat) (p : Int × Sv) : Int × Sv := if p.1 ∈ order.take i then (p.1, slotted p.2 ((posOf order p.1 : Int) + 1)) else p
noncomputable def slotsT (order : List Int) (T : List (Int × Sv)) : List (Int × Sv) := T.map fun p => if p.1 ∈ order then (p.1, slotted p.2 ((posOf order p.1 : Int) + 1)) else p
theorem slotI_zero (order : List Int) (T : List (Int × Sv)) : T.map (slotI order 0) = T := by
  conv => rhs; rw [← List.map_id T]
  exact List.map_congr_left fun p _ => by simp [slotI]
theorem slotI_all (order : List Int) (T : List (Int × Sv)) : T.map (slotI order order.length) = slotsT order T := List.map_congr_left fun p hp => by
  unfold slotI; rw [List.take_length]
theorem slotI_keys (order : List Int) (i : Nat) (T : List (Int × Sv)) : (T.map (slotI order i)).map (·.1) = T.map (·.1) := by
  rw [List.map_map]
  exact List.map_congr_left fun q _ => by simp only [Function.comp, slotI]; split <;> rfl
theorem slotsT_keys (order : List Int) (T : List (Int × Sv)) : (slotsT order T).map (·.1) = T.map (·.1) := by rw [← slotI_all, slotI_keys]
theorem slotI_at {order : List Int} {i : Nat} {k : Int} {sv : Sv} (nd : order.Nodup) (h : order[i]? = some k) : slotI order i (k, sv) = (k, sv) := by
  unfold slotI; rw [if_neg]
  intro hm
  obtain ⟨j, hj, e⟩ := List.getElem_of_mem hm
  rw [List.getElem_take] at e
  have hj' : j < i ∧ j < order.length := by simp at hj; lia
  have := nd_inj nd h (show order[j]? = some k by rw [List.getElem?_eq_getElem hj'.2, e])
  lia
theorem slotI_step {order : List Int} {T : List (Int × Sv)} {i j : Nat} {k : Int} {sv : Sv} (nd : order.Nodup) (ndT : (T.map (·.1)).Nodup) (h : order[i]? = some k) (hT : T[j]? = some (k, sv)) :
    T.map (slotI order (i + 1)) = (T.map (slotI order i)).set j (k, slotted sv ((i : Int) + 1)) := by
  have hs : order.take (i + 1) = order.take i ++ [k] := take_step h
  have e : slotI order (i + 1) (k, sv) = (k, slotted sv ((i : Int) + 1)) := by unfold slotI; rw [hs, if_pos (by simp), posOf_at nd h]
  rw [← e]
  refine map_upd ndT hT fun q hq hne => ?_
  unfold slotI
  rw [hs]
  by_cases hm : q.1 ∈ order.take i
  · rw [if_pos hm, if_pos (List.mem_append_left _ hm)]
  · rw [if_neg hm, if_neg]
    intro hm2
    rcases List.mem_append.mp hm2 with h2 | h2
    · exact hm h2
    · exact hne (List.mem_singleton.mp h2)
theorem SvM.slot {m : Str → Option Value} {i : Sv} (h : SvM m i) (n : Int) (t : Tok) : SvM (upd (upd m "slot" (.int n t)) "unsafe" (.bool (i.inf.first == ("goal_arg" : Str)))) (slotted i n) := by
  obtain ⟨⟨t1, t2, t3, t4, t5, h1, h2, h3, h4, h5, h6⟩, ⟨t6, h7⟩, ⟨t7, h8⟩, ⟨t8, h9⟩, wi⟩ := h
  exact ⟨⟨_, _, _, _, _, by wtm_at "lk", by wtm_at "lk", by wtm_at "lk", by wtm_at "lk", by wtm_at "lk", by wtm_at "lk"⟩, ⟨_, by wtm_at "lk"⟩, ⟨_, by wtm_at "lk"⟩, ⟨_, by wtm_at "lk"⟩, by wtm_at "wi"⟩
section
variable {K : Wk} {A : Around} {E : Value → Shared → Prop} {z : Shared} {B : View} {R cs : List Cell} {s : Shared} {v : Value}
inductive LI1 (K : Wk) (B : View) (T : List (Int × Sv)) (order : List Int) (d ch D : Addr) (gv nv : Value) (cvs us : List Value) (R : List Cell) (i : Nat) (B' : View) (m' : Str → Option Value) (cs' : List Cell) : Prop
  | mk : ∀ es', (m' "infos" = some (.ref d)) → (m' "goals" = some gv) → (m' "chunks" = some (.ref ch)) → (m' "needs_env" = some nv) → (m' "order" = some (.ref D)) → (cs' = (ch, LsO cvs) :: (D, LsO us) :: SvC K d es' R) → (RepV K B es' (T.map (slotI order i))) → LI1 K B T order d ch D gv nv cvs us R i B' m' cs'
set_option maxHeartbeats 8000000 in
theorem p_slots {Q : Flow → Shared → Prop} {L : Addr} {cd gv nv : Value} {m : Str → Option Value} {ch d D : Addr} {cvs us : List Value} {order : List Int} {es : List VE} {T : List (Int × Sv)} (S : St z B ((L, Lo m) :: (ch, LsO cvs) :: (D, LsO us) :: SvC K d es cs) s) (W : Lib K B) (O : Ok 8 60 A)
    (lo : (d == sysModules) = false) (m1 : m "goals" = some gv) (m2 : m "chunks" = some (.ref ch)) (m3 : m "infos" = some (.ref d)) (m4 : m "needs_env" = some nv) (m5 : m "order" = some (.ref D)) (hI : IntsAre us order) (hO : OrdOk T order) (hz : order.length ≤ 800) (r : RepV K B es T)
    (k : ∀ m' es' s', m' "goals" = some gv → m' "chunks" = some (.ref ch) → m' "infos" = some (.ref d) → m' "needs_env" = some nv → m' "order" = some (.ref D) → RepV K B es' (slotsT order T) →
      St z B ((L, Lo m') :: (ch, LsO cvs) :: (D, LsO us) :: SvC K d es' cs) s' → wpAny K.M A (execs ((dN 23).body.drop 10) (envX (dN 23).name (dN 23).scope L (fa K "classify") cd [])) Q (fun _ _ => False) s') :
    wpAny K.M A (execs ((dN 23).body.drop 9) (envX (dN 23).name (dN 23).scope L (fa K "classify") cd [])) Q (fun _ _ => False) s := by
  have hul := hI.length
  have hndT : (T.map (·.1)).Nodup := by rw [← r.keys]; exact SvC.nodup S (.tail _ (.tail _ (.tail _ (.head _))))
  repeat (first | wtm_at "ev")
  intro I ItO s2 It S2
  refine r_loop It (LI1 K B T order d ch D gv nv cvs us cs) S2 (Sub.refl _) ⟨es, by wtm_at "lk", by wtm_at "lk", by wtm_at "lk", by wtm_at "lk", by wtm_at "lk", rfl, by rw [slotI_zero]; exact r⟩ ?_ ?_
  · rintro i B2 m2 cs2 w s3 hB2 hi ⟨tw, rfl⟩ ⟨es', n1, n2, n3, n4, n5, rfl, r2⟩ S3
    obtain ⟨kk, hkk⟩ : ∃ kk, order[i]? = some kk := ⟨_, List.getElem?_eq_getElem (by lia)⟩
    obtain ⟨tk, hv⟩ := intsAt2 hI hkk
    obtain ⟨sv, hsT, -⟩ := (hO.mem kk).mp (List.mem_of_getElem? hkk)
    obtain ⟨j, hj, hjT⟩ := List.getElem_of_mem hsT
    have hT : T[j]? = some (kk, sv) := by rw [List.getElem?_eq_getElem hj, hjT]
    have hl2 := r2.1
    rw [List.length_map] at hl2
    obtain ⟨e, he⟩ : ∃ e, es'[j]? = some e := ⟨_, List.getElem?_eq_getElem (by lia)⟩
    have hp2 : (T.map (slotI order i))[j]? = some (kk, sv) := by rw [List.getElem?_map, hT]; exact congrArg some (slotI_at hO.nd hkk)
    obtain ⟨q1, X0, hs⟩ := r2.2 j _ _ he hp2
    have hval : valueAt (es'.map VE.kv) kk = some (.ref e.x) := by
      refine valueAt_at (i := j) ?_ (by rw [List.getElem?_map, he]; show some (e.k, _) = _; rw [q1])
      rw [VE.keys, r2.keys, slotI_keys]; exact hndT
    have X1 := X0.mono hB2
    have hwi := hs.wi
    obtain ⟨⟨t1, t2, t3, t4, t5, h1, h2, h3, h4, h5, h6⟩, -, -, -, -⟩ := id hs
    replace S3 := S3.perm (.cons _ (((VE.out he).append_left [_, _, _, _]).trans List.perm_middle))
    repeat (first | wtm_at "ev" | (refine r_item_ls (by wtm_at "in") rfl (by lia) hv ?_) | (refine r_item_dc2 (by assumption) (by wtm_at "in") hval ?_; intro _ _))
    rename_i tq _ _ _ _ _ _ _ _ _ _ _ _ S9
    have hsl := hs.slot ((i : Int) + 1) tq
    have hkv : ∀ M, (es'.set j (VE.mk e.k e.x e.dx M)).map VE.kv = es'.map VE.kv := fun M => VE.kv_set (e' := VE.mk e.k e.x e.dx M) he rfl rfl
    generalize upd (upd e.m "slot" (.int ((i : Int) + 1) tq)) "unsafe" (.bool (sv.inf.first == ("goal_arg" : Str))) = M at S9 hsl
    refine Turn.next (S9.perm (.cons _ (List.perm_middle.symm.trans ((VE.back (e' := VE.mk e.k e.x e.dx M) he).append_left [_, _, _, _])))) hB2 ⟨es'.set j (VE.mk e.k e.x e.dx M), by wtm_at "lk", by wtm_at "lk", by wtm_at "lk", by wtm_at "lk", by wtm_at "lk", ?_, ?_⟩
    · rw [SvC, hkv]; rfl
    · rw [slotI_step hO.nd hndT hkk hT]
      exact r2.set ⟨q1, X0, hsl⟩
  · rintro B2 m2 cs2 s3 hB2 ⟨es', n1, n2, n3, n4, n5, rfl, r2⟩ S3
    rw [hul, slotI_all] at r2
    wtm_at "ev"
    exact k m2 es' s3 n2 n3 n1 n4 n5 r2 (S3.sub hB2 (List.Sublist.refl _))
end
/-! ## live -/
inductive LvOk (T : List (Int × Sv)) (order : List Int) (at_ : Nat) (x : Int)  : Prop
  | mk : ∀ n : Nat, (x = (n : Int)) → (n ≤ order.length) → ((∀ j < n, ∀ a, order[j]? = some a → ∀ sa, (a, sa) ∈ T → (at_ : Int) < sa.inf.last)) → ((∀ a, order[n]? = some a → ∀ sa, (a, sa) ∈ T → sa.inf.last ≤ (at_ : Int))) → LvOk T order at_ x
structure PlnM (m : Str → Option Value) (di ch lv : Addr) (needs : Bool) (env : Int) : Prop where
  infos : m "infos" = some (.ref di)
  chunks : m "chunks" = some (.ref ch)
  needs : m "needs_env" = some (.bool needs)
  env : ∃ t, m "env_size" = some (.int env t)
  live : m "live_after" = some (.ref lv)
  perms : m "perms" = none
  wi : Within m at18
section
variable {K : Wk} {A : Around} {E : Value → Shared → Prop} {z : Shared} {B : View} {R cs : List Cell} {s : Shared} {v : Value}
set_option maxHeartbeats 4000000 in
theorem c_ClausePlan {Q : Value → Shared → Prop} {di ch lv : Addr} {nb : Bool} {env : Int} {t : Tok} (S : St z B cs s) (W : Lib K B) (O : Ok 5 20 A)
    (kk : ∀ x dx m B' s', Sub B B' → Inst B' x (Cp K) dx → PlnM m di ch lv nb env → St z B' ((dx, AtO m) :: cs) s' → Q (.ref x) s') : wpAny K.M A (call (.ref (fa K "ClausePlan")) [.ref di, .ref ch, .bool nb, .int env t, .ref lv]) Q E s := by
  refine r_make S W O c18_mem (i18 S W) m18_0 rfl (fun x => [("self", .ref x), ("infos", .ref di), ("chunks", .ref ch), ("needs_env", .bool nb), ("env_size", .int env t), ("live_after", .ref lv)]) (fun _ _ _ _ _ => rfl) (fun _ => locs rfl) (by decide) ?_
  intro A x dx B' qual L f cd s' O hB X S
  repeat (first | wtm_at "ev")
  refine ⟨rfl, kk x dx _ B' _ hB X ?_ (St.sub (by assumption) (Sub.refl _) (by wtm_at "sl"))⟩
  exact ⟨by wtm_at "lk", by wtm_at "lk", by wtm_at "lk", ⟨_, by wtm_at "lk"⟩, by wtm_at "lk", by wtm_at "lk", by wtm_at "wi"⟩
inductive VI1 (T : List (Int × Sv)) (order : List Int) (d ch D : Addr) (gv nv : Value) (cvs us : List Value) (R : List Cell) (i : Nat) (B' : View) (m' : Str → Option Value) (cs' : List Cell) : Prop
  | mk : ∀ lv lvs live, (m' "infos" = some (.ref d)) → (m' "goals" = some gv) → (m' "chunks" = some (.ref ch)) → (m' "needs_env" = some nv) → (m' "order" = some (.ref D)) → (m' "live_after" = some (.ref lv)) → (cs' = (lv, LsO lvs) :: (ch, LsO cvs) :: (D, LsO us) :: R) → (IntsAre lvs live) → (live.length = i) → (∀ j x, live[j]? = some x → LvOk T order j x) → VI1 T order d ch D gv nv cvs us R i B' m' cs'
inductive VI2 (B₀ : View) (T : List (Int × Sv)) (order : List Int) (d ch D lv : Addr) (gv nv : Value) (at_ : Nat) (t : Tok) (R : List Cell) (n : Nat) (B' : View) (m' : Str → Option Value) (cs' : List Cell) : Prop
  | mk : (Sub B₀ B') → (m' "infos" = some (.ref d)) → (m' "goals" = some gv) → (m' "chunks" = some (.ref ch)) → (m' "needs_env" = some nv) → (m' "order" = some (.ref D)) → (m' "live_after" = some (.ref lv)) → (m' "at" = some (.int (at_ : Int) t)) → (cs' = R) → ∀ l : Nat, (n = order.length - l) → (l ≤ order.length) → ((∃ t, m' "live" = some (.int (l : Int) t))) → (∀ j < l, ∀ a, order[j]? = some a → ∀ sa, (a, sa) ∈ T → (at_ : Int) < sa.inf.last) → VI2 B₀ T order d ch D lv gv nv at_ t R n B' m' cs'
set_option maxHeartbeats 8000000 in
theorem p_live {Q : Flow → Shared → Prop} {L : Addr} {cd : Value} {nb : Bool} {m : Str → Option Value} {ch d D g : Addr} {cvs us gs : List Value} {order : List Int} {es : List VE} {T : List (Int × Sv)} (S : St z B ((L, Lo m) :: (ch, LsO cvs) :: (D, LsO us) :: SvC K d es cs) s) (W : Lib K B) (O : Ok 8 60 A)
    (lo : (d == sysModules) = false) (m1 : m "goals" = some (.ref g)) (m2 : m "chunks" = some (.ref ch)) (m3 : m "infos" = some (.ref d)) (m4 : m "needs_env" = some (.bool nb)) (m5 : m "order" = some (.ref D)) (hg : Has B g (LsO gs)) (hgz : gs.length ≤ 800) (hI : IntsAre us order) (hO : ∀ k ∈ order, k ∈ T.map (·.1)) (hz : order.length ≤ 800) (r : RepV K B es T)
    (k : ∀ px pdx pm B' lv lvs live s', Sub B B' → Inst B' px (Cp K) pdx → PlnM pm d ch lv nb order.length → IntsAre lvs live → live.length = gs.length → (∀ j x, live[j]? = some x → LvOk T order j x) →
      St z B' ((pdx, AtO pm) :: (ch, LsO cvs) :: (lv, LsO lvs) :: SvC K d es cs) s' → Q (.ret (.ref px)) s') :
    wpAny K.M A (execs ((dN 23).body.drop 10) (envX (dN 23).name (dN 23).scope L (fa K "classify") cd [])) Q (fun _ _ => False) s := by
  have hul := hI.length
  have hndT : (T.map (·.1)).Nodup := by rw [← r.keys]; exact SvC.nodup S (.tail _ (.tail _ (.tail _ (.head _))))
  have S4 := S.perm (cs' := SvC K d es ([(L, Lo m), (ch, LsO cvs), (D, LsO us)] ++ cs)) SvC.mv3
  obtain ⟨B1, hB1, pes, S5⟩ := cells_frz (l := (d, DcO K (es.map VE.kv)) :: es.map VE.cell) S4
  have hoff := St.offs (l := (d, DcO K (es.map VE.kv)) :: es.map VE.cell) S4
  have hnds := St.nds (l := (d, DcO K (es.map VE.kv)) :: es.map VE.cell) S4
  have pd := pes _ (.head _)
  have hes : ∀ e ∈ es, Has B1 e.dx (AtO e.m) := fun e he => pes e.cell (.tail _ (List.mem_map_of_mem he))
  have W1 := W.mono hB1
  have hg1 := hg.mono hB1
  simp only at pd
  have S6 : St z B1 ((L, Lo m) :: (ch, LsO cvs) :: (D, LsO us) :: cs) s := S5
  clear S5
  repeat (first | wtm_at "ev")
  intro I ItO s2 It S2
  refine r_loop It (VI1 T order d ch D (.ref g) (.bool nb) cvs us cs) S2 (Sub.refl _) ⟨_, [], [], by wtm_at "lk", by wtm_at "lk", by wtm_at "lk", by wtm_at "lk", by wtm_at "lk", by wtm_at "lk", rfl, .nil, rfl, by simp⟩ ?_ ?_
  · rintro i B2 m2 cs2 w s3 hB2 hi ⟨tw, rfl⟩ ⟨lv, lvs, live, n1, n2, n3, n4, n5, n6, rfl, hL, hll, hlv⟩ S3
    have hlvl := hL.length
    repeat (first | wtm_at "ev")
    refine r_join (fun s5 => ∃ (l : Nat) (tl : Tok) (m3 : Str → Option Value), St z B2 ((L, Lo m3) :: (I, ItO (i + 1)) :: (lv, LsO lvs) :: (ch, LsO cvs) :: (D, LsO us) :: cs) s5 ∧ m3 "infos" = some (.ref d) ∧ m3 "goals" = some (.ref g) ∧ m3 "chunks" = some (.ref ch) ∧ m3 "needs_env" = some (.bool nb) ∧ m3 "order" = some (.ref D) ∧ m3 "live_after" = some (.ref lv) ∧ m3 "live" = some (.int (l : Int) tl) ∧ LvOk T order i (l : Int)) ?_ ?_
    · refine r_while (B := B2) (VI2 B2 T order d ch D lv (.ref g) (.bool nb) i tw ((I, ItO (i + 1)) :: (lv, LsO lvs) :: (ch, LsO cvs) :: (D, LsO us) :: cs)) order.length (by assumption) ⟨Sub.refl _, by wtm_at "lk", by wtm_at "lk", by wtm_at "lk", by wtm_at "lk", by wtm_at "lk", by wtm_at "lk", by wtm_at "lk", rfl, 0, by lia, by lia, ⟨_, by wtm_at "lk"⟩, fun j hj => absurd hj (by lia)⟩ ?_
      rintro n B3 m3 cs3 s4 ⟨hB3, q1, q2, q3, q4, q5, q6, q7, rfl, l, rfl, hle, ⟨tl, q8⟩, hpre⟩ S4
      repeat (first | wtm_at "evi")
      refine Br.split (fun hb => ?_) (fun hb => ?_)
      · have hlt : l < order.length := by have := of_decide_eq_true hb; lia
        obtain ⟨kk, hkk⟩ : ∃ kk, order[l]? = some kk := ⟨_, List.getElem?_eq_getElem hlt⟩
        obtain ⟨tk, hv⟩ := intsAt2 hI hkk
        obtain ⟨e, sv, hem, hek, hval, X, hsv, hsT⟩ := getV r hndT (hO kk (List.mem_of_getElem? hkk))
        have hed := (hes e hem).mono (hB2.trans hB3)
        replace X := X.mono (hB1.trans (hB2.trans hB3))
        have pd3 := pd.mono (hB2.trans hB3)
        have W3 := W1.mono (hB2.trans hB3)
        obtain ⟨⟨u1, u2, u3, u4, u5, g1, g2, g3, g4, g5, g6⟩, -, -, -, -⟩ := id hsv
        repeat (first | wtm_at "evi" | (refine r_item_ls (by wtm_at "in") rfl (by lia) hv ?_) | (refine r_item_dc2 (by assumption) (by wtm_at "in") hval ?_; intro _ _))
        refine Br.split (fun hb2 => ?_) (fun hb2 => ?_)
        · have hgt := of_decide_eq_true hb2
          repeat (first | wtm_at "evi")
          refine TurnW.next (by assumption) (k := order.length - (l + 1)) (by lia) ⟨hB3, by wtm_at "lk", by wtm_at "lk", by wtm_at "lk", by wtm_at "lk", by wtm_at "lk", by wtm_at "lk", by wtm_at "lk", rfl, l + 1, rfl, by lia, ⟨_, by rw [Int.natCast_add]; wtm_at "lk"⟩, fun j hj a ha sa hsa => ?_⟩
          by_cases hjl : j = l
          · subst hjl; rw [hkk] at ha; cases ha; rw [uniqT hndT hsa hsT]; exact hgt
          · exact hpre j (by lia) a ha sa hsa
        · have hle2 := of_decide_eq_false hb2
          repeat (first | wtm_at "evi")
          refine ⟨rfl, l, tl, m3, St.sub (by assumption) hB3 (List.Sublist.refl _), q1, q2, q3, q4, q5, q6, q8, l, rfl, hle, hpre, fun a ha sa hsa => ?_⟩
          rw [hkk] at ha; cases ha; rw [uniqT hndT hsa hsT]; lia
      · have hge : l = order.length := by have := of_decide_eq_false hb; lia
        repeat (first | wtm_at "evi")
        refine ⟨rfl, l, tl, m3, St.sub (by assumption) hB3 (List.Sublist.refl _), q1, q2, q3, q4, q5, q6, q8, l, rfl, hle, hpre, fun a ha sa hsa => ?_⟩
        rw [List.getElem?_eq_none (by lia)] at ha; cases ha
    · rintro s5 ⟨l, tl, m3, S5, q1, q2, q3, q4, q5, q6, q7, hok⟩
      repeat (first | wtm_at "evi")
      refine r_append (by assumption) (.there (.there .here)) (sz_fit (by lia)) ?_
      intro s6 S6
      repeat (first | wtm_at "evi")
      refine Turn.next (by assumption) hB2 ⟨lv, _, live ++ [(l : Int)], by wtm_at "lk", by wtm_at "lk", by wtm_at "lk", by wtm_at "lk", by wtm_at "lk", by wtm_at "lk", rfl, hL.append (.cons _ _ .nil), by simp [hll], fun j x hx => ?_⟩
      by_cases hj : j < live.length
      · rw [List.getElem?_append_left hj] at hx; exact hlv j x hx
      · have hj2 : j = live.length := by have := (List.getElem?_eq_some_iff.mp hx).1; simp at this; lia
        subst hj2
        simp at hx; subst hx
        rw [hll]; exact hok
  · rintro B2 m2 cs2 s3 hB2 ⟨lv, lvs, live, n1, n2, n3, n4, n5, n6, rfl, hL, hll, hlv⟩ S3
    repeat (first | wtm_at "ev")
    have S7 := St.thaw (l := (d, DcO K (es.map VE.kv)) :: es.map VE.cell) (by assumption) (hB1.trans hB2) (fun c hc => (pes c hc).mono hB2) hoff hnds
    rw [hul]
    refine c_ClausePlan S7 W (by wtm_at "ok") ?_
    intro px pdx pm B3 s8 hB3 PX hpm S8
    have S9 := S8.perm (cs' := (pdx, AtO pm) :: (ch, LsO cvs) :: (lv, LsO lvs) :: (L, Lo m2) :: (D, LsO us) :: SvC K d es cs) (by
      refine .cons _ ?_
      refine List.Perm.trans (List.perm_append_comm_assoc ((d, DcO K (es.map VE.kv)) :: es.map VE.cell) [(L, Lo m2), (lv, LsO lvs), (ch, LsO cvs), (D, LsO us)] cs) ?_
      show ((L, Lo m2) :: (lv, LsO lvs) :: (ch, LsO cvs) :: (D, LsO us) :: SvC K d es cs).Perm _
      exact (List.Perm.cons _ (.swap _ _ _)).trans ((List.Perm.swap _ _ _).trans (.cons _ (.swap _ _ _))))
    wtm_at "ev"
    exact k px pdx pm B3 lv lvs live s8 hB3 PX hpm hL hll hlv (S9.sub (Sub.refl _) (by wtm_at "sl"))
end
/-! ## classify -/
noncomputable def svAll (c : Cla) : List (Int × Sv) := svUpTo c c.goals.length
noncomputable def chunksM (c : Cla) : List Int := (List.range c.goals.length).map fun j => (callsB c j : Int)
structure Made (c : Cla) (order live : List Int) (T : List (Int × Sv)) : Prop where
  ord : OrdOk (kindsT (svAll c)) order
  eq : T = slotsT order (kindsT (svAll c))
  len : live.length = c.goals.length
  live : ∀ j x, live[j]? = some x → LvOk T order j x
  ol : order.length ≤ (svAll c).length
/-- a plan that is owned -/
noncomputable abbrev PlC2 (K : Wk) (pdx ch lv d : Addr) (pm : Str → Option Value) (cvs lvs : List Value) (es : List VE) (R : List Cell) : List Cell := (pdx, AtO pm) :: (ch, LsO cvs) :: (lv, LsO lvs) :: SvC K d es R
section
variable {K : Wk} {A : Around} {E : Value → Shared → Prop} {z : Shared} {B : View} {R cs : List Cell} {s : Shared} {v : Value} {c : Cla} {Q : Value → Shared → Prop}
set_option maxHeartbeats 4000000 in
theorem c_classify (S : St z B cs s) (W : Lib K B) (O : Ok 9 63 A) (hc : ClAt K B v c) (hz : c.size ≤ 800) (hT : (svAll c).length < 64)
    (k : ∀ px pdx pm B' d ch cvs lv lvs live order es T s', (d == sysModules) = false → Sub B B' → Inst B' px (Cp K) pdx → PlnM pm d ch lv (innerC c c.goals.length) order.length → IntsAre cvs (chunksM c) → IntsAre lvs live → Made c order live T → RepV K B' es T →
      St z B' (PlC2 K pdx ch lv d pm cvs lvs es cs) s' → Q (.ref px) s') : wpAny K.M A (call (.ref (fa K "classify")) [v]) Q E s := by
  refine r_fnc 23 [("kernel", v)] S W O (rec_mem (by decide)) rfl (fun _ _ _ => rfl) (locs rfl) (by decide) ?_
  intro A L cd s O S
  have hsz : c.goals.length ≤ 800 := by unfold Cla.size at hz; lia
  refine p_survey S W O hc hz ?_
  intro B1 m1 g sx sdx sm d es ch cvs s1 hB1 lo a1 ⟨gs, hg, hgl⟩ a2 a3 a4 SX pS e1 hI r S1
  refine p_kinds S1 (W.mono hB1) O lo a1 a2 a3 a4 SX pS e1 r hT ?_
  intro m2 D us order es2 s2 b1 b2 b3 b4 b5 hIo hO hol r2 S2
  have hT' : order.length < 64 := Nat.lt_of_le_of_lt hol hT
  refine p_slots S2 (W.mono hB1) O lo b1 b2 b3 b4 b5 hIo hO (by lia) r2 ?_
  intro m3 es3 s3 d1 d2 d3 d4 d5 r3 S3
  refine p_live S3 (W.mono hB1) O lo d1 d2 d3 d4 d5 hg (by lia) hIo (fun kk hkk => ?_) (by lia) r3 ?_
  · rw [slotsT_keys]
    obtain ⟨sv, h, _⟩ := (hO.mem kk).mp hkk
    exact List.mem_map.mpr ⟨_, h, rfl⟩
  intro px pdx pm B2 lv lvs live s4 hB2 PX hpm hL hll hlv S4
  exact k px pdx pm B2 d ch cvs lv lvs live order es3 _ s4 lo (hB1.trans hB2) PX hpm hI hL ⟨hO, rfl, hll.trans hgl, hlv, hol⟩ (r3.mono hB2) S4
theorem All2.map {α β γ δ : Type} {P : α → β → Prop} {P' : γ → δ → Prop} {f : α → γ} {g : β → δ} {l : List α} {l' : List β} (x : All2 P l l') (h : ∀ a b, P a b → P' (f a) (g b)) : All2 P' (l.map f) (l'.map g) := by
  refine ⟨by simp [x.1], fun i a b ha hb => ?_⟩
  rw [List.getElem?_map] at ha hb
  cases ea : l[i]? with
  | none => rw [ea] at ha; cases ha
  | some a' =>
    cases eb : l'[i]? with
    | none => rw [eb] at hb; cases hb
    | some b' =>
      rw [ea] at ha; rw [eb] at hb
      cases ha; cases hb
      exact h _ _ (x.2 i _ _ ea eb)
theorem All2.of {α β : Type} {P P' : α → β → Prop} {l : List α} {l' : List β} (x : All2 P l l') (h : ∀ a b, a ∈ l → P a b → P' a b) : All2 P' l l' :=
  ⟨x.1, fun i a b ha hb => h a b (List.mem_of_getElem? ha) (x.2 i a b ha hb)⟩
theorem plan_frz {px pdx ch lv d : Addr} {pm : Str → Option Value} {cvs lvs : List Value} {es : List VE} {T : List (Int × Sv)} {chunks live : List Int} {nb : Bool} {env : Int} {t : Tok} (S : St z B (PlC2 K pdx ch lv d pm cvs lvs es cs) s) (X : Inst B px (Cp K) pdx) (lo : (d == sysModules) = false)
    (h1 : pm "infos" = some (.ref d)) (h2 : pm "chunks" = some (.ref ch)) (h3 : pm "needs_env" = some (.bool nb)) (h4 : pm "env_size" = some (.int env t)) (h5 : pm "live_after" = some (.ref lv)) (hI : IntsAre cvs chunks) (hL : IntsAre lvs live) (r : RepV K B es T) :
    ∃ B', Sub B B' ∧ PlnAt K B' (.ref px) ⟨T.map fun p => (p.1, p.2.inf), chunks, nb, env, live⟩ ∧ St z B' cs s := by
  obtain ⟨B', hB, p, S'⟩ := cells_frz (l := (pdx, AtO pm) :: (ch, LsO cvs) :: (lv, LsO lvs) :: (d, DcO K (es.map VE.kv)) :: es.map VE.cell) S
  refine ⟨B', hB, ⟨px, pdx, pm, d, ch, lv, t, _, _, _, rfl, X.mono hB, p _ (.head _), h1, h2, h3, h4, h5, lo, p _ (.tail _ (.tail _ (.tail _ (.head _)))), ?_, p _ (.tail _ (.head _)), hI, p _ (.tail _ (.tail _ (.head _))), hL⟩, S'⟩
  refine All2.map (All2.of (P' := fun (e : VE) (p : Int × Sv) => VEAt K B e p ∧ Has B' e.dx (AtO e.m)) r fun e b he hv => ⟨hv, p e.cell (.tail _ (.tail _ (.tail _ (.tail _ (List.mem_map_of_mem he)))))⟩) ?_
  rintro e p ⟨⟨hk, hX, hs⟩, hH⟩
  exact ⟨hk, e.x, e.dx, e.m, rfl, hX.mono hB, hH, hs.inf⟩
end
/-! ## the script -/
theorem hole {a : Addr} {P : Obj → Prop} : ∀ {cs : List Cell}, (a, P) ∈ cs → ∃ f : (Obj → Prop) → List Cell, f P = cs ∧ ∀ P1 P2, At a P1 P2 (f P1) (f P2)
  | c :: cs, h => by
    rcases List.mem_cons.mp h with e | h
    · exact ⟨fun P => (a, P) :: cs, by rw [← e], fun _ _ => .here⟩
    · obtain ⟨f, e, hf⟩ := hole h
      exact ⟨fun P => c :: f P, by show c :: f P = _; rw [e], fun _ _ => .there (hf _ _)⟩
section
variable {K : Wk} {A : Around} {E : Value → Shared → Prop} {z : Shared} {B : View} {cs cs' : List Cell} {s : Shared} {v : Value} {Q : Value → Shared → Prop}
theorem St.weaken {a : Addr} {P P' : Obj → Prop} (S : St z B cs s) (u : At a P P' cs cs') (h : ∀ o, s.heap.get? a = some o → P o → P' o) : St z B cs' s where
  gens := S.gens
  drawn := S.drawn
  os := S.os
  base := S.base
  cells := fun c hm => by
    rcases u.mem' S.nd c hm with rfl | ⟨q, _⟩
    · obtain ⟨o, e, p⟩ := S.at u; exact ⟨o, e, h o e p⟩
    · exact S.cells c q
  nd := by rw [u.map]; exact S.nd
  off := fun c hm => by
    rcases u.mem' S.nd c hm with rfl | ⟨q, _⟩
    · exact S.off (a, P) u.mem
    · exact S.off c q
/-- the reel: the script, and how far it was read -/
noncomputable def RlO (sl : Addr) (n : Nat) : Obj → Prop := fun o => ∃ (p : Nat) (t : Tok), p ≤ n ∧ LsO [.ref sl, .int (p : Int) t] o
theorem fmod_bounds {x l : Int} (h : 0 < l) : 0 ≤ x.fmod l ∧ x.fmod l < l := ⟨Int.fmod_nonneg_of_pos x h, Int.fmod_lt_of_pos x h⟩
set_option maxHeartbeats 4000000 in
theorem c_law_pull {rl sl : Addr} {svs : List Value} {ns : List Int} {limit : Int} {tl : Tok} (S : St z B cs s) (W : Lib K B) (O : Ok 2 20 A) (hm : (rl, RlO sl svs.length) ∈ cs) (hs : Has B sl (LsO svs)) (hI : IntsAre svs ns) (hz : svs.length ≤ 100) (hlim : 0 < limit)
    (k : ∀ (w : Nat) t s', (w : Int) < limit → St z B cs s' → Q (.int (w : Int) t) s') : wpAny K.M A (call (.ref (fa K "_law_pull")) [.ref rl, .int limit tl]) Q E s := by
  refine r_fnc 25 [("reel", .ref rl), ("limit", .int limit tl)] S W O (rec_mem (by decide)) rfl (fun _ _ _ => rfl) (locs rfl) (by decide) ?_
  intro A L cd s O S
  obtain ⟨f, rfl, hat⟩ := hole hm
  obtain ⟨o, ho, p, t, hp, hl⟩ := S.cells _ (.tail _ hm)
  have S1 : St z B ((L, Lo fun y => [(("reel" : Str), Value.ref rl), ("limit", .int limit tl)].reverse.lookup y) :: f (LsO [.ref sl, .int (p : Int) t])) s :=
    S.weaken (.there (hat _ _)) fun o' e _ => by rw [ho] at e; cases e; exact hl
  clear S
  have hmem := (hat (LsO [.ref sl, .int (p : Int) t]) (LsO [.ref sl, .int (p : Int) t])).mem
  have k' : ∀ (x : Int) t s' (p' : Nat) t', 0 ≤ x → x < limit → p' ≤ svs.length → ∀ c, St z B (c :: f (LsO [.ref sl, .int (p' : Int) t'])) s' → Q (.int x t) s' := by
    intro x t s' p' t' h0 h1 h2 c S'
    have := k x.toNat t s' (by lia) (S'.tail.weaken (hat _ _) fun o _ h => ⟨p', t', h2, h⟩)
    rwa [show ((x.toNat : Nat) : Int) = x from by lia] at this
  repeat (first | wtm_at "evi" | (refine r_item_ls (k := 1) (by wtm_at "in") rfl (by lia) rfl ?_) | (refine r_item_ls (k := 0) (by wtm_at "in") rfl (by lia) rfl ?_))
  refine Br.split (fun hb => ?_) (fun hb => ?_)
  · repeat (first | wtm_at "evi")
    exact k' 0 _ _ p t (Int.le_refl _) hlim hp _ (by assumption)
  · have hlt : p < svs.length := by have := of_decide_eq_false hb; lia
    have hil := hI.length
    obtain ⟨x, hx⟩ : ∃ x, ns[p]? = some x := ⟨_, List.getElem?_eq_getElem (by lia)⟩
    obtain ⟨tx, hv⟩ := intsAt2 hI hx
    repeat (first | wtm_at "evi" | (refine r_item_ls (k := 1) (by wtm_at "in") rfl (by lia) rfl ?_) | (refine r_item_ls (k := 0) (by wtm_at "in") rfl (by lia) rfl ?_) | (refine r_item_ls (k := p) (by wtm_at "in") rfl (by lia) hv ?_))
    refine r_gitem_ls (k := 1) (by wtm_at "in") rfl (by lia) rfl ?_
    repeat (first | wtm_at "evi")
    refine r_sitem_ls (k := 1) (by assumption) (.there (hat _ _)) rfl (by simp) (by simp) ?_
    intro s2 S2
    have S3 : ∃ t', St z B ((L, Lo (upd (fun y => [(("reel" : Str), Value.ref rl), ("limit", .int limit tl)].reverse.lookup y) "value" (.int x tx))) :: f (LsO [.ref sl, .int ((p + 1 : Nat) : Int) t'])) s2 := ⟨_, by rw [Int.natCast_add]; exact S2⟩
    obtain ⟨t', S3⟩ := S3
    clear S2
    repeat (first | wtm_at "evi")
    refine Br.split (fun hb => ?_) (fun hb => ?_)
    · repeat (first | wtm_at "evi")
      refine r_modi (by assumption) (by lia) ?_
      intro t4 s4 S4
      have := fmod_bounds (x := x) hlim
      wtm_at "ev"
      exact k' _ _ _ (p + 1) t' this.1 this.2 hlt _ (by assumption)
    · repeat (first | wtm_at "evi")
      refine r_modi (by assumption) (by lia) ?_
      intro t4 s4 S4
      have := fmod_bounds (x := -x) hlim
      wtm_at "ev"
      exact k' _ _ _ (p + 1) t' this.1 this.2 hlt _ (by assumption)
end
/-! ## terms from the script -/
structure TmB (n : Nat) (t : Tm) : Prop where
  size : t.size ≤ n
  vars : ∀ k ∈ t.vars, 0 ≤ k ∧ k < 6
noncomputable def szOf : Nat → Nat
  | 0 => 1
  | n + 1 => 1 + 2 * szOf n
theorem sizeL_le {n : Nat} : ∀ {ts : List Tm}, (∀ t ∈ ts, TmB n t) → Tm.sizeL ts ≤ ts.length * n
  | [], _ => by simp [Tm.sizeL]
  | t :: ts, h => by
    have h1 := (h t (.head _)).size
    have h2 := sizeL_le (ts := ts) fun u hu => h u (.tail _ hu)
    simp only [Tm.sizeL, List.length_cons]
    rw [Nat.add_mul]; lia
theorem varsL_ok {n : Nat} : ∀ {ts : List Tm}, (∀ t ∈ ts, TmB n t) → ∀ k ∈ Tm.varsL ts, 0 ≤ k ∧ k < 6
  | [], _, k, hk => by simp [Tm.varsL] at hk
  | t :: ts, h, k, hk => by
    simp only [Tm.varsL, List.mem_append] at hk
    rcases hk with hk | hk
    · exact (h t (.head _)).vars k hk
    · exact varsL_ok (ts := ts) (fun u hu => h u (.tail _ hu)) k hk
section
variable {K : Wk} {A : Around} {E : Value → Shared → Prop} {z : Shared} {B : View} {cs cs' : List Cell} {s : Shared} {v : Value} {Q : Value → Shared → Prop}
theorem kind26 (a b : Value) : ∀ N : Nat, ∀ x ∈ ([(("reel" : Str), a), ("deep", b)] : List (Str × Value)), (dN 26).scope.names.lookup x.1 = some .local ∨ ((dN 26).scope.names.lookup x.1 = some .cell ∧ ((cellsFrom N (dN 26).scope.names []).lookup x.1).isSome = true) := by
  intro N x hx; simp at hx; rcases hx with rfl | rfl <;> exact .inr ⟨by rfl, by rfl⟩
theorem lk26 : ∀ N : Nat, ∀ p ∈ cellsFrom N (dN 26).scope.names [], (cellsFrom N (dN 26).scope.names []).lookup p.1 = some p.2 := by
  intro N p hp
  have e : cellsFrom N (dN 26).scope.names [] = [(("deep" : Str), N + 1), ("reel", N)] := by rfl
  rw [e] at hp ⊢
  simp at hp
  rcases hp with rfl | rfl <;> rfl
set_option maxHeartbeats 8000000 in
theorem c_law_term {rl sl : Addr} {svs : List Value} {ns : List Int} (hI : IntsAre svs ns) (hz : svs.length ≤ 100) : ∀ (deep : Nat) {A : Around} {E : Value → Shared → Prop} {B : View} {cs : List Cell} {s : Shared} {Q : Value → Shared → Prop} {td : Tok}, deep ≤ 2 →
    St z B cs s → Lib K B → Ok (4 + deep) (40 + 3 * deep) A → (rl, RlO sl svs.length) ∈ cs → Has B sl (LsO svs) →
    (∀ v B' t s', Sub B B' → TmAt B' v t → TmB (szOf deep) t → St z B' cs s' → Q v s') → wpAny K.M A (call (.ref (fa K "_law_term")) [.ref rl, .int (deep : Int) td]) Q E s := by
  intro deep
  induction deep with
  | zero =>
    intro A E B cs s Q td hd S W O hm hs k
    refine r_fncC 26 [("reel", .ref rl), ("deep", .int ((0 : Nat) : Int) td)] S W O (rec_mem (by decide)) rfl (fun _ _ _ => rfl) (kind26 _ _) lk26 ?_
    intro A L cl cd s' B1 O hB1 hcl hcells S
    subst hcl
    have hreel : Has B1 (L + 1) (CeV (some (.ref rl))) := hcells "reel" _ (by rfl)
    have hdeep : Has B1 (L + 1 + 1) (CeV (some (.int ((0 : Nat) : Int) td))) := hcells "deep" _ (by rfl)
    repeat (first | wtm_at "evi")
    refine c_law_pull (by assumption) (by wtm_at "up") (by wtm_at "ok") (.tail _ hm) (by wtm_at "up") hI hz (by decide) ?_
    intro w tw s2 hw S2
    repeat (first | wtm_at "evi")
    refine Br.split (fun hb => ?_) (fun hb => ?_)
    · repeat (first | wtm_at "evi")
      exact k _ _ .atom _ (Sub.trans hB1 (by assumption)) (.atom (by assumption)) ⟨by simp [Tm.size, szOf], by simp [Tm.vars]⟩ (St.tail (by assumption))
    · repeat (first | wtm_at "evi")
      refine Br.tt (decide_eq_true (by lia)) ?_
      repeat (first | wtm_at "evi")
      refine c_law_pull (by assumption) (by wtm_at "up") (by wtm_at "ok") (.tail _ hm) (by wtm_at "up") hI hz (by decide) ?_
      intro w2 tw2 s3 hw2 S3
      repeat (first | wtm_at "evi")
      exact k _ _ (.var w2) _ (Sub.trans hB1 (by assumption)) (.var (by assumption)) ⟨by simp [Tm.size, szOf], by simp [Tm.vars]; lia⟩ (St.tail (by assumption))
  | succ deep ih =>
    intro A E B cs s Q td hd S W O hm hs k
    refine r_fncC 26 [("reel", .ref rl), ("deep", .int ((deep + 1 : Nat) : Int) td)] S W O (rec_mem (by decide)) rfl (fun _ _ _ => rfl) (kind26 _ _) lk26 ?_
    intro A L cl cd s' B1 O hB1 hcl hcells S
    subst hcl
    have hreel : Has B1 (L + 1) (CeV (some (.ref rl))) := hcells "reel" _ (by rfl)
    have hdeep : Has B1 (L + 1 + 1) (CeV (some (.int ((deep + 1 : Nat) : Int) td))) := hcells "deep" _ (by rfl)
    have O2 : Ok 2 20 A := O.le (by show 2 ≤ 4 + deep; lia) (by show 20 ≤ 40 + 3 * deep; lia)
    have hpos : 0 < szOf deep := by cases deep <;> simp [szOf] <;> lia
    repeat (first | wtm_at "evi")
    refine Br.tt (decide_eq_true (by lia)) ?_
    repeat (first | wtm_at "evi")
    refine c_law_pull (by assumption) (by wtm_at "up") (by wtm_at "ok") (.tail _ hm) (by wtm_at "up") hI hz (by decide) ?_
    intro w tw s2 hw S2
    repeat (first | wtm_at "evi")
    refine Br.split (fun hb => ?_) (fun hb => ?_)
    · repeat (first | wtm_at "evi")
      exact k _ _ .atom _ (Sub.trans hB1 (by assumption)) (.atom (by assumption)) ⟨by simp [Tm.size, szOf], by simp [Tm.vars]⟩ (St.tail (by assumption))
    repeat (first | wtm_at "evi")
    refine Br.split (fun hb2 => ?_) (fun hb2 => ?_)
    · repeat (first | wtm_at "evi")
      refine c_law_pull (by assumption) (by wtm_at "up") (by wtm_at "ok") (.tail _ hm) (by wtm_at "up") hI hz (by decide) ?_
      intro w2 tw2 s3 hw2 S3
      repeat (first | wtm_at "evi")
      exact k _ _ (.var w2) _ (Sub.trans hB1 (by assumption)) (.var (by assumption)) ⟨by simp [Tm.size, szOf], by simp [Tm.vars]; lia⟩ (St.tail (by assumption))
    repeat (first | wtm_at "evi")
    refine Br.split (fun hb3 => ?_) (fun hb3 => ?_)
    · repeat (first | wtm_at "evi")
      refine c_law_pull (by assumption) (by wtm_at "up") (by wtm_at "ok") (.tail _ hm) (by wtm_at "up") hI hz (by decide) ?_
      intro w2 tw2 s3 hw2 S3
      repeat (first | wtm_at "evi")
      exact k _ _ (.num w2) _ (Sub.trans hB1 (by assumption)) (.num (by assumption)) ⟨by simp [Tm.size, szOf], by simp [Tm.vars]⟩ (St.tail (by assumption))
    repeat (first | wtm_at "evi")
    refine r_comp (z := z) (by rfl) (by decide) (by rfl) (by decide) (by rfl) ?_
    repeat (first | wtm_at "evi")
    refine c_law_pull (by assumption) (by wtm_at "up") (by wtm_at "ok") (.tail _ hm) (by wtm_at "up") hI hz (by decide) ?_
    intro w2 tw2 s3 hw2 S3
    repeat (first | wtm_at "evi")
    intro I ItO s4 It S4
    replace It : Iter K A B1 I ItO (1 + w2) (fun i v => ∃ t, v = Value.int (i : Int) t) := It
    refine ⟨I, _, _, _, B1, _, _, fun i B' ys cs' => cs' = cs ∧ ∃ ts, ts.length = i ∧ All2 (TmAt B') ys ts ∧ ∀ t ∈ ts, TmB (szOf deep) t, rfl, It, by lia, S4, ⟨rfl, [], rfl, All2.nil, (fun t h => nomatch h)⟩, ?_, ?_⟩
    · rintro C D i B' mc ys cs' v s E hB hi hv hl ⟨rfl, ts, htl, hts, htb⟩ hmc S
      have hreel2 := hreel.mono hB
      have hdeep2 := hdeep.mono hB
      repeat (first | wtm_at "evi")
      rw [show ((deep + 1 : Nat) : Int) - 1 = (deep : Int) from by lia]
      refine ih (by lia) (by assumption) (by wtm_at "up") O (.tail _ (.tail _ (.tail _ (.tail _ hm)))) (by wtm_at "up") ?_
      intro v' B2 t s5 hB2 htm hb S5
      exact ⟨B2, cs', hB2, ⟨rfl, ts ++ [t], by simp [htl], (hts.tm hB2).snoc htm, fun u hu => by rcases List.mem_append.mp hu with hu | hu; exact htb u hu; rw [List.mem_singleton.mp hu]; exact hb⟩, S5⟩
    rintro D B' ys cs' s5 hB ⟨rfl, ts, htl, hts, htb⟩ hl S5
    repeat (first | wtm_at "evi")
    refine r_tuple_ls (by assumption) (by wtm_at "in") (by lia) ?_
    intro td2 B2 s6 hB2 htp S6
    repeat (first | wtm_at "evi")
    have hsz := sizeL_le htb
    have hlen : ts.length ≤ 2 := by lia
    have hmul : ts.length * szOf deep ≤ 2 * szOf deep := Nat.mul_le_mul_right _ hlen
    refine k _ _ (.str ts) _ (Sub.trans hB1 (Sub.trans hB (Sub.trans hB2 (by assumption)))) (.str (by assumption) (by wtm_at "up") hts.1 fun i v x e1 e2 => ((hts.2 i v x e1 e2).mono hB2).mono (by assumption)) ⟨by simp only [Tm.size, szOf]; lia, fun kk hk => varsL_ok htb kk (by simpa [Tm.vars] using hk)⟩ (St.sub (by assumption) (Sub.refl _) (by wtm_at "sl"))
theorem kind27 (a : Value) : ∀ N : Nat, ∀ x ∈ ([(("reel" : Str), a)] : List (Str × Value)), (dN 27).scope.names.lookup x.1 = some .local ∨ ((dN 27).scope.names.lookup x.1 = some .cell ∧ ((cellsFrom N (dN 27).scope.names []).lookup x.1).isSome = true) := by
  intro N x hx; simp at hx; rcases hx with rfl; exact .inr ⟨by rfl, by rfl⟩
theorem lk27 : ∀ N : Nat, ∀ p ∈ cellsFrom N (dN 27).scope.names [], (cellsFrom N (dN 27).scope.names []).lookup p.1 = some p.2 := by
  intro N p hp
  have e : cellsFrom N (dN 27).scope.names [] = [(("reel" : Str), N)] := by rfl
  rw [e] at hp ⊢
  simp at hp
  rcases hp with rfl; rfl
set_option maxHeartbeats 8000000 in
theorem c_law_terms {rl sl : Addr} {svs : List Value} {ns : List Int} (hI : IntsAre svs ns) (hz : svs.length ≤ 100) (S : St z B cs s) (W : Lib K B) (O : Ok 7 49 A) (hm : (rl, RlO sl svs.length) ∈ cs) (hs : Has B sl (LsO svs))
    (k : ∀ v B' ts s', Sub B B' → TmsAt B' v ts → ts.length ≤ 3 → (∀ t ∈ ts, TmB 7 t) → St z B' cs s' → Q v s') : wpAny K.M A (call (.ref (fa K "_law_terms")) [.ref rl]) Q E s := by
  refine r_fncC 27 [("reel", .ref rl)] S W O (rec_mem (by decide)) rfl (fun _ _ _ => rfl) (kind27 _) lk27 ?_
  intro A L cl cd s' B1 O hB1 hcl hcells S
  subst hcl
  have hreel : Has B1 (L + 1) (CeV (some (.ref rl))) := hcells "reel" _ (by rfl)
  repeat (first | wtm_at "evi")
  refine r_comp (z := z) (by rfl) (by decide) (by rfl) (by decide) (by rfl) ?_
  repeat (first | wtm_at "evi")
  refine c_law_pull (by assumption) (by wtm_at "up") (by wtm_at "ok") (.tail _ hm) (by wtm_at "up") hI hz (by decide) ?_
  intro w2 tw2 s3 hw2 S3
  repeat (first | wtm_at "evi")
  intro I ItO s4 It S4
  refine ⟨I, _, _, _, B1, _, _, fun i B' ys cs' => cs' = cs ∧ ∃ ts, ts.length = i ∧ All2 (TmAt B') ys ts ∧ ∀ t ∈ ts, TmB 7 t, rfl, It, by lia, S4, ⟨rfl, [], rfl, All2.nil, (fun t h => nomatch h)⟩, ?_, ?_⟩
  · rintro C D i B' mc ys cs' v s E hB hi hv hl ⟨rfl, ts, htl, hts, htb⟩ hmc S
    have hreel2 := hreel.mono hB
    repeat (first | wtm_at "evi")
    refine c_law_term hI hz 2 (by lia) (by assumption) (by wtm_at "up") O (.tail _ (.tail _ (.tail _ (.tail _ hm)))) (by wtm_at "up") ?_
    intro v' B2 t s5 hB2 htm hb S5
    exact ⟨B2, cs', hB2, ⟨rfl, ts ++ [t], by simp [htl], (hts.tm hB2).snoc htm, fun u hu => by rcases List.mem_append.mp hu with hu | hu; exact htb u hu; rw [List.mem_singleton.mp hu]; exact hb⟩, S5⟩
  rintro D B' ys cs' s5 hB ⟨rfl, ts, htl, hts, htb⟩ hl S5
  repeat (first | wtm_at "evi")
  refine r_tuple_ls (by assumption) (by wtm_at "in") (by lia) ?_
  intro td2 B2 s6 hB2 htp S6
  repeat (first | wtm_at "evi")
  exact k _ _ ts _ (Sub.trans hB1 (Sub.trans hB hB2)) ⟨td2, ys, rfl, htp, hts.tm hB2⟩ (by lia) htb (St.sub (by assumption) (Sub.refl _) (by wtm_at "sl"))
end
/-! ## the clause from the script -/
structure GlB (g : Gl) : Prop where
  size : Tm.sizeL g.terms ≤ 21
  vars : ∀ k ∈ Tm.varsL g.terms, 0 ≤ k ∧ k < 6
structure ClaOk (c : Cla) : Prop where
  n : c.goals.length ≤ 4
  size : Tm.sizeL c.args ≤ 21
  vars : ∀ k ∈ Tm.varsL c.args, 0 ≤ k ∧ k < 6
  goals : ∀ g ∈ c.goals, GlB g
theorem GlB.of {g : Gl} (h1 : g.terms.length ≤ 3) (h : ∀ t ∈ g.terms, TmB 7 t) : GlB g := ⟨by have := sizeL_le h; lia, varsL_ok h⟩
theorem TmB.le {n m : Nat} {t : Tm} (h : TmB n t) (hm : n ≤ m) : TmB m t := ⟨by have := h.size; lia, h.vars⟩
section
variable {K : Wk} {A : Around} {E : Value → Shared → Prop} {z : Shared} {B : View} {cs cs' : List Cell} {s : Shared} {v : Value} {Q : Value → Shared → Prop}
set_option maxHeartbeats 4000000 in
theorem c_Kernel {x1 x2 : Int} {t1 t2 : Tok} {va vg : Value} (S : St z B cs s) (W : Lib K B) (O : Ok 5 20 A)
    (kk : ∀ x dx m B' s', Sub B B' → Inst B' x (Kc K) dx → m "args" = some va → m "goals" = some vg → St z B' ((dx, AtO m) :: cs) s' → Q (.ref x) s') : wpAny K.M A (call (.ref (fa K "KernelClause")) [.int x1 t1, va, vg, .int x2 t2]) Q E s := by
  refine r_make S W O c2_mem (i2 S W) m2_0 rfl (fun x => [("self", .ref x), ("functor", .int x1 t1), ("args", va), ("goals", vg), ("count", .int x2 t2)]) (fun _ _ _ _ _ => rfl) (fun _ => locs rfl) (by decide) ?_
  intro A x dx B' qual L f cd s' O hB X S
  repeat (first | wtm_at "ev")
  refine ⟨rfl, kk x dx _ B' _ hB X ?_ ?_ (St.sub (by assumption) (Sub.refl _) (by wtm_at "sl"))⟩
  all_goals wtm_at "lk"
inductive LCI (rl : Addr) (va : Value) (cs : List Cell) (i : Nat) (B' : View) (m' : Str → Option Value) (cs' : List Cell) : Prop
  | mk : ∀ gl gvs gls, (m' "reel" = some (.ref rl)) → (m' "args" = some va) → (m' "goals" = some (.ref gl)) → (cs' = (gl, LsO gvs) :: cs) → (All2 (GlAt B') gvs gls) → (gls.length = i) → (∀ g ∈ gls, GlB g) → LCI rl va cs i B' m' cs'
theorem fmod2 (i : Nat) : (i : Int).fmod 2 = ((i % 2 : Nat) : Int) := by
  rw [Int.fmod_eq_emod_of_nonneg _ (by decide)]; lia
set_option maxHeartbeats 8000000 in
theorem c_law_clause {rl sl : Addr} {svs : List Value} {ns : List Int} (hI : IntsAre svs ns) (hz : svs.length ≤ 100) (S : St z B cs s) (W : Lib K B) (O : Ok 8 52 A) (hm : (rl, RlO sl svs.length) ∈ cs) (hs : Has B sl (LsO svs))
    (k : ∀ v B' c s', Sub B B' → ClAt K B' v c → ClaOk c → St z B' cs s' → Q v s') : wpAny K.M A (call (.ref (fa K "_law_clause")) [.ref rl]) Q E s := by
  refine r_fnc 28 [("reel", .ref rl)] S W O (rec_mem (by decide)) rfl (fun _ _ _ => rfl) (locs rfl) (by decide) ?_
  intro A L cd s O S
  repeat (first | wtm_at "evi")
  refine c_law_terms hI hz (by assumption) (by wtm_at "up") (by wtm_at "ok") (.tail _ hm) (by wtm_at "up") ?_
  intro va B1 ts s1 hB1 hta htl htb S1
  repeat (first | wtm_at "evi")
  refine c_law_pull (by assumption) (by wtm_at "up") (by wtm_at "ok") (.tail _ (.tail _ hm)) (by wtm_at "up") hI hz (by decide) ?_
  intro w tw s2 hw S2
  repeat (first | wtm_at "evi")
  intro I ItO s3 It S3
  refine r_loop It (LCI rl va cs) S3 (Sub.refl _) ⟨_, [], [], by wtm_at "lk", by wtm_at "lk", by wtm_at "lk", rfl, All2.nil, rfl, (fun g h => nomatch h)⟩ ?_ ?_
  · rintro i B2 m2 cs2 x s4 hB2 hi ⟨tx, rfl⟩ ⟨gl, gvs, gls, n1, n2, n3, rfl, hgs, hgl, hgb⟩ S4
    have hgvl := hgs.1
    have hs2 := hs.mono (hB1.trans hB2)
    have W2 := W.mono (hB1.trans hB2)
    have fin : ∀ {B3 : View} {m3 : Str → Option Value} {gv : Value} {g : Gl}, Sub B2 B3 → GlAt B3 gv g → GlB g → m3 "reel" = some (.ref rl) → m3 "args" = some va → m3 "goals" = some (.ref gl) → LCI rl va cs (i + 1) B3 m3 ((gl, LsO (gvs ++ [gv])) :: cs) := by
      intro B3 m3 gv g hB3 hg hb q1 q2 q3
      exact ⟨gl, _, gls ++ [g], q1, q2, q3, rfl, (hgs.gl hB3).snoc hg, by simp [hgl], fun u hu => by rcases List.mem_append.mp hu with hu | hu; exact hgb u hu; rw [List.mem_singleton.mp hu]; exact hb⟩
    repeat (first | wtm_at "evi")
    refine c_law_pull (by assumption) (by wtm_at "up") (by wtm_at "ok") (.tail _ (.tail _ (.tail _ hm))) (by wtm_at "up") hI hz (by decide) ?_
    intro w2 tw2 s5 hw2 S5
    repeat (first | wtm_at "evi")
    refine Br.split (fun hb => ?_) (fun hb => ?_)
    · repeat (first | wtm_at "evi")
      refine c_law_terms hI hz (by assumption) (by wtm_at "up") (by wtm_at "ok") (.tail _ (.tail _ (.tail _ hm))) (by wtm_at "up") ?_
      intro tv B3 us s6 hB3 htv hul hub S6
      repeat (first | wtm_at "evi")
      refine r_append (by assumption) (.there (.there .here)) (sz_fit (by lia)) ?_
      intro s7 S7
      repeat (first | wtm_at "evi")
      exact Turn.next (by assumption) (hB2.trans (hB3.trans (by assumption))) (fin (hB3.trans (by assumption)) (.call (by assumption) (htv.mono (by assumption))) (GlB.of hul hub) (by wtm_at "lk") (by wtm_at "lk") (by wtm_at "lk"))
    repeat (first | wtm_at "evi")
    refine Br.split (fun hb => ?_) (fun hb => ?_)
    · repeat (first | wtm_at "evi")
      refine c_law_terms hI hz (by assumption) (by wtm_at "up") (by wtm_at "ok") (.tail _ (.tail _ (.tail _ hm))) (by wtm_at "up") ?_
      intro tv B3 us s6 hB3 htv hul hub S6
      repeat (first | wtm_at "evi")
      refine r_append (by assumption) (.there (.there .here)) (sz_fit (by lia)) ?_
      intro s7 S7
      repeat (first | wtm_at "evi")
      exact Turn.next (by assumption) (hB2.trans (hB3.trans (by assumption))) (fin (hB3.trans (by assumption)) (.builtin (by assumption) (htv.mono (by assumption))) (GlB.of hul hub) (by wtm_at "lk") (by wtm_at "lk") (by wtm_at "lk"))
    repeat (first | wtm_at "evi")
    refine Br.split (fun hb => ?_) (fun hb => ?_)
    · repeat (first | wtm_at "evi")
      refine c_law_term hI hz 1 (by lia) (by assumption) (by wtm_at "up") (by wtm_at "ok") (.tail _ (.tail _ (.tail _ hm))) (by wtm_at "up") ?_
      intro tv B3 u1 s6 hB3 htv hub S6
      repeat (first | wtm_at "evi")
      refine c_law_term hI hz 2 (by lia) (by assumption) (by wtm_at "up") (by wtm_at "ok") (.tail _ (.tail _ (.tail _ hm))) (by wtm_at "up") ?_
      intro tv2 B4 u2 s7 hB4 htv2 hub2 S7
      repeat (first | wtm_at "evi")
      refine r_append (by assumption) (.there (.there .here)) (sz_fit (by lia)) ?_
      intro s8 S8
      repeat (first | wtm_at "evi")
      refine Turn.next (by assumption) (hB2.trans (hB3.trans (hB4.trans (by assumption)))) (fin (hB3.trans (hB4.trans (by assumption))) (.unify (by assumption) (htv.mono (hB4.trans (by assumption))) (htv2.mono (by assumption))) (GlB.of (by simp [Gl.terms]) ?_) (by wtm_at "lk") (by wtm_at "lk") (by wtm_at "lk"))
      intro t ht
      simp only [Gl.terms, List.mem_cons, List.not_mem_nil, or_false] at ht
      rcases ht with rfl | rfl
      · exact hub.le (by decide)
      · exact hub2
    repeat (first | wtm_at "evi")
    refine Br.split (fun hb => ?_) (fun hb => ?_)
    · repeat (first | wtm_at "evi")
      refine r_modi (by assumption) (by decide) ?_
      intro t6 s6 S6
      have hno : ∀ g : Gl, g.terms = [] → GlB g := fun g h => GlB.of (by simp [h]) (by simp [h])
      rcases Nat.mod_two_eq_zero_or_one i with hi2 | hi2
      · rw [fmod2, hi2]
        repeat (first | wtm_at "evi" | (refine r_item_ls (k := 0) (by wtm_at "in") rfl (by lia) rfl ?_))
        refine r_append (by assumption) (.there (.there (.there .here))) (sz_fit (by lia)) ?_
        intro s8 S8
        repeat (first | wtm_at "evi")
        exact Turn.next (St.sub (by assumption) (Sub.refl _) (by wtm_at "sl")) (hB2.trans (by assumption)) (fin (by assumption) (.level (by assumption)) (hno _ rfl) (by wtm_at "lk") (by wtm_at "lk") (by wtm_at "lk"))
      · rw [fmod2, hi2]
        repeat (first | wtm_at "evi" | (refine r_item_ls (k := 1) (by wtm_at "in") rfl (by lia) rfl ?_))
        refine r_append (by assumption) (.there (.there (.there .here))) (sz_fit (by lia)) ?_
        intro s8 S8
        repeat (first | wtm_at "evi")
        exact Turn.next (St.sub (by assumption) (Sub.refl _) (by wtm_at "sl")) (hB2.trans (by assumption)) (fin (by assumption) (.mark (by assumption)) (hno _ rfl) (by wtm_at "lk") (by wtm_at "lk") (by wtm_at "lk"))
    repeat (first | wtm_at "evi")
    refine Br.split (fun hb => ?_) (fun hb => ?_)
    · repeat (first | wtm_at "evi")
      refine r_append (by assumption) (.there (.there .here)) (sz_fit (by lia)) ?_
      intro s8 S8
      repeat (first | wtm_at "evi")
      exact Turn.next (by assumption) (hB2.trans (by assumption)) (fin (by assumption) (.cutto (by assumption)) (GlB.of (by simp [Gl.terms]) (by simp [Gl.terms])) (by wtm_at "lk") (by wtm_at "lk") (by wtm_at "lk"))
    · repeat (first | wtm_at "evi")
      refine r_append (by assumption) (.there (.there .here)) (sz_fit (by lia)) ?_
      intro s8 S8
      repeat (first | wtm_at "evi")
      exact Turn.next (by assumption) (hB2.trans (by assumption)) (fin (by assumption) (.cut (by assumption)) (GlB.of (by simp [Gl.terms]) (by simp [Gl.terms])) (by wtm_at "lk") (by wtm_at "lk") (by wtm_at "lk"))
  · rintro B2 m2 cs2 s4 hB2 ⟨gl, gvs, gls, n1, n2, n3, rfl, hgs, hgl, hgb⟩ S4
    have W2 := W.mono (hB1.trans hB2)
    repeat (first | wtm_at "evi")
    refine c_Kernel (by assumption) (by wtm_at "up") (by wtm_at "ok") ?_
    intro kx kdx km B3 s5 hB3 KX e1 e2 S5
    obtain ⟨B4, hB4, pk, S6⟩ := S5.frz .here
    obtain ⟨B5, hB5, pg, S7⟩ := S6.frz (.there .here)
    have hall := hB3.trans (hB4.trans hB5)
    wtm_at "ev"
    refine k _ B5 ⟨ts, gls⟩ _ (hB1.trans (hB2.trans hall)) ⟨kx, kdx, km, va, _, rfl, KX.mono (hB4.trans hB5), pk.mono hB5, e1, e2, hta.mono (hB2.trans hall), gl, gvs, rfl, pg, hgs.gl hall⟩ ⟨by simp only [hgl]; lia, by have := sizeL_le htb; show Tm.sizeL ts ≤ 21; lia, varsL_ok htb, hgb⟩ (St.tail S7)
end
/-! ## the places, once more -/
inductive FoAt (B : View) (v : Value) (e : Ev)  : Prop
  | mk : ∀ a t1 t2 t3, (v = .ref a) → (Has B a (TpO [.int e.1 t1, .int e.2.1 t2, .str e.2.2 t3])) → FoAt B v e
theorem FoAt.mono {B B' : View} {v : Value} {e : Ev} (h : Sub B B') (x : FoAt B v e) : FoAt B' v e := let ⟨a, t1, t2, t3, q, r⟩ := x; ⟨a, t1, t2, t3, q, r.mono h⟩
theorem All2.fo {B B' : View} {vs : List Value} {ts : List Ev} (h : Sub B B') (x : All2 (FoAt B) vs ts) : All2 (FoAt B') vs ts := x.imp fun _ _ => FoAt.mono h
theorem cut_word {p outer : Str} (hp : p = ("head" : Str) ∨ p = ("goal" : Str)) (ho : outer = wArg p ∨ outer = wStr p) : Txt.slice outer none (some 4) = p ∧ outer.length ≤ 20 ∧ p.length + ("_struct" : Str).length ≤ 1000 := by
  rcases hp with rfl | rfl <;> rcases ho with rfl | rfl <;> decide +kernel
section
variable {K : Wk} {A : Around} {E : Value → Shared → Prop} {z : Shared} {B : View} {cs cs' : List Cell} {s : Shared} {v : Value} {Q : Value → Shared → Prop}
inductive WKI (K : Wk) (evs : List Ev) (ts : List Tm) (at_ : Int) (p : Str) (fd : Addr) (tv ov gv : Value) (cs : List Cell) (i : Nat) (B' : View) (m' : Str → Option Value) (cs' : List Cell) : Prop
  | mk : ∀ fvs, (m' "term" = some tv) → (m' "outer" = some ov) → (m' "goal_at" = some gv) → (m' "found" = some (.ref fd)) → (cs' = (fd, LsO fvs) :: cs) → (All2 (FoAt B') fvs (evs ++ ((ts.take i).map fun t => (t, wStr p)).flatMap (itemEv at_ p))) → WKI K evs ts at_ p fd tv ov gv cs i B' m' cs'
set_option maxHeartbeats 8000000 in
theorem c_law_walk : ∀ (n : Nat) {A : Around} {E : Value → Shared → Prop} {B : View} {cs : List Cell} {s : Shared} {Q : Value → Shared → Prop} {fd : Addr} {fvs : List Value} {evs : List Ev} {tv : Value} {t : Tm} {p outer : Str} {at_ : Int} {t1 t2 : Tok},
    t.size ≤ n → St z B ((fd, LsO fvs) :: cs) s → Lib K B → Ok (4 + n) (20 + 3 * n) A → TmAt B tv t → All2 (FoAt B) fvs evs → evs.length + t.size ≤ 800 → (p = ("head" : Str) ∨ p = ("goal" : Str)) → (outer = wArg p ∨ outer = wStr p) →
    (∀ B' fvs' s', Sub B B' → All2 (FoAt B') fvs' (evs ++ itemEv at_ p (t, outer)) → St z B' ((fd, LsO fvs') :: cs) s' → Q .none s') → wpAny K.M A (call (.ref (fa K "_law_walk")) [tv, .str outer t1, .int at_ t2, .ref fd]) Q E s := by
  intro n
  induction n with
  | zero => intro A E B cs s Q fd fvs evs tv t p outer at_ t1 t2 hn; have := t.size_pos; lia
  | succ n ih =>
    intro A E B cs s Q fd fvs evs tv t p outer at_ t1 t2 hn S W O ht hf hz hp ho k
    refine r_fnc 29 [("term", tv), ("outer", .str outer t1), ("goal_at", .int at_ t2), ("found", .ref fd)] S W O (rec_mem (by decide)) rfl (fun _ _ _ => rfl) (locs rfl) (by decide) ?_
    intro A L cd s O S
    have hfl := hf.1
    obtain ⟨hcut, holen, hplen⟩ := cut_word hp ho
    cases ht with
    | atom hT =>
      repeat (first | wtm_at "evi")
      exact k B fvs _ (Sub.refl _) (by simpa [itemEv] using hf) (St.tail (by assumption))
    | num hT =>
      repeat (first | wtm_at "evi")
      exact k B fvs _ (Sub.refl _) (by simpa [itemEv] using hf) (St.tail (by assumption))
    | @var _ _ _ kk hT =>
      repeat (first | wtm_at "evi")
      refine r_append (by assumption) (.there .here) (sz_fit (by lia)) ?_
      intro s1 S1
      repeat (first | wtm_at "evi")
      refine k _ _ _ (by assumption) ?_ (St.tail (by assumption))
      exact (hf.fo (by assumption)).snoc ⟨_, _, _, _, rfl, by assumption⟩
    | @str _ ub _ _ uvs us hT hus hl hall =>
      have hup : All2 (TmAt B) uvs us := ⟨hl, hall⟩
      have hse : (Tm.str us).size = 1 + Tm.sizeL us := by simp [Tm.size]
      repeat (first | wtm_at "evi")
      intro I s1 It S1
      refine r_loop It (WKI K evs us at_ p fd _ (.str outer t1) (.int at_ t2) cs) S1 (Sub.refl _) ⟨fvs, by wtm_at "lk", by wtm_at "lk", by wtm_at "lk", by wtm_at "lk", rfl, by simpa using hf⟩ ?_ ?_
      · rintro i B1 m1 cs1 w s2 hB1 hi hw ⟨fvs1, n1, n2, n3, n4, rfl, hf1⟩ S2
        obtain ⟨u, hu⟩ : ∃ u, us[i]? = some u := ⟨_, List.getElem?_eq_getElem (by lia)⟩
        have hua := (hup.2 i _ _ hw hu).mono hB1
        have htake : Tm.sizeL (us.take i) + u.size ≤ Tm.sizeL us := by
          conv => rhs; rw [← List.take_append_drop (i + 1) us, take_step hu]
          rw [Tm.sizeL_append, Tm.sizeL_append]; simp [Tm.sizeL]
        have hvl := Tm.varsL_size (us.take i)
        repeat (first | wtm_at "evi")
        refine r_slice_str (by assumption) (by lia) ?_
        intro t3 s3 S3
        rw [hcut]
        repeat (first | wtm_at "evi")
        refine ih (p := p) (by lia) (St.perm (by assumption) (List.perm_middle (l₁ := [_, _]))) (by wtm_at "up") O hua hf1 ?_ hp (.inr rfl) ?_
        · rw [items_str, List.length_append, List.length_map]; lia
        intro B2 fvs2 s4 hB2 hf2 S4
        replace S4 := S4.perm (List.perm_middle (l₁ := [_, _])).symm
        repeat (first | wtm_at "evi")
        refine Turn.next S4 (hB1.trans hB2) ⟨fvs2, by wtm_at "lk", by wtm_at "lk", by wtm_at "lk", by wtm_at "lk", rfl, ?_⟩
        rw [take_step hu, List.map_append, List.flatMap_append, ← List.append_assoc]
        rw [show p ++ ("_struct" : Str) = wStr p from rfl] at hf2
        simpa using hf2
      · rintro B1 m1 cs1 s2 hB1 ⟨fvs1, n1, n2, n3, n4, rfl, hf1⟩ S2
        repeat (first | wtm_at "evi")
        rw [hl, List.take_length, items_str] at hf1
        exact k B1 fvs1 _ hB1 (by simpa [itemEv] using hf1) (St.tail (by assumption))
end
/-! ## all places -/
noncomputable def goalEv (g : Gl) (i : Int) : List Ev := (if 0 ≤ g.special then [(g.special, (i, ("special" : Str)))] else []) ++ rowEv i "goal" g.terms
noncomputable def dueUpTo (c : Cla) : Nat → List Ev
  | 0 => rowEv (-1) "head" c.args
  | i + 1 => match c.goals[i]? with
    | some g => dueUpTo c i ++ goalEv g i
    | none => dueUpTo c i
theorem due_step {c : Cla} {i : Nat} {g : Gl} (h : c.goals[i]? = some g) : dueUpTo c (i + 1) = dueUpTo c i ++ goalEv g i := by simp [dueUpTo, h]
theorem goalEv_len (g : Gl) (i : Int) : (goalEv g i).length ≤ 1 + Tm.sizeL g.terms := by
  have := rowEv_len i "goal" g.terms
  unfold goalEv; split <;> simp <;> lia
theorem due_len (c : Cla) : ∀ i, i ≤ c.goals.length → (dueUpTo c i).length + szG (c.goals.drop i) ≤ c.size
  | 0, _ => by have := rowEv_len (-1) "head" c.args; rw [size_eq]; simp [dueUpTo] at *; lia
  | i + 1, h => by
    have ih := due_len c i (by lia)
    have hg : c.goals[i]? = some (c.goals[i]'(by lia)) := List.getElem?_eq_getElem _
    have h1 := goalEv_len (c.goals[i]'(by lia)) i
    rw [due_step hg, List.length_append]
    have e : c.goals.drop i = c.goals[i]'(by lia) :: c.goals.drop (i + 1) := List.drop_eq_getElem_cons _
    rw [e] at ih
    simp only [szG, List.map_cons, List.sum_cons] at *
    lia
theorem due_room {c : Cla} {i : Nat} {g : Gl} (h : c.goals[i]? = some g) : (dueUpTo c i).length + 1 + Tm.sizeL g.terms ≤ c.size := by
  obtain ⟨hi, rfl⟩ := List.getElem?_eq_some_iff.mp h
  have ih := due_len c i (by lia)
  have e : c.goals.drop i = c.goals[i] :: c.goals.drop (i + 1) := List.drop_eq_getElem_cons _
  rw [e] at ih
  simp only [szG, List.map_cons, List.sum_cons] at *
  lia
noncomputable def spWords : List Str := ["level", "mark", "cutto"]
theorem GlAt.shape {B : View} {v : Value} {g : Gl} (h : GlAt B v g) : ∃ a t rest, v = .ref a ∧ Has B a (TpO (.str g.kind t :: rest)) ∧
    ((spWords.contains g.kind = true ∧ (∃ t', rest = [.int 6 t']) ∧ g.special = 6 ∧ g.terms = []) ∨
     (spWords.contains g.kind = false ∧ g.kind = ("unify" : Str) ∧ (∃ v1 v2 x y, rest = [v1, v2] ∧ TmAt B v1 x ∧ TmAt B v2 y ∧ g.terms = [x, y]) ∧ g.special = -1) ∨
     (spWords.contains g.kind = false ∧ g.kind ≠ ("unify" : Str) ∧ (∃ n t' tv, rest = [.int n t', tv] ∧ TmsAt B tv g.terms) ∧ g.special = -1) ∨
     (spWords.contains g.kind = false ∧ g.kind ≠ ("unify" : Str) ∧ rest = [] ∧ g.terms = [] ∧ g.special = -1)) := by
  cases h with
  | call p r => exact ⟨_, _, _, rfl, p, .inr (.inr (.inl ⟨by show spWords.contains ("call" : Str) = false; decide, by show ("call" : Str) ≠ "unify"; decide, ⟨_, _, _, rfl, r⟩, rfl⟩))⟩
  | builtin p r => exact ⟨_, _, _, rfl, p, .inr (.inr (.inl ⟨by show spWords.contains ("builtin" : Str) = false; decide, by show ("builtin" : Str) ≠ "unify"; decide, ⟨_, _, _, rfl, r⟩, rfl⟩))⟩
  | unify p r r' => exact ⟨_, _, _, rfl, p, .inr (.inl ⟨by show spWords.contains ("unify" : Str) = false; decide, rfl, ⟨_, _, _, _, rfl, r, r', rfl⟩, rfl⟩)⟩
  | level p => exact ⟨_, _, _, rfl, p, .inl ⟨by decide, ⟨_, rfl⟩, rfl, rfl⟩⟩
  | mark p => exact ⟨_, _, _, rfl, p, .inl ⟨by decide, ⟨_, rfl⟩, rfl, rfl⟩⟩
  | cutto p => exact ⟨_, _, _, rfl, p, .inl ⟨by decide, ⟨_, rfl⟩, rfl, rfl⟩⟩
  | cut p => exact ⟨_, _, _, rfl, p, .inr (.inr (.inr ⟨by decide, by decide, rfl, rfl, rfl⟩))⟩
theorem wArg_head : ("head_arg" : Str) = wArg "head" := by decide +kernel
theorem wArg_goal : ("goal_arg" : Str) = wArg "goal" := by decide +kernel
theorem mem_size {t : Tm} : ∀ {ts : List Tm}, t ∈ ts → t.size ≤ Tm.sizeL ts
  | u :: ts, h => by
    rcases List.mem_cons.mp h with rfl | h
    · simp [Tm.sizeL]
    · have := mem_size h; simp only [Tm.sizeL]; lia
theorem Rep.setl {B : View} {e : PE} {l' : Addr} : ∀ {e1 e2 : List PE} {T : Tbl}, Rep B (e1 ++ e :: e2) T → Rep B (e1 ++ { e with l := l' } :: e2) T
  | [], e2, T, x => by cases x with | cons r rest => exact .cons (e := { e with l := l' }) r rest
  | y :: e1, e2, T, x => by cases x with | cons r rest => exact .cons r (Rep.setl (T := _) rest)
theorem stored_there {e1 e2 : List PE} {e : PE} {k : Int} {l' : Addr} {vs' : List Value} (hk : e.k = k) (h1 : ∀ x ∈ e1, x.k ≠ k) (h2 : ∀ x ∈ e2, x.k ≠ k) : stored ((e1 ++ e :: e2).map PE.kv) k (.ref l') = (e1 ++ ⟨k, l', vs'⟩ :: e2).map PE.kv := by
  unfold stored
  rw [if_pos (by simp [PE.kv, hk])]
  have no : ∀ es : List PE, (∀ x ∈ es, x.k ≠ k) → (es.map PE.kv).map (fun kv => if kv.1 = k then (kv.1, Value.ref l') else kv) = es.map PE.kv := by
    intro es h
    conv => rhs; rw [← List.map_id (es.map PE.kv)]
    refine List.map_congr_left fun x hx => ?_
    obtain ⟨y, hy, rfl⟩ := List.mem_map.mp hx
    exact if_neg (h y hy)
  have h1' := no e1 h1
  have h2' := no e2 h2
  simp only [List.map_append, List.map_cons, h1', h2']
  simp [PE.kv, hk]
section
variable {K : Wk} {A : Around} {E : Value → Shared → Prop} {z : Shared} {B : View} {cs cs' : List Cell} {s : Shared} {v : Value} {c : Cla} {Q : Value → Shared → Prop}
inductive AP4 (K : Wk) (evs : List Ev) (cs : List Cell) (i : Nat) (B' : View) (m' : Str → Option Value) (cs' : List Cell) : Prop
  | mk : ∀ d es, (m' "table" = some (.ref d)) → ((d == sysModules) = false) → (cs' = PlC K d es cs) → (Rep B' es (runP [] (evs.take i))) → AP4 K evs cs i B' m' cs'
inductive AP1 (c : Cla) (v : Value) (cs : List Cell) (i : Nat) (B' : View) (m' : Str → Option Value) (cs' : List Cell) : Prop
  | mk : ∀ fd fvs, (m' "clause" = some v) → (m' "found" = some (.ref fd)) → (cs' = (fd, LsO fvs) :: cs) → (All2 (FoAt B') fvs (rowEv (-1) "head" (c.args.take i))) → AP1 c v cs i B' m' cs'
inductive AP2 (c : Cla) (v : Value) (cs : List Cell) (i : Nat) (B' : View) (m' : Str → Option Value) (cs' : List Cell) : Prop
  | mk : ∀ fd fvs, (m' "clause" = some v) → (m' "found" = some (.ref fd)) → (cs' = (fd, LsO fvs) :: cs) → (All2 (FoAt B') fvs (dueUpTo c i)) → AP2 c v cs i B' m' cs'
inductive AP3 (evs : List Ev) (ts : List Tm) (at_ : Int) (v gv : Value) (t : Tok) (fd : Addr) (cs : List Cell) (i : Nat) (B' : View) (m' : Str → Option Value) (cs' : List Cell) : Prop
  | mk : ∀ fvs, (m' "clause" = some v) → (m' "found" = some (.ref fd)) → (m' "goal_at" = some (.int at_ t)) → (cs' = (fd, LsO fvs) :: cs) → (All2 (FoAt B') fvs (evs ++ rowEv at_ "goal" (ts.take i))) → AP3 evs ts at_ v gv t fd cs i B' m' cs'
set_option maxHeartbeats 8000000 in
theorem p_table {Q : Flow → Shared → Prop} {L fd : Addr} {cd : Value} {m2 : Str → Option Value} {fvs : List Value} {evs : List Ev} (S4 : St z B ((L, Lo m2) :: (fd, LsO fvs) :: cs) s) (W2 : Lib K B) (O : Ok 20 60 A) (n2 : m2 "found" = some (.ref fd)) (hf : All2 (FoAt B) fvs evs) (hdl : evs.length ≤ 800)
    (k : ∀ d B' s', (d == sysModules) = false → Sub B B' → PlsAt K B' d (runP [] evs) → St z B' cs s' → Q (.ret (.ref d)) s') :
    wpAny K.M A (execs ((dN 30).body.drop 3) (envX (dN 30).name (dN 30).scope L (fa K "_law_all_places") cd [])) Q (fun _ _ => False) s := by
  have hfl := hf.1
  repeat (first | wtm_at "ev")
  obtain ⟨B3, hB3, pf, S5⟩ := St.frz (by assumption) (.there (.there .here))
  repeat (first | wtm_at "ev")
  intro I3 s6 It3 S6
  refine r_loopT It3 (AP4 K evs cs) S6 (Sub.refl _) ⟨_, [], by wtm_at "lk", by assumption, rfl, .nil⟩ ?_ ?_
  · rintro i B4 m4 cs4 w s7 hB4 hi hw ⟨d, es, n3, lo, rfl, hrep⟩ S7
    obtain ⟨ev, hev⟩ : ∃ ev, evs[i]? = some ev := ⟨_, List.getElem?_eq_getElem (by lia)⟩
    obtain ⟨a, t1, t2, t3, rfl, ha⟩ := (hf.2 i _ _ hw hev).mono (hB3.trans hB4)
    obtain ⟨kk, at_, wd⟩ := ev
    simp only at ha
    have W4 := W2.mono (hB3.trans hB4)
    have hsm := Sm.run (Sm.nil 0) (evs := evs.take i)
    have hTl := hsm.len
    have hil : (evs.take i).length ≤ 800 := by rw [List.length_take]; lia
    have hrun : runP [] (evs.take (i + 1)) = addP (runP [] (evs.take i)) kk (at_, wd) := by rw [take_step hev, runP_append]; rfl
    have hel := hrep.length
    have hkvl : (es.map PE.kv).length ≤ 1000 := by rw [List.length_map]; lia
    repeat (first | wtm_at "ev")
    refine r_get_dc (by assumption) (by wtm_at "in") lo ?_
    intro s8 S8
    rcases find_key (es := es) (k := kk) with ⟨hv, hne⟩ | ⟨e1, e, e2, rfl, hk, h1, hv⟩
    · rw [hv]
      simp only [Option.getD_none]
      repeat (first | wtm_at "ev")
      rename_i ta Bt _ hsub hhas _ q _ Sq
      refine r_add_ls (u₁ := []) (by assumption) (by wtm_at "in") (by wtm_at "in") (by simp) ?_
      intro D s9 S9
      repeat (first | wtm_at "ev")
      refine r_set_dc (by assumption) (.there (.there (.there (.there (.there .here))))) hkvl ?_
      intro s10 S10
      rw [stored_new hne, show es.map PE.kv ++ [(kk, Value.ref D)] = (es ++ [(⟨kk, D, [.ref ta]⟩ : PE)]).map PE.kv from by simp [PE.kv]] at S10
      repeat (first | wtm_at "ev")
      have S11 := St.drop (cs' := (_, _) :: (D, LsO [.ref ta]) :: (I3, LitO fd (i + 1)) :: (d, DcO K ((es ++ [(⟨kk, D, [.ref ta]⟩ : PE)]).map PE.kv)) :: (es.map PE.cell ++ cs)) S10 (by wtm_at "sl")
      refine Turn.next (cs' := PlC K d (es ++ [⟨kk, D, [.ref ta]⟩]) cs) (S11.perm (.cons _ ?_)) (hB4.trans (by assumption)) ⟨d, es ++ [⟨kk, D, [.ref ta]⟩], by wtm_at "lk", lo, rfl, ?_⟩
      · refine (List.Perm.swap _ _ _).trans (.cons _ ((List.Perm.swap _ _ _).trans (.cons _ ?_)))
        rw [List.map_append, List.append_assoc]
        exact (List.perm_middle (a := PE.cell ⟨kk, D, [.ref ta]⟩) (l₁ := es.map PE.cell) (l₂ := cs)).symm
      · rw [hrun]
        unfold addP
        rw [if_neg (by rw [hrep.any]; simpa using hne)]
        exact (hrep.mono (by assumption)).snoc (All2.cons ⟨_, _, _, rfl, by assumption⟩ .nil)
    · have hnd := Rep.kvs_nodup (K := K) (d := d) (c := (L, Lo m4)) (cs := ((e1 ++ e :: e2).map PE.cell ++ cs)) (S7.drop (.cons_cons _ (List.sublist_cons_self _ _)))
      have h2 : ∀ x ∈ e2, x.k ≠ kk := by
        intro x hx q
        rw [List.map_append, List.map_cons, List.nodup_append] at hnd
        have := (List.nodup_cons.mp hnd.2.1).1
        exact this (by rw [hk, ← q]; exact List.mem_map_of_mem hx)
      have hmem : (e.l, LsO e.vs) ∈ PlC K d (e1 ++ e :: e2) cs := mem_of_split
      obtain ⟨ps, hps, hall⟩ := hrep.mem (e := e) (by simp)
      have hpz := hsm.each _ hps
      have hev := hall.1
      simp only at hpz
      rw [hv]
      simp only [Option.getD_some]
      repeat (first | wtm_at "ev")
      rename_i ta Bt _ hsub hhas _ q _ Sq
      refine r_add_ls (u₁ := []) (by assumption) (by wtm_at "in") (by wtm_at "in") (by simp; lia) ?_
      intro D s9 S9
      repeat (first | wtm_at "ev")
      refine r_set_dc (by assumption) (.there (.there (.there (.there (.there .here))))) hkvl ?_
      intro s10 S10
      repeat (first | wtm_at "ev")
      rw [stored_there (vs' := e.vs ++ [.ref ta]) hk h1 h2] at S10
      have S11 := St.drop (cs' := (_, _) :: (D, LsO (e.vs ++ [.ref ta])) :: (I3, LitO fd (i + 1)) :: (d, DcO K ((e1 ++ ⟨kk, D, e.vs ++ [.ref ta]⟩ :: e2).map PE.kv)) :: (e1.map PE.cell ++ (e2.map PE.cell ++ cs))) S10 (by
        refine .cons_cons _ (.cons_cons _ (.cons _ (.cons _ (.cons_cons _ (.cons_cons _ ?_)))))
        simp only [List.map_append, List.map_cons, List.append_assoc, List.cons_append]
        exact (List.Sublist.refl _).append (List.sublist_cons_self _ _))
      refine Turn.next (cs' := PlC K d (e1 ++ ⟨kk, D, e.vs ++ [.ref ta]⟩ :: e2) cs) (S11.perm (.cons _ ?_)) (hB4.trans hsub) ⟨d, e1 ++ ⟨kk, D, e.vs ++ [.ref ta]⟩ :: e2, by wtm_at "lk", lo, rfl, ?_⟩
      · refine (List.Perm.swap _ _ _).trans (.cons _ ((List.Perm.swap _ _ _).trans (.cons _ ?_)))
        simp only [List.map_append, List.map_cons, List.append_assoc, List.cons_append]
        exact (List.perm_middle (a := PE.cell ⟨kk, D, e.vs ++ [.ref ta]⟩) (l₁ := e1.map PE.cell) (l₂ := e2.map PE.cell ++ cs)).symm
      · rw [hrun]
        unfold addP
        rw [if_pos (by rw [hrep.any]; simp [hk])]
        have r3 := Rep.add (es := []) (T := []) (v := .ref ta) (hrep.mono hsub) hk h1 h2 (p := (at_, wd)) ⟨_, _, _, rfl, hhas⟩
        have := Rep.setl (l' := D) r3
        subst hk
        exact this
  · rintro B4 m4 cs4 s7 hB4 ⟨d, es, n3, lo, rfl, hrep⟩ S7
    repeat (first | wtm_at "ev")
    obtain ⟨B5, hB5, hpl, S8⟩ := PlC.frz (St.tail (by assumption)) hrep
    rw [hfl, List.take_length] at hpl
    exact k d B5 _ lo (hB3.trans (hB4.trans hB5)) hpl S8
end
section
variable {K : Wk} {A : Around} {E : Value → Shared → Prop} {z : Shared} {B : View} {cs cs' : List Cell} {s : Shared} {v : Value} {c : Cla} {Q : Value → Shared → Prop}
set_option maxHeartbeats 8000000 in
theorem c_law_all_places (S : St z B cs s) (W : Lib K B) (O : Ok 30 110 A) (hc : ClAt K B v c) (hz : c.size ≤ 800) (hok : ClaOk c)
    (k : ∀ d B' s', (d == sysModules) = false → Sub B B' → PlsAt K B' d (runP [] (dueUpTo c c.goals.length)) → St z B' cs s' → Q (.ref d) s') : wpAny K.M A (call (.ref (fa K "_law_all_places")) [v]) Q E s := by
  refine r_fnc 30 [("clause", v)] S W O (rec_mem (by decide)) rfl (fun _ _ _ => rfl) (locs rfl) (by decide) ?_
  intro A L cd s O S
  obtain ⟨x, dx, m, va, vg, rfl, X, hm, h1, h2, ht, g, gs, rfl, hg, hgs⟩ := hc
  have hgl := hgs.1
  obtain ⟨ta, tvs, rfl, hta, htv⟩ := ht
  have htl := htv.1
  have hlen4 := hok.n
  repeat (first | wtm_at "ev")
  intro I s1 It S1
  refine r_loop It (AP1 c (.ref x) cs) S1 (Sub.refl _) ⟨_, [], by wtm_at "lk", by wtm_at "lk", rfl, All2.nil⟩ ?_ ?_
  · rintro i B1 m1 cs1 w s2 hB1 hi hw ⟨fd, fvs, n1, n2, rfl, hf⟩ S2
    obtain ⟨u, hu⟩ : ∃ u, c.args[i]? = some u := ⟨_, List.getElem?_eq_getElem (by lia)⟩
    have hua := (htv.2 i _ _ hw hu).mono hB1
    have hus := mem_size (List.mem_of_getElem? hu)
    have hos := hok.size
    have hrl := rowEv_len (-1) "head" (c.args.take i)
    have hsub : Tm.sizeL (c.args.take i) ≤ Tm.sizeL c.args := by
      conv => rhs; rw [← List.take_append_drop i c.args, Tm.sizeL_append]
      lia
    repeat (first | wtm_at "ev")
    refine c_law_walk 21 (p := "head") (by lia) (St.perm (by assumption) (List.perm_middle (l₁ := [_, _]))) (by wtm_at "up") (by wtm_at "ok") hua hf (by lia) (.inl rfl) (.inl rfl) ?_
    intro B2 fvs2 s3 hB2 hf2 S3
    replace S3 := S3.perm (List.perm_middle (l₁ := [_, _])).symm
    repeat (first | wtm_at "ev")
    refine Turn.next S3 (hB1.trans hB2) ⟨fd, fvs2, by wtm_at "lk", by wtm_at "lk", rfl, ?_⟩
    rw [wArg_head] at hf2
    unfold rowEv at *
    rw [take_step hu, List.flatMap_append]
    simpa using hf2
  · rintro B1 m1 cs1 s2 hB1 ⟨fd, fvs, n1, n2, rfl, hf⟩ S2
    rw [htl, List.take_length] at hf
    repeat (first | wtm_at "ev")
    intro I2 ItO2 s3 It2 S3
    refine r_loop It2 (AP2 c (.ref x) cs) S3 (Sub.refl _) ⟨fd, fvs, by wtm_at "lk", by wtm_at "lk", rfl, hf⟩ ?_ ?_
    · rintro i B2 m2 cs2 w s4 hB2 hi ⟨tw, rfl⟩ ⟨fd, fvs, n1, n2, rfl, hf⟩ S4
      obtain ⟨gl, hgl⟩ : ∃ gl, c.goals[i]? = some gl := ⟨_, List.getElem?_eq_getElem (by lia)⟩
      obtain ⟨gv, hgv, hga⟩ := hgs.at hgl
      replace hga := hga.mono (hB1.trans hB2)
      have hroom := due_room hgl
      have hgb := hok.goals gl (List.mem_of_getElem? hgl)
      have hst := due_step hgl
      have hfl := hf.1
      obtain ⟨a, t, rest, rfl, ha, hsh⟩ := hga.shape
      rcases hsh with ⟨k1, ⟨t', rfl⟩, k2, k3⟩ | ⟨k1, k2, ⟨v1, v2, y1, y2, rfl, g1, g2, k3⟩, k4⟩ | ⟨k1, k2, ⟨n, t', tv, rfl, g1⟩, k4⟩ | ⟨k1, k2, rfl, k3, k4⟩
      · repeat (first | wtm_at "evi" | (refine r_item_ls (by wtm_at "in") rfl (by lia) hgv ?_))
        refine r_in_ls (ws := spWords) (by assumption) (by wtm_at "in") (All2.cons ⟨_, rfl⟩ (All2.cons ⟨_, rfl⟩ (All2.cons ⟨_, rfl⟩ All2.nil))) ?_
        intro s5 S5
        replace S5 := S5.drop (cs' := (_, _) :: (I2, ItO2 (i + 1)) :: (fd, LsO fvs) :: cs) (.cons_cons _ (List.sublist_cons_self _ _))
        rw [k1]
        repeat (first | wtm_at "evi")
        refine r_append (by assumption) (.there (.there .here)) (sz_fit (by lia)) ?_
        intro s6 S6
        repeat (first | wtm_at "evi")
        refine Turn.next (St.sub (by assumption) (Sub.refl _) (by wtm_at "sl")) (hB2.trans (by assumption)) ⟨fd, _, by wtm_at "lk", by wtm_at "lk", rfl, ?_⟩
        rw [hst]; unfold goalEv
        rw [k2, k3, if_pos (by decide)]
        exact (hf.fo (by assumption)).snoc ⟨_, _, _, _, rfl, by assumption⟩
      · repeat (first | wtm_at "evi" | (refine r_item_ls (by wtm_at "in") rfl (by lia) hgv ?_))
        refine r_in_ls (ws := spWords) (by assumption) (by wtm_at "in") (All2.cons ⟨_, rfl⟩ (All2.cons ⟨_, rfl⟩ (All2.cons ⟨_, rfl⟩ All2.nil))) ?_
        intro s5 S5
        replace S5 := S5.drop (cs' := (_, _) :: (I2, ItO2 (i + 1)) :: (fd, LsO fvs) :: cs) (.cons_cons _ (List.sublist_cons_self _ _))
        rw [k1]
        repeat (first | wtm_at "evi")
        refine Br.tt (by rw [k2]; rfl) ?_
        have hsz := hgb.size
        rw [k3] at hsz hroom
        simp only [Tm.sizeL] at hsz hroom
        repeat (first | wtm_at "evi")
        refine c_law_walk 21 (p := "goal") (by lia) (St.perm (by assumption) (List.perm_middle (l₁ := [_, _]))) (by wtm_at "up") (by wtm_at "ok") g1 hf (by lia) (.inr rfl) (.inl rfl) ?_
        intro B3 fvs3 s6 hB3 hf3 S6
        replace S6 := S6.perm (List.perm_middle (l₁ := [_, _])).symm
        have hil := itemEv_len (i : Int) "goal" (y1, "goal_arg")
        simp only at hil
        repeat (first | wtm_at "evi")
        refine c_law_walk 21 (p := "goal") (by lia) (St.perm (by assumption) (List.perm_middle (l₁ := [_, _]))) (by wtm_at "up") (by wtm_at "ok") (g2.mono hB3) hf3 (by rw [List.length_append]; lia) (.inr rfl) (.inl rfl) ?_
        intro B4 fvs4 s7 hB4 hf4 S7
        replace S7 := S7.perm (List.perm_middle (l₁ := [_, _])).symm
        repeat (first | wtm_at "evi")
        refine Turn.next S7 (hB2.trans (hB3.trans hB4)) ⟨fd, _, by wtm_at "lk", by wtm_at "lk", rfl, ?_⟩
        rw [hst]; unfold goalEv
        rw [k4, k3, if_neg (by decide)]
        rw [wArg_goal] at hf4
        simpa [rowEv] using hf4
      · repeat (first | wtm_at "evi" | (refine r_item_ls (by wtm_at "in") rfl (by lia) hgv ?_))
        refine r_in_ls (ws := spWords) (by assumption) (by wtm_at "in") (All2.cons ⟨_, rfl⟩ (All2.cons ⟨_, rfl⟩ (All2.cons ⟨_, rfl⟩ All2.nil))) ?_
        intro s5 S5
        replace S5 := S5.drop (cs' := (_, _) :: (I2, ItO2 (i + 1)) :: (fd, LsO fvs) :: cs) (.cons_cons _ (List.sublist_cons_self _ _))
        rw [k1]
        repeat (first | wtm_at "evi")
        refine Br.ff (by simpa using k2) ?_
        repeat (first | wtm_at "evi")
        refine Br.tt (by simp) ?_
        obtain ⟨tb, tws, rfl, htb, htws⟩ := g1
        have hwl := htws.1
        have hsz := hgb.size
        repeat (first | wtm_at "evi")
        intro I3 s6 It3 S6
        replace S6 := S6.perm (cs' := (_, _) :: (I3, TitO tb 0) :: (fd, LsO fvs) :: (I2, ItO2 (i + 1)) :: cs) (.cons _ (.cons _ (.swap _ _ _)))
        refine r_loop It3 (AP3 (dueUpTo c i) gl.terms i (.ref x) (.ref a) tw fd ((I2, ItO2 (i + 1)) :: cs)) S6 (Sub.refl _) ⟨fvs, by wtm_at "lk", by wtm_at "lk", by wtm_at "lk", rfl, by simpa [rowEv] using hf⟩ ?_ ?_
        · rintro j B3 m3 cs3 w s7 hB3 hj hw ⟨fvs3, q1, q2, q3, rfl, hf3⟩ S7
          obtain ⟨u, hu⟩ : ∃ u, gl.terms[j]? = some u := ⟨_, List.getElem?_eq_getElem (by lia)⟩
          have hua := (htws.2 j _ _ hw hu).mono hB3
          have hus := mem_size (List.mem_of_getElem? hu)
          have hrl := rowEv_len (i : Int) "goal" (gl.terms.take j)
          have htk : Tm.sizeL (gl.terms.take j) + u.size ≤ Tm.sizeL gl.terms := by
            conv => rhs; rw [← List.take_append_drop (j + 1) gl.terms, take_step hu]
            rw [Tm.sizeL_append, Tm.sizeL_append]; simp [Tm.sizeL]
          repeat (first | wtm_at "evi")
          refine c_law_walk 21 (p := "goal") (by lia) (St.perm (by assumption) (List.perm_middle (l₁ := [_, _]))) (by wtm_at "up") (by wtm_at "ok") hua hf3 (by rw [List.length_append]; lia) (.inr rfl) (.inl rfl) ?_
          intro B4 fvs4 s8 hB4 hf4 S8
          replace S8 := S8.perm (List.perm_middle (l₁ := [_, _])).symm
          repeat (first | wtm_at "evi")
          refine Turn.next S8 (hB3.trans hB4) ⟨fvs4, by wtm_at "lk", by wtm_at "lk", by wtm_at "lk", rfl, ?_⟩
          rw [wArg_goal] at hf4
          unfold rowEv at *
          rw [take_step hu, List.flatMap_append, ← List.append_assoc]
          simpa using hf4
        · rintro B3 m3 cs3 s7 hB3 ⟨fvs3, q1, q2, q3, rfl, hf3⟩ S7
          rw [hwl, List.take_length] at hf3
          replace S7 := S7.perm (.cons _ (.swap _ _ _))
          repeat (first | wtm_at "evi")
          refine Turn.next S7 (hB2.trans hB3) ⟨fd, fvs3, by wtm_at "lk", by wtm_at "lk", rfl, ?_⟩
          rw [hst]; unfold goalEv
          rw [k4, if_neg (by decide)]
          simpa using hf3
      · repeat (first | wtm_at "evi" | (refine r_item_ls (by wtm_at "in") rfl (by lia) hgv ?_))
        refine r_in_ls (ws := spWords) (by assumption) (by wtm_at "in") (All2.cons ⟨_, rfl⟩ (All2.cons ⟨_, rfl⟩ (All2.cons ⟨_, rfl⟩ All2.nil))) ?_
        intro s5 S5
        replace S5 := S5.drop (cs' := (_, _) :: (I2, ItO2 (i + 1)) :: (fd, LsO fvs) :: cs) (.cons_cons _ (List.sublist_cons_self _ _))
        rw [k1]
        repeat (first | wtm_at "evi")
        refine Br.ff (by simpa using k2) ?_
        repeat (first | wtm_at "evi")
        refine Br.ff (by simp) ?_
        repeat (first | wtm_at "evi")
        refine Turn.next (St.sub (by assumption) (Sub.refl _) (by wtm_at "sl")) hB2 ⟨fd, fvs, by wtm_at "lk", by wtm_at "lk", rfl, ?_⟩
        rw [hst]; unfold goalEv
        rw [k4, k3, if_neg (by decide)]
        simpa [rowEv] using hf
    · rintro B2 m2 cs2 s4 hB2 ⟨fd, fvs, n1, n2, rfl, hf⟩ S4
      rw [hgl] at hf
      have hdl := due_len c c.goals.length (Nat.le_refl _)
      wtm_at "ev"
      exact p_table S4 (W.mono (hB1.trans hB2)) (by wtm_at "ok") n2 hf (by lia) fun d B' s' lo hB' hpl S' => k d B' s' lo (hB1.trans (hB2.trans hB')) hpl S'
end
/-! ## parted -/
noncomputable def kindAt (c : Cla) (i : Nat) : Str := match c.goals[i]? with | some g => g.kind | none => ""
noncomputable def kindsFrom (c : Cla) (base n : Nat) : List Str := (List.range n).map fun j => kindAt c (base + j)
theorem parted_eq {c : Cla} {ps : List Pl} {first last : Int} {n : Nat} (h1 : first ∈ ps.map (·.1)) (h2 : ∀ x ∈ ps.map (·.1), first ≤ x) (h3 : last ∈ ps.map (·.1)) (h4 : ∀ x ∈ ps.map (·.1), x ≤ last) (hb : ∀ p ∈ ps, -1 ≤ p.1 ∧ p.1 < (c.goals.length : Int)) (hn : (n : Int) = if max first 0 < last then last - max first 0 else 0) :
    (kindsFrom c (max first 0).toNat n).contains ("call" : Str) = crossM c ps := by
  obtain ⟨pf, hpf, rfl⟩ := List.mem_map.mp h1
  obtain ⟨pl, hpl, rfl⟩ := List.mem_map.mp h3
  have hbl := hb pl hpl
  rw [Bool.eq_iff_iff, List.contains_iff_mem]
  unfold kindsFrom crossM
  rw [List.mem_map, List.any_eq_true]
  constructor
  · rintro ⟨j, hj, e⟩
    have hj' := List.mem_range.mp hj
    split at hn
    · have hlt : (max pf.1 0).toNat + j < c.goals.length := by lia
      obtain ⟨g, hg⟩ : ∃ g, c.goals[(max pf.1 0).toNat + j]? = some g := ⟨_, List.getElem?_eq_getElem hlt⟩
      refine ⟨(max pf.1 0).toNat + j, List.mem_range.mpr hlt, ?_⟩
      unfold kindAt at e
      rw [hg] at e
      rw [crossAt_call hg e, Bool.and_eq_true, List.any_eq_true, List.any_eq_true]
      refine ⟨⟨pf, hpf, decide_eq_true (by lia)⟩, ⟨pl, hpl, ?_⟩⟩
      simp; lia
    · lia
  · rintro ⟨i, hi, e⟩
    have hi' := List.mem_range.mp hi
    obtain ⟨g, hg⟩ : ∃ g, c.goals[i]? = some g := ⟨_, List.getElem?_eq_getElem hi'⟩
    by_cases hk : g.kind = ("call" : Str)
    · rw [crossAt_call hg hk, Bool.and_eq_true, List.any_eq_true, List.any_eq_true] at e
      obtain ⟨⟨p, hp, e1⟩, ⟨r, hr, e2⟩⟩ := e
      have q1 := h2 p.1 (List.mem_map_of_mem hp)
      have q2 := h4 r.1 (List.mem_map_of_mem hr)
      have e1' := of_decide_eq_true e1
      have e2' : ¬ r.1 ≤ (i : Int) := by simpa using e2
      have hlt : max pf.1 0 < pl.1 := by lia
      rw [if_pos hlt] at hn
      refine ⟨i - (max pf.1 0).toNat, List.mem_range.mpr (by lia), ?_⟩
      unfold kindAt
      rw [show (max pf.1 0).toNat + (i - (max pf.1 0).toNat) = i from by lia, hg]
      exact hk
    · rw [crossAt_not hg hk] at e; cases e
theorem kind31 (a b : Value) : ∀ N : Nat, ∀ x ∈ ([(("clause" : Str), a), ("places", b)] : List (Str × Value)), (dN 31).scope.names.lookup x.1 = some .local ∨ ((dN 31).scope.names.lookup x.1 = some .cell ∧ ((cellsFrom N (dN 31).scope.names []).lookup x.1).isSome = true) := by
  intro N x hx; simp at hx; rcases hx with rfl | rfl
  · exact .inr ⟨by rfl, by rfl⟩
  · exact .inl (by rfl)
theorem lk31 : ∀ N : Nat, ∀ p ∈ cellsFrom N (dN 31).scope.names [], (cellsFrom N (dN 31).scope.names []).lookup p.1 = some p.2 := by
  intro N p hp
  have e : cellsFrom N (dN 31).scope.names [] = [(("clause" : Str), N)] := by rfl
  rw [e] at hp ⊢
  simp at hp
  rcases hp with rfl; rfl
section
variable {K : Wk} {A : Around} {E : Value → Shared → Prop} {z : Shared} {B : View} {cs cs' : List Cell} {s : Shared} {v : Value} {c : Cla} {Q : Value → Shared → Prop}
set_option maxHeartbeats 8000000 in
theorem c_law_parted {pa : Addr} {pvs : List Value} {ps : List Pl} (S : St z B cs s) (W : Lib K B) (O : Ok 3 20 A) (hc : ClAt K B v c) (hp : Has B pa (LsO pvs)) (hps : All2 (PlAt B) pvs ps) (hne : ps ≠ []) (hz : c.goals.length ≤ 800) (hz2 : ps.length ≤ 800) (hb : ∀ p ∈ ps, -1 ≤ p.1 ∧ p.1 < (c.goals.length : Int))
    (k : ∀ s', St z B cs s' → Q (.bool (crossM c ps)) s') : wpAny K.M A (call (.ref (fa K "_law_parted")) [v, .ref pa]) Q E s := by
  refine r_fncC 31 [("clause", v), ("places", .ref pa)] S W O (rec_mem (by decide)) rfl (fun _ _ _ => rfl) (kind31 _ _) lk31 ?_
  intro A L cl cd s' B1 O hB1 hcl hcells S
  subst hcl
  replace hc := hc.mono hB1
  replace hp := hp.mono hB1
  replace hps := hps.pl hB1
  have hW := W.mono hB1
  have hcv : Has B1 (L + 1) (CeV (some v)) := hcells "clause" _ (by rfl)
  obtain ⟨x, dx, m, va, vg, rfl, X, hm, h1, h2, ht, g, gs, rfl, hg, hgs⟩ := hc
  have hpl := hps.1
  have hgl := hgs.1
  have hpos : 0 < ps.length := List.length_pos_iff.mpr hne
  repeat (first | wtm_at "evi")
  refine r_comp (z := z) (by rfl) (by decide) (by rfl) (by decide) (by rfl) ?_
  repeat (first | wtm_at "evi")
  intro I s4 It S4
  refine ⟨I, _, _, _, B1, _, _, fun i B' ys cs' => cs' = cs ∧ IntsAre ys ((ps.take i).map (·.1)), rfl, It, by lia, S4, ⟨rfl, .nil⟩, ?_, ?_⟩
  · rintro C D i B' mc ys cs' v s E hB hi hv hl ⟨rfl, hI⟩ hm S
    obtain ⟨p, hpj⟩ : ∃ p, ps[i]? = some p := ⟨_, List.getElem?_eq_getElem (by lia)⟩
    obtain ⟨a, u, u', rfl, ha⟩ := (hps.2 i _ _ hv hpj).mono hB
    repeat (first | wtm_at "evi")
    refine ⟨B', cs', Sub.refl _, ⟨rfl, ?_⟩, by assumption⟩
    rw [take_step hpj, List.map_append]
    exact hI.append (.cons _ _ .nil)
  rintro D B' ys cs' s5 hB ⟨rfl, hI⟩ hl S5
  replace S5 := S5.sub (B' := B1) hB (List.Sublist.refl _)
  rw [hpl, List.take_length] at hI
  repeat (first | wtm_at "evi")
  refine r_min (by assumption) (Ok.handled (by assumption)) (by wtm_at "in") hI (by rw [List.length_map]; exact hpos) ?_
  intro first t7 s6 hM1 hM2 S6
  replace S6 := S6.drop (cs' := (_, _) :: cs') (.cons_cons _ (List.sublist_cons_self _ _))
  repeat (first | wtm_at "evi")
  refine r_comp (z := z) (by rfl) (by decide) (by rfl) (by decide) (by rfl) ?_
  repeat (first | wtm_at "evi")
  intro I2 s7 It2 S7
  refine ⟨I2, _, _, _, B1, _, _, fun i B' ys cs2 => cs2 = cs' ∧ IntsAre ys ((ps.take i).map (·.1)), rfl, It2, by lia, S7, ⟨rfl, .nil⟩, ?_, ?_⟩
  · rintro C D i B' mc ys cs' v s E hB hi hv hl ⟨rfl, hI⟩ hm S
    obtain ⟨p, hpj⟩ : ∃ p, ps[i]? = some p := ⟨_, List.getElem?_eq_getElem (by lia)⟩
    obtain ⟨a, u, u', rfl, ha⟩ := (hps.2 i _ _ hv hpj).mono hB
    repeat (first | wtm_at "evi")
    refine ⟨B', cs', Sub.refl _, ⟨rfl, ?_⟩, by assumption⟩
    rw [take_step hpj, List.map_append]
    exact hI.append (.cons _ _ .nil)
  rintro D2 B' ys2 cs2 s8 hB2 ⟨rfl, hI2⟩ hl2 S8
  replace S8 := S8.sub (B' := B1) hB2 (List.Sublist.refl _)
  rw [hpl, List.take_length] at hI2
  repeat (first | wtm_at "evi")
  refine r_max (by assumption) (Ok.handled (by assumption)) (by wtm_at "in") hI2 (by rw [List.length_map]; exact hpos) ?_
  intro last t8 s9 hN1 hN2 S9
  replace S9 := S9.drop (cs' := (_, _) :: cs2) (.cons_cons _ (List.sublist_cons_self _ _))
  repeat (first | wtm_at "evi")
  refine r_comp (z := z) (by rfl) (by decide) (by rfl) (by decide) (by rfl) ?_
  repeat (first | wtm_at "evi")
  refine r_max2 (Ok.handled (by assumption)) (by assumption) ?_
  intro t9 s10 S10
  repeat (first | wtm_at "evi")
  obtain ⟨n, hn⟩ : ∃ n : Nat, (n : Int) = if max first 0 < last then last - max first 0 else 0 := ⟨(if max first 0 < last then last - max first 0 else 0).toNat, by split <;> lia⟩
  have hbf : -1 ≤ first ∧ first < (c.goals.length : Int) := by obtain ⟨p, hp, rfl⟩ := List.mem_map.mp hM1; exact hb p hp
  have hbl : -1 ≤ last ∧ last < (c.goals.length : Int) := by obtain ⟨p, hp, rfl⟩ := List.mem_map.mp hN1; exact hb p hp
  have hnz : n ≤ 800 ∧ (max first 0).toNat + n ≤ c.goals.length := by split at hn <;> lia
  refine r_range2 (by assumption) ?_
  intro rr s11 S11
  repeat (first | wtm_at "evi")
  refine r_iter_range (n := n) S11 (Ok.handled (by assumption)) hn (by lia) (by lia) (by lia) (by lia) ?_
  intro I3 ItO3 s12 It3 S12
  refine ⟨I3, _, _, _, B1, _, _, fun i B' ys cs3 => cs3 = cs2 ∧ Words ys (kindsFrom c (max first 0).toNat i), rfl, It3, by lia, S12, ⟨rfl, All2.nil⟩, ?_, ?_⟩
  · rintro C D i B' mc ys cs' v s E hB hi ⟨tv, rfl⟩ hl ⟨rfl, hWd⟩ hm S
    have hj : (max first 0).toNat + i < c.goals.length := by lia
    obtain ⟨gl, hgl2⟩ : ∃ gl, c.goals[(max first 0).toNat + i]? = some gl := ⟨_, List.getElem?_eq_getElem hj⟩
    obtain ⟨gv, hgv, hga⟩ := hgs.at hgl2
    obtain ⟨ga, gt, grest, rfl, hgh, hgr⟩ := (hga.mono hB).head
    have hcv2 := hcv.mono hB
    have X2 := X.mono hB
    have hg2 := hg.mono hB
    have hW2 := hW.mono hB
    repeat (first | wtm_at "evi" | (refine r_item_ls (k := (max first 0).toNat + i) (by wtm_at "in") (by lia) (by lia) hgv ?_) | (refine r_tup0 (by assumption) (by assumption) hgr ?_))
    refine ⟨B', cs', Sub.refl _, ⟨rfl, ?_⟩, by assumption⟩
    unfold kindsFrom at *
    rw [List.range_succ, List.map_append]
    refine hWd.snoc ⟨gt, ?_⟩
    show _ = Value.str (kindAt c ((max first 0).toNat + i)) gt
    unfold kindAt; rw [hgl2]
  rintro D3 B' ys3 cs3 s13 hB3 ⟨rfl, hWd⟩ hl3 S13
  replace S13 := S13.sub (B' := B1) hB3 (List.Sublist.refl _)
  repeat (first | wtm_at "evi")
  refine r_in_ls (by assumption) (by wtm_at "in") hWd ?_
  intro s14 S14
  rw [parted_eq hM1 hM2 hN1 hN2 hb hn]
  repeat (first | wtm_at "evi")
  exact k _ (St.sub (by assumption) hB1 (by wtm_at "sl"))
end
/-! ## plans at hand -/
noncomputable def planM (c : Cla) (T : List (Int × Sv)) (order live : List Int) : Pln := ⟨T.map fun p => (p.1, p.2.inf), chunksM c, innerC c c.goals.length, order.length, live⟩
/-- what is asked of a clause -/
structure Good (c : Cla) : Prop where
  size : c.size ≤ 800
  sv : (svAll c).length < 64
  nd : ((svAll c).map (·.1)).Nodup
  pl : c.places.length < 64
  each : ∀ e ∈ c.places, e.2 ≠ [] ∧ e.2.length ≤ 800
  made : ∀ order live T, Made c order live T → PlanOk c (planM c T order live)
theorem Made.lenT {c : Cla} {order live : List Int} {T : List (Int × Sv)} (h : Made c order live T) : T.length = (svAll c).length := by
  rw [h.eq]; unfold slotsT kindsT; simp
theorem Made.keys {c : Cla} {order live : List Int} {T : List (Int × Sv)} (h : Made c order live T) : T.map (·.1) = (svAll c).map (·.1) := by rw [h.eq, slotsT_keys, kindsT_keys]
theorem Made.at {c : Cla} {order live : List Int} {T : List (Int × Sv)} (h : Made c order live T) (nd : ((svAll c).map (·.1)).Nodup) {p : Int × Sv} (hp : p ∈ T) : (p.2.inf.kind = ("perm" : Str) ↔ p.1 ∈ order) ∧ (p.1 ∈ order → p.2.inf.slot = (posOf order p.1 : Int) + 1) := by
  rw [h.eq] at hp
  unfold slotsT at hp
  obtain ⟨q, hq, rfl⟩ := List.mem_map.mp hp
  have hperm : q.2.inf.kind = ("perm" : Str) ↔ q.1 ∈ order := by
    rw [h.ord.mem]
    exact ⟨fun e => ⟨q.2, hq, e⟩, fun ⟨sv, h1, h2⟩ => by rw [uniqT (by rw [kindsT_keys]; exact nd) (show (q.1, q.2) ∈ kindsT (svAll c) from hq) h1]; exact h2⟩
  by_cases hm : q.1 ∈ order
  · rw [if_pos hm]; exact ⟨hperm, fun _ => rfl⟩
  · rw [if_neg hm]; exact ⟨hperm, fun h => absurd h hm⟩
theorem PlC2.front {K : Wk} {pdx ch lv d : Addr} {pm : Str → Option Value} {cvs lvs : List Value} {es : List VE} {R : List Cell} {F : Cell} : (PlC2 K pdx ch lv d pm cvs lvs es (F :: R)).Perm (F :: PlC2 K pdx ch lv d pm cvs lvs es R) := by
  have h : (SvC K d es (F :: R)).Perm (F :: SvC K d es R) := SvC.mv1.symm
  exact ((((h.cons _).trans (.swap _ _ _)).cons _).trans (.swap _ _ _) |>.cons _).trans (.swap _ _ _)
section
variable {K : Wk} {A : Around} {E : Value → Shared → Prop} {z : Shared} {B : View} {cs R : List Cell} {F : Cell} {s : Shared} {v : Value} {c : Cla} {Q : Value → Shared → Prop}
theorem c_classify2 (G : Good c) (S : St z B (F :: R) s) (W : Lib K B) (O : Ok 9 63 A) (hc : ClAt K B v c)
    (k : ∀ px pdx pm B' d ch cvs lv lvs live order es T s', (d == sysModules) = false → Sub B B' → Inst B' px (Cp K) pdx → PlnM pm d ch lv (innerC c c.goals.length) order.length → IntsAre cvs (chunksM c) → IntsAre lvs live → Made c order live T → RepV K B' es T →
      St z B' (F :: PlC2 K pdx ch lv d pm cvs lvs es R) s' → Q (.ref px) s') : wpAny K.M A (call (.ref (fa K "classify")) [v]) Q E s :=
  c_classify S W O hc G.size G.sv fun px pdx pm B' d ch cvs lv lvs live order es T s' lo hB PX hpm hI hL hM r S' => k px pdx pm B' d ch cvs lv lvs live order es T s' lo hB PX hpm hI hL hM r (S'.perm PlC2.front)
theorem plan_frz2 {px pdx ch lv d : Addr} {pm : Str → Option Value} {cvs lvs : List Value} {es : List VE} {T : List (Int × Sv)} {chunks live : List Int} {nb : Bool} {env : Int} {t : Tok} (S : St z B (F :: PlC2 K pdx ch lv d pm cvs lvs es R) s) (X : Inst B px (Cp K) pdx) (lo : (d == sysModules) = false)
    (h1 : pm "infos" = some (.ref d)) (h2 : pm "chunks" = some (.ref ch)) (h3 : pm "needs_env" = some (.bool nb)) (h4 : pm "env_size" = some (.int env t)) (h5 : pm "live_after" = some (.ref lv)) (hI : IntsAre cvs chunks) (hL : IntsAre lvs live) (r : RepV K B es T) :
    ∃ B', Sub B B' ∧ PlnAt K B' (.ref px) ⟨T.map fun p => (p.1, p.2.inf), chunks, nb, env, live⟩ ∧ St z B' (F :: R) s :=
  plan_frz (S.perm PlC2.front.symm) X lo h1 h2 h3 h4 h5 hI hL r
theorem c_check_plan2 {pv : Value} {p : Pln} (G : Good c) (S : St z B cs s) (W : Lib K B) (O : Ok 5 203 A) (hc : ClAt K B v c) (hp : PlnAt K B pv p) (hz1 : p.chunks.length ≤ 900) (hz2 : p.live.length ≤ 900) (hT2 : p.infos.length < 64)
    (k : ∀ b s', (b = true ↔ PlanOk c p) → St z B cs s' → Q (.bool b) s') : wpAny K.M A (call (.ref (fa K "check_plan")) [v, pv]) Q E s :=
  c_check_plan S W O hc hp G.size hz1 hz2 G.pl hT2 G.each k
theorem c_check_no {pv : Value} {p : Pln} (G : Good c) (S : St z B cs s) (W : Lib K B) (O : Ok 5 203 A) (hc : ClAt K B v c) (hp : PlnAt K B pv p) (hz1 : p.chunks.length ≤ 900) (hz2 : p.live.length ≤ 900) (hT2 : p.infos.length < 64) (hno : ¬ PlanOk c p)
    (k : ∀ s', St z B cs s' → Q (.bool false) s') : wpAny K.M A (call (.ref (fa K "check_plan")) [v, pv]) Q E s :=
  c_check_plan2 G S W O hc hp hz1 hz2 hT2 fun b s' hb S' => by
    cases b with
    | true => exact absurd (hb.mp rfl) hno
    | false => exact k s' S'
theorem m18_4 : mRec 18 4 ∈ (cRec 18).withCmp.meths := by rw [meth18]; simp
theorem r_m_perms {px pdx : Addr} {pm : Str → Option Value} {pl : Sem Bool} {Q : Value × List Value → Shared → Prop} (S : St z B cs s) (W : Lib K B) (X : Inst B px (Cp K) pdx) (h : In s pdx (AtO pm)) (hv : pm "perms" = none) (kk : ∀ f, MethAt B f 18 4 → Q (.ref f, [.ref px]) s) : wpAny K.M A (getMethod (.ref px) "perms" pl) Q E s :=
  r_method2 S W c18_mem (i18 S W) m18_4 rfl X h hv (free_of (by decide +kernel)) kk
inductive PMI (T : List (Int × Sv)) (order : List Int) (self : Value) (cs : List Cell) (i : Nat) (B' : View) (m' : Str → Option Value) (cs' : List Cell) : Prop
  | mk : ∀ fd fvs, (m' "self" = some self) → (m' "found" = some (.ref fd)) → (cs' = (fd, LsO fvs) :: cs) → (IntsAre fvs (order.map fun k => if k ∈ (T.take i).map (·.1) then k else 0)) → PMI T order self cs i B' m' cs'
set_option maxHeartbeats 8000000 in
theorem c_perms {f px pdx d ch lv : Addr} {pm : Str → Option Value} {es : List VE} {T : List (Int × Sv)} {order live : List Int} {nb : Bool} (G : Good c) (S : St z B cs s) (W : Lib K B) (O : Ok 3 23 A) (hF : MethAt B f 18 4) (X : Inst B px (Cp K) pdx) (hm : Has B pdx (AtO pm)) (hpm : PlnM pm d ch lv nb order.length) (lo : (d == sysModules) = false)
    (hd : Has B d (DcO K (es.map VE.kv))) (hes : ∀ e ∈ es, Has B e.dx (AtO e.m)) (r : RepV K B es T) (hM : Made c order live T)
    (k : ∀ D us s', IntsAre us order → St z B ((D, LsO us) :: cs) s' → Q (.ref D) s') : wpAny K.M A (call (.ref f) [.ref px]) Q E s := by
  refine r_callM2 [("self", .ref px)] S W hF O (fun _ _ _ _ => rfl) (locs rfl) (by decide) ?_
  intro A L qual cd s O S
  obtain ⟨p1, p2, p3, ⟨te, p4⟩, p5, p6, p7⟩ := hpm
  have hel := r.1
  have hndT : (T.map (·.1)).Nodup := by rw [hM.keys]; exact G.nd
  have hTl := hM.lenT
  have hTz := G.sv
  have hol := hM.ol
  repeat (first | wtm_at "evi")
  refine r_mul_ls (by assumption) (by wtm_at "in") (by lia) ?_
  intro D s1 S1
  replace S1 := S1.drop (cs' := (_, _) :: (D, LsO (List.replicate order.length _)) :: cs) (.cons_cons _ (.cons_cons _ (List.sublist_cons_self _ _)))
  have h0 : ∀ (n : Nat) (t : Tok), IntsAre (List.replicate n (Value.int 0 t)) (List.replicate n 0) := by
    intro n t
    induction n with
    | zero => exact .nil
    | succ n ih => exact .cons _ _ ih
  repeat (first | wtm_at "evi")
  intro I ItO s2 It S2
  rw [List.length_map] at It
  refine r_loop It (PMI T order (.ref px) cs) S2 (Sub.refl _) ⟨D, _, by wtm_at "lk", by wtm_at "lk", rfl, ?_⟩ ?_ ?_
  · have : (order.map fun k => if k ∈ (T.take 0).map (·.1) then k else 0) = List.replicate order.length 0 := by
      rw [List.eq_replicate_iff]; exact ⟨by simp, fun b hb => by obtain ⟨x, _, rfl⟩ := List.mem_map.mp hb; simp⟩
    rw [this]; exact h0 _ _
  · rintro i B1 m1 cs1 w s3 hB1 hi ⟨kk, xv, tk, hkv, rfl⟩ ⟨fd, fvs, n1, n2, rfl, hI⟩ S3
    obtain ⟨e, he⟩ : ∃ e, es[i]? = some e := ⟨_, List.getElem?_eq_getElem (by lia)⟩
    obtain ⟨p, hp⟩ : ∃ p, T[i]? = some p := ⟨_, List.getElem?_eq_getElem (by lia)⟩
    obtain ⟨q1, X1, hs⟩ := r.2 i _ _ he hp
    rw [List.getElem?_map, he] at hkv
    cases hkv
    have hval : valueAt (es.map VE.kv) e.k = some (.ref e.x) := by
      refine valueAt_at (i := i) ?_ (by rw [List.getElem?_map, he]; rfl)
      rw [VE.keys, r.keys]; exact hndT
    have hed := (hes e (List.mem_of_getElem? he)).mono hB1
    replace X1 := X1.mono hB1
    have hd1 := hd.mono hB1
    obtain ⟨⟨t1, t2, t3, t4, t5, h1, h2, h3, h4, h5, h6⟩, -, -, -, -⟩ := id hs
    have hpm2 := hM.at G.nd (List.mem_of_getElem? hp)
    have hfl := hI.length
    rw [List.length_map] at hfl
    have htk : (T.take (i + 1)).map (·.1) = (T.take i).map (·.1) ++ [p.1] := by rw [take_step hp, List.map_append]; rfl
    repeat (first | wtm_at "evi" | (refine r_item_dc2 (by assumption) (by wtm_at "in") hval ?_; intro _ _))
    refine Br.split (fun hb => ?_) (fun hb => ?_)
    · have hin : p.1 ∈ order := hpm2.1.mp (by simpa using hb)
      have hslot := hpm2.2 hin
      obtain ⟨j, hj, hjk⟩ := List.getElem_of_mem hin
      have hjo : order[j]? = some p.1 := by rw [List.getElem?_eq_getElem hj, hjk]
      have hpos := posOf_at hM.ord.nd hjo
      repeat (first | wtm_at "evi" | (refine r_item_dc2 (by assumption) (by wtm_at "in") hval ?_; intro _ _))
      refine r_sitem_ls (k := j) (by assumption) (.there (.there .here)) (by rw [hslot, hpos]; lia) (by lia) (by lia) ?_
      intro s4 S4
      repeat (first | wtm_at "evi")
      refine Turn.next (by assumption) hB1 ⟨fd, _, by wtm_at "lk", by wtm_at "lk", rfl, ?_⟩
      have e2 : (order.map fun k => if k ∈ (T.take (i + 1)).map (·.1) then k else 0) = (order.map fun k => if k ∈ (T.take i).map (·.1) then k else 0).set j p.1 := by
        refine List.ext_getElem? fun l => ?_
        rw [List.getElem?_set, List.getElem?_map, List.getElem?_map, List.length_map]
        by_cases hl : j = l
        · subst hl
          rw [if_pos rfl, if_pos hj, hjo, htk]; simp
        · rw [if_neg hl]
          cases eo : order[l]? with
          | none => rfl
          | some k' =>
            have hne : k' ≠ p.1 := fun q => hl (nd_inj hM.ord.nd hjo (q ▸ eo))
            show some (if k' ∈ _ then k' else 0) = some (if k' ∈ _ then k' else 0)
            rw [htk]
            simp [hne]
      rw [e2, q1]
      have : ∀ {vs : List Value} {ns : List Int} (h : IntsAre vs ns) (j : Nat) (x : Int) (t : Tok), IntsAre (vs.set j (.int x t)) (ns.set j x) := by
        intro vs ns h
        induction h with
        | nil => intro j x t; exact .nil
        | cons a u h ih => intro j x t; cases j with
          | zero => exact .cons _ _ h
          | succ j => exact .cons _ _ (ih j x t)
      exact this hI j p.1 tk
    · have hnot : p.1 ∉ order := fun h => by have := hpm2.1.mpr h; rw [this] at hb; simp at hb
      repeat (first | wtm_at "evi")
      refine Turn.next (by assumption) hB1 ⟨fd, fvs, by wtm_at "lk", by wtm_at "lk", rfl, ?_⟩
      have e2 : (order.map fun k => if k ∈ (T.take (i + 1)).map (·.1) then k else 0) = (order.map fun k => if k ∈ (T.take i).map (·.1) then k else 0) := by
        refine List.map_congr_left fun k hk => ?_
        have hne : k ≠ p.1 := fun q => hnot (q ▸ hk)
        rw [htk]; simp [hne]
      rw [e2]; exact hI
  · rintro B1 m1 cs1 s3 hB1 ⟨fd, fvs, n1, n2, rfl, hI⟩ S3
    have e2 : (order.map fun k => if k ∈ (T.take es.length).map (·.1) then k else 0) = order := by
      conv => rhs; rw [← List.map_id order]
      refine List.map_congr_left fun k hk => ?_
      rw [hel, List.take_length, if_pos]; rfl
      rw [hM.eq, slotsT_keys]
      obtain ⟨sv, h, _⟩ := (hM.ord.mem k).mp hk
      exact List.mem_map.mpr ⟨_, h, rfl⟩
    rw [e2] at hI
    repeat (first | wtm_at "evi")
    exact k fd fvs _ hI (St.sub (by assumption) hB1 (by wtm_at "sl"))
end
/-! ## what spoils a plan -/
theorem look_mem {α : Type} {l : List (Int × α)} {k : Int} {x : α} (nd : (l.map (·.1)).Nodup) (h : (k, x) ∈ l) : look l k = some x := by
  induction l with
  | nil => cases h
  | cons p l ih =>
    rw [List.map_cons, List.nodup_cons] at nd
    rcases List.mem_cons.mp h with e | h
    · subst e; simp [look]
    · have hne : ¬ p.1 = k := fun q => nd.1 (by rw [q]; exact List.mem_map.mpr ⟨_, h, rfl⟩)
      have := ih nd.2 h
      simpa [look, hne] using this
theorem mem_look {α : Type} {l : List (Int × α)} {k : Int} {x : α} (h : look l k = some x) : (k, x) ∈ l := by
  unfold look at h
  cases hf : l.find? (fun kv => kv.1 = k) with
  | none => rw [hf] at h; cases h
  | some y =>
    rw [hf] at h
    cases h
    have h1 := List.find?_some hf
    have h2 := List.mem_of_find?_eq_some hf
    have : y.1 = k := by simpa using h1
    rw [← this]; exact h2
theorem perm_sum {a b : List Int} (h : a.Perm b) : a.sum = b.sum := by
  induction h with
  | nil => rfl
  | cons x _ ih => simp [ih]
  | swap x y l => simp; lia
  | trans _ _ h1 h2 => exact h1.trans h2
section
variable {c : Cla} {p p' : Pln}
theorem PlanOk.ndP (h : PlanOk c p) (nd : (p.infos.map (·.1)).Nodup) : (c.places.map (·.1)).Nodup := h.keys.nodup_iff.mpr nd
theorem PlanOk.var (h : PlanOk c p) (nd : (p.infos.map (·.1)).Nodup) {k : Int} {i : Inf} (hm : (k, i) ∈ p.infos) : ∃ ps, (k, ps) ∈ c.places ∧ VarOk c k ps i := by
  have hk : k ∈ c.places.map (·.1) := h.keys.mem_iff.mpr (List.mem_map.mpr ⟨_, hm, rfl⟩)
  obtain ⟨⟨k', ps⟩, he, rfl⟩ := List.mem_map.mp hk
  exact ⟨ps, he, h.vars _ he i (look_mem nd hm)⟩
theorem PlanOk.var2 (h : PlanOk c p) (h' : PlanOk c p') (nd : (p.infos.map (·.1)).Nodup) (nd' : (p'.infos.map (·.1)).Nodup) {k : Int} {i i' : Inf} (hm : (k, i) ∈ p.infos) (hm' : (k, i') ∈ p'.infos) : ∃ ps, VarOk c k ps i ∧ VarOk c k ps i' := by
  obtain ⟨ps, h1, h2⟩ := h.var nd hm
  obtain ⟨ps', h3, h4⟩ := h'.var nd' hm'
  have := uniqT (h.ndP nd) h1 h3
  subst this
  exact ⟨ps, h2, h4⟩
theorem kind_three {s : Str} (h : (["void", "perm", "temp"] : List Str).contains s = true) : s = ("void" : Str) ∨ s = ("perm" : Str) ∨ s = ("temp" : Str) := by
  have := List.contains_iff_mem.mp h
  simpa using this
theorem VarOk.uniq {k : Int} {ps : List Pl} {i i' : Inf} (h : VarOk c k ps i) (h' : VarOk c k ps i') : i.kind = i'.kind ∧ i.first = i'.first ∧ i.last = i'.last ∧ i.risk = i'.risk ∧ (i.kind ≠ ("perm" : Str) → i.slot = i'.slot) := by
  have hk : i.kind = i'.kind := by
    have hv : decide (i.kind = ("void" : Str)) = decide (i'.kind = ("void" : Str)) := h.void.trans h'.void.symm
    have hp : decide (i.kind = ("perm" : Str)) = decide (i'.kind = ("perm" : Str)) := h.perm.trans h'.perm.symm
    have hv' : i.kind = ("void" : Str) ↔ i'.kind = ("void" : Str) := by simpa using hv
    have hp' : i.kind = ("perm" : Str) ↔ i'.kind = ("perm" : Str) := by simpa using hp
    rcases kind_three h.kinds with e | e | e <;> rcases kind_three h'.kinds with e' | e' | e' <;> first
      | exact e.trans e'.symm
      | exact e.trans (hv'.mp e).symm
      | exact (hv'.mpr e').trans e'.symm
      | exact e.trans (hp'.mp e).symm
      | exact (hp'.mpr e').trans e'.symm
  refine ⟨hk, h.first.trans h'.first.symm, h.last.unique h'.last, ?_, fun hne => (h.rest hne).1.trans (h'.rest (hk ▸ hne)).1.symm⟩
  by_cases hp : i.kind = ("perm" : Str)
  · rw [h.risk hp, h'.risk (hk ▸ hp), h.first, h'.first]
  · rw [(h.rest hp).2, (h'.rest (hk ▸ hp)).2]
theorem mem_perms {T : Tbl} {a : Inf} : a ∈ permsM p T ↔ ∃ e ∈ T, look p.infos e.1 = some a ∧ a.kind = ("perm" : Str) := by
  unfold permsM
  rw [List.mem_filterMap]
  constructor
  · rintro ⟨e, he, h⟩
    obtain ⟨h1, h2⟩ := Option.filter_eq_some_iff.mp h
    exact ⟨e, he, h1, of_decide_eq_true h2⟩
  · rintro ⟨e, he, h1, h2⟩
    exact ⟨e, he, by rw [h1]; simp [h2]⟩
theorem PlanOk.slot (h : PlanOk c p) {n : Int} (h1 : 1 ≤ n) (h2 : n ≤ p.env) : ∃ e ∈ c.places, ∃ a, look p.infos e.1 = some a ∧ a.kind = ("perm" : Str) ∧ a.slot = n := by
  have hm : n ∈ (permsM p c.places).map (·.slot) := by
    rw [h.slots.mem_iff, List.mem_map]
    have := h.env
    exact ⟨(n - 1).toNat, List.mem_range.mpr (by lia), by lia⟩
  obtain ⟨a, ha, e⟩ := List.mem_map.mp hm
  obtain ⟨x, hx, q1, q2⟩ := mem_perms.mp ha
  exact ⟨x, hx, a, q1, q2, e⟩
theorem no_chunk {a : Nat} {x : Int} (hat : a < c.goals.length) (hx : x ≠ (callsB c a : Int)) (hc : a < p.chunks.length) : ¬ PlanOk c { p with chunks := p.chunks.set a x } := fun h => by
  have := (h.goals.each a hat).chunk
  simp only [List.getElem?_set, hc, if_true] at this
  exact hx (Option.some.inj this)
theorem no_live {a : Nat} {x l : Int} (h : PlanOk c p) (hat : a < c.goals.length) (hl : p.live[a]? = some l) (hx : x = l + 1 ∨ x = l - 1) : ¬ PlanOk c { p with live := p.live.set a x } := fun h' => by
  have hla := (List.getElem?_eq_some_iff.mp hl).1
  have hl' : ({ p with live := p.live.set a x } : Pln).live[a]? = some x := by show (p.live.set a x)[a]? = some x; rw [List.getElem?_set]; simp [hla]
  have g := h.goals.each a hat
  have g' := h'.goals.each a hat
  have b := g.live l hl
  have b' := g'.live x hl'
  have b'' : 0 ≤ x ∧ x ≤ p.env := b'
  rcases hx with rfl | rfl
  · obtain ⟨e, he, i, h1, h2, h3⟩ := h.slot (n := l + 1) (by lia) b''.2
    have q1 := g.vars e he i h1 h2 l hl
    have q2 := g'.vars e he i h1 h2 _ hl'
    rw [q1, h3] at q2
    simp at q2; lia
  · obtain ⟨e, he, i, h1, h2, h3⟩ := h.slot (n := l) (by lia) b.2
    have q1 := g.vars e he i h1 h2 l hl
    have q2 := g'.vars e he i h1 h2 _ hl'
    rw [q1, h3] at q2
    simp at q2; lia
theorem no_needs (h : PlanOk c p) : ¬ PlanOk c { p with needs := !p.needs } := fun h' => by
  have h1 := h.goals.needs
  have h2 : (!p.needs) = innerC c c.goals.length := h'.goals.needs
  rw [h1] at h2
  cases innerC c c.goals.length <;> simp at h2
theorem no_env (h : PlanOk c p) : ¬ PlanOk c { p with env := p.env + 1 } := fun h' => by
  have h1 := h.env
  have h2 : p.env + 1 = ((permsM p c.places).length : Int) := h'.env
  lia
theorem no_len {x : Int} (h : PlanOk c p) : ¬ PlanOk c { p with chunks := p.chunks ++ [x] } := fun h' => by
  have h1 := h.goals.n1
  have h2 : (p.chunks ++ [x]).length = c.goals.length := h'.goals.n1
  simp at h2; lia
/-- another entry for one of the variables -/
noncomputable def setI (p : Pln) (j : Nat) (k : Int) (i : Inf) : Pln := { p with infos := p.infos.set j (k, i) }
theorem setI_keys {j : Nat} {k : Int} {i i' : Inf} (hj : p.infos[j]? = some (k, i)) : (setI p j k i').infos.map (·.1) = p.infos.map (·.1) := by
  refine List.ext_getElem? fun l => ?_
  show ((p.infos.set j (k, i')).map (·.1))[l]? = _
  rw [List.getElem?_map, List.getElem?_map, List.getElem?_set]
  by_cases hl : j = l
  · subst hl
    have := (List.getElem?_eq_some_iff.mp hj).1
    rw [if_pos rfl, if_pos this, hj]; rfl
  · rw [if_neg hl]
theorem setI_mem {j : Nat} {k : Int} {i i' : Inf} (hj : p.infos[j]? = some (k, i)) : (k, i') ∈ (setI p j k i').infos := by
  have := (List.getElem?_eq_some_iff.mp hj).1
  exact List.mem_of_getElem? (i := j) (by show (p.infos.set j (k, i'))[j]? = _; rw [List.getElem?_set]; simp [this])
theorem setI_var {j : Nat} {k : Int} {i i' : Inf} (h : PlanOk c p) (nd : (p.infos.map (·.1)).Nodup) (hj : p.infos[j]? = some (k, i)) (h' : PlanOk c (setI p j k i')) : i.kind = i'.kind ∧ i.first = i'.first ∧ i.last = i'.last ∧ i.risk = i'.risk ∧ (i.kind ≠ ("perm" : Str) → i.slot = i'.slot) := by
  obtain ⟨ps, h1, h2⟩ := h.var2 h' nd (by rw [setI_keys hj]; exact nd) (List.mem_of_getElem? hj) (setI_mem hj)
  exact h1.uniq h2
theorem look_set {j : Nat} {k k' : Int} {i i' : Inf} (nd : (p.infos.map (·.1)).Nodup) (hj : p.infos[j]? = some (k, i)) : look (setI p j k i').infos k' = if k' = k then some i' else look p.infos k' := by
  have nd' : ((setI p j k i').infos.map (·.1)).Nodup := by rw [setI_keys hj]; exact nd
  by_cases e : k' = k
  · subst e; rw [if_pos rfl]; exact look_mem nd' (setI_mem hj)
  · rw [if_neg e]
    cases hl : look p.infos k' with
    | some x =>
      have hm := mem_look hl
      obtain ⟨l, hll, hlx⟩ := List.getElem_of_mem hm
      refine look_mem nd' (List.mem_of_getElem? (i := l) ?_)
      show (p.infos.set j (k, i'))[l]? = _
      rw [List.getElem?_set]
      have hne : ¬ j = l := fun q => by subst q; rw [List.getElem?_eq_getElem hll, hlx] at hj; cases hj; exact e rfl
      rw [if_neg hne, List.getElem?_eq_getElem hll, hlx]
    | none =>
      cases hl' : look (setI p j k i').infos k' with
      | none => rfl
      | some x =>
        have hm := mem_look hl'
        have hk : k' ∈ p.infos.map (·.1) := by rw [← setI_keys (i' := i') hj]; exact List.mem_map.mpr ⟨_, hm, rfl⟩
        obtain ⟨y, hy⟩ := look_some hk
        rw [hl] at hy; cases hy
noncomputable def slotAt (p : Pln) (k : Int) : Int := match look p.infos k with | some i => if i.kind = ("perm" : Str) then i.slot else 0 | none => 0
theorem sum_slots (p : Pln) : ∀ T : Tbl, ((permsM p T).map (·.slot)).sum = (T.map fun e => slotAt p e.1).sum
  | [] => rfl
  | e :: T => by
    have ih := sum_slots p T
    unfold permsM at *
    rw [List.filterMap_cons]
    cases hl : look p.infos e.1 with
    | none => simp only [Option.filter_none, List.map_cons, List.sum_cons, ih]; simp [slotAt, hl]
    | some i =>
      by_cases hp : i.kind = ("perm" : Str)
      · simp only [Option.filter_some, hp, decide_true, if_true, List.map_cons, List.sum_cons, ih]; simp [slotAt, hl, hp]
      · simp only [Option.filter_some, hp, decide_false, List.map_cons, List.sum_cons, ih]; simp [slotAt, hl, hp, ih]
theorem sum_one {k : Int} {f g : Int → Int} : ∀ {T : Tbl}, (T.map (·.1)).Nodup → k ∈ T.map (·.1) → (∀ x, x ≠ k → g x = f x) → g k = f k + 1 → (T.map fun e => g e.1).sum = (T.map fun e => f e.1).sum + 1
  | e :: T, nd, hk, h1, h2 => by
    rw [List.map_cons, List.nodup_cons] at nd
    simp only [List.map_cons, List.sum_cons]
    by_cases he : e.1 = k
    · have : (T.map fun e => g e.1) = T.map fun e => f e.1 := List.map_congr_left fun x hx => h1 _ fun q => nd.1 (by rw [he, ← q]; exact List.mem_map_of_mem hx)
      rw [this, he, h2]; lia
    · have hm : k ∈ T.map (·.1) := by
        rcases List.mem_cons.mp hk with q | q
        · exact absurd q.symm he
        · exact q
      rw [sum_one nd.2 hm h1 h2, h1 _ he]; lia
theorem no_slot {j : Nat} {k : Int} {i : Inf} (h : PlanOk c p) (nd : (p.infos.map (·.1)).Nodup) (hj : p.infos[j]? = some (k, i)) : ¬ PlanOk c (setI p j k { i with slot := i.slot + 1 }) := fun h' => by
  have hv := setI_var h nd hj h'
  by_cases hp : i.kind = ("perm" : Str)
  · have e1 := perm_sum h.slots
    have e2 := perm_sum h'.slots
    have l1 := h.env
    have l2 : p.env = _ := h'.env
    have hl : (permsM (setI p j k { i with slot := i.slot + 1 }) c.places).length = (permsM p c.places).length := by lia
    rw [hl] at e2
    rw [← e1, sum_slots, sum_slots] at e2
    have hk : k ∈ c.places.map (·.1) := h.keys.mem_iff.mpr (List.mem_map.mpr ⟨_, List.mem_of_getElem? hj, rfl⟩)
    have := sum_one (k := k) (f := slotAt p) (g := slotAt (setI p j k { i with slot := i.slot + 1 })) (h.ndP nd) hk (fun x hx => by unfold slotAt; rw [look_set nd hj, if_neg hx]) (by
      unfold slotAt
      rw [look_set nd hj, if_pos rfl, look_mem nd (List.mem_of_getElem? hj)]
      simp [hp])
    lia
  · have : i.slot = i.slot + 1 := hv.2.2.2.2 hp
    lia
theorem no_pop {infos : List (Int × Inf)} (h : PlanOk c p) (hl : infos.length + 1 = p.infos.length) : ¬ PlanOk c { p with infos := infos } := fun h' => by
  have e1 := h.keys.length_eq
  have e2 : _ = (infos.map (·.1)).length := h'.keys.length_eq
  simp only [List.length_map] at e1 e2
  lia
theorem no_order {a b : Inf} {ka kb : Int} (nd : (p.infos.map (·.1)).Nodup) (ha : (ka, a) ∈ p.infos) (hb : (kb, b) ∈ p.infos) (pa : a.kind = ("perm" : Str)) (pb : b.kind = ("perm" : Str)) (hs : b.slot < a.slot) (ho : b.last < a.last ∨ (a.last = b.last ∧ ka < kb)) : ¬ PlanOk c p := fun h => by
  obtain ⟨ps, m1, v1⟩ := h.var nd ha
  obtain ⟨ps', m2, v2⟩ := h.var nd hb
  have ma : a ∈ permsM p c.places := mem_perms.mpr ⟨_, m1, look_mem nd ha, pa⟩
  have mb : b ∈ permsM p c.places := mem_perms.mpr ⟨_, m2, look_mem nd hb, pb⟩
  obtain ⟨q1, q2⟩ := h.order a ma b mb
  rcases ho with ho | ⟨ho, hk⟩
  · exact q1 ⟨ho, hs⟩
  · exact q2 ⟨ho, by rw [v1.var, v2.var]; exact hk, hs⟩
end
/-! ## spoiled lists -/
theorem ints_set {vs : List Value} {ns : List Int} (h : IntsAre vs ns) : ∀ (j : Nat) (x : Int) (t : Tok), IntsAre (vs.set j (.int x t)) (ns.set j x) := by
  induction h with
  | nil => intro j x t; exact .nil
  | cons a u h ih => intro j x t; cases j with
    | zero => exact .cons _ _ h
    | succ j => exact .cons _ _ (ih j x t)
theorem PlC2.sub {K : Wk} {pdx ch lv d : Addr} {pm : Str → Option Value} {cvs lvs : List Value} {es : List VE} {R : List Cell} : R.Sublist (PlC2 K pdx ch lv d pm cvs lvs es R) :=
  .cons _ (.cons _ (.cons _ (.cons _ (List.sublist_append_right _ _))))
theorem chunks_at {c : Cla} {a : Nat} (h : a < c.goals.length) : (chunksM c)[a]? = some (callsB c a : Int) := by
  unfold chunksM; rw [List.getElem?_map, List.getElem?_range h]; rfl
theorem chunks_len (c : Cla) : (chunksM c).length = c.goals.length := by unfold chunksM; simp
section
variable {K : Wk} {A : Around} {E : Value → Shared → Prop} {z : Shared} {B : View} {cs R : List Cell} {F : Cell} {s : Shared} {v : Value} {c : Cla} {Q : Value → Shared → Prop}
inductive SL1 (v : Value) (cs : List Cell) (i : Nat) (B' : View) (m' : Str → Option Value) (cs' : List Cell) : Prop
  | mk : (m' "clause" = some v) → (cs' = cs) → SL1 v cs i B' m' cs'
inductive SL2 (v : Value) (a : Int) (t : Tok) (cs : List Cell) (i : Nat) (B' : View) (m' : Str → Option Value) (cs' : List Cell) : Prop
  | mk : (m' "clause" = some v) → (m' "at" = some (.int a t)) → (cs' = cs) → SL2 v a t cs i B' m' cs'
set_option maxHeartbeats 8000000 in
theorem c_spoil_lists (G : Good c) (S : St z B cs s) (W : Lib K B) (O : Ok 10 210 A) (hc : ClAt K B v c) (hz : c.goals.length ≤ 800)
    (k : ∀ s', St z B cs s' → Q (.bool true) s') : wpAny K.M A (call (.ref (fa K "_law_spoil_lists")) [v]) Q E s := by
  refine r_fnc 32 [("clause", v)] S W O (rec_mem (by decide)) rfl (fun _ _ _ => rfl) (locs rfl) (by decide) ?_
  intro A L cd s O S
  have hcl := chunks_len c
  have hTz := G.sv
  repeat (first | wtm_at "evi")
  refine c_classify2 G (by assumption) (by wtm_at "up") (by wtm_at "ok") hc ?_
  intro px pdx pm B1 d ch cvs lv lvs live order es T s1 lo hB1 PX hpm hI hL hM r S1
  have hcvl := hI.length
  obtain ⟨p1, p2, p3, ⟨te, p4⟩, p5, p6, p7⟩ := hpm
  repeat (first | wtm_at "evi")
  intro I ItO s3 It S3
  replace S3 := S3.drop (.cons_cons _ (.cons_cons _ PlC2.sub))
  refine r_loop It (SL1 v cs) S3 (Sub.refl _) ⟨by wtm_at "lk", rfl⟩ ?_ ?_
  · rintro i B2 m2 cs2 w s4 hB2 hi ⟨tw, rfl⟩ ⟨n1, rfl⟩ S4
    have hin : i < c.goals.length := by lia
    have hB := hB1.trans hB2
    have hc2 := hc.mono hB
    have hW2 := W.mono hB
    clear hB
    repeat (first | wtm_at "evi")
    obtain ⟨B3, hB3, pl, S5⟩ := St.frz (by assumption) (.there .here)
    repeat (first | wtm_at "evi")
    intro I2 s6 It2 S6
    refine r_loop It2 (SL2 v i tw ((I, ItO (i + 1)) :: cs2)) S6 (Sub.refl _) ⟨by wtm_at "lk", by wtm_at "lk", rfl⟩ ?_ ?_
    · rintro j B4 m4 cs4 w s7 hB4 hj hw ⟨n2, n3, rfl⟩ S7
      have hxx : ∃ x tx, w = .int x tx ∧ (x = 1 ∨ x = -1) := by
        match j, hw with
        | 0, hw => cases hw; exact ⟨1, _, rfl, .inl rfl⟩
        | 1, hw => cases hw; exact ⟨-1, _, rfl, .inr rfl⟩
        | n + 2, hw => simp at hw
      obtain ⟨x, tx, rfl, hx1⟩ := hxx
      have hc4 := hc2.mono (hB3.trans hB4)
      have hW4 := hW2.mono (hB3.trans hB4)
      repeat (first | wtm_at "evi")
      refine c_classify2 G (by assumption) (by wtm_at "up") (by wtm_at "ok") hc4 ?_
      intro px1 pdx1 pm1 B5 d1 ch1 cvs1 lv1 lvs1 live1 order1 es1 T1 s8 lo1 hB5 PX1 hpm1 hI1 hL1 hM1 r1 S8
      obtain ⟨a1, a2, a3, ⟨ta1, a4⟩, a5, a6, a7⟩ := hpm1
      obtain ⟨tc1, hc1⟩ := intsAt2 hI1 (chunks_at hin)
      have hcl1 := hI1.length
      have hW5 := hW4.mono hB5
      repeat (first | wtm_at "evi" | (refine r_item_ls (by wtm_at "in") rfl (by lia) hc1 ?_))
      refine r_sitem_ls (k := i) (by assumption) (.there (.there .here)) rfl (by lia) (by lia) ?_
      intro s9 S9
      obtain ⟨B6, hB6, P1, S10⟩ := plan_frz2 S9 PX1 lo1 a1 a2 a3 a4 a5 (ints_set hI1 i _ _) hL1 r1
      have hW6 := hW5.mono hB6
      have hc6 := hc4.mono (hB5.trans hB6)
      have hll1 := hM1.len
      have hTl1 := hM1.lenT
      repeat (first | wtm_at "evi")
      refine c_classify2 G (by assumption) (by wtm_at "up") (by wtm_at "ok") hc6 ?_
      intro px2 pdx2 pm2 B7 d2 ch2 cvs2 lv2 lvs2 live2 order2 es2 T2 s11 lo2 hB7 PX2 hpm2 hI2 hL2 hM2 r2 S11
      obtain ⟨b1, b2, b3, ⟨tb1, b4⟩, b5, b6, b7⟩ := hpm2
      have hll2 := hM2.len
      have hTl2 := hM2.lenT
      obtain ⟨lx, hlx⟩ : ∃ lx, live2[i]? = some lx := ⟨_, List.getElem?_eq_getElem (by lia)⟩
      obtain ⟨tl2, hl2⟩ := intsAt2 hL2 hlx
      have hlv2 := hL2.length
      have hW7 := hW6.mono hB7
      repeat (first | wtm_at "evi" | (refine r_item_ls (by wtm_at "in") rfl (by lia) hl2 ?_))
      refine r_sitem_ls (k := i) (by assumption) (.there (.there (.there .here))) rfl (by lia) (by lia) ?_
      intro s12 S12
      obtain ⟨B8, hB8, P2, S13⟩ := plan_frz2 S12 PX2 lo2 b1 b2 b3 b4 b5 hI2 (ints_set hL2 i _ _) r2
      have hW8 := hW7.mono hB8
      have hc8 := hc6.mono (hB7.trans hB8)
      have P1' := P1.mono (hB7.trans hB8)
      have no1 := no_chunk (p := planM c T1 order1 live1) hin (x := (callsB c i : Int) + x) (by lia) (by show i < (chunksM c).length; lia)
      have no2 := no_live (p := planM c T2 order2 live2) (G.made _ _ _ hM2) hin hlx (x := lx + x) (by lia)
      repeat (first | wtm_at "evi")
      refine c_check_no G (by assumption) (by wtm_at "up") (by wtm_at "ok") hc8 P1' ?_ ?_ ?_ no1 ?_
      · simp; lia
      · show live1.length ≤ 900; lia
      · simp; lia
      intro s14 S14
      repeat (first | wtm_at "evi")
      refine c_check_no G (by assumption) (by wtm_at "up") (by wtm_at "ok") hc8 P2 ?_ ?_ ?_ no2 ?_
      · show (chunksM c).length ≤ 900; lia
      · simp; lia
      · simp; lia
      intro s15 S15
      repeat (first | wtm_at "evi")
      exact Turn.next (by assumption) (hB4.trans (hB5.trans (hB6.trans (hB7.trans hB8)))) ⟨by wtm_at "lk", by wtm_at "lk", rfl⟩
    · rintro B4 m4 cs4 s7 hB4 ⟨n2, n3, rfl⟩ S7
      repeat (first | wtm_at "evi")
      exact Turn.next (by assumption) (hB2.trans (hB3.trans hB4)) ⟨by wtm_at "lk", rfl⟩
  · rintro B2 m2 cs2 s4 hB2 ⟨n1, rfl⟩ S4
    have hB := hB1.trans hB2
    have hc2 := hc.mono hB
    have hW2 := W.mono hB
    clear hB
    repeat (first | wtm_at "evi")
    refine c_classify2 G (by assumption) (by wtm_at "up") (by wtm_at "ok") hc2 ?_
    intro px1 pdx1 pm1 B5 d1 ch1 cvs1 lv1 lvs1 live1 order1 es1 T1 s8 lo1 hB5 PX1 hpm1 hI1 hL1 hM1 r1 S8
    obtain ⟨a1, a2, a3, ⟨ta1, a4⟩, a5, a6, a7⟩ := hpm1
    have hW5 := hW2.mono hB5
    repeat (first | wtm_at "evi")
    rename St _ _ _ _ => S9
    obtain ⟨B6, hB6, P1, S10⟩ := plan_frz2 S9 PX1 lo1 (by wtm_at "lk") (by wtm_at "lk") look_self (by wtm_at "lk") (by wtm_at "lk") hI1 hL1 r1
    have hW6 := hW5.mono hB6
    have hc6 := hc2.mono (hB5.trans hB6)
    have hll1 := hM1.len
    have hTl1 := hM1.lenT
    clear S9
    repeat (first | wtm_at "evi")
    refine c_classify2 G (by assumption) (by wtm_at "up") (by wtm_at "ok") hc6 ?_
    intro px2 pdx2 pm2 B7 d2 ch2 cvs2 lv2 lvs2 live2 order2 es2 T2 s11 lo2 hB7 PX2 hpm2 hI2 hL2 hM2 r2 S11
    obtain ⟨b1, b2, b3, ⟨tb1, b4⟩, b5, b6, b7⟩ := hpm2
    have hll2 := hM2.len
    have hTl2 := hM2.lenT
    have hW7 := hW6.mono hB7
    repeat (first | wtm_at "evi")
    rename St _ _ _ _ => S12
    obtain ⟨B8, hB8, P2, S13⟩ := plan_frz2 S12 PX2 lo2 (by wtm_at "lk") (by wtm_at "lk") (by wtm_at "lk") look_self (by wtm_at "lk") hI2 hL2 r2
    have hW8 := hW7.mono hB8
    have hc8 := hc6.mono (hB7.trans hB8)
    have P1' := P1.mono (hB7.trans hB8)
    clear S12
    repeat (first | wtm_at "evi")
    refine c_classify2 G (by assumption) (by wtm_at "up") (by wtm_at "ok") hc8 ?_
    intro px3 pdx3 pm3 B9 d3 ch3 cvs3 lv3 lvs3 live3 order3 es3 T3 s14 lo3 hB9 PX3 hpm3 hI3 hL3 hM3 r3 S14
    obtain ⟨e1, e2, e3, ⟨te3, e4⟩, e5, e6, e7⟩ := hpm3
    have hll3 := hM3.len
    have hTl3 := hM3.lenT
    have hcl3 := hI3.length
    have hW9 := hW8.mono hB9
    repeat (first | wtm_at "evi")
    refine r_add_ls (u₁ := []) (by assumption) (by wtm_at "in") (by wtm_at "in") (by simp; lia) ?_
    intro nch s15 S15
    repeat (first | wtm_at "evi")
    rename St _ _ _ _ => S16
    have S17 := (S16.drop (cs' := (_, _) :: (nch, LsO _) :: (pdx3, AtO _) :: (lv3, LsO lvs3) :: SvC K d3 es3 cs2) (.cons_cons _ (.cons_cons _ (.cons _ (.cons_cons _ (.cons _ (List.Sublist.refl _))))))).perm (.cons _ (.swap _ _ _))
    obtain ⟨B10, hB10, P3, S18⟩ := plan_frz2 S17 PX3 lo3 (by wtm_at "lk") look_self (by wtm_at "lk") (by wtm_at "lk") (by wtm_at "lk") (hI3.append (.cons 0 _ .nil)) hL3 r3
    clear S16 S17
    have hW10 := hW9.mono hB10
    have hc10 := hc8.mono (hB9.trans hB10)
    have P1'' := P1'.mono (hB9.trans hB10)
    have P2' := P2.mono (hB9.trans hB10)
    have no1 := no_needs (G.made _ _ _ hM1)
    have no2 := no_env (G.made _ _ _ hM2)
    have no3 := no_len (x := 0) (G.made _ _ _ hM3)
    refine c_check_no G (by assumption) (by wtm_at "up") (by wtm_at "ok") hc10 P1'' ?_ ?_ ?_ no1 ?_
    · show (chunksM c).length ≤ 900; lia
    · show live1.length ≤ 900; lia
    · simp; lia
    intro s19 S19
    repeat (first | wtm_at "evi")
    refine c_check_no G (by assumption) (by wtm_at "up") (by wtm_at "ok") hc10 P2' ?_ ?_ ?_ no2 ?_
    · show (chunksM c).length ≤ 900; lia
    · show live2.length ≤ 900; lia
    · simp; lia
    intro s20 S20
    repeat (first | wtm_at "evi")
    refine c_check_no G (by assumption) (by wtm_at "up") (by wtm_at "ok") hc10 P3 ?_ ?_ ?_ no3 ?_
    · simp; lia
    · show live3.length ≤ 900; lia
    · simp; lia
    intro s21 S21
    repeat (first | wtm_at "evi")
    exact k _ (St.sub (by assumption) (hB1.trans (hB2.trans (hB5.trans (hB6.trans (hB7.trans (hB8.trans (hB9.trans hB10))))))) (by wtm_at "sl"))
end
/-! ## spoiled variables -/
theorem SvM.setKind {m : Str → Option Value} {i : Sv} (h : SvM m i) (w : Str) (t : Tok) : SvM (upd m "kind" (.str w t)) { i with inf := { i.inf with kind := w } } := by
  obtain ⟨⟨t1, t2, t3, t4, t5, h1, h2, h3, h4, h5, h6⟩, ⟨t6, h7⟩, ⟨t7, h8⟩, ⟨t8, h9⟩, wi⟩ := h
  exact ⟨⟨_, _, _, _, _, by wtm_at "lk", by wtm_at "lk", by wtm_at "lk", by wtm_at "lk", by wtm_at "lk", by wtm_at "lk"⟩, ⟨_, by wtm_at "lk"⟩, ⟨_, by wtm_at "lk"⟩, ⟨_, by wtm_at "lk"⟩, by wtm_at "wi"⟩
theorem SvM.setRisk {m : Str → Option Value} {i : Sv} (h : SvM m i) (b : Bool) : SvM (upd m "unsafe" (.bool b)) { i with inf := { i.inf with risk := b } } := by
  obtain ⟨⟨t1, t2, t3, t4, t5, h1, h2, h3, h4, h5, h6⟩, ⟨t6, h7⟩, ⟨t7, h8⟩, ⟨t8, h9⟩, wi⟩ := h
  exact ⟨⟨_, _, _, _, _, by wtm_at "lk", by wtm_at "lk", by wtm_at "lk", by wtm_at "lk", by wtm_at "lk", by wtm_at "lk"⟩, ⟨_, by wtm_at "lk"⟩, ⟨_, by wtm_at "lk"⟩, ⟨_, by wtm_at "lk"⟩, by wtm_at "wi"⟩
theorem SvM.setLast {m : Str → Option Value} {i : Sv} (h : SvM m i) (x : Int) (t : Tok) : SvM (upd m "last_goal" (.int x t)) { i with inf := { i.inf with last := x } } := by
  obtain ⟨⟨t1, t2, t3, t4, t5, h1, h2, h3, h4, h5, h6⟩, ⟨t6, h7⟩, ⟨t7, h8⟩, ⟨t8, h9⟩, wi⟩ := h
  exact ⟨⟨_, _, _, _, _, by wtm_at "lk", by wtm_at "lk", by wtm_at "lk", by wtm_at "lk", by wtm_at "lk", by wtm_at "lk"⟩, ⟨_, by wtm_at "lk"⟩, ⟨_, by wtm_at "lk"⟩, ⟨_, by wtm_at "lk"⟩, by wtm_at "wi"⟩
theorem SvM.setFirst {m : Str → Option Value} {i : Sv} (h : SvM m i) (x : Str) (t : Tok) : SvM (upd m "first" (.str x t)) { i with inf := { i.inf with first := x } } := by
  obtain ⟨⟨t1, t2, t3, t4, t5, h1, h2, h3, h4, h5, h6⟩, ⟨t6, h7⟩, ⟨t7, h8⟩, ⟨t8, h9⟩, wi⟩ := h
  exact ⟨⟨_, _, _, _, _, by wtm_at "lk", by wtm_at "lk", by wtm_at "lk", by wtm_at "lk", by wtm_at "lk", by wtm_at "lk"⟩, ⟨_, by wtm_at "lk"⟩, ⟨_, by wtm_at "lk"⟩, ⟨_, by wtm_at "lk"⟩, by wtm_at "wi"⟩
theorem SvM.setSlot {m : Str → Option Value} {i : Sv} (h : SvM m i) (x : Int) (t : Tok) : SvM (upd m "slot" (.int x t)) { i with inf := { i.inf with slot := x } } := by
  obtain ⟨⟨t1, t2, t3, t4, t5, h1, h2, h3, h4, h5, h6⟩, ⟨t6, h7⟩, ⟨t7, h8⟩, ⟨t8, h9⟩, wi⟩ := h
  exact ⟨⟨_, _, _, _, _, by wtm_at "lk", by wtm_at "lk", by wtm_at "lk", by wtm_at "lk", by wtm_at "lk", by wtm_at "lk"⟩, ⟨_, by wtm_at "lk"⟩, ⟨_, by wtm_at "lk"⟩, ⟨_, by wtm_at "lk"⟩, by wtm_at "wi"⟩
theorem no_var {c : Cla} {p : Pln} {j : Nat} {k : Int} {i i' : Inf} (h : PlanOk c p) (nd : (p.infos.map (·.1)).Nodup) (hj : p.infos[j]? = some (k, i)) (hne : ¬ (i.kind = i'.kind ∧ i.first = i'.first ∧ i.last = i'.last ∧ i.risk = i'.risk)) : ¬ PlanOk c (setI p j k i') := fun h' =>
  have := setI_var h nd hj h'
  hne ⟨this.1, this.2.1, this.2.2.1, this.2.2.2.1⟩
/-- the cells of a plan, one variable's in front -/
noncomputable abbrev PlV (K : Wk) (dx pdx ch lv d : Addr) (em pm : Str → Option Value) (cvs lvs : List Value) (es : List VE) (j : Nat) (R : List Cell) : List Cell := (dx, AtO em) :: (pdx, AtO pm) :: (ch, LsO cvs) :: (lv, LsO lvs) :: (d, DcO K (es.map VE.kv)) :: ((es.eraseIdx j).map VE.cell ++ R)
theorem PlV.sub {K : Wk} {F : Cell} {dx pdx ch lv d : Addr} {em pm : Str → Option Value} {cvs lvs : List Value} {es : List VE} {j : Nat} {R : List Cell} : (F :: R).Sublist (F :: PlV K dx pdx ch lv d em pm cvs lvs es j R) :=
  .cons_cons _ (.cons _ (.cons _ (.cons _ (.cons _ (.cons _ (List.sublist_append_right _ _))))))
theorem without_erase {es : List VE} {j : Nat} {e : VE} (nd : (es.map (·.k)).Nodup) (h : es[j]? = some e) : without (es.map VE.kv) e.k = (es.eraseIdx j).map VE.kv := by
  induction es generalizing j with
  | nil => simp at h
  | cons x es ih =>
    rw [List.map_cons, List.nodup_cons] at nd
    cases j with
    | zero =>
      simp at h; subst h
      have : without (es.map VE.kv) x.k = es.map VE.kv := by
        unfold without
        rw [List.filter_eq_self]
        intro kv hkv
        obtain ⟨y, hy, rfl⟩ := List.mem_map.mp hkv
        exact decide_eq_true fun q => nd.1 (by rw [← show y.k = x.k from q]; exact List.mem_map_of_mem hy)
      simp only [List.eraseIdx_cons_zero]
      rw [← this]
      simp [without, VE.kv]
    | succ j =>
      have he : es[j]? = some e := by simpa using h
      have hne : x.k ≠ e.k := fun q => nd.1 (by rw [q]; exact List.mem_map_of_mem (List.mem_of_getElem? he))
      have := ih nd.2 he
      simp only [List.eraseIdx_cons_succ, List.map_cons]
      rw [← this]
      simp [without, VE.kv, hne]
theorem RepV.erase {K : Wk} {B : View} {es : List VE} {T : List (Int × Sv)} (r : RepV K B es T) (j : Nat) : RepV K B (es.eraseIdx j) (T.eraseIdx j) := by
  refine ⟨by rw [List.length_eraseIdx, List.length_eraseIdx, r.1], fun i a b ha hb => ?_⟩
  rw [List.getElem?_eraseIdx] at ha hb
  split at ha
  · next h => rw [if_pos h] at hb; exact r.2 _ _ _ ha hb
  · next h => rw [if_neg h] at hb; exact r.2 _ _ _ ha hb
section
variable {K : Wk} {A : Around} {E : Value → Shared → Prop} {z : Shared} {B : View} {cs R : List Cell} {F : Cell} {s : Shared} {v : Value} {c : Cla} {Q : Value → Shared → Prop}
theorem c_classify3 (G : Good c) {kk : Int} (hk : kk ∈ (svAll c).map (·.1)) (S : St z B (F :: R) s) (W : Lib K B) (O : Ok 9 63 A) (hc : ClAt K B v c)
    (k : ∀ px pdx pm B' d ch cvs lv lvs live order es T j e sv s', (d == sysModules) = false → Sub B B' → Inst B' px (Cp K) pdx → PlnM pm d ch lv (innerC c c.goals.length) order.length → IntsAre cvs (chunksM c) → IntsAre lvs live → Made c order live T → RepV K B' es T →
      T[j]? = some (kk, sv) → es[j]? = some e → e.k = kk → valueAt (es.map VE.kv) kk = some (.ref e.x) → Inst B' e.x (Vi K) e.dx → SvM e.m sv →
      St z B' (F :: PlV K e.dx pdx ch lv d e.m pm cvs lvs es j R) s' → Q (.ref px) s') : wpAny K.M A (call (.ref (fa K "classify")) [v]) Q E s := by
  refine c_classify2 G S W O hc fun px pdx pm B' d ch cvs lv lvs live order es T s' lo hB PX hpm hI hL hM r S' => ?_
  have ndT : (T.map (·.1)).Nodup := by rw [hM.keys]; exact G.nd
  rw [← hM.keys] at hk
  obtain ⟨⟨k', sv⟩, hm, rfl⟩ := List.mem_map.mp hk
  obtain ⟨j, hj, hjT⟩ := List.getElem_of_mem hm
  have hT : T[j]? = some (k', sv) := by rw [List.getElem?_eq_getElem hj, hjT]
  have hrl := r.1
  obtain ⟨e, he⟩ : ∃ e, es[j]? = some e := ⟨_, List.getElem?_eq_getElem (by lia)⟩
  obtain ⟨q1, X, hs⟩ := r.2 j _ _ he hT
  refine k px pdx pm B' d ch cvs lv lvs live order es T j e sv s' lo hB PX hpm hI hL hM r hT he q1 ?_ X hs (S'.perm (.cons _ ?_))
  · refine valueAt_at (i := j) ?_ (by rw [List.getElem?_map, he]; show some (e.k, _) = _; rw [q1])
    rw [VE.keys, r.keys]; exact ndT
  · exact ((VE.out he).append_left [_, _, _, _]).trans List.perm_middle
theorem plan_frz3 {px pdx ch lv d : Addr} {pm : Str → Option Value} {cvs lvs : List Value} {es : List VE} {T : List (Int × Sv)} {order live : List Int} {j : Nat} {e : VE} {M : Str → Option Value} {kk : Int} {sv' : Sv} (S : St z B (F :: PlV K e.dx pdx ch lv d M pm cvs lvs es j R) s) (X : Inst B px (Cp K) pdx) (lo : (d == sysModules) = false)
    (hpm : PlnM pm d ch lv (innerC c c.goals.length) order.length) (hI : IntsAre cvs (chunksM c)) (hL : IntsAre lvs live) (r : RepV K B es T) (he : es[j]? = some e) (hek : e.k = kk) (X1 : Inst B e.x (Vi K) e.dx) (hs : SvM M sv') :
    ∃ B', Sub B B' ∧ PlnAt K B' (.ref px) (setI (planM c T order live) j kk sv'.inf) ∧ St z B' (F :: R) s := by
  obtain ⟨p1, p2, p3, ⟨te, p4⟩, p5, p6, p7⟩ := hpm
  have hkv : (es.set j (VE.mk e.k e.x e.dx M)).map VE.kv = es.map VE.kv := VE.kv_set (e' := VE.mk e.k e.x e.dx M) he rfl rfl
  have S1 : St z B (F :: PlC2 K pdx ch lv d pm cvs lvs (es.set j (VE.mk e.k e.x e.dx M)) R) s := by
    rw [PlC2, SvC, hkv]
    exact S.perm (.cons _ (List.perm_middle.symm.trans ((VE.back (e' := VE.mk e.k e.x e.dx M) he).append_left [_, _, _, _])))
  obtain ⟨B', hB, hP, S2⟩ := plan_frz2 S1 X lo p1 p2 p3 p4 p5 hI hL (r.set (e' := VE.mk e.k e.x e.dx M) (p' := (kk, sv')) ⟨hek, X1, hs⟩)
  refine ⟨B', hB, ?_, S2⟩
  unfold setI planM
  rw [List.map_set] at hP
  exact hP
inductive SVI (v kv : Value) (cs : List Cell) (i : Nat) (B' : View) (m' : Str → Option Value) (cs' : List Cell) : Prop
  | mk : (m' "clause" = some v) → (m' "number" = some kv) → (cs' = cs) → SVI v kv cs i B' m' cs'
set_option maxHeartbeats 16000000 in
theorem c_spoil_variable (G : Good c) {kk : Int} {tk : Tok} (hk : kk ∈ (svAll c).map (·.1)) (S : St z B cs s) (W : Lib K B) (O : Ok 10 210 A) (hc : ClAt K B v c) (hz : c.goals.length ≤ 800)
    (k : ∀ s', St z B cs s' → Q (.bool true) s') : wpAny K.M A (call (.ref (fa K "_law_spoil_variable")) [v, .int kk tk]) Q E s := by
  refine r_fnc 33 [("clause", v), ("number", .int kk tk)] S W O (rec_mem (by decide)) rfl (fun _ _ _ => rfl) (locs rfl) (by decide) ?_
  intro A L cd s O S
  have hcl := chunks_len c
  have hTz := G.sv
  have ndP : ∀ {order live : List Int} {T : List (Int × Sv)}, Made c order live T → ((planM c T order live).infos.map (·.1)).Nodup := by
    intro order live T h
    show ((T.map fun p => (p.1, p.2.inf)).map (·.1)).Nodup
    rw [List.map_map]
    have := h.keys
    rw [show ((fun x : Int × Inf => x.1) ∘ fun p : Int × Sv => (p.1, p.2.inf)) = (·.1) from rfl, this]; exact G.nd
  have infAt : ∀ {order live : List Int} {T : List (Int × Sv)} {j : Nat} {sv : Sv}, T[j]? = some (kk, sv) → (planM c T order live).infos[j]? = some (kk, sv.inf) := by
    intro order live T j sv h
    show (T.map fun p => (p.1, p.2.inf))[j]? = _
    rw [List.getElem?_map, h]; rfl
  repeat (first | wtm_at "evi")
  obtain ⟨B1, hB1, pl, S1⟩ := St.frz (by assumption) (.there .here)
  have hc1 := hc.mono hB1
  have hW1 := W.mono hB1
  repeat (first | wtm_at "evi")
  intro I s2 It S2
  refine r_loop It (SVI v (.int kk tk) cs) S2 (Sub.refl _) ⟨by wtm_at "lk", by wtm_at "lk", rfl⟩ ?_ ?_
  · rintro i B2 m2 cs2 w s3 hB2 hi hw ⟨n1, n2, rfl⟩ S3
    have hwx : ∃ kd tx, w = .str kd tx := by
      match i, hw with
      | 0, hw => cases hw; exact ⟨_, _, rfl⟩
      | 1, hw => cases hw; exact ⟨_, _, rfl⟩
      | 2, hw => cases hw; exact ⟨_, _, rfl⟩
      | n + 3, hw => simp at hw
    obtain ⟨kd, tx, rfl⟩ := hwx
    have hc2 := hc1.mono hB2
    have hW2 := hW1.mono hB2
    repeat (first | wtm_at "evi")
    refine c_classify3 G hk (by assumption) (by wtm_at "up") (by wtm_at "ok") hc2 ?_
    intro px pdx pm B3 d ch cvs lv lvs live order es T j e sv s4 lo hB3 PX hpm hI hL hM r hT he hek hval X hs S4
    obtain ⟨p1, p2, p3, ⟨te, p4⟩, p5, p6, p7⟩ := id hpm
    obtain ⟨⟨t1, t2, t3, t4, t5, h1, h2, h3, h4, h5, h6⟩, -, -, -, hwi⟩ := id hs
    have hW3 := hW2.mono hB3
    have hll := hM.len
    have hTl := hM.lenT
    repeat (first | wtm_at "evi" | (refine r_item_dc2 (by assumption) (by wtm_at "in") hval ?_; intro _ _))
    refine Br.split (fun hb => ?_) (fun hb => ?_)
    · repeat (first | wtm_at "evi" | (refine r_item_dc2 (by assumption) (by wtm_at "in") hval ?_; intro _ _))
      rename St _ _ _ _ => S5
      obtain ⟨B4, hB4, P, S6⟩ := plan_frz3 S5 PX lo hpm hI hL r he hek X (hs.setKind kd tx)
      clear S5
      have hW4 := hW3.mono hB4
      refine c_check_no G (by assumption) (by wtm_at "up") (by wtm_at "ok") (hc2.mono (hB3.trans hB4)) P ?_ ?_ ?_ (no_var (G.made _ _ _ hM) (ndP hM) (infAt hT) (fun h => by have := h.1; simp only at this; rw [this] at hb; simp at hb)) ?_
      · show (chunksM c).length ≤ 900; lia
      · show live.length ≤ 900; lia
      · simp [setI, planM]; lia
      intro s7 S7
      repeat (first | wtm_at "evi")
      exact Turn.next (by assumption) (hB2.trans (hB3.trans hB4)) ⟨by wtm_at "lk", by wtm_at "lk", rfl⟩
    · repeat (first | wtm_at "evi")
      rename St _ _ _ _ => S5
      exact Turn.next (S5.sub hB3 PlV.sub) hB2 ⟨by wtm_at "lk", by wtm_at "lk", rfl⟩
  · rintro B2 m2 cs2 s3 hB2 ⟨n1, n2, rfl⟩ S3
    have hc2 := hc1.mono hB2
    have hW2 := hW1.mono hB2
    repeat (first | wtm_at "evi")
    refine c_classify3 G hk (by assumption) (by wtm_at "up") (by wtm_at "ok") hc2 ?_
    intro px pdx pm B3a d ch cvs lv lvs live order es T j e sv s4 lo hB3a PX hpm hI hL hM r hT he hek hval X hs S4
    obtain ⟨p1, p2, p3, ⟨te, p4⟩, p5, p6, p7⟩ := id hpm
    obtain ⟨⟨t1, t2, t3, t4, t5, h1, h2, h3, h4, h5, h6⟩, -, -, -, hwi⟩ := id hs
    have hWx := hW2.mono hB3a
    have hll := hM.len
    have hTl := hM.lenT
    repeat (first | wtm_at "evi" | (refine r_item_dc2 (by assumption) (by wtm_at "in") hval ?_; intro _ _))
    rename St _ _ _ _ => S5
    obtain ⟨B4a, hB4a, P, S6⟩ := plan_frz3 S5 PX lo hpm hI hL r he hek X (hs.setRisk _)
    clear S5
    have hW3 := hWx.mono hB4a
    have hc3 := hc2.mono (hB3a.trans hB4a)
    refine c_check_no G (by assumption) (by wtm_at "up") (by wtm_at "ok") hc3 P ?_ ?_ ?_ (no_var (G.made _ _ _ hM) (ndP hM) (infAt hT) (fun h => by have := h.2.2.2; simp at this)) ?_
    · show (chunksM c).length ≤ 900; lia
    · show live.length ≤ 900; lia
    · simp [setI, planM]; lia
    intro s7 S7
    clear PX hpm hI hL r he hek X hs hval hT hM P hWx S6 S4 h1 h2 h3 h4 h5 h6 hwi p1 p2 p3 p4 p5 p6 p7 hll hTl
    repeat (first | wtm_at "evi")
    refine c_classify3 G hk (by assumption) (by wtm_at "up") (by wtm_at "ok") hc3 ?_
    intro px pdx pm B3b d ch cvs lv lvs live order es T j e sv s4 lo hB3b PX hpm hI hL hM r hT he hek hval X hs S4
    obtain ⟨p1, p2, p3, ⟨te, p4⟩, p5, p6, p7⟩ := id hpm
    obtain ⟨⟨t1, t2, t3, t4, t5, h1, h2, h3, h4, h5, h6⟩, -, -, -, hwi⟩ := id hs
    have hWx := hW3.mono hB3b
    have hll := hM.len
    have hTl := hM.lenT
    repeat (first | wtm_at "evi" | (refine r_item_dc2 (by assumption) (by wtm_at "in") hval ?_; intro _ _))
    rename St _ _ _ _ => S5
    obtain ⟨B4b, hB4b, P, S6⟩ := plan_frz3 S5 PX lo hpm hI hL r he hek X (hs.setLast _ _)
    clear S5
    have hW4 := hWx.mono hB4b
    have hc4 := hc3.mono (hB3b.trans hB4b)
    refine c_check_no G (by assumption) (by wtm_at "up") (by wtm_at "ok") hc4 P ?_ ?_ ?_ (no_var (G.made _ _ _ hM) (ndP hM) (infAt hT) (fun h => by have := h.2.2.1; simp at this; lia)) ?_
    · show (chunksM c).length ≤ 900; lia
    · show live.length ≤ 900; lia
    · simp [setI, planM]; lia
    intro s7 S7
    clear PX hpm hI hL r he hek X hs hval hT hM P hWx S6 S4 h1 h2 h3 h4 h5 h6 hwi p1 p2 p3 p4 p5 p6 p7 hll hTl
    repeat (first | wtm_at "evi")
    refine c_classify3 G hk (by assumption) (by wtm_at "up") (by wtm_at "ok") hc4 ?_
    intro px pdx pm B3c d ch cvs lv lvs live order es T j e sv s4 lo hB3c PX hpm hI hL hM r hT he hek hval X hs S4
    obtain ⟨p1, p2, p3, ⟨te, p4⟩, p5, p6, p7⟩ := id hpm
    obtain ⟨⟨t1, t2, t3, t4, t5, h1, h2, h3, h4, h5, h6⟩, -, -, -, hwi⟩ := id hs
    have hWx := hW4.mono hB3c
    have hll := hM.len
    have hTl := hM.lenT
    wtm_at "ev"
    wtm_at "ev"
    wtm_at "ev"
    refine r_join (fun s => ∃ fs t m5, fs ≠ sv.inf.first ∧ m5 "clause" = some v ∧ m5 "number" = some (.int kk tk) ∧ m5 "plan" = some (.ref px) ∧ St z B3c ((L, Lo m5) :: PlV K e.dx pdx ch lv d (upd e.m "first" (.str fs t)) pm cvs lvs es j cs2) s) ?_ ?_
    · repeat (first | wtm_at "evi" | (refine r_item_dc2 (by assumption) (by wtm_at "in") hval ?_; intro _ _))
      refine Br.split (fun hb => ?_) (fun hb => ?_)
      · repeat (first | wtm_at "evi" | (refine r_item_dc2 (by assumption) (by wtm_at "in") hval ?_; intro _ _))
        refine ⟨rfl, _, _, _, ?_, ?_, ?_, ?_, by assumption⟩
        · intro q; rw [← q] at hb; simp at hb
        all_goals wtm_at "lk"
      · repeat (first | wtm_at "evi" | (refine r_item_dc2 (by assumption) (by wtm_at "in") hval ?_; intro _ _))
        refine ⟨rfl, _, _, _, ?_, ?_, ?_, ?_, by assumption⟩
        · intro q; rw [← q] at hb; revert hb; decide
        all_goals wtm_at "lk"
    rintro s5 ⟨fs, tf, m5, hfs, y1, y2, y3, S5⟩
    repeat (first | wtm_at "evi")
    rename St _ _ _ _ => S5
    obtain ⟨B4c, hB4c, P, S6⟩ := plan_frz3 S5 PX lo hpm hI hL r he hek X (hs.setFirst fs tf)
    clear S5
    have hW5 := hWx.mono hB4c
    have hc5 := hc4.mono (hB3c.trans hB4c)
    refine c_check_no G (by assumption) (by wtm_at "up") (by wtm_at "ok") hc5 P ?_ ?_ ?_ (no_var (G.made _ _ _ hM) (ndP hM) (infAt hT) (fun h => by have := h.2.1; exact hfs this.symm)) ?_
    · show (chunksM c).length ≤ 900; lia
    · show live.length ≤ 900; lia
    · simp [setI, planM]; lia
    intro s7 S7
    clear PX hpm hI hL r he hek X hs hval hT hM P hWx S6 S4 h1 h2 h3 h4 h5 h6 hwi p1 p2 p3 p4 p5 p6 p7 hll hTl
    repeat (first | wtm_at "evi")
    refine c_classify3 G hk (by assumption) (by wtm_at "up") (by wtm_at "ok") hc5 ?_
    intro px pdx pm B3d d ch cvs lv lvs live order es T j e sv s4 lo hB3d PX hpm hI hL hM r hT he hek hval X hs S4
    obtain ⟨p1, p2, p3, ⟨te, p4⟩, p5, p6, p7⟩ := id hpm
    obtain ⟨⟨t1, t2, t3, t4, t5, h1, h2, h3, h4, h5, h6⟩, -, -, -, hwi⟩ := id hs
    have hWx := hW5.mono hB3d
    have hll := hM.len
    have hTl := hM.lenT
    repeat (first | wtm_at "evi" | (refine r_item_dc2 (by assumption) (by wtm_at "in") hval ?_; intro _ _))
    rename St _ _ _ _ => S5
    obtain ⟨B4d, hB4d, P, S6⟩ := plan_frz3 S5 PX lo hpm hI hL r he hek X (hs.setSlot _ _)
    clear S5
    have hW6 := hWx.mono hB4d
    have hc6 := hc5.mono (hB3d.trans hB4d)
    refine c_check_no G (by assumption) (by wtm_at "up") (by wtm_at "ok") hc6 P ?_ ?_ ?_ (no_slot (G.made _ _ _ hM) (ndP hM) (infAt hT)) ?_
    · show (chunksM c).length ≤ 900; lia
    · show live.length ≤ 900; lia
    · simp [setI, planM]; lia
    intro s7 S7
    clear PX hpm hI hL r he hek X hs hval hT hM P hWx S6 S4 h1 h2 h3 h4 h5 h6 hwi p1 p2 p3 p4 p5 p6 p7 hll hTl
    repeat (first | wtm_at "evi")
    refine c_classify3 G hk (by assumption) (by wtm_at "up") (by wtm_at "ok") hc6 ?_
    intro px pdx pm B3e d ch cvs lv lvs live order es T j e sv s4 lo hB3e PX hpm hI hL hM r hT he hek hval X hs S4
    obtain ⟨p1, p2, p3, ⟨te, p4⟩, p5, p6, p7⟩ := id hpm
    obtain ⟨⟨t1, t2, t3, t4, t5, h1, h2, h3, h4, h5, h6⟩, -, -, -, hwi⟩ := id hs
    have hWx := hW6.mono hB3e
    have hll := hM.len
    have hTl := hM.lenT
    repeat (first | wtm_at "evi" | (refine r_item_dc2 (by assumption) (by wtm_at "in") hval ?_; intro _ _))
    refine r_dpop (by assumption) (.there (.there (.there (.there (.there .here))))) (by rw [List.length_map]; have := r.1; lia) hval ?_
    intro s5 S5
    have hnde : (es.map (·.k)).Nodup := by rw [r.keys, hM.keys]; exact G.nd
    rw [← hek, without_erase hnde he] at S5
    have S6 := S5.drop (cs' := (_, _) :: PlC2 K pdx ch lv d pm cvs lvs (es.eraseIdx j) cs2) (.cons_cons _ (List.sublist_cons_self _ _))
    obtain ⟨B4e, hB4e, P, S7⟩ := plan_frz2 S6 PX lo p1 p2 p3 p4 p5 hI hL (r.erase j)
    clear S5 S6
    have hW7 := hWx.mono hB4e
    have hc7 := hc6.mono (hB3e.trans hB4e)
    have hjl := (List.getElem?_eq_some_iff.mp hT).1
    repeat (first | wtm_at "evi")
    refine c_check_no G (by assumption) (by wtm_at "up") (by wtm_at "ok") hc7 P ?_ ?_ ?_ (no_pop (G.made _ _ _ hM) ?_) ?_
    · show (chunksM c).length ≤ 900; lia
    · show live.length ≤ 900; lia
    · show ((T.eraseIdx j).map _).length < 64
      rw [List.length_map, List.length_eraseIdx]; split <;> lia
    · show ((T.eraseIdx j).map _).length + 1 = (T.map _).length
      rw [List.length_map, List.length_map, List.length_eraseIdx, if_pos hjl]; lia
    intro s8 S8
    repeat (first | wtm_at "evi")
    exact k _ (St.sub (by assumption) (hB1.trans (hB2.trans (hB3a.trans (hB4a.trans (hB3b.trans (hB4b.trans (hB3c.trans (hB4c.trans (hB3d.trans (hB4d.trans (hB3e.trans hB4e))))))))))) (by wtm_at "sl"))
end
/-! ## spoiled slots -/
theorem Made.last {c : Cla} {order live : List Int} {T : List (Int × Sv)} (h : Made c order live T) {k : Int} {sv : Sv} (hm : (k, sv) ∈ T) : ∃ q, (k, q) ∈ kindsT (svAll c) ∧ q.inf.last = sv.inf.last := by
  rw [h.eq] at hm
  unfold slotsT at hm
  obtain ⟨q, hq, e⟩ := List.mem_map.mp hm
  split at e
  · cases e; exact ⟨q.2, hq, rfl⟩
  · subst e; exact ⟨_, hq, rfl⟩
theorem no_swap {c : Cla} {order live : List Int} {T : List (Int × Sv)} (G : Good c) (hM : Made c order live T) {order1 : List Int} (hO : OrdOk (kindsT (svAll c)) order1) {i j j' : Nat} {ka kb : Int} {sa sb : Sv} {x : Int} (hi : 0 < i) (ha : order1[0]? = some ka) (hb : order1[i]? = some kb)
    (hj : T[j]? = some (ka, sa)) (hj' : (T.set j (ka, { sa with inf := { sa.inf with slot := x } }))[j']? = some (kb, sb)) (hx : 1 < x) :
    ¬ PlanOk c (setI (planM c (T.set j (ka, { sa with inf := { sa.inf with slot := x } })) order live) j' kb { sb.inf with slot := 1 }) := by
  have hne : ka ≠ kb := fun e => by have := nd_inj hO.nd ha (e ▸ hb); lia
  have hjT := (List.getElem?_eq_some_iff.mp hj).1
  have hjj : j ≠ j' := fun e => by
    subst e
    rw [List.getElem?_set, if_pos rfl, if_pos hjT] at hj'
    cases hj'; exact hne rfl
  have hbT : T[j']? = some (kb, sb) := by rw [List.getElem?_set, if_neg hjj] at hj'; exact hj'
  have nd0 : ((planM c T order live).infos.map (·.1)).Nodup := by
    show ((T.map fun p => (p.1, p.2.inf)).map (·.1)).Nodup
    rw [List.map_map]
    rw [show ((fun x : Int × Inf => x.1) ∘ fun p : Int × Sv => (p.1, p.2.inf)) = (·.1) from rfl, hM.keys]; exact G.nd
  have h1 : (planM c T order live).infos[j]? = some (ka, sa.inf) := by
    show (T.map fun p => (p.1, p.2.inf))[j]? = _
    rw [List.getElem?_map, hj]; rfl
  have h2 : (planM c (T.set j (ka, { sa with inf := { sa.inf with slot := x } })) order live).infos[j']? = some (kb, sb.inf) := by
    show (List.map (fun p : Int × Sv => (p.1, p.2.inf)) _)[j']? = _
    rw [List.getElem?_map, hj']; rfl
  have e : planM c (T.set j (ka, { sa with inf := { sa.inf with slot := x } })) order live = setI (planM c T order live) j ka { sa.inf with slot := x } := by
    unfold setI planM; rw [List.map_set]
  rw [e] at h2 ⊢
  have nd1 : ((setI (planM c T order live) j ka { sa.inf with slot := x }).infos.map (·.1)).Nodup := by rw [setI_keys h1]; exact nd0
  have nd2 : ((setI (setI (planM c T order live) j ka { sa.inf with slot := x }) j' kb { sb.inf with slot := 1 }).infos.map (·.1)).Nodup := by rw [setI_keys h2]; exact nd1
  have pa : sa.inf.kind = ("perm" : Str) := ((hM.at G.nd (List.mem_of_getElem? hj)).1).mpr ((hM.ord.mem ka).mpr ((hO.mem ka).mp (List.mem_of_getElem? ha)))
  have pb : sb.inf.kind = ("perm" : Str) := ((hM.at G.nd (List.mem_of_getElem? hbT)).1).mpr ((hM.ord.mem kb).mpr ((hO.mem kb).mp (List.mem_of_getElem? hb)))
  obtain ⟨qa, ma, la⟩ := hM.last (List.mem_of_getElem? hj)
  obtain ⟨qb, mb, lb⟩ := hM.last (List.mem_of_getElem? hbT)
  have hrel : OrdRel (kindsT (svAll c)) ka kb := by
    obtain ⟨a1, b1⟩ := List.getElem?_eq_some_iff.mp ha
    obtain ⟨a2, b2⟩ := List.getElem?_eq_some_iff.mp hb
    have := (List.pairwise_iff_getElem.mp hO.sorted) 0 i a1 a2 hi
    rw [b1, b2] at this; exact this
  refine no_order (a := { sa.inf with slot := x }) (b := { sb.inf with slot := 1 }) (ka := ka) (kb := kb) nd2 (mem_look ?_) (setI_mem h2) pa pb hx ?_
  · rw [look_set nd1 h2, if_neg hne, look_set nd0 h1, if_pos rfl]
  · have := hrel qa qb ma mb
    show sb.inf.last < sa.inf.last ∨ (sa.inf.last = sb.inf.last ∧ ka < kb)
    rw [← la, ← lb]; exact this
section
variable {K : Wk} {A : Around} {E : Value → Shared → Prop} {z : Shared} {B : View} {cs R : List Cell} {F : Cell} {s : Shared} {v : Value} {c : Cla} {Q : Value → Shared → Prop}
theorem refocus {pdx ch lv d : Addr} {pm M : Str → Option Value} {cvs lvs : List Value} {es : List VE} {T : List (Int × Sv)} {j : Nat} {e : VE} {ka kb : Int} {sa' : Sv} (S : St z B (F :: PlV K e.dx pdx ch lv d M pm cvs lvs es j R) s) (r : RepV K B es T) (ndT : (T.map (·.1)).Nodup) (hT : (T[j]?).map (·.1) = some ka) (he : es[j]? = some e) (hek : e.k = ka) (X1 : Inst B e.x (Vi K) e.dx) (hs : SvM M sa') (hk : kb ∈ T.map (·.1)) :
    ∃ es' j' e' sb, RepV K B es' (T.set j (ka, sa')) ∧ (T.set j (ka, sa'))[j']? = some (kb, sb) ∧ es'[j']? = some e' ∧ e'.k = kb ∧ valueAt (es'.map VE.kv) kb = some (.ref e'.x) ∧ Inst B e'.x (Vi K) e'.dx ∧ SvM e'.m sb ∧ St z B (F :: PlV K e'.dx pdx ch lv d e'.m pm cvs lvs es' j' R) s := by
  have hkv : (es.set j (VE.mk e.k e.x e.dx M)).map VE.kv = es.map VE.kv := VE.kv_set (e' := VE.mk e.k e.x e.dx M) he rfl rfl
  have r' : RepV K B (es.set j (VE.mk e.k e.x e.dx M)) (T.set j (ka, sa')) := r.set ⟨hek, X1, hs⟩
  have S1 : St z B (F :: PlC2 K pdx ch lv d pm cvs lvs (es.set j (VE.mk e.k e.x e.dx M)) R) s := by
    rw [PlC2, SvC, hkv]
    exact S.perm (.cons _ (List.perm_middle.symm.trans ((VE.back (e' := VE.mk e.k e.x e.dx M) he).append_left [_, _, _, _])))
  have hkeys : (T.set j (ka, sa')).map (·.1) = T.map (·.1) := by
    refine List.ext_getElem? fun l => ?_
    rw [List.getElem?_map, List.getElem?_map, List.getElem?_set]
    by_cases hl : j = l
    · subst hl
      cases ej : T[j]? with
      | none => rw [ej] at hT; cases hT
      | some p =>
        have := (List.getElem?_eq_some_iff.mp ej).1
        rw [ej] at hT
        rw [if_pos rfl, if_pos this]; simpa using hT.symm
    · rw [if_neg hl]
  generalize es.set j (VE.mk e.k e.x e.dx M) = es' at r' S1
  rw [← hkeys] at hk ndT
  generalize T.set j (ka, sa') = T' at r' hk ndT
  obtain ⟨⟨k', sb⟩, hm, rfl⟩ := List.mem_map.mp hk
  obtain ⟨j', hj', hjT⟩ := List.getElem_of_mem hm
  have hT' : T'[j']? = some (k', sb) := by rw [List.getElem?_eq_getElem hj', hjT]
  have hrl := r'.1
  obtain ⟨e', he'⟩ : ∃ e', es'[j']? = some e' := ⟨_, List.getElem?_eq_getElem (by lia)⟩
  obtain ⟨q1, X, hs'⟩ := r'.2 j' _ _ he' hT'
  refine ⟨es', j', e', sb, r', hT', he', q1, ?_, X, hs', S1.perm (.cons _ (((VE.out he').append_left [_, _, _, _]).trans List.perm_middle))⟩
  refine valueAt_at (i := j') ?_ (by rw [List.getElem?_map, he']; show some (e'.k, _) = _; rw [q1])
  rw [VE.keys, r'.keys]; exact ndT
inductive SSI (v bv : Value) (cs : List Cell) (i : Nat) (B' : View) (m' : Str → Option Value) (cs' : List Cell) : Prop
  | mk : (m' "clause" = some v) → (m' "by_slot" = some bv) → (cs' = cs) → SSI v bv cs i B' m' cs'
set_option maxHeartbeats 16000000 in
theorem c_spoil_slots (G : Good c) (S : St z B cs s) (W : Lib K B) (O : Ok 10 210 A) (hc : ClAt K B v c) (hz : c.goals.length ≤ 800)
    (k : ∀ s', St z B cs s' → Q (.bool true) s') : wpAny K.M A (call (.ref (fa K "_law_spoil_slots")) [v]) Q E s := by
  refine r_fnc 34 [("clause", v)] S W O (rec_mem (by decide)) rfl (fun _ _ _ => rfl) (locs rfl) (by decide) ?_
  intro A L cd s O S
  have hcl := chunks_len c
  have hTz := G.sv
  repeat (first | wtm_at "evi")
  refine c_classify2 G (by assumption) (by wtm_at "up") (by wtm_at "ok") hc ?_
  intro px pdx pm B1 d ch cvs lv lvs live order es T s1 lo hB1 PX hpm hI hL hM r S1
  obtain ⟨B2, hB2, P, S2⟩ := cells_frz (l := (pdx, AtO pm) :: (ch, LsO cvs) :: (lv, LsO lvs) :: (d, DcO K (es.map VE.kv)) :: es.map VE.cell) (S1.perm PlC2.front.symm)
  have hW2 := W.mono (hB1.trans hB2)
  have PX2 := PX.mono hB2
  have hpd := P _ (.head _)
  have hdd := P _ (.tail _ (.tail _ (.tail _ (.head _))))
  have hes : ∀ e ∈ es, Has B2 e.dx (AtO e.m) := fun e he => P e.cell (.tail _ (.tail _ (.tail _ (.tail _ (List.mem_map_of_mem he)))))
  simp only at hpd hdd
  have hperms := hpm.perms
  repeat (first | wtm_at "evi" | (refine r_m_perms (by assumption) (by wtm_at "up") (by wtm_at "up") (by wtm_at "in") hperms ?_; intro f F))
  refine c_perms G (by assumption) (by wtm_at "up") (by wtm_at "ok") (by wtm_at "up") PX2 hpd hpm lo hdd hes (r.mono hB2) hM ?_
  intro D us s3 hIo S3
  have hul := hIo.length
  have hol := hM.ol
  obtain ⟨B3, hB3, pD, S4⟩ := S3.frz .here
  have hW3 := hW2.mono hB3
  have hc3 := hc.mono (hB1.trans (hB2.trans hB3))
  repeat (first | wtm_at "evi")
  refine r_range2 (by assumption) ?_
  intro rr s5 S5
  repeat (first | wtm_at "evi")
  refine r_iter_range (n := us.length - 1) S5 (Ok.handled (by assumption)) (by split <;> lia) (by lia) (by lia) (by lia) (by lia) ?_
  intro I ItO s6 It S6
  refine r_loop It (SSI v (.ref D) cs) S6 (Sub.refl _) ⟨by wtm_at "lk", by wtm_at "lk", rfl⟩ ?_ ?_
  · rintro i B4 m4 cs4 w s7 hB4 hi ⟨tw, rfl⟩ ⟨n1, n2, rfl⟩ S7
    have hc4 := hc3.mono hB4
    have hW4 := hW3.mono hB4
    have pD4 := pD.mono hB4
    obtain ⟨ka, hka⟩ : ∃ ka, order[0]? = some ka := ⟨_, List.getElem?_eq_getElem (by lia)⟩
    obtain ⟨kb, hkb⟩ : ∃ kb, order[1 + i]? = some kb := ⟨_, List.getElem?_eq_getElem (by lia)⟩
    obtain ⟨ta, hva⟩ := intsAt2 hIo hka
    obtain ⟨tb, hvb⟩ := intsAt2 hIo hkb
    have keyOf : ∀ k ∈ order, k ∈ (svAll c).map (·.1) := fun k hk => by
      rw [← kindsT_keys]
      obtain ⟨sv, h, _⟩ := (hM.ord.mem k).mp hk
      exact List.mem_map.mpr ⟨_, h, rfl⟩
    have hkaT := keyOf ka (List.mem_of_getElem? hka)
    have hkbT := keyOf kb (List.mem_of_getElem? hkb)
    clear P hes hdd hpd
    repeat (first | wtm_at "evi")
    refine c_classify3 G hkaT (by assumption) (by wtm_at "up") (by wtm_at "ok") hc4 ?_
    intro px2 pdx2 pm2 B5 d2 ch2 cvs2 lv2 lvs2 live2 order2 es2 T2 j e sa s8 lo2 hB5 PX5 hpm2 hI2 hL2 hM2 r2 hT he hek hval X hs S8
    obtain ⟨p1, p2, p3, ⟨te, p4⟩, p5, p6, p7⟩ := id hpm2
    have hwi := hs.wi
    have hW5 := hW4.mono hB5
    have pD5 := pD4.mono hB5
    have hll := hM2.len
    have hTl := hM2.lenT
    have ndT : (T2.map (·.1)).Nodup := by rw [hM2.keys]; exact G.nd
    wtm_at "ev"
    wtm_at "ev"
    wtm_at "ev"
    refine r_join (fun s => ∃ M m5, SvM M { sa with inf := { sa.inf with slot := 2 + (i : Int) } } ∧ m5 "clause" = some v ∧ m5 "by_slot" = some (.ref D) ∧ m5 "plan" = some (.ref px2) ∧ m5 "place" = some (.int (1 + (i : Int)) tw) ∧ St z B5 ((L, Lo m5) :: PlV K e.dx pdx2 ch2 lv2 d2 M pm2 cvs2 lvs2 es2 j ((I, ItO (i + 1)) :: cs4)) s) ?_ ?_
    · repeat (first | wtm_at "evi" | (refine r_item_ls (k := 0) (by wtm_at "in") rfl (by lia) hva ?_) | (refine r_item_dc2 (by assumption) (by wtm_at "in") hval ?_; intro _ _))
      refine ⟨rfl, _, _, ?_, ?_, ?_, ?_, ?_, by assumption⟩
      · rw [show 2 + (i : Int) = 1 + (i : Int) + 1 from by lia]
        exact hs.setSlot _ _
      all_goals wtm_at "lk"
    rintro s9 ⟨M, m5, hs2, y1, y2, y3, y4, S9⟩
    obtain ⟨es3, j', e3, sb, r3, hT3, he3, hek3, hval3, X3, hs3, S10⟩ := refocus S9 r2 ndT (by rw [hT]; rfl) he hek X hs2 (by rw [hM2.keys]; exact hkbT)
    have hwi3 := hs3.wi
    clear S9 hwi
    repeat (first | wtm_at "evi" | (refine r_item_ls (k := 1 + i) (by wtm_at "in") (by lia) (by lia) hvb ?_) | (refine r_item_dc2 (by assumption) (by wtm_at "in") hval3 ?_; intro _ _))
    rename St _ _ _ _ => S11
    obtain ⟨B6, hB6, P6, S12⟩ := plan_frz3 S11 PX5 lo2 hpm2 hI2 hL2 r3 he3 hek3 X3 (hs3.setSlot 1 _)
    clear S11 S10
    have hW6 := hW5.mono hB6
    refine c_check_no G (by assumption) (by wtm_at "up") (by wtm_at "ok") (hc4.mono (hB5.trans hB6)) P6 ?_ ?_ ?_ (no_swap G hM2 hM.ord (by lia) hka hkb hT hT3 (by lia)) ?_
    · show (chunksM c).length ≤ 900; lia
    · show live2.length ≤ 900; lia
    · simp [setI, planM]; lia
    intro s13 S13
    repeat (first | wtm_at "evi")
    exact Turn.next (by assumption) (hB4.trans (hB5.trans hB6)) ⟨by wtm_at "lk", by wtm_at "lk", rfl⟩
  · rintro B4 m4 cs4 s7 hB4 ⟨n1, n2, rfl⟩ S7
    repeat (first | wtm_at "evi")
    exact k _ (St.sub (by assumption) (hB1.trans (hB2.trans (hB3.trans hB4))) (by wtm_at "sl"))
end
/-! ## the law -/
noncomputable def plD (p : Pl) : PyData := .tuple [.int p.1, .str p.2]
noncomputable def dueT (c : Cla) : Tbl := runP [] (dueUpTo c c.goals.length)
structure GoodL (c : Cla) : Prop where
  good : Good c
  ok : ClaOk c
  len : (dueT c).length = c.places.length
  same : ∀ e ∈ c.places, look (dueT c) e.1 = some e.2
  words : ∀ e ∈ c.places, ∀ p ∈ e.2, PyData.strOk p.2 = true
  each : ∀ e ∈ dueT c, e.2 ≠ [] ∧ e.2.length ≤ 800 ∧ ∀ p ∈ e.2, -1 ≤ p.1 ∧ p.1 < (c.goals.length : Int)
  keys : ∀ e ∈ dueT c, e.1 ∈ (svAll c).map (·.1)
theorem pl_eqv : ∀ ps : List Pl, PyData.eqvAll (ps.map plD) (ps.map plD) = true
  | [] => by simp [PyData.eqvAll]
  | p :: ps => by simp [PyData.eqvAll, PyData.eqv, plD, pl_eqv ps]
theorem pl_canLay : ∀ ps : List Pl, (∀ p ∈ ps, PyData.strOk p.2 = true) → PyData.canLayAll0 (ps.map plD) = true
  | [], _ => by simp [PyData.canLayAll0]
  | p :: ps, h => by
    have h1 := h p (.head _)
    have h2 := pl_canLay ps fun q hq => h q (.tail _ hq)
    simp [PyData.canLayAll0, PyData.canLay0, plD, h1, h2]
theorem pl_depth : ∀ ps : List Pl, PyData.depthAll (ps.map plD) ≤ 3
  | [] => by simp [PyData.depthAll]
  | p :: ps => by
    have h2 := pl_depth ps
    simp only [List.map_cons, PyData.depthAll, PyData.depth, plD] at *
    lia
theorem pl_shaped (ps : List Pl) (h : ∀ p ∈ ps, PyData.strOk p.2 = true) : SeqAt.shaped (.list (ps.map plD)) = true := by
  have h1 := pl_depth ps
  have h2 := pl_canLay ps h
  simp [SeqAt.shaped, PyData.canLay0, PyData.depth, h2]; lia
section
variable {K : Wk} {A : Around} {E : Value → Shared → Prop} {z : Shared} {B : View} {cs R : List Cell} {s : Shared} {v : Value} {c : Cla} {Q : Value → Shared → Prop}
theorem PlAt.reads {p : Pl} (S : St z B cs s) (h : PlAt B v p) : ∃ as, Reads s.heap v (plD p) as := by
  obtain ⟨a, t, t', rfl, x⟩ := h
  obtain ⟨o, e, hc, n, hd⟩ := S.has x
  exact ⟨_, .tuple e hc hd (.cons (.int _ _) (.cons (.str _ _) .nil))⟩
theorem pls_reads (S : St z B cs s) : ∀ {vs : List Value} {ps : List Pl}, All2 (PlAt B) vs ps → ∃ as, ReadsAll s.heap vs (ps.map plD) as
  | [], [], _ => ⟨_, .nil⟩
  | [], _ :: _, h => by have := h.1; simp at this
  | _ :: _, [], h => by have := h.1; simp at this
  | v :: vs, p :: ps, h => by
    obtain ⟨as, r⟩ := PlAt.reads S h.head
    obtain ⟨bs, r'⟩ := pls_reads S h.tail
    exact ⟨_, .cons r r'⟩
theorem list_reads {a : Addr} {vs : List Value} {ps : List Pl} (S : St z B cs s) (h : Has B a (LsO vs)) (hp : All2 (PlAt B) vs ps) : ∃ as, Reads s.heap (.ref a) (.list (ps.map plD)) as := by
  obtain ⟨o, e, n, rfl⟩ := S.has h
  obtain ⟨as, r⟩ := pls_reads S hp
  exact ⟨_, .list e rfl rfl (by simpa using r)⟩
theorem rep_valueAt {es : List PE} {T : Tbl} {k : Int} {ps : List Pl} (r : Rep B es T) (h : look T k = some ps) : ∃ e ∈ es, valueAt (es.map PE.kv) k = some (.ref e.l) ∧ All2 (PlAt B) e.vs ps := by
  induction r with
  | nil => cases h
  | @cons e ps' es T ha _ ih =>
    by_cases hk : e.k = k
    · simp [look, hk] at h
      subst h
      exact ⟨e, .head _, by simp [valueAt, PE.kv, hk], ha⟩
    · have h' : look T k = some ps := by simpa [look, hk] using h
      obtain ⟨x, hx, hv, hp⟩ := ih h'
      exact ⟨x, .tail _ hx, by rw [← hv]; simp [valueAt, PE.kv, hk], hp⟩
theorem r_ne_tbl {d1 d2 : Addr} {T1 T2 : Tbl} (S : St z B cs s) (h1 : PlsAt K B d1 T1) (h2 : PlsAt K B d2 T2) (lo1 : (d1 == sysModules) = false) (lo2 : (d2 == sysModules) = false) (hu0 : A.units < cLine) (hu : A.in1.units + 64 < cLine) (hl : T2.length = T1.length) (hs : ∀ e ∈ T1, look T2 e.1 = some e.2) (hw : ∀ e ∈ T1, ∀ p ∈ e.2, PyData.strOk p.2 = true)
    (h : ∀ s', St z B cs s' → Q (.bool false) s') : wpAny K.M A (compareOp .NotEq (.ref d1) (.ref d2)) Q E s := by
  obtain ⟨es1, hd1, he1, r1⟩ := h1
  obtain ⟨es2, hd2, he2, r2⟩ := h2
  have D1 := In.dict (S.inB hd1)
  have D2 := In.dict (S.inB hd2)
  refine keq_ne (r := true) lo1 lo2 D1 D2 hu0 (fun _ => ?_) ?_
  · have key : ∀ {es : List PE} {T : Tbl}, Rep B es T → (∀ e ∈ es, Has B e.l (LsO e.vs)) → (∀ e ∈ T, look T2 e.1 = some e.2) → (∀ e ∈ T, ∀ p ∈ e.2, PyData.strOk p.2 = true) → KeqHits A.in1 s (es2.map PE.kv) (es.map PE.kv) true := by
      intro es T r
      induction r with
      | nil => intro _ _ _; exact .nil
      | @cons e ps es T ha _ ih =>
        intro hh hl hw
        obtain ⟨x, hx, hv, hp⟩ := rep_valueAt r2 (hl _ (.head _))
        obtain ⟨as, ra⟩ := list_reads S (hh e (.head _)) ha
        obtain ⟨bs, rb⟩ := list_reads S (he2 x hx) hp
        have sh := pl_shaped ps (hw _ (.head _))
        have q := keq_at (A := A) ra rb sh sh hu
        have e1 : PyData.eqv (.list (ps.map plD)) (.list (ps.map plD)) = true := by simp only [PyData.eqv]; exact pl_eqv ps
        rw [e1] at q
        exact KeqHits.hit (e := true) (b := true) hv q (ih (fun e he => hh e (.tail _ he)) (fun e he => hl e (.tail _ he)) fun e he => hw e (.tail _ he))
    exact key r1 he1 hs hw
  · have e2 : ((es1.map PE.kv).length == (es2.map PE.kv).length) = true := by
      rw [List.length_map, List.length_map, r1.length, r2.length, hl]; simp
    rw [e2]
    exact h s S
/-- the list that was given -/
theorem r_slice_li {value slice : Expr} {c : Cell} {a : Addr} {vs : List Value} {j : Nat} {uj : Tok} (S : St z B (c :: cs) s) (y : Has B a (LiO vs)) (hz : vs.length ≤ 1000) (h : ∀ d s', St z B (c :: (d, LsO (vs.take j)) :: cs) s' → Q (.ref d) s')
    (hs : subscripted slice false (.ref a) (.ref s.heap.objs.size) = operate [.ref s.heap.objs.size, .ref a] (getItem (.ref a) (.ref s.heap.objs.size)) := by with_unfolding_all rfl) :
    wpAny K.M A (subscriptTail value slice (.ref a) (.ref s.heap.objs.size)) Q E { s with heap := s.heap.push { cls := .type "slice", data := .fields #[.none, .int (j : Int) uj, .none] } } := by
  have hl : s.heap.IsList a vs.toArray := by obtain ⟨o, e, hc, n, hd⟩ := S.has y; exact ⟨o, e, hc, n, hd⟩
  have S1 := S.step (t := s.toks) (h' := s.heap.push { cls := .type "slice", data := .fields #[.none, .int (j : Int) uj, .none] }) fun b o e => Heap.get?_push_of_some _ e
  refine tail_any (Heap.IsList.typeIs (s := { s with heap := s.heap.push { cls := .type "slice", data := .fields #[.none, .int (j : Int) uj, .none] } }) (hl.push _)) list_getitem_lookup
    (wpAny_getItem_list_slice (hl.push _) (Heap.IsSliceOf.new ..) .none (.int _ _) .none (by simp) ?_ (by rw [List.size_toArray]; exact sz_fit hz)) hs
  rw [slicePick_upto']
  exact h _ _ (S1.push2 (t := s.toks) rfl ⟨0, by simp⟩)
inductive LW1 (cv dv : Value) (cs : List Cell) (i : Nat) (B' : View) (m' : Str → Option Value) (cs' : List Cell) : Prop
  | mk : (m' "clause" = some cv) → (m' "due" = some dv) → (cs' = cs) → LW1 cv dv cs i B' m' cs'
set_option maxHeartbeats 16000000 in
theorem c_law {sl : Addr} {svs : List Value} {ns : List Int} (goodOf : ∀ c, ClaOk c → GoodL c) (S : St z B cs s) (W : Lib K B) (O : Ok 40 300 A) (hs : Has B sl (LiO svs)) (hI : IntsAre svs ns) (hz : svs.length ≤ 63)
    (k : ∀ s', St z B cs s' → Q (.bool true) s') : wpAny K.M A (call (.ref (fa K "law")) [.ref sl]) Q E s := by
  refine r_fnc 35 [("script", .ref sl)] S W O (rec_mem (by decide)) rfl (fun _ _ _ => rfl) (locs rfl) (by decide) ?_
  intro A L cd s O S
  have hu1 : A.units < cLine := by have := O.units; lia
  have hu2 : A.in1.units + 64 < cLine := by have := O.units; show A.units + 1 + 64 < cLine; lia
  repeat (first | wtm_at "evi" | (refine r_slice_li (j := 80) (by assumption) (by wtm_at "up") (by lia) ?_; intro _ _ _))
  rename_i l2 _ _ t0 _ _ rl _ _ _ S1 _ _
  obtain ⟨B1, hB1, pl2, S2⟩ := S1.frz (.there (.there .here))
  have S3 := S2.weaken (P' := RlO l2 (svs.take 80).length) (.there .here) (fun o _ h => ⟨0, t0, Nat.zero_le _, h⟩)
  clear S1 S2
  have hI2 := hI.take 80
  have hW1 := W.mono hB1
  refine c_law_clause hI2 (by rw [List.length_take]; lia) S3 (by wtm_at "up") (by wtm_at "ok") (.tail _ (.head _)) (by wtm_at "up") ?_
  intro cv B2 c s4 hB2 hc hok S4
  have G := goodOf c hok
  have GG := G.good
  have hgn := hok.n
  have hW2 := hW1.mono hB2
  replace S4 := S4.drop (cs' := (_, _) :: cs) (.cons_cons _ (List.sublist_cons_self _ _))
  repeat (first | wtm_at "evi")
  refine c_places_of (by assumption) (by wtm_at "up") (by wtm_at "ok") hc GG.size ?_
  intro d1 B3 s5 lo1 hB3 hp1 S5
  have hW3 := hW2.mono hB3
  have hc3 := hc.mono hB3
  repeat (first | wtm_at "evi")
  refine c_law_all_places (by assumption) (by wtm_at "up") (by wtm_at "ok") hc3 GG.size hok ?_
  intro d2 B4 s6 lo2 hB4 hp2 S6
  replace hp2 : PlsAt K B4 d2 (dueT c) := hp2
  have hW4 := hW3.mono hB4
  have hc4 := hc3.mono hB4
  repeat (first | wtm_at "evi")
  refine r_ne_tbl (by assumption) (hp1.mono hB4) hp2 lo1 lo2 (by assumption) (by assumption) G.len G.same G.words ?_
  intro s7 S7
  obtain ⟨es, hd, hes, hrep⟩ := id hp2
  have hel := hrep.length
  have hlen := G.len
  have hpl := GG.pl
  have hnd := Has.keys hd
  repeat (first | wtm_at "evi")
  intro I ItO s8 It S8
  rw [List.length_map] at It
  refine r_loop It (LW1 cv (.ref d2) cs) S8 (Sub.refl _) ⟨by wtm_at "lk", by wtm_at "lk", rfl⟩ ?_ ?_
  · rintro i B5 m5 cs5 w s9 hB5 hi ⟨kk, xv, tk, hkv, rfl⟩ ⟨n1, n2, rfl⟩ S9
    obtain ⟨e, he⟩ : ∃ e, es[i]? = some e := ⟨_, List.getElem?_eq_getElem (by lia)⟩
    rw [List.getElem?_map, he] at hkv
    cases hkv
    obtain ⟨ps, hps, hall⟩ := hrep.at he
    have hval : valueAt (es.map PE.kv) e.k = some (.ref e.l) := valueAt_at (i := i) hnd (by rw [List.getElem?_map, he]; rfl)
    have hE := G.each _ (List.mem_of_getElem? hps)
    obtain ⟨f1, f2, f3⟩ := hE
    simp only at f1 f2 f3
    have hc5 := hc4.mono hB5
    have hW5 := hW4.mono hB5
    have hd5 := hd.mono hB5
    have hl5 := (hes e (List.mem_of_getElem? he)).mono hB5
    have hall5 := hall.pl hB5
    repeat (first | wtm_at "evi" | (refine r_item_dc2 (by assumption) (by wtm_at "in") hval ?_; intro _ _))
    refine c_crosses_call (by assumption) (by wtm_at "up") (by wtm_at "ok") hc5 hl5 hall5 (by lia) ?_
    intro s10 S10
    repeat (first | wtm_at "evi" | (refine r_item_dc2 (by assumption) (by wtm_at "in") hval ?_; intro _ _))
    refine c_law_parted (by assumption) (by wtm_at "up") (by wtm_at "ok") hc5 hl5 hall5 f1 (by lia) f2 f3 ?_
    intro s11 S11
    repeat (first | wtm_at "evi")
    refine Br.ff (by simp) ?_
    repeat (first | wtm_at "evi")
    exact Turn.next (by assumption) hB5 ⟨by wtm_at "lk", by wtm_at "lk", rfl⟩
  rintro B5 m5 cs5 s9 hB5 ⟨n1, n2, rfl⟩ S9
  have hc5 := hc4.mono hB5
  have hW5 := hW4.mono hB5
  have hd5 := hd.mono hB5
  repeat (first | wtm_at "evi")
  refine c_classify2 GG (by assumption) (by wtm_at "up") (by wtm_at "ok") hc5 ?_
  intro px pdx pm B6 d ch cvs lv lvs live order es' T s10 lo hB6 PX hpm hI3 hL hM r S10
  obtain ⟨a1, a2, a3, ⟨ta, a4⟩, a5, a6, a7⟩ := hpm
  have hW6 := hW5.mono hB6
  have hll := hM.len
  have hTl := hM.lenT
  have hTz := GG.sv
  have hcl := chunks_len c
  repeat (first | wtm_at "evi")
  obtain ⟨B7, hB7, P, S11⟩ := plan_frz2 S10 PX lo a1 a2 a3 a4 a5 hI3 hL r
  have hW7 := hW6.mono hB7
  have hc7 := hc5.mono (hB6.trans hB7)
  have hd7 := hd5.mono (hB6.trans hB7)
  clear S10
  refine c_check_plan2 GG (by assumption) (by wtm_at "up") (by wtm_at "ok") hc7 P ?_ ?_ ?_ ?_
  · show (chunksM c).length ≤ 900; lia
  · show live.length ≤ 900; lia
  · show (T.map _).length < 64; rw [List.length_map]; lia
  intro b s12 hb S12
  have hbt : b = true := hb.mpr (GG.made _ _ _ hM)
  subst hbt
  repeat (first | wtm_at "evi")
  refine r_sorted_dc (by assumption) (Ok.handled (by assumption)) (by wtm_at "in") lo2 (by rw [List.length_map]; lia) ?_
  intro b1 us ks s13 hi1 hperm hsrt S13
  repeat (first | wtm_at "evi" | (refine r_slice_ls (j := 3) (by assumption) (by wtm_at "in") (by have := hi1.length; have := hperm.length_eq; simp at this; lia) ?_))
  intro D s14 S14
  obtain ⟨B8, hB8, pD, S15⟩ := S14.frz (.there .here)
  have hW8 := hW7.mono hB8
  have hc8 := hc7.mono hB8
  have hi3 := hi1.take 3
  repeat (first | wtm_at "evi")
  intro I2 s16 It2 S16
  refine r_loop It2 (LW1 cv (.ref d2) ((b1, LsO us) :: cs5)) S16 (Sub.refl _) ⟨by wtm_at "lk", by wtm_at "lk", rfl⟩ ?_ ?_
  · rintro i B9 m9 cs9 w s17 hB9 hi hw ⟨n3, n4, rfl⟩ S17
    have hil := hi3.length
    obtain ⟨kk, hkk⟩ : ∃ kk, (ks.take 3)[i]? = some kk := ⟨_, List.getElem?_eq_getElem (by lia)⟩
    obtain ⟨tk, e⟩ := intsAt2 hi3 hkk
    rw [hw] at e
    cases e
    have hmem : kk ∈ (svAll c).map (·.1) := by
      have h1 : kk ∈ ks := List.mem_of_mem_take (List.mem_of_getElem? hkk)
      rw [hperm.mem_iff, hrep.keysT] at h1
      obtain ⟨e, he, rfl⟩ := List.mem_map.mp h1
      exact G.keys e he
    have hW9 := hW8.mono hB9
    repeat (first | wtm_at "evi")
    refine c_spoil_variable GG hmem (by assumption) (by wtm_at "up") (by wtm_at "ok") (hc8.mono hB9) (by lia) ?_
    intro s18 S18
    repeat (first | wtm_at "evi")
    exact Turn.next (by assumption) hB9 ⟨by wtm_at "lk", by wtm_at "lk", rfl⟩
  rintro B9 m9 cs9 s17 hB9 ⟨n3, n4, rfl⟩ S17
  have hW9 := hW8.mono hB9
  have hc9 := hc8.mono hB9
  repeat (first | wtm_at "evi")
  refine c_spoil_lists GG (by assumption) (by wtm_at "up") (by wtm_at "ok") hc9 (by lia) ?_
  intro s18 S18
  repeat (first | wtm_at "evi")
  refine c_spoil_slots GG (by assumption) (by wtm_at "up") (by wtm_at "ok") hc9 (by lia) ?_
  intro s19 S19
  repeat (first | wtm_at "evi")
  exact k _ (St.sub (by assumption) (hB1.trans (hB2.trans (hB3.trans (hB4.trans (hB5.trans (hB6.trans (hB7.trans (hB8.trans hB9)))))))) (by wtm_at "sl"))
end
/-! ## tables and their events -/
noncomputable def plOf (evs : List Ev) (k : Int) : List Pl := (evs.filter fun e => e.1 = k).map (·.2)
theorem plOf_append (a b : List Ev) (k : Int) : plOf (a ++ b) k = plOf a k ++ plOf b k := by unfold plOf; rw [List.filter_append, List.map_append]
theorem plOf_one (k k' : Int) (p : Pl) : plOf [(k, p)] k' = if k = k' then [p] else [] := by
  unfold plOf
  by_cases h : k = k' <;> simp [h]
theorem plOf_mem {evs : List Ev} {k : Int} {p : Pl} : p ∈ plOf evs k ↔ (k, p) ∈ evs := by
  unfold plOf
  rw [List.mem_map]
  constructor
  · rintro ⟨⟨k', p'⟩, h, rfl⟩
    obtain ⟨h1, h2⟩ := List.mem_filter.mp h
    have : k' = k := of_decide_eq_true h2
    subst this; exact h1
  · intro h
    exact ⟨(k, p), List.mem_filter.mpr ⟨h, by simp⟩, rfl⟩
theorem plOf_ne {evs : List Ev} {k : Int} : plOf evs k ≠ [] ↔ k ∈ evs.map (·.1) := by
  constructor
  · intro h
    obtain ⟨p, hp⟩ := List.exists_mem_of_ne_nil _ h
    exact List.mem_map.mpr ⟨_, plOf_mem.mp hp, rfl⟩
  · intro h
    obtain ⟨⟨k', p⟩, hp, rfl⟩ := List.mem_map.mp h
    exact List.ne_nil_of_mem (plOf_mem.mpr hp)
structure TabOf (T : Tbl) (evs : List Ev) : Prop where
  nd : (T.map (·.1)).Nodup
  keys : ∀ k, k ∈ T.map (·.1) ↔ k ∈ evs.map (·.1)
  val : ∀ e ∈ T, e.2 = plOf evs e.1
theorem TabOf.nil : TabOf [] [] := ⟨.nil, fun k => Iff.rfl, fun e h => nomatch h⟩
theorem TabOf.add {T : Tbl} {evs : List Ev} (h : TabOf T evs) (k : Int) (p : Pl) : TabOf (addP T k p) (evs ++ [(k, p)]) := by
  unfold addP
  by_cases hk : k ∈ T.map (·.1)
  · have ha : (T.any fun e => e.1 = k) = true := by
      obtain ⟨e, he, rfl⟩ := List.mem_map.mp hk
      exact List.any_eq_true.mpr ⟨e, he, by simp⟩
    rw [if_pos ha]
    have hkeys : (T.map fun e => if e.1 = k then (e.1, e.2 ++ [p]) else e).map (·.1) = T.map (·.1) := by
      rw [List.map_map]
      exact List.map_congr_left fun e _ => by simp only [Function.comp]; split <;> rfl
    refine ⟨by rw [hkeys]; exact h.nd, fun k' => ?_, fun e he => ?_⟩
    · rw [hkeys, h.keys, List.map_append, List.mem_append]
      constructor
      · exact .inl
      · rintro (h1 | h1)
        · exact h1
        · have : k' = k := by simpa using h1
          subst this; exact (h.keys k').mp hk
    · obtain ⟨x, hx, rfl⟩ := List.mem_map.mp he
      by_cases hxk : x.1 = k
      · rw [if_pos hxk]
        show x.2 ++ [p] = plOf _ x.1
        rw [plOf_append, plOf_one, if_pos hxk.symm, h.val x hx]
      · rw [if_neg hxk, plOf_append, plOf_one, if_neg (fun e => hxk e.symm), List.append_nil]
        exact h.val x hx
  · have ha : ¬ (T.any fun e => e.1 = k) = true := by
      intro hh
      obtain ⟨e, he, q⟩ := List.any_eq_true.mp hh
      exact hk (List.mem_map.mpr ⟨e, he, of_decide_eq_true q⟩)
    rw [if_neg ha]
    refine ⟨?_, fun k' => ?_, fun e he => ?_⟩
    · rw [List.map_append, List.nodup_append]
      refine ⟨h.nd, by simp, fun a ha' b hb e => ?_⟩
      have : b = k := by simpa using hb
      exact hk (by rw [← this, ← e]; exact ha')
    · rw [List.map_append, List.map_append, List.mem_append, List.mem_append, h.keys]; rfl
    · rcases List.mem_append.mp he with he | he
      · have hne : ¬ k = e.1 := fun q => hk (by rw [q]; exact List.mem_map_of_mem he)
        rw [plOf_append, plOf_one, if_neg hne, List.append_nil]
        exact h.val e he
      · have : e = (k, [p]) := by simpa using he
        subst this
        show [p] = plOf _ k
        rw [plOf_append, plOf_one, if_pos rfl]
        have : plOf evs k = [] := by
          cases hp : plOf evs k with
          | nil => rfl
          | cons a l => exact absurd ((h.keys k).mpr (plOf_ne.mp (by rw [hp]; simp))) hk
        rw [this]; rfl
theorem TabOf.run : ∀ {evs pre : List Ev} {T : Tbl}, TabOf T pre → TabOf (runP T evs) (pre ++ evs)
  | [], pre, T, h => by rw [List.append_nil]; exact h
  | e :: evs, pre, T, h => by
    have := TabOf.run (evs := evs) (h.add e.1 e.2)
    rw [List.append_assoc] at this
    exact this
theorem tab_run (evs : List Ev) : TabOf (runP [] evs) evs := by have := TabOf.run (evs := evs) TabOf.nil; simpa using this
theorem TabOf.look {T : Tbl} {evs : List Ev} (h : TabOf T evs) {k : Int} (hk : k ∈ evs.map (·.1)) : look T k = some (plOf evs k) := by
  obtain ⟨e, he, rfl⟩ := List.mem_map.mp ((h.keys k).mpr hk)
  refine look_mem h.nd ?_
  rw [← h.val e he]; exact he
/-! ## the two orders of the events -/
noncomputable def rowsEv (c : Cla) (i : Nat) : List Ev := rowEv (-1) "head" c.args ++ (c.goals.zipIdx.take i).flatMap fun g => rowEv (g.2 : Int) "goal" g.1.terms
theorem rowsEv_step {c : Cla} {i : Nat} {g : Gl} (h : c.goals[i]? = some g) : rowsEv c (i + 1) = rowsEv c i ++ rowEv i "goal" g.terms := by
  unfold rowsEv; rw [take_step (zip_at h), List.flatMap_append, List.append_assoc]; simp
theorem evs_eq (c : Cla) : c.evs = specUpTo c c.goals.length ++ rowsEv c c.goals.length := by
  unfold Cla.evs
  rw [← specUpTo_all, List.length_zipIdx]
  congr 1
  unfold rowsEv Cla.rows
  rw [List.flatMap_cons, ← List.length_zipIdx (l := c.goals) (i := 0), List.take_length, List.flatMap_map]
theorem itemEv_keys {a : Int} {p : Str} {t : Tm} {w : Str} {e : Ev} (h : e ∈ itemEv a p (t, w)) : e.1 ∈ t.vars ∧ e.2.1 = a := by
  cases t with
  | var k => simp [itemEv] at h; subst h; simp [Tm.vars]
  | str ts =>
    simp only [itemEv, List.mem_map] at h
    obtain ⟨k, hk, rfl⟩ := h
    exact ⟨by simpa [Tm.vars] using hk, rfl⟩
  | atom => simp [itemEv] at h
  | num i => simp [itemEv] at h
theorem vars_mem {t : Tm} {k : Int} (hk : k ∈ t.vars) : ∀ {ts : List Tm}, t ∈ ts → k ∈ Tm.varsL ts
  | u :: ts, h => by
    simp only [Tm.varsL, List.mem_append]
    rcases List.mem_cons.mp h with rfl | h
    · exact .inl hk
    · exact .inr (vars_mem hk h)
theorem rowEv_keys {a : Int} {p : Str} {ts : List Tm} {e : Ev} (h : e ∈ rowEv a p ts) : e.1 ∈ Tm.varsL ts ∧ e.2.1 = a := by
  unfold rowEv at h
  obtain ⟨t, ht, he⟩ := List.mem_flatMap.mp h
  exact ⟨vars_mem (itemEv_keys he).1 ht, (itemEv_keys he).2⟩
theorem special_six (g : Gl) : g.special = 6 ∨ g.special = -1 := by cases g <;> simp [Gl.special]
theorem plOf_off {evs : List Ev} {k : Int} (h : ∀ e ∈ evs, e.1 ≠ k) : plOf evs k = [] := by
  cases hp : plOf evs k with
  | nil => rfl
  | cons p l =>
    have := plOf_mem.mp (show p ∈ plOf evs k by rw [hp]; simp)
    exact absurd rfl (h _ this)
theorem ClaOk.rowsEv {c : Cla} (h : ClaOk c) {i : Nat} {e : Ev} (he : e ∈ Mine.rowsEv c i) : 0 ≤ e.1 ∧ e.1 < 6 := by
  unfold Mine.rowsEv at he
  rcases List.mem_append.mp he with he | he
  · exact h.vars _ (rowEv_keys he).1
  · obtain ⟨g, hg, he⟩ := List.mem_flatMap.mp he
    have hm : g.1 ∈ c.goals := by
      have := List.mem_of_mem_take hg
      have := List.mem_zipIdx this
      have h3 := this.2.2
      rw [h3]; exact List.getElem_mem _
    exact (h.goals _ hm).vars _ (rowEv_keys he).1
theorem spec_keys {c : Cla} {i : Nat} {e : Ev} (he : e ∈ specUpTo c i) : e.1 = 6 := by
  unfold specUpTo at he
  obtain ⟨g, hg, he⟩ := List.mem_flatMap.mp he
  split at he
  · next hs =>
    have : e = _ := List.mem_singleton.mp he
    subst this
    rcases special_six g.1 with h | h
    · exact h
    · rw [h] at hs; exact absurd hs (by decide)
  · cases he
theorem due_pl {c : Cla} (h : ClaOk c) (k : Int) : ∀ i, i ≤ c.goals.length → plOf (dueUpTo c i) k = plOf (specUpTo c i ++ Mine.rowsEv c i) k
  | 0, _ => by simp [dueUpTo, specUpTo, Mine.rowsEv]
  | i + 1, hi => by
    have hg : c.goals[i]? = some (c.goals[i]'(by lia)) := List.getElem?_eq_getElem _
    have ih := due_pl h k i (by lia)
    rw [due_step hg, plOf_append, ih, spec_step hg, rowsEv_step hg]
    unfold goalEv
    simp only [plOf_append]
    by_cases hk : k = 6
    · have e1 : plOf (Mine.rowsEv c i) k = [] := plOf_off fun e he => by have := h.rowsEv he; lia
      have e2 : plOf (rowEv (i : Int) "goal" (c.goals[i]'(by lia)).terms) k = [] := plOf_off fun e he => by
        have := (h.goals _ (List.getElem_mem _)).vars _ (rowEv_keys he).1; lia
      rw [e1, e2]; simp
    · have e1 : plOf (if 0 ≤ (c.goals[i]'(by lia)).special then [((c.goals[i]'(by lia)).special, ((i : Int), ("special" : Str)))] else []) k = [] := plOf_off fun e he => by
        split at he
        · next hs =>
          have : e = _ := List.mem_singleton.mp he
          subst this
          rcases special_six (c.goals[i]'(by lia)) with q | q
          · simp only [q]; exact fun e => hk e.symm
          · rw [q] at hs; exact absurd hs (by decide)
        · cases he
      rw [e1]; simp
theorem due_evs {c : Cla} (h : ClaOk c) (k : Int) : plOf (dueUpTo c c.goals.length) k = plOf c.evs k := by rw [due_pl h k _ (Nat.le_refl _), evs_eq]
/-! ## what the survey finds -/
noncomputable def chunkAt (c : Cla) (p : Int) : Int := (callsB c p.toNat : Int)
noncomputable def dPl : Pl := (0, "")
structure SvIs (c : Cla) (k : Int) (ps : List Pl) (sv : Sv) : Prop where
  inf : sv.inf = ⟨k, "temp", 0, (ps.headD dPl).2, false, (ps.getLastD dPl).1⟩
  count : sv.count = (ps.length : Int)
  fc : sv.fc = chunkAt c (ps.headD dPl).1
  lc : sv.lc = chunkAt c (ps.getLastD dPl).1
structure SvOf (c : Cla) (T : List (Int × Sv)) (P : Int → List Pl) : Prop where
  nd : (T.map (·.1)).Nodup
  keys : ∀ k, k ∈ T.map (·.1) ↔ P k ≠ []
  val : ∀ e ∈ T, SvIs c e.1 (P e.1) e.2
theorem headD_append {α : Type} {a b : List α} {d : α} (h : a ≠ []) : (a ++ b).headD d = a.headD d := by
  cases a with
  | nil => exact absurd rfl h
  | cons x a => rfl
theorem getLastD_rep {α : Type} {a : List α} {x d : α} : ∀ {n : Nat}, 0 < n → (a ++ List.replicate n x).getLastD d = x
  | n + 1, _ => by
    have : List.replicate (n + 1) x = List.replicate n x ++ [x] := by rw [List.replicate_succ']
    rw [this, ← List.append_assoc]; simp
theorem SvOf.meet {c : Cla} {T : List (Int × Sv)} {P : Int → List Pl} (h : SvOf c T P) (k : Int) (first : Str) (goal : Int) {n : Nat} (hn : 0 < n) :
    SvOf c (meetM T k first goal (chunkAt c goal) (n : Int)) (fun x => if x = k then P k ++ List.replicate n (goal, first) else P x) := by
  have hmap : ∀ T : List (Int × Sv), (T.map fun e => if e.1 = k then (e.1, bumpM e.2 goal (chunkAt c goal) (n : Int)) else e).map (·.1) = T.map (·.1) := fun T => by
    rw [List.map_map]; exact List.map_congr_left fun e _ => by simp only [Function.comp]; split <;> rfl
  have hne : ∀ l : List Pl, l ++ List.replicate n (goal, first) ≠ [] := fun l e => by
    have := congrArg List.length e; simp at this; lia
  by_cases hk : k ∈ T.map (·.1)
  · unfold meetM seenM
    rw [if_pos hk]
    refine ⟨by rw [hmap]; exact h.nd, fun x => ?_, fun e he => ?_⟩
    · rw [hmap, h.keys]
      by_cases hx : x = k
      · subst hx; simp only [if_true]; exact ⟨fun _ => hne _, fun _ => (h.keys x).mp hk⟩
      · rw [if_neg hx]
    · obtain ⟨x, hx, rfl⟩ := List.mem_map.mp he
      by_cases hxk : x.1 = k
      · rw [if_pos hxk]
        have v := h.val x hx
        have hp : P x.1 ≠ [] := (h.keys x.1).mp (List.mem_map_of_mem hx)
        show SvIs c x.1 (if x.1 = k then _ else _) _
        rw [if_pos hxk, ← hxk]
        refine ⟨?_, ?_, ?_, ?_⟩
        · show { x.2.inf with last := goal } = _
          rw [v.inf, headD_append hp, getLastD_rep hn]
        · show x.2.count + (n : Int) = _
          rw [v.count]; simp
        · show x.2.fc = _
          rw [v.fc, headD_append hp]
        · show chunkAt c goal = _
          rw [getLastD_rep hn]
      · rw [if_neg hxk]
        show SvIs c x.1 (if x.1 = k then _ else _) _
        rw [if_neg hxk]; exact h.val x hx
  · have hp : P k = [] := by
      cases e : P k with
      | nil => rfl
      | cons a l => exact absurd ((h.keys k).mpr (by rw [e]; simp)) hk
    have hmeet : meetM T k first goal (chunkAt c goal) (n : Int) = T ++ [(k, bumpM { newSv k first with fc := chunkAt c goal } goal (chunkAt c goal) (n : Int))] := by
      unfold meetM seenM
      rw [if_neg hk, List.map_append, List.map_cons, List.map_nil, if_pos rfl]
      congr 1
      conv => rhs; rw [← List.map_id T]
      exact List.map_congr_left fun e he => by rw [if_neg (fun q => hk (by rw [← q]; exact List.mem_map_of_mem he))]; rfl
    rw [hmeet]
    refine ⟨?_, fun x => ?_, fun e he => ?_⟩
    · rw [List.map_append, List.nodup_append]
      refine ⟨h.nd, by simp, fun a ha' b hb e => ?_⟩
      have : b = k := by simpa using hb
      exact hk (by rw [← this, ← e]; exact ha')
    · rw [List.map_append, List.mem_append, h.keys]
      by_cases hx : x = k
      · subst hx; simp only [if_true]; exact ⟨fun _ => hne _, fun _ => .inr (by simp)⟩
      · rw [if_neg hx]
        constructor
        · rintro (q | q)
          · exact q
          · exact absurd (by simpa using q) hx
        · exact .inl
    · rcases List.mem_append.mp he with he | he
      · have hxk : ¬ e.1 = k := fun q => hk (by rw [← q]; exact List.mem_map_of_mem he)
        show SvIs c e.1 (if e.1 = k then _ else _) _
        rw [if_neg hxk]; exact h.val e he
      · have : e = _ := List.mem_singleton.mp he
        subst this
        show SvIs c k (if k = k then _ else _) _
        rw [if_pos rfl, hp]
        have hh : ∀ n : Nat, 0 < n → ([] ++ List.replicate n (goal, first) : List Pl).headD dPl = (goal, first) := by
          intro n hn; cases n with
          | zero => lia
          | succ n => rfl
        refine ⟨?_, ?_, ?_, ?_⟩
        · show { (newSv k first).inf with last := goal } = _
          rw [getLastD_rep hn, hh n hn]; rfl
        · show (0 : Int) + (n : Int) = _
          simp
        · show chunkAt c goal = _
          rw [hh n hn]
        · show chunkAt c goal = _
          rw [getLastD_rep hn]
noncomputable def sP (evs : List SEv) (goal x : Int) : List Pl := evs.flatMap fun e => if e.1 = x then List.replicate e.2.2.toNat (goal, e.2.1) else []
theorem SvOf.survey {c : Cla} {goal : Int} : ∀ {evs : List SEv} {T : List (Int × Sv)} {P : Int → List Pl}, SvOf c T P → (∀ e ∈ evs, 0 < e.2.2) → SvOf c (surveyM T evs goal (chunkAt c goal)) (fun x => P x ++ sP evs goal x)
  | [], T, P, h, _ => by
    have : (fun x => P x ++ sP [] goal x) = P := by funext x; simp [sP]
    rw [this]; exact h
  | e :: evs, T, P, h, hp => by
    have h0 := hp e (.head _)
    have h1 := h.meet e.1 e.2.1 goal (n := e.2.2.toNat) (by lia)
    rw [show ((e.2.2.toNat : Nat) : Int) = e.2.2 from by lia] at h1
    have h2 := SvOf.survey (evs := evs) (goal := goal) h1 fun u hu => hp u (.tail _ hu)
    have : (fun x => P x ++ sP (e :: evs) goal x) = fun x => (if x = e.1 then P e.1 ++ List.replicate e.2.2.toNat (goal, e.2.1) else P x) ++ sP evs goal x := by
      funext x
      simp only [sP, List.flatMap_cons]
      by_cases hx : x = e.1
      · subst hx; simp
      · have : ¬ e.1 = x := fun q => hx q.symm
        simp [hx, this]
    rw [this]; exact h2
theorem plOf_map (p : Pl) (x : Int) : ∀ l : List Int, plOf (l.map fun k => (k, p)) x = List.replicate (l.count x) p
  | [] => by simp [plOf]
  | k :: l => by
    have ih := plOf_map p x l
    rw [List.map_cons, show ((k, p) :: l.map fun k => (k, p)) = [(k, p)] ++ l.map fun k => (k, p) from rfl, plOf_append, plOf_one, ih, List.count_cons]
    by_cases h : k = x
    · subst h; simp [List.replicate_succ]
    · simp [h]
theorem flat_one {α : Type} {f : Int → List α} {x : Int} : ∀ {l : List Int}, l.Nodup → l.flatMap (fun k => if k = x then f k else []) = if x ∈ l then f x else []
  | [], _ => by simp
  | k :: l, nd => by
    rw [List.nodup_cons] at nd
    rw [List.flatMap_cons, flat_one nd.2]
    by_cases h : k = x
    · subst h; simp [nd.1]
    · have h' : ¬ x = k := fun e => h e.symm
      simp [h, h']
theorem addV_nd {l : List Int} {k : Int} (h : l.Nodup) : (addV l k).Nodup := by
  unfold addV
  split
  · exact h
  · next hk =>
    rw [List.nodup_append]
    exact ⟨h, by simp, fun a ha b hb e => hk (by have : b = k := by simpa using hb
                                                 rw [← this, ← e]; exact ha)⟩
theorem foldV_nd : ∀ (l a : List Int), a.Nodup → (l.foldl addV a).Nodup
  | [], a, h => h
  | k :: l, a, h => foldV_nd l _ (addV_nd h)
theorem dedV_nd (l : List Int) : (dedV l).Nodup := foldV_nd l [] .nil
theorem sP_ded (goal : Int) (w : Str) (l : List Int) (x : Int) : sP ((dedV l).map fun k => (k, w, (l.count k : Int))) goal x = plOf (l.map fun k => (k, (goal, w))) x := by
  unfold sP
  rw [List.flatMap_map]
  show (dedV l).flatMap (fun k => if k = x then List.replicate ((l.count k : Int)).toNat (goal, w) else []) = _
  rw [flat_one (f := fun k => List.replicate ((l.count k : Int)).toNat (goal, w)) (dedV_nd l), plOf_map]
  by_cases h : x ∈ dedV l
  · rw [if_pos h]; simp
  · rw [if_neg h, List.count_eq_zero_of_not_mem (fun q => h (mem_dedV.mpr q))]; rfl
theorem sP_term (goal : Int) (place : Str) (t : Tm) (x : Int) : sP (termEv place t) goal x = plOf (itemEv goal place (t, wArg place)) x := by
  cases t with
  | var k =>
    show sP [(k, wArg place, 1)] goal x = plOf [(k, (goal, wArg place))] x
    rw [plOf_one]
    simp only [sP, List.flatMap_cons, List.flatMap_nil, List.append_nil]
    split <;> simp
  | atom => simp [termEv, itemEv, Tm.vars, dedV, sP, plOf]
  | num i => simp [termEv, itemEv, Tm.vars, dedV, sP, plOf]
  | str ts => exact sP_ded goal (wStr place) (Tm.varsL ts) x
theorem sP_append (a b : List SEv) (goal x : Int) : sP (a ++ b) goal x = sP a goal x ++ sP b goal x := by unfold sP; rw [List.flatMap_append]
theorem sP_terms (goal : Int) (place : Str) (x : Int) : ∀ ts : List Tm, sP (ts.flatMap (termEv place)) goal x = plOf (rowEv goal place ts) x
  | [] => by simp [sP, rowEv, plOf]
  | t :: ts => by
    have ih := sP_terms goal place x ts
    unfold rowEv at *
    rw [List.flatMap_cons, List.flatMap_cons, sP_append, plOf_append, sP_term, ih]
theorem termEv_pos (place : Str) (t : Tm) : ∀ e ∈ termEv place t, 0 < e.2.2 := by
  intro e he
  by_cases h : ∃ k, t = .var k
  · obtain ⟨k, rfl⟩ := h
    have : e = (k, wArg place, 1) := by simpa [termEv] using he
    subst this; show (0 : Int) < 1; decide
  · rw [termEv_not (fun k q => h ⟨k, q⟩)] at he
    obtain ⟨k, hk, rfl⟩ := List.mem_map.mp he
    have := List.count_pos_iff.mpr (mem_dedV.mp hk)
    show (0 : Int) < (t.vars.count k : Int)
    lia
theorem SvOf.terms {c : Cla} {T : List (Int × Sv)} {P : Int → List Pl} (h : SvOf c T P) (ts : List Tm) (place : Str) (goal : Int) : SvOf c (termsM T ts place goal (chunkAt c goal)) (fun x => P x ++ plOf (rowEv goal place ts) x) := by
  have := h.survey (goal := goal) (evs := ts.flatMap (termEv place)) fun e he => by
    obtain ⟨t, _, ht⟩ := List.mem_flatMap.mp he
    exact termEv_pos place t e ht
  have e : (fun x => P x ++ plOf (rowEv goal place ts) x) = fun x => P x ++ sP (ts.flatMap (termEv place)) goal x := by funext x; rw [sP_terms]
  rw [e]; exact this
theorem sv_of (c : Cla) : ∀ i, i ≤ c.goals.length → SvOf c (svUpTo c i) (plOf (dueUpTo c i))
  | 0, _ => by
    have h0 : SvOf c [] (fun _ => []) := ⟨.nil, fun k => by simp, fun e h => nomatch h⟩
    have := h0.terms c.args "head" (-1)
    have e : (fun x => [] ++ plOf (rowEv (-1) "head" c.args) x) = plOf (dueUpTo c 0) := by funext x; rfl
    rw [e] at this
    exact this
  | i + 1, hi => by
    have hg : c.goals[i]? = some (c.goals[i]'(by lia)) := List.getElem?_eq_getElem _
    have ih := sv_of c i (by lia)
    rw [sv_step hg, due_step hg]
    generalize c.goals[i]'(by lia) = g
    unfold goalM goalEv
    have hch : (callsB c i : Int) = chunkAt c (i : Int) := rfl
    rw [hch]
    by_cases hs : 0 ≤ g.special
    · rw [if_pos hs, if_pos hs]
      have h1 := (ih.meet g.special "special" (i : Int) (n := 1) (by decide)).terms g.terms "goal" (i : Int)
      have e : plOf (dueUpTo c i ++ ([(g.special, ((i : Int), ("special" : Str)))] ++ rowEv (i : Int) "goal" g.terms)) = fun x => (if x = g.special then plOf (dueUpTo c i) g.special ++ List.replicate 1 ((i : Int), ("special" : Str)) else plOf (dueUpTo c i) x) ++ plOf (rowEv (i : Int) "goal" g.terms) x := by
        funext x
        rw [plOf_append, plOf_append, plOf_one]
        by_cases hx : x = g.special
        · subst hx; simp
        · have : ¬ g.special = x := fun q => hx q.symm
          simp [hx, this]
      rw [e]; exact h1
    · rw [if_neg hs, if_neg hs]
      have h1 := ih.terms g.terms "goal" (i : Int)
      have e : plOf (dueUpTo c i ++ ([] ++ rowEv (i : Int) "goal" g.terms)) = fun x => plOf (dueUpTo c i) x ++ plOf (rowEv (i : Int) "goal" g.terms) x := by
        funext x; rw [plOf_append]; rfl
      rw [e]; exact h1
/-! ## the events stand in order -/
theorem goalEv_at {g : Gl} {i : Int} {e : Ev} (h : e ∈ goalEv g i) : e.2.1 = i := by
  unfold goalEv at h
  rcases List.mem_append.mp h with h | h
  · split at h
    · have : e = _ := List.mem_singleton.mp h
      subst this; rfl
    · cases h
  · exact (rowEv_keys h).2
theorem due_bound (c : Cla) : ∀ i, i ≤ c.goals.length → ∀ e ∈ dueUpTo c i, -1 ≤ e.2.1 ∧ e.2.1 < (i : Int)
  | 0, _, e, he => by have := (rowEv_keys he).2; lia
  | i + 1, hi, e, he => by
    have hg : c.goals[i]? = some (c.goals[i]'(by lia)) := List.getElem?_eq_getElem _
    rw [due_step hg] at he
    rcases List.mem_append.mp he with he | he
    · have := due_bound c i (by lia) e he; lia
    · have := goalEv_at he; lia
theorem same_sorted {l : List Ev} {i : Int} (h : ∀ e ∈ l, e.2.1 = i) : l.Pairwise fun e f => e.2.1 ≤ f.2.1 :=
  List.pairwise_of_forall_mem_list fun a ha b hb => by rw [h a ha, h b hb]; exact Int.le_refl _
theorem due_sorted (c : Cla) : ∀ i, i ≤ c.goals.length → (dueUpTo c i).Pairwise fun e f => e.2.1 ≤ f.2.1
  | 0, _ => same_sorted (i := -1) fun e he => (rowEv_keys he).2
  | i + 1, hi => by
    have hg : c.goals[i]? = some (c.goals[i]'(by lia)) := List.getElem?_eq_getElem _
    rw [due_step hg, List.pairwise_append]
    refine ⟨due_sorted c i (by lia), same_sorted (i := (i : Int)) fun e he => goalEv_at he, fun a ha b hb => ?_⟩
    have := due_bound c i (by lia) a ha
    have := goalEv_at hb
    lia
theorem pl_sorted {evs : List Ev} (h : evs.Pairwise fun e f => e.2.1 ≤ f.2.1) (k : Int) : (plOf evs k).Pairwise fun p q => p.1 ≤ q.1 := by
  unfold plOf
  rw [List.pairwise_map]
  exact h.sublist List.filter_sublist
theorem bestM_same {p : Pl} : ∀ {l : List Pl}, (∀ q ∈ l, p.1 ≤ q.1) → bestM l p = p
  | [], _ => rfl
  | q :: l, h => by
    have h1 := h q (.head _)
    unfold bestM
    rw [List.foldl_cons, if_neg (by lia)]
    exact bestM_same fun r hr => h r (.tail _ hr)
theorem first_eq {ps : List Pl} (hs : ps.Pairwise fun p q => p.1 ≤ q.1) : firstM ps = (ps.headD dPl).2 := by
  cases ps with
  | nil => rfl
  | cons p ps =>
    rw [List.pairwise_cons] at hs
    show (bestM (p :: ps) p).2 = p.2
    rw [bestM_same]
    intro q hq
    rcases List.mem_cons.mp hq with rfl | hq
    · exact Int.le_refl _
    · exact hs.1 q hq
theorem last_split {ps : List Pl} (h : ps ≠ []) : ∃ init l, ps = init ++ [l] ∧ ps.getLastD dPl = l := by
  rcases List.eq_nil_or_concat ps with e | ⟨init, l, e⟩
  · exact absurd e h
  · exact ⟨init, l, by rw [e, List.concat_eq_append], by rw [e, List.concat_eq_append]; simp⟩
theorem last_max {ps : List Pl} (h : ps ≠ []) (hs : ps.Pairwise fun p q => p.1 ≤ q.1) : IsMax (ps.getLastD dPl).1 ps := by
  obtain ⟨init, l, e, el⟩ := last_split h
  rw [el]
  rw [e, List.pairwise_append] at hs
  refine ⟨⟨l, by rw [e]; simp, rfl⟩, fun p hp => ?_⟩
  rw [e] at hp
  rcases List.mem_append.mp hp with hp | hp
  · exact hs.2.2 p hp l (by simp)
  · rw [List.mem_singleton.mp hp]; exact Int.le_refl _
theorem head_min {ps : List Pl} (h : ps ≠ []) (hs : ps.Pairwise fun p q => p.1 ≤ q.1) : ps.headD dPl ∈ ps ∧ ∀ p ∈ ps, (ps.headD dPl).1 ≤ p.1 := by
  cases ps with
  | nil => exact absurd rfl h
  | cons p ps =>
    rw [List.pairwise_cons] at hs
    refine ⟨.head _, fun q hq => ?_⟩
    rcases List.mem_cons.mp hq with rfl | hq
    · exact Int.le_refl _
    · exact hs.1 q hq
theorem callsB_mono (c : Cla) {a b : Nat} (h : a ≤ b) : callsB c a ≤ callsB c b := by
  unfold callsB
  exact List.Sublist.countP_le (List.take_sublist_take_left h)
theorem callsB_gap (c : Cla) {a : Nat} : ∀ {b : Nat}, b ≤ c.goals.length → callsB c a < callsB c b → ∃ i, a ≤ i ∧ i < b ∧ ∃ g, c.goals[i]? = some g ∧ g.kind = ("call" : Str)
  | 0, _, h => by have := callsB_mono c (Nat.zero_le a); lia
  | b + 1, hb, h => by
    have hg : c.goals[b]? = some (c.goals[b]'(by lia)) := List.getElem?_eq_getElem _
    by_cases hk : (c.goals[b]'(by lia)).kind = ("call" : Str)
    · refine ⟨b, ?_, by lia, _, hg, hk⟩
      refine Nat.le_of_not_lt fun hlt => ?_
      have := callsB_mono c (show b + 1 ≤ a by lia)
      lia
    · have e := callsB_step hg
      rw [if_neg hk] at e
      obtain ⟨i, h1, h2, h3⟩ := callsB_gap c (a := a) (b := b) (by lia) (by lia)
      exact ⟨i, h1, by lia, h3⟩
theorem cross_eq {c : Cla} {ps : List Pl} (h : ps ≠ []) (hs : ps.Pairwise fun p q => p.1 ≤ q.1) (hb : ∀ p ∈ ps, -1 ≤ p.1 ∧ p.1 < (c.goals.length : Int)) : crossM c ps = decide (chunkAt c (ps.headD dPl).1 < chunkAt c (ps.getLastD dPl).1) := by
  obtain ⟨hm, hmin⟩ := head_min h hs
  obtain ⟨⟨l, hl, el⟩, hmax⟩ := last_max h hs
  have bl := hb l hl
  rw [el] at bl
  have bh := hb _ hm
  rw [Bool.eq_iff_iff, decide_eq_true_eq]
  unfold crossM chunkAt
  rw [List.any_eq_true]
  constructor
  · rintro ⟨i, hi, e⟩
    have hi' := List.mem_range.mp hi
    obtain ⟨g, hg⟩ : ∃ g, c.goals[i]? = some g := ⟨_, List.getElem?_eq_getElem hi'⟩
    by_cases hk : g.kind = ("call" : Str)
    · rw [crossAt_call hg hk, Bool.and_eq_true, List.any_eq_true, List.any_eq_true] at e
      obtain ⟨⟨p, hp, e1⟩, ⟨r, hr, e2⟩⟩ := e
      have q1 := hmin p hp
      have q2 := hmax r hr
      have e1' := of_decide_eq_true e1
      have e2' : ¬ r.1 ≤ (i : Int) := by simpa using e2
      have s1 := callsB_mono c (show (ps.headD dPl).1.toNat ≤ i by lia)
      have s2 := callsB_mono c (show i + 1 ≤ (ps.getLastD dPl).1.toNat by lia)
      have s3 := callsB_step hg
      rw [if_pos hk] at s3
      lia
    · rw [crossAt_not hg hk] at e; cases e
  · intro hlt
    obtain ⟨i, h1, h2, g, hg, hk⟩ := callsB_gap c (a := (ps.headD dPl).1.toNat) (b := (ps.getLastD dPl).1.toNat) (by lia) (by lia)
    refine ⟨i, List.mem_range.mpr (by lia), ?_⟩
    rw [crossAt_call hg hk, Bool.and_eq_true, List.any_eq_true, List.any_eq_true]
    refine ⟨⟨_, hm, decide_eq_true (by lia)⟩, ⟨l, hl, ?_⟩⟩
    have hn : ¬ l.1 ≤ (i : Int) := by rw [el]; lia
    show (!decide (l.1 ≤ (i : Int))) = true
    rw [decide_eq_false hn]; rfl
/-! ## the plan that was made -/
noncomputable abbrev allEv (c : Cla) : List Ev := dueUpTo c c.goals.length
theorem svAll_of (c : Cla) : SvOf c (svAll c) (plOf (allEv c)) := sv_of c _ (Nat.le_refl _)
theorem pl_bound {c : Cla} {k : Int} {p : Pl} (h : p ∈ plOf (allEv c) k) : -1 ≤ p.1 ∧ p.1 < (c.goals.length : Int) := due_bound c _ (Nat.le_refl _) _ (plOf_mem.mp h)
theorem kindM_cases (i : Sv) : kindM i = ("void" : Str) ∨ kindM i = ("perm" : Str) ∨ kindM i = ("temp" : Str) := by
  unfold kindM; split
  · exact .inl rfl
  · split
    · exact .inr (.inl rfl)
    · exact .inr (.inr rfl)
theorem kindM_void (i : Sv) : kindM i = ("void" : Str) ↔ i.count = 1 := by
  unfold kindM
  by_cases h : i.count = 1
  · simp [h]
  · rw [if_neg h]
    constructor
    · intro e; split at e <;> exact absurd e (by decide)
    · intro e; exact absurd e h
theorem kindM_perm (i : Sv) : kindM i = ("perm" : Str) ↔ i.count ≠ 1 ∧ i.fc < i.lc := by
  unfold kindM
  by_cases h : i.count = 1
  · rw [if_pos h]
    exact ⟨fun e => absurd e (by decide), fun e => absurd h e.1⟩
  · rw [if_neg h]
    by_cases h2 : i.fc < i.lc
    · rw [if_pos h2]; exact ⟨fun _ => ⟨h, h2⟩, fun _ => rfl⟩
    · rw [if_neg h2]; exact ⟨fun e => absurd e (by decide), fun e => absurd e.2 h2⟩
theorem var_ok {c : Cla} {k : Int} {sv : Sv} (hm : (k, sv) ∈ svAll c) {slot : Int} {risk : Bool} (h1 : kindM sv ≠ ("perm" : Str) → slot = 0 ∧ risk = false) (h2 : kindM sv = ("perm" : Str) → risk = (sv.inf.first == ("goal_arg" : Str))) :
    VarOk c k (plOf (allEv c) k) { (kinded sv).inf with slot := slot, risk := risk } := by
  have V := svAll_of c
  have v := V.val _ hm
  simp only at v
  have hne : plOf (allEv c) k ≠ [] := (V.keys k).mp (List.mem_map.mpr ⟨_, hm, rfl⟩)
  have hs := pl_sorted (due_sorted c _ (Nat.le_refl _)) k
  have hb : ∀ p ∈ plOf (allEv c) k, -1 ≤ p.1 ∧ p.1 < (c.goals.length : Int) := fun p hp => pl_bound hp
  have hcr := cross_eq hne hs hb
  rw [← v.fc, ← v.lc] at hcr
  refine ⟨?_, ?_, ?_, ?_, ?_, ?_, h1, fun e => ?_⟩
  · show sv.inf.var = k; rw [v.inf]
  · show sv.inf.first = _; rw [v.inf, first_eq hs]
  · show IsMax sv.inf.last _; rw [v.inf]; exact last_max hne hs
  · show decide (kindM sv = _) = _
    rw [decide_eq_decide, kindM_void, v.count]; lia
  · show decide (kindM sv = _) = _
    rw [hcr, decide_eq_decide, kindM_perm, v.count]
    constructor
    · exact fun h => h.2
    · intro h
      refine ⟨fun e1 => ?_, h⟩
      have e1' : (plOf (allEv c) k).length = 1 := by lia
      obtain ⟨p, hp⟩ := List.length_eq_one_iff.mp e1'
      rw [v.fc, v.lc, hp] at h
      exact absurd h (by simp)
  · show (["void", "perm", "temp"] : List Str).contains (kindM sv) = true
    rcases kindM_cases sv with e | e | e <;> rw [e] <;> decide
  · show risk = decide (sv.inf.first = _)
    rw [h2 e, beq_dec]
theorem places_tab (c : Cla) : TabOf c.places c.evs := tab_run c.evs
theorem places_keys {c : Cla} (h : ClaOk c) (k : Int) : k ∈ c.places.map (·.1) ↔ k ∈ (svAll c).map (·.1) := by
  rw [(places_tab c).keys, ← plOf_ne, ← due_evs h, (svAll_of c).keys]
theorem places_val {c : Cla} (h : ClaOk c) {e : Int × List Pl} (he : e ∈ c.places) : e.2 = plOf (allEv c) e.1 := by
  rw [(places_tab c).val e he, ← due_evs h]
theorem made_info {c : Cla} {order live : List Int} {T : List (Int × Sv)} (hM : Made c order live T) {k : Int} (hk : k ∈ (svAll c).map (·.1)) : ∃ sv slot risk, (k, sv) ∈ svAll c ∧ (k, ({ (kinded sv).inf with slot := slot, risk := risk } : Inf)) ∈ (planM c T order live).infos ∧
    (k ∈ order → slot = (posOf order k : Int) + 1 ∧ risk = (sv.inf.first == ("goal_arg" : Str))) ∧ (k ∉ order → slot = 0 ∧ risk = false) ∧ (kindM sv = ("perm" : Str) ↔ k ∈ order) := by
  obtain ⟨⟨k', sv⟩, hm, rfl⟩ := List.mem_map.mp hk
  have V := svAll_of c
  have v := (V.val _ hm).inf
  simp only at v
  have hkt : (k', kinded sv) ∈ kindsT (svAll c) := List.mem_map.mpr ⟨_, hm, rfl⟩
  have hnd : ((kindsT (svAll c)).map (·.1)).Nodup := by rw [kindsT_keys]; exact V.nd
  have hperm : kindM sv = ("perm" : Str) ↔ k' ∈ order := by
    rw [hM.ord.mem]
    exact ⟨fun e => ⟨_, hkt, e⟩, fun ⟨s', h1, h2⟩ => by rw [← uniqT hnd hkt h1] at h2; exact h2⟩
  by_cases ho : k' ∈ order
  · refine ⟨sv, _, _, hm, ?_, fun _ => ⟨rfl, rfl⟩, fun h => absurd ho h, hperm⟩
    refine List.mem_map.mpr ⟨(k', slotted (kinded sv) ((posOf order k' : Int) + 1)), ?_, rfl⟩
    rw [hM.eq]
    exact List.mem_map.mpr ⟨(k', kinded sv), hkt, if_pos ho⟩
  · refine ⟨sv, sv.inf.slot, sv.inf.risk, hm, ?_, fun h => absurd h ho, fun _ => by rw [v]; exact ⟨rfl, rfl⟩, hperm⟩
    refine List.mem_map.mpr ⟨(k', kinded sv), ?_, rfl⟩
    rw [hM.eq]
    exact List.mem_map.mpr ⟨(k', kinded sv), hkt, if_neg ho⟩
theorem made_keys {c : Cla} {order live : List Int} {T : List (Int × Sv)} (hM : Made c order live T) : (planM c T order live).infos.map (·.1) = (svAll c).map (·.1) := by
  show (T.map fun p => (p.1, p.2.inf)).map (·.1) = _
  rw [List.map_map, ← hM.keys]; rfl
theorem pos_range (order : List Int) (nd : order.Nodup) : (order.map fun k => (posOf order k : Int) + 1) = (List.range order.length).map fun (i : Nat) => 1 + (i : Int) := by
  refine List.ext_getElem? fun i => ?_
  rw [List.getElem?_map, List.getElem?_map]
  by_cases h : i < order.length
  · rw [List.getElem?_range h, List.getElem?_eq_getElem h]
    show some ((posOf order order[i] : Int) + 1) = some _
    rw [posOf_at nd (List.getElem?_eq_getElem h), Int.add_comm]
  · rw [List.getElem?_eq_none (by lia), List.getElem?_eq_none (by simp; lia)]; rfl
set_option maxHeartbeats 4000000 in
theorem made_ok {c : Cla} (hok : ClaOk c) {order live : List Int} {T : List (Int × Sv)} (hM : Made c order live T) : PlanOk c (planM c T order live) := by
  have V := svAll_of c
  have nd : ((planM c T order live).infos.map (·.1)).Nodup := by rw [made_keys hM]; exact V.nd
  have ptab := places_tab c
  have hord : ∀ k ∈ order, k ∈ (svAll c).map (·.1) := fun k hk => by
    rw [← kindsT_keys]
    obtain ⟨sv, h, _⟩ := (hM.ord.mem k).mp hk
    exact List.mem_map.mpr ⟨_, h, rfl⟩
  have hkt : ∀ {k : Int} {sv : Sv}, (k, sv) ∈ svAll c → (k, kinded sv) ∈ kindsT (svAll c) := fun h => List.mem_map.mpr ⟨_, h, rfl⟩
  -- what stands in a perm
  have perm_is : ∀ e ∈ c.places, ∀ a, look (planM c T order live).infos e.1 = some a → a.kind = ("perm" : Str) → ∃ sv, (e.1, sv) ∈ svAll c ∧ e.1 ∈ order ∧ a.var = e.1 ∧ a.slot = (posOf order e.1 : Int) + 1 ∧ a.last = sv.inf.last := by
    intro e he a ha hp
    have hk := (places_keys hok e.1).mp (List.mem_map_of_mem he)
    obtain ⟨sv, slot, risk, hm, hi, i1, i2, i3⟩ := made_info hM hk
    rw [look_mem nd hi] at ha
    cases ha
    have ho : e.1 ∈ order := i3.mp hp
    have v := (V.val _ hm).inf
    exact ⟨sv, hm, ho, by show sv.inf.var = _; rw [v], (i1 ho).1, rfl⟩
  have perms_var : ∀ T' : Tbl, (∀ e ∈ T', e ∈ c.places) → (permsM (planM c T order live) T').map (·.slot) = ((T'.map (·.1)).filter fun k => decide (k ∈ order)).map fun k => (posOf order k : Int) + 1 := by
    intro T'
    induction T' with
    | nil => intro _; rfl
    | cons e T' ih =>
      intro h
      have ih := ih fun x hx => h x (.tail _ hx)
      have he := h e (.head _)
      have hk := (places_keys hok e.1).mp (List.mem_map_of_mem he)
      obtain ⟨sv, slot, risk, hm, hi, i1, i2, i3⟩ := made_info hM hk
      have hl := look_mem nd hi
      unfold permsM at *
      rw [List.filterMap_cons, hl, List.map_cons, List.filter_cons]
      by_cases ho : e.1 ∈ order
      · have hp : kindM sv = ("perm" : Str) := i3.mpr ho
        have hf : (some ({ (kinded sv).inf with slot := slot, risk := risk } : Inf)).filter (fun i => decide (i.kind = ("perm" : Str))) = some { (kinded sv).inf with slot := slot, risk := risk } := by
          rw [Option.filter_some, if_pos]; exact decide_eq_true hp
        rw [hf, decide_eq_true ho, if_pos rfl]
        show slot :: _ = _ :: _
        rw [ih, (i1 ho).1]
      · have hp : ¬ kindM sv = ("perm" : Str) := fun q => ho (i3.mp q)
        have hf : (some ({ (kinded sv).inf with slot := slot, risk := risk } : Inf)).filter (fun i => decide (i.kind = ("perm" : Str))) = none := by
          rw [Option.filter_some, if_neg]; intro q; exact hp (of_decide_eq_true q)
        rw [hf, decide_eq_false ho]
        simp only [Bool.false_eq_true, if_false]
        exact ih
  have hfp : ((c.places.map (·.1)).filter fun k => decide (k ∈ order)).Perm order := by
    refine (List.perm_ext_iff_of_nodup (ptab.nd.sublist List.filter_sublist) hM.ord.nd).mpr fun k => ?_
    rw [List.mem_filter]
    constructor
    · exact fun h => of_decide_eq_true h.2
    · exact fun h => ⟨(places_keys hok k).mpr (hord k h), decide_eq_true h⟩
  have hslots := perms_var c.places fun e he => he
  have hlen : (permsM (planM c T order live) c.places).length = order.length := by
    have := congrArg List.length hslots
    rw [List.length_map, List.length_map, hfp.length_eq] at this
    exact this
  refine ⟨?_, ?_, ?_, ?_, ?_, ?_⟩
  · rw [made_keys hM]
    exact (List.perm_ext_iff_of_nodup ptab.nd V.nd).mpr fun k => places_keys hok k
  · intro e he inf hl
    have hk := (places_keys hok e.1).mp (List.mem_map_of_mem he)
    obtain ⟨sv, slot, risk, hm, hi, i1, i2, i3⟩ := made_info hM hk
    rw [look_mem nd hi] at hl
    cases hl
    rw [places_val hok he]
    exact var_ok hm (fun h => i2 fun q => h (i3.mpr q)) (fun h => (i1 (i3.mp h)).2)
  · show (order.length : Int) = _
    rw [hlen]
  · rw [hslots, hlen, ← pos_range order hM.ord.nd]
    exact hfp.map _
  · intro a ha b hb
    obtain ⟨ea, hea, la, pa⟩ := mem_perms.mp ha
    obtain ⟨eb, heb, lb, pb⟩ := mem_perms.mp hb
    obtain ⟨sa, ma, oa, va, sla, lsa⟩ := perm_is ea hea a la pa
    obtain ⟨sb, mb, ob, vb, slb, lsb⟩ := perm_is eb heb b lb pb
    have key : b.slot < a.slot → a.last < b.last ∨ (b.last = a.last ∧ b.var < a.var) := by
      intro hlt
      obtain ⟨i, hi, ei⟩ := List.getElem_of_mem oa
      obtain ⟨j, hj, ej⟩ := List.getElem_of_mem ob
      have p1 := posOf_at hM.ord.nd (show order[i]? = some ea.1 by rw [List.getElem?_eq_getElem hi, ei])
      have p2 := posOf_at hM.ord.nd (show order[j]? = some eb.1 by rw [List.getElem?_eq_getElem hj, ej])
      rw [sla, slb, p1, p2] at hlt
      have hr := (List.pairwise_iff_getElem.mp hM.ord.sorted) j i hj hi (by lia)
      rw [ei, ej] at hr
      have := hr _ _ (hkt mb) (hkt ma)
      rw [lsa, lsb, va, vb]
      exact this
    refine ⟨fun ⟨h1, h2⟩ => ?_, fun ⟨h1, h2, h3⟩ => ?_⟩
    · rcases key h2 with h | ⟨h, _⟩ <;> lia
    · rcases key h3 with h | ⟨_, h⟩ <;> lia
  · refine ⟨chunks_len c, hM.len, fun i hi => ⟨chunks_at hi, ?_, ?_⟩, rfl⟩
    · intro e he inf hl hp lv hlv
      obtain ⟨sv, hm, ho, hv, hsl, hla⟩ := perm_is e he inf hl hp
      obtain ⟨n, rfl, hn, h1, h2⟩ := hM.live i lv hlv
      have hTl : ∀ {k : Int} {s' : Sv}, (k, s') ∈ T → ∀ {sv : Sv}, (k, sv) ∈ svAll c → s'.inf.last = sv.inf.last := by
        intro k s' h sv hm
        obtain ⟨q, hq, e⟩ := hM.last h
        rw [← e, ← uniqT (by rw [kindsT_keys]; exact V.nd) (hkt hm) hq]; rfl
      have toT : ∀ {k : Int} {sv : Sv}, (k, sv) ∈ svAll c → ∃ s', (k, s') ∈ T := by
        intro k sv hm
        have : k ∈ T.map (·.1) := by rw [hM.keys]; exact List.mem_map.mpr ⟨_, hm, rfl⟩
        obtain ⟨⟨k', s'⟩, h, rfl⟩ := List.mem_map.mp this
        exact ⟨s', h⟩
      obtain ⟨j, hj, ej⟩ := List.getElem_of_mem ho
      have hjo : order[j]? = some e.1 := by rw [List.getElem?_eq_getElem hj, ej]
      have hpos := posOf_at hM.ord.nd hjo
      have hne : plOf (allEv c) e.1 ≠ [] := (V.keys e.1).mp (List.mem_map.mpr ⟨_, hm, rfl⟩)
      have hs := pl_sorted (due_sorted c _ (Nat.le_refl _)) e.1
      obtain ⟨⟨l, hl', el⟩, hmax⟩ := last_max hne hs
      have hlast : sv.inf.last = ((plOf (allEv c) e.1).getLastD dPl).1 := by rw [(V.val _ hm).inf]
      have hany : (e.2.any fun q => decide (q.1 > (i : Int))) = decide ((i : Int) < sv.inf.last) := by
        rw [Bool.eq_iff_iff, List.any_eq_true, decide_eq_true_eq, places_val hok he, hlast]
        constructor
        · rintro ⟨q, hq, h⟩
          have := of_decide_eq_true h
          have := hmax q hq
          lia
        · intro h
          exact ⟨l, hl', decide_eq_true (by rw [el]; exact h)⟩
      show (e.2.any fun q => decide (q.1 > (i : Int))) = decide (inf.slot ≤ (n : Int))
      rw [hany, decide_eq_decide, hsl, hpos]
      obtain ⟨s', hs'⟩ := toT hm
      have hls' := hTl hs' hm
      constructor
      · intro h
        refine Decidable.byContradiction fun hcon => ?_
        have hnj : n ≤ j := by lia
        have hnl : n < order.length := by lia
        obtain ⟨kn, hkn⟩ : ∃ kn, order[n]? = some kn := ⟨_, List.getElem?_eq_getElem hnl⟩
        have hkm := hord kn (List.mem_of_getElem? hkn)
        obtain ⟨⟨kn', svn⟩, hmn, rfl⟩ := List.mem_map.mp hkm
        obtain ⟨sn, hsn⟩ := toT hmn
        have q1 := h2 _ hkn sn hsn
        rw [hTl hsn hmn] at q1
        by_cases hnj' : n = j
        · subst hnj'
          rw [hkn] at hjo
          have e1 : kn' = e.1 := Option.some.inj hjo
          subst e1
          have := uniqT V.nd hm hmn
          subst this
          lia
        · have hr := (List.pairwise_iff_getElem.mp hM.ord.sorted) n j hnl hj (by lia)
          rw [(List.getElem?_eq_some_iff.mp hkn).2, ej] at hr
          have hr2 : sv.inf.last < svn.inf.last ∨ (svn.inf.last = sv.inf.last ∧ kn' < e.1) := hr (kinded svn) (kinded sv) (hkt hmn) (hkt hm)
          rcases hr2 with h' | ⟨h', _⟩ <;> lia
      · intro h
        have := h1 j (by lia) _ hjo s' hs'
        rw [hls'] at this; exact this
    · intro lv hlv
      obtain ⟨n, rfl, hn, _⟩ := hM.live i lv hlv
      show (0 : Int) ≤ n ∧ (n : Int) ≤ (order.length : Int)
      lia
/-! ## all of it -/
theorem row_words {a : Int} {p : Str} {ts : List Tm} {e : Ev} (hp : p = ("head" : Str) ∨ p = ("goal" : Str)) (h : e ∈ rowEv a p ts) : PyData.strOk e.2.2 = true := by
  unfold rowEv at h
  obtain ⟨t, _, he⟩ := List.mem_flatMap.mp h
  have : e.2.2 = wArg p ∨ e.2.2 = wStr p := by
    cases t with
    | var k => simp [itemEv] at he; subst he; exact .inl rfl
    | str ts =>
      simp only [itemEv, List.mem_map] at he
      obtain ⟨k, _, rfl⟩ := he
      exact .inr rfl
    | atom => simp [itemEv] at he
    | num i => simp [itemEv] at he
  rcases hp with rfl | rfl <;> rcases this with q | q <;> rw [q] <;> decide +kernel
theorem due_words (c : Cla) : ∀ i, i ≤ c.goals.length → ∀ e ∈ dueUpTo c i, PyData.strOk e.2.2 = true
  | 0, _, e, he => row_words (.inl rfl) he
  | i + 1, hi, e, he => by
    have hg : c.goals[i]? = some (c.goals[i]'(by lia)) := List.getElem?_eq_getElem _
    rw [due_step hg] at he
    rcases List.mem_append.mp he with he | he
    · exact due_words c i (by lia) e he
    · unfold goalEv at he
      rcases List.mem_append.mp he with he | he
      · split at he
        · have : e = _ := List.mem_singleton.mp he
          subst this
          show PyData.strOk ("special" : Str) = true
          decide +kernel
        · cases he
      · exact row_words (.inr rfl) he
theorem szG_le {c : Cla} (h : ∀ g ∈ c.goals, GlB g) : szG c.goals ≤ c.goals.length * 22 := by
  have : ∀ gs : List Gl, (∀ g ∈ gs, GlB g) → szG gs ≤ gs.length * 22 := by
    intro gs
    induction gs with
    | nil => intro _; simp [szG]
    | cons g gs ih =>
      intro h
      have h1 := (h g (.head _)).size
      have h2 := ih fun u hu => h u (.tail _ hu)
      simp only [szG, List.map_cons, List.sum_cons, List.length_cons] at *
      lia
  exact this _ h
theorem due_range {c : Cla} (h : ClaOk c) {e : Ev} (he : e ∈ allEv c) : 0 ≤ e.1 ∧ e.1 ≤ 6 := by
  have hm : e.2 ∈ plOf (allEv c) e.1 := plOf_mem.mpr he
  rw [due_evs h, evs_eq] at hm
  have := plOf_mem.mp hm
  rcases List.mem_append.mp this with q | q
  · have := spec_keys q; simp only at this; lia
  · have := h.rowsEv q; simp only at this; lia
theorem nodup_le : ∀ {l m : List Nat}, l.Nodup → (∀ x ∈ l, x ∈ m) → l.length ≤ m.length
  | [], m, _, _ => Nat.zero_le _
  | x :: l, m, nd, h => by
    rw [List.nodup_cons] at nd
    have hx := h x (.head _)
    have := nodup_le (l := l) (m := m.erase x) nd.2 fun y hy => (List.mem_erase_of_ne (fun e : y = x => nd.1 (e ▸ hy))).mpr (h y (.tail _ hy))
    rw [List.length_erase_of_mem hx] at this
    have := List.length_pos_of_mem hx
    simp only [List.length_cons]; lia
theorem few {l : List Int} (nd : l.Nodup) (h : ∀ k ∈ l, 0 ≤ k ∧ k ≤ 6) : l.length ≤ 7 := by
  have hp : (l.map Int.toNat).Nodup := by
    rw [List.nodup_iff_pairwise_ne, List.pairwise_map]
    refine List.Pairwise.imp_of_mem ?_ nd
    intro a b ha hb hne e
    have := h a ha; have := h b hb
    lia
  have hs : ∀ x ∈ l.map Int.toNat, x ∈ List.range 7 := by
    intro x hx
    obtain ⟨k, hk, rfl⟩ := List.mem_map.mp hx
    have := h k hk
    exact List.mem_range.mpr (by lia)
  have := nodup_le hp hs
  simpa using this
theorem goodOf (c : Cla) (h : ClaOk c) : GoodL c := by
  have V := svAll_of c
  have ptab := places_tab c
  have dtab : TabOf (dueT c) (allEv c) := tab_run _
  have hsz : c.size ≤ 800 := by
    rw [size_eq]
    have h1 := h.size
    have h2 := szG_le h.goals
    have h3 := h.n
    lia
  have hrange : ∀ k ∈ (svAll c).map (·.1), 0 ≤ k ∧ k ≤ 6 := fun k hk => by
    obtain ⟨e, he, rfl⟩ := List.mem_map.mp (plOf_ne.mp ((V.keys k).mp hk))
    exact due_range h he
  have hsv := few V.nd hrange
  have hpl := few ptab.nd fun k hk => hrange k ((places_keys h k).mp hk)
  rw [List.length_map] at hsv hpl
  have hdl : (allEv c).length ≤ 800 := by
    have := due_len c c.goals.length (Nat.le_refl _)
    show (dueUpTo c c.goals.length).length ≤ 800
    lia
  have hplen : ∀ k, (plOf (allEv c) k).length ≤ 800 := fun k => by
    unfold plOf
    rw [List.length_map]
    have := List.length_filter_le (fun e : Ev => decide (e.1 = k)) (allEv c)
    lia
  have hkeys : ∀ k, k ∈ (dueT c).map (·.1) ↔ k ∈ c.places.map (·.1) := fun k => by
    rw [dtab.keys, places_keys h, V.keys, plOf_ne]
  have hne : ∀ {k}, k ∈ (dueT c).map (·.1) → plOf (allEv c) k ≠ [] := fun hk => plOf_ne.mpr ((dtab.keys _).mp hk)
  refine ⟨⟨hsz, by lia, V.nd, by lia, fun e he => ?_, fun order live T hM => made_ok h hM⟩, h, ?_, fun e he => ?_, fun e he p hp => ?_, fun e he => ?_, fun e he => ?_⟩
  · rw [places_val h he]
    exact ⟨hne ((hkeys _).mpr (List.mem_map_of_mem he)), hplen _⟩
  · have := ((List.perm_ext_iff_of_nodup dtab.nd ptab.nd).mpr hkeys).length_eq
    simpa using this
  · rw [dtab.look ((dtab.keys _).mp ((hkeys _).mpr (List.mem_map_of_mem he))), places_val h he]
  · rw [places_val h he] at hp
    exact due_words c _ (Nat.le_refl _) _ (plOf_mem.mp hp)
  · rw [dtab.val e he]
    exact ⟨hne (List.mem_map_of_mem he), hplen _, fun p hp => pl_bound hp⟩
  · exact (V.keys _).mpr (hne (List.mem_map_of_mem he))
end Mine
open Mine
theorem PySem.Challenge.cw_ok0016_01_holds : PySem.Challenge.rw_ok0016_01.Holds := by
  exact top_of fun S W O hs hI hz k => c_law goodOf S W O hs hI hz k
