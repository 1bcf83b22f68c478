import PyProof.Rows.All
import Wide.All
import OpenK.AllK
import Wide.FinOn
import KE.KEqDat
import PyProof.SliceMore
import KE.KPop
import PyProof.ForAny
import PyProof.EnumFor
import PyProof.CompFree
import PyProof.CompUse
import PyProof.WalksMore
import PySem.Challenge.RW_qd0012_01

open PySem PySem.W PyProof.Rows
set_option Elab.async false
namespace Mine

/-- abstract values -/
inductive D where
  | none
  | bool (b : Bool)
  | int (i : Int)
  | str (s : Str)
  | tup (ds : List D)
  | lst (ds : List D)
  | ref (a : Addr)
  | val (v : Value)

abbrev Loc := List (Str × D)

/-- abstract mutable objects -/
inductive AO where
  | list (ds : List D)
  | ns (m : Loc)
  | inst (d : Addr)
  | smap (m : Loc)
  | idict (n : Nat)

abbrev AH := Addr → Option AO
noncomputable def upd (H : AH) (a : Addr) (o : AO) : AH := fun b => if b = a then some o else H b
noncomputable def drp (H : AH) (a : Addr) : AH := fun b => if b = a then none else H b
theorem upd_same (H : AH) (a : Addr) (o : AO) : upd H a o a = some o := by simp [upd]
theorem upd_ne {H : AH} {a b : Addr} {o : AO} (h : b ≠ a) : upd H a o b = H b := by simp [upd, h]
theorem upd_upd (H : AH) (a : Addr) (o o' : AO) : upd (upd H a o) a o' = upd H a o' := by funext b; simp only [upd]; split <;> rfl
theorem upd_self {H : AH} {a : Addr} {o : AO} (h : H a = some o) : upd H a o = H := by funext b; simp only [upd]; split <;> simp_all
theorem upd_comm (H : AH) {a b : Addr} (o o' : AO) (h : a ≠ b) : upd (upd H a o) b o' = upd (upd H b o') a o := by
  funext c; simp only [upd]; by_cases h1 : c = a <;> by_cases h2 : c = b <;> simp_all

mutual
inductive VR (h : Heap) (H : AH) : Value → D → Prop
  | none : VR h H .none .none
  | bool (b : Bool) : VR h H (.bool b) (.bool b)
  | int (i : Int) (t : Tok) : VR h H (.int i t) (.int i)
  | str (x : Str) (t : Tok) : VR h H (.str x t) (.str x)
  | tup {a : Addr} {vs : List Value} {ds : List D} : h.IsTuple a vs.toArray → H a = Option.none → VRs h H vs ds → VR h H (.ref a) (.tup ds)
  | lst {a : Addr} {vs : List Value} {ds : List D} : h.IsList a vs.toArray → H a = Option.none → VRs h H vs ds → VR h H (.ref a) (.lst ds)
  | ref (a : Addr) : VR h H (.ref a) (.ref a)
  | val (v : Value) : VR h H v (.val v)
inductive VRs (h : Heap) (H : AH) : List Value → List D → Prop
  | nil : VRs h H [] []
  | cons {v : Value} {vs : List Value} {d : D} {ds : List D} : VR h H v d → VRs h H vs ds → VRs h H (v :: vs) (d :: ds)
end

/-- what a step of the run may do: it keeps all that is not its own, nor told of -/
structure Step (own : Addr → Prop) (H H' : AH) (s s' : Shared) : Prop where
  keep : ∀ a o, s.heap.get? a = some o → H a = none → ¬ own a → s'.heap.get? a = some o
  size : s.heap.objs.size ≤ s'.heap.objs.size
  dom : ∀ a, H' a ≠ none → H a ≠ none ∨ s.heap.objs.size ≤ a
  gens : s'.gens = s.gens
  os : s'.os = s.os

theorem Step.refl {own : Addr → Prop} {H : AH} {s : Shared} : Step own H H s s :=
  ⟨fun _ _ e _ _ => e, Nat.le_refl _, fun _ h => .inl h, rfl, rfl⟩
theorem Step.trans {own : Addr → Prop} {H H₁ H₂ : AH} {s s₁ s₂ : Shared} (x : Step own H H₁ s s₁) (y : Step own H₁ H₂ s₁ s₂) : Step own H H₂ s s₂ where
  keep a o e h1 h2 := y.keep a o (x.keep a o e h1 h2) (Classical.byContradiction fun q => (x.dom a q).elim (fun z => z h1) fun z => Nat.lt_irrefl _ (Nat.lt_of_lt_of_le (Heap.lt_size e) z)) h2
  size := Nat.le_trans x.size y.size
  dom a h := (y.dom a h).elim (fun z => x.dom a z) fun z => .inr (Nat.le_trans x.size z)
  gens := y.gens.trans x.gens
  os := y.os.trans x.os
theorem Step.weaken {own own' : Addr → Prop} {H H' : AH} {s s' : Shared} (x : Step own H H' s s') (h : ∀ a, a < s.heap.objs.size → own a → own' a) : Step own' H H' s s' :=
  ⟨fun a o e h1 h2 => x.keep a o e h1 fun q => h2 (h a (Heap.lt_size e) q), x.size, x.dom, x.gens, x.os⟩

theorem isTuple_keep {h h' : Heap} {a : Addr} {vs : Array Value} (x : h.IsTuple a vs) (k : ∀ o, h.get? a = some o → (∃ vs n, o.data = .seq vs n) → h'.get? a = some o) : h'.IsTuple a vs := by
  obtain ⟨o, e, c, n, d⟩ := x; exact ⟨o, k o e ⟨_, _, d⟩, c, n, d⟩
theorem isList_keep {h h' : Heap} {a : Addr} {vs : Array Value} (x : h.IsList a vs) (k : ∀ o, h.get? a = some o → (∃ vs n, o.data = .seq vs n) → h'.get? a = some o) : h'.IsList a vs := by
  obtain ⟨o, e, c, n, d⟩ := x; exact ⟨o, k o e ⟨_, _, d⟩, c, n, d⟩
theorem isTuple_lt {h : Heap} {a : Addr} {vs : Array Value} (x : h.IsTuple a vs) : a < h.objs.size := by obtain ⟨o, e, _⟩ := x; exact Heap.lt_size e
theorem isList_lt {h : Heap} {a : Addr} {vs : Array Value} (x : h.IsList a vs) : a < h.objs.size := by obtain ⟨o, e, _⟩ := x; exact Heap.lt_size e

/-- of one heap to another, where the sequences that are not told of stay -/
structure Stays (h h' : Heap) (H H' : AH) : Prop where
  keep : ∀ a o, h.get? a = some o → (∃ vs n, o.data = .seq vs n) → H a = none → h'.get? a = some o
  off : ∀ a o, h.get? a = some o → (∃ vs n, o.data = .seq vs n) → H a = none → H' a = none
mutual
theorem VR.stays {h h' : Heap} {H H' : AH} (k : Stays h h' H H') : ∀ {v : Value} {d : D}, VR h H v d → VR h' H' v d
  | _, _, .none => .none
  | _, _, .bool b => .bool b
  | _, _, .int i t => .int i t
  | _, _, .str x t => .str x t
  | _, _, .tup e n r => .tup (isTuple_keep e fun o e q => k.keep _ o e q n) (by obtain ⟨o, e, _, j, d⟩ := e; exact k.off _ o e ⟨_, _, d⟩ n) (VRs.stays k r)
  | _, _, .lst e n r => .lst (isList_keep e fun o e q => k.keep _ o e q n) (by obtain ⟨o, e, _, j, d⟩ := e; exact k.off _ o e ⟨_, _, d⟩ n) (VRs.stays k r)
  | _, _, .ref a => .ref a
  | _, _, .val v => .val v
theorem VRs.stays {h h' : Heap} {H H' : AH} (k : Stays h h' H H') : ∀ {vs : List Value} {ds : List D}, VRs h H vs ds → VRs h' H' vs ds
  | _, _, .nil => .nil
  | _, _, .cons a r => .cons (VR.stays k a) (VRs.stays k r)
end

theorem VRs.length {h : Heap} {H : AH} : ∀ {vs : List Value} {ds : List D}, VRs h H vs ds → vs.length = ds.length
  | _, _, .nil => rfl
  | _, _, .cons _ r => by rw [List.length_cons, List.length_cons, r.length]
theorem VRs.append {h : Heap} {H : AH} : ∀ {vs : List Value} {ds : List D} {ws : List Value} {es : List D}, VRs h H vs ds → VRs h H ws es → VRs h H (vs ++ ws) (ds ++ es)
  | _, _, _, _, .nil, k => k
  | _, _, _, _, .cons a r, k => .cons a (r.append k)
theorem VRs.get {h : Heap} {H : AH} : ∀ {vs : List Value} {ds : List D} {k : Nat} {d : D}, VRs h H vs ds → ds[k]? = some d → ∃ v, vs[k]? = some v ∧ VR h H v d
  | _, _, k, _, .nil, e => by simp at e
  | _, _, 0, _, .cons a _, e => by simp at e; subst e; exact ⟨_, rfl, a⟩
  | _, _, k + 1, _, .cons _ r, e => by simp at e; simpa using r.get e
theorem VRs.one {h : Heap} {H : AH} {v : Value} {d : D} (x : VR h H v d) : VRs h H [v] [d] := .cons x .nil
theorem VRs.set {h : Heap} {H : AH} {v : Value} {d : D} (x : VR h H v d) : ∀ {vs : List Value} {ds : List D} (k : Nat), VRs h H vs ds → VRs h H (vs.set k v) (ds.set k d)
  | _, _, _, .nil => .nil
  | _, _, 0, .cons _ r => .cons x r
  | _, _, k + 1, .cons a r => .cons a (VRs.set x k r)
theorem VRs.take {h : Heap} {H : AH} : ∀ {vs : List Value} {ds : List D} (k : Nat), VRs h H vs ds → VRs h H (vs.take k) (ds.take k)
  | _, _, 0, _ => by simpa using .nil
  | _, _, _ + 1, .nil => .nil
  | _, _, k + 1, .cons a r => .cons a (r.take k)
theorem VRs.drop {h : Heap} {H : AH} : ∀ {vs : List Value} {ds : List D} (k : Nat), VRs h H vs ds → VRs h H (vs.drop k) (ds.drop k)
  | _, _, 0, r => r
  | _, _, _ + 1, .nil => .nil
  | _, _, k + 1, .cons _ r => r.drop k
theorem VRs.reverse {h : Heap} {H : AH} : ∀ {vs : List Value} {ds : List D}, VRs h H vs ds → VRs h H vs.reverse ds.reverse
  | _, _, .nil => .nil
  | _, _, .cons a r => by rw [List.reverse_cons, List.reverse_cons]; exact r.reverse.append (.one a)
theorem VRs.unsnoc {h : Heap} {H : AH} {vs : List Value} {ds : List D} {d : D} (r : VRs h H vs (ds ++ [d])) : ∃ ws v, vs = ws ++ [v] ∧ VRs h H ws ds ∧ VR h H v d := by
  have q := r.reverse
  rw [List.reverse_append] at q
  cases hq : vs.reverse with
  | nil => rw [hq] at q; cases q
  | cons v ws =>
    rw [hq] at q
    have e : vs = ws.reverse ++ [v] := by rw [← List.reverse_reverse vs, hq, List.reverse_cons]
    cases q with
    | cons a r => exact ⟨_, _, e, by simpa using r.reverse, a⟩

/-- the entries of a dict by strs, in their order -/
inductive EntsAre (P : Params) (h : Heap) (H : AH) : List DictEntry → Loc → Prop
  | nil : EntsAre P h H [] []
  | cons {x : Str} {t : Tok} {v : Value} {d : D} {es : List DictEntry} {m : Loc} : VR h H v d → EntsAre P h H es m → EntsAre P h H (⟨PyData.keyHash P x, .str x t, v⟩ :: es) ((x, d) :: m)
theorem EntsAre.stays {P : Params} {h h' : Heap} {H H' : AH} (k : Stays h h' H H') : ∀ {es : List DictEntry} {m : Loc}, EntsAre P h H es m → EntsAre P h' H' es m
  | _, _, .nil => .nil
  | _, _, .cons a r => .cons (a.stays k) (r.stays k)

end Mine

open PySem PySem.W PyProof.Rows
set_option Elab.async false
namespace Mine

/-- how many addresses have been handed out -/
abbrev width (s : Shared) : Nat := s.heap.objs.size
theorem width_set (s : Shared) (g : Nat) (x : GenState) : width (s.setGen g x) = width s := rfl

theorem grows {M : Model} {Γ : Ctx} {p : Pos} {t : Sem Fin} {fs : List Frame} {s s' : Shared} {e : End} (h : Runs M Γ p t fs s e s') : width s ≤ width s' := by
  induction h <;> (try simp only [width, Shared.setGen, Heap.size_push, Heap.size_after_update] at *) <;> omega

theorem wakes_grow {M : Model} {Γ : Ctx} {p : Pos} {g : Nat} {r : Resume} {s s' : Shared} {q : GenResult} (h : Wakes M Γ p g r s q s') : width s ≤ width s' := by
  unfold Wakes at h
  split at h
  · cases h
  · split at h
    · obtain ⟨_, s₁, x, _, _, rfl⟩ := h
      have := grows x
      rwa [width_set] at this
    · obtain ⟨_, rfl⟩ := h; exact Nat.le_refl _
    · obtain ⟨_, rfl⟩ := h; exact Nat.le_refl _
  · obtain ⟨_, s₁, x, _, _, rfl⟩ := h
    have := grows x
    rwa [width_set] at this
  · obtain ⟨_, rfl⟩ := h; exact Nat.le_refl _
  · obtain ⟨_, rfl⟩ := h; exact Nat.le_refl _

theorem wp_grow {α : Type} (M : Model) (Γ : Ctx) (n : Nat) (t : Sem α) : ∀ (Q : α → Pos → Shared → Prop) (E : Value → Pos → Shared → Prop) (p : Pos) (s : Shared), n ≤ width s → Sem.wp M Γ t (fun a p' s' => n ≤ width s' → Q a p' s') (fun e p' s' => n ≤ width s' → E e p' s') p s → Sem.wp M Γ t Q E p s := by
  induction t with
  | pure a => exact fun Q E p s l h => h l
  | raise e => exact fun Q E p s l h => h l
  | load a q k ih => exact fun Q E p s l ⟨o, x, h⟩ => ⟨o, x, ih o Q E p s l h⟩
  | update a q f k ih => exact fun Q E p s l ⟨x, h⟩ => ⟨x, ih () Q E p _ (by simpa [width, Heap.size_after_update] using l) h⟩
  | alloc o k ih => exact fun Q E p s l h => ih _ Q E p _ (by simp only [width, Heap.size_push]; exact Nat.le_succ_of_le l) h
  | choose src m k ih => exact fun Q E p s l ⟨x, h⟩ => ⟨x, ih _ Q E p _ l h⟩
  | genState g k ih => exact fun Q E p s l ⟨x, y, h⟩ => ⟨x, y, ih _ Q E p s l h⟩
  | call c hd gd lv k ih => exact fun Q E p s l ⟨r, s', x, h⟩ => ⟨r, s', x, ih r Q E p s' (Nat.le_trans l (grows x)) h⟩
  | resume g r lv k ih => exact fun Q E p s l ⟨r', s', x, h⟩ => ⟨r', s', x, ih r' Q E p s' (Nat.le_trans l (wakes_grow x)) h⟩
  | «at» q k ih => exact fun Q E p s l h => ih () Q E q s l h
  | rule _ k ih | point _ k ih => exact fun Q E p s l h => ih () Q E p s l h
  | loadIfAlive _ k ih | ask k ih | handled _ k ih | stack k ih | thread k ih => exact fun Q E p s l h => ih _ Q E p s l h
  | fresh k ih | os _ _ k ih | newGen _ k ih => exact fun Q E p s l h => ih _ Q E p _ l h
  | unsupported _ | finish _ | register _ _ | yield _ _ _ _ | fork _ _ | await _ _ _ _ _ => exact fun Q E p s l h => h

/-- whatever runs, no address is taken back -/
theorem wide {α : Type} {M : Model} {A : Around} {s : Shared} {t : Sem α} {Q : α → Shared → Prop} {E : Value → Shared → Prop}
    (h : wpAny M A t (fun a s' => width s ≤ width s' → Q a s') (fun e s' => width s ≤ width s' → E e s') s) : wpAny M A t Q E s :=
  fun Γ p x => wp_grow M Γ (width s) t _ _ p s (Nat.le_refl _) (h Γ p x)
theorem wideC {M : Model} {A : Around} {s : Shared} {c : Code} {R : Result → Shared → Prop} (h : codeAny M A c (fun r s' => width s ≤ width s' → R r s') s) : codeAny M A c R s := fun Γ p x y => by
  obtain ⟨r, s', q, z⟩ := h Γ p x y
  exact ⟨r, s', q, z (grows q)⟩
end Mine

open PySem PySem.W PyProof.Rows
set_option Elab.async false
namespace Mine

structure Cx where
  prog : Program
  w : World
  base : Heap
  os : OsState
  K : Frag
  mg : Str → Option Value
  mb : Str → Option Value
  cls : Addr
  X : K.In base
  hg : base.Ns mainGlobals mg
  hb : base.Ns builtinsNs mb
  hl : base.NoLimit

/-- what stands at an address that is told of -/
noncomputable def Rep (C : Cx) (h : Heap) (H : AH) (a : Addr) : AO → Prop
  | .list ds => ∃ vs : List Value, h.PlainList a vs.toArray ∧ VRs h H vs ds
  | .ns m => ∃ es n, h.get? a = some (dictOf es n) ∧ EntsAre C.w.params h H es m
  | .inst d => h.get? a = some (instObj C.cls d)
  | .smap m => ∃ kvs : List (Str × Value), h.DictOf (PySem.strKind C.prog C.w) a kvs ∧ kvs.map (·.1) = m.map (·.1) ∧ VRs h H (kvs.map (·.2)) (m.map (·.2))
  | .idict n => ∃ f, h.IntMap a f ∧ h.DictLe a n

structure RelH (C : Cx) (H : AH) (s : Shared) : Prop where
  base : ∀ b o, C.base.get? b = some o → s.heap.get? b = some o
  size : C.base.objs.size ≤ s.heap.objs.size
  fresh : ∀ a, H a ≠ none → C.base.objs.size ≤ a
  objs : ∀ a o, H a = some o → Rep C s.heap H a o
  gens : s.gens = #[]
  os : s.os = C.os

noncomputable def Own (env : Env) (a : Addr) : Prop := a = env.locals ∨ ∃ x, env.cells.lookup x = some a

structure EnvOk (env : Env) : Prop where
  kind : env.scope.kind = .function
  globals : env.globals = mainGlobals
  builtins : env.builtins = builtinsNs
  apart : env.cells.Pairwise fun x y => x.2 ≠ y.2
  cells : ∀ x, env.kindOf x = some .cell ∨ env.kindOf x = some .free → ∃ c, env.cells.lookup x = some c

structure Rel (C : Cx) (env : Env) (m : Loc) (H : AH) (s : Shared) : Prop extends RelH C H s where
  ok : EnvOk env
  loc : ∃ mm, s.heap.Ns env.locals mm ∧ ∀ x d, m.lookup x = some d → env.kindOf x = some .local → ∃ v, mm x = some v ∧ VR s.heap H v d
  cell : ∀ x c, env.cells.lookup x = some c → ∃ ov, s.heap.IsCell c ov
  cellv : ∀ x d c, m.lookup x = some d → env.kindOf x ≠ some .local → env.cells.lookup x = some c → ∃ v, s.heap.IsCell c (some v) ∧ VR s.heap H v d
  kinds : ∀ x d, m.lookup x = some d → env.kindOf x = some .local ∨ ((env.kindOf x = some .cell ∨ env.kindOf x = some .free) ∧ ∃ c, env.cells.lookup x = some c)
  out : ∀ a, Own env a → H a = none ∧ C.base.objs.size ≤ a

noncomputable def Room (n : Nat) (A : Around) : Prop := A.handled = none ∧ A.depth + n < recursionLimit ∧ A.units + 20 * n < cLine

noncomputable def NoE : Value → Shared → Prop := fun _ _ => False

noncomputable def PV (C : Cx) (env : Env) (m : Loc) (H : AH) (s : Shared) (Φ : D → AH → Prop) (v : Value) (s' : Shared) : Prop :=
  ∃ d H', Step (Own env) H H' s s' ∧ VR s'.heap H' v d ∧ Rel C env m H' s' ∧ Φ d H'

noncomputable def EV (C : Cx) (n : Nat) (env : Env) (e : Expr) (m : Loc) (H : AH) (Φ : D → AH → Prop) : Prop :=
  ∀ A s, Room n A → Rel C env m H s → wpAny (model C.prog C.w) A (eval e env) (PV C env m H s Φ) NoE s

/-- a test -/
noncomputable def TS (C : Cx) (n : Nat) (env : Env) (e : Expr) (m : Loc) (H : AH) (Φ : Bool → AH → Prop) : Prop :=
  ∀ A s, Room n A → Rel C env m H s → wpAny (model C.prog C.w) A (isTrue e env (eval e env))
    (fun b s' => ∃ H', Step (Own env) H H' s s' ∧ Rel C env m H' s' ∧ Φ b H') NoE s

/-- the arguments of a call, the items of a display -/
noncomputable def ES (C : Cx) (n : Nat) (env : Env) (pos : Pos) (es : List Expr) (m : Loc) (H : AH) (Φ : List D → AH → Prop) : Prop :=
  ∀ A s, Room n A → Rel C env m H s → wpAny (model C.prog C.w) A (spliced (backTo pos (starEach es env)))
    (fun vs s' => ∃ ds H', Step (Own env) H H' s s' ∧ VRs s'.heap H' vs ds ∧ Rel C env m H' s' ∧ Φ ds H') NoE s

/-- an operation upon one, two values -/
noncomputable def O1 (C : Cx) (n : Nat) (env : Env) (f : Value → Sem Value) (a : D) (m : Loc) (H : AH) (Φ : D → AH → Prop) : Prop :=
  ∀ A s v, Room n A → Rel C env m H s → VR s.heap H v a → wpAny (model C.prog C.w) A (f v) (PV C env m H s Φ) NoE s
noncomputable def O2 (C : Cx) (n : Nat) (env : Env) (f : Value → Value → Sem Value) (a b : D) (m : Loc) (H : AH) (Φ : D → AH → Prop) : Prop :=
  ∀ A s v u, Room n A → Rel C env m H s → VR s.heap H v a → VR s.heap H u b → wpAny (model C.prog C.w) A (f v u) (PV C env m H s Φ) NoE s

inductive FL where
  | next | brk | cont
  | ret (d : D)
inductive FR (h : Heap) (H : AH) : Flow → FL → Prop
  | next : FR h H .next .next
  | brk : FR h H .brk .brk
  | cont : FR h H .cont .cont
  | ret {v : Value} {d : D} : VR h H v d → FR h H (.ret v) (.ret d)

noncomputable def PF (C : Cx) (env : Env) (H : AH) (s : Shared) (Φ : FL → Loc → AH → Prop) (f : Flow) (s' : Shared) : Prop :=
  ∃ fl m' H', Step (Own env) H H' s s' ∧ FR s'.heap H' f fl ∧ Rel C env m' H' s' ∧ Φ fl m' H'
noncomputable def XS (C : Cx) (n : Nat) (env : Env) (st : List Stmt) (m : Loc) (H : AH) (Φ : FL → Loc → AH → Prop) : Prop :=
  ∀ A s, Room n A → Rel C env m H s → wpAny (model C.prog C.w) A (execs st env) (PF C env H s Φ) NoE s
noncomputable def X1 (C : Cx) (n : Nat) (env : Env) (st : Stmt) (m : Loc) (H : AH) (Φ : FL → Loc → AH → Prop) : Prop :=
  ∀ A s, Room n A → Rel C env m H s → wpAny (model C.prog C.w) A (exec st env) (PF C env H s Φ) NoE s

/-- a call of a value -/
noncomputable def CL (C : Cx) (n : Nat) (f : Value) (as : List D) (H : AH) (Φ : D → AH → Prop) : Prop :=
  ∀ A s vs, Room n A → RelH C H s → VRs s.heap H vs as → codeAny (model C.prog C.w) A (.call f ⟨vs, []⟩)
    (fun r s' => ∃ v d H', r = .ok (.ret v) ∧ Step (fun _ => False) H H' s s' ∧ VR s'.heap H' v d ∧ RelH C H' s' ∧ Φ d H') s

section
variable {C : Cx} {n : Nat} {env : Env} {m : Loc} {H H' : AH} {s s' : Shared}

theorem ns_noseq {h : Heap} {a : Addr} {mm} (x : h.Ns a mm) {o : Obj} (e : h.get? a = some o) {vs : Array Value} {k : Nat} : o.data ≠ .seq vs k := by
  obtain ⟨o', es, ep, e', d, _⟩ := x
  rw [e] at e'; cases e'; rw [d]; exact fun q => nomatch q
theorem cell_noseq {h : Heap} {a : Addr} {ov} (x : h.IsCell a ov) {o : Obj} (e : h.get? a = some o) {vs : Array Value} {k : Nat} : o.data ≠ .seq vs k := by
  obtain ⟨o', e', d⟩ := x
  rw [e] at e'; cases e'; rw [d]; exact fun q => nomatch q
theorem Rel.own_noseq (R : Rel C env m H s) {a : Addr} (h : Own env a) {o : Obj} (e : s.heap.get? a = some o) : ¬ ∃ vs k, o.data = .seq vs k := by
  rintro ⟨vs, k, d⟩
  rcases h with rfl | ⟨x, hx⟩
  · obtain ⟨mm, hn, _⟩ := R.loc; exact ns_noseq hn e d
  · obtain ⟨ov, hc⟩ := R.cell x a hx; exact cell_noseq hc e d
theorem Step.stays (x : Step (Own env) H H' s s') (R : Rel C env m H s) : Stays s.heap s'.heap H H' :=
  ⟨fun a o e q n => x.keep a o e n fun w => R.own_noseq w e q, fun a o e _ n => Classical.byContradiction fun q => (x.dom a q).elim (fun z => z n) fun z => Nat.lt_irrefl _ (Nat.lt_of_lt_of_le (Heap.lt_size e) z)⟩
theorem Step.stays0 (x : Step (fun _ => False) H H' s s') : Stays s.heap s'.heap H H' :=
  ⟨fun a o e _ n => x.keep a o e n fun w => w, fun a o e _ n => Classical.byContradiction fun q => (x.dom a q).elim (fun z => z n) fun z => Nat.lt_irrefl _ (Nat.lt_of_lt_of_le (Heap.lt_size e) z)⟩
theorem VR.step {v : Value} {d : D} (q : VR s.heap H v d) (x : Step (Own env) H H' s s') (R : Rel C env m H s) : VR s'.heap H' v d := q.stays (x.stays R)
theorem VRs.step {v : List Value} {d : List D} (q : VRs s.heap H v d) (x : Step (Own env) H H' s s') (R : Rel C env m H s) : VRs s'.heap H' v d := q.stays (x.stays R)

theorem Room.in1 {A : Around} {n : Nat} (h : Room (n + 1) A) : Room n A.in1 := ⟨h.1, by have := h.2.1; show A.depth + n < _; omega, by have := h.2.2; show A.units + 1 + 20 * n < _; omega⟩
theorem Room.deeper {A : Around} {n : Nat} {env : Env} (h : Room (n + 1) A) : Room n (A.deeper env) := ⟨h.1, by have := h.2.1; show A.depth + 1 + n < _; omega, by have := h.2.2; show A.units + 3 + 20 * n < _; omega⟩
theorem Room.le {A : Around} {n k : Nat} (h : Room n A) (hk : k ≤ n) : Room k A := ⟨h.1, by have := h.2.1; omega, by have := h.2.2; omega⟩
theorem Room.depth {A : Around} {n : Nat} (h : Room n A) : A.depth < recursionLimit := by have := h.2.1; omega
theorem Room.units {A : Around} {n : Nat} (h : Room n A) : A.units < cLine := by have := h.2.2; omega

theorem Rep.stays {h h' : Heap} {a : Addr} {o : AO} (st : Stays h h' H H') (k : ∀ b, h.get? a = some b → h'.get? a = some b) (q : Rep C h H a o) : Rep C h' H' a o := by
  cases o with
  | list ds => obtain ⟨vs, ⟨j, h1⟩, h2⟩ := q; exact ⟨vs, ⟨j, k _ h1⟩, h2.stays st⟩
  | ns m => obtain ⟨es, n, h1, h2⟩ := q; exact ⟨es, n, k _ h1, h2.stays st⟩
  | inst d => exact k _ q
  | smap m =>
    obtain ⟨kvs, ⟨o, es, ep, e1, r⟩, h2, h3⟩ := q
    exact ⟨kvs, ⟨o, es, ep, k _ e1, r⟩, h2, h3.stays st⟩
  | idict n =>
    obtain ⟨f, h1, h2⟩ := q
    obtain ⟨o, es, ep, e1, r⟩ := id h1
    exact ⟨f, ⟨o, es, ep, k _ e1, r⟩, h2.of_same e1 (k _ e1)⟩
theorem Rep.lt {h : Heap} {a : Addr} {o : AO} (q : Rep C h H a o) : ∃ b, h.get? a = some b := by
  cases o with
  | list ds => obtain ⟨vs, ⟨j, e⟩, h2⟩ := q; exact ⟨_, e⟩
  | ns m => obtain ⟨es, n, h1, h2⟩ := q; exact ⟨_, h1⟩
  | inst d => exact ⟨_, q⟩
  | smap m => obtain ⟨f, ⟨o, es, ep, e1, r⟩, _⟩ := q; exact ⟨_, e1⟩
  | idict n => obtain ⟨f, ⟨o, es, ep, e1, r⟩, _⟩ := q; exact ⟨_, e1⟩

theorem lt_of_get {h : Heap} {a : Addr} {o : Obj} (e : h.get? a = some o) : a < h.objs.size := Heap.lt_size e
theorem RelH.lt (R : RelH C H s) {a : Addr} (h : H a ≠ none) : a < s.heap.objs.size := by
  cases q : H a with
  | none => exact absurd q h
  | some o => obtain ⟨b, e⟩ := (R.objs a o q).lt; exact Heap.lt_size e
theorem RelH.new (R : RelH C H s) {a : Addr} (h : s.heap.objs.size ≤ a) : H a = none :=
  Classical.byContradiction fun q => Nat.lt_irrefl _ (Nat.lt_of_lt_of_le (R.lt q) h)
theorem RelH.baseOff (R : RelH C H s) {a : Addr} {o : Obj} (h : C.base.get? a = some o) : H a = none :=
  Classical.byContradiction fun q => Nat.lt_irrefl _ (Nat.lt_of_lt_of_le (Heap.lt_size h) (R.fresh a q))
/-- nothing but fresh things came to be: the state stands as it stood -/
theorem RelH.grown (R : RelH C H s) (k : ∀ b o, s.heap.get? b = some o → s'.heap.get? b = some o) (hs : s.heap.objs.size ≤ s'.heap.objs.size) (hg : s'.gens = s.gens) (ho : s'.os = s.os) : RelH C H s' where
  base b o e := k b o (R.base b o e)
  size := Nat.le_trans R.size hs
  fresh := R.fresh
  objs a o e := Rep.stays ⟨fun a o e _ _ => k a o e, fun _ _ _ _ q => q⟩ (fun b e => k a b e) (R.objs a o e)
  gens := hg.trans R.gens
  os := ho.trans R.os
theorem Step.grown (k : ∀ b o, s.heap.get? b = some o → s'.heap.get? b = some o) (hs : s.heap.objs.size ≤ s'.heap.objs.size) (hg : s'.gens = s.gens) (ho : s'.os = s.os) {own : Addr → Prop} : Step own H H s s' :=
  ⟨fun a o e _ _ => k a o e, hs, fun _ h => .inl h, hg, ho⟩
theorem Rel.grown (R : Rel C env m H s) (k : ∀ b o, s.heap.get? b = some o → s'.heap.get? b = some o) (hs : s.heap.objs.size ≤ s'.heap.objs.size) (hg : s'.gens = s.gens) (ho : s'.os = s.os) : Rel C env m H s' where
  toRelH := R.toRelH.grown k hs hg ho
  ok := R.ok
  loc := by
    obtain ⟨mm, h1, h2⟩ := R.loc
    refine ⟨mm, h1.keeps k, fun x d e q => ?_⟩
    obtain ⟨v, a, b⟩ := h2 x d e q
    exact ⟨v, a, b.stays ⟨fun a o e _ _ => k a o e, fun _ _ _ _ q => q⟩⟩
  cell x c h := by obtain ⟨ov, q⟩ := R.cell x c h; exact ⟨ov, q.keeps k⟩
  cellv x d c e q l := by
    obtain ⟨v, a, b⟩ := R.cellv x d c e q l
    exact ⟨v, a.keeps k, b.stays ⟨fun a o e _ _ => k a o e, fun _ _ _ _ q => q⟩⟩
  kinds := R.kinds
  out := R.out
end
end Mine

open PySem PySem.W PyProof.Rows
set_option Elab.async false
namespace Mine

section
variable {C : Cx} {n : Nat} {env : Env} {m : Loc} {H H' : AH} {s s' : Shared} {Φ : D → AH → Prop}

theorem PV.here {v : Value} {d : D} (R : Rel C env m H s) (q : VR s.heap H v d) (φ : Φ d H) : PV C env m H s Φ v s := ⟨d, H, .refl, q, R, φ⟩
theorem PV.grown {v : Value} {d : D} (R : Rel C env m H s) (k : ∀ b o, s.heap.get? b = some o → s'.heap.get? b = some o) (hs : s.heap.objs.size ≤ s'.heap.objs.size) (hg : s'.gens = s.gens) (ho : s'.os = s.os)
    (q : VR s'.heap H v d) (φ : Φ d H) : PV C env m H s Φ v s' := ⟨d, H, .grown k hs hg ho, q, R.grown k hs hg ho, φ⟩
theorem PV.toks {v : Value} {d : D} {k : Nat} (R : Rel C env m H s) (q : VR s.heap H v d) (φ : Φ d H) : PV C env m H s Φ v { s with toks := k } :=
  PV.grown R (fun _ _ e => e) (Nat.le_refl _) rfl rfl q φ
theorem Rel.toks {k : Nat} (R : Rel C env m H s) : Rel C env m H { s with toks := k } := R.grown (fun _ _ e => e) (Nat.le_refl _) rfl rfl
theorem PV.trans {H₁ : AH} {s₁ : Shared} {v : Value} (x : Step (Own env) H H₁ s s₁) (p : PV C env m H₁ s₁ Φ v s') : PV C env m H s Φ v s' := by
  obtain ⟨d, H', a, b, c, e⟩ := p; exact ⟨d, H', x.trans a, b, c, e⟩

theorem EV.int {i : Int} {k : Nat} {pos : Pos} (φ : Φ (.int i) H) : EV C n env (.Constant (.int i) k pos) m H Φ := fun _ _ _ R => wpAny_Constant_int (PV.toks R (.int _ _) φ)
theorem EV.str {x : Str} {k : Nat} {pos : Pos} (φ : Φ (.str x) H) : EV C n env (.Constant (.str x) k pos) m H Φ := fun _ _ _ R => wpAny_Constant_str (PV.toks R (.str _ _) φ)
theorem EV.bool {b : Bool} {k : Nat} {pos : Pos} (φ : Φ (.bool b) H) : EV C n env (.Constant (.bool b) k pos) m H Φ := fun _ _ _ R => Constant_bool (PV.here R (.bool _) φ)
theorem EV.none {k : Nat} {pos : Pos} (φ : Φ .none H) : EV C n env (.Constant .none k pos) m H Φ := fun _ _ _ R => Constant_none (PV.here R .none φ)

theorem EV.name {x : Str} {pos : Pos} {d : D} (h : m.lookup x = some d) (φ : Φ d H) (hd : (x == ("__debug__" : Str)) = false := by decide +kernel) (hc : (x == ("__classdict__" : Str)) = false := by decide +kernel) :
    EV C n env (.Name x pos) m H Φ := fun A s _ R => by
  refine wpAny_Name ?_ hd
  rcases R.kinds x d h with hk | ⟨hk, c, hl⟩
  · obtain ⟨mm, hn, hv⟩ := R.loc
    obtain ⟨v, h1, h2⟩ := hv x d h hk
    exact wpAny_loadName_local R.ok.kind hk hn h1 (PV.here R h2 φ)
  · obtain ⟨v, h1, h2⟩ := R.cellv x d c h (by rcases hk with hk | hk <;> rw [hk] <;> simp) hl
    rcases hk with hk | hk
    · exact wpAny_loadName_cell R.ok.kind hk hl h1 (PV.here R h2 φ)
    · exact wpAny_loadName_free R.ok.kind hk hl h1 (PV.here R h2 φ) hc

noncomputable def Cx.glob (C : Cx) (x : Str) : Option Value := match C.mg x with
  | some v => some v
  | none => C.mb x
theorem EV.glob {x : Str} {pos : Pos} {v : Value} {ns : List (Str × NameKind)} (hE : env.scope.names = ns) (hk : ns.lookup x = some .globalImplicit) (h : C.glob x = some v) (φ : Φ (.val v) H) (hd : (x == ("__debug__" : Str)) = false := by decide +kernel) :
    EV C n env (.Name x pos) m H Φ := fun A s _ R => by
  refine wpAny_Name ?_ hd
  have hk' : env.kindOf x = some .globalImplicit := by unfold Env.kindOf; rw [hE]; exact hk
  rw [loadName_read R.ok.kind hk']
  have hg : s.heap.Ns env.globals C.mg := by rw [R.ok.globals]; exact C.hg.keeps R.base
  have hb : s.heap.Ns env.builtins C.mb := by rw [R.ok.builtins]; exact C.hb.keeps R.base
  unfold Cx.glob at h
  cases q : C.mg x with
  | none => rw [q] at h; exact Calls.loadGlobal_builtin hg q hb h (PV.here R (.val _) φ)
  | some u => rw [q] at h; cases h; exact Calls.loadGlobal_global hg q (PV.here R (.val _) φ)

theorem EV.mono {e : Expr} {Φ' : D → AH → Prop} (h : EV C n env e m H Φ) (k : ∀ d H', Φ d H' → Φ' d H') : EV C n env e m H Φ' := fun A s r R =>
  wpAny_mono (h A s r R) (fun v s' p => by obtain ⟨d, H', a, b, c, e⟩ := p; exact ⟨d, H', a, b, c, k _ _ e⟩) fun _ _ x => x

theorem EV.binop {l r : Expr} {op : Operator} {pos : Pos} (h : EV C n env l m H fun a H₁ => EV C n env r m H₁ fun b H₂ => O2 C n env (binaryOp op) a b m H₂ Φ) : EV C n env (.BinOp l op r pos) m H Φ := fun A s rm R => by
  refine wpAny_BinOp (wpAny_mono (h A s rm R) (fun v s₁ p => ?_) fun _ _ x => x)
  obtain ⟨a, H₁, t₁, q₁, R₁, h₁⟩ := p
  refine wpAny_mono (h₁ A s₁ rm R₁) (fun u s₂ p => ?_) fun _ _ x => x
  obtain ⟨b, H₂, t₂, q₂, R₂, h₂⟩ := p
  exact wpAny_mono (h₂ A s₂ v u rm R₂ (q₁.step t₂ R₁) q₂) (fun _ _ p => (p.trans t₂).trans t₁) fun _ _ x => x

theorem EV.compare {l r : Expr} {op : CmpOp} {pos : Pos} (h : EV C n env l m H fun a H₁ => EV C n env r m H₁ fun b H₂ => O2 C n env (compareOp op) a b m H₂ Φ) (hm : behindInMarks op r = false := by with_unfolding_all rfl) :
    EV C n env (.Compare l [op] [r] pos) m H Φ := fun A s rm R => by
  refine wpAny_Compare1 (wpAny_mono (h A s rm R) (fun v s₁ p => ?_) fun _ _ x => x) hm
  obtain ⟨a, H₁, t₁, q₁, R₁, h₁⟩ := p
  refine wpAny_mono (h₁ A s₁ rm R₁) (fun u s₂ p => ?_) fun _ _ x => x
  obtain ⟨b, H₂, t₂, q₂, R₂, h₂⟩ := p
  exact wpAny_mono (h₂ A s₂ v u rm R₂ (q₁.step t₂ R₁) q₂) (fun _ _ p => (p.trans t₂).trans t₁) fun _ _ x => x

theorem EV.unary {e : Expr} {op : UnaryOp} {pos : Pos} (h : EV C n env e m H fun a H₁ => O1 C n env (unaryOp op) a m H₁ Φ) : EV C n env (.UnaryOp op e pos) m H Φ := fun A s rm R => by
  refine UnaryOp_ (wpAny_mono (h A s rm R) (fun v s₁ p => ?_) fun _ _ x => x)
  obtain ⟨a, H₁, t₁, q₁, R₁, h₁⟩ := p
  exact wpAny_mono (h₁ A s₁ v rm R₁ q₁) (fun _ _ p => p.trans t₁) fun _ _ x => x

/-- the test of a value -/
noncomputable def TV (C : Cx) (n : Nat) (env : Env) (a : D) (m : Loc) (H : AH) (Φ : Bool → AH → Prop) : Prop :=
  ∀ A s v, Room n A → Rel C env m H s → VR s.heap H v a → wpAny (model C.prog C.w) A (truthy v)
    (fun b s' => ∃ H', Step (Own env) H H' s s' ∧ Rel C env m H' s' ∧ Φ b H') NoE s
theorem TV.bool {b : Bool} {Φ : Bool → AH → Prop} (φ : Φ b H) : TV C n env (.bool b) m H Φ := fun A s v _ R q => by
  cases q; exact wpAny_truthy_bool ⟨H, .refl, R, φ⟩
theorem TV.none {Φ : Bool → AH → Prop} (φ : Φ false H) : TV C n env .none m H Φ := fun A s v _ R q => by
  cases q; exact truthy_none ⟨H, .refl, R, φ⟩

theorem TS.plain {e : Expr} {Φ : Bool → AH → Prop} (h : EV C n env e m H fun a H₁ => TV C n env a m H₁ Φ) (he : ∀ w, isTrue e env w = (do let v ← w; standAt e.pos; holding [v] (truthy v)) := by intro _; rfl) : TS C n env e m H Φ := fun A s rm R => by
  refine isTrue_plain (wpAny_mono (h A s rm R) (fun v s₁ p => ?_) fun _ _ x => x) (he _)
  obtain ⟨a, H₁, t₁, q₁, R₁, h₁⟩ := p
  exact wpAny_mono (h₁ A s₁ v rm R₁ q₁) (fun b s₂ p => by obtain ⟨H₂, a, b, c⟩ := p; exact ⟨H₂, t₁.trans a, b, c⟩) fun _ _ x => x
theorem TS.compare {l r : Expr} {op : CmpOp} {pos : Pos} {Φ : Bool → AH → Prop} (h : EV C n env l m H fun a H₁ => EV C n env r m H₁ fun b H₂ => O2 C n env (compareOp op) a b m H₂ fun d H₃ => TV C n env d m H₃ Φ) (hm : behindInMarks op r = false := by with_unfolding_all rfl) :
    TS C n env (.Compare l [op] [r] pos) m H Φ := fun A s rm R => by
  refine wpAny_isTrue_Compare1 (wpAny_mono (h A s rm R) (fun v s₁ p => ?_) fun _ _ x => x) hm
  obtain ⟨a, H₁, t₁, q₁, R₁, h₁⟩ := p
  refine wpAny_mono (h₁ A s₁ rm R₁) (fun u s₂ p => ?_) fun _ _ x => x
  obtain ⟨b, H₂, t₂, q₂, R₂, h₂⟩ := p
  refine wpAny_mono (h₂ A s₂ v u rm R₂ (q₁.step t₂ R₁) q₂) (fun c s₃ p => ?_) fun _ _ x => x
  obtain ⟨d, H₃, t₃, q₃, R₃, h₃⟩ := p
  refine wpAny_mono (h₃ A s₃ c rm R₃ q₃) (fun b s₄ p => ?_) fun _ _ x => x
  obtain ⟨H₄, t₄, R₄, h₄⟩ := p
  exact ⟨H₄, ((t₁.trans t₂).trans t₃).trans t₄, R₄, h₄⟩
theorem TS.not {e : Expr} {pos : Pos} {Φ : Bool → AH → Prop} (h : TS C n env e m H fun b H₁ => Φ (!b) H₁) : TS C n env (.UnaryOp .Not e pos) m H Φ := fun A s rm R => isTrue_not (h A s rm R)
theorem TS.andNil {pos : Pos} {Φ : Bool → AH → Prop} (φ : Φ true H) : TS C n env (.BoolOp .And [] pos) m H Φ := fun _ _ _ R => isTrue_and_nil ⟨H, .refl, R, φ⟩
theorem TS.orNil {pos : Pos} {Φ : Bool → AH → Prop} (φ : Φ false H) : TS C n env (.BoolOp .Or [] pos) m H Φ := fun _ _ _ R => isTrue_or_nil ⟨H, .refl, R, φ⟩
theorem TS.and {e : Expr} {rest : List Expr} {pos : Pos} {Φ : Bool → AH → Prop} (h : TS C n env e m H fun b H₁ => if b = true then TS C n env (.BoolOp .And rest pos) m H₁ Φ else Φ false H₁) : TS C n env (.BoolOp .And (e :: rest) pos) m H Φ := fun A s rm R => by
  refine isTrue_and (wpAny_mono (h A s rm R) (fun b s₁ p => ?_) fun _ _ x => x)
  obtain ⟨H₁, t₁, R₁, h₁⟩ := p
  cases b with
  | false => exact ⟨H₁, t₁, R₁, h₁⟩
  | true => exact wpAny_mono (h₁ A s₁ rm R₁) (fun b s₂ p => by obtain ⟨H₂, a, b, c⟩ := p; exact ⟨H₂, t₁.trans a, b, c⟩) fun _ _ x => x
theorem TS.or {e : Expr} {rest : List Expr} {pos : Pos} {Φ : Bool → AH → Prop} (h : TS C n env e m H fun b H₁ => if b = true then Φ true H₁ else TS C n env (.BoolOp .Or rest pos) m H₁ Φ) : TS C n env (.BoolOp .Or (e :: rest) pos) m H Φ := fun A s rm R => by
  refine isTrue_or (wpAny_mono (h A s rm R) (fun b s₁ p => ?_) fun _ _ x => x)
  obtain ⟨H₁, t₁, R₁, h₁⟩ := p
  cases b with
  | true => exact ⟨H₁, t₁, R₁, h₁⟩
  | false => exact wpAny_mono (h₁ A s₁ rm R₁) (fun b s₂ p => by obtain ⟨H₂, a, b, c⟩ := p; exact ⟨H₂, t₁.trans a, b, c⟩) fun _ _ x => x

theorem EV.ifExp {test body orelse : Expr} {pos : Pos} (h : TS C n env test m H fun b H₁ => if b = true then EV C n env body m H₁ Φ else EV C n env orelse m H₁ Φ) : EV C n env (.IfExp test body orelse pos) m H Φ := fun A s rm R => by
  refine IfExp_ (wpAny_mono (h A s rm R) (fun b s₁ p => ?_) fun _ _ x => x)
  obtain ⟨H₁, t₁, R₁, h₁⟩ := p
  cases b with
  | true => exact wpAny_mono (h₁ A s₁ rm R₁) (fun _ _ p => p.trans t₁) fun _ _ x => x
  | false => exact wpAny_mono (h₁ A s₁ rm R₁) (fun _ _ p => p.trans t₁) fun _ _ x => x
theorem EV.boolOne {op : BoolOp} {e : Expr} {pos : Pos} (h : EV C n env e m H Φ) : EV C n env (.BoolOp op [e] pos) m H Φ := fun A s rm R => BoolOp_one (h A s rm R)
theorem EV.and {e₁ e₂ : Expr} {rest : List Expr} {pos : Pos} (h : EV C n env e₁ m H fun a H₁ => TV C n env a m H₁ fun b H₂ => if b = true then EV C n env (.BoolOp .And (e₂ :: rest) pos) m H₂ Φ else Φ a H₂) :
    EV C n env (.BoolOp .And (e₁ :: e₂ :: rest) pos) m H Φ := fun A s rm R => by
  refine BoolOp_and (wpAny_mono (h A s rm R) (fun v s₁ p => ?_) fun _ _ x => x)
  obtain ⟨a, H₁, t₁, q₁, R₁, h₁⟩ := p
  refine wpAny_mono (h₁ A s₁ v rm R₁ q₁) (fun b s₂ p => ?_) fun _ _ x => x
  obtain ⟨H₂, t₂, R₂, h₂⟩ := p
  cases b with
  | true => exact wpAny_mono (h₂ A s₂ rm R₂) (fun _ _ p => (p.trans t₂).trans t₁) fun _ _ x => x
  | false => exact ⟨a, H₂, t₁.trans t₂, q₁.step t₂ R₁, R₂, h₂⟩
theorem EV.or {e₁ e₂ : Expr} {rest : List Expr} {pos : Pos} (h : EV C n env e₁ m H fun a H₁ => TV C n env a m H₁ fun b H₂ => if b = true then Φ a H₂ else EV C n env (.BoolOp .Or (e₂ :: rest) pos) m H₂ Φ) :
    EV C n env (.BoolOp .Or (e₁ :: e₂ :: rest) pos) m H Φ := fun A s rm R => by
  refine BoolOp_or (wpAny_mono (h A s rm R) (fun v s₁ p => ?_) fun _ _ x => x)
  obtain ⟨a, H₁, t₁, q₁, R₁, h₁⟩ := p
  refine wpAny_mono (h₁ A s₁ v rm R₁ q₁) (fun b s₂ p => ?_) fun _ _ x => x
  obtain ⟨H₂, t₂, R₂, h₂⟩ := p
  cases b with
  | false => exact wpAny_mono (h₂ A s₂ rm R₂) (fun _ _ p => (p.trans t₂).trans t₁) fun _ _ x => x
  | true => exact ⟨a, H₂, t₁.trans t₂, q₁.step t₂ R₁, R₂, h₂⟩

theorem ES.nil {pos : Pos} {Φ : List D → AH → Prop} (φ : Φ [] H) : ES C n env pos [] m H Φ := fun _ _ _ R => spliced_none ⟨[], H, .refl, .nil, R, φ⟩
theorem ES.cons {pos : Pos} {e : Expr} {rest : List Expr} {Φ : List D → AH → Prop} (h : EV C n env e m H fun a H₁ => ES C n env pos rest m H₁ fun ds H₂ => Φ (a :: ds) H₂)
    (he : starEach (e :: rest) env = (false, eval e env) :: starEach rest env := by rfl) : ES C n env pos (e :: rest) m H Φ := fun A s rm R => by
  refine spliced_more (wpAny_mono (h A s rm R) (fun v s₁ p => ?_) fun _ _ x => x) he
  obtain ⟨a, H₁, t₁, q₁, R₁, h₁⟩ := p
  refine wpAny_mono (h₁ A s₁ rm R₁) (fun vs s₂ p => ?_) fun _ _ x => x
  obtain ⟨ds, H₂, t₂, q₂, R₂, h₂⟩ := p
  exact ⟨a :: ds, H₂, t₁.trans t₂, .cons (q₁.step t₂ R₁) q₂, R₂, h₂⟩

/-- a new object, frozen or told of -/
theorem push_keep (h : Heap) (o : Obj) : ∀ b x, h.get? b = some x → (h.push o).get? b = some x := fun _ _ e => Heap.get?_push_of_some _ e
theorem push_size (h : Heap) (o : Obj) : h.objs.size ≤ (h.push o).objs.size := by rw [Heap.size_push]; exact Nat.le_succ _
theorem stays_push (h : Heap) (o : Obj) (H : AH) : Stays h (h.push o) H H := ⟨fun a x e _ _ => push_keep h o a x e, fun _ _ _ _ q => q⟩
theorem EV.tuple {elts : List Expr} {k : Nat} {pos : Pos} (h : ES C n env pos elts m H fun ds H₁ => ds.length ≤ sizeLine ∧ Φ (.tup ds) H₁) : EV C n env (.Tuple elts k pos) m H Φ := fun A s rm R => by
  refine wpAny_Tuple_spliced (wpAny_mono (h A s rm R) (fun vs s₁ p => ?_) fun _ _ x => x)
  obtain ⟨ds, H₁, t₁, q₁, R₁, hl, h₁⟩ := p
  refine ⟨by rw [q₁.length]; exact hl, PV.trans t₁ (PV.grown R₁ (push_keep _ _) (push_size _ _) rfl rfl (.tup ⟨_, Heap.get?_push_size _ rfl, rfl, _, rfl⟩ (R₁.new (Nat.le_refl _)) (q₁.stays (stays_push _ _ _))) h₁)⟩
theorem EV.list {elts : List Expr} {pos : Pos} (h : ES C n env pos elts m H fun ds H₁ => ds.length ≤ sizeLine ∧ Φ (.lst ds) H₁) : EV C n env (.List elts pos) m H Φ := fun A s rm R => by
  refine wpAny_List_spliced (wpAny_mono (h A s rm R) (fun vs s₁ p => ?_) fun _ _ x => x)
  obtain ⟨ds, H₁, t₁, q₁, R₁, hl, h₁⟩ := p
  refine ⟨by rw [q₁.length]; exact hl, PV.trans t₁ (PV.grown R₁ (push_keep _ _) (push_size _ _) rfl rfl (.lst ⟨_, Heap.get?_push_size _ rfl, rfl, _, rfl⟩ (R₁.new (Nat.le_refl _)) (q₁.stays (stays_push _ _ _))) h₁)⟩

/-- telling of one more object -/
theorem stays_upd {h h' : Heap} {a : Addr} {o : AO} (k : ∀ b x, h.get? b = some x → h'.get? b = some x) (ha : h.objs.size ≤ a) : Stays h h' H (upd H a o) :=
  ⟨fun b x e _ _ => k b x e, fun b x e _ q => by rw [upd_ne (Nat.ne_of_lt (Nat.lt_of_lt_of_le (Heap.lt_size e) ha))]; exact q⟩
theorem Rel.add {a : Addr} {o : AO} (R : Rel C env m H s) (k : ∀ b x, s.heap.get? b = some x → s'.heap.get? b = some x) (hs : s.heap.objs.size ≤ s'.heap.objs.size) (hg : s'.gens = s.gens) (ho : s'.os = s.os)
    (ha : s.heap.objs.size ≤ a) (q : Rep C s'.heap (upd H a o) a o) : Rel C env m (upd H a o) s' where
  base b x e := k b x (R.base b x e)
  size := Nat.le_trans R.size hs
  fresh b h := by
    by_cases e : b = a
    · subst e; exact Nat.le_trans R.size ha
    · exact R.fresh b (by rwa [upd_ne e] at h)
  objs b x e := by
    by_cases eq : b = a
    · subst eq; rw [upd_same] at e; cases e; exact q
    · rw [upd_ne eq] at e; exact Rep.stays (stays_upd k ha) (fun y e => k b y e) (R.objs b x e)
  gens := hg.trans R.gens
  os := ho.trans R.os
  ok := R.ok
  loc := by
    obtain ⟨mm, h1, h2⟩ := R.loc
    refine ⟨mm, h1.keeps k, fun x d e q => ?_⟩
    obtain ⟨v, a, b⟩ := h2 x d e q
    exact ⟨v, a, b.stays (stays_upd k ha)⟩
  cell x c h := by obtain ⟨ov, q⟩ := R.cell x c h; exact ⟨ov, q.keeps k⟩
  cellv x d c e q l := by
    obtain ⟨v, a, b⟩ := R.cellv x d c e q l
    exact ⟨v, a.keeps k, b.stays (stays_upd k ha)⟩
  kinds := R.kinds
  out b h := by
    refine ⟨?_, (R.out b h).2⟩
    have l : b < s.heap.objs.size := by
      rcases h with rfl | ⟨x, hx⟩
      · obtain ⟨mm, h1, _⟩ := R.loc; exact h1.lt
      · obtain ⟨ov, o, e, _⟩ := R.cell x b hx; exact Heap.lt_size e
    rw [upd_ne (Nat.ne_of_lt (Nat.lt_of_lt_of_le l ha))]; exact (R.out b h).1
theorem Step.add {own : Addr → Prop} {a : Addr} {o : AO} (k : ∀ b x, s.heap.get? b = some x → s'.heap.get? b = some x) (hs : s.heap.objs.size ≤ s'.heap.objs.size) (hg : s'.gens = s.gens) (ho : s'.os = s.os)
    (ha : s.heap.objs.size ≤ a) : Step own H (upd H a o) s s' :=
  ⟨fun a o e _ _ => k a o e, hs, fun b h => by
    by_cases e : b = a
    · subst e; exact .inr ha
    · rw [upd_ne e] at h; exact .inl h, hg, ho⟩

/-- a list display that will be written to -/
theorem EV.listT {elts : List Expr} {pos : Pos} (h : ES C n env pos elts m H fun ds H₁ => ds.length ≤ sizeLine ∧ ∀ a, H₁ a = Option.none → Φ (.ref a) (upd H₁ a (.list ds))) : EV C n env (.List elts pos) m H Φ := fun A s rm R => by
  refine wpAny_List_spliced (wpAny_mono (h A s rm R) (fun vs s₁ p => ?_) fun _ _ x => x)
  obtain ⟨ds, H₁, t₁, q₁, R₁, hl, h₁⟩ := p
  refine ⟨by rw [q₁.length]; exact hl, PV.trans t₁ ⟨.ref _, _, Step.add (push_keep _ _) (push_size _ _) rfl rfl (Nat.le_refl _), .ref _, ?_, h₁ _ (R₁.new (Nat.le_refl _))⟩⟩
  exact R₁.add (push_keep _ _) (push_size _ _) rfl rfl (Nat.le_refl _) ⟨vs, ⟨0, Heap.get?_push_size _ rfl⟩, q₁.stays (stays_upd (push_keep _ _) (Nat.le_refl _))⟩
end
end Mine

open PySem PySem.W PyProof.Rows
set_option Elab.async false
namespace Mine

section
variable {C : Cx} {n : Nat} {env : Env} {m : Loc} {H H' : AH} {s s' : Shared} {sc : Scope}

theorem lookup_cons_eq {x y : Str} {d e : D} {m : Loc} (h : ((y, e) :: m).lookup x = some d) : (x = y ∧ e = d) ∨ (x ≠ y ∧ m.lookup x = some d) := by
  rw [List.lookup_cons] at h
  by_cases q : x = y
  · subst q; simp at h; exact .inl ⟨rfl, h⟩
  · have : (x == y) = false := by simpa using q
    rw [this] at h; exact .inr ⟨q, h⟩

theorem same_keep {a : Addr} {h h' : Heap} (x : Heap.SameBut a h h') : ∀ b o, b ≠ a → h.get? b = some o → h'.get? b = some o := fun b _ hb e => (x.2 b hb).trans e

/-- what a store into the frame's own dict or cell leaves -/
theorem Rel.own_keep (R : Rel C env m H s) {a : Addr} (ha : Own env a) {h' : Heap} (hs : Heap.SameBut a s.heap h') (k : Nat) : RelH C H { s with heap := h', toks := k } ∧ Step (Own env) H H s { s with heap := h', toks := k } ∧ Stays s.heap h' H H := by
  have st : Stays s.heap h' H H := ⟨fun b o e q _ => same_keep hs b o (fun z => R.own_noseq (z ▸ ha) e q) e, fun _ _ _ _ q => q⟩
  refine ⟨⟨fun b o e => same_keep hs b o (fun z => ?_) (R.base b o e), ?_, R.fresh, fun b o e => Rep.stays st (fun y q => same_keep hs b y (fun z => ?_) q) (R.objs b o e), R.gens, R.os⟩, ⟨fun b o e _ q => same_keep hs b o (fun z => q (z ▸ ha)) e, ?_, fun _ h => .inl h, rfl, rfl⟩, st⟩
  · subst z; exact Nat.lt_irrefl _ (Nat.lt_of_lt_of_le (Heap.lt_size e) (R.out b ha).2)
  · show _ ≤ h'.objs.size; rw [hs.1]; exact R.size
  · subst z; rw [(R.out b ha).1] at e; cases e
  · show _ ≤ h'.objs.size; rw [hs.1]; exact Nat.le_refl _

theorem Rel.locals_ne_cell (R : Rel C env m H s) {x : Str} {c : Addr} (h : env.cells.lookup x = some c) : c ≠ env.locals := by
  rintro rfl
  obtain ⟨ov, o, e, d⟩ := R.cell x _ h
  obtain ⟨mm, ⟨o', es, ep, e', d', _⟩, _⟩ := R.loc
  rw [e] at e'; cases e'; rw [d] at d'; cases d'

theorem mem_lookup {α : Type} {x : Str} {c : α} : ∀ {l : List (Str × α)}, l.lookup x = some c → (x, c) ∈ l
  | [], h => by simp at h
  | (y, e) :: r, h => by
    rw [List.lookup_cons] at h
    by_cases q : x = y
    · subst q; simp at h; subst h; exact .head _
    · have : (x == y) = false := by simpa using q
      rw [this] at h; exact .tail _ (mem_lookup h)
theorem cells_inj {x y : Str} {c : Addr} {l : List (Str × Addr)} (p : l.Pairwise fun x y => x.2 ≠ y.2) (h : (x, c) ∈ l) (k : (y, c) ∈ l) : x = y := by
  induction l with
  | nil => cases h
  | cons z l ih =>
    obtain ⟨p1, p2⟩ := List.pairwise_cons.mp p
    rcases List.mem_cons.mp h with e | h
    · rcases List.mem_cons.mp k with q | k
      · rw [← e] at q; cases q; rfl
      · rw [← e] at p1; exact (p1 (y, c) k rfl).elim
    · rcases List.mem_cons.mp k with e | k
      · rw [← e] at p1; exact (p1 (x, c) h rfl).elim
      · exact ih p2 h k

/-- a name that may be stored: a local, or one with a cell -/
noncomputable def storable (sc : Scope) (x : Str) : Bool := match sc.names.lookup x with
  | some .local => true
  | some .cell => true
  | _ => false

theorem store_ {A : Around} {x : Str} {v : Value} {d : D} {Q : Unit → Shared → Prop} (hE : env.scope = sc) (hx : storable sc x = true) (R : Rel C env m H s) (q : VR s.heap H v d)
    (h : ∀ s', Step (Own env) H H s s' → Rel C env ((x, d) :: m) H s' → Q () s') : wpAny (model C.prog C.w) A (storeName env x v) Q NoE s := by
  have hk0 : env.kindOf x = sc.names.lookup x := by unfold Env.kindOf; rw [hE]
  unfold storable at hx
  obtain ⟨mm, hn, hv⟩ := R.loc
  split at hx
  · rename_i e
    have hk : env.kindOf x = some .local := hk0.trans e
    refine wpAny_storeName_local hk hn (fun h' hn' hs => ?_) (by rw [R.ok.kind]; rfl)
    obtain ⟨R', st, sy⟩ := R.own_keep (.inl rfl) hs (s.toks + 1)
    refine h _ st ⟨R', R.ok, ⟨_, hn', fun y e hl hy => ?_⟩, fun y c hc => ?_, fun y e c hl hy hc => ?_, fun y e hl => ?_, R.out⟩
    · rcases lookup_cons_eq hl with ⟨rfl, rfl⟩ | ⟨ne, hl⟩
      · exact ⟨v, by simp, q.stays sy⟩
      · obtain ⟨u, h1, h2⟩ := hv y e hl hy
        exact ⟨u, by simp [ne, h1], h2.stays sy⟩
    · obtain ⟨ov, o, e, dd⟩ := R.cell y c hc
      exact ⟨ov, o, same_keep hs c o (R.locals_ne_cell hc) e, dd⟩
    · rcases lookup_cons_eq hl with ⟨rfl, rfl⟩ | ⟨ne, hl⟩
      · exact absurd hk hy
      · obtain ⟨u, ⟨o, e, dd⟩, h2⟩ := R.cellv y e c hl hy hc
        exact ⟨u, ⟨o, same_keep hs c o (R.locals_ne_cell hc) e, dd⟩, h2.stays sy⟩
    · rcases lookup_cons_eq hl with ⟨rfl, rfl⟩ | ⟨ne, hl⟩
      · exact .inl hk
      · exact R.kinds y e hl
  · rename_i e
    have hk : env.kindOf x = some .cell := hk0.trans e
    obtain ⟨c, hc⟩ := R.ok.cells x (.inl hk)
    obtain ⟨ov, hcell⟩ := R.cell x c hc
    refine wpAny_storeName_cell R.ok.kind hk hc hcell (fun h' hn' hs => ?_)
    obtain ⟨R', st, sy⟩ := R.own_keep (.inr ⟨x, hc⟩) hs s.toks
    refine h _ st ⟨R', R.ok, ⟨mm, ?_, fun y e hl hy => ?_⟩, fun y c' hc' => ?_, fun y e c' hl hy hc' => ?_, fun y e hl => ?_, R.out⟩
    · exact hn.sameBut hs (Ne.symm (R.locals_ne_cell hc))
    · rcases lookup_cons_eq hl with ⟨rfl, rfl⟩ | ⟨ne, hl⟩
      · rw [hk] at hy; cases hy
      · obtain ⟨u, h1, h2⟩ := hv y e hl hy
        exact ⟨u, h1, h2.stays sy⟩
    · by_cases z : c' = c
      · subst z; exact ⟨_, hn'⟩
      · obtain ⟨ov, o, e, dd⟩ := R.cell y c' hc'
        exact ⟨ov, o, same_keep hs c' o z e, dd⟩
    · rcases lookup_cons_eq hl with ⟨rfl, rfl⟩ | ⟨ne, hl⟩
      · rw [hc] at hc'; cases hc'; exact ⟨v, hn', q.stays sy⟩
      · obtain ⟨u, ⟨o, e, dd⟩, h2⟩ := R.cellv y e c' hl hy hc'
        refine ⟨u, ⟨o, same_keep hs c' o (fun z => ?_) e, dd⟩, h2.stays sy⟩
        subst z; exact ne (cells_inj R.ok.apart (mem_lookup hc') (mem_lookup hc))
    · rcases lookup_cons_eq hl with ⟨rfl, rfl⟩ | ⟨ne, hl⟩
      · exact .inr ⟨.inl hk, c, hc⟩
      · exact R.kinds y e hl
  · cases hx

theorem Rel.sub {m' : Loc} (R : Rel C env m H s) (k : ∀ x d, m'.lookup x = some d → m.lookup x = some d) : Rel C env m' H s where
  toRelH := R.toRelH
  ok := R.ok
  loc := by obtain ⟨mm, a, b⟩ := R.loc; exact ⟨mm, a, fun x d e => b x d (k x d e)⟩
  cell := R.cell
  cellv x d c e := R.cellv x d c (k x d e)
  kinds x d e := R.kinds x d (k x d e)
  out := R.out

/-- assigning to a target -/
noncomputable def AT (C : Cx) (n : Nat) (env : Env) (t : Expr) (a : D) (m : Loc) (H : AH) (Φ : Loc → AH → Prop) : Prop :=
  ∀ A s v, Room n A → Rel C env m H s → VR s.heap H v a → wpAny (model C.prog C.w) A (assign t env v) (fun _ s' => ∃ m' H', Step (Own env) H H' s s' ∧ Rel C env m' H' s' ∧ Φ m' H') NoE s
theorem AT.name {x : Str} {pos : Pos} {d : D} {Φ : Loc → AH → Prop} (hE : env.scope = sc) (φ : Φ ((x, d) :: m) H) (hx : storable sc x = true := by decide +kernel) : AT C n env (.Name x pos) d m H Φ := fun A s v _ R q =>
  assign_Name (store_ hE hx R q fun _ st R' => ⟨_, _, st, R', φ⟩)

/-- assigning to several, in their order -/
noncomputable def ATs (C : Cx) (n : Nat) (env : Env) (ts : List Expr) (as : List D) (m : Loc) (H : AH) (Φ : Loc → AH → Prop) : Prop :=
  ∀ A s vs, Room n A → Rel C env m H s → VRs s.heap H vs as → wpAny (model C.prog C.w) A (assignInOrder ((assignEach ts env).map (·.2)) vs) (fun _ s' => ∃ m' H', Step (Own env) H H' s s' ∧ Rel C env m' H' s' ∧ Φ m' H') NoE s
theorem ATs.nil {Φ : Loc → AH → Prop} (φ : Φ m H) : ATs C n env [] [] m H Φ := fun A s vs _ R _ => wpAny_pure ⟨m, H, .refl, R, φ⟩
theorem ATs.cons {t : Expr} {ts : List Expr} {a : D} {as : List D} {Φ : Loc → AH → Prop} (h : AT C n env t a m H fun m₁ H₁ => ATs C n env ts as m₁ H₁ Φ)
    (he : assignEach (t :: ts) env = (false, assign t env) :: assignEach ts env := by rfl) : ATs C n env (t :: ts) (a :: as) m H Φ := fun A s vs rm R q => by
  cases q with
  | cons qa qr =>
    rename_i v vs
    rw [he]
    show wpAny _ A (do holding vs (assign t env v); assignInOrder ((assignEach ts env).map (·.2)) vs) _ NoE s
    refine wpAny_bind (wpAny_holding (wpAny_mono (h A s v rm R qa) (fun _ s₁ p => ?_) fun _ _ x => x))
    obtain ⟨m₁, H₁, t₁, R₁, h₁⟩ := p
    refine wpAny_mono (h₁ A s₁ vs rm R₁ (qr.step t₁ R)) (fun _ s₂ p => ?_) fun _ _ x => x
    obtain ⟨m₂, H₂, t₂, R₂, h₂⟩ := p
    exact ⟨m₂, H₂, t₁.trans t₂, R₂, h₂⟩
theorem assignEach_plain {ts : List Expr} (h : ts.all (fun | .Starred .. => false | _ => true) = true) : (assignEach ts env).length = ts.length ∧ (assignEach ts env).findIdx? (·.1) = none := by
  induction ts with
  | nil => exact ⟨rfl, rfl⟩
  | cons t ts ih =>
    simp only [List.all_cons, Bool.and_eq_true] at h
    obtain ⟨a, b⟩ := ih h.2
    have : assignEach (t :: ts) env = (false, assign t env) :: assignEach ts env := by
      cases t <;> first | rfl | (simp at h)
    rw [this]
    exact ⟨by rw [List.length_cons, List.length_cons, a], by rw [List.findIdx?_cons, b]; rfl⟩
theorem ext_keep {h h' : Heap} (he : Heap.ExtBut h.objs.size h h') : ∀ b o, h.get? b = some o → h'.get? b = some o :=
  fun b o e => he b o (Nat.ne_of_lt (Heap.lt_size e)) e
theorem AT.tuple {elts : List Expr} {k : Nat} {pos : Pos} {ds : List D} {Φ : Loc → AH → Prop} (h : ATs C n env elts ds m H Φ) (hl : elts.length = ds.length := by rfl) (hp : elts.all (fun | .Starred .. => false | _ => true) = true := by rfl) :
    AT C n env (.Tuple elts k pos) (.tup ds) m H Φ := fun A s v rm R q => by
  cases q with
  | tup ht hn r =>
    rename_i a vs
    show wpAny _ A (do standAt pos; unpack (.ref _) (assignEach elts env)) _ NoE s
    obtain ⟨e1, e2⟩ := assignEach_plain (env := env) hp
    refine wpAny_bind (wpAny_standAt ?_)
    have hsz : (assignEach elts env).length = vs.toArray.size := by rw [e1, hl]; simpa using r.length.symm
    unfold unpack
    rw [hsz, e2]
    refine wpAny_bind (wpAny_holding (wide (wpAny_unpackItems_tuple rm.1 ht fun h' he hw => ?_)))
    have st : Step (Own env) H H s { s with heap := h' } := .grown (ext_keep he) hw rfl rfl
    refine wpAny_mono (h A { s with heap := h' } _ rm (R.grown (ext_keep he) hw rfl rfl) (by simpa using r.step st R)) (fun _ s₂ p => ?_) fun _ _ x => x
    obtain ⟨m₂, H₂, t₂, R₂, h₂⟩ := p
    exact ⟨m₂, H₂, st.trans t₂, R₂, h₂⟩

/-- what comes behind a statement -/
noncomputable def Sq (C : Cx) (n : Nat) (env : Env) (rest : List Stmt) (Φ : FL → Loc → AH → Prop) (f : FL) (m : Loc) (H : AH) : Prop := match f with
  | .next => XS C n env rest m H Φ
  | f => Φ f m H
variable {rest : List Stmt} {Φ : FL → Loc → AH → Prop}
theorem Sq.next (h : XS C n env rest m H Φ) : Sq C n env rest Φ .next m H := h
theorem Sq.ret {d : D} (h : Φ (.ret d) m H) : Sq C n env rest Φ (.ret d) m H := h
theorem Sq.brk (h : Φ .brk m H) : Sq C n env rest Φ .brk m H := h
theorem Sq.cont (h : Φ .cont m H) : Sq C n env rest Φ .cont m H := h

theorem PF.trans {H₁ : AH} {s₁ : Shared} {f : Flow} (x : Step (Own env) H H₁ s s₁) (p : PF C env H₁ s₁ Φ f s') : PF C env H s Φ f s' := by
  obtain ⟨fl, m', H', a, b, c, e⟩ := p; exact ⟨fl, m', H', x.trans a, b, c, e⟩
theorem PF.toks {k : Nat} {f : Flow} {fl : FL} (R : Rel C env m H s) (q : FR s.heap H f fl) (φ : Φ fl m H) : PF C env H s Φ f { s with toks := k } :=
  ⟨fl, m, H, Step.grown (s := s) (s' := { s with toks := k }) (fun _ _ e => e) (Nat.le_refl _) rfl rfl, q, R.toks, φ⟩
theorem PF.here {f : Flow} {fl : FL} (R : Rel C env m H s) (q : FR s.heap H f fl) (φ : Φ fl m H) : PF C env H s Φ f s := ⟨fl, m, H, .refl, q, R, φ⟩

theorem XS.nil (φ : Φ .next m H) : XS C n env [] m H Φ := fun _ _ _ R => wpAny_execs_nil (PF.here R .next φ)
theorem XS.cons {st : Stmt} (h : X1 C n env st m H (Sq C n env rest Φ)) : XS C n env (st :: rest) m H Φ := fun A s rm R => by
  refine wpAny_execs_cons (wpAny_mono (h A s rm R) (fun f s₁ p => ?_) fun _ _ x => x)
  obtain ⟨fl, m₁, H₁, t₁, q₁, R₁, h₁⟩ := p
  cases q₁ with
  | next => exact wpAny_mono (h₁ A s₁ rm R₁) (fun _ _ p => p.trans t₁) fun _ _ x => x
  | brk => exact ⟨_, m₁, H₁, t₁, .brk, R₁, h₁⟩
  | cont => exact ⟨_, m₁, H₁, t₁, .cont, R₁, h₁⟩
  | ret q => exact ⟨_, m₁, H₁, t₁, .ret q, R₁, h₁⟩
theorem XS.mono {st : List Stmt} {Φ' : FL → Loc → AH → Prop} (h : XS C n env st m H Φ) (k : ∀ f m' H', Φ f m' H' → Φ' f m' H') : XS C n env st m H Φ' := fun A s r R =>
  wpAny_mono (h A s r R) (fun v s' p => by obtain ⟨d, m', H', a, b, c, e⟩ := p; exact ⟨d, m', H', a, b, c, k _ _ _ e⟩) fun _ _ x => x
theorem XS.sub {st : List Stmt} {m' : Loc} (h : XS C n env st m' H Φ) (k : ∀ x d, m'.lookup x = some d → m.lookup x = some d) : XS C n env st m H Φ := fun A s r R => h A s r (R.sub k)

theorem X1.ret {e : Expr} {pos : Pos} (h : EV C n env e m H fun d H₁ => Φ (.ret d) m H₁) : X1 C n env (.Return (some e) pos) m H Φ := fun A s rm R => by
  refine wpAny_Return_some (wpAny_mono (h A s rm R) (fun v s₁ p => ?_) fun _ _ x => x)
  obtain ⟨d, H₁, t₁, q₁, R₁, h₁⟩ := p
  exact ⟨_, m, H₁, t₁, .ret q₁, R₁, h₁⟩
theorem X1.retNone {pos : Pos} (φ : Φ (.ret .none) m H) : X1 C n env (.Return none pos) m H Φ := fun _ _ _ R => wpAny_Return_none (PF.here R (.ret .none) φ)
theorem X1.cont {pos : Pos} (φ : Φ .cont m H) : X1 C n env (.Continue pos) m H Φ := fun _ _ _ R => wpAny_Continue (PF.here R .cont φ)
theorem X1.ite {test : Expr} {body orelse : List Stmt} {pos : Pos} (h : TS C n env test m H fun b H₁ => if b = true then XS C n env body m H₁ Φ else XS C n env orelse m H₁ Φ) : X1 C n env (.If test body orelse pos) m H Φ := fun A s rm R => by
  refine wpAny_If (wpAny_mono (h A s rm R) (fun b s₁ p => ?_) fun _ _ x => x)
  obtain ⟨H₁, t₁, R₁, h₁⟩ := p
  cases b with
  | true => exact wpAny_mono (h₁ A s₁ rm R₁) (fun _ _ p => p.trans t₁) fun _ _ x => x
  | false => exact wpAny_mono (h₁ A s₁ rm R₁) (fun _ _ p => p.trans t₁) fun _ _ x => x
theorem X1.expr {e : Expr} {pos : Pos} (h : EV C n env e m H fun _ H₁ => Φ .next m H₁) (hs : ∀ env, swapsWith e none pos.line env = pure false := by intro _; rfl) :
    X1 C n env (.Expr e pos) m H Φ := fun A s rm R => by
  refine wpAny_Expr_any (wpAny_mono (h A s rm R) (fun v s₁ p => ?_) fun _ _ x => x) (by unfold interactive; rw [R.ok.kind]; rfl) (hs env)
  obtain ⟨d, H₁, t₁, q₁, R₁, h₁⟩ := p
  exact ⟨_, m, H₁, t₁, .next, R₁, h₁⟩
theorem X1.assign {x : Str} {p pos : Pos} {e : Expr} (hE : env.scope = sc) (h : EV C n env e m H fun d H₁ => Φ .next ((x, d) :: m) H₁) (hx : storable sc x = true := by decide +kernel)
    (hs : ∀ env, swapsWith e (some (.Name x p)) pos.line env = pure false := by intro _; rfl) : X1 C n env (.Assign [.Name x p] e pos) m H Φ := fun A s rm R => by
  refine wpAny_Assign_Name (wpAny_mono (h A s rm R) (fun v s₁ p => ?_) fun _ _ x => x) (hs env)
  obtain ⟨d, H₁, t₁, q₁, R₁, h₁⟩ := p
  exact store_ hE hx R₁ q₁ fun s₂ t₂ R₂ => ⟨_, _, H₁, t₁.trans t₂, .next, R₂, h₁⟩
/-- targets in a tuple -/
theorem X1.assignTup {elts : List Expr} {k : Nat} {p pos : Pos} {e : Expr} (h : EV C n env e m H fun d H₁ => AT C n env (.Tuple elts k p) d m H₁ fun m' H' => Φ .next m' H')
    (hs : swapsWithSole [.Tuple elts k p] e pos.line env = pure false := by rfl) (hw : swappedStores [.Tuple elts k p] e env = pure none := by rfl) : X1 C n env (.Assign [.Tuple elts k p] e pos) m H Φ := fun A s rm R => by
  refine Assign_Tuple (wpAny_mono (h A s rm R) (fun v s₁ p => ?_) fun _ _ x => x) hs hw
  obtain ⟨d, H₁, t₁, q₁, R₁, h₁⟩ := p
  refine wpAny_mono (h₁ A s₁ v rm R₁ q₁) (fun _ s₂ p => ?_) fun _ _ x => x
  obtain ⟨m₂, H₂, t₂, R₂, h₂⟩ := p
  exact ⟨_, m₂, H₂, t₁.trans t₂, .next, R₂, h₂⟩
end
end Mine

open PySem PySem.W PyProof.Rows
set_option Elab.async false
set_option linter.unusedVariables false
namespace Mine

section
variable {C : Cx} {n : Nat} {env : Env} {m : Loc} {H H' : AH} {s s' : Shared} {sc : Scope} {Φ : D → AH → Prop}

/-- the whole heap but some places, as a list -/
noncomputable def others (h : Heap) (bad : List Addr) : List (Addr × Obj) := (List.range h.objs.size).filterMap fun a => if a ∈ bad then none else (h.get? a).map fun o => (a, o)
theorem mem_others {h : Heap} {bad : List Addr} {p : Addr × Obj} : p ∈ others h bad ↔ p.1 ∉ bad ∧ h.get? p.1 = some p.2 := by
  obtain ⟨a, o⟩ := p
  unfold others
  rw [List.mem_filterMap]
  constructor
  · rintro ⟨b, _, e⟩
    split at e
    · cases e
    · rename_i nb
      obtain ⟨o', h1, h2⟩ := Option.map_eq_some_iff.mp e
      cases h2; exact ⟨nb, h1⟩
  · rintro ⟨h1, h2⟩
    have h1 : a ∉ bad := h1
    exact ⟨a, List.mem_range.mpr (Heap.lt_size h2), by rw [if_neg h1]; show Option.map _ (h.get? a) = _; rw [show h.get? a = some o from h2]; rfl⟩
/-- all that the base has not -/
noncomputable def nw (C : Cx) (h : Heap) (bad : List Addr) : List (Addr × Obj) := (others h bad).filter fun p => (C.base.get? p.1).isNone
theorem mem_nw {h : Heap} {bad : List Addr} {p : Addr × Obj} : p ∈ nw C h bad ↔ p.1 ∉ bad ∧ h.get? p.1 = some p.2 ∧ C.base.get? p.1 = none := by
  unfold nw
  rw [List.mem_filter, mem_others, Option.isNone_iff_eq_none, and_assoc]
theorem Rel.fr {mm : Str → Option Value} (R : Rel C env m H s) (hn : s.heap.Ns env.locals mm) : Fr C.base env.locals s.heap mm := ⟨hn, R.base, (R.out _ (.inl rfl)).2⟩
theorem news0 (C : Cx) (h : Heap) (L : Addr) : News C.base L h (nw C h [L]) := fun p hp => by
  obtain ⟨a, b, c⟩ := mem_nw.mp hp
  exact ⟨b, fun e => a (by rw [e]; exact .head _), c⟩
theorem Rel.newsKeep {mm : Str → Option Value} {h' : Heap} {news : List (Addr × Obj)} (R : Rel C env m H s) (F : Fr C.base env.locals h' mm) (N : News C.base env.locals h' news) (hs : ∀ p ∈ nw C s.heap [env.locals], p ∈ news) :
    ∀ b o, b ≠ env.locals → s.heap.get? b = some o → h'.get? b = some o := fun b o nb e => by
  cases q : C.base.get? b with
  | some o' =>
    have := R.base b o' q
    rw [e] at this; cases this
    exact F.keep b o q
  | none => exact (N (b, o) (hs _ (mem_nw.mpr ⟨by simpa using nb, e, q⟩))).1

/-- all but the frame's dict stands as it stood, and that holds the same names -/
theorem Rel.kept {mm : Str → Option Value} (R : Rel C env m H s) (hv : ∀ x d, m.lookup x = some d → env.kindOf x = some .local → ∃ v, mm x = some v ∧ VR s.heap H v d) (hn : s'.heap.Ns env.locals mm)
    (k : ∀ b o, b ≠ env.locals → s.heap.get? b = some o → s'.heap.get? b = some o) (hs : s.heap.objs.size ≤ s'.heap.objs.size) (hg : s'.gens = s.gens) (ho : s'.os = s.os) :
    Rel C env m H s' ∧ Step (Own env) H H s s' := by
  have st : Stays s.heap s'.heap H H := ⟨fun b o e q _ => k b o (fun z => R.own_noseq (.inl z) e q) e, fun _ _ _ _ q => q⟩
  refine ⟨⟨⟨fun b o e => k b o (fun z => ?_) (R.base b o e), Nat.le_trans R.size hs, R.fresh, fun b o e => Rep.stays st (fun y q => k b y (fun z => ?_) q) (R.objs b o e), hg.trans R.gens, ho.trans R.os⟩,
    R.ok, ⟨mm, hn, fun x d e q => ?_⟩, fun x c h => ?_, fun x d c e q l => ?_, R.kinds, R.out⟩, ⟨fun b o e _ q => k b o (fun z => q (.inl z)) e, hs, fun _ h => .inl h, hg, ho⟩⟩
  · subst z; exact Nat.lt_irrefl _ (Nat.lt_of_lt_of_le (Heap.lt_size e) (R.out _ (.inl rfl)).2)
  · subst z; rw [(R.out _ (.inl rfl)).1] at e; cases e
  · obtain ⟨v, a, b⟩ := hv x d e q; exact ⟨v, a, b.stays st⟩
  · obtain ⟨ov, o, e, dd⟩ := R.cell x c h; exact ⟨ov, o, k c o (R.locals_ne_cell h) e, dd⟩
  · obtain ⟨v, ⟨o, e', dd⟩, b⟩ := R.cellv x d c e q l
    exact ⟨v, ⟨o, k c o (R.locals_ne_cell l) e', dd⟩, b.stays st⟩

theorem O2.int {f : Value → Value → Sem Value} {a b r : Int} (φ : Φ (.int r) H) (h : ∀ {A : Around} {s : Shared} {t u : Tok} {Q : Value → Shared → Prop}, A.handled = Option.none → Q (.int r s.toks) { s with toks := s.toks + 1 } → wpAny (model C.prog C.w) A (f (.int a t) (.int b u)) Q NoE s) :
    O2 C n env f (.int a) (.int b) m H Φ := fun A s v u rm R qa qb => by
  cases qa; cases qb; exact h rm.1 (PV.toks R (.int _ _) φ)
theorem O2.add {a b : Int} (φ : Φ (.int (a + b)) H) : O2 C n env (binaryOp .Add) (.int a) (.int b) m H Φ := O2.int φ fun _ q => add_int q
theorem O2.sub {a b : Int} (φ : Φ (.int (a - b)) H) : O2 C n env (binaryOp .Sub) (.int a) (.int b) m H Φ := O2.int φ fun _ q => PyProof.Rows.sub_int q
theorem O2.mul {a b : Int} (φ : Φ (.int (a * b)) H) (h1 : -(2 ^ 64) < a) (h2 : a < 2 ^ 64) : O2 C n env (binaryOp .Mult) (.int a) (.int b) m H Φ := O2.int φ fun _ q => PyProof.Rows.mul_int q (.of_left (intBits_le_64 h1 h2))
theorem O2.pow {a b : Int} (φ : Φ (.int (a ^ b.toNat)) H) (h1 : 0 ≤ b) (h2 : (Builtin.Int.intBits a : Int) * b ≤ 2 ^ 27) : O2 C n env (binaryOp .Pow) (.int a) (.int b) m H Φ := O2.int φ fun _ q => pow_int h1 h2 q
theorem log2_small {b : Int} (h1 : -(2 ^ 64) < b) (h2 : b < 2 ^ 64) : b.natAbs.log2 < 9000 := by
  by_cases h : b.natAbs = 0
  · rw [h]; decide +kernel
  · have : b.natAbs.log2 < 64 := (Nat.log2_lt h).mpr (by omega)
    omega
theorem O2.floordiv {a b : Int} (φ : Φ (.int (a.fdiv b)) H) (h0 : b ≠ 0) (h1 : -(2 ^ 64) < b) (h2 : b < 2 ^ 64) : O2 C n env (binaryOp .FloorDiv) (.int a) (.int b) m H Φ :=
  O2.int φ fun hh q => floordiv_int_or hh (fun e => absurd e h0) (fun _ => q) (fun _ => .inl (PyProof.noPylong_of_log2 (log2_small h1 h2)))
theorem O2.mod {a b : Int} (φ : Φ (.int (a.fmod b)) H) (h0 : b ≠ 0) : O2 C n env (binaryOp .Mod) (.int a) (.int b) m H Φ :=
  O2.int φ fun hh q => mod_int_or hh (fun e => absurd e h0) (fun _ => q)
theorem O1.neg {a : Int} (φ : Φ (.int (-a)) H) : O1 C n env (unaryOp .USub) (.int a) m H Φ := fun A s v rm R q => by
  cases q; exact neg_int (PV.toks R (.int _ _) φ)

theorem O2.cmpI {op : CmpOp} {a b : Int} {r : Bool} (φ : Φ (.bool r) H) (h : ∀ {A : Around} {s : Shared} {t u : Tok} {Q : Value → Shared → Prop}, Q (.bool r) s → wpAny (model C.prog C.w) A (compareOp op (.int a t) (.int b u)) Q NoE s) :
    O2 C n env (compareOp op) (.int a) (.int b) m H Φ := fun A s v u rm R qa qb => by
  cases qa; cases qb; exact h (PV.here R (.bool _) φ)
theorem O2.lt {a b : Int} (φ : Φ (.bool (decide (a < b))) H) : O2 C n env (compareOp .Lt) (.int a) (.int b) m H Φ := O2.cmpI φ fun q => PyProof.Rows.lt_int q
theorem O2.gt {a b : Int} (φ : Φ (.bool (decide (b < a))) H) : O2 C n env (compareOp .Gt) (.int a) (.int b) m H Φ := O2.cmpI φ fun q => PyProof.Rows.gt_int q
theorem O2.le {a b : Int} (φ : Φ (.bool (decide (a ≤ b))) H) : O2 C n env (compareOp .LtE) (.int a) (.int b) m H Φ := O2.cmpI φ fun q => PyProof.Rows.le_int q
theorem O2.ge {a b : Int} (φ : Φ (.bool (decide (b ≤ a))) H) : O2 C n env (compareOp .GtE) (.int a) (.int b) m H Φ := O2.cmpI φ fun q => PyProof.Rows.ge_int q
theorem O2.eqI {a b : Int} (φ : Φ (.bool (a == b)) H) : O2 C n env (compareOp .Eq) (.int a) (.int b) m H Φ := O2.cmpI φ fun q => PyProof.Rows.eq_int q
theorem O2.neI {a b : Int} (φ : Φ (.bool (a != b)) H) : O2 C n env (compareOp .NotEq) (.int a) (.int b) m H Φ := O2.cmpI φ fun q => PyProof.Rows.ne_int q
theorem O2.eqS {a b : Str} (φ : Φ (.bool (a == b)) H) : O2 C n env (compareOp .Eq) (.str a) (.str b) m H Φ := fun A s v u rm R qa qb => by
  cases qa; cases qb; exact eq_str (PV.here R (.bool _) φ)
theorem O2.eqB {a b : Bool} (φ : Φ (.bool (a == b)) H) : O2 C n env (compareOp .Eq) (.bool a) (.bool b) m H Φ := fun A s v u rm R qa qb => by
  cases qa; cases qb; exact eq_bool (PV.here R (.bool _) φ)
theorem O2.neB {a b : Bool} (φ : Φ (.bool (a != b)) H) : O2 C n env (compareOp .NotEq) (.bool a) (.bool b) m H Φ := fun A s v u rm R qa qb => by
  cases qa; cases qb; exact ne_bool (PV.here R (.bool _) φ)
noncomputable def D.isNone : D → Option Bool
  | .none => some true
  | .val _ => Option.none
  | _ => some false
theorem O2.isNone {a : D} {r : Bool} (ha : a.isNone = some r) (φ : Φ (.bool r) H) : O2 C n env (compareOp .Is) a .none m H Φ := fun A s v u rm R qa qb => by
  cases qb
  refine is_none_gen ?_
  have : (v == Value.none) = r := by
    cases qa <;> simp only [D.isNone, Option.some.injEq, reduceCtorEq] at ha <;> subst ha <;> rfl
  rw [this]; exact PV.here R (.bool _) φ

mutual
noncomputable def D.gnd : Nat → D → Bool
  | _, .int _ => true
  | n + 1, .tup ds => D.gnds n ds
  | n + 1, .lst ds => D.gnds n ds
  | _, _ => false
noncomputable def D.gnds : Nat → List D → Bool
  | _, [] => true
  | n, d :: ds => D.gnd n d && D.gnds n ds
end
mutual
noncomputable def D.py : D → PyData
  | .int i => .int i
  | .tup ds => .tuple (D.pys ds)
  | .lst ds => .list (D.pys ds)
  | _ => .none
noncomputable def D.pys : List D → List PyData
  | [] => []
  | d :: ds => d.py :: D.pys ds
end
mutual
theorem VR.reads {h : Heap} : ∀ {v : Value} {d : D} {n : Nat}, VR h H v d → d.gnd n = true → ∃ as, Reads h v d.py as
  | _, _, _, .int i t, _ => ⟨_, .int i t⟩
  | _, _, n + 1, .tup ht _ r, g => by
    obtain ⟨o, e, c, k, d⟩ := ht
    rw [D.gnd] at g
    obtain ⟨as, q⟩ := VRs.reads r g
    rw [D.py]
    exact ⟨_, .tuple e c d (by simpa using q)⟩
  | _, _, n + 1, .lst ht _ r, g => by
    obtain ⟨o, e, c, k, d⟩ := ht
    rw [D.gnd] at g
    obtain ⟨as, q⟩ := VRs.reads r g
    rw [D.py]
    exact ⟨_, .list e c d (by simpa using q)⟩
  | _, _, 0, .tup .., g => by simp [D.gnd] at g
  | _, _, 0, .lst .., g => by simp [D.gnd] at g
  | _, _, _, .none, g => by simp [D.gnd] at g
  | _, _, _, .bool _, g => by simp [D.gnd] at g
  | _, _, _, .str _ _, g => by simp [D.gnd] at g
  | _, _, _, .ref _, g => by simp [D.gnd] at g
  | _, _, _, .val _, g => by simp [D.gnd] at g
theorem VRs.reads {h : Heap} : ∀ {vs : List Value} {ds : List D} {n : Nat}, VRs h H vs ds → D.gnds n ds = true → ∃ as, ReadsAll h vs (D.pys ds) as
  | _, _, _, .nil, _ => ⟨_, .nil⟩
  | _, _, _, .cons a r, g => by
    rw [D.gnds, Bool.and_eq_true] at g
    obtain ⟨as, p⟩ := VR.reads a g.1
    obtain ⟨bs, q⟩ := VRs.reads r g.2
    exact ⟨_, .cons p q⟩
end
mutual
theorem gnd_lay : ∀ (n : Nat) (d : D), d.gnd n = true → d.py.canLay0 = true ∧ d.py.depth ≤ n
  | _, .int _, _ => by simp [D.py, PyData.canLay0, PyData.depth]
  | n + 1, .tup ds, g => by
    rw [D.gnd] at g
    have q := gnds_lay n ds g
    rw [D.py, PyData.canLay0, PyData.depth]; exact ⟨q.1, by have := q.2; omega⟩
  | n + 1, .lst ds, g => by
    rw [D.gnd] at g
    have q := gnds_lay n ds g
    rw [D.py, PyData.canLay0, PyData.depth]; exact ⟨q.1, by have := q.2; omega⟩
  | 0, .tup _, g => by simp [D.gnd] at g
  | 0, .lst _, g => by simp [D.gnd] at g
  | _, .none, g => by simp [D.gnd] at g
  | _, .bool _, g => by simp [D.gnd] at g
  | _, .str _, g => by simp [D.gnd] at g
  | _, .ref _, g => by simp [D.gnd] at g
  | _, .val _, g => by simp [D.gnd] at g
theorem gnds_lay : ∀ (n : Nat) (ds : List D), D.gnds n ds = true → PyData.canLayAll0 (D.pys ds) = true ∧ PyData.depthAll (D.pys ds) ≤ n
  | _, [], _ => by simp [D.pys, PyData.canLayAll0, PyData.depthAll]
  | n, d :: ds, g => by
    rw [D.gnds, Bool.and_eq_true] at g
    have a := gnd_lay n d g.1
    have b := gnds_lay n ds g.2
    rw [D.pys, PyData.canLayAll0, PyData.depthAll, a.1, b.1]
    exact ⟨rfl, by have := a.2; have := b.2; omega⟩
end
mutual
theorem gnd_eqv : ∀ (n k : Nat) (d e : D), d.gnd n = true → e.gnd k = true → (PyData.eqv d.py e.py = true ↔ d = e)
  | _, _, .int i, .int j, _, _ => by simp [D.py, PyData.eqv]
  | n + 1, k + 1, .tup ds, .tup es, g, h => by
    rw [D.gnd] at g h
    rw [D.py, D.py, PyData.eqv, gnds_eqv n k ds es g h, D.tup.injEq]
  | n + 1, k + 1, .lst ds, .lst es, g, h => by
    rw [D.gnd] at g h
    rw [D.py, D.py, PyData.eqv, gnds_eqv n k ds es g h, D.lst.injEq]
  | _, _, .int _, .tup _, _, _ => by simp [D.py, PyData.eqv]
  | _, _, .int _, .lst _, _, _ => by simp [D.py, PyData.eqv]
  | _, _, .tup _, .int _, _, _ => by simp [D.py, PyData.eqv]
  | _, _, .lst _, .int _, _, _ => by simp [D.py, PyData.eqv]
  | _, _, .tup _, .lst _, _, _ => by simp [D.py, PyData.eqv]
  | _, _, .lst _, .tup _, _, _ => by simp [D.py, PyData.eqv]
  | 0, _, .tup _, _, g, _ => by simp [D.gnd] at g
  | 0, _, .lst _, _, g, _ => by simp [D.gnd] at g
  | _, 0, _, .tup _, _, g => by simp [D.gnd] at g
  | _, 0, _, .lst _, _, g => by simp [D.gnd] at g
  | _, _, .none, _, g, _ => by simp [D.gnd] at g
  | _, _, .bool _, _, g, _ => by simp [D.gnd] at g
  | _, _, .str _, _, g, _ => by simp [D.gnd] at g
  | _, _, .ref _, _, g, _ => by simp [D.gnd] at g
  | _, _, .val _, _, g, _ => by simp [D.gnd] at g
  | _, _, _, .none, _, g => by simp [D.gnd] at g
  | _, _, _, .bool _, _, g => by simp [D.gnd] at g
  | _, _, _, .str _, _, g => by simp [D.gnd] at g
  | _, _, _, .ref _, _, g => by simp [D.gnd] at g
  | _, _, _, .val _, _, g => by simp [D.gnd] at g
theorem gnds_eqv : ∀ (n k : Nat) (ds es : List D), D.gnds n ds = true → D.gnds k es = true → (PyData.eqvAll (D.pys ds) (D.pys es) = true ↔ ds = es)
  | _, _, [], [], _, _ => by simp [D.pys, PyData.eqvAll]
  | _, _, [], _ :: _, _, _ => by simp [D.pys, PyData.eqvAll]
  | _, _, _ :: _, [], _, _ => by simp [D.pys, PyData.eqvAll]
  | n, k, d :: ds, e :: es, g, h => by
    rw [D.gnds, Bool.and_eq_true] at g h
    rw [D.pys, D.pys, PyData.eqvAll, Bool.and_eq_true, gnd_eqv n k d e g.1 h.1, gnds_eqv n k ds es g.2 h.2, List.cons.injEq]
end
theorem gnd_shaped {d : D} {k : Nat} (h : d.gnd k = true) (hk : k ≤ 64) : SeqAt.shaped d.py = true := by
  have q := gnd_lay k d h
  unfold SeqAt.shaped
  rw [q.1, Bool.true_and]; exact decide_eq_true (Nat.le_trans q.2 hk)
theorem bool_of_iff {a b : Bool} {P : Prop} (h : a = true ↔ P) (k : b = true ↔ P) : a = b := by
  cases a <;> cases b <;> simp_all
theorem Room.units64 {A : Around} {n : Nat} (h : Room n A) (hn : 4 ≤ n) : A.units + 64 < cLine := by have := h.2.2; omega
/-- == of what is made of ints -/
theorem O2.eqD {a b : D} {r : Bool} (ha : a.gnd 8 = true) (hb : b.gnd 8 = true) (hr : r = true ↔ a = b) (φ : Φ (.bool r) H) (hn : 4 ≤ n := by omega) : O2 C n env (compareOp .Eq) a b m H Φ := fun A s v u rm R qa qb => by
  obtain ⟨as, ra⟩ := qa.reads ha
  obtain ⟨bs, rb⟩ := qb.reads hb
  refine eq_dataH ra rb (gnd_shaped ha (by decide)) (gnd_shaped hb (by decide)) (rm.units64 hn) ?_
  rw [bool_of_iff (gnd_eqv 8 8 a b ha hb) hr]; exact PV.here R (.bool _) φ
theorem O2.neD {a b : D} {r : Bool} (ha : a.gnd 8 = true) (hb : b.gnd 8 = true) (hr : r = true ↔ a = b) (φ : Φ (.bool (!r)) H) (hn : 4 ≤ n := by omega) : O2 C n env (compareOp .NotEq) a b m H Φ := fun A s v u rm R qa qb => by
  obtain ⟨as, ra⟩ := qa.reads ha
  obtain ⟨bs, rb⟩ := qb.reads hb
  refine ne_dataH ra rb (gnd_shaped ha (by decide)) (gnd_shaped hb (by decide)) (rm.units64 hn) ?_
  rw [bool_of_iff (gnd_eqv 8 8 a b ha hb) hr]; exact PV.here R (.bool _) φ
end
end Mine

open PySem PySem.W PyProof.Rows
set_option Elab.async false
set_option linter.unusedVariables false
namespace Mine

section
variable {C : Cx} {n : Nat} {env : Env} {m : Loc} {H H' : AH} {s s' : Shared} {sc : Scope} {Φ : D → AH → Prop}

theorem EV.subscript {value slice : Expr} {pos : Pos} (h : EV C n env value m H fun a H₁ => EV C n env slice m H₁ fun b H₂ => O2 C n env (subscriptTail value slice) a b m H₂ Φ) :
    EV C n env (.Subscript value slice pos) m H Φ := fun A s rm R => by
  refine Subscript_ (wpAny_mono (h A s rm R) (fun v s₁ p => ?_) fun _ _ x => x)
  obtain ⟨a, H₁, t₁, q₁, R₁, h₁⟩ := p
  refine wpAny_mono (h₁ A s₁ rm R₁) (fun u s₂ p => ?_) fun _ _ x => x
  obtain ⟨b, H₂, t₂, q₂, R₂, h₂⟩ := p
  exact wpAny_mono (h₂ A s₂ v u rm R₂ (q₁.step t₂ R₁) q₂) (fun _ _ p => (p.trans t₂).trans t₁) fun _ _ x => x

theorem seq_at {k : Int} {l : Nat} (h : 0 ≤ k) (hj : k.toNat < l) : seqIndex? k l = some k.toNat := by
  have e : ¬ k < 0 := by omega
  have e2 : k < (l : Int) := by omega
  simp [seqIndex?, e, e2, h]
theorem seq_last {l : Nat} (hj : 0 < l) : seqIndex? (-1) l = some (l - 1) := by
  have e2 : (0 : Int) ≤ -1 + l := by omega
  have e3 : (-1 : Int) + l < l := by omega
  have e4 : ((-1 : Int) + l).toNat = l - 1 := by omega
  simp [seqIndex?, e2, e3, e4]

theorem O2.tupAt {value slice : Expr} {ds : List D} {k : Int} {d : D} (hd : ds[k.toNat]? = some d) (h0 : 0 ≤ k) (φ : Φ d H) (h1 : k < 2 ^ 63 := by omega)
    (hs : ∀ o i, subscripted slice false o i = operate [o, i] (getItem o i) := by intro _ _; rfl) : O2 C n env (subscriptTail value slice) (.tup ds) (.int k) m H Φ := fun A s v u rm R qa qb => by
  cases qb
  cases qa with
  | tup ht hn r =>
    obtain ⟨x, hx, q⟩ := r.get hd
    have hlt : k.toNat < ds.length := (List.getElem?_eq_some_iff.mp hd).1
    exact item_tupleT ht (by omega) h1 (by rw [r.length]; exact seq_at h0 hlt) hx (PV.here R q φ) (hs _ _)
theorem O2.tupLast {value slice : Expr} {ds : List D} {d : D} (hd : ds[ds.length - 1]? = some d) (φ : Φ d H)
    (hs : ∀ o i, subscripted slice false o i = operate [o, i] (getItem o i) := by intro _ _; rfl) : O2 C n env (subscriptTail value slice) (.tup ds) (.int (-1)) m H Φ := fun A s v u rm R qa qb => by
  cases qb
  cases qa with
  | tup ht hn r =>
    obtain ⟨x, hx, q⟩ := r.get hd
    have hlt : ds.length - 1 < ds.length := (List.getElem?_eq_some_iff.mp hd).1
    exact item_tupleT ht (by decide) (by decide) (by rw [r.length]; exact seq_last (by omega)) hx (PV.here R q φ) (hs _ _)
theorem O2.lstAt {value slice : Expr} {ds : List D} {k : Int} {d : D} (hd : ds[k.toNat]? = some d) (h0 : 0 ≤ k) (φ : Φ d H) (h1 : k < 2 ^ 63 := by omega)
    (hs : ∀ o i, subscripted slice false o i = operate [o, i] (getItem o i) := by intro _ _; rfl) : O2 C n env (subscriptTail value slice) (.lst ds) (.int k) m H Φ := fun A s v u rm R qa qb => by
  cases qb
  cases qa with
  | lst ht hn r =>
    obtain ⟨x, hx, q⟩ := r.get hd
    exact item_listR ht h0 h1 (by simpa using hx) (PV.here R q φ) (hs _ _)
theorem O2.refAt {value slice : Expr} {ds : List D} {k : Int} {d : D} {l : Addr} (hl : H l = some (.list ds)) (hd : ds[k.toNat]? = some d) (h0 : 0 ≤ k) (φ : Φ d H) (h1 : k < 2 ^ 63 := by omega)
    (hs : ∀ o i, subscripted slice false o i = operate [o, i] (getItem o i) := by intro _ _; rfl) : O2 C n env (subscriptTail value slice) (.ref l) (.int k) m H Φ := fun A s v u rm R qa qb => by
  cases qb
  cases qa
  obtain ⟨vs, ht, r⟩ := R.objs l _ hl
  obtain ⟨x, hx, q⟩ := r.get hd
  exact item_listR ht.isList h0 h1 (by simpa using hx) (PV.here R q φ) (hs _ _)
theorem valueAt_of {h : Heap} {x : Str} {d : D} : ∀ {kvs : List (Str × Value)} {mm : Loc}, kvs.map (·.1) = mm.map (·.1) → VRs h H (kvs.map (·.2)) (mm.map (·.2)) → mm.lookup x = some d → ∃ v, valueAt kvs x = some v ∧ VR h H v d
  | [], [], _, _, e => by simp at e
  | (y, v) :: r, (z, d') :: mm, e1, e2, e => by
    rw [List.map_cons, List.map_cons, List.cons.injEq] at e1
    obtain ⟨e0, e1⟩ := e1
    have e0 : y = z := e0
    subst e0
    rw [List.map_cons, List.map_cons] at e2
    cases e2 with
    | cons q qr =>
      rw [List.lookup_cons] at e
      unfold valueAt
      rw [List.find?_cons]
      by_cases w : x = y
      · subst w; simp at e ⊢; subst e; exact q
      · have h1 : (x == y) = false := by simpa using w
        have h2 : decide (y = x) = false := by simpa using Ne.symm w
        rw [h1] at e
        simp only [h2]
        exact valueAt_of e1 qr e
theorem O2.mapAt {value slice : Expr} {mm : Loc} {x : Str} {d : D} {l : Addr} (hl : H l = some (.smap mm)) (hd : mm.lookup x = some d) (φ : Φ d H)
    (hs : ∀ o i, subscripted slice false o i = operate [o, i] (getItem o i) := by intro _ _; rfl) : O2 C n env (subscriptTail value slice) (.ref l) (.str x) m H Φ := fun A s v u rm R qa qb => by
  cases qb
  cases qa
  obtain ⟨kvs, hf, r1, r2⟩ := R.objs l _ hl
  obtain ⟨v, hx, q⟩ := valueAt_of r1 r2 hd
  exact tail_any hf.mapOf.typeIs slot_dict_getitem.lookup (wpAny_getItem_of (by simp [PySem.strKind, Value.isStrOf]) hf.mapOf hx (PV.toks R q φ)) (hs _ _)

/-- a list, by value or told of -/
noncomputable def LstAt (a : D) (H : AH) (ds : List D) : Prop := a = .lst ds ∨ ∃ l, a = .ref l ∧ H l = some (.list ds)
theorem slice_ {A : Around} {value : Expr} {lo hi : Option Expr} {p : Pos} {a : D} {v vl vu : Value} {lo' hi' : Option Int} {ds : List D} {f : ∀ {α : Type}, List α → List α} (R : Rel C env m H s) (q : VR s.heap H v a) (pl : IsPart vl lo') (pu : IsPart vu hi')
    (hd : LstAt a H ds) (hsz : ds.length ≤ sizeLine) (φ : Φ (.lst (f ds)) H) (hf : ∀ vs : List Value, slicePick vs.toArray lo' hi' Option.none = (f vs).toArray) (hv : ∀ {vs : List Value} {ds : List D} {h H}, VRs h H vs ds → VRs h H (f vs) (f ds)) :
    wpAny (model C.prog C.w) A (subscriptTail value (.Slice lo hi Option.none p) v (.ref s.heap.objs.size)) (PV C env m H s Φ) NoE { s with heap := s.heap.push { cls := .type "slice", data := .fields #[vl, vu, .none] } } := by
  have : ∃ (l : Addr) (vs : List Value), v = .ref l ∧ s.heap.IsList l vs.toArray ∧ VRs s.heap H vs ds := by
    rcases hd with rfl | ⟨l, rfl, hl⟩
    · cases q with | lst ht _ r => exact ⟨_, _, rfl, ht, r⟩
    · cases q; obtain ⟨vs, ht, r⟩ := R.objs l _ hl; exact ⟨_, _, rfl, ht.isList, r⟩
  obtain ⟨l, vs, rfl, ht, r⟩ := this
  refine tail_any (ops := [.ref s.heap.objs.size, .ref l]) (Heap.IsList.typeIs (s := { s with heap := s.heap.push { cls := .type "slice", data := .fields #[vl, vu, .none] } }) (ht.push _)) list_getitem_lookup (wpAny_getItem_list_slice (ht.push _) (Heap.IsSliceOf.new ..) pl pu .none (by simp) ?_ (by rw [List.size_toArray, r.length]; exact hsz)) rfl
  rw [hf vs]
  refine PV.grown R (fun b o e => push_keep _ _ b o (push_keep _ _ b o e)) (Nat.le_trans (push_size _ _) (push_size _ _)) rfl rfl (.lst ⟨_, Heap.get?_push_size _ rfl, rfl, _, rfl⟩ (R.new (push_size _ _)) ?_) φ
  exact (hv r).stays ⟨fun a x e _ _ => push_keep _ _ a x (push_keep _ _ a x e), fun _ _ _ _ q => q⟩
theorem EV.sliceTo {value e : Expr} {p pos : Pos} (h : EV C n env value m H fun a H₁ => EV C n env e m H₁ fun b H₂ => ∃ ds, LstAt a H₂ ds ∧ ds.length ≤ sizeLine ∧ ∃ k : Nat, b = .int k ∧ Φ (.lst (ds.take k)) H₂) :
    EV C n env (.Subscript value (.Slice Option.none (some e) Option.none p) pos) m H Φ := fun A s rm R => by
  refine Subscript_ (wpAny_mono (h A s rm R) (fun v s₁ q => wpAny_Slice ?_) fun _ _ x => x)
  obtain ⟨a, H₁, t₁, q₁, R₁, h₁⟩ := q
  rw [evalPart_none, evalPart_some]
  refine wpAny_pure (wpAny_mono (h₁ A s₁ rm R₁) (fun u s₂ q => wpAny_pure ?_) fun _ _ x => x)
  obtain ⟨b, H₂, t₂, q₂, R₂, ds, hd, hsz, k, rfl, φ⟩ := q
  cases q₂
  exact wpAny_mono (slice_ (f := fun l => l.take k) R₂ (q₁.step t₂ R₁) .none (.int _ _) hd hsz φ (fun vs => slicePick_upto' _ _) (fun r => r.take k)) (fun _ _ p => (p.trans t₂).trans t₁) fun _ _ x => x
theorem EV.sliceFrom {value e : Expr} {p pos : Pos} (h : EV C n env value m H fun a H₁ => EV C n env e m H₁ fun b H₂ => ∃ ds, LstAt a H₂ ds ∧ ds.length ≤ sizeLine ∧ ∃ k : Nat, b = .int k ∧ Φ (.lst (ds.drop k)) H₂) :
    EV C n env (.Subscript value (.Slice (some e) Option.none Option.none p) pos) m H Φ := fun A s rm R => by
  refine Subscript_ (wpAny_mono (h A s rm R) (fun v s₁ q => wpAny_Slice ?_) fun _ _ x => x)
  obtain ⟨a, H₁, t₁, q₁, R₁, h₁⟩ := q
  rw [evalPart_none, evalPart_some]
  refine wpAny_mono (h₁ A s₁ rm R₁) (fun u s₂ q => wpAny_pure (wpAny_pure ?_)) fun _ _ x => x
  obtain ⟨b, H₂, t₂, q₂, R₂, ds, hd, hsz, k, rfl, φ⟩ := q
  cases q₂
  exact wpAny_mono (slice_ (f := fun l => l.drop k) R₂ (q₁.step t₂ R₁) (.int _ _) .none hd hsz φ (fun vs => slicePick_from' _ _) (fun r => r.drop k)) (fun _ _ p => (p.trans t₂).trans t₁) fun _ _ x => x

theorem O2.addT {ds es : List D} (φ : Φ (.tup (ds ++ es)) H) (hsz : ds.length + es.length ≤ sizeLine) : O2 C n env (binaryOp .Add) (.tup ds) (.tup es) m H Φ := fun A s v u rm R qa qb => by
  obtain ⟨mm, hn, hv⟩ := R.loc
  cases qa with
  | tup ht hH r =>
    cases qb with
    | tup ht' hH' r' =>
      rename_i a vs b ws
      refine wide (add_tuples (hsz := by rw [r.length, r'.length]; exact hsz) (R.fr hn) (news0 C _ _) ht ht' (fun e hw => ?_) (fun _ e hw => ?_) fun _ _ h' F' N' hw => ?_)
      · subst e; cases r; exact PV.here R (.tup ht' hH' r') φ
      · subst e; cases r'; rw [List.append_nil] at φ; exact PV.here R (.tup ht hH r) φ
      · obtain ⟨R', t⟩ := R.kept (s' := { s with heap := h' }) hv F'.ns (R.newsKeep F' N' fun p hp => .tail _ hp) hw rfl rfl
        exact ⟨_, H, t, .tup ⟨_, (N' _ (.head _)).1, rfl, _, rfl⟩ (R.new (Nat.le_refl _)) ((r.append r').stays (t.stays R)), R', φ⟩
theorem O2.addL {ds es : List D} (φ : Φ (.lst (ds ++ es)) H) (hsz : ds.length + es.length ≤ sizeLine) : O2 C n env (binaryOp .Add) (.lst ds) (.lst es) m H Φ := fun A s v u rm R qa qb => by
  obtain ⟨mm, hn, hv⟩ := R.loc
  cases qa with
  | lst ht hH r =>
    cases qb with
    | lst ht' hH' r' =>
      rename_i a vs b ws
      refine wide (add_lists (hsz := by rw [r.length, r'.length]; exact hsz) (R.fr hn) (news0 C _ _) ht ht' fun h' F' N' hw => ?_)
      obtain ⟨R', t⟩ := R.kept (s' := { s with heap := h' }) hv F'.ns (R.newsKeep F' N' fun p hp => .tail _ hp) hw rfl rfl
      exact ⟨_, H, t, .lst ⟨_, (N' _ (.head _)).1, rfl, _, rfl⟩ (R.new (Nat.le_refl _)) ((r.append r').stays (t.stays R)), R', φ⟩

/-- an object that is told of turns -/
theorem RelH.change (R : RelH C H s) {a : Addr} {o o' : AO} (ha : H a = some o) {h' : Heap} (hs : Heap.SameBut a s.heap h') (q : Stays s.heap h' H (upd H a o') → Rep C h' (upd H a o') a o') (k : Nat) :
    RelH C (upd H a o') { s with heap := h', toks := k } ∧ Stays s.heap h' H (upd H a o') ∧ ∀ own, Step own H (upd H a o') s { s with heap := h', toks := k } := by
  have ne : ∀ b, H b = none → b ≠ a := fun b e z => by subst z; rw [ha] at e; cases e
  have st : Stays s.heap h' H (upd H a o') := ⟨fun b o e _ n => same_keep hs b o (ne b n) e, fun b _ _ _ n => by rw [upd_ne (ne b n)]; exact n⟩
  refine ⟨⟨fun b o e => same_keep hs b o (ne b (R.baseOff e)) (R.base b o e), ?_, fun b h => ?_, fun b x e => ?_, R.gens, R.os⟩, st, fun own => ⟨fun b o e n _ => same_keep hs b o (ne b n) e, ?_, fun b h => ?_, rfl, rfl⟩⟩
  · show _ ≤ h'.objs.size; rw [hs.1]; exact R.size
  · by_cases z : b = a
    · subst z; exact R.fresh b (by rw [ha]; exact fun q => nomatch q)
    · exact R.fresh b (by rwa [upd_ne z] at h)
  · by_cases z : b = a
    · subst z; rw [upd_same] at e; cases e; exact q st
    · rw [upd_ne z] at e; exact Rep.stays st (fun y e => same_keep hs b y z e) (R.objs b x e)
  · show _ ≤ h'.objs.size; rw [hs.1]; exact Nat.le_refl _
  · by_cases z : b = a
    · subst z; exact .inl (by rw [ha]; exact fun q => nomatch q)
    · exact .inl (by rwa [upd_ne z] at h)
/-- behind what leaves the frame's own alone -/
theorem Rel.after (R : Rel C env m H s) (R' : RelH C H' s') (x : Step (fun _ => False) H H' s s') : Rel C env m H' s' where
  toRelH := R'
  ok := R.ok
  loc := by
    obtain ⟨mm, ⟨o, es, ep, e, r⟩, hv⟩ := R.loc
    refine ⟨mm, ⟨o, es, ep, x.keep _ _ e (R.out _ (.inl rfl)).1 (fun q => q), r⟩, fun y d e q => ?_⟩
    obtain ⟨v, a, b⟩ := hv y d e q
    exact ⟨v, a, b.stays x.stays0⟩
  cell y c h := by
    obtain ⟨ov, o, e, d⟩ := R.cell y c h
    exact ⟨ov, o, x.keep _ _ e (R.out _ (.inr ⟨y, h⟩)).1 (fun q => q), d⟩
  cellv y d c e q l := by
    obtain ⟨v, ⟨o, e', dd⟩, b⟩ := R.cellv y d c e q l
    exact ⟨v, ⟨o, x.keep _ _ e' (R.out _ (.inr ⟨y, l⟩)).1 (fun q => q), dd⟩, b.stays x.stays0⟩
  kinds := R.kinds
  out a h := by
    refine ⟨Classical.byContradiction fun q => (x.dom a q).elim (fun z => z (R.out a h).1) fun z => ?_, (R.out a h).2⟩
    have l : a < s.heap.objs.size := by
      rcases h with rfl | ⟨y, hy⟩
      · obtain ⟨mm, h1, _⟩ := R.loc; exact h1.lt
      · obtain ⟨ov, o, e, _⟩ := R.cell y a hy; exact Heap.lt_size e
    exact Nat.lt_irrefl _ (Nat.lt_of_lt_of_le l z)
theorem Step.any {own : Addr → Prop} (x : Step (fun _ => False) H H' s s') : Step own H H' s s' := x.weaken fun _ _ q => q.elim

/-- the call of a value, from a frame -/
noncomputable def OC (C : Cx) (n : Nat) (env : Env) (f : Value) (as : List D) (m : Loc) (H : AH) (Φ : D → AH → Prop) : Prop :=
  ∀ A s vs, Room n A → Rel C env m H s → VRs s.heap H vs as → wpAny (model C.prog C.w) A (call f vs) (PV C env m H s Φ) NoE s
theorem OC.of {f : Value} {as : List D} (h : CL C n f as H Φ) : OC C n env f as m H Φ := fun A s vs rm R q => by
  refine wpAny_call (codeAny_mono (h A s vs rm R.toRelH q) fun r s' p => ?_)
  obtain ⟨v, d, H', rfl, t, qv, R', φ⟩ := p
  exact ⟨d, H', t.any, qv, R.after R' t, φ⟩

/-- who keeps what is handed to a call: what callWith asks -/
noncomputable def Keepy (C : Cx) (f : Value) : Prop := ∀ h, C.K.In h → ∃ k, (k = Keeper.frame ∨ k = Keeper.machine ∨ k = Keeper.boundFrame) ∧ Looks (model C.prog C.w) h (keeperOf f) k
theorem Keepy.type (T : String) : Keepy C (.type T) := fun h _ => ⟨.machine, .inr (.inl rfl), Looks.of_pure rfl⟩
theorem Keepy.builtin (T : String) : Keepy C (.builtin T) := fun h _ => ⟨.machine, .inr (.inl rfl), Looks.of_pure rfl⟩
theorem Keepy.ref {f : Value} (h : keepIn C.K f = true) : Keepy C f := fun x X => keeps_K h x X

theorem starEach_plain {es : List Expr} (h : es.all (fun | .Starred .. => false | _ => true) = true) {pos : Pos} : (backTo pos (starEach es env)).any (·.1) = false := by
  induction es with
  | nil => rfl
  | cons e es ih =>
    simp only [List.all_cons, Bool.and_eq_true] at h
    have : starEach (e :: es) env = (false, eval e env) :: starEach es env := by cases e <;> first | rfl | (simp at h)
    rw [this]
    show (false || (backTo pos (starEach es env)).any (·.1)) = false
    rw [ih h.2]; rfl
theorem Rel.keeps (R : Rel C env m H s) : C.K.In s.heap := fun a o e => R.base a o (C.X a o e)
theorem callWith_ {A : Around} {f : Value} {first : List Value} {args : List Expr} {pos : Pos} {Q : Value → Shared → Prop} (hk : Keepy C f) (hne : args ≠ []) (h : wpAny (model C.prog C.w) A (spliced (backTo pos (starEach args env))) (fun vs s₁ => C.K.In s₁.heap ∧ wpAny (model C.prog C.w) A (call f (first ++ vs)) Q NoE s₁) NoE s)
    (hp : args.all (fun | .Starred .. => false | _ => true) = true) : wpAny (model C.prog C.w) A (callWith pos f first (backTo pos (starEach args env)) []) Q NoE s := by
  cases args with
  | nil => exact absurd rfl hne
  | cons e es =>
    have he : starEach (e :: es) env = (false, eval e env) :: starEach es env := by
      simp only [List.all_cons, Bool.and_eq_true] at hp
      cases e <;> first | rfl | (simp at hp)
    refine callWith_of (P := C.K.In) (by rw [starEach_plain hp]; rfl) hk ?_
    rw [he] at h ⊢
    exact Calls.evalArgs_plain h
theorem callWith0 {A : Around} {f : Value} {first : List Value} {pos : Pos} {Q : Value → Shared → Prop} (hk : Keepy C f) (hX : C.K.In s.heap) (h : wpAny (model C.prog C.w) A (call f (first ++ [])) Q NoE s) :
    wpAny (model C.prog C.w) A (callWith pos f first (backTo pos (starEach [] env)) []) Q NoE s := callWith_of (P := C.K.In) rfl hk (evalArgs_nil3 ⟨hX, h⟩)

/-- f(..), f a name -/
theorem EV.call {x : Str} {p pos : Pos} {args : List Expr} {f : Value} (h : EV C n env (.Name x p) m H fun a H₁ => a = .val f ∧ ES C n env pos args m H₁ fun ds H₂ => OC C n env f ds m H₂ Φ) (hk : Keepy C f) (hne : args ≠ [] := by simp)
    (hp : args.all (fun | .Starred .. => false | _ => true) = true := by rfl) : EV C n env (.Call (.Name x p) args [] pos) m H Φ := fun A s rm R => by
  refine wpAny_Call_NameR (wpAny_mono (h A s rm R) (fun v s₁ q => callWith_ ?_ hne ?_ hp) fun _ _ x => x)
  · obtain ⟨a, H₁, t₁, q₁, R₁, rfl, h₁⟩ := q
    cases q₁; exact hk
  · obtain ⟨a, H₁, t₁, q₁, R₁, rfl, h₁⟩ := q
    cases q₁
    refine wpAny_mono (h₁ A s₁ rm R₁) (fun vs s₂ q => ?_) fun _ _ x => x
    obtain ⟨ds, H₂, t₂, q₂, R₂, h₂⟩ := q
    exact ⟨R₂.keeps, wpAny_mono (h₂ A s₂ vs rm R₂ q₂) (fun _ _ p => (p.trans t₂).trans t₁) fun _ _ x => x⟩
theorem EV.call0 {x : Str} {p pos : Pos} {f : Value} (h : EV C n env (.Name x p) m H fun a H₁ => a = .val f ∧ OC C n env f [] m H₁ Φ) (hk : Keepy C f) : EV C n env (.Call (.Name x p) [] [] pos) m H Φ := fun A s rm R => by
  refine wpAny_Call_NameR (wpAny_mono (h A s rm R) (fun v s₁ q => ?_) fun _ _ x => x)
  obtain ⟨a, H₁, t₁, q₁, R₁, rfl, h₁⟩ := q
  cases q₁
  exact callWith0 hk R₁.keeps (wpAny_mono (h₁ A s₁ [] rm R₁ .nil) (fun _ _ p => p.trans t₁) fun _ _ x => x)

/-- the call of a method of a value -/
noncomputable def MC (C : Cx) (n : Nat) (env : Env) (pos : Pos) (a : D) (name : Str) (args : List Expr) (m : Loc) (H : AH) (Φ : D → AH → Prop) : Prop :=
  ∀ A s v pl, Room n A → Rel C env m H s → VR s.heap H v a → wpAny (model C.prog C.w) A (getMethod v name pl) (fun fx s₁ => wpAny (model C.prog C.w) A (callWith pos fx.1 fx.2 (backTo pos (starEach args env)) []) (PV C env m H s Φ) NoE s₁) NoE s
theorem EV.method {o : Expr} {name : Str} {apos pos : Pos} {args : List Expr} {pl : Sem Bool} (h : EV C n env o m H fun a H₁ => MC C n env pos a name args m H₁ Φ)
    (he : eval (.Call (.Attribute o name apos) args [] pos) env = (do
      let ov ← eval o env
      standAt apos.atName
      let (f, first) ← holding [ov] (getMethod ov name pl)
      callWith pos f first (backTo pos (starEach args env)) []) := by rfl) : EV C n env (.Call (.Attribute o name apos) args [] pos) m H Φ := fun A s rm R => by
  refine MethodCall_ (pl := pl) (wpAny_mono (h A s rm R) (fun v s₁ q => ?_) fun _ _ x => x) he
  obtain ⟨a, H₁, t₁, q₁, R₁, h₁⟩ := q
  exact wpAny_mono (h₁ A s₁ v pl rm R₁ q₁) (fun fx s₂ p => wpAny_mono p (fun _ _ p => p.trans t₁) fun _ _ x => x) fun _ _ x => x

theorem MC.append {pos : Pos} {l : Addr} {ds₀ : List D} {e : Expr} (h0 : H l = some (.list ds₀)) (h : EV C n env e m H fun d H₁ => ∃ ds, H₁ l = some (.list ds) ∧ ds.length ≤ sizeLine ∧ Φ .none (upd H₁ l (.list (ds ++ [d]))))
    (hp : [e].all (fun | .Starred .. => false | _ => true) = true := by rfl) : MC C n env pos (.ref l) "append" [e] m H Φ := fun A s v pl rm R q => by
  cases q
  obtain ⟨vs, ⟨j, hl⟩, r⟩ := R.objs l _ h0
  refine Calls.getMethod_list_append hl rfl rfl (callWith_ (C := C) (Keepy.builtin _) (by simp) ?_ hp)
  have hh : ES C n env pos [e] m H fun ds₁ H₁ => ∃ d, ds₁ = [d] ∧ ∃ ds, H₁ l = some (.list ds) ∧ ds.length ≤ sizeLine ∧ Φ .none (upd H₁ l (.list (ds ++ [d]))) :=
    ES.cons (h.mono fun d H' x => ES.nil ⟨d, rfl, x⟩) (by simp only [List.all_cons, Bool.and_eq_true] at hp; cases e <;> first | rfl | (simp at hp))
  refine wpAny_mono (hh A s rm R) (fun ws s₁ q => ?_) fun _ _ x => x
  obtain ⟨ds₁, H₁, t₁, q₁, R₁, d, rfl, ds, e1, e2, φ⟩ := q
  cases q₁ with
  | cons qd qn =>
    cases qn
    obtain ⟨us, hu, ru⟩ := R₁.objs l _ e1
    refine ⟨R₁.keeps, wpAny_list_append_plain hu (fun h' hl' hs' => ?_) (by rw [List.size_toArray, ru.length]; exact e2)⟩
    have ch := R₁.toRelH.change (o' := .list (ds ++ [d])) e1 hs' (fun st => ⟨us ++ [_], by simpa using hl', (ru.append (.one qd)).stays st⟩) s₁.toks
    exact PV.trans t₁ ⟨.none, _, (ch.2.2 _), .none, R₁.after ch.1 (ch.2.2 _), φ⟩
theorem MC.pop {pos : Pos} {l : Addr} {ds : List D} {d : D} (h0 : H l = some (.list (ds ++ [d]))) (hsz : ds.length + 1 ≤ sizeLine) (φ : Φ d (upd H l (.list ds))) : MC C n env pos (.ref l) "pop" [] m H Φ := fun A s v pl rm R q => by
  cases q
  obtain ⟨vs, ⟨j, hl⟩, r⟩ := R.objs l _ h0
  obtain ⟨ws, x, rfl, rw_, rx⟩ := r.unsnoc
  have hy : (ws ++ [x]).toArray[(ws ++ [x]).toArray.size - 1]? = some x := by simp
  have hz : (ws ++ [x]).toArray.size ≤ sizeLine := by simp [rw_.length]; exact hsz
  refine getMethod_builtin ⟨_, hl, rfl⟩ PySem.F.plainAttrs_list PySem.F.slot_list_pop (by kernel_rfl) (fun a e => by cases e; exact ⟨_, hl, rfl⟩) ?_
  refine callWith0 (C := C) (Keepy.builtin _) R.keeps (call_meets PySem.F.slot_list_pop ⟨_, hl, rfl⟩ PySem.F.entry_list_pop (PySem.F.args_list_pop_1 _) (PySem.MeetsSeq.list_pop_last l _ j x hy hz) ⟨hl, ?_⟩)
  have ch := R.toRelH.change (o' := .list ds) h0 (Heap.SameBut.update s.heap l (Obj.mapSeq fun xs => xs.eraseIdxIfInBounds ((ws ++ [x]).toArray.size - 1))) (fun st => ⟨ws, ?_, rw_.stays st⟩) s.toks
  · exact ⟨d, _, ch.2.2 _, rx.stays ch.2.1, R.after ch.1 (ch.2.2 _), φ⟩
  · have q := PySem.IsL.update hl fun xs => xs.eraseIdxIfInBounds ((ws ++ [x]).toArray.size - 1)
    have e : (ws ++ [x]).toArray.eraseIdxIfInBounds ((ws ++ [x]).toArray.size - 1) = ws.toArray := by
      have hk : (ws ++ [x]).toArray.size - 1 = ws.length := by simp
      rw [hk, kl_erase, List.append_nil]
    rw [e] at q
    exact ⟨_, q⟩
end
end Mine

open PySem PySem.W PyProof.Rows
set_option Elab.async false
set_option linter.unusedVariables false
namespace Mine

section
variable {C : Cx} {n : Nat} {env : Env} {m : Loc} {H H' : AH} {s s' : Shared} {sc : Scope} {Φ : D → AH → Prop}

theorem cellsFrom_only {x : Str} : ∀ (names : List (Str × NameKind)) (k : Nat) (acc : List (Str × Addr)), ((cellsFrom k names acc).lookup x).isSome = true → (x, NameKind.cell) ∈ names ∨ (acc.lookup x).isSome = true
  | [], _, _, h => .inr h
  | (y, kd) :: r, k, acc, h => by
    unfold cellsFrom at h
    by_cases q : (kd == NameKind.cell) = true
    · rw [if_pos q] at h
      rcases cellsFrom_only r _ _ h with h | h
      · exact .inl (.tail _ h)
      · by_cases e : x = y
        · subst e; have := beq_iff_eq.mp q; subst this; exact .inl (.head _)
        · have : (x == y) = false := by simpa using e
          rw [List.lookup_cons, this] at h; exact .inr h
    · rw [if_neg q] at h
      exact (cellsFrom_only r _ _ h).imp (.tail _) id
theorem lookup_of_mem_nodup {x : Str} {k : NameKind} : ∀ {names : List (Str × NameKind)}, (names.map (·.1)).Nodup → (x, k) ∈ names → names.lookup x = some k
  | (y, kd) :: r, hn, h => by
    rw [List.map_cons, List.nodup_cons] at hn
    rw [List.lookup_cons]
    rcases List.mem_cons.mp h with e | h
    · cases e; simp
    · have : x ≠ y := fun e => hn.1 (List.mem_map.mpr ⟨_, h, e⟩)
      have : (x == y) = false := by simpa using this
      rw [this]; exact lookup_of_mem_nodup hn.2 h

theorem lookup_none_of_nodup {x : Str} {α : Type} : ∀ {l : List (Str × α)}, x ∉ l.map (·.1) → l.lookup x = none
  | [], _ => rfl
  | (y, v) :: r, h => by
    rw [List.map_cons, List.mem_cons, not_or] at h
    have : (x == y) = false := by simpa using h.1
    rw [List.lookup_cons, this]; exact lookup_none_of_nodup h.2
theorem bindL_eq (k : Str → Option NameKind) : ∀ (binds : List (Str × Value)) (base : Str → Option Value) (x : Str), (binds.map (·.1)).Nodup → k x = some .local →
    bindL k binds base x = match binds.lookup x with | some v => some v | none => base x
  | [], _, _, _, _ => rfl
  | (y, v) :: r, base, x, hn, hk => by
    rw [List.map_cons, List.nodup_cons] at hn
    rw [bindL, bindL_eq k r _ x hn.2 hk, List.lookup_cons]
    by_cases e : x = y
    · subst e
      rw [lookup_none_of_nodup hn.1, if_pos hk]; simp
    · have h1 : (x == y) = false := by simpa using e
      rw [h1]
      cases r.lookup x with
      | some w => rfl
      | none => dsimp only; split <;> simp [e]
theorem bindC_eq (k : Str → Option NameKind) : ∀ (binds : List (Str × Value)) (base : Str → Option Value) (x : Str), (binds.map (·.1)).Nodup → k x ≠ some .local →
    bindC k binds base x = match binds.lookup x with | some v => some v | none => base x
  | [], _, _, _, _ => rfl
  | (y, v) :: r, base, x, hn, hk => by
    rw [List.map_cons, List.nodup_cons] at hn
    rw [bindC, bindC_eq k r _ x hn.2 hk, List.lookup_cons]
    by_cases e : x = y
    · subst e
      rw [lookup_none_of_nodup hn.1, if_neg hk]; simp
    · have h1 : (x == y) = false := by simpa using e
      rw [h1]
      cases r.lookup x with
      | some w => rfl
      | none => dsimp only; split <;> simp [e]
theorem zip_lookup {h : Heap} {x : Str} {d : D} : ∀ {names : List Str} {vs : List Value} {as : List D}, VRs h H vs as → (names.zip as).lookup x = some d → ∃ v, (names.zip vs).lookup x = some v ∧ VR h H v d
  | [], _, _, _, e => by simp at e
  | _ :: _, _, _, .nil, e => by simp at e
  | y :: ns, _, _, .cons (v := v) q r, e => by
    rw [List.zip_cons_cons, List.lookup_cons] at e ⊢
    by_cases z : x = y
    · subst z; simp at e ⊢; subst e; exact q
    · have h1 : (x == y) = false := by simpa using z
      rw [h1] at e ⊢; exact zip_lookup r e
theorem zip_map_fst : ∀ {names : List Str} {vs : List Value}, names.length = vs.length → (names.zip vs).map (·.1) = names
  | [], _, _ => rfl
  | _ :: _, [], h => by simp at h
  | y :: ns, v :: vs, h => by rw [List.zip_cons_cons, List.map_cons, zip_map_fst (by simpa using h)]

set_option genInjectivity false in
set_option genSizeOf false in
structure FnRec where
  oc : Value
  od : Option Addr
  osl : Array (Option Value)
  name : Str
  qual : Str
  params : Arguments
  dV : Value
  kV : Value
  doc : Value
  pm : Value
  an : Option Addr
  cdv : Value
  ct : Value
abbrev FnRec.fd (r : FnRec) (body : List Stmt) (scope : Scope) : FuncData := fnOf r.name r.qual r.params body scope r.dV r.kV r.doc r.pm r.an r.cdv r.ct
theorem all0 {P : List Value → Prop} (h : P []) : ∀ vs : List Value, vs.length = 0 → P vs
  | [], _ => h
theorem allS {P : List Value → Prop} {n : Nat} (h : ∀ a, ∀ vs : List Value, vs.length = n → P (a :: vs)) : ∀ vs : List Value, vs.length = n + 1 → P vs
  | a :: vs, e => h a vs (Nat.succ.inj e)
/-- a name of the text's own defs: its record in the heap -/
structure DefAt (C : Cx) (f : Addr) (names : List Str) (body : List Stmt) (scope : Scope) : Prop where
  at_ : ∃ r : FnRec, C.K.lookup f = some ⟨r.oc, r.od, .func (r.fd body scope), r.osl⟩ ∧ codeIn C.K r.cdv r.qual = true ∧
    ∀ vs : List Value, vs.length = names.length → bindArgs (r.fd body scope) ⟨vs, []⟩ = pure (names.zip vs)
  nodup : names.Nodup
  scNodup : (scope.names.map (·.1)).Nodup
  store : names.all (storable scope) = true
  noFree : scope.names.all (fun x => x.2 != .free) = true
  kind : scope.kind = .function
  plain : scope.isCoroutine = false ∧ scope.isGenerator = false

theorem CL.def {f : Addr} {names : List Str} {body : List Stmt} {scope : Scope} {as : List D} (h : DefAt C f names body scope) (hl : names.length = as.length)
    (hb : ∀ env, env.scope = scope → XS C n env body (names.zip as) H (fun fl _ H' => match fl with | .ret d => Φ d H' | .next => Φ .none H' | _ => False)) : CL C (n + 1) (.ref f) as H Φ := fun A s vs rm R q => by
  obtain ⟨r, hK, hcd, hbind⟩ := h.at_
  have hX : C.K.In s.heap := fun a o e => R.base a o (C.X a o e)
  have hlen : vs.length = names.length := by rw [q.length, hl]
  have hzip : ((names.zip vs).map (·.1)) = names := zip_map_fst hlen.symm
  refine codeAny_call_cells (fd := r.fd body scope) (body := body) (binds := names.zip vs) rm.depth (hX _ _ hK) rfl (C.hl.keeps R.base) (codeRec_of hX hcd) rfl (hbind vs hlen) rfl (fun x hx => ?_) (fun s₁ I => ?_) h.plain.1 h.plain.2 h.kind
  · have hm : x.1 ∈ names := by rw [← hzip]; exact List.mem_map_of_mem hx
    have hs := List.all_eq_true.mp h.store _ hm
    unfold storable at hs
    split at hs
    · rename_i e; exact .inl e
    · rename_i e; exact .inr ⟨e, cellsFrom_some _ _ _ (.inl e)⟩
    · cases hs
  · generalize hE : callEnvC (r.fd body scope) s.heap.objs.size f = env at I ⊢
    have hloc : env.locals = s.heap.objs.size := by rw [← hE]; rfl
    have hsc : env.scope = scope := by rw [← hE]; rfl
    have hcells : env.cells = cellsFrom (s.heap.objs.size + 1) scope.names [] := by rw [← hE]; rfl
    obtain ⟨h₁, tk, rfl, hk⟩ := I.done
    have hw : s.heap.objs.size ≤ h₁.objs.size := by
      have := I.toInCall.ns.lt; rw [hloc] at this; exact Nat.le_of_lt this
    have st : Stays s.heap h₁ H H := ⟨fun a o e _ _ => hk a o e, fun _ _ _ _ q => q⟩
    have R₁ : RelH C H { s with heap := h₁, toks := tk } := R.grown hk hw rfl rfl
    have hkind : ∀ x d, (names.zip as).lookup x = some d → env.kindOf x = some .local ∨ (env.kindOf x = some .cell ∧ ∃ c, env.cells.lookup x = some c) := fun x d e => by
      have hm : x ∈ names := by
        obtain ⟨v, hv, _⟩ := zip_lookup (H := H) (h := s.heap) q e
        have : x ∈ (names.zip vs).map (·.1) := by
          refine Classical.byContradiction fun z => ?_
          rw [lookup_none_of_nodup z] at hv; cases hv
        rwa [hzip] at this
      have hs := List.all_eq_true.mp h.store _ hm
      have hkx : env.kindOf x = scope.names.lookup x := by unfold Env.kindOf; rw [hsc]
      unfold storable at hs
      split at hs
      · rename_i e; exact .inl (hkx.trans e)
      · rename_i e; exact .inr ⟨hkx.trans e, by rw [hcells]; exact Option.isSome_iff_exists.mp (cellsFrom_some _ _ _ (.inl e))⟩
      · cases hs
    have rel : Rel C env (names.zip as) H { s with heap := h₁, toks := tk } := by
      refine ⟨R₁, ⟨by rw [hsc]; exact h.kind, by rw [← hE]; rfl, by rw [← hE]; rfl, I.apart, fun x hx => ?_⟩, ⟨_, I.toInCall.ns, fun x d e kx => ?_⟩, fun x c e => ⟨_, I.cell x c e⟩, fun x d c e kx ec => ?_, fun x d e => ?_, fun a ha => ?_⟩
      · have hkx : env.kindOf x = scope.names.lookup x := by unfold Env.kindOf; rw [hsc]
        rw [hkx] at hx
        rcases hx with hx | hx
        · rw [hcells]; exact Option.isSome_iff_exists.mp (cellsFrom_some _ _ _ (.inl hx))
        · have hm : (x, NameKind.free) ∈ scope.names := mem_lookup hx
          have := List.all_eq_true.mp h.noFree _ hm
          simp at this
      · obtain ⟨v, hv, qv⟩ := zip_lookup q e
        refine ⟨v, ?_, qv.stays st⟩
        rw [bindL_eq _ _ _ _ (by rw [hzip]; exact h.nodup) kx, hv]
      · obtain ⟨v, hv, qv⟩ := zip_lookup q e
        refine ⟨v, ?_, qv.stays st⟩
        have := I.cell x c ec
        rw [bindC_eq _ _ _ _ (by rw [hzip]; exact h.nodup) kx, hv] at this
        exact this
      · rcases hkind x d e with k | ⟨k, c⟩
        · exact .inl k
        · exact .inr ⟨.inl k, c⟩
      · have hge : s.heap.objs.size ≤ a := by
          rcases ha with rfl | ⟨x, hx⟩
          · rw [hloc]; exact Nat.le_refl _
          · have := I.above x a (mem_lookup hx); rw [hloc] at this; exact Nat.le_of_lt this
        exact ⟨R.new hge, Nat.le_trans R.size hge⟩
    refine wpAny_mono (hb env hsc _ _ rm.deeper rel) (fun f' s₂ p => ?_) fun _ _ x => x.elim
    obtain ⟨fl, m', H', t, qf, R₂, φ⟩ := p
    have t0 : Step (fun _ => False) H H' s s₂ := by
      refine ⟨fun a o e hn _ => t.keep a o (hk a o e) hn fun ha => ?_, Nat.le_trans hw t.size, fun a ha => (t.dom a ha).imp id (Nat.le_trans hw), t.gens, t.os⟩
      have hge : s.heap.objs.size ≤ a := by
        rcases ha with rfl | ⟨x, hx⟩
        · rw [hloc]; exact Nat.le_refl _
        · have := I.above x a (mem_lookup hx); rw [hloc] at this; exact Nat.le_of_lt this
      exact Nat.lt_irrefl _ (Nat.lt_of_lt_of_le (Heap.lt_size e) hge)
    cases qf with
    | next => exact ⟨_, _, H', rfl, t0, .none, R₂.toRelH, φ⟩
    | ret qv => exact ⟨_, _, H', rfl, t0, qv, R₂.toRelH, φ⟩
    | brk => exact φ.elim
    | cont => exact φ.elim
end
end Mine

open PySem PySem.W PyProof.Rows
set_option Elab.async false
set_option linter.unusedVariables false
set_option maxRecDepth 100000
namespace Mine

section
variable {C : Cx} {n : Nat} {env : Env} {m : Loc} {H H' : AH} {s s' : Shared} {sc : Scope} {Φ : D → AH → Prop}

noncomputable def setL (x : Str) (d : D) : Loc → Loc
  | [] => [(x, d)]
  | (y, e) :: r => if y = x then (y, d) :: r else (y, e) :: setL x d r
theorem ents_isStr {x y : Str} {t : Tok} : (Value.str y t).isStr x = (x == y) := by
  show (y == x) = (x == y)
  by_cases h : x = y
  · subst h; rfl
  · have h1 : (x == y) = false := by simpa using h
    have h2 : (y == x) = false := by simpa using Ne.symm h
    rw [h1, h2]
theorem EntsAre.getL_none {P : Params} {h : Heap} {x : Str} : ∀ {es : List DictEntry} {m : Loc}, EntsAre P h H es m → m.lookup x = none → getL x es = some none
  | _, _, .nil, _ => rfl
  | _, _, .cons (x := y) (t := t) (v := v) (es := es) q r, e => by
    rw [List.lookup_cons] at e
    cases z : x == y with
    | true => rw [z] at e; cases e
    | false =>
      rw [z] at e
      have ih := r.getL_none e
      unfold getL at ih ⊢
      rw [List.find?_cons]
      have : (Value.str y t).isStr x = false := by rw [ents_isStr, z]
      simp only [this]
      have hr : ({ hash := PyData.keyHash P y, key := Value.str y t, val := v } : DictEntry).refKey = false := rfl
      rw [List.any_cons, hr, Bool.false_or]
      exact ih
theorem EntsAre.getL_some {P : Params} {h : Heap} {x : Str} {d : D} : ∀ {es : List DictEntry} {m : Loc}, EntsAre P h H es m → m.lookup x = some d → ∃ v, getL x es = some (some v) ∧ VR h H v d
  | _, _, .cons (x := y) (t := t) (v := v) (es := es) q r, e => by
    rw [List.lookup_cons] at e
    cases z : x == y with
    | true =>
      rw [z] at e; cases e
      refine ⟨v, ?_, q⟩
      unfold getL
      have : (Value.str y t).isStr x = true := by rw [ents_isStr, z]
      rw [List.find?_cons]; simp only [this]
    | false =>
      rw [z] at e
      obtain ⟨u, h1, h2⟩ := r.getL_some e
      refine ⟨u, ?_, h2⟩
      unfold getL at h1 ⊢
      have : (Value.str y t).isStr x = false := by rw [ents_isStr, z]
      rw [List.find?_cons]; simp only [this]
      have hr : ({ hash := PyData.keyHash P y, key := Value.str y t, val := v } : DictEntry).refKey = false := rfl
      rw [List.any_cons, hr, Bool.false_or]
      exact h1
theorem EntsAre.put {P : Params} {h : Heap} {x : Str} {d : D} {v : Value} {tk : Tok} (q : VR h H v d) : ∀ {es : List DictEntry} {m : Loc}, EntsAre P h H es m → EntsAre P h H (putL x (PyData.keyHash P x) (.str x tk) v es) (setL x d m)
  | _, _, .nil => .cons q .nil
  | _, _, .cons (x := y) (t := t) (v := u) (es := es) q' r => by
    unfold putL setL
    by_cases z : y = x
    · subst z
      have : (Value.str y t).isStr y = true := by rw [ents_isStr]; simp
      simp only [this, if_true]
      exact .cons q r
    · have h1 : (x == y) = false := by simpa using Ne.symm z
      have : (Value.str y t).isStr x = false := by rw [ents_isStr, h1]
      simp only [this, Bool.false_eq_true, if_false, z]
      exact .cons q' (r.put q)
theorem EntsAre.length {P : Params} {h : Heap} : ∀ {es : List DictEntry} {m : Loc}, EntsAre P h H es m → es.length = m.length
  | _, _, .nil => rfl
  | _, _, .cons _ r => by rw [List.length_cons, List.length_cons, r.length]

theorem Rel.inst (R : Rel C env m H s) {x dd : Addr} {mm : Loc} (hx : H x = some (.inst dd)) (hd : H dd = some (.ns mm)) :
    ∃ es k, InstAt s.heap x (instObj C.cls dd) C.cls (some (dictOf es k)) ∧ EntsAre C.w.params s.heap H es mm := by
  obtain ⟨es, k, h1, h2⟩ := R.objs dd _ hd
  exact ⟨es, k, ⟨R.objs x _ hx, rfl, rfl, h1⟩, h2⟩

structure MethAt (C : Cx) (name : Str) (f : Addr) : Prop where
  get : plainGet C.K C.cls name = true
  find : findIn C.K (.ref C.cls) name = some (some (.ref f))
  fn : isFn C.K (.ref f) = true
  keep : keepIn C.K (.ref f) = true
theorem MC.meth {pos : Pos} {x dd f : Addr} {name : Str} {mm : Loc} {args : List Expr} (hx : H x = some (.inst dd)) (hd : H dd = some (.ns mm)) (hm : mm.lookup name = none) (hM : MethAt C name f)
    (h : ES C n env pos args m H fun ds H₁ => OC C n env (.ref f) (.ref x :: ds) m H₁ Φ) (hne : args ≠ [] := by simp) (hp : args.all (fun | .Starred .. => false | _ => true) = true := by rfl) :
    MC C n env pos (.ref x) name args m H Φ := fun A s v pl rm R q => by
  cases q
  obtain ⟨mm', hn, _⟩ := R.loc
  obtain ⟨es, k, I, E⟩ := R.inst hx hd
  refine method_inst (R.fr hn) C.X I hM.get hM.find hM.fn (E.getL_none hm) (callWith_ (Keepy.ref hM.keep) hne ?_ hp)
  refine wpAny_mono (h A s rm R) (fun vs s₂ q => ?_) fun _ _ x => x
  obtain ⟨ds, H₂, t₂, q₂, R₂, h₂⟩ := q
  exact ⟨R₂.keeps, wpAny_mono (h₂ A s₂ (.ref x :: vs) rm R₂ (.cons (.ref x) q₂)) (fun _ _ p => p.trans t₂) fun _ _ x => x⟩
theorem MC.meth0 {pos : Pos} {x dd f : Addr} {name : Str} {mm : Loc} (hx : H x = some (.inst dd)) (hd : H dd = some (.ns mm)) (hm : mm.lookup name = none) (hM : MethAt C name f)
    (h : OC C n env (.ref f) [.ref x] m H Φ) : MC C n env pos (.ref x) name [] m H Φ := fun A s v pl rm R q => by
  cases q
  obtain ⟨mm', hn, _⟩ := R.loc
  obtain ⟨es, k, I, E⟩ := R.inst hx hd
  exact method_inst (R.fr hn) C.X I hM.get hM.find hM.fn (E.getL_none hm) (callWith0 (Keepy.ref hM.keep) R.keeps (h A s [.ref x] rm R (.one (.ref x))))

structure AttrAt (C : Cx) (name : Str) : Prop where
  get : plainGet C.K C.cls name = true
  dict : hasDictIn C.K C.cls = true
  find : ∃ attr, findIn C.K (.ref C.cls) name = some attr ∧ noGet C.K attr = true
  setter : findIn C.K (.ref C.cls) "__setattr__" = some (some (.builtin "object.__setattr__"))
  over : plainOver C.K C.cls = true
  taker : takerIn C.K C.cls name = some none
noncomputable def D.plain : D → Bool
  | .val _ => false
  | _ => true
theorem VR.handed {h : Heap} {v : Value} {d : D} (q : VR h H v d) (hp : d.plain = true) : handedIn v = true := by
  cases q <;> first | rfl | cases hp
theorem EV.attr {o : Expr} {name : Str} {pos : Pos} (h : EV C n env o m H fun a H₁ => ∃ x dd mm d, a = .ref x ∧ H₁ x = some (.inst dd) ∧ H₁ dd = some (.ns mm) ∧ mm.lookup name = some d ∧ d.plain = true ∧ AttrAt C name ∧ Φ d H₁)
    (he : eval (.Attribute o name pos) env = (do
      let ov ← eval o env
      standAt pos.atName
      let r ← holding [ov] (getAttr ov name true)
      letTemporaryGo o ov r
      pure r) := by with_unfolding_all rfl) : EV C n env (.Attribute o name pos) m H Φ := fun A s rm R => by
  refine Attribute_any_ (wpAny_mono (h A s rm R) (fun v s₁ q => ?_) fun _ _ x => x) he
  obtain ⟨a, H₁, t₁, q₁, R₁, x, dd, mm, d, rfl, hx, hd, hl, hp, hA, φ⟩ := q
  cases q₁
  obtain ⟨mm', hn, _⟩ := R₁.loc
  obtain ⟨es, k, I, E⟩ := R₁.inst hx hd
  obtain ⟨v, h1, h2⟩ := E.getL_some hl
  obtain ⟨attr, f1, f2⟩ := hA.find
  exact get_own (R₁.fr hn) C.X I hA.get hA.dict f1 f2 h1 (h2.handed hp) (PV.trans t₁ (PV.toks R₁ h2 φ))

theorem setL_length (x : Str) (d : D) : ∀ mm : Loc, (setL x d mm).length ≤ mm.length + 1
  | [] => by simp [setL]
  | (y, e) :: r => by
    unfold setL
    split
    · simp
    · have := setL_length x d r; simp; omega
theorem X1.setAttr {o e : Expr} {name : Str} {p pos : Pos} {Φ : FL → Loc → AH → Prop} (h : EV C n env e m H fun d H₁ => EV C n env o m H₁ fun a H₂ => ∃ x dd mm, a = .ref x ∧ H₂ x = some (.inst dd) ∧ H₂ dd = some (.ns mm) ∧ mm.length < 100 ∧ AttrAt C name ∧
      Φ .next m (upd H₂ dd (.ns (setL name d mm)))) (hs : ∀ env, swapsWith e (some (.Attribute o name p)) pos.line env = pure false := by intro _; rfl) :
    X1 C n env (.Assign [.Attribute o name p] e pos) m H Φ := fun A s rm R => by
  refine plainObj_wpAny_Assign_Attribute (wpAny_mono (h A s rm R) (fun v s₁ q => ?_) fun _ _ x => x) (hs env)
  obtain ⟨d, H₁, t₁, q₁, R₁, h₁⟩ := q
  refine wpAny_mono (h₁ A s₁ rm R₁) (fun u s₂ q => ?_) fun _ _ x => x
  obtain ⟨a, H₂, t₂, q₂, R₂, x, dd, mm, rfl, hx, hd, hlen, hA, φ⟩ := q
  cases q₂
  have qv := q₁.step t₂ R₁
  obtain ⟨mm', hn, hv⟩ := R₂.loc
  obtain ⟨es, k, I, E⟩ := R₂.inst hx hd
  obtain ⟨_, _, hdd, _⟩ := R₂.objs dd _ hd
  have hlb : C.base.get? dd = none := by
    cases z : C.base.get? dd with
    | none => rfl
    | some o' => exact absurd (R₂.baseOff z) (by rw [hd]; exact fun q => nomatch q)
  have hdL : dd ≠ env.locals := fun z => by have := (R₂.out _ (.inl rfl)).1; rw [← z, hd] at this; cases this
  have hI : s₂.heap.get? dd = some (dictOf es k) := I.dict
  have hl : (getL name es).isSome = true := by
    cases z : mm.lookup name with
    | none => rw [E.getL_none z]; rfl
    | some d' => obtain ⟨v', e', _⟩ := E.getL_some z; rw [e']; rfl
  have N : News C.base env.locals s₂.heap ((dd, dictOf es k) :: nw C s₂.heap [env.locals, dd]) := fun p hp => by
    rcases List.mem_cons.mp hp with rfl | hp
    · exact ⟨hI, hdL, hlb⟩
    · obtain ⟨a, b, c⟩ := mem_nw.mp hp
      exact ⟨b, fun z => a (by rw [z]; exact .head _), c⟩
  refine wide (set_dict (R₂.fr hn) C.X N I rfl hA.setter hA.over hA.taker hA.dict hl rfl (.head fun p hp z => (mem_nw.mp hp).1 (by rw [z]; exact .tail _ (.head _))) ?_ fun h' F' N' hw => ?_)
  · have := (E.put (tk := s₂.toks + 1) (x := name) qv).length
    have e2 := setL_length name d mm
    omega
  have kept : ∀ b o, b ≠ env.locals → b ≠ dd → s₂.heap.get? b = some o → h'.get? b = some o := fun b o n1 n2 e => by
    cases z : C.base.get? b with
    | some o' => have := R₂.base b o' z; rw [e] at this; cases this; exact F'.keep b o z
    | none => exact (N' (b, o) (.tail _ (mem_nw.mpr ⟨by simp [n1, n2], e, z⟩))).1
  have st : Stays s₂.heap h' H₂ (upd H₂ dd (.ns (setL name d mm))) := ⟨fun b o e q nb => kept b o (fun z => R₂.own_noseq (.inl z) e q) (fun z => by rw [z, hd] at nb; cases nb) e, fun b _ _ _ nb => by
    rw [upd_ne (fun z => by rw [z, hd] at nb; cases nb)]; exact nb⟩
  have t₃ : Step (Own env) H₂ (upd H₂ dd (.ns (setL name d mm))) s₂ { s₂ with heap := h', toks := s₂.toks + 2 } := ⟨fun b o e nb no => kept b o (fun z => no (.inl z)) (fun z => by rw [z, hd] at nb; cases nb) e, hw, fun b hb => by
    by_cases z : b = dd
    · subst z; exact .inl (by rw [hd]; exact fun q => nomatch q)
    · exact .inl (by rwa [upd_ne z] at hb), rfl, rfl⟩
  have R₃ : Rel C env m (upd H₂ dd (.ns (setL name d mm))) { s₂ with heap := h', toks := s₂.toks + 2 } := by
    refine ⟨⟨F'.keep, Nat.le_trans R₂.size hw, fun b hb => ?_, fun b o e => ?_, R₂.gens, R₂.os⟩, R₂.ok, ⟨mm', F'.ns, fun y d' e q => ?_⟩, fun y c e => ?_, fun y d' c e q l => ?_, R₂.kinds, fun b hb => ?_⟩
    · by_cases z : b = dd
      · subst z; exact R₂.fresh b (by rw [hd]; exact fun q => nomatch q)
      · exact R₂.fresh b (by rwa [upd_ne z] at hb)
    · by_cases z : b = dd
      · subst z; rw [upd_same] at e; cases e
        exact ⟨_, _, (N' _ (.head _)).1, (E.put qv).stays st⟩
      · rw [upd_ne z] at e
        exact Rep.stays st (fun y q => kept b y (fun w => by have := (R₂.out _ (.inl rfl)).1; rw [← w, e] at this; cases this) z q) (R₂.objs b o e)
    · obtain ⟨v', a, b⟩ := hv y d' e q; exact ⟨v', a, b.stays st⟩
    · obtain ⟨ov, o, e', dd'⟩ := R₂.cell y c e
      exact ⟨ov, o, kept c o (R₂.locals_ne_cell e) (fun z => by have := (R₂.out c (.inr ⟨y, e⟩)).1; rw [z, hd] at this; cases this) e', dd'⟩
    · obtain ⟨v', ⟨o, e', dd'⟩, b⟩ := R₂.cellv y d' c e q l
      exact ⟨v', ⟨o, kept c o (R₂.locals_ne_cell l) (fun z => by have := (R₂.out c (.inr ⟨y, l⟩)).1; rw [z, hd] at this; cases this) e', dd'⟩, b.stays st⟩
    · have z : b ≠ dd := fun w => by have := (R₂.out b hb).1; rw [w, hd] at this; cases this
      exact ⟨by rw [upd_ne z]; exact (R₂.out b hb).1, (R₂.out b hb).2⟩
  exact ⟨_, m, _, (t₁.trans t₂).trans t₃, .next, R₃, φ⟩

/-- a[i] = v -/
noncomputable def SI (C : Cx) (n : Nat) (env : Env) (a i v : D) (m : Loc) (H : AH) (Φ : AH → Prop) : Prop :=
  ∀ A s va vi vv, Room n A → Rel C env m H s → VR s.heap H va a → VR s.heap H vi i → VR s.heap H vv v → wpAny (model C.prog C.w) A (setItem va vi vv) (fun _ s' => ∃ H', Step (Own env) H H' s s' ∧ Rel C env m H' s' ∧ Φ H') NoE s
theorem X1.setItem {o i e : Expr} {p pos : Pos} {Φ : FL → Loc → AH → Prop} (h : EV C n env e m H fun d H₁ => EV C n env o m H₁ fun a H₂ => EV C n env i m H₂ fun b H₃ => SI C n env a b d m H₃ (Φ .next m))
    (hs : ∀ env, swapsWith e (some (.Subscript o i p)) pos.line env = pure false := by intro _; rfl) : X1 C n env (.Assign [.Subscript o i p] e pos) m H Φ := fun A s rm R => by
  refine wpAny_Assign_Subscript (wpAny_mono (h A s rm R) (fun v s₁ q => ?_) fun _ _ x => x) (hs env)
  obtain ⟨d, H₁, t₁, q₁, R₁, h₁⟩ := q
  refine wpAny_mono (h₁ A s₁ rm R₁) (fun u s₂ q => ?_) fun _ _ x => x
  obtain ⟨a, H₂, t₂, q₂, R₂, h₂⟩ := q
  refine wpAny_mono (h₂ A s₂ rm R₂) (fun w s₃ q => ?_) fun _ _ x => x
  obtain ⟨b, H₃, t₃, q₃, R₃, h₃⟩ := q
  refine wpAny_mono (h₃ A s₃ u w v rm R₃ (q₂.step t₃ R₂) q₃ ((q₁.step t₂ R₁).step t₃ R₂)) (fun _ s₄ q => ?_) fun _ _ x => x
  obtain ⟨H₄, t₄, R₄, φ⟩ := q
  exact ⟨_, m, H₄, ((t₁.trans t₂).trans t₃).trans t₄, .next, R₄, φ⟩
/-- the store into a plain list leaves it plain -/
theorem setPlain {A : Around} {l : Addr} {vs : List Value} {k : Int} {t : Tok} {v : Value} {Q : Unit → Shared → Prop} (hl : s.heap.PlainList l vs.toArray) (h0 : 0 ≤ k) (hk : k.toNat < vs.length) (hf : k < 2 ^ 63)
    (h : ∀ h', h'.PlainList l (vs.set k.toNat v).toArray → Heap.SameBut l s.heap h' → Q () { s with heap := h' }) : wpAny (model C.prog C.w) A (setItem (.ref l) (.int k t) v) Q NoE s := by
  obtain ⟨j, hp⟩ := id hl
  have hT : s.TypeIs (.ref l) "list" := hl.isList.typeIs
  unfold setItem
  refine wpAny_holding (wpAny_bind (wpAny_sequenceKey hT (by decide) (wpAny_bind (wpAny_callSpecial?_slot (name := Str.ofString "__setitem__") hT slot_list_setitem
    (wpAny_call_entry slot_list_setitem hT entry_list_setitem ?_ (args_list_setitem _ _ _))))))
  show wpAny _ _ (Builtin.List.listSubscript? (.int k t) >>= _) _ _ s
  refine wpAny_bind (wpAny_listSubscript_int (fitsIndex_of h0 hf) ?_)
  clear hf
  obtain ⟨i, rfl⟩ := Int.eq_ofNat_of_zero_le h0
  have hi : i < vs.length := hk
  have item : vs.toArray[i]? = some vs[i] := by simp [hi]
  have fin : (s.heap.update l (Obj.mapSeq (·.setIfInBounds i v))).PlainList l (vs.set i v).toArray := by
    have q := PySem.IsL.update hp fun xs => xs.setIfInBounds i v
    rw [List.setIfInBounds_toArray] at q
    exact ⟨_, q⟩
  show wpAny _ _ ((seqItemAt l i >>= fun r => pure (r.map (i, ·))) >>= _) _ _ s
  refine wpAny_bind (wpAny_bind (wpAny_seqItemAt hp rfl (wpAny_pure ?_)))
  rw [item]
  show wpAny _ _ (setSeqItemAt l i v >>= _) _ _ s
  refine wpAny_bind (wpAny_setSeqItemAt hp rfl ?_)
  first
    | exact wpAny_bind (wpAny_pure (wpAny_pure ⟨.none, rfl, wpAny_pure (h _ fin (Heap.SameBut.update ..))⟩))
    | exact wpAny_pure ⟨.none, rfl, wpAny_pure (h _ fin (Heap.SameBut.update ..))⟩
theorem SI.list {l : Addr} {ds : List D} {k : Int} {v : D} {Φ : AH → Prop} (hl : H l = some (.list ds)) (h0 : 0 ≤ k) (h1 : k.toNat < ds.length) (h2 : k < 2 ^ 63) (φ : Φ (upd H l (.list (ds.set k.toNat v)))) : SI C n env (.ref l) (.int k) v m H Φ := fun A s va vi vv rm R qa qi qv => by
  cases qa; cases qi
  obtain ⟨vs, ht, r⟩ := R.objs l _ hl
  refine setPlain ht h0 (by rw [r.length]; exact h1) h2 fun h' ht' hs => ?_
  have ch := R.toRelH.change (o' := .list (ds.set k.toNat v)) hl hs (fun st => ⟨_, ht', (VRs.set qv _ r).stays st⟩) s.toks
  exact ⟨_, ch.2.2 _, R.after ch.1 (ch.2.2 _), φ⟩
theorem SI.idict {l : Addr} {j : Nat} {k : Int} {v : D} {Φ : AH → Prop} (hl : H l = some (.idict j)) (hj : j ≤ sizeLine) (φ : Φ (upd H l (.idict (j + 1)))) : SI C n env (.ref l) (.int k) v m H Φ := fun A s va vi vv rm R qa qi qv => by
  cases qa; cases qi
  obtain ⟨f, hf, hle⟩ := R.objs l _ hl
  refine wpAny_setItem_intMap_le hf hle hj fun h' hf' hle' hs => ?_
  have ch := R.toRelH.change (o' := .idict (j + 1)) hl hs (fun _ => ⟨_, hf', hle'⟩) (s.toks + 1)
  exact ⟨_, ch.2.2 _, R.after ch.1 (ch.2.2 _), φ⟩
end
end Mine

open PySem PySem.W PyProof.Rows
set_option Elab.async false
set_option linter.unusedVariables false
set_option maxRecDepth 100000
namespace Mine

section
variable {C : Cx} {n : Nat} {env : Env} {m : Loc} {H H' : AH} {s s' : Shared} {sc : Scope} {Φ : D → AH → Prop}

theorem stored_kv {h : Heap} {x : Str} {v : Value} {d : D} (q : VR h H v d) : ∀ {kvs : List (Str × Value)} {mm : Loc}, kvs.map (·.1) = mm.map (·.1) → VRs h H (kvs.map (·.2)) (mm.map (·.2)) → (kvs.map (·.1)).Nodup →
    (stored kvs x v).map (·.1) = (setL x d mm).map (·.1) ∧ VRs h H ((stored kvs x v).map (·.2)) ((setL x d mm).map (·.2))
  | [], [], _, _, _ => ⟨rfl, .cons q .nil⟩
  | (y, u) :: r, (z, e) :: mm, e1, e2, hn => by
    rw [List.map_cons, List.map_cons, List.cons.injEq] at e1
    obtain ⟨e0, e1⟩ := e1
    have e0 : y = z := e0
    subst e0
    rw [List.map_cons, List.map_cons] at e2
    rw [List.map_cons, List.nodup_cons] at hn
    cases e2 with
    | cons q0 qr =>
      by_cases w : y = x
      · subst w
        have no : ∀ kv ∈ r, kv.1 ≠ y := fun kv hk z => hn.1 (List.mem_map.mpr ⟨kv, hk, z⟩)
        have id' : r.map (fun kv : Str × Value => if kv.1 = y then (kv.1, v) else kv) = r := by
          rw [show r = r.map id by simp]
          simp only [List.map_map]
          exact List.map_congr_left fun kv hk => by simp [no kv hk]
        unfold stored setL
        simp only [List.any_cons, decide_true, Bool.true_or, if_true, List.map_cons, id']
        exact ⟨by rw [e1], .cons q qr⟩
      · obtain ⟨i1, i2⟩ := stored_kv q e1 qr hn.2
        have hs : stored ((y, u) :: r) x v = (y, u) :: stored r x v := by
          unfold stored
          have : decide (y = x) = false := by simpa using w
          simp only [List.any_cons, this, Bool.false_or, List.map_cons]
          rw [if_neg w]
          split <;> rfl
        have hl : setL x d ((y, e) :: mm) = (y, e) :: setL x d mm := by
          rw [setL, if_neg w]
        rw [hs, hl]
        exact ⟨by rw [List.map_cons, List.map_cons, i1], .cons q0 i2⟩
theorem SI.smap {l : Addr} {mm : Loc} {x : Str} {v : D} {Φ : AH → Prop} (hl : H l = some (.smap mm)) (hz : mm.length ≤ 100) (φ : Φ (upd H l (.smap (setL x v mm)))) : SI C n env (.ref l) (.str x) v m H Φ := fun A s va vi vv rm R qa qi qv => by
  cases qa; cases qi
  obtain ⟨kvs, hf, e1, e2⟩ := R.objs l _ hl
  have hn : (kvs.map (·.1)).Nodup := by obtain ⟨_, _, _, _, _, _, _, _, hn⟩ := hf; exact hn
  have hlen : kvs.length = mm.length := by have := congrArg List.length e1; simpa using this
  refine wpAny_setItem_pairs (k := x) (hsz := by rw [hlen, sizeLine_eq]; omega) (by simp [PySem.strKind, Value.isStrOf]) hf fun h' hf' hs => ?_
  obtain ⟨i1, i2⟩ := stored_kv (x := x) qv e1 e2 hn
  have ch := R.toRelH.change (o' := .smap (setL x v mm)) hl hs (fun st => ⟨_, hf', i1, i2.stays st⟩) (s.toks + 1)
  exact ⟨_, ch.2.2 _, R.after ch.1 (ch.2.2 _), φ⟩

/-- telling of an object that stands, no list and no tuple -/
theorem Rel.adopt (R : Rel C env m H s) {a : Addr} {o : AO} {b : Obj} (hn : H a = none) (ho : ¬ Own env a) (hb : C.base.objs.size ≤ a) (hg : s.heap.get? a = some b) (hq : ¬ ∃ vs n, b.data = .seq vs n) {h' : Heap} (hs : Heap.SameBut a s.heap h')
    (q : Rep C h' (upd H a o) a o) (k : Nat) : Rel C env m (upd H a o) { s with heap := h', toks := k } := by
  have st : Stays s.heap h' H (upd H a o) := by
    have ne : ∀ c x, s.heap.get? c = some x → (∃ vs n, x.data = .seq vs n) → c ≠ a := fun c x e sq z => by subst z; rw [hg] at e; cases e; exact hq sq
    exact ⟨fun c x e sq _ => same_keep hs c x (ne c x e sq) e, fun c x e sq n => by rw [upd_ne (ne c x e sq)]; exact n⟩
  refine ⟨⟨fun c x e => same_keep hs c x (fun z => ?_) (R.base c x e), ?_, fun c h => ?_, fun c x e => ?_, R.gens, R.os⟩, R.ok, ?_, fun y c e => ?_, fun y d c e z l => ?_, R.kinds, fun c h => ?_⟩
  · subst z; exact Nat.lt_irrefl _ (Nat.lt_of_lt_of_le (Heap.lt_size e) hb)
  · show _ ≤ h'.objs.size; rw [hs.1]; exact R.size
  · by_cases z : c = a
    · subst z; exact hb
    · exact R.fresh c (by rwa [upd_ne z] at h)
  · by_cases z : c = a
    · subst z; rw [upd_same] at e; cases e; exact q
    · rw [upd_ne z] at e; exact Rep.stays st (fun y e => same_keep hs c y z e) (R.objs c x e)
  · obtain ⟨mm, h1, h2⟩ := R.loc
    refine ⟨mm, h1.sameBut hs (fun z => ho (.inl z.symm)), fun x d e z => ?_⟩
    obtain ⟨v, i1, i2⟩ := h2 x d e z
    exact ⟨v, i1, i2.stays st⟩
  · obtain ⟨ov, x, e', d⟩ := R.cell y c e
    exact ⟨ov, x, same_keep hs c x (fun z => ho (.inr ⟨y, by rw [← z]; exact e⟩)) e', d⟩
  · obtain ⟨v, ⟨x, e', dd⟩, i2⟩ := R.cellv y d c e z l
    exact ⟨v, ⟨x, same_keep hs c x (fun z => ho (.inr ⟨y, by rw [← z]; exact l⟩)) e', dd⟩, i2.stays st⟩
  · have z : c ≠ a := fun z => ho (z ▸ h)
    exact ⟨by rw [upd_ne z]; exact (R.out c h).1, (R.out c h).2⟩

theorem EV.dict0 {pos : Pos} (φ : ∀ a, H a = Option.none → Φ (.ref a) (upd H a (.idict 0))) : EV C n env (.Dict [] [] pos) m H Φ := fun A s rm R => by
  refine wpAny_Dict_empty ⟨.ref _, _, Step.add (push_keep _ _) (push_size _ _) rfl rfl (Nat.le_refl _), .ref _, ?_, φ _ (R.new (Nat.le_refl _))⟩
  exact R.add (push_keep _ _) (push_size _ _) rfl rfl (Nat.le_refl _) ⟨_, Heap.IntMap.new _, Heap.DictLe.new _⟩
theorem EV.dict2 {x y : Str} {j k : Nat} {p q pos : Pos} {e f : Expr} (hxy : x ≠ y) (h : EV C n env e m H fun a H₁ => EV C n env f m H₁ fun b H₂ => ∀ l, H₂ l = Option.none → Φ (.ref l) (upd H₂ l (.smap [(x, a), (y, b)]))) :
    EV C n env (.Dict [some (.Constant (.str x) j p), some (.Constant (.str y) k q)] [e, f] pos) m H Φ := fun A s rm R => by
  refine wpAny_Dict_walk (knd := PySem.strKind C.prog C.w) rfl rfl (by simp) (by simp) ?_
  have R0 : Rel C env m H { s with heap := s.heap.push { cls := .type "dict", data := .dict #[] } } := R.grown (push_keep _ _) (push_size _ _) rfl rfl
  have t0 : Step (Own env) H H s { s with heap := s.heap.push { cls := .type "dict", data := .dict #[] } } := Step.grown (s' := { s with heap := s.heap.push { cls := .type "dict", data := .dict #[] } }) (push_keep _ _) (push_size _ _) rfl rfl
  have hnew := R.new (Nat.le_refl s.heap.objs.size)
  have hno : ¬ Own env s.heap.objs.size := fun z => by
    have : s.heap.objs.size < s.heap.objs.size := by
      rcases z with z | ⟨y, hy⟩
      · obtain ⟨mm, h1, _⟩ := R.loc; rw [← z] at h1; exact h1.lt
      · obtain ⟨ov, o, e, _⟩ := R.cell y _ hy; exact Heap.lt_size e
    exact Nat.lt_irrefl _ this
  refine pairTrees_cons_walk (wpAny_Constant_str (wpAny_mono (h A _ rm R0.toks) (fun v s₁ P => pairTrees_cons_walk (wpAny_Constant_str ?_)) fun _ _ x => x))
  obtain ⟨a, H₁, t₁, q₁, R₁, h₁⟩ := P
  have tk : Step (Own env) H₁ H₁ s₁ { s₁ with toks := s₁.toks + 1 } := Step.grown (s := s₁) (s' := { s₁ with toks := s₁.toks + 1 }) (fun _ _ e => e) (Nat.le_refl _) rfl rfl
  refine wpAny_mono (h₁ A _ rm R₁.toks) (fun u s₂ P => pairTrees_nil_walk ?_) fun _ _ x => x
  obtain ⟨b, H₂, t₂, q₂, R₂, h₂⟩ := P
  have e0 : (s.heap.push { cls := .type "dict", data := .dict #[] }).get? s.heap.objs.size = some { cls := .type "dict", data := .dict #[] } := Heap.get?_push_size _ rfl
  have e1 := t₁.keep _ _ e0 hnew hno
  have n1 : H₁ s.heap.objs.size = Option.none := Classical.byContradiction fun z => (t₁.dom _ z).elim (fun w => w hnew) fun w => by
    rw [show ({ s with heap := s.heap.push { cls := .type "dict", data := .dict #[] }, toks := s.toks + 1 } : Shared).heap.objs.size = s.heap.objs.size + 1 from Heap.size_push _ _] at w; omega
  have e2 := t₂.keep _ _ e1 n1 hno
  have n2 : H₂ s.heap.objs.size = Option.none := Classical.byContradiction fun z => (t₂.dom _ z).elim (fun w => w n1) fun w => by
    have := Heap.lt_size e1; exact Nat.lt_irrefl _ (Nat.lt_of_lt_of_le this w)
  have T : Step (Own env) H H₂ s s₂ := t0.trans ((Step.grown (s := { s with heap := s.heap.push { cls := .type "dict", data := .dict #[] } }) (s' := { s with heap := s.heap.push { cls := .type "dict", data := .dict #[] }, toks := s.toks + 1 }) (fun _ _ e => e) (Nat.le_refl _) rfl rfl).trans (t₁.trans (tk.trans t₂)))
  refine ⟨[(x, v), (y, u)], ⟨by simp [PySem.strKind, Value.isStrOf], rfl, by simp [PySem.strKind, Value.isStrOf], rfl, trivial⟩, ?_, fun h' hd hs => ?_⟩
  · exact ⟨_, #[], 0, e2, ⟨rfl, rfl, rfl⟩, rfl, fun _ he => by simp at he, .nil, .nil⟩
  · have hm : merged ([] : List (Str × Value)) [(x, v), (y, u)] = [(x, v), (y, u)] := by
      simp [merged, stored, hxy]
    rw [hm] at hd
    have st : Stays s₂.heap h' H₂ (upd H₂ s.heap.objs.size (.smap [(x, a), (y, b)])) := by
      have ne : ∀ c z, s₂.heap.get? c = some z → (∃ vs n, z.data = .seq vs n) → c ≠ s.heap.objs.size := fun c z e sq w => by
        subst w; rw [e2] at e; cases e; obtain ⟨_, _, q⟩ := sq; cases q
      exact ⟨fun c z e sq _ => same_keep hs c z (ne c z e sq) e, fun c z e sq n => by rw [upd_ne (ne c z e sq)]; exact n⟩
    have R₃ := R₂.adopt (o := .smap [(x, a), (y, b)]) n2 hno R.size e2 (fun ⟨_, _, q⟩ => nomatch q) hs ⟨_, hd, rfl, .cons ((q₁.step (tk.trans t₂) R₁).stays st) (.cons (q₂.stays st) .nil)⟩ (s₂.toks + 2)
    refine ⟨.ref _, _, ⟨fun c z e n o => ?_, ?_, fun c hc => ?_, T.gens, T.os⟩, .ref _, R₃, h₂ _ n2⟩
    · exact same_keep hs c z (Nat.ne_of_lt (Heap.lt_size e)) (T.keep c z e n o)
    · show _ ≤ h'.objs.size; rw [hs.1]; exact T.size
    · by_cases z : c = s.heap.objs.size
      · subst z; exact .inr (Nat.le_refl _)
      · rw [upd_ne z] at hc; exact T.dom c hc

/-- a new thing of the text's class -/
theorem OC.new {fI : Addr} (hm : makesIn C.K C.cls = true) (hi : findIn C.K (.ref C.cls) "__init__" = some (some (.ref fI))) (hf : isFn C.K (.ref fI) = true)
    (h : ∀ x dd, H x = Option.none → H dd = Option.none → x ≠ dd → CL C n (.ref fI) [.ref x] (upd (upd H dd (.ns [])) x (.inst dd)) fun r H' => r = .none ∧ Φ (.ref x) H') : OC C (n + 2) env (.ref C.cls) [] m H Φ := fun A s vs rm R q => by
  cases q
  obtain ⟨hh, g, dr, t, os⟩ := s
  have hX : C.K.In hh := fun a o e => R.base a o (C.X a o e)
  have n0 := R.new (Nat.le_refl hh.objs.size)
  have n1 := R.new (show (Shared.mk hh g dr t os).heap.objs.size ≤ hh.objs.size + 1 from Nat.le_succ _)
  refine wpAny_call (make_core (makes_of hX hm) (looks_findIn hX hi) (fun self => bind_fn hX self (beq_iff_eq.mp hf)) (.inl rfl) ?_)
  have s1 : (hh.push emptyDict).objs.size = hh.objs.size + 1 := Heap.size_push _ _
  have k1 : ∀ b o, hh.get? b = some o → ((hh.push emptyDict).push (instObj C.cls hh.objs.size)).get? b = some o := fun b o e => push_keep _ _ b o (push_keep _ _ b o e)
  have w1 : hh.objs.size ≤ ((hh.push emptyDict).push (instObj C.cls hh.objs.size)).objs.size := Nat.le_trans (push_size _ _) (push_size _ _)
  have gd : ((hh.push emptyDict).push (instObj C.cls hh.objs.size)).get? hh.objs.size = some emptyDict := push_keep _ _ _ _ (Heap.get?_push_size _ rfl)
  have gx : ((hh.push emptyDict).push (instObj C.cls hh.objs.size)).get? (hh.objs.size + 1) = some (instObj C.cls hh.objs.size) := by rw [← s1]; exact Heap.get?_push_size _ rfl
  have Ra := R.add (s' := ⟨hh.push emptyDict, g, dr, t, os⟩) (a := hh.objs.size) (o := .ns []) (push_keep _ _) (push_size _ _) rfl rfl (Nat.le_refl _) ⟨[], 0, Heap.get?_push_size _ rfl, .nil⟩
  have Rb := Ra.add (s' := ⟨(hh.push emptyDict).push (instObj C.cls hh.objs.size), g, dr, t, os⟩) (a := hh.objs.size + 1) (o := .inst hh.objs.size) (push_keep _ _) (push_size _ _) rfl rfl (by show (hh.push emptyDict).objs.size ≤ _; rw [s1]; exact Nat.le_refl _) gx
  have T : Step (Own env) H (upd (upd H hh.objs.size (.ns [])) (hh.objs.size + 1) (.inst hh.objs.size)) ⟨hh, g, dr, t, os⟩ ⟨(hh.push emptyDict).push (instObj C.cls hh.objs.size), g, dr, t, os⟩ := by
    refine ⟨fun a o e _ _ => k1 a o e, w1, fun a ha => ?_, rfl, rfl⟩
    by_cases z : a = hh.objs.size + 1
    · subst z; exact .inr (Nat.le_succ _)
    · rw [upd_ne z] at ha
      by_cases y : a = hh.objs.size
      · subst y; exact .inr (Nat.le_refl _)
      · rw [upd_ne y] at ha; exact .inl ha
  have rm' : Room n (A.under (.builtin "type.__call__" ⟨[.ref C.cls], []⟩)) := by
    refine ⟨rm.1, ?_, ?_⟩
    · show A.depth + (Code.builtin "type.__call__" ⟨[.ref C.cls], []⟩).weight + n < _
      have : (Code.builtin "type.__call__" ⟨[.ref C.cls], []⟩).weight = 1 := rfl
      rw [this]; have := rm.2.1; omega
    · show A.units + (Code.builtin "type.__call__" ⟨[.ref C.cls], []⟩).cUnits + 20 * n < _
      have : (Code.builtin "type.__call__" ⟨[.ref C.cls], []⟩).cUnits = 1 := rfl
      rw [this]; have := rm.2.2; omega
  refine codeAny_mono (h _ _ n1 n0 (Nat.succ_ne_self _) _ _ [.ref (hh.objs.size + 1)] rm' Rb.toRelH (.one (.ref _))) fun r s' p => ?_
  obtain ⟨v, d, H', rfl, t, qv, R', rfl, φ⟩ := p
  cases qv
  exact ⟨rfl, .ref _, H', T.trans t.any, .ref _, Rb.after R' t, φ⟩
end
end Mine

open PySem PySem.W PyProof.Rows
set_option Elab.async false
set_option linter.unusedVariables false
set_option maxRecDepth 100000
namespace Mine

section
variable {C : Cx} {n : Nat} {env : Env} {m : Loc} {H H' : AH} {s s' : Shared} {sc : Scope} {Φ : D → AH → Prop}

theorem PV.kept {v : Value} {d : D} {h' : Heap} {tk : Nat} (R : Rel C env m H s) (k : ∀ b o, s.heap.get? b = some o → h'.get? b = some o) (hw : width s ≤ width { s with heap := h', toks := tk }) (q : VR h' H v d) (φ : Φ d H) : PV C env m H s Φ v { s with heap := h', toks := tk } :=
  PV.grown R k hw rfl rfl q φ

noncomputable def IsInts (ds : List D) (ns : List Int) : Prop := ds = ns.map D.int
theorem VRs.ints {h : Heap} : ∀ {vs : List Value} {ns : List Int}, VRs h H vs (ns.map D.int) → IntsAre vs ns
  | [], [], _ => .nil
  | _ :: _, n :: ns, .cons q r => by cases q; exact .cons _ _ r.ints
  | _ :: _, [], q => by cases q
  | [], _ :: _, q => by cases q
theorem ints_vr {h : Heap} : ∀ {vs : List Value} {ns : List Int}, IntsAre vs ns → VRs h H vs (ns.map D.int)
  | _, _, .nil => .nil
  | _, _, .cons n t r => .cons (.int n t) (ints_vr r)

theorem OC.one {f : Value} {a : D} (h : ∀ A s v, Room n A → Rel C env m H s → VR s.heap H v a → wpAny (model C.prog C.w) A (call f [v]) (PV C env m H s Φ) NoE s) : OC C n env f [a] m H Φ := fun A s vs rm R q => by
  cases q with | cons q r => cases r; exact h A s _ rm R q
theorem OC.two {f : Value} {a b : D} (h : ∀ A s v u, Room n A → Rel C env m H s → VR s.heap H v a → VR s.heap H u b → wpAny (model C.prog C.w) A (call f [v, u]) (PV C env m H s Φ) NoE s) : OC C n env f [a, b] m H Φ := fun A s vs rm R q => by
  cases q with | cons q r => cases r with | cons q' r => cases r; exact h A s _ _ rm R q q'

theorem OC.lenT {ds : List D} (φ : Φ (.int ds.length) H) (hsz : ds.length ≤ sizeLine) : OC C n env (.builtin "len") [.tup ds] m H Φ := OC.one fun A s v rm R q => by
  cases q with
  | tup ht hn r =>
    refine len_tuple ht ?_ ?_
    · rw [List.size_toArray, r.length]; rw [sizeLine_eq] at hsz; omega
    · rw [List.size_toArray, r.length]; exact PV.toks R (.int _ _) φ
theorem OC.lenL {a : D} {ds : List D} (ha : LstAt a H ds) (φ : Φ (.int ds.length) H) (hsz : ds.length ≤ sizeLine) : OC C n env (.builtin "len") [a] m H Φ := OC.one fun A s v rm R q => by
  have : ∃ (l : Addr) (vs : List Value), v = .ref l ∧ s.heap.IsList l vs.toArray ∧ VRs s.heap H vs ds := by
    rcases ha with rfl | ⟨l, rfl, hl⟩
    · cases q with | lst ht _ r => exact ⟨_, _, rfl, ht, r⟩
    · cases q; obtain ⟨vs, ht, r⟩ := R.objs l _ hl; exact ⟨_, _, rfl, ht.isList, r⟩
  obtain ⟨l, vs, rfl, ht, r⟩ := this
  refine Calls.call_len_list ht ?_ ?_
  · rw [List.size_toArray, r.length]; rw [sizeLine_eq] at hsz; omega
  · rw [List.size_toArray, r.length]; exact PV.toks R (.int _ _) φ

theorem OC.sumL {ns : List Int} (φ : Φ (.int ns.sum) H) : OC C n env (.builtin "sum") [.lst (ns.map D.int)] m H Φ := OC.one fun A s v rm R q => by
  cases q with
  | lst ht hn r =>
    rename_i l vs
    have hi := r.ints
    obtain ⟨xs, e⟩ := hi.allInts.items
    have hns : ns = xs.toList.map (·.1) := by rw [← hi.numsOf, ← nums_intItems, ← e]
    rw [e] at ht
    refine wide (sum_intListG rm.1 ht fun h' tk t' hk hw => ?_)
    rw [preSum_eq, List.take_of_length_le (by simp), ← hns]
    exact PV.kept R hk hw (.int _ _) φ
theorem OC.maxL {ns : List Int} (hne : ns ≠ []) (φ : ∀ M, M ∈ ns → (∀ a ∈ ns, a ≤ M) → Φ (.int M) H) : OC C n env (.builtin "max") [.lst (ns.map D.int)] m H Φ := OC.one fun A s v rm R q => by
  obtain ⟨mm, hn, hv⟩ := R.loc
  cases q with
  | lst ht hH r =>
    refine wide (max_list_N rm.1 (R.fr hn) (news0 C _ _) ht r.ints (List.length_pos_iff.mpr hne) fun h' M t tk F' N' h1 h2 hw => ?_)
    obtain ⟨R', t⟩ := R.kept (s' := { s with heap := h', toks := tk }) hv F'.ns (R.newsKeep F' N' fun p hp => hp) hw rfl rfl
    exact ⟨_, H, t, .int _ _, R', φ M h1 h2⟩
theorem OC.minL {ns : List Int} (hne : ns ≠ []) (φ : ∀ M, M ∈ ns → (∀ a ∈ ns, M ≤ a) → Φ (.int M) H) : OC C n env (.builtin "min") [.lst (ns.map D.int)] m H Φ := OC.one fun A s v rm R q => by
  obtain ⟨mm, hn, hv⟩ := R.loc
  cases q with
  | lst ht hH r =>
    refine wide (min_list_N rm.1 (R.fr hn) (news0 C _ _) ht r.ints (List.length_pos_iff.mpr hne) fun h' M t tk F' N' h1 h2 hw => ?_)
    obtain ⟨R', t⟩ := R.kept (s' := { s with heap := h', toks := tk }) hv F'.ns (R.newsKeep F' N' fun p hp => hp) hw rfl rfl
    exact ⟨_, H, t, .int _ _, R', φ M h1 h2⟩
theorem OC.max2 {a b : Int} (φ : Φ (.int (max a b)) H) : OC C n env (.builtin "max") [.int a, .int b] m H Φ := OC.two fun A s v u rm R qa qb => by
  cases qa; cases qb
  refine wide (max_two_ints rm.1 fun h' tk hk hw => ?_)
  by_cases c : b > a
  · rw [if_pos c]
    have e : max a b = b := by omega
    rw [e] at φ; exact PV.kept R hk hw (.int _ _) φ
  · rw [if_neg c]
    have e : max a b = a := by omega
    rw [e] at φ; exact PV.kept R hk hw (.int _ _) φ
theorem OC.min2 {a b : Int} (φ : Φ (.int (min a b)) H) : OC C n env (.builtin "min") [.int a, .int b] m H Φ := OC.two fun A s v u rm R qa qb => by
  cases qa; cases qb
  refine wide (min_two_ints rm.1 fun h' tk hk hw => ?_)
  by_cases c : b < a
  · rw [if_pos c]
    have e : min a b = b := by omega
    rw [e] at φ; exact PV.kept R hk hw (.int _ _) φ
  · rw [if_neg c]
    have e : min a b = a := by omega
    rw [e] at φ; exact PV.kept R hk hw (.int _ _) φ
theorem OC.absI {a : Int} (φ : Φ (.int (if a < 0 then -a else a)) H) : OC C n env (.builtin "abs") [.int a] m H Φ := OC.one fun A s v rm R q => by
  cases q
  exact call_abs_int fun u tk => PV.toks R (.int _ _) φ
theorem OC.intI {a : Int} (φ : Φ (.int a) H) : OC C n env (.type "int") [.int a] m H Φ := OC.one fun A s v rm R q => by
  cases q
  exact call_int_int (PV.here R (.int _ _) φ)
theorem OC.tupleL {ds : List D} (hsz : ds.length ≤ sizeLine) (φ : Φ (.tup ds) H) : OC C n env (.type "tuple") [.lst ds] m H Φ := OC.one fun A s v rm R q => by
  cases q with
  | lst ht hn r =>
    rename_i l vs
    refine wide (call_tuple_list ht (fun h' hk hw => ?_) (by rw [List.size_toArray, r.length]; exact hsz))
    have k2 : ∀ b o, s.heap.get? b = some o → (h'.push { cls := .type "tuple", data := .seq vs.toArray }).get? b = some o := fun b o e => push_keep _ _ b o (hk b o e)
    have hno : H h'.objs.size = none := by
      cases z : H h'.objs.size with
      | none => rfl
      | some o =>
        obtain ⟨b, e⟩ := (R.objs _ _ z).lt
        exact absurd (Heap.lt_size (hk _ _ e)) (Nat.lt_irrefl _)
    exact PV.grown (s' := { s with heap := h'.push { cls := .type "tuple", data := .seq vs.toArray } }) R k2 hw rfl rfl (.tup ⟨_, Heap.get?_push_size _ rfl, rfl, _, rfl⟩ hno (r.stays ⟨fun a o e _ _ => k2 a o e, fun _ _ _ _ q => q⟩)) φ
theorem OC.tupleT {ds : List D} (φ : Φ (.tup ds) H) : OC C n env (.type "tuple") [.tup ds] m H Φ := OC.one fun A s v rm R q => by
  cases q with
  | tup ht hn r => exact call_tuple_same ht (PV.here R (.tup ht hn r) φ)
/-- list(..): of what is told, by value or as an object that will be written to -/
theorem list_call {A : Around} {E : Value → Shared → Prop} {Q : Value → Shared → Prop} {a : D} {v : Value} {ds : List D} (R : Rel C env m H s) (q : VR s.heap H v a) (ha : a = .tup ds ∨ LstAt a H ds) (hsz : ds.length ≤ sizeLine)
    (h : ∀ h' vs, (∀ b o, s.heap.get? b = some o → h'.get? b = some o) → h'.PlainList s.heap.objs.size (List.toArray vs) → VRs s.heap H vs ds → Q (.ref s.heap.objs.size) { s with heap := h' }) :
    wpAny (model C.prog C.w) A (call (.type "list") [v]) Q E s := by
  have : ∃ (l : Addr) (vs : List Value), v = .ref l ∧ (s.heap.IsTuple l vs.toArray ∨ s.heap.IsList l vs.toArray) ∧ VRs s.heap H vs ds := by
    rcases ha with rfl | rfl | ⟨l, rfl, hl⟩
    · cases q with | tup ht _ r => exact ⟨_, _, rfl, .inl ht, r⟩
    · cases q with | lst ht _ r => exact ⟨_, _, rfl, .inr ht, r⟩
    · cases q; obtain ⟨vs, ht, r⟩ := R.objs l _ hl; exact ⟨_, _, rfl, .inr ht.isList, r⟩
  obtain ⟨l, vs, rfl, ht, r⟩ := this
  have hz : vs.toArray.size ≤ sizeLine := by rw [List.size_toArray, r.length]; exact hsz
  rcases ht with ht | ht
  · obtain ⟨o, ho, hc, k, hd⟩ := ht
    exact call_list_seq (hsz := hz) l (.inr rfl) ho hc hd fun h' c' hk hD => h h' vs hk ⟨c', hD⟩ r
  · obtain ⟨o, ho, hc, k, hd⟩ := ht
    exact call_list_seq (hsz := hz) l (.inl rfl) ho hc hd fun h' c' hk hD => h h' vs hk ⟨c', hD⟩ r
theorem OC.listV {a : D} {ds : List D} (ha : a = .tup ds ∨ LstAt a H ds) (hsz : ds.length ≤ sizeLine) (φ : Φ (.lst ds) H) : OC C n env (.type "list") [a] m H Φ := OC.one fun A s v rm R q => by
  refine wide (list_call R q ha hsz fun h' vs hk hp r hw => ?_)
  exact PV.grown (s' := { s with heap := h' }) R hk hw rfl rfl (.lst hp.isList (R.new (Nat.le_refl _)) (r.stays ⟨fun a o e _ _ => hk a o e, fun _ _ _ _ q => q⟩)) φ
theorem OC.listT {a : D} {ds : List D} (ha : a = .tup ds ∨ LstAt a H ds) (hsz : ds.length ≤ sizeLine) (φ : ∀ l, H l = Option.none → Φ (.ref l) (upd H l (.list ds))) : OC C n env (.type "list") [a] m H Φ := OC.one fun A s v rm R q => by
  refine wide (list_call R q ha hsz fun h' vs hk hp r hw => ?_)
  refine ⟨.ref _, _, Step.add (s' := { s with heap := h' }) hk hw rfl rfl (Nat.le_refl _), .ref _, ?_, φ _ (R.new (Nat.le_refl _))⟩
  exact R.add (s' := { s with heap := h' }) hk hw rfl rfl (Nat.le_refl _) ⟨vs, hp, r.stays (stays_upd hk (Nat.le_refl _))⟩
theorem OC.sorted {ns : List Int} (h64 : ns.length < 64) (φ : ∀ ns' : List Int, ns'.Perm ns → ns'.Pairwise (· ≤ ·) → Φ (.lst (ns'.map D.int)) H) : OC C n env (.builtin "sorted") [.lst (ns.map D.int)] m H Φ := OC.one fun A s v rm R q => by
  obtain ⟨mm, hn, hv⟩ := R.loc
  cases q with
  | lst ht hH r =>
    refine wide (sorted_N (R.fr hn) (news0 C _ _) ht r.ints (by rw [r.length, List.length_map]; exact h64) fun h' vs' ns' e F' N' hI h1 h2 hw => ?_)
    obtain ⟨R', t⟩ := R.kept (s' := { s with heap := h' }) hv F'.ns (R.newsKeep F' N' fun p hp => .tail _ hp) hw rfl rfl
    exact ⟨_, H, t, .lst ⟨_, (N' _ (.head _)).1, rfl, _, rfl⟩ (R.new (Nat.le_succ _)) (ints_vr hI), R', φ ns' h1 h2⟩
end
end Mine

open PySem PySem.W PyProof.Rows
set_option Elab.async false
set_option linter.unusedVariables false
set_option maxRecDepth 100000
namespace Mine

section
variable {C : Cx} {n : Nat} {env : Env} {m : Loc} {H H' : AH} {s s' : Shared} {sc : Scope} {lo : Addr}

/-- places that a turn's draw may write -/
structure Loose (C : Cx) (env : Env) (H : AH) (s : Shared) (bad : Addr → Prop) : Prop where
  no : ∀ a, bad a → H a = none
  own : ∀ a, bad a → ¬ Own env a
  base : ∀ a, bad a → C.base.objs.size ≤ a
  seq : ∀ a, bad a → ∀ o, s.heap.get? a = some o → ¬ ∃ vs n, o.data = .seq vs n
theorem Rel.bump (R : Rel C env m H s) {bad : Addr → Prop} (L : Loose C env H s bad) (k : ∀ b o, ¬ bad b → s.heap.get? b = some o → s'.heap.get? b = some o) (hw : width s ≤ width s') (hg : s'.gens = s.gens) (hos : s'.os = s.os) :
    Rel C env m H s' ∧ Stays s.heap s'.heap H H := by
  have st : Stays s.heap s'.heap H H := ⟨fun a o e q _ => k a o (fun z => L.seq a z o e q) e, fun _ _ _ _ q => q⟩
  refine ⟨⟨⟨fun a o e => k a o (fun z => ?_) (R.base a o e), Nat.le_trans R.size hw, R.fresh, fun a o e => Rep.stays st (fun b q => k a b (fun z => ?_) q) (R.objs a o e), hg.trans R.gens, hos.trans R.os⟩, R.ok, ?_, fun x c e => ?_, fun x d c e q l => ?_, R.kinds, R.out⟩, st⟩
  · exact Nat.lt_irrefl _ (Nat.lt_of_lt_of_le (Heap.lt_size e) (L.base a z))
  · rw [L.no a z] at e; cases e
  · obtain ⟨mm, ⟨o, es, ep, e, r⟩, hv⟩ := R.loc
    refine ⟨mm, ⟨o, es, ep, k _ o (fun z => L.own _ z (.inl rfl)) e, r⟩, fun y d e q => ?_⟩
    obtain ⟨v, a, b⟩ := hv y d e q
    exact ⟨v, a, b.stays st⟩
  · obtain ⟨ov, o, e', d⟩ := R.cell x c e
    exact ⟨ov, o, k c o (fun z => L.own _ z (.inr ⟨x, e⟩)) e', d⟩
  · obtain ⟨v, ⟨o, e', dd⟩, b⟩ := R.cellv x d c e q l
    exact ⟨v, ⟨o, k c o (fun z => L.own _ z (.inr ⟨x, l⟩)) e', dd⟩, b.stays st⟩

theorem Rel.notOwn (R : Rel C env m H s) {a : Addr} {o : Obj} (e : s.heap.get? a = some o) {vs : Array Value} (hd : o.data = .fields vs) : ¬ Own env a := by
  rintro (rfl | ⟨x, hx⟩)
  · obtain ⟨mm, ⟨o', es, ep, e', d', _⟩, _⟩ := R.loc
    rw [e] at e'; cases e'; rw [hd] at d'; cases d'
  · obtain ⟨ov, o', e', d'⟩ := R.cell x a hx
    rw [e] at e'; cases e'; rw [hd] at d'; cases d'

noncomputable def enumD : Nat → List D → List D
  | _, [] => []
  | i, d :: ds => .tup [.int i, d] :: enumD (i + 1) ds

/-- an iterator that will hand out these -/
inductive ItOk (h : Heap) (H : AH) (lo : Addr) : Bool → Addr → List D → Prop
  | list {I l : Addr} {i : Nat} {vs : List Value} {ds : List D} : h.IsListIter I l i → lo ≤ I → H I = none → h.IsList l vs.toArray → H l = none → VRs h H vs ds → ItOk h H lo false I (ds.drop i)
  | tup {I l : Addr} {i : Nat} {vs : List Value} {ds : List D} : h.IsTupleIter I l i → lo ≤ I → H I = none → h.IsTuple l vs.toArray → H l = none → VRs h H vs ds → ItOk h H lo false I (ds.drop i)
  | range {I : Addr} {x : Int} {k : Nat} : IsRangeIter h I x k 1 → lo ≤ I → H I = none → ItOk h H lo false I ((List.range k).map fun (j : Nat) => .int (x + j))
  | enum {e I l : Addr} {i : Nat} {old : Value} {vs : List Value} {ds : List D} : IsEnum h e I i old → h.IsListIter I l i → lo ≤ I → lo ≤ e → e ≠ I → H e = none → H I = none → h.IsList l vs.toArray → H l = none → VRs h H vs ds → ItOk h H lo true e (enumD i (ds.drop i))

theorem ItOk.step {b : Bool} {it : Addr} {items : List D} (I : ItOk s.heap H lo b it items) (R : Rel C env m H s) (t : Step (Own env) H H' s s') : ItOk s'.heap H' lo b it items := by
  have st := t.stays R
  have no : ∀ {a : Addr} {o : Obj}, s.heap.get? a = some o → H a = none → H' a = none := fun e q => Classical.byContradiction fun z => (t.dom _ z).elim (fun w => w q) fun w => Nat.lt_irrefl _ (Nat.lt_of_lt_of_le (Heap.lt_size e) w)
  cases I with
  | list h1 h2 h3 h4 h5 h6 =>
    obtain ⟨o, e, c, d⟩ := h1
    obtain ⟨o', e', c', j, d'⟩ := h4
    exact .list ⟨o, t.keep _ o e h3 (R.notOwn e d), c, d⟩ h2 (no e h3) ⟨o', st.keep _ _ e' ⟨_, _, d'⟩ h5, c', j, d'⟩ (no e' h5) (h6.stays st)
  | tup h1 h2 h3 h4 h5 h6 =>
    obtain ⟨o, e, c, d⟩ := h1
    obtain ⟨o', e', c', j, d'⟩ := h4
    exact .tup ⟨o, t.keep _ o e h3 (R.notOwn e d), c, d⟩ h2 (no e h3) ⟨o', st.keep _ _ e' ⟨_, _, d'⟩ h5, c', j, d'⟩ (no e' h5) (h6.stays st)
  | range h1 h2 h3 => exact .range (t.keep _ _ h1 h3 (R.notOwn h1 rfl)) h2 (no h1 h3)
  | enum h0 h1 h2 h2' hne h3' h3 h4 h5 h6 =>
    obtain ⟨o, e, c, d⟩ := h1
    obtain ⟨o', e', c', j, d'⟩ := h4
    exact .enum (t.keep _ _ h0 h3' (R.notOwn h0 rfl)) ⟨o, t.keep _ o e h3 (R.notOwn e d), c, d⟩ h2 h2' hne (no h0 h3') (no e h3) ⟨o', st.keep _ _ e' ⟨_, _, d'⟩ h5, c', j, d'⟩ (no e' h5) (h6.stays st)

/-- what a draw leaves -/
structure Drawn (C : Cx) (env : Env) (m : Loc) (H : AH) (lo : Addr) (s s' : Shared) : Prop where
  rel : Rel C env m H s'
  stays : Stays s.heap s'.heap H H
  keep : ∀ a o, a < lo → s.heap.get? a = some o → s'.heap.get? a = some o
  width : width s ≤ width s'
  gens : s'.gens = s.gens
  os : s'.os = s.os
theorem drawn_of (R : Rel C env m H s) {bad : Addr → Prop} (L : Loose C env H s bad) (hlo : ∀ a, bad a → lo ≤ a) (k : ∀ b o, ¬ bad b → s.heap.get? b = some o → s'.heap.get? b = some o) (hw : width s ≤ width s') (hg : s'.gens = s.gens) (hos : s'.os = s.os) :
    Drawn C env m H lo s s' := by
  obtain ⟨a, b⟩ := R.bump L k hw hg hos
  exact ⟨a, b, fun a o l e => k a o (fun z => Nat.lt_irrefl _ (Nat.lt_of_lt_of_le l (hlo a z))) e, hw, hg, hos⟩
theorem Drawn.trans {s₁ : Shared} (x : Drawn C env m H lo s s₁) (y : Drawn C env m H lo s₁ s') : Drawn C env m H lo s s' :=
  ⟨y.rel, ⟨fun a o e q n => y.stays.keep a o (x.stays.keep a o e q n) q n, fun _ _ _ _ q => q⟩, fun a o l e => y.keep a o l (x.keep a o l e), Nat.le_trans x.width y.width, y.gens.trans x.gens, y.os.trans x.os⟩
theorem Drawn.step {H₀ : AH} {s₀ : Shared} (x : Step (Own env) H₀ H s₀ s) (y : Drawn C env m H lo s s') (h : Mine.width s₀ ≤ lo) : Step (Own env) H₀ H s₀ s' where
  keep a o e n q := y.keep a o (Nat.lt_of_lt_of_le (Heap.lt_size e) h) (x.keep a o e n q)
  size := Nat.le_trans x.size y.width
  dom := x.dom
  gens := y.gens.trans x.gens
  os := y.os.trans x.os

theorem loose_one (R : Rel C env m H s) {I : Addr} {o : Obj} {vs : Array Value} (e : s.heap.get? I = some o) (hd : o.data = .fields vs) (hn : H I = none) (hb : C.base.objs.size ≤ I) : Loose C env H s (· = I) where
  no a z := z ▸ hn
  own a z := z ▸ R.notOwn e hd
  base a z := z ▸ hb
  seq a z o' e' q := by subst z; rw [e] at e'; cases e'; obtain ⟨_, _, q⟩ := q; rw [hd] at q; cases q
theorem loose_two {I J : Addr} (x : Loose C env H s (· = I)) (y : Loose C env H s (· = J)) : Loose C env H s (fun a => a = I ∨ a = J) where
  no a z := z.elim (x.no a) (y.no a)
  own a z := z.elim (x.own a) (y.own a)
  base a z := z.elim (x.base a) (y.base a)
  seq a z := z.elim (x.seq a) (y.seq a)

theorem letGo_none {A : Around} {E : Value → Shared → Prop} {target : Expr} {I : Addr} {o : Obj} {vs : Array Value} {T : String} {v : Value} {Q : Unit → Shared → Prop} (e : s.heap.get? I = some o) (hc : o.cls = .type T) (hd : o.data = .fields vs)
    (hT : (["enumerate", "zip", "dict_itemiterator", "dict_reverseitemiterator", "odict_iterator", "itertools.zip_longest", "itertools.pairwise"] : List String).contains T = false) (h : Q () s) : wpAny (model C.prog C.w) A (letOwnedTupleGo target (.ref I) v) Q E s := by
  unfold letOwnedTupleGo
  split
  · split
    · rename_i r a heq
      cases heq
      refine wpAny_bind (wpAny_load e ?_)
      rw [hc, hd]
      dsimp only
      rw [hT]
      exact wpAny_pure h
    · exact wpAny_pure h
  · split
    · rename_i r a heq
      cases heq
      refine wpAny_bind (wpAny_load e ?_)
      rw [hc, hd]
      dsimp only
      rw [hT]
      exact wpAny_pure h
    · exact wpAny_pure h
  · exact wpAny_pure h

theorem it_nil {A : Around} {E : Value → Shared → Prop} {b : Bool} {it : Addr} {Q : Option Value → Shared → Prop} (rm : Room n A) (R : Rel C env m H s) (I : ItOk s.heap H lo b it []) (hlo : C.base.objs.size ≤ lo) (h : ∀ s', Drawn C env m H lo s s' → Q none s') :
    wpAny (model C.prog C.w) A (pyNext (.ref it)) Q E s := by
  generalize hi : ([] : List D) = items at I
  cases I with
  | list h1 h2 h3 h4 h5 h6 =>
    rename_i l i vs ds
    obtain ⟨o, e, c, d⟩ := id h1
    have hlen : ds.length ≤ i := List.drop_eq_nil_iff.mp hi.symm
    refine wide (wpAny_pyNext_list_end rm.1 h1 h4 (by simp [h6.length]; exact hlen) fun h' hx hw => h _ ?_)
    exact drawn_of R (loose_one R e d h3 (Nat.le_trans hlo h2)) (fun a z => z ▸ h2) (fun b o nb e => hx b o nb e) hw rfl rfl
  | tup h1 h2 h3 h4 h5 h6 =>
    rename_i l i vs ds
    obtain ⟨o, e, c, d⟩ := id h1
    have hlen : ds.length ≤ i := List.drop_eq_nil_iff.mp hi.symm
    refine wide (wpAny_pyNext_tuple_end rm.1 h1 h4 (by simp [h6.length]; exact hlen) fun h' hx hw => h _ ?_)
    exact drawn_of R (loose_one R e d h3 (Nat.le_trans hlo h2)) (fun a z => z ▸ h2) (fun b o nb e => hx b o nb e) hw rfl rfl
  | range h1 h2 h3 =>
    rename_i x k
    have hk : k = 0 := by
      cases k with
      | zero => rfl
      | succ k => simp [List.range_succ] at hi
    subst hk
    refine wide (wpAny_pyNext_range_end rm.1 h1 (by simp) fun h' hx hw => h _ ?_)
    exact drawn_of R (loose_one R h1 rfl h3 (Nat.le_trans hlo h2)) (fun a z => z ▸ h2) (fun b o nb e => hx b o nb e) hw rfl rfl
  | enum h0 h1 h2 h2' hne h3' h3 h4 h5 h6 =>
    rename_i I l i old vs ds
    obtain ⟨o, e, c, d⟩ := id h1
    have hlen : ds.length ≤ i := by
      cases hd : ds.drop i with
      | nil => exact List.drop_eq_nil_iff.mp hd
      | cons _ _ => rw [hd] at hi; cases hi
    refine wide (wpAny_pyNext_enum_end rm.1 h0 h1 h4 (by simp [h6.length]; exact hlen) fun h' hx hw => h _ ?_)
    exact drawn_of R (loose_one R e d h3 (Nat.le_trans hlo h2)) (fun a z => z ▸ h2) (fun b o nb e => hx b o nb e) hw rfl rfl

theorem drop_cons {α : Type} {l : List α} {i : Nat} {d : α} {rest : List α} (h : l.drop i = d :: rest) : l[i]? = some d ∧ l.drop (i + 1) = rest := by
  have hlt : i < l.length := by
    have := congrArg List.length h
    rw [List.length_drop, List.length_cons] at this
    omega
  rw [List.drop_eq_getElem_cons hlt] at h
  cases h
  exact ⟨List.getElem?_eq_getElem hlt, rfl⟩

theorem it_cons {A : Around} {E : Value → Shared → Prop} {b : Bool} {it : Addr} {d : D} {rest : List D} {target : Expr} {Bad : Shared → Prop} {K : Value → Shared → Prop} (rm : Room n A) (R : Rel C env m H s) (I : ItOk s.heap H lo b it (d :: rest)) (hlo : C.base.objs.size ≤ lo)
    (ht : b = false ∨ ∃ es k p, target = .Tuple es k p)
    (h : ∀ v s', Drawn C env m H lo s s' → VR s'.heap H v d → ItOk s'.heap H lo b it rest → K v s') :
    wpAny (model C.prog C.w) A (pyNext (.ref it)) (fun r s₁ => match r with | none => Bad s₁ | some v => wpAny (model C.prog C.w) A (letOwnedTupleGo target (.ref it) v) (fun _ s₂ => K v s₂) E s₁) E s := by
  generalize hi : d :: rest = items at I
  cases I with
  | list h1 h2 h3 h4 h5 h6 =>
    rename_i l i vs ds
    obtain ⟨o, e, c, dd⟩ := id h1
    obtain ⟨g1, g2⟩ := drop_cons hi.symm
    obtain ⟨v, hv, qv⟩ := h6.get g1
    refine wide (wpAny_pyNext_list_item h1 h4 (x := v) (by simpa using hv) fun h' hit hx hw => ?_)
    have dr : Drawn C env m H lo s { s with heap := h' } := drawn_of R (loose_one R e dd h3 (Nat.le_trans hlo h2)) (fun a z => z ▸ h2) (fun b o nb e => same_keep hx b o nb e) hw rfl rfl
    obtain ⟨o', e', c', d'⟩ := id hit
    refine letGo_none (s := { s with heap := h' }) e' c' d' (by decide) (h v _ dr (qv.stays dr.stays) ?_)
    subst g2
    obtain ⟨ol, el, cl, jl, dl⟩ := h4
    exact .list hit h2 h3 ⟨ol, dr.stays.keep _ _ el ⟨_, _, dl⟩ h5, cl, jl, dl⟩ h5 (h6.stays dr.stays)
  | tup h1 h2 h3 h4 h5 h6 =>
    rename_i l i vs ds
    obtain ⟨o, e, c, dd⟩ := id h1
    obtain ⟨g1, g2⟩ := drop_cons hi.symm
    obtain ⟨v, hv, qv⟩ := h6.get g1
    refine wide (wpAny_pyNext_tuple_item h1 h4 (x := v) (by simpa using hv) fun h' hit hx hw => ?_)
    have dr : Drawn C env m H lo s { s with heap := h' } := drawn_of R (loose_one R e dd h3 (Nat.le_trans hlo h2)) (fun a z => z ▸ h2) (fun b o nb e => same_keep hx b o nb e) hw rfl rfl
    obtain ⟨o', e', c', d'⟩ := id hit
    refine letGo_none (s := { s with heap := h' }) e' c' d' (by decide) (h v _ dr (qv.stays dr.stays) ?_)
    subst g2
    obtain ⟨ol, el, cl, jl, dl⟩ := h4
    exact .tup hit h2 h3 ⟨ol, dr.stays.keep _ _ el ⟨_, _, dl⟩ h5, cl, jl, dl⟩ h5 (h6.stays dr.stays)
  | range h1 h2 h3 =>
    rename_i x k
    cases k with
    | zero => simp at hi
    | succ k =>
      rw [List.range_succ_eq_map, List.map_cons, List.cons.injEq] at hi
      obtain ⟨rfl, hr⟩ := hi
      refine wide (wpAny_pyNext_range_item h1 (by omega) fun h' hit hx hw => ?_)
      have dr : Drawn C env m H lo s { s with heap := h', toks := s.toks + 1 } := drawn_of R (loose_one R h1 rfl h3 (Nat.le_trans hlo h2)) (fun a z => z ▸ h2) (fun b o nb e => same_keep hx b o nb e) hw rfl rfl
      refine letGo_none (s := { s with heap := h', toks := s.toks + 1 }) hit rfl rfl (by decide) (h _ _ dr (by simpa using VR.int x s.toks) ?_)
      rw [hr, List.map_map]
      have e1 : ((fun (j : Nat) => D.int (x + j)) ∘ Nat.succ) = fun (j : Nat) => D.int ((x + 1) + j) := by funext j; simp only [Function.comp]; congr 1; omega
      rw [e1]
      have hit' : IsRangeIter h' it (x + 1) k 1 := by have e2 : ((k + 1 : Nat) : Int) - 1 = k := by omega
                                                      rw [e2] at hit; exact hit
      exact .range hit' h2 h3
  | enum h0 h1 h2 h2' hne h3' h3 h4 h5 h6 =>
    rename_i I l i old vs ds
    obtain ⟨o, e, c, dd⟩ := id h1
    cases hd : ds.drop i with
    | nil => rw [hd] at hi; cases hi
    | cons x r =>
      rw [hd, enumD, List.cons.injEq] at hi
      obtain ⟨rfl, hr⟩ := hi
      obtain ⟨g1, g2⟩ := drop_cons hd
      obtain ⟨v, hv, qv⟩ := h6.get g1
      refine wide (wpAny_pyNext_enum_item h0 h1 h4 (x := v) (by simpa using hv) hne fun h' heo hit hat hsz hk hw => ?_)
      have L2 := loose_two (loose_one R h0 rfl h3' (Nat.le_trans hlo h2')) (loose_one R e dd h3 (Nat.le_trans hlo h2))
      have dr : Drawn C env m H lo s { s with heap := h', toks := s.toks + 1 } := drawn_of R L2 (fun a z => z.elim (fun z => z ▸ h2') fun z => z ▸ h2) (fun b o nb e => hk b o (fun z => nb (.inl z)) (fun z => nb (.inr z)) e) hw rfl rfl
      have hnew : H s.heap.objs.size = none := R.new (Nat.le_refl _)
      have qt : VR h' H (.ref s.heap.objs.size) (.tup [.int i, x]) := .tup (vs := [.int i s.toks, v]) ⟨_, hat, rfl, 0, rfl⟩ hnew (.cons (.int _ _) (.cons (qv.stays dr.stays) .nil))
      obtain ⟨ol, el, cl, jl, dl⟩ := h4
      rcases ht with z | ⟨es, k, p, rfl⟩
      · cases z
      · refine wide (wpAny_letOwnedTupleGo_enum (s := { s with heap := h', toks := s.toks + 1 }) heo fun h'' he'' hs'' hw'' => ?_)
        have dr2 : Drawn C env m H lo { s with heap := h', toks := s.toks + 1 } { s with heap := h'', toks := s.toks + 1 } := drawn_of dr.rel (loose_one dr.rel heo rfl h3' (Nat.le_trans hlo h2')) (fun a z => z ▸ h2') (fun b o nb e => same_keep hs'' b o nb e) hw'' rfl rfl
        refine h _ _ (dr.trans dr2) (qt.stays dr2.stays) ?_
        rw [hr, ← g2]
        obtain ⟨oi, ei, ci, di⟩ := hit
        have he3 : IsEnum h'' it I ((i + 1 : Nat) : Int) v := by rw [show ((i + 1 : Nat) : Int) = (i : Int) + 1 by omega]; exact he''
        exact .enum he3 ⟨oi, same_keep hs'' _ _ (Ne.symm hne) ei, ci, di⟩ h2 h2' hne h3' h3 ⟨ol, dr2.stays.keep _ _ (dr.stays.keep _ _ el ⟨_, _, dl⟩ h5) ⟨_, _, dl⟩ h5, cl, jl, dl⟩ h5 ((h6.stays dr.stays).stays dr2.stays)
end
end Mine

open PySem PySem.W PyProof.Rows
set_option Elab.async false
set_option linter.unusedVariables false
set_option maxRecDepth 100000
namespace Mine

section
variable {C : Cx} {n : Nat} {env : Env} {m : Loc} {H H' : AH} {s s' : Shared} {sc : Scope} {lo : Addr}

/-- what is gone over -/
noncomputable def IV (C : Cx) (n : Nat) (env : Env) (e : Expr) (m : Loc) (H : AH) (Ψ : Bool → List D → AH → Prop) : Prop :=
  ∀ A s, Room n A → Rel C env m H s → wpAny (model C.prog C.w) A (eval e env) (fun x s₁ => wpAny (model C.prog C.w) A (pyIter x)
    (fun it s₂ => ∃ I items b H', it = .ref I ∧ Step (Own env) H H' s s₂ ∧ Rel C env m H' s₂ ∧ ItOk s₂.heap H' (width s) b I items ∧ Ψ b items H') NoE s₁) NoE s
theorem IV.seq {e : Expr} {Ψ : Bool → List D → AH → Prop} (h : EV C n env e m H fun a H₁ => ∃ items, (a = .tup items ∨ a = .lst items) ∧ Ψ false items H₁) : IV C n env e m H Ψ := fun A s rm R => by
  refine wpAny_mono (h A s rm R) (fun v s₁ p => ?_) fun _ _ x => x
  obtain ⟨a, H₁, t₁, q₁, R₁, items, ha, ψ⟩ := p
  have hz : width s ≤ s₁.heap.objs.size := t₁.size
  rcases ha with rfl | rfl
  · cases q₁ with
    | tup ht hn r =>
      rename_i l vs
      have k := push_keep s₁.heap { cls := .type "tuple_iterator", data := .fields #[.ref l, .int 0 0] }
      have t := Step.grown (s := s₁) (s' := { s₁ with heap := s₁.heap.push { cls := .type "tuple_iterator", data := .fields #[.ref l, .int 0 0] } }) (H := H₁) (own := Own env) k (push_size _ _) rfl rfl
      refine wpAny_pyIter_tuple ht ⟨_, _, false, H₁, rfl, t₁.trans t, R₁.grown k (push_size _ _) rfl rfl, .tup (i := 0) (ds := items) ⟨_, Heap.get?_push_size _ rfl, rfl, rfl⟩ hz (R₁.new (Nat.le_refl _)) (isTuple_keep ht fun o e _ => k _ o e) hn (r.stays (stays_push _ _ _)), ψ⟩
  · cases q₁ with
    | lst ht hn r =>
      rename_i l vs
      have k := push_keep s₁.heap { cls := .type "list_iterator", data := .fields #[.ref l, .int 0 0] }
      have t := Step.grown (s := s₁) (s' := { s₁ with heap := s₁.heap.push { cls := .type "list_iterator", data := .fields #[.ref l, .int 0 0] } }) (H := H₁) (own := Own env) k (push_size _ _) rfl rfl
      refine wpAny_pyIter_list ht ⟨_, _, false, H₁, rfl, t₁.trans t, R₁.grown k (push_size _ _) rfl rfl, .list (i := 0) (ds := items) ⟨_, Heap.get?_push_size _ rfl, rfl, rfl⟩ hz (R₁.new (Nat.le_refl _)) (isList_keep ht fun o e _ => k _ o e) hn (r.stays (stays_push _ _ _)), ψ⟩

theorem call1 {A : Around} {x : Str} {p pos : Pos} {arg : Expr} {f : Value} {P : D → AH → Prop} {Q : Value → Shared → Prop} (rm : Room n A) (R : Rel C env m H s) (hx : EV C n env (.Name x p) m H fun a H₁ => a = .val f ∧ EV C n env arg m H₁ P) (hk : Keepy C f)
    (h : ∀ s₁ v d H₂, Step (Own env) H H₂ s s₁ → Rel C env m H₂ s₁ → VR s₁.heap H₂ v d → P d H₂ → wpAny (model C.prog C.w) A (call f [v]) Q NoE s₁) (hp : [arg].all (fun | .Starred .. => false | _ => true) = true) :
    wpAny (model C.prog C.w) A (eval (.Call (.Name x p) [arg] [] pos) env) Q NoE s := by
  refine wpAny_Call_NameR (wpAny_mono (hx A s rm R) (fun v s₁ q => ?_) fun _ _ x => x)
  obtain ⟨a, H₁, t₁, q₁, R₁, rfl, h₁⟩ := q
  cases q₁
  refine callWith_ (C := C) hk (by simp) ?_ hp
  have hh : ES C n env pos [arg] m H₁ fun ds H₂ => ∃ d, ds = [d] ∧ P d H₂ := ES.cons (h₁.mono fun d H' x => ES.nil ⟨d, rfl, x⟩) (by simp only [List.all_cons, Bool.and_eq_true] at hp; cases arg <;> first | rfl | (simp at hp))
  refine wpAny_mono (hh A s₁ rm R₁) (fun vs s₂ q => ?_) fun _ _ x => x
  obtain ⟨ds, H₂, t₂, q₂, R₂, d, rfl, hP⟩ := q
  cases q₂ with
  | cons qd qn => cases qn; exact ⟨R₂.keeps, h s₂ _ d H₂ (t₁.trans t₂) R₂ qd hP⟩

theorem IV.range {x : Str} {p pos : Pos} {arg : Expr} {Ψ : Bool → List D → AH → Prop} (hx : EV C n env (.Name x p) m H fun a H₁ => a = .val (.type "range") ∧ EV C n env arg m H₁ fun d H₂ => ∃ k : Nat, d = .int k ∧ k < 2 ^ 62 ∧ Ψ false ((List.range k).map fun (j : Nat) => D.int j) H₂)
    (hp : [arg].all (fun | .Starred .. => false | _ => true) = true := by rfl) : IV C n env (.Call (.Name x p) [arg] [] pos) m H Ψ := fun A s rm R => by
  refine call1 rm R hx (Keepy.type _) (fun s₁ v d H₂ t R₁ q hP => ?_) hp
  obtain ⟨k, rfl, hk, ψ⟩ := hP
  cases q
  rename_i tk
  have hz : width s ≤ s₁.heap.objs.size := t.size
  refine call_range_1 (wpAny_pyIter_range (IsRange.new ..) (small_one (by decide) (by decide) (by omega) (by omega)) ?_)
  rw [rangeSize_one]
  have e : (if (0 : Int) < (k : Int) then (k : Int) - 0 else 0) = k := by split <;> omega
  rw [e]
  have kk : ∀ b o, s₁.heap.get? b = some o → ((s₁.heap.push { cls := .type "range", data := .fields #[.int 0 s₁.toks, .int k tk, .int 1 (s₁.toks + 1)] }).push { cls := .type "range_iterator", data := .fields #[rawInt 0, rawInt k, rawInt 1] }).get? b = some o := fun b o e => push_keep _ _ b o (push_keep _ _ b o e)
  have ww : s₁.heap.objs.size ≤ ((s₁.heap.push { cls := .type "range", data := .fields #[.int 0 s₁.toks, .int k tk, .int 1 (s₁.toks + 1)] }).push { cls := .type "range_iterator", data := .fields #[rawInt 0, rawInt k, rawInt 1] }).objs.size := Nat.le_trans (push_size _ _) (push_size _ _)
  refine ⟨_, (List.range k).map fun (j : Nat) => D.int j, false, H₂, rfl, t.trans (Step.grown (s := s₁) (s' := { s₁ with heap := (s₁.heap.push { cls := .type "range", data := .fields #[.int 0 s₁.toks, .int k tk, .int 1 (s₁.toks + 1)] }).push { cls := .type "range_iterator", data := .fields #[rawInt 0, rawInt k, rawInt 1] }, toks := s₁.toks + 1 + 1 }) kk ww rfl rfl), R₁.grown (s' := { s₁ with heap := (s₁.heap.push { cls := .type "range", data := .fields #[.int 0 s₁.toks, .int k tk, .int 1 (s₁.toks + 1)] }).push { cls := .type "range_iterator", data := .fields #[rawInt 0, rawInt k, rawInt 1] }, toks := s₁.toks + 1 + 1 }) kk ww rfl rfl, ?_, ψ⟩
  have := ItOk.range (h := (s₁.heap.push { cls := .type "range", data := .fields #[.int 0 s₁.toks, .int k tk, .int 1 (s₁.toks + 1)] }).push { cls := .type "range_iterator", data := .fields #[rawInt 0, rawInt k, rawInt 1] }) (H := H₂) (lo := width s) (I := (s₁.heap.push { cls := .type "range", data := .fields #[.int 0 s₁.toks, .int k tk, .int 1 (s₁.toks + 1)] }).objs.size) (x := 0) (k := k)
    (Heap.get?_push_size _ rfl) (Nat.le_trans hz (push_size _ _)) (R₁.new (push_size _ _))
  simpa using this

theorem IV.enum {x : Str} {p pos : Pos} {arg : Expr} {Ψ : Bool → List D → AH → Prop} (hx : EV C n env (.Name x p) m H fun a H₁ => a = .val (.type "enumerate") ∧ EV C n env arg m H₁ fun d H₂ => ∃ ds, d = .lst ds ∧ Ψ true (enumD 0 ds) H₂)
    (hp : [arg].all (fun | .Starred .. => false | _ => true) = true := by rfl) : IV C n env (.Call (.Name x p) [arg] [] pos) m H Ψ := fun A s rm R => by
  refine call1 rm R hx (Keepy.type _) (fun s₁ v d H₂ t R₁ q hP => ?_) hp
  obtain ⟨ds, rfl, ψ⟩ := hP
  cases q with
  | lst ht hn r =>
    rename_i l vs
    have hz : width s ≤ s₁.heap.objs.size := t.size
    refine call_enumerate_list ht fun h' he hit hsz hk => ?_
    have ww : s₁.heap.objs.size ≤ h'.objs.size := by rw [hsz]; omega
    refine wpAny_pyIter_enum (s := { s₁ with heap := h' }) he ⟨_, enumD 0 ds, true, H₂, rfl, t.trans (Step.grown (s := s₁) (s' := { s₁ with heap := h' }) hk ww rfl rfl), R₁.grown (s' := { s₁ with heap := h' }) hk ww rfl rfl, ?_, ψ⟩
    exact .enum (i := 0) (ds := ds) he hit hz (Nat.le_trans hz (Nat.le_succ _)) (Nat.succ_ne_self _) (R₁.new (Nat.le_succ _)) (R₁.new (Nat.le_refl _)) (isList_keep ht fun o e _ => hk _ o e) hn (r.stays ⟨fun a o e _ _ => hk a o e, fun _ _ _ _ q => q⟩)

/-- a loop, turn by turn -/
noncomputable def FOR (C : Cx) (n : Nat) (env : Env) (target : Expr) (body : List Stmt) : List D → Loc → AH → (FL → Loc → AH → Prop) → Prop
  | [], m, H, Φ => Φ .next m H
  | d :: ds, m, H, Φ => AT C n env target d m H fun m₁ H₁ => XS C n env body m₁ H₁ fun fl m₂ H₂ => match fl with
    | .next => FOR C n env target body ds m₂ H₂ Φ
    | .cont => FOR C n env target body ds m₂ H₂ Φ
    | .brk => Φ .next m₂ H₂
    | .ret r => Φ (.ret r) m₂ H₂

theorem X1.for {target iter : Expr} {body : List Stmt} {pos : Pos} {Φ : FL → Loc → AH → Prop} (h : IV C n env iter m H fun b items H₁ => (b = false ∨ ∃ es k p, target = .Tuple es k p) ∧ FOR C n env target body items m H₁ Φ)
    (hs : ∀ x, foldedSetIterable iter env x = pure x := by intro _; rfl) : X1 C n env (.For target iter body [] pos) m H Φ := fun A s rm R => by
  refine wpAny_For (wpAny_mono (h A s rm R) (fun x s₁ p => wpAny_mono p (fun it s₂ p => ?_) fun _ _ x => x.elim) fun _ _ x => x.elim) hs
  obtain ⟨I, items, b, H₁, rfl, t, R₁, io, ht, f⟩ := p
  refine codeAny_forLoop_any (fun k s' => ∃ items m' H', k = items.length ∧ Step (Own env) H H' s s' ∧ Rel C env m' H' s' ∧ ItOk s'.heap H' (width s) b I items ∧ FOR C n env target body items m' H' Φ) ?_ items.length ⟨items, m, H₁, rfl, t, R₁, io, f⟩
  rintro k s' ⟨items, m', H', rfl, t, R', io, f⟩
  cases items with
  | nil =>
    refine it_nil rm R' io R.size fun s₃ dr => ?_
    exact wpAny_execs_nil ⟨.next, m', H', Drawn.step t dr (Nat.le_refl _), .next, dr.rel, f⟩
  | cons d ds =>
    refine wpAny_mono (it_cons (target := target) (Bad := fun _ => False) (K := fun v s₃ => wpAny (model C.prog C.w) A (PySem.assign target env v) (fun _ s₄ => wpAny (model C.prog C.w) A (execs body env) (fun f s₅ => match f with
          | .next | .cont => ∃ j, j < (d :: ds).length ∧ ∃ items m' H', j = items.length ∧ Step (Own env) H H' s s₅ ∧ Rel C env m' H' s₅ ∧ ItOk s₅.heap H' (width s) b I items ∧ FOR C n env target body items m' H' Φ
          | .brk => PF C env H s Φ .next s₅
          | .ret v => PF C env H s Φ (.ret v) s₅) NoE s₄) NoE s₃) rm R' io R.size ht ?_) (fun r s₃ p => ?_) fun _ _ (x : False) => x.elim
    · intro v s₃ dr qv io₃
      have t₃ := Drawn.step t dr (Nat.le_refl _)
      refine wpAny_mono (f A s₃ v rm dr.rel qv) (fun _ s₄ p => ?_) fun _ _ x => x
      obtain ⟨m₄, H₄, t₄, R₄, x₄⟩ := p
      refine wpAny_mono (x₄ A s₄ rm R₄) (fun f s₅ p => ?_) fun _ _ x => x
      obtain ⟨fl, m₅, H₅, t₅, qf, R₅, g⟩ := p
      have t6 := (t₃.trans t₄).trans t₅
      have io6 := (io₃.step dr.rel t₄).step R₄ t₅
      cases qf with
      | next => exact ⟨ds.length, Nat.lt_succ_self _, ds, m₅, H₅, rfl, t6, R₅, io6, g⟩
      | cont => exact ⟨ds.length, Nat.lt_succ_self _, ds, m₅, H₅, rfl, t6, R₅, io6, g⟩
      | brk => exact ⟨_, m₅, H₅, t6, .next, R₅, g⟩
      | ret q => exact ⟨_, m₅, H₅, t6, .ret q, R₅, g⟩
    · cases r with
      | none => exact p.elim
      | some v => exact wpAny_mono p (fun _ s₄ p => wpAny_mono p (fun _ s₅ p => wpAny_mono p (fun f s₆ p => by cases f <;> exact p) fun _ _ x => x.elim) fun _ _ x => x.elim) fun _ _ x => x.elim

theorem X1.while {test : Expr} {body : List Stmt} {pos : Pos} {Φ : FL → Loc → AH → Prop} (I : Nat → Loc → AH → Prop) (k : Nat) (h0 : I k m H)
    (turn : ∀ k m H, I k m H → TS C n env test m H fun b H₁ => if b = true then XS C n env body m H₁ fun fl m₂ H₂ => match fl with
        | .next => ∃ j, j < k ∧ I j m₂ H₂
        | .cont => ∃ j, j < k ∧ I j m₂ H₂
        | .brk => Φ .next m₂ H₂
        | .ret r => Φ (.ret r) m₂ H₂
      else Φ .next m H₁) : X1 C n env (.While test body [] pos) m H Φ := fun A s rm R => by
  refine wpAny_While (codeAny_whileLoop (fun k s' => ∃ m' H', Step (Own env) H H' s s' ∧ Rel C env m' H' s' ∧ I k m' H') ?_ k ⟨m, H, .refl, R, h0⟩)
  rintro k s' ⟨m', H', t, R', hI⟩
  refine wpAny_mono (turn k m' H' hI A s' rm R') (fun b s₂ p => ?_) fun _ _ x => x.elim
  obtain ⟨H₁, t₁, R₁, h₁⟩ := p
  cases b with
  | false => exact wpAny_execs_nil ⟨_, m', H₁, t.trans t₁, .next, R₁, h₁⟩
  | true =>
    refine wpAny_mono (h₁ A s₂ rm R₁) (fun f s₃ p => ?_) fun _ _ x => x.elim
    obtain ⟨fl, m₂, H₂, t₂, qf, R₂, g⟩ := p
    have t3 := (t.trans t₁).trans t₂
    cases qf with
    | next => obtain ⟨j, hj, g⟩ := g; exact ⟨j, hj, m₂, H₂, t3, R₂, g⟩
    | cont => obtain ⟨j, hj, g⟩ := g; exact ⟨j, hj, m₂, H₂, t3, R₂, g⟩
    | brk => exact ⟨_, m₂, H₂, t3, .next, R₂, g⟩
    | ret q => exact ⟨_, m₂, H₂, t3, .ret q, R₂, g⟩
end
end Mine

open PySem PySem.W PyProof.Rows
set_option Elab.async false
set_option linter.unusedVariables false
set_option maxRecDepth 100000
namespace Mine

section
variable {C : Cx} {n : Nat} {env cenv : Env} {m mc : Loc} {H H' : AH} {s s' : Shared} {sc : Scope} {lo : Addr}

/-- the tests of a clause -/
noncomputable def TSS (C : Cx) (n : Nat) (env : Env) (ifs : List Expr) (m : Loc) (H : AH) (Φ : Bool → AH → Prop) : Prop :=
  ∀ A s, Room n A → Rel C env m H s → wpAny (model C.prog C.w) A (forIn ifs true fun c r => if r = true then do let ok ← isTrue c env (eval c env); pure (ForInStep.yield ok) else pure (ForInStep.yield r))
    (fun b s' => ∃ H', Step (Own env) H H' s s' ∧ Rel C env m H' s' ∧ Φ b H') NoE s
theorem TSS.nil {Φ : Bool → AH → Prop} (φ : Φ true H) : TSS C n env [] m H Φ := fun A s _ R => wpAny_tests_nil ⟨H, .refl, R, φ⟩
theorem TSS.one {e : Expr} {Φ : Bool → AH → Prop} (h : TS C n env e m H Φ) : TSS C n env [e] m H Φ := fun A s rm R => wpAny_tests_one (h A s rm R)

/-- what a clause does with what it lets through -/
noncomputable def UB (C : Cx) (n : Nat) (env : Env) (u : Sem Unit) (m : Loc) (H : AH) (Φ : AH → Prop) : Prop :=
  ∀ A s, Room n A → Rel C env m H s → wpAny (model C.prog C.w) A u (fun _ s' => ∃ H', Step (Own env) H H' s s' ∧ Rel C env m H' s' ∧ Φ H') NoE s
noncomputable def emit (elt : Expr) (acc : Value) (env : Env) : Sem Unit := do let _ ← call (.builtin "list.append") [acc, ← eval elt env]
theorem UB.emit {elt : Expr} {acc : Addr} {Φ : AH → Prop} (h : EV C n env elt m H fun d H₁ => ∃ out, H₁ acc = some (.list out) ∧ out.length ≤ sizeLine ∧ Φ (upd H₁ acc (.list (out ++ [d])))) : UB C n env (emit elt (.ref acc) env) m H Φ := fun A s rm R => by
  unfold Mine.emit
  refine wpAny_bind (wpAny_mono (h A s rm R) (fun v s₁ p => ?_) fun _ _ x => x)
  obtain ⟨d, H₁, t, q, R₁, out, ho, hz, φ⟩ := p
  refine wpAny_bind ?_
  obtain ⟨vs, hl, qs⟩ := R₁.objs acc _ ho
  refine wpAny_list_append_plain hl (fun h' hl' hs => wpAny_pure ?_) (by rw [List.size_toArray, qs.length]; exact hz)
  have hap : (vs.toArray.push v) = (vs ++ [v]).toArray := by simp
  rw [hap] at hl'
  obtain ⟨R₂, t₂⟩ := R₁.change (o' := .list (out ++ [d])) ho hs (fun st => ⟨_, hl', (qs.stays st).append (.one (q.stays st))⟩) s₁.toks
  exact ⟨_, t.trans (t₂.2 _), R₁.after R₂ (t₂.2 _), φ⟩

/-- the turns of a clause -/
noncomputable def LOOP (C : Cx) (n : Nat) (env : Env) (target : Expr) (ifs : List Expr) (u : Sem Unit) (Φ : AH → Prop) : List D → Loc → AH → Prop
  | [], _, H => Φ H
  | d :: ds, m, H => AT C n env target d m H fun m₁ H₁ => (∀ x d, m.lookup x = some d → m₁.lookup x = some d) ∧ TSS C n env ifs m₁ H₁ fun b H₂ =>
    if b = true then UB C n env u m₁ H₂ fun H₃ => LOOP C n env target ifs u Φ ds m H₃ else LOOP C n env target ifs u Φ ds m H₂

theorem Drawn.loose (y : Drawn C env m H lo s s') : Step (fun a => lo ≤ a) H H s s' := ⟨fun a o e _ q => y.keep a o (Nat.lt_of_not_le q) e, y.width, fun _ h => .inl h, y.gens, y.os⟩

theorem loop_items {elt : Expr} {gens : List Comprehension} {scope : Scope} {pos : Pos} {depth : Nat} {target iter : Expr} {ifs : List Expr} {u : Sem Unit} {I : Addr} {acc : Value} {A : Around} {b : Bool} {Φ : AH → Prop} (rm : Room n A)
    (he : compTurn (.ListComp elt gens scope pos) depth (.ref I) acc env = (do
      standAt iter.pos
      match ← pyNext (.ref I) with
      | none => pure (.done .next)
      | some v =>
        letOwnedTupleGo target (.ref I) v
        PySem.assign target env v
        let mut ok := true
        for c in ifs do
          if ok then ok ← isTrue c env (eval c env)
        if ok then u
        again (.compLoop (.ListComp elt gens scope pos) depth (.ref I) acc env)))
    (ht : b = false ∨ ∃ es k p, target = .Tuple es k p) (hlo : C.base.objs.size ≤ lo) (items : List D) (R : Rel C env m H s) (io : ItOk s.heap H lo b I items) (L : LOOP C n env target ifs u Φ items m H)
    {P : AH → Shared → Prop} (p0 : P H s) (pd : ∀ H s s', P H s → Drawn C env m H lo s s' → P H s') (ps : ∀ H H' s s' m₁ m₂, P H s → Rel C env m₁ H s → Step (Own env) H H' s s' → Rel C env m₂ H' s' → (∀ x d, m.lookup x = some d → m₂.lookup x = some d) → P H' s') :
    codeAny (model C.prog C.w) A (.compLoop (.ListComp elt gens scope pos) depth (.ref I) acc env) (fun r s' => r = .ok .next ∧ ∃ H', Step (fun a => Own env a ∨ lo ≤ a) H H' s s' ∧ Rel C env m H' s' ∧ P H' s' ∧ Φ H') s := by
  refine codeAny_loop rfl (fun k s' => ∃ items H', k = items.length ∧ Step (fun a => Own env a ∨ lo ≤ a) H H' s s' ∧ Rel C env m H' s' ∧ ItOk s'.heap H' lo b I items ∧ LOOP C n env target ifs u Φ items m H' ∧ P H' s') (fun k s' hI => ?_) items.length ⟨items, H, rfl, .refl, R, io, L, p0⟩
  show wpAny _ A ((compTurn (.ListComp elt gens scope pos) depth (.ref I) acc env).onRaise (fun x => do noteFrame x env; theTreesLotGoes x)) _ _ s'
  refine wpAny_noted ?_
  rw [he]
  obtain ⟨items, H', rfl, t, R', io, L, pp⟩ := hI
  refine wpAny_bind (wpAny_standAt (wpAny_bind ?_))
  have wk : ∀ {H₁ H₂ : AH} {s₁ s₂ : Shared}, Step (Own env) H₁ H₂ s₁ s₂ → Step (fun a => Own env a ∨ lo ≤ a) H₁ H₂ s₁ s₂ := fun x => x.weaken fun a _ q => .inl q
  have wl : ∀ {H₁ H₂ : AH} {s₁ s₂ : Shared}, Step (fun a => lo ≤ a) H₁ H₂ s₁ s₂ → Step (fun a => Own env a ∨ lo ≤ a) H₁ H₂ s₁ s₂ := fun x => x.weaken fun a _ q => .inr q
  cases items with
  | nil => exact it_nil rm R' io hlo fun s₃ dr => wpAny_pure ⟨rfl, H', t.trans (wl dr.loose), dr.rel, pd _ _ _ pp dr, L⟩
  | cons d ds =>
    refine wpAny_mono (it_cons (target := target) (Bad := fun _ => False) (K := fun v s₃ => Drawn C env m H' lo s' s₃ ∧ VR s₃.heap H' v d ∧ ItOk s₃.heap H' lo b I ds) rm R' io hlo ht fun v s₃ dr q io => ⟨dr, q, io⟩) (fun r s₃ p => ?_) fun _ _ (x : False) => x.elim
    cases r with
    | none => exact p.elim
    | some v =>
      refine wpAny_bind (wpAny_mono p (fun _ s₄ p => ?_) fun _ _ (x : False) => x.elim)
      obtain ⟨dr, q, io⟩ := p
      refine wpAny_bind (wpAny_mono (L A s₄ v rm dr.rel q) (fun _ s₅ p => ?_) fun _ _ (x : False) => x.elim)
      obtain ⟨m₁, H₁, t₁, R₁, hm, L₁⟩ := p
      have io₁ := io.step dr.rel t₁
      have pp₁ := ps _ _ _ _ _ _ (pd _ _ _ pp dr) dr.rel t₁ R₁ hm
      refine wpAny_bind (wpAny_mono (L₁ A s₅ rm R₁) (fun ok s₆ p => ?_) fun _ _ (x : False) => x.elim)
      obtain ⟨H₂, t₂, R₂, L₂⟩ := p
      have io₂ := io₁.step R₁ t₂
      have pp₂ := ps _ _ _ _ _ _ pp₁ R₁ t₂ R₂ hm
      have tt := ((t.trans (wl dr.loose)).trans (wk t₁)).trans (wk t₂)
      cases ok with
      | false => exact wpAny_pure ⟨rfl, ds.length, Nat.lt_succ_self _, ds, H₂, rfl, tt, R₂.sub hm, io₂, L₂, pp₂⟩
      | true =>
        refine wpAny_bind (wpAny_mono (L₂ A s₆ rm R₂) (fun _ s₇ p => ?_) fun _ _ (x : False) => x.elim)
        obtain ⟨H₃, t₃, R₃, L₃⟩ := p
        exact wpAny_pure ⟨rfl, ds.length, Nat.lt_succ_self _, ds, H₃, rfl, tt.trans (wk t₃), R₃.sub hm, io₂.step R₂ t₃, L₃, ps _ _ _ _ _ _ pp₂ R₂ t₃ R₃ hm⟩

/-- the names that an inner scope sees -/
noncomputable def relabelS (sc scope : Scope) : Scope :=
  { scope with names := scope.names.map fun (n, k) => if (k == .free && sc.kind == .function && sc.names.lookup n == some .cell) then (n, .cell) else (n, k) }
theorem relabel_eq {scope : Scope} (hE : env.scope = sc) : relabel scope env = relabelS sc scope := by unfold relabel relabelS Env.kindOf; rw [hE]
inductive Cap (sc : Scope) (m : Loc) : List (Str × NameKind) → Loc → Prop
  | nil : Cap sc m [] []
  | skip {x : Str} {k : NameKind} {ns : List (Str × NameKind)} {mc : Loc} : (k == .free) = false → Cap sc m ns mc → Cap sc m ((x, k) :: ns) mc
  | take {x : Str} {ns : List (Str × NameKind)} {mc : Loc} {d : D} : m.lookup x = some d → (sc.names.lookup x != some .local) = true → Cap sc m ns mc → Cap sc m ((x, .free) :: ns) ((x, d) :: mc)

noncomputable def frees (cells : List (Str × Addr)) : List (Str × NameKind) → List (Str × Addr) → List (Str × Addr)
  | [], acc => acc
  | (x, k) :: r, acc => if k == .free then match cells.lookup x with
      | some c => frees cells r ((x, c) :: acc)
      | none => frees cells r acc
    else frees cells r acc
theorem closure_frees : ∀ (names : List (Str × NameKind)) (acc : List (Str × Addr)), (∀ x, (x, NameKind.free) ∈ names → ∃ c, env.cells.lookup x = some c) →
    (forIn names acc fun (x : Str × NameKind) (r : List (Str × Addr)) => if (x.2 == NameKind.free) = true then do let c ← cellOf env x.1; pure (ForInStep.yield ((x.1, c) :: r)) else pure (ForInStep.yield r) : Sem _) = pure (frees env.cells names acc)
  | [], acc, _ => rfl
  | (x, k) :: r, acc, h => by
    have ih := fun acc => closure_frees r acc fun y hy => h y (List.mem_cons_of_mem _ hy)
    rw [List.forIn_cons, frees]
    by_cases hk : (k == NameKind.free) = true
    · have e : k = .free := by simpa using hk
      subst e
      obtain ⟨c, hc⟩ := h x (List.mem_cons_self ..)
      simp only [beq_self_eq_true, if_true, hc]
      unfold cellOf
      rw [hc]
      exact ih _
    · simp only [hk]
      exact ih _
theorem closure_of {scope : Scope} (h : ∀ x, (x, NameKind.free) ∈ scope.names → ∃ c, env.cells.lookup x = some c) : closureFor scope env = pure (frees env.cells scope.names []) := by
  have := closure_frees (env := env) scope.names [] h
  unfold closureFor
  refine Eq.trans ?_ (congrArg (fun q => q >>= fun r => pure r) this)
  rfl
theorem frees_mem {cells : List (Str × Addr)} {x : Str} {c : Addr} : ∀ (names : List (Str × NameKind)) (acc : List (Str × Addr)), (x, c) ∈ frees cells names acc → (x, c) ∈ acc ∨ ((x, NameKind.free) ∈ names ∧ cells.lookup x = some c)
  | [], acc, h => .inl h
  | (y, k) :: r, acc, h => by
    rw [frees] at h
    split at h
    · rename_i hk
      have e : k = .free := by simpa using hk
      subst e
      split at h
      · rename_i c' hc'
        rcases frees_mem r _ h with h | ⟨h1, h2⟩
        · rcases List.mem_cons.mp h with h | h
          · cases h; exact .inr ⟨List.mem_cons_self .., hc'⟩
          · exact .inl h
        · exact .inr ⟨List.mem_cons_of_mem _ h1, h2⟩
      · rcases frees_mem r _ h with h | ⟨h1, h2⟩
        · exact .inl h
        · exact .inr ⟨List.mem_cons_of_mem _ h1, h2⟩
    · rcases frees_mem r _ h with h | ⟨h1, h2⟩
      · exact .inl h
      · exact .inr ⟨List.mem_cons_of_mem _ h1, h2⟩
theorem frees_has {cells : List (Str × Addr)} {x : Str} {c : Addr} (hc : cells.lookup x = some c) : ∀ (names : List (Str × NameKind)) (acc : List (Str × Addr)), ((x, NameKind.free) ∈ names ∨ (x, c) ∈ acc) → (x, c) ∈ frees cells names acc
  | [], acc, h => by rcases h with h | h; · cases h
                     · exact h
  | (y, k) :: r, acc, h => by
    rw [frees]
    split
    · rename_i hk
      have e : k = .free := by simpa using hk
      subst e
      split
      · rename_i c' hc'
        refine frees_has hc r _ ?_
        rcases h with h | h
        · rcases List.mem_cons.mp h with h | h
          · cases h; rw [hc] at hc'; cases hc'; exact .inr (List.mem_cons_self ..)
          · exact .inl h
        · exact .inr (List.mem_cons_of_mem _ h)
      · rename_i hc'
        refine frees_has hc r _ ?_
        rcases h with h | h
        · rcases List.mem_cons.mp h with h | h
          · cases h; rw [hc] at hc'; cases hc'
          · exact .inl h
        · exact .inr h
    · rename_i hk
      refine frees_has hc r _ ?_
      rcases h with h | h
      · rcases List.mem_cons.mp h with h | h
        · cases h; exact absurd rfl hk
        · exact .inl h
      · exact .inr h
end
end Mine

open PySem PySem.W PyProof.Rows
set_option Elab.async false
set_option linter.unusedVariables false
set_option maxRecDepth 100000
namespace Mine

section
variable {C : Cx} {n : Nat} {env cenv : Env} {m mc m₁ m₂ : Loc} {H H' : AH} {s s' : Shared} {sc scope : Scope} {lo : Addr}

theorem frees_inv {cells : List (Str × Addr)} (ap : cells.Pairwise fun x y => x.2 ≠ y.2) : ∀ (names : List (Str × NameKind)) (acc : List (Str × Addr)), (names.map (·.1)).Nodup → acc.Pairwise (fun x y => x.2 ≠ y.2) → (∀ p ∈ acc, cells.lookup p.1 = some p.2 ∧ p.1 ∉ names.map (·.1)) →
    (frees cells names acc).Pairwise (fun x y => x.2 ≠ y.2)
  | [], acc, _, h, _ => h
  | (y, k) :: r, acc, nd, h, hp => by
    rw [List.map_cons] at nd
    have nd' := List.nodup_cons.mp nd
    have hp' : ∀ p ∈ acc, cells.lookup p.1 = some p.2 ∧ p.1 ∉ r.map (·.1) := fun p q => ⟨(hp p q).1, fun z => (hp p q).2 (by rw [List.map_cons]; exact List.mem_cons_of_mem _ z)⟩
    rw [frees]
    split
    · split
      · rename_i c hc
        refine frees_inv ap r _ nd'.2 (List.pairwise_cons.mpr ⟨fun p q z => ?_, h⟩) fun p q => ?_
        · have := hp p q
          dsimp only at z
          have e := cells_inj ap (mem_lookup hc) (mem_lookup (z ▸ this.1))
          exact this.2 (by rw [List.map_cons]; exact e ▸ List.mem_cons_self ..)
        · rcases List.mem_cons.mp q with rfl | q
          · exact ⟨hc, nd'.1⟩
          · exact hp' p q
      · exact frees_inv ap r _ nd'.2 h hp'
    · exact frees_inv ap r _ nd'.2 h hp'
theorem lookup_of_mem {α : Type} {x : Str} {c : α} : ∀ {l : List (Str × α)}, (x, c) ∈ l → ∃ c', l.lookup x = some c'
  | (y, d) :: r, h => by
    by_cases e : x = y
    · subst e; exact ⟨d, by simp⟩
    · rcases List.mem_cons.mp h with h | h
      · cases h; exact absurd rfl e
      · obtain ⟨c', q⟩ := lookup_of_mem h
        have : (x == y) = false := by simpa using e
        exact ⟨c', by simp [List.lookup_cons, this, q]⟩

theorem relabel_lookup {x : Str} : ∀ {names : List (Str × NameKind)} {k : NameKind}, (names.map fun (n, k) => if (k == NameKind.free && sc.kind == .function && sc.names.lookup n == some .cell) then (n, NameKind.cell) else (n, k)).lookup x = some k →
    ∃ k', names.lookup x = some k' ∧ (k = k' ∨ (k' = .free ∧ k = .cell))
  | [], _, h => by cases h
  | (y, j) :: r, k, h => by
    rw [List.map_cons] at h
    by_cases e : x = y
    · subst e
      refine ⟨j, by simp, ?_⟩
      dsimp only at h
      split at h
      · rename_i q
        rw [lk_self] at h; cases h
        simp only [Bool.and_eq_true] at q
        exact .inr ⟨by simpa using q.1.1, rfl⟩
      · rw [lk_self] at h; cases h; exact .inl rfl
    · have hb : (x == y) = false := by simpa using e
      have h' : (r.map fun (n, k) => if (k == NameKind.free && sc.kind == .function && sc.names.lookup n == some .cell) then (n, NameKind.cell) else (n, k)).lookup x = some k := by
        dsimp only at h
        split at h <;> simpa [List.lookup_cons, hb] using h
      obtain ⟨k', a, b⟩ := relabel_lookup h'
      exact ⟨k', by simp [List.lookup_cons, hb, a], b⟩
where lk_self {β : Type} {x : Str} {d : β} {m : List (Str × β)} : ((x, d) :: m).lookup x = some d := by simp

theorem Cap.mem : ∀ {names : List (Str × NameKind)} {mc : Loc}, Cap sc m names mc → ∀ {x d}, mc.lookup x = some d → (x, NameKind.free) ∈ names ∧ m.lookup x = some d
  | _, _, .nil, _, _, h => by cases h
  | _, _, .skip _ r, _, _, h => ⟨List.mem_cons_of_mem _ (r.mem h).1, (r.mem h).2⟩
  | _, _, .take (x := y) (d := e) h1 h2 r, x, d, h => by
    rcases lookup_cons_eq h with ⟨rfl, rfl⟩ | ⟨_, h⟩
    · exact ⟨List.mem_cons_self .., h1⟩
    · exact ⟨List.mem_cons_of_mem _ (r.mem h).1, (r.mem h).2⟩
theorem Cap.has : ∀ {names : List (Str × NameKind)} {mc : Loc}, Cap sc m names mc → ∀ {x}, (x, NameKind.free) ∈ names → ∃ d, m.lookup x = some d ∧ mc.lookup x = some d ∧ sc.names.lookup x ≠ some .local
  | _, _, .nil, _, h => by cases h
  | _, _, .skip hk r, x, h => by
    rcases List.mem_cons.mp h with h | h
    · cases h; simp at hk
    · exact r.has h
  | _, _, .take (x := y) (d := e) h1 h2 r, x, h => by
    by_cases q : x = y
    · subst q; exact ⟨e, h1, by simp, by simpa using h2⟩
    · rcases List.mem_cons.mp h with h | h
      · cases h; exact absurd rfl q
      · obtain ⟨d, a, b, c⟩ := r.has h
        have hb : (x == y) = false := by simpa using q
        exact ⟨d, a, by simp [List.lookup_cons, hb, b], c⟩

theorem Drawn.other (R : Rel C env m H s) (y : Drawn C cenv mc H lo s s') (hlo : ∀ a, Own env a → a < lo) : Rel C env m H s' where
  toRelH := y.rel.toRelH
  ok := R.ok
  loc := by
    obtain ⟨mm, ⟨o, es, ep, e, q⟩, hv⟩ := R.loc
    exact ⟨mm, ⟨o, es, ep, y.keep _ o (hlo _ (.inl rfl)) e, q⟩, fun x d a b => by obtain ⟨v, h1, h2⟩ := hv x d a b; exact ⟨v, h1, h2.stays y.stays⟩⟩
  cell x c h := by obtain ⟨ov, o, e, q⟩ := R.cell x c h; exact ⟨ov, o, y.keep c o (hlo _ (.inr ⟨x, h⟩)) e, q⟩
  cellv x d c e q l := by obtain ⟨v, ⟨o, h1, h2⟩, h3⟩ := R.cellv x d c e q l; exact ⟨v, ⟨o, y.keep c o (hlo _ (.inr ⟨x, l⟩)) h1, h2⟩, h3.stays y.stays⟩
  kinds := R.kinds
  out := R.out

structure Inner (env cenv : Env) (m mc : Loc) : Prop where
  ne : cenv.locals ≠ env.locals ∧ ∀ x, env.cells.lookup x ≠ some cenv.locals
  cells : ∀ x c, cenv.cells.lookup x = some c → env.cells.lookup x = some c
  vals : ∀ x c d, cenv.cells.lookup x = some c → m.lookup x = some d → env.kindOf x ≠ some .local → mc.lookup x = some d ∧ cenv.kindOf x ≠ some .local

theorem Rel.back (R : Rel C env m H s) (Rc : Rel C cenv m₁ H s) (t : Step (Own cenv) H H' s s') (Rc' : Rel C cenv m₂ H' s') (hs : ∀ x d, mc.lookup x = some d → m₂.lookup x = some d) (I : Inner env cenv m mc) : Rel C env m H' s' := by
  have st := t.stays Rc
  have keepL : ∀ o, s.heap.get? env.locals = some o → s'.heap.get? env.locals = some o := fun o e => t.keep _ o e (R.out _ (.inl rfl)).1 (by
    rintro (z | ⟨x, hx⟩)
    · exact I.ne.1 z.symm
    · exact R.locals_ne_cell (I.cells x _ hx) rfl)
  have newOut : ∀ a, Own env a → H' a = none := fun a h => Classical.byContradiction fun q => (t.dom a q).elim (fun z => z (R.out a h).1) fun z => by
    have l : a < s.heap.objs.size := by
      rcases h with rfl | ⟨x, hx⟩
      · obtain ⟨mm, h1, _⟩ := R.loc; exact h1.lt
      · obtain ⟨ov, o, e, _⟩ := R.cell x a hx; exact Heap.lt_size e
    exact Nat.lt_irrefl _ (Nat.lt_of_lt_of_le l z)
  have keepC : ∀ x c, env.cells.lookup x = some c → (∃ y, cenv.cells.lookup y = some c) ∨ ∀ o, s.heap.get? c = some o → s'.heap.get? c = some o := fun x c hc => by
    by_cases q : ∃ y, cenv.cells.lookup y = some c
    · exact .inl q
    · refine .inr fun o e => t.keep c o e (R.out _ (.inr ⟨x, hc⟩)).1 ?_
      rintro (rfl | ⟨y, hy⟩)
      · exact I.ne.2 x hc
      · exact q ⟨y, hy⟩
  refine ⟨Rc'.toRelH, R.ok, ?_, fun x c hc => ?_, fun x d c e q hc => ?_, R.kinds, fun a h => ⟨newOut a h, (R.out a h).2⟩⟩
  · obtain ⟨mm, ⟨o, es, ep, e, q⟩, hv⟩ := R.loc
    exact ⟨mm, ⟨o, es, ep, keepL o e, q⟩, fun x d a b => by obtain ⟨v, h1, h2⟩ := hv x d a b; exact ⟨v, h1, h2.stays st⟩⟩
  · rcases keepC x c hc with ⟨y, hy⟩ | k
    · exact Rc'.cell y c hy
    · obtain ⟨ov, o, e, q⟩ := R.cell x c hc; exact ⟨ov, o, k o e, q⟩
  · rcases keepC x c hc with ⟨y, hy⟩ | k
    · have : x = y := cells_inj R.ok.apart (mem_lookup hc) (mem_lookup (I.cells y c hy))
      subst this
      obtain ⟨h1, h2⟩ := I.vals x c d hy e q
      exact Rc'.cellv x d c (hs x d h1) h2 hy
    · obtain ⟨v, ⟨o, h1, h2⟩, h3⟩ := R.cellv x d c e q hc
      exact ⟨v, ⟨o, k o h1, h2⟩, h3.stays st⟩

theorem drp_stays {h : Heap} {a : Addr} : Stays h h H (drp H a) := ⟨fun _ _ e _ _ => e, fun b o e q n => by unfold drp; split <;> simp_all⟩
theorem RelH.drop {a : Addr} (R : RelH C H s) : RelH C (drp H a) s where
  base := R.base
  size := R.size
  fresh b h := R.fresh b fun z => h (by unfold drp; split <;> simp_all)
  objs b o e := by
    have : H b = some o := by unfold drp at e; split at e; · cases e
                              · exact e
    exact Rep.stays drp_stays (fun _ q => q) (R.objs b o this)
  gens := R.gens
  os := R.os
theorem Rel.drop {a : Addr} (R : Rel C env m H s) : Rel C env m (drp H a) s where
  toRelH := R.toRelH.drop
  ok := R.ok
  loc := by obtain ⟨mm, h, hv⟩ := R.loc; exact ⟨mm, h, fun x d e q => by obtain ⟨v, a, b⟩ := hv x d e q; exact ⟨v, a, b.stays drp_stays⟩⟩
  cell := R.cell
  cellv x d c e q l := by obtain ⟨v, a, b⟩ := R.cellv x d c e q l; exact ⟨v, a, b.stays drp_stays⟩
  kinds := R.kinds
  out b h := ⟨by unfold drp; split; · rfl
                 · exact (R.out b h).1, (R.out b h).2⟩
theorem Step.drop {own : Addr → Prop} {a : Addr} (t : Step own H H' s s') : Step own H (drp H' a) s s' := ⟨t.keep, t.size, fun b h => t.dom b fun z => h (by unfold drp; split <;> simp_all), t.gens, t.os⟩
theorem RelH.frozen {a : Addr} {out : List D} (R : RelH C H s) (h : H a = some (.list out)) : VR s.heap (drp H a) (.ref a) (.lst out) := by
  obtain ⟨vs, hl, q⟩ := R.objs a _ h
  exact .lst hl.isList (by simp [drp]) (q.stays drp_stays)

/-- a place that nothing tells of may change -/
theorem Rel.loosen {a : Addr} {h' : Heap} (R : Rel C env m H s) (hs : Heap.SameBut a s.heap h') (hn : H a = none) (ho : ¬ Own env a) (hb : C.base.objs.size ≤ a) (hq : ∀ o, s.heap.get? a = some o → ¬ ∃ vs n, o.data = .seq vs n) :
    Rel C env m H { s with heap := h' } ∧ Stays s.heap h' H H :=
  R.bump (bad := (· = a)) ⟨fun b z => z ▸ hn, fun b z => z ▸ ho, fun b z => z ▸ hb, fun b z => z ▸ hq⟩ (fun b o nb e => same_keep hs b o nb e) (by show s.heap.objs.size ≤ h'.objs.size; exact Nat.le_of_eq hs.1.symm) rfl rfl

theorem it_self {A : Around} {E : Value → Shared → Prop} {b : Bool} {I : Addr} {items : List D} {Q : Value → Shared → Prop} (io : ItOk s.heap H lo b I items) (h : Q (.ref I) s) : wpAny (model C.prog C.w) A (pyIter (.ref I)) Q E s := by
  cases io with
  | list h1 h2 h3 h4 h5 h6 => exact wpAny_pyIter_listiter h1 h
  | tup h1 h2 h3 h4 h5 h6 => exact wpAny_pyIter_tupleiter h1 h
  | range h1 h2 h3 => exact wpAny_pyIter_rangeiter h1 h
  | enum h0 h1 h2 h2' hne h3' h3 h4 h5 h6 => exact wpAny_pyIter_enum h0 h

theorem comp_block {A : Around} {elt target iter : Expr} {ifs : List Expr} {rest : List Comprehension} {pos : Pos} {I : Addr} {b : Bool} {items : List D} {Φ : D → AH → Prop} {RR : Value → Addr → Result → Shared → Prop} {E : Value → Shared → Prop} {s₀ : Shared} {H₀ : AH}
    (rm : Room n A) (R₀ : Rel C env m H₀ s₀) (t₀ : Step (Own env) H₀ H s₀ s) (R : Rel C env m H s) (hE : env.scope = sc) (hcap : Cap sc m scope.names mc) (hk : scope.kind = .function) (hnd : (scope.names.map (·.1)).Nodup) (hcell : ∀ x ∈ scope.names, x.2 ≠ .cell)
    (io : ItOk s.heap H (width s₀) b I items) (ht : b = false ∨ ∃ es k p, target = .Tuple es k p) {cl : List (Str × Addr)} (hclE : cl = frees env.cells scope.names []) (U : Addr → Env → Sem Unit)
    (hU : ∀ acc cenv, compTurn (.ListComp elt (⟨target, iter, ifs, 0⟩ :: rest) scope pos) 0 (.ref I) (.ref acc) cenv = (do
      standAt iter.pos
      match ← pyNext (.ref I) with
      | none => pure (.done .next)
      | some v =>
        letOwnedTupleGo target (.ref I) v
        PySem.assign target cenv v
        let mut ok := true
        for c in ifs do
          if ok then ok ← isTrue c cenv (eval c cenv)
        if ok then U acc cenv
        again (.compLoop (.ListComp elt (⟨target, iter, ifs, 0⟩ :: rest) scope pos) 0 (.ref I) (.ref acc) cenv)))
    (L : ∀ cenv acc, cenv.scope = relabelS sc scope → H acc = none → LOOP C n cenv target ifs (U acc cenv) (fun H' => ∃ out, H' acc = some (.list out) ∧ Φ (.lst out) (drp H' acc)) items mc (upd H acc (.list [])))
    (fin : ∀ acc Cl s' H' d, Step (Own env) H₀ H' s₀ s' → Rel C env m H' s' → VR s'.heap H' (.ref acc) d → Φ d H' → (∃ mm, s'.heap.Ns Cl mm) → H' Cl = none → C.base.objs.size ≤ Cl → ¬ Own env Cl → s₀.heap.objs.size ≤ Cl → RR (.ref acc) Cl (.ok .next) s') :
    wpAny (model C.prog C.w) A (newList []) (fun acc s₃ => wpAny (model C.prog C.w) A (newFunctionEnv scope env.globals cl [] env.qual none .none (some env)) (fun cenv s₄ =>
      codeAny (model C.prog C.w) A (.compStart (.ListComp elt (⟨target, iter, ifs, 0⟩ :: rest) scope pos) 0 (.ref I) acc { cenv with scope := relabel scope env }) (RR acc cenv.locals) s₄) E s₃) E s := by
  refine wpAny_newObj_type (wpAny_newFunctionEnv hcell (by intro y hy; simp at hy) (fun h₁ hns hsb => ?_) hk)
  dsimp only at hns hsb ⊢
  have hown : ∀ a, Own env a → a < s₀.heap.objs.size := by
    rintro a (rfl | ⟨x, hx⟩)
    · obtain ⟨mm, h1, _⟩ := R₀.loc; exact h1.lt
    · obtain ⟨ov, o, e, _⟩ := R₀.cell x a hx; exact Heap.lt_size e
  have hz : s₀.heap.objs.size ≤ s.heap.objs.size := t₀.size
  -- the list
  have R₁ : Rel C env m (upd H s.heap.objs.size (.list [])) { s with heap := s.heap.push { cls := .type "list", dict := none, data := .seq ([] : List Value).toArray } } :=
    R.add (push_keep _ _) (push_size _ _) rfl rfl (Nat.le_refl _) ⟨[], ⟨0, Heap.get?_push_size _ rfl⟩, .nil⟩
  have t₁ : Step (Own env) H (upd H s.heap.objs.size (.list [])) s { s with heap := s.heap.push { cls := .type "list", dict := none, data := .seq ([] : List Value).toArray } } := Step.add (push_keep _ _) (push_size _ _) rfl rfl (Nat.le_refl _)
  have io₁ := io.step R t₁
  have hno : H s.heap.objs.size = none := R.new (Nat.le_refl _)
  generalize hD : s.heap.objs.size = D at *
  generalize hH1 : s.heap.push { cls := .type "list", dict := none, data := .seq ([] : List Value).toArray } = H1 at *
  generalize hC : H1.objs.size = Cl at *
  have hDC : D < Cl := by rw [← hC, ← hH1, Heap.size_push, hD]; exact Nat.lt_succ_self _
  have kk : ∀ b o, H1.get? b = some o → h₁.get? b = some o := fun b o e => hsb.extBut b o (Nat.ne_of_lt (hC ▸ Heap.lt_size e)) (push_keep _ _ b o e)
  have ww : H1.objs.size ≤ h₁.objs.size := by rw [hsb.1]; exact push_size _ _
  have R₂ : Rel C env m (upd H D (.list [])) { s with heap := h₁, toks := s.toks + ([] : List (Str × Value)).length } := R₁.grown (s' := { s with heap := h₁, toks := s.toks + ([] : List (Str × Value)).length }) kk ww rfl rfl
  have t₂ : Step (Own env) (upd H D (.list [])) (upd H D (.list [])) { s with heap := H1 } { s with heap := h₁, toks := s.toks + ([] : List (Str × Value)).length } := Step.grown (s := { s with heap := H1 }) (s' := { s with heap := h₁, toks := s.toks + ([] : List (Str × Value)).length }) kk ww rfl rfl
  have io₂ := io₁.step R₁ t₂
  generalize hs2 : ({ s with heap := h₁, toks := s.toks + ([] : List (Str × Value)).length } : Shared) = s₂ at *
  have hns₂ : s₂.heap.Ns Cl (fun x => ([] : List (Str × Value)).reverse.lookup x) := by rw [← hs2]; exact hns
  have hCn : upd H D (.list []) Cl = none := by rw [← hC]; exact R₁.new (Nat.le_refl _)
  have hCb : C.base.objs.size ≤ Cl := by rw [← hC]; exact R₁.size
  have hCo : ¬ Own env Cl := fun z => Nat.lt_irrefl _ (Nat.lt_trans (Nat.lt_of_lt_of_le (hown Cl z) hz) hDC)
  -- the inner names
  rw [relabel_eq hE]
  have hcs : (newEnv scope Cl env.globals cl env.qual none Value.none (some env) builtinsNs).cells = cl := rfl
  generalize hce : ({ newEnv scope Cl env.globals cl env.qual none Value.none (some env) builtinsNs with scope := relabelS sc scope } : Env) = cenv at *
  have e1 : cenv.scope = relabelS sc scope := by rw [← hce]
  have e2 : cenv.locals = Cl := by rw [← hce]; rfl
  have e3 : cenv.cells = cl := by rw [← hce]; rfl
  have e4 : cenv.globals = env.globals := by rw [← hce]; rfl
  have e5 : cenv.builtins = env.builtins := by rw [← hce]; rfl
  have hfree : ∀ x, (x, NameKind.free) ∈ scope.names → ∃ c, env.cells.lookup x = some c := fun x hx => by
    obtain ⟨d, a, _, q⟩ := hcap.has hx
    rcases R₀.kinds x d a with z | ⟨_, z⟩
    · exact absurd (by unfold Env.kindOf at z; rw [hE] at z; exact z) q
    · exact z
  have cellsIn : ∀ x c, cl.lookup x = some c → (x, NameKind.free) ∈ scope.names ∧ env.cells.lookup x = some c := fun x c h => by
    rw [hclE] at h
    rcases frees_mem _ _ (mem_lookup h) with z | z
    · cases z
    · exact z
  have cellsHas : ∀ x, (x, NameKind.free) ∈ scope.names → ∃ c, cl.lookup x = some c ∧ env.cells.lookup x = some c := fun x h => by
    obtain ⟨c, hc⟩ := hfree x h
    obtain ⟨c', hc'⟩ := lookup_of_mem (frees_has hc scope.names [] (.inl h))
    rw [← hclE] at hc'
    have := (cellsIn x c' hc').2
    rw [hc] at this; cases this
    exact ⟨c, hc', hc⟩
  have kindFree : ∀ x, (x, NameKind.free) ∈ scope.names → cenv.kindOf x = some .cell ∨ cenv.kindOf x = some .free := fun x h => by
    have hl := lookup_of_mem_nodup hnd h
    unfold Env.kindOf
    rw [e1]
    cases hk' : (relabelS sc scope).names.lookup x with
    | none =>
      exfalso
      have hk1 := List.mem_map_of_mem (f := fun ((n, k) : Str × NameKind) => if (k == NameKind.free && sc.kind == ScopeKind.function && sc.names.lookup n == some NameKind.cell) = true then (n, NameKind.cell) else (n, k)) h
      have hk2 : ∃ k', (x, k') ∈ (relabelS sc scope).names := by
        dsimp only at hk1
        split at hk1
        · exact ⟨_, hk1⟩
        · exact ⟨_, hk1⟩
      obtain ⟨k', hk2⟩ := hk2
      obtain ⟨c', q⟩ := lookup_of_mem hk2
      rw [hk'] at q; cases q
    | some k =>
      obtain ⟨k', a, b⟩ := relabel_lookup hk'
      rw [hl] at a; cases a
      rcases b with rfl | ⟨_, rfl⟩
      · exact .inr rfl
      · exact .inl rfl
  have kindNot : ∀ x, (cenv.kindOf x = some .cell ∨ cenv.kindOf x = some .free) → (x, NameKind.free) ∈ scope.names := fun x h => by
    unfold Env.kindOf at h
    rw [e1] at h
    rcases h with h | h
    · obtain ⟨k', a, b⟩ := relabel_lookup h
      rcases b with rfl | ⟨rfl, _⟩
      · exact absurd rfl (hcell _ (mem_lookup a))
      · exact mem_lookup a
    · obtain ⟨k', a, b⟩ := relabel_lookup h
      rcases b with rfl | ⟨rfl, _⟩
      · exact mem_lookup a
      · exact mem_lookup a
  have notLocal : ∀ x, (x, NameKind.free) ∈ scope.names → cenv.kindOf x ≠ some .local := fun x h => by
    rcases kindFree x h with z | z <;> rw [z] <;> simp
  have In : Inner env cenv m mc := by
    refine ⟨⟨fun z => ?_, fun x hx => ?_⟩, fun x c h => (cellsIn x c (e3 ▸ h)).2, fun x c d h hm _ => ?_⟩
    · rw [e2] at z; exact hCo (.inl z)
    · rw [e2] at hx; exact hCo (.inr ⟨x, hx⟩)
    · have hx := (cellsIn x c (e3 ▸ h)).1
      obtain ⟨d', a, b, _⟩ := hcap.has hx
      rw [hm] at a; cases a
      exact ⟨b, notLocal x hx⟩
  have Rc : Rel C cenv mc (upd H D (.list [])) s₂ := by
    refine ⟨R₂.toRelH, ⟨by rw [e1]; exact hk, e4.trans R.ok.globals, e5.trans R.ok.builtins, ?_, fun x h => ?_⟩, ?_, fun x c h => ?_, fun x d c h _ hc => ?_, fun x d h => ?_, ?_⟩
    · rw [e3, hclE]; exact frees_inv R.ok.apart _ _ hnd .nil (by simp)
    · obtain ⟨c, hc, _⟩ := cellsHas x (kindNot x h); exact ⟨c, e3 ▸ hc⟩
    · exact ⟨_, e2 ▸ hns₂, fun x d h q => absurd q (notLocal x (hcap.mem h).1)⟩
    · exact R₂.cell x c (In.cells x c h)
    · obtain ⟨hx, hm⟩ := hcap.mem h
      obtain ⟨d', _, _, q⟩ := hcap.has hx
      exact R₂.cellv x d c hm (by unfold Env.kindOf; rw [hE]; exact q) (In.cells x c hc)
    · have hx := (hcap.mem h).1
      obtain ⟨c, hc, _⟩ := cellsHas x hx
      exact .inr ⟨kindFree x hx, c, e3 ▸ hc⟩
    · rintro a (rfl | ⟨x, hx⟩)
      · rw [e2]; exact ⟨hCn, hCb⟩
      · exact R₂.out a (.inr ⟨x, In.cells x a hx⟩)
  have main : codeAny (model C.prog C.w) A (.compLoop (.ListComp elt (⟨target, iter, ifs, 0⟩ :: rest) scope pos) 0 (.ref I) (.ref D) cenv) (RR (.ref D) Cl) s₂ := by
    refine codeAny_mono (loop_items (lo := width s₀) rm (hU D cenv) ht R₀.size items Rc io₂ (L cenv D e1 hno) (P := fun H s => Rel C env m H s) R₂ (fun H s s' R dr => dr.other R hown) (fun H H' s s' m₁ m₂ R Rc t Rc' hs => R.back Rc t Rc' hs In)) fun r s' p => ?_
    obtain ⟨rfl, H', t, Rc', R', out, ho, φ⟩ := p
    have own3 : Step (Own env) H₀ H' s₀ s' := by
      have w := fun (own : Addr → Prop) (x : ∀ a, own a → Own env a ∨ a = Cl ∨ width s₀ ≤ a) => x
      have a0 : Step (fun a => Own env a ∨ a = Cl ∨ width s₀ ≤ a) H₀ H s₀ s := t₀.weaken fun a _ q => .inl q
      have a1 := t₁.weaken (own' := fun a => Own env a ∨ a = Cl ∨ width s₀ ≤ a) fun a _ q => .inl q
      have a2 := t₂.weaken (own' := fun a => Own env a ∨ a = Cl ∨ width s₀ ≤ a) fun a _ q => .inl q
      have a3 := t.weaken (own' := fun a => Own env a ∨ a = Cl ∨ width s₀ ≤ a) fun a _ q => by
        rcases q with (rfl | ⟨x, hx⟩) | q
        · exact .inr (.inl e2)
        · exact .inl (.inr ⟨x, In.cells x a hx⟩)
        · exact .inr (.inr q)
      refine (((a0.trans a1).trans a2).trans a3).weaken fun a hl q => ?_
      rcases q with q | rfl | q
      · exact q
      · exact absurd hl (Nat.not_lt.mpr (Nat.le_trans hz (Nat.le_of_lt hDC)))
      · exact absurd hl (Nat.not_lt.mpr q)
    obtain ⟨mm, hmm, _⟩ := Rc'.loc
    have hcl := Rc'.out _ (.inl rfl)
    rw [e2] at hcl hmm
    exact fin D Cl s' _ _ own3.drop R'.drop (R'.frozen ho) φ ⟨mm, hmm⟩ (by unfold drp; split; · rfl
                                                                           · exact hcl.1) hcl.2 hCo (Nat.le_trans hz (Nat.le_of_lt hDC))
  have e6 : (newEnv scope Cl env.globals cl env.qual none Value.none (some env) builtinsNs).locals = Cl := rfl
  exact codeAny_compStart_list main (it_self io₂ main)
end
end Mine

open PySem PySem.W PyProof.Rows
set_option Elab.async false
set_option linter.unusedVariables false
set_option maxRecDepth 100000
namespace Mine

section
variable {C : Cx} {n : Nat} {env cenv : Env} {m mc m₁ m₂ : Loc} {H H' : AH} {s s' : Shared} {sc scope : Scope} {lo : Addr}

theorem let_go {s₀ : Shared} {H₀ : AH} {Cl : Addr} {h' : Heap} (t : Step (Own env) H₀ H' s₀ s') (R : Rel C env m H' s') (hn : ∃ mm, s'.heap.Ns Cl mm) (h1 : H' Cl = none) (h2 : C.base.objs.size ≤ Cl) (h3 : ¬ Own env Cl) (h4 : s₀.heap.objs.size ≤ Cl) (hs : Heap.SameBut Cl s'.heap h') :
    Step (Own env) H₀ H' s₀ { s' with heap := h' } ∧ Rel C env m H' { s' with heap := h' } ∧ Stays s'.heap h' H' H' := by
  obtain ⟨mm, hn⟩ := hn
  obtain ⟨R', st⟩ := R.loosen hs h1 h3 h2 fun o e q => by obtain ⟨vs, k, q⟩ := q; exact ns_noseq hn e q
  refine ⟨⟨fun a o e n q => same_keep hs a o (fun z => ?_) (t.keep a o e n q), Nat.le_trans t.size (Nat.le_of_eq hs.1.symm), t.dom, t.gens, t.os⟩, R', st⟩
  subst z
  exact Nat.lt_irrefl _ (Nat.lt_of_lt_of_le (Heap.lt_size e) h4)

noncomputable def CompOk (C : Cx) (n : Nat) (sc : Scope) (target : Expr) (ifs : List Expr) (scope : Scope) (U : Addr → Env → Sem Unit) (mc : Loc) (Φ : D → AH → Prop) (b : Bool) (items : List D) (H₁ : AH) : Prop :=
  (b = false ∨ ∃ es k p, target = .Tuple es k p) ∧ ∀ cenv acc, cenv.scope = relabelS sc scope → H₁ acc = none →
    LOOP C n cenv target ifs (U acc cenv) (fun H' => ∃ out, H' acc = some (.list out) ∧ Φ (.lst out) (drp H' acc)) items mc (upd H₁ acc (.list []))

/-- what a turn of the first clause is -/
noncomputable def TurnIs (elt target iter : Expr) (ifs : List Expr) (rest : List Comprehension) (scope : Scope) (pos : Pos) (U : Addr → Env → Sem Unit) : Prop :=
  ∀ I acc cenv, compTurn (.ListComp elt (⟨target, iter, ifs, 0⟩ :: rest) scope pos) 0 (.ref I) (.ref acc) cenv = (do
      standAt iter.pos
      match ← pyNext (.ref I) with
      | none => pure (.done .next)
      | some v =>
        letOwnedTupleGo target (.ref I) v
        PySem.assign target cenv v
        let mut ok := true
        for c in ifs do
          if ok then ok ← isTrue c cenv (eval c cenv)
        if ok then U acc cenv
        again (.compLoop (.ListComp elt (⟨target, iter, ifs, 0⟩ :: rest) scope pos) 0 (.ref I) (.ref acc) cenv))
theorem TurnIs.emit {elt target iter : Expr} {ifs : List Expr} {scope : Scope} {pos : Pos} : TurnIs elt target iter ifs [] scope pos fun acc cenv => emit elt (.ref acc) cenv := fun _ _ _ => rfl
/-- the work of a further clause -/
noncomputable def inner (e iter : Expr) (acc : Value) (env : Env) : Sem Unit := do
  let x ← eval iter env
  standAt iter.pos
  let x ← foldedSetIterable iter env x
  let _ ← runOwn (.compStart e 1 (← holding [x] (pyIter x)) acc env) env
theorem TurnIs.inner {elt target iter target₂ iter₂ : Expr} {ifs ifs₂ : List Expr} {scope : Scope} {pos : Pos} :
    TurnIs elt target iter ifs [⟨target₂, iter₂, ifs₂, 0⟩] scope pos fun acc cenv => Mine.inner (.ListComp elt [⟨target, iter, ifs, 0⟩, ⟨target₂, iter₂, ifs₂, 0⟩] scope pos) iter₂ (.ref acc) cenv := fun I acc cenv => by
  unfold compTurn Mine.inner
  simp only [bind_assoc]
  rfl

theorem EV.compG {elt target iter : Expr} {ifs : List Expr} {rest : List Comprehension} {pos : Pos} {Φ : D → AH → Prop} {U : Addr → Env → Sem Unit} (hU : TurnIs elt target iter ifs rest scope pos U) (hE : env.scope = sc) (hcap : Cap sc m scope.names mc) (h : IV C n env iter m H (CompOk C n sc target ifs scope U mc Φ))
    (hk : scope.kind = .function) (hnd : (scope.names.map (·.1)).Nodup) (hcell : ∀ x ∈ scope.names, x.2 ≠ .cell) (hs : ∀ x, foldedSetIterable iter env x = pure x) : EV C n env (.ListComp elt (⟨target, iter, ifs, 0⟩ :: rest) scope pos) m H Φ := fun A s rm R => by
  rw [eval_ListComp]
  have hcl : closureFor scope env = pure (frees env.cells scope.names []) := closure_of fun x hx => by
    obtain ⟨d, a, _, q⟩ := hcap.has hx
    rcases R.kinds x d a with z | ⟨_, z⟩
    · exact absurd (by unfold Env.kindOf at z; rw [hE] at z; exact z) q
    · exact z
  refine wpAny_comprehension_free (e := .ListComp elt (⟨target, iter, ifs, 0⟩ :: rest) scope pos) (g := ⟨target, iter, ifs, 0⟩) (gs := rest) (use := Option.none) rfl hs hcl hk (fun x hx hl => lookup_of_mem_nodup hnd (by obtain ⟨a, b⟩ := x; dsimp only at hl ⊢; subst hl; exact hx)) (wpAny_mono (h A s rm R) (fun xv s₁ h₁ => wpAny_mono h₁ (fun it s₂ h₂ => ?_) fun _ _ e => e) fun _ _ e => e)
  obtain ⟨I, items, b, H₁, rfl, t, R₁, io, ht, L⟩ := h₂
  refine comp_block (RR := fun acc Cl => compPost (model C.prog C.w) A NoE Option.none (PV C env m H s Φ) acc Cl) rm R t R₁ hE hcap hk hnd hcell io ht rfl U (hU I) L fun acc Cl s' H' d t' R' q φ hn h1 h2 h3 h4 => ?_
  obtain ⟨mm, hn'⟩ := id hn
  refine ⟨mm, hn', fun h' hs' => ?_⟩
  obtain ⟨t2, R2, st⟩ := let_go t' R' hn h1 h2 h3 h4 hs'
  exact ⟨d, H', t2, q.stays st, R2, φ⟩
theorem EV.comp {elt target iter : Expr} {ifs : List Expr} {pos : Pos} {Φ : D → AH → Prop} (hE : env.scope = sc) (hcap : Cap sc m scope.names mc) (h : IV C n env iter m H (CompOk C n sc target ifs scope (fun acc cenv => emit elt (.ref acc) cenv) mc Φ))
    (hk : scope.kind = .function := by rfl) (hnd : (scope.names.map (·.1)).Nodup := by decide +kernel) (hcell : ∀ x ∈ scope.names, x.2 ≠ .cell := by decide +kernel) (hs : ∀ x, foldedSetIterable iter env x = pure x := by intro _; rfl) : EV C n env (.ListComp elt [⟨target, iter, ifs, 0⟩] scope pos) m H Φ :=
  EV.compG TurnIs.emit hE hcap h hk hnd hcell hs
theorem EV.comp2 {elt target iter target₂ iter₂ : Expr} {ifs ifs₂ : List Expr} {pos : Pos} {Φ : D → AH → Prop} (hE : env.scope = sc) (hcap : Cap sc m scope.names mc) (h : IV C n env iter m H (CompOk C n sc target ifs scope (fun acc cenv => Mine.inner (.ListComp elt [⟨target, iter, ifs, 0⟩, ⟨target₂, iter₂, ifs₂, 0⟩] scope pos) iter₂ (.ref acc) cenv) mc Φ))
    (hk : scope.kind = .function := by rfl) (hnd : (scope.names.map (·.1)).Nodup := by decide +kernel) (hcell : ∀ x ∈ scope.names, x.2 ≠ .cell := by decide +kernel) (hs : ∀ x, foldedSetIterable iter env x = pure x := by intro _; rfl) : EV C n env (.ListComp elt [⟨target, iter, ifs, 0⟩, ⟨target₂, iter₂, ifs₂, 0⟩] scope pos) m H Φ :=
  EV.compG TurnIs.inner hE hcap h hk hnd hcell hs

theorem X1.assignComp {y : Str} {py spos : Pos} {elt target iter : Expr} {ifs : List Expr} {pos : Pos} {Φ : FL → Loc → AH → Prop} (hE : env.scope = sc) (hcap : Cap sc m scope.names mc)
    (h : IV C n env iter m H (CompOk C n sc target ifs scope (fun acc cenv => emit elt (.ref acc) cenv) mc fun d H' => Φ .next ((y, d) :: m) H'))
    (hsw : swapsWith (.ListComp elt [⟨target, iter, ifs, 0⟩] scope pos) (some (.Name y py)) spos.line env = pure true) (hy : storable sc y = true := by decide +kernel)
    (hk : scope.kind = .function := by rfl) (hnd : (scope.names.map (·.1)).Nodup := by decide +kernel) (hcell : ∀ x ∈ scope.names, x.2 ≠ .cell := by decide +kernel) (hs : ∀ x, foldedSetIterable iter env x = pure x := by intro _; rfl) : X1 C n env (.Assign [.Name y py] (.ListComp elt [⟨target, iter, ifs, 0⟩] scope pos) spos) m H Φ := fun A s rm R => by
  rw [exec_Assign_Name_used _ _ _ _ hsw]
  refine wpAny_bind (wpAny_standAt (wpAny_bind ?_))
  show wpAny _ A (do let _ ← comprehension (.ListComp elt [⟨target, iter, ifs, 0⟩] scope pos) scope env _ (newList []) false (eval iter env) (some (PySem.assign (.Name y py) env))) _ _ s
  have hcl : closureFor scope env = pure (frees env.cells scope.names []) := closure_of fun x hx => by
    obtain ⟨d, a, _, q⟩ := hcap.has hx
    rcases R.kinds x d a with z | ⟨_, z⟩
    · exact absurd (by unfold Env.kindOf at z; rw [hE] at z; exact z) q
    · exact z
  refine wpAny_bind (wpAny_mono (wpAny_comprehension_free (e := .ListComp elt [⟨target, iter, ifs, 0⟩] scope pos) (g := ⟨target, iter, ifs, 0⟩) (gs := []) (use := some (PySem.assign (.Name y py) env)) (Q := fun _ s' => PF C env H s Φ .next s') rfl hs hcl hk (fun x hx hl => lookup_of_mem_nodup hnd (by obtain ⟨a, b⟩ := x; dsimp only at hl ⊢; subst hl; exact hx))
    (wpAny_mono (h A s rm R) (fun xv s₁ h₁ => wpAny_mono h₁ (fun it s₂ h₂ => ?_) fun _ _ e => e) fun _ _ e => e)) (fun _ s' hq => wpAny_pure (wpAny_pure hq)) fun _ _ e => e)
  obtain ⟨I, items, b, H₁, rfl, t, R₁, io, ht, L⟩ := h₂
  refine comp_block (Φ := fun d H' => Φ .next ((y, d) :: m) H') (RR := fun acc Cl => compPost (model C.prog C.w) A NoE (some (PySem.assign (.Name y py) env)) (fun _ s' => PF C env H s Φ .next s') acc Cl) rm R t R₁ hE hcap hk hnd hcell io ht rfl _ (TurnIs.emit I) L fun acc Cl s' H' d t' R' q φ hn h1 h2 h3 h4 => ?_
  show wpAny _ A (PySem.assign (.Name y py) env (.ref acc)) _ _ _
  refine assign_Name (store_ hE hy R' q fun s₂ t₂ R₂ => ?_)
  have hn2 : ∃ mm, s₂.heap.Ns Cl mm := by
    obtain ⟨mm, o, es, ep, e, q⟩ := hn
    exact ⟨mm, o, es, ep, t₂.keep _ o e h1 h3, q⟩
  obtain ⟨mm, hn'⟩ := id hn2
  refine ⟨mm, hn', fun h' hs' => ?_⟩
  obtain ⟨t3, R3, st⟩ := let_go (t'.trans t₂) R₂ hn2 h1 h2 h3 h4 hs'
  exact ⟨.next, _, H', t3, .next, R3, φ⟩

theorem codeAny_compStart_two {A : Around} {RR : Result → Shared → Prop} {elt target iter target₂ iter₂ : Expr} {ifs ifs₂ : List Expr} {pos : Pos} {it acc : Value} {prog : Program} {w : World}
    (h0 : codeAny (model prog w) A (.compLoop (.ListComp elt [⟨target, iter, ifs, 0⟩, ⟨target₂, iter₂, ifs₂, 0⟩] scope pos) 1 it acc env) RR s)
    (h : wpAny (model prog w) A (pyIter it) (fun it' s' => codeAny (model prog w) A (.compLoop (.ListComp elt [⟨target, iter, ifs, 0⟩, ⟨target₂, iter₂, ifs₂, 0⟩] scope pos) 1 it' acc env) RR s')
      (notedBy (model prog w) A env fun x s' => RR (.error x) s') s) :
    codeAny (model prog w) A (.compStart (.ListComp elt [⟨target, iter, ifs, 0⟩, ⟨target₂, iter₂, ifs₂, 0⟩] scope pos) 1 it acc env) RR s := by
  refine codeAny_of_tree ?_
  show wpAny _ _ ((compStart (.ListComp elt [⟨target, iter, ifs, 0⟩, ⟨target₂, iter₂, ifs₂, 0⟩] scope pos) 1 it acc env).onRaise (fun x => do noteFrame x env; standAt theWindowsPlace)) _ _ s
  refine wpAny_notedAt ?_
  unfold compStart
  show wpAny _ _ (ask >>= _) _ _ s
  refine wpAny_bind (wpAny_askSetting (wpAny_ite ?_))
  split
  · first
      | exact wpAny_bind (wpAny_pure (wpAny_pure (And.intro rfl h0)))
      | exact wpAny_pure (And.intro rfl h0)
  · first
      | exact wpAny_bind (wpAny_rule (wpAny_bind (wpAny_standAt (wpAny_bind (wpAny_mono h (fun it' s' h' => wpAny_pure (And.intro rfl h')) fun _ _ x => x)))))
      | (refine wpAny_bind (wpAny_rule ?_); show wpAny _ _ (standAt iter₂.pos >>= _) _ _ s; exact wpAny_bind (wpAny_standAt (wpAny_bind (wpAny_mono h (fun it' s' h' => wpAny_pure (And.intro rfl h')) fun _ _ x => x))))

theorem UB.inner {elt target iter target₂ iter₂ : Expr} {ifs ifs₂ : List Expr} {pos : Pos} {acc : Addr} {Φ : AH → Prop}
    (h : IV C n env iter₂ m H fun b items H₁ => (b = false ∨ ∃ es k p, target₂ = .Tuple es k p) ∧ LOOP C n env target₂ ifs₂ (Mine.emit elt (.ref acc) env) Φ items m H₁)
    (hs : ∀ x, foldedSetIterable iter₂ env x = pure x := by intro _; rfl) : UB C n env (Mine.inner (.ListComp elt [⟨target, iter, ifs, 0⟩, ⟨target₂, iter₂, ifs₂, 0⟩] scope pos) iter₂ (.ref acc) env) m H Φ := fun A s rm R => by
  unfold Mine.inner
  refine wpAny_bind (wpAny_mono (h A s rm R) (fun x s₁ p => wpAny_bind (wpAny_standAt (wpAny_bind (wpAny_of_eq (hs x) (wpAny_bind (wpAny_holding (wpAny_mono p (fun it s₂ p => ?_) fun _ _ x => x))))))) fun _ _ x => x)
  obtain ⟨I, items, b, H₁, rfl, t, R₁, io, ht, L⟩ := p
  have main : codeAny (model C.prog C.w) A (.compLoop (.ListComp elt [⟨target, iter, ifs, 0⟩, ⟨target₂, iter₂, ifs₂, 0⟩] scope pos) 1 (.ref I) (.ref acc) env) (fun r s' => r = .ok .next ∧ ∃ H', Step (Own env) H H' s s' ∧ Rel C env m H' s' ∧ Φ H') s₂ := by
    refine codeAny_mono (loop_items (iter := iter₂) rm rfl ht R.size items R₁ io L (P := fun _ _ => True) trivial (fun _ _ _ _ _ => trivial) (fun _ _ _ _ _ _ _ _ _ _ _ => trivial)) fun r s' p => ?_
    obtain ⟨rfl, H', t', R', _, φ⟩ := p
    refine ⟨rfl, H', ?_, R', φ⟩
    exact ((t.weaken (own' := fun a => Own env a ∨ width s ≤ a) fun a _ q => .inl q).trans t').weaken fun a hl q => q.elim id fun z => absurd hl (Nat.not_lt.mpr z)
  refine wpAny_bind (wpAny_runOwn (codeAny_mono (codeAny_compStart_two main (it_self io main)) fun r s' p => ?_))
  obtain ⟨rfl, H', t', R', φ⟩ := p
  exact wpAny_pure ⟨H', t', R', φ⟩
end
end Mine

open PySem PySem.W PyProof.Rows
set_option Elab.async false
set_option linter.unusedVariables false
set_option maxRecDepth 100000
namespace Mine

section
variable {C : Cx} {n : Nat} {env cenv : Env} {m mc m₁ m₂ : Loc} {H H' : AH} {s s' : Shared} {sc scope : Scope} {lo : Addr}

theorem bind_all {A : Around} (hE : env.scope = sc) : ∀ (names : List Str) (vs : List Value) (ds : List D) (m : Loc) (s : Shared), (names.all (storable sc)) = true → names.length = ds.length → Rel C env m H s → VRs s.heap H vs ds →
    wpAny (model C.prog C.w) A (assignInOrder (names.map fun n => bindName env n) vs) (fun _ s' => Step (Own env) H H s s' ∧ Rel C env ((names.zip ds).reverse ++ m) H s') NoE s
  | [], vs, ds, m, s, _, hl, R, q => assignInOrder_nil ⟨.refl, by simpa using R⟩
  | x :: xs, vs, [], m, s, _, hl, R, q => by cases hl
  | x :: xs, vs, d :: ds, m, s, ha, hl, R, q => by
    cases q with
    | cons q r =>
      simp only [List.all_cons, Bool.and_eq_true] at ha
      refine assignInOrder_cons (wpAny_bindName (store_ hE ha.1 R q fun s₁ t R₁ => ?_))
      refine wpAny_mono (bind_all hE xs _ ds _ s₁ ha.2 (by simpa using hl) R₁ (r.step t R)) (fun _ s₂ p => ⟨t.trans p.1, ?_⟩) fun _ _ x => x
      have := p.2
      simpa [List.zip_cons_cons] using this

theorem X1.swap {names : List Str} {elts : List Expr} {k : Nat} {p pos : Pos} {e : Expr} {Φ : FL → Loc → AH → Prop} (hE : env.scope = sc) (h : EV C n env e m H fun d H₁ => ∃ ds, d = .tup ds ∧ names.length = ds.length ∧ Φ .next ((names.reverse.zip ds.reverse).reverse ++ m) H₁)
    (hw : swappedStores [.Tuple elts k p] e env = pure (some names)) (ha : (names.reverse.all (storable sc)) = true) (hs : swapsWithSole [.Tuple elts k p] e pos.line env = pure false) : X1 C n env (.Assign [.Tuple elts k p] e pos) m H Φ := fun A s rm R => by
  refine Assign_Tuple_swapped (wpAny_mono (h A s rm R) (fun v s₁ p => ?_) fun _ _ x => x) hs hw
  obtain ⟨d, H₁, t, q, R₁, ds, rfl, hl, φ⟩ := p
  cases q with
  | tup ht hn r =>
    rename_i a vs
    have hsz : names.length = vs.toArray.size := by rw [hl]; simpa using r.length.symm
    rw [hsz]
    refine wide (wpAny_unpackItems_tuple rm.1 ht fun h' he hw => ?_)
    have st : Step (Own env) H₁ H₁ s₁ { s₁ with heap := h' } := .grown (ext_keep he) hw rfl rfl
    have R₂ : Rel C env m H₁ { s₁ with heap := h' } := R₁.grown (ext_keep he) hw rfl rfl
    refine wpAny_mono (bind_all hE names.reverse _ ds.reverse m { s₁ with heap := h' } ha (by simpa using hl) R₂ (by simpa using (r.step st R₁).reverse)) (fun _ s₃ p => ?_) fun _ _ x => x
    exact ⟨.next, _, H₁, (t.trans st).trans p.1, .next, p.2, φ⟩
theorem X1.swap2 {x y : Str} {elts : List Expr} {k : Nat} {p pos : Pos} {e : Expr} {Φ : FL → Loc → AH → Prop} (hE : env.scope = sc) (h : EV C n env e m H fun d H₁ => ∃ a b, d = .tup [a, b] ∧ Φ .next ((x, a) :: (y, b) :: m) H₁)
    (hw : swappedStores [.Tuple elts k p] e env = pure (some [x, y])) (ha : ([y, x].all (storable sc)) = true := by decide +kernel) (hs : swapsWithSole [.Tuple elts k p] e pos.line env = pure false := by rfl) : X1 C n env (.Assign [.Tuple elts k p] e pos) m H Φ :=
  X1.swap (names := [x, y]) hE (h.mono fun d H' q => by obtain ⟨a, b, rfl, φ⟩ := q; exact ⟨_, rfl, rfl, φ⟩) hw ha hs
theorem X1.swap3 {x y z : Str} {elts : List Expr} {k : Nat} {p pos : Pos} {e : Expr} {Φ : FL → Loc → AH → Prop} (hE : env.scope = sc) (h : EV C n env e m H fun d H₁ => ∃ a b c, d = .tup [a, b, c] ∧ Φ .next ((x, a) :: (y, b) :: (z, c) :: m) H₁)
    (hw : swappedStores [.Tuple elts k p] e env = pure (some [x, y, z])) (ha : ([z, y, x].all (storable sc)) = true := by decide +kernel) (hs : swapsWithSole [.Tuple elts k p] e pos.line env = pure false := by rfl) : X1 C n env (.Assign [.Tuple elts k p] e pos) m H Φ :=
  X1.swap (names := [x, y, z]) hE (h.mono fun d H' q => by obtain ⟨a, b, c, rfl, φ⟩ := q; exact ⟨_, rfl, rfl, φ⟩) hw ha hs

/-- from here a list is not written to any more -/
theorem VR.freeze {h : Heap} {a : Addr} {ds : List D} (hl : ∃ vs : List Value, h.PlainList a vs.toArray ∧ VRs h H vs ds) : VR h (drp H a) (.ref a) (.lst ds) := by
  obtain ⟨vs, hl, q⟩ := hl
  exact .lst hl.isList (by simp [drp]) (q.stays drp_stays)
theorem XS.freeze {st : List Stmt} {x : Str} {a : Addr} {ds : List D} {Φ : FL → Loc → AH → Prop} (hx : m.lookup x = some (.ref a)) (ha : H a = some (.list ds)) (h : XS C n env st ((x, .lst ds) :: m) (drp H a) Φ) : XS C n env st m H Φ := fun A s rm R => by
  have q0 := R.toRelH.frozen ha
  have R₁ : Rel C env m (drp H a) s := R.drop
  have R₂ : Rel C env ((x, .lst ds) :: m) (drp H a) s := by
    refine ⟨R₁.toRelH, R₁.ok, ?_, R₁.cell, fun y d c e q hc => ?_, fun y d e => ?_, R₁.out⟩
    · obtain ⟨mm, hn, hv⟩ := R₁.loc
      refine ⟨mm, hn, fun y d e q => ?_⟩
      rcases lookup_cons_eq e with ⟨rfl, rfl⟩ | ⟨_, e⟩
      · obtain ⟨v, h1, h2⟩ := hv y _ hx q
        cases h2; exact ⟨_, h1, q0⟩
      · exact hv y d e q
    · rcases lookup_cons_eq e with ⟨rfl, rfl⟩ | ⟨_, e⟩
      · obtain ⟨v, h1, h2⟩ := R₁.cellv y _ c hx q hc
        cases h2; exact ⟨_, h1, q0⟩
      · exact R₁.cellv y d c e q hc
    · rcases lookup_cons_eq e with ⟨rfl, rfl⟩ | ⟨_, e⟩
      · exact R₁.kinds y _ hx
      · exact R₁.kinds y d e
  refine wpAny_mono (h A s rm R₂) (fun f s' p => ?_) fun _ _ x => x
  obtain ⟨fl, m', H', t, q, R', φ⟩ := p
  exact ⟨fl, m', H', ⟨fun b o e hn hq => t.keep b o e (by unfold drp; split <;> simp_all) hq, t.size, fun b hb => (t.dom b hb).imp (fun z w => z (by unfold drp; split <;> simp_all)) id, t.gens, t.os⟩, q, R', φ⟩
end
end Mine

open PySem PySem.W PyProof.Rows
set_option Elab.async false
set_option maxRecDepth 100000
namespace Mine
/-- the statement of the text's top, of its class's body -/
noncomputable def topS (i : Nat) : Stmt := (PySem.Challenge.pw_qd0012_01.main.body[i]?).getD (.Pass ⟨0, 0, 0, 0⟩)
noncomputable def metS (i : Nat) : Stmt := ((match topS 19 with | .ClassDef _ _ _ b _ _ _ _ _ _ _ => b | _ => [])[i]?).getD (.Pass ⟨0, 0, 0, 0⟩)
noncomputable def fdA (s : Stmt) : Arguments := match s with | .FunctionDef _ a _ _ _ _ _ _ _ _ => a | _ => ⟨[], [], none, [], [], none, []⟩
noncomputable def fdB (s : Stmt) : List Stmt := match s with | .FunctionDef _ _ b _ _ _ _ _ _ _ => b | _ => []
noncomputable def fdS (s : Stmt) : Scope := match s with | .FunctionDef _ _ _ _ _ _ s _ _ _ => s | _ => default
noncomputable def fnO (s : Stmt) (name qual pm : Str) (t : Nat) (code : Addr) : Obj :=
  { cls := .type "function", data := .func { name, qualname := qual, params := fdA s, body := .stmts (fdB s), scope := fdS s, globals := 3, closure := [], defaults := .none, kwdefaults := .none, pyModule := .str pm t, code := .ref code } }
noncomputable def cdO (vs : Array Value) : Obj := { cls := .type "code", data := .fields vs }
noncomputable def entK (P : Params) (x : Str) (t : Nat) (v : Value) : DictEntry := ⟨PyData.keyHash P x, .str x t, v⟩
noncomputable def K39 (P : Params) : Frag := [
  (2, Obj.mk .none none (Data.dict #[]) #[]),
  (3, Obj.mk (.type "dict") none (Data.dict #[entK P "__name__" 165 (.str "law_qd0012_01" 515), entK P "__doc__" 166 .none, entK P "__package__" 167 .none, entK P "__loader__" 168 (.builtin "__main__.__loader__#opaque"), entK P "__spec__" 169 .none, entK P "__annotations__" 170 (.ref 6), entK P "__builtins__" 171 (.ref 4), entK P "__file__" 173 (.str "/claim/cut.py" 172), entK P "__cached__" 174 .none, entK P "_wall" 193 (.ref 21), entK P "least_term" 204 (.ref 28), entK P "least_reasons" 217 (.ref 35), entK P "strike_le" 223 (.ref 40), entK P "least" 232 (.ref 47), entK P "greatest" 239 (.ref 54), entK P "next_from" 249 (.ref 61), entK P "has" 257 (.ref 68), entK P "has_domains" 258 (.ref 68), entK P "up_to" 264 (.ref 73), entK P "from_on" 270 (.ref 78), entK P "without" 278 (.ref 85), entK P "meet" 291 (.ref 92), entK P "negation" 301 (.ref 99), entK P "struck" 311 (.ref 106), entK P "said_of" 320 (.ref 113), entK P "Store" 514 (.ref 263), entK P "_law_draw" 525 (.ref 274), entK P "_law_domain" 536 (.ref 281), entK P "_law_least" 544 (.ref 288), entK P "_law_fitting" 557 (.ref 295), entK P "_law_holds" 565 (.ref 302), entK P "_law_is_too_much" 571 (.ref 307), entK P "_law_run" 577 (.ref 312), entK P "law" 583 (.ref 317)] 34) #[]),
  (27, cdO #[.str "least_term" 196, .str "least_term" 197, .str "/claim/cut.py" 198, .int 5 0, .int 3 0, .int 0 0, .int 0 0, .int 3 0, .ref 22, .bool true, .int 181 0, .ref 23, .none, .ref 24, .ref 25, .ref 26, .int 202 0, .int 5 0, .str "/claim/cut.py" 203]),
  (28, fnO (topS 2) "least_term" "least_term" "fdsolve.linear" 194 27),
  (34, cdO #[.str "least_reasons" 205, .str "least_reasons" 206, .str "/claim/cut.py" 207, .int 7 0, .int 3 0, .int 0 0, .int 0 0, .int 3 0, .ref 29, .bool true, .int 181 0, .ref 30, .none, .ref 31, .ref 32, .ref 33, .int 215 0, .int 7 0, .str "/claim/cut.py" 216]),
  (35, fnO (topS 3) "least_reasons" "least_reasons" "fdsolve.linear" 194 34),
  (39, cdO #[.str "strike_le" 218, .str "strike_le" 219, .str "/claim/cut.py" 220, .int 17 0, .int 3 0, .int 0 0, .int 0 0, .int 3 0, .ref 36, .bool true, .int 181 0, .ref 37, .none, .none, .none, .ref 38, .int 221 0, .int 17 0, .str "/claim/cut.py" 222]),
  (40, fnO (topS 4) "strike_le" "strike_le" "fdsolve.linear" 194 39),
  (46, cdO #[.str "least" 226, .str "least" 227, .str "/claim/cut.py" 228, .int 28 0, .int 1 0, .int 0 0, .int 0 0, .int 3 0, .ref 41, .bool true, .int 181 0, .ref 42, .none, .ref 43, .ref 44, .ref 45, .int 230 0, .int 28 0, .str "/claim/cut.py" 231]),
  (47, fnO (topS 6) "least" "least" "fdsolve.domains" 224 46),
  (53, cdO #[.str "greatest" 233, .str "greatest" 234, .str "/claim/cut.py" 235, .int 30 0, .int 1 0, .int 0 0, .int 0 0, .int 3 0, .ref 48, .bool true, .int 181 0, .ref 49, .none, .ref 50, .ref 51, .ref 52, .int 237 0, .int 30 0, .str "/claim/cut.py" 238]),
  (54, fnO (topS 7) "greatest" "greatest" "fdsolve.domains" 224 53),
  (72, cdO #[.str "up_to" 259, .str "up_to" 260, .str "/claim/cut.py" 261, .int 40 0, .int 2 0, .int 0 0, .int 0 0, .int 3 0, .ref 69, .bool true, .int 181 0, .ref 70, .none, .none, .none, .ref 71, .int 262 0, .int 40 0, .str "/claim/cut.py" 263]),
  (73, fnO (topS 11) "up_to" "up_to" "fdsolve.domains" 224 72),
  (77, cdO #[.str "from_on" 265, .str "from_on" 266, .str "/claim/cut.py" 267, .int 42 0, .int 2 0, .int 0 0, .int 0 0, .int 3 0, .ref 74, .bool true, .int 181 0, .ref 75, .none, .none, .none, .ref 76, .int 268 0, .int 42 0, .str "/claim/cut.py" 269]),
  (78, fnO (topS 12) "from_on" "from_on" "fdsolve.domains" 224 77),
  (98, cdO #[.str "negation" 292, .str "negation" 293, .str "/claim/cut.py" 294, .int 57 0, .int 1 0, .int 0 0, .int 0 0, .int 3 0, .ref 93, .bool true, .int 181 0, .ref 94, .none, .ref 95, .ref 96, .ref 97, .int 299 0, .int 57 0, .str "/claim/cut.py" 300]),
  (99, fnO (topS 15) "negation" "negation" "fdsolve.domains" 224 98),
  (105, cdO #[.str "struck" 302, .str "struck" 303, .str "/claim/cut.py" 304, .int 64 0, .int 2 0, .int 0 0, .int 0 0, .int 3 0, .ref 100, .bool true, .int 181 0, .ref 101, .none, .ref 102, .ref 103, .ref 104, .int 309 0, .int 64 0, .str "/claim/cut.py" 310]),
  (106, fnO (topS 16) "struck" "struck" "fdsolve.domains" 224 105),
  (112, cdO #[.str "said_of" 312, .str "said_of" 313, .str "/claim/cut.py" 314, .int 71 0, .int 2 0, .int 0 0, .int 0 0, .int 3 0, .ref 107, .bool true, .int 181 0, .ref 108, .none, .ref 109, .ref 110, .ref 111, .int 318 0, .int 71 0, .str "/claim/cut.py" 319]),
  (113, fnO (topS 17) "said_of" "said_of" "fdsolve.domains" 224 112),
  (126, cdO #[.str "__init__" 335, .str "Store.__init__" 336, .str "/claim/cut.py" 337, .int 79 0, .int 1 0, .int 0 0, .int 0 0, .int 3 0, .ref 121, .bool true, .int 181 0, .ref 122, .none, .ref 123, .ref 124, .ref 125, .int 339 0, .int 79 0, .str "/claim/cut.py" 340]),
  (127, fnO (metS 0) "__init__" "Store.__init__" "fdsolve.store" 321 126),
  (133, cdO #[.str "new_var" 342, .str "Store.new_var" 343, .str "/claim/cut.py" 344, .int 89 0, .int 2 0, .int 0 0, .int 0 0, .int 3 0, .ref 128, .bool true, .int 181 0, .ref 129, .none, .ref 130, .ref 131, .ref 132, .int 347 0, .int 89 0, .str "/claim/cut.py" 348]),
  (134, fnO (metS 1) "new_var" "Store.new_var" "fdsolve.store" 321 133),
  (140, cdO #[.str "size" 350, .str "Store.size" 351, .str "/claim/cut.py" 352, .int 96 0, .int 1 0, .int 0 0, .int 0 0, .int 3 0, .ref 135, .bool true, .int 181 0, .ref 136, .none, .ref 137, .ref 138, .ref 139, .int 354 0, .int 96 0, .str "/claim/cut.py" 355]),
  (141, fnO (metS 2) "size" "Store.size" "fdsolve.store" 321 140),
  (147, cdO #[.str "dom" 357, .str "Store.dom" 358, .str "/claim/cut.py" 359, .int 99 0, .int 2 0, .int 0 0, .int 0 0, .int 3 0, .ref 142, .bool true, .int 181 0, .ref 143, .none, .ref 144, .ref 145, .ref 146, .int 362 0, .int 99 0, .str "/claim/cut.py" 363]),
  (148, fnO (metS 3) "dom" "Store.dom" "fdsolve.store" 321 147),
  (154, cdO #[.str "initial" 365, .str "Store.initial" 366, .str "/claim/cut.py" 367, .int 102 0, .int 2 0, .int 0 0, .int 0 0, .int 3 0, .ref 149, .bool true, .int 181 0, .ref 150, .none, .ref 151, .ref 152, .ref 153, .int 370 0, .int 102 0, .str "/claim/cut.py" 371]),
  (155, fnO (metS 4) "initial" "Store.initial" "fdsolve.store" 321 154),
  (161, cdO #[.str "low" 373, .str "Store.low" 374, .str "/claim/cut.py" 375, .int 105 0, .int 2 0, .int 0 0, .int 0 0, .int 3 0, .ref 156, .bool true, .int 181 0, .ref 157, .none, .ref 158, .ref 159, .ref 160, .int 378 0, .int 105 0, .str "/claim/cut.py" 379]),
  (162, fnO (metS 5) "low" "Store.low" "fdsolve.store" 321 161),
  (168, cdO #[.str "high" 381, .str "Store.high" 382, .str "/claim/cut.py" 383, .int 108 0, .int 2 0, .int 0 0, .int 0 0, .int 3 0, .ref 163, .bool true, .int 181 0, .ref 164, .none, .ref 165, .ref 166, .ref 167, .int 386 0, .int 108 0, .str "/claim/cut.py" 387]),
  (169, fnO (metS 6) "high" "Store.high" "fdsolve.store" 321 168),
  (203, cdO #[.str "holds" 422, .str "Store.holds" 423, .str "/claim/cut.py" 424, .int 123 0, .int 2 0, .int 0 0, .int 0 0, .int 3 0, .ref 198, .bool true, .int 181 0, .ref 199, .none, .ref 200, .ref 201, .ref 202, .int 427 0, .int 123 0, .str "/claim/cut.py" 428]),
  (204, fnO (metS 11) "holds" "Store.holds" "fdsolve.store" 321 203),
  (210, cdO #[.str "enter" 430, .str "Store.enter" 431, .str "/claim/cut.py" 432, .int 126 0, .int 4 0, .int 0 0, .int 0 0, .int 3 0, .ref 205, .bool true, .int 181 0, .ref 206, .none, .ref 207, .ref 208, .ref 209, .int 440 0, .int 126 0, .str "/claim/cut.py" 441]),
  (211, fnO (metS 12) "enter" "Store.enter" "fdsolve.store" 321 210),
  (217, cdO #[.str "strike" 443, .str "Store.strike" 444, .str "/claim/cut.py" 445, .int 139 0, .int 3 0, .int 0 0, .int 0 0, .int 3 0, .ref 212, .bool true, .int 181 0, .ref 213, .none, .ref 214, .ref 215, .ref 216, .int 449 0, .int 139 0, .str "/claim/cut.py" 450]),
  (218, fnO (metS 13) "strike" "Store.strike" "fdsolve.store" 321 217),
  (224, cdO #[.str "decide" 452, .str "Store.decide" 453, .str "/claim/cut.py" 454, .int 142 0, .int 2 0, .int 0 0, .int 0 0, .int 3 0, .ref 219, .bool true, .int 181 0, .ref 220, .none, .ref 221, .ref 222, .ref 223, .int 457 0, .int 142 0, .str "/claim/cut.py" 458]),
  (225, fnO (metS 14) "decide" "Store.decide" "fdsolve.store" 321 224),
  (231, cdO #[.str "fail" 460, .str "Store.fail" 461, .str "/claim/cut.py" 462, .int 145 0, .int 2 0, .int 0 0, .int 0 0, .int 3 0, .ref 226, .bool true, .int 181 0, .ref 227, .none, .ref 228, .ref 229, .ref 230, .int 465 0, .int 145 0, .str "/claim/cut.py" 466]),
  (232, fnO (metS 15) "fail" "Store.fail" "fdsolve.store" 321 231),
  (238, cdO #[.str "push" 468, .str "Store.push" 469, .str "/claim/cut.py" 470, .int 150 0, .int 1 0, .int 0 0, .int 0 0, .int 3 0, .ref 233, .bool true, .int 181 0, .ref 234, .none, .ref 235, .ref 236, .ref 237, .int 472 0, .int 150 0, .str "/claim/cut.py" 473]),
  (239, fnO (metS 16) "push" "Store.push" "fdsolve.store" 321 238),
  (245, cdO #[.str "pop" 475, .str "Store.pop" 476, .str "/claim/cut.py" 477, .int 153 0, .int 2 0, .int 0 0, .int 0 0, .int 3 0, .ref 240, .bool true, .int 181 0, .ref 241, .none, .ref 242, .ref 243, .ref 244, .int 482 0, .int 153 0, .str "/claim/cut.py" 483]),
  (246, fnO (metS 17) "pop" "Store.pop" "fdsolve.store" 321 245),
  (252, cdO #[.str "depth" 485, .str "Store.depth" 486, .str "/claim/cut.py" 487, .int 165 0, .int 1 0, .int 0 0, .int 0 0, .int 3 0, .ref 247, .bool true, .int 181 0, .ref 248, .none, .ref 249, .ref 250, .ref 251, .int 489 0, .int 165 0, .str "/claim/cut.py" 490]),
  (253, fnO (metS 18) "depth" "Store.depth" "fdsolve.store" 321 252),
  (262, Obj.mk (.type "dict") none (Data.dict #[entK P "__module__" 330 (.str "fdsolve.store" 321), entK P "__firstlineno__" 334 (.int 77 333), entK P "__init__" 341 (.ref 127), entK P "new_var" 349 (.ref 134), entK P "size" 356 (.ref 141), entK P "dom" 364 (.ref 148), entK P "initial" 372 (.ref 155), entK P "low" 380 (.ref 162), entK P "high" 388 (.ref 169), entK P "has" 397 (.ref 176), entK P "is_fixed" 405 (.ref 183), entK P "value" 413 (.ref 190), entK P "width" 421 (.ref 197), entK P "holds" 429 (.ref 204), entK P "enter" 442 (.ref 211), entK P "strike" 451 (.ref 218), entK P "decide" 459 (.ref 225), entK P "fail" 467 (.ref 232), entK P "push" 474 (.ref 239), entK P "pop" 484 (.ref 246), entK P "depth" 491 (.ref 253), entK P "changed" 498 (.ref 260), entK P "__static_attributes__" 507 (.ref 261), entK P "__dict__" 509 (.ref 264), entK P "__weakref__" 511 (.ref 265), entK P "__doc__" 512 .none] 4) #[]),
  (263, Obj.mk (.type "type") none (Data.cls (.mk "Store" [.type "object"] [.ref 263, .type "object"] 262 "Store" true [] [] false none false)) #[none, none, some (.str "Store" 323), some (.str "Store" 331), some (.builtin "object.__new__"), some (.bool true)]),
  (264, Obj.mk (.type "getset_descriptor") none (Data.fields #[.str "__dict__" 508, .ref 263, .builtin "function.__dict__", .builtin "function.__dict__#set"]) #[]),
  (265, Obj.mk (.type "getset_descriptor") none (Data.fields #[.str "__weakref__" 510, .ref 263, .builtin "ExceptionGroup.__weakref__", .none]) #[]),
  (273, cdO #[.str "_law_draw" 517, .str "_law_draw" 518, .str "/claim/cut.py" 519, .int 171 0, .int 2 0, .int 0 0, .int 0 0, .int 3 0, .ref 268, .bool true, .int 181 0, .ref 269, .none, .ref 270, .ref 271, .ref 272, .int 523 0, .int 171 0, .str "/claim/cut.py" 524]),
  (274, fnO (topS 21) "_law_draw" "_law_draw" "law_qd0012_01" 515 273),
  (280, cdO #[.str "_law_domain" 526, .str "_law_domain" 527, .str "/claim/cut.py" 528, .int 177 0, .int 1 0, .int 0 0, .int 0 0, .int 3 0, .ref 275, .bool true, .int 181 0, .ref 276, .none, .ref 277, .ref 278, .ref 279, .int 534 0, .int 177 0, .str "/claim/cut.py" 535]),
  (281, fnO (topS 22) "_law_domain" "_law_domain" "law_qd0012_01" 515 280),
  (287, cdO #[.str "_law_least" 537, .str "_law_least" 538, .str "/claim/cut.py" 539, .int 184 0, .int 2 0, .int 0 0, .int 0 0, .int 3 0, .ref 282, .bool true, .int 181 0, .ref 283, .none, .ref 284, .ref 285, .ref 286, .int 542 0, .int 184 0, .str "/claim/cut.py" 543]),
  (288, fnO (topS 23) "_law_least" "_law_least" "law_qd0012_01" 515 287),
  (294, cdO #[.str "_law_fitting" 545, .str "_law_fitting" 546, .str "/claim/cut.py" 547, .int 186 0, .int 4 0, .int 0 0, .int 0 0, .int 3 0, .ref 289, .bool true, .int 181 0, .ref 290, .none, .ref 291, .ref 292, .ref 293, .int 555 0, .int 186 0, .str "/claim/cut.py" 556]),
  (295, fnO (topS 24) "_law_fitting" "_law_fitting" "law_qd0012_01" 515 294),
  (301, cdO #[.str "_law_holds" 558, .str "_law_holds" 559, .str "/claim/cut.py" 560, .int 196 0, .int 2 0, .int 0 0, .int 0 0, .int 3 0, .ref 296, .bool true, .int 181 0, .ref 297, .none, .ref 298, .ref 299, .ref 300, .int 563 0, .int 196 0, .str "/claim/cut.py" 564]),
  (302, fnO (topS 25) "_law_holds" "_law_holds" "law_qd0012_01" 515 301),
  (306, cdO #[.str "_law_is_too_much" 566, .str "_law_is_too_much" 567, .str "/claim/cut.py" 568, .int 198 0, .int 4 0, .int 0 0, .int 0 0, .int 3 0, .ref 303, .bool true, .int 181 0, .ref 304, .none, .none, .none, .ref 305, .int 569 0, .int 198 0, .str "/claim/cut.py" 570]),
  (307, fnO (topS 26) "_law_is_too_much" "_law_is_too_much" "law_qd0012_01" 515 306),
  (311, cdO #[.str "_law_run" 572, .str "_law_run" 573, .str "/claim/cut.py" 574, .int 205 0, .int 4 0, .int 0 0, .int 0 0, .int 3 0, .ref 308, .bool true, .int 181 0, .ref 309, .none, .none, .none, .ref 310, .int 575 0, .int 205 0, .str "/claim/cut.py" 576]),
  (312, fnO (topS 27) "_law_run" "_law_run" "law_qd0012_01" 515 311),
  (316, cdO #[.str "law" 578, .str "law" 579, .str "/claim/cut.py" 580, .int 233 0, .int 1 0, .int 0 0, .int 0 0, .int 3 0, .ref 313, .bool true, .int 181 0, .ref 314, .none, .none, .none, .ref 315, .int 581 0, .int 233 0, .str "/claim/cut.py" 582]),
  (317, fnO (topS 28) "law" "law" "law_qd0012_01" 515 316)]
end Mine

open PySem PySem.W PyProof.Rows
set_option Elab.async false
set_option maxRecDepth 100000
namespace Mine
noncomputable def vw : Program := PySem.W.view PySem.Challenge.pw_qd0012_01 [0,2,3,4,6,7,8,9,10,11,12,13,14,15,16,17,19,21,22,23,24,25,26,27,28]
noncomputable def bootT (P : Params) : BT := ((((((((((BT.nil.ins 0 (boot_o_0 P)).ins 1 (boot_o_1 P)).ins 2 (boot_o_2 P)).ins 3 (boot_o_3 P)).ins 4 (boot_o_4 P)).ins 5 (boot_o_5 P)).ins 6 (boot_o_6 P)).ins 7 (boot_o_7 P)).ins 8 (boot_o_8 P)).ins 9 (boot_o_9 P)).ins 10 (boot_o_10 P)
theorem bootT_eq (P : Params) : absHeap (bootT P) 11 {} = boot_heap P := by kernel_rfl

/-- the top's run over a tree -/
noncomputable def runT (stp : SharedT → Thread → Option (SharedT × Thread)) (ok thr : Thread → Bool) : Nat → SharedT → Thread → Option SharedT
  | 0, _, _ => none
  | n + 1, s, t => match thr t with
    | true => some s
    | false => match ok t with
      | false => none
      | true => match stp s t with
        | some (s', t') => runT stp ok thr n s' t'
        | none => none
theorem runT_spec {tb : String → Option Builtin} {p : Program} {w : World} {n₀ : Nat} {ann : Option Value} : ∀ {n : Nat} {s s' : SharedT} {t : Thread},
    runT (stepT (denote tb) p w) (stepOk n₀ ann) through n s t = some s' → topRun tb p w n₀ ann n s.abs t = some s'.abs
  | 0, _, _, _, h => by cases h
  | n + 1, s, s', t, h => by
    unfold runT at h
    unfold topRun
    cases ht : through t with
    | true => rw [ht] at h; cases h; rfl
    | false =>
      rw [ht] at h
      cases hk : stepOk n₀ ann t with
      | false => rw [hk] at h; cases h
      | true =>
        rw [hk] at h
        cases hs : stepT (denote tb) p w s t with
        | none => rw [hs] at h; cases h
        | some r => obtain ⟨s₂, t₂⟩ := r; rw [hs] at h; rw [stepT_spec hs]; exact runT_spec h

theorem left_of {p q : Program} {loose : List Str} {Xt : Shared → Bool} {α : Type} {Yf : Shared → α} {Ya : World → α} {N : Nat}
    (open_ : ∀ w : World, (fencedOpening treeTable p w N).map (fun s => (s.heap, s.gens, s.drawn, s.toks)) = some (boot_heap w.params, Array.mk [], boot_drawn, boot_toks))
    (ann : Option Value) (size : ∀ P : Params, ((boot_heap P).isNs mainGlobals, (boot_heap P).objs.size, (boot_heap P).nsMap mainGlobals "__annotations__") = (true, 11, ann))
    (run : ∀ w : World, (fun os => (runT (stepT (denote treeTable) p w) (stepOk 11 ann) through N ⟨bootT w.params, 11, {}, Array.mk [], boot_drawn, boot_toks, os⟩ (topStub p)).map (fun s =>
        ((staticsOk (importedModules p.main.body) (boot_heap w.params) s.abs.heap && namesBound p s.abs.heap && gensDone s.abs && laidKept (boot_heap w.params) s.abs.heap),
        openSeen q loose (importedModules p.main.body) Xt true s.abs, Yf s.abs))) = fun _ => some (true, openGood q loose, Ya w)) : LeftO p q loose Xt Yf Ya N := fun w => by
  obtain ⟨⟨h, gs, d, k, os⟩, e, e'⟩ := Option.map_eq_some_iff.mp (open_ w)
  obtain ⟨rfl, rfl, rfl, rfl⟩ : h = boot_heap w.params ∧ gs = Array.mk [] ∧ d = boot_drawn ∧ k = boot_toks := by simpa using e'
  obtain ⟨z1, z2, z3⟩ : _ ∧ _ ∧ _ := by simpa only [Prod.mk.injEq] using size w.params
  obtain ⟨s', hr, hl⟩ := Option.map_eq_some_iff.mp (congrFun (run w) os)
  obtain ⟨l1, l2, l3⟩ : _ ∧ _ ∧ _ := by simpa only [Prod.mk.injEq] using hl
  have r := runT_spec hr
  have hb : (SharedT.abs ⟨bootT w.params, 11, {}, Array.mk [], boot_drawn, boot_toks, os⟩) = ⟨boot_heap w.params, Array.mk [], boot_drawn, boot_toks, os⟩ := by
    unfold SharedT.abs; rw [bootT_eq]
  rw [hb] at r
  have t : topFrom treeTable p w N ⟨boot_heap w.params, Array.mk [], boot_drawn, boot_toks, os⟩ = some s'.abs := by
    unfold topFrom
    dsimp only
    rw [z1, z2, z3, r]
    show (match staticsOk (importedModules p.main.body) (boot_heap w.params) s'.abs.heap && namesBound p s'.abs.heap && gensDone s'.abs && laidKept (boot_heap w.params) s'.abs.heap with | true => _ | false => _) = _
    rw [l1]
  unfold openEnds
  rw [e]
  show Option.map _ (topFrom treeTable p w N ⟨boot_heap w.params, Array.mk [], boot_drawn, boot_toks, os⟩) = _
  rw [t]
  exact congrArg some (Prod.ext l2 l3)
theorem opens (N : Nat) (hN : Nat.ble 600 N = true) : ∀ w : World, (fencedOpening treeTable PySem.Challenge.pw_qd0012_01 w N).map (fun s => (s.heap, s.gens, s.drawn, s.toks)) = some (boot_heap w.params, Array.mk [], boot_drawn, boot_toks) :=
  boot_open (p := PySem.Challenge.pw_qd0012_01) (by kernel_rfl) hN (fun s => by kernel_rfl)
theorem sizes (P : Params) : ((boot_heap P).isNs mainGlobals, (boot_heap P).objs.size, (boot_heap P).nsMap mainGlobals "__annotations__") = (true, 11, some (.ref 6)) := by kernel_rfl
end Mine

open PySem PySem.W PyProof.Rows
set_option Elab.async false
set_option maxRecDepth 100000
namespace Mine
noncomputable def hookK : Hook := kHook K39 [2, 3, 27, 28, 34, 35, 39, 40, 46, 47, 53, 54, 72, 73, 77, 78, 98, 99, 105, 106, 112, 113, 126, 127, 133, 134, 140, 141, 147, 148, 154, 155, 161, 162, 168, 169, 203, 204, 210, 211, 217, 218, 224, 225, 231, 232, 238, 239, 245, 246, 252, 253, 262, 263, 264, 265, 273, 274, 280, 281, 287, 288, 294, 295, 301, 302, 306, 307, 311, 312, 316, 317] (fun _ => by kernel_rfl)
/-- what is seen where the top has run -/
noncomputable def TopSees {α : Type} (p : Program) (ann : Option Value) (N : Nat) (F : World → SharedT → α) (G : World → α) : Prop :=
  ∀ w : World, (fun os => (runT (stepT (denote treeTable) p w) (stepOk 11 ann) through N ⟨bootT w.params, 11, {}, Array.mk [], boot_drawn, boot_toks, os⟩ (topStub p)).map (F w)) = fun _ => some (G w)
noncomputable def topA (p q : Program) (loose : List Str) (Xt : Shared → Bool) (w : World) (s : SharedT) :=
  (staticsOk (importedModules p.main.body) (boot_heap w.params) s.abs.heap && namesBound p s.abs.heap && gensDone s.abs && laidKept (boot_heap w.params) s.abs.heap, (openSeen q loose (importedModules p.main.body) Xt true s.abs).2.1, (openSeen q loose (importedModules p.main.body) Xt true s.abs).2.2.1)
noncomputable def topB (p q : Program) (loose : List Str) (Xt : Shared → Bool) (H : Hook) (_ : World) (s : SharedT) := ((openSeen q loose (importedModules p.main.body) Xt true s.abs).1, (openSeen q loose (importedModules p.main.body) Xt true s.abs).2.2.2.1, (openSeen q loose (importedModules p.main.body) Xt true s.abs).2.2.2.2.1, H.obs s.abs)
noncomputable def topC (p q : Program) (loose : List Str) (Xt : Shared → Bool) (_ : World) (s : SharedT) := (openSeen q loose (importedModules p.main.body) Xt true s.abs).2.2.2.2.2
theorem sees {p q : Program} {loose : List Str} {Xt : Shared → Bool} {H : Hook} {ann : Option Value} {N : Nat} (a : TopSees p ann N (topA p q loose Xt) fun _ => (true, bltViewBooted, true))
    (b : TopSees p ann N (topB p q loose Xt H) fun w => (expectedOf q, true, pinGoodD (drecsOf q), H.val w)) (c : TopSees p ann N (topC p q loose Xt) fun _ => (plainGoodE q (looseW q loose), plainGoodD q loose, wideGood q, clsGoodW q loose)) :
    ∀ w : World, (fun os => (runT (stepT (denote treeTable) p w) (stepOk 11 ann) through N ⟨bootT w.params, 11, {}, Array.mk [], boot_drawn, boot_toks, os⟩ (topStub p)).map (fun s =>
        ((staticsOk (importedModules p.main.body) (boot_heap w.params) s.abs.heap && namesBound p s.abs.heap && gensDone s.abs && laidKept (boot_heap w.params) s.abs.heap),
        openSeen q loose (importedModules p.main.body) Xt true s.abs, H.obs s.abs))) = fun _ => some (true, openGood q loose, H.val w) := fun w => by
  funext os
  obtain ⟨s, hs, a⟩ := Option.map_eq_some_iff.mp (congrFun (a w) os)
  have b := congrFun (b w) os
  have c := congrFun (c w) os
  dsimp only at b c ⊢
  rw [hs] at b c ⊢
  have b := Option.some.inj b
  have c := Option.some.inj c
  unfold topA at a; unfold topB at b; unfold topC at c
  rw [Prod.mk.injEq, Prod.mk.injEq] at a
  rw [Prod.mk.injEq, Prod.mk.injEq, Prod.mk.injEq] at b
  exact congrArg some (Prod.ext a.1 (Prod.ext (Prod.ext b.1 (Prod.ext a.2.1 (Prod.ext a.2.2 (Prod.ext b.2.1 (Prod.ext b.2.2.1 c))))) b.2.2.2))
theorem seesA : TopSees PySem.Challenge.pw_qd0012_01 (some (.ref 6)) 3280 (topA PySem.Challenge.pw_qd0012_01 vw [Str.ofString "has_domains"] (fun s => xlAt vw [] s && recOk (RowW.records PySem.Challenge.rw_qd0012_01.row.toRowW) s)) fun w => (true, bltViewBooted, true) := by
  delta TopSees topA
  rewrite [PySem.W.Fast.te10156331382660048174, PySem.W.Fast.te11892475500146522536, PySem.W.Fast.te14364793385576792824, PySem.W.Fast.te6613529449190102663, PySem.W.Fast.te4187177175401517315, PySem.W.Fast.te5923862056798008813]
  intro w
  kernel_rfl
theorem seesB : TopSees PySem.Challenge.pw_qd0012_01 (some (.ref 6)) 3280 (topB PySem.Challenge.pw_qd0012_01 vw [Str.ofString "has_domains"] (fun s => xlAt vw [] s && recOk (RowW.records PySem.Challenge.rw_qd0012_01.row.toRowW) s) hookK) fun w => (expectedOf vw, true, pinGoodD (drecsOf vw), hookK.val w) := by
  delta TopSees topB
  rewrite [PySem.W.Fast.te10156331382660048174, PySem.W.Fast.te11892475500146522536, PySem.W.Fast.te14364793385576792824, PySem.W.Fast.te6613529449190102663, PySem.W.Fast.te4187177175401517315, PySem.W.Fast.te5923862056798008813]
  intro w
  kernel_rfl
theorem seesC : TopSees PySem.Challenge.pw_qd0012_01 (some (.ref 6)) 3280 (topC PySem.Challenge.pw_qd0012_01 vw [Str.ofString "has_domains"] (fun s => xlAt vw [] s && recOk (RowW.records PySem.Challenge.rw_qd0012_01.row.toRowW) s)) fun w => (plainGoodE vw (looseW vw [Str.ofString "has_domains"]), plainGoodD vw [Str.ofString "has_domains"], wideGood vw, clsGoodW vw [Str.ofString "has_domains"]) := by
  delta TopSees topC
  rewrite [PySem.W.Fast.te10156331382660048174, PySem.W.Fast.te11892475500146522536, PySem.W.Fast.te14364793385576792824, PySem.W.Fast.te6613529449190102663, PySem.W.Fast.te4187177175401517315, PySem.W.Fast.te5923862056798008813]
  intro w
  kernel_rfl
theorem left : LeftO PySem.Challenge.pw_qd0012_01 vw [Str.ofString "has_domains"] (fun s => xlAt vw [] s && recOk (RowW.records PySem.Challenge.rw_qd0012_01.row.toRowW) s) hookK.obs hookK.val 3280 :=
  left_of (opens _ (by decide)) _ sizes (sees seesA seesB seesC)
end Mine

open PySem PySem.W PyProof.Rows
set_option Elab.async false
set_option linter.unusedVariables false
set_option maxRecDepth 100000
namespace Mine

structure IsC (C : Cx) : Prop where
  prog : C.prog = PySem.Challenge.pw_qd0012_01
  K : C.K = K39 C.w.params
  cls : C.cls = 263
  boot : ∀ x : Str, x ≠ "__name__" → C.mb x = bootBuiltins x

/-- the top's names -/
noncomputable def gIn (K : Frag) (x : Str) : Option Value := match K.lookup mainGlobals with
  | some ⟨_, _, .dict es _, _⟩ => nsFind es x
  | _ => none
theorem Cx.mg_eq (C : Cx) {x : Str} {c : Value} {od : Option Addr} {es : Array DictEntry} {k : Nat} {sl} (h : C.K.lookup mainGlobals = some ⟨c, od, .dict es k, sl⟩) : C.mg x = nsFind es x := by
  obtain ⟨o, es', ep, e, d, _, f⟩ := C.hg
  have := C.X _ _ h
  rw [e] at this; cases this
  cases d
  exact (f x).symm
theorem IsC.glob {C : Cx} (h : IsC C) {x : Str} {v : Value} (e : gIn (K39 C.w.params) x = some v) : C.glob x = some v := by
  have hm : C.mg x = some v := by
    have q : ∃ c od es k sl, C.K.lookup mainGlobals = some ⟨c, od, .dict es k, sl⟩ := ⟨_, _, _, _, _, by rw [h.K]; rfl⟩
    obtain ⟨c, od, es, k, sl, q⟩ := q
    rw [C.mg_eq q]
    rw [← h.K] at e
    unfold gIn at e; rw [q] at e; exact e
  unfold Cx.glob; rw [hm]
theorem IsC.built {C : Cx} (h : IsC C) {x : Str} {v : Value} (e : gIn (K39 C.w.params) x = none) (b : bootBuiltins x = some v) (hx : x ≠ "__name__" := by decide +kernel) : C.glob x = some v := by
  have hm : C.mg x = none := by
    have q : ∃ c od es k sl, C.K.lookup mainGlobals = some ⟨c, od, .dict es k, sl⟩ := ⟨_, _, _, _, _, by rw [h.K]; rfl⟩
    obtain ⟨c, od, es, k, sl, q⟩ := q
    rw [C.mg_eq q]
    rw [← h.K] at e
    unfold gIn at e; rw [q] at e; exact e
  unfold Cx.glob; rw [hm]; exact (h.boot x hx).trans b

section
variable {C : Cx}
theorem g_least (h : IsC C) : C.glob "least" = some (.ref 47) := h.glob (by kernel_rfl)
theorem g_min (h : IsC C) : C.glob "min" = some (.builtin "min") := h.built (by kernel_rfl) (by decide +kernel)
end

theorem lk_hd {β : Type} {x : Str} {d : β} {m : List (Str × β)} : ((x, d) :: m).lookup x = some d := by simp
theorem lk_tl {β : Type} {x y : Str} {d e : β} {m : List (Str × β)} (h : (x == y) = false) (k : m.lookup x = some d) : ((y, e) :: m).lookup x = some d := by simp [List.lookup_cons, h, k]

theorem C_least {C : Cx} (hC : IsC C) {n : Nat} {H : AH} {a b : Int} {ds es : List D} : CL C (n + 1) (.ref 47) [.tup (.tup (.int a :: es) :: ds)] H fun r H' => H' = H ∧ r = .int a := by
  refine' CL.def (names := ["d"]) ⟨⟨⟨_, _, _, _, _, _, _, _, _, _, _, _, _⟩, ?h1, ?h2, ?h3⟩, ?h4, ?h5, ?h6, ?h7, ?h8, ?h9⟩ rfl ?main
  case h1 => rw [hC.K]; exact rfl
  case h2 => rw [hC.K]; kernel_rfl
  case h3 => exact allS fun _ => all0 rfl
  case h4 => decide +kernel
  case h5 => decide +kernel
  case h6 => decide +kernel
  case h7 => decide +kernel
  case h8 => rfl
  case h9 => exact ⟨rfl, rfl⟩
  case main =>
    intro env hE
    refine XS.cons (X1.ret ?_)
    refine EV.subscript (EV.subscript (EV.name rfl (EV.int (O2.tupAt rfl (by decide) (EV.int (O2.tupAt rfl (by decide) ?_))))))
    exact ⟨rfl, rfl⟩
end Mine

open PySem PySem.W PyProof.Rows
set_option Elab.async false
set_option linter.unusedVariables false
set_option maxRecDepth 100000
namespace Mine
section
variable {C : Cx}
theorem g_least_term (h : IsC C) : C.glob "least_term" = some (.ref 28) := h.glob (by kernel_rfl)
theorem k_least_term (h : IsC C) : Keepy C (.ref 28) := .ref (by rw [h.K]; kernel_rfl)
theorem g_least_reasons (h : IsC C) : C.glob "least_reasons" = some (.ref 35) := h.glob (by kernel_rfl)
theorem k_least_reasons (h : IsC C) : Keepy C (.ref 35) := .ref (by rw [h.K]; kernel_rfl)
theorem g_strike_le (h : IsC C) : C.glob "strike_le" = some (.ref 40) := h.glob (by kernel_rfl)
theorem k_strike_le (h : IsC C) : Keepy C (.ref 40) := .ref (by rw [h.K]; kernel_rfl)
theorem g_greatest (h : IsC C) : C.glob "greatest" = some (.ref 54) := h.glob (by kernel_rfl)
theorem k_greatest (h : IsC C) : Keepy C (.ref 54) := .ref (by rw [h.K]; kernel_rfl)
theorem g_up_to (h : IsC C) : C.glob "up_to" = some (.ref 73) := h.glob (by kernel_rfl)
theorem k_up_to (h : IsC C) : Keepy C (.ref 73) := .ref (by rw [h.K]; kernel_rfl)
theorem g_from_on (h : IsC C) : C.glob "from_on" = some (.ref 78) := h.glob (by kernel_rfl)
theorem k_from_on (h : IsC C) : Keepy C (.ref 78) := .ref (by rw [h.K]; kernel_rfl)
theorem g_negation (h : IsC C) : C.glob "negation" = some (.ref 99) := h.glob (by kernel_rfl)
theorem k_negation (h : IsC C) : Keepy C (.ref 99) := .ref (by rw [h.K]; kernel_rfl)
theorem g_struck (h : IsC C) : C.glob "struck" = some (.ref 106) := h.glob (by kernel_rfl)
theorem k_struck (h : IsC C) : Keepy C (.ref 106) := .ref (by rw [h.K]; kernel_rfl)
theorem g_said_of (h : IsC C) : C.glob "said_of" = some (.ref 113) := h.glob (by kernel_rfl)
theorem k_said_of (h : IsC C) : Keepy C (.ref 113) := .ref (by rw [h.K]; kernel_rfl)
theorem g_Store (h : IsC C) : C.glob "Store" = some (.ref 263) := h.glob (by kernel_rfl)
theorem g__law_draw (h : IsC C) : C.glob "_law_draw" = some (.ref 274) := h.glob (by kernel_rfl)
theorem k__law_draw (h : IsC C) : Keepy C (.ref 274) := .ref (by rw [h.K]; kernel_rfl)
theorem g__law_domain (h : IsC C) : C.glob "_law_domain" = some (.ref 281) := h.glob (by kernel_rfl)
theorem k__law_domain (h : IsC C) : Keepy C (.ref 281) := .ref (by rw [h.K]; kernel_rfl)
theorem g__law_least (h : IsC C) : C.glob "_law_least" = some (.ref 288) := h.glob (by kernel_rfl)
theorem k__law_least (h : IsC C) : Keepy C (.ref 288) := .ref (by rw [h.K]; kernel_rfl)
theorem g__law_fitting (h : IsC C) : C.glob "_law_fitting" = some (.ref 295) := h.glob (by kernel_rfl)
theorem k__law_fitting (h : IsC C) : Keepy C (.ref 295) := .ref (by rw [h.K]; kernel_rfl)
theorem g__law_holds (h : IsC C) : C.glob "_law_holds" = some (.ref 302) := h.glob (by kernel_rfl)
theorem k__law_holds (h : IsC C) : Keepy C (.ref 302) := .ref (by rw [h.K]; kernel_rfl)
theorem g__law_is_too_much (h : IsC C) : C.glob "_law_is_too_much" = some (.ref 307) := h.glob (by kernel_rfl)
theorem k__law_is_too_much (h : IsC C) : Keepy C (.ref 307) := .ref (by rw [h.K]; kernel_rfl)
theorem g__law_run (h : IsC C) : C.glob "_law_run" = some (.ref 312) := h.glob (by kernel_rfl)
theorem k__law_run (h : IsC C) : Keepy C (.ref 312) := .ref (by rw [h.K]; kernel_rfl)
theorem k_least (h : IsC C) : Keepy C (.ref 47) := .ref (by rw [h.K]; kernel_rfl)
theorem g_len (h : IsC C) : C.glob "len" = some (.builtin "len") := h.built (by kernel_rfl) (by decide +kernel)
theorem g_sum (h : IsC C) : C.glob "sum" = some (.builtin "sum") := h.built (by kernel_rfl) (by decide +kernel)
theorem g_max (h : IsC C) : C.glob "max" = some (.builtin "max") := h.built (by kernel_rfl) (by decide +kernel)
theorem g_abs (h : IsC C) : C.glob "abs" = some (.builtin "abs") := h.built (by kernel_rfl) (by decide +kernel)
theorem g_int (h : IsC C) : C.glob "int" = some (.type "int") := h.built (by kernel_rfl) (by decide +kernel)
theorem g_tuple (h : IsC C) : C.glob "tuple" = some (.type "tuple") := h.built (by kernel_rfl) (by decide +kernel)
theorem g_list (h : IsC C) : C.glob "list" = some (.type "list") := h.built (by kernel_rfl) (by decide +kernel)
theorem g_range (h : IsC C) : C.glob "range" = some (.type "range") := h.built (by kernel_rfl) (by decide +kernel)
theorem g_enumerate (h : IsC C) : C.glob "enumerate" = some (.type "enumerate") := h.built (by kernel_rfl) (by decide +kernel)
theorem g_sorted (h : IsC C) : C.glob "sorted" = some (.builtin "sorted") := h.built (by kernel_rfl) (by decide +kernel)
theorem m_low (h : IsC C) : MethAt C "low" 162 := ⟨by rw [h.K, h.cls]; kernel_rfl, by rw [h.K, h.cls]; kernel_rfl, by rw [h.K]; kernel_rfl, by rw [h.K]; kernel_rfl⟩
theorem m_high (h : IsC C) : MethAt C "high" 169 := ⟨by rw [h.K, h.cls]; kernel_rfl, by rw [h.K, h.cls]; kernel_rfl, by rw [h.K]; kernel_rfl, by rw [h.K]; kernel_rfl⟩
theorem m_initial (h : IsC C) : MethAt C "initial" 155 := ⟨by rw [h.K, h.cls]; kernel_rfl, by rw [h.K, h.cls]; kernel_rfl, by rw [h.K]; kernel_rfl, by rw [h.K]; kernel_rfl⟩
theorem m_holds (h : IsC C) : MethAt C "holds" 204 := ⟨by rw [h.K, h.cls]; kernel_rfl, by rw [h.K, h.cls]; kernel_rfl, by rw [h.K]; kernel_rfl, by rw [h.K]; kernel_rfl⟩
theorem m_strike (h : IsC C) : MethAt C "strike" 218 := ⟨by rw [h.K, h.cls]; kernel_rfl, by rw [h.K, h.cls]; kernel_rfl, by rw [h.K]; kernel_rfl, by rw [h.K]; kernel_rfl⟩
theorem m_enter (h : IsC C) : MethAt C "enter" 211 := ⟨by rw [h.K, h.cls]; kernel_rfl, by rw [h.K, h.cls]; kernel_rfl, by rw [h.K]; kernel_rfl, by rw [h.K]; kernel_rfl⟩
theorem m_fail (h : IsC C) : MethAt C "fail" 232 := ⟨by rw [h.K, h.cls]; kernel_rfl, by rw [h.K, h.cls]; kernel_rfl, by rw [h.K]; kernel_rfl, by rw [h.K]; kernel_rfl⟩
theorem m_dom (h : IsC C) : MethAt C "dom" 148 := ⟨by rw [h.K, h.cls]; kernel_rfl, by rw [h.K, h.cls]; kernel_rfl, by rw [h.K]; kernel_rfl, by rw [h.K]; kernel_rfl⟩
theorem m_size (h : IsC C) : MethAt C "size" 141 := ⟨by rw [h.K, h.cls]; kernel_rfl, by rw [h.K, h.cls]; kernel_rfl, by rw [h.K]; kernel_rfl, by rw [h.K]; kernel_rfl⟩
theorem m_new_var (h : IsC C) : MethAt C "new_var" 134 := ⟨by rw [h.K, h.cls]; kernel_rfl, by rw [h.K, h.cls]; kernel_rfl, by rw [h.K]; kernel_rfl, by rw [h.K]; kernel_rfl⟩
theorem m_decide (h : IsC C) : MethAt C "decide" 225 := ⟨by rw [h.K, h.cls]; kernel_rfl, by rw [h.K, h.cls]; kernel_rfl, by rw [h.K]; kernel_rfl, by rw [h.K]; kernel_rfl⟩
theorem m_push (h : IsC C) : MethAt C "push" 239 := ⟨by rw [h.K, h.cls]; kernel_rfl, by rw [h.K, h.cls]; kernel_rfl, by rw [h.K]; kernel_rfl, by rw [h.K]; kernel_rfl⟩
theorem m_pop (h : IsC C) : MethAt C "pop" 246 := ⟨by rw [h.K, h.cls]; kernel_rfl, by rw [h.K, h.cls]; kernel_rfl, by rw [h.K]; kernel_rfl, by rw [h.K]; kernel_rfl⟩
theorem m_depth (h : IsC C) : MethAt C "depth" 253 := ⟨by rw [h.K, h.cls]; kernel_rfl, by rw [h.K, h.cls]; kernel_rfl, by rw [h.K]; kernel_rfl, by rw [h.K]; kernel_rfl⟩
theorem a_domains (h : IsC C) : AttrAt C "domains" := ⟨by rw [h.K, h.cls]; kernel_rfl, by rw [h.K, h.cls]; kernel_rfl, by rw [h.K, h.cls]; exact ⟨_, rfl, rfl⟩, by rw [h.K, h.cls]; kernel_rfl, by rw [h.K, h.cls]; kernel_rfl, by rw [h.K, h.cls]; kernel_rfl⟩
theorem a_firsts (h : IsC C) : AttrAt C "firsts" := ⟨by rw [h.K, h.cls]; kernel_rfl, by rw [h.K, h.cls]; kernel_rfl, by rw [h.K, h.cls]; exact ⟨_, rfl, rfl⟩, by rw [h.K, h.cls]; kernel_rfl, by rw [h.K, h.cls]; kernel_rfl, by rw [h.K, h.cls]; kernel_rfl⟩
theorem a_trail (h : IsC C) : AttrAt C "trail" := ⟨by rw [h.K, h.cls]; kernel_rfl, by rw [h.K, h.cls]; kernel_rfl, by rw [h.K, h.cls]; exact ⟨_, rfl, rfl⟩, by rw [h.K, h.cls]; kernel_rfl, by rw [h.K, h.cls]; kernel_rfl, by rw [h.K, h.cls]; kernel_rfl⟩
theorem a_marks (h : IsC C) : AttrAt C "marks" := ⟨by rw [h.K, h.cls]; kernel_rfl, by rw [h.K, h.cls]; kernel_rfl, by rw [h.K, h.cls]; exact ⟨_, rfl, rfl⟩, by rw [h.K, h.cls]; kernel_rfl, by rw [h.K, h.cls]; kernel_rfl, by rw [h.K, h.cls]; kernel_rfl⟩
theorem a_news (h : IsC C) : AttrAt C "news" := ⟨by rw [h.K, h.cls]; kernel_rfl, by rw [h.K, h.cls]; kernel_rfl, by rw [h.K, h.cls]; exact ⟨_, rfl, rfl⟩, by rw [h.K, h.cls]; kernel_rfl, by rw [h.K, h.cls]; kernel_rfl, by rw [h.K, h.cls]; kernel_rfl⟩
theorem a_speaker (h : IsC C) : AttrAt C "speaker" := ⟨by rw [h.K, h.cls]; kernel_rfl, by rw [h.K, h.cls]; kernel_rfl, by rw [h.K, h.cls]; exact ⟨_, rfl, rfl⟩, by rw [h.K, h.cls]; kernel_rfl, by rw [h.K, h.cls]; kernel_rfl, by rw [h.K, h.cls]; kernel_rfl⟩
theorem a_is_failed (h : IsC C) : AttrAt C "is_failed" := ⟨by rw [h.K, h.cls]; kernel_rfl, by rw [h.K, h.cls]; kernel_rfl, by rw [h.K, h.cls]; exact ⟨_, rfl, rfl⟩, by rw [h.K, h.cls]; kernel_rfl, by rw [h.K, h.cls]; kernel_rfl, by rw [h.K, h.cls]; kernel_rfl⟩
theorem a_clash (h : IsC C) : AttrAt C "clash" := ⟨by rw [h.K, h.cls]; kernel_rfl, by rw [h.K, h.cls]; kernel_rfl, by rw [h.K, h.cls]; exact ⟨_, rfl, rfl⟩, by rw [h.K, h.cls]; kernel_rfl, by rw [h.K, h.cls]; kernel_rfl, by rw [h.K, h.cls]; kernel_rfl⟩
end
end Mine

open PySem PySem.W PyProof.Rows
set_option Elab.async false
set_option linter.unusedVariables false
set_option maxRecDepth 100000
namespace Mine
section
variable {C : Cx} {n : Nat} {env cenv : Env} {m mc m₁ m₂ : Loc} {H H' : AH} {s s' : Shared} {sc scope : Scope} {lo : Addr}

noncomputable def Ext (H H' : AH) : Prop := ∀ b, H b ≠ none → H' b = H b
theorem Ext.refl : Ext H H := fun _ _ => rfl
theorem Ext.at {a : Addr} {o : AO} (e : Ext H H') (h : H a = some o) : H' a = some o := (e a (by rw [h]; simp)).trans h
noncomputable def Sub (m m' : Loc) : Prop := ∀ x d, m.lookup x = some d → m'.lookup x = some d
theorem Sub.refl : Sub m m := fun _ _ h => h
theorem Sub.cons {x : Str} {d : D} (h : m.lookup x = none) (k : Sub m m₁) : Sub m ((x, d) :: m₁) := fun y e q => by
  have hne : (y == x) = false := by
    by_cases z : y = x
    · subst z; rw [h] at q; cases q
    · simpa using z
  simp [List.lookup_cons, hne, k y e q]
/-- a turn of a clause that only reads -/
noncomputable def PT (C : Cx) (n : Nat) (cenv : Env) (target : Expr) (ifs : List Expr) (elt : Expr) (mc : Loc) (H : AH) (d : D) (r : Option D) : Prop :=
  AT C n cenv target d mc H fun m₁ H₁ => Sub mc m₁ ∧ TSS C n cenv ifs m₁ H₁ fun b H₂ => if b = true then EV C n cenv elt m₁ H₂ fun x H₃ => H₃ = H ∧ r = some x else H₂ = H ∧ r = none
theorem loop_pure {α : Type} {target elt : Expr} {ifs : List Expr} {acc : Addr} {g : α → D} {f : α → Option D} (hacc : H acc = none) : ∀ (xs : List α) (out : List D), out.length + xs.length ≤ sizeLine → (∀ d ∈ xs, ∀ H', Ext H H' → PT C n cenv target ifs elt mc H' (g d) (f d)) →
    LOOP C n cenv target ifs (emit elt (.ref acc) cenv) (fun H' => H' = upd H acc (.list (out ++ xs.filterMap f))) (xs.map g) mc (upd H acc (.list out))
  | [], out, _, _ => by simp [LOOP]
  | x :: xs, out, hz, turn => by
    have hext : Ext H (upd H acc (.list out)) := fun b hb => upd_ne fun z => hb (z ▸ hacc)
    intro A s v rm R q
    refine wpAny_mono (turn x (List.mem_cons_self ..) _ hext A s v rm R q) (fun _ s₁ p => ?_) fun _ _ x => x
    obtain ⟨m₁, H₁, t, R₁, hm, L⟩ := p
    refine ⟨m₁, H₁, t, R₁, hm, fun A s rm R => ?_⟩
    refine wpAny_mono (L A s rm R) (fun b s₂ p => ?_) fun _ _ x => x
    obtain ⟨H₂, t₂, R₂, L₂⟩ := p
    refine ⟨H₂, t₂, R₂, ?_⟩
    have rec' := fun out' (h : out'.length + xs.length ≤ sizeLine) => loop_pure hacc xs out' h fun d hd => turn d (List.mem_cons_of_mem _ hd)
    simp only [List.length_cons] at hz
    cases b with
    | true =>
      simp only [if_true] at L₂ ⊢
      refine UB.emit (L₂.mono fun r H₃ p => ?_)
      obtain ⟨rfl, hr⟩ := p
      refine ⟨out, upd_same .., by omega, ?_⟩
      rw [upd_upd]
      have := rec' (out ++ [r]) (by simp; omega)
      rw [List.filterMap_cons, hr]
      simpa using this
    | false =>
      simp only [Bool.false_eq_true, if_false] at L₂ ⊢
      obtain ⟨rfl, hr⟩ := L₂
      have := rec' out (by omega)
      rw [List.filterMap_cons, hr]
      simpa using this
theorem LOOP.mono {target : Expr} {ifs : List Expr} {u : Sem Unit} {Φ Ψ : AH → Prop} (k : ∀ H, Φ H → Ψ H) : ∀ (ds : List D) (H : AH), LOOP C n cenv target ifs u Φ ds m H → LOOP C n cenv target ifs u Ψ ds m H
  | [], H, h => k H h
  | d :: ds, H, h => fun A s v rm R q => wpAny_mono (h A s v rm R q) (fun _ s₁ p => by
      obtain ⟨m₁, H₁, t, R₁, hm, L⟩ := p
      refine ⟨m₁, H₁, t, R₁, hm, fun A s rm R => wpAny_mono (L A s rm R) (fun b s₂ p => ?_) fun _ _ x => x⟩
      obtain ⟨H₂, t₂, R₂, L₂⟩ := p
      refine ⟨H₂, t₂, R₂, ?_⟩
      cases b with
      | true =>
        simp only [if_true] at L₂ ⊢
        exact fun A s rm R => wpAny_mono (L₂ A s rm R) (fun _ s₃ p => by obtain ⟨H₃, t₃, R₃, L₃⟩ := p; exact ⟨H₃, t₃, R₃, LOOP.mono k ds H₃ L₃⟩) fun _ _ x => x
      | false =>
        simp only [Bool.false_eq_true, if_false] at L₂ ⊢
        exact LOOP.mono k ds H₂ L₂) fun _ _ x => x
theorem drp_upd {a : Addr} {o : AO} (h : H a = none) : drp (upd H a o) a = H := by funext b; simp only [drp, upd]; split <;> simp_all
theorem CompOk.pure {α : Type} {target elt : Expr} {ifs : List Expr} {Φ : D → AH → Prop} {b : Bool} {g : α → D} (xs : List α) (f : α → Option D) (hz : xs.length ≤ sizeLine)
    (turn : ∀ cenv, cenv.scope = relabelS sc scope → ∀ d ∈ xs, ∀ H', Ext H H' → PT C n cenv target ifs elt mc H' (g d) (f d)) (φ : Φ (.lst (xs.filterMap f)) H) (ht : b = false ∨ ∃ es k p, target = .Tuple es k p) :
    CompOk C n sc target ifs scope (fun acc cenv => emit elt (.ref acc) cenv) mc Φ b (xs.map g) H :=
  ⟨ht, fun cenv acc hE hacc => LOOP.mono (fun H' e => by subst e; exact ⟨_, upd_same .., by rw [drp_upd hacc]; simpa using φ⟩) _ _ (loop_pure hacc xs [] (by simpa using hz) (turn cenv hE))⟩
end

theorem lz {k : Nat} (h : Nat.ble k 1000 = true := by rfl) : k ≤ sizeLine := by
  have := Nat.le_of_ble_eq_true h
  rw [sizeLine_eq]; omega
abbrev Dm := List (Int × Int)
noncomputable def pr (p : Int × Int) : D := .tup [.int p.1, .int p.2]
noncomputable def dom (d : Dm) : D := .tup (d.map pr)
noncomputable def upTo (d : Dm) (k : Int) : Dm := (d.filter fun p => p.1 ≤ k).map fun p => (p.1, min p.2 k)
noncomputable def fromOn (d : Dm) (k : Int) : Dm := (d.filter fun p => k ≤ p.2).map fun p => (max p.1 k, p.2)
theorem filterMap_sel {α β : Type} {p : α → Bool} {f : α → β} {l : List α} : (l.filterMap fun x => if p x = true then some (f x) else none) = (l.filter p).map f := by
  induction l with
  | nil => rfl
  | cons a l ih => rw [List.filterMap_cons]; cases h : p a <;> simp [h, ih]

variable {C : Cx} {n : Nat} {H : AH}
theorem C_up_to (hC : IsC C) {d : Dm} {k : Int} (hz : d.length ≤ 100) : CL C (n + 1) (.ref 73) [dom d, .int k] H fun r H' => H' = H ∧ r = dom (upTo d k) := by
  have hzz : d.length ≤ sizeLine := by rw [sizeLine_eq]; omega
  refine' CL.def (names := ["d", "k"]) ⟨⟨⟨_, _, _, _, _, _, _, _, _, _, _, _, _⟩, ?h1, ?h2, ?h3⟩, ?h4, ?h5, ?h6, ?h7, ?h8, ?h9⟩ rfl ?main
  case h1 => rw [hC.K]; exact rfl
  case h2 => rw [hC.K]; kernel_rfl
  case h3 => exact allS fun _ => allS fun _ => all0 rfl
  case h4 => decide +kernel
  case h5 => decide +kernel
  case h6 => decide +kernel
  case h7 => decide +kernel
  case h8 => rfl
  case h9 => exact ⟨rfl, rfl⟩
  intro env hE
  refine XS.cons (X1.ret (EV.call (EV.glob (congrArg Scope.names hE) rfl (g_tuple hC) ⟨rfl, ES.cons (EV.comp (mc := [("k", .int k)]) hE (by repeat (first | exact Cap.nil | refine Cap.skip rfl ?_ | refine Cap.take rfl rfl ?_)) (IV.seq (EV.name rfl ⟨_, .inl rfl, ?it⟩)))⟩) (Keepy.type _)))
  case it =>
    refine CompOk.pure d (fun p => if decide (p.1 ≤ k) = true then some (pr (p.1, min p.2 k)) else none) hzz (fun cenv hE' p hp H' hx => ?_) ?_ (.inl rfl)
    · refine AT.tuple (ATs.cons (AT.name hE' (ATs.cons (AT.name hE' (ATs.nil ⟨.cons rfl (.cons rfl .refl), TSS.one (TS.compare (EV.name rfl (EV.name rfl (O2.le (TV.bool ?_)))))⟩)))))
      cases hq : decide (p.1 ≤ k) with
      | false => exact ⟨rfl, rfl⟩
      | true =>
        refine EV.tuple (ES.cons (EV.name rfl (ES.cons (EV.call (EV.glob (congrArg Scope.names hE') rfl (g_min hC) ⟨rfl, ES.cons (EV.name rfl (ES.cons (EV.name rfl (ES.nil (OC.min2 (ES.nil ⟨lz, rfl, rfl⟩))))))⟩) (Keepy.builtin _)))))
    · refine ES.nil (OC.tupleL ?_ ⟨rfl, ?_⟩)
      · refine Nat.le_trans (List.length_filterMap_le ..) hzz
      · rw [filterMap_sel, dom, upTo, List.map_map]; rfl

theorem C_from_on (hC : IsC C) {d : Dm} {k : Int} (hz : d.length ≤ 100) : CL C (n + 1) (.ref 78) [dom d, .int k] H fun r H' => H' = H ∧ r = dom (fromOn d k) := by
  have hzz : d.length ≤ sizeLine := by rw [sizeLine_eq]; omega
  refine' CL.def (names := ["d", "k"]) ⟨⟨⟨_, _, _, _, _, _, _, _, _, _, _, _, _⟩, ?h1, ?h2, ?h3⟩, ?h4, ?h5, ?h6, ?h7, ?h8, ?h9⟩ rfl ?main
  case h1 => rw [hC.K]; exact rfl
  case h2 => rw [hC.K]; kernel_rfl
  case h3 => exact allS fun _ => allS fun _ => all0 rfl
  case h4 => decide +kernel
  case h5 => decide +kernel
  case h6 => decide +kernel
  case h7 => decide +kernel
  case h8 => rfl
  case h9 => exact ⟨rfl, rfl⟩
  intro env hE
  refine XS.cons (X1.ret (EV.call (EV.glob (congrArg Scope.names hE) rfl (g_tuple hC) ⟨rfl, ES.cons (EV.comp (mc := [("k", .int k)]) hE (by repeat (first | exact Cap.nil | refine Cap.skip rfl ?_ | refine Cap.take rfl rfl ?_)) (IV.seq (EV.name rfl ⟨_, .inl rfl, ?it⟩)))⟩) (Keepy.type _)))
  refine CompOk.pure d (fun p => if decide (k ≤ p.2) = true then some (pr (max p.1 k, p.2)) else none) hzz (fun cenv hE' p hp H' hx => ?_) ?_ (.inl rfl)
  · refine AT.tuple (ATs.cons (AT.name hE' (ATs.cons (AT.name hE' (ATs.nil ⟨.cons rfl (.cons rfl .refl), TSS.one (TS.compare (EV.name rfl (EV.name rfl (O2.ge (TV.bool ?_)))))⟩)))))
    cases hq : decide (k ≤ p.2) with
    | false => exact ⟨rfl, rfl⟩
    | true =>
      refine EV.tuple (ES.cons (EV.call (EV.glob (congrArg Scope.names hE') rfl (g_max hC) ⟨rfl, ES.cons (EV.name rfl (ES.cons (EV.name rfl (ES.nil (OC.max2 (ES.cons (EV.name rfl (ES.nil ⟨lz, rfl, rfl⟩))))))))⟩) (Keepy.builtin _)))
  · refine ES.nil (OC.tupleL ?_ ⟨rfl, ?_⟩)
    · refine Nat.le_trans (List.length_filterMap_le ..) hzz
    · rw [filterMap_sel, dom, fromOn, List.map_map]; rfl
theorem C_greatest (hC : IsC C) {d : Dm} {p : Int × Int} (hl : d[d.length - 1]? = some p) : CL C (n + 1) (.ref 54) [dom d] H fun r H' => H' = H ∧ r = .int p.2 := by
  refine' CL.def (names := ["d"]) ⟨⟨⟨_, _, _, _, _, _, _, _, _, _, _, _, _⟩, ?h1, ?h2, ?h3⟩, ?h4, ?h5, ?h6, ?h7, ?h8, ?h9⟩ rfl ?main
  case h1 => rw [hC.K]; exact rfl
  case h2 => rw [hC.K]; kernel_rfl
  case h3 => exact allS fun _ => all0 rfl
  case h4 => decide +kernel
  case h5 => decide +kernel
  case h6 => decide +kernel
  case h7 => decide +kernel
  case h8 => rfl
  case h9 => exact ⟨rfl, rfl⟩
  intro env hE
  refine XS.cons (X1.ret ?_)
  refine EV.subscript (EV.subscript (EV.name rfl (EV.unary (EV.int (O1.neg (O2.tupLast (d := pr p) ?_ (EV.int (O2.tupAt rfl (by decide) ?_))))))))
  · simp [hl]
  · exact ⟨rfl, rfl⟩
theorem C_least' (hC : IsC C) {d : Dm} {p : Int × Int} (hl : d[0]? = some p) : CL C (n + 1) (.ref 47) [dom d] H fun r H' => H' = H ∧ r = .int p.1 := by
  cases d with
  | nil => cases hl
  | cons q d => cases hl; exact C_least (b := 0) hC

/-- a bound: of what, whether from above, by what -/
structure Lit where
  x : Nat
  le : Bool
  k : Int
noncomputable def sgn (b : Bool) : Str := if b then "<=" else ">="
noncomputable def lit (l : Lit) : D := .tup [.int l.x, .str (sgn l.le), .int l.k]
noncomputable def struckL (l : Lit) (d : Dm) : Dm := if l.le then upTo d l.k else fromOn d l.k
theorem C_struck (hC : IsC C) {l : Lit} {d : Dm} (hz : d.length ≤ 100) : CL C (n + 2) (.ref 106) [lit l, dom d] H fun r H' => H' = H ∧ r = dom (struckL l d) := by
  refine' CL.def (names := ["literal", "d"]) ⟨⟨⟨_, _, _, _, _, _, _, _, _, _, _, _, _⟩, ?h1, ?h2, ?h3⟩, ?h4, ?h5, ?h6, ?h7, ?h8, ?h9⟩ rfl ?main
  case h1 => rw [hC.K]; exact rfl
  case h2 => rw [hC.K]; kernel_rfl
  case h3 => exact allS fun _ => allS fun _ => all0 rfl
  case h4 => decide +kernel
  case h5 => decide +kernel
  case h6 => decide +kernel
  case h7 => decide +kernel
  case h8 => rfl
  case h9 => exact ⟨rfl, rfl⟩
  intro env hE
  refine XS.cons (X1.swap2 (x := "sign") (y := "k") hE (EV.tuple (ES.cons (EV.subscript (EV.name rfl (EV.int (O2.tupAt rfl (by decide) (ES.cons (EV.subscript (EV.name rfl (EV.int (O2.tupAt rfl (by decide) (ES.nil ⟨lz, _, _, rfl, ?_⟩)))))))))))) ?_)
  rotate_left
  · revert env; rintro ⟨⟩ rfl; rfl
  refine XS.cons (X1.ite (TS.compare (EV.name rfl (EV.str (O2.eqS (TV.bool ?_))))))
  obtain ⟨x, le, k⟩ := l
  cases le with
  | true =>
    exact XS.cons (X1.ret (EV.call (EV.glob (congrArg Scope.names hE) rfl (g_up_to hC) ⟨rfl, ES.cons (EV.name rfl (ES.cons (EV.name rfl (ES.nil (OC.of (C_up_to hC hz))))))⟩) (k_up_to hC)))
  | false =>
    refine XS.nil (XS.cons (X1.ite (TS.compare (EV.name rfl (EV.str (O2.eqS (TV.bool ?_)))))))
    exact XS.cons (X1.ret (EV.call (EV.glob (congrArg Scope.names hE) rfl (g_from_on hC) ⟨rfl, ES.cons (EV.name rfl (ES.cons (EV.name rfl (ES.nil (OC.of (C_from_on hC hz))))))⟩) (k_from_on hC)))

end Mine

open PySem PySem.W PyProof.Rows
set_option Elab.async false
set_option linter.unusedVariables false
set_option maxRecDepth 100000
namespace Mine
section
variable {C : Cx} {n : Nat} {env : Env} {m : Loc} {H H' : AH} {s s' : Shared} {Φ : D → AH → Prop}

theorem gnds_all : ∀ {k : Nat} {ds : List D}, (∀ d ∈ ds, D.gnd k d = true) → D.gnds k ds = true
  | _, [], _ => by simp [D.gnds]
  | k, d :: ds, h => by rw [D.gnds, h d (List.mem_cons_self ..), gnds_all fun e he => h e (List.mem_cons_of_mem _ he)]; rfl
theorem gnds_mem : ∀ {k : Nat} {ds : List D} {d : D}, D.gnds k ds = true → d ∈ ds → D.gnd k d = true
  | k, e :: ds, d, h, hm => by
    rw [D.gnds, Bool.and_eq_true] at h
    rcases List.mem_cons.mp hm with rfl | hm
    · exact h.1
    · exact gnds_mem h.2 hm
theorem gnd_int {k : Nat} {i : Int} : D.gnd k (.int i) = true := by cases k <;> rfl
theorem gnd_dom {k : Nat} {d : Dm} : D.gnd (k + 2) (dom d) = true := by
  rw [dom, D.gnd]
  refine gnds_all fun e he => ?_
  obtain ⟨p, _, rfl⟩ := List.mem_map.mp he
  rw [pr, D.gnd]
  refine gnds_all fun e he => ?_
  simp only [List.mem_cons, List.not_mem_nil, or_false] at he
  rcases he with rfl | rfl <;> exact gnd_int
theorem gnd_doms {k : Nat} {ds : List Dm} : D.gnd (k + 3) (.lst (ds.map dom)) = true := by
  rw [D.gnd]
  refine gnds_all fun e he => ?_
  obtain ⟨p, _, rfl⟩ := List.mem_map.mp he
  exact gnd_dom
theorem pr_inj {p q : Int × Int} : pr p = pr q ↔ p = q := by
  obtain ⟨a, b⟩ := p; obtain ⟨c, d⟩ := q; simp [pr]
theorem map_inj' {α β : Type} {f : α → β} (h : ∀ a b, f a = f b → a = b) : ∀ {l k : List α}, l.map f = k.map f → l = k
  | [], [], _ => rfl
  | [], _ :: _, e => by cases e
  | _ :: _, [], e => by cases e
  | a :: l, b :: k, e => by rw [List.map_cons, List.map_cons, List.cons.injEq] at e; rw [h a b e.1, map_inj' h e.2]
theorem dom_inj {d e : Dm} : dom d = dom e ↔ d = e := ⟨fun h => map_inj' (fun _ _ => pr_inj.mp) (by simpa [dom] using h), fun h => h ▸ rfl⟩
theorem doms_inj {d e : List Dm} : D.lst (d.map dom) = .lst (e.map dom) ↔ d = e := ⟨fun h => map_inj' (fun _ _ => dom_inj.mp) (by simpa using h), fun h => h ▸ rfl⟩

theorem pys_any {p : PyData → Bool} : ∀ {ds : List D}, (D.pys ds).any p = ds.any fun d => p d.py
  | [] => rfl
  | d :: ds => by rw [D.pys, List.any_cons, List.any_cons, pys_any]
theorem O2.inR {a : D} {l : Addr} {ds : List D} {r : Bool} (ha : a.gnd 8 = true) (hl : H l = some (.list ds)) (hg : D.gnd 8 (.lst ds) = true) (hr : r = true ↔ a ∈ ds) (φ : Φ (.bool r) H) (hn : 4 ≤ n := by omega) : O2 C n env (compareOp .In) a (.ref l) m H Φ := fun A s v u rm R qa qb => by
  cases qb
  obtain ⟨as, ra⟩ := qa.reads ha
  obtain ⟨bs, rb⟩ := (R.toRelH.frozen hl).reads hg
  rw [D.py] at rb
  have l1 := gnd_lay 8 a ha
  have l2 := gnd_lay 8 (.lst ds) hg
  rw [D.py] at l2
  have hgs : D.gnds 7 ds = true := by rw [D.gnd] at hg; exact hg
  refine SeqAt.in_list_reads rb ra (gnds_lay 7 ds hgs).1 l1.1 ?_ ?_
  · have := Nat.min_le_right (PyData.depthAll (D.pys ds)) a.py.depth
    have := rm.units64 hn
    omega
  · have e : ((D.pys ds).any fun y => PyData.eqv y a.py) = r := by
      rw [pys_any]
      refine bool_of_iff (P := a ∈ ds) ?_ hr
      rw [List.any_eq_true]
      refine ⟨fun ⟨x, hx, q⟩ => ?_, fun hx => ⟨a, hx, (gnd_eqv 8 8 a a ha ha).mpr rfl⟩⟩
      exact (gnd_eqv 7 8 x a (gnds_mem hgs hx) ha).mp q ▸ hx
    rw [e]; exact PV.here R (.bool _) φ
theorem O2.neR {b : D} {l : Addr} {ds : List D} {r : Bool} (hl : H l = some (.list ds)) (ha : D.gnd 8 (.lst ds) = true) (hb : b.gnd 8 = true) (hr : r = true ↔ .lst ds = b) (φ : Φ (.bool (!r)) H) (hn : 4 ≤ n := by omega) : O2 C n env (compareOp .NotEq) (.ref l) b m H Φ := fun A s v u rm R qa qb => by
  cases qa
  obtain ⟨as, ra⟩ := (R.toRelH.frozen hl).reads ha
  obtain ⟨bs, rb⟩ := qb.reads hb
  refine ne_dataH ra rb (gnd_shaped ha (by decide)) (gnd_shaped hb (by decide)) (rm.units64 hn) ?_
  rw [bool_of_iff (gnd_eqv 8 8 _ b ha hb) hr]; exact PV.here R (.bool _) φ
theorem CL.mono {f : Value} {as : List D} {Φ Ψ : D → AH → Prop} (h : CL C n f as H Φ) (k : ∀ d H', Φ d H' → Ψ d H') : CL C n f as H Ψ := fun A s vs rm R q =>
  codeAny_mono (h A s vs rm R q) fun r s' p => by obtain ⟨v, d, H', e, t, q, R', φ⟩ := p; exact ⟨v, d, H', e, t, q, R', k _ _ φ⟩
theorem OC.eq {f : Value} {as : List D} {d : D} (h : CL C n f as H fun r H' => H' = H ∧ r = d) (φ : Φ d H) : OC C n env f as m H Φ := OC.of (h.mono fun r H' q => by obtain ⟨rfl, rfl⟩ := q; exact φ)
theorem OC.to {f : Value} {as : List D} {Ψ : D → AH → Prop} (h : CL C n f as H Ψ) (k : ∀ d H', Ψ d H' → Φ d H') : OC C n env f as m H Φ := OC.of (h.mono k)
theorem Room.drop {A : Around} {k : Nat} (h : Room n A) (hk : k ≤ n) : Room k A := h.le hk
theorem CL.le {f : Value} {as : List D} {k : Nat} {Φ : D → AH → Prop} (h : CL C k f as H Φ) (hk : k ≤ n) : CL C n f as H Φ := fun A s vs rm R q => h A s vs (rm.le hk) R q
end

structure Ad where
  (a dd ld lf lt lm ln : Addr)
structure Ent where
  x : Nat
  old : Dm
  l : Lit
  why : Option (List Lit)
  who : Int
structure Sg where
  doms : List Dm
  firsts : List Dm
  trail : List Ent
  marks : List Nat
  news : Nat
  failed : Bool
  clash : List Lit
noncomputable def whyD : Option (List Lit) → D
  | none => .none
  | some r => .tup (r.map lit)
noncomputable def ent (e : Ent) : D := .tup [.int e.x, dom e.old, lit e.l, whyD e.why, .int e.who]
noncomputable def deskNs (P : Ad) (σ : Sg) : Loc := [("domains", .ref P.ld), ("firsts", .ref P.lf), ("trail", .ref P.lt), ("marks", .ref P.lm), ("news", .ref P.ln), ("speaker", .int (-1)), ("is_failed", .bool σ.failed), ("clash", .tup (σ.clash.map lit))]
noncomputable def mkI (k : Nat) : D := .int k
structure DeskAt (H : AH) (P : Ad) (σ : Sg) : Prop where
  a : H P.a = some (.inst P.dd)
  ns : H P.dd = some (.ns (deskNs P σ))
  ld : H P.ld = some (.list (σ.doms.map dom))
  lf : H P.lf = some (.list (σ.firsts.map dom))
  lt : H P.lt = some (.list (σ.trail.map ent))
  lm : H P.lm = some (.list (σ.marks.map mkI))
  ln : H P.ln = some (.idict σ.news)
  n1 : P.ld ≠ P.lf
  n2 : P.ld ≠ P.lt
  n3 : P.ld ≠ P.lm
  n4 : P.lf ≠ P.lt
  n5 : P.lf ≠ P.lm
  n6 : P.lt ≠ P.lm
  z1 : σ.doms.length ≤ 100
  z2 : ∀ d ∈ σ.doms, d.length ≤ 100
  z3 : σ.firsts.length = σ.doms.length
  z4 : σ.trail.length ≤ 200
  z5 : σ.marks.length ≤ 100
  z6 : σ.news ≤ 200
theorem DeskAt.ext {H H' : AH} {P : Ad} {σ : Sg} (h : DeskAt H P σ) (e : Ext H H') : DeskAt H' P σ :=
  ⟨e.at h.a, e.at h.ns, e.at h.ld, e.at h.lf, e.at h.lt, e.at h.lm, e.at h.ln, h.n1, h.n2, h.n3, h.n4, h.n5, h.n6, h.z1, h.z2, h.z3, h.z4, h.z5, h.z6⟩
/-- all that is not of the desk stays -/
noncomputable def Fr (P : Ad) (H H' : AH) : Prop := ∀ b, b ∉ [P.a, P.dd, P.ld, P.lf, P.lt, P.lm, P.ln] → H b ≠ none → H' b = H b
noncomputable def sayS (l : Lit) (d : Dm) : Int := if struckL l d = d then 1 else if struckL l d = [] then -1 else 0
noncomputable def negL (l : Lit) : Lit := ⟨l.x, !l.le, if l.le then l.k + 1 else l.k - 1⟩

variable {C : Cx} {n : Nat} {H : AH}
theorem C_said_of (hC : IsC C) {l : Lit} {d : Dm} (hz : d.length ≤ 100) : CL C (n + 5) (.ref 113) [lit l, dom d] H fun r H' => H' = H ∧ r = .int (sayS l d) := by
  refine' CL.def (names := ["literal", "d"]) ⟨⟨⟨_, _, _, _, _, _, _, _, _, _, _, _, _⟩, ?h1, ?h2, ?h3⟩, ?h4, ?h5, ?h6, ?h7, ?h8, ?h9⟩ rfl ?main
  case h1 => rw [hC.K]; exact rfl
  case h2 => rw [hC.K]; kernel_rfl
  case h3 => exact allS fun _ => allS fun _ => all0 rfl
  case h4 => decide +kernel
  case h5 => decide +kernel
  case h6 => decide +kernel
  case h7 => decide +kernel
  case h8 => rfl
  case h9 => exact ⟨rfl, rfl⟩
  intro env hE
  refine XS.cons (X1.assign hE (EV.call (EV.glob (congrArg Scope.names hE) rfl (g_struck hC) ⟨rfl, ES.cons (EV.name rfl (ES.cons (EV.name rfl (ES.nil (OC.eq (C_struck (n := n + 2) hC hz) ?_)))))⟩) (k_struck hC)))
  refine XS.cons (X1.ite (TS.compare (EV.name rfl (EV.name rfl (O2.eqD (r := decide (struckL l d = d)) gnd_dom gnd_dom (by rw [decide_eq_true_iff, dom_inj]) (TV.bool ?_))))))
  cases hq : decide (struckL l d = d) with
  | true =>
    have e : sayS l d = 1 := by unfold sayS; rw [if_pos (of_decide_eq_true hq)]
    rw [e]
    exact XS.cons (X1.ret (EV.int ⟨rfl, rfl⟩))
  | false =>
    refine XS.nil (XS.cons (X1.ret (EV.ifExp (TS.compare (EV.name rfl (EV.tuple (ES.nil ⟨lz, (O2.eqD (r := decide (struckL l d = [])) gnd_dom (b := dom []) gnd_dom (by rw [decide_eq_true_iff, dom_inj]) (TV.bool ?_))⟩)))))))
    cases hq2 : decide (struckL l d = []) with
    | true =>
      have e : sayS l d = -1 := by unfold sayS; rw [if_neg (of_decide_eq_false hq), if_pos (of_decide_eq_true hq2)]
      rw [e]
      exact EV.unary (EV.int (O1.neg ⟨rfl, rfl⟩))
    | false =>
      have e : sayS l d = 0 := by unfold sayS; rw [if_neg (of_decide_eq_false hq), if_neg (of_decide_eq_false hq2)]
      rw [e]
      exact EV.int ⟨rfl, rfl⟩
theorem C_negation (hC : IsC C) {l : Lit} : CL C (n + 1) (.ref 99) [lit l] H fun r H' => H' = H ∧ r = lit (negL l) := by
  refine' CL.def (names := ["literal"]) ⟨⟨⟨_, _, _, _, _, _, _, _, _, _, _, _, _⟩, ?h1, ?h2, ?h3⟩, ?h4, ?h5, ?h6, ?h7, ?h8, ?h9⟩ rfl ?main
  case h1 => rw [hC.K]; exact rfl
  case h2 => rw [hC.K]; kernel_rfl
  case h3 => exact allS fun _ => all0 rfl
  case h4 => decide +kernel
  case h5 => decide +kernel
  case h6 => decide +kernel
  case h7 => decide +kernel
  case h8 => rfl
  case h9 => exact ⟨rfl, rfl⟩
  intro env hE
  refine XS.cons (X1.assignTup (EV.name rfl (AT.tuple (ATs.cons (AT.name hE (ATs.cons (AT.name hE (ATs.cons (AT.name hE (ATs.nil ?_)))))))))) 
  refine XS.cons (X1.ite (TS.compare (EV.name rfl (EV.str (O2.eqS (TV.bool ?_))))))
  obtain ⟨x, le, k⟩ := l
  cases le with
  | true =>
    exact XS.cons (X1.ret (EV.tuple (ES.cons (EV.name rfl (ES.cons (EV.str (ES.cons (EV.binop (EV.name rfl (EV.int (O2.add (ES.nil ⟨lz, rfl, rfl⟩))))))))))))
  | false =>
    refine XS.nil (XS.cons (X1.ite (TS.compare (EV.name rfl (EV.str (O2.eqS (TV.bool ?_)))))))
    exact XS.cons (X1.ret (EV.tuple (ES.cons (EV.name rfl (ES.cons (EV.str (ES.cons (EV.binop (EV.name rfl (EV.int (O2.sub (ES.nil ⟨lz, rfl, rfl⟩))))))))))))

end Mine

open PySem PySem.W PyProof.Rows
set_option Elab.async false
set_option linter.unusedVariables false
set_option maxRecDepth 100000
namespace Mine
section
variable {H H' : AH} {P : Ad} {σ σ' : Sg}
theorem ne_of {a b : Addr} {o o' : AO} (ha : H a = some o) (hb : H b = some o') (h : o ≠ o') : a ≠ b := fun z => by subst z; rw [ha] at hb; cases hb; exact h rfl
theorem DeskAt.setNs (h : DeskAt H P σ) (e1 : σ'.doms = σ.doms) (e2 : σ'.firsts = σ.firsts) (e3 : σ'.trail = σ.trail) (e4 : σ'.marks = σ.marks) (e5 : σ'.news = σ.news) : DeskAt (upd H P.dd (.ns (deskNs P σ'))) P σ' where
  a := (upd_ne (ne_of h.a h.ns (fun z => nomatch z))).trans h.a
  ns := upd_same ..
  ld := e1 ▸ (upd_ne (ne_of h.ld h.ns (fun z => nomatch z))).trans h.ld
  lf := e2 ▸ (upd_ne (ne_of h.lf h.ns (fun z => nomatch z))).trans h.lf
  lt := e3 ▸ (upd_ne (ne_of h.lt h.ns (fun z => nomatch z))).trans h.lt
  lm := e4 ▸ (upd_ne (ne_of h.lm h.ns (fun z => nomatch z))).trans h.lm
  ln := e5 ▸ (upd_ne (ne_of h.ln h.ns (fun z => nomatch z))).trans h.ln
  n1 := h.n1
  n2 := h.n2
  n3 := h.n3
  n4 := h.n4
  n5 := h.n5
  n6 := h.n6
  z1 := e1 ▸ h.z1
  z2 := e1 ▸ h.z2
  z3 := by rw [e1, e2]; exact h.z3
  z4 := e3 ▸ h.z4
  z5 := e4 ▸ h.z5
  z6 := e5 ▸ h.z6
theorem DeskAt.setDoms (h : DeskAt H P σ) {ds : List Dm} (hl : ds.length = σ.doms.length) (hz : ∀ d ∈ ds, d.length ≤ 100) : DeskAt (upd H P.ld (.list (ds.map dom))) P { σ with doms := ds } where
  a := (upd_ne (ne_of h.a h.ld (fun z => nomatch z))).trans h.a
  ns := (upd_ne (ne_of h.ns h.ld (fun z => nomatch z))).trans h.ns
  ld := upd_same ..
  lf := (upd_ne h.n1.symm).trans h.lf
  lt := (upd_ne h.n2.symm).trans h.lt
  lm := (upd_ne h.n3.symm).trans h.lm
  ln := (upd_ne (ne_of h.ln h.ld (fun z => nomatch z))).trans h.ln
  n1 := h.n1
  n2 := h.n2
  n3 := h.n3
  n4 := h.n4
  n5 := h.n5
  n6 := h.n6
  z1 := hl ▸ h.z1
  z2 := hz
  z3 := h.z3.trans hl.symm
  z4 := h.z4
  z5 := h.z5
  z6 := h.z6
theorem DeskAt.setTrail (h : DeskAt H P σ) {t : List Ent} (hz : t.length ≤ 200) : DeskAt (upd H P.lt (.list (t.map ent))) P { σ with trail := t } where
  a := (upd_ne (ne_of h.a h.lt (fun z => nomatch z))).trans h.a
  ns := (upd_ne (ne_of h.ns h.lt (fun z => nomatch z))).trans h.ns
  ld := (upd_ne h.n2).trans h.ld
  lf := (upd_ne h.n4).trans h.lf
  lt := upd_same ..
  lm := (upd_ne h.n6.symm).trans h.lm
  ln := (upd_ne (ne_of h.ln h.lt (fun z => nomatch z))).trans h.ln
  n1 := h.n1
  n2 := h.n2
  n3 := h.n3
  n4 := h.n4
  n5 := h.n5
  n6 := h.n6
  z1 := h.z1
  z2 := h.z2
  z3 := h.z3
  z4 := hz
  z5 := h.z5
  z6 := h.z6
theorem DeskAt.setMarks (h : DeskAt H P σ) {t : List Nat} (hz : t.length ≤ 100) : DeskAt (upd H P.lm (.list (t.map mkI))) P { σ with marks := t } where
  a := (upd_ne (ne_of h.a h.lm (fun z => nomatch z))).trans h.a
  ns := (upd_ne (ne_of h.ns h.lm (fun z => nomatch z))).trans h.ns
  ld := (upd_ne h.n3).trans h.ld
  lf := (upd_ne h.n5).trans h.lf
  lt := (upd_ne h.n6).trans h.lt
  lm := upd_same ..
  ln := (upd_ne (ne_of h.ln h.lm (fun z => nomatch z))).trans h.ln
  n1 := h.n1
  n2 := h.n2
  n3 := h.n3
  n4 := h.n4
  n5 := h.n5
  n6 := h.n6
  z1 := h.z1
  z2 := h.z2
  z3 := h.z3
  z4 := h.z4
  z5 := hz
  z6 := h.z6
theorem DeskAt.setNews (h : DeskAt H P σ) {k : Nat} (hz : k ≤ 200) : DeskAt (upd H P.ln (.idict k)) P { σ with news := k } where
  a := (upd_ne (ne_of h.a h.ln (fun z => nomatch z))).trans h.a
  ns := (upd_ne (ne_of h.ns h.ln (fun z => nomatch z))).trans h.ns
  ld := (upd_ne (ne_of h.ld h.ln (fun z => nomatch z))).trans h.ld
  lf := (upd_ne (ne_of h.lf h.ln (fun z => nomatch z))).trans h.lf
  lt := (upd_ne (ne_of h.lt h.ln (fun z => nomatch z))).trans h.lt
  lm := (upd_ne (ne_of h.lm h.ln (fun z => nomatch z))).trans h.lm
  ln := upd_same ..
  n1 := h.n1
  n2 := h.n2
  n3 := h.n3
  n4 := h.n4
  n5 := h.n5
  n6 := h.n6
  z1 := h.z1
  z2 := h.z2
  z3 := h.z3
  z4 := h.z4
  z5 := h.z5
  z6 := hz
theorem Fr.refl : Fr P H H := fun _ _ _ => rfl
theorem Fr.put {a : Addr} {o : AO} (f : Fr P H H') (ha : a ∈ [P.a, P.dd, P.ld, P.lf, P.lt, P.lm, P.ln]) : Fr P H (upd H' a o) := fun b hb hn => (upd_ne (fun z => hb (by rw [z]; exact ha))).trans (f b hb hn)
theorem Fr.trans {H₁ : AH} (f : Fr P H H₁) (g : Fr P H₁ H') : Fr P H H' := fun b hb hn => (g b hb (by rw [f b hb hn]; exact hn)).trans (f b hb hn)
end

section
variable {C : Cx} {n : Nat} {env : Env} {m : Loc} {H H' : AH} {P : Ad} {σ : Sg} {Φ : D → AH → Prop}
theorem EV.dAttr {x name : Str} {p pos : Pos} {d : D} (hm : m.lookup x = some (.ref P.a)) (hD : DeskAt H P σ) (hA : AttrAt C name) (hl : (deskNs P σ).lookup name = some d) (φ : Φ d H) (hp : d.plain = true := by rfl) (hd : (x == ("__debug__" : Str)) = false := by decide +kernel) (hc : (x == ("__classdict__" : Str)) = false := by decide +kernel)
    (he : eval (.Attribute (.Name x p) name pos) env = (do
      let ov ← eval (.Name x p) env
      standAt pos.atName
      let r ← holding [ov] (getAttr ov name true)
      letTemporaryGo (.Name x p) ov r
      pure r) := by with_unfolding_all rfl) : EV C n env (.Attribute (.Name x p) name pos) m H Φ :=
  EV.attr (EV.name hm ⟨P.a, P.dd, deskNs P σ, d, rfl, hD.a, hD.ns, hl, hp, hA, φ⟩ hd hc) he
theorem EV.dMeth {x name : Str} {p apos pos : Pos} {f : Addr} {args : List Expr} (hm : m.lookup x = some (.ref P.a)) (hD : DeskAt H P σ) (hM : MethAt C name f) (hl : (deskNs P σ).lookup name = Option.none) (h : ES C n env pos args m H fun ds H₁ => OC C n env (.ref f) (.ref P.a :: ds) m H₁ Φ) (hne : args ≠ [] := by simp) (hp : args.all (fun | .Starred .. => false | _ => true) = true := by rfl) (hd : (x == ("__debug__" : Str)) = false := by decide +kernel) (hc : (x == ("__classdict__" : Str)) = false := by decide +kernel) {pl : Sem Bool}
    (he : eval (.Call (.Attribute (.Name x p) name apos) args [] pos) env = (do
      let ov ← eval (.Name x p) env
      standAt apos.atName
      let (f, first) ← holding [ov] (getMethod ov name pl)
      callWith pos f first (backTo pos (starEach args env)) []) := by rfl) : EV C n env (.Call (.Attribute (.Name x p) name apos) args [] pos) m H Φ :=
  EV.method (pl := pl) (EV.name hm (MC.meth hD.a hD.ns hl hM h hne hp) hd hc) he
theorem EV.dMeth0 {x name : Str} {p apos pos : Pos} {f : Addr} (hm : m.lookup x = some (.ref P.a)) (hD : DeskAt H P σ) (hM : MethAt C name f) (hl : (deskNs P σ).lookup name = Option.none) (h : OC C n env (.ref f) [.ref P.a] m H Φ) (hd : (x == ("__debug__" : Str)) = false := by decide +kernel) (hc : (x == ("__classdict__" : Str)) = false := by decide +kernel) {pl : Sem Bool}
    (he : eval (.Call (.Attribute (.Name x p) name apos) [] [] pos) env = (do
      let ov ← eval (.Name x p) env
      standAt apos.atName
      let (f, first) ← holding [ov] (getMethod ov name pl)
      callWith pos f first (backTo pos (starEach [] env)) []) := by rfl) : EV C n env (.Call (.Attribute (.Name x p) name apos) [] [] pos) m H Φ :=
  EV.method (pl := pl) (EV.name hm (MC.meth0 hD.a hD.ns hl hM h) hd hc) he
end

variable {C : Cx} {n : Nat} {H : AH} {P : Ad} {σ : Sg}
theorem at_map {α : Type} {f : α → D} {l : List α} {x : Nat} {d : α} (h : l[x]? = some d) : (l.map f)[((x : Nat) : Int).toNat]? = some (f d) := by
  rw [Int.toNat_natCast, List.getElem?_map, h]; rfl
theorem lt63 {α : Type} {l : List α} {x : Nat} {d : α} (h : l[x]? = some d) (hz : l.length ≤ 100) : ((x : Nat) : Int) < 2 ^ 63 := by
  have := (List.getElem?_eq_some_iff.mp h).1
  omega
theorem C_dom (hC : IsC C) (hD : DeskAt H P σ) {x : Nat} {d : Dm} (hx : σ.doms[x]? = some d) : CL C (n + 1) (.ref 148) [.ref P.a, .int x] H fun r H' => H' = H ∧ r = dom d := by
  refine' CL.def (names := ["self", "x"]) ⟨⟨⟨_, _, _, _, _, _, _, _, _, _, _, _, _⟩, ?h1, ?h2, ?h3⟩, ?h4, ?h5, ?h6, ?h7, ?h8, ?h9⟩ rfl ?main
  case h1 => rw [hC.K]; exact rfl
  case h2 => rw [hC.K]; kernel_rfl
  case h3 => exact allS fun _ => allS fun _ => all0 rfl
  case h4 => decide +kernel
  case h5 => decide +kernel
  case h6 => decide +kernel
  case h7 => decide +kernel
  case h8 => rfl
  case h9 => exact ⟨rfl, rfl⟩
  intro env hE
  exact XS.cons (X1.ret (EV.subscript (EV.dAttr rfl hD (a_domains hC) rfl (EV.name rfl (O2.refAt hD.ld (at_map hx) (Int.natCast_nonneg _) ⟨rfl, rfl⟩ (lt63 hx hD.z1))))))
theorem C_initial (hC : IsC C) (hD : DeskAt H P σ) {x : Nat} {d : Dm} (hx : σ.firsts[x]? = some d) : CL C (n + 1) (.ref 155) [.ref P.a, .int x] H fun r H' => H' = H ∧ r = dom d := by
  refine' CL.def (names := ["self", "x"]) ⟨⟨⟨_, _, _, _, _, _, _, _, _, _, _, _, _⟩, ?h1, ?h2, ?h3⟩, ?h4, ?h5, ?h6, ?h7, ?h8, ?h9⟩ rfl ?main
  case h1 => rw [hC.K]; exact rfl
  case h2 => rw [hC.K]; kernel_rfl
  case h3 => exact allS fun _ => allS fun _ => all0 rfl
  case h4 => decide +kernel
  case h5 => decide +kernel
  case h6 => decide +kernel
  case h7 => decide +kernel
  case h8 => rfl
  case h9 => exact ⟨rfl, rfl⟩
  intro env hE
  exact XS.cons (X1.ret (EV.subscript (EV.dAttr rfl hD (a_firsts hC) rfl (EV.name rfl (O2.refAt hD.lf (at_map hx) (Int.natCast_nonneg _) ⟨rfl, rfl⟩ (lt63 hx (by rw [hD.z3]; exact hD.z1)))))))
theorem C_low (hC : IsC C) (hD : DeskAt H P σ) {x : Nat} {d : Dm} {p : Int × Int} (hx : σ.doms[x]? = some d) (hp : d[0]? = some p) : CL C (n + 2) (.ref 162) [.ref P.a, .int x] H fun r H' => H' = H ∧ r = .int p.1 := by
  refine' CL.def (names := ["self", "x"]) ⟨⟨⟨_, _, _, _, _, _, _, _, _, _, _, _, _⟩, ?h1, ?h2, ?h3⟩, ?h4, ?h5, ?h6, ?h7, ?h8, ?h9⟩ rfl ?main
  case h1 => rw [hC.K]; exact rfl
  case h2 => rw [hC.K]; kernel_rfl
  case h3 => exact allS fun _ => allS fun _ => all0 rfl
  case h4 => decide +kernel
  case h5 => decide +kernel
  case h6 => decide +kernel
  case h7 => decide +kernel
  case h8 => rfl
  case h9 => exact ⟨rfl, rfl⟩
  intro env hE
  exact XS.cons (X1.ret (EV.call (EV.glob (congrArg Scope.names hE) rfl (g_least hC) ⟨rfl, ES.cons (EV.subscript (EV.dAttr rfl hD (a_domains hC) rfl (EV.name rfl (O2.refAt hD.ld (at_map hx) (Int.natCast_nonneg _) (ES.nil (OC.eq (C_least' hC hp) ⟨rfl, rfl⟩)) (lt63 hx hD.z1)))))⟩) (k_least hC)))
theorem C_high (hC : IsC C) (hD : DeskAt H P σ) {x : Nat} {d : Dm} {p : Int × Int} (hx : σ.doms[x]? = some d) (hp : d[d.length - 1]? = some p) : CL C (n + 2) (.ref 169) [.ref P.a, .int x] H fun r H' => H' = H ∧ r = .int p.2 := by
  refine' CL.def (names := ["self", "x"]) ⟨⟨⟨_, _, _, _, _, _, _, _, _, _, _, _, _⟩, ?h1, ?h2, ?h3⟩, ?h4, ?h5, ?h6, ?h7, ?h8, ?h9⟩ rfl ?main
  case h1 => rw [hC.K]; exact rfl
  case h2 => rw [hC.K]; kernel_rfl
  case h3 => exact allS fun _ => allS fun _ => all0 rfl
  case h4 => decide +kernel
  case h5 => decide +kernel
  case h6 => decide +kernel
  case h7 => decide +kernel
  case h8 => rfl
  case h9 => exact ⟨rfl, rfl⟩
  intro env hE
  exact XS.cons (X1.ret (EV.call (EV.glob (congrArg Scope.names hE) rfl (g_greatest hC) ⟨rfl, ES.cons (EV.subscript (EV.dAttr rfl hD (a_domains hC) rfl (EV.name rfl (O2.refAt hD.ld (at_map hx) (Int.natCast_nonneg _) (ES.nil (OC.eq (C_greatest hC hp) ⟨rfl, rfl⟩)) (lt63 hx hD.z1)))))⟩) (k_greatest hC)))
theorem C_size (hC : IsC C) (hD : DeskAt H P σ) : CL C (n + 1) (.ref 141) [.ref P.a] H fun r H' => H' = H ∧ r = .int σ.doms.length := by
  refine' CL.def (names := ["self"]) ⟨⟨⟨_, _, _, _, _, _, _, _, _, _, _, _, _⟩, ?h1, ?h2, ?h3⟩, ?h4, ?h5, ?h6, ?h7, ?h8, ?h9⟩ rfl ?main
  case h1 => rw [hC.K]; exact rfl
  case h2 => rw [hC.K]; kernel_rfl
  case h3 => exact allS fun _ => all0 rfl
  case h4 => decide +kernel
  case h5 => decide +kernel
  case h6 => decide +kernel
  case h7 => decide +kernel
  case h8 => rfl
  case h9 => exact ⟨rfl, rfl⟩
  intro env hE
  refine XS.cons (X1.ret (EV.call (EV.glob (congrArg Scope.names hE) rfl (g_len hC) ⟨rfl, ES.cons (EV.dAttr rfl hD (a_domains hC) rfl (ES.nil (OC.lenL (.inr ⟨_, rfl, hD.ld⟩) ?_ ?_)))⟩) (Keepy.builtin _)))
  · exact ⟨rfl, by rw [List.length_map]⟩
  · rw [List.length_map, sizeLine_eq]; have := hD.z1; omega
theorem C_holds (hC : IsC C) (hD : DeskAt H P σ) {l : Lit} {d : Dm} (hx : σ.doms[l.x]? = some d) : CL C (n + 6) (.ref 204) [.ref P.a, lit l] H fun r H' => H' = H ∧ r = .int (sayS l d) := by
  have hd : d.length ≤ 100 := hD.z2 d (List.mem_of_getElem? hx)
  refine' CL.def (names := ["self", "literal"]) ⟨⟨⟨_, _, _, _, _, _, _, _, _, _, _, _, _⟩, ?h1, ?h2, ?h3⟩, ?h4, ?h5, ?h6, ?h7, ?h8, ?h9⟩ rfl ?main
  case h1 => rw [hC.K]; exact rfl
  case h2 => rw [hC.K]; kernel_rfl
  case h3 => exact allS fun _ => allS fun _ => all0 rfl
  case h4 => decide +kernel
  case h5 => decide +kernel
  case h6 => decide +kernel
  case h7 => decide +kernel
  case h8 => rfl
  case h9 => exact ⟨rfl, rfl⟩
  intro env hE
  exact XS.cons (X1.ret (EV.call (EV.glob (congrArg Scope.names hE) rfl (g_said_of hC) ⟨rfl, ES.cons (EV.name rfl (ES.cons (EV.subscript (EV.dAttr rfl hD (a_domains hC) rfl (EV.subscript (EV.name rfl (EV.int (O2.tupAt rfl (by decide) (O2.refAt hD.ld (at_map hx) (Int.natCast_nonneg _) (ES.nil (OC.eq (C_said_of hC hd) ⟨rfl, rfl⟩)) (lt63 hx hD.z1))))))))))⟩) (k_said_of hC)))
theorem C_fail (hC : IsC C) (hD : DeskAt H P σ) {rs : List Lit} (hz : rs.length ≤ 1000) : CL C (n + 1) (.ref 232) [.ref P.a, .tup (rs.map lit)] H fun r H' => r = .bool false ∧ DeskAt H' P { σ with failed := true, clash := rs } ∧ Fr P H H' := by
  refine' CL.def (names := ["self", "reasons"]) ⟨⟨⟨_, _, _, _, _, _, _, _, _, _, _, _, _⟩, ?h1, ?h2, ?h3⟩, ?h4, ?h5, ?h6, ?h7, ?h8, ?h9⟩ rfl ?main
  case h1 => rw [hC.K]; exact rfl
  case h2 => rw [hC.K]; kernel_rfl
  case h3 => exact allS fun _ => allS fun _ => all0 rfl
  case h4 => decide +kernel
  case h5 => decide +kernel
  case h6 => decide +kernel
  case h7 => decide +kernel
  case h8 => rfl
  case h9 => exact ⟨rfl, rfl⟩
  intro env hE
  refine XS.cons (X1.setAttr (EV.bool (EV.name rfl ⟨P.a, P.dd, deskNs P σ, rfl, hD.a, hD.ns, (by simp [deskNs]), a_is_failed hC, ?_⟩)))
  have hD1 : DeskAt (upd H P.dd (.ns (setL "is_failed" (.bool true) (deskNs P σ)))) P { σ with failed := true } := hD.setNs (σ' := { σ with failed := true }) rfl rfl rfl rfl rfl
  refine XS.cons (X1.setAttr (EV.call (EV.glob (congrArg Scope.names hE) rfl (g_tuple hC) ⟨rfl, ES.cons (EV.name rfl (ES.nil (OC.tupleT (EV.name rfl ⟨P.a, P.dd, deskNs P { σ with failed := true }, rfl, hD1.a, hD1.ns, (by simp [deskNs]), a_clash hC, ?_⟩))))⟩) (Keepy.type _)))
  have hD2 : DeskAt (upd (upd H P.dd (.ns (setL "is_failed" (.bool true) (deskNs P σ)))) P.dd (.ns (setL "clash" (.tup (rs.map lit)) (deskNs P { σ with failed := true })))) P { σ with failed := true, clash := rs } := hD1.setNs (σ' := { σ with failed := true, clash := rs }) rfl rfl rfl rfl rfl
  exact XS.cons (X1.ret (EV.bool ⟨rfl, hD2, (Fr.refl.put (by simp)).put (by simp)⟩))

end Mine

open PySem PySem.W PyProof.Rows
set_option Elab.async false
set_option linter.unusedVariables false
set_option maxRecDepth 100000
namespace Mine
section
variable {C : Cx} {n : Nat} {env : Env} {m : Loc} {H H' : AH} {Φ : D → AH → Prop}
/-- what a slice leaves may be written to -/
theorem EV.sliceToT {value e : Expr} {p pos : Pos} (h : EV C n env value m H fun a H₁ => EV C n env e m H₁ fun b H₂ => ∃ ds, LstAt a H₂ ds ∧ ds.length ≤ sizeLine ∧ ∃ k : Nat, b = .int k ∧ ∀ l, H₂ l = Option.none → Φ (.ref l) (upd H₂ l (.list (ds.take k)))) :
    EV C n env (.Subscript value (.Slice Option.none (some e) Option.none p) pos) m H Φ := fun A s rm R => by
  refine Subscript_ (wpAny_mono (h A s rm R) (fun v s₁ q => wpAny_Slice ?_) fun _ _ x => x)
  obtain ⟨a, H₁, t₁, q₁, R₁, h₁⟩ := q
  rw [evalPart_none, evalPart_some]
  refine wpAny_pure (wpAny_mono (h₁ A s₁ rm R₁) (fun u s₂ q => wpAny_pure ?_) fun _ _ x => x)
  obtain ⟨b, H₂, t₂, q₂, R₂, ds, hd, hsz, k, rfl, φ⟩ := q
  cases q₂
  rename_i tk
  have q3 := q₁.step t₂ R₁
  have : ∃ (l : Addr) (vs : List Value), v = .ref l ∧ s₂.heap.IsList l vs.toArray ∧ VRs s₂.heap H₂ vs ds := by
    rcases hd with rfl | ⟨l, rfl, hl⟩
    · cases q3 with | lst ht _ r => exact ⟨_, _, rfl, ht, r⟩
    · cases q3; obtain ⟨vs, ht, r⟩ := R₂.objs l _ hl; exact ⟨_, _, rfl, ht.isList, r⟩
  obtain ⟨l, vs, rfl, ht, r⟩ := this
  refine tail_any (ops := [.ref s₂.heap.objs.size, .ref l]) (Heap.IsList.typeIs (s := { s₂ with heap := s₂.heap.push { cls := .type "slice", data := .fields #[.none, .int k tk, .none] } }) (ht.push _)) list_getitem_lookup (wpAny_getItem_list_slice (ht.push _) (Heap.IsSliceOf.new ..) .none (.int _ _) .none (by simp) ?_ (by rw [List.size_toArray, r.length]; exact hsz)) rfl
  have esl : slicePick vs.toArray Option.none (some (k : Int)) Option.none = (vs.take k).toArray := slicePick_upto' _ _
  rw [esl]
  have kk : ∀ b o, s₂.heap.get? b = some o → ((s₂.heap.push { cls := .type "slice", data := .fields #[.none, .int k tk, .none] }).push { cls := .type "list", dict := Option.none, data := .seq (vs.take k).toArray }).get? b = some o := fun b o e => push_keep _ _ b o (push_keep _ _ b o e)
  have ww : s₂.heap.objs.size ≤ ((s₂.heap.push { cls := .type "slice", data := .fields #[.none, .int k tk, .none] }).push { cls := .type "list", dict := Option.none, data := .seq (vs.take k).toArray }).objs.size := Nat.le_trans (push_size _ _) (push_size _ _)
  have hsz1 : s₂.heap.objs.size ≤ (s₂.heap.push { cls := .type "slice", data := .fields #[.none, .int k tk, .none] }).objs.size := push_size _ _
  refine ⟨.ref _, _, (t₁.trans t₂).trans (Step.add (s' := { s₂ with heap := (s₂.heap.push { cls := .type "slice", data := .fields #[.none, .int k tk, .none] }).push { cls := .type "list", dict := Option.none, data := .seq (vs.take k).toArray } }) kk ww rfl rfl hsz1), .ref _, ?_, φ _ (R₂.new hsz1)⟩
  exact R₂.add (s' := { s₂ with heap := (s₂.heap.push { cls := .type "slice", data := .fields #[.none, .int k tk, .none] }).push { cls := .type "list", dict := Option.none, data := .seq (vs.take k).toArray } }) kk ww rfl rfl hsz1 ⟨vs.take k, ⟨0, Heap.get?_push_size _ rfl⟩, (r.take k).stays (stays_upd kk hsz1)⟩
end

noncomputable def enterS (l : Lit) (why : Option (List Lit)) (who : Int) (σ : Sg) : Bool × Sg :=
  if struckL l (σ.doms.getD l.x []) = [] then (false, { σ with failed := true, clash := why.getD [] ++ [negL l] })
  else if struckL l (σ.doms.getD l.x []) = σ.doms.getD l.x [] then (true, σ)
  else (true, { σ with doms := σ.doms.set l.x (struckL l (σ.doms.getD l.x [])), trail := σ.trail ++ [⟨l.x, σ.doms.getD l.x [], l, why, who⟩], news := σ.news + 1 })
theorem struckL_length (l : Lit) (d : Dm) : (struckL l d).length ≤ d.length := by
  unfold struckL upTo fromOn; split <;> (rw [List.length_map]; exact List.length_filter_le ..)
theorem str_ne {x y : Str} (h : (x == y) = false := by decide +kernel) : x ≠ y := fun z => by subst z; simp at h

variable {C : Cx} {n : Nat} {H : AH} {P : Ad} {σ : Sg}
theorem C_enter (hC : IsC C) (hD : DeskAt H P σ) {l : Lit} {why : Option (List Lit)} {who : Int} (hx : l.x < σ.doms.length) (ht : σ.trail.length < 200) (hw : σ.news < 200) (hy : (why.getD []).length ≤ 900) :
    CL C (n + 5) (.ref 211) [.ref P.a, lit l, whyD why, .int who] H fun r H' => r = .bool (enterS l why who σ).1 ∧ DeskAt H' P (enterS l why who σ).2 ∧ Fr P H H' := by
  have hg : σ.doms[l.x]? = some (σ.doms.getD l.x []) := by
    rw [List.getD_eq_getElem?_getD, List.getElem?_eq_getElem hx]; rfl
  generalize hold : σ.doms.getD l.x [] = old at hg
  have hd : old.length ≤ 100 := hD.z2 old (List.mem_of_getElem? hg)
  have hs := struckL_length l old
  refine' CL.def (names := ["self", "literal", "reasons", "speaker"]) ⟨⟨⟨_, _, _, _, _, _, _, _, _, _, _, _, _⟩, ?h1, ?h2, ?h3⟩, ?h4, ?h5, ?h6, ?h7, ?h8, ?h9⟩ rfl ?main
  case h1 => rw [hC.K]; exact rfl
  case h2 => rw [hC.K]; kernel_rfl
  case h3 => exact allS fun _ => allS fun _ => allS fun _ => allS fun _ => all0 rfl
  case h4 => decide +kernel
  case h5 => decide +kernel
  case h6 => decide +kernel
  case h7 => decide +kernel
  case h8 => rfl
  case h9 => exact ⟨rfl, rfl⟩
  intro env hE
  refine XS.cons (X1.assign hE (EV.subscript (EV.name rfl (EV.int (O2.tupAt rfl (by decide) ?_)))))
  refine XS.cons (X1.assign hE (EV.subscript (EV.dAttr rfl hD (a_domains hC) rfl (EV.name rfl (O2.refAt hD.ld (at_map hg) (Int.natCast_nonneg _) ?_ (lt63 hg hD.z1))))))
  refine XS.cons (X1.assign hE (EV.call (EV.glob (congrArg Scope.names hE) rfl (g_struck hC) ⟨rfl, ES.cons (EV.name rfl (ES.cons (EV.name rfl (ES.nil (OC.eq (C_struck (n := n + 2) hC hd) ?_)))))⟩) (k_struck hC)))
  refine XS.cons (X1.ite (TS.compare (EV.name rfl (EV.tuple (ES.nil ⟨lz, (O2.eqD (r := decide (struckL l old = [])) gnd_dom (b := dom []) gnd_dom (by rw [decide_eq_true_iff, dom_inj]) (TV.bool ?_))⟩)))))
  unfold enterS
  rw [hold]
  by_cases q1 : struckL l old = []
  · rw [if_pos q1, decide_eq_true q1]
    have hcl := C_fail (n := n + 3) hC hD (rs := why.getD [] ++ [negL l]) (by rw [List.length_append, List.length_singleton]; omega)
    refine XS.cons (X1.ret (EV.dMeth rfl hD (m_fail hC) rfl (ES.cons (EV.binop (EV.ifExp (TS.compare (EV.name rfl (EV.none (O2.isNone (r := why.isNone) ?_ (TV.bool ?_))))))))))
    · cases why <;> rfl
    · cases why with
      | none =>
        refine EV.tuple (ES.nil ⟨lz, ?_⟩)
        refine EV.tuple (ES.cons (EV.call (EV.glob (congrArg Scope.names hE) rfl (g_negation hC) ⟨rfl, ES.cons (EV.name rfl (ES.nil (OC.eq (C_negation hC) (ES.nil ⟨lz, O2.addT ?_ lz⟩))))⟩) (k_negation hC)))
        exact ES.nil (OC.of hcl)
      | some rs =>
        refine EV.name rfl ?_
        refine EV.tuple (ES.cons (EV.call (EV.glob (congrArg Scope.names hE) rfl (g_negation hC) ⟨rfl, ES.cons (EV.name rfl (ES.nil (OC.eq (C_negation hC) (ES.nil ⟨lz, O2.addT ?_ ?_⟩))))⟩) (k_negation hC)))
        · refine ES.nil (OC.of ?_)
          have : rs.map lit ++ [lit (negL l)] = (rs ++ [negL l]).map lit := by simp
          rw [this]; exact hcl
        · rw [List.length_map, sizeLine_eq]; simp only [Option.getD_some] at hy; simp; omega
  · rw [if_neg q1, decide_eq_false q1]
    refine XS.nil (XS.cons (X1.ite (TS.compare (EV.name rfl (EV.name rfl (O2.eqD (r := decide (struckL l old = old)) gnd_dom gnd_dom (by rw [decide_eq_true_iff, dom_inj]) (TV.bool ?_)))))))
    by_cases q2 : struckL l old = old
    · rw [if_pos q2, decide_eq_true q2]
      exact XS.cons (X1.ret (EV.bool ⟨rfl, hD, Fr.refl⟩))
    · rw [if_neg q2, decide_eq_false q2]
      refine XS.nil (XS.cons (X1.expr (EV.method (EV.dAttr rfl hD (a_trail hC) rfl (MC.append hD.lt ?_)))))
      refine EV.tuple (ES.cons (EV.name rfl ?_))
      refine ES.cons (EV.name rfl ?_)
      refine ES.cons (EV.name rfl ?_)
      refine ES.cons (EV.name rfl ?_)
      refine ES.cons (EV.name rfl ?_)
      refine ES.nil ⟨lz, _, hD.lt, ?_, ?_⟩
      · rw [List.length_map, sizeLine_eq]; omega
      have hD1 : DeskAt (upd H P.lt (.list ((σ.trail ++ [Ent.mk l.x old l why who]).map ent))) P { σ with trail := σ.trail ++ [⟨l.x, old, l, why, who⟩] } := hD.setTrail (by rw [List.length_append, List.length_singleton]; omega)
      have e1 : σ.trail.map ent ++ [.tup [.int l.x, dom old, lit l, whyD why, .int who]] = (σ.trail ++ [Ent.mk l.x old l why who]).map ent := by simp [ent]
      rw [e1]
      refine XS.cons (X1.setItem (EV.name rfl (EV.dAttr rfl hD1 (a_domains hC) rfl (EV.name rfl (SI.list hD1.ld (Int.natCast_nonneg _) (by rw [Int.toNat_natCast, List.length_map]; exact hx) (lt63 hg hD.z1) ?_)))))
      have e2 : (({ σ with trail := σ.trail ++ [Ent.mk l.x old l why who] } : Sg).doms.map dom).set ((l.x : Int).toNat) (dom (struckL l old)) = (σ.doms.set l.x (struckL l old)).map dom := by
        rw [Int.toNat_natCast, List.map_set]
      rw [e2]
      have hD2 := hD1.setDoms (ds := σ.doms.set l.x (struckL l old)) (by simp) (fun d hd' => by
        rcases List.mem_or_eq_of_mem_set hd' with z | rfl
        · exact hD.z2 d z
        · omega)
      refine XS.cons (X1.setItem (EV.bool (EV.dAttr rfl hD2 (a_news hC) rfl (EV.name rfl (SI.idict hD2.ln ?_ ?_)))))
      · rw [sizeLine_eq]; dsimp only; omega
      have hD3 := hD2.setNews (k := σ.news + 1) (by omega)
      exact XS.cons (X1.ret (EV.bool ⟨rfl, hD3, ((Fr.refl.put (by simp)).put (by simp)).put (by simp)⟩))

theorem C_strike (hC : IsC C) (hD : DeskAt H P σ) {l : Lit} {rs : List Lit} (hx : l.x < σ.doms.length) (ht : σ.trail.length < 200) (hw : σ.news < 200) (hy : rs.length ≤ 900) :
    CL C (n + 6) (.ref 218) [.ref P.a, lit l, .tup (rs.map lit)] H fun r H' => r = .bool (enterS l (some rs) (-1) σ).1 ∧ DeskAt H' P (enterS l (some rs) (-1) σ).2 ∧ Fr P H H' := by
  refine' CL.def (names := ["self", "literal", "reasons"]) ⟨⟨⟨_, _, _, _, _, _, _, _, _, _, _, _, _⟩, ?h1, ?h2, ?h3⟩, ?h4, ?h5, ?h6, ?h7, ?h8, ?h9⟩ rfl ?main
  case h1 => rw [hC.K]; exact rfl
  case h2 => rw [hC.K]; kernel_rfl
  case h3 => exact allS fun _ => allS fun _ => allS fun _ => all0 rfl
  case h4 => decide +kernel
  case h5 => decide +kernel
  case h6 => decide +kernel
  case h7 => decide +kernel
  case h8 => rfl
  case h9 => exact ⟨rfl, rfl⟩
  intro env hE
  refine XS.cons (X1.ret (EV.dMeth rfl hD (m_enter hC) rfl (ES.cons (EV.name rfl ?_))))
  refine ES.cons (EV.call (EV.glob (congrArg Scope.names hE) rfl (g_tuple hC) ⟨rfl, ES.cons (EV.name rfl (ES.nil (OC.tupleT ?_)))⟩) (Keepy.type _))
  exact ES.cons (EV.dAttr rfl hD (a_speaker hC) rfl (ES.nil (OC.of (C_enter (why := some rs) hC hD hx ht hw hy))))
theorem C_decide (hC : IsC C) (hD : DeskAt H P σ) {l : Lit} (hx : l.x < σ.doms.length) (ht : σ.trail.length < 200) (hw : σ.news < 200) :
    CL C (n + 6) (.ref 225) [.ref P.a, lit l] H fun r H' => r = .bool (enterS l none (-1) σ).1 ∧ DeskAt H' P (enterS l none (-1) σ).2 ∧ Fr P H H' := by
  refine' CL.def (names := ["self", "literal"]) ⟨⟨⟨_, _, _, _, _, _, _, _, _, _, _, _, _⟩, ?h1, ?h2, ?h3⟩, ?h4, ?h5, ?h6, ?h7, ?h8, ?h9⟩ rfl ?main
  case h1 => rw [hC.K]; exact rfl
  case h2 => rw [hC.K]; kernel_rfl
  case h3 => exact allS fun _ => allS fun _ => all0 rfl
  case h4 => decide +kernel
  case h5 => decide +kernel
  case h6 => decide +kernel
  case h7 => decide +kernel
  case h8 => rfl
  case h9 => exact ⟨rfl, rfl⟩
  intro env hE
  refine XS.cons (X1.ret (EV.dMeth rfl hD (m_enter hC) rfl (ES.cons (EV.name rfl ?_))))
  refine ES.cons (EV.none ?_)
  exact ES.cons (EV.unary (EV.int (O1.neg (ES.nil (OC.of (C_enter (why := none) hC hD hx ht hw (by simp)))))))
theorem C_push (hC : IsC C) (hD : DeskAt H P σ) (hz : σ.marks.length < 100) : CL C (n + 1) (.ref 239) [.ref P.a] H fun r H' => r = .none ∧ DeskAt H' P { σ with marks := σ.marks ++ [σ.trail.length] } ∧ Fr P H H' := by
  refine' CL.def (names := ["self"]) ⟨⟨⟨_, _, _, _, _, _, _, _, _, _, _, _, _⟩, ?h1, ?h2, ?h3⟩, ?h4, ?h5, ?h6, ?h7, ?h8, ?h9⟩ rfl ?main
  case h1 => rw [hC.K]; exact rfl
  case h2 => rw [hC.K]; kernel_rfl
  case h3 => exact allS fun _ => all0 rfl
  case h4 => decide +kernel
  case h5 => decide +kernel
  case h6 => decide +kernel
  case h7 => decide +kernel
  case h8 => rfl
  case h9 => exact ⟨rfl, rfl⟩
  intro env hE
  refine XS.cons (X1.expr (EV.method (EV.dAttr rfl hD (a_marks hC) rfl (MC.append hD.lm ?_))))
  refine EV.call (EV.glob (congrArg Scope.names hE) rfl (g_len hC) ⟨rfl, ES.cons (EV.dAttr rfl hD (a_trail hC) rfl (ES.nil (OC.lenL (.inr ⟨_, rfl, hD.lt⟩) ?_ ?_)))⟩) (Keepy.builtin _)
  · refine ⟨_, hD.lm, ?_, XS.nil ⟨rfl, ?_, ?_⟩⟩
    · rw [List.length_map, sizeLine_eq]; omega
    · have := hD.setMarks (t := σ.marks ++ [σ.trail.length]) (by rw [List.length_append, List.length_singleton]; omega)
      simpa [mkI] using this
    · exact Fr.refl.put (by simp)
  · rw [List.length_map, sizeLine_eq]; have := hD.z4; omega
theorem C_depth (hC : IsC C) (hD : DeskAt H P σ) : CL C (n + 1) (.ref 253) [.ref P.a] H fun r H' => H' = H ∧ r = .int σ.marks.length := by
  refine' CL.def (names := ["self"]) ⟨⟨⟨_, _, _, _, _, _, _, _, _, _, _, _, _⟩, ?h1, ?h2, ?h3⟩, ?h4, ?h5, ?h6, ?h7, ?h8, ?h9⟩ rfl ?main
  case h1 => rw [hC.K]; exact rfl
  case h2 => rw [hC.K]; kernel_rfl
  case h3 => exact allS fun _ => all0 rfl
  case h4 => decide +kernel
  case h5 => decide +kernel
  case h6 => decide +kernel
  case h7 => decide +kernel
  case h8 => rfl
  case h9 => exact ⟨rfl, rfl⟩
  intro env hE
  refine XS.cons (X1.ret (EV.call (EV.glob (congrArg Scope.names hE) rfl (g_len hC) ⟨rfl, ES.cons (EV.dAttr rfl hD (a_marks hC) rfl (ES.nil (OC.lenL (.inr ⟨_, rfl, hD.lm⟩) ?_ ?_)))⟩) (Keepy.builtin _)))
  · exact ⟨rfl, by rw [List.length_map]⟩
  · rw [List.length_map, sizeLine_eq]; have := hD.z5; omega
theorem C_new_var (hC : IsC C) (hD : DeskAt H P σ) {d : Dm} (hz : σ.doms.length < 100) (hd : d.length ≤ 100) (hne : d ≠ []) :
    CL C (n + 5) (.ref 134) [.ref P.a, dom d] H fun r H' => r = .int σ.doms.length ∧ DeskAt H' P { σ with doms := σ.doms ++ [d], firsts := σ.firsts ++ [d] } ∧ Fr P H H' := by
  refine' CL.def (names := ["self", "domain"]) ⟨⟨⟨_, _, _, _, _, _, _, _, _, _, _, _, _⟩, ?h1, ?h2, ?h3⟩, ?h4, ?h5, ?h6, ?h7, ?h8, ?h9⟩ rfl ?main
  case h1 => rw [hC.K]; exact rfl
  case h2 => rw [hC.K]; kernel_rfl
  case h3 => exact allS fun _ => allS fun _ => all0 rfl
  case h4 => decide +kernel
  case h5 => decide +kernel
  case h6 => decide +kernel
  case h7 => decide +kernel
  case h8 => rfl
  case h9 => exact ⟨rfl, rfl⟩
  intro env hE
  refine XS.cons (X1.expr (EV.method (EV.dAttr rfl hD (a_domains hC) rfl (MC.append hD.ld (EV.name rfl ⟨_, hD.ld, ?_, ?_⟩)))))
  · rw [List.length_map, sizeLine_eq]; omega
  have e1 : σ.doms.map dom ++ [dom d] = (σ.doms ++ [d]).map dom := by simp
  rw [e1]
  have f1 : Fr P H (upd H P.ld (.list ((σ.doms ++ [d]).map dom))) := Fr.refl.put (by simp)
  have hns : (upd H P.ld (.list ((σ.doms ++ [d]).map dom))) P.dd = some (.ns (deskNs P σ)) := (upd_ne (ne_of hD.ns hD.ld (fun z => nomatch z))).trans hD.ns
  have ha : (upd H P.ld (.list ((σ.doms ++ [d]).map dom))) P.a = some (.inst P.dd) := (upd_ne (ne_of hD.a hD.ld (fun z => nomatch z))).trans hD.a
  have hf : (upd H P.ld (.list ((σ.doms ++ [d]).map dom))) P.lf = some (.list (σ.firsts.map dom)) := (upd_ne hD.n1.symm).trans hD.lf
  refine XS.cons (X1.expr (EV.method (EV.attr (EV.name rfl ⟨P.a, P.dd, deskNs P σ, _, rfl, ha, hns, rfl, rfl, a_firsts hC, ?_⟩))))
  refine MC.append hf (EV.name rfl ⟨_, hf, ?_, ?_⟩)
  · rw [List.length_map, sizeLine_eq, hD.z3]; omega
  have e2 : σ.firsts.map dom ++ [dom d] = (σ.firsts ++ [d]).map dom := by simp
  rw [e2]
  have hD2 : DeskAt (upd (upd H P.ld (.list ((σ.doms ++ [d]).map dom))) P.lf (.list ((σ.firsts ++ [d]).map dom))) P { σ with doms := σ.doms ++ [d], firsts := σ.firsts ++ [d] } :=
    ⟨(upd_ne (ne_of ha hf (fun z => nomatch z))).trans ha, (upd_ne (ne_of hns hf (fun z => nomatch z))).trans hns, (upd_ne hD.n1).trans (upd_same ..), upd_same ..,
      (upd_ne hD.n4.symm).trans ((upd_ne hD.n2.symm).trans hD.lt), (upd_ne hD.n5.symm).trans ((upd_ne hD.n3.symm).trans hD.lm),
      (upd_ne (ne_of hD.ln hD.lf (fun z => nomatch z))).trans ((upd_ne (ne_of hD.ln hD.ld (fun z => nomatch z))).trans hD.ln), hD.n1, hD.n2, hD.n3, hD.n4, hD.n5, hD.n6,
      by rw [List.length_append, List.length_singleton]; omega, fun e he => by
        rcases List.mem_append.mp he with z | z
        · exact hD.z2 e z
        · rw [List.mem_singleton.mp z]; exact hd, by rw [List.length_append, List.length_append, hD.z3], hD.z4, hD.z5, hD.z6⟩
  refine XS.cons (X1.ite (TS.compare (EV.name rfl (EV.tuple (ES.nil ⟨lz, (O2.eqD (r := false) gnd_dom (b := dom []) gnd_dom (by rw [dom_inj]; simpa using hne) (TV.bool ?_))⟩)))))
  refine XS.nil (XS.cons (X1.ret (EV.binop (EV.call (EV.glob (congrArg Scope.names hE) rfl (g_len hC) ⟨rfl, ES.cons (EV.dAttr rfl hD2 (a_domains hC) rfl (ES.nil (OC.lenL (.inr ⟨_, rfl, hD2.ld⟩) ?_ ?_)))⟩) (Keepy.builtin _)))))
  · refine EV.int (O2.sub ⟨?_, hD2, f1.put (by simp)⟩)
    rw [List.length_map, List.length_append, List.length_singleton]; congr 1; try omega
  · rw [List.length_map, sizeLine_eq]; have := hD2.z1; omega

end Mine

open PySem PySem.W PyProof.Rows
set_option Elab.async false
set_option linter.unusedVariables false
set_option maxRecDepth 100000
namespace Mine
section
variable {H H' : AH} {P : Ad} {σ σ' : Sg}
theorem DeskAt.reMarks (h : DeskAt H P σ) {l : Addr} {ms : List Nat} (hl : H l = none) (hz : ms.length ≤ 100) : DeskAt (upd (upd H l (.list (ms.map mkI))) P.dd (.ns (deskNs { P with lm := l } { σ with marks := ms }))) { P with lm := l } { σ with marks := ms } := by
  have ne : ∀ {b : Addr} {o : AO}, H b = some o → b ≠ l := fun hb z => by subst z; rw [hl] at hb; cases hb
  have up : ∀ {b : Addr} {o : AO}, H b = some o → b ≠ P.dd → upd (upd H l (.list (ms.map mkI))) P.dd (.ns (deskNs { P with lm := l } { σ with marks := ms })) b = some o := fun hb hn => (upd_ne hn).trans ((upd_ne (ne hb)).trans hb)
  exact ⟨up h.a (ne_of h.a h.ns (fun z => nomatch z)), upd_same .., up h.ld (ne_of h.ld h.ns (fun z => nomatch z)), up h.lf (ne_of h.lf h.ns (fun z => nomatch z)), up h.lt (ne_of h.lt h.ns (fun z => nomatch z)),
    (upd_ne (ne h.ns).symm).trans (upd_same ..), up h.ln (ne_of h.ln h.ns (fun z => nomatch z)), h.n1, h.n2, ne h.ld, h.n4, ne h.lf, ne h.lt, h.z1, h.z2, h.z3, h.z4, hz, h.z6⟩
theorem DeskAt.reNews (h : DeskAt H P σ) {l : Addr} (hl : H l = none) : DeskAt (upd (upd H l (.idict 0)) P.dd (.ns (deskNs { P with ln := l } { σ with news := 0 }))) { P with ln := l } { σ with news := 0 } := by
  have ne : ∀ {b : Addr} {o : AO}, H b = some o → b ≠ l := fun hb z => by subst z; rw [hl] at hb; cases hb
  have up : ∀ {b : Addr} {o : AO}, H b = some o → b ≠ P.dd → upd (upd H l (.idict 0)) P.dd (.ns (deskNs { P with ln := l } { σ with news := 0 })) b = some o := fun hb hn => (upd_ne hn).trans ((upd_ne (ne hb)).trans hb)
  exact ⟨up h.a (ne_of h.a h.ns (fun z => nomatch z)), upd_same .., up h.ld (ne_of h.ld h.ns (fun z => nomatch z)), up h.lf (ne_of h.lf h.ns (fun z => nomatch z)), up h.lt (ne_of h.lt h.ns (fun z => nomatch z)),
    up h.lm (ne_of h.lm h.ns (fun z => nomatch z)), (upd_ne (ne h.ns).symm).trans (upd_same ..), h.n1, h.n2, h.n3, h.n4, h.n5, h.n6, h.z1, h.z2, h.z3, h.z4, h.z5, Nat.zero_le _⟩
end

/-- the domains as they were before what the trail's end tells -/
noncomputable def undo : List Ent → List Dm → List Dm
  | [], ds => ds
  | e :: es, ds => (undo es ds).set e.x e.old
theorem undo_length : ∀ (es : List Ent) (ds : List Dm), (undo es ds).length = ds.length
  | [], _ => rfl
  | e :: es, ds => by rw [undo, List.length_set, undo_length]
theorem undo_snoc : ∀ (es : List Ent) (e : Ent) (ds : List Dm), undo (es ++ [e]) ds = undo es (ds.set e.x e.old)
  | [], _, _ => rfl
  | f :: es, e, ds => by rw [List.cons_append, undo, undo_snoc, undo]
theorem undo_small {es : List Ent} : ∀ {ds : List Dm}, (∀ e ∈ es, e.old.length ≤ 100) → (∀ d ∈ ds, d.length ≤ 100) → ∀ d ∈ undo es ds, d.length ≤ 100 := by
  induction es with
  | nil => intro ds _ h; exact h
  | cons e es ih =>
    intro ds h1 h2 d hd
    rcases List.mem_or_eq_of_mem_set hd with z | rfl
    · exact ih (fun f hf => h1 f (List.mem_cons_of_mem _ hf)) h2 d z
    · exact h1 e (List.mem_cons_self ..)

variable {C : Cx} {n : Nat} {H : AH} {P : Ad} {σ : Sg}
theorem C_pop (hC : IsC C) (hD : DeskAt H P σ) {ms : List Nat} {t₁ t₂ : List Ent} (hm : σ.marks = ms ++ [t₁.length]) (ht : σ.trail = t₁ ++ t₂) (hx : ∀ e ∈ t₂, e.x < σ.doms.length) (ho : ∀ e ∈ t₂, e.old.length ≤ 100) (hf : [] ∉ σ.firsts) :
    CL C (n + 5) (.ref 246) [.ref P.a, .int 1] H fun r H' => r = .none ∧ Fr P H H' ∧ ∃ lm ln, H lm = none ∧ H ln = none ∧ DeskAt H' { P with lm := lm, ln := ln } { σ with doms := undo t₂ σ.doms, trail := t₁, marks := ms, news := 0, failed := false, clash := [] } := by
  have hml : σ.marks.length = ms.length + 1 := by rw [hm, List.length_append, List.length_singleton]
  have hz5 := hD.z5
  have hz4 := hD.z4
  refine' CL.def (names := ["self", "n"]) ⟨⟨⟨_, _, _, _, _, _, _, _, _, _, _, _, _⟩, ?h1, ?h2, ?h3⟩, ?h4, ?h5, ?h6, ?h7, ?h8, ?h9⟩ rfl ?main
  case h1 => rw [hC.K]; exact rfl
  case h2 => rw [hC.K]; kernel_rfl
  case h3 => exact allS fun _ => allS fun _ => all0 rfl
  case h4 => decide +kernel
  case h5 => decide +kernel
  case h6 => decide +kernel
  case h7 => decide +kernel
  case h8 => rfl
  case h9 => exact ⟨rfl, rfl⟩
  intro env hE
  refine XS.cons (X1.ite (TS.compare (EV.name rfl (EV.int (O2.lt (TV.bool ?_))))))
  refine XS.nil ?_
  refine XS.cons (X1.assign hE (EV.subscript (EV.dAttr rfl hD (a_marks hC) rfl ?_)))
  refine EV.binop (EV.call (EV.glob (congrArg Scope.names hE) rfl (g_len hC) ⟨rfl, ES.cons (EV.dAttr rfl hD (a_marks hC) rfl (ES.nil (OC.lenL (.inr ⟨_, rfl, hD.lm⟩) ?_ ?_)))⟩) (Keepy.builtin _))
  rotate_left
  · rw [List.length_map, sizeLine_eq]; omega
  have ek : (((σ.marks.map mkI).length : Nat) : Int) - 1 = ms.length := by rw [List.length_map, hml]; omega
  refine EV.name rfl (O2.sub ?_)
  rw [ek]
  refine O2.refAt hD.lm (d := .int t₁.length) (by rw [Int.toNat_natCast, hm, List.map_append, List.getElem?_append_right (by simp)]; simp [mkI]) (Int.natCast_nonneg _) ?_ (by omega)
  refine XS.cons (X1.setAttr (EV.sliceToT (EV.dAttr rfl hD (a_marks hC) rfl ?_)))
  refine EV.binop (EV.call (EV.glob (congrArg Scope.names hE) rfl (g_len hC) ⟨rfl, ES.cons (EV.dAttr rfl hD (a_marks hC) rfl (ES.nil (OC.lenL (.inr ⟨_, rfl, hD.lm⟩) ?_ ?_)))⟩) (Keepy.builtin _))
  rotate_left
  · rw [List.length_map, sizeLine_eq]; omega
  refine EV.name rfl (O2.sub ?_)
  rw [ek]
  refine ⟨_, .inr ⟨_, rfl, hD.lm⟩, by rw [List.length_map, sizeLine_eq]; omega, _, rfl, fun l hl => ?_⟩
  have et : (σ.marks.map mkI).take ms.length = ms.map mkI := by rw [hm, List.map_append, List.take_left' (by simp)]
  rw [et]
  have hld : l ≠ P.dd := fun z => by subst z; rw [hD.ns] at hl; cases hl
  have hla : l ≠ P.a := fun z => by subst z; rw [hD.a] at hl; cases hl
  refine EV.name rfl ⟨P.a, P.dd, deskNs P σ, rfl, (upd_ne hla.symm).trans hD.a, (upd_ne hld.symm).trans hD.ns, (by simp [deskNs]), a_marks hC, ?_⟩
  have hD1 := hD.reMarks (ms := ms) hl (by omega)
  generalize hP1 : ({ P with lm := l } : Ad) = P1 at hD1
  have hf1 : Fr P H (upd (upd H l (.list (ms.map mkI))) P.dd (.ns (deskNs P1 { σ with marks := ms }))) := Fr.put (fun b hb hn => upd_ne fun z => hn (z ▸ hl)) (by simp)
  have hns : setL "marks" (.ref l) (deskNs P σ) = deskNs P1 { σ with marks := ms } := by rw [← hP1]; rfl
  rw [hns]
  have hL1 : upd (upd H l (.list (ms.map mkI))) P.dd (.ns (deskNs P1 { σ with marks := ms })) P.lm = some (.list (σ.marks.map mkI)) := (upd_ne (ne_of hD.lm hD.ns (fun z => nomatch z))).trans ((upd_ne (fun z => by rw [← z, hD.lm] at hl; cases hl)).trans hD.lm)
  generalize upd (upd H l (.list (ms.map mkI))) P.dd (.ns (deskNs P1 { σ with marks := ms })) = H1 at hD1 hf1 hL1 ⊢
  have ePa : P1.a = P.a := by rw [← hP1]
  have ePd : P1.dd = P.dd := by rw [← hP1]
  have ePt : P1.lt = P.lt := by rw [← hP1]
  have ePl : P1.ld = P.ld := by rw [← hP1]
  have ePm : P1.lm = l := by rw [← hP1]
  refine XS.cons (X1.while (fun j m H' => m.lookup ("self" : Str) = some (D.ref P1.a) ∧ m.lookup ("mark" : Str) = some (D.int t₁.length) ∧ Fr P H H' ∧ H' P.lm = some (.list (σ.marks.map mkI)) ∧ ∃ u₁ u₂, t₂ = u₁ ++ u₂ ∧ u₁.length = j ∧ DeskAt H' P1 { σ with marks := ms, trail := t₁ ++ u₁, doms := undo u₂ σ.doms }) t₂.length ⟨by rw [ePa]; rfl, rfl, hf1, hL1, t₂, [], by simp, rfl, by rw [← ht]; exact hD1⟩ ?_)
  rintro j m H2 ⟨hs, hmk, hf2, hL2, u₁, u₂, hu, rfl, hD2⟩
  have hz42 := hD2.z4
  refine TS.compare (EV.call (EV.glob (congrArg Scope.names hE) rfl (g_len hC) ⟨rfl, ES.cons (EV.dAttr hs hD2 (a_trail hC) rfl (ES.nil (OC.lenL (.inr ⟨_, rfl, hD2.lt⟩) ?_ ?_)))⟩) (Keepy.builtin _))
  rotate_left
  · rw [List.length_map, sizeLine_eq]; omega
  refine EV.name hmk (O2.gt (TV.bool ?_))
  rcases List.eq_nil_or_concat u₁ with rfl | ⟨u, e, rfl⟩
  · rw [List.append_nil] at hD2
    have : decide ((t₁.length : Int) < (((t₁ ++ []).map ent).length : Nat)) = false := by simp
    rw [this]
    simp only [Bool.false_eq_true, if_false]
    have hu' : t₂ = u₂ := by simpa using hu
    subst hu'
    refine XS.cons (X1.setAttr (EV.dict0 fun l2 hl2 => ?_))
    have h2d : l2 ≠ P1.dd := fun z => by subst z; rw [hD2.ns] at hl2; cases hl2
    have h2a : l2 ≠ P1.a := fun z => by subst z; rw [hD2.a] at hl2; cases hl2
    refine EV.name hs ⟨P1.a, P1.dd, deskNs P1 _, rfl, (upd_ne h2a.symm).trans hD2.a, (upd_ne h2d.symm).trans hD2.ns, (by simp [deskNs]), a_news hC, ?_⟩
    have hD3 := hD2.reNews hl2
    have hl2H : H l2 = none := Classical.byContradiction fun z => by
      by_cases q : l2 ∈ [P.a, P.dd, P.ld, P.lf, P.lt, P.lm, P.ln]
      · simp only [List.mem_cons, List.not_mem_nil, or_false] at q
        have hPf : P1.lf = P.lf := by rw [← hP1]
        have hPn : P1.ln = P.ln := by rw [← hP1]
        rcases q with q | q | q | q | q | q | q
        · exact h2a (q.trans ePa.symm)
        · exact h2d (q.trans ePd.symm)
        · rw [q, ← ePl, hD2.ld] at hl2; cases hl2
        · rw [q, ← hPf, hD2.lf] at hl2; cases hl2
        · rw [q, ← ePt, hD2.lt] at hl2; cases hl2
        · rw [q, hL2] at hl2; cases hl2
        · rw [q, ← hPn, hD2.ln] at hl2; cases hl2
      · rw [hf2 l2 q z] at hl2; exact z hl2
    have hns2 : ∀ ds : List Dm, setL "news" (.ref l2) (deskNs P1 { σ with marks := ms, trail := t₁, doms := ds }) = deskNs { P1 with ln := l2 } { σ with marks := ms, trail := t₁, doms := ds, news := 0 } := fun _ => rfl
    rw [hns2]
    have hf3 := Fr.put (P := P) (a := P1.dd) (o := .ns (deskNs { P1 with ln := l2 } { σ with marks := ms, trail := t₁, doms := undo t₂ σ.doms, news := 0 })) (Fr.trans hf2 (H' := upd H2 l2 (.idict 0)) fun b hb hn => upd_ne fun z => hn (z ▸ hl2)) (by rw [ePd]; simp)
    dsimp only at hD3
    generalize hP3 : ({ P1 with ln := l2 } : Ad) = P3 at hD3 hf3 ⊢
    have e3a : P3.a = P.a := by rw [← hP3]; exact ePa
    have e3d : P3.dd = P.dd := by rw [← hP3]; exact ePd
    have e3f : P3.lf = P.lf := by rw [← hP3, ← hP1]
    have e3 : P3 = { P with lm := l, ln := l2 } := by rw [← hP3, ← hP1]
    have hs3 : m.lookup ("self" : Str) = some (D.ref P3.a) := by rw [e3a, ← ePa]; exact hs
    generalize upd (upd H2 l2 (.idict 0)) P1.dd (.ns (deskNs P3 { σ with marks := ms, trail := t₁, doms := undo t₂ σ.doms, news := 0 })) = H3 at hD3 hf3 ⊢
    refine XS.cons (X1.setAttr (EV.compare (EV.tuple (ES.nil ⟨lz, EV.dAttr hs3 hD3 (a_firsts hC) rfl (O2.inR (r := false) (a := .tup []) rfl hD3.lf gnd_doms ?_ ?_)⟩))))
    · refine ⟨fun z => (Bool.noConfusion z), fun z => ?_⟩
      obtain ⟨d, hd, hd'⟩ := List.mem_map.mp z
      have : d = [] := dom_inj.mp (hd'.trans (show D.tup [] = dom [] from rfl))
      exact absurd (this ▸ hd) hf
    refine EV.name hs3 ⟨P3.a, P3.dd, deskNs P3 _, rfl, hD3.a, hD3.ns, (by simp [deskNs]), a_is_failed hC, ?_⟩
    have hD4 := hD3.setNs (σ' := { σ with marks := ms, trail := t₁, doms := undo t₂ σ.doms, news := 0, failed := false }) rfl rfl rfl rfl rfl
    have hf4 := Fr.put (P := P) (a := P3.dd) (o := .ns (deskNs P3 { σ with marks := ms, trail := t₁, doms := undo t₂ σ.doms, news := 0, failed := false })) hf3 (by rw [e3d]; simp)
    have hns4 : setL "is_failed" (.bool false) (deskNs P3 { σ with marks := ms, trail := t₁, doms := undo t₂ σ.doms, news := 0 }) = deskNs P3 { σ with marks := ms, trail := t₁, doms := undo t₂ σ.doms, news := 0, failed := false } := rfl
    rw [hns4]
    generalize upd H3 P3.dd (.ns (deskNs P3 { σ with marks := ms, trail := t₁, doms := undo t₂ σ.doms, news := 0, failed := false })) = H4 at hD4 hf4 ⊢
    refine XS.cons (X1.setAttr (EV.tuple (ES.nil ⟨lz, ?_⟩)))
    refine EV.name hs3 ⟨P3.a, P3.dd, deskNs P3 _, rfl, hD4.a, hD4.ns, (by simp [deskNs]), a_clash hC, ?_⟩
    have hD5 := hD4.setNs (σ' := { σ with marks := ms, trail := t₁, doms := undo t₂ σ.doms, news := 0, failed := false, clash := [] }) rfl rfl rfl rfl rfl
    have hf5 := Fr.put (P := P) (a := P3.dd) (o := .ns (deskNs P3 { σ with marks := ms, trail := t₁, doms := undo t₂ σ.doms, news := 0, failed := false, clash := [] })) hf4 (by rw [e3d]; simp)
    refine XS.nil ⟨trivial, hf5, l, l2, hl, hl2H, ?_⟩
    rw [← e3]
    exact hD5
  · have hlen : decide ((t₁.length : Int) < (((t₁ ++ u.concat e).map ent).length : Nat)) = true := by
      rw [decide_eq_true_iff, List.length_map, List.length_append, List.concat_eq_append, List.length_append, List.length_singleton]; omega
    rw [List.concat_eq_append] at hlen hu hD2 ⊢
    rw [hlen]
    simp only [if_true]
    have hl1 : H2 P1.lt = some (.list ((t₁ ++ u).map ent ++ [ent e])) := by rw [hD2.lt]; simp
    have he : e ∈ t₂ := by rw [hu]; simp
    have hz4' : t₁.length + (u.length + 1) ≤ 200 := by have := hD2.z4; simpa using this
    refine XS.cons (X1.assign hE (EV.method (EV.dAttr hs hD2 (a_trail hC) rfl (MC.pop hl1 ?_ ?_))))
    · rw [List.length_map, List.length_append, sizeLine_eq]; omega
    have hD3 := hD2.setTrail (t := t₁ ++ u) (by rw [List.length_append]; omega)
    have hs' : List.lookup ("self" : Str) ((("entry" : Str), ent e) :: m) = some (D.ref P1.a) := lk_tl rfl hs
    have hmk' : List.lookup ("mark" : Str) ((("entry" : Str), ent e) :: m) = some (D.int t₁.length) := lk_tl rfl hmk
    refine XS.cons (X1.setItem (EV.subscript (EV.name lk_hd (EV.int (O2.tupAt rfl (by decide) (EV.dAttr hs' hD3 (a_domains hC) rfl (EV.subscript (EV.name lk_hd (EV.int (O2.tupAt rfl (by decide) (SI.list hD3.ld (Int.natCast_nonneg _) ?_ ?_ ?_)))))))))))
    · rw [Int.toNat_natCast, List.length_map, undo_length]; exact hx e he
    · have := hx e he; have := hD.z1; omega
    have hD4 := hD3.setDoms (ds := undo (e :: u₂) σ.doms) (by rw [undo, List.length_set]) (by
      refine undo_small (fun f hf => ho f ?_) hD.z2
      rw [hu]
      rcases List.mem_cons.mp hf with rfl | hf <;> simp_all)
    refine XS.nil ⟨u.length, by simp, hs', hmk', ?_, ?_, u, e :: u₂, by rw [hu]; simp, rfl, ?_⟩
    · exact (hf2.put (by rw [ePt]; simp)).put (by rw [ePl]; simp)
    · exact (upd_ne (by rw [ePl]; exact hD.n3.symm)).trans ((upd_ne (by rw [ePt]; exact hD.n6.symm)).trans hL2)
    · have e4 : ((undo u₂ σ.doms).map dom).set ((e.x : Int).toNat) (dom e.old) = (undo (e :: u₂) σ.doms).map dom := by rw [Int.toNat_natCast, undo, List.map_set]
      dsimp only at hD4 ⊢
      rw [e4]
      exact hD4

theorem C_init (hC : IsC C) {x dd : Addr} (hx : H x = none) (hdd : H dd = none) (hxd : x ≠ dd) : CL C (n + 1) (.ref 127) [.ref x] (upd (upd H dd (.ns [])) x (.inst dd)) fun r H' => r = .none ∧ Ext H H' ∧ ∃ P : Ad, P.a = x ∧ (∀ b ∈ [P.a, P.dd, P.ld, P.lf, P.lt, P.lm, P.ln], H b = none) ∧ DeskAt H' P ⟨[], [], [], [], 0, false, []⟩ := by
  have key : ∀ {H' : AH} {S : List (Addr × AO)} {l : Addr} {o : AO} {ns ns' : Loc}, (H' x = some (.inst dd) ∧ H' dd = some (.ns ns) ∧ (∀ p ∈ S, H' p.1 = some p.2 ∧ p.1 ≠ dd ∧ p.1 ≠ x ∧ H p.1 = none) ∧ (S.map (·.1)).Nodup ∧ Ext H H') → H' l = none →
      (upd (upd H' l o) dd (.ns ns')) x = some (.inst dd) ∧ (upd (upd H' l o) dd (.ns ns')) dd = some (.ns ns') ∧ (∀ p ∈ (l, o) :: S, (upd (upd H' l o) dd (.ns ns')) p.1 = some p.2 ∧ p.1 ≠ dd ∧ p.1 ≠ x ∧ H p.1 = none) ∧ (((l, o) :: S).map (·.1)).Nodup ∧ Ext H (upd (upd H' l o) dd (.ns ns')) := by
    rintro H' S l o ns ns' ⟨h1, h2, h3, h4, h5⟩ hl
    have hlx : l ≠ x := fun z => by rw [z, h1] at hl; cases hl
    have hld : l ≠ dd := fun z => by rw [z, h2] at hl; cases hl
    have hlS : ∀ p ∈ S, p.1 ≠ l := fun p hp z => by have := (h3 p hp).1; rw [z, hl] at this; cases this
    refine ⟨(upd_ne hxd).trans ((upd_ne hlx.symm).trans h1), upd_same .., fun p hp => ?_, ?_, fun b hb => ?_⟩
    · rcases List.mem_cons.mp hp with rfl | hp
      · exact ⟨(upd_ne hld).trans (upd_same ..), hld, hlx, Classical.byContradiction fun z => by rw [h5 l z] at hl; exact z hl⟩
      · obtain ⟨a, b, c, d⟩ := h3 p hp
        exact ⟨(upd_ne b).trans ((upd_ne (hlS p hp)).trans a), b, c, d⟩
    · rw [List.map_cons, List.nodup_cons]
      refine ⟨fun z => ?_, h4⟩
      obtain ⟨p, hp, e⟩ := List.mem_map.mp z
      exact hlS p hp e
    · have hbd : b ≠ dd := fun z => hb (by rw [z]; exact hdd)
      have hbl : b ≠ l := fun z => by
        subst z
        rw [h5 b hb] at hl; exact hb hl
      exact (upd_ne hbd).trans ((upd_ne hbl).trans (h5 b hb))
  have key2 : ∀ {H' : AH} {S : List (Addr × AO)} {ns ns' : Loc}, (H' x = some (.inst dd) ∧ H' dd = some (.ns ns) ∧ (∀ p ∈ S, H' p.1 = some p.2 ∧ p.1 ≠ dd ∧ p.1 ≠ x ∧ H p.1 = none) ∧ (S.map (·.1)).Nodup ∧ Ext H H') →
      (upd H' dd (.ns ns')) x = some (.inst dd) ∧ (upd H' dd (.ns ns')) dd = some (.ns ns') ∧ (∀ p ∈ S, (upd H' dd (.ns ns')) p.1 = some p.2 ∧ p.1 ≠ dd ∧ p.1 ≠ x ∧ H p.1 = none) ∧ (S.map (·.1)).Nodup ∧ Ext H (upd H' dd (.ns ns')) := by
    rintro H' S ns ns' ⟨h1, h2, h3, h4, h5⟩
    refine ⟨(upd_ne hxd).trans h1, upd_same .., fun p hp => ?_, h4, fun b hb => ?_⟩
    · obtain ⟨a, b, c, d⟩ := h3 p hp
      exact ⟨(upd_ne b).trans a, b, c, d⟩
    · exact (upd_ne (fun z => hb (by rw [z]; exact hdd))).trans (h5 b hb)
  have f0 : (upd (upd H dd (.ns [])) x (.inst dd)) x = some (.inst dd) ∧ (upd (upd H dd (.ns [])) x (.inst dd)) dd = some (.ns []) ∧ (∀ p ∈ ([] : List (Addr × AO)), (upd (upd H dd (.ns [])) x (.inst dd)) p.1 = some p.2 ∧ p.1 ≠ dd ∧ p.1 ≠ x ∧ H p.1 = none) ∧ (([] : List (Addr × AO)).map (·.1)).Nodup ∧ Ext H (upd (upd H dd (.ns [])) x (.inst dd)) :=
    ⟨upd_same .., (upd_ne hxd.symm).trans (upd_same ..), by simp, by simp, fun b hb => (upd_ne (fun z => hb (by rw [z]; exact hx))).trans (upd_ne (fun z => hb (by rw [z]; exact hdd)))⟩
  have fresh : ∀ {H' : AH} {ns : Loc} {l : Addr} {o : AO}, H' x = some (.inst dd) → H' dd = some (.ns ns) → H' l = none → (upd H' l o) x = some (.inst dd) ∧ (upd H' l o) dd = some (.ns ns) := fun h1 h2 hl =>
    ⟨(upd_ne (fun z => by rw [← z, h1] at hl; cases hl)).trans h1, (upd_ne (fun z => by rw [← z, h2] at hl; cases hl)).trans h2⟩
  refine' CL.def (names := ["self"]) ⟨⟨⟨_, _, _, _, _, _, _, _, _, _, _, _, _⟩, ?h1, ?h2, ?h3⟩, ?h4, ?h5, ?h6, ?h7, ?h8, ?h9⟩ rfl ?main
  case h1 => rw [hC.K]; exact rfl
  case h2 => rw [hC.K]; kernel_rfl
  case h3 => exact allS fun _ => all0 rfl
  case h4 => decide +kernel
  case h5 => decide +kernel
  case h6 => decide +kernel
  case h7 => decide +kernel
  case h8 => rfl
  case h9 => exact ⟨rfl, rfl⟩
  intro env hE
  refine XS.cons (X1.setAttr (EV.listT (ES.nil ⟨lz, fun l1 hl1 => EV.name rfl ⟨x, dd, _, rfl, (fresh f0.1 f0.2.1 hl1).1, (fresh f0.1 f0.2.1 hl1).2, (Nat.le_of_ble_eq_true rfl), a_domains hC, ?_⟩⟩)))
  have f1 := key (o := .list []) (ns' := setL "domains" (.ref l1) []) f0 hl1
  generalize upd (upd (upd (upd H dd (.ns [])) x (.inst dd)) l1 (.list [])) dd (.ns (setL "domains" (.ref l1) [])) = H1 at f1 ⊢
  refine XS.cons (X1.setAttr (EV.listT (ES.nil ⟨lz, fun l2 hl2 => EV.name rfl ⟨x, dd, _, rfl, (fresh f1.1 f1.2.1 hl2).1, (fresh f1.1 f1.2.1 hl2).2, (Nat.le_of_ble_eq_true rfl), a_firsts hC, ?_⟩⟩)))
  have f2 := key (o := .list []) (ns' := setL "firsts" (.ref l2) (setL "domains" (.ref l1) [])) f1 hl2
  generalize upd (upd H1 l2 (.list [])) dd (.ns (setL "firsts" (.ref l2) (setL "domains" (.ref l1) []))) = H2 at f2 ⊢
  refine XS.cons (X1.setAttr (EV.listT (ES.nil ⟨lz, fun l3 hl3 => EV.name rfl ⟨x, dd, _, rfl, (fresh f2.1 f2.2.1 hl3).1, (fresh f2.1 f2.2.1 hl3).2, (Nat.le_of_ble_eq_true rfl), a_trail hC, ?_⟩⟩)))
  have f3 := key (o := .list []) (ns' := setL "trail" (.ref l3) (setL "firsts" (.ref l2) (setL "domains" (.ref l1) []))) f2 hl3
  generalize upd (upd H2 l3 (.list [])) dd (.ns (setL "trail" (.ref l3) (setL "firsts" (.ref l2) (setL "domains" (.ref l1) [])))) = H3 at f3 ⊢
  refine XS.cons (X1.setAttr (EV.listT (ES.nil ⟨lz, fun l4 hl4 => EV.name rfl ⟨x, dd, _, rfl, (fresh f3.1 f3.2.1 hl4).1, (fresh f3.1 f3.2.1 hl4).2, (Nat.le_of_ble_eq_true rfl), a_marks hC, ?_⟩⟩)))
  have f4 := key (o := .list []) (ns' := setL "marks" (.ref l4) (setL "trail" (.ref l3) (setL "firsts" (.ref l2) (setL "domains" (.ref l1) [])))) f3 hl4
  generalize upd (upd H3 l4 (.list [])) dd (.ns (setL "marks" (.ref l4) (setL "trail" (.ref l3) (setL "firsts" (.ref l2) (setL "domains" (.ref l1) []))))) = H4 at f4 ⊢
  refine XS.cons (X1.setAttr (EV.dict0 fun l5 hl5 => EV.name rfl ⟨x, dd, _, rfl, (fresh f4.1 f4.2.1 hl5).1, (fresh f4.1 f4.2.1 hl5).2, (Nat.le_of_ble_eq_true rfl), a_news hC, ?_⟩))
  have f5 := key (o := .idict 0) (ns' := setL "news" (.ref l5) (setL "marks" (.ref l4) (setL "trail" (.ref l3) (setL "firsts" (.ref l2) (setL "domains" (.ref l1) []))))) f4 hl5
  generalize upd (upd H4 l5 (.idict 0)) dd (.ns (setL "news" (.ref l5) (setL "marks" (.ref l4) (setL "trail" (.ref l3) (setL "firsts" (.ref l2) (setL "domains" (.ref l1) [])))))) = H5 at f5 ⊢
  refine XS.cons (X1.setAttr (EV.unary (EV.int (O1.neg (EV.name rfl ⟨x, dd, _, rfl, f5.1, f5.2.1, (Nat.le_of_ble_eq_true rfl), a_speaker hC, ?_⟩)))))
  have f6 := key2 (ns' := setL "speaker" (.int (-1)) (setL "news" (.ref l5) (setL "marks" (.ref l4) (setL "trail" (.ref l3) (setL "firsts" (.ref l2) (setL "domains" (.ref l1) [])))))) f5
  generalize upd H5 dd (.ns (setL "speaker" (.int (-1)) (setL "news" (.ref l5) (setL "marks" (.ref l4) (setL "trail" (.ref l3) (setL "firsts" (.ref l2) (setL "domains" (.ref l1) []))))))) = H6 at f6 ⊢
  refine XS.cons (X1.setAttr (EV.bool (EV.name rfl ⟨x, dd, _, rfl, f6.1, f6.2.1, (Nat.le_of_ble_eq_true rfl), a_is_failed hC, ?_⟩)))
  have f7 := key2 (ns' := setL "is_failed" (.bool false) (setL "speaker" (.int (-1)) (setL "news" (.ref l5) (setL "marks" (.ref l4) (setL "trail" (.ref l3) (setL "firsts" (.ref l2) (setL "domains" (.ref l1) []))))))) f6
  generalize upd H6 dd (.ns (setL "is_failed" (.bool false) (setL "speaker" (.int (-1)) (setL "news" (.ref l5) (setL "marks" (.ref l4) (setL "trail" (.ref l3) (setL "firsts" (.ref l2) (setL "domains" (.ref l1) [])))))))) = H7 at f7 ⊢
  refine XS.cons (X1.setAttr (EV.tuple (ES.nil ⟨lz, EV.name rfl ⟨x, dd, _, rfl, f7.1, f7.2.1, (Nat.le_of_ble_eq_true rfl), a_clash hC, ?_⟩⟩)))
  have f8 := key2 (ns' := deskNs ⟨x, dd, l1, l2, l3, l4, l5⟩ ⟨[], [], [], [], 0, false, []⟩) f7
  obtain ⟨g1, g2, g3, g4, g5⟩ := f8
  refine XS.nil ⟨rfl, g5, ⟨x, dd, l1, l2, l3, l4, l5⟩, rfl, ?_, ?_⟩
  · intro b hb
    simp only [List.mem_cons, List.not_mem_nil, or_false] at hb
    rcases hb with rfl | rfl | rfl | rfl | rfl | rfl | rfl
    · exact hx
    · exact hdd
    · exact (g3 (b, .list []) (by simp)).2.2.2
    · exact (g3 (b, .list []) (by simp)).2.2.2
    · exact (g3 (b, .list []) (by simp)).2.2.2
    · exact (g3 (b, .list []) (by simp)).2.2.2
    · exact (g3 (b, .idict 0) (by simp)).2.2.2
  · simp only [List.map_cons, List.map_nil, List.nodup_cons, List.mem_cons, List.not_mem_nil, or_false, not_or] at g4
    exact ⟨g1, g2, (g3 (l1, .list []) (by simp)).1, (g3 (l2, .list []) (by simp)).1, (g3 (l3, .list []) (by simp)).1, (g3 (l4, .list []) (by simp)).1, (g3 (l5, .idict 0) (by simp)).1,
      Ne.symm g4.2.2.2.1, Ne.symm g4.2.2.1.2, Ne.symm g4.2.1.2.2, Ne.symm g4.2.2.1.1, Ne.symm g4.2.1.2.1, Ne.symm g4.2.1.1, Nat.zero_le _, by simp, rfl, Nat.zero_le _, Nat.zero_le _, Nat.zero_le _⟩

end Mine

open PySem PySem.W PyProof.Rows
set_option Elab.async false
set_option linter.unusedVariables false
set_option maxRecDepth 100000
namespace Mine
section
variable {C : Cx} {n : Nat} {env : Env} {m : Loc} {H H' : AH} {target : Expr} {body : List Stmt} {Φ : FL → Loc → AH → Prop}
theorem FOR.ind {α : Type} {g : Nat → α → D} {items : Nat → List α → List D} (h0 : ∀ i, items i [] = []) (h1 : ∀ i x r, items i (x :: r) = g i x :: items (i + 1) r) (Inv : Nat → List α → Loc → AH → Prop)
    (turn : ∀ i x rest m H, Inv i (x :: rest) m H → AT C n env target (g i x) m H fun m₁ H₁ => XS C n env body m₁ H₁ fun fl m₂ H₂ => match fl with
        | .next => Inv (i + 1) rest m₂ H₂
        | .cont => Inv (i + 1) rest m₂ H₂
        | .brk => Φ .next m₂ H₂
        | .ret r => Φ (.ret r) m₂ H₂)
    (done : ∀ i m H, Inv i [] m H → Φ .next m H) : ∀ (rest : List α) (i : Nat) (m : Loc) (H : AH), Inv i rest m H → FOR C n env target body (items i rest) m H Φ
  | [], i, m, H, h => by rw [h0]; exact done i m H h
  | x :: rest, i, m, H, h => by
    rw [h1]
    intro A s v rm R q
    refine wpAny_mono (turn i x rest m H h A s v rm R q) (fun _ s₁ p => ?_) fun _ _ x => x
    obtain ⟨m₁, H₁, t, R₁, X⟩ := p
    refine ⟨m₁, H₁, t, R₁, X.mono fun fl m₂ H₂ q => ?_⟩
    cases fl with
    | next => exact FOR.ind h0 h1 Inv turn done rest (i + 1) m₂ H₂ q
    | cont => exact FOR.ind h0 h1 Inv turn done rest (i + 1) m₂ H₂ q
    | brk => exact q
    | ret r => exact q
theorem FOR.enum {α : Type} {f : α → D} (Inv : Nat → List α → Loc → AH → Prop) (xs : List α) (h : Inv 0 xs m H)
    (turn : ∀ i x rest m H, Inv i (x :: rest) m H → AT C n env target (.tup [.int i, f x]) m H fun m₁ H₁ => XS C n env body m₁ H₁ fun fl m₂ H₂ => match fl with
        | .next => Inv (i + 1) rest m₂ H₂
        | .cont => Inv (i + 1) rest m₂ H₂
        | .brk => Φ .next m₂ H₂
        | .ret r => Φ (.ret r) m₂ H₂)
    (done : ∀ i m H, Inv i [] m H → Φ .next m H) : FOR C n env target body (enumD 0 (xs.map f)) m H Φ :=
  FOR.ind (g := fun i x => .tup [.int i, f x]) (items := fun i xs => enumD i (xs.map f)) (fun _ => rfl) (fun _ _ _ => rfl) Inv turn done xs 0 m H h
theorem FOR.plain {α : Type} {f : α → D} (Inv : Nat → List α → Loc → AH → Prop) (xs : List α) (h : Inv 0 xs m H)
    (turn : ∀ i x rest m H, Inv i (x :: rest) m H → AT C n env target (f x) m H fun m₁ H₁ => XS C n env body m₁ H₁ fun fl m₂ H₂ => match fl with
        | .next => Inv (i + 1) rest m₂ H₂
        | .cont => Inv (i + 1) rest m₂ H₂
        | .brk => Φ .next m₂ H₂
        | .ret r => Φ (.ret r) m₂ H₂)
    (done : ∀ i m H, Inv i [] m H → Φ .next m H) : FOR C n env target body (xs.map f) m H Φ :=
  FOR.ind (g := fun _ x => f x) (items := fun _ xs => xs.map f) (fun _ => rfl) (fun _ _ _ => rfl) Inv turn done xs 0 m H h
end
abbrev Row := Int × Nat
noncomputable def row (r : Row) : D := .tup [.int r.1, .int r.2]
noncomputable def lowD (d : Dm) : Int := (d.head?.getD (0, 0)).1
noncomputable def highD (d : Dm) : Int := (d.getLast?.getD (0, 0)).2
noncomputable def dm (σ : Sg) (x : Nat) : Dm := σ.doms.getD x []
noncomputable def fs (σ : Sg) (x : Nat) : Dm := σ.firsts.getD x []
noncomputable def leastT (σ : Sg) (r : Row) : Int := if 0 < r.1 then r.1 * lowD (dm σ r.2) else r.1 * highD (dm σ r.2)
noncomputable def reasonOf (σ : Sg) (r : Row) : Option Lit :=
  if 0 < r.1 ∧ lowD (fs σ r.2) < lowD (dm σ r.2) then some ⟨r.2, false, lowD (dm σ r.2)⟩
  else if r.1 < 0 ∧ highD (dm σ r.2) < highD (fs σ r.2) then some ⟨r.2, true, highD (dm σ r.2)⟩ else none
noncomputable def reasonsFrom (σ : Sg) (skipped : Int) : Nat → List Row → List Lit
  | _, [] => []
  | i, r :: rest => (if (i : Int) = skipped then [] else (reasonOf σ r).toList) ++ reasonsFrom σ skipped (i + 1) rest
noncomputable def reasonsS (σ : Sg) (rows : List Row) (skipped : Int) : List Lit := reasonsFrom σ skipped 0 rows
theorem reasonsFrom_length (σ : Sg) (k : Int) : ∀ (rows : List Row) (i : Nat), (reasonsFrom σ k i rows).length ≤ rows.length
  | [], _ => Nat.le_refl _
  | r :: rest, i => by
    have := reasonsFrom_length σ k rest (i + 1)
    rw [reasonsFrom, List.length_append, List.length_cons]
    have h2 : (if (i : Int) = k then [] else (reasonOf σ r).toList).length ≤ 1 := by
      split
      · exact Nat.zero_le _
      · cases reasonOf σ r <;> simp
    omega
structure Good (σ : Sg) : Prop where
  d : ∀ d ∈ σ.doms, d ≠ []
  f : ∀ d ∈ σ.firsts, d ≠ []
noncomputable def RowOk (σ : Sg) (r : Row) : Prop := r.1 ≠ 0 ∧ -(2 ^ 63) < r.1 ∧ r.1 < 2 ^ 63 ∧ r.2 < σ.doms.length
theorem low_at {d : Dm} (h : d ≠ []) : ∃ p, d[0]? = some p ∧ p.1 = lowD d := by
  cases d with
  | nil => exact absurd rfl h
  | cons p d => exact ⟨p, rfl, rfl⟩
theorem high_at {d : Dm} (h : d ≠ []) : ∃ p, d[d.length - 1]? = some p ∧ p.2 = highD d := by
  have : d.getLast? = some (d.getLast h) := List.getLast?_eq_some_getLast h
  exact ⟨d.getLast h, by rw [← this, List.getLast?_eq_getElem?], by unfold highD; rw [this]; rfl⟩
theorem dm_at {σ : Sg} {x : Nat} (h : x < σ.doms.length) : σ.doms[x]? = some (dm σ x) := by
  unfold dm; rw [List.getD_eq_getElem?_getD, List.getElem?_eq_getElem h]; rfl
theorem fs_at {σ : Sg} {x : Nat} (h : x < σ.firsts.length) : σ.firsts[x]? = some (fs σ x) := by
  unfold fs; rw [List.getD_eq_getElem?_getD, List.getElem?_eq_getElem h]; rfl
theorem Good.dm {σ : Sg} {x : Nat} (g : Good σ) (h : x < σ.doms.length) : dm σ x ≠ [] := g.d _ (List.mem_of_getElem? (dm_at h))
theorem Good.fs {σ : Sg} {x : Nat} (g : Good σ) (h : x < σ.firsts.length) : fs σ x ≠ [] := g.f _ (List.mem_of_getElem? (fs_at h))

variable {C : Cx} {n : Nat} {H : AH} {P : Ad} {σ : Sg}
theorem C_lowS (hC : IsC C) (hD : DeskAt H P σ) (g : Good σ) {x : Nat} (hx : x < σ.doms.length) : CL C (n + 2) (.ref 162) [.ref P.a, .int x] H fun r H' => H' = H ∧ r = .int (lowD (dm σ x)) := by
  obtain ⟨p, h1, h2⟩ := low_at (g.dm hx)
  rw [← h2]; exact C_low hC hD (dm_at hx) h1
theorem C_highS (hC : IsC C) (hD : DeskAt H P σ) (g : Good σ) {x : Nat} (hx : x < σ.doms.length) : CL C (n + 2) (.ref 169) [.ref P.a, .int x] H fun r H' => H' = H ∧ r = .int (highD (dm σ x)) := by
  obtain ⟨p, h1, h2⟩ := high_at (g.dm hx)
  rw [← h2]; exact C_high hC hD (dm_at hx) h1
theorem C_least_term (hC : IsC C) (hD : DeskAt H P σ) (g : Good σ) {r : Row} (hr : RowOk σ r) : CL C (n + 3) (.ref 28) [.ref P.a, .int r.1, .int r.2] H fun x H' => H' = H ∧ x = .int (leastT σ r) := by
  obtain ⟨h0, h1, h2, h3⟩ := hr
  refine' CL.def (names := ["store", "coef", "x"]) ⟨⟨⟨_, _, _, _, _, _, _, _, _, _, _, _, _⟩, ?h1, ?h2, ?h3⟩, ?h4, ?h5, ?h6, ?h7, ?h8, ?h9⟩ rfl ?main
  case h1 => rw [hC.K]; exact rfl
  case h2 => rw [hC.K]; kernel_rfl
  case h3 => exact allS fun _ => allS fun _ => allS fun _ => all0 rfl
  case h4 => decide +kernel
  case h5 => decide +kernel
  case h6 => decide +kernel
  case h7 => decide +kernel
  case h8 => rfl
  case h9 => exact ⟨rfl, rfl⟩
  intro env hE
  refine XS.cons (X1.ret (EV.ifExp (TS.compare (EV.name rfl (EV.int (O2.gt (TV.bool ?_)))))))
  unfold leastT
  by_cases q : 0 < r.1
  · rw [decide_eq_true q, if_pos q]
    exact EV.binop (EV.name rfl (EV.dMeth rfl hD (m_low hC) rfl (ES.cons (EV.name rfl (ES.nil (OC.eq (C_lowS hC hD g h3) (O2.mul ⟨rfl, rfl⟩ (by omega) (by omega))))))))
  · rw [decide_eq_false q, if_neg q]
    exact EV.binop (EV.name rfl (EV.dMeth rfl hD (m_high hC) rfl (ES.cons (EV.name rfl (ES.nil (OC.eq (C_highS hC hD g h3) (O2.mul ⟨rfl, rfl⟩ (by omega) (by omega))))))))
theorem C_least_reasons (hC : IsC C) (hD : DeskAt H P σ) (g : Good σ) {rows : List Row} {skipped : Int} (hz : rows.length ≤ 100) (hr : ∀ r ∈ rows, RowOk σ r) : CL C (n + 3) (.ref 35) [.ref P.a, .lst (rows.map row), .int skipped] H fun x H' => H' = H ∧ x = .tup ((reasonsS σ rows skipped).map lit) := by
  refine' CL.def (names := ["store", "rows", "skipped"]) ⟨⟨⟨_, _, _, _, _, _, _, _, _, _, _, _, _⟩, ?h1, ?h2, ?h3⟩, ?h4, ?h5, ?h6, ?h7, ?h8, ?h9⟩ rfl ?main
  case h1 => rw [hC.K]; exact rfl
  case h2 => rw [hC.K]; kernel_rfl
  case h3 => exact allS fun _ => allS fun _ => allS fun _ => all0 rfl
  case h4 => decide +kernel
  case h5 => decide +kernel
  case h6 => decide +kernel
  case h7 => decide +kernel
  case h8 => rfl
  case h9 => exact ⟨rfl, rfl⟩
  intro env hE
  refine XS.cons (X1.assign hE (EV.listT (ES.nil ⟨lz, fun l hl => ?_⟩)))
  refine XS.cons (X1.for (IV.enum (EV.glob (congrArg Scope.names hE) rfl (g_enumerate hC) ⟨rfl, EV.name rfl ⟨rows.map row, rfl, .inr ⟨_, _, _, rfl⟩, ?_⟩⟩)))
  have hx : ∀ o, Ext H (upd H l o) := fun o b hb => upd_ne fun z => hb (z ▸ hl)
  refine FOR.enum (fun i rest m H' => m.lookup ("store" : Str) = some (D.ref P.a) ∧ m.lookup ("skipped" : Str) = some (D.int skipped) ∧ m.lookup ("found" : Str) = some (D.ref l) ∧ (∀ r ∈ rest, RowOk σ r) ∧
    ∃ found, H' = upd H l (.list (found.map lit)) ∧ found.length + rest.length ≤ 100 ∧ reasonsS σ rows skipped = found ++ reasonsFrom σ skipped i rest) rows ⟨rfl, rfl, rfl, hr, [], rfl, by simpa using hz, rfl⟩ ?_ ?_
  · rintro i r rest m H' ⟨m1, m2, m3, hok, found, rfl, hfl, hrs⟩
    have hD' := hD.ext (hx (.list (found.map lit)))
    obtain ⟨h0, h1, h2, h3⟩ := hok r (List.mem_cons_self ..)
    have hok' : ∀ r ∈ rest, RowOk σ r := fun r hr => hok r (List.mem_cons_of_mem _ hr)
    have h3f : r.2 < σ.firsts.length := by rw [hD.z3]; exact h3
    refine AT.tuple (ATs.cons (AT.name hE (ATs.cons (AT.tuple (ATs.cons (AT.name hE (ATs.cons (AT.name hE (ATs.nil (ATs.nil ?_)))))))))) 
    have m1' : List.lookup ("store" : Str) ((("x" : Str), D.int r.2) :: (("coef" : Str), D.int r.1) :: (("place" : Str), D.int i) :: m) = some (D.ref P.a) := lk_tl rfl (lk_tl rfl (lk_tl rfl m1))
    have m2' : List.lookup ("skipped" : Str) ((("x" : Str), D.int r.2) :: (("coef" : Str), D.int r.1) :: (("place" : Str), D.int i) :: m) = some (D.int skipped) := lk_tl rfl (lk_tl rfl (lk_tl rfl m2))
    have m3' : List.lookup ("found" : Str) ((("x" : Str), D.int r.2) :: (("coef" : Str), D.int r.1) :: (("place" : Str), D.int i) :: m) = some (D.ref l) := lk_tl rfl (lk_tl rfl (lk_tl rfl m3))
    rw [reasonsFrom] at hrs
    simp only [List.length_cons] at hfl
    refine XS.cons (X1.ite (TS.compare (EV.name rfl (EV.name m2' (O2.eqI (TV.bool ?_))))))
    by_cases q : (i : Int) = skipped
    · have : ((i : Int) == skipped) = true := by simpa using q
      rw [this]
      refine XS.cons (X1.cont ⟨m1', m2', m3', hok', found, rfl, by omega, ?_⟩)
      rw [hrs, if_pos q]; rfl
    · have : ((i : Int) == skipped) = false := by simpa using q
      rw [this]
      rw [if_neg q] at hrs
      refine XS.nil ?_
      obtain ⟨p, hp1, hp2⟩ := low_at (g.fs h3f)
      obtain ⟨p', hp3, hp4⟩ := high_at (g.fs h3f)
      have put : ∀ (k : Lit), reasonOf σ r = some k → ∀ m' : Loc, m'.lookup ("store" : Str) = some (D.ref P.a) → m'.lookup ("skipped" : Str) = some (D.int skipped) → m'.lookup ("found" : Str) = some (D.ref l) →
          (m'.lookup ("store" : Str) = some (D.ref P.a) ∧ m'.lookup ("skipped" : Str) = some (D.int skipped) ∧ m'.lookup ("found" : Str) = some (D.ref l) ∧ (∀ r ∈ rest, RowOk σ r) ∧
            ∃ found', upd (upd H l (.list (found.map lit))) l (.list (found.map lit ++ [lit k])) = upd H l (.list (found'.map lit)) ∧ found'.length + rest.length ≤ 100 ∧ reasonsS σ rows skipped = found' ++ reasonsFrom σ skipped (i + 1) rest) := by
        intro k hk m' a b c
        refine ⟨a, b, c, hok', found ++ [k], by rw [upd_upd]; simp, by rw [List.length_append, List.length_singleton]; omega, ?_⟩
        rw [hrs, hk]; simp
      have skip : reasonOf σ r = none → ∀ m' : Loc, m'.lookup ("store" : Str) = some (D.ref P.a) → m'.lookup ("skipped" : Str) = some (D.int skipped) → m'.lookup ("found" : Str) = some (D.ref l) →
          (m'.lookup ("store" : Str) = some (D.ref P.a) ∧ m'.lookup ("skipped" : Str) = some (D.int skipped) ∧ m'.lookup ("found" : Str) = some (D.ref l) ∧ (∀ r ∈ rest, RowOk σ r) ∧
            ∃ found', upd H l (.list (found.map lit)) = upd H l (.list (found'.map lit)) ∧ found'.length + rest.length ≤ 100 ∧ reasonsS σ rows skipped = found' ++ reasonsFrom σ skipped (i + 1) rest) := by
        intro hk m' a b c
        refine ⟨a, b, c, hok', found, rfl, by omega, ?_⟩
        rw [hrs, hk]; simp
      have hsz : (found.map lit).length ≤ sizeLine := by rw [List.length_map, sizeLine_eq]; omega
      refine XS.cons (X1.ite (TS.and (TS.compare (EV.name rfl (EV.int (O2.gt (TV.bool ?_)))))))
      by_cases c1 : 0 < r.1
      · rw [decide_eq_true c1]
        refine TS.and (TS.compare (EV.dMeth m1' hD' (m_low hC) rfl (ES.cons (EV.name rfl (ES.nil (OC.eq (C_lowS hC hD' g h3) ?_))))))
        refine EV.subscript (EV.subscript (EV.dMeth m1' hD' (m_initial hC) rfl (ES.cons (EV.name rfl (ES.nil (OC.eq (C_initial hC hD' (fs_at h3f)) (EV.int (O2.tupAt (d := pr p) (by simp [hp1]) (by decide) (EV.int (O2.tupAt rfl (by decide) ?_))))))))))
        rw [hp2]
        refine O2.gt (TV.bool ?_)
        by_cases c2 : lowD (fs σ r.2) < lowD (dm σ r.2)
        · rw [decide_eq_true c2]
          have hk : reasonOf σ r = some ⟨r.2, false, lowD (dm σ r.2)⟩ := by unfold reasonOf; rw [if_pos ⟨c1, c2⟩]
          refine TS.andNil ?_
          refine XS.cons (X1.expr (EV.method (EV.name m3' (MC.append (upd_same ..) ?_))))
          refine EV.tuple (ES.cons (EV.name rfl ?_))
          refine ES.cons (EV.str ?_)
          refine ES.cons (EV.dMeth m1' hD' (m_low hC) rfl (ES.cons (EV.name rfl (ES.nil (OC.eq (C_lowS hC hD' g h3) ?_)))))
          exact ES.nil ⟨lz, _, upd_same .., hsz, XS.nil (XS.nil (put _ hk _ m1' m2' m3'))⟩
        · rw [decide_eq_false c2]
          have hk : reasonOf σ r = none := by unfold reasonOf; rw [if_neg (fun z => c2 z.2), if_neg (fun z => by omega)]
          refine XS.cons (X1.ite (TS.and (TS.compare (EV.name rfl (EV.int (O2.lt (TV.bool ?_)))))))
          rw [decide_eq_false (show ¬ r.1 < 0 by omega)]
          exact XS.nil (XS.nil (XS.nil (skip hk _ m1' m2' m3')))
      · rw [decide_eq_false c1]
        refine XS.cons (X1.ite (TS.and (TS.compare (EV.name rfl (EV.int (O2.lt (TV.bool ?_)))))))
        have c3 : r.1 < 0 := by omega
        rw [decide_eq_true c3]
        refine TS.and (TS.compare (EV.dMeth m1' hD' (m_high hC) rfl (ES.cons (EV.name rfl (ES.nil (OC.eq (C_highS hC hD' g h3) ?_))))))
        refine EV.subscript (EV.subscript (EV.dMeth m1' hD' (m_initial hC) rfl (ES.cons (EV.name rfl (ES.nil (OC.eq (C_initial hC hD' (fs_at h3f)) (EV.unary (EV.int (O1.neg (O2.tupLast (d := pr p') (by simp [hp3]) (EV.int (O2.tupAt rfl (by decide) ?_)))))))))))) 
        rw [hp4]
        refine O2.lt (TV.bool ?_)
        by_cases c2 : highD (dm σ r.2) < highD (fs σ r.2)
        · rw [decide_eq_true c2]
          have hk : reasonOf σ r = some ⟨r.2, true, highD (dm σ r.2)⟩ := by unfold reasonOf; rw [if_neg (fun z => c1 z.1), if_pos ⟨c3, c2⟩]
          refine TS.andNil ?_
          refine XS.cons (X1.expr (EV.method (EV.name m3' (MC.append (upd_same ..) ?_))))
          refine EV.tuple (ES.cons (EV.name rfl ?_))
          refine ES.cons (EV.str ?_)
          refine ES.cons (EV.dMeth m1' hD' (m_high hC) rfl (ES.cons (EV.name rfl (ES.nil (OC.eq (C_highS hC hD' g h3) ?_)))))
          exact ES.nil ⟨lz, _, upd_same .., hsz, XS.nil (XS.nil (XS.nil (put _ hk _ m1' m2' m3')))⟩
        · rw [decide_eq_false c2]
          have hk : reasonOf σ r = none := by unfold reasonOf; rw [if_neg (fun z => c1 z.1), if_neg (fun z => c2 z.2)]
          exact XS.nil (XS.nil (XS.nil (skip hk _ m1' m2' m3')))
  · rintro i m H' ⟨m1, m2, m3, hok, found, rfl, hfl, hrs⟩
    refine XS.freeze m3 (upd_same ..) ?_
    rw [drp_upd hl]
    refine XS.cons (X1.ret (EV.call (EV.glob (congrArg Scope.names hE) rfl (g_tuple hC) ⟨rfl, ES.cons (EV.name lk_hd (ES.nil (OC.tupleL ?_ ⟨rfl, ?_⟩)))⟩) (Keepy.type _)))
    · rw [List.length_map, sizeLine_eq]; omega
    · rw [hrs, reasonsFrom, List.append_nil]

end Mine

open PySem PySem.W PyProof.Rows
set_option Elab.async false
set_option linter.unusedVariables false
set_option maxRecDepth 100000
namespace Mine
section
variable {C : Cx} {n : Nat} {env : Env} {m : Loc} {H H' : AH} {Φ : D → AH → Prop}
theorem EV.callG {x : Str} {p pos : Pos} {args : List Expr} {f : Value} {ns : List (Str × NameKind)} (hE : env.scope.names = ns) (hk : ns.lookup x = some .globalImplicit) (hg : C.glob x = some f) (kf : Keepy C f) (h : ES C n env pos args m H fun ds H₂ => OC C n env f ds m H₂ Φ)
    (hne : args ≠ [] := by simp) (hp : args.all (fun | .Starred .. => false | _ => true) = true := by rfl) (hd : (x == ("__debug__" : Str)) = false := by decide +kernel) : EV C n env (.Call (.Name x p) args [] pos) m H Φ :=
  EV.call (EV.glob hE hk hg ⟨rfl, h⟩ hd) kf hne hp
theorem k_len (h : IsC C) : Keepy C (.builtin "len") := Keepy.builtin _
theorem k_sum (h : IsC C) : Keepy C (.builtin "sum") := Keepy.builtin _
theorem k_max (h : IsC C) : Keepy C (.builtin "max") := Keepy.builtin _
theorem k_min (h : IsC C) : Keepy C (.builtin "min") := Keepy.builtin _
theorem k_abs (h : IsC C) : Keepy C (.builtin "abs") := Keepy.builtin _
theorem k_sorted (h : IsC C) : Keepy C (.builtin "sorted") := Keepy.builtin _
theorem k_int (h : IsC C) : Keepy C (.type "int") := Keepy.type _
theorem k_tuple (h : IsC C) : Keepy C (.type "tuple") := Keepy.type _
theorem k_list (h : IsC C) : Keepy C (.type "list") := Keepy.type _
end
noncomputable def litS (room : Int) (σ : Sg) (r : Row) : Lit :=
  if 0 < r.1 then ⟨r.2, true, (room + leastT σ r).fdiv r.1⟩ else ⟨r.2, false, -((room + leastT σ r).fdiv (-r.1))⟩
noncomputable def strikeLoop (room : Int) (rows : List Row) : List Row → Nat → Sg → Bool × Sg
  | [], _, σ => (true, σ)
  | r :: rest, i, σ =>
    if sayS (litS room σ r) (dm σ r.2) = 1 then strikeLoop room rows rest (i + 1) σ
    else if (enterS (litS room σ r) (some (reasonsS σ rows i)) (-1) σ).1 = true then strikeLoop room rows rest (i + 1) (enterS (litS room σ r) (some (reasonsS σ rows i)) (-1) σ).2
    else (false, (enterS (litS room σ r) (some (reasonsS σ rows i)) (-1) σ).2)
noncomputable def roomS (σ : Sg) (rows : List Row) (c : Int) : Int := c - (rows.map (leastT σ)).sum
noncomputable def strikeS (rows : List Row) (c : Int) (σ : Sg) : Bool × Sg :=
  if roomS σ rows c < 0 then (false, { σ with failed := true, clash := reasonsS σ rows (-1) })
  else strikeLoop (roomS σ rows c) rows rows 0 σ
theorem litS_x {room : Int} {σ : Sg} {r : Row} : (litS room σ r).x = r.2 := by unfold litS; split <;> rfl
theorem enterS_len {l : Lit} {why : Option (List Lit)} {who : Int} {σ : Sg} : (enterS l why who σ).2.doms.length = σ.doms.length ∧ (enterS l why who σ).2.firsts = σ.firsts ∧ (enterS l why who σ).2.trail.length ≤ σ.trail.length + 1 ∧ (enterS l why who σ).2.news ≤ σ.news + 1 := by
  unfold enterS
  split
  · exact ⟨rfl, rfl, Nat.le_succ _, Nat.le_succ _⟩
  · split
    · exact ⟨rfl, rfl, Nat.le_succ _, Nat.le_succ _⟩
    · exact ⟨by simp, rfl, by simp, Nat.le_refl _⟩
theorem enterS_good {l : Lit} {why : Option (List Lit)} {who : Int} {σ : Sg} (g : Good σ) : Good (enterS l why who σ).2 := by
  unfold enterS
  split
  · exact ⟨g.d, g.f⟩
  · split
    · exact g
    · rename_i h _
      refine ⟨fun d hd => ?_, g.f⟩
      rcases List.mem_or_eq_of_mem_set hd with z | rfl
      · exact g.d d z
      · exact h
theorem RowOk.enter {l : Lit} {why : Option (List Lit)} {who : Int} {σ : Sg} {r : Row} (h : RowOk σ r) : RowOk (enterS l why who σ).2 r := ⟨h.1, h.2.1, h.2.2.1, by rw [enterS_len.1]; exact h.2.2.2⟩

variable {C : Cx} {n : Nat} {H : AH} {P : Ad} {σ : Sg}
theorem C_strike_le (hC : IsC C) (hD : DeskAt H P σ) (g : Good σ) {rows : List Row} {c : Int} (hz : rows.length ≤ 50) (hr : ∀ r ∈ rows, RowOk σ r) (ht : σ.trail.length + rows.length ≤ 200) (hw : σ.news + rows.length ≤ 200) :
    CL C (n + 7) (.ref 40) [.ref P.a, .lst (rows.map row), .int c] H fun x H' => x = .bool (strikeS rows c σ).1 ∧ DeskAt H' P (strikeS rows c σ).2 ∧ Fr P H H' := by
  have hzz : rows.length ≤ sizeLine := by rw [sizeLine_eq]; omega
  refine' CL.def (names := ["store", "rows", "c"]) ⟨⟨⟨_, _, _, _, _, _, _, _, _, _, _, _, _⟩, ?h1, ?h2, ?h3⟩, ?h4, ?h5, ?h6, ?h7, ?h8, ?h9⟩ rfl ?main
  case h1 => rw [hC.K]; exact rfl
  case h2 => rw [hC.K]; kernel_rfl
  case h3 => exact allS fun _ => allS fun _ => allS fun _ => all0 rfl
  case h4 => decide +kernel
  case h5 => decide +kernel
  case h6 => decide +kernel
  case h7 => decide +kernel
  case h8 => rfl
  case h9 => exact ⟨rfl, rfl⟩
  intro env hE
  refine XS.cons (X1.assign hE (EV.binop (EV.name rfl (EV.callG (congrArg Scope.names hE) rfl (g_sum hC) (k_sum hC) (ES.cons (EV.comp (mc := [("store", .ref P.a)]) hE (by repeat (first | exact Cap.nil | refine Cap.skip rfl ?_ | refine Cap.take rfl rfl ?_)) (IV.seq (EV.name rfl ⟨_, .inr rfl, CompOk.pure rows (fun r => some (D.int (leastT σ r))) hzz (fun cenv hE' r hr' H' hx => ?_) ?_ (.inl rfl)⟩))))))))
  · refine AT.tuple (ATs.cons (AT.name hE' (ATs.cons (AT.name hE' (ATs.nil ⟨.cons rfl (.cons rfl .refl), TSS.nil ?_⟩)))))
    exact EV.callG (congrArg Scope.names hE') rfl (g_least_term hC) (k_least_term hC) (ES.cons (EV.name rfl (ES.cons (EV.name rfl (ES.cons (EV.name rfl (ES.nil (OC.eq (C_least_term (n := n + 3) hC (hD.ext hx) g (hr r hr')) ⟨rfl, rfl⟩))))))))
  have es : (rows.filterMap fun r => some (D.int (leastT σ r))) = (rows.map (leastT σ)).map D.int := by
    rw [List.map_map, List.filterMap_eq_map']; rfl
  rw [es]
  refine ES.nil (OC.sumL (O2.sub ?_))
  refine XS.cons (X1.ite (TS.compare (EV.name rfl (EV.int (O2.lt (TV.bool ?_))))))
  show if decide (roomS σ rows c < 0) = true then _ else _
  unfold strikeS
  by_cases q : roomS σ rows c < 0
  · rw [decide_eq_true q, if_pos q]
    refine XS.cons (X1.ret (EV.dMeth rfl hD (m_fail hC) rfl (ES.cons (EV.callG (congrArg Scope.names hE) rfl (g_least_reasons hC) (k_least_reasons hC) (ES.cons (EV.name rfl (ES.cons (EV.name rfl (ES.cons (EV.unary (EV.int (O1.neg (ES.nil (OC.eq (C_least_reasons (n := n + 3) hC hD g (by omega) hr) ?_))))))))))))))
    exact ES.nil (OC.of (C_fail (n := n + 5) hC hD (Nat.le_trans (reasonsFrom_length _ _ _ _) (by omega))))
  rw [decide_eq_false q, if_neg q]
  refine XS.nil ?_
  refine XS.cons (X1.for (IV.enum (EV.glob (congrArg Scope.names hE) rfl (g_enumerate hC) ⟨rfl, EV.name rfl ⟨rows.map row, rfl, .inr ⟨_, _, _, rfl⟩, ?_⟩⟩)))
  refine FOR.enum (fun i rest m H' => m.lookup ("store" : Str) = some (D.ref P.a) ∧ m.lookup ("rows" : Str) = some (D.lst (rows.map row)) ∧ m.lookup ("room" : Str) = some (D.int (roomS σ rows c)) ∧ Fr P H H' ∧
    ∃ τ, DeskAt H' P τ ∧ Good τ ∧ (∀ r ∈ rest, r ∈ rows) ∧ (∀ r ∈ rows, RowOk τ r) ∧ τ.trail.length + rest.length ≤ 200 ∧ τ.news + rest.length ≤ 200 ∧ strikeLoop (roomS σ rows c) rows rows 0 σ = strikeLoop (roomS σ rows c) rows rest i τ) rows ⟨rfl, rfl, rfl, Fr.refl, σ, hD, g, fun _ h => h, hr, ht, hw, rfl⟩ ?_ ?_
  · rintro i r rest m H' ⟨m1, m2, m3, hf, τ, hD', g', hsub, hok, ht', hw', hs⟩
    have hrr := hok r (hsub r (List.mem_cons_self ..))
    obtain ⟨h0, h1, h2, h3⟩ := id hrr
    have hsub' : ∀ r ∈ rest, r ∈ rows := fun r hr => hsub r (List.mem_cons_of_mem _ hr)
    refine AT.tuple (ATs.cons (AT.name hE (ATs.cons (AT.tuple (ATs.cons (AT.name hE (ATs.cons (AT.name hE (ATs.nil (ATs.nil ?_)))))))))) 
    have m1' : List.lookup ("store" : Str) ((("x" : Str), D.int r.2) :: (("coef" : Str), D.int r.1) :: (("place" : Str), D.int i) :: m) = some (D.ref P.a) := lk_tl rfl (lk_tl rfl (lk_tl rfl m1))
    have m2' : List.lookup ("rows" : Str) ((("x" : Str), D.int r.2) :: (("coef" : Str), D.int r.1) :: (("place" : Str), D.int i) :: m) = some (D.lst (rows.map row)) := lk_tl rfl (lk_tl rfl (lk_tl rfl m2))
    have m3' : List.lookup ("room" : Str) ((("x" : Str), D.int r.2) :: (("coef" : Str), D.int r.1) :: (("place" : Str), D.int i) :: m) = some (D.int (roomS σ rows c)) := lk_tl rfl (lk_tl rfl (lk_tl rfl m3))
    rw [strikeLoop] at hs
    simp only [List.length_cons] at ht' hw'
    refine XS.cons (X1.assign hE (EV.binop (EV.name m3' (EV.callG (congrArg Scope.names hE) rfl (g_least_term hC) (k_least_term hC) (ES.cons (EV.name m1' (ES.cons (EV.name rfl (ES.cons (EV.name rfl (ES.nil (OC.eq (C_least_term (n := n + 3) hC hD' g' hrr) (O2.add ?_)))))))))))))
    refine XS.cons (X1.assign hE (EV.mono (Φ := fun d H₁ => H₁ = H' ∧ d = lit (litS (roomS σ rows c) τ r)) (EV.ifExp (TS.compare (EV.name rfl (EV.int (O2.gt (TV.bool ?_)))))) fun d H₁ q => ?_))
    · by_cases q2 : 0 < r.1
      · rw [decide_eq_true q2]
        refine EV.tuple (ES.cons (EV.name rfl (ES.cons (EV.str (ES.cons (EV.binop (EV.name rfl (EV.name rfl (O2.floordiv (ES.nil ⟨lz, rfl, ?_⟩) h0 (by omega) (by omega))))))))))
        unfold litS; rw [if_pos q2]; rfl
      · rw [decide_eq_false q2]
        refine EV.tuple (ES.cons (EV.name rfl (ES.cons (EV.str (ES.cons (EV.unary (EV.binop (EV.name rfl (EV.unary (EV.name rfl (O1.neg (O2.floordiv (O1.neg (ES.nil ⟨lz, rfl, ?_⟩)) (by omega) (by omega) (by omega)))))))))))))
        unfold litS; rw [if_neg q2]; rfl
    obtain ⟨rfl, rfl⟩ := q
    have hx2 : (litS (roomS σ rows c) τ r).x < τ.doms.length := by rw [litS_x]; exact h3
    have hdx : τ.doms[(litS (roomS σ rows c) τ r).x]? = some (dm τ r.2) := by rw [litS_x]; exact dm_at h3
    refine XS.cons (X1.ite (TS.and (TS.compare (EV.dMeth (lk_tl rfl (lk_tl rfl m1')) hD' (m_holds hC) rfl (ES.cons (EV.name rfl (ES.nil (OC.eq (C_holds hC hD' hdx) (EV.int (O2.neI (TV.bool ?_)))))))))))
    by_cases q3 : sayS (litS (roomS σ rows c) τ r) (dm τ r.2) = 1
    · have : (sayS (litS (roomS σ rows c) τ r) (dm τ r.2) != 1) = false := by simpa using q3
      rw [this]
      rw [if_pos q3] at hs
      exact XS.nil (XS.nil ⟨lk_tl rfl (lk_tl rfl m1'), lk_tl rfl (lk_tl rfl m2'), lk_tl rfl (lk_tl rfl m3'), hf, τ, hD', g', hsub', hok, by omega, by omega, hs⟩)
    · have : (sayS (litS (roomS σ rows c) τ r) (dm τ r.2) != 1) = true := by simpa using q3
      rw [this]
      rw [if_neg q3] at hs
      have hrl := reasonsFrom_length τ i rows 0
      refine TS.and (TS.not (TS.plain (EV.dMeth (lk_tl rfl (lk_tl rfl m1')) hD' (m_strike hC) rfl (ES.cons (EV.name rfl (ES.cons (EV.callG (congrArg Scope.names hE) rfl (g_least_reasons hC) (k_least_reasons hC) (ES.cons (EV.name (lk_tl rfl (lk_tl rfl m1')) (ES.cons (EV.name (lk_tl rfl (lk_tl rfl m2')) (ES.cons (EV.name rfl (ES.nil (OC.eq (C_least_reasons (n := n + 3) hC hD' g' (by omega) hok) ?_)))))))))))))))
      refine ES.nil (OC.to (C_strike hC hD' hx2 (by omega) (by omega) (Nat.le_trans hrl (by omega))) fun d H₁ q => ?_)
      obtain ⟨rfl, hD2, hf2⟩ := q
      refine TV.bool ?_
      obtain ⟨e1, e2, e3, e4⟩ := enterS_len (l := litS (roomS σ rows c) τ r) (why := some (reasonsS τ rows i)) (who := -1) (σ := τ)
      cases q4 : (enterS (litS (roomS σ rows c) τ r) (some (reasonsS τ rows i)) (-1) τ).1 with
      | true =>
        rw [if_pos q4] at hs
        exact XS.nil (XS.nil ⟨lk_tl rfl (lk_tl rfl m1'), lk_tl rfl (lk_tl rfl m2'), lk_tl rfl (lk_tl rfl m3'), hf.trans hf2, _, hD2, enterS_good g', hsub', fun r hr => (hok r hr).enter, by omega, by omega, hs⟩)
      | false =>
        rw [if_neg (by rw [q4]; decide)] at hs
        refine TS.andNil (XS.cons (X1.ret (EV.bool ⟨?_, ?_, hf.trans hf2⟩)))
        · rw [hs]
        · rw [hs]; exact hD2
  · rintro i m H' ⟨m1, m2, m3, hf, τ, hD', g', hsub, hok, ht', hw', hs⟩
    rw [hs, strikeLoop]
    exact XS.cons (X1.ret (EV.bool ⟨rfl, hD', hf⟩))

end Mine

open PySem PySem.W PyProof.Rows
set_option Elab.async false
set_option linter.unusedVariables false
set_option maxRecDepth 100000
namespace Mine
/-- the sieve -/
noncomputable def sieve (cs : List Int) (k : Nat) : AO := .smap [("cells", .lst (cs.map D.int)), ("k", .int k)]
noncomputable def leastM (c : Int) (d : Dm) : Int := min (c * lowD d) (c * highD d)
noncomputable def holdsL (l : Lit) (d : Dm) : Bool := if l.le then decide (highD d ≤ l.k) else decide (l.k ≤ lowD d)
variable {C : Cx} {n : Nat} {H : AH} {P : Ad} {σ : Sg}
theorem C_draw (hC : IsC C) {S : Addr} {cs : List Int} {k : Nat} {many : Int} (hS : H S = some (sieve cs k)) (hk : k < 100000) (hz : cs.length ≤ 100) (hm : 0 < many) :
    CL C (n + 1) (.ref 274) [.ref S, .int many] H fun r H' => H' = upd H S (sieve cs (k + 1)) ∧ ∃ v : Int, r = .int v ∧ 0 ≤ v ∧ v < many := by
  have hf : ∀ a : Int, 0 ≤ a.fmod many ∧ a.fmod many < many := fun a => ⟨Int.fmod_nonneg_of_pos _ hm, Int.fmod_lt_of_pos _ hm⟩
  refine' CL.def (names := ["sieve", "many"]) ⟨⟨⟨_, _, _, _, _, _, _, _, _, _, _, _, _⟩, ?h1, ?h2, ?h3⟩, ?h4, ?h5, ?h6, ?h7, ?h8, ?h9⟩ rfl ?main
  case h1 => rw [hC.K]; exact rfl
  case h2 => rw [hC.K]; kernel_rfl
  case h3 => exact allS fun _ => allS fun _ => all0 rfl
  case h4 => decide +kernel
  case h5 => decide +kernel
  case h6 => decide +kernel
  case h7 => decide +kernel
  case h8 => rfl
  case h9 => exact ⟨rfl, rfl⟩
  intro env hE
  refine XS.cons (X1.assign hE (EV.subscript (EV.name rfl (EV.str (O2.mapAt hS rfl ?_)))))
  refine XS.cons (X1.setItem (EV.binop (EV.name rfl (EV.int (O2.add (EV.name rfl (EV.str (SI.smap hS (Nat.le_of_ble_eq_true rfl) ?_))))))))
  have e1 : setL "k" (D.int ((k : Int) + 1)) [(("cells" : Str), D.lst (cs.map D.int)), ("k", .int k)] = [(("cells" : Str), D.lst (cs.map D.int)), ("k", .int ((k + 1 : Nat) : Int))] := rfl
  rw [e1]
  have hS1 : upd H S (sieve cs (k + 1)) S = some (sieve cs (k + 1)) := upd_same ..
  show XS C n env _ _ (upd H S (sieve cs (k + 1))) _
  generalize hH1 : upd H S (sieve cs (k + 1)) = H1 at hS1 ⊢
  have hlen : (cs.map D.int).length ≤ sizeLine := by rw [List.length_map, sizeLine_eq]; omega
  refine XS.cons (X1.ite (TS.compare (EV.name rfl (EV.callG (congrArg Scope.names hE) rfl (g_len hC) (k_len hC) (ES.cons (EV.subscript (EV.name rfl (EV.str (O2.mapAt hS1 rfl (ES.nil (OC.lenL (.inl rfl) (O2.lt (TV.bool ?_)) hlen)))))))))))
  by_cases q : (k : Int) < ((cs.map D.int).length : Nat)
  · rw [decide_eq_true q]
    have hlt : k < cs.length := by rw [List.length_map] at q; omega
    exact XS.cons (X1.ret (EV.binop (EV.subscript (EV.subscript (EV.name rfl (EV.str (O2.mapAt hS1 rfl (EV.name rfl (O2.lstAt (d := .int cs[k]) (by rw [Int.toNat_natCast, List.getElem?_map, List.getElem?_eq_getElem hlt]; rfl) (Int.natCast_nonneg _) (EV.name rfl (O2.mod ⟨rfl, _, rfl, hf _⟩ (by omega))) (by omega))))))))))
  · rw [decide_eq_false q]
    refine XS.nil (XS.cons (X1.ret (EV.binop (EV.binop (EV.binop (EV.binop (EV.binop (EV.binop (EV.binop (EV.int (EV.name rfl (O2.mul (EV.name rfl (O2.mul (EV.binop (EV.int (EV.name rfl (O2.mul (O2.add ?_) (by omega) (by omega)))) ) (by omega) (by omega))) (by omega) (by omega)))))))))))))
    refine EV.binop (EV.int (EV.callG (congrArg Scope.names hE) rfl (g_len hC) (k_len hC) (ES.cons (EV.subscript (EV.name rfl (EV.str (O2.mapAt hS1 rfl (ES.nil (OC.lenL (.inl rfl) (O2.mul (O2.add ?_) (by omega) (by omega)) hlen)))))))))
    exact EV.int (O2.add (EV.int (O2.mod (EV.name rfl (O2.mod ⟨rfl, _, rfl, hf _⟩ (by omega))) (by omega))))
theorem C_law_least (hC : IsC C) {c : Int} {d : Dm} (hd : d ≠ []) (h1 : -(2 ^ 63) < c) (h2 : c < 2 ^ 63) : CL C (n + 1) (.ref 288) [.int c, dom d] H fun r H' => H' = H ∧ r = .int (leastM c d) := by
  obtain ⟨p, a1, a2⟩ := low_at hd
  obtain ⟨p', b1, b2⟩ := high_at hd
  refine' CL.def (names := ["coef", "lot"]) ⟨⟨⟨_, _, _, _, _, _, _, _, _, _, _, _, _⟩, ?h1, ?h2, ?h3⟩, ?h4, ?h5, ?h6, ?h7, ?h8, ?h9⟩ rfl ?main
  case h1 => rw [hC.K]; exact rfl
  case h2 => rw [hC.K]; kernel_rfl
  case h3 => exact allS fun _ => allS fun _ => all0 rfl
  case h4 => decide +kernel
  case h5 => decide +kernel
  case h6 => decide +kernel
  case h7 => decide +kernel
  case h8 => rfl
  case h9 => exact ⟨rfl, rfl⟩
  intro env hE
  refine XS.cons (X1.ret (EV.callG (congrArg Scope.names hE) rfl (g_min hC) (k_min hC) (ES.cons (EV.binop (EV.name rfl (EV.subscript (EV.subscript (EV.name rfl (EV.int (O2.tupAt (d := pr p) (by simp [a1]) (by decide) (EV.int (O2.tupAt rfl (by decide) (O2.mul ?_ (by omega) (by omega))))))))))))))
  refine ES.cons (EV.binop (EV.name rfl (EV.subscript (EV.subscript (EV.name rfl (EV.unary (EV.int (O1.neg (O2.tupLast (d := pr p') (by simp [b1]) (EV.int (O2.tupAt rfl (by decide) (O2.mul ?_ (by omega) (by omega)))))))))))))
  refine ES.nil (OC.min2 ⟨rfl, ?_⟩)
  rw [a2, b2]; rfl
theorem C_law_holds (hC : IsC C) {l : Lit} {d : Dm} (hd : d ≠ []) : CL C (n + 1) (.ref 302) [lit l, dom d] H fun r H' => H' = H ∧ r = .bool (holdsL l d) := by
  obtain ⟨p, a1, a2⟩ := low_at hd
  obtain ⟨p', b1, b2⟩ := high_at hd
  obtain ⟨x, le, k⟩ := l
  refine' CL.def (names := ["literal", "lot"]) ⟨⟨⟨_, _, _, _, _, _, _, _, _, _, _, _, _⟩, ?h1, ?h2, ?h3⟩, ?h4, ?h5, ?h6, ?h7, ?h8, ?h9⟩ rfl ?main
  case h1 => rw [hC.K]; exact rfl
  case h2 => rw [hC.K]; kernel_rfl
  case h3 => exact allS fun _ => allS fun _ => all0 rfl
  case h4 => decide +kernel
  case h5 => decide +kernel
  case h6 => decide +kernel
  case h7 => decide +kernel
  case h8 => rfl
  case h9 => exact ⟨rfl, rfl⟩
  intro env hE
  refine XS.cons (X1.ret (EV.ifExp (TS.compare (EV.subscript (EV.name rfl (EV.int (O2.tupAt rfl (by decide) (EV.str (O2.eqS (TV.bool ?_))))))))))
  cases le with
  | true =>
    refine EV.compare (EV.subscript (EV.subscript (EV.name rfl (EV.unary (EV.int (O1.neg (O2.tupLast (d := pr p') (by simp [b1]) (EV.int (O2.tupAt rfl (by decide) ?_)))))))))
    refine EV.subscript (EV.name rfl (EV.int (O2.tupAt rfl (by decide) (O2.le ⟨rfl, ?_⟩))))
    rw [b2]; rfl
  | false =>
    refine EV.and (EV.compare (EV.subscript (EV.name rfl (EV.int (O2.tupAt rfl (by decide) (EV.str (O2.eqS (TV.bool ?_))))))))
    refine EV.boolOne (EV.compare (EV.subscript (EV.subscript (EV.name rfl (EV.int (O2.tupAt (d := pr p) (by simp [a1]) (by decide) (EV.int (O2.tupAt rfl (by decide) ?_))))))))
    refine EV.subscript (EV.name rfl (EV.int (O2.tupAt rfl (by decide) (O2.ge ⟨rfl, ?_⟩))))
    rw [a2]; rfl

end Mine

open PySem PySem.W PyProof.Rows
set_option Elab.async false
set_option linter.unusedVariables false
set_option maxRecDepth 100000
namespace Mine
structure DomOk (d : Dm) : Prop where
  ne : d ≠ []
  le : ∀ p ∈ d, p.1 ≤ p.2
  up : d.Pairwise fun p q => p.2 < q.1
variable {C : Cx} {n : Nat} {H : AH} {P : Ad} {σ : Sg}
theorem C_draw' (hC : IsC C) {S : Addr} {cs : List Int} {k : Nat} {many : Int} (hS : H S = some (sieve cs k)) (hk : k < 100000) (hz : cs.length ≤ 100) (hm : 0 < many) :
    CL C (n + 1) (.ref 274) [.ref S, .int many] H fun r H' => (H' S = some (sieve cs (k + 1)) ∧ ∀ b, b ≠ S → H' b = H b) ∧ ∃ v : Int, r = .int v ∧ 0 ≤ v ∧ v < many :=
  (C_draw hC hS hk hz hm).mono fun r H' q => by obtain ⟨rfl, q⟩ := q; exact ⟨⟨upd_same .., fun b hb => upd_ne hb⟩, q⟩
theorem pick4 {a b c d v : Int} (h0 : 0 ≤ v) (h1 : v < 4) : ∃ f, ([.int a, .int b, .int c, .int d] : List D)[v.toNat]? = some (.int f) ∧ (f = a ∨ f = b ∨ f = c ∨ f = d) := by
  have : v = 0 ∨ v = 1 ∨ v = 2 ∨ v = 3 := by omega
  rcases this with rfl | rfl | rfl | rfl
  · exact ⟨a, rfl, .inl rfl⟩
  · exact ⟨b, rfl, .inr (.inl rfl)⟩
  · exact ⟨c, rfl, .inr (.inr (.inl rfl))⟩
  · exact ⟨d, rfl, .inr (.inr (.inr rfl))⟩
theorem C_law_domain (hC : IsC C) {S : Addr} {cs : List Int} {k : Nat} (hS : H S = some (sieve cs k)) (hk : k < 90000) (hz : cs.length ≤ 100) :
    CL C (n + 2) (.ref 281) [.ref S] H fun r H' => ∃ d k', r = dom d ∧ k' ≤ k + 11 ∧ H' S = some (sieve cs k') ∧ (∀ b, b ≠ S → H' b = H b) ∧ DomOk d ∧ d.length ≤ 3 := by
  have pw10 : ((Builtin.Int.intBits 10 : Nat) : Int) * 20 ≤ 2 ^ 27 := by decide +kernel
  refine' CL.def (names := ["sieve"]) ⟨⟨⟨_, _, _, _, _, _, _, _, _, _, _, _, _⟩, ?h1, ?h2, ?h3⟩, ?h4, ?h5, ?h6, ?h7, ?h8, ?h9⟩ rfl ?main
  case h1 => rw [hC.K]; exact rfl
  case h2 => rw [hC.K]; kernel_rfl
  case h3 => exact allS fun _ => all0 rfl
  case h4 => decide +kernel
  case h5 => decide +kernel
  case h6 => decide +kernel
  case h7 => decide +kernel
  case h8 => rfl
  case h9 => exact ⟨rfl, rfl⟩
  intro env hE
  refine XS.cons (X1.swap2 (x := "first") (y := "found") (hw := ?sw) hE (EV.tuple (ES.cons (EV.subscript (EV.tuple (ES.cons (EV.int ?_)))))))
  case sw => revert env; rintro ⟨⟩ rfl; rfl
  refine ES.cons (EV.unary (EV.int (O1.neg ?_)))
  refine ES.cons (EV.binop (EV.int (EV.int (O2.pow ?_ (by decide) pw10))))
  refine ES.cons (EV.binop (EV.int (EV.binop (EV.int (EV.int (O2.pow (O2.sub ?_) (by decide) pw10))))))
  refine ES.nil ⟨lz, ?_⟩
  refine EV.callG (congrArg Scope.names hE) rfl (g__law_draw hC) (k__law_draw hC) (ES.cons (EV.name rfl (ES.cons (EV.int (ES.nil (OC.to (C_draw' hC hS (by omega) hz (by omega)) ?_))))))
  rintro _ H1 ⟨⟨hS1, hf1⟩, v, rfl, hv0, hv1⟩
  obtain ⟨f0, hp, _⟩ := pick4 (a := 0) (b := -4) (c := 10 ^ 20) (d := 0 - 10 ^ 20) hv0 hv1
  refine O2.tupAt hp hv0 ?_
  refine ES.cons (EV.listT (ES.nil ⟨lz, fun l hl => ES.nil ⟨lz, _, _, rfl, ?_⟩⟩))
  have hlS : l ≠ S := fun z => by rw [z, hS1] at hl; cases hl
  have hlH : H l = none := (hf1 l hlS).symm.trans hl
  refine XS.cons (X1.for (IV.range (EV.glob (congrArg Scope.names hE) rfl (g_range hC) ⟨rfl, EV.binop (EV.int (EV.callG (congrArg Scope.names hE) rfl (g__law_draw hC) (k__law_draw hC) (ES.cons (EV.name rfl (ES.cons (EV.int (ES.nil (OC.to (C_draw' hC (k := k + 1) ((upd_ne hlS.symm).trans hS1) (by omega) hz (by omega)) ?_))))))))⟩)))
  rintro _ H2 ⟨⟨hS2, hf2⟩, v2, rfl, hw0, hw1⟩
  refine O2.add ⟨(1 + v2).toNat, by rw [Int.toNat_of_nonneg (by omega)], by omega, .inl rfl, ?_⟩
  have hl2 : H2 l = some (.list []) := (hf2 l hlS).trans (upd_same ..)
  refine FOR.plain (fun i rest m H' => m.lookup ("sieve" : Str) = some (D.ref S) ∧ m.lookup ("found" : Str) = some (D.ref l) ∧ (i : Nat) + rest.length ≤ 3 ∧ (i = 0 → rest ≠ []) ∧ ∃ (f : Int) (fd : Dm) (k' : Nat), m.lookup ("first" : Str) = some (D.int f) ∧ H' l = some (.list (fd.map pr)) ∧ H' S = some (sieve cs k') ∧ (∀ b, b ≠ S → b ≠ l → H' b = H b) ∧
    k' ≤ k + 2 + 3 * i ∧ fd.length = i ∧ (∀ p ∈ fd, p.1 ≤ p.2 ∧ p.2 < f) ∧ fd.Pairwise fun p q => p.2 < q.1) (List.range (1 + v2).toNat) ?_ ?_ ?_
  · refine ⟨rfl, rfl, by rw [List.length_range]; omega, fun _ => ?_, f0, [], k + 1 + 1, rfl, hl2, hS2, fun b hb hb2 => (hf2 b hb).trans ((upd_ne hb2).trans (hf1 b hb)), by omega, rfl, by simp, by simp⟩
    intro z
    have := congrArg List.length z
    rw [List.length_range, List.length_nil] at this
    omega
  · rintro i j rest m H' ⟨m1, m2, hi, _, f, fd, k', m3, hL, hSv, hfr, hk', hln, hb, hup⟩
    simp only [List.length_cons] at hi
    refine AT.name hE ?_
    refine XS.cons (X1.assign hE (EV.binop (EV.name (lk_tl rfl m3) (EV.subscript (EV.tuple (ES.cons (EV.int ?_)))))))
    refine ES.cons (EV.callG (congrArg Scope.names hE) rfl (g__law_draw hC) (k__law_draw hC) (ES.cons (EV.name (lk_tl rfl m1) (ES.cons (EV.int (ES.nil (OC.to (C_draw' hC hSv (by omega) hz (by omega)) ?_)))))))
    rintro _ H3 ⟨⟨hS3, hf3⟩, w, rfl, hx0, hx1⟩
    refine ES.cons (EV.binop (EV.binop (EV.int (EV.int (O2.pow (EV.int (O2.sub ?_)) (by decide) pw10)))))
    refine ES.cons (EV.binop (EV.binop (EV.int (EV.int (O2.pow (EV.int (O2.add ?_)) (by decide) pw10)))))
    refine ES.nil ⟨lz, ?_⟩
    refine EV.callG (congrArg Scope.names hE) rfl (g__law_draw hC) (k__law_draw hC) (ES.cons (EV.name (lk_tl rfl m1) (ES.cons (EV.int (ES.nil (OC.to (C_draw' hC hS3 (by omega) hz (by omega)) ?_))))))
    rintro _ H4 ⟨⟨hS4, hf4⟩, u, rfl, hu0, hu1⟩
    obtain ⟨w', hp', hw'⟩ := pick4 (a := 0) (b := w) (c := 10 ^ 20 - 3) (d := 10 ^ 20 + 1) hu0 hu1
    have hw'0 : 0 ≤ w' := by omega
    refine O2.tupAt hp' hu0 (O2.add ?_)
    have hL4 : H4 l = some (.list (fd.map pr)) := (hf4 l hlS).trans ((hf3 l hlS).trans hL)
    refine XS.cons (X1.expr (EV.method (EV.name (lk_tl rfl (lk_tl rfl m2)) (MC.append hL4 (EV.tuple (ES.cons (EV.name (lk_tl rfl (lk_tl rfl m3)) (ES.cons (EV.name rfl (ES.nil ⟨lz, _, hL4, ?_, ?_⟩))))))))))
    · rw [List.length_map, sizeLine_eq]; omega
    have e1 : fd.map pr ++ [.tup [.int f, .int (f + w')]] = (fd ++ [(f, f + w')]).map pr := by simp [pr]
    rw [e1]
    have hS5 : upd H4 l (.list ((fd ++ [(f, f + w')]).map pr)) S = some (sieve cs (k' + 1 + 1)) := (upd_ne hlS.symm).trans hS4
    refine XS.cons (X1.assign hE (EV.binop (EV.binop (EV.name rfl (EV.int (O2.add (EV.callG (congrArg Scope.names hE) rfl (g__law_draw hC) (k__law_draw hC) (ES.cons (EV.name (lk_tl rfl (lk_tl rfl m1)) (ES.cons (EV.int (ES.nil (OC.to (C_draw' hC hS5 (by omega) hz (by omega)) ?_)))))))))))))
    rintro _ H6 ⟨⟨hS6, hf6⟩, z, rfl, hz0, hz1⟩
    refine O2.add (XS.nil ⟨lk_tl rfl (lk_tl rfl (lk_tl rfl m1)), lk_tl rfl (lk_tl rfl (lk_tl rfl m2)), by omega, by omega, f + w' + 2 + z, fd ++ [(f, f + w')], k' + 1 + 1 + 1, rfl, (hf6 l hlS).trans (upd_same ..), hS6, ?_, by omega, by simp [hln], ?_, ?_⟩)
    · intro b hb1 hb2
      exact (hf6 b hb1).trans ((upd_ne hb2).trans ((hf4 b hb1).trans ((hf3 b hb1).trans (hfr b hb1 hb2))))
    · intro p hp
      rcases List.mem_append.mp hp with h | h
      · have := hb p h; omega
      · rw [List.mem_singleton.mp h]; dsimp only; omega
    · rw [List.pairwise_append]
      refine ⟨hup, by simp, fun p hp q hq => ?_⟩
      rw [List.mem_singleton.mp hq]
      exact (hb p hp).2
  · rintro i m H' ⟨m1, m2, hi, hi0, f, fd, k', m3, hL, hSv, hfr, hk', hln, hb, hup⟩
    simp only [List.length_nil] at hi
    refine XS.freeze m2 hL ?_
    refine XS.cons (X1.ret (EV.callG (congrArg Scope.names hE) rfl (g_tuple hC) (k_tuple hC) (ES.cons (EV.name lk_hd (ES.nil (OC.tupleL ?_ ⟨fd, k', rfl, by omega, ?_, ?_, ⟨?_, fun p hp => (hb p hp).1, hup⟩, by omega⟩))))))
    · rw [List.length_map, sizeLine_eq]; omega
    · unfold drp; rw [if_neg hlS.symm]; exact hSv
    · intro b hb
      unfold drp
      by_cases z : b = l
      · rw [if_pos z, z]; exact hlH.symm
      · rw [if_neg z]; exact hfr b hb z
    · intro z
      have : i ≠ 0 := fun h => hi0 h rfl
      rw [z] at hln; simp at hln; omega

end Mine

open PySem PySem.W PyProof.Rows
set_option Elab.async false
set_option linter.unusedVariables false
set_option maxRecDepth 100000
namespace Mine
noncomputable def fitS (c a b most : Int) : Dm :=
  if 0 < c then (if a ≤ most.fdiv c then [(a, min b (most.fdiv c))] else [])
  else (if -(most.fdiv (-c)) ≤ b then [(max a (-(most.fdiv (-c))), b)] else [])
theorem fdiv_iff {c v most : Int} (h : 0 < c) : c * v ≤ most ↔ v ≤ most.fdiv c := by
  rw [Int.fdiv_eq_ediv_of_nonneg _ (Int.le_of_lt h), Int.le_ediv_iff_mul_le h, Int.mul_comm]
theorem fdiv_iff' {c v most : Int} (h : c < 0) : c * v ≤ most ↔ -(most.fdiv (-c)) ≤ v := by
  have := fdiv_iff (c := -c) (v := -v) (most := most) (by omega)
  rw [Int.neg_mul_neg] at this
  rw [this]; omega
theorem half_le (a b : Int) (h : a + 1 < b) : a < (a + b).fdiv 2 ∧ (a + b).fdiv 2 < b := by
  rw [Int.fdiv_eq_ediv_of_nonneg _ (by decide)]; omega
variable {C : Cx} {n : Nat} {H : AH} {P : Ad} {σ : Sg}
theorem C_fitting (hC : IsC C) {c a b most : Int} (h0 : c ≠ 0) (h1 : -(2 ^ 63) < c) (h2 : c < 2 ^ 63) (hab : a ≤ b) : CL C (n + 1) (.ref 295) [.int c, .int a, .int b, .int most] H fun r H' => H' = H ∧ r = dom (fitS c a b most) := by
  refine' CL.def (names := ["coef", "first", "last", "most"]) ⟨⟨⟨_, _, _, _, _, _, _, _, _, _, _, _, _⟩, ?h1, ?h2, ?h3⟩, ?h4, ?h5, ?h6, ?h7, ?h8, ?h9⟩ rfl ?main
  case h1 => rw [hC.K]; exact rfl
  case h2 => rw [hC.K]; kernel_rfl
  case h3 => exact allS fun _ => allS fun _ => allS fun _ => allS fun _ => all0 rfl
  case h4 => decide +kernel
  case h5 => decide +kernel
  case h6 => decide +kernel
  case h7 => decide +kernel
  case h8 => rfl
  case h9 => exact ⟨rfl, rfl⟩
  intro env hE
  refine XS.cons (X1.assignTup (EV.ifExp (TS.compare (EV.name rfl (EV.int (O2.gt (TV.bool ?_)))))))
  by_cases q : 0 < c
  · rw [decide_eq_true q]
    unfold fitS
    rw [if_pos q]
    refine EV.tuple (ES.cons (EV.name rfl (ES.cons (EV.name rfl (ES.nil ⟨lz, ?_⟩)))))
    refine AT.tuple (ATs.cons (AT.name hE (ATs.cons (AT.name hE (ATs.nil ?_)))))
    refine XS.cons (X1.ite (TS.compare (EV.binop (EV.name rfl (EV.name rfl (O2.mul (EV.name rfl (O2.gt (TV.bool ?_))) (by omega) (by omega)))))))
    by_cases q1 : most < c * a
    · rw [decide_eq_true q1, if_neg (show ¬ a ≤ most.fdiv c from fun z => by have := (fdiv_iff q).mpr z; omega)]
      exact XS.cons (X1.ret (EV.tuple (ES.nil ⟨lz, rfl, rfl⟩)))
    have q1' : a ≤ most.fdiv c := (fdiv_iff q).mp (by omega)
    rw [decide_eq_false q1, if_pos q1']
    refine XS.nil (XS.cons (X1.ite (TS.compare (EV.binop (EV.name rfl (EV.name rfl (O2.mul (EV.name rfl (O2.le (TV.bool ?_))) (by omega) (by omega))))))))
    by_cases q2 : c * b ≤ most
    · have q2' := (fdiv_iff q).mp q2
      rw [decide_eq_true q2, show min b (most.fdiv c) = b by omega]
      exact XS.cons (X1.ret (EV.tuple (ES.cons (EV.tuple (ES.cons (EV.name rfl (ES.cons (EV.name rfl (ES.nil ⟨lz, ES.nil ⟨lz, rfl, rfl⟩⟩)))))))))
    have q2' : most.fdiv c < b := by
      have := mt (fdiv_iff (most := most) (v := b) q).mpr q2; omega
    rw [decide_eq_false q2, show min b (most.fdiv c) = most.fdiv c by omega]
    refine XS.nil (XS.cons (X1.while (fun k m H' => H' = H ∧ m.lookup ("coef" : Str) = some (D.int c) ∧ m.lookup ("first" : Str) = some (D.int a) ∧ m.lookup ("most" : Str) = some (D.int most) ∧
      ∃ g d : Int, m.lookup ("good" : Str) = some (D.int g) ∧ m.lookup ("bad" : Str) = some (D.int d) ∧ g ≤ most.fdiv c ∧ most.fdiv c < d ∧ k = (d - g).toNat) _ ⟨rfl, rfl, rfl, rfl, a, b, rfl, rfl, q1', q2', rfl⟩ ?_))
    rintro k m H' ⟨rfl, m1, m2, m3, g, d, m4, m5, i1, i2, rfl⟩
    refine TS.compare (EV.callG (congrArg Scope.names hE) rfl (g_abs hC) (k_abs hC) (ES.cons (EV.binop (EV.name m5 (EV.name m4 (O2.sub (ES.nil (OC.absI ?_))))))))
    rw [if_neg (show ¬ d - g < 0 by omega)]
    refine EV.int (O2.gt (TV.bool ?_))
    by_cases q3 : 1 < d - g
    · rw [decide_eq_true q3]
      obtain ⟨j1, j2⟩ := half_le g d (by omega)
      refine XS.cons (X1.assign hE (EV.binop (EV.binop (EV.name m4 (EV.name m5 (O2.add (EV.int (O2.floordiv ?_ (by decide) (by decide) (by decide)))))))))
      refine XS.cons (X1.assignTup (EV.ifExp (TS.compare (EV.binop (EV.name (lk_tl rfl m1) (EV.name rfl (O2.mul (EV.name (lk_tl rfl m3) (O2.le (TV.bool ?_))) (by omega) (by omega))))))))
      by_cases q4 : c * (g + d).fdiv 2 ≤ most
      · rw [decide_eq_true q4]
        refine EV.tuple (ES.cons (EV.name rfl (ES.cons (EV.name (lk_tl rfl m5) (ES.nil ⟨lz, ?_⟩)))))
        refine AT.tuple (ATs.cons (AT.name hE (ATs.cons (AT.name hE (ATs.nil (XS.nil ⟨(d - (g + d).fdiv 2).toNat, by omega, rfl, lk_tl rfl (lk_tl rfl (lk_tl rfl m1)), lk_tl rfl (lk_tl rfl (lk_tl rfl m2)), lk_tl rfl (lk_tl rfl (lk_tl rfl m3)), _, _, rfl, rfl, (fdiv_iff q).mp q4, i2, rfl⟩))))))
      · rw [decide_eq_false q4]
        refine EV.tuple (ES.cons (EV.name (lk_tl rfl m4) (ES.cons (EV.name rfl (ES.nil ⟨lz, ?_⟩)))))
        refine AT.tuple (ATs.cons (AT.name hE (ATs.cons (AT.name hE (ATs.nil (XS.nil ⟨((g + d).fdiv 2 - g).toNat, by omega, rfl, lk_tl rfl (lk_tl rfl (lk_tl rfl m1)), lk_tl rfl (lk_tl rfl (lk_tl rfl m2)), lk_tl rfl (lk_tl rfl (lk_tl rfl m3)), _, _, rfl, rfl, i1, ?_, rfl⟩))))))
        have := mt (fdiv_iff (most := most) (v := (g + d).fdiv 2) q).mpr q4; omega
    · rw [decide_eq_false q3]
      refine XS.cons (X1.ret (EV.ifExp (TS.compare (EV.name m1 (EV.int (O2.gt (TV.bool ?_)))))))
      rw [decide_eq_true q]
      refine EV.tuple (ES.cons (EV.tuple (ES.cons (EV.name m2 (ES.cons (EV.name m4 (ES.nil ⟨lz, ES.nil ⟨lz, rfl, ?_⟩⟩)))))))
      rw [show most.fdiv c = g by omega]; rfl
  · have qn : c < 0 := by omega
    rw [decide_eq_false q]
    unfold fitS
    rw [if_neg q]
    refine EV.tuple (ES.cons (EV.name rfl (ES.cons (EV.name rfl (ES.nil ⟨lz, ?_⟩)))))
    refine AT.tuple (ATs.cons (AT.name hE (ATs.cons (AT.name hE (ATs.nil ?_)))))
    refine XS.cons (X1.ite (TS.compare (EV.binop (EV.name rfl (EV.name rfl (O2.mul (EV.name rfl (O2.gt (TV.bool ?_))) (by omega) (by omega)))))))
    by_cases q1 : most < c * b
    · rw [decide_eq_true q1, if_neg (show ¬ -(most.fdiv (-c)) ≤ b from fun z => by have := (fdiv_iff' qn).mpr z; omega)]
      exact XS.cons (X1.ret (EV.tuple (ES.nil ⟨lz, rfl, rfl⟩)))
    have q1' : -(most.fdiv (-c)) ≤ b := (fdiv_iff' qn).mp (by omega)
    rw [decide_eq_false q1, if_pos q1']
    refine XS.nil (XS.cons (X1.ite (TS.compare (EV.binop (EV.name rfl (EV.name rfl (O2.mul (EV.name rfl (O2.le (TV.bool ?_))) (by omega) (by omega))))))))
    by_cases q2 : c * a ≤ most
    · have q2' := (fdiv_iff' qn).mp q2
      rw [decide_eq_true q2, show max a (-(most.fdiv (-c))) = a by omega]
      exact XS.cons (X1.ret (EV.tuple (ES.cons (EV.tuple (ES.cons (EV.name rfl (ES.cons (EV.name rfl (ES.nil ⟨lz, ES.nil ⟨lz, rfl, rfl⟩⟩)))))))))
    have q2' : a < -(most.fdiv (-c)) := by
      have := mt (fdiv_iff' (most := most) (v := a) qn).mpr q2; omega
    rw [decide_eq_false q2, show max a (-(most.fdiv (-c))) = -(most.fdiv (-c)) by omega]
    refine XS.nil (XS.cons (X1.while (fun k m H' => H' = H ∧ m.lookup ("coef" : Str) = some (D.int c) ∧ m.lookup ("last" : Str) = some (D.int b) ∧ m.lookup ("most" : Str) = some (D.int most) ∧
      ∃ g d : Int, m.lookup ("good" : Str) = some (D.int g) ∧ m.lookup ("bad" : Str) = some (D.int d) ∧ -(most.fdiv (-c)) ≤ g ∧ d < -(most.fdiv (-c)) ∧ k = (g - d).toNat) _ ⟨rfl, rfl, rfl, rfl, b, a, rfl, rfl, q1', q2', rfl⟩ ?_))
    rintro k m H' ⟨rfl, m1, m2, m3, g, d, m4, m5, i1, i2, rfl⟩
    refine TS.compare (EV.callG (congrArg Scope.names hE) rfl (g_abs hC) (k_abs hC) (ES.cons (EV.binop (EV.name m5 (EV.name m4 (O2.sub (ES.nil (OC.absI ?_))))))))
    rw [if_pos (show d - g < 0 by omega)]
    refine EV.int (O2.gt (TV.bool ?_))
    by_cases q3 : 1 < -(d - g)
    · rw [decide_eq_true q3]
      obtain ⟨j1, j2⟩ := half_le d g (by omega)
      rw [Int.add_comm d g] at j1 j2
      refine XS.cons (X1.assign hE (EV.binop (EV.binop (EV.name m4 (EV.name m5 (O2.add (EV.int (O2.floordiv ?_ (by decide) (by decide) (by decide)))))))))
      refine XS.cons (X1.assignTup (EV.ifExp (TS.compare (EV.binop (EV.name (lk_tl rfl m1) (EV.name rfl (O2.mul (EV.name (lk_tl rfl m3) (O2.le (TV.bool ?_))) (by omega) (by omega))))))))
      by_cases q4 : c * (g + d).fdiv 2 ≤ most
      · rw [decide_eq_true q4]
        refine EV.tuple (ES.cons (EV.name rfl (ES.cons (EV.name (lk_tl rfl m5) (ES.nil ⟨lz, ?_⟩)))))
        refine AT.tuple (ATs.cons (AT.name hE (ATs.cons (AT.name hE (ATs.nil (XS.nil ⟨((g + d).fdiv 2 - d).toNat, by omega, rfl, lk_tl rfl (lk_tl rfl (lk_tl rfl m1)), lk_tl rfl (lk_tl rfl (lk_tl rfl m2)), lk_tl rfl (lk_tl rfl (lk_tl rfl m3)), _, _, rfl, rfl, (fdiv_iff' qn).mp q4, i2, rfl⟩))))))
      · rw [decide_eq_false q4]
        refine EV.tuple (ES.cons (EV.name (lk_tl rfl m4) (ES.cons (EV.name rfl (ES.nil ⟨lz, ?_⟩)))))
        refine AT.tuple (ATs.cons (AT.name hE (ATs.cons (AT.name hE (ATs.nil (XS.nil ⟨(g - (g + d).fdiv 2).toNat, by omega, rfl, lk_tl rfl (lk_tl rfl (lk_tl rfl m1)), lk_tl rfl (lk_tl rfl (lk_tl rfl m2)), lk_tl rfl (lk_tl rfl (lk_tl rfl m3)), _, _, rfl, rfl, i1, ?_, rfl⟩))))))
        have := mt (fdiv_iff' (most := most) (v := (g + d).fdiv 2) qn).mpr q4; omega
    · rw [decide_eq_false q3]
      refine XS.cons (X1.ret (EV.ifExp (TS.compare (EV.name m1 (EV.int (O2.gt (TV.bool ?_)))))))
      rw [decide_eq_false q]
      refine EV.tuple (ES.cons (EV.tuple (ES.cons (EV.name m4 (ES.cons (EV.name m2 (ES.nil ⟨lz, ES.nil ⟨lz, rfl, ?_⟩⟩)))))))
      rw [show -(most.fdiv (-c)) = g by omega]; rfl

theorem foldl_max (l : List Int) : ∀ a : Int, (l.foldl max a ∈ a :: l) ∧ ∀ x ∈ a :: l, x ≤ l.foldl max a := by
  induction l with
  | nil => intro a; simp
  | cons b l ih =>
    intro a
    obtain ⟨h1, h2⟩ := ih (max a b)
    rw [List.foldl_cons]
    constructor
    · rcases List.mem_cons.mp h1 with h | h
      · rw [h]
        by_cases q : a ≤ b
        · rw [Int.max_eq_right q]; simp
        · rw [Int.max_eq_left (by omega)]; simp
      · exact List.mem_cons_of_mem _ (List.mem_cons_of_mem _ h)
    · intro x hx
      have hm := h2 (max a b) (List.mem_cons_self ..)
      rcases List.mem_cons.mp hx with rfl | hx
      · omega
      · rcases List.mem_cons.mp hx with rfl | hx
        · omega
        · exact h2 x (List.mem_cons_of_mem _ hx)
theorem foldl_min (l : List Int) : ∀ a : Int, (l.foldl min a ∈ a :: l) ∧ ∀ x ∈ a :: l, l.foldl min a ≤ x := by
  induction l with
  | nil => intro a; simp
  | cons b l ih =>
    intro a
    obtain ⟨h1, h2⟩ := ih (min a b)
    rw [List.foldl_cons]
    constructor
    · rcases List.mem_cons.mp h1 with h | h
      · rw [h]
        by_cases q : a ≤ b
        · rw [Int.min_eq_left q]; simp
        · rw [Int.min_eq_right (by omega)]; simp
      · exact List.mem_cons_of_mem _ (List.mem_cons_of_mem _ h)
    · intro x hx
      have hm := h2 (min a b) (List.mem_cons_self ..)
      rcases List.mem_cons.mp hx with rfl | hx
      · omega
      · rcases List.mem_cons.mp hx with rfl | hx
        · omega
        · exact h2 x (List.mem_cons_of_mem _ hx)
noncomputable def loOf (some' : List Lit) (x : Nat) : List Int := (some'.filter fun l => decide (l.x = x) && !l.le).map (·.k)
noncomputable def hiOf (some' : List Lit) (x : Nat) : List Int := (some'.filter fun l => decide (l.x = x) && l.le).map (·.k)
noncomputable def contrib (firsts : List Dm) (some' : List Lit) (r : Row) : Int :=
  if 0 < r.1 then r.1 * (loOf some' r.2).foldl max (lowD (firsts.getD r.2 [])) else r.1 * (hiOf some' r.2).foldl min (highD (firsts.getD r.2 []))
noncomputable def tooS (rows : List Row) (firsts : List Dm) (some' : List Lit) (c : Int) : Bool := decide (c < (rows.map (contrib firsts some')).sum)
theorem sgn_ge (b : Bool) : ((sgn b : Str) == ">=") = !b := by cases b <;> decide +kernel
theorem sgn_le (b : Bool) : ((sgn b : Str) == "<=") = b := by cases b <;> decide +kernel
theorem C_too_much (hC : IsC C) {rows : List Row} {firsts : List Dm} {some' : List Lit} {c : Int} (hf : ∀ d ∈ firsts, d ≠ []) (hzf : firsts.length ≤ 100) (hz : some'.length ≤ 900) (hr : ∀ r ∈ rows, -(2 ^ 63) < r.1 ∧ r.1 < 2 ^ 63 ∧ r.2 < firsts.length) :
    CL C (n + 1) (.ref 307) [.lst (rows.map row), .lst (firsts.map dom), .lst (some'.map lit), .int c] H fun r H' => H' = H ∧ r = .bool (tooS rows firsts some' c) := by
  refine' CL.def (names := ["rows", "firsts", "some", "c"]) ⟨⟨⟨_, _, _, _, _, _, _, _, _, _, _, _, _⟩, ?h1, ?h2, ?h3⟩, ?h4, ?h5, ?h6, ?h7, ?h8, ?h9⟩ rfl ?main
  case h1 => rw [hC.K]; exact rfl
  case h2 => rw [hC.K]; kernel_rfl
  case h3 => exact allS fun _ => allS fun _ => allS fun _ => allS fun _ => all0 rfl
  case h4 => decide +kernel
  case h5 => decide +kernel
  case h6 => decide +kernel
  case h7 => decide +kernel
  case h8 => rfl
  case h9 => exact ⟨rfl, rfl⟩
  intro env hE
  refine XS.cons (X1.assign hE (EV.int ?_))
  refine XS.cons (X1.for (IV.seq (EV.name rfl ⟨rows.map row, .inr rfl, .inl rfl, ?_⟩)))
  refine FOR.plain (fun i rest m H' => H' = H ∧ m.lookup ("firsts" : Str) = some (D.lst (firsts.map dom)) ∧ m.lookup ("some" : Str) = some (D.lst (some'.map lit)) ∧ m.lookup ("c" : Str) = some (D.int c) ∧ (∀ r ∈ rest, r ∈ rows) ∧ ∃ t : Int, m.lookup ("total" : Str) = some (D.int t) ∧ t + (rest.map (contrib firsts some')).sum = (rows.map (contrib firsts some')).sum) rows ⟨rfl, rfl, rfl, rfl, fun _ h => h, 0, rfl, by omega⟩ ?_ ?_
  · rintro i r rest m H' ⟨rfl, m1, m2, m3, hsub, t, m4, ht⟩
    obtain ⟨h1, h2, h3⟩ := hr r (hsub r (List.mem_cons_self ..))
    have hd : firsts[r.2]? = some (firsts.getD r.2 []) := by rw [List.getD_eq_getElem?_getD, List.getElem?_eq_getElem h3]; rfl
    generalize hdd : firsts.getD r.2 [] = d at hd
    have hne : d ≠ [] := hf d (List.mem_of_getElem? hd)
    obtain ⟨p, a1, a2⟩ := low_at hne
    obtain ⟨p', b1, b2⟩ := high_at hne
    have hsz : some'.length ≤ sizeLine := by rw [sizeLine_eq]; omega
    refine AT.tuple (ATs.cons (AT.name hE (ATs.cons (AT.name hE (ATs.nil ?_)))))
    have hsub' : ∀ r ∈ rest, r ∈ rows := fun r hr => hsub r (List.mem_cons_of_mem _ hr)
    refine XS.cons (X1.assign hE (EV.binop (EV.list (ES.cons (EV.subscript (EV.subscript (EV.subscript (EV.name (lk_tl rfl (lk_tl rfl m1)) (EV.name rfl (O2.lstAt (d := dom d) (at_map hd) (Int.natCast_nonneg _) ?_ (lt63 hd hzf)))))))))))
    refine EV.int (O2.tupAt (d := pr p) (by simp [a1]) (by decide) (EV.int (O2.tupAt rfl (by decide) (ES.nil ⟨lz, ?_⟩))))
    refine EV.comp (mc := [("x", .int r.2)]) hE (by repeat (first | exact Cap.nil | refine Cap.skip rfl ?_ | refine Cap.take rfl rfl ?_)) (IV.seq (EV.name (lk_tl rfl (lk_tl rfl m2)) ⟨_, .inr rfl, CompOk.pure some' (fun l => if (decide (l.x = r.2) && !l.le) = true then some (D.int l.k) else none) hsz (fun cenv hE' l hl H' hx => ?_) ?_ (.inl rfl)⟩))
    · refine AT.tuple (ATs.cons (AT.name hE' (ATs.cons (AT.name hE' (ATs.cons (AT.name hE' (ATs.nil ⟨.cons rfl (.cons rfl (.cons rfl .refl)), TSS.one (TS.and (TS.compare (EV.name rfl (EV.name rfl (O2.eqI (TV.bool ?_))))))⟩)))))))
      by_cases q : l.x = r.2
      · rw [show ((l.x : Int) == (r.2 : Int)) = true by simp [q], decide_eq_true q]
        refine TS.and (TS.compare (EV.name rfl (EV.str (O2.eqS (TV.bool ?_)))))
        rw [sgn_ge]
        cases hq : l.le with
        | true => exact ⟨rfl, rfl⟩
        | false => exact TS.andNil (EV.name rfl ⟨rfl, rfl⟩)
      · rw [show ((l.x : Int) == (r.2 : Int)) = false by rw [beq_eq_false_iff_ne]; omega, decide_eq_false q]
        exact ⟨rfl, rfl⟩
    rw [filterMap_sel]
    refine O2.addL ?_ ?_
    rotate_left
    · have := List.length_filter_le (fun l : Lit => decide (l.x = r.2) && !l.le) some'
      rw [List.length_map, List.length_singleton, sizeLine_eq]; omega
    have el : [D.int p.1] ++ (some'.filter fun l => decide (l.x = r.2) && !l.le).map (fun l => D.int l.k) = (lowD d :: loOf some' r.2).map D.int := by rw [a2, loOf, List.map_cons, List.map_map]; rfl
    rw [el]
    refine XS.cons (X1.assign hE (EV.binop (EV.list (ES.cons (EV.subscript (EV.subscript (EV.subscript (EV.name (lk_tl rfl (lk_tl rfl (lk_tl rfl m1))) (EV.name rfl (O2.lstAt (d := dom d) (at_map hd) (Int.natCast_nonneg _) ?_ (lt63 hd hzf)))))))))))
    refine EV.unary (EV.int (O1.neg (O2.tupLast (d := pr p') (by simp [b1]) (EV.int (O2.tupAt rfl (by decide) (ES.nil ⟨lz, ?_⟩))))))
    refine EV.comp (mc := [("x", .int r.2)]) hE (by repeat (first | exact Cap.nil | refine Cap.skip rfl ?_ | refine Cap.take rfl rfl ?_)) (IV.seq (EV.name (lk_tl rfl (lk_tl rfl (lk_tl rfl m2))) ⟨_, .inr rfl, CompOk.pure some' (fun l => if (decide (l.x = r.2) && l.le) = true then some (D.int l.k) else none) hsz (fun cenv hE' l hl H' hx => ?_) ?_ (.inl rfl)⟩))
    · refine AT.tuple (ATs.cons (AT.name hE' (ATs.cons (AT.name hE' (ATs.cons (AT.name hE' (ATs.nil ⟨.cons rfl (.cons rfl (.cons rfl .refl)), TSS.one (TS.and (TS.compare (EV.name rfl (EV.name rfl (O2.eqI (TV.bool ?_))))))⟩)))))))
      by_cases q : l.x = r.2
      · rw [show ((l.x : Int) == (r.2 : Int)) = true by simp [q], decide_eq_true q]
        refine TS.and (TS.compare (EV.name rfl (EV.str (O2.eqS (TV.bool ?_)))))
        rw [sgn_le]
        cases hq : l.le with
        | false => exact ⟨rfl, rfl⟩
        | true => exact TS.andNil (EV.name rfl ⟨rfl, rfl⟩)
      · rw [show ((l.x : Int) == (r.2 : Int)) = false by rw [beq_eq_false_iff_ne]; omega, decide_eq_false q]
        exact ⟨rfl, rfl⟩
    rw [filterMap_sel]
    refine O2.addL ?_ ?_
    rotate_left
    · have := List.length_filter_le (fun l : Lit => decide (l.x = r.2) && l.le) some'
      rw [List.length_map, List.length_singleton, sizeLine_eq]; omega
    have eh : [D.int p'.2] ++ (some'.filter fun l => decide (l.x = r.2) && l.le).map (fun l => D.int l.k) = (highD d :: hiOf some' r.2).map D.int := by rw [b2, hiOf, List.map_cons, List.map_map]; rfl
    rw [eh]
    rw [List.map_cons, List.sum_cons] at ht
    refine XS.cons (X1.assign hE (EV.binop (EV.name (lk_tl rfl (lk_tl rfl (lk_tl rfl (lk_tl rfl m4)))) (EV.ifExp (TS.compare (EV.name rfl (EV.int (O2.gt (TV.bool ?_)))))))))
    by_cases q : 0 < r.1
    · rw [decide_eq_true q]
      refine EV.binop (EV.name rfl (EV.callG (congrArg Scope.names hE) rfl (g_max hC) (k_max hC) (ES.cons (EV.name rfl (ES.nil (OC.maxL (by simp) fun M hM1 hM2 => O2.mul (O2.add ?_) (by omega) (by omega)))))))
      refine XS.nil ⟨rfl, lk_tl rfl (lk_tl rfl (lk_tl rfl (lk_tl rfl (lk_tl rfl m1)))), lk_tl rfl (lk_tl rfl (lk_tl rfl (lk_tl rfl (lk_tl rfl m2)))), lk_tl rfl (lk_tl rfl (lk_tl rfl (lk_tl rfl (lk_tl rfl m3)))), hsub', _, rfl, ?_⟩
      have e : M = (loOf some' r.2).foldl max (lowD d) := by
        obtain ⟨x1, x2⟩ := foldl_max (loOf some' r.2) (lowD d)
        exact Int.le_antisymm (x2 M hM1) (hM2 _ x1)
      rw [← ht, contrib, if_pos q, hdd, e]; omega
    · rw [decide_eq_false q]
      refine EV.binop (EV.name rfl (EV.callG (congrArg Scope.names hE) rfl (g_min hC) (k_min hC) (ES.cons (EV.name rfl (ES.nil (OC.minL (by simp) fun M hM1 hM2 => O2.mul (O2.add ?_) (by omega) (by omega)))))))
      refine XS.nil ⟨rfl, lk_tl rfl (lk_tl rfl (lk_tl rfl (lk_tl rfl (lk_tl rfl m1)))), lk_tl rfl (lk_tl rfl (lk_tl rfl (lk_tl rfl (lk_tl rfl m2)))), lk_tl rfl (lk_tl rfl (lk_tl rfl (lk_tl rfl (lk_tl rfl m3)))), hsub', _, rfl, ?_⟩
      have e : M = (hiOf some' r.2).foldl min (highD d) := by
        obtain ⟨x1, x2⟩ := foldl_min (hiOf some' r.2) (highD d)
        exact Int.le_antisymm (hM2 _ x1) (x2 M hM1)
      rw [← ht, contrib, if_neg q, hdd, e]; omega
  · rintro i m H' ⟨rfl, m1, m2, m3, hsub, t, m4, ht⟩
    refine XS.cons (X1.ret (EV.compare (EV.name m4 (EV.name m3 (O2.gt ⟨rfl, ?_⟩)))))
    unfold tooS
    rw [← ht]; simp

end Mine

open PySem PySem.W PyProof.Rows
set_option Elab.async false
set_option linter.unusedVariables false
set_option maxRecDepth 100000
namespace Mine
theorem upTo_cons {p : Int × Int} {d : Dm} {k : Int} : upTo (p :: d) k = if p.1 ≤ k then (p.1, min p.2 k) :: upTo d k else upTo d k := by
  unfold upTo; rw [List.filter_cons]; by_cases h : p.1 ≤ k <;> simp [h]
theorem fromOn_cons {p : Int × Int} {d : Dm} {k : Int} : fromOn (p :: d) k = if k ≤ p.2 then (max p.1 k, p.2) :: fromOn d k else fromOn d k := by
  unfold fromOn; rw [List.filter_cons]; by_cases h : k ≤ p.2 <;> simp [h]
theorem upTo_idem (d : Dm) (k : Int) : upTo (upTo d k) k = upTo d k := by
  induction d with
  | nil => rfl
  | cons p d ih =>
    rw [upTo_cons]
    split
    · rename_i h
      rw [upTo_cons, if_pos h, ih]
      congr 2
      dsimp only; omega
    · exact ih
theorem fromOn_idem (d : Dm) (k : Int) : fromOn (fromOn d k) k = fromOn d k := by
  induction d with
  | nil => rfl
  | cons p d ih =>
    rw [fromOn_cons]
    split
    · rename_i h
      rw [fromOn_cons, if_pos h, ih]
      congr 2
      dsimp only; omega
    · exact ih
theorem struckL_idem (l : Lit) (d : Dm) : struckL l (struckL l d) = struckL l d := by
  unfold struckL; split
  · exact upTo_idem d l.k
  · exact fromOn_idem d l.k
theorem low_mem {d : Dm} (h : d ≠ []) : ∃ p ∈ d, p.1 = lowD d := by
  cases d with
  | nil => exact absurd rfl h
  | cons p d => exact ⟨p, List.mem_cons_self .., rfl⟩
theorem high_mem {d : Dm} (h : d ≠ []) : ∃ p ∈ d, p.2 = highD d :=
  ⟨d.getLast h, List.getLast_mem h, by unfold highD; rw [List.getLast?_eq_some_getLast h]; rfl⟩
theorem highD_snoc (d : Dm) (p : Int × Int) : highD (d ++ [p]) = p.2 := by unfold highD; simp
theorem DomOk.low_le {d : Dm} (h : DomOk d) : ∀ p ∈ d, lowD d ≤ p.1 := by
  cases d with
  | nil => intro p hp; cases hp
  | cons q d =>
    intro p hp
    rcases List.mem_cons.mp hp with rfl | hp
    · exact Int.le_refl _
    · have h1 := (List.pairwise_cons.mp h.up).1 p hp
      have h2 := h.le q (List.mem_cons_self ..)
      show q.1 ≤ p.1
      omega
theorem DomOk.high_ge {d : Dm} (h : DomOk d) : ∀ p ∈ d, p.2 ≤ highD d := by
  rcases List.eq_nil_or_concat d with rfl | ⟨d', q, rfl⟩
  · intro p hp; cases hp
  · intro p hp
    rw [List.concat_eq_append] at hp h ⊢
    rw [highD_snoc]
    rcases List.mem_append.mp hp with hp | hp
    · have h1 := (List.pairwise_append.mp h.up).2.2 p hp q (List.mem_singleton_self _)
      have h2 := h.le q (by simp)
      omega
    · rw [List.mem_singleton.mp hp]; exact Int.le_refl _
theorem DomOk.lh {d : Dm} (h : DomOk d) : lowD d ≤ highD d := by
  obtain ⟨p, hp, e⟩ := high_mem h.ne
  have := h.low_le p hp
  have := h.le p hp
  omega
theorem mem_upTo {d : Dm} {k : Int} {q : Int × Int} : q ∈ upTo d k ↔ ∃ p ∈ d, p.1 ≤ k ∧ q = (p.1, min p.2 k) := by
  unfold upTo; simp only [List.mem_map, List.mem_filter, decide_eq_true_eq]
  exact ⟨fun ⟨p, ⟨a, b⟩, c⟩ => ⟨p, a, b, c.symm⟩, fun ⟨p, a, b, c⟩ => ⟨p, ⟨a, b⟩, c.symm⟩⟩
theorem mem_fromOn {d : Dm} {k : Int} {q : Int × Int} : q ∈ fromOn d k ↔ ∃ p ∈ d, k ≤ p.2 ∧ q = (max p.1 k, p.2) := by
  unfold fromOn; simp only [List.mem_map, List.mem_filter, decide_eq_true_eq]
  exact ⟨fun ⟨p, ⟨a, b⟩, c⟩ => ⟨p, a, b, c.symm⟩, fun ⟨p, a, b, c⟩ => ⟨p, ⟨a, b⟩, c.symm⟩⟩
theorem upTo_ok {d : Dm} {k : Int} (h : DomOk d) (hn : upTo d k ≠ []) : DomOk (upTo d k) where
  ne := hn
  le p hp := by obtain ⟨q, hq, h1, rfl⟩ := mem_upTo.mp hp; have := h.le q hq; dsimp only; omega
  up := by
    unfold upTo
    rw [List.pairwise_map]
    refine (h.up.filter _).imp fun {a b} hab => ?_
    dsimp only; omega
theorem fromOn_ok {d : Dm} {k : Int} (h : DomOk d) (hn : fromOn d k ≠ []) : DomOk (fromOn d k) where
  ne := hn
  le p hp := by obtain ⟨q, hq, h1, rfl⟩ := mem_fromOn.mp hp; have := h.le q hq; dsimp only; omega
  up := by
    unfold fromOn
    rw [List.pairwise_map]
    refine (h.up.filter _).imp fun {a b} hab => ?_
    dsimp only; omega
theorem upTo_ne {d : Dm} {k : Int} (h : DomOk d) (hk : lowD d ≤ k) : upTo d k ≠ [] := by
  obtain ⟨p, hp, e⟩ := low_mem h.ne
  intro z
  have : (p.1, min p.2 k) ∈ upTo d k := mem_upTo.mpr ⟨p, hp, by omega, rfl⟩
  rw [z] at this; cases this
theorem fromOn_ne {d : Dm} {k : Int} (h : DomOk d) (hk : k ≤ highD d) : fromOn d k ≠ [] := by
  obtain ⟨p, hp, e⟩ := high_mem h.ne
  intro z
  have : (max p.1 k, p.2) ∈ fromOn d k := mem_fromOn.mpr ⟨p, hp, by omega, rfl⟩
  rw [z] at this; cases this
theorem upTo_facts {d : Dm} {k : Int} (h : DomOk d) (hn : upTo d k ≠ []) : lowD (upTo d k) = lowD d ∧ highD (upTo d k) ≤ k ∧ highD (upTo d k) ≤ highD d := by
  refine ⟨?_, ?_, ?_⟩
  · have ho := upTo_ok h hn
    obtain ⟨p, hp, e⟩ := low_mem hn
    obtain ⟨q, hq, h1, rfl⟩ := mem_upTo.mp hp
    have h2 := h.low_le q hq
    obtain ⟨r, hr, e3⟩ := low_mem h.ne
    have hm : (r.1, min r.2 k) ∈ upTo d k := mem_upTo.mpr ⟨r, hr, by omega, rfl⟩
    have := ho.low_le _ hm
    dsimp only at e this
    omega
  · obtain ⟨p, hp, e⟩ := high_mem hn
    obtain ⟨q, hq, h1, rfl⟩ := mem_upTo.mp hp
    dsimp only at e; omega
  · obtain ⟨p, hp, e⟩ := high_mem hn
    obtain ⟨q, hq, h1, rfl⟩ := mem_upTo.mp hp
    have := h.high_ge q hq
    dsimp only at e; omega
theorem fromOn_facts {d : Dm} {k : Int} (h : DomOk d) (hn : fromOn d k ≠ []) : highD (fromOn d k) = highD d ∧ k ≤ lowD (fromOn d k) ∧ lowD d ≤ lowD (fromOn d k) := by
  refine ⟨?_, ?_, ?_⟩
  · have ho := fromOn_ok h hn
    obtain ⟨p, hp, e⟩ := high_mem hn
    obtain ⟨q, hq, h1, rfl⟩ := mem_fromOn.mp hp
    have h2 := h.high_ge q hq
    obtain ⟨r, hr, e3⟩ := high_mem h.ne
    have hm : (max r.1 k, r.2) ∈ fromOn d k := mem_fromOn.mpr ⟨r, hr, by omega, rfl⟩
    have := ho.high_ge _ hm
    dsimp only at e this
    omega
  · obtain ⟨p, hp, e⟩ := low_mem hn
    obtain ⟨q, hq, h1, rfl⟩ := mem_fromOn.mp hp
    dsimp only at e; omega
  · obtain ⟨p, hp, e⟩ := low_mem hn
    obtain ⟨q, hq, h1, rfl⟩ := mem_fromOn.mp hp
    have := h.low_le q hq
    dsimp only at e; omega
theorem struckL_ok {l : Lit} {d : Dm} (h : DomOk d) (hn : struckL l d ≠ []) : DomOk (struckL l d) := by
  unfold struckL at hn ⊢; split at hn
  · rename_i q; rw [if_pos q]; exact upTo_ok h hn
  · rename_i q; rw [if_neg q]; exact fromOn_ok h hn
theorem struckL_in {l : Lit} {d : Dm} (h : DomOk d) (hn : struckL l d ≠ []) : lowD d ≤ lowD (struckL l d) ∧ highD (struckL l d) ≤ highD d := by
  unfold struckL at hn ⊢; split at hn
  · rename_i q; rw [if_pos q]; have := upTo_facts h hn; omega
  · rename_i q; rw [if_neg q]; have := fromOn_facts h hn; omega
theorem struckL_holds {l : Lit} {d : Dm} (h : DomOk d) (hn : struckL l d ≠ []) : holdsL l (struckL l d) = true := by
  unfold struckL at hn ⊢; unfold holdsL; split at hn
  · rename_i q; rw [if_pos q, if_pos q]; exact decide_eq_true (upTo_facts h hn).2.1
  · rename_i q; rw [if_neg q, if_neg q]; exact decide_eq_true (fromOn_facts h hn).2.1
theorem fit_flat (c most : Int) (d : Dm) : d.flatMap (fun p => fitS c p.1 p.2 most) = if 0 < c then upTo d (most.fdiv c) else fromOn d (-(most.fdiv (-c))) := by
  induction d with
  | nil => split <;> rfl
  | cons p d ih =>
    rw [List.flatMap_cons, ih]
    unfold fitS
    by_cases h : 0 < c
    · rw [if_pos h, if_pos h, if_pos h, upTo_cons]; split <;> rfl
    · rw [if_neg h, if_neg h, if_neg h, fromOn_cons]; split <;> rfl

structure Inv (σ : Sg) : Prop where
  ok : ∀ d ∈ σ.doms, DomOk d
  fok : ∀ d ∈ σ.firsts, DomOk d
  len : σ.firsts.length = σ.doms.length
  win : ∀ x, x < σ.doms.length → lowD (fs σ x) ≤ lowD (dm σ x) ∧ highD (dm σ x) ≤ highD (fs σ x)
theorem Inv.good {σ : Sg} (h : Inv σ) : Good σ := ⟨fun d hd => (h.ok d hd).ne, fun d hd => (h.fok d hd).ne⟩
theorem Inv.dm {σ : Sg} (h : Inv σ) {x : Nat} (hx : x < σ.doms.length) : DomOk (dm σ x) := h.ok _ (List.mem_of_getElem? (dm_at hx))
theorem dm_set {σ : Sg} {x y : Nat} {d : Dm} (hx : x < σ.doms.length) : (σ.doms.set x d).getD y [] = if x = y then d else dm σ y := by
  unfold Mine.dm
  simp only [List.getD_eq_getElem?_getD, List.getElem?_set]
  by_cases h : x = y
  · subst h; simp [hx]
  · simp [h]
theorem enterS_cases (l : Lit) (why : Option (List Lit)) (who : Int) {σ : Sg} (hx : l.x < σ.doms.length) (h : Inv σ) :
    (struckL l (dm σ l.x) = [] ∧ enterS l why who σ = (false, { σ with failed := true, clash := why.getD [] ++ [negL l] })) ∨
    (struckL l (dm σ l.x) ≠ [] ∧ struckL l (dm σ l.x) = dm σ l.x ∧ enterS l why who σ = (true, σ)) ∨
    (struckL l (dm σ l.x) ≠ [] ∧ struckL l (dm σ l.x) ≠ dm σ l.x ∧ enterS l why who σ = (true, { σ with doms := σ.doms.set l.x (struckL l (dm σ l.x)), trail := σ.trail ++ [⟨l.x, dm σ l.x, l, why, who⟩], news := σ.news + 1 })) := by
  unfold enterS
  show _ ∨ _ ∨ _
  have e : σ.doms.getD l.x [] = dm σ l.x := rfl
  rw [e]
  by_cases h1 : struckL l (dm σ l.x) = []
  · left; exact ⟨h1, by rw [if_pos h1]⟩
  · right
    by_cases h2 : struckL l (dm σ l.x) = dm σ l.x
    · left; exact ⟨h1, h2, by rw [if_neg h1, if_pos h2]⟩
    · right; exact ⟨h1, h2, by rw [if_neg h1, if_neg h2]⟩
theorem Inv.set {σ : Sg} (h : Inv σ) {x : Nat} {d : Dm} (hx : x < σ.doms.length) (hd : DomOk d) (h1 : lowD (Mine.dm σ x) ≤ lowD d) (h2 : highD d ≤ highD (Mine.dm σ x)) {t : List Ent} {k : Nat} : Inv { σ with doms := σ.doms.set x d, trail := t, news := k } where
  ok e he := by
    rcases List.mem_or_eq_of_mem_set he with z | rfl
    · exact h.ok e z
    · exact hd
  fok := h.fok
  len := by simp only [List.length_set]; exact h.len
  win y hy := by
    simp only [List.length_set] at hy
    have hw := h.win y hy
    have e : Mine.dm { σ with doms := σ.doms.set x d, trail := t, news := k } y = if x = y then d else Mine.dm σ y := dm_set hx
    rw [e]
    show lowD (fs σ y) ≤ _ ∧ _ ≤ highD (fs σ y)
    split
    · rename_i q; subst q; omega
    · exact hw

end Mine

open PySem PySem.W PyProof.Rows
set_option Elab.async false
set_option linter.unusedVariables false
set_option maxRecDepth 100000
namespace Mine
noncomputable def nd (R : Int) (σ : Sg) (r : Row) : Dm := struckL (litS R σ r) (dm σ r.2)
noncomputable def RowsOk (σ : Sg) (rows : List Row) : Prop := rows.Pairwise (fun a b => a.2 < b.2) ∧ ∀ r ∈ rows, RowOk σ r
theorem RowsOk.uniq {σ : Sg} {rows : List Row} (h : RowsOk σ rows) {a b : Row} (ha : a ∈ rows) (hb : b ∈ rows) (e : a.2 = b.2) : a = b := by
  have h1 := h.1
  clear h
  induction rows with
  | nil => cases ha
  | cons r rows ih =>
    have hp := List.pairwise_cons.mp h1
    rcases List.mem_cons.mp ha with za | ha <;> rcases List.mem_cons.mp hb with zb | hb
    · rw [za, zb]
    · have := hp.1 b hb; rw [za] at e; omega
    · have := hp.1 a ha; rw [zb] at e; omega
    · exact ih ha hb hp.2
theorem lit_ok {R : Int} {σ : Sg} {r : Row} (hi : Inv σ) (hr : RowOk σ r) (hR : 0 ≤ R) : nd R σ r ≠ [] ∧ (0 < r.1 → lowD (nd R σ r) = lowD (dm σ r.2)) ∧ (r.1 < 0 → highD (nd R σ r) = highD (dm σ r.2)) := by
  obtain ⟨h0, _, _, hx⟩ := hr
  have hd := hi.dm hx
  unfold nd struckL litS
  by_cases q : 0 < r.1
  · rw [if_pos q]
    dsimp only
    rw [if_pos rfl]
    have hl : leastT σ r = r.1 * lowD (dm σ r.2) := by unfold leastT; rw [if_pos q]
    have hk : lowD (dm σ r.2) ≤ (R + leastT σ r).fdiv r.1 := (fdiv_iff q).mp (by omega)
    have hn := upTo_ne hd hk
    exact ⟨hn, fun _ => (upTo_facts hd hn).1, fun z => by omega⟩
  · rw [if_neg q]
    dsimp only
    rw [if_neg (by decide)]
    have hl : leastT σ r = r.1 * highD (dm σ r.2) := by unfold leastT; rw [if_neg q]
    have hk : -((R + leastT σ r).fdiv (-r.1)) ≤ highD (dm σ r.2) := (fdiv_iff' (by omega)).mp (by omega)
    have hn := fromOn_ne hd hk
    exact ⟨hn, fun z => by omega, fun _ => (fromOn_facts hd hn).1⟩
noncomputable def SameR (σ τ : Sg) (r : Row) : Prop := (0 < r.1 → lowD (dm τ r.2) = lowD (dm σ r.2)) ∧ (r.1 < 0 → highD (dm τ r.2) = highD (dm σ r.2))
theorem leastT_same {σ τ : Sg} {r : Row} (h : SameR σ τ r) (h0 : r.1 ≠ 0) : leastT τ r = leastT σ r := by
  unfold leastT
  by_cases q : 0 < r.1
  · rw [if_pos q, if_pos q, h.1 q]
  · rw [if_neg q, if_neg q, h.2 (by omega)]
theorem litS_same {R : Int} {σ τ : Sg} {r : Row} (h : SameR σ τ r) (h0 : r.1 ≠ 0) : litS R τ r = litS R σ r := by
  unfold litS; rw [leastT_same h h0]
theorem reason_same {σ τ : Sg} {r : Row} (h : SameR σ τ r) (hf : τ.firsts = σ.firsts) : reasonOf τ r = reasonOf σ r := by
  have e : fs τ r.2 = fs σ r.2 := by unfold fs; rw [hf]
  unfold reasonOf
  rw [e]
  by_cases q : 0 < r.1
  · rw [h.1 q]
    have : ¬ r.1 < 0 := by omega
    simp only [this, false_and, if_false]
  · by_cases q2 : r.1 < 0
    · rw [h.2 q2]; simp only [q, false_and, if_false]
    · simp only [q, q2, false_and, if_false]
theorem reasonsFrom_same {σ τ : Sg} (k : Int) (hf : τ.firsts = σ.firsts) : ∀ (rows : List Row) (i : Nat), (∀ r ∈ rows, SameR σ τ r) → reasonsFrom τ k i rows = reasonsFrom σ k i rows
  | [], _, _ => rfl
  | r :: rest, i, h => by
    rw [reasonsFrom, reasonsFrom, reason_same (h r (List.mem_cons_self ..)) hf, reasonsFrom_same k hf rest (i + 1) fun r hr => h r (List.mem_cons_of_mem _ hr)]
theorem sayS_one {l : Lit} {d : Dm} : sayS l d = 1 ↔ struckL l d = d := by
  unfold sayS
  by_cases h : struckL l d = d
  · simp [h]
  · rw [if_neg h]
    by_cases h2 : struckL l d = []
    · rw [if_pos h2]; exact ⟨fun z => by omega, fun z => absurd z h⟩
    · rw [if_neg h2]; exact ⟨fun z => by omega, fun z => absurd z h⟩

structure Lp (σ τ : Sg) (R : Int) (rows done rest : List Row) : Prop where
  inv : Inv τ
  same : ∀ r ∈ rows, SameR σ τ r
  undone : ∀ r ∈ rest, dm τ r.2 = dm σ r.2
  doneD : ∀ r ∈ done, dm τ r.2 = nd R σ r
  other : ∀ x, (∀ r ∈ rows, r.2 ≠ x) → dm τ x = dm σ x
  len : τ.doms.length = σ.doms.length
  firsts : τ.firsts = σ.firsts
  marks : τ.marks = σ.marks
  failed : τ.failed = σ.failed
  clash : τ.clash = σ.clash
  trail : ∃ t, τ.trail = σ.trail ++ t ∧ undo t τ.doms = σ.doms ∧ t.map (·.x) = (done.filter fun r => decide (nd R σ r ≠ dm σ r.2)).map (·.2) ∧ ∀ e ∈ t, ∃ (i : Nat) (r : Row), rows[i]? = some r ∧ e = ⟨r.2, dm σ r.2, litS R σ r, some (reasonsS σ rows i), -1⟩
  news : τ.news ≤ σ.news + done.length
theorem loop_ok {σ : Sg} {R : Int} {rows : List Row} (hi : Inv σ) (hr : RowsOk σ rows) (hR : 0 ≤ R) : ∀ (rest done : List Row) (τ : Sg), rows = done ++ rest → Lp σ τ R rows done rest → ∃ τ', strikeLoop R rows rest done.length τ = (true, τ') ∧ Lp σ τ' R rows rows []
  | [], done, τ, e, L => by
    rw [List.append_nil] at e; subst e
    exact ⟨τ, rfl, L⟩
  | r :: rest, done, τ, e, L => by
    have hm : r ∈ rows := by rw [e]; simp
    have hro := hr.2 r hm
    obtain ⟨h0, _, _, hx⟩ := id hro
    have hs := L.same r hm
    have e' : rows = (done ++ [r]) ++ rest := by rw [e]; simp
    have eL : litS R τ r = litS R σ r := litS_same hs h0
    have eD : dm τ r.2 = dm σ r.2 := L.undone r (List.mem_cons_self ..)
    obtain ⟨l1, l2, l3⟩ := lit_ok hi hro hR
    have hxl : (litS R σ r).x = r.2 := litS_x
    have hxt : r.2 < τ.doms.length := by rw [L.len]; exact hx
    have hrest : ∀ r' ∈ rest, r'.2 ≠ r.2 := fun r' hr' z => by
      have hp := hr.1
      rw [e, List.pairwise_append] at hp
      have := (List.pairwise_cons.mp hp.2.1).1 r' hr'
      omega
    have hdl : (done ++ [r]).length = done.length + 1 := by simp
    rw [strikeLoop, eL, eD]
    by_cases q : sayS (litS R σ r) (dm σ r.2) = 1
    · rw [if_pos q]
      have q' : nd R σ r = dm σ r.2 := sayS_one.mp q
      have := loop_ok hi hr hR rest (done ++ [r]) τ e' ⟨L.inv, L.same, fun r' h => L.undone r' (List.mem_cons_of_mem _ h), fun r' h => by
        rcases List.mem_append.mp h with h | h
        · exact L.doneD r' h
        · rw [List.mem_singleton.mp h, eD, q'], L.other, L.len, L.firsts, L.marks, L.failed, L.clash, by
        obtain ⟨t, t1, t2, t3, t4⟩ := L.trail
        refine ⟨t, t1, t2, ?_, t4⟩
        rw [t3, List.filter_append]
        simp [q'], by have := L.news; omega⟩
      rw [hdl] at this
      exact this
    · rw [if_neg q]
      have q' : nd R σ r ≠ dm σ r.2 := fun z => q (sayS_one.mpr z)
      have hen := enterS_cases (litS R σ r) (some (reasonsS τ rows done.length)) (-1) (σ := τ) (by rw [hxl]; exact hxt) L.inv
      rw [hxl, eD] at hen
      rcases hen with ⟨z, _⟩ | ⟨_, z, _⟩ | ⟨_, _, z⟩
      · exact absurd z l1
      · exact absurd z q'
      rw [z]
      have hrs : reasonsS τ rows done.length = reasonsS σ rows done.length := reasonsFrom_same _ L.firsts rows 0 L.same
      rw [if_pos rfl, hrs]
      have hdm : ∀ y, dm { τ with doms := τ.doms.set r.2 (nd R σ r), trail := τ.trail ++ [⟨r.2, dm σ r.2, litS R σ r, some (reasonsS σ rows done.length), -1⟩], news := τ.news + 1 } y = if r.2 = y then nd R σ r else dm τ y := fun y => dm_set hxt
      have := loop_ok hi hr hR rest (done ++ [r]) { τ with doms := τ.doms.set r.2 (nd R σ r), trail := τ.trail ++ [⟨r.2, dm σ r.2, litS R σ r, some (reasonsS σ rows done.length), -1⟩], news := τ.news + 1 } e' ⟨?_, ?_, ?_, ?_, ?_, ?_, L.firsts, L.marks, L.failed, L.clash, ?_, ?_⟩
      · rw [hdl] at this
        exact this
      · have hd := hi.dm hx
        have hin := struckL_in hd l1
        exact L.inv.set hxt (struckL_ok hd l1) (by rw [eD]; exact hin.1) (by rw [eD]; exact hin.2)
      · intro r' hr'
        unfold SameR
        rw [hdm]
        by_cases z : r.2 = r'.2
        · have : r = r' := hr.uniq hm hr' z
          subst this
          rw [if_pos rfl]; exact ⟨l2, l3⟩
        · rw [if_neg z]; exact L.same r' hr'
      · intro r' hr'
        rw [hdm, if_neg (Ne.symm (hrest r' hr'))]
        exact L.undone r' (List.mem_cons_of_mem _ hr')
      · intro r' hr'
        rw [hdm]
        rcases List.mem_append.mp hr' with h | h
        · have hne : r.2 ≠ r'.2 := fun z => by
            have hp := hr.1
            rw [e, List.pairwise_append] at hp
            have := hp.2.2 r' h r (List.mem_cons_self ..)
            omega
          rw [if_neg hne]; exact L.doneD r' h
        · rw [List.mem_singleton.mp h, if_pos rfl]
      · intro x hxx
        rw [hdm, if_neg (hxx r hm)]
        exact L.other x hxx
      · dsimp only; rw [List.length_set]; exact L.len
      · obtain ⟨t, t1, t2, t3, t4⟩ := L.trail
        refine ⟨t ++ [⟨r.2, dm σ r.2, litS R σ r, some (reasonsS σ rows done.length), -1⟩], by dsimp only; rw [t1, List.append_assoc], ?_, ?_, ?_⟩
        · rw [undo_snoc]
          dsimp only
          rw [List.set_set, ← eD]
          have : τ.doms.set r.2 (dm τ r.2) = τ.doms := by
            apply List.ext_getElem?
            intro j
            rw [List.getElem?_set]
            by_cases z : r.2 = j
            · subst z; rw [if_pos rfl, if_pos hxt, dm_at hxt]
            · rw [if_neg z]
          rw [this]; exact t2
        · rw [List.map_append, t3, List.filter_append, List.map_append]
          congr 1
          simp [q']
        · intro e0 he0
          rcases List.mem_append.mp he0 with h | h
          · exact t4 e0 h
          · rw [List.mem_singleton.mp h]
            exact ⟨done.length, r, by rw [e]; simp, rfl⟩
      · have := L.news; dsimp only; rw [hdl]; omega
theorem strike_ok {σ : Sg} {rows : List Row} {c : Int} (hi : Inv σ) (hr : RowsOk σ rows) (hR : 0 ≤ roomS σ rows c) : ∃ τ, strikeS rows c σ = (true, τ) ∧ Lp σ τ (roomS σ rows c) rows rows [] := by
  unfold strikeS
  rw [if_neg (by omega)]
  exact loop_ok hi hr hR rows [] σ rfl ⟨hi, fun r _ => ⟨fun _ => rfl, fun _ => rfl⟩, fun _ _ => rfl, fun r hr => (nomatch hr), fun _ _ => rfl, rfl, rfl, rfl, rfl, rfl, ⟨[], by simp, rfl, rfl, fun e he => (nomatch he)⟩, Nat.le_add_right _ _⟩
theorem room_same {σ τ : Sg} {rows : List Row} {c : Int} (h : ∀ r ∈ rows, SameR σ τ r) (h0 : ∀ r ∈ rows, r.1 ≠ 0) : roomS τ rows c = roomS σ rows c := by
  unfold roomS
  rw [List.map_congr_left fun r hr => leastT_same (h r hr) (h0 r hr)]
theorem strike_again {σ τ : Sg} {rows : List Row} {c : Int} (hr : RowsOk σ rows) (hR : 0 ≤ roomS σ rows c) (L : Lp σ τ (roomS σ rows c) rows rows []) : strikeS rows c τ = (true, τ) := by
  unfold strikeS
  rw [room_same L.same fun r h => (hr.2 r h).1, if_neg (by omega)]
  have : ∀ (rest : List Row) (i : Nat), (∀ r ∈ rest, r ∈ rows) → strikeLoop (roomS σ rows c) rows rest i τ = (true, τ) := by
    intro rest
    induction rest with
    | nil => intro i _; rfl
    | cons r rest ih =>
      intro i h
      have hm := h r (List.mem_cons_self ..)
      rw [strikeLoop, litS_same (L.same r hm) (hr.2 r hm).1, L.doneD r hm, if_pos]
      · exact ih (i + 1) fun r hr => h r (List.mem_cons_of_mem _ hr)
      · exact sayS_one.mpr (struckL_idem _ _)
  exact this rows 0 fun _ h => h

end Mine

open PySem PySem.W PyProof.Rows
set_option Elab.async false
set_option linter.unusedVariables false
set_option maxRecDepth 100000
namespace Mine
theorem reasonsFrom_mem {σ : Sg} {k : Int} {l : Lit} : ∀ {rows : List Row} {i : Nat}, l ∈ reasonsFrom σ k i rows → ∃ (j : Nat) (r : Row), rows[j]? = some r ∧ ((i + j : Nat) : Int) ≠ k ∧ reasonOf σ r = some l
  | [], _, h => nomatch h
  | r :: rest, i, h => by
    rw [reasonsFrom] at h
    rcases List.mem_append.mp h with h | h
    · by_cases q : (i : Int) = k
      · rw [if_pos q] at h; cases h
      · rw [if_neg q] at h
        refine ⟨0, r, rfl, q, ?_⟩
        cases hr : reasonOf σ r with
        | none => rw [hr] at h; cases h
        | some l' => rw [hr] at h; simp at h; rw [h]
    · obtain ⟨j, r', h1, h2, h3⟩ := reasonsFrom_mem h
      exact ⟨j + 1, r', by simpa using h1, by rw [show i + (j + 1) = i + 1 + j by omega]; exact h2, h3⟩
theorem reasonsFrom_has {σ : Sg} {k : Int} {l : Lit} : ∀ {rows : List Row} {i j : Nat} {r : Row}, rows[j]? = some r → ((i + j : Nat) : Int) ≠ k → reasonOf σ r = some l → l ∈ reasonsFrom σ k i rows
  | [], _, _, _, h, _, _ => by simp at h
  | r :: rest, i, 0, r', h, q, e => by
    simp at h; subst h
    rw [reasonsFrom, if_neg (show ¬ (i : Int) = k from q), e]; simp
  | r :: rest, i, j + 1, r', h, q, e => by
    rw [reasonsFrom]
    exact List.mem_append.mpr (.inr (reasonsFrom_has (by simpa using h) (by rw [show i + 1 + j = i + (j + 1) by omega]; exact q) e))
theorem reason_facts {σ : Sg} {r : Row} {l : Lit} (h : reasonOf σ r = some l) : l.x = r.2 ∧ holdsL l (dm σ r.2) = true := by
  unfold reasonOf at h
  split at h
  · cases h; exact ⟨rfl, by unfold holdsL; simp⟩
  · split at h
    · cases h; exact ⟨rfl, by unfold holdsL; simp⟩
    · cases h
theorem mem_loOf {s : List Lit} {l : Lit} {x : Nat} (h : l ∈ s) (hx : l.x = x) (hl : l.le = false) : l.k ∈ loOf s x := by
  unfold loOf; exact List.mem_map.mpr ⟨l, List.mem_filter.mpr ⟨h, by simp [hx, hl]⟩, rfl⟩
theorem mem_hiOf {s : List Lit} {l : Lit} {x : Nat} (h : l ∈ s) (hx : l.x = x) (hl : l.le = true) : l.k ∈ hiOf s x := by
  unfold hiOf; exact List.mem_map.mpr ⟨l, List.mem_filter.mpr ⟨h, by simp [hx, hl]⟩, rfl⟩
theorem contrib_ge {σ : Sg} {r : Row} {s : List Lit} (hi : Inv σ) (hr : RowOk σ r) (hs : ∀ l, reasonOf σ r = some l → l ∈ s) : leastT σ r ≤ contrib σ.firsts s r := by
  obtain ⟨h0, _, _, hx⟩ := hr
  unfold leastT contrib
  show _ ≤ if 0 < r.1 then r.1 * (loOf s r.2).foldl max (lowD (fs σ r.2)) else r.1 * (hiOf s r.2).foldl min (highD (fs σ r.2))
  by_cases q : 0 < r.1
  · rw [if_pos q, if_pos q]
    obtain ⟨_, h2⟩ := foldl_max (loOf s r.2) (lowD (fs σ r.2))
    refine Int.mul_le_mul_of_nonneg_left ?_ (Int.le_of_lt q)
    by_cases q2 : lowD (fs σ r.2) < lowD (dm σ r.2)
    · have hl : reasonOf σ r = some ⟨r.2, false, lowD (dm σ r.2)⟩ := by unfold reasonOf; rw [if_pos ⟨q, q2⟩]
      exact h2 _ (List.mem_cons_of_mem _ (mem_loOf (hs _ hl) rfl rfl))
    · exact Int.le_trans (Int.not_lt.mp q2) (h2 _ (List.mem_cons_self ..))
  · rw [if_neg q, if_neg q]
    obtain ⟨_, h2⟩ := foldl_min (hiOf s r.2) (highD (fs σ r.2))
    refine Int.mul_le_mul_of_nonpos_left (by omega) ?_
    by_cases q2 : highD (dm σ r.2) < highD (fs σ r.2)
    · have hl : reasonOf σ r = some ⟨r.2, true, highD (dm σ r.2)⟩ := by unfold reasonOf; rw [if_neg (fun z => q z.1), if_pos ⟨by omega, q2⟩]
      exact h2 _ (List.mem_cons_of_mem _ (mem_hiOf (hs _ hl) rfl rfl))
    · exact Int.le_trans (h2 _ (List.mem_cons_self ..)) (Int.not_lt.mp q2)
theorem sum_le {α : Type} {f g : α → Int} : ∀ l : List α, (∀ x ∈ l, g x ≤ f x) → (l.map g).sum ≤ (l.map f).sum
  | [], _ => Int.le_refl _
  | x :: l, h => by
    rw [List.map_cons, List.map_cons, List.sum_cons, List.sum_cons]
    have := h x (List.mem_cons_self ..)
    have := sum_le l fun y hy => h y (List.mem_cons_of_mem _ hy)
    omega
theorem sum_lt {α : Type} {f g : α → Int} {R : Int} : ∀ l : List α, (∀ x ∈ l, g x ≤ f x) → (∃ x ∈ l, g x + R < f x) → (l.map g).sum + R < (l.map f).sum
  | [], _, h => by obtain ⟨x, hx, _⟩ := h; cases hx
  | x :: l, h, he => by
    rw [List.map_cons, List.map_cons, List.sum_cons, List.sum_cons]
    have h1 := h x (List.mem_cons_self ..)
    have h2 := sum_le l fun y hy => h y (List.mem_cons_of_mem _ hy)
    obtain ⟨y, hy, hlt⟩ := he
    rcases List.mem_cons.mp hy with rfl | hy
    · omega
    · have := sum_lt l (fun y hy => h y (List.mem_cons_of_mem _ hy)) ⟨y, hy, hlt⟩
      omega
theorem too_clash {σ : Sg} {rows : List Row} {c : Int} (hi : Inv σ) (hr : RowsOk σ rows) (hR : roomS σ rows c < 0) : tooS rows σ.firsts (reasonsS σ rows (-1)) c = true := by
  unfold tooS
  have h := sum_le (f := contrib σ.firsts (reasonsS σ rows (-1))) (g := leastT σ) rows fun r h => by
    obtain ⟨j, hj⟩ := List.mem_iff_getElem?.mp h
    exact contrib_ge hi (hr.2 r h) fun l hl => reasonsFrom_has hj (by omega) hl
  unfold roomS at hR
  exact decide_eq_true (by omega)
theorem contrib_gt {σ : Sg} {r : Row} {s : List Lit} {R : Int} (hr : RowOk σ r) (hs : negL (litS R σ r) ∈ s) : leastT σ r + R < contrib σ.firsts s r := by
  obtain ⟨h0, _, _, hx⟩ := hr
  unfold contrib
  by_cases q : 0 < r.1
  · rw [if_pos q]
    obtain ⟨_, h2⟩ := foldl_max (loOf s r.2) (lowD (fs σ r.2))
    have hm : (R + leastT σ r).fdiv r.1 + 1 ∈ loOf s r.2 := by
      have e : negL (litS R σ r) = ⟨r.2, false, (R + leastT σ r).fdiv r.1 + 1⟩ := by unfold litS negL; rw [if_pos q]; rfl
      rw [e] at hs
      exact mem_loOf hs rfl rfl
    have h3 := h2 _ (List.mem_cons_of_mem _ hm)
    have h4 : ¬ r.1 * (((R + leastT σ r).fdiv r.1) + 1) ≤ R + leastT σ r := fun z => by have := (fdiv_iff q).mp z; omega
    have h5 := Int.mul_le_mul_of_nonneg_left h3 (Int.le_of_lt q)
    show _ < r.1 * (loOf s r.2).foldl max (lowD (fs σ r.2))
    omega
  · rw [if_neg q]
    have qn : r.1 < 0 := by omega
    obtain ⟨_, h2⟩ := foldl_min (hiOf s r.2) (highD (fs σ r.2))
    have hm : -((R + leastT σ r).fdiv (-r.1)) - 1 ∈ hiOf s r.2 := by
      have e : negL (litS R σ r) = ⟨r.2, true, -((R + leastT σ r).fdiv (-r.1)) - 1⟩ := by unfold litS negL; rw [if_neg q]; rfl
      rw [e] at hs
      exact mem_hiOf hs rfl rfl
    have h3 := h2 _ (List.mem_cons_of_mem _ hm)
    have h4 : ¬ r.1 * (-((R + leastT σ r).fdiv (-r.1)) - 1) ≤ R + leastT σ r := fun z => by have := (fdiv_iff' qn).mp z; omega
    have h5 := Int.mul_le_mul_of_nonpos_left (Int.le_of_lt qn) h3
    show _ < r.1 * (hiOf s r.2).foldl min (highD (fs σ r.2))
    omega
theorem too_entry {σ : Sg} {rows : List Row} {c : Int} {i : Nat} {r : Row} (hi : Inv σ) (hr : RowsOk σ rows) (hR : 0 ≤ roomS σ rows c) (hir : rows[i]? = some r) :
    tooS rows σ.firsts (reasonsS σ rows i ++ [negL (litS (roomS σ rows c) σ r)]) c = true := by
  have hm := List.mem_of_getElem? hir
  have hgt := contrib_gt (R := roomS σ rows c) (s := reasonsS σ rows i ++ [negL (litS (roomS σ rows c) σ r)]) (hr.2 r hm) (by simp)
  have h := sum_lt (R := roomS σ rows c) (f := contrib σ.firsts (reasonsS σ rows i ++ [negL (litS (roomS σ rows c) σ r)])) (g := leastT σ) rows (fun r' h' => by
    obtain ⟨j, hj⟩ := List.mem_iff_getElem?.mp h'
    by_cases z : j = i
    · subst z; rw [hir] at hj; cases hj; omega
    · exact contrib_ge hi (hr.2 r' h') fun l hl => List.mem_append.mpr (.inl (reasonsFrom_has hj (by omega) hl))) ⟨r, hm, hgt⟩
  unfold tooS
  unfold roomS at h ⊢
  exact decide_eq_true (by omega)
theorem leastM_eq {σ : Sg} {r : Row} (hi : Inv σ) (hr : RowOk σ r) : leastM r.1 (dm σ r.2) = leastT σ r := by
  have := (hi.dm hr.2.2.2).lh
  unfold leastM leastT
  by_cases q : 0 < r.1
  · rw [if_pos q]
    have := Int.mul_le_mul_of_nonneg_left this (Int.le_of_lt q)
    omega
  · rw [if_neg q]
    have := Int.mul_le_mul_of_nonpos_left (show r.1 ≤ 0 by omega) this
    omega
theorem sorted_same {a b : List Int} (ha : a.Pairwise (· ≤ ·)) (hb : b.Pairwise (· ≤ ·)) (h : a.Perm b) : a = b := by
  induction a generalizing b with
  | nil => exact (List.nil_perm.mp h).symm ▸ rfl
  | cons x a ih =>
    cases b with
    | nil => exact absurd (List.perm_nil.mp h) (by simp)
    | cons y b =>
      have hx := List.pairwise_cons.mp ha
      have hy := List.pairwise_cons.mp hb
      have e : x = y := by
        have h1 : x ∈ y :: b := h.mem_iff.mp (List.mem_cons_self ..)
        have h2 : y ∈ x :: a := h.mem_iff.mpr (List.mem_cons_self ..)
        rcases List.mem_cons.mp h1 with z | z
        · exact z
        · rcases List.mem_cons.mp h2 with w | w
          · exact w.symm
          · have := hx.1 y w; have := hy.1 x z; omega
      subst e
      rw [ih hx.2 hy.2 (List.Perm.cons_inv h)]
/-- what grew -/
structure Grow (σ σ' : Sg) : Prop where
  trail : ∃ t, σ'.trail = σ.trail ++ t ∧ undo t σ'.doms = σ.doms ∧ ∀ e ∈ t, e.x < σ.doms.length ∧ e.old.length ≤ 100
  marks : σ'.marks = σ.marks
  firsts : σ'.firsts = σ.firsts
  len : σ'.doms.length = σ.doms.length
theorem Grow.refl {σ : Sg} : Grow σ σ := ⟨⟨[], by simp, rfl, fun e he => (nomatch he)⟩, rfl, rfl, rfl⟩
theorem undo_append : ∀ (a b : List Ent) (ds : List Dm), undo (a ++ b) ds = undo a (undo b ds)
  | [], _, _ => rfl
  | e :: a, b, ds => by rw [List.cons_append, undo, undo_append, undo]
theorem Grow.trans {a b c : Sg} (x : Grow a b) (y : Grow b c) : Grow a c := by
  obtain ⟨t, t1, t2, t3⟩ := x.trail
  obtain ⟨u, u1, u2, u3⟩ := y.trail
  refine ⟨⟨t ++ u, by rw [u1, t1, List.append_assoc], by rw [undo_append, u2, t2], fun e he => ?_⟩, y.marks.trans x.marks, y.firsts.trans x.firsts, y.len.trans x.len⟩
  rcases List.mem_append.mp he with h | h
  · exact t3 e h
  · have := u3 e h; rw [x.len] at this; exact this

end Mine

open PySem PySem.W PyProof.Rows
set_option Elab.async false
set_option linter.unusedVariables false
set_option maxRecDepth 100000
namespace Mine
section
variable {C : Cx} {n : Nat} {env cenv : Env} {m mc : Loc} {H H' : AH} {sc scope : Scope} {P : Ad} {σ : Sg}
theorem X1.assignC {x : Str} {p pos : Pos} {e : Expr} {Φ : FL → Loc → AH → Prop} (hE : env.scope = sc) (h : EV C n env e m H fun d H₁ => Φ .next ((x, d) :: m) H₁) (hs : swapsWith e (some (.Name x p)) pos.line env = pure false) (hx : storable sc x = true := by decide +kernel) : X1 C n env (.Assign [.Name x p] e pos) m H Φ := fun A s rm R => by
  refine wpAny_Assign_Name (wpAny_mono (h A s rm R) (fun v s₁ p => ?_) fun _ _ x => x) hs
  obtain ⟨d, H₁, t₁, q₁, R₁, h₁⟩ := p
  exact store_ hE hx R₁ q₁ fun s₂ t₂ R₂ => ⟨_, _, H₁, t₁.trans t₂, .next, R₂, h₁⟩
theorem range_doms (ds : List Dm) : ((List.range ds.length).filterMap fun j => some (dom (ds.getD j []))) = ds.map dom := by
  rw [List.filterMap_eq_map']
  apply List.ext_getElem?
  intro j
  rw [List.getElem?_map, List.getElem?_map]
  by_cases h : j < ds.length
  · rw [List.getElem?_range h, List.getElem?_eq_getElem h]; simp [List.getD_eq_getElem?_getD, h]
  · rw [List.getElem?_eq_none (by rw [List.length_range]; omega), List.getElem?_eq_none (l := ds) (by omega)]; rfl
theorem comp_doms (hD : DeskAt H P σ) {elt : Expr} {p0 : Pos} {Φ : D → AH → Prop} {N : Nat} (helt : ∀ cenv m₁ H' j, cenv.scope = relabelS sc scope → Ext H H' → m₁.lookup ("desk" : Str) = some (D.ref P.a) → m₁.lookup ("x" : Str) = some (D.int (j : Nat)) → j < σ.doms.length → EV C n cenv elt m₁ H' fun r H₃ => H₃ = H' ∧ r = dom (dm σ j))
    (φ : Φ (.lst (σ.doms.map dom)) H) (hN : N = σ.doms.length) (hm : mc.lookup ("desk" : Str) = some (D.ref P.a) := by rfl) (hm2 : mc.lookup ("x" : Str) = none := by rfl) (hst : storable (relabelS sc scope) "x" = true := by decide +kernel) :
    CompOk C n sc (.Name "x" p0) [] scope (fun acc cenv => emit elt (.ref acc) cenv) mc Φ false ((List.range N).map fun (j : Nat) => D.int j) H := by
  subst hN
  refine CompOk.pure (List.range σ.doms.length) (fun j => some (dom (σ.doms.getD j []))) (by rw [List.length_range, sizeLine_eq]; have := hD.z1; omega) (fun cenv hE' j hj H' hx => ?_) (by rw [range_doms]; exact φ) (.inl rfl)
  refine AT.name hE' ⟨.cons hm2 .refl, TSS.nil ?_⟩ hst
  exact (helt cenv _ H' j hE' hx (lk_tl rfl hm) lk_hd (List.mem_range.mp hj)).mono fun d H₃ q => ⟨q.1, by rw [q.2]; rfl⟩

theorem loop_two {α β : Type} {target iter target₂ iter₂ elt : Expr} {pos : Pos} {acc : Addr} {g : α → D} {h : β → D} {f : α → List β} (hacc : H acc = none) (B : Nat) (hB : ∀ x, (f x).length ≤ B) (hs : ∀ x, foldedSetIterable iter₂ cenv x = pure x) : ∀ (xs : List α) (out : List D), out.length + xs.length * B ≤ sizeLine →
    (∀ x ∈ xs, ∀ H', Ext H H' → AT C n cenv target (g x) mc H' fun m₁ H₁ => H₁ = H' ∧ Sub mc m₁ ∧ IV C n cenv iter₂ m₁ H' fun b items H₂ => b = false ∧ H₂ = H' ∧ items = (f x).map h ∧ ∀ y ∈ f x, ∀ H', Ext H H' → PT C n cenv target₂ [] elt m₁ H' (h y) (some (h y))) →
    LOOP C n cenv target [] (Mine.inner (.ListComp elt [⟨target, iter, [], 0⟩, ⟨target₂, iter₂, [], 0⟩] scope pos) iter₂ (.ref acc) cenv) (fun H' => H' = upd H acc (.list (out ++ (xs.flatMap f).map h))) (xs.map g) mc (upd H acc (.list out))
  | [], out, _, _ => by simp [LOOP]
  | x :: xs, out, hz, turn => by
    have hext : ∀ o, Ext H (upd H acc o) := fun o b hb => upd_ne fun z => hb (z ▸ hacc)
    intro A s v rm R q
    refine wpAny_mono (turn x (List.mem_cons_self ..) _ (hext _) A s v rm R q) (fun _ s₁ p => ?_) fun _ _ x => x
    obtain ⟨m₁, H₁, t, R₁, rfl, hm, L⟩ := p
    refine ⟨m₁, _, t, R₁, hm, TSS.nil ?_⟩
    rw [if_pos rfl]
    have e1 : (xs.length + 1) * B = xs.length * B + B := Nat.succ_mul ..
    simp only [List.length_cons, e1] at hz
    have hfx := hB x
    refine UB.inner (hs := hs) fun A s rm R => wpAny_mono (L A s rm R) (fun xv s₂ p => wpAny_mono p (fun it s₃ p => ?_) fun _ _ x => x) fun _ _ x => x
    obtain ⟨I, items, b, H₂, e, t, R₂, io, rfl, rfl, rfl, pt⟩ := p
    refine ⟨I, _, false, _, e, t, R₂, io, .inl rfl, ?_⟩
    refine LOOP.mono (fun H' e => ?_) _ _ (loop_pure (f := fun y => some (h y)) hacc (f x) out (by omega) fun y hy H' hx => pt y hy H' hx)
    subst e
    have := loop_two (iter := iter) (pos := pos) hacc B hB hs xs (out ++ (f x).filterMap fun y => some (h y)) (by
      rw [List.length_append, List.filterMap_eq_map', List.length_map]; omega) fun y hy => turn y (List.mem_cons_of_mem _ hy)
    rw [List.filterMap_eq_map'] at this ⊢
    rw [List.flatMap_cons, List.map_append, ← List.append_assoc]
    exact this
end

end Mine

open PySem PySem.W PyProof.Rows
set_option Elab.async false
set_option linter.unusedVariables false
set_option maxRecDepth 100000
namespace Mine
variable {C : Cx} {n : Nat} {H : AH} {P : Ad} {σ : Sg}
theorem map_ints {α : Type} (f : α → Int) (l : List α) : (l.filterMap fun r => some (D.int (f r))) = (l.map f).map D.int := by
  rw [List.map_map, List.filterMap_eq_map']; rfl
theorem map_some {α β : Type} (f : α → β) (l : List α) : (l.filterMap fun r => some (f r)) = l.map f := congrFun (List.filterMap_eq_map' (f := f)) l
section
variable {m m' : Loc}
theorem Sub.nil : Sub [] m := fun _ _ h => nomatch h
theorem Sub.take {x : Str} {d : D} (h : m.lookup x = some d) (k : Sub m' m) : Sub ((x, d) :: m') m := fun y e q => by
  rcases lookup_cons_eq q with ⟨rfl, rfl⟩ | ⟨_, q⟩
  · exact h
  · exact k y e q
theorem Sub.both {x : Str} {d : D} (k : Sub m' m) : Sub ((x, d) :: m') ((x, d) :: m) := fun y e q => by
  by_cases z : y = x
  · subst z; simpa using q
  · have hb : (y == x) = false := by simpa using z
    simp only [List.lookup_cons, hb] at q ⊢
    exact k y e q
end
theorem gnd_ints {k : Nat} {ns : List Int} : D.gnd (k + 1) (.lst (ns.map D.int)) = true := by
  rw [D.gnd]
  refine gnds_all fun e he => ?_
  obtain ⟨i, _, rfl⟩ := List.mem_map.mp he
  exact gnd_int
theorem ints_inj {a b : List Int} : D.lst (a.map D.int) = .lst (b.map D.int) ↔ a = b := ⟨fun h => map_inj' (fun _ _ h => D.int.inj h) (D.lst.inj h), fun h => h ▸ rfl⟩
theorem fit_nd {σ : Sg} {R : Int} {r : Row} : ((dm σ r.2).flatMap fun p => fitS r.1 p.1 p.2 (R + leastT σ r)) = nd R σ r := by
  rw [fit_flat]
  unfold nd struckL litS
  by_cases q : 0 < r.1
  · rw [if_pos q, if_pos q]; rfl
  · rw [if_neg q, if_neg q]; rfl
theorem fitS_len (c a b most : Int) : (fitS c a b most).length ≤ 1 := by
  unfold fitS; split <;> split <;> simp
theorem C_law_run (hC : IsC C) (hD : DeskAt H P σ) (hi : Inv σ) {rows : List Row} {c : Int} (hr : RowsOk σ rows) (hz : rows.length ≤ 10) (hf : σ.failed = false) (ht : σ.trail.length + 2 * rows.length ≤ 200) (hw : σ.news + 2 * rows.length ≤ 200) :
    CL C (n + 8) (.ref 312) [.ref P.a, .lst (rows.map row), .lst (σ.firsts.map dom), .int c] H fun r H' => ∃ b τ, r = .bool b ∧ DeskAt H' P τ ∧ Fr P H H' ∧ Inv τ ∧ Grow σ τ ∧ (b = true → τ.failed = false) ∧ τ.news ≤ σ.news + rows.length ∧ τ.trail.length ≤ σ.trail.length + rows.length := by
  have hz1 := hD.z1
  have hz4 := hD.z4
  have hzz : rows.length ≤ sizeLine := by rw [sizeLine_eq]; omega
  refine' CL.def (names := ["desk", "rows", "firsts", "c"]) ⟨⟨⟨_, _, _, _, _, _, _, _, _, _, _, _, _⟩, ?h1, ?h2, ?h3⟩, ?h4, ?h5, ?h6, ?h7, ?h8, ?h9⟩ rfl ?main
  case h1 => rw [hC.K]; exact rfl
  case h2 => rw [hC.K]; kernel_rfl
  case h3 => exact allS fun _ => allS fun _ => allS fun _ => allS fun _ => all0 rfl
  case h4 => decide +kernel
  case h5 => decide +kernel
  case h6 => decide +kernel
  case h7 => decide +kernel
  case h8 => rfl
  case h9 => exact ⟨rfl, rfl⟩
  intro env hE
  refine XS.cons (X1.assignC (hs := ?sw1) hE (EV.comp (mc := [("desk", .ref P.a)]) hE (by repeat (first | exact Cap.nil | refine Cap.skip rfl ?_ | refine Cap.take rfl rfl ?_)) (IV.range (EV.glob (congrArg Scope.names hE) rfl (g_range hC) ⟨rfl, EV.dMeth0 rfl hD (m_size hC) rfl (OC.eq (C_size hC hD) ⟨_, rfl, by omega, comp_doms hD (fun cenv m₁ H' j hE' hx m1 m2 hj => EV.dMeth m1 (DeskAt.ext (by assumption) hx) (m_dom hC) rfl (ES.cons (EV.name m2 (ES.nil (OC.eq (C_dom hC (DeskAt.ext (by assumption) hx) (dm_at hj)) ⟨rfl, rfl⟩))))) ?_ rfl⟩)⟩))))
  case sw1 => revert env; rintro ⟨⟩ rfl; rfl
  refine XS.cons (X1.swap2 (x := "lowest") (y := "mark") (hw := ?sw2) hE (EV.tuple (ES.cons (EV.callG (congrArg Scope.names hE) rfl (g_sum hC) (k_sum hC) (ES.cons (EV.comp (mc := [("lots", .lst (σ.doms.map dom))]) hE (by repeat (first | exact Cap.nil | refine Cap.skip rfl ?_ | refine Cap.take rfl rfl ?_)) (IV.seq (EV.name rfl ⟨_, .inr rfl, CompOk.pure rows (fun r => some (D.int (leastT σ r))) hzz (fun cenv hE' r hr' H' hx => ?_) ?_ (.inl rfl)⟩))))))))
  case sw2 => revert env; rintro ⟨⟩ rfl; rfl
  · obtain ⟨h0, h1, h2, h3⟩ := hr.2 r hr'
    refine AT.tuple (ATs.cons (AT.name hE' (ATs.cons (AT.name hE' (ATs.nil ⟨.cons rfl (.cons rfl .refl), TSS.nil ?_⟩)))))
    refine EV.callG (congrArg Scope.names hE') rfl (g__law_least hC) (k__law_least hC) (ES.cons (EV.name rfl (ES.cons (EV.subscript (EV.name rfl (EV.name rfl (O2.lstAt (d := dom (dm σ r.2)) (at_map (dm_at h3)) (Int.natCast_nonneg _) (ES.nil (OC.eq (C_law_least hC (hi.dm h3).ne h1 h2) ⟨rfl, ?_⟩)) (lt63 (dm_at h3) hz1))))))))
    rw [leastM_eq hi (hr.2 r hr')]
  rw [map_ints]
  refine ES.nil (OC.sumL (ES.cons (EV.callG (congrArg Scope.names hE) rfl (g_len hC) (k_len hC) (ES.cons (EV.dAttr rfl hD (a_trail hC) rfl (ES.nil (OC.lenL (.inr ⟨_, rfl, hD.lt⟩) (ES.nil ⟨lz, _, _, rfl, ?_⟩) (by rw [List.length_map, sizeLine_eq]; omega))))))))
  refine XS.cons (X1.assign hE (EV.callG (congrArg Scope.names hE) rfl (g_strike_le hC) (k_strike_le hC) (ES.cons (EV.name rfl (ES.cons (EV.name rfl (ES.cons (EV.name rfl (ES.nil (OC.to (C_strike_le hC hD hi.good (by omega) hr.2 (by omega) (by omega)) fun d H1 q1 => ?_))))))))))
  obtain ⟨rfl, hD1, hf1⟩ := q1
  have elow : ((rows.map (leastT σ)).sum ≤ c) ↔ 0 ≤ roomS σ rows c := by unfold roomS; omega
  by_cases hR : roomS σ rows c < 0
  · have e1 : strikeS rows c σ = (false, { σ with failed := true, clash := reasonsS σ rows (-1) }) := by unfold strikeS; rw [if_pos hR]
    rw [e1] at hD1
    rw [e1]
    dsimp only at hD1 ⊢
    have el : decide ((rows.map (leastT σ)).sum ≤ c) = false := decide_eq_false (by omega)
    have hcl : (reasonsS σ rows (-1)).length ≤ 10 := Nat.le_trans (reasonsFrom_length _ _ _ _) hz
    refine XS.cons (X1.ite (TS.or (TS.compare (EV.name rfl (EV.compare (EV.name rfl (EV.name rfl (O2.le (O2.neB (TV.bool ?_))))))))))
    rw [el]
    refine TS.or (TS.compare (EV.dAttr rfl hD1 (a_is_failed hC) rfl (EV.name rfl (O2.eqB (TV.bool (TS.orNil ?_))))))
    refine XS.nil ?_
    refine XS.cons (X1.ite (TS.not (TS.plain (EV.name rfl (TV.bool ?_)))))
    have hmem : ∀ l ∈ reasonsS σ rows (-1), ∃ r ∈ rows, l.x = r.2 ∧ holdsL l (dm σ l.x) = true := fun l hl => by
      obtain ⟨j, r, h1, h2, h3⟩ := reasonsFrom_mem hl
      obtain ⟨h4, h5⟩ := reason_facts h3
      exact ⟨r, List.mem_of_getElem? h1, h4, by rw [h4]; exact h5⟩
    refine XS.cons (X1.assignComp (mc := [("lots", .lst (σ.doms.map dom))]) (hsw := ?sw3) hE (by repeat (first | exact Cap.nil | refine Cap.skip rfl ?_ | refine Cap.take rfl rfl ?_)) (IV.seq (EV.dAttr rfl hD1 (a_clash hC) rfl ⟨_, .inl rfl, CompOk.pure (reasonsS σ rows (-1)) (fun l => some (lit l)) (by rw [sizeLine_eq]; omega) (fun cenv hE' l hl H' hx => ?_) ?_ (.inl rfl)⟩)))
    case sw3 => revert env; rintro ⟨⟩ rfl; rfl
    · obtain ⟨r, hrm, h4, h5⟩ := hmem l hl
      have h3 : l.x < σ.doms.length := by rw [h4]; exact (hr.2 r hrm).2.2.2
      refine AT.name hE' ⟨.cons rfl .refl, TSS.one (TS.plain (EV.callG (congrArg Scope.names hE') rfl (g__law_holds hC) (k__law_holds hC) (ES.cons (EV.name rfl (ES.cons (EV.subscript (EV.name rfl (EV.subscript (EV.name rfl (EV.int (O2.tupAt rfl (by decide) (O2.lstAt (d := dom (dm σ l.x)) (at_map (dm_at h3)) (Int.natCast_nonneg _) (ES.nil (OC.eq (C_law_holds hC (hi.dm h3).ne) (TV.bool ?_))) (lt63 (dm_at h3) hz1)))))))))))))⟩
      rw [h5]
      exact EV.name rfl ⟨rfl, rfl⟩
    rw [map_some]
    have hcl2 : ((reasonsS σ rows (-1)).map lit).length ≤ sizeLine := by rw [List.length_map, sizeLine_eq]; omega
    refine XS.cons (X1.assign hE (EV.and (EV.compare (EV.callG (congrArg Scope.names hE) rfl (g_len hC) (k_len hC) (ES.cons (EV.name rfl (ES.nil (OC.lenL (.inl rfl) ?_ hcl2))))))))
    refine EV.callG (congrArg Scope.names hE) rfl (g_len hC) (k_len hC) (ES.cons (EV.dAttr rfl hD1 (a_clash hC) rfl (ES.nil (OC.lenT ?_ hcl2))))
    refine O2.eqI (TV.bool ?_)
    rw [beq_self_eq_true]
    refine EV.boolOne (EV.compare (EV.callG (congrArg Scope.names hE) rfl (g_len hC) (k_len hC) (ES.cons (EV.dAttr rfl hD1 (a_trail hC) rfl (ES.nil (OC.lenL (.inr ⟨_, rfl, hD1.lt⟩) ?_ (by rw [List.length_map, sizeLine_eq]; dsimp only; omega)))))))
    refine EV.name rfl (O2.eqI ?_)
    dsimp only
    rw [beq_self_eq_true]
    refine XS.cons (X1.ret (EV.ifExp (TS.and (TS.plain (EV.name rfl (TV.bool ?_))))))
    refine TS.and (TS.plain (EV.callG (congrArg Scope.names hE) rfl (g__law_is_too_much hC) (k__law_is_too_much hC) (ES.cons (EV.name rfl (ES.cons (EV.name rfl (ES.cons (EV.name rfl (ES.cons (EV.name rfl (ES.nil (OC.eq (C_too_much (n := n + 6) hC hi.good.f (by rw [hi.len]; exact hz1) (Nat.le_trans hcl (by decide)) fun r hr' => ⟨(hr.2 r hr').2.1, (hr.2 r hr').2.2.1, by rw [hi.len]; exact (hr.2 r hr').2.2.2⟩) (TV.bool ?_)))))))))))))
    rw [too_clash hi hr hR]
    exact TS.andNil (EV.bool ⟨false, _, rfl, hD1, hf1, ⟨hi.ok, hi.fok, hi.len, hi.win⟩, ⟨⟨[], by simp, rfl, fun e he => (nomatch he)⟩, rfl, rfl, rfl⟩, fun z => (nomatch z), Nat.le_add_right _ _, Nat.le_add_right _ _⟩)
  have hR' : 0 ≤ roomS σ rows c := by omega
  obtain ⟨τ, e1, L⟩ := strike_ok hi hr hR'
  rw [e1] at hD1 ⊢
  dsimp only at hD1 ⊢
  have el : decide ((rows.map (leastT σ)).sum ≤ c) = true := decide_eq_true (by omega)
  have hτf : τ.failed = false := L.failed.trans hf
  obtain ⟨t, t1, t2, t3, t4⟩ := L.trail
  have htl : t.length ≤ rows.length := by
    have := congrArg List.length t3
    rw [List.length_map, List.length_map] at this
    rw [this]; exact List.length_filter_le ..
  refine XS.cons (X1.ite (TS.or (TS.compare (EV.name rfl (EV.compare (EV.name rfl (EV.name rfl (O2.le (O2.neB (TV.bool ?_))))))))))
  rw [el]
  refine TS.or (TS.compare (EV.dAttr rfl hD1 (a_is_failed hC) rfl (EV.name rfl (O2.eqB (TV.bool ?_)))))
  rw [hτf]
  refine TS.orNil (XS.nil ?_)
  refine XS.cons (X1.ite (TS.not (TS.plain (EV.name rfl (TV.bool (XS.nil ?_))))))
  refine XS.cons (X1.assign hE (EV.callG (congrArg Scope.names hE) rfl (g_list hC) (k_list hC) (ES.cons (EV.name rfl (ES.nil (OC.listT (.inr (.inl rfl)) (by rw [List.length_map, sizeLine_eq]; omega) fun l hl => ?_))))))
  have hx1 : ∀ o, Ext H1 (upd H1 l o) := fun o b hb => upd_ne fun z => hb (z ▸ hl)
  refine XS.cons (X1.for (IV.seq (EV.name rfl ⟨rows.map row, .inr rfl, .inl rfl, ?_⟩)))
  refine FOR.plain (fun i rest m H' => Sub [("desk", .ref P.a), ("rows", .lst (rows.map row)), ("firsts", .lst (σ.firsts.map dom)), ("c", .int c), ("lots", .lst (σ.doms.map dom)), ("lowest", .int (rows.map (leastT σ)).sum), ("mark", .int (σ.trail.map ent).length), ("due", .ref l)] m ∧
    ∃ (done : List Row) (ds : List Dm), rows = done ++ rest ∧ H' = upd H1 l (.list (ds.map dom)) ∧ ds.length = σ.doms.length ∧ (∀ y, (∃ r ∈ done, r.2 = y) → ds.getD y [] = dm τ y) ∧ ∀ y, (¬ ∃ r ∈ done, r.2 = y) → ds.getD y [] = dm σ y) rows ?_ ?_ ?_
  · refine ⟨?_, [], σ.doms, rfl, rfl, rfl, fun y h => ?_, fun y _ => rfl⟩
    · repeat (first | exact Sub.nil | refine Sub.take rfl ?_)
    · obtain ⟨r, h, _⟩ := h; cases h
  · rintro i r rest m H' ⟨hs, done, ds, hrw, rfl, hdl, hd1, hd2⟩
    have hm : r ∈ rows := by rw [hrw]; simp
    obtain ⟨h0, h1, h2, h3⟩ := hr.2 r hm
    refine AT.tuple (ATs.cons (AT.name hE (ATs.cons (AT.name hE (ATs.nil ?_)))))
    refine XS.sub ?_ (Sub.both (Sub.both hs))
    refine XS.cons (X1.assign hE (EV.binop (EV.binop (EV.name rfl (EV.name rfl (O2.sub (EV.callG (congrArg Scope.names hE) rfl (g__law_least hC) (k__law_least hC) (ES.cons (EV.name rfl (ES.cons (EV.subscript (EV.name rfl (EV.name rfl (O2.lstAt (d := dom (dm σ r.2)) (at_map (dm_at h3)) (Int.natCast_nonneg _) (ES.nil (OC.eq (C_law_least hC (hi.dm h3).ne h1 h2) (O2.add ?_))) (lt63 (dm_at h3) hz1)))))))))))))))
    rw [leastM_eq hi (hr.2 r hm)]
    have em : c - (rows.map (leastT σ)).sum + leastT σ r = roomS σ rows c + leastT σ r := rfl
    rw [em]
    refine XS.cons (X1.setItem (EV.callG (congrArg Scope.names hE) rfl (g_tuple hC) (k_tuple hC) (ES.cons (EV.comp2 (mc := [("coef", .int r.1), ("most", .int (roomS σ rows c + leastT σ r))]) hE (by repeat (first | exact Cap.nil | refine Cap.skip rfl ?_ | refine Cap.take rfl rfl ?_)) (IV.seq (EV.subscript (EV.name rfl (EV.name rfl (O2.lstAt (d := dom (dm σ r.2)) (at_map (dm_at h3)) (Int.natCast_nonneg _) ⟨(dm σ r.2).map pr, .inl rfl, ?_⟩ (lt63 (dm_at h3) hz1))))))))))
    refine ⟨.inl rfl, fun cenv acc hE' hacc => LOOP.mono (fun H' e => ⟨((dm σ r.2).flatMap fun p => fitS r.1 p.1 p.2 (roomS σ rows c + leastT σ r)).map pr, by rw [e]; exact upd_same .., ?_⟩) _ _ (loop_two (f := fun p : Int × Int => fitS r.1 p.1 p.2 (roomS σ rows c + leastT σ r)) (h := pr) hacc 1 (fun p => fitS_len _ _ _ _) (by intro _; rfl) (dm σ r.2) [] ?_ ?_)⟩
    rotate_left
    · have := hD.z2 _ (List.mem_of_getElem? (dm_at h3))
      rw [sizeLine_eq, List.length_nil]; omega
    · intro p hp H' hx
      refine AT.tuple (ATs.cons (AT.name hE' (ATs.cons (AT.name hE' (ATs.nil ⟨rfl, .cons rfl (.cons rfl .refl), ?_⟩)))))
      refine IV.seq (EV.callG (congrArg Scope.names hE') rfl (g__law_fitting hC) (k__law_fitting hC) (ES.cons (EV.name rfl (ES.cons (EV.name rfl (ES.cons (EV.name rfl (ES.cons (EV.name rfl (ES.nil (OC.eq (C_fitting hC h0 h1 h2 ((hi.dm h3).le p hp)) ⟨(fitS r.1 p.1 p.2 (roomS σ rows c + leastT σ r)).map pr, .inl rfl, rfl, rfl, rfl, fun y hy H'' hx' => ?_⟩)))))))))))
      exact AT.name hE' ⟨.cons rfl .refl, TSS.nil (EV.name rfl ⟨rfl, rfl⟩)⟩
    rw [e, drp_upd hacc, fit_nd]
    have hnl : (nd (roomS σ rows c) σ r).length ≤ 100 := Nat.le_trans (struckL_length _ _) (hD.z2 _ (List.mem_of_getElem? (dm_at h3)))
    refine ES.nil (OC.tupleL (by rw [List.length_map, sizeLine_eq]; omega) ?_)
    refine EV.name rfl (EV.name rfl (SI.list (upd_same ..) (Int.natCast_nonneg _) (by rw [Int.toNat_natCast, List.length_map, hdl]; exact h3) (lt63 (dm_at h3) hz1) ?_))
    have es : (ds.map dom).set ((r.2 : Int).toNat) (.tup ((nd (roomS σ rows c) σ r).map pr)) = (ds.set r.2 (nd (roomS σ rows c) σ r)).map dom := by rw [Int.toNat_natCast, List.map_set]; rfl
    rw [es, upd_upd]
    have hset : ∀ y, (ds.set r.2 (nd (roomS σ rows c) σ r)).getD y [] = if r.2 = y then nd (roomS σ rows c) σ r else ds.getD y [] := fun y => by
      simp only [List.getD_eq_getElem?_getD, List.getElem?_set]
      by_cases h : r.2 = y
      · subst h; simp [hdl, h3]
      · simp [h]
    refine XS.nil ⟨?_, done ++ [r], _, by rw [hrw]; simp, rfl, by rw [List.length_set]; exact hdl, fun y hy => ?_, fun y hy => ?_⟩
    · exact Sub.cons rfl (Sub.cons rfl (Sub.cons rfl Sub.refl))
    · rw [hset]
      by_cases q : r.2 = y
      · subst q; rw [if_pos rfl]; exact (L.doneD r hm).symm
      · rw [if_neg q]
        obtain ⟨r', hr', e'⟩ := hy
        rcases List.mem_append.mp hr' with h | h
        · exact hd1 y ⟨r', h, e'⟩
        · rw [List.mem_singleton.mp h] at e'; exact absurd e' q
    · rw [hset, if_neg fun q => hy ⟨r, by simp, q⟩]
      exact hd2 y fun ⟨r', h, e'⟩ => hy ⟨r', List.mem_append.mpr (.inl h), e'⟩
  · rintro i m H' ⟨hs, done, ds, hrw, rfl, hdl, hd1, hd2⟩
    rw [List.append_nil] at hrw; subst hrw
    have eds : ds = τ.doms := by
      apply List.ext_getElem?
      intro y
      by_cases hy : y < ds.length
      · have h2 : y < τ.doms.length := by rw [L.len, ← hdl]; exact hy
        have e3 : ds.getD y [] = dm τ y := by
          by_cases q : ∃ r ∈ rows, r.2 = y
          · exact hd1 y q
          · rw [hd2 y q, L.other y fun r hr' e => q ⟨r, hr', e⟩]
        rw [dm_at h2, ← e3, List.getD_eq_getElem?_getD, List.getElem?_eq_getElem hy]; rfl
      · rw [List.getElem?_eq_none (by omega), List.getElem?_eq_none (by rw [L.len, ← hdl]; omega)]
    subst eds
    refine XS.freeze (hs "due" _ rfl) (upd_same ..) ?_
    rw [drp_upd hl]
    refine XS.sub (m' := [("due", .lst (τ.doms.map dom)), ("desk", .ref P.a), ("rows", .lst (rows.map row)), ("firsts", .lst (σ.firsts.map dom)), ("c", .int c), ("lots", .lst (σ.doms.map dom)), ("mark", .int (σ.trail.map ent).length)]) ?_ ?_
    rotate_left
    · refine Sub.both ?_
      repeat (first | exact Sub.nil | refine Sub.take (hs _ _ rfl) ?_)
    have hN : τ.doms.length = σ.doms.length := L.len
    have hz1' : τ.doms.length ≤ 100 := hD1.z1
    -- the domains
    refine XS.cons (X1.ite (TS.compare (EV.comp (mc := [("desk", .ref P.a)]) hE (by repeat (first | exact Cap.nil | refine Cap.skip rfl ?_ | refine Cap.take rfl rfl ?_)) (IV.range (EV.glob (congrArg Scope.names hE) rfl (g_range hC) ⟨rfl, EV.dMeth0 rfl hD1 (m_size hC) rfl (OC.eq (C_size hC hD1) ⟨_, rfl, by omega, comp_doms hD1 (fun cenv m₁ H' j hE' hx m1 m2 hj => EV.dMeth m1 (DeskAt.ext (by assumption) hx) (m_dom hC) rfl (ES.cons (EV.name m2 (ES.nil (OC.eq (C_dom hC (DeskAt.ext (by assumption) hx) (dm_at hj)) ⟨rfl, rfl⟩))))) ?_ rfl⟩)⟩)))))
    refine EV.name rfl (O2.neD (r := true) gnd_doms gnd_doms (by simp) (TV.bool (XS.nil ?_)))
    -- which were struck
    have hdrop : (τ.trail.map ent).drop (σ.trail.map ent).length = t.map ent := by rw [t1, List.map_append, List.drop_left' (by simp)]
    have htz : (τ.trail.map ent).length ≤ sizeLine := by have := hD1.z4; rw [List.length_map, sizeLine_eq]; omega
    refine XS.cons (X1.ite (TS.compare (EV.callG (congrArg Scope.names hE) rfl (g_sorted hC) (k_sorted hC) (ES.cons (EV.comp (mc := []) hE (by repeat (first | exact Cap.nil | refine Cap.skip rfl ?_ | refine Cap.take rfl rfl ?_)) (IV.seq (EV.sliceFrom (EV.dAttr rfl hD1 (a_trail hC) rfl (EV.name rfl ⟨_, .inr ⟨_, rfl, hD1.lt⟩, htz, _, rfl, _, .inr rfl, ?_⟩)))))))))
    rw [hdrop]
    refine CompOk.pure t (fun e => some (D.int ((e.x : Nat) : Int))) (by rw [sizeLine_eq]; omega) (fun cenv hE' e he H' hx => ?_) ?_ (.inl rfl)
    · exact AT.name hE' ⟨.cons rfl .refl, TSS.nil (EV.subscript (EV.name rfl (EV.int (O2.tupAt rfl (by decide) ⟨rfl, rfl⟩))))⟩
    rw [map_ints (fun e : Ent => ((e.x : Nat) : Int))]
    refine ES.nil (OC.sorted (by rw [List.length_map]; omega) fun ns' hp hs' => ?_)
    refine EV.comp (mc := [("due", .lst (τ.doms.map dom)), ("lots", .lst (σ.doms.map dom))]) hE (by repeat (first | exact Cap.nil | refine Cap.skip rfl ?_ | refine Cap.take rfl rfl ?_)) (IV.range (EV.glob (congrArg Scope.names hE) rfl (g_range hC) ⟨rfl, EV.dMeth0 rfl hD1 (m_size hC) rfl (OC.eq (C_size hC hD1) ⟨_, rfl, by omega, ?_⟩)⟩))
    refine CompOk.pure (List.range τ.doms.length) (fun j => if decide (dm τ j ≠ dm σ j) = true then some (D.int (j : Nat)) else none) (by rw [List.length_range, sizeLine_eq]; omega) (fun cenv hE' j hj H' hx => ?_) ?_ (.inl rfl)
    · have hj1 := List.mem_range.mp hj
      have hj2 : j < σ.doms.length := by rw [← hN]; exact hj1
      refine AT.name hE' ⟨.cons rfl .refl, TSS.one (TS.compare (EV.subscript (EV.name rfl (EV.name rfl (O2.lstAt (d := dom (dm τ j)) (at_map (dm_at hj1)) (Int.natCast_nonneg _) ?_ (lt63 (dm_at hj1) hz1'))))))⟩
      refine EV.subscript (EV.name rfl (EV.name rfl (O2.lstAt (d := dom (dm σ j)) (at_map (dm_at hj2)) (Int.natCast_nonneg _) ?_ (lt63 (dm_at hj2) hz1))))
      refine O2.neD (r := decide (dm τ j = dm σ j)) gnd_dom gnd_dom (by rw [decide_eq_true_iff, dom_inj]) (TV.bool ?_)
      by_cases q : dm τ j = dm σ j
      · rw [decide_eq_true q]
        exact ⟨rfl, by rw [if_neg (by simp [q])]⟩
      · rw [decide_eq_false q]
        exact EV.name rfl ⟨rfl, by rw [if_pos (by simp [q])]⟩
    rw [filterMap_sel]
    have esort : D.lst (ns'.map D.int) = .lst (((List.range τ.doms.length).filter fun j => decide (dm τ j ≠ dm σ j)).map fun j => D.int (j : Nat)) := by
      have e5 : (((List.range τ.doms.length).filter fun j => decide (dm τ j ≠ dm σ j)).map fun j => D.int (j : Nat)) = ((((List.range τ.doms.length).filter fun j => decide (dm τ j ≠ dm σ j)).map fun j => ((j : Nat) : Int))).map D.int := by rw [List.map_map]; rfl
      rw [e5]
      congr 2
      have hsr : (((List.range τ.doms.length).filter fun j => decide (dm τ j ≠ dm σ j)).map fun j => ((j : Nat) : Int)).Pairwise (· ≤ ·) := by
        rw [List.pairwise_map]
        exact ((List.pairwise_lt_range).filter _).imp fun {a b} h => by omega
      refine sorted_same hs' hsr (hp.trans ?_)
      have e6 : (t.map fun e : Ent => ((e.x : Nat) : Int)) = (t.map (·.x)).map fun j : Nat => (j : Int) := by rw [List.map_map]; rfl
      rw [e6, t3]
      refine List.Perm.map _ ?_
      refine (List.perm_ext_iff_of_nodup ?_ ?_).mpr fun j => ?_
      · have hpw : ((rows.filter fun r => decide (nd (roomS σ rows c) σ r ≠ dm σ r.2)).map (·.2)).Pairwise (· < ·) := by
          rw [List.pairwise_map]; exact hr.1.filter _
        exact hpw.imp fun {a b} h => by omega
      · exact ((List.pairwise_lt_range).filter _).imp fun {a b} h => by omega
      · simp only [List.mem_map, List.mem_filter, List.mem_range, decide_eq_true_eq]
        constructor
        · rintro ⟨r, ⟨h1, h2⟩, rfl⟩
          exact ⟨by rw [hN]; exact (hr.2 r h1).2.2.2, by rw [L.doneD r h1]; exact h2⟩
        · rintro ⟨h1, h2⟩
          by_cases q : ∃ r ∈ rows, r.2 = j
          · obtain ⟨r, h3, rfl⟩ := q
            exact ⟨r, ⟨h3, by rw [← L.doneD r h3]; exact h2⟩, rfl⟩
          · exact absurd (L.other j fun r h3 h4 => q ⟨r, h3, h4⟩) h2
    rw [← esort]
    refine O2.neD (r := true) gnd_ints gnd_ints (by simp) (TV.bool (XS.nil ?_))
    -- each strike
    refine XS.cons (X1.for (IV.seq (EV.sliceFrom (EV.dAttr rfl hD1 (a_trail hC) rfl (EV.name rfl ⟨_, .inr ⟨_, rfl, hD1.lt⟩, htz, _, rfl, _, .inr rfl, .inl rfl, ?_⟩)))))
    rw [hdrop]
    refine FOR.plain (fun i rest m H' => H' = H1 ∧ Sub [("due", .lst (τ.doms.map dom)), ("desk", .ref P.a), ("rows", .lst (rows.map row)), ("firsts", .lst (σ.firsts.map dom)), ("c", .int c), ("lots", .lst (σ.doms.map dom)), ("mark", .int (σ.trail.map ent).length)] m ∧ ∀ e ∈ rest, e ∈ t) t ⟨rfl, Sub.refl, fun _ h => h⟩ ?_ ?_
    · rintro i e rest m H' ⟨rfl, hs, hsub⟩
      obtain ⟨j, r, hjr, rfl⟩ := t4 e (hsub e (List.mem_cons_self ..))
      have hrm := List.mem_of_getElem? hjr
      obtain ⟨h0, h1, h2, h3⟩ := hr.2 r hrm
      have h3t : r.2 < τ.doms.length := by rw [hN]; exact h3
      obtain ⟨l1, l2, l3⟩ := lit_ok hi (hr.2 r hrm) hR'
      have hlx : (litS (roomS σ rows c) σ r).x = r.2 := litS_x
      have hdτ : dm τ r.2 = nd (roomS σ rows c) σ r := L.doneD r hrm
      have htoo := too_entry hi hr hR' hjr
      have hrl : (reasonsS σ rows j).length ≤ 10 := Nat.le_trans (reasonsFrom_length _ _ _ _) hz
      have hreas : ∀ l ∈ reasonsS σ rows j, ∃ r' ∈ rows, l.x = r'.2 ∧ r'.2 ≠ r.2 ∧ holdsL l (dm σ l.x) = true := fun l hl => by
        obtain ⟨k, r', g1, g2, g3⟩ := reasonsFrom_mem hl
        obtain ⟨g4, g5⟩ := reason_facts g3
        refine ⟨r', List.mem_of_getElem? g1, g4, fun z => ?_, by rw [g4]; exact g5⟩
        have e7 := hr.uniq (List.mem_of_getElem? g1) hrm z
        subst e7
        obtain ⟨a1, a2⟩ := List.getElem?_eq_some_iff.mp g1
        obtain ⟨b1, b2⟩ := List.getElem?_eq_some_iff.mp hjr
        have hpw := hr.1
        have : k = j := by
          rcases Nat.lt_trichotomy k j with h | h | h
          · have := (List.pairwise_iff_getElem.mp hpw) k j a1 b1 h; rw [a2, b2] at this; omega
          · exact h
          · have := (List.pairwise_iff_getElem.mp hpw) j k b1 a1 h; rw [a2, b2] at this; omega
        subst this
        exact g2 (by omega)
      have hh0 : holdsL (litS (roomS σ rows c) σ r) (nd (roomS σ rows c) σ r) = true := struckL_holds (hi.dm h3) l1
      generalize litS (roomS σ rows c) σ r = lt at *
      generalize reasonsS σ rows j = rs at *
      refine AT.tuple (ATs.cons (AT.name hE (ATs.cons (AT.name hE (ATs.cons (AT.name hE (ATs.cons (AT.name hE (ATs.cons (AT.name hE (ATs.nil ?_)))))))))))
      refine XS.sub (m' := [("x", .int r.2), ("old", dom (dm σ r.2)), ("literal", lit lt), ("reasons", .tup (rs.map lit)), ("due", .lst (τ.doms.map dom)), ("desk", .ref P.a), ("rows", .lst (rows.map row)), ("firsts", .lst (σ.firsts.map dom)), ("c", .int c), ("lots", .lst (σ.doms.map dom)), ("mark", .int (σ.trail.map ent).length)]) ?_ ?_
      rotate_left
      · refine Sub.take rfl (Sub.take rfl (Sub.take rfl (Sub.take rfl ?_)))
        exact Sub.cons rfl (Sub.cons rfl (Sub.cons rfl (Sub.cons rfl (Sub.cons rfl hs))))
      refine XS.cons (X1.assign hE (EV.mono (Φ := fun d H₁ => H₁ = H' ∧ d = lit (negL lt)) (EV.ifExp (TS.compare (EV.subscript (EV.name rfl (EV.int (O2.tupAt rfl (by decide) (EV.str (O2.eqS (TV.bool ?_))))))))) fun d H₁ q => ?_))
      · rw [sgn_le]
        cases hle : lt.le with
        | true =>
          refine EV.tuple (ES.cons (EV.name rfl (ES.cons (EV.str (ES.cons (EV.binop (EV.subscript (EV.name rfl (EV.int (O2.tupAt rfl (by decide) (EV.int (O2.add (ES.nil ⟨lz, rfl, ?_⟩)))))))))))))
          unfold negL lit; rw [hle, hlx]; rfl
        | false =>
          refine EV.tuple (ES.cons (EV.name rfl (ES.cons (EV.str (ES.cons (EV.binop (EV.subscript (EV.name rfl (EV.int (O2.tupAt rfl (by decide) (EV.int (O2.sub (ES.nil ⟨lz, rfl, ?_⟩)))))))))))))
          unfold negL lit; rw [hle, hlx]; rfl
      obtain ⟨rfl, rfl⟩ := q
      refine XS.cons (X1.ite (TS.or (TS.compare (EV.name rfl (EV.subscript (EV.name rfl (EV.name rfl (O2.lstAt (d := dom (dm σ r.2)) (at_map (dm_at h3)) (Int.natCast_nonneg _) (O2.neD (r := true) gnd_dom gnd_dom (by simp) (TV.bool ?_)) (lt63 (dm_at h3) hz1)))))))))
      refine TS.or (TS.compare (EV.subscript (EV.name rfl (EV.int (O2.tupAt rfl (by decide) (EV.name rfl (O2.neI (TV.bool ?_))))))))
      rw [hlx, bne_self_eq_false]
      refine TS.or (TS.not (TS.plain (EV.callG (congrArg Scope.names hE) rfl (g__law_holds hC) (k__law_holds hC) (ES.cons (EV.name rfl (ES.cons (EV.subscript (EV.name rfl (EV.name rfl (O2.lstAt (d := dom (dm τ r.2)) (at_map (dm_at h3t)) (Int.natCast_nonneg _) (ES.nil (OC.eq (C_law_holds hC (L.inv.dm h3t).ne) (TV.bool ?_))) (lt63 (dm_at h3t) hz1')))))))))))
      have hh : holdsL lt (dm τ r.2) = true := by rw [hdτ]; exact hh0
      rw [hh]
      refine TS.orNil (XS.nil ?_)
      refine XS.cons (X1.ite (TS.compare (EV.comp (mc := [("lots", .lst (σ.doms.map dom)), ("x", .int r.2)]) hE (by repeat (first | exact Cap.nil | refine Cap.skip rfl ?_ | refine Cap.take rfl rfl ?_)) (IV.seq (EV.name rfl ⟨_, .inl rfl, CompOk.pure rs (fun _ => Option.none) (by rw [sizeLine_eq]; omega) (fun cenv hE' l hl H' hx => ?_) ?_ (.inl rfl)⟩)))))
      · obtain ⟨r', g1, g2, g3, g4⟩ := hreas l hl
        have hx3 : l.x < σ.doms.length := by rw [g2]; exact (hr.2 r' g1).2.2.2
        refine AT.name hE' ⟨.cons rfl .refl, TSS.one (TS.or (TS.compare (EV.subscript (EV.name rfl (EV.int (O2.tupAt rfl (by decide) (EV.name rfl (O2.eqI (TV.bool ?_)))))))))⟩
        rw [show ((l.x : Int) == (r.2 : Int)) = false by rw [beq_eq_false_iff_ne]; omega]
        refine TS.or (TS.not (TS.plain (EV.callG (congrArg Scope.names hE') rfl (g__law_holds hC) (k__law_holds hC) (ES.cons (EV.name rfl (ES.cons (EV.subscript (EV.name rfl (EV.subscript (EV.name rfl (EV.int (O2.tupAt rfl (by decide) (O2.lstAt (d := dom (dm σ l.x)) (at_map (dm_at hx3)) (Int.natCast_nonneg _) (ES.nil (OC.eq (C_law_holds hC (hi.dm hx3).ne) (TV.bool ?_))) (lt63 (dm_at hx3) hz1))))))))))))))
        rw [g4]
        exact TS.orNil ⟨rfl, rfl⟩
      rw [show (rs.filterMap fun _ => (Option.none : Option D)) = [] from List.filterMap_eq_nil_iff.mpr fun _ _ => rfl]
      refine EV.list (ES.nil ⟨lz, O2.neD (r := true) rfl rfl (by simp) (TV.bool (XS.nil ?_))⟩)
      have hrz : (rs.map lit).length ≤ sizeLine := by rw [List.length_map, sizeLine_eq]; omega
      refine XS.cons (X1.ite (TS.not (TS.plain (EV.callG (congrArg Scope.names hE) rfl (g__law_is_too_much hC) (k__law_is_too_much hC) (ES.cons (EV.name rfl (ES.cons (EV.name rfl (ES.cons (EV.binop (EV.callG (congrArg Scope.names hE) rfl (g_list hC) (k_list hC) (ES.cons (EV.name rfl (ES.nil (OC.listV (.inl rfl) hrz ?_)))))))))))))))
      refine EV.list (ES.cons (EV.name rfl (ES.nil ⟨lz, O2.addL ?_ (by rw [List.length_map, List.length_singleton, sizeLine_eq]; omega)⟩)))
      rw [show rs.map lit ++ [lit (negL lt)] = (rs ++ [negL lt]).map lit by simp]
      refine ES.cons (EV.name rfl (ES.nil (OC.eq (C_too_much (n := n + 6) hC hi.good.f (by rw [hi.len]; exact hz1) (by rw [List.length_append, List.length_singleton]; omega) fun r hr' => ⟨(hr.2 r hr').2.1, (hr.2 r hr').2.2.1, by rw [hi.len]; exact (hr.2 r hr').2.2.2⟩) (TV.bool ?_))))
      rw [htoo]
      refine XS.nil (XS.nil ⟨rfl, ?_, fun e he => hsub e (List.mem_cons_of_mem _ he)⟩)
      exact Sub.cons rfl (Sub.cons rfl (Sub.cons rfl (Sub.cons rfl (Sub.cons rfl Sub.refl))))
    · rintro i m H' ⟨rfl, hs, hsub⟩
      refine XS.sub ?_ hs
      have hrτ : ∀ r ∈ rows, RowOk τ r := fun r h => ⟨(hr.2 r h).1, (hr.2 r h).2.1, (hr.2 r h).2.2.1, by rw [hN]; exact (hr.2 r h).2.2.2⟩
      have hnews := L.news
      have htl1 : τ.trail.length = σ.trail.length + t.length := by rw [t1, List.length_append]
      refine XS.cons (X1.assign hE (EV.callG (congrArg Scope.names hE) rfl (g_len hC) (k_len hC) (ES.cons (EV.dAttr rfl hD1 (a_trail hC) rfl (ES.nil (OC.lenL (.inr ⟨_, rfl, hD1.lt⟩) ?_ htz))))))
      refine XS.cons (X1.ret (EV.ifExp (TS.and (TS.plain (EV.callG (congrArg Scope.names hE) rfl (g_strike_le hC) (k_strike_le hC) (ES.cons (EV.name rfl (ES.cons (EV.name rfl (ES.cons (EV.name rfl (ES.nil (OC.to (C_strike_le hC hD1 L.inv.good (by omega) hrτ (by omega) (by omega)) fun d H2 q1 => ?_)))))))))))))
      obtain ⟨rfl, hD2, hf2⟩ := q1
      rw [strike_again hr hR' L] at hD2 ⊢
      dsimp only at hD2 ⊢
      refine TV.bool (TS.and (TS.compare (EV.callG (congrArg Scope.names hE) rfl (g_len hC) (k_len hC) (ES.cons (EV.dAttr rfl hD2 (a_trail hC) rfl (ES.nil (OC.lenL (.inr ⟨_, rfl, hD2.lt⟩) ?_ htz)))))))
      refine EV.name rfl (O2.eqI (TV.bool ?_))
      rw [beq_self_eq_true]
      refine TS.andNil (EV.bool ⟨true, τ, rfl, hD2, hf1.trans hf2, L.inv, ⟨⟨t, t1, t2, fun e he => ?_⟩, L.marks, L.firsts, L.len⟩, fun _ => hτf, hnews, by omega⟩)
      obtain ⟨j, r, hjr, rfl⟩ := t4 e he
      have hx := (hr.2 r (List.mem_of_getElem? hjr)).2.2.2
      exact ⟨hx, hD.z2 _ (List.mem_of_getElem? (dm_at hx))⟩

end Mine

open PySem PySem.W PyProof.Rows
set_option Elab.async false
set_option linter.unusedVariables false
set_option maxRecDepth 100000
namespace Mine
section
variable {C : Cx} {n : Nat} {env cenv : Env} {m mc : Loc} {H H' : AH}
theorem X1.mono {st : Stmt} {Φ Φ' : FL → Loc → AH → Prop} (h : X1 C n env st m H Φ) (k : ∀ f m' H', Φ f m' H' → Φ' f m' H') : X1 C n env st m H Φ' := fun A s r R =>
  wpAny_mono (h A s r R) (fun v s' p => by obtain ⟨d, m', H', a, b, c, e⟩ := p; exact ⟨d, m', H', a, b, c, k _ _ _ e⟩) fun _ _ x => x
theorem DeskAt.cong {P : Ad} {σ : Sg} (hD : DeskAt H P σ) (g : ∀ b, b ∈ [P.a, P.dd, P.ld, P.lf, P.lt, P.lm, P.ln] → H' b = H b) : DeskAt H' P σ :=
  ⟨(g _ (by simp)).trans hD.a, (g _ (by simp)).trans hD.ns, (g _ (by simp)).trans hD.ld, (g _ (by simp)).trans hD.lf, (g _ (by simp)).trans hD.lt, (g _ (by simp)).trans hD.lm, (g _ (by simp)).trans hD.ln, hD.n1, hD.n2, hD.n3, hD.n4, hD.n5, hD.n6, hD.z1, hD.z2, hD.z3, hD.z4, hD.z5, hD.z6⟩
theorem k_Store (h : IsC C) : Keepy C (.ref 263) := .ref (by rw [h.K]; kernel_rfl)
theorem EV.draw (hC : IsC C) {S : Addr} {cs : List Int} {k : Nat} {arg : Expr} {p1 p2 p3 : Pos} {ns : List (Str × NameKind)} {Φ : D → AH → Prop} (hE : env.scope.names = ns) (hk : ns.lookup ("_law_draw" : Str) = some NameKind.globalImplicit) (hm : m.lookup ("sieve" : Str) = some (D.ref S)) (hS : H S = some (sieve cs k)) (hkk : k < 100000) (hz : cs.length ≤ 100)
    (harg : EV C (n + 1) env arg m H fun d H₁ => H₁ = H ∧ ∃ many : Int, d = .int many ∧ 0 < many ∧ ∀ (v : Int) H', 0 ≤ v → v < many → H' S = some (sieve cs (k + 1)) → (∀ b, b ≠ S → H' b = H b) → Φ (.int v) H') (hp : [Expr.Name "sieve" p2, arg].all (fun | .Starred .. => false | _ => true) = true) (he : starEach [arg] env = (false, eval arg env) :: starEach [] env) :
    EV C (n + 1) env (.Call (.Name "_law_draw" p1) [.Name "sieve" p2, arg] [] p3) m H Φ := by
  refine EV.callG hE hk (g__law_draw hC) (k__law_draw hC) (ES.cons (EV.name hm (ES.cons (harg.mono fun d H₁ q => ?_) he))) (by simp) hp
  obtain ⟨rfl, many, rfl, h0, h1⟩ := q
  refine ES.nil (OC.to (C_draw' hC hS hkk hz h0) fun d H₂ q => ?_)
  obtain ⟨⟨q1, q2⟩, v, rfl, q3, q4⟩ := q
  exact h1 v H₂ q3 q4 q1 q2
theorem loop_draws {S acc : Addr} {cs : List Int} {elt : Expr} {p0 : Pos} {Φ : AH → Prop} {sc : Scope} (hE : cenv.scope = sc) (hst : storable sc "x" = true) (hmc : mc.lookup ("sieve" : Str) = some (D.ref S)) (hmx : mc.lookup ("x" : Str) = none) (hne : acc ≠ S)
    (helt : ∀ m₁ H k, m₁.lookup ("sieve" : Str) = some (D.ref S) → H S = some (sieve cs k) → k < 90000 → EV C n cenv elt m₁ H fun r H' => ∃ d k', r = dom d ∧ k' ≤ k + 11 ∧ H' S = some (sieve cs k') ∧ (∀ b, b ≠ S → H' b = H b) ∧ DomOk d ∧ d.length ≤ 3) :
    ∀ (xs : List Nat) (out : List Dm) (H : AH) (k : Nat), k + 11 * xs.length < 90000 → H acc = some (.list (out.map dom)) → H S = some (sieve cs k) → out.length + xs.length ≤ 100 →
    (∀ (new : List Dm) k' H', new.length = xs.length → (∀ d ∈ new, DomOk d ∧ d.length ≤ 3) → k' ≤ k + 11 * xs.length → H' acc = some (.list ((out ++ new).map dom)) → H' S = some (sieve cs k') → (∀ b, b ≠ S → b ≠ acc → H' b = H b) → Φ H') →
    LOOP C n cenv (.Name "x" p0) [] (emit elt (.ref acc) cenv) Φ (xs.map fun (j : Nat) => D.int j) mc H
  | [], out, H, k, hk, hA, hS, hz, fin => fin [] k H rfl (by simp) (Nat.le_add_right _ _) (by simpa using hA) hS fun _ _ _ => rfl
  | x :: xs, out, H, k, hk, hA, hS, hz, fin => by
    simp only [List.length_cons] at hk hz
    refine AT.name hE ⟨Sub.cons hmx Sub.refl, TSS.nil ?_⟩ hst
    rw [if_pos rfl]
    refine UB.emit ((helt _ H k (lk_tl rfl hmc) hS (by omega)).mono fun r H₁ q => ?_)
    obtain ⟨d, k', rfl, h1, h2, h3, h4, h5⟩ := q
    refine ⟨out.map dom, (h3 acc hne).trans hA, by rw [List.length_map, sizeLine_eq]; omega, ?_⟩
    have e1 : out.map dom ++ [dom d] = (out ++ [d]).map dom := by simp
    rw [e1]
    refine loop_draws hE hst hmc hmx hne helt xs (out ++ [d]) _ k' (by omega) (upd_same ..) ((upd_ne hne.symm).trans h2) (by rw [List.length_append, List.length_singleton]; omega) fun new k'' H' g1 g2 g3 g4 g5 g6 => ?_
    refine fin (d :: new) k'' H' (by simp [g1]) (fun e he => ?_) (by simp only [List.length_cons]; omega) (by rw [g4]; simp) g5 fun b hb hb2 => (g6 b hb hb2).trans ((upd_ne hb2).trans (h3 b hb))
    rcases List.mem_cons.mp he with rfl | he
    · exact ⟨h4, h5⟩
    · exact g2 e he
end
noncomputable def InvD (fs ds : List Dm) : Prop := Inv ⟨ds, fs, [], [], 0, false, []⟩
theorem Inv.toD {σ : Sg} (h : Inv σ) : InvD σ.firsts σ.doms := ⟨h.ok, h.fok, h.len, h.win⟩
theorem InvD.to {σ : Sg} (h : InvD σ.firsts σ.doms) : Inv σ := ⟨h.ok, h.fok, h.len, h.win⟩
inductive Stack (fs : List Dm) : List Nat → List (List Dm) → List Ent → List Dm → Prop
  | nil {t : List Ent} : Stack fs [] [] t fs
  | push {ms : List Nat} {Ks : List (List Dm)} {t t2 : List Ent} {ds ds2 : List Dm} : Stack fs ms Ks t ds → undo t2 ds2 = ds → (∀ e ∈ t2, e.x < ds2.length ∧ e.old.length ≤ 100) → InvD fs ds → (∀ d ∈ ds, d.length ≤ 100) → Stack fs (ms ++ [t.length]) (Ks ++ [ds]) (t ++ t2) ds2
theorem Stack.inv {fs : List Dm} {ms : List Nat} {Ks : List (List Dm)} {t : List Ent} {ds : List Dm} (h : Stack fs ms Ks t ds) :
    (ms = [] ∧ Ks = [] ∧ ds = fs) ∨ ∃ ms' Ks' t' t2 ds', ms = ms' ++ [t'.length] ∧ Ks = Ks' ++ [ds'] ∧ t = t' ++ t2 ∧ Stack fs ms' Ks' t' ds' ∧ undo t2 ds = ds' ∧ (∀ e ∈ t2, e.x < ds.length ∧ e.old.length ≤ 100) ∧ InvD fs ds' := by
  cases h with
  | nil => exact .inl ⟨rfl, rfl, rfl⟩
  | push h1 h2 h3 h4 h5 => exact .inr ⟨_, _, _, _, _, rfl, rfl, rfl, h1, h2, h3, h4⟩
theorem Stack.len {fs : List Dm} {ms : List Nat} {Ks : List (List Dm)} {t : List Ent} {ds : List Dm} (h : Stack fs ms Ks t ds) : ms.length = Ks.length := by
  induction h with
  | nil => rfl
  | push h1 h2 h3 h4 h5 ih => simp [ih]
theorem enterS_grow {l : Lit} {why : Option (List Lit)} {who : Int} {σ : Sg} (hi : Inv σ) (hx : l.x < σ.doms.length) (hz : ∀ d ∈ σ.doms, d.length ≤ 100) : Grow σ (enterS l why who σ).2 ∧ Inv (enterS l why who σ).2 ∧ ((enterS l why who σ).1 = true → (enterS l why who σ).2.failed = σ.failed) := by
  rcases enterS_cases l why who hx hi with ⟨_, e⟩ | ⟨_, _, e⟩ | ⟨h1, h2, e⟩
  · rw [e]; exact ⟨⟨⟨[], by simp, rfl, fun e he => (nomatch he)⟩, rfl, rfl, rfl⟩, ⟨hi.ok, hi.fok, hi.len, hi.win⟩, fun z => (nomatch z)⟩
  · rw [e]; exact ⟨.refl, hi, fun _ => rfl⟩
  · rw [e]
    have hd := hi.dm hx
    have hin := struckL_in hd h1
    refine ⟨⟨⟨[_], rfl, ?_, fun e he => ?_⟩, rfl, rfl, by simp⟩, hi.set hx (struckL_ok hd h1) hin.1 hin.2, fun _ => rfl⟩
    · show List.set (List.set σ.doms l.x _) l.x (dm σ l.x) = σ.doms
      rw [List.set_set]
      apply List.ext_getElem?
      intro j
      rw [List.getElem?_set]
      by_cases z : l.x = j
      · subst z; rw [if_pos rfl, if_pos hx, dm_at hx]
      · rw [if_neg z]
    · rw [List.mem_singleton.mp he]
      exact ⟨hx, hz _ (List.mem_of_getElem? (dm_at hx))⟩
theorem pick2 {a b v : Int} (h0 : 0 ≤ v) (h1 : v < 2) : ∃ f, ([.int a, .int b] : List D)[v.toNat]? = some (.int f) ∧ (f = a ∨ f = b) := by
  have : v = 0 ∨ v = 1 := by omega
  rcases this with rfl | rfl
  · exact ⟨a, rfl, .inl rfl⟩
  · exact ⟨b, rfl, .inr rfl⟩
theorem pick3 {a b c v : Int} (h0 : 0 ≤ v) (h1 : v < 3) : ∃ f, ([.int a, .int b, .int c] : List D)[v.toNat]? = some (.int f) := by
  have : v = 0 ∨ v = 1 ∨ v = 2 := by omega
  rcases this with rfl | rfl | rfl
  · exact ⟨a, rfl⟩
  · exact ⟨b, rfl⟩
  · exact ⟨c, rfl⟩
theorem pickS {v : Int} (h0 : 0 ≤ v) (h1 : v < 2) : ∃ b : Bool, ([.str "<=", .str ">="] : List D)[v.toNat]? = some (.str (sgn b)) := by
  have : v = 0 ∨ v = 1 := by omega
  rcases this with rfl | rfl
  · exact ⟨true, rfl⟩
  · exact ⟨false, rfl⟩
noncomputable def kd (K : List Dm) : D := .lst (K.map dom)
theorem gnd_kept {Ks : List (List Dm)} : D.gnd 8 (.lst (Ks.map kd)) = true := by
  rw [D.gnd]
  refine gnds_all fun e he => ?_
  obtain ⟨i, _, rfl⟩ := List.mem_map.mp he
  exact gnd_doms

end Mine

open PySem PySem.W PyProof.Rows
set_option Elab.async false
set_option linter.unusedVariables false
set_option maxRecDepth 100000
namespace Mine
variable {C : Cx} {n : Nat}
noncomputable def inD (P : Ad) (b : Addr) : Prop := b ∈ [P.a, P.dd, P.ld, P.lf, P.lt, P.lm, P.ln]
set_option maxHeartbeats 8000000 in
theorem C_law (hC : IsC C) {scr : List Int} (hz : scr.length ≤ 63) : CL C (n + 12) (.ref 317) [.lst (scr.map D.int)] (fun _ => none) fun r H' => r = .bool true := by
  have pw10 : ((Builtin.Int.intBits 10 : Nat) : Int) * 30 ≤ 2 ^ 27 := by decide +kernel
  have pw20 : ((Builtin.Int.intBits 10 : Nat) : Int) * 20 ≤ 2 ^ 27 := by decide +kernel
  have pw1 : ((Builtin.Int.intBits 10 : Nat) : Int) * 10 ≤ 2 ^ 27 := by decide +kernel
  refine' CL.def (names := ["script"]) ⟨⟨⟨_, _, _, _, _, _, _, _, _, _, _, _, _⟩, ?h1, ?h2, ?h3⟩, ?h4, ?h5, ?h6, ?h7, ?h8, ?h9⟩ rfl ?main
  case h1 => rw [hC.K]; exact rfl
  case h2 => rw [hC.K]; kernel_rfl
  case h3 => exact allS fun _ => all0 rfl
  case h4 => decide +kernel
  case h5 => decide +kernel
  case h6 => decide +kernel
  case h7 => decide +kernel
  case h8 => rfl
  case h9 => exact ⟨rfl, rfl⟩
  intro env hE
  refine XS.cons ?_
  refine X1.assignTup (hw := ?sw1) ?_
  refine EV.tuple ?_
  refine ES.cons ?_
  refine EV.dict2 ?_ ?_
  exact str_ne
  refine EV.comp (mc := []) hE (by repeat (first | exact Cap.nil | refine Cap.skip rfl ?_ | refine Cap.take rfl rfl ?_)) ?_
  refine IV.seq ?_
  refine EV.sliceTo ?_
  refine EV.name rfl ?_
  refine EV.int ?_
  refine ⟨scr.map D.int, .inl rfl, by rw [List.length_map, sizeLine_eq]; omega, 60, ?_⟩
  refine ⟨rfl, ?_⟩
  refine ⟨_, .inr rfl, ?_⟩
  case sw1 => revert env; rintro ⟨⟩ rfl; rfl
  rw [← List.map_take]
  refine CompOk.pure (scr.take 60) (fun i => some (D.int (i.fmod 1000003))) (by rw [List.length_take, sizeLine_eq]; omega) (fun cenv hE' i hi H' hx => ?_) ?_ (.inl rfl)
  · exact AT.name hE' ⟨.cons rfl .refl, TSS.nil (EV.binop (EV.callG (congrArg Scope.names hE') rfl (g_int hC) (k_int hC) (ES.cons (EV.name rfl (ES.nil (OC.intI (EV.int (O2.mod ⟨rfl, rfl⟩ (by decide)))))))))⟩
  rw [map_ints]
  generalize hcs : (scr.take 60).map (fun i => i.fmod 1000003) = cs
  have hcz : cs.length ≤ 100 := by rw [← hcs, List.length_map, List.length_take]; omega
  refine EV.int fun S _ => ?_
  have hS0 : (upd (fun _ => none) S (sieve cs 0) : AH) S = some (sieve cs 0) := upd_same ..
  show ES C _ env _ _ _ (upd (fun _ => none) S (sieve cs 0)) _
  generalize hH0 : (upd (fun _ => none) S (sieve cs 0) : AH) = H0 at hS0 ⊢
  have oc : ∀ {Φ : D → AH → Prop}, (∀ x dd, H0 x = Option.none → H0 dd = Option.none → x ≠ dd → CL C (n + 9) (.ref 127) [.ref x] (upd (upd H0 dd (.ns [])) x (.inst dd)) fun r H' => r = .none ∧ Φ (.ref x) H') → OC C (n + 11) env (.ref 263) [] [("script", .lst (scr.map D.int))] H0 Φ := fun h => by
    have := OC.new (C := C) (n := n + 9) (env := env) (m := [("script", .lst (scr.map D.int))]) (H := H0) (fI := 127) (by rw [hC.K, hC.cls]; kernel_rfl) (by rw [hC.K, hC.cls]; kernel_rfl) (by rw [hC.K]; kernel_rfl) h
    rw [hC.cls] at this; exact this
  refine ES.cons (EV.call0 (EV.glob (congrArg Scope.names hE) rfl (g_Store hC) ⟨rfl, oc fun x dd hx hdd hxd => (C_init hC hx hdd hxd).mono fun r H1 q => ?_⟩) (k_Store hC))
  obtain ⟨rfl, hext, P, rfl, hPn, hD1⟩ := q
  refine ⟨rfl, ?_⟩
  have hS1 : H1 S = some (sieve cs 0) := hext.at hS0
  refine ES.cons (EV.listT (ES.nil ⟨lz, fun l hl => ES.nil ⟨lz, ?_⟩⟩))
  have hx2 : Ext H1 (upd H1 l (.list [])) := fun b hb => upd_ne fun z => hb (z ▸ hl)
  have hS2 := hx2.at hS1
  have hD2 := hD1.ext hx2
  have hl2 : upd H1 l (.list []) l = some (.list []) := upd_same ..
  have hlP : l ∉ [P.a, P.dd, P.ld, P.lf, P.lt, P.lm, P.ln] := fun z => by
    simp only [List.mem_cons, List.not_mem_nil, or_false] at z
    rcases z with z | z | z | z | z | z | z
    · rw [z, hD1.a] at hl; cases hl
    · rw [z, hD1.ns] at hl; cases hl
    · rw [z, hD1.ld] at hl; cases hl
    · rw [z, hD1.lf] at hl; cases hl
    · rw [z, hD1.lt] at hl; cases hl
    · rw [z, hD1.lm] at hl; cases hl
    · rw [z, hD1.ln] at hl; cases hl
  generalize upd H1 l (.list []) = H2 at hS2 hD2 hl2 ⊢
  have hSP : ∀ {H : AH} {P : Ad} {σ : Sg} {k : Nat}, DeskAt H P σ → H S = some (sieve cs k) → S ∉ [P.a, P.dd, P.ld, P.lf, P.lt, P.lm, P.ln] := fun hD hS z => by
    simp only [List.mem_cons, List.not_mem_nil, or_false] at z
    rcases z with z | z | z | z | z | z | z
    · rw [z, hD.a] at hS; cases hS
    · rw [z, hD.ns] at hS; cases hS
    · rw [z, hD.ld] at hS; cases hS
    · rw [z, hD.lf] at hS; cases hS
    · rw [z, hD.lt] at hS; cases hS
    · rw [z, hD.lm] at hS; cases hS
    · rw [z, hD.ln] at hS; cases hS
  have hlS : l ≠ S := fun z => by rw [z, hS2] at hl2; cases hl2
  -- what a draw leaves
  have keepD : ∀ {H H' : AH} {P : Ad} {σ : Sg} {k : Nat}, DeskAt H P σ → H S = some (sieve cs k) → (∀ b, b ≠ S → H' b = H b) → DeskAt H' P σ := fun {H H' P σ k} hD hS hf => by
    have g : ∀ b, b ∈ [P.a, P.dd, P.ld, P.lf, P.lt, P.lm, P.ln] → H' b = H b := fun b hb => hf b fun z => hSP hD hS (z ▸ hb)
    exact ⟨(g _ (by simp)).trans hD.a, (g _ (by simp)).trans hD.ns, (g _ (by simp)).trans hD.ld, (g _ (by simp)).trans hD.lf, (g _ (by simp)).trans hD.lt, (g _ (by simp)).trans hD.lm, (g _ (by simp)).trans hD.ln, hD.n1, hD.n2, hD.n3, hD.n4, hD.n5, hD.n6, hD.z1, hD.z2, hD.z3, hD.z4, hD.z5, hD.z6⟩
  refine AT.tuple (ATs.cons (AT.name hE (ATs.cons (AT.name hE (ATs.cons (AT.name hE (ATs.nil ?_)))))))
  refine XS.cons (X1.assign hE (EV.binop (EV.int (EV.draw hC (n := n + 10) (hp := rfl) (he := rfl) (congrArg Scope.names hE) rfl rfl hS2 (by decide) hcz (EV.int ⟨rfl, _, rfl, by decide, fun v H3 hv0 hv1 hS3 hf3 => O2.add ?_⟩)))))
  have hD3 := keepD hD2 hS2 hf3
  have hl3 : H3 l = some (.list []) := (hf3 l hlS).trans hl2
  obtain ⟨N, hN⟩ : ∃ N : Nat, 1 + v = N := ⟨(1 + v).toNat, by omega⟩
  rw [hN]
  have hN1 : 1 ≤ N := by omega
  have hN4 : N ≤ 4 := by omega
  refine XS.cons (X1.assignC (hs := ?sw2) hE (EV.comp (mc := [("sieve", .ref S)]) hE (by repeat (first | exact Cap.nil | refine Cap.skip rfl ?_ | refine Cap.take rfl rfl ?_)) (IV.range (EV.glob (congrArg Scope.names hE) rfl (g_range hC) ⟨rfl, EV.name rfl ⟨N, rfl, by omega, .inl rfl, fun cenv acc hE' hacc => ?_⟩⟩))))
  case sw2 => clear oc; revert env; rintro ⟨⟩ rfl; rfl
  have haS : acc ≠ S := fun z => by rw [z, hS3] at hacc; cases hacc
  refine loop_draws (S := S) (cs := cs) hE' (by decide +kernel) rfl rfl haS (fun m₁ H k hm hS hk => ?_) (List.range N) [] _ 1 (by rw [List.length_range]; omega) (upd_same ..) ((upd_ne haS.symm).trans hS3) (by rw [List.length_range]; simp; omega) fun fs k H4 hfl hfo hk hA hS4 hf4 => ?_
  · exact EV.callG (congrArg Scope.names hE') rfl (g__law_domain hC) (k__law_domain hC) (ES.cons (EV.name hm (ES.nil (OC.of (C_law_domain hC hS hk hcz)))))
  rw [List.length_range] at hfl hk
  refine ⟨fs.map dom, by simpa using hA, ?_⟩
  have hS5 : drp H4 acc S = some (sieve cs k) := by unfold drp; rw [if_neg haS.symm]; exact hS4
  have hf5 : ∀ b, b ≠ S → drp H4 acc b = H3 b := fun b hb => by
    unfold drp
    by_cases z : b = acc
    · rw [if_pos z, z]; exact hacc.symm
    · rw [if_neg z]; exact (hf4 b hb z).trans (upd_ne z)
  have hD5 := keepD hD3 hS3 hf5
  have hl5 : drp H4 acc l = some (.list []) := (hf5 l hlS).trans hl3
  generalize drp H4 acc = H5 at hS5 hD5 hl5 ⊢
  have hfz : ∀ d ∈ fs, d ≠ [] ∧ d.length ≤ 100 := fun d hd => ⟨(hfo d hd).1.ne, by have := (hfo d hd).2; omega⟩
  refine XS.cons ?_
  refine X1.for (IV.range (EV.glob (congrArg Scope.names hE) rfl (g_range hC) ⟨rfl, EV.name rfl ⟨N, rfl, by omega, .inl rfl, ?_⟩⟩))
  refine FOR.plain (fun i rest m H' => Sub [("firsts", .lst (fs.map dom)), ("many", .int (N : Nat)), ("rows", .ref l), ("desk", .ref P.a), ("sieve", .ref S)] m ∧ rest = List.range' i (N - i) ∧ i ≤ N ∧
    ∃ (k : Nat) (rws : List Row), H' S = some (sieve cs k) ∧ k ≤ 50 + 5 * i ∧ DeskAt H' P ⟨fs.take i, fs.take i, [], [], 0, false, []⟩ ∧ H' l = some (.list (rws.map row)) ∧ rws.Pairwise (fun a b => a.2 < b.2) ∧ (∀ r ∈ rws, r.1 ≠ 0 ∧ -(2 ^ 63) < r.1 ∧ r.1 < 2 ^ 63 ∧ r.2 < i) ∧ rws.length ≤ i) (List.range N) ?_ ?_ ?_
  · refine ⟨?_, List.range_eq_range', Nat.zero_le _, k, [], hS5, by omega, hD5, hl5, .nil, by simp, Nat.le_refl _⟩
    repeat (first | exact Sub.nil | refine Sub.take rfl ?_)
  · rintro i x rest m H6 ⟨hs, hrg, hiN, k, rws, hS6, hk6, hD6, hl6, hpw, hrw, hrl⟩
    obtain ⟨j, hj⟩ : ∃ j, N - i = j + 1 := ⟨N - i - 1, by
      cases hq : N - i with
      | zero => rw [hq] at hrg; cases hrg
      | succ j => omega⟩
    rw [hj, List.range'_succ] at hrg
    have hxi : x = i := by cases hrg; rfl
    have hrest : rest = List.range' (i + 1) (N - (i + 1)) := by cases hrg; congr 1; omega
    subst hxi
    have hxN : x < fs.length := by omega
    have hfx : fs[x]? = some fs[x] := List.getElem?_eq_getElem hxN
    have hfm : fs[x] ∈ fs := List.getElem_mem hxN
    refine AT.name hE ?_
    refine XS.sub ?_ (Sub.both hs)
    have htk : (fs.take x).length = x := by rw [List.length_take]; omega
    refine XS.cons (X1.expr (EV.dMeth rfl hD6 (m_new_var hC) rfl (ES.cons (EV.subscript (EV.name rfl (EV.name rfl (O2.lstAt (d := dom fs[x]) (at_map hfx) (Int.natCast_nonneg _) (ES.nil (OC.to (C_new_var (n := n + 6) hC hD6 (by dsimp only; omega) (hfz _ hfm).2 (hfz _ hfm).1) fun d H7 q => ?_)) (lt63 hfx (by omega)))))))))
    obtain ⟨_, hD7, hf7⟩ := q
    have hS7 : H7 S = some (sieve cs k) := (hf7 S (hSP hD6 hS6) (by rw [hS6]; simp)).trans hS6
    have hl7 : H7 l = some (.list (rws.map row)) := (hf7 l hlP (by rw [hl6]; simp)).trans hl6
    have etk : fs.take x ++ [fs[x]] = fs.take (x + 1) := by rw [List.take_add_one, hfx]; rfl
    dsimp only at hD7
    rw [etk] at hD7
    refine XS.cons (X1.assign hE (EV.subscript (EV.tuple (ES.cons (EV.binop (EV.int (EV.draw hC (n := n + 10) (hp := rfl) (he := rfl) (congrArg Scope.names hE) rfl rfl hS7 (by omega) hcz (EV.int ⟨rfl, _, rfl, by decide, fun v8 H8 hva8 hvb8 hS8 hf8 => O2.add ?_⟩))))))))
    refine ES.cons (EV.binop (EV.binop (EV.int (EV.int (O2.pow (EV.draw hC (n := n + 10) (hp := rfl) (he := rfl) (congrArg Scope.names hE) rfl rfl hS8 (by omega) hcz (EV.int ⟨rfl, _, rfl, by decide, fun v9 H9 hva9 hvb9 hS9 hf9 => O2.add ?_⟩)) (by decide) pw1)))))
    refine ES.nil ⟨lz, EV.binop (EV.draw hC (n := n + 10) (hp := rfl) (he := rfl) (congrArg Scope.names hE) rfl rfl hS9 (by omega) hcz (EV.int ⟨rfl, _, rfl, by decide, fun vA HA hvaA hvbA hSA hfA => EV.int (O2.floordiv ?_ (by decide) (by decide) (by decide))⟩))⟩
    have hq5 : 0 ≤ vA.fdiv 5 ∧ vA.fdiv 5 < 2 := by rw [Int.fdiv_eq_ediv_of_nonneg _ (by decide)]; omega
    obtain ⟨co, hp, hco⟩ := pick2 (a := 1 + v8) (b := 10 ^ 10 + v9) hq5.1 hq5.2
    have hco0 : 0 < co ∧ co < 2 ^ 40 := by rcases hco with rfl | rfl <;> omega
    refine O2.tupAt hp hq5.1 ?_
    refine XS.cons (X1.assign hE (EV.draw hC (n := n + 10) (hp := rfl) (he := rfl) (congrArg Scope.names hE) rfl rfl hSA (by omega) hcz (EV.int ⟨rfl, _, rfl, by decide, fun vB HB hvaB hvbB hSB hfB => ?_⟩)))
    have hlB : HB l = some (.list (rws.map row)) := (hfB l hlS).trans ((hfA l hlS).trans ((hf9 l hlS).trans ((hf8 l hlS).trans hl7)))
    have hDB := keepD (keepD (keepD (keepD hD7 hS7 hf8) hS8 hf9) hS9 hfA) hSA hfB
    refine XS.cons (X1.ite (TS.compare (EV.name rfl (EV.int (O2.lt (TV.bool ?_))))))
    cases hw8 : decide (vB < 8) with
    | false =>
      refine XS.nil (XS.nil ⟨?_, hrest, by omega, k + 1 + 1 + 1 + 1, rws, hSB, by omega, hDB, hlB, hpw, fun r hr => ?_, by omega⟩)
      · exact Sub.cons rfl (Sub.cons rfl (Sub.cons rfl Sub.refl))
      · obtain ⟨a, b, c, d⟩ := hrw r hr
        exact ⟨a, b, c, by omega⟩
    | true =>
      have key : ∀ cf : Int, (cf = co ∨ cf = 0 - co) → ∃ rws' : List Row, upd HB l (.list (rws.map row ++ [.tup [.int cf, .int x]])) = upd HB l (.list (rws'.map row)) ∧ rws'.Pairwise (fun a b => a.2 < b.2) ∧ (∀ r ∈ rws', r.1 ≠ 0 ∧ -(2 ^ 63) < r.1 ∧ r.1 < 2 ^ 63 ∧ r.2 < x + 1) ∧ rws'.length ≤ x + 1 := fun cf hcf => by
        refine ⟨rws ++ [(cf, x)], by simp [row], ?_, fun r hr => ?_, by rw [List.length_append, List.length_singleton]; omega⟩
        · rw [List.pairwise_append]
          refine ⟨hpw, by simp, fun a ha b hb => ?_⟩
          rw [List.mem_singleton.mp hb]; exact (hrw a ha).2.2.2
        · rcases List.mem_append.mp hr with h | h
          · obtain ⟨a, b, c, d⟩ := hrw r h
            exact ⟨a, b, c, by omega⟩
          · rw [List.mem_singleton.mp h]; dsimp only; omega
      have hDl : ∀ o, DeskAt (upd HB l o) P ⟨fs.take (x + 1), fs.take (x + 1), [], [], 0, false, []⟩ := fun o => by
        have g : ∀ b, b ∈ [P.a, P.dd, P.ld, P.lf, P.lt, P.lm, P.ln] → upd HB l o b = HB b := fun b hb => upd_ne fun z => hlP (z ▸ hb)
        exact ⟨(g _ (by simp)).trans hDB.a, (g _ (by simp)).trans hDB.ns, (g _ (by simp)).trans hDB.ld, (g _ (by simp)).trans hDB.lf, (g _ (by simp)).trans hDB.lt, (g _ (by simp)).trans hDB.lm, (g _ (by simp)).trans hDB.ln, hDB.n1, hDB.n2, hDB.n3, hDB.n4, hDB.n5, hDB.n6, hDB.z1, hDB.z2, hDB.z3, hDB.z4, hDB.z5, hDB.z6⟩
      refine XS.cons (X1.expr (EV.method (EV.name rfl (MC.append hlB (EV.tuple (ES.cons (EV.ifExp (TS.compare (EV.binop (EV.name rfl (EV.int (O2.mod (EV.int (O2.eqI (TV.bool ?_)) ) (by decide)))))))))))))
      have hlz : (rws.map row).length ≤ sizeLine := by rw [List.length_map, sizeLine_eq]; omega
      have hSl : ∀ o, upd HB l o S = some (sieve cs (k + 1 + 1 + 1 + 1)) := fun o => (upd_ne hlS.symm).trans hSB
      cases hw2 : (vB.fmod 2 == 0) with
      | true =>
        obtain ⟨rws', e, h1, h2, h3⟩ := key co (.inl rfl)
        refine EV.name rfl (ES.cons (EV.name rfl (ES.nil ⟨lz, _, hlB, hlz, XS.nil (XS.nil ?_)⟩)))
        rw [e]
        refine ⟨?_, hrest, by omega, _, rws', hSl _, by omega, hDl _, upd_same .., h1, h2, h3⟩
        exact Sub.cons rfl (Sub.cons rfl (Sub.cons rfl Sub.refl))
      | false =>
        obtain ⟨rws', e, h1, h2, h3⟩ := key (0 - co) (.inr rfl)
        refine EV.binop (EV.int (EV.name rfl (O2.sub (ES.cons (EV.name rfl (ES.nil ⟨lz, _, hlB, hlz, XS.nil (XS.nil ?_)⟩))))))
        rw [e]
        refine ⟨?_, hrest, by omega, _, rws', hSl _, by omega, hDl _, upd_same .., h1, h2, h3⟩
        exact Sub.cons rfl (Sub.cons rfl (Sub.cons rfl Sub.refl))
  · rintro i m H6 ⟨hs, hrg, hiN, k, rws, hS6, hk6, hD6, hl6, hpw, hrw, hrl⟩
    have hiN' : i = N := by
      have := congrArg List.length hrg
      rw [List.length_range', List.length_nil] at this
      omega
    subst hiN'
    rw [List.take_of_length_le (by omega)] at hD6
    refine XS.freeze (hs "rows" _ rfl) hl6 ?_
    refine XS.sub (m' := [("rows", .lst (rws.map row)), ("firsts", .lst (fs.map dom)), ("many", .int (i : Nat)), ("desk", .ref P.a), ("sieve", .ref S)]) ?_ ?_
    rotate_left
    · refine Sub.both ?_
      repeat (first | exact Sub.nil | refine Sub.take (hs _ _ rfl) ?_)
    have hS7 : drp H6 l S = some (sieve cs k) := by unfold drp; rw [if_neg hlS.symm]; exact hS6
    have hD7 : DeskAt (drp H6 l) P ⟨fs, fs, [], [], 0, false, []⟩ := by
      have g : ∀ b, b ∈ [P.a, P.dd, P.ld, P.lf, P.lt, P.lm, P.ln] → drp H6 l b = H6 b := fun b hb => by unfold drp; rw [if_neg (fun z => hlP (by rw [← z]; exact hb))]
      exact ⟨(g _ (by simp)).trans hD6.a, (g _ (by simp)).trans hD6.ns, (g _ (by simp)).trans hD6.ld, (g _ (by simp)).trans hD6.lf, (g _ (by simp)).trans hD6.lt, (g _ (by simp)).trans hD6.lm, (g _ (by simp)).trans hD6.ln, hD6.n1, hD6.n2, hD6.n3, hD6.n4, hD6.n5, hD6.n6, hD6.z1, hD6.z2, hD6.z3, hD6.z4, hD6.z5, hD6.z6⟩
    generalize drp H6 l = H7 at hS7 hD7 ⊢
    refine XS.cons (X1.assign hE (EV.subscript (EV.tuple (ES.cons (EV.binop (EV.draw hC (n := n + 10) (hp := rfl) (he := rfl) (congrArg Scope.names hE) rfl rfl hS7 (by omega) hcz (EV.int ⟨rfl, _, rfl, by decide, fun v8 H8 hva8 hvb8 hS8 hf8 => EV.int (O2.sub ?_)⟩)))))))
    refine ES.cons (EV.binop (EV.binop (EV.int (EV.int (O2.pow (EV.draw hC (n := n + 10) (hp := rfl) (he := rfl) (congrArg Scope.names hE) rfl rfl hS8 (by omega) hcz (EV.int ⟨rfl, _, rfl, by decide, fun v9 H9 hva9 hvb9 hS9 hf9 => O2.add ?_⟩)) (by decide) pw20)))))
    refine ES.cons (EV.binop (EV.binop (EV.int (EV.int (O2.pow (EV.draw hC (n := n + 10) (hp := rfl) (he := rfl) (congrArg Scope.names hE) rfl rfl hS9 (by omega) hcz (EV.int ⟨rfl, _, rfl, by decide, fun vA HA hvaA hvbA hSA hfA => O2.add ?_⟩)) (by decide) pw10)))))
    refine ES.nil ⟨lz, EV.draw hC (n := n + 10) (hp := rfl) (he := rfl) (congrArg Scope.names hE) rfl rfl hSA (by omega) hcz (EV.int ⟨rfl, _, rfl, by decide, fun vB HB hvaB hvbB hSB hfB => ?_⟩)⟩
    obtain ⟨ex, hp⟩ := pick3 (a := v8 - 2) (b := 10 ^ 20 + v9) (c := 10 ^ 30 + vA) hvaB hvbB
    refine O2.tupAt hp hvaB ?_
    have hDB := keepD (keepD (keepD (keepD hD7 hS7 hf8) hS8 hf9) hS9 hfA) hSA hfB
    have hfx : ∀ r ∈ rws, fs[r.2]? = some (fs.getD r.2 []) := fun r hr => by
      rw [List.getD_eq_getElem?_getD, List.getElem?_eq_getElem (by rw [hfl]; exact (hrw r hr).2.2.2)]; rfl
    refine XS.cons (X1.swap2 (x := "c") (y := "kept") (hw := ?sw3) hE (EV.tuple (ES.cons (EV.binop (EV.callG (congrArg Scope.names hE) rfl (g_sum hC) (k_sum hC) (ES.cons (EV.comp (mc := [("firsts", .lst (fs.map dom))]) hE (by repeat (first | exact Cap.nil | refine Cap.skip rfl ?_ | refine Cap.take rfl rfl ?_)) (IV.seq (EV.name rfl ⟨_, .inr rfl, CompOk.pure rws (fun r => some (D.int (leastM r.1 (fs.getD r.2 [])))) (by rw [sizeLine_eq]; omega) (fun cenv hE' r hr' H' hx => ?_) ?_ (.inl rfl)⟩)))))))))
    case sw3 => clear oc; revert env; rintro ⟨⟩ rfl; rfl
    · obtain ⟨h0, h1, h2, h3⟩ := hrw r hr'
      refine AT.tuple (ATs.cons (AT.name hE' (ATs.cons (AT.name hE' (ATs.nil ⟨.cons rfl (.cons rfl .refl), TSS.nil ?_⟩)))))
      exact EV.callG (congrArg Scope.names hE') rfl (g__law_least hC) (k__law_least hC) (ES.cons (EV.name rfl (ES.cons (EV.subscript (EV.name rfl (EV.name rfl (O2.lstAt (d := dom (fs.getD r.2 [])) (at_map (hfx r hr')) (Int.natCast_nonneg _) (ES.nil (OC.eq (C_law_least hC (hfz _ (List.mem_of_getElem? (hfx r hr'))).1 h1 h2) ⟨rfl, rfl⟩)) (lt63 (hfx r hr') (by omega)))))))))
    rw [map_ints]
    refine ES.nil (OC.sumL (EV.name rfl (O2.add (ES.cons (EV.listT (ES.nil ⟨lz, fun q hq => ES.nil ⟨lz, _, _, rfl, ?_⟩⟩))))))
    generalize (rws.map fun r => leastM r.1 (fs.getD r.2 [])).sum + ex = c
    have hqS : q ≠ S := fun z => by rw [z, hSB] at hq; cases hq
    have hqP : q ∉ [P.a, P.dd, P.ld, P.lf, P.lt, P.lm, P.ln] := fun z => by
      simp only [List.mem_cons, List.not_mem_nil, or_false] at z
      rcases z with z | z | z | z | z | z | z
      · rw [z, hDB.a] at hq; cases hq
      · rw [z, hDB.ns] at hq; cases hq
      · rw [z, hDB.ld] at hq; cases hq
      · rw [z, hDB.lf] at hq; cases hq
      · rw [z, hDB.lt] at hq; cases hq
      · rw [z, hDB.lm] at hq; cases hq
      · rw [z, hDB.ln] at hq; cases hq
    have hSC : upd HB q (.list []) S = some (sieve cs (k + 1 + 1 + 1 + 1)) := (upd_ne hqS.symm).trans hSB
    have hDC : DeskAt (upd HB q (.list [])) P ⟨fs, fs, [], [], 0, false, []⟩ := hDB.cong fun b hb => upd_ne fun z => hqP (z ▸ hb)
    have hqC : upd HB q (.list []) q = some (.list []) := upd_same ..
    generalize upd HB q (.list []) = HC at hSC hDC hqC ⊢
    have hfN : fs.length = i := hfl
    have hi0 : Inv ⟨fs, fs, [], [], 0, false, []⟩ := ⟨fun d hd => (hfo d hd).1, fun d hd => (hfo d hd).1, rfl, fun x _ => ⟨Int.le_refl _, Int.le_refl _⟩⟩
    clear hi0 hf3 hv0 hv1 hl3 hl hx2 hl2
    have hInvF : InvD fs fs := ⟨fun d hd => (hfo d hd).1, fun d hd => (hfo d hd).1, rfl, fun x _ => ⟨Int.le_refl _, Int.le_refl _⟩⟩
    refine XS.cons ?_
    refine X1.for (IV.range (EV.glob (congrArg Scope.names hE) rfl (g_range hC) ⟨rfl, EV.binop (EV.int (EV.draw hC (n := n + 10) (hp := rfl) (he := rfl) (congrArg Scope.names hE) rfl rfl hSC (by omega) hcz (EV.int ⟨rfl, _, rfl, by decide, fun vD HD hvaD hvbD hSD hfD => O2.add ⟨(1 + vD).toNat, by rw [Int.toNat_of_nonneg (by omega)], by omega, .inl rfl, ?_⟩⟩)))⟩))
    have hDD := keepD hDC hSC hfD
    have hqD : HD q = some (.list []) := (hfD q hqS).trans hqC
    refine FOR.plain (fun j rest m H' => Sub [("c", .int c), ("kept", .ref q), ("rows", .lst (rws.map row)), ("firsts", .lst (fs.map dom)), ("many", .int (i : Nat)), ("desk", .ref P.a), ("sieve", .ref S)] m ∧ j + rest.length ≤ 4 ∧
      ∃ (k : Nat) (P' : Ad) (σ : Sg) (Ks : List (List Dm)), H' S = some (sieve cs k) ∧ k ≤ 200 + 10 * j ∧ DeskAt H' P' σ ∧ P'.a = P.a ∧ Inv σ ∧ σ.failed = false ∧ σ.firsts = fs ∧ H' q = some (.list (Ks.map kd)) ∧ q ∉ [P'.a, P'.dd, P'.ld, P'.lf, P'.lt, P'.lm, P'.ln] ∧
        Stack fs σ.marks Ks σ.trail σ.doms ∧ σ.trail.length ≤ 5 * j ∧ σ.news ≤ 5 * j ∧ Ks.length ≤ j) (List.range (1 + vD).toNat) ?_ ?_ ?_
    · refine ⟨?_, by rw [List.length_range]; omega, k + 1 + 1 + 1 + 1 + 1, P, _, [], hSD, by omega, hDD, rfl, hInvF, rfl, rfl, hqD, hqP, .nil, Nat.zero_le _, Nat.zero_le _, Nat.zero_le _⟩
      repeat (first | exact Sub.nil | refine Sub.take rfl ?_)
    · rintro j x rest m H9 ⟨hs, hjr, k, P', σ, Ks, hS9, hk9, hD9, hPa, hi9, hfa, hff, hq9, hqP', hst, htr, hnw, hKs⟩
      simp only [List.length_cons] at hjr
      rw [← hPa] at hs
      have hdN : σ.doms.length = i := by rw [← hi9.len, hff, hfN]
      have hrw9 : ∀ r ∈ rws, RowOk σ r := fun r hr => by
        obtain ⟨a, b, c, d⟩ := hrw r hr
        exact ⟨a, b, c, by rw [hdN]; exact d⟩
      have hml := hst.len
      refine AT.name hE ?_
      refine XS.sub ?_ (Sub.both hs)
      refine XS.cons (X1.expr (EV.dMeth0 rfl hD9 (m_push hC) rfl (OC.to (C_push (n := n + 10) hC hD9 (by omega)) fun d HE qq => ?_)))
      obtain ⟨_, hDE, hfE⟩ := qq
      have hSE : HE S = some (sieve cs k) := (hfE S (hSP hD9 hS9) (by rw [hS9]; simp)).trans hS9
      have hqE : HE q = some (.list (Ks.map kd)) := (hfE q hqP' (by rw [hq9]; simp)).trans hq9
      refine XS.cons (X1.expr (EV.method (EV.name rfl (MC.append hqE (EV.comp (mc := [("desk", .ref P'.a)]) hE (by repeat (first | exact Cap.nil | refine Cap.skip rfl ?_ | refine Cap.take rfl rfl ?_)) (IV.range (EV.glob (congrArg Scope.names hE) rfl (g_range hC) ⟨rfl, EV.name rfl ⟨i, rfl, by omega, comp_doms hDE (fun cenv m₁ H' j hE' hx m1 m2 hj => EV.dMeth m1 (DeskAt.ext (by assumption) hx) (m_dom hC) rfl (ES.cons (EV.name m2 (ES.nil (OC.eq (C_dom hC (DeskAt.ext (by assumption) hx) (dm_at hj)) ⟨rfl, rfl⟩))))) ⟨_, hqE, by rw [List.length_map, sizeLine_eq]; omega, ?_⟩ hdN.symm⟩⟩)))))))
      have eK : Ks.map kd ++ [.lst (σ.doms.map dom)] = (Ks ++ [σ.doms]).map kd := by simp [kd]
      dsimp only
      rw [eK]
      have hSF : upd HE q (.list ((Ks ++ [σ.doms]).map kd)) S = some (sieve cs k) := (upd_ne hqS.symm).trans hSE
      have hDF : DeskAt (upd HE q (.list ((Ks ++ [σ.doms]).map kd))) P' { σ with marks := σ.marks ++ [σ.trail.length] } := hDE.cong fun b hb => upd_ne fun z => hqP' (z ▸ hb)
      have hqF : upd HE q (.list ((Ks ++ [σ.doms]).map kd)) q = some (.list ((Ks ++ [σ.doms]).map kd)) := upd_same ..
      generalize upd HE q (.list ((Ks ++ [σ.doms]).map kd)) = HF at hSF hDF hqF ⊢
      have hi1 : Inv { σ with marks := σ.marks ++ [σ.trail.length] } := ⟨hi9.ok, hi9.fok, hi9.len, hi9.win⟩
      refine XS.cons (X1.assign hE (EV.bool ?_))
      refine XS.cons (X1.mono (Φ := fun f m' H' => f = .next ∧ ∃ (b0 : Bool) (k2 : Nat) (σ2 : Sg), Sub [("stands", .bool b0), ("c", .int c), ("kept", .ref q), ("rows", .lst (rws.map row)), ("firsts", .lst (fs.map dom)), ("many", .int (i : Nat)), ("desk", .ref P'.a), ("sieve", .ref S)] m' ∧
        H' S = some (sieve cs k2) ∧ k2 ≤ k + 6 ∧ DeskAt H' P' σ2 ∧ Inv σ2 ∧ Grow { σ with marks := σ.marks ++ [σ.trail.length] } σ2 ∧ (b0 = true → σ2.failed = false) ∧ H' q = some (.list ((Ks ++ [σ.doms]).map kd)) ∧ σ2.trail.length ≤ σ.trail.length + 1 ∧ σ2.news ≤ σ.news + 1)
        (X1.ite (TS.compare (EV.name rfl (EV.int (O2.gt (TV.bool ?_)))))) fun f m' H' qq => ?_)
      · cases hj0 : decide ((0 : Int) < (x : Nat)) with
        | false =>
          refine XS.nil ⟨rfl, true, k, _, ?_, hSF, by omega, hDF, hi1, .refl, fun _ => hfa, hqF, by dsimp only; omega, by dsimp only; omega⟩
          exact Sub.both (Sub.cons rfl Sub.refl)
        | true =>
          refine XS.cons (X1.assign hE (EV.draw hC (n := n + 10) (hp := rfl) (he := rfl) (congrArg Scope.names hE) rfl rfl hSF (by omega) hcz (EV.name rfl ⟨rfl, _, rfl, by omega, fun v1 HG w0 w1 hSG hfG => ?_⟩)))
          obtain ⟨y, rfl⟩ : ∃ y : Nat, v1 = (y : Int) := ⟨v1.toNat, by omega⟩
          have hDG := keepD hDF hSF hfG
          have hqG := (hfG q hqS).trans hqF
          have hy : y < ({ σ with marks := σ.marks ++ [σ.trail.length] } : Sg).doms.length := by dsimp only; omega
          have hdy := hi1.dm hy
          have hdy3 : 0 < (dm { σ with marks := σ.marks ++ [σ.trail.length] } y).length := List.length_pos_iff.mpr hdy.ne
          have hdz : (dm { σ with marks := σ.marks ++ [σ.trail.length] } y).length ≤ 100 := hDG.z2 _ (List.mem_of_getElem? (dm_at hy))
          refine XS.cons (X1.assign hE (EV.subscript (EV.dMeth rfl hDG (m_dom hC) rfl (ES.cons (EV.name rfl (ES.nil (OC.eq (C_dom hC hDG (dm_at hy)) ?_)))))))
          refine EV.draw hC (n := n + 10) (hp := rfl) (he := rfl) (congrArg Scope.names hE) rfl rfl hSG (by omega) hcz (EV.callG (congrArg Scope.names hE) rfl (g_len hC) (k_len hC) (ES.cons (EV.dMeth rfl hDG (m_dom hC) rfl (ES.cons (EV.name rfl (ES.nil (OC.eq (C_dom hC hDG (dm_at hy)) (ES.nil (OC.lenT ⟨rfl, _, rfl, ?_, fun v2 HI z0 z1 hSI hfI => ?_⟩ ?_)))))))))
          · rw [List.length_map]; omega
          rotate_left
          · rw [List.length_map, sizeLine_eq]; omega
          rw [List.length_map] at z1
          have hlt : v2.toNat < (dm { σ with marks := σ.marks ++ [σ.trail.length] } y).length := by omega
          generalize hpp : (dm { σ with marks := σ.marks ++ [σ.trail.length] } y)[v2.toNat] = pp
          refine O2.tupAt (d := pr pp) (by rw [List.getElem?_map, List.getElem?_eq_getElem hlt, hpp]; rfl) z0 ?_ (by omega)
          have hDI := keepD hDG hSG hfI
          have hqI := (hfI q hqS).trans hqG
          refine XS.cons (X1.assign hE (EV.dMeth rfl hDI (m_decide hC) rfl (ES.cons (EV.tuple (ES.cons (EV.name rfl (ES.cons (EV.subscript (EV.tuple (ES.cons (EV.str (ES.cons (EV.str (ES.nil ⟨lz, EV.draw hC (n := n + 10) (hp := rfl) (he := rfl) (congrArg Scope.names hE) rfl rfl hSI (by omega) hcz (EV.int ⟨rfl, _, rfl, by decide, fun vJ HJ hvaJ hvbJ hSJ hfJ => ?_⟩)⟩))))))))))))))
          obtain ⟨bb, hbb⟩ := pickS hvaJ hvbJ
          refine O2.tupAt hbb hvaJ ?_
          refine ES.cons (EV.binop (EV.binop (EV.binop (EV.binop (EV.subscript (EV.name rfl (EV.int (O2.tupAt rfl (by decide) (EV.subscript (EV.name rfl (EV.int (O2.tupAt rfl (by decide) (O2.add ?_)))))))))))))
          refine EV.int (O2.floordiv (EV.draw hC (n := n + 10) (hp := rfl) (he := rfl) (congrArg Scope.names hE) rfl rfl hSJ (by omega) hcz (EV.int ⟨rfl, _, rfl, by decide, fun vK HK hvaK hvbK hSK hfK => O2.add (EV.int (O2.sub ?_))⟩)) (by decide) (by decide) (by decide))
          have hDK := keepD (keepD hDI hSI hfJ) hSJ hfK
          have hqK := (hfK q hqS).trans ((hfJ q hqS).trans hqI)
          refine ES.nil ⟨lz, ES.nil (OC.to (C_decide (n := n + 5) (l := ⟨y, bb, _⟩) hC hDK hy (by dsimp only; omega) (by dsimp only; omega)) fun d HL qq => ?_)⟩
          obtain ⟨rfl, hDL, hfL⟩ := qq
          generalize hll : (Lit.mk y bb _) = ll at hDL
          have hxl : ll.x < ({ σ with marks := σ.marks ++ [σ.trail.length] } : Sg).doms.length := by rw [← hll]; exact hy
          obtain ⟨g1, g2, g3⟩ := enterS_grow (l := ll) (why := none) (who := -1) hi1 hxl hDK.z2
          obtain ⟨_, _, e3, e4⟩ := enterS_len (l := ll) (why := none) (who := -1) (σ := { σ with marks := σ.marks ++ [σ.trail.length] })
          refine XS.nil ⟨rfl, _, _, _, ?_, (hfL S (hSP hDK hSK) (by rw [hSK]; simp)).trans hSK, by omega, hDL, g2, g1, fun z => (g3 z).trans hfa, (hfL q hqP' (by rw [hqK]; simp)).trans hqK, e3, e4⟩
          exact Sub.both (Sub.cons rfl (Sub.cons rfl (Sub.cons rfl (Sub.cons rfl Sub.refl))))
      obtain ⟨rfl, b0, k2, σ2, hs2, hS2', hk2, hD2', hi2, hg2, hb0, hq2, ht2, hn2⟩ := qq
      have hd2N : σ2.doms.length = i := by rw [hg2.len]; exact hdN
      have hf2 : σ2.firsts = fs := hg2.firsts.trans hff
      have hm2 : σ2.marks = σ.marks ++ [σ.trail.length] := hg2.marks
      have hrw2 : RowsOk σ2 rws := ⟨hpw, fun r hr => by
        obtain ⟨a, b, c, d⟩ := hrw r hr
        exact ⟨a, b, c, by rw [hd2N]; exact d⟩⟩
      refine XS.sub ?_ hs2
      refine XS.cons (X1.assign hE (EV.mono (Φ := fun d H' => ∃ (b1 : Bool) (σ3 : Sg), d = .bool b1 ∧ H' S = some (sieve cs k2) ∧ DeskAt H' P' σ3 ∧ Inv σ3 ∧ Grow { σ with marks := σ.marks ++ [σ.trail.length] } σ3 ∧ (b1 = true → σ3.failed = false) ∧ H' q = some (.list ((Ks ++ [σ.doms]).map kd)) ∧ σ3.trail.length ≤ σ.trail.length + 5 ∧ σ3.news ≤ σ.news + 5) (EV.ifExp (TS.plain (EV.name rfl (TV.bool ?_)))) fun d H4' qq => ?_))
      · cases b0 with
        | false => exact EV.bool ⟨false, σ2, rfl, hS2', hD2', hi2, hg2, fun z => (nomatch z), hq2, by omega, by omega⟩
        | true =>
          have run := C_law_run (n := n + 3) (rows := rws) (c := c) hC hD2' hi2 hrw2 (by omega) (hb0 rfl) (by omega) (by omega)
          rw [hf2] at run
          refine EV.callG (congrArg Scope.names hE) rfl (g__law_run hC) (k__law_run hC) (ES.cons (EV.name rfl (ES.cons (EV.name rfl (ES.cons (EV.name rfl (ES.cons (EV.name rfl (ES.nil (OC.to run fun d H' qq => ?_))))))))))
          obtain ⟨b1, τ, rfl, r1, r2, r3, r4, r5, r6, r7⟩ := qq
          exact ⟨b1, τ, rfl, (r2 S (hSP hD2' hS2') (by rw [hS2']; simp)).trans hS2', r1, r3, hg2.trans r4, r5, (r2 q hqP' (by rw [hq2]; simp)).trans hq2, by omega, by omega⟩
      obtain ⟨b1, σ3, rfl, hS3', hD3', hi3, hg3, hb1, hq3, ht3, hn3⟩ := qq
      have hd3N : σ3.doms.length = i := by rw [hg3.len]; exact hdN
      have hf3' : σ3.firsts = fs := hg3.firsts.trans hff
      have hm3 : σ3.marks = σ.marks ++ [σ.trail.length] := hg3.marks
      obtain ⟨t2, u1, u2, u3⟩ := hg3.trail
      dsimp only at u1 u2 u3
      refine XS.cons (X1.ite (TS.compare (EV.name rfl (EV.none (O2.isNone (r := false) rfl (TV.bool (XS.nil ?_)))))))
      refine XS.cons (X1.ite (TS.not (TS.plain (EV.name rfl (TV.bool ?_)))))
      cases b1 with
      | true =>
        refine XS.nil (XS.nil ⟨?_, by omega, k2, P', σ3, Ks ++ [σ.doms], hS3', by omega, hD3', hPa, hi3, hb1 rfl, hf3', hq3, hqP', ?_, by omega, by omega, by rw [List.length_append, List.length_singleton]; omega⟩)
        · rw [← hPa]; exact Sub.cons rfl (Sub.cons rfl Sub.refl)
        · rw [hm3, u1]
          exact .push hst u2 (fun e he => by rw [hd3N, ← hdN]; exact u3 e he) (by rw [← hff]; exact hi9.toD) hD9.z2
      | false =>
        refine XS.cons (X1.expr (EV.dMeth rfl hD3' (m_pop hC) rfl (ES.cons (EV.int (ES.nil (OC.to (C_pop (n := n + 6) (ms := σ.marks) (t₁ := σ.trail) (t₂ := t2) hC hD3' hm3 u1 (fun e he => by rw [hd3N, ← hdN]; exact (u3 e he).1) (fun e he => (u3 e he).2) (fun z => (hi3.fok _ z).ne rfl)) fun d H5' qq => ?_))))))
        obtain ⟨_, hfr, lm, ln, hlm, hln, hDp⟩ := qq
        rw [u2] at hDp
        have hSp : H5' S = some (sieve cs k2) := (hfr S (hSP hD3' hS3') (by rw [hS3']; simp)).trans hS3'
        have hqp : H5' q = some (.list (Ks.map kd ++ [kd σ.doms])) := by
          rw [(hfr q hqP' (by rw [hq3]; simp)).trans hq3]; simp
        have hqPp : q ∉ [P'.a, P'.dd, P'.ld, P'.lf, P'.lt, lm, ln] := fun z => by
          simp only [List.mem_cons, List.not_mem_nil, or_false] at z hqP'
          rcases z with z | z | z | z | z | z | z
          · exact hqP' (.inl z)
          · exact hqP' (.inr (.inl z))
          · exact hqP' (.inr (.inr (.inl z)))
          · exact hqP' (.inr (.inr (.inr (.inl z))))
          · exact hqP' (.inr (.inr (.inr (.inr (.inl z)))))
          · rw [← z, hq3] at hlm; cases hlm
          · rw [← z, hq3] at hln; cases hln
        have hiP : Inv { σ3 with doms := σ.doms, trail := σ.trail, marks := σ.marks, news := 0, failed := false, clash := [] } := InvD.to (by dsimp only; rw [hf3', ← hff]; exact hi9.toD)
        have hstP : Stack fs σ.marks Ks σ.trail σ.doms := hst
        refine XS.cons (X1.ite (TS.or (TS.compare (EV.comp (mc := [("desk", .ref P'.a)]) hE (by repeat (first | exact Cap.nil | refine Cap.skip rfl ?_ | refine Cap.take rfl rfl ?_)) (IV.range (EV.glob (congrArg Scope.names hE) rfl (g_range hC) ⟨rfl, EV.name rfl ⟨i, rfl, by omega, comp_doms hDp (fun cenv m₁ H' j hE' hx m1 m2 hj => EV.dMeth m1 (DeskAt.ext (by assumption) hx) (m_dom hC) rfl (ES.cons (EV.name m2 (ES.nil (OC.eq (C_dom hC (DeskAt.ext (by assumption) hx) (dm_at hj)) ⟨rfl, rfl⟩))))) ?_ hdN.symm⟩⟩))))))
        refine EV.method (EV.name rfl (MC.pop hqp (by rw [List.length_map, sizeLine_eq]; omega) (O2.neD (r := true) gnd_doms (b := kd σ.doms) gnd_doms (by simp [kd]) (TV.bool ?_))))
        have hSq : upd H5' q (.list (Ks.map kd)) S = some (sieve cs k2) := (upd_ne hqS.symm).trans hSp
        have hDq := hDp.cong (H' := upd H5' q (.list (Ks.map kd))) fun b hb => upd_ne fun z => hqPp (z ▸ hb)
        have hqq : upd H5' q (.list (Ks.map kd)) q = some (.list (Ks.map kd)) := upd_same ..
        generalize upd H5' q (.list (Ks.map kd)) = HQ at hSq hDq hqq ⊢
        refine TS.or (TS.plain (EV.dAttr (P := { P' with lm := lm, ln := ln }) rfl hDq (a_is_failed hC) rfl (TV.bool (TS.orNil ?_))))
        refine XS.nil (XS.nil (XS.nil ⟨?_, by omega, k2, _, _, Ks, hSq, by omega, hDq, hPa, hiP, rfl, hf3', hqq, hqPp, hstP, by dsimp only; omega, by dsimp only; omega, by omega⟩))
        rw [← hPa]; exact Sub.cons rfl (Sub.cons rfl Sub.refl)
    · rintro j m H9 ⟨hs, hj4, k, P', σ, Ks, hS9, hk9, hD9, hPa, hi9, hfa, hff, hq9, hqP', hst, htr, hnw, hKs⟩
      refine XS.cons (X1.while (fun kk m H' => Sub [("c", .int c), ("kept", .ref q), ("rows", .lst (rws.map row)), ("firsts", .lst (fs.map dom)), ("many", .int (i : Nat)), ("desk", .ref P.a), ("sieve", .ref S)] m ∧
        ∃ (P' : Ad) (σ : Sg) (Ks : List (List Dm)), Ks.length = kk ∧ Ks.length ≤ 10 ∧ DeskAt H' P' σ ∧ P'.a = P.a ∧ Inv σ ∧ σ.firsts = fs ∧ H' q = some (.list (Ks.map kd)) ∧ q ∉ [P'.a, P'.dd, P'.ld, P'.lf, P'.lt, P'.lm, P'.ln] ∧ Stack fs σ.marks Ks σ.trail σ.doms) Ks.length
        ⟨hs, P', σ, Ks, rfl, ?_, hD9, hPa, hi9, hff, hq9, hqP', hst⟩ ?_)
      · simp only [List.length_nil] at hj4; omega
      rintro kk m H' ⟨hs, P', σ, Ks, rfl, hK10, hD, hPa, hi, hff, hq', hqP', hst⟩
      rw [← hPa] at hs
      have hdN : σ.doms.length = i := by rw [← hi.len, hff, hfN]
      refine TS.compare (EV.name (hs "kept" _ rfl) (EV.list (ES.nil ⟨lz, O2.neR (r := decide (Ks = [])) hq' gnd_kept rfl (by simp) (TV.bool ?_)⟩)))
      rcases hst.inv with ⟨hm0, hK0, hd0⟩ | ⟨ms', Ks', t', t2, ds', hm1, hK1, ht1, hst', hu, he, hiv⟩
      · rw [decide_eq_true hK0]
        simp only [Bool.not_true, Bool.false_eq_true, if_false]
        refine XS.sub ?_ hs
        refine XS.cons (X1.ret (EV.and (EV.compare (EV.dMeth0 rfl hD (m_depth hC) rfl (OC.eq (C_depth hC hD) (EV.int (O2.eqI (TV.bool ?_))))))))
        rw [hm0]
        refine EV.boolOne (EV.compare (EV.comp (mc := [("desk", .ref P'.a)]) hE (by repeat (first | exact Cap.nil | refine Cap.skip rfl ?_ | refine Cap.take rfl rfl ?_)) (IV.range (EV.glob (congrArg Scope.names hE) rfl (g_range hC) ⟨rfl, EV.name rfl ⟨i, rfl, by omega, comp_doms hD (fun cenv m₁ H' j hE' hx m1 m2 hj => EV.dMeth m1 (DeskAt.ext (by assumption) hx) (m_dom hC) rfl (ES.cons (EV.name m2 (ES.nil (OC.eq (C_dom hC (DeskAt.ext (by assumption) hx) (dm_at hj)) ⟨rfl, rfl⟩))))) ?_ hdN.symm⟩⟩))))
        exact EV.name rfl (O2.eqD (r := true) gnd_doms gnd_doms (by rw [hd0]; simp) rfl)
      · have hKne : ¬ Ks = [] := by rw [hK1]; simp
        rw [decide_eq_false hKne]
        simp only [Bool.not_false, if_true]
        refine XS.sub ?_ hs
        refine XS.cons (X1.expr (EV.dMeth rfl hD (m_pop hC) rfl (ES.cons (EV.int (ES.nil (OC.to (C_pop (n := n + 6) (ms := ms') (t₁ := t') (t₂ := t2) hC hD hm1 ht1 (fun e h => (he e h).1) (fun e h => (he e h).2) (fun z => (hi.fok _ z).ne rfl)) fun d H5' qq => ?_))))))
        obtain ⟨_, hfr, lm, ln, hlm, hln, hDp⟩ := qq
        rw [hu] at hDp
        have hqp : H5' q = some (.list (Ks'.map kd ++ [kd ds'])) := by
          rw [(hfr q hqP' (by rw [hq']; simp)).trans hq', hK1]; simp
        have hqPp : q ∉ [P'.a, P'.dd, P'.ld, P'.lf, P'.lt, lm, ln] := fun z => by
          simp only [List.mem_cons, List.not_mem_nil, or_false] at z hqP'
          rcases z with z | z | z | z | z | z | z
          · exact hqP' (.inl z)
          · exact hqP' (.inr (.inl z))
          · exact hqP' (.inr (.inr (.inl z)))
          · exact hqP' (.inr (.inr (.inr (.inl z))))
          · exact hqP' (.inr (.inr (.inr (.inr (.inl z)))))
          · rw [← z, hq'] at hlm; cases hlm
          · rw [← z, hq'] at hln; cases hln
        have hiP : Inv { σ with doms := ds', trail := t', marks := ms', news := 0, failed := false, clash := [] } := InvD.to (by dsimp only; rw [hff]; exact hiv)
        have hdsN : ds'.length = i := by rw [← hu, undo_length]; exact hdN
        have hKl : Ks'.length + 1 ≤ 10 := by rw [hK1, List.length_append, List.length_singleton] at hK10; exact hK10
        refine XS.cons (X1.ite (TS.or (TS.compare (EV.comp (mc := [("desk", .ref P'.a)]) hE (by repeat (first | exact Cap.nil | refine Cap.skip rfl ?_ | refine Cap.take rfl rfl ?_)) (IV.range (EV.glob (congrArg Scope.names hE) rfl (g_range hC) ⟨rfl, EV.name rfl ⟨i, rfl, by omega, comp_doms hDp (fun cenv m₁ H' j hE' hx m1 m2 hj => EV.dMeth m1 (DeskAt.ext (by assumption) hx) (m_dom hC) rfl (ES.cons (EV.name m2 (ES.nil (OC.eq (C_dom hC (DeskAt.ext (by assumption) hx) (dm_at hj)) ⟨rfl, rfl⟩))))) ?_ hdsN.symm⟩⟩))))))
        refine EV.method (EV.name rfl (MC.pop hqp (by rw [List.length_map, sizeLine_eq]; omega) (O2.neD (r := true) gnd_doms (b := kd ds') gnd_doms (by simp [kd]) (TV.bool ?_))))
        have hDq := hDp.cong (H' := upd H5' q (.list (Ks'.map kd))) fun b hb => upd_ne fun z => hqPp (z ▸ hb)
        have hqq : upd H5' q (.list (Ks'.map kd)) q = some (.list (Ks'.map kd)) := upd_same ..
        generalize upd H5' q (.list (Ks'.map kd)) = HQ at hDq hqq ⊢
        refine TS.or (TS.plain (EV.dAttr (P := { P' with lm := lm, ln := ln }) rfl hDq (a_is_failed hC) rfl (TV.bool (TS.orNil ?_))))
        refine XS.nil (XS.nil ⟨Ks'.length, by rw [hK1]; simp, ?_, _, _, Ks', rfl, by omega, hDq, hPa, hiP, hff, hqq, hqPp, hst'⟩)
        rw [← hPa]; exact Sub.refl

end Mine

open PySem PySem.W PyProof.Rows
set_option Elab.async false
set_option linter.unusedVariables false
set_option maxRecDepth 100000
namespace Mine
theorem IsC.mgOf {C : Cx} (h : IsC C) {x : Str} {v : Value} (e : gIn (K39 C.w.params) x = some v) : C.mg x = some v := by
  have q : ∃ c od es k sl, C.K.lookup mainGlobals = some ⟨c, od, .dict es k, sl⟩ := ⟨_, _, _, _, _, by rw [h.K]; rfl⟩
  obtain ⟨c, od, es, k, sl, q⟩ := q
  rw [C.mg_eq q]
  rw [← h.K] at e
  unfold gIn at e; rw [q] at e; exact e
theorem mg_law {C : Cx} (h : IsC C) : C.mg "law" = some (.ref 317) := h.mgOf (by kernel_rfl)
theorem law_call {w : World} {s₁ : Shared} {mg mb : Str → Option Value} (KX : (K39 w.params).In s₁.heap) (g : s₁.heap.Ns mainGlobals mg) (b : s₁.heap.Ns builtinsNs mb) (nl : s₁.heap.NoLimit) (bb : ∀ x : Str, x ≠ "__name__" → mb x = bootBuiltins x) (hg : s₁.gens = #[])
    {fa a : Addr} {vs : List Value} {scr : List Int} (hfa : mg "law" = some (.ref fa)) (hL : s₁.heap.IsList a vs.toArray) (hI : IntsAre vs scr) (hz : scr.length ≤ 63) :
    codeAny (model PySem.Challenge.pw_qd0012_01 w) callerA (.call (.ref fa) ⟨[.ref a], []⟩) (fun r s' => r = .ok (.ret (.bool true)) ∧ (∀ b o, s₁.heap.get? b = some o → s'.heap.get? b = some o) ∧ s'.gens = #[] ∧ s'.os = s₁.os) s₁ := by
  have hC : IsC ⟨PySem.Challenge.pw_qd0012_01, w, s₁.heap, s₁.os, K39 w.params, mg, mb, 263, KX, g, b, nl⟩ := ⟨rfl, rfl, rfl, bb⟩
  have e : mg "law" = some (.ref 317) := mg_law hC
  rw [hfa] at e
  cases e
  refine codeAny_mono (C_law hC (n := 0) hz callerA s₁ [.ref a] ⟨rfl, by decide +kernel, by decide +kernel⟩ ⟨fun _ _ e => e, Nat.le_refl _, fun a h => absurd rfl h, fun a o e => (nomatch e), hg, rfl⟩ (.cons (.lst hL rfl (ints_vr hI)) .nil)) fun r s' p => ?_
  obtain ⟨v, d, H', rfl, t, q, R', rfl⟩ := p
  cases q
  exact ⟨rfl, R'.base, R'.gens, R'.os⟩

theorem looksP : looksOpen PySem.Challenge.pw_qd0012_01 = true := by
  delta looksOpen
  (repeat' with_reducible refine look_both ?_ ?_) <;> decide +kernel
theorem looksS : looksOpen (OpenLaw.row PySem.Challenge.rw_qd0012_01).prog = true := looksP
theorem partS : (OpenLaw.row PySem.Challenge.rw_qd0012_01).partSaid = true := by
  delta OpenRow.partSaid
  (repeat' with_reducible refine look_both ?_ ?_)
  all_goals first | with_reducible exact looksS | decide +kernel
theorem rowS : (OpenLaw.row PySem.Challenge.rw_qd0012_01).wellSaid = true := by
  delta OpenRow.wellSaid
  (repeat' with_reducible refine look_both ?_ ?_)
  all_goals first | with_reducible exact partS | decide +kernel
theorem wellS : PySem.Challenge.rw_qd0012_01.wellSaid = true := by
  delta OpenLaw.wellSaid
  (repeat' with_reducible refine look_both ?_ ?_)
  all_goals first | with_reducible exact rowS | decide +kernel
theorem chains : (chainsOk vw && opensWell PySem.Challenge.rw_qd0012_01.row.prog && (PySem.W.frees PySem.Challenge.rw_qd0012_01.row.toRowW && PySem.Challenge.rw_qd0012_01.row.within.isEmpty)) = true := by decide +kernel
end Mine
set_option maxHeartbeats 8000000 in
theorem PySem.Challenge.cw_qd0012_01_holds : PySem.Challenge.rw_qd0012_01.Holds := by
  refine holds_law Mine.wellS fun said => ?_
  refine holds_open (q := Mine.vw) (loose := [Str.ofString "has_domains"]) (XP := XL Mine.vw []) (YP := Mine.hookK.says) (N := 3280) Mine.left Mine.hookK.of Mine.hookK.keeps (fun s e => xl_of s (Bool.and_eq_true_iff.mp e).1) XL.keeps (by rfl) (by rfl) (by rfl) (fun s e => recFacts_of (Bool.and_eq_true_iff.mp e).2) (by rfl) said Mine.chains ⟨rfl, rfl, rfl, rfl, rfl, by decide +kernel⟩ ?hw ?hc
  case hw => w_witness2
  case hc =>
    intro w s₀ s₁ mg mb G Y fa o pm cd doc dV kV ho hdd hcd hD hmg hg args vals as hpre hlay hrd hwl hlo
    have KX : (Mine.K39 w.params).In s₁.heap := Y
    refine Ground.open G ?_
    intro T B D TE TW
    have hfa : mg "law" = some (.ref fa) := hmg
    wrow_args hpre hlay hrd hwl hlo
    all_goals refine enter_call ?_
    all_goals refine codeAny_mono (Mine.law_call (fa := fa) KX T.g T.b T.nolimit T.builtins hg hfa (by assumption) (by assumption) (by omega)) fun r s' p => ?_
    all_goals obtain ⟨rfl, hk, hge, hos⟩ := p
    all_goals refine GoodW.toG ⟨.inl ⟨_, .bool true, [], rfl, fun _ => rfl, .bool true, by first | rfl | kernel_rfl | w_how, unshared_nil⟩, hk, hos, hge⟩
