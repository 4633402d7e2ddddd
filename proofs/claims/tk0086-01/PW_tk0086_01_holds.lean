import PyProof.Rows.All
import Wide.All
import OpenK.AllK
import Wide.FinOn
import PySem.Challenge.RW_tk0086_01
open PySem PySem.W PySem.Calls PyProof.Rows
set_option Elab.async false

namespace Mine

abbrev Sub (h h' : Heap) : Prop := ∀ b o, h.get? b = some o → h'.get? b = some o

structure St (h₀ : Heap) (L : Addr) (m : Str → Option Value) (mu D : List (Addr × Obj)) (h : Heap) : Prop where
  fr : Fr h₀ L h m
  nw : News h₀ L h (mu ++ D)
  off : ∀ p ∈ mu, ∀ q ∈ D, p.1 ≠ q.1
  nd : (mu.map (·.1)).Nodup

structure Cfg where
  prog : Program
  w : World
  H : Heap
  mg : Str → Option Value
  mb : Str → Option Value

structure Rm (A : Around) (k : Nat) : Prop where
  hh : A.handled = none
  hd : A.depth + k < recursionLimit
  hu : A.units + 200 * k + 200 < cLine

theorem Rm.le {A : Around} {j k : Nat} (x : Rm A k) (h : j ≤ k) : Rm A j :=
  ⟨x.hh, Nat.lt_of_le_of_lt (Nat.add_le_add_left h _) x.hd, by have := x.hu; omega⟩
theorem Rm.deeper {A : Around} {env : Env} {k : Nat} (x : Rm A (k + 1)) : Rm (A.deeper env) k :=
  ⟨x.hh, by have := x.hd; show A.depth + 1 + k < _; omega, by have := x.hu; show A.units + 3 + 200 * k + 200 < _; omega⟩

structure EnvOk (env : Env) : Prop where
  g : env.globals = mainGlobals
  b : env.builtins = builtinsNs
  k : env.scope.kind = .function

inductive Rd (env : Env) (L : Addr) (m : Str → Option Value) (mu : List (Addr × Obj)) (x : Str) (v : Value) : Prop
  | loc : env.locals = L → env.kindOf x = some .local → m x = some v → Rd env L m mu x v
  | own {o : Obj} {mc : Str → Option Value} : (env.locals, o) ∈ mu → LCg.NsObj o mc → env.kindOf x = some .local → mc x = some v → Rd env L m mu x v
  | cell {c : Addr} {o : Obj} : env.cells.lookup x = some c → env.kindOf x = some .cell → (c, o) ∈ mu → o.data = .cell (some v) → Rd env L m mu x v

def Has (env : Env) (L : Addr) (m : Str → Option Value) (mu D : List (Addr × Obj)) (Γ : List (Str × Dat)) : Prop :=
  ∀ x d, Γ.lookup x = some d → ∃ v, Rd env L m mu x v ∧ DatIn D v d

section
variable {h₀ h h' : Heap} {L : Addr} {m : Str → Option Value} {mu D tl : List (Addr × Obj)}

theorem Has.mono {env : Env} {Γ : List (Str × Dat)} {D' : List (Addr × Obj)} (x : Has env L m mu D Γ) (s : ∀ p ∈ D, p ∈ D') : Has env L m mu D' Γ :=
  fun y d e => let ⟨v, r, i⟩ := x y d e; ⟨v, r, i.mono s⟩
theorem subL : ∀ p ∈ D, p ∈ tl ++ D := fun _ h => List.mem_append.mpr (.inr h)
theorem Has.up {env : Env} {Γ : List (Str × Dat)} (x : Has env L m mu D Γ) : Has env L m mu (tl ++ D) Γ := x.mono subL

theorem St.get (S : St h₀ L m mu D h) {a : Addr} {o : Obj} (hm : (a, o) ∈ D) : h.get? a = some o := (S.nw _ (List.mem_append.mpr (.inr hm))).1
theorem St.getM (S : St h₀ L m mu D h) {a : Addr} {o : Obj} (hm : (a, o) ∈ mu) : h.get? a = some o := (S.nw _ (List.mem_append.mpr (.inl hm))).1
theorem St.ltD (S : St h₀ L m mu D h) : ∀ p ∈ D, p.1 < h.objs.size := fun p hp => Heap.lt_size (S.get (a := p.1) (o := p.2) hp)
theorem St.ltM (S : St h₀ L m mu D h) : ∀ p ∈ mu, p.1 < h.objs.size := fun p hp => Heap.lt_size (S.getM (a := p.1) (o := p.2) hp)

theorem St.up (S : St h₀ L m mu D h) (k : Sub h h') : St h₀ L m mu D h' :=
  ⟨S.fr.keeps k, S.nw.grown k, S.off, S.nd⟩

theorem none_of_ge {h : Heap} {a : Addr} (ha : h.objs.size ≤ a) : h.get? a = none := by
  cases e : h.get? a with
  | none => rfl
  | some o => exact absurd (Heap.lt_size e) (Nat.not_lt.mpr ha)

theorem St.fresh0 (S : St h₀ L m mu D h) {a : Addr} (ha : h.objs.size ≤ a) : h₀.get? a = none ∧ a ≠ L := by
  have hL : L < h.objs.size := S.fr.ns.lt
  exact ⟨none_of_ge (Nat.le_trans S.fr.above (Nat.le_of_lt (Nat.lt_of_lt_of_le hL ha))), Nat.ne_of_gt (Nat.lt_of_lt_of_le hL ha)⟩

/-- new data -/
theorem St.add (S : St h₀ L m mu D h) (k : Sub h h') (ht : ∀ p ∈ tl, h'.get? p.1 = some p.2 ∧ h.objs.size ≤ p.1) : St h₀ L m mu (tl ++ D) h' := by
  refine ⟨S.fr.keeps k, fun p hp => ?_, fun p hp q hq => ?_, S.nd⟩
  · rcases List.mem_append.mp hp with hp | hp
    · exact S.nw.grown k p (List.mem_append.mpr (.inl hp))
    · rcases List.mem_append.mp hp with hp | hp
      · exact ⟨(ht p hp).1, (S.fresh0 (ht p hp).2).2, (S.fresh0 (ht p hp).2).1⟩
      · exact S.nw.grown k p (List.mem_append.mpr (.inr hp))
  · rcases List.mem_append.mp hq with hq | hq
    · exact Nat.ne_of_lt (Nat.lt_of_lt_of_le (S.ltM p hp) (ht q hq).2)
    · exact S.off p hp q hq

/-- new data, told by a library lemma -/
theorem St.add1 {a : Addr} {o : Obj} (S : St h₀ L m mu D h) (F : Fr h₀ L h' m) (N : News h₀ L h' ((a, o) :: (mu ++ D))) (lt : ∀ p ∈ mu ++ D, p.1 < a) : St h₀ L m mu ([(a, o)] ++ D) h' := by
  refine ⟨F, fun p hp => ?_, fun p hp q hq => ?_, S.nd⟩
  · rcases List.mem_append.mp hp with hp | hp
    · exact N p (List.mem_cons_of_mem _ (List.mem_append.mpr (.inl hp)))
    · rcases List.mem_cons.mp hp with rfl | hp
      · exact N _ List.mem_cons_self
      · exact N p (List.mem_cons_of_mem _ (List.mem_append.mpr (.inr hp)))
  · rcases List.mem_cons.mp hq with rfl | hq
    · exact Nat.ne_of_lt (lt p (List.mem_append.mpr (.inl hp)))
    · exact S.off p hp q hq

theorem St.ofFN (S : St h₀ L m mu D h) (F : Fr h₀ L h' m) (N : News h₀ L h' (mu ++ D)) : St h₀ L m mu D h' := ⟨F, N, S.off, S.nd⟩

/-- a new thing that will turn -/
theorem St.addM {a : Addr} {o : Obj} (S : St h₀ L m mu D h) (k : Sub h h') (ho : h'.get? a = some o) (ha : h.objs.size ≤ a) : St h₀ L m ((a, o) :: mu) D h' := by
  refine ⟨S.fr.keeps k, fun p hp => ?_, fun p hp q hq => ?_, ?_⟩
  · rcases List.mem_cons.mp hp with rfl | hp
    · exact ⟨ho, (S.fresh0 ha).2, (S.fresh0 ha).1⟩
    · exact S.nw.grown k p hp
  · rcases List.mem_cons.mp hp with rfl | hp
    · exact Nat.ne_of_gt (Nat.lt_of_lt_of_le (S.ltD q hq) ha)
    · exact S.off p hp q hq
  · rw [List.map_cons, List.nodup_cons]
    refine ⟨fun hm => ?_, S.nd⟩
    obtain ⟨p, hp, e⟩ := List.mem_map.mp hm
    exact absurd (S.ltM p hp) (by rw [e]; exact Nat.not_lt.mpr ha)

/-- the head of what turns, turned -/
theorem St.turn {a : Addr} {o o' : Obj} (S : St h₀ L m ((a, o) :: mu) D h) (hs : Heap.SameBut a h h') (ho : h'.get? a = some o') : St h₀ L m ((a, o') :: mu) D h' := by
  have n0 := S.nw (a, o) List.mem_cons_self
  have nd := S.nd
  rw [List.map_cons, List.nodup_cons] at nd
  refine ⟨⟨S.fr.ns.sameBut hs (Ne.symm n0.2.1), fun b ob e => ?_, S.fr.above⟩, fun p hp => ?_, fun p hp q hq => ?_, by rw [List.map_cons, List.nodup_cons]; exact nd⟩
  · exact hs.extBut b ob (fun q => by rw [q, n0.2.2] at e; cases e) (S.fr.keep b ob e)
  · rcases List.mem_cons.mp hp with rfl | hp
    · exact ⟨ho, n0.2⟩
    · have z := S.nw p (List.mem_cons_of_mem _ hp)
      refine ⟨hs.extBut _ _ (fun q => ?_) z.1, z.2⟩
      rcases List.mem_append.mp hp with hp | hp
      · exact nd.1 (List.mem_map.mpr ⟨p, hp, q⟩)
      · exact S.off (a, o) List.mem_cons_self p hp q.symm
  · rcases List.mem_cons.mp hp with rfl | hp
    · exact S.off (a, o) List.mem_cons_self q hq
    · exact S.off p (List.mem_cons_of_mem _ hp) q hq

/-- what turns, in another order -/
theorem St.perm {mu' : List (Addr × Obj)} (S : St h₀ L m mu D h) (p : mu.Perm mu') : St h₀ L m mu' D h :=
  ⟨S.fr, fun q hq => S.nw q (by
    rcases List.mem_append.mp hq with hq | hq
    · exact List.mem_append.mpr (.inl (p.mem_iff.mpr hq))
    · exact List.mem_append.mpr (.inr hq)), fun q hq => S.off q (p.mem_iff.mpr hq), (p.map _).nodup_iff.mp S.nd⟩

/-- it turns no more -/
theorem St.freeze {a : Addr} {o : Obj} (S : St h₀ L m ((a, o) :: mu) D h) : St h₀ L m mu ([(a, o)] ++ D) h := by
  have nd := S.nd
  rw [List.map_cons, List.nodup_cons] at nd
  refine ⟨S.fr, fun p hp => S.nw p ?_, fun p hp q hq => ?_, nd.2⟩
  · rcases List.mem_append.mp hp with hp | hp
    · exact List.mem_append.mpr (.inl (List.mem_cons_of_mem _ hp))
    · rcases List.mem_cons.mp hp with rfl | hp
      · exact List.mem_append.mpr (.inl List.mem_cons_self)
      · exact List.mem_append.mpr (.inr hp)
  · rcases List.mem_cons.mp hq with rfl | hq
    · exact fun e => nd.1 (List.mem_map.mpr ⟨p, hp, e⟩)
    · exact S.off p (List.mem_cons_of_mem _ hp) q hq

theorem St.drop1 {a : Addr} {o : Obj} (S : St h₀ L m ((a, o) :: mu) D h) : St h₀ L m mu D h :=
  ⟨S.fr, fun p hp => S.nw p (List.mem_cons_of_mem _ hp), fun p hp => S.off p (List.mem_cons_of_mem _ hp), (List.nodup_cons.mp (by simpa using S.nd)).2⟩

theorem St.less {D' : List (Addr × Obj)} (S : St h₀ L m mu D h) (s : ∀ p ∈ D', p ∈ D) : St h₀ L m mu D' h :=
  ⟨S.fr, fun p hp => S.nw p ((List.mem_append.mp hp).elim (fun q => List.mem_append.mpr (.inl q)) fun q => List.mem_append.mpr (.inr (s p q))), fun p hp q hq => S.off p hp q (s q hq), S.nd⟩

/-- a local is stored -/
theorem St.store {x : Str} {v : Value} (S : St h₀ L m mu D h) (hn : h'.Ns L (fun y => if y = x then some v else m y)) (hs : Heap.SameBut L h h') : St h₀ L (fun y => if y = x then some v else m y) mu D h' :=
  ⟨S.fr.set hn hs, S.nw.set hs, S.off, S.nd⟩
end

/-! expressions -/
def Ev (c : Cfg) (k : Nat) (env : Env) (Γ : List (Str × Dat)) (e : Expr) (d : Dat) : Prop :=
  ∀ (A : Around) (h₀ : Heap) (L : Addr) (m : Str → Option Value) (mu D : List (Addr × Obj)) (s : Shared) (Q : Value → Shared → Prop) (E : Value → Shared → Prop),
    Rm A k → Sub c.H h₀ → St h₀ L m mu D s.heap → Has env L m mu D Γ →
    (∀ v tl h' tk, St h₀ L m mu (tl ++ D) h' → DatIn (tl ++ D) v d → Q v { s with heap := h', toks := tk }) →
    wpAny (model c.prog c.w) A (eval e env) Q E s

def Tr (c : Cfg) (k : Nat) (env : Env) (Γ : List (Str × Dat)) (e : Expr) (b : Bool) : Prop :=
  ∀ (A : Around) (h₀ : Heap) (L : Addr) (m : Str → Option Value) (mu D : List (Addr × Obj)) (s : Shared) (Q : Bool → Shared → Prop) (E : Value → Shared → Prop),
    Rm A k → Sub c.H h₀ → St h₀ L m mu D s.heap → Has env L m mu D Γ →
    (∀ tl h' tk, St h₀ L m mu (tl ++ D) h' → Q b { s with heap := h', toks := tk }) →
    wpAny (model c.prog c.w) A (isTrue e env (eval e env)) Q E s

def EvL (c : Cfg) (k : Nat) (env : Env) (Γ : List (Str × Dat)) (es : List Expr) (ds : List Dat) : Prop :=
  ∀ (A : Around) (h₀ : Heap) (L : Addr) (m : Str → Option Value) (mu D : List (Addr × Obj)) (s : Shared) (Q : List Value → Shared → Prop) (E : Value → Shared → Prop) (pos : Pos),
    Rm A k → Sub c.H h₀ → St h₀ L m mu D s.heap → Has env L m mu D Γ →
    (∀ vs tl h' tk, St h₀ L m mu (tl ++ D) h' → DatAll (tl ++ D) vs ds → Q vs { s with heap := h', toks := tk }) →
    wpAny (model c.prog c.w) A (spliced (backTo pos (starEach es env))) Q E s

section
variable {c : Cfg} {k : Nat} {env : Env} {Γ : List (Str × Dat)}

theorem name_rd {M : Model} {A : Around} {E : Value → Shared → Prop} {Q : Value → Shared → Prop} {s : Shared} {h₀ : Heap} {L : Addr} {m : Str → Option Value} {mu D : List (Addr × Obj)} {x : Str} {v : Value} {pos : Pos}
    (he : env.scope.kind = .function) (S : St h₀ L m mu D s.heap) (R : Rd env L m mu x v) (hd : (x == ("__debug__" : Str)) = false) (h : Q v s) : wpAny M A (eval (.Name x pos) env) Q E s := by
  refine wpAny_Name ?_ hd
  cases R with
  | loc e1 e2 e3 => exact wpAny_loadName_local he e2 (e1 ▸ S.fr.ns) e3 h
  | own hm hn e2 e3 => exact wpAny_loadName_local he e2 (hn.ns (S.getM hm)) e3 h
  | cell hc e2 hm hd' => exact wpAny_loadName_cell he e2 hc ⟨_, S.getM hm, hd'⟩ h

theorem Ev.nm {x : Str} {pos : Pos} {d : Dat} (he : env.scope.kind = .function) (e : Γ.lookup x = some d) (hd : (x == ("__debug__" : Str)) = false := by decide) : Ev c k env Γ (.Name x pos) d := by
  intro A h₀ L m mu D s Q E _ _ S G h
  obtain ⟨v, R, i⟩ := G x d e
  exact name_rd he S R hd (h v [] _ s.toks S i)

theorem nil_app {α : Type} {P : List α → Prop} {l : List α} (h : P l) : P ([] ++ l) := h

theorem Ev.cInt {i : Int} {n : Nat} {pos : Pos} : Ev c k env Γ (.Constant (.int i) n pos) (.int i) := by
  intro A h₀ L m mu D s Q E _ _ S G h
  exact wpAny_Constant_int (h _ [] _ _ S (.int _ _))
theorem Ev.cBool {b : Bool} {n : Nat} {pos : Pos} : Ev c k env Γ (.Constant (.bool b) n pos) (.bool b) := by
  intro A h₀ L m mu D s Q E _ _ S G h
  have : wpAny (model c.prog c.w) A (pure (Value.bool b)) Q E s := wpAny_pure (h _ [] s.heap s.toks S (.bool _))
  exact this
theorem Ev.cNone {n : Nat} {pos : Pos} : Ev c k env Γ (.Constant .none n pos) .none := by
  intro A h₀ L m mu D s Q E _ _ S G h
  have : wpAny (model c.prog c.w) A (pure Value.none) Q E s := wpAny_pure (h _ [] s.heap s.toks S .none)
  exact this

theorem assoc {α : Type} {a b c : List α} : a ++ (b ++ c) = (a ++ b) ++ c := (List.append_assoc a b c).symm

/-- two operands -/
theorem ev2 {l r : Expr} {dl dr : Dat} {A : Around} {h₀ : Heap} {L : Addr} {m : Str → Option Value} {mu D : List (Addr × Obj)} {s : Shared} {Q : Value → Value → Shared → Prop} {E : Value → Shared → Prop}
    (hl : Ev c k env Γ l dl) (hr : Ev c k env Γ r dr) (R : Rm A k) (B : Sub c.H h₀) (S : St h₀ L m mu D s.heap) (G : Has env L m mu D Γ)
    (h : ∀ v w tl h' tk, St h₀ L m mu (tl ++ D) h' → DatIn (tl ++ D) v dl → DatIn (tl ++ D) w dr → Q v w { s with heap := h', toks := tk }) :
    wpAny (model c.prog c.w) A (eval l env) (fun v s₁ => wpAny (model c.prog c.w) A (eval r env) (fun w s₂ => Q v w s₂) E s₁) E s := by
  refine hl A h₀ L m mu D s _ E R B S G fun v tl h₁ tk₁ S₁ i₁ => ?_
  refine hr A h₀ L m mu (tl ++ D) _ _ E R B S₁ G.up fun w tl₂ h₂ tk₂ S₂ i₂ => ?_
  rw [← List.append_assoc] at S₂ i₂
  exact h v w (tl₂ ++ tl) h₂ tk₂ S₂ ((i₁.mono subL).mono (fun p hp => by rw [List.append_assoc]; exact hp)) i₂

theorem Ev.binInt {l r : Expr} {pos : Pos} {op : Operator} {a b z : Int} (hl : Ev c k env Γ l (.int a)) (hr : Ev c k env Γ r (.int b))
    (h : ∀ (A : Around) (s : Shared) (t u : Tok) (Q : Value → Shared → Prop) (E : Value → Shared → Prop), (∀ t tk, Q (.int z t) { s with toks := tk }) → wpAny (model c.prog c.w) A (binaryOp op (.int a t) (.int b u)) Q E s) :
    Ev c k env Γ (.BinOp l op r pos) (.int z) := by
  intro A h₀ L m mu D s Q E R B S G hq
  refine wpAny_BinOp (ev2 hl hr R B S G fun v w tl h' tk S' i j => ?_)
  cases i; cases j
  exact h _ _ _ _ _ _ fun t tk' => hq _ tl _ tk' S' (.int _ _)
theorem Ev.add {l r : Expr} {pos : Pos} {a b : Int} (hl : Ev c k env Γ l (.int a)) (hr : Ev c k env Γ r (.int b)) : Ev c k env Γ (.BinOp l .Add r pos) (.int (a + b)) :=
  Ev.binInt hl hr fun _ _ _ _ _ _ h => PyProof.Rows.add_int (h _ _)
theorem Ev.sub {l r : Expr} {pos : Pos} {a b : Int} (hl : Ev c k env Γ l (.int a)) (hr : Ev c k env Γ r (.int b)) : Ev c k env Γ (.BinOp l .Sub r pos) (.int (a - b)) :=
  Ev.binInt hl hr fun _ _ _ _ _ _ h => PyProof.Rows.sub_int (h _ _)
theorem Ev.mod {l r : Expr} {pos : Pos} {a b : Int} (hb : b ≠ 0) (hl : Ev c k env Γ l (.int a)) (hr : Ev c k env Γ r (.int b)) : Ev c k env Γ (.BinOp l .Mod r pos) (.int (a.fmod b)) :=
  Ev.binInt hl hr fun _ _ _ _ _ _ h => PyProof.Rows.mod_int hb (h _ _)
theorem Ev.mul {l r : Expr} {pos : Pos} {a b : Int} (hb : IntMulOk a b) (hl : Ev c k env Γ l (.int a)) (hr : Ev c k env Γ r (.int b)) : Ev c k env Γ (.BinOp l .Mult r pos) (.int (a * b)) :=
  Ev.binInt hl hr fun _ _ _ _ _ _ h => PyProof.Rows.mul_int (h _ _) hb
end
end Mine

namespace Mine

/-- an operator's value -/
def Bn (c : Cfg) (k : Nat) (op : Operator) (dl dr d : Dat) : Prop :=
  ∀ (A : Around) (h₀ : Heap) (L : Addr) (m : Str → Option Value) (mu D : List (Addr × Obj)) (s : Shared) (v w : Value) (Q : Value → Shared → Prop) (E : Value → Shared → Prop),
    Rm A k → St h₀ L m mu D s.heap → DatIn D v dl → DatIn D w dr →
    (∀ x tl h' tk, St h₀ L m mu (tl ++ D) h' → DatIn (tl ++ D) x d → Q x { s with heap := h', toks := tk }) → wpAny (model c.prog c.w) A (binaryOp op v w) Q E s
def Cm (c : Cfg) (k : Nat) (op : CmpOp) (dl dr : Dat) (b : Bool) : Prop :=
  ∀ (A : Around) (h₀ : Heap) (L : Addr) (m : Str → Option Value) (mu D : List (Addr × Obj)) (s : Shared) (v w : Value) (Q : Value → Shared → Prop) (E : Value → Shared → Prop),
    Rm A k → St h₀ L m mu D s.heap → DatIn D v dl → DatIn D w dr →
    (∀ h' tk, St h₀ L m mu D h' → Q (.bool b) { s with heap := h', toks := tk }) → wpAny (model c.prog c.w) A (compareOp op v w) Q E s
def Cl (c : Cfg) (k : Nat) (f : Value) (ds : List Dat) (d : Dat) : Prop :=
  ∀ (A : Around) (h₀ : Heap) (L : Addr) (m : Str → Option Value) (mu D : List (Addr × Obj)) (s : Shared) (vs : List Value) (Q : Value → Shared → Prop) (E : Value → Shared → Prop),
    Rm A k → Sub c.H h₀ → St h₀ L m mu D s.heap → DatAll D vs ds →
    (∀ x tl h' tk, St h₀ L m mu (tl ++ D) h' → DatIn (tl ++ D) x d → Q x { s with heap := h', toks := tk }) → wpAny (model c.prog c.w) A (call f vs) Q E s

section
variable {c : Cfg} {k : Nat}

theorem isList_of {h₀ h : Heap} {L l : Addr} {m : Str → Option Value} {mu D : List (Addr × Obj)} {vs : List Value} {n : Nat} (S : St h₀ L m mu D h) (hm : (l, PySem.W.listOf vs.toArray n) ∈ D) : h.IsList l vs.toArray :=
  ⟨_, S.get hm, rfl, n, rfl⟩
theorem isTup_of {h₀ h : Heap} {L l : Addr} {m : Str → Option Value} {mu D : List (Addr × Obj)} {vs : List Value} {n : Nat} (S : St h₀ L m mu D h) (hm : (l, ({ cls := .type "tuple", data := .seq vs.toArray n } : Obj)) ∈ D) : IsTup h l vs.toArray :=
  ⟨_, S.get hm, rfl, n, rfl⟩
theorem ints_of {D : List (Addr × Obj)} : ∀ {ns : List Int} {vs : List Value}, DatAll D vs (ns.map Dat.int) → IntsAre vs ns
  | [], _, h => by cases h; exact .nil
  | n :: r, _, h => by
    cases h with
    | cons h1 h2 => cases h1; exact .cons _ _ (ints_of h2)
theorem of_ints {D : List (Addr × Obj)} : ∀ {ns : List Int} {vs : List Value}, IntsAre vs ns → DatAll D vs (ns.map Dat.int)
  | _, _, .nil => .nil
  | _, _, .cons _ _ h => .cons (.int _ _) (of_ints h)

theorem Bn.add {a b : Int} : Bn c k .Add (.int a) (.int b) (.int (a + b)) := by
  intro A h₀ L m mu D s v w Q E R S i j h
  cases i; cases j
  exact PyProof.Rows.add_int (h _ [] s.heap _ S (.int _ _))
theorem Bn.sub {a b : Int} : Bn c k .Sub (.int a) (.int b) (.int (a - b)) := by
  intro A h₀ L m mu D s v w Q E R S i j h
  cases i; cases j
  exact PyProof.Rows.sub_int (h _ [] s.heap _ S (.int _ _))
theorem Bn.mul {a b : Int} (hb : IntMulOk a b) : Bn c k .Mult (.int a) (.int b) (.int (a * b)) := by
  intro A h₀ L m mu D s v w Q E R S i j h
  cases i; cases j
  exact PyProof.Rows.mul_int (h _ [] s.heap _ S (.int _ _)) hb
theorem Bn.mod {a b : Int} (hb : b ≠ 0) : Bn c k .Mod (.int a) (.int b) (.int (a.fmod b)) := by
  intro A h₀ L m mu D s v w Q E R S i j h
  cases i; cases j
  exact PyProof.Rows.mod_int hb (h _ [] s.heap _ S (.int _ _))
theorem Bn.pow {a b : Int} (hn : 0 ≤ b) (hsz : (Builtin.Int.intBits a : Int) * b ≤ 2 ^ 27) : Bn c k .Pow (.int a) (.int b) (.int (a ^ b.toNat)) := by
  intro A h₀ L m mu D s v w Q E R S i j h
  cases i; cases j
  exact PyProof.Rows.pow_int hn hsz (h _ [] s.heap _ S (.int _ _))
theorem Bn.bytes {a b : Array UInt8} (hsz : a.size + b.size ≤ 16777216) : Bn c k .Add (.bytes a) (.bytes b) (.bytes (a ++ b)) := by
  intro A h₀ L m mu D s v w Q E R S i j h
  cases i; cases j
  exact KBy.add_bytes hsz fun t' k' => h _ [] s.heap _ S (.bytes _ _)
theorem Bn.list {xs ys : List Dat} (hsz : xs.length + ys.length ≤ 16777216) : Bn c k .Add (.list xs) (.list ys) (.list (xs ++ ys)) := by
  intro A h₀ L m mu D s v w Q E R S i j h
  cases i with
  | list hm hd =>
  cases j with
  | list hm' hd' =>
  have hl := isList_of S hm
  have hl' := isList_of S hm'
  have e1 := hd.length
  have e2 := hd'.length
  refine PyProof.Rows.add_arrays (hsz := by rw [sizeLine_eq]; simpa [e1, e2] using hsz) S.fr S.nw hl hl' fun h' F N => ?_
  have lt : ∀ p ∈ mu ++ D, p.1 < s.heap.objs.size := fun p hp => (List.mem_append.mp hp).elim (S.ltM p) (S.ltD p)
  have S' := S.add1 F N lt
  exact h _ _ h' s.toks S' (.list (n := 0) (List.mem_append.mpr (.inl List.mem_cons_self)) ((hd.append hd').mono subL))

theorem Cm.lt {a b : Int} : Cm c k .Lt (.int a) (.int b) (decide (a < b)) := by
  intro A h₀ L m mu D s v w Q E R S i j h
  cases i; cases j
  exact PyProof.Rows.lt_int (h s.heap s.toks S)
theorem Cm.le {a b : Int} : Cm c k .LtE (.int a) (.int b) (decide (a ≤ b)) := by
  intro A h₀ L m mu D s v w Q E R S i j h
  cases i; cases j
  exact PyProof.Rows.le_int (h s.heap s.toks S)
theorem Cm.gt {a b : Int} : Cm c k .Gt (.int a) (.int b) (decide (b < a)) := by
  intro A h₀ L m mu D s v w Q E R S i j h
  cases i; cases j
  exact PyProof.Rows.gt_int (h s.heap s.toks S)
theorem Cm.ge {a b : Int} : Cm c k .GtE (.int a) (.int b) (decide (b ≤ a)) := by
  intro A h₀ L m mu D s v w Q E R S i j h
  cases i; cases j
  exact PyProof.Rows.ge_int (h s.heap s.toks S)
theorem Cm.eq {a b : Int} : Cm c k .Eq (.int a) (.int b) (a == b) := by
  intro A h₀ L m mu D s v w Q E R S i j h
  cases i; cases j
  exact PyProof.Rows.eq_int (h s.heap s.toks S)
theorem Cm.ne {a b : Int} : Cm c k .NotEq (.int a) (.int b) (a != b) := by
  intro A h₀ L m mu D s v w Q E R S i j h
  cases i; cases j
  exact PyProof.Rows.ne_int (h s.heap s.toks S)
theorem Cm.neB {a b : Bool} : Cm c k .NotEq (.bool a) (.bool b) (a != b) := by
  intro A h₀ L m mu D s v w Q E R S i j h
  cases i; cases j
  exact PyProof.Rows.ne_bool (h s.heap s.toks S)
theorem Cm.neBy {a b : Array UInt8} : Cm c k .NotEq (.bytes a) (.bytes b) (a.toList != b.toList) := by
  intro A h₀ L m mu D s v w Q E R S i j h
  cases i; cases j
  exact PySem.W.ne_bytes (h s.heap s.toks S)
theorem Cm.isIn {n : Int} {ns : List Int} : Cm c k .In (.int n) (.list (ns.map Dat.int)) (ns.any (· == n)) := by
  intro A h₀ L m mu D s v w Q E R S i j h
  cases i
  cases j with
  | list hm hd => exact PyProof.Rows.in_list_ints (isList_of S hm) (ints_of hd) (h s.heap s.toks S)
theorem Cm.notIn {n : Int} {ns : List Int} : Cm c k .NotIn (.int n) (.list (ns.map Dat.int)) (!(ns.any (· == n))) := by
  intro A h₀ L m mu D s v w Q E R S i j h
  cases i
  cases j with
  | list hm hd => exact PyProof.Rows.notin_list_ints (isList_of S hm) (ints_of hd) (h s.heap s.toks S)
theorem Cm.neL {xs ys : List Dat} {b : Bool} (hx : ∀ d ∈ xs, kqdOk 8 d = true) (hy : ∀ d ∈ ys, kqdOk 8 d = true) (hb : b = true ↔ ¬ xs = ys) : Cm c k .NotEq (.list xs) (.list ys) b := by
  intro A h₀ L m mu D s v w Q E R S i j h
  cases i with
  | list hm hd =>
  cases j with
  | list hm' hd' =>
  have hu : A.units + 64 < cLine := by have := R.hu; omega
  refine kqd_ne S.nw (List.mem_append.mpr (.inr hm)) rfl rfl hd (fun p hp => List.mem_append.mpr (.inr hp)) (List.mem_append.mpr (.inr hm')) rfl rfl hd' (fun p hp => List.mem_append.mpr (.inr hp)) hx hy hu ?_
  have e : ∀ inst : Decidable (xs = ys), (!@decide (xs = ys) inst) = b := by
    intro inst
    cases b with
    | true => simp [hb.mp rfl]
    | false =>
      have : xs = ys := Classical.byContradiction fun q => by have := hb.mpr q; cases this
      simp [this]
  rw [e]
  exact h s.heap s.toks S
theorem Cm.eqL {xs ys : List Dat} {b : Bool} (hx : ∀ d ∈ xs, kqdOk 8 d = true) (hy : ∀ d ∈ ys, kqdOk 8 d = true) (hb : b = true ↔ xs = ys) : Cm c k .Eq (.list xs) (.list ys) b := by
  intro A h₀ L m mu D s v w Q E R S i j h
  cases i with
  | list hm hd =>
  cases j with
  | list hm' hd' =>
  have hu : A.units + 64 < cLine := by have := R.hu; omega
  refine kqd_eq S.nw (List.mem_append.mpr (.inr hm)) rfl rfl hd (fun p hp => List.mem_append.mpr (.inr hp)) (List.mem_append.mpr (.inr hm')) rfl rfl hd' (fun p hp => List.mem_append.mpr (.inr hp)) hx hy hu ?_
  have e : ∀ inst : Decidable (xs = ys), (@decide (xs = ys) inst) = b := by
    intro inst
    cases b with
    | true => simp [hb.mp rfl]
    | false =>
      have : ¬ xs = ys := fun q => by have := hb.mpr q; cases this
      simp [this]
  rw [e]
  exact h s.heap s.toks S
end

section
variable {c : Cfg} {k : Nat} {env : Env} {Γ : List (Str × Dat)}

theorem Ev.bin {l r : Expr} {pos : Pos} {op : Operator} {dl dr d : Dat} (hl : Ev c k env Γ l dl) (hr : Ev c k env Γ r dr) (hb : Bn c k op dl dr d) : Ev c k env Γ (.BinOp l op r pos) d := by
  intro A h₀ L m mu D s Q E R B S G hq
  refine wpAny_BinOp (ev2 hl hr R B S G fun v w tl h' tk S' i j => ?_)
  refine hb A h₀ L m mu _ _ v w Q E R S' i j fun x tl' h'' tk' S'' i' => ?_
  rw [← List.append_assoc] at S'' i'
  exact hq x _ h'' tk' S'' i'

theorem Ev.cmp {l r : Expr} {pos : Pos} {op : CmpOp} {dl dr : Dat} {b : Bool} (hl : Ev c k env Γ l dl) (hr : Ev c k env Γ r dr) (hb : Cm c k op dl dr b) (hm : behindInMarks op r = false := by with_unfolding_all rfl) :
    Ev c k env Γ (.Compare l [op] [r] pos) (.bool b) := by
  intro A h₀ L m mu D s Q E R B S G hq
  refine wpAny_Compare1 (ev2 hl hr R B S G fun v w tl h' tk S' i j => ?_) hm
  exact hb A h₀ L m mu _ _ v w Q E R S' i j fun h'' tk' S'' => hq _ tl h'' tk' S'' (.bool _)

theorem Tr.cmp {l r : Expr} {pos : Pos} {op : CmpOp} {dl dr : Dat} {b : Bool} (hl : Ev c k env Γ l dl) (hr : Ev c k env Γ r dr) (hb : Cm c k op dl dr b) (hm : behindInMarks op r = false := by with_unfolding_all rfl) :
    Tr c k env Γ (.Compare l [op] [r] pos) b := by
  intro A h₀ L m mu D s Q E R B S G hq
  refine wpAny_isTrue_Compare1 (ev2 hl hr R B S G fun v w tl h' tk S' i j => ?_) hm
  exact hb A h₀ L m mu _ _ v w _ E R S' i j fun h'' tk' S'' => wpAny_truthy_bool (hq tl h'' tk' S'')

theorem chain_core {l r₁ r₂ : Expr} {op₁ op₂ : CmpOp} {dl d₁ d₂ : Dat} {b₁ b₂ : Bool} (hl : Ev c k env Γ l dl) (h1 : Ev c k env Γ r₁ d₁) (h2 : Ev c k env Γ r₂ d₂) (c1 : Cm c k op₁ dl d₁ b₁) (c2 : Cm c k op₂ d₁ d₂ b₂)
    {A : Around} {h₀ : Heap} {L : Addr} {m : Str → Option Value} {mu D : List (Addr × Obj)} {s : Shared} {Q : Value → Shared → Prop} {E : Value → Shared → Prop} {pos : Pos}
    (R : Rm A k) (B : Sub c.H h₀) (S : St h₀ L m mu D s.heap) (G : Has env L m mu D Γ) (hq : ∀ tl h' tk, St h₀ L m mu (tl ++ D) h' → Q (.bool (b₁ && b₂)) { s with heap := h', toks := tk }) :
    wpAny (model c.prog c.w) A (eval l env) (fun a s₁ => wpAny (model c.prog c.w) A (compareChain pos a [op₁, op₂] [eval r₁ env, eval r₂ env]) Q E s₁) E s := by
  refine hl A h₀ L m mu D s _ E R B S G fun v tl h' tk S' i => ?_
  refine chain_link (h1 A h₀ L m mu _ _ _ E R B S' G.up fun v₁ tl₁ h'₁ tk₁ S₁ i₁ => ?_)
  refine c1 A h₀ L m mu _ _ v v₁ _ E R S₁ (i.mono subL) i₁ fun h'₂ tk₂ S₂ => ?_
  refine wpAny_truthy_bool ?_
  rw [← List.append_assoc] at S₂
  cases b₁ with
  | false => exact hq _ _ _ S₂
  | true =>
    refine chain_last (h2 A h₀ L m mu _ _ _ E R B S₂ (by exact G.up) fun v₂ tl₂ h'₃ tk₃ S₃ i₂ => ?_)
    refine c2 A h₀ L m mu _ _ v₁ v₂ _ E R S₃ (by rw [← List.append_assoc] at i₁; exact i₁.mono subL) i₂ fun h'₄ tk₄ S₄ => ?_
    rw [← List.append_assoc] at S₄
    exact hq _ _ _ S₄
theorem Ev.chain {l r₁ r₂ : Expr} {pos : Pos} {op₁ op₂ : CmpOp} {dl d₁ d₂ : Dat} {b₁ b₂ : Bool} (hl : Ev c k env Γ l dl) (h1 : Ev c k env Γ r₁ d₁) (h2 : Ev c k env Γ r₂ d₂) (c1 : Cm c k op₁ dl d₁ b₁) (c2 : Cm c k op₂ d₁ d₂ b₂)
    (hm : lastMarks [op₁, op₂] [r₁, r₂] = false := by with_unfolding_all rfl) : Ev c k env Γ (.Compare l [op₁, op₂] [r₁, r₂] pos) (.bool (b₁ && b₂)) := by
  intro A h₀ L m mu D s Q E R B S G hq
  exact Compare_chain (chain_core hl h1 h2 c1 c2 R B S G fun tl h' tk S' => hq _ tl h' tk S' (.bool _)) hm

theorem Tr.chain {l r₁ r₂ : Expr} {pos : Pos} {op₁ op₂ : CmpOp} {dl d₁ d₂ : Dat} {b₁ b₂ : Bool} (hl : Ev c k env Γ l dl) (h1 : Ev c k env Γ r₁ d₁) (h2 : Ev c k env Γ r₂ d₂) (c1 : Cm c k op₁ dl d₁ b₁) (c2 : Cm c k op₂ d₁ d₂ b₂)
    (hm : lastMarks [op₁, op₂] [r₁, r₂] = false := by with_unfolding_all rfl) : Tr c k env Γ (.Compare l [op₁, op₂] [r₁, r₂] pos) (b₁ && b₂) := by
  intro A h₀ L m mu D s Q E R B S G hq
  refine isTrue_chain (hl A h₀ L m mu D s _ E R B S G fun v tl h' tk S' i => ?_) hm
  refine test_link (h1 A h₀ L m mu _ _ _ E R B S' G.up fun v₁ tl₁ h'₁ tk₁ S₁ i₁ => ?_)
  refine c1 A h₀ L m mu _ _ v v₁ _ E R S₁ (i.mono subL) i₁ fun h'₂ tk₂ S₂ => ?_
  refine wpAny_truthy_bool ?_
  rw [← List.append_assoc] at S₂
  cases b₁ with
  | false => exact hq _ _ _ S₂
  | true =>
    refine test_last (h2 A h₀ L m mu _ _ _ E R B S₂ (by exact G.up) fun v₂ tl₂ h'₃ tk₃ S₃ i₂ => ?_)
    refine c2 A h₀ L m mu _ _ v₁ v₂ _ E R S₃ (by rw [← List.append_assoc] at i₁; exact i₁.mono subL) i₂ fun h'₄ tk₄ S₄ => ?_
    rw [← List.append_assoc] at S₄
    exact wpAny_truthy_bool (hq _ _ _ S₄)

theorem Tr.of {e : Expr} {b : Bool} (h : Ev c k env Γ e (.bool b)) (he : ∀ whole : Sem Value, isTrue e env whole = (do let v ← whole; standAt e.pos; holding [v] (truthy v)) := by intro _; rfl) : Tr c k env Γ e b := by
  intro A h₀ L m mu D s Q E R B S G hq
  refine isTrue_plain (h A h₀ L m mu D s _ E R B S G fun v tl h' tk S' i => ?_) (he _)
  cases i
  exact wpAny_truthy_bool (hq tl h' tk S')
theorem Tr.not {e : Expr} {pos : Pos} {b : Bool} (h : Tr c k env Γ e b) : Tr c k env Γ (.UnaryOp .Not e pos) (!b) := by
  intro A h₀ L m mu D s Q E R B S G hq
  exact isTrue_not (h A h₀ L m mu D s _ E R B S G fun tl h' tk S' => hq tl h' tk S')
/-- the tests of an or, an and: those behind the deciding one are not asked -/
theorem Tr.orNil {pos : Pos} : Tr c k env Γ (.BoolOp .Or [] pos) false := by
  intro A h₀ L m mu D s Q E R B S G hq
  exact isTrue_or_nil (hq [] s.heap s.toks S)
theorem Tr.orT {e : Expr} {rest : List Expr} {pos : Pos} (h : Tr c k env Γ e true) : Tr c k env Γ (.BoolOp .Or (e :: rest) pos) true := by
  intro A h₀ L m mu D s Q E R B S G hq
  exact isTrue_or (h A h₀ L m mu D s _ E R B S G fun tl h' tk S' => by rw [if_pos rfl]; exact hq tl h' tk S')
theorem Tr.orF {e : Expr} {rest : List Expr} {pos : Pos} {b : Bool} (h : Tr c k env Γ e false) (h2 : Tr c k env Γ (.BoolOp .Or rest pos) b) : Tr c k env Γ (.BoolOp .Or (e :: rest) pos) b := by
  intro A h₀ L m mu D s Q E R B S G hq
  refine isTrue_or (h A h₀ L m mu D s _ E R B S G fun tl h' tk S' => ?_)
  rw [if_neg (by decide)]
  exact h2 A h₀ L m mu _ _ _ E R B S' G.up fun tl' h'' tk' S'' => by rw [← List.append_assoc] at S''; exact hq _ _ _ S''
theorem Tr.andNil {pos : Pos} : Tr c k env Γ (.BoolOp .And [] pos) true := by
  intro A h₀ L m mu D s Q E R B S G hq
  exact isTrue_and_nil (hq [] s.heap s.toks S)
theorem Tr.andF {e : Expr} {rest : List Expr} {pos : Pos} (h : Tr c k env Γ e false) : Tr c k env Γ (.BoolOp .And (e :: rest) pos) false := by
  intro A h₀ L m mu D s Q E R B S G hq
  exact isTrue_and (h A h₀ L m mu D s _ E R B S G fun tl h' tk S' => by rw [if_neg (by decide)]; exact hq tl h' tk S')
theorem Tr.andT {e : Expr} {rest : List Expr} {pos : Pos} {b : Bool} (h : Tr c k env Γ e true) (h2 : Tr c k env Γ (.BoolOp .And rest pos) b) : Tr c k env Γ (.BoolOp .And (e :: rest) pos) b := by
  intro A h₀ L m mu D s Q E R B S G hq
  refine isTrue_and (h A h₀ L m mu D s _ E R B S G fun tl h' tk S' => ?_)
  rw [if_pos rfl]
  exact h2 A h₀ L m mu _ _ _ E R B S' G.up fun tl' h'' tk' S'' => by rw [← List.append_assoc] at S''; exact hq _ _ _ S''
/-- both asked, whatever the first says -/
theorem Tr.or2 {e : Expr} {rest : List Expr} {pos : Pos} {a b : Bool} (h : Tr c k env Γ e a) (h2 : a = false → Tr c k env Γ (.BoolOp .Or rest pos) b) : Tr c k env Γ (.BoolOp .Or (e :: rest) pos) (a || b) := by
  cases a with
  | true => exact Tr.orT h
  | false => exact Tr.orF h (h2 rfl)
theorem Tr.and2 {e : Expr} {rest : List Expr} {pos : Pos} {a b : Bool} (h : Tr c k env Γ e a) (h2 : a = true → Tr c k env Γ (.BoolOp .And rest pos) b) : Tr c k env Γ (.BoolOp .And (e :: rest) pos) (a && b) := by
  cases a with
  | false => exact Tr.andF h
  | true => exact Tr.andT h (h2 rfl)

theorem Ev.ifT {t a b : Expr} {pos : Pos} {d : Dat} (h : Tr c k env Γ t true) (ha : Ev c k env Γ a d) : Ev c k env Γ (.IfExp t a b pos) d := by
  intro A h₀ L m mu D s Q E R B S G hq
  refine IfExp_ (h A h₀ L m mu D s _ E R B S G fun tl h' tk S' => ?_)
  rw [if_pos rfl]
  exact ha A h₀ L m mu _ _ _ E R B S' G.up fun v tl' h'' tk' S'' i => by rw [← List.append_assoc] at S'' i; exact hq _ _ _ _ S'' i
theorem Ev.ifF {t a b : Expr} {pos : Pos} {d : Dat} (h : Tr c k env Γ t false) (hb : Ev c k env Γ b d) : Ev c k env Γ (.IfExp t a b pos) d := by
  intro A h₀ L m mu D s Q E R B S G hq
  refine IfExp_ (h A h₀ L m mu D s _ E R B S G fun tl h' tk S' => ?_)
  rw [if_neg (by decide)]
  exact hb A h₀ L m mu _ _ _ E R B S' G.up fun v tl' h'' tk' S'' i => by rw [← List.append_assoc] at S'' i; exact hq _ _ _ _ S'' i
theorem Ev.ite {t a b : Expr} {pos : Pos} {x : Bool} {d e : Dat} (h : Tr c k env Γ t x) (ha : x = true → Ev c k env Γ a d) (hb : x = false → Ev c k env Γ b e) : Ev c k env Γ (.IfExp t a b pos) (if x then d else e) := by
  cases x with
  | true => exact Ev.ifT h (ha rfl)
  | false => exact Ev.ifF h (hb rfl)
/-- an «and» of two as a value -/
theorem Ev.and {a b : Expr} {pos : Pos} {y : Bool} (ha : Ev c k env Γ a (.bool true)) (hb : Ev c k env Γ b (.bool y)) : Ev c k env Γ (.BoolOp .And [a, b] pos) (.bool y) := by
  intro A h₀ L m mu D s Q E R B S G hq
  refine BoolOp_and (ha A h₀ L m mu D s _ E R B S G fun v tl h' tk S' i => ?_)
  cases i
  refine wpAny_truthy_bool ?_
  rw [if_pos rfl]
  refine BoolOp_one (hb A h₀ L m mu _ _ _ E R B S' G.up fun v' tl' h'' tk' S'' i => ?_)
  rw [← List.append_assoc] at S'' i
  exact hq _ _ _ _ S'' i

theorem EvL.nil : EvL c k env Γ [] [] := by
  intro A h₀ L m mu D s Q E pos R B S G hq
  exact args_nil (hq [] [] s.heap s.toks S .nil)
theorem EvL.cons {e : Expr} {rest : List Expr} {d : Dat} {ds : List Dat} (h : Ev c k env Γ e d) (h2 : EvL c k env Γ rest ds) (he : starEach (e :: rest) env = (false, eval e env) :: starEach rest env := by rfl) : EvL c k env Γ (e :: rest) (d :: ds) := by
  intro A h₀ L m mu D s Q E pos R B S G hq
  refine args_cons (h A h₀ L m mu D s _ E R B S G fun v tl h' tk S' i => ?_) he
  refine h2 A h₀ L m mu _ _ _ E pos R B S' G.up fun vs tl' h'' tk' S'' i' => ?_
  exact hq (v :: vs) (tl' ++ tl) h'' tk' (by rw [List.append_assoc]; exact S'') (by rw [List.append_assoc]; exact .cons (i.mono subL) i')

theorem Ev.tuple {es : List Expr} {n : Nat} {pos : Pos} {ds : List Dat} (h : EvL c k env Γ es ds) (hn : ds.length ≤ 16777216) : Ev c k env Γ (.Tuple es n pos) (.tuple ds) := by
  intro A h₀ L m mu D s Q E R B S G hq
  refine Tuple_ (h A h₀ L m mu D s _ E pos R B S G fun vs tl h' tk S' i => ?_)
  refine newTuple_N (hsz := by rw [i.length, sizeLine_eq]; exact hn) S'.fr S'.nw fun h'' F N => ?_
  have S'' := S'.add1 F N (fun p hp => (List.mem_append.mp hp).elim (S'.ltM p) (S'.ltD p))
  rw [← List.append_assoc] at S''
  exact hq _ _ h'' tk S'' (by rw [List.append_assoc]; exact .tuple (n := 0) List.mem_cons_self (i.mono subL))
theorem Ev.list {es : List Expr} {pos : Pos} {ds : List Dat} (h : EvL c k env Γ es ds) (hn : ds.length ≤ 16777216) : Ev c k env Γ (.List es pos) (.list ds) := by
  intro A h₀ L m mu D s Q E R B S G hq
  refine List_ (h A h₀ L m mu D s _ E pos R B S G fun vs tl h' tk S' i => ?_)
  refine newList_N (hsz := by rw [i.length, sizeLine_eq]; exact hn) S'.fr S'.nw fun h'' F N => ?_
  have S'' := S'.add1 F N (fun p hp => (List.mem_append.mp hp).elim (S'.ltM p) (S'.ltD p))
  rw [← List.append_assoc] at S''
  exact hq _ _ h'' tk S'' (by rw [List.append_assoc]; exact .list (n := 0) List.mem_cons_self (i.mono subL))
end
end Mine

namespace Mine

def biTable : List (Str × Value) :=
  [("len", .builtin "len"), ("min", .builtin "min"), ("max", .builtin "max"), ("any", .builtin "any"), ("sum", .builtin "sum"), ("sorted", .builtin "sorted"), ("abs", .builtin "abs"),
   ("enumerate", .type "enumerate"), ("range", .type "range"), ("bytes", .type "bytes"), ("int", .type "int"), ("list", .type "list")]

structure Cfg.Ok (c : Cfg) (fns : List DefRec) : Prop where
  g : c.H.Ns mainGlobals c.mg
  b : c.H.Ns builtinsNs c.mb
  nolimit : c.H.NoLimit
  fn : ∀ d ∈ fns, ∃ a o pm code doc, c.mg d.name = some (.ref a) ∧ c.H.get? a = some o ∧ o.data = .func (docDef d.name d.params d.body d.scope pm code doc) ∧ c.H.CodeRec code d.name
  bi : ∀ p ∈ biTable, c.mg p.1 = none ∧ c.mb p.1 = some p.2

/-- a name of the top's or of the built-in ones -/
def Gl (c : Cfg) (env : Env) (x : Str) (f : Value) : Prop :=
  ∀ (A : Around) (s : Shared) (Q : Value → Shared → Prop) (E : Value → Shared → Prop) (pos : Pos), Sub c.H s.heap → Q f s → wpAny (model c.prog c.w) A (eval (.Name x pos) env) Q E s

theorem St.sub {h₀ h H : Heap} {L : Addr} {m : Str → Option Value} {mu D : List (Addr × Obj)} (S : St h₀ L m mu D h) (B : Sub H h₀) : Sub H h := fun b o e => S.fr.keep b o (B b o e)

section
variable {c : Cfg} {k : Nat} {env : Env} {Γ : List (Str × Dat)} {fns : List DefRec}

theorem Gl.bi {x : Str} {f : Value} (ok : c.Ok fns) (he : EnvOk env) (hx : env.kindOf x = some .globalImplicit) (hm : (x, f) ∈ biTable) (hd : (x == ("__debug__" : Str)) = false := by decide) : Gl c env x f := by
  intro A s Q E pos B h
  obtain ⟨h1, h2⟩ := ok.bi _ hm
  exact Name_function_global he.k hx (loadGlobal_builtin (mg := c.mg) (mb := c.mb) (by rw [he.g]; exact ok.g.keeps B) h1 (by rw [he.b]; exact ok.b.keeps B) h2 h) hd
theorem Gl.fn {x : Str} {f : Value} (ok : c.Ok fns) (he : EnvOk env) (hx : env.kindOf x = some .globalImplicit) (hm : c.mg x = some f) (hd : (x == ("__debug__" : Str)) = false) : Gl c env x f := by
  intro A s Q E pos B h
  exact Name_function_global he.k hx (loadGlobal_global (mg := c.mg) (by rw [he.g]; exact ok.g.keeps B) hm h) hd

theorem Ev.callB {x : Str} {id : String} {p pos : Pos} {e : Expr} {rest : List Expr} {ds : List Dat} {d : Dat} (hg : Gl c env x (.builtin id)) (ha : EvL c k env Γ (e :: rest) ds) (hc : Cl c k (.builtin id) ds d)
    (he : starEach (e :: rest) env = (false, eval e env) :: starEach rest env := by rfl) (hp : ∀ pos, (backTo pos (starEach rest env)).any (·.1) = false := by intro _; rfl) :
    Ev c k env Γ (.Call (.Name x p) (e :: rest) [] pos) d := by
  intro A h₀ L m mu D s Q E R B S G hq
  refine Call_Name rfl (hg A s _ E p (S.sub B) ?_)
  refine callWith_builtin1 (ha A h₀ L m mu D s _ E pos R B S G fun vs tl h' tk S' i => ?_) he (hp pos)
  refine hc A h₀ L m mu _ _ vs Q E R B S' i fun v tl' h'' tk' S'' i' => ?_
  rw [← List.append_assoc] at S'' i'
  exact hq _ _ _ _ S'' i'
theorem Ev.callT {x : Str} {T : String} {p pos : Pos} {e : Expr} {rest : List Expr} {ds : List Dat} {d : Dat} (hg : Gl c env x (.type T)) (ha : EvL c k env Γ (e :: rest) ds) (hc : Cl c k (.type T) ds d)
    (he : starEach (e :: rest) env = (false, eval e env) :: starEach rest env := by rfl) (hp : ∀ pos, (backTo pos (starEach rest env)).any (·.1) = false := by intro _; rfl) :
    Ev c k env Γ (.Call (.Name x p) (e :: rest) [] pos) d := by
  intro A h₀ L m mu D s Q E R B S G hq
  refine Call_Name rfl (hg A s _ E p (S.sub B) ?_)
  refine PyProof.Rows.callWith_type1 (ha A h₀ L m mu D s _ E pos R B S G fun vs tl h' tk S' i => ?_) he (hp pos)
  refine hc A h₀ L m mu _ _ vs Q E R B S' i fun v tl' h'' tk' S'' i' => ?_
  rw [← List.append_assoc] at S'' i'
  exact hq _ _ _ _ S'' i'

/-- a def of the text's: what a call of it gives -/
def Fn (c : Cfg) (k : Nat) (x : Str) (ds : List Dat) (d : Dat) : Prop :=
  ∃ (a : Addr) (o : Obj) (fd : FuncData), c.mg x = some (.ref a) ∧ c.H.get? a = some o ∧ o.data = .func fd ∧ Cl c k (.ref a) ds d
theorem Ev.callF {x : Str} {p pos : Pos} {e : Expr} {rest : List Expr} {ds : List Dat} {d : Dat} (ok : c.Ok fns) (ho : EnvOk env) (hx : env.kindOf x = some .globalImplicit) (hf : Fn c k x ds d) (ha : EvL c k env Γ (e :: rest) ds)
    (hd : (x == ("__debug__" : Str)) = false := by decide) (he : starEach (e :: rest) env = (false, eval e env) :: starEach rest env := by rfl) :
    Ev c k env Γ (.Call (.Name x p) (e :: rest) [] pos) d := by
  intro A h₀ L m mu D s Q E R B S G hq
  obtain ⟨a, o, fd, h1, h2, h3, hc⟩ := hf
  refine Call_Name rfl (Gl.fn ok ho hx h1 hd A s _ E p (S.sub B) ?_)
  refine callWith_def (o := o) (fd := fd) h3 (ha A h₀ L m mu D s _ E pos R B S G fun vs tl h' tk S' i => ⟨S'.sub B a o h2, ?_⟩) he
  refine hc A h₀ L m mu _ _ vs Q E R B S' i fun v tl' h'' tk' S'' i' => ?_
  rw [← List.append_assoc] at S'' i'
  exact hq _ _ _ _ S'' i'

theorem all1 {D : List (Addr × Obj)} {vs : List Value} {d : Dat} (h : DatAll D vs [d]) : ∃ v, vs = [v] ∧ DatIn D v d := by
  cases h with | cons i r => cases r; exact ⟨_, rfl, i⟩
theorem all2 {D : List (Addr × Obj)} {vs : List Value} {d e : Dat} (h : DatAll D vs [d, e]) : ∃ v w, vs = [v, w] ∧ DatIn D v d ∧ DatIn D w e := by
  cases h with | cons i r => cases r with | cons j r => cases r; exact ⟨_, _, rfl, i, j⟩

/-! the built-ins -/
theorem Cl.len {xs : List Dat} (hn : xs.length ≤ 16777216) : Cl c k (.builtin "len") [.list xs] (.int xs.length) := by
  intro A h₀ L m mu D s vs Q E R B S ia h
  obtain ⟨v, rfl, i⟩ := all1 ia
  cases i with
  | list hm hd => exact kd_len S.nw (List.mem_append.mpr (.inr hm)) hd (by omega) (h _ [] s.heap _ S (.int _ _))
theorem Cl.lenBy {b : Array UInt8} (hn : b.size ≤ 16777216) : Cl c k (.builtin "len") [.bytes b] (.int b.size) := by
  intro A h₀ L m mu D s vs Q E R B S ia h
  obtain ⟨v, rfl, i⟩ := all1 ia
  cases i with
  | bytes b t => exact KBw.len_K rfl (by rw [KBw.ints_length]; omega) (by rw [KBw.ints_length]; exact h _ [] s.heap _ S (.int _ _))
theorem Cl.min2 {a b : Int} : Cl c k (.builtin "min") [.int a, .int b] (.int (min a b)) := by
  intro A h₀ L m mu D s vs Q E R B S ia h
  obtain ⟨v, w, rfl, i, j⟩ := all2 ia
  cases i; cases j
  exact min_two_N R.hh S.fr S.nw fun h' tk F N => by
      have e : (if b < a then b else a) = min a b := by omega
      rw [e]; exact h _ [] h' tk (S.ofFN F N) (.int _ _)
theorem Cl.max2 {a b : Int} : Cl c k (.builtin "max") [.int a, .int b] (.int (max a b)) := by
  intro A h₀ L m mu D s vs Q E R B S ia h
  obtain ⟨v, w, rfl, i, j⟩ := all2 ia
  cases i; cases j
  exact max_two_N R.hh S.fr S.nw fun h' tk F N => by
      have e : (if b > a then b else a) = max a b := by omega
      rw [e]; exact h _ [] h' tk (S.ofFN F N) (.int _ _)
theorem Cl.maxL {ns : List Int} {M : Int} (hM : M ∈ ns) (hle : ∀ a ∈ ns, a ≤ M) : Cl c k (.builtin "max") [.list (ns.map Dat.int)] (.int M) := by
  intro A h₀ L m mu D s vs Q E R B S ia h
  obtain ⟨v, rfl, i⟩ := all1 ia
  cases i with
  | list hm hd => exact kso_max S.fr S.nw (isList_of S hm) (ints_of hd) (List.length_pos_of_mem hM) R.hh fun h' M' t tk F N h1 h2 => (Int.le_antisymm (hle _ h1) (h2 _ hM) : M' = M) ▸ h _ [] h' tk (S.ofFN F N) (.int _ _)
theorem bools_of {D : List (Addr × Obj)} : ∀ {bs : List Bool} {vs : List Value}, DatAll D vs (bs.map Dat.bool) → LSm.BoolsAre vs bs
  | [], _, h => by cases h; exact .nil
  | n :: r, _, h => by
    cases h with
    | cons h1 h2 => cases h1; exact .cons _ (bools_of h2)
theorem Cl.anyB {bs : List Bool} : Cl c k (.builtin "any") [.list (bs.map Dat.bool)] (.bool (bs.any id)) := by
  intro A h₀ L m mu D s vs Q E R B S ia h
  obtain ⟨v, rfl, i⟩ := all1 ia
  cases i with
  | list hm hd => exact LSm.any_bools S.fr S.nw R.hh (isList_of S hm) (bools_of hd) fun h' tk F N => h _ [] h' tk (S.ofFN F N) (.bool _)
theorem Cl.sumI {ns : List Int} : Cl c k (.builtin "sum") [.list (ns.map Dat.int)] (.int ns.sum) := by
  intro A h₀ L m mu D s vs Q E R B S ia h
  obtain ⟨v, rfl, i⟩ := all1 ia
  cases i with
  | list hm hd =>
    rename_i l ws n
    have hl := isList_of S hm
    have hi := ints_of hd
    have hlt : l < s.heap.objs.size := by obtain ⟨_, e, _⟩ := hl; exact Heap.lt_size e
    refine call_sum_walkG (wpAny_pyIter_list hl ?_)
    refine ⟨s.heap.objs.size, [s.heap.objs.size, l], [s.heap.objs.size], ws.toArray.size, _, _, fun i => ns.getD i 0, rfl, Walks.list (A := A.in1) R.hh _ l (Nat.ne_of_lt hlt) ws.toArray,
      ⟨⟨_, Heap.get?_push_size _ rfl, rfl, rfl⟩, hl.push _⟩, fun b hb => ?_, fun i v hP => ?_, fun h' tk t' hk => ?_⟩
    · rw [Heap.size_push]
      rcases List.mem_cons.mp hb with rfl | hb
      · exact Nat.lt_succ_self _
      · rw [List.mem_singleton.mp hb]; exact Nat.lt_succ_of_lt hlt
    · have hv : ws[i]? = some v := by simpa using hP
      have hlen := hi.length
      have hin : i < ns.length := by rw [← hlen]; exact (List.getElem?_eq_some_iff.mp hv).1
      obtain ⟨t, hx⟩ := hi.get i (ns[i]'hin) (List.getElem?_eq_getElem hin)
      rw [hx] at hv
      refine ⟨t, ?_⟩
      show v = .int (ns.getD i 0) t
      rw [List.getD_eq_getElem?_getD, List.getElem?_eq_getElem hin, Option.getD_some]
      exact (Option.some.inj hv).symm
    · have e : preSum (fun j => ns.getD j 0) ws.toArray.size = ns.sum := by
        rw [List.size_toArray, hi.length, KBmo.pre_take ns ns.length (Nat.le_refl _), List.take_length]
      rw [e]
      exact h _ [] h' tk (S.up (LSm.kept_iter hk)) (.int _ _)
theorem Cl.abs1 {a : Int} : Cl c k (.builtin "abs") [.int a] (.int (if a < 0 then -a else a)) := by
  intro A h₀ L m mu D s vs Q E R B S ia h
  obtain ⟨v, rfl, i⟩ := all1 ia
  cases i
  exact PyProof.Rows.call_abs_int fun u tk => h _ [] s.heap tk S (.int _ _)
theorem Cl.toInt {a : Int} : Cl c k (.type "int") [.int a] (.int a) := by
  intro A h₀ L m mu D s vs Q E R B S ia h
  obtain ⟨v, rfl, i⟩ := all1 ia
  cases i
  exact PySem.call_int_int (h _ [] s.heap s.toks S (.int _ _))
theorem Cl.bytes1 {ns : List Int} (hr : ∀ n ∈ ns, 0 ≤ n ∧ n < 256) (hz : ns.length ≤ 16777216) : Cl c k (.type "bytes") [.list (ns.map Dat.int)] (.bytes (ns.map fun n => n.toNat.toUInt8).toArray) := by
  intro A h₀ L m mu D s vs Q E R B S ia h
  obtain ⟨v, rfl, i⟩ := all1 ia
  cases i with
  | list hm hd => exact bytes_K S.fr S.nw (isList_of S hm) (ints_of hd) hr (by rw [hd.length, List.length_map, sizeLine_eq]; exact hz) R.hh fun h' t tk F N _ => h _ [] h' tk (S.ofFN F N) (.bytes _ _)
theorem Cl.list1 {xs : List Dat} (hz : xs.length ≤ 16777216) : Cl c k (.type "list") [.list xs] (.list xs) := by
  intro A h₀ L m mu D s vs Q E R B S ia h
  obtain ⟨v, rfl, i⟩ := all1 ia
  cases i with
  | list hm hd => exact list_copyK (hsz := by rw [List.size_toArray, hd.length, sizeLine_eq]; exact hz) S.fr S.nw (isList_of S hm) fun D' c' h' F N lt => h _ _ h' s.toks (S.add1 F N lt) (.list (List.mem_append.mpr (.inl List.mem_cons_self)) (hd.mono subL))

/-! places -/
theorem Ev.item {v i : Expr} {pos : Pos} {xs : List Dat} {n : Int} {d : Dat} (hv : Ev c k env Γ v (.list xs)) (hi : Ev c k env Γ i (.int n)) (h0 : 0 ≤ n) (hn : xs.length ≤ 16777216) (hx : xs[n.toNat]? = some d)
    (hs : ∀ a n u, subscripted i false (.ref a) (.int n u) = operate [.ref a, .int n u] (getItem (.ref a) (.int n u)) := by intros; with_unfolding_all rfl) : Ev c k env Γ (.Subscript v i pos) d := by
  intro A h₀ L m mu D s Q E R B S G hq
  refine Subscript_ (ev2 hv hi R B S G fun v w tl h' tk S' a b => ?_)
  cases b
  cases a with
  | list hm hd =>
    have hlt : n.toNat < xs.length := (List.getElem?_eq_some_iff.mp hx).1
    refine kd_item S'.nw (List.mem_append.mpr (.inr hm)) hd h0 (by omega) (by omega) (fun v d' e _ i => ?_) (hs _ _ _)
    rw [hx] at e; cases e
    exact hq v tl h' tk S' i
theorem Ev.itemT {v i : Expr} {pos : Pos} {xs : List Dat} {n : Int} {d : Dat} (hv : Ev c k env Γ v (.tuple xs)) (hi : Ev c k env Γ i (.int n)) (h0 : 0 ≤ n) (hn : xs.length ≤ 16777216) (hx : xs[n.toNat]? = some d)
    (hs : ∀ a n u, subscripted i false (.ref a) (.int n u) = operate [.ref a, .int n u] (getItem (.ref a) (.int n u)) := by intros; with_unfolding_all rfl) : Ev c k env Γ (.Subscript v i pos) d := by
  intro A h₀ L m mu D s Q E R B S G hq
  refine Subscript_ (ev2 hv hi R B S G fun v w tl h' tk S' a b => ?_)
  cases b
  cases a with
  | tuple hm hd =>
    have hlt : n.toNat < xs.length := (List.getElem?_eq_some_iff.mp hx).1
    obtain ⟨x, hxv, hxd⟩ := hd.get hlt
    have ed : xs[n.toNat]'hlt = d := by rw [List.getElem?_eq_getElem hlt] at hx; exact Option.some.inj hx
    have e := hd.length
    refine item_tupleT (j := n.toNat) (isTup_of S' hm) (by omega) (by omega) ?_ hxv (hq x tl h' tk S' (ed ▸ hxd)) (hs _ _ _)
    unfold seqIndex?
    rw [e]
    simp only []
    split <;> simp_all <;> omega

theorem part_of {e : Option Expr} {x : Option Int} (he : match e, x with | none, none => True | some e, some n => Ev c k env Γ e (.int n) | _, _ => False)
    {A : Around} {h₀ : Heap} {L : Addr} {m : Str → Option Value} {mu D : List (Addr × Obj)} {s : Shared} {Q : Value → Shared → Prop} {E : Value → Shared → Prop} (R : Rm A k) (B : Sub c.H h₀) (S : St h₀ L m mu D s.heap) (G : Has env L m mu D Γ)
    (hq : ∀ v tl h' tk, St h₀ L m mu (tl ++ D) h' → IsPart v x → Q v { s with heap := h', toks := tk }) : wpAny (model c.prog c.w) A (evalPart e env) Q E s := by
  cases e with
  | none => cases x with
    | none => exact wpAny_evalPart_none (hq _ [] s.heap s.toks S .none)
    | some _ => exact he.elim
  | some e => cases x with
    | none => exact he.elim
    | some n => exact wpAny_evalPart_some (he A h₀ L m mu D s _ E R B S G fun v tl h' tk S' i => by cases i; exact hq _ tl h' tk S' (.int _ _))

theorem pick_all {D : List (Addr × Obj)} {vs : List Value} {xs : List Dat} (h : DatAll D vs xs) (n : Nat) : DatAll D (vs.take n) (xs.take n) ∧ DatAll D (vs.drop n) (xs.drop n) := by
  induction n generalizing vs xs with
  | zero => exact ⟨by simpa using DatAll.nil, by simpa using h⟩
  | succ n ih =>
    cases h with
    | nil => exact ⟨by simpa using DatAll.nil, by simpa using DatAll.nil⟩
    | cons h1 h2 => exact ⟨.cons h1 (ih h2).1, (ih h2).2⟩
theorem rev_all {D : List (Addr × Obj)} {vs : List Value} {xs : List Dat} (h : DatAll D vs xs) : DatAll D vs.reverse xs.reverse := by
  induction vs generalizing xs with
  | nil => cases h; exact .nil
  | cons v vs ih =>
    cases h with
    | cons h1 h2 => rw [List.reverse_cons, List.reverse_cons]; exact (ih h2).append (.one h1)

theorem slice_any {x : Str} {p1 p2 pos : Pos} {lo hi : Option Expr} {a b : Option Int} {xs ys : List Dat} (hv : Ev c k env Γ (.Name x p1) (.list xs))
    (hlo : match lo, a with | none, none => True | some e, some n => Ev c k env Γ e (.int n) | _, _ => False) (hhi : match hi, b with | none, none => True | some e, some n => Ev c k env Γ e (.int n) | _, _ => False) (hn : xs.length ≤ 16777216)
    (hy : ∀ D vs, DatAll D vs xs → DatAll D (slicePick vs.toArray a b none).toList ys) : Ev c k env Γ (.Subscript (.Name x p1) (.Slice lo hi none p2) pos) (.list ys) := by
  intro A h₀ L m mu D s Q E R B S G hq
  refine wpAny_Subscript_list_slice (hv A h₀ L m mu D s _ E R B S G fun v tl h' tk S' i => ?_)
  refine part_of hlo R B S' G.up fun v1 tl1 h1 tk1 S1 i1 => ?_
  rw [← List.append_assoc] at S1
  refine part_of hhi R B S1 G.up fun v2 tl2 h2 tk2 S2 i2 => ?_
  cases i with
  | list hm hd =>
    rename_i l ws n
    rw [← List.append_assoc] at S2
    have hm2 : (l, PySem.W.listOf ws.toArray n) ∈ tl2 ++ tl1 ++ tl ++ D := by
      rw [List.append_assoc]; exact List.mem_append.mpr (.inr hm)
    refine ⟨l, ws.toArray, a, b, rfl, isList_of (by rw [List.append_assoc, List.append_assoc] at *; exact S2) (by rw [List.append_assoc, List.append_assoc] at *; exact hm2), by rw [List.size_toArray, hd.length, sizeLine_eq]; exact hn, i1, i2, ?_⟩
    have S3 := S2.up (h' := h2.push { cls := .type "slice", data := .fields #[v1, v2, .none] }) fun _ _ e => Heap.get?_push_of_some _ e
    have S4 := S3.add (tl := [(h2.objs.size + 1, ({ cls := .type "list", data := .seq (slicePick ws.toArray a b none) } : Obj))]) (h' := (h2.push { cls := .type "slice", data := .fields #[v1, v2, .none] }).push { cls := .type "list", data := .seq (slicePick ws.toArray a b none) }) (fun _ _ e => Heap.get?_push_of_some _ e) (fun p hp => by
      rw [List.mem_singleton.mp hp]
      refine ⟨?_, by rw [Heap.size_push]; exact Nat.le_refl _⟩
      have z := Heap.get?_push_size (h2.push { cls := .type "slice", data := .fields #[v1, v2, .none] }) (o := ({ cls := .type "list", data := .seq (slicePick ws.toArray a b none) } : Obj)) rfl
      rw [Heap.size_push] at z
      exact z)
    rw [← List.append_assoc] at S4
    refine hq _ _ _ tk2 S4 ?_
    have hp := hy _ _ hd
    refine DatIn.list (n := 0) (vs := (slicePick ws.toArray a b none).toList) (by simp [PySem.W.listOf]) (hp.mono fun p hp => ?_)
    simp only [List.mem_append, List.mem_cons] at hp ⊢
    rcases hp with hp | hp
    · exact .inl (.inr (.inr (.inr hp)))
    · exact .inr hp
theorem Ev.uptoL {x : Str} {p1 p2 pos : Pos} {e : Expr} {n : Int} {xs : List Dat} (hv : Ev c k env Γ (.Name x p1) (.list xs)) (he : Ev c k env Γ e (.int n)) (h0 : 0 ≤ n) (hn : xs.length ≤ 16777216) :
    Ev c k env Γ (.Subscript (.Name x p1) (.Slice none (some e) none p2) pos) (.list (xs.take n.toNat)) := by
  refine slice_any (a := none) (b := some n) hv trivial he hn fun D vs h => ?_
  have e : n = ((n.toNat : Nat) : Int) := by omega
  rw [e, slicePick_upto']
  exact (pick_all h n.toNat).1
theorem Ev.fromL {x : Str} {p1 p2 pos : Pos} {e : Expr} {n : Int} {xs : List Dat} (hv : Ev c k env Γ (.Name x p1) (.list xs)) (he : Ev c k env Γ e (.int n)) (h0 : 0 ≤ n) (hn : xs.length ≤ 16777216) :
    Ev c k env Γ (.Subscript (.Name x p1) (.Slice (some e) none none p2) pos) (.list (xs.drop n.toNat)) := by
  refine slice_any (a := some n) (b := none) hv he trivial hn fun D vs h => ?_
  have e : n = ((n.toNat : Nat) : Int) := by omega
  rw [e, slicePick_from']
  exact (pick_all h n.toNat).2
end
end Mine

namespace Mine

/-! what turns, at an address -/
def setA (mu : List (Addr × Obj)) (a : Addr) (o : Obj) : List (Addr × Obj) := mu.map fun p => if p.1 = a then (a, o) else p
theorem setA_keys (a : Addr) (o : Obj) : ∀ mu : List (Addr × Obj), (setA mu a o).map (·.1) = mu.map (·.1)
  | [] => rfl
  | p :: r => by
    have ih := setA_keys a o r
    show (if p.1 = a then (a, o) else p).1 :: (setA r a o).map (·.1) = p.1 :: r.map (·.1)
    rw [ih]
    congr 1
    split
    · rename_i e; exact e.symm
    · rfl
theorem setA_mem {mu : List (Addr × Obj)} {a : Addr} {o : Obj} {p : Addr × Obj} (h : p ∈ setA mu a o) : (p = (a, o) ∧ a ∈ mu.map (·.1)) ∨ (p ∈ mu ∧ p.1 ≠ a) := by
  obtain ⟨q, hq, e⟩ := List.mem_map.mp h
  by_cases hqa : q.1 = a
  · rw [if_pos hqa] at e; exact .inl ⟨e.symm, List.mem_map.mpr ⟨q, hq, hqa⟩⟩
  · rw [if_neg hqa] at e; exact .inr ⟨e ▸ hq, e ▸ hqa⟩
theorem setA_new {mu : List (Addr × Obj)} {a : Addr} {o o' : Obj} (h : (a, o) ∈ mu) : (a, o') ∈ setA mu a o' := List.mem_map.mpr ⟨(a, o), h, by simp⟩
theorem setA_old {mu : List (Addr × Obj)} {a : Addr} {o' : Obj} {p : Addr × Obj} (h : p ∈ mu) (hn : p.1 ≠ a) : p ∈ setA mu a o' := List.mem_map.mpr ⟨p, h, by simp [hn]⟩

theorem St.turnAt {h₀ h h' : Heap} {L a : Addr} {m : Str → Option Value} {mu D : List (Addr × Obj)} {o o' : Obj} (S : St h₀ L m mu D h) (hm : (a, o) ∈ mu) (hs : Heap.SameBut a h h') (ho : h'.get? a = some o') : St h₀ L m (setA mu a o') D h' := by
  have n0 := S.nw (a, o) (List.mem_append.mpr (.inl hm))
  refine ⟨⟨S.fr.ns.sameBut hs (Ne.symm n0.2.1), fun b ob e => ?_, S.fr.above⟩, fun p hp => ?_, fun p hp q hq => ?_, by rw [setA_keys]; exact S.nd⟩
  · exact hs.extBut b ob (fun q => by rw [q, n0.2.2] at e; cases e) (S.fr.keep b ob e)
  · rcases List.mem_append.mp hp with hp | hp
    · rcases setA_mem hp with ⟨rfl, _⟩ | ⟨hp, hne⟩
      · exact ⟨ho, n0.2⟩
      · have z := S.nw p (List.mem_append.mpr (.inl hp))
        exact ⟨hs.extBut _ _ hne z.1, z.2⟩
    · have z := S.nw p (List.mem_append.mpr (.inr hp))
      exact ⟨hs.extBut _ _ (fun e => S.off _ hm p hp e.symm) z.1, z.2⟩
  · rcases setA_mem hp with ⟨rfl, _⟩ | ⟨hp, hne⟩
    · exact S.off _ hm q hq
    · exact S.off p hp q hq

/-! the names of a frame -/
structure Cells (env : Env) (mu : List (Addr × Obj)) : Prop where
  is : ∀ x c, env.cells.lookup x = some c → ∃ o v, (c, o) ∈ mu ∧ o.data = .cell v
  one : ∀ x y c, env.cells.lookup x = some c → env.cells.lookup y = some c → x = y

def Okind (env : Env) (x : Str) : Prop := env.kindOf x = some .local ∨ (env.kindOf x = some .cell ∧ (env.cells.lookup x).isSome = true)

section
variable {M : Model} {A : Around} {E : Value → Shared → Prop} {s : Shared} {env : Env} {h₀ : Heap} {m : Str → Option Value} {mu D : List (Addr × Obj)} {x : Str} {v : Value} {Q : Unit → Shared → Prop}
theorem store_core (he : EnvOk env) (S : St h₀ env.locals m mu D s.heap) (C : Cells env mu) (hk : Okind env x)
    (h : ∀ h' tk m' mu', St h₀ env.locals m' mu' D h' → Cells env mu' → Rd env env.locals m' mu' x v → (∀ y w, y ≠ x → Rd env env.locals m mu y w → Rd env env.locals m' mu' y w) →
      (∀ p ∈ mu, (∀ y c, env.cells.lookup y = some c → p.1 ≠ c) → p ∈ mu') → Q () { s with heap := h', toks := tk }) : wpAny M A (storeName env x v) Q E s := by
  rcases hk with hl | ⟨hl, hc⟩
  · refine wpAny_storeName_local hl S.fr.ns (fun h' hn hs => ?_) (by rw [he.k]; rfl)
    refine h h' _ _ mu (S.store hn hs) C (.loc rfl hl (by simp)) (fun y w hy R => ?_) fun p hp _ => hp
    cases R with
    | loc e1 e2 e3 => exact .loc e1 e2 (by simp [hy, e3])
    | own hm hn e2 e3 => exact absurd rfl (S.nw _ (List.mem_append.mpr (.inl hm))).2.1
    | cell hc e2 hm hd => exact .cell hc e2 hm hd
  · obtain ⟨c, hc⟩ := Option.isSome_iff_exists.mp hc
    obtain ⟨o, v₀, hm, hd⟩ := C.is x c hc
    refine wpAny_storeName_cell he.k hl hc ⟨o, S.getM hm, hd⟩ fun h' hv hs => ?_
    obtain ⟨o', ho', hd'⟩ := hv
    refine h h' _ m _ (S.turnAt hm hs ho') ⟨fun y c' hy => ?_, C.one⟩ (.cell hc hl (setA_new hm) hd') (fun y w hy R => ?_) fun p hp hn => setA_old hp (hn x c hc)
    · by_cases hcc : c' = c
      · subst hcc; exact ⟨o', _, setA_new hm, hd'⟩
      · obtain ⟨o₁, v₁, h1, h2⟩ := C.is y c' hy
        exact ⟨o₁, v₁, setA_old h1 hcc, h2⟩
    · cases R with
      | loc e1 e2 e3 => exact .loc e1 e2 e3
      | own hm' hn e2 e3 => exact absurd rfl (S.nw _ (List.mem_append.mpr (.inl hm'))).2.1
      | cell hc' e2 hm' hd'' => exact .cell hc' e2 (setA_old hm' fun e => by
          have e' : _ = c := e
          rw [← e'] at hc
          exact hy (C.one _ _ _ hc' hc)) hd''
end

/-- a frame's state: what its names hold (Γ), the one list that it may still turn (o), what else stands (R, D₀) -/
structure SatM (env : Env) (h₀ : Heap) (R D₀ : List (Addr × Obj)) (Γ : List (Str × Dat)) (o : Option (Str × List Dat)) (m : Str → Option Value) (mu D : List (Addr × Obj)) (h : Heap) : Prop where
  st : St h₀ env.locals m mu D h
  hs : Has env env.locals m mu D Γ
  ce : Cells env mu
  rs : ∀ p ∈ R, p ∈ mu ∧ ∀ x c, env.cells.lookup x = some c → p.1 ≠ c
  d0 : ∀ p ∈ D₀, p ∈ D
  ow : ∀ x ds, o = some (x, ds) → ∃ a vs n, (a, PySem.W.listOf vs.toArray n) ∈ mu ∧ Rd env env.locals m mu x (.ref a) ∧ DatAll D vs ds ∧ (∀ p ∈ R, p.1 ≠ a) ∧ ∀ y c, env.cells.lookup y = some c → a ≠ c

def Sat (env : Env) (h₀ : Heap) (R D₀ : List (Addr × Obj)) (Γ : List (Str × Dat)) (o : Option (Str × List Dat)) (h : Heap) : Prop := ∃ m mu D, SatM env h₀ R D₀ Γ o m mu D h

inductive Out
  | next (Γ : List (Str × Dat)) (o : Option (Str × List Dat))
  | ret (d : Dat)

def RetOk (env : Env) (h₀ : Heap) (D₀ : List (Addr × Obj)) (d : Dat) (v : Value) (h : Heap) : Prop := ∃ m mu D, St h₀ env.locals m mu D h ∧ (∀ p ∈ D₀, p ∈ D) ∧ DatIn D v d

def PostO (env : Env) (h₀ : Heap) (R D₀ : List (Addr × Obj)) (Q : Flow → Shared → Prop) (s : Shared) : Out → Prop
  | .next Γ o => ∀ h' tk, Sat env h₀ R D₀ Γ o h' → Q .next { s with heap := h', toks := tk }
  | .ret d => ∀ v h' tk, RetOk env h₀ D₀ d v h' → Q (.ret v) { s with heap := h', toks := tk }

def Ex (c : Cfg) (k : Nat) (env : Env) (Γ : List (Str × Dat)) (o : Option (Str × List Dat)) (ss : List Stmt) (out : Out) : Prop :=
  ∀ (A : Around) (h₀ : Heap) (R D₀ : List (Addr × Obj)) (s : Shared) (Q : Flow → Shared → Prop) (E : Value → Shared → Prop),
    Rm A k → Sub c.H h₀ → Sat env h₀ R D₀ Γ o s.heap → PostO env h₀ R D₀ Q s out → wpAny (model c.prog c.w) A (execs ss env) Q E s
def Ex1 (c : Cfg) (k : Nat) (env : Env) (Γ : List (Str × Dat)) (o : Option (Str × List Dat)) (st : Stmt) (out : Out) : Prop :=
  ∀ (A : Around) (h₀ : Heap) (R D₀ : List (Addr × Obj)) (s : Shared) (Q : Flow → Shared → Prop) (E : Value → Shared → Prop),
    Rm A k → Sub c.H h₀ → Sat env h₀ R D₀ Γ o s.heap → PostO env h₀ R D₀ Q s out → wpAny (model c.prog c.w) A (exec st env) Q E s

theorem PostO.tok {env : Env} {h₀ : Heap} {R D₀ : List (Addr × Obj)} {Q : Flow → Shared → Prop} {s : Shared} {out : Out} (h : PostO env h₀ R D₀ Q s out) (h' : Heap) (tk : Nat) : PostO env h₀ R D₀ Q { s with heap := h', toks := tk } out := by
  cases out with
  | next Γ o => exact fun h'' tk' S => h h'' tk' S
  | ret d => exact fun v h'' tk' S => h v h'' tk' S

section
variable {c : Cfg} {k : Nat} {env : Env} {Γ Γ' : List (Str × Dat)} {o o' : Option (Str × List Dat)} {out : Out}

theorem Ex.nil : Ex c k env Γ o [] (.next Γ o) := by
  intro A h₀ R D₀ s Q E _ _ S P
  exact wpAny_execs_nil (P s.heap s.toks S)
theorem Ex.cons {st : Stmt} {rest : List Stmt} (h : Ex1 c k env Γ o st (.next Γ' o')) (h2 : Ex c k env Γ' o' rest out) : Ex c k env Γ o (st :: rest) out := by
  intro A h₀ R D₀ s Q E r B S P
  refine wpAny_execs_cons (h A h₀ R D₀ s _ E r B S fun h' tk S' => ?_)
  exact h2 A h₀ R D₀ _ Q E r B S' (P.tok h' tk)
theorem Ex.consR {st : Stmt} {rest : List Stmt} {d : Dat} (h : Ex1 c k env Γ o st (.ret d)) : Ex c k env Γ o (st :: rest) (.ret d) := by
  intro A h₀ R D₀ s Q E r B S P
  exact wpAny_execs_cons (h A h₀ R D₀ s _ E r B S fun v h' tk S' => P v h' tk S')

theorem Sat.weaken {h₀ h : Heap} {R D₀ : List (Addr × Obj)} (S : Sat env h₀ R D₀ Γ o h) (w : ∀ x d, Γ'.lookup x = some d → Γ.lookup x = some d) : Sat env h₀ R D₀ Γ' o h :=
  let ⟨m, mu, D, S⟩ := S; ⟨m, mu, D, S.st, fun x d e => S.hs x d (w x d e), S.ce, S.rs, S.d0, S.ow⟩
theorem Sat.forget {h₀ h : Heap} {R D₀ : List (Addr × Obj)} (S : Sat env h₀ R D₀ Γ o h) : Sat env h₀ R D₀ Γ none h :=
  let ⟨m, mu, D, S⟩ := S; ⟨m, mu, D, S.st, S.hs, S.ce, S.rs, S.d0, fun _ _ e => by cases e⟩
theorem Ex.weaken {ss : List Stmt} (w : ∀ x d, Γ'.lookup x = some d → Γ.lookup x = some d) (h : Ex c k env Γ' o ss out) : Ex c k env Γ o ss out :=
  fun A h₀ R D₀ s Q E r B S P => h A h₀ R D₀ s Q E r B (S.weaken w) P
theorem Ex.forget {ss : List Stmt} (h : Ex c k env Γ none ss out) : Ex c k env Γ o ss out :=
  fun A h₀ R D₀ s Q E r B S P => h A h₀ R D₀ s Q E r B S.forget P

theorem mem_perm {a : Addr} {ob : Obj} {mu : List (Addr × Obj)} (h : (a, ob) ∈ mu) : ∃ r, mu.Perm ((a, ob) :: r) := by
  obtain ⟨s, t, rfl⟩ := List.append_of_mem h
  exact ⟨s ++ t, List.perm_middle⟩

/-- the list turns no more: it is a datum from here on -/
theorem Sat.freeze {h₀ h : Heap} {R D₀ : List (Addr × Obj)} {x : Str} {ds : List Dat} (S : Sat env h₀ R D₀ Γ (some (x, ds)) h) : Sat env h₀ R D₀ ((x, .list ds) :: Γ) none h := by
  obtain ⟨m, mu, D, S⟩ := S
  obtain ⟨a, vs, n, hm, hr, hd, h1, h2⟩ := S.ow x ds rfl
  obtain ⟨r, hp⟩ := mem_perm hm
  have S1 := (S.st.perm hp).freeze
  have inr : ∀ p ∈ mu, p.1 ≠ a → p ∈ r := fun p hp' hne => by
    rcases List.mem_cons.mp (hp.mem_iff.mp hp') with rfl | h
    · exact absurd rfl hne
    · exact h
  have rd : ∀ y w, Rd env env.locals m mu y w → Rd env env.locals m r y w := fun y w R => by
    cases R with
    | loc e1 e2 e3 => exact .loc e1 e2 e3
    | own hm' hn e2 e3 => exact absurd rfl (S.st.nw _ (List.mem_append.mpr (.inl hm'))).2.1
    | cell hc e2 hm' hd' => exact .cell hc e2 (inr _ hm' fun e => h2 _ _ hc e.symm) hd'
  refine ⟨m, r, _, S1, fun y d e => ?_, ⟨fun y c' hy => ?_, S.ce.one⟩, fun p hp' => ⟨inr p (S.rs p hp').1 (h1 p hp'), (S.rs p hp').2⟩, fun p hp' => List.mem_append.mpr (.inr (S.d0 p hp')), fun _ _ e => by cases e⟩
  · rw [List.lookup_cons] at e
    by_cases hyx : y == x
    · rw [hyx] at e; cases e
      have : y = x := beq_iff_eq.mp hyx
      subst this
      exact ⟨_, rd _ _ hr, .list (List.mem_append.mpr (.inl List.mem_cons_self)) (hd.mono subL)⟩
    · simp only [hyx] at e
      obtain ⟨v, hv, i⟩ := S.hs y d e
      exact ⟨v, rd _ _ hv, i.mono subL⟩
  · obtain ⟨ob, v, q1, q2⟩ := S.ce.is y c' hy
    exact ⟨ob, v, inr _ q1 fun e => h2 _ _ hy e.symm, q2⟩
theorem Ex.freeze {ss : List Stmt} {x : Str} {ds : List Dat} (h : Ex c k env ((x, .list ds) :: Γ) none ss out) : Ex c k env Γ (some (x, ds)) ss out :=
  fun A h₀ R D₀ s Q E r B S P => h A h₀ R D₀ s Q E r B S.freeze P

theorem Ex1.ret {e : Expr} {pos : Pos} {d : Dat} (h : Ev c k env Γ e d) : Ex1 c k env Γ o (.Return (some e) pos) (.ret d) := by
  intro A h₀ R D₀ s Q E r B S P
  obtain ⟨m, mu, D, S⟩ := S
  refine wpAny_Return_some (h A h₀ _ m mu D s _ E r B S.st S.hs fun v tl h' tk S' i => ?_)
  exact P v h' tk ⟨m, mu, _, S', fun p hp => List.mem_append.mpr (.inr (S.d0 p hp)), i⟩

/-- what is new beside the state -/
theorem SatM.grow {h₀ h h' : Heap} {R D₀ : List (Addr × Obj)} {m : Str → Option Value} {mu D tl : List (Addr × Obj)} (S : SatM env h₀ R D₀ Γ o m mu D h) (S' : St h₀ env.locals m mu (tl ++ D) h') : SatM env h₀ R D₀ Γ o m mu (tl ++ D) h' :=
  ⟨S', S.hs.up, S.ce, S.rs, fun p hp => List.mem_append.mpr (.inr (S.d0 p hp)), fun x ds e => let ⟨a, vs, n, h1, h2, h3, h4, h5⟩ := S.ow x ds e; ⟨a, vs, n, h1, h2, h3.mono subL, h4, h5⟩⟩

/-- a name is stored -/
theorem SatM.store {M : Model} {A : Around} {E : Value → Shared → Prop} {s : Shared} {Q : Unit → Shared → Prop} {h₀ : Heap} {R D₀ : List (Addr × Obj)} {m : Str → Option Value} {mu D : List (Addr × Obj)} {x : Str} {v : Value} {d : Dat}
    (he : EnvOk env) (S : SatM env h₀ R D₀ Γ o m mu D s.heap) (hk : Okind env x) (i : DatIn D v d) (hx : ∀ y ds, o = some (y, ds) → y ≠ x)
    (h : ∀ h' tk m' mu', SatM env h₀ R D₀ ((x, d) :: Γ) o m' mu' D h' → Q () { s with heap := h', toks := tk }) : wpAny M A (storeName env x v) Q E s := by
  refine store_core he S.st S.ce hk fun h' tk m' mu' S' C' rx ry rm => ?_
  refine h h' tk m' mu' ⟨S', fun y d' e => ?_, C', fun p hp => ⟨rm p (S.rs p hp).1 (S.rs p hp).2, (S.rs p hp).2⟩, S.d0, fun y ds e => ?_⟩
  · rw [List.lookup_cons] at e
    by_cases hyx : y == x
    · rw [hyx] at e; cases e
      have : y = x := beq_iff_eq.mp hyx
      subst this
      exact ⟨v, rx, i⟩
    · simp only [hyx] at e
      obtain ⟨w, hw, j⟩ := S.hs y d' e
      exact ⟨w, ry y w (fun q => hyx (by rw [q]; exact beq_self_eq_true x)) hw, j⟩
  · obtain ⟨a, vs, n, h1, h2, h3, h4, h5⟩ := S.ow y ds e
    exact ⟨a, vs, n, rm _ h1 h5, ry y _ (hx y ds e) h2, h3, h4, h5⟩

theorem Ex1.asg {x : Str} {pos' pos : Pos} {e : Expr} {d : Dat} (he : EnvOk env) (hk : Okind env x) (h : Ev c k env Γ e d) (hx : ∀ y ds, o = some (y, ds) → y ≠ x) (hs : swapsWith e (some (.Name x pos')) pos.line env = pure false := by rfl) :
    Ex1 c k env Γ o (.Assign [.Name x pos'] e pos) (.next ((x, d) :: Γ) o) := by
  intro A h₀ R D₀ s Q E r B S P
  obtain ⟨m, mu, D, S⟩ := S
  refine wpAny_Assign_Name (h A h₀ _ m mu D s _ E r B S.st S.hs fun v tl h' tk S' i => ?_) hs
  exact (S.grow S').store he hk i hx fun h'' tk' m' mu' S'' => P h'' tk' ⟨m', mu', _, S''⟩

theorem Ex1.ifT {t : Expr} {a b : List Stmt} {pos : Pos} (h : Tr c k env Γ t true) (ha : Ex c k env Γ o a out) : Ex1 c k env Γ o (.If t a b pos) out := by
  intro A h₀ R D₀ s Q E r B S P
  obtain ⟨m, mu, D, S⟩ := S
  refine wpAny_If (h A h₀ _ m mu D s _ E r B S.st S.hs fun tl h' tk S' => ?_)
  rw [if_pos rfl]
  exact ha A h₀ R D₀ _ Q E r B ⟨m, mu, _, S.grow S'⟩ (P.tok h' tk)
theorem Ex1.ifF {t : Expr} {a b : List Stmt} {pos : Pos} (h : Tr c k env Γ t false) (hb : Ex c k env Γ o b out) : Ex1 c k env Γ o (.If t a b pos) out := by
  intro A h₀ R D₀ s Q E r B S P
  obtain ⟨m, mu, D, S⟩ := S
  refine wpAny_If (h A h₀ _ m mu D s _ E r B S.st S.hs fun tl h' tk S' => ?_)
  rw [if_neg (by decide)]
  exact hb A h₀ R D₀ _ Q E r B ⟨m, mu, _, S.grow S'⟩ (P.tok h' tk)
end
end Mine

namespace Mine

/-- what stores the names, in turn -/
inductive Acts (env : Env) : List Str → List (Value → Sem Unit) → Prop
  | nil : Acts env [] []
  | nm {x : Str} {p : Pos} {xs : List Str} {ts : List (Value → Sem Unit)} : Acts env xs ts → Acts env (x :: xs) (assign (.Name x p) env :: ts)
  | bd {x : Str} {xs : List Str} {ts : List (Value → Sem Unit)} : Acts env xs ts → Acts env (x :: xs) ((fun v => bindName env x v) :: ts)

section
variable {M : Model} {A : Around} {E : Value → Shared → Prop} {env : Env} {h₀ : Heap} {D : List (Addr × Obj)}
theorem acts_len {xs : List Str} {ts : List (Value → Sem Unit)} (a : Acts env xs ts) : xs.length = ts.length := by
  induction a with
  | nil => rfl
  | nm _ ih => rw [List.length_cons, List.length_cons, ih]
  | bd _ ih => rw [List.length_cons, List.length_cons, ih]
theorem stores_core (he : EnvOk env) (xs : List Str) : ∀ {ts : List (Value → Sem Unit)} {vs : List Value} {s : Shared} {m : Str → Option Value} {mu : List (Addr × Obj)} {Q : Unit → Shared → Prop},
    Acts env xs ts → xs.length = vs.length → (∀ x ∈ xs, Okind env x) → xs.Nodup → St h₀ env.locals m mu D s.heap → Cells env mu →
    (∀ h' tk m' mu', St h₀ env.locals m' mu' D h' → Cells env mu' → (∀ p ∈ xs.zip vs, Rd env env.locals m' mu' p.1 p.2) → (∀ y w, y ∉ xs → Rd env env.locals m mu y w → Rd env env.locals m' mu' y w) →
      (∀ p ∈ mu, (∀ y c, env.cells.lookup y = some c → p.1 ≠ c) → p ∈ mu') → Q () { s with heap := h', toks := tk }) →
    wpAny M A (assignInOrder ts vs) Q E s := by
  induction xs with
  | nil =>
    intro ts vs s m mu Q a hl hk hn S C h
    cases a
    cases vs with
    | cons _ _ => cases hl
    | nil => exact assignInOrder_nil (h s.heap s.toks m mu S C (fun p hp => by cases hp) (fun _ _ _ r => r) fun p hp _ => hp)
  | cons x xs ih =>
    intro ts vs s m mu Q a hl hk hn S C h
    cases vs with
    | nil => cases hl
    | cons v vs =>
      have hn' := List.nodup_cons.mp hn
      have main : ∀ ts', Acts env xs ts' → wpAny M A (storeName env x v) (fun _ s₁ => wpAny M A (assignInOrder ts' vs) Q E s₁) E s := by
        intro ts' a'
        refine store_core he S C (hk x List.mem_cons_self) fun h₁ tk₁ m₁ mu₁ S₁ C₁ rx ry rm => ?_
        refine ih a' (Nat.succ.inj hl) (fun y hy => hk y (List.mem_cons_of_mem _ hy)) hn'.2 S₁ C₁ fun h₂ tk₂ m₂ mu₂ S₂ C₂ rz ro rm₂ => ?_
        refine h h₂ tk₂ m₂ mu₂ S₂ C₂ (fun p hp => ?_) (fun y w hy r => ?_) fun p hp hc => rm₂ p (rm p hp hc) hc
        · rw [List.zip_cons_cons] at hp
          rcases List.mem_cons.mp hp with rfl | hp
          · exact ro x v hn'.1 rx
          · exact rz p hp
        · exact ro y w (fun q => hy (List.mem_cons_of_mem _ q)) (ry y w (fun q => hy (q ▸ List.mem_cons_self)) r)
      cases a with
      | nm a => exact assignInOrder_cons (wpAny_assign_Name (main _ a))
      | bd a => exact assignInOrder_cons (wpAny_bindName (main _ a))
end

theorem zip_rev {α β : Type} : ∀ {xs : List α} {vs : List β}, xs.length = vs.length → xs.reverse.zip vs.reverse = (xs.zip vs).reverse
  | [], [], _ => rfl
  | x :: xs, v :: vs, h => by
    have e : xs.length = vs.length := Nat.succ.inj h
    rw [List.reverse_cons, List.reverse_cons, List.zip_append (by rw [List.length_reverse, List.length_reverse, e]), zip_rev e]
    show (xs.zip vs).reverse ++ [(x, v)] = ((x, v) :: xs.zip vs).reverse
    rw [List.reverse_cons]

theorem lookup_zip {β : Type} : ∀ {xs : List Str} {ds : List β} {y : Str} {d : β}, (xs.zip ds).lookup y = some d → (y, d) ∈ xs.zip ds
  | [], _, _, _, h => by simp at h
  | _ :: _, [], _, _, h => by simp at h
  | x :: xs, e :: ds, y, d, h => by
    rw [List.zip_cons_cons, List.lookup_cons] at h
    rw [List.zip_cons_cons]
    by_cases hy : y == x
    · rw [hy] at h; cases h; rw [beq_iff_eq.mp hy]; exact List.mem_cons_self
    · simp only [hy] at h; exact List.mem_cons_of_mem _ (lookup_zip h)
theorem lookup_app {β : Type} {a b : List (Str × β)} {y : Str} {d : β} (h : (a ++ b).lookup y = some d) : a.lookup y = some d ∨ (a.lookup y = none ∧ b.lookup y = some d) := by
  induction a with
  | nil => exact .inr ⟨rfl, h⟩
  | cons p r ih =>
    obtain ⟨x, e⟩ := p
    rw [List.cons_append, List.lookup_cons] at h
    rw [List.lookup_cons]
    by_cases hy : y == x
    · rw [hy] at h ⊢; exact .inl h
    · simp only [hy] at h ⊢; exact ih h
theorem lookup_none {β : Type} {a : List (Str × β)} {y : Str} (h : a.lookup y = none) : y ∉ a.map (·.1) := by
  induction a with
  | nil => simp
  | cons p r ih =>
    obtain ⟨x, e⟩ := p
    rw [List.lookup_cons] at h
    by_cases hy : y == x
    · rw [hy] at h; cases h
    · simp only [hy] at h
      rw [List.map_cons, List.mem_cons]
      exact fun q => q.elim (fun q => hy (by rw [q]; exact beq_self_eq_true x)) (ih h)
theorem zip_in {D : List (Addr × Obj)} : ∀ {xs : List Str} {vs : List Value} {ds : List Dat} {y : Str} {d : Dat}, DatAll D vs ds → (y, d) ∈ xs.zip ds → ∃ v, (y, v) ∈ xs.zip vs ∧ DatIn D v d
  | [], _, _, _, _, _, h => by simp at h
  | x :: xs, _, _, y, d, .nil, h => by simp at h
  | x :: xs, _, _, y, d, .cons i r, h => by
    rw [List.zip_cons_cons] at h
    rcases List.mem_cons.mp h with e | h
    · cases e; exact ⟨_, by rw [List.zip_cons_cons]; exact List.mem_cons_self, i⟩
    · obtain ⟨v, hv, j⟩ := zip_in r h
      exact ⟨v, by rw [List.zip_cons_cons]; exact List.mem_cons_of_mem _ hv, j⟩

section
variable {c : Cfg} {k : Nat} {env : Env} {Γ Γ' : List (Str × Dat)} {o o' : Option (Str × List Dat)} {out : Out}

/-- names stored with data -/
theorem SatM.stores {M : Model} {A : Around} {E : Value → Shared → Prop} {s : Shared} {Q : Unit → Shared → Prop} {h₀ : Heap} {R D₀ : List (Addr × Obj)} {m : Str → Option Value} {mu D : List (Addr × Obj)} {xs xs' : List Str} {ts : List (Value → Sem Unit)} {vs vs' : List Value} {ds : List Dat}
    (he : EnvOk env) (S : SatM env h₀ R D₀ Γ o m mu D s.heap) (a : Acts env xs' ts) (hz : ∀ p, p ∈ xs.zip vs → p ∈ xs'.zip vs') (hx' : ∀ y, y ∈ xs' → y ∈ xs) (hl' : xs'.length = vs'.length) (hl : xs.length = ds.length) (hk : ∀ x ∈ xs, Okind env x) (hn : xs'.Nodup)
    (i : DatAll D vs ds) (hx : ∀ y ds, o = some (y, ds) → y ∉ xs)
    (h : ∀ h' tk m' mu', SatM env h₀ R D₀ (xs.zip ds ++ Γ) o m' mu' D h' → Q () { s with heap := h', toks := tk }) : wpAny M A (assignInOrder ts vs') Q E s := by
  refine stores_core he xs' a hl' (fun x hx => hk x (hx' x hx)) hn S.st S.ce fun h' tk m' mu' S' C' rx ry rm => ?_
  refine h h' tk m' mu' ⟨S', fun y d e => ?_, C', fun p hp => ⟨rm p (S.rs p hp).1 (S.rs p hp).2, (S.rs p hp).2⟩, S.d0, fun y ds' e => ?_⟩
  · rcases lookup_app e with e | ⟨e, e2⟩
    · obtain ⟨v, hv, j⟩ := zip_in i (lookup_zip e)
      exact ⟨v, rx _ (hz _ hv), j⟩
    · obtain ⟨w, hw, j⟩ := S.hs y d e2
      have hny : y ∉ xs := fun q => by
        have := lookup_none e
        rw [List.map_fst_zip (Nat.le_of_eq hl)] at this
        exact this q
      exact ⟨w, ry y w (fun q => hny (hx' y q)) hw, j⟩
  · obtain ⟨b, ws, n, h1, h2, h3, h4, h5⟩ := S.ow y ds' e
    exact ⟨b, ws, n, rm _ h1 h5, ry y _ (fun q => hx y ds' e (hx' y q)) h2, h3, h4, h5⟩

/-- a tuple of values over a tuple of names -/
theorem Ex1.tup {elts es : List Expr} {n n' : Nat} {p1 p2 pos : Pos} {xs : List Str} {ds : List Dat} (he : EnvOk env) (h : EvL c k env Γ es ds) (hl : xs.length = ds.length) (hsz : ds.length ≤ 16777216) (hk : ∀ x ∈ xs, Okind env x) (hn : xs.Nodup)
    (a : Acts env xs ((assignEach elts env).map (·.2))) (hel : (assignEach elts env).length = xs.length) (hstar : (assignEach elts env).findIdx? (·.1) = none) (hx : ∀ y ds, o = some (y, ds) → y ∉ xs)
    (hs : swapsWithSole [.Tuple elts n p1] (.Tuple es n' p2) pos.line env = pure false := by rfl) (hw : swappedStores [.Tuple elts n p1] (.Tuple es n' p2) env = pure none := by rfl) :
    Ex1 c k env Γ o (.Assign [.Tuple elts n p1] (.Tuple es n' p2) pos) (.next (xs.zip ds ++ Γ) o) := by
  intro A h₀ R D₀ s Q E r B S P
  obtain ⟨m, mu, D, S⟩ := S
  refine Assign_Tuple (Ev.tuple h hsz A h₀ _ m mu D s _ E r B S.st S.hs fun v tl h' tk S' i => ?_) hs hw
  cases i with
  | tuple hm hd =>
    rename_i T vs nn
    have ht := isTup_of S' hm
    refine assign_Tuple_tuple r.hh ht (by rw [hel, hl, List.size_toArray, hd.length]) hstar fun h'' hb => ?_
    have S'' : St h₀ env.locals m mu (tl ++ D) h'' := S'.up fun b o e => hb b o (Nat.ne_of_lt (Heap.lt_size e)) e
    exact (S.grow S'').stores he a (fun p hp => hp) (fun _ h => h) (by rw [hl]; exact hd.length.symm) hl hk hn hd hx fun h₃ tk₃ m₃ mu₃ S₃ => P h₃ tk₃ ⟨m₃, mu₃, _, S₃⟩

theorem acts_bd (env : Env) : ∀ xs : List Str, Acts env xs (xs.map fun n => fun v => bindName env n v)
  | [] => .nil
  | x :: xs => .bd (acts_bd env xs)

theorem Ex1.tupS {elts es : List Expr} {n n' : Nat} {p1 p2 pos : Pos} {xs : List Str} {ds : List Dat} (he : EnvOk env) (h : EvL c k env Γ es ds) (hl : xs.length = ds.length) (hsz : ds.length ≤ 16777216) (hk : ∀ x ∈ xs, Okind env x) (hn : xs.Nodup)
    (hx : ∀ y ds, o = some (y, ds) → y ∉ xs)
    (hs : swapsWithSole [.Tuple elts n p1] (.Tuple es n' p2) pos.line env = pure false := by rfl) (hw : swappedStores [.Tuple elts n p1] (.Tuple es n' p2) env = pure (some xs) := by rfl) :
    Ex1 c k env Γ o (.Assign [.Tuple elts n p1] (.Tuple es n' p2) pos) (.next (xs.zip ds ++ Γ) o) := by
  intro A h₀ R D₀ s Q E r B S P
  obtain ⟨m, mu, D, S⟩ := S
  refine Assign_Tuple_swapped (Ev.tuple h hsz A h₀ _ m mu D s _ E r B S.st S.hs fun v tl h' tk S' i => ?_) hs hw
  cases i with
  | tuple hm hd =>
    rename_i T vs nn
    have ht := isTup_of S' hm
    have e : xs.length = vs.toArray.size := by rw [hl, List.size_toArray, hd.length]
    rw [e]
    refine unpackItems_tuple r.hh ht fun h'' hb => ?_
    have S'' : St h₀ env.locals m mu (tl ++ D) h'' := S'.up fun b o e => hb b o (Nat.ne_of_lt (Heap.lt_size e)) e
    have hlv : xs.length = vs.length := by rw [hl, hd.length]
    refine (S.grow S'').stores (xs := xs) (xs' := xs.reverse) (vs := vs) he (acts_bd env xs.reverse) (fun p hp => ?_) (fun y hy => List.mem_reverse.mp hy) (by rw [List.length_reverse, List.length_reverse]; exact hlv) hl hk ((List.reverse_perm xs).nodup_iff.mpr hn) hd hx fun h₃ tk₃ m₃ mu₃ S₃ => P h₃ tk₃ ⟨m₃, mu₃, _, S₃⟩
    rw [zip_rev hlv]
    exact List.mem_reverse.mpr hp

/-! a list that is made to be turned -/
inductive WAll (D : List (Addr × Obj)) (a : Addr) : List Value → List (Option Dat) → Prop
  | nil : WAll D a [] []
  | dat {v : Value} {d : Dat} {vs : List Value} {ws : List (Option Dat)} : DatIn D v d → WAll D a vs ws → WAll D a (v :: vs) (some d :: ws)
  | own {vs : List Value} {ws : List (Option Dat)} : WAll D a vs ws → WAll D a (.ref a :: vs) (none :: ws)
theorem WAll.mono {D D' : List (Addr × Obj)} {a : Addr} (s : ∀ p ∈ D, p ∈ D') {vs : List Value} {ws : List (Option Dat)} (h : WAll D a vs ws) : WAll D' a vs ws := by
  induction h with
  | nil => exact .nil
  | dat i _ ih => exact .dat (i.mono s) ih
  | own _ ih => exact .own ih
theorem WAll.length {D : List (Addr × Obj)} {a : Addr} {vs : List Value} {ws : List (Option Dat)} (h : WAll D a vs ws) : vs.length = ws.length := by
  induction h with
  | nil => rfl
  | dat _ _ ih => rw [List.length_cons, List.length_cons, ih]
  | own _ ih => rw [List.length_cons, List.length_cons, ih]
theorem WAll.of {D : List (Addr × Obj)} {a : Addr} {vs : List Value} {ds : List Dat} (h : DatAll D vs ds) : WAll D a vs (ds.map some) := by
  induction vs generalizing ds with
  | nil => cases h; exact .nil
  | cons v vs ih => cases h with | cons i r => exact .dat i (ih r)

def EvW (c : Cfg) (k : Nat) (env : Env) (Γ : List (Str × Dat)) (es : List Expr) (ws : List (Option Dat)) : Prop :=
  ∀ (A : Around) (h₀ : Heap) (L : Addr) (m : Str → Option Value) (mu D : List (Addr × Obj)) (s : Shared) (Q : List Value → Shared → Prop) (E : Value → Shared → Prop) (pos : Pos),
    Rm A k → Sub c.H h₀ → St h₀ L m mu D s.heap → Has env L m mu D Γ →
    (∀ vs a tl h' tk, St h₀ L m ((a, PySem.W.listOf ([] : List Value).toArray 0) :: mu) (tl ++ D) h' → WAll (tl ++ D) a vs ws → Q vs { s with heap := h', toks := tk }) →
    wpAny (model c.prog c.w) A (spliced (backTo pos (starEach es env))) Q E s

theorem Has.addM {L : Addr} {m : Str → Option Value} {mu D : List (Addr × Obj)} {p : Addr × Obj} (G : Has env L m mu D Γ) : Has env L m (p :: mu) D Γ := fun x d e => by
  obtain ⟨v, r, i⟩ := G x d e
  refine ⟨v, ?_, i⟩
  cases r with
  | loc a b c => exact .loc a b c
  | own a b c d => exact .own (List.mem_cons_of_mem _ a) b c d
  | cell a b c d => exact .cell a b (List.mem_cons_of_mem _ c) d

theorem EvW.own {es : List Expr} {p : Pos} {ds : List Dat} (h : EvL c k env Γ es ds) (he : starEach (.List [] p :: es) env = (false, eval (.List [] p) env) :: starEach es env := by rfl) : EvW c k env Γ (.List [] p :: es) (none :: ds.map some) := by
  intro A h₀ L m mu D s Q E pos R B S G hq
  refine args_cons (List_ (args_nil (newList_N S.fr S.nw fun h' F N => ?_))) he
  have hn : s.heap.objs.size = s.heap.objs.size := rfl
  have S1 : St h₀ L m ([(s.heap.objs.size, PySem.W.listOf ([] : List Value).toArray 0)] ++ mu) D h' := by
    have z := S.add1 F N (fun p hp => (List.mem_append.mp hp).elim (S.ltM p) (S.ltD p))
    refine ⟨z.fr, fun q hq => z.nw q ?_, fun q hq r hr => ?_, ?_⟩
    · rcases List.mem_append.mp hq with hq | hq
      · rcases List.mem_cons.mp hq with rfl | hq
        · exact List.mem_append.mpr (.inr List.mem_cons_self)
        · exact List.mem_append.mpr (.inl hq)
      · exact List.mem_append.mpr (.inr (List.mem_cons_of_mem _ hq))
    · rcases List.mem_cons.mp hq with rfl | hq
      · exact Nat.ne_of_gt (S.ltD r hr)
      · exact S.off q hq r hr
    · show (_ :: mu.map (·.1)).Nodup
      rw [List.nodup_cons]
      refine ⟨fun hm => ?_, S.nd⟩
      obtain ⟨q, hq, e⟩ := List.mem_map.mp hm
      exact absurd (S.ltM q hq) (by rw [e]; exact Nat.lt_irrefl _)
  refine h A h₀ L m _ D _ _ E pos R B S1 G.addM fun vs tl h'' tk' S'' i => ?_
  exact hq _ s.heap.objs.size tl h'' tk' S'' (.own (.of i))
theorem EvW.cons {e : Expr} {es : List Expr} {d : Dat} {ws : List (Option Dat)} (h : Ev c k env Γ e d) (h2 : EvW c k env Γ es ws) (he : starEach (e :: es) env = (false, eval e env) :: starEach es env := by rfl)  : EvW c k env Γ (e :: es) (some d :: ws) := by
  intro A h₀ L m mu D s Q E pos R B S G hq
  refine args_cons (h A h₀ L m mu D s _ E R B S G fun v tl h' tk S' i => ?_) he
  refine h2 A h₀ L m mu _ _ _ E pos R B S' G.up fun vs a tl' h'' tk' S'' i' => ?_
  rw [← List.append_assoc] at S'' i'
  refine hq (v :: vs) a (tl' ++ tl) h'' tk' S'' (.dat ?_ i')
  rw [List.append_assoc]; exact i.mono subL
end
end Mine

namespace Mine

def dats : List Str → List (Option Dat) → List (Str × Dat)
  | x :: xs, some d :: ws => (x, d) :: dats xs ws
  | _ :: xs, none :: ws => dats xs ws
  | _, _ => []
theorem dats_in {D : List (Addr × Obj)} {a : Addr} {y : Str} {d : Dat} : ∀ {xs : List Str} {vs : List Value} {ws : List (Option Dat)}, WAll D a vs ws → (y, d) ∈ dats xs ws → ∃ v, (y, v) ∈ xs.zip vs ∧ DatIn D v d
  | [], _, _, _, h => by simp [dats] at h
  | x :: xs, _, _, .nil, h => by simp [dats] at h
  | x :: xs, _, _, .dat i r, h => by
    simp only [dats] at h
    rcases List.mem_cons.mp h with e | h
    · cases e; exact ⟨_, List.mem_cons_self, i⟩
    · obtain ⟨v, hv, j⟩ := dats_in r h; exact ⟨v, List.mem_cons_of_mem _ hv, j⟩
  | x :: xs, _, _, .own r, h => by
    simp only [dats] at h
    obtain ⟨v, hv, j⟩ := dats_in r h; exact ⟨v, List.mem_cons_of_mem _ hv, j⟩
theorem own_in {D : List (Addr × Obj)} {a : Addr} {y : Str} : ∀ {xs : List Str} {vs : List Value} {ws : List (Option Dat)}, WAll D a vs ws → (y, none) ∈ xs.zip ws → (y, Value.ref a) ∈ xs.zip vs
  | [], _, _, _, h => by simp at h
  | x :: xs, _, _, .nil, h => by simp at h
  | x :: xs, _, _, .dat i r, h => by
    rw [List.zip_cons_cons] at h ⊢
    rcases List.mem_cons.mp h with e | h
    · cases e
    · exact List.mem_cons_of_mem _ (own_in r h)
  | x :: xs, _, _, .own r, h => by
    rw [List.zip_cons_cons] at h ⊢
    rcases List.mem_cons.mp h with e | h
    · cases e; exact List.mem_cons_self
    · exact List.mem_cons_of_mem _ (own_in r h)
theorem lookup_mem {β : Type} {a : List (Str × β)} {y : Str} {d : β} (h : a.lookup y = some d) : (y, d) ∈ a := mem_of_lookup h

section
variable {c : Cfg} {k : Nat} {env : Env} {Γ Γ' : List (Str × Dat)} {o o' : Option (Str × List Dat)} {out : Out}

theorem SatM.addM {h₀ h' : Heap} {R D₀ : List (Addr × Obj)} {m : Str → Option Value} {mu D tl : List (Addr × Obj)} {h : Heap} {p : Addr × Obj} (S : SatM env h₀ R D₀ Γ o m mu D h) (S' : St h₀ env.locals m (p :: mu) (tl ++ D) h') : SatM env h₀ R D₀ Γ o m (p :: mu) (tl ++ D) h' :=
  ⟨S', S.hs.up.addM, ⟨fun x c e => let ⟨o, v, h1, h2⟩ := S.ce.is x c e; ⟨o, v, List.mem_cons_of_mem _ h1, h2⟩, S.ce.one⟩, fun q hq => ⟨List.mem_cons_of_mem _ (S.rs q hq).1, (S.rs q hq).2⟩, fun q hq => List.mem_append.mpr (.inr (S.d0 q hq)), fun x ds e =>
    let ⟨a, vs, n, h1, h2, h3, h4, h5⟩ := S.ow x ds e
    ⟨a, vs, n, List.mem_cons_of_mem _ h1, (by cases h2 with
      | loc a b c => exact .loc a b c
      | own a b c d => exact .own (List.mem_cons_of_mem _ a) b c d
      | cell a b c d => exact .cell a b (List.mem_cons_of_mem _ c) d), h3.mono subL, h4, h5⟩⟩

/-- names stored with data, one with the list that is to be turned -/
theorem SatM.storesW {M : Model} {A : Around} {E : Value → Shared → Prop} {s : Shared} {Q : Unit → Shared → Prop} {h₀ : Heap} {R D₀ : List (Addr × Obj)} {m : Str → Option Value} {mu D : List (Addr × Obj)} {xs xs' : List Str} {ts : List (Value → Sem Unit)} {vs vs' : List Value} {ws : List (Option Dat)} {a : Addr} {x : Str}
    (he : EnvOk env) (S : SatM env h₀ R D₀ Γ none m ((a, PySem.W.listOf ([] : List Value).toArray 0) :: mu) D s.heap) (hR : ∀ p ∈ R, p ∈ mu) (hC : ∀ y c, env.cells.lookup y = some c → ∃ o, (c, o) ∈ mu) (ac : Acts env xs' ts) (hz : ∀ p, p ∈ xs.zip vs → p ∈ xs'.zip vs') (hx' : ∀ y, y ∈ xs' ↔ y ∈ xs) (hl' : xs'.length = vs'.length) (hk : ∀ x ∈ xs, Okind env x) (hn : xs'.Nodup)
    (i : WAll D a vs ws) (hx : (x, none) ∈ xs.zip ws) (hg : ∀ y ∈ xs, (dats xs ws).lookup y = none → Γ.lookup y = none)
    (h : ∀ h' tk m' mu', SatM env h₀ R D₀ (dats xs ws ++ Γ) (some (x, [])) m' mu' D h' → Q () { s with heap := h', toks := tk }) : wpAny M A (assignInOrder ts vs') Q E s := by
  have nd := S.st.nd
  rw [List.map_cons, List.nodup_cons] at nd
  have na : ∀ p ∈ mu, p.1 ≠ a := fun p hp e => nd.1 (List.mem_map.mpr ⟨p, hp, e⟩)
  have nc : ∀ y c, env.cells.lookup y = some c → a ≠ c := fun y c hy e => by
    obtain ⟨o, ho⟩ := hC y c hy
    exact na _ ho e.symm
  refine Mine.stores_core he xs' ac hl' (fun x hx => hk x ((hx' x).mp hx)) hn S.st S.ce fun h' tk m' mu' S' C' rx ry rm => ?_
  refine h h' tk m' mu' ⟨S', fun y d e => ?_, C', fun p hp => ⟨rm p (S.rs p hp).1 (S.rs p hp).2, (S.rs p hp).2⟩, S.d0, fun y ds' e => ?_⟩
  · rcases lookup_app e with e | ⟨e, e2⟩
    · obtain ⟨v, hv, j⟩ := dats_in i (lookup_mem e)
      exact ⟨v, rx _ (hz _ hv), j⟩
    · obtain ⟨w, hw, j⟩ := S.hs y d e2
      have hny : y ∉ xs := fun q => by
        have := hg y q e
        rw [e2] at this; cases this
      exact ⟨w, ry y w (fun q => hny ((hx' y).mp q)) hw, j⟩
  · cases e
    exact ⟨a, [], 0, rm _ List.mem_cons_self nc, rx _ (hz _ (own_in i hx)), .nil, fun p hp => na p (hR p hp), nc⟩

theorem tupW {es : List Expr} {n' : Nat} {p2 : Pos} {ws : List (Option Dat)} (h : EvW c k env Γ es ws) (hsz : ws.length ≤ 16777216) {A : Around} {h₀ : Heap} {L : Addr} {m : Str → Option Value} {mu D : List (Addr × Obj)} {s : Shared} {Q : Value → Shared → Prop} {E : Value → Shared → Prop} (R : Rm A k) (B : Sub c.H h₀) (S : St h₀ L m mu D s.heap) (G : Has env L m mu D Γ)
    (hq : ∀ T vs a tl h' tk, St h₀ L m ((a, PySem.W.listOf ([] : List Value).toArray 0) :: mu) (tl ++ D) h' → IsTup h' T vs.toArray → WAll (tl ++ D) a vs ws → Q (.ref T) { s with heap := h', toks := tk }) :
    wpAny (model c.prog c.w) A (eval (.Tuple es n' p2) env) Q E s := by
  refine Tuple_ (h A h₀ L m mu D s _ E p2 R B S G fun vs a tl h' tk S' i => ?_)
  refine newTuple_N (hsz := by rw [i.length, sizeLine_eq]; exact hsz) S'.fr S'.nw fun h'' F N => ?_
  have S'' := S'.ofFN F (fun p hp => N p (List.mem_cons_of_mem _ hp))
  exact hq _ vs a tl h'' tk S'' ⟨_, (N _ List.mem_cons_self).1, rfl, 0, rfl⟩ i

theorem Ex1.tupO {elts es : List Expr} {n n' : Nat} {p1 p2 pos : Pos} {xs : List Str} {ws : List (Option Dat)} {x : Str} (he : EnvOk env) (h : EvW c k env Γ es ws) (hx : (x, none) ∈ xs.zip ws) (hl : xs.length = ws.length) (hsz : ws.length ≤ 16777216) (hk : ∀ x ∈ xs, Okind env x) (hn : xs.Nodup) (hg : ∀ y ∈ xs, (dats xs ws).lookup y = none → Γ.lookup y = none)
    (ac : Acts env xs ((assignEach elts env).map (·.2))) (hel : (assignEach elts env).length = xs.length) (hstar : (assignEach elts env).findIdx? (·.1) = none)
    (hs : swapsWithSole [.Tuple elts n p1] (.Tuple es n' p2) pos.line env = pure false := by rfl) (hw : swappedStores [.Tuple elts n p1] (.Tuple es n' p2) env = pure none := by rfl) :
    Ex1 c k env Γ o (.Assign [.Tuple elts n p1] (.Tuple es n' p2) pos) (.next (dats xs ws ++ Γ) (some (x, []))) := by
  intro A h₀ R D₀ s Q E r B S P
  obtain ⟨m, mu, D, S⟩ := S.forget
  refine Assign_Tuple (tupW h hsz r B S.st S.hs fun T vs a tl h' tk S' ht i => ?_) hs hw
  refine assign_Tuple_tuple r.hh ht (by rw [hel, hl, List.size_toArray, i.length]) hstar fun h'' hb => ?_
  have S'' := S'.up (h' := h'') fun b o e => hb b o (Nat.ne_of_lt (Heap.lt_size e)) e
  exact (S.addM S'').storesW he (fun p hp => (S.rs p hp).1) (fun y c hy => let ⟨ob, _, h1, _⟩ := S.ce.is y c hy; ⟨ob, h1⟩) ac (fun p hp => hp) (fun _ => Iff.rfl) (by rw [hl]; exact i.length.symm) hk hn i hx hg fun h₃ tk₃ m₃ mu₃ S₃ => P h₃ tk₃ ⟨m₃, mu₃, _, S₃⟩
theorem Ex1.tupSO {elts es : List Expr} {n n' : Nat} {p1 p2 pos : Pos} {xs : List Str} {ws : List (Option Dat)} {x : Str} (he : EnvOk env) (h : EvW c k env Γ es ws) (hx : (x, none) ∈ xs.zip ws) (hl : xs.length = ws.length) (hsz : ws.length ≤ 16777216) (hk : ∀ x ∈ xs, Okind env x) (hn : xs.Nodup) (hg : ∀ y ∈ xs, (dats xs ws).lookup y = none → Γ.lookup y = none)
    (hs : swapsWithSole [.Tuple elts n p1] (.Tuple es n' p2) pos.line env = pure false := by rfl) (hw : swappedStores [.Tuple elts n p1] (.Tuple es n' p2) env = pure (some xs) := by rfl) :
    Ex1 c k env Γ o (.Assign [.Tuple elts n p1] (.Tuple es n' p2) pos) (.next (dats xs ws ++ Γ) (some (x, []))) := by
  intro A h₀ R D₀ s Q E r B S P
  obtain ⟨m, mu, D, S⟩ := S.forget
  refine Assign_Tuple_swapped (tupW h hsz r B S.st S.hs fun T vs a tl h' tk S' ht i => ?_) hs hw
  have e : xs.length = vs.toArray.size := by rw [hl, List.size_toArray, i.length]
  rw [e]
  refine unpackItems_tuple r.hh ht fun h'' hb => ?_
  have S'' := S'.up (h' := h'') fun b o e => hb b o (Nat.ne_of_lt (Heap.lt_size e)) e
  have hlv : xs.length = vs.length := by rw [hl, i.length]
  exact (S.addM S'').storesW (xs := xs) (xs' := xs.reverse) (vs := vs) he (fun p hp => (S.rs p hp).1) (fun y c hy => let ⟨ob, _, h1, _⟩ := S.ce.is y c hy; ⟨ob, h1⟩) (acts_bd env xs.reverse) (fun p hp => by rw [zip_rev hlv]; exact List.mem_reverse.mpr hp) (fun _ => List.mem_reverse)
    (by rw [List.length_reverse, List.length_reverse]; exact hlv) hk ((List.reverse_perm xs).nodup_iff.mpr hn) i hx hg fun h₃ tk₃ m₃ mu₃ S₃ => P h₃ tk₃ ⟨m₃, mu₃, _, S₃⟩

/-- append to the list that is to be turned -/
theorem Ex1.append {x : Str} {p apos pos pos2 : Pos} {e : Expr} {d : Dat} {ds : List Dat} (he : EnvOk env) (h : Ev c k env Γ e d) (hn : ds.length ≤ 16777216) (hd : (x == ("__debug__" : Str)) = false := by decide)
    (hm : ∃ pl : Sem Bool, eval (.Call (.Attribute (.Name x p) "append" apos) [e] [] pos) env = (do
      let ov ← eval (.Name x p) env
      standAt apos.atName
      let (f, first) ← holding [ov] (getMethod ov "append" pl)
      callWith pos f first (backTo pos (starEach [e] env)) []) := by exact ⟨_, rfl⟩)
    (hi : interactive env = false := by rfl) (hs : swapsWith (.Call (.Attribute (.Name x p) "append" apos) [e] [] pos) none pos2.line env = pure false := by rfl)
    (hst : starEach (e :: []) env = (false, eval e env) :: starEach [] env := by rfl) :
    Ex1 c k env Γ (some (x, ds)) (.Expr (.Call (.Attribute (.Name x p) "append" apos) [e] [] pos) pos2) (.next Γ (some (x, ds ++ [d]))) := by
  intro A h₀ R D₀ s Q E r B S P
  obtain ⟨m, mu, D, S⟩ := S
  obtain ⟨a, vs, n, h1, h2, h3, h4, h5⟩ := S.ow x ds rfl
  obtain ⟨pl, hpl⟩ := hm
  refine wpAny_Expr (MethodCall_ (pl := pl) (name_rd he.k S.st h2 hd ?_) hpl) hi hs
  refine Calls.getMethod_list_append (S.st.getM h1) rfl rfl ?_
  refine callWith_method1 (args_cons (h A h₀ _ m mu D s _ E r B S.st S.hs fun v tl h' tk S' i => args_nil ?_) hst) hst
  refine append_at (hsz := by rw [List.size_toArray, h3.length, sizeLine_eq]; exact hn) (S'.getM h1) fun h'' hsb ho => ?_
  have S2 := S.grow S'
  have S3 := S'.turnAt h1 hsb ho
  have rdk : ∀ y w, Rd env env.locals m mu y w → Rd env env.locals m (setA mu a ({ cls := .type "list", data := .seq (vs.toArray.push v) (n + 1) } : Obj)) y w := fun y w R => by
    cases R with
    | loc e1 e2 e3 => exact .loc e1 e2 e3
    | own hm' hn e2 e3 => exact absurd rfl (S.st.nw _ (List.mem_append.mpr (.inl hm'))).2.1
    | cell hc e2 hm' hd' => exact .cell hc e2 (setA_old hm' fun e => h5 _ _ hc e.symm) hd'
  refine P h'' tk ⟨m, _, _, S3, fun y d' e => ?_, ⟨fun y c' hy => ?_, S.ce.one⟩, fun q hq => ⟨setA_old (S.rs q hq).1 (h4 q hq), (S.rs q hq).2⟩, S2.d0, fun y ds' e => ?_⟩
  · obtain ⟨w, hw, j⟩ := S2.hs y d' e
    exact ⟨w, rdk y w hw, j⟩
  · obtain ⟨ob, w, q1, q2⟩ := S.ce.is y c' hy
    exact ⟨ob, w, setA_old q1 fun e => h5 _ _ hy e.symm, q2⟩
  · cases e
    exact ⟨a, vs ++ [v], n + 1, by simpa [PySem.W.listOf] using setA_new (o' := { cls := .type "list", data := .seq (vs.toArray.push v) (n + 1) }) h1, rdk _ _ h2, (h3.mono subL).append (.one i), h4, h5⟩

theorem Ev.count {x : Str} {p apos pos : Pos} {e : Expr} {n : Int} {ns : List Int} (h0 : Ev c k env Γ (.Name x p) (.list (ns.map Dat.int))) (h : Ev c k env Γ e (.int n))
    (hm : ∃ pl : Sem Bool, eval (.Call (.Attribute (.Name x p) "count" apos) [e] [] pos) env = (do
      let ov ← eval (.Name x p) env
      standAt apos.atName
      let (f, first) ← holding [ov] (getMethod ov "count" pl)
      callWith pos f first (backTo pos (starEach [e] env)) []) := by exact ⟨_, rfl⟩)
    (hst : starEach (e :: []) env = (false, eval e env) :: starEach [] env := by rfl) :
    Ev c k env Γ (.Call (.Attribute (.Name x p) "count" apos) [e] [] pos) (.int (ns.count n)) := by
  intro A h₀ L m mu D s Q E R B S G hq
  obtain ⟨pl, hpl⟩ := hm
  refine MethodCall_ (pl := pl) (h0 A h₀ L m mu D s _ E R B S G fun v tl h' tk S' i => ?_) hpl
  cases i with
  | list hm hd =>
    refine getMethod_list_of PySem.F.slot_list_count PySem.F.type_list_count (isList_of S' hm) ⟨_, S'.get hm, rfl⟩ ?_
    refine callWith_method1 (args_cons (h A h₀ L m mu _ _ _ E R B S' G.up fun v tl' h'' tk' S'' i' => args_nil ?_) hst) hst
    cases i'
    refine PyProof.Rows.count_list_ints (isList_of S'' (List.mem_append.mpr (.inr hm))) (ints_of hd) ?_
    rw [← List.append_assoc] at S''
    exact hq _ _ h'' _ S'' (.int _ _)
end
end Mine

namespace Mine

def bindT : Expr → Dat → List (Str × Dat)
  | .Name x _, d => [(x, d)]
  | .Tuple [.Name x _, .Name y _] _ _, .tuple [d, e] => [(x, d), (y, e)]
  | _, _ => []

/-- how a value goes to a target -/
inductive Unp (h : Heap) (D : List (Addr × Obj)) : Expr → Value → List (Str × Dat) → Prop
  | nm {x : Str} {p : Pos} {v : Value} {d : Dat} : DatIn D v d → Unp h D (.Name x p) v [(x, d)]
  | two {x y : Str} {p q r : Pos} {n : Nat} {T : Addr} {v w : Value} {d e : Dat} : IsTup h T #[v, w] → DatIn D v d → DatIn D w e → Unp h D (.Tuple [.Name x p, .Name y q] n r) (.ref T) [(x, d), (y, e)]

structure It (c : Cfg) (A : Around) (target : Expr) (I : Addr) (ads : List Addr) (n : Nat) (bd : Nat → List (Str × Dat)) (At : Nat → List (Addr × Obj) → List (Addr × Obj) → Prop) : Prop where
  mono : ∀ i its D D', At i its D → (∀ p ∈ D, p ∈ D') → At i its D'
  keys : ∀ i its D, At i its D → its.map (·.1) = ads
  step : ∀ i, i < n → ∀ (h₀ : Heap) (L : Addr) (m : Str → Option Value) (mu D its : List (Addr × Obj)) (s : Shared) (Q : Value → Shared → Prop) (E : Value → Shared → Prop), At i its D → St h₀ L m (its ++ mu) D s.heap →
    (∀ v its' h' tk, St h₀ L m (its' ++ mu) D h' → At (i + 1) its' D → Unp h' D target v (bd i) → Q v { s with heap := h', toks := tk }) →
    wpAny (model c.prog c.w) A (pyNext (.ref I)) (fun r s₁ => ∃ v, r = some v ∧ wpAny (model c.prog c.w) A (letOwnedTupleGo target (.ref I) v) (fun _ s₂ => Q v s₂) E s₁) E s
  done : ∀ (h₀ : Heap) (L : Addr) (m : Str → Option Value) (mu D its : List (Addr × Obj)) (s : Shared) (Q : Option Value → Shared → Prop) (E : Value → Shared → Prop), At n its D → St h₀ L m (its ++ mu) D s.heap →
    (∀ h' tk, St h₀ L m mu D h' → Q none { s with heap := h', toks := tk }) → wpAny (model c.prog c.w) A (pyNext (.ref I)) Q E s
  self : ∀ i (h₀ : Heap) (L : Addr) (m : Str → Option Value) (mu D its : List (Addr × Obj)) (s : Shared) (Q : Value → Shared → Prop) (E : Value → Shared → Prop), At i its D → St h₀ L m (its ++ mu) D s.heap → Q (.ref I) s → wpAny (model c.prog c.w) A (pyIter (.ref I)) Q E s

def ItE (c : Cfg) (k : Nat) (env : Env) (Γ : List (Str × Dat)) (iter target : Expr) (n : Nat) (bd : Nat → List (Str × Dat)) : Prop :=
  ∀ (A : Around) (h₀ : Heap) (L : Addr) (m : Str → Option Value) (mu D : List (Addr × Obj)) (s : Shared) (Q : Value → Shared → Prop) (E : Value → Shared → Prop),
    Rm A k → Sub c.H h₀ → St h₀ L m mu D s.heap → Has env L m mu D Γ →
    (∀ I ads At its tl h' tk, It c A target I ads n bd At → At 0 its (tl ++ D) → St h₀ L m (its ++ mu) (tl ++ D) h' → Q (.ref I) { s with heap := h', toks := tk }) →
    wpAny (model c.prog c.w) A (eval iter env) (fun x s₁ => wpAny (model c.prog c.w) A (pyIter x) Q E s₁) E s

def AtOf (Sx : Nat → Heap → Prop) (wr : List Addr) (i : Nat) (its D : List (Addr × Obj)) : Prop := its.map (·.1) = wr ∧ ∀ h : Heap, (∀ p ∈ its ++ D, h.get? p.1 = some p.2) → Sx i h
theorem AtOf.mono {Sx : Nat → Heap → Prop} {wr : List Addr} {i : Nat} {its D D' : List (Addr × Obj)} (x : AtOf Sx wr i its D) (s : ∀ p ∈ D, p ∈ D') : AtOf Sx wr i its D' :=
  ⟨x.1, fun h e => x.2 h fun p hp => e p ((List.mem_append.mp hp).elim (fun q => List.mem_append.mpr (.inl q)) fun q => List.mem_append.mpr (.inr (s p q)))⟩
theorem St.all {h₀ h : Heap} {L : Addr} {m : Str → Option Value} {its mu D : List (Addr × Obj)} (S : St h₀ L m (its ++ mu) D h) : ∀ p ∈ its ++ D, h.get? p.1 = some p.2 := fun p hp => by
  rcases List.mem_append.mp hp with hp | hp
  · exact S.getM (a := p.1) (o := p.2) (List.mem_append.mpr (.inl hp))
  · exact S.get (a := p.1) (o := p.2) hp

theorem objs_at {h : Heap} : ∀ (wr : List Addr), (∀ b ∈ wr, ∃ o, h.get? b = some o) → ∃ its : List (Addr × Obj), its.map (·.1) = wr ∧ ∀ p ∈ its, h.get? p.1 = some p.2
  | [], _ => ⟨[], rfl, fun p hp => by cases hp⟩
  | a :: r, e => by
    obtain ⟨o, ho⟩ := e a List.mem_cons_self
    obtain ⟨its, h1, h2⟩ := objs_at r fun b hb => e b (List.mem_cons_of_mem _ hb)
    exact ⟨(a, o) :: its, by rw [List.map_cons, h1], fun p hp => by
      rcases List.mem_cons.mp hp with rfl | hp
      · exact ho
      · exact h2 p hp⟩

theorem keys_mem {l l' : List (Addr × Obj)} (e : l'.map (·.1) = l.map (·.1)) {p : Addr × Obj} (hp : p ∈ l') : ∃ q ∈ l, q.1 = p.1 := by
  have : p.1 ∈ l.map (·.1) := e ▸ List.mem_map_of_mem hp
  obtain ⟨q, hq, h⟩ := List.mem_map.mp this
  exact ⟨q, hq, h⟩

theorem St.but {h₀ h h' : Heap} {L : Addr} {m : Str → Option Value} {its its' mu D : List (Addr × Obj)} (S : St h₀ L m (its ++ mu) D h) (k : ∀ b o, b ∉ its.map (·.1) → h.get? b = some o → h'.get? b = some o)
    (e : its'.map (·.1) = its.map (·.1)) (ho : ∀ p ∈ its', h'.get? p.1 = some p.2) : St h₀ L m (its' ++ mu) D h' := by
  have nd := S.nd
  rw [List.map_append] at nd
  have nd' := List.nodup_append.mp nd
  have z : ∀ p ∈ its', p.1 ≠ L ∧ h₀.get? p.1 = none := fun p hp => by
    obtain ⟨q, hq, hqp⟩ := keys_mem e hp
    have := S.nw q (List.mem_append.mpr (.inl (List.mem_append.mpr (.inl hq))))
    rw [hqp] at this
    exact this.2
  refine ⟨⟨S.fr.ns.at' fun o eo => k L o (fun hm => ?_) eo, fun b o eo => k b o (fun hm => ?_) (S.fr.keep b o eo), S.fr.above⟩, fun p hp => ?_, fun p hp q hq => ?_, by rw [List.map_append, e]; exact nd⟩
  · obtain ⟨q, hq, hqL⟩ := List.mem_map.mp hm
    exact (S.nw q (List.mem_append.mpr (.inl (List.mem_append.mpr (.inl hq))))).2.1 hqL
  · obtain ⟨q, hq, hqb⟩ := List.mem_map.mp hm
    have := (S.nw q (List.mem_append.mpr (.inl (List.mem_append.mpr (.inl hq))))).2.2
    rw [hqb] at this; rw [this] at eo; cases eo
  · rcases List.mem_append.mp hp with hp | hp
    · rcases List.mem_append.mp hp with hp | hp
      · exact ⟨ho p hp, z p hp⟩
      · have w := S.nw p (List.mem_append.mpr (.inl (List.mem_append.mpr (.inr hp))))
        refine ⟨k _ _ (fun hm => ?_) w.1, w.2⟩
        exact nd'.2.2 _ hm _ (List.mem_map_of_mem hp) rfl
    · have w := S.nw p (List.mem_append.mpr (.inr hp))
      refine ⟨k _ _ (fun hm => ?_) w.1, w.2⟩
      obtain ⟨q, hq, hqp⟩ := List.mem_map.mp hm
      exact S.off q (List.mem_append.mpr (.inl hq)) p hp hqp
  · rcases List.mem_append.mp hp with hp | hp
    · obtain ⟨r, hr, hrp⟩ := keys_mem e hp
      rw [← hrp]
      exact S.off r (List.mem_append.mpr (.inl hr)) q hq
    · exact S.off p (List.mem_append.mpr (.inr hp)) q hq
theorem St.dropL {h₀ h : Heap} {L : Addr} {m : Str → Option Value} {its mu D : List (Addr × Obj)} (S : St h₀ L m (its ++ mu) D h) : St h₀ L m mu D h :=
  ⟨S.fr, fun p hp => S.nw p ((List.mem_append.mp hp).elim (fun q => List.mem_append.mpr (.inl (List.mem_append.mpr (.inr q)))) fun q => List.mem_append.mpr (.inr q)), fun p hp => S.off p (List.mem_append.mpr (.inr hp)), by
    have nd := S.nd
    rw [List.map_append] at nd
    exact (List.nodup_append.mp nd).2.1⟩

/-- the frame of an iterator's state: what it hangs on stands in the ledger -/
theorem at_of {fp wr : List Addr} {Sx : Nat → Heap → Prop} (frame : ∀ i (h h' : Heap), Sx i h → (∀ b ∈ fp, ∀ o, h.get? b = some o → h'.get? b = some o) → Sx i h') {i : Nat} {h : Heap} {its D : List (Addr × Obj)} (hs : Sx i h) (e : its.map (·.1) = wr)
    (ho : ∀ p ∈ its, h.get? p.1 = some p.2) (hD : ∀ p ∈ D, h.get? p.1 = some p.2) (hf : ∀ b ∈ fp, b ∈ wr ∨ b ∈ D.map (·.1)) : AtOf Sx wr i its D := by
  refine ⟨e, fun h' e' => frame i h h' hs fun b hb o eo => ?_⟩
  rcases hf b hb with hb | hb
  · rw [← e] at hb
    obtain ⟨p, hp, rfl⟩ := List.mem_map.mp hb
    rw [ho p hp] at eo; cases eo
    exact e' p (List.mem_append.mpr (.inl hp))
  · obtain ⟨p, hp, rfl⟩ := List.mem_map.mp hb
    rw [hD p hp] at eo; cases eo
    exact e' p (List.mem_append.mpr (.inr hp))

section
variable {c : Cfg} {A : Around}

theorem It.walks {target : Expr} {I : Addr} {fp wr : List Addr} {n : Nat} {P : Nat → Value → Prop} {Sx : Nat → Heap → Prop} {bd : Nat → List (Str × Dat)} (Dp : List (Addr × Obj) → Prop) (W : Walks c.prog c.w A I fp wr n P Sx)
    (hIo : ∀ i h, Sx i h → ∀ b ∈ wr, ∃ o, h.get? b = some o) (hDp : ∀ D D', Dp D → (∀ p ∈ D, p ∈ D') → Dp D') (hfD : ∀ D, Dp D → ∀ b ∈ fp, b ∈ wr ∨ b ∈ D.map (·.1))
    (item : ∀ i v D (h : Heap), i < n → P i v → Dp D → (∀ p ∈ D, h.get? p.1 = some p.2) → Unp h D target v (bd i))
    (go : ∀ i v D (h : Heap) (s : Shared) (Q : Unit → Shared → Prop) (E : Value → Shared → Prop), Sx i s.heap → Unp h D target v (bd i) ∨ True → (∃ d, Unp s.heap D target v d) → Q () s → wpAny (model c.prog c.w) A (letOwnedTupleGo target (.ref I) v) Q E s) :
    It c A target I wr n bd (fun i its D => AtOf Sx wr i its D ∧ Dp D) where
  mono := fun i its D D' x s => ⟨x.1.mono s, hDp D D' x.2 s⟩
  keys := fun i its D x => x.1.1
  step := fun i hi h₀ L m mu D its s Q E x S hq => by
    have hs := x.1.2 s.heap S.all
    refine W.item i s _ E hi hs fun v h' tk hP hs' hk => ⟨v, rfl, ?_⟩
    obtain ⟨its', e, ho⟩ := objs_at wr (hIo _ _ hs')
    have S' := S.but (its' := its') (by rw [x.1.1]; exact hk) (by rw [e, x.1.1]) ho
    have hD' : ∀ p ∈ D, h'.get? p.1 = some p.2 := fun p hp => S'.get (a := p.1) (o := p.2) hp
    have U := item i v D h' hi hP x.2 hD'
    refine go (i + 1) v D h' { s with heap := h', toks := tk } _ E hs' (.inr trivial) ⟨_, U⟩ ?_
    exact hq v its' h' tk S' ⟨at_of W.frame hs' e ho hD' (hfD D x.2), x.2⟩ U
  done := fun h₀ L m mu D its s Q E x S hq => by
    have hs := x.1.2 s.heap S.all
    refine W.done s Q E hs fun h' tk hk => hq h' tk ?_
    have nd := S.nd
    rw [List.map_append] at nd
    have nd' := List.nodup_append.mp nd
    rw [x.1.1] at nd'
    have notL : L ∉ wr := fun hm => by
      rw [← x.1.1] at hm
      obtain ⟨q, hq, hqL⟩ := List.mem_map.mp hm
      exact (S.nw q (List.mem_append.mpr (.inl (List.mem_append.mpr (.inl hq))))).2.1 hqL
    have not0 : ∀ b o, h₀.get? b = some o → b ∉ wr := fun b o eo hm => by
      rw [← x.1.1] at hm
      obtain ⟨q, hq, hqb⟩ := List.mem_map.mp hm
      have := (S.nw q (List.mem_append.mpr (.inl (List.mem_append.mpr (.inl hq))))).2.2
      rw [hqb] at this; rw [this] at eo; cases eo
    have T := S.dropL
    refine ⟨⟨T.fr.ns.at' fun o eo => hk L o notL eo, fun b o eo => hk b o (not0 b o eo) (T.fr.keep b o eo), T.fr.above⟩, fun p hp => ?_, T.off, T.nd⟩
    have w := T.nw p hp
    refine ⟨hk _ _ (fun hm => ?_) w.1, w.2⟩
    rcases List.mem_append.mp hp with hp | hp
    · exact nd'.2.2 _ hm _ (List.mem_map_of_mem hp) rfl
    · rw [← x.1.1] at hm
      obtain ⟨q, hq, hqp⟩ := List.mem_map.mp hm
      exact S.off q (List.mem_append.mpr (.inl hq)) p hp hqp
  self := fun i h₀ L m mu D its s Q E x S h => W.self i s Q E (x.1.2 s.heap S.all) h
end
end Mine

namespace Mine

def TgOk (target : Expr) (ds : List Dat) : Prop :=
  (∃ x p, target = .Name x p) ∨ ∃ x p y q n r, target = .Tuple [.Name x p, .Name y q] n r ∧ ∀ d ∈ ds, ∃ e f, d = .tuple [e, f]
theorem TgOk.nm {x : Str} {p : Pos} {ds : List Dat} : TgOk (.Name x p) ds := .inl ⟨x, p, rfl⟩
theorem TgOk.two {x y : Str} {p q r : Pos} {n : Nat} {ds : List Dat} (h : ∀ d ∈ ds, ∃ e f, d = .tuple [e, f]) : TgOk (.Tuple [.Name x p, .Name y q] n r) ds := .inr ⟨x, p, y, q, n, r, rfl, h⟩

theorem unp_of {h : Heap} {D : List (Addr × Obj)} {target : Expr} {v : Value} {d : Dat} {ds : List Dat} (t : TgOk target ds) (hd : d ∈ ds) (i : DatIn D v d) (hD : ∀ p ∈ D, h.get? p.1 = some p.2) : Unp h D target v (bindT target d) := by
  rcases t with ⟨x, p, rfl⟩ | ⟨x, p, y, q, n, r, rfl, t⟩
  · exact .nm i
  · obtain ⟨e, f, rfl⟩ := t d hd
    cases i with
    | tuple hm ha =>
      cases ha with
      | cons i1 r1 => cases r1 with
        | cons i2 r2 =>
          cases r2
          exact .two ⟨_, hD _ hm, rfl, _, rfl⟩ i1 i2

section
variable {c : Cfg} {A : Around}
theorem go_nm {x : Str} {p : Pos} {it v : Value} {s : Shared} {Q : Unit → Shared → Prop} {E : Value → Shared → Prop} (h : Q () s) : wpAny (model c.prog c.w) A (letOwnedTupleGo (.Name x p) it v) Q E s := wpAny_pure h

theorem It.list {target : Expr} {I ax : Addr} {vs : List Value} {ds : List Dat} {n : Nat} (hh : A.handled = none) (hne : ax ≠ I) (t : TgOk target ds) :
    It c A target I [I] ds.length (fun i => bindT target (ds.getD i .none)) (fun i its D => AtOf (fun i h => h.IsListIter I ax i ∧ h.IsList ax vs.toArray) [I] i its D ∧ ((ax, PySem.W.listOf vs.toArray n) ∈ D ∧ DatAll D vs ds)) := by
  by_cases hl : vs.length = ds.length
  · have W := Walks.list (prog := c.prog) (w := c.w) hh I ax hne vs.toArray
    rw [List.size_toArray, hl] at W
    refine It.walks (fun D => (ax, PySem.W.listOf vs.toArray n) ∈ D ∧ DatAll D vs ds) W ?_ ?_ ?_ ?_ ?_
    · rintro i h ⟨⟨o, ho, _⟩, _⟩ b hb
      rw [List.mem_singleton.mp hb]; exact ⟨o, ho⟩
    · exact fun D D' x s => ⟨s _ x.1, x.2.mono s⟩
    · intro D x b hb
      rcases List.mem_cons.mp hb with rfl | hb
      · exact .inl List.mem_cons_self
      · rw [List.mem_singleton.mp hb]; exact .inr (List.mem_map_of_mem (f := (·.1)) x.1)
    · intro i v D h hi hP x hD
      obtain ⟨w, hw, j⟩ := x.2.get hi
      have e : vs[i]? = some v := by simpa using hP
      rw [hw] at e; cases e
      rw [List.getD_eq_getElem?_getD, List.getElem?_eq_getElem hi, Option.getD_some]
      exact unp_of t (List.getElem_mem hi) j hD
    · rintro i v D h s Q E ⟨hit, _⟩ _ ⟨d, U⟩ hq
      cases U with
      | nm _ => exact go_nm hq
      | two _ _ _ => exact wpAny_letOwnedTupleGo_listiter hit hq
  · exact ⟨fun i its D D' x s => ⟨x.1.mono s, s _ x.2.1, x.2.2.mono s⟩, fun i its D x => x.1.1, fun i _ _ _ _ _ _ _ _ _ _ x => absurd x.2.2.length hl, fun _ _ _ _ _ _ _ _ _ x => absurd x.2.2.length hl, fun _ _ _ _ _ _ _ _ _ _ x => absurd x.2.2.length hl⟩

theorem It.tuple {x : Str} {p : Pos} {I ax : Addr} {vs : List Value} {ds : List Dat} {n : Nat} (hh : A.handled = none) (hne : ax ≠ I) :
    It c A (.Name x p) I [I] ds.length (fun i => bindT (.Name x p) (ds.getD i .none)) (fun i its D => AtOf (fun i h => h.IsTupleIter I ax i ∧ h.IsTuple ax vs.toArray) [I] i its D ∧ ((ax, ({ cls := .type "tuple", data := .seq vs.toArray n } : Obj)) ∈ D ∧ DatAll D vs ds)) := by
  by_cases hl : vs.length = ds.length
  · have W := Walks.tuple (prog := c.prog) (w := c.w) hh I ax hne vs.toArray
    rw [List.size_toArray, hl] at W
    refine It.walks (fun D => (ax, ({ cls := .type "tuple", data := .seq vs.toArray n } : Obj)) ∈ D ∧ DatAll D vs ds) W ?_ ?_ ?_ ?_ ?_
    · rintro i h ⟨⟨o, ho, _⟩, _⟩ b hb
      rw [List.mem_singleton.mp hb]; exact ⟨o, ho⟩
    · exact fun D D' x s => ⟨s _ x.1, x.2.mono s⟩
    · intro D x b hb
      rcases List.mem_cons.mp hb with rfl | hb
      · exact .inl List.mem_cons_self
      · rw [List.mem_singleton.mp hb]; exact .inr (List.mem_map_of_mem (f := (·.1)) x.1)
    · intro i v D h hi hP x hD
      obtain ⟨w, hw, j⟩ := x.2.get hi
      have e : vs[i]? = some v := by simpa using hP
      rw [hw] at e; cases e
      rw [List.getD_eq_getElem?_getD, List.getElem?_eq_getElem hi, Option.getD_some]
      exact .nm j
    · rintro i v D h s Q E ⟨hit, _⟩ _ ⟨d, U⟩ hq
      cases U with
      | nm _ => exact go_nm hq
  · exact ⟨fun i its D D' x s => ⟨x.1.mono s, s _ x.2.1, x.2.2.mono s⟩, fun i its D x => x.1.1, fun i _ _ _ _ _ _ _ _ _ _ x => absurd x.2.2.length hl, fun _ _ _ _ _ _ _ _ _ x => absurd x.2.2.length hl, fun _ _ _ _ _ _ _ _ _ _ x => absurd x.2.2.length hl⟩

theorem It.range {x : Str} {p : Pos} {I : Addr} {a : Int} {n : Nat} (hh : A.handled = none) :
    It c A (.Name x p) I [I] n (fun i => [(x, .int (a + i))]) (fun i its D => AtOf (fun i h => IsRangeIter h I (a + (i : Nat) * 1) ((n : Int) - (i : Nat)) 1) [I] i its D ∧ True) := by
  refine It.walks (fun _ => True) (LCg.range_walks (prog := c.prog) (w := c.w) hh a n) ?_ ?_ ?_ ?_ ?_
  · intro i h st b hb
    rw [List.mem_singleton.mp hb]; exact ⟨_, st⟩
  · exact fun _ _ _ _ => trivial
  · exact fun _ _ b hb => .inl hb
  · rintro i v D h hi ⟨t, rfl⟩ _ hD
    exact .nm (.int _ _)
  · rintro i v D h s Q E _ _ ⟨d, U⟩ hq
    cases U with
    | nm _ => exact go_nm hq

theorem It.enum {x y : Str} {p q r : Pos} {nn : Nat} {e it ax : Addr} {vs : List Value} {ds : List Dat} {n : Nat} (hh : A.handled = none) (h1 : e ≠ it) (h2 : ax ≠ e) (h3 : ax ≠ it) :
    It c A (.Tuple [.Name x p, .Name y q] nn r) e [e, it] ds.length (fun i => [(x, .int i), (y, ds.getD i .none)])
      (fun i its D => AtOf (fun i h => (∃ old, IsEnum h e it i old) ∧ h.IsListIter it ax i ∧ h.IsList ax vs.toArray) [e, it] i its D ∧ ((ax, PySem.W.listOf vs.toArray n) ∈ D ∧ DatAll D vs ds)) where
  mono := fun i its D D' X s => ⟨X.1.mono s, s _ X.2.1, X.2.2.mono s⟩
  keys := fun i its D X => X.1.1
  step := fun i hi h₀ L m mu D its s Q E X S hq => by
    have hl := X.2.2.length
    have W := WalksT.enumerate (prog := c.prog) (w := c.w) hh e it ax h1 h2 h3 vs.toArray
    rw [List.size_toArray, hl] at W
    have hs := X.1.2 s.heap S.all
    refine W.item i s _ E hi hs fun T vals h' tk hP _ hT hM hk => ⟨.ref T, rfl, ?_⟩
    obtain ⟨t, w, hw, rfl⟩ := hP
    refine W.go [.Name x p, .Name y q] nn r i T { s with heap := h', toks := tk } _ E hM fun h'' hs'' hk'' => ?_
    have hobj : ∀ b ∈ [e, it], ∃ o, h''.get? b = some o := fun b hb => by
      rcases List.mem_cons.mp hb with rfl | hb
      · obtain ⟨⟨old, ho⟩, _⟩ := hs''; exact ⟨_, ho⟩
      · rw [List.mem_singleton.mp hb]; obtain ⟨_, ⟨o, ho, _⟩, _⟩ := hs''; exact ⟨o, ho⟩
    obtain ⟨its', ek, ho⟩ := objs_at [e, it] hobj
    have hkk : ∀ b o, b ∉ [e, it] → s.heap.get? b = some o → h''.get? b = some o := fun b o hb eo => hk'' b o hb (hk b o hb eo)
    have S' := S.but (its' := its') (by rw [X.1.1]; exact hkk) (by rw [ek, X.1.1]) ho
    have hD' : ∀ p ∈ D, h''.get? p.1 = some p.2 := fun p hp => S'.get (a := p.1) (o := p.2) hp
    obtain ⟨u, hu, j⟩ := X.2.2.get hi
    have ev : vs[i]? = some w := by simpa using hw
    rw [hu] at ev
    have euw : u = w := Option.some.inj ev
    subst euw
    have hT' : IsTup h'' T #[.int i t, u] := by
      obtain ⟨oT, e1, e2, nT, e3⟩ := hT
      exact ⟨oT, hk'' T oT (W.apart i T h' hM) e1, e2, nT, e3⟩
    refine hq (.ref T) its' h'' tk S' ⟨at_of W.frame hs'' ek ho hD' (fun b hb => ?_), X.2⟩ ?_
    · rcases List.mem_cons.mp hb with rfl | hb
      · exact .inl List.mem_cons_self
      · rcases List.mem_cons.mp hb with rfl | hb
        · exact .inl (List.mem_cons_of_mem _ List.mem_cons_self)
        · rw [List.mem_singleton.mp hb]; exact .inr (List.mem_map_of_mem (f := (·.1)) X.2.1)
    · rw [List.getD_eq_getElem?_getD, List.getElem?_eq_getElem hi, Option.getD_some]
      exact .two hT' (.int _ _) j
  done := fun h₀ L m mu D its s Q E X S hq => by
    have hl := X.2.2.length
    have W := WalksT.enumerate (prog := c.prog) (w := c.w) hh e it ax h1 h2 h3 vs.toArray
    rw [List.size_toArray, hl] at W
    have hs := X.1.2 s.heap S.all
    refine W.done s Q E hs fun h' tk hk => hq h' tk ?_
    have nd := S.nd
    rw [List.map_append] at nd
    have nd' := List.nodup_append.mp nd
    rw [X.1.1] at nd'
    have notL : L ∉ [e, it] := fun hm => by
      rw [← X.1.1] at hm
      obtain ⟨q, hq, hqL⟩ := List.mem_map.mp hm
      exact (S.nw q (List.mem_append.mpr (.inl (List.mem_append.mpr (.inl hq))))).2.1 hqL
    have not0 : ∀ b o, h₀.get? b = some o → b ∉ [e, it] := fun b o eo hm => by
      rw [← X.1.1] at hm
      obtain ⟨q, hq, hqb⟩ := List.mem_map.mp hm
      have := (S.nw q (List.mem_append.mpr (.inl (List.mem_append.mpr (.inl hq))))).2.2
      rw [hqb] at this; rw [this] at eo; cases eo
    have T := S.dropL
    refine ⟨⟨T.fr.ns.at' fun o eo => hk L o notL eo, fun b o eo => hk b o (not0 b o eo) (T.fr.keep b o eo), T.fr.above⟩, fun p hp => ?_, T.off, T.nd⟩
    have w := T.nw p hp
    refine ⟨hk _ _ (fun hm => ?_) w.1, w.2⟩
    rcases List.mem_append.mp hp with hp | hp
    · exact nd'.2.2 _ hm _ (List.mem_map_of_mem hp) rfl
    · rw [← X.1.1] at hm
      obtain ⟨q, hq, hqp⟩ := List.mem_map.mp hm
      exact S.off q (List.mem_append.mpr (.inl hq)) p hp hqp
  self := fun i h₀ L m mu D its s Q E X S h => by
    obtain ⟨⟨old, ho⟩, _⟩ := X.1.2 s.heap S.all
    exact wpAny_pyIter_enum ho h
end

section
variable {c : Cfg} {k : Nat} {env : Env} {Γ : List (Str × Dat)} {fns : List DefRec}

theorem ItE.list {iter target : Expr} {ds : List Dat} (h : Ev c k env Γ iter (.list ds)) (t : TgOk target ds) : ItE c k env Γ iter target ds.length (fun i => bindT target (ds.getD i .none)) := by
  intro A h₀ L m mu D s Q E R B S G hq
  refine h A h₀ L m mu D s _ E R B S G fun v tl h' tk S' i => ?_
  cases i with
  | list hm hd =>
    rename_i ax vs n
    have hl := isList_of S' hm
    refine wpAny_pyIter_list hl ?_
    have hne : ax ≠ h'.objs.size := Nat.ne_of_lt (S'.ltD _ hm)
    have ho : (h'.push ({ cls := .type "list_iterator", data := .fields #[.ref ax, .int 0 0] } : Obj)).get? h'.objs.size = some { cls := .type "list_iterator", data := .fields #[.ref ax, .int 0 0] } := Heap.get?_push_size _ rfl
    have S2 := S'.addM (h' := h'.push { cls := .type "list_iterator", data := .fields #[.ref ax, .int 0 0] }) (fun _ _ e => Heap.get?_push_of_some _ e) ho (Nat.le_refl _)
    refine hq h'.objs.size [h'.objs.size] _ [(h'.objs.size, _)] tl _ tk (It.list (vs := vs) (n := n) R.hh hne t) ⟨?_, hm, hd⟩ S2
    refine at_of (Walks.list (prog := c.prog) (w := c.w) R.hh h'.objs.size ax hne vs.toArray).frame ⟨⟨_, ho, rfl, rfl⟩, hl.push _⟩ rfl (fun p hp => ?_) (fun p hp => S2.get (a := p.1) (o := p.2) hp) fun b hb => ?_
    · rw [List.mem_singleton.mp hp]; exact ho
    · rcases List.mem_cons.mp hb with rfl | hb
      · exact .inl List.mem_cons_self
      · rw [List.mem_singleton.mp hb]; exact .inr (List.mem_map_of_mem (f := (·.1)) hm)

theorem ItE.tuple {iter : Expr} {x : Str} {p : Pos} {ds : List Dat} (h : Ev c k env Γ iter (.tuple ds)) : ItE c k env Γ iter (.Name x p) ds.length (fun i => bindT (.Name x p) (ds.getD i .none)) := by
  intro A h₀ L m mu D s Q E R B S G hq
  refine h A h₀ L m mu D s _ E R B S G fun v tl h' tk S' i => ?_
  cases i with
  | tuple hm hd =>
    rename_i ax vs n
    have hl : h'.IsTuple ax vs.toArray := isTup_of S' hm
    refine wpAny_pyIter_tuple hl ?_
    have hne : ax ≠ h'.objs.size := Nat.ne_of_lt (S'.ltD _ hm)
    have ho : (h'.push ({ cls := .type "tuple_iterator", data := .fields #[.ref ax, .int 0 0] } : Obj)).get? h'.objs.size = some { cls := .type "tuple_iterator", data := .fields #[.ref ax, .int 0 0] } := Heap.get?_push_size _ rfl
    have S2 := S'.addM (h' := h'.push { cls := .type "tuple_iterator", data := .fields #[.ref ax, .int 0 0] }) (fun _ _ e => Heap.get?_push_of_some _ e) ho (Nat.le_refl _)
    refine hq h'.objs.size [h'.objs.size] _ [(h'.objs.size, _)] tl _ tk (It.tuple (vs := vs) (n := n) R.hh hne) ⟨?_, hm, hd⟩ S2
    refine at_of (Walks.tuple (prog := c.prog) (w := c.w) R.hh h'.objs.size ax hne vs.toArray).frame ⟨⟨_, ho, rfl, rfl⟩, hl.at fun o e => Heap.get?_push_of_some _ e⟩ rfl (fun p hp => ?_) (fun p hp => S2.get (a := p.1) (o := p.2) hp) fun b hb => ?_
    · rw [List.mem_singleton.mp hp]; exact ho
    · rcases List.mem_cons.mp hb with rfl | hb
      · exact .inl List.mem_cons_self
      · rw [List.mem_singleton.mp hb]; exact .inr (List.mem_map_of_mem (f := (·.1)) hm)

theorem range_core {A : Around} {h₀ : Heap} {L : Addr} {m : Str → Option Value} {mu D : List (Addr × Obj)} {s : Shared} {Q : Value → Shared → Prop} {E : Value → Shared → Prop} {x : Str} {p : Pos} {a b : Int} {t u v : Tok} (R : Rm A k) (S : St h₀ L m mu D s.heap)
    (ha : 0 ≤ a) (ha' : a ≤ 1000) (hb : 0 ≤ b) (hb' : b ≤ 1000)
    (hq : ∀ I ads At its h' tk, It c A (.Name x p) I ads (b - a).toNat (fun i => [(x, .int (a + i))]) At → At 0 its D → St h₀ L m (its ++ mu) D h' → Q (.ref I) { s with heap := h', toks := tk }) (r : Addr) (hr : IsRange s.heap r a b 1 t u v) :
    wpAny (model c.prog c.w) A (pyIter (.ref r)) Q E s := by
  refine wpAny_pyIter_range hr (small_one (by omega) (by omega) (by omega) (by omega)) ?_
  rw [rangeSize_nat]
  have ho : (s.heap.push ({ cls := .type "range_iterator", data := .fields #[rawInt a, rawInt ((b - a).toNat : Int), rawInt 1] } : Obj)).get? s.heap.objs.size = some { cls := .type "range_iterator", data := .fields #[rawInt a, rawInt ((b - a).toNat : Int), rawInt 1] } := Heap.get?_push_size _ rfl
  have S2 := S.addM (h' := s.heap.push { cls := .type "range_iterator", data := .fields #[rawInt a, rawInt ((b - a).toNat : Int), rawInt 1] }) (fun _ _ e => Heap.get?_push_of_some _ e) ho (Nat.le_refl _)
  refine hq s.heap.objs.size [s.heap.objs.size] _ [(s.heap.objs.size, _)] _ s.toks (It.range (n := (b - a).toNat) R.hh) ⟨?_, trivial⟩ S2
  refine at_of (LCg.range_walks (prog := c.prog) (w := c.w) (A := A) (I := s.heap.objs.size) R.hh a (b - a).toNat).frame ?_ rfl (fun p hp => ?_) (fun p hp => S2.get (a := p.1) (o := p.2) hp) fun b hb => .inl hb
  · show IsRangeIter _ _ (a + ((0 : Nat) : Int) * 1) _ _
    simpa using ho
  · rw [List.mem_singleton.mp hp]; exact ho

theorem ItE.range1 {x rn : Str} {p p1 p2 : Pos} {e : Expr} {n : Int} (hg : Gl c env rn (.type "range")) (h : Ev c k env Γ e (.int n)) (h0 : 0 ≤ n) (h1 : n ≤ 1000)
    (he : starEach (e :: []) env = (false, eval e env) :: starEach [] env := by rfl) :
    ItE c k env Γ (.Call (.Name rn p1) [e] [] p2) (.Name x p) n.toNat (fun i => [(x, .int i)]) := by
  intro A h₀ L m mu D s Q E R B S G hq
  refine Call_Name rfl (hg A s _ E p1 (S.sub B) ?_)
  refine PyProof.Rows.callWith_type1 (args_cons (h A h₀ L m mu D s _ E R B S G fun v tl h' tk S' i => args_nil ?_) he) he rfl
  cases i
  rename_i t
  refine call_range_1 ?_
  have S2 := S'.up (h' := h'.push { cls := .type "range", data := .fields #[.int 0 tk, .int n t, .int 1 (tk + 1)] }) fun _ _ e => Heap.get?_push_of_some _ e
  refine range_core (x := x) (p := p) (s := { s with heap := h'.push _, toks := tk + 1 + 1 }) (a := 0) (b := n) R S2 (by omega) (by omega) h0 h1 (fun I ads At its h'' tk' it hat S3 => ?_) h'.objs.size (Heap.get?_push_size _ rfl)
  have e0 : (n - 0).toNat = n.toNat := by rw [Int.sub_zero]
  rw [e0] at it
  have e1 : (fun i : Nat => [(x, Dat.int (0 + (i : Int)))]) = fun i : Nat => [(x, Dat.int (i : Int))] := by funext i; rw [Int.zero_add]
  rw [e1] at it
  exact hq I ads At its tl h'' tk' it hat S3
theorem ItE.range2 {x rn : Str} {p p1 p2 : Pos} {e f : Expr} {a n : Int} (hg : Gl c env rn (.type "range")) (h : Ev c k env Γ e (.int a)) (hf : Ev c k env Γ f (.int n)) (ha : 0 ≤ a) (ha1 : a ≤ 1000) (h0 : 0 ≤ n) (h1 : n ≤ 1000)
    (he : starEach (e :: f :: []) env = (false, eval e env) :: starEach [f] env := by rfl) (hf' : starEach (f :: []) env = (false, eval f env) :: starEach [] env := by rfl) (hp : (backTo p2 (starEach [f] env)).any (·.1) = false := by rfl) :
    ItE c k env Γ (.Call (.Name rn p1) [e, f] [] p2) (.Name x p) (n - a).toNat (fun i => [(x, .int (a + i))]) := by
  intro A h₀ L m mu D s Q E R B S G hq
  refine Call_Name rfl (hg A s _ E p1 (S.sub B) ?_)
  refine PyProof.Rows.callWith_type1 (args_cons (h A h₀ L m mu D s _ E R B S G fun v tl h' tk S' i => args_cons (hf A h₀ L m mu _ _ _ E R B S' G.up fun v2 tl2 h2 tk2 S2 i2 => args_nil ?_) hf') he) he hp
  cases i; cases i2
  rename_i t u
  refine call_range_2 ?_
  rw [← List.append_assoc] at S2
  have S3 := S2.up (h' := h2.push { cls := .type "range", data := .fields #[.int a t, .int n u, .int 1 tk2] }) fun _ _ e => Heap.get?_push_of_some _ e
  exact range_core (x := x) (p := p) (s := { s with heap := h2.push _, toks := tk2 + 1 }) (a := a) (b := n) R S3 ha ha1 h0 h1 (fun I ads At its h'' tk' it hat S4 => hq I ads At its _ h'' tk' it hat S4) h2.objs.size (Heap.get?_push_size _ rfl)

theorem ItE.enum {x y en : Str} {p q r p1 p2 : Pos} {nn : Nat} {e : Expr} {ds : List Dat} (hg : Gl c env en (.type "enumerate")) (h : Ev c k env Γ e (.list ds)) (he : starEach (e :: []) env = (false, eval e env) :: starEach [] env := by rfl) :
    ItE c k env Γ (.Call (.Name en p1) [e] [] p2) (.Tuple [.Name x p, .Name y q] nn r) ds.length (fun i => [(x, .int i), (y, ds.getD i .none)]) := by
  intro A h₀ L m mu D s Q E R B S G hq
  refine Call_Name rfl (hg A s _ E p1 (S.sub B) ?_)
  refine PyProof.Rows.callWith_type1 (args_cons (h A h₀ L m mu D s _ E R B S G fun v tl h' tk S' i => args_nil ?_) he) he rfl
  cases i with
  | list hm hd =>
    rename_i ax vs n
    have hl := isList_of S' hm
    refine call_enumerate_list hl fun h2 hen hit hsz hk => ?_
    refine wpAny_pyIter_enum hen ?_
    have hit' := hit
    obtain ⟨oi, hoi, hci, hdi⟩ := hit
    have hax : ax < h'.objs.size := S'.ltD _ hm
    have n1 : h'.objs.size + 1 ≠ h'.objs.size := Nat.succ_ne_self _
    have n2 : ax ≠ h'.objs.size + 1 := Nat.ne_of_lt (Nat.lt_succ_of_lt hax)
    have n3 : ax ≠ h'.objs.size := Nat.ne_of_lt hax
    have hen' : IsEnum h2 (h'.objs.size + 1) h'.objs.size 0 .none := hen
    have S1 := S'.addM (a := h'.objs.size) hk hoi (Nat.le_refl _)
    obtain ⟨oe, hoe⟩ : ∃ o, h2.get? (h'.objs.size + 1) = some o := ⟨_, hen'⟩
    have S2 : St h₀ L m ((h'.objs.size + 1, oe) :: (h'.objs.size, oi) :: mu) (tl ++ D) h2 := by
      refine ⟨S1.fr, fun p hp => ?_, fun p hp q hq => ?_, ?_⟩
      · rcases List.mem_cons.mp hp with rfl | hp
        · exact ⟨hoe, (S'.fresh0 (Nat.le_succ _)).2, (S'.fresh0 (Nat.le_succ _)).1⟩
        · exact S1.nw p hp
      · rcases List.mem_cons.mp hp with rfl | hp
        · exact Nat.ne_of_gt (Nat.lt_succ_of_lt (S'.ltD q hq))
        · exact S1.off p hp q hq
      · rw [List.map_cons, List.nodup_cons]
        refine ⟨fun hmm => ?_, S1.nd⟩
        obtain ⟨z, hz, ez⟩ := List.mem_map.mp hmm
        rcases List.mem_cons.mp hz with rfl | hz
        · exact n1 ez.symm
        · have := S'.ltM z hz
          rw [ez] at this
          exact absurd (Nat.lt_of_succ_lt this) (Nat.lt_irrefl _)
    refine hq (h'.objs.size + 1) [h'.objs.size + 1, h'.objs.size] _ [(h'.objs.size + 1, oe), (h'.objs.size, oi)] tl h2 tk (It.enum (vs := vs) (n := n) R.hh n1 n2 n3) ⟨?_, hm, hd⟩ S2
    refine at_of (WalksT.enumerate (prog := c.prog) (w := c.w) (A := A) R.hh (h'.objs.size + 1) h'.objs.size ax n1 n2 n3 vs.toArray).frame ⟨⟨_, hen'⟩, hit', hl.at fun o e => hk _ o e⟩ rfl (fun p hp => ?_) (fun p hp => S2.get (a := p.1) (o := p.2) hp) fun b hb => ?_
    · rcases List.mem_cons.mp hp with rfl | hp
      · exact hoe
      · rw [List.mem_singleton.mp hp]; exact hoi
    · rcases List.mem_cons.mp hb with rfl | hb
      · exact .inl List.mem_cons_self
      · rcases List.mem_cons.mp hb with rfl | hb
        · exact .inl (List.mem_cons_of_mem _ List.mem_cons_self)
        · rw [List.mem_singleton.mp hb]; exact .inr (List.mem_map_of_mem (f := (·.1)) hm)
end
end Mine

namespace Mine

theorem perm_out : ∀ {its mu : List (Addr × Obj)}, (∀ p ∈ its, p ∈ mu) → (its.map (·.1)).Nodup → ∃ r, mu.Perm (its ++ r)
  | [], mu, _, _ => ⟨mu, List.Perm.refl _⟩
  | (a, o) :: its, mu, h, hn => by
    rw [List.map_cons, List.nodup_cons] at hn
    obtain ⟨r, hp⟩ := mem_perm (h (a, o) List.mem_cons_self)
    have hr : ∀ p ∈ its, p ∈ r := fun p hp' => by
      rcases List.mem_cons.mp (hp.mem_iff.mp (h p (List.mem_cons_of_mem _ hp'))) with rfl | q
      · exact absurd (List.mem_map_of_mem (f := (·.1)) hp') hn.1
      · exact q
    obtain ⟨r', hp2⟩ := perm_out hr hn.2
    exact ⟨r', hp.trans (hp2.cons _)⟩

section
variable {c : Cfg} {k : Nat} {env : Env} {Γ Γ' : List (Str × Dat)} {o o' : Option (Str × List Dat)} {out : Out}

theorem Rd.perm {L : Addr} {m : Str → Option Value} {mu mu' : List (Addr × Obj)} {x : Str} {v : Value} (r : Rd env L m mu x v) (h : ∀ a ob, (a, ob) ∈ mu → (∃ y, env.cells.lookup y = some a) ∨ a = env.locals → (a, ob) ∈ mu') : Rd env L m mu' x v := by
  cases r with
  | loc a b c => exact .loc a b c
  | own a b c d => exact .own (h _ _ a (.inr rfl)) b c d
  | cell a b c d => exact .cell a b (h _ _ c (.inl ⟨_, a⟩)) d

/-- things beside the frame have turned -/
theorem SatM.swap {h₀ h h' : Heap} {R D₀ : List (Addr × Obj)} {m : Str → Option Value} {its its' mu mu' D : List (Addr × Obj)} (S : SatM env h₀ (its ++ R) D₀ Γ o m mu D h) (hp : mu.Perm (its ++ mu')) (hR : ∀ p ∈ R, p.1 ∉ its.map (·.1))
    (S' : St h₀ env.locals m (its' ++ mu') D h') (e : its'.map (·.1) = its.map (·.1)) : SatM env h₀ (its' ++ R) D₀ Γ o m (its' ++ mu') D h' := by
  have hit : ∀ p ∈ its, ∀ x c, env.cells.lookup x = some c → p.1 ≠ c := fun p hp' => (S.rs p (List.mem_append.mpr (.inl hp'))).2
  have keep : ∀ p ∈ mu, p.1 ∉ its.map (·.1) → p ∈ its' ++ mu' := fun p hp' hn => by
    rcases List.mem_append.mp (hp.mem_iff.mp hp') with q | q
    · exact absurd (List.mem_map_of_mem (f := (·.1)) q) hn
    · exact List.mem_append.mpr (.inr q)
  have cellOff : ∀ x c, env.cells.lookup x = some c → c ∉ its.map (·.1) := fun x c hx hm => by
    obtain ⟨q, hq, e⟩ := List.mem_map.mp hm
    exact hit q hq x c hx e
  have rdk : ∀ x v, Rd env env.locals m mu x v → Rd env env.locals m (its' ++ mu') x v := fun x v r => r.perm fun a ob hm hc => by
    rcases hc with ⟨y, hy⟩ | rfl
    · exact keep _ hm (cellOff y a hy)
    · exact absurd rfl (S.st.nw _ (List.mem_append.mpr (.inl hm))).2.1
  refine ⟨S', fun x d hx => ?_, ⟨fun x c hx => ?_, S.ce.one⟩, fun p hp' => ?_, S.d0, fun x ds hx => ?_⟩
  · obtain ⟨v, r, i⟩ := S.hs x d hx
    exact ⟨v, rdk x v r, i⟩
  · obtain ⟨ob, v, h1, h2⟩ := S.ce.is x c hx
    exact ⟨ob, v, keep _ h1 (cellOff x c hx), h2⟩
  · rcases List.mem_append.mp hp' with hp' | hp'
    · refine ⟨List.mem_append.mpr (.inl hp'), fun x c hx => ?_⟩
      obtain ⟨q, hq, eq⟩ := keys_mem e hp'
      rw [← eq]; exact hit q hq x c hx
    · exact ⟨keep p (S.rs p (List.mem_append.mpr (.inr hp'))).1 (hR p hp'), (S.rs p (List.mem_append.mpr (.inr hp'))).2⟩
  · obtain ⟨a, vs, n, h1, h2, h3, h4, h5⟩ := S.ow x ds hx
    have ha : a ∉ its.map (·.1) := fun hm => by
      obtain ⟨q, hq, e⟩ := List.mem_map.mp hm
      exact h4 q (List.mem_append.mpr (.inl hq)) e
    refine ⟨a, vs, n, keep _ h1 ha, rdk _ _ h2, h3, fun p hp' => ?_, h5⟩
    rcases List.mem_append.mp hp' with hp' | hp'
    · obtain ⟨q, hq, eq⟩ := keys_mem e hp'
      rw [← eq]; exact h4 q (List.mem_append.mpr (.inl hq))
    · exact h4 p (List.mem_append.mpr (.inr hp'))

/-- a value goes to a target -/
theorem SatM.assignU {M : Type} {A : Around} {E : Value → Shared → Prop} {s : Shared} {Q : Unit → Shared → Prop} {h₀ : Heap} {R D₀ : List (Addr × Obj)} {m : Str → Option Value} {mu D : List (Addr × Obj)} {target : Expr} {v : Value} {bs : List (Str × Dat)} (_ : M → M)
    (he : EnvOk env) (r : A.handled = none) (S : SatM env h₀ R D₀ Γ o m mu D s.heap) (U : Unp s.heap D target v bs) (hk : ∀ x ∈ bs.map (·.1), Okind env x) (hn : (bs.map (·.1)).Nodup) (hx : ∀ y ds, o = some (y, ds) → y ∉ bs.map (·.1))
    (h : ∀ h' tk m' mu', SatM env h₀ R D₀ (bs ++ Γ) o m' mu' D h' → Q () { s with heap := h', toks := tk }) : wpAny (model c.prog c.w) A (assign target env v) Q E s := by
  cases U with
  | nm i =>
    refine wpAny_assign_Name (S.store he (hk _ (by simp)) i (fun y ds e q => hx y ds e (by simp [q])) fun h' tk m' mu' S' => h h' tk m' mu' S')
  | two ht i j =>
    rename_i x y p q r' n T v w d e
    refine assign_Tuple_tuple r ht rfl rfl fun h'' hb => ?_
    have S'' := S.st.up (h' := h'') fun b o e => hb b o (Nat.ne_of_lt (Heap.lt_size e)) e
    have S3 : SatM env h₀ R D₀ Γ o m mu D h'' := by
      have := S.grow (tl := []) S''
      exact this
    exact S3.stores (xs := [x, y]) (xs' := [x, y]) (vs := [v, w]) (vs' := [v, w]) (ds := [d, e]) he (.nm (.nm .nil)) (fun p hp => hp) (fun _ h => h) rfl rfl hk hn (.cons i (.cons j .nil)) hx fun h' tk m' mu' S' => h h' tk m' mu' S'

theorem Sat.less {h₀ h : Heap} {R R' D₀ D₁ : List (Addr × Obj)} (S : Sat env h₀ R D₀ Γ o h) (hr : ∀ p ∈ R', p ∈ R) (hd : ∀ p ∈ D₁, p ∈ D₀) : Sat env h₀ R' D₁ Γ o h :=
  let ⟨m, mu, D, S⟩ := S
  ⟨m, mu, D, S.st, S.hs, S.ce, fun p hp => S.rs p (hr p hp), fun p hp => S.d0 p (hd p hp), fun x ds e => let ⟨a, vs, n, h1, h2, h3, h4, h5⟩ := S.ow x ds e; ⟨a, vs, n, h1, h2, h3, fun p hp => h4 p (hr p hp), h5⟩⟩

/-- the loop: σ i and ω i are what holds before turn i; at turn j (if any) it hands back d -/
theorem for_core {target iter : Expr} {body : List Stmt} {pos : Pos} {n : Nat} {bd : Nat → List (Str × Dat)} (σ : Nat → List (Str × Dat)) (ω : Nat → Option (Str × List Dat)) (j : Nat) (hj : j ≤ n) (he : EnvOk env)
    (src : ItE c k env Γ iter target n bd) (h0 : ∀ x d, (σ 0).lookup x = some d → Γ.lookup x = some d) (ho : ω 0 = o)
    (hk : ∀ i < n, ∀ x ∈ (bd i).map (·.1), Okind env x) (hn : ∀ i < n, ((bd i).map (·.1)).Nodup) (hx : ∀ i < n, ∀ y ds, ω i = some (y, ds) → y ∉ (bd i).map (·.1))
    (turn : ∀ i < j, Ex c k env (bd i ++ σ i) (ω i) body (.next (σ (i + 1)) (ω (i + 1))))
    (last : j = n ∧ out = .next (σ n) (ω n) ∨ j < n ∧ ∃ d, out = .ret d ∧ Ex c k env (bd j ++ σ j) (ω j) body (.ret d))
    (hs : ∀ x, foldedSetIterable iter env x = pure x := by intro _; rfl) : Ex1 c k env Γ o (.For target iter body [] pos) out := by
  intro A h₀ R D₀ s Q E r B S P
  obtain ⟨m, mu, D, S⟩ := S
  refine wpAny_For (src A h₀ _ m mu D s _ E r B S.st S.hs fun I ads At its tl h' tk T hat S' => ?_) hs
  have nd := S'.nd
  rw [List.map_append] at nd
  have nd' := List.nodup_append.mp nd
  have kA := T.keys 0 its _ hat
  have hRo : ∀ p ∈ R, p.1 ∉ ads := fun p hp hm => by
    rw [← kA] at hm
    exact nd'.2.2 _ hm _ (List.mem_map_of_mem (S.rs p hp).1) rfl
  have hads : ads.Nodup := kA ▸ nd'.1
  have start : SatM env h₀ (its ++ R) (tl ++ D) (σ 0) (ω 0) m (its ++ mu) (tl ++ D) h' := by
    have up : ∀ x v, Rd env env.locals m mu x v → Rd env env.locals m (its ++ mu) x v := fun x v r => r.perm fun a ob hm _ => List.mem_append.mpr (.inr hm)
    refine ⟨S', fun x d e => ?_, ⟨fun x c e => ?_, S.ce.one⟩, fun p hp => ?_, fun p hp => hp, fun x ds e => ?_⟩
    · obtain ⟨v, hv, i⟩ := S.hs x d (h0 x d e)
      exact ⟨v, up x v hv, i.mono subL⟩
    · obtain ⟨ob, v, h1, h2⟩ := S.ce.is x c e
      exact ⟨ob, v, List.mem_append.mpr (.inr h1), h2⟩
    · rcases List.mem_append.mp hp with hp | hp
      · refine ⟨List.mem_append.mpr (.inl hp), fun x c hx e => ?_⟩
        obtain ⟨ob, v, h1, _⟩ := S.ce.is x c hx
        exact nd'.2.2 _ (List.mem_map_of_mem hp) _ (List.mem_map_of_mem h1) e
      · exact ⟨List.mem_append.mpr (.inr (S.rs p hp).1), (S.rs p hp).2⟩
    · obtain ⟨a, vs, nn, h1, h2, h3, h4, h5⟩ := S.ow x ds (ho ▸ e)
      refine ⟨a, vs, nn, List.mem_append.mpr (.inr h1), up _ _ h2, h3.mono subL, fun p hp => ?_, h5⟩
      rcases List.mem_append.mp hp with hp | hp
      · exact fun e => nd'.2.2 _ (List.mem_map_of_mem hp) _ (List.mem_map_of_mem h1) e
      · exact h4 p hp
  refine codeAny_forLoop_any (fun fuel s' => ∃ i its' h'' tk' D', s' = { s with heap := h'', toks := tk' } ∧ fuel = n + 1 - i ∧ i ≤ j ∧ At i its' D' ∧ (∀ p ∈ tl ++ D, p ∈ D') ∧ Sat env h₀ (its' ++ R) D' (σ i) (ω i) h'') ?_ (n + 1)
    ⟨0, its, h', tk, tl ++ D, rfl, rfl, Nat.zero_le _, hat, fun p hp => hp, ⟨m, _, _, start⟩⟩
  rintro fuel s' ⟨i, its', h'', tk', D', rfl, rfl, hij, hat', hD', m₁, mu₁, D₁, S₁⟩
  have k1 := T.keys i its' _ hat'
  obtain ⟨mu₂, hp₂⟩ := perm_out (its := its') (fun p hp => (S₁.rs p (List.mem_append.mpr (.inl hp))).1) (by rw [k1]; exact hads)
  have hat₁ := T.mono i its' D' D₁ hat' S₁.d0
  have St₁ := S₁.st.perm hp₂
  have hin : i ≤ n := Nat.le_trans hij hj
  by_cases hlt : i < n
  · refine wpAny_mono (T.step i hlt h₀ _ m₁ mu₂ D₁ its' _ (fun v s₂ => wpAny (model c.prog c.w) A (assign target env v) (fun _ s₂ => wpAny (model c.prog c.w) A (execs body env) (fun f s₃ => match f with
            | .next | .cont => ∃ m, m < n + 1 - i ∧ ∃ i its' h'' tk' D', s₃ = { s with heap := h'', toks := tk' } ∧ m = n + 1 - i ∧ i ≤ j ∧ At i its' D' ∧ (∀ p ∈ tl ++ D, p ∈ D') ∧ Sat env h₀ (its' ++ R) D' (σ i) (ω i) h''
            | .brk => Q .next s₃
            | .ret v => Q (.ret v) s₃) (notedBy (model c.prog c.w) A env fun e s' => cameBackBy (model c.prog c.w) A env E e s') s₂) (notedBy (model c.prog c.w) A env fun e s' => cameBackBy (model c.prog c.w) A env E e s') s₂) (notedBy (model c.prog c.w) A env fun e s' => cameBackBy (model c.prog c.w) A env E e s') hat₁ St₁ fun v its₂ h₂ tk₂ St₂ hat₂ U => ?_) (fun r s₁ hr => ?_) fun _ _ e => e
    · have k2 := T.keys (i + 1) its₂ _ hat₂
      have S₂ := S₁.swap hp₂ (fun p hp => by rw [k1]; exact hRo p hp) St₂ (by rw [k2, k1])
      refine S₂.assignU (s := { s with heap := h₂, toks := tk₂ }) (M := Unit) id he r.hh U (hk i hlt) (hn i hlt) (hx i hlt) fun h₃ tk₃ m₃ mu₃ S₃ => ?_
      have S₃' : Sat env h₀ (its₂ ++ R) D₁ (bd i ++ σ i) (ω i) h₃ := ⟨m₃, mu₃, D₁, S₃.st, S₃.hs, S₃.ce, S₃.rs, fun p hp => hp, S₃.ow⟩
      by_cases hjj : i < j
      · refine turn i hjj A h₀ (its₂ ++ R) D₁ { s with heap := h₃, toks := tk₃ } _ _ r B S₃' fun h₄ tk₄ S₄ => ?_
        exact ⟨n + 1 - (i + 1), by omega, i + 1, its₂, h₄, tk₄, D₁, rfl, rfl, hjj, hat₂, fun p hp => S₁.d0 p (hD' p hp), S₄⟩
      · have ij : i = j := by omega
        subst ij
        rcases last with ⟨e, _⟩ | ⟨_, d, rfl, hl⟩
        · omega
        · refine hl A h₀ (its₂ ++ R) D₁ { s with heap := h₃, toks := tk₃ } _ _ r B S₃' fun v h₄ tk₄ S₄ => ?_
          obtain ⟨m₅, mu₅, D₅, St₅, hd, i5⟩ := S₄
          exact P v h₄ tk₄ ⟨m₅, mu₅, D₅, St₅, fun p hp => hd p (S₁.d0 p (hD' p (List.mem_append.mpr (.inr (S.d0 p hp))))), i5⟩
    · obtain ⟨v, rfl, hv⟩ := hr
      exact hv
  · have ein : i = n := by omega
    subst ein
    refine T.done h₀ _ m₁ mu₂ D₁ its' _ _ _ hat₁ St₁ fun h₂ tk₂ St₂ => ?_
    refine wpAny_execs_nil ?_
    rcases last with ⟨_, rfl⟩ | ⟨e, _⟩
    · refine P h₂ tk₂ ?_
      have keep : ∀ p ∈ mu₁, p.1 ∉ its'.map (·.1) → p ∈ mu₂ := fun p hp' hn => by
        rcases List.mem_append.mp (hp₂.mem_iff.mp hp') with q | q
        · exact absurd (List.mem_map_of_mem (f := (·.1)) q) hn
        · exact q
      have cellOff : ∀ x c, env.cells.lookup x = some c → c ∉ its'.map (·.1) := fun x c hx hm => by
        obtain ⟨q, hq, e⟩ := List.mem_map.mp hm
        exact (S₁.rs q (List.mem_append.mpr (.inl hq))).2 x c hx e
      have rdk : ∀ x v, Rd env env.locals m₁ mu₁ x v → Rd env env.locals m₁ mu₂ x v := fun x v r => r.perm fun a ob hm hc => by
        rcases hc with ⟨y, hy⟩ | rfl
        · exact keep _ hm (cellOff y a hy)
        · exact absurd rfl (S₁.st.nw _ (List.mem_append.mpr (.inl hm))).2.1
      refine ⟨m₁, mu₂, D₁, St₂, fun x d hx => ?_, ⟨fun x c hx => ?_, S₁.ce.one⟩, fun p hp' => ?_, fun p hp => S₁.d0 p (hD' p (List.mem_append.mpr (.inr (S.d0 p hp)))), fun x ds hx => ?_⟩
      · obtain ⟨v, r, i⟩ := S₁.hs x d hx
        exact ⟨v, rdk x v r, i⟩
      · obtain ⟨ob, v, h1, h2⟩ := S₁.ce.is x c hx
        exact ⟨ob, v, keep _ h1 (cellOff x c hx), h2⟩
      · have z := S₁.rs p (List.mem_append.mpr (.inr hp'))
        exact ⟨keep p z.1 (by rw [k1]; exact hRo p hp'), z.2⟩
      · obtain ⟨a, vs, nn, h1, h2, h3, h4, h5⟩ := S₁.ow x ds hx
        refine ⟨a, vs, nn, keep _ h1 (fun hm => ?_), rdk _ _ h2, h3, fun p hp' => h4 p (List.mem_append.mpr (.inr hp')), h5⟩
        obtain ⟨q, hq, e⟩ := List.mem_map.mp hm
        exact h4 q (List.mem_append.mpr (.inl hq)) e
    · omega
end
end Mine

namespace Mine

/-- another frame has run above -/
theorem St.back {h₀ h h' : Heap} {L : Addr} {m : Str → Option Value} {mu D tl : List (Addr × Obj)} {Z : List Addr} (S : St h₀ L m mu D h) (hZ : ∀ a ∈ Z, h₀.get? a = none ∧ a ≠ L) (keep : ∀ b o, (hideAll h Z).get? b = some o → h'.get? b = some o)
    (mus : ∀ p ∈ mu, h'.get? p.1 = some p.2) (Ds : ∀ p ∈ D, h'.get? p.1 = some p.2) (htl : ∀ p ∈ tl, h'.get? p.1 = some p.2 ∧ (hideAll h Z).get? p.1 = none ∧ ∀ q ∈ mu, q.1 ≠ p.1) : St h₀ L m mu (tl ++ D) h' := by
  have kp : ∀ b o, b ∉ Z → h.get? b = some o → h'.get? b = some o := fun b o hb e => keep b o (hideAll_get Z e hb)
  have nZL : L ∉ Z := fun hm => (hZ L hm).2 rfl
  have nZ0 : ∀ b o, h₀.get? b = some o → b ∉ Z := fun b o e hm => by rw [(hZ b hm).1] at e; cases e
  have isL : (hideAll h Z).get? L ≠ none := fun e => by
    obtain ⟨oL, _, _, hL, _⟩ := S.fr.ns
    rw [hideAll_get Z hL nZL] at e; cases e
  refine ⟨⟨S.fr.ns.at' fun o e => kp L o nZL e, fun b o e => kp b o (nZ0 b o e) (S.fr.keep b o e), S.fr.above⟩, fun p hp => ?_, fun p hp q hq => ?_, S.nd⟩
  · rcases List.mem_append.mp hp with hp | hp
    · exact ⟨mus p hp, (S.nw p (List.mem_append.mpr (.inl hp))).2⟩
    · rcases List.mem_append.mp hp with hp | hp
      · obtain ⟨a1, a2, a3⟩ := htl p hp
        refine ⟨a1, fun e => isL (e ▸ a2), ?_⟩
        cases e : h₀.get? p.1 with
        | none => rfl
        | some o =>
          have := hideAll_get Z (S.fr.keep _ _ e) (nZ0 _ _ e)
          rw [a2] at this; cases this
      · exact ⟨Ds p hp, (S.nw p (List.mem_append.mpr (.inr hp))).2⟩
  · rcases List.mem_append.mp hq with hq | hq
    · exact (htl q hq).2.2 p hp
    · exact S.off p hp q hq

theorem sub_hide {H h₀ h : Heap} {Z : List Addr} (B : Sub H h) (hZ : ∀ a ∈ Z, H.get? a = none) : Sub H (hideAll h Z) := fun b o e => hideAll_get Z (B b o e) fun hm => by rw [hZ b hm] at e; cases e

section
variable {prog : Program} {w : World} {A : Around} {R : Result → Shared → Prop} {s : Shared}
theorem codeAny_compLoop_gen {elt target iter : Expr} {ifs : List Expr} {scope : Scope} {pos : Pos} {it acc : Value} {env : Env} (I : Nat → Shared → Prop)
    (turn : ∀ n s, I n s → wpAny (model prog w) A (pyNext it) (fun r s₁ => match r with
      | none => R (.ok .next) s₁
      | some v => wpAny (model prog w) A (letOwnedTupleGo target it v) (fun _ s₁' => wpAny (model prog w) A (assign target env v) (fun _ s₂ =>
          wpAny (model prog w) A (forIn ifs true fun c r => if r = true then do let ok ← isTrue c env (eval c env); pure (ForInStep.yield ok) else pure (ForInStep.yield r)) (fun ok s₃ =>
            if ok = true then wpAny (model prog w) A (eval elt env) (fun x s₄ =>
              wpAny (model prog w) A (call (.builtin "list.append") [acc, x]) (fun _ s₅ => ∃ m, m < n ∧ I m s₅) (notedBy (model prog w) A env fun e s' => R (.error e) s') s₄) (notedBy (model prog w) A env fun e s' => R (.error e) s') s₃
            else ∃ m, m < n ∧ I m s₃) (notedBy (model prog w) A env fun e s' => R (.error e) s') s₂) (notedBy (model prog w) A env fun e s' => R (.error e) s') s₁') (notedBy (model prog w) A env fun e s' => R (.error e) s') s₁) (notedBy (model prog w) A env fun e s' => R (.error e) s') s)
    (n : Nat) (h : I n s) : codeAny (model prog w) A (.compLoop (.ListComp elt [⟨target, iter, ifs, 0⟩] scope pos) 0 it acc env) R s := by
  refine codeAny_loop rfl I (fun n s hI => ?_) n h
  show wpAny _ A ((compTurn (.ListComp elt [⟨target, iter, ifs, 0⟩] scope pos) 0 it acc env).onRaise (fun x => do noteFrame x env; theTreesLotGoes x)) _ _ s
  refine wpAny_noted ?_
  rw [compTurn_list]
  refine wpAny_bind (wpAny_standAt (wpAny_bind (wpAny_mono (turn n s hI) (fun r s₁ h₁ => ?_) fun _ _ h' => h')))
  cases r with
  | none => exact wpAny_pure h₁
  | some v =>
    refine wpAny_bind (wpAny_mono h₁ (fun _ s₁' h₁' => ?_) fun _ _ h' => h')
    refine wpAny_bind (wpAny_mono h₁' (fun _ s₂ h₂ => wpAny_bind (wpAny_mono h₂ (fun ok s₃ h₃ => ?_) fun _ _ h' => h')) fun _ _ h' => h')
    cases ok with
    | false => exact wpAny_pure ⟨rfl, h₃⟩
    | true =>
      exact wpAny_bind (wpAny_bind (wpAny_mono h₃ (fun x s₄ h₄ => wpAny_bind (wpAny_mono h₄ (fun _ s₅ h₅ => wpAny_pure (wpAny_pure ⟨rfl, h₅⟩)) fun _ _ h' => h')) fun _ _ h' => h'))
end

/-- the tests of a comprehension's clause: none or one -/
def Ts (c : Cfg) (k : Nat) (env : Env) (Γ : List (Str × Dat)) (ifs : List Expr) (b : Bool) : Prop := (ifs = [] ∧ b = true) ∨ ∃ t, ifs = [t] ∧ Tr c k env Γ t b
theorem Ts.nil {c : Cfg} {k : Nat} {env : Env} {Γ : List (Str × Dat)} : Ts c k env Γ [] true := .inl ⟨rfl, rfl⟩
theorem Ts.one {c : Cfg} {k : Nat} {env : Env} {Γ : List (Str × Dat)} {t : Expr} {b : Bool} (h : Tr c k env Γ t b) : Ts c k env Γ [t] b := .inr ⟨t, rfl, h⟩

theorem lookup_relabel_free {env : Env} (hk : env.scope.kind = .function) : ∀ {names : List (Str × NameKind)} {x : Str}, names.lookup x = some .free → env.kindOf x = some .cell →
    (names.map fun (n, k) => if (k == NameKind.free && env.scope.kind == .function && env.kindOf n == some .cell) then (n, NameKind.cell) else (n, k)).lookup x = some .cell
  | [], _, h, _ => by simp at h
  | (n, k) :: r, x, h, hc => by
    have ih := @lookup_relabel_free env hk r x
    show List.lookup x ((if (k == NameKind.free && env.scope.kind == .function && env.kindOf n == some .cell) = true then (n, NameKind.cell) else (n, k)) :: _) = _
    cases hx : x == n with
    | true =>
      simp only [List.lookup_cons, hx] at h
      cases h
      have e : x = n := beq_iff_eq.mp hx
      subst e
      simp [List.lookup_cons, hk, hc]
    | false =>
      simp only [List.lookup_cons, hx] at h
      by_cases hcc : (k == NameKind.free && env.scope.kind == .function && env.kindOf n == some .cell) = true
      · rw [if_pos hcc]; simp only [List.lookup_cons, hx]; exact ih h hc
      · rw [if_neg hcc]; simp only [List.lookup_cons, hx]; exact ih h hc

/-- a local is stored -/
theorem store_loc {M : Model} {A : Around} {E : Value → Shared → Prop} {s : Shared} {env : Env} {h₀ : Heap} {m : Str → Option Value} {mu D : List (Addr × Obj)} {x : Str} {v : Value} {Q : Unit → Shared → Prop}
    (he : env.scope.kind = .function) (S : St h₀ env.locals m mu D s.heap) (hl : env.kindOf x = some .local) (h : ∀ h' tk, St h₀ env.locals (fun y => if y = x then some v else m y) mu D h' → Q () { s with heap := h', toks := tk }) : wpAny M A (storeName env x v) Q E s :=
  wpAny_storeName_local hl S.fr.ns (fun _ hn hs => h _ _ (S.store hn hs)) (by rw [he]; rfl)

theorem assign_loc {c : Cfg} {A : Around} {E : Value → Shared → Prop} {s : Shared} {env : Env} {h₀ : Heap} {m : Str → Option Value} {mu D : List (Addr × Obj)} {target : Expr} {v : Value} {bs : List (Str × Dat)} {Q : Unit → Shared → Prop}
    (he : env.scope.kind = .function) (r : A.handled = none) (S : St h₀ env.locals m mu D s.heap) (U : Unp s.heap D target v bs) (hk : ∀ x ∈ bs.map (·.1), env.kindOf x = some .local) (hn : (bs.map (·.1)).Nodup)
    (h : ∀ h' tk m', St h₀ env.locals m' mu D h' → (∀ x d, bs.lookup x = some d → ∃ w, m' x = some w ∧ DatIn D w d) → Q () { s with heap := h', toks := tk }) : wpAny (model c.prog c.w) A (assign target env v) Q E s := by
  cases U with
  | nm i =>
    rename_i x p d
    refine wpAny_assign_Name (store_loc he S (hk _ (by simp)) fun h' tk S' => h h' tk _ S' fun y e q => ?_)
    rw [List.lookup_cons] at q
    by_cases hy : y == x
    · rw [hy] at q; cases q
      exact ⟨v, by simp [beq_iff_eq.mp hy], i⟩
    · simp only [hy] at q; cases q
  | two ht i j =>
    rename_i x y p q r' n T v w d e
    have hxy : x ≠ y := by
      simp at hn; exact hn
    refine assign_Tuple_tuple r ht rfl rfl fun h'' hb => ?_
    have S'' := S.up (h' := h'') fun b o e => hb b o (Nat.ne_of_lt (Heap.lt_size e)) e
    refine assignInOrder_cons (wpAny_assign_Name (store_loc (s := { s with heap := h'' }) he S'' (hk x (by simp)) fun h1 tk1 S1 => ?_))
    refine assignInOrder_cons (wpAny_assign_Name (store_loc he S1 (hk y (by simp)) fun h2 tk2 S2 => assignInOrder_nil ?_))
    refine h h2 tk2 _ S2 fun z e q => ?_
    rw [List.lookup_cons] at q
    by_cases hz : z == x
    · rw [hz] at q; cases q
      exact ⟨v, by simp [beq_iff_eq.mp hz, hxy], i⟩
    · simp only [hz] at q
      rw [List.lookup_cons] at q
      by_cases hz2 : z == y
      · rw [hz2] at q; cases q
        exact ⟨w, by simp [beq_iff_eq.mp hz2], j⟩
      · simp only [hz2] at q; cases q

theorem keys_map {l : List (Addr × Obj)} {a : Addr} (h : a ∈ l.map (·.1)) : ∃ o, (a, o) ∈ l := by
  obtain ⟨p, hp, e⟩ := List.mem_map.mp h
  exact ⟨p.2, by rw [← e]; exact hp⟩

section
variable {c : Cfg} {k : Nat} {env : Env} {Γ : List (Str × Dat)}
set_option maxHeartbeats 1000000 in
theorem Ev.comp {elt target iter : Expr} {ifs : List Expr} {scope : Scope} {pos : Pos} {n : Nat} {bd : Nat → List (Str × Dat)} {cl : List (Str × Addr)} (Γf : List (Str × Dat)) (res : Nat → Option Dat) (src : ItE c k env Γ iter target n bd) (hek : env.scope.kind = .function)
    (hf : ∀ x d, Γf.lookup x = some d → Γ.lookup x = some d ∧ scope.names.lookup x = some .free ∧ env.kindOf x = some .cell ∧ ∃ a, cl.lookup x = some a ∧ env.cells.lookup x = some a)
    (hclos : closureFor scope env = pure cl) (hcell : ∀ y ∈ scope.names, y.2 ≠ .cell) (hkind : scope.kind = .function) (hnames : ∀ y ∈ scope.names, y.2 = .local → scope.names.lookup y.1 = some .local)
    (hb : ∀ i < n, ∀ x ∈ (bd i).map (·.1), scope.names.lookup x = some .local) (hnd : ∀ i < n, ((bd i).map (·.1)).Nodup) (hn : n ≤ 16777216)
    (turn : ∀ i < n, ∀ C, (∃ d, res i = some d ∧ Ts c k (compEnvC scope cl C env) (bd i ++ Γf) ifs true ∧ Ev c k (compEnvC scope cl C env) (bd i ++ Γf) elt d) ∨ (res i = none ∧ Ts c k (compEnvC scope cl C env) (bd i ++ Γf) ifs false))
    (hs : ∀ x, foldedSetIterable iter env x = pure x := by intro _; rfl) :
    Ev c k env Γ (.ListComp elt [⟨target, iter, ifs, 0⟩] scope pos) (.list ((List.range n).filterMap res)) := by
  intro A h₀ L m mu D s Q E r B S G hq
  rw [eval_ListComp]
  refine wpAny_comprehension_free (use := none) (g := ⟨target, iter, ifs, 0⟩) (gs := []) rfl hs hclos hkind hnames ?_
  show wpAny _ A (eval iter env) _ _ s
  refine src A h₀ L m mu D s _ E r B S G fun I ads At its tl h' tk T hat S' => ?_
  refine wpAny_newObj_type (wpAny_newFunctionEnv hcell (by intro y hy; simp at hy) (fun h₁ hns₁ hsb₁ => ?_) hkind)
  dsimp only at hns₁ hsb₁ ⊢
  generalize hH2 : h'.push { cls := .type "list", dict := none, data := .seq ([] : List Value).toArray } = H2 at hns₁ hsb₁ ⊢
  have hC : H2.objs.size = h'.objs.size + 1 := by rw [← hH2, Heap.size_push]
  generalize hCc : H2.objs.size = C at hns₁ hsb₁ ⊢
  generalize ha : h'.objs.size = a
  have haC : @Eq Nat C (a + 1) := by rw [← hCc, hC, ha]
  have lt_ne : ∀ b : Nat, b < a → @Ne Nat b C := fun b hb => by omega
  have aC : @Ne Nat a C := by omega
  have old : ∀ b o, h'.get? b = some o → h₁.get? b = some o := fun b o e => hsb₁.extBut b o (lt_ne b (by have := Heap.lt_size e; rw [ha] at this; exact this)) (Heap.get?_push_of_some _ (hH2 ▸ Heap.get?_push_of_some _ e))
  have hacc : h₁.get? a = some (PySem.W.listOf ([] : List Value).toArray 0) := hsb₁.extBut _ _ aC (Heap.get?_push_of_some _ (by rw [← hH2, ← ha]; exact Heap.get?_push_size _ rfl))
  -- the block's own ground
  generalize hZ : (its ++ mu ++ (tl ++ D)).map (·.1) = Z
  have memZ : ∀ b, b ∈ Z → h₀.get? b = none ∧ b ≠ L := fun b hb => by
    rw [← hZ] at hb
    obtain ⟨o, hm⟩ := keys_map hb
    have := S'.nw _ hm
    exact ⟨this.2.2, this.2.1⟩
  have inZ : ∀ p ∈ its ++ mu ++ (tl ++ D), p.1 ∈ Z := fun p hp => hZ ▸ List.mem_map_of_mem hp
  have subH : Sub c.H (hideAll h' Z) := sub_hide (h₀ := h₀) (S'.sub B) fun b hb => by
    cases e : c.H.get? b with
    | none => rfl
    | some o => have := B b o e; rw [(memZ b hb).1] at this; cases this
  have ltA : ∀ p ∈ its ++ mu ++ (tl ++ D), p.1 < a := fun p hp => by
    have := Heap.lt_size (S'.nw p hp).1
    rw [ha] at this; exact this
  have sz : (hideAll h' Z).objs.size = a := (hideAll_size Z h').trans ha
  have St₁ : St (hideAll h' Z) C (fun x => ([] : List (Str × Value)).reverse.lookup x) (its ++ (a, PySem.W.listOf ([] : List Value).toArray 0) :: mu) (tl ++ D) h₁ := by
    refine ⟨⟨hns₁, fun b o e => old b o (of_hideAll Z e), by rw [sz, haC]; exact Nat.le_succ a⟩, fun p hp => ?_, fun p hp q hq => ?_, ?_⟩
    · have hp' : p = (a, PySem.W.listOf ([] : List Value).toArray 0) ∨ p ∈ its ++ mu ++ (tl ++ D) := by
        simp only [List.mem_append, List.mem_cons] at hp ⊢
        rcases hp with (hp | rfl | hp) | hp
        · exact .inr (.inl (.inl hp))
        · exact .inl rfl
        · exact .inr (.inl (.inr hp))
        · exact .inr (.inr hp)
      rcases hp' with rfl | hp'
      · exact ⟨hacc, aC, none_of_ge (by rw [sz]; exact Nat.le_refl a)⟩
      · have := ltA p hp'
        exact ⟨old _ _ (S'.nw p hp').1, lt_ne _ this, hideAll_none Z (inZ p hp')⟩
    · rcases List.mem_append.mp hp with hp | hp
      · exact S'.off p (List.mem_append.mpr (.inl hp)) q hq
      · rcases List.mem_cons.mp hp with rfl | hp
        · exact Nat.ne_of_gt (ltA q (List.mem_append.mpr (.inr hq)))
        · exact S'.off p (List.mem_append.mpr (.inr hp)) q hq
    · have nd := S'.nd
      have e : ((its ++ (a, PySem.W.listOf ([] : List Value).toArray 0) :: mu).map (·.1)).Perm (a :: (its ++ mu).map (·.1)) := (List.perm_middle (l₁ := its) (l₂ := mu)).map (·.1)
      rw [e.nodup_iff, List.nodup_cons]
      refine ⟨fun hm => ?_, nd⟩
      obtain ⟨o, hm⟩ := keys_map hm
      exact Nat.lt_irrefl _ (ltA _ (List.mem_append.mpr (.inl hm)))
  have hck : (compEnvC scope cl C env).scope.kind = .function := hkind
  have loop : ∀ s₃ : Shared, s₃ = { s with heap := h₁, toks := tk + ([] : List (Str × Value)).length } →
      codeAny (model c.prog c.w) A (.compLoop (.ListComp elt [⟨target, iter, ifs, 0⟩] scope pos) 0 (.ref I) (.ref a) (compEnvC scope cl C env)) (compPost (model c.prog c.w) A E none Q (.ref a) C) s₃ := by
    rintro s₃ rfl
    refine codeAny_compLoop_gen (fun fuel s' => ∃ i its' h'' tk' D' ys nn mC, s' = { s with heap := h'', toks := tk' } ∧ fuel = n + 1 - i ∧ i ≤ n ∧ At i its' D' ∧ (∀ p ∈ tl ++ D, p ∈ D') ∧
      St (hideAll h' Z) C mC (its' ++ (a, PySem.W.listOf (List.toArray ys) nn) :: mu) D' h'' ∧ DatAll D' ys ((List.range i).filterMap res)) ?_ (n + 1)
      ⟨0, its, h₁, _, tl ++ D, [], 0, _, rfl, rfl, Nat.zero_le _, hat, fun p hp => hp, St₁, .nil⟩
    rintro fuel s' ⟨i, its', h₂, tk₂, D', ys, nn, mC, rfl, rfl, hi, hat', hD', St₂, hys⟩
    have hyl : ys.length ≤ 16777216 := by
      rw [hys.length]
      exact Nat.le_trans (List.length_filterMap_le _ _) (by rw [List.length_range]; omega)
    by_cases hlt : i < n
    · refine wpAny_mono (T.step i hlt _ _ mC _ D' its' _ (fun v s₂ => wpAny (model c.prog c.w) A (assign target (compEnvC scope cl C env) v) (fun _ s₂ =>
          wpAny (model c.prog c.w) A (forIn ifs true fun c r => if r = true then do let ok ← isTrue c (compEnvC scope cl C env) (eval c (compEnvC scope cl C env)); pure (ForInStep.yield ok) else pure (ForInStep.yield r)) (fun ok s₃ =>
            if ok = true then wpAny (model c.prog c.w) A (eval elt (compEnvC scope cl C env)) (fun x s₄ =>
              wpAny (model c.prog c.w) A (call (.builtin "list.append") [.ref a, x]) (fun _ s₅ => ∃ m, m < n + 1 - i ∧ ∃ i its' h'' tk' D' ys nn mC, s₅ = { s with heap := h'', toks := tk' } ∧ m = n + 1 - i ∧ i ≤ n ∧ At i its' D' ∧ (∀ p ∈ tl ++ D, p ∈ D') ∧
                St (hideAll h' Z) C mC (its' ++ (a, PySem.W.listOf (List.toArray ys) nn) :: mu) D' h'' ∧ DatAll D' ys ((List.range i).filterMap res)) (notedBy (model c.prog c.w) A (compEnvC scope cl C env) fun e s' => compPost (model c.prog c.w) A E none Q (.ref a) C (.error e) s') s₄) (notedBy (model c.prog c.w) A (compEnvC scope cl C env) fun e s' => compPost (model c.prog c.w) A E none Q (.ref a) C (.error e) s') s₃
            else ∃ m, m < n + 1 - i ∧ ∃ i its' h'' tk' D' ys nn mC, s₃ = { s with heap := h'', toks := tk' } ∧ m = n + 1 - i ∧ i ≤ n ∧ At i its' D' ∧ (∀ p ∈ tl ++ D, p ∈ D') ∧
                St (hideAll h' Z) C mC (its' ++ (a, PySem.W.listOf (List.toArray ys) nn) :: mu) D' h'' ∧ DatAll D' ys ((List.range i).filterMap res)) (notedBy (model c.prog c.w) A (compEnvC scope cl C env) fun e s' => compPost (model c.prog c.w) A E none Q (.ref a) C (.error e) s') s₂) (notedBy (model c.prog c.w) A (compEnvC scope cl C env) fun e s' => compPost (model c.prog c.w) A E none Q (.ref a) C (.error e) s') s₂) _ hat' St₂ fun v its₂ h₃ tk₃ St₃ hat₃ U => ?_) (fun r s₁ hr => ?_) fun _ _ e => e
      · refine assign_loc (s := { s with heap := h₃, toks := tk₃ }) hck r.hh St₃ U (fun x hx => lookup_relabel_local (hb i hlt x hx)) (hnd i hlt) fun h₄ tk₄ m₄ St₄ hm₄ => ?_
        have G₄ : Has (compEnvC scope cl C env) C m₄ (its₂ ++ (a, PySem.W.listOf (List.toArray ys) nn) :: mu) D' (bd i ++ Γf) := fun x d e => by
          rcases lookup_app e with e | ⟨_, e⟩
          · obtain ⟨w, hw, j⟩ := hm₄ x d e
            exact ⟨w, .loc rfl (lookup_relabel_local (hb i hlt x (List.mem_map.mpr ⟨_, lookup_mem e, rfl⟩))) hw, j⟩
          · obtain ⟨e1, e2, e3, b, e4, e5⟩ := hf x d e
            obtain ⟨v, rv, j⟩ := G x d e1
            refine ⟨v, ?_, j.mono fun p hp => hD' p (List.mem_append.mpr (.inr hp))⟩
            cases rv with
            | loc _ q _ => rw [e3] at q; cases q
            | own _ _ q _ => rw [e3] at q; cases q
            | cell q1 _ q3 q4 =>
              rw [e5] at q1; cases q1
              exact .cell e4 (lookup_relabel_free hek e2 e3) (List.mem_append.mpr (.inr (List.mem_cons_of_mem _ q3))) q4
        have step1 : (List.range (i + 1)).filterMap res = (List.range i).filterMap res ++ (match res i with | some d => [d] | none => []) := by
          rw [List.range_succ, List.filterMap_append]
          cases hr : res i with
          | none => simp [hr]
          | some d => simp [hr]
        rcases turn i hlt C with ⟨d, hres, hT, hE⟩ | ⟨hres, hT⟩
        · have emit : ∀ tl' h₅ tk₅, St (hideAll h' Z) C m₄ (its₂ ++ (a, PySem.W.listOf (List.toArray ys) nn) :: mu) (tl' ++ D') h₅ → wpAny (model c.prog c.w) A (eval elt (compEnvC scope cl C env)) (fun x s₄ =>
              wpAny (model c.prog c.w) A (call (.builtin "list.append") [.ref a, x]) (fun _ s₅ => ∃ m, m < n + 1 - i ∧ ∃ i its' h'' tk' D' ys nn mC, s₅ = { s with heap := h'', toks := tk' } ∧ m = n + 1 - i ∧ i ≤ n ∧ At i its' D' ∧ (∀ p ∈ tl ++ D, p ∈ D') ∧
                St (hideAll h' Z) C mC (its' ++ (a, PySem.W.listOf (List.toArray ys) nn) :: mu) D' h'' ∧ DatAll D' ys ((List.range i).filterMap res)) (notedBy (model c.prog c.w) A (compEnvC scope cl C env) fun e s' => compPost (model c.prog c.w) A E none Q (.ref a) C (.error e) s') s₄) (notedBy (model c.prog c.w) A (compEnvC scope cl C env) fun e s' => compPost (model c.prog c.w) A E none Q (.ref a) C (.error e) s') { s with heap := h₅, toks := tk₅ } := fun tl' h₅ tk₅ St₅ => by
            refine hE A _ _ m₄ _ _ _ _ _ r subH St₅ G₄.up fun x tl₆ h₆ tk₆ St₆ j => ?_
            rw [← List.append_assoc] at St₆ j
            have hm : (a, PySem.W.listOf (List.toArray ys) nn) ∈ its₂ ++ (a, PySem.W.listOf (List.toArray ys) nn) :: mu := List.mem_append.mpr (.inr List.mem_cons_self)
            refine append_at (s := { s with heap := h₆, toks := tk₆ }) (hsz := by rw [List.size_toArray, sizeLine_eq]; exact hyl) (St₆.getM hm) fun h₇ hsb₇ ho₇ => ?_
            have St₇ := ((St₆.perm List.perm_middle).turn hsb₇ ho₇).perm List.perm_middle.symm
            refine ⟨n + 1 - (i + 1), by omega, i + 1, its₂, h₇, tk₆, tl₆ ++ tl' ++ D', ys ++ [x], nn + 1, m₄, rfl, rfl, hlt, T.mono _ _ _ _ hat₃ subL, fun p hp => subL _ (hD' p hp), ?_, ?_⟩
            · have e : (List.toArray ys).push x = (ys ++ [x]).toArray := by simp
              rw [e] at St₇
              exact St₇
            · rw [step1, hres]
              exact (hys.mono subL).append (.one j)
          rcases hT with ⟨rfl, _⟩ | ⟨t, rfl, ht⟩
          · refine wpAny_tests_nil ?_
            rw [if_pos rfl]
            exact emit [] h₄ tk₄ St₄
          · refine wpAny_tests_one (ht A _ _ m₄ _ _ _ _ _ r subH St₄ G₄ fun tl' h₅ tk₅ St₅ => ?_)
            rw [if_pos rfl]
            exact emit tl' h₅ tk₅ St₅
        · rcases hT with ⟨_, e⟩ | ⟨t, rfl, ht⟩
          · cases e
          · refine wpAny_tests_one (ht A _ _ m₄ _ _ _ _ _ r subH St₄ G₄ fun tl' h₅ tk₅ St₅ => ?_)
            rw [if_neg (by decide)]
            refine ⟨n + 1 - (i + 1), by omega, i + 1, its₂, h₅, tk₅, tl' ++ D', ys, nn, m₄, rfl, rfl, hlt, T.mono _ _ _ _ hat₃ subL, fun p hp => subL _ (hD' p hp), St₅, ?_⟩
            rw [step1, hres]
            simpa using hys.mono subL
      · obtain ⟨v, rfl, hv⟩ := hr
        exact hv
    · have ein : i = n := by omega
      subst ein
      refine T.done _ _ mC _ D' its' _ _ _ hat' St₂ fun h₃ tk₃ St₃ => ?_
      refine ⟨mC, St₃.fr.ns, fun h₄ hs₄ => ?_⟩
      have keep4 : ∀ p ∈ (a, PySem.W.listOf (List.toArray ys) nn) :: mu ++ D', h₄.get? p.1 = some p.2 := fun p hp => hs₄.extBut _ _ (St₃.nw p hp).2.1 (St₃.nw p hp).1
      have fin := S'.dropL.back (h' := h₄) (Z := Z) (tl := (a, PySem.W.listOf (List.toArray ys) nn) :: D') memZ (fun b o e => hs₄.extBut b o (lt_ne b (by have := Heap.lt_size e; rw [sz] at this; exact this)) (St₃.fr.keep b o e))
        (fun p hp => keep4 p (List.mem_append.mpr (.inl (List.mem_cons_of_mem _ hp)))) (fun p hp => keep4 p (List.mem_append.mpr (.inr (hD' p hp)))) (fun p hp => by
          rcases List.mem_cons.mp hp with rfl | hp
          · exact ⟨keep4 _ List.mem_cons_self, none_of_ge (by rw [sz]; exact Nat.le_refl a), fun q hq => Nat.ne_of_lt (ltA q (List.mem_append.mpr (.inl (List.mem_append.mpr (.inr hq)))))⟩
          · exact ⟨keep4 _ (List.mem_append.mpr (.inr hp)), (St₃.nw p (List.mem_append.mpr (.inr hp))).2.2, fun q hq => St₃.off q (List.mem_cons_of_mem _ hq) p hp⟩)
      rw [← List.append_assoc] at fin
      exact hq (.ref a) _ h₄ tk₃ fin (.list (List.mem_append.mpr (.inl (List.mem_append.mpr (.inl List.mem_cons_self)))) (hys.mono fun p hp => List.mem_append.mpr (.inl (List.mem_append.mpr (.inl (List.mem_cons_of_mem _ hp))))))
  have hat₁ : At 0 its (tl ++ D) := hat
  exact codeAny_compStart_list (loop _ rfl) (T.self 0 _ _ _ _ _ its _ _ _ hat₁ St₁ (loop _ rfl))
end
end Mine

namespace Mine

abbrev fenv (r : DefRec) (pm code doc : Value) (L a : Addr) : Env := callEnvC (docDef r.name r.params r.body r.scope pm code doc) L a

theorem bind_all {kindOf : Str → Option NameKind} (binds : List (Str × Value)) : ∀ (m cm : Str → Option Value), (binds.map (·.1)).Nodup →
    (∀ x v, (x, v) ∈ binds → (kindOf x = some .local → bindL kindOf binds m x = some v) ∧ (kindOf x ≠ some .local → bindC kindOf binds cm x = some v)) ∧
    (∀ x, x ∉ binds.map (·.1) → bindL kindOf binds m x = m x ∧ bindC kindOf binds cm x = cm x) := by
  induction binds with
  | nil => intro m cm _; exact ⟨fun x v h => (by cases h), fun x _ => ⟨rfl, rfl⟩⟩
  | cons p r ih =>
    intro m cm hn
    obtain ⟨n, w⟩ := p
    rw [List.map_cons, List.nodup_cons] at hn
    obtain ⟨h1, h2⟩ := ih (if kindOf n = some .local then fun y => if y = n then some w else m y else m) (if kindOf n = some .local then cm else fun y => if y = n then some w else cm y) hn.2
    refine ⟨fun x v h => ?_, fun x h => ?_⟩
    · rcases List.mem_cons.mp h with e | h
      · cases e
        obtain ⟨q1, q2⟩ := h2 n hn.1
        refine ⟨fun hl => ?_, fun hl => ?_⟩
        · refine q1.trans ?_
          rw [if_pos hl]; simp
        · refine q2.trans ?_
          rw [if_neg hl]; simp
      · exact h1 x v h
    · rw [List.map_cons, List.mem_cons, not_or] at h
      obtain ⟨q1, q2⟩ := h2 x h.2
      refine ⟨q1.trans ?_, q2.trans ?_⟩
      · split
        · simp [h.1]
        · rfl
      · split
        · rfl
        · simp [h.1]

theorem zip_vals {D : List (Addr × Obj)} : ∀ {xs : List Str} {vs : List Value} {ds : List Dat} {y : Str} {d : Dat}, DatAll D vs ds → (y, d) ∈ xs.zip ds → ∃ v, (y, v) ∈ xs.zip vs ∧ DatIn D v d := fun h1 h2 => zip_in h1 h2

section
variable {c : Cfg} {k : Nat} {fns : List DefRec}

theorem Fn.of {r : DefRec} {ps : List Str} {ds : List Dat} {d : Dat} (ok : c.Ok fns) (hr : r ∈ fns)
    (hb : ∀ pm code doc vs, vs.length = ds.length → bindArgs (docDef r.name r.params r.body r.scope pm code doc) ⟨vs, []⟩ = pure (ps.zip vs))
    (hl : ps.length = ds.length) (hn : ps.Nodup) (hk : (ps.all fun y => r.scope.names.lookup y == some .local || r.scope.names.lookup y == some .cell) = true)
    (hco : r.scope.isCoroutine = false) (hgen : r.scope.isGenerator = false) (hkf : r.scope.kind = .function)
    (body : ∀ pm code doc L a, Ex c k (fenv r pm code doc L a) (ps.zip ds) none r.body (.ret d)) : Fn c (k + 1) r.name ds d := by
  obtain ⟨a, o, pm, code, doc, h1, h2, h3, h4⟩ := ok.fn r hr
  refine ⟨a, o, _, h1, h2, h3, ?_⟩
  intro A h₀ Lc mc muc D s vs Q E R B S i hq
  have hvl : vs.length = ds.length := i.length
  have hkey : (ps.zip vs).map (·.1) = ps := List.map_fst_zip (by rw [hl, hvl]; exact Nat.le_refl _)
  have hkind : ∀ n : Nat, ∀ x ∈ ps, r.scope.names.lookup x = some .local ∨ (r.scope.names.lookup x = some .cell ∧ ((cellsFrom n r.scope.names []).lookup x).isSome = true) := fun n x hx => by
    have := List.all_eq_true.mp hk x hx
    rcases Bool.or_eq_true_iff.mp this with q | q
    · exact .inl (by simpa using q)
    · have q' : r.scope.names.lookup x = some .cell := by simpa using q
      exact .inr ⟨q', PySem.W.cellsFrom_some _ _ _ (.inl q')⟩
  refine wpAny_call (codeAny_call_cells (by have := R.hd; omega) (S.sub B a o h2) h3 (ok.nolimit.keeps (S.sub B)) (h4.keeps (S.sub B)) rfl (hb pm code doc vs hvl) rfl (fun x hx => hkind _ x.1 (by
    have : x.1 ∈ (ps.zip vs).map (·.1) := List.mem_map_of_mem hx
    rwa [hkey] at this)) (fun s₁ X => ?_) hco hgen hkf)
  have hbase : (fenv r pm code doc s.heap.objs.size a).locals = s.heap.objs.size := rfl
  generalize hZ : D.map (·.1) = Z
  have inZ : ∀ p ∈ D, p.1 ∈ Z := fun p hp => hZ ▸ List.mem_map_of_mem hp
  have memZ : ∀ b, b ∈ Z → h₀.get? b = none ∧ b ≠ Lc := fun b hb => by
    rw [← hZ] at hb
    obtain ⟨o, hm⟩ := keys_map hb
    have := S.nw _ (List.mem_append.mpr (.inr hm))
    exact ⟨this.2.2, this.2.1⟩
  have subH : Sub c.H (hideAll s.heap Z) := sub_hide (h₀ := h₀) (S.sub B) fun b hb => by
    cases e : c.H.get? b with
    | none => rfl
    | some o => have := B b o e; rw [(memZ b hb).1] at this; cases this
  obtain ⟨⟨⟨hh, tk, rfl⟩, hns, hkeep, habove⟩, hcell, hap, hab⟩ := X
  generalize hcs : (fenv r pm code doc s.heap.objs.size a).cells = cs at hcell hap hab
  have hcells : ∀ b ∈ ((cs.filter fun p => cs.lookup p.1 == some p.2).map (·.2)), ∃ o, hh.get? b = some o := fun b hb => by
    obtain ⟨p, hp, e⟩ := List.mem_map.mp hb
    subst e
    have := (List.mem_filter.mp hp).2
    obtain ⟨o, ho, _⟩ := hcell p.1 p.2 (by simpa using this)
    exact ⟨o, ho⟩
  obtain ⟨mu, hmk, hmo⟩ := objs_at _ hcells
  have mcell : ∀ x b, cs.lookup x = some b → ∃ o, (b, o) ∈ mu := fun x b e => by
    have hm : b ∈ ((cs.filter fun p => cs.lookup p.1 == some p.2).map (·.2)) := List.mem_map.mpr ⟨(x, b), List.mem_filter.mpr ⟨mem_of_lookup e, by simpa using e⟩, rfl⟩
    rw [← hmk] at hm
    exact keys_map hm
  have mab : ∀ p ∈ mu, s.heap.objs.size < p.1 := fun p hp => by
    have hm : p.1 ∈ mu.map (·.1) := List.mem_map_of_mem hp
    rw [hmk] at hm
    obtain ⟨q, hq, e⟩ := List.mem_map.mp hm
    rw [← e]
    exact hab q.1 q.2 (List.mem_filter.mp hq).1
  have sz : (hideAll s.heap Z).objs.size = s.heap.objs.size := hideAll_size Z s.heap
  have St₁ : St (hideAll s.heap Z) s.heap.objs.size (bindL (fenv r pm code doc s.heap.objs.size a).kindOf (ps.zip vs) fun _ => none) mu D hh := by
    refine ⟨⟨hns, fun b o e => hkeep b o (of_hideAll Z e), by rw [sz]; exact Nat.le_refl _⟩, fun p hp => ?_, fun p hp q hq => ?_, ?_⟩
    · rcases List.mem_append.mp hp with hp | hp
      · exact ⟨hmo p hp, Nat.ne_of_gt (mab p hp), none_of_ge (by rw [sz]; exact Nat.le_of_lt (mab p hp))⟩
      · exact ⟨hkeep _ _ (S.get (a := p.1) (o := p.2) hp), Nat.ne_of_lt (S.ltD p hp), hideAll_none Z (inZ p hp)⟩
    · exact Nat.ne_of_gt (Nat.lt_trans (S.ltD q hq) (mab p hp))
    · rw [hmk]
      have h1 : (cs.filter fun p => cs.lookup p.1 == some p.2).Pairwise fun x y => x.2 ≠ y.2 := hap.sublist List.filter_sublist
      exact List.pairwise_map.mpr h1
  have C₁ : Cells (fenv r pm code doc s.heap.objs.size a) mu := by
    refine ⟨fun x b e => ?_, fun x y b e1 e2 => ?_⟩
    · rw [hcs] at e
      obtain ⟨o, ho⟩ := mcell x b e
      obtain ⟨o', ho', hd'⟩ := hcell x b e
      have := hmo _ ho
      rw [ho'] at this; cases this
      exact ⟨_, _, ho, hd'⟩
    · rw [hcs] at e1 e2
      exact name_of_addr hap (mem_of_lookup e1) (mem_of_lookup e2)
  have G₁ : Has (fenv r pm code doc s.heap.objs.size a) s.heap.objs.size (bindL (fenv r pm code doc s.heap.objs.size a).kindOf (ps.zip vs) fun _ => none) mu D (ps.zip ds) := fun x d e => by
    obtain ⟨v, hv, j⟩ := zip_in i (lookup_zip e)
    refine ⟨v, ?_, j⟩
    obtain ⟨q1, q2⟩ := (bind_all (kindOf := (fenv r pm code doc s.heap.objs.size a).kindOf) (ps.zip vs) (fun _ => none) (fun _ => none) (by rw [hkey]; exact hn)).1 x v hv
    have hx : x ∈ ps := by
      have : x ∈ (ps.zip vs).map (·.1) := List.mem_map_of_mem (f := (·.1)) hv
      rwa [hkey] at this
    rcases hkind (s.heap.objs.size + 1) x hx with hlo | ⟨hce, hse⟩
    · exact .loc rfl hlo (q1 hlo)
    · obtain ⟨b, hb⟩ := Option.isSome_iff_exists.mp hse
      have hb' : cs.lookup x = some b := by rw [← hcs]; exact hb
      obtain ⟨o', ho', hd'⟩ := hcell x b hb'
      obtain ⟨o, ho⟩ := mcell x b hb'
      have := hmo _ ho
      rw [ho'] at this; cases this
      have hnl : (fenv r pm code doc s.heap.objs.size a).kindOf x ≠ some .local := by
        show r.scope.names.lookup x ≠ some .local
        rw [hce]; intro e; cases e
      refine .cell (by rw [hcs]; exact hb') hce ho ?_
      rw [hd']
      exact congrArg Data.cell (q2 hnl)
  refine body pm code doc s.heap.objs.size a _ (hideAll s.heap Z) [] D { s with heap := hh, toks := tk } _ _ R.deeper subH ⟨_, mu, D, St₁, G₁, C₁, fun p hp => (by cases hp), fun p hp => hp, fun _ _ e => by cases e⟩ ?_
  rintro v h' tk' ⟨m', mu', D', St₂, hD', j⟩
  have kp : ∀ b o, (hideAll s.heap Z).get? b = some o → h'.get? b = some o := St₂.fr.keep
  have fin := S.back (h' := h') (Z := Z) (tl := D') memZ kp (fun p hp => kp _ _ (hideAll_get Z (S.getM (a := p.1) (o := p.2) hp) fun hm => by
      rw [← hZ] at hm
      obtain ⟨q, hq, e⟩ := List.mem_map.mp hm
      exact S.off p hp q hq e.symm)) (fun p hp => St₂.get (a := p.1) (o := p.2) (hD' p hp)) (fun p hp => ?_)
  · exact hq v D' h' tk' fin (j.mono fun p hp => List.mem_append.mpr (.inl hp))
  · have n0 := (St₂.nw p (List.mem_append.mpr (.inr hp))).2.2
    refine ⟨St₂.get (a := p.1) (o := p.2) hp, n0, fun q hq e => ?_⟩
    have : (hideAll s.heap Z).get? q.1 = some q.2 := hideAll_get Z (S.getM (a := q.1) (o := q.2) hq) fun hm => by
      rw [← hZ] at hm
      obtain ⟨q', hq', e'⟩ := List.mem_map.mp hm
      exact S.off q hq q' hq' e'.symm
    rw [e, n0] at this; cases this
end
end Mine

namespace Mine

section
variable {c : Cfg} {k : Nat} {env : Env} {Γ : List (Str × Dat)} {fns : List DefRec}

theorem Ev.cBytes {b : List UInt8} {n : Nat} {pos : Pos} : Ev c k env Γ (.Constant (.bytes b) n pos) (.bytes b.toArray) := by
  intro A h₀ L m mu D s Q E _ _ S G h
  have : wpAny (model c.prog c.w) A (do return Value.bytes b.toArray (← fresh)) Q E s := wpAny_bind (wpAny_fresh (wpAny_pure (h _ [] _ _ S (.bytes _ _))))
  exact this

theorem Ev.neg {e : Expr} {pos : Pos} {a : Int} (h : Ev c k env Γ e (.int a)) : Ev c k env Γ (.UnaryOp .USub e pos) (.int (-a)) := by
  intro A h₀ L m mu D s Q E R B S G hq
  refine wpAny_UnaryOp (h A h₀ L m mu D s _ E R B S G fun v tl h' tk S' i => ?_)
  cases i
  exact PyProof.Rows.neg_int (hq _ tl h' _ S' (.int _ _))

theorem Ev.rev {x : Str} {p1 p2 pos : Pos} {e : Expr} {xs : List Dat} (hv : Ev c k env Γ (.Name x p1) (.list xs)) (he : Ev c k env Γ e (.int (-1))) (hn : xs.length ≤ 16777216)
    (hs : ∀ a b, subscripted (.Slice none none (some e) p2) false (.ref a) (.ref b) = operate [.ref b, .ref a] (getItem (.ref a) (.ref b)) := by intros; with_unfolding_all rfl)
    (ht : ∀ a r, letTemporaryGo (.Name x p1) (.ref a) r = pure () := by intros; with_unfolding_all rfl) :
    Ev c k env Γ (.Subscript (.Name x p1) (.Slice none none (some e) p2) pos) (.list xs.reverse) := by
  intro A h₀ L m mu D s Q E R B S G hq
  refine Subscript_ (hv A h₀ L m mu D s _ E R B S G fun v tl h' tk S' i => ?_)
  refine wpAny_Slice (wpAny_evalPart_none (wpAny_evalPart_none (wpAny_evalPart_some (he A h₀ L m mu _ _ _ E R B S' G.up fun w tl2 h2 tk2 S2 j => ?_))))
  rw [← List.append_assoc] at S2
  cases i with
  | list hm hd =>
    rename_i l ws n
    cases j
    have hm2 : (l, PySem.W.listOf ws.toArray n) ∈ tl2 ++ tl ++ D := by rw [List.append_assoc]; exact List.mem_append.mpr (.inr hm)
    refine krv_lit (s := { s with heap := h2, toks := tk2 }) (its := ws.toArray) (zs := ws.reverse) S2.fr S2.nw (isList_of S2 hm2) (.int _ _) rfl (fun D' h3 F N lt => ?_) (hs _ _) (ht _) (by rw [List.size_toArray, hd.length, sizeLine_eq]; exact hn)
    have S3 := S2.add1 F N lt
    rw [← List.append_assoc] at S3
    refine hq _ _ h3 tk2 S3 (.list (n := 0) (List.mem_append.mpr (.inl (List.mem_append.mpr (.inl List.mem_cons_self)))) ((rev_all hd).mono fun p hp => ?_))
    rcases List.mem_append.mp hp with hp | hp
    · exact List.mem_append.mpr (.inl (List.mem_append.mpr (.inr (List.mem_append.mpr (.inr hp)))))
    · exact List.mem_append.mpr (.inr hp)

/-- a cut of bytes -/
theorem sliceBy {x : Str} {p1 p2 pos : Pos} {lo hi : Option Expr} {a b : Option Int} {xs : Array UInt8} (hv : Ev c k env Γ (.Name x p1) (.bytes xs))
    (hlo : match lo, a with | none, none => True | some e, some n => Ev c k env Γ e (.int n) | _, _ => False) (hhi : match hi, b with | none, none => True | some e, some n => Ev c k env Γ e (.int n) | _, _ => False) (hn : xs.size ≤ 16777216)
    (hs : ∀ (u : Tok) a, subscripted (.Slice lo hi none p2) false (.bytes xs u) (.ref a) = operate [.ref a, .bytes xs u] (getItem (.bytes xs u) (.ref a))) (ht : ∀ (u : Tok) r, letTemporaryGo (.Name x p1) (.bytes xs u) r = pure ()) :
    Ev c k env Γ (.Subscript (.Name x p1) (.Slice lo hi none p2) pos) (.bytes (KBy.picked xs a b)) := by
  intro A h₀ L m mu D s Q E R B S G hq
  refine Subscript_ (hv A h₀ L m mu D s _ E R B S G fun v tl h' tk S' i => ?_)
  refine wpAny_Slice (part_of hlo R B S' G.up fun v1 tl1 h1 tk1 S1 i1 => ?_)
  rw [← List.append_assoc] at S1
  refine part_of hhi R B S1 G.up fun v2 tl2 h2 tk2 S2 i2 => wpAny_evalPart_none ?_
  rw [← List.append_assoc] at S2
  cases i
  exact KBc.slice_K (s := { s with heap := h2, toks := tk2 }) S2.fr S2.nw rfl i1 i2 (by rw [KBw.ints_length]; exact hn) (fun h' t' k' F N _ => hq _ _ h' k' (S2.ofFN F N) (.bytes _ _)) (hs _ _) (ht _)

theorem Ev.uptoB {x : Str} {p1 p2 pos : Pos} {e : Expr} {n : Int} {xs : Array UInt8} (hv : Ev c k env Γ (.Name x p1) (.bytes xs)) (he : Ev c k env Γ e (.int n)) (h0 : 0 ≤ n) (hn : xs.size ≤ 16777216)
    (hs : ∀ (u : Tok) a, subscripted (.Slice none (some e) none p2) false (.bytes xs u) (.ref a) = operate [.ref a, .bytes xs u] (getItem (.bytes xs u) (.ref a)) := by intros; with_unfolding_all rfl) (ht : ∀ (u : Tok) r, letTemporaryGo (.Name x p1) (.bytes xs u) r = pure () := by intros; with_unfolding_all rfl) :
    Ev c k env Γ (.Subscript (.Name x p1) (.Slice none (some e) none p2) pos) (.bytes (xs.toList.take n.toNat).toArray) := by
  have z := sliceBy (pos := pos) (a := none) (b := some n) hv trivial he hn hs ht
  have e1 : ∀ j : Nat, KBy.picked xs none (some (j : Int)) = (xs.toList.take j).toArray := fun j => by
    rw [KBc.picked_eq]
    simp only [Option.elim, clipAt_nat, List.drop_zero, Nat.sub_zero]
    congr 1
    rcases Nat.le_total j xs.size with h | h
    · rw [Nat.min_eq_left h]
    · rw [Nat.min_eq_right h, List.take_of_length_le (by simp), List.take_of_length_le (by simpa using h)]
  have e2 := e1 n.toNat
  rw [show ((n.toNat : Nat) : Int) = n by omega] at e2
  rw [e2] at z
  exact z
theorem Ev.fromB {x : Str} {p1 p2 pos : Pos} {e : Expr} {n : Int} {xs : Array UInt8} (hv : Ev c k env Γ (.Name x p1) (.bytes xs)) (he : Ev c k env Γ e (.int n)) (h0 : 0 ≤ n) (hn : xs.size ≤ 16777216)
    (hs : ∀ (u : Tok) a, subscripted (.Slice (some e) none none p2) false (.bytes xs u) (.ref a) = operate [.ref a, .bytes xs u] (getItem (.bytes xs u) (.ref a)) := by intros; with_unfolding_all rfl) (ht : ∀ (u : Tok) r, letTemporaryGo (.Name x p1) (.bytes xs u) r = pure () := by intros; with_unfolding_all rfl) :
    Ev c k env Γ (.Subscript (.Name x p1) (.Slice (some e) none none p2) pos) (.bytes (xs.toList.drop n.toNat).toArray) := by
  have z := sliceBy (pos := pos) (a := some n) (b := none) hv he trivial hn hs ht
  have e1 : ∀ j : Nat, KBy.picked xs (some (j : Int)) none = (xs.toList.drop j).toArray := fun j => by
    rw [KBc.picked_eq]
    simp only [Option.elim, clipAt_nat]
    congr 1
    rcases Nat.le_total j xs.size with h | h
    · rw [Nat.min_eq_left h, List.take_of_length_le (by simp)]
    · rw [Nat.min_eq_right h, List.drop_of_length_le (by simp), List.drop_of_length_le (by simpa using h)]; simp
  have e2 := e1 n.toNat
  rw [show ((n.toNat : Nat) : Int) = n by omega] at e2
  rw [e2] at z
  exact z

/-! bytes of bytes -/
theorem by_look : typeLookup (.type "bytes") "__bytes__" = pure (some (.builtin "bytes.__bytes__")) := by rw [typeLookup_type, builtinLookup_eq_fast]; kernel_rfl

theorem bytes_new_bytes {prog : Program} {w : World} {A : Around} {E : Value → Shared → Prop} {s : Shared} {b : Array UInt8} {t : Tok} {Q : Value → Shared → Prop} (h : Q (.bytes b t) s) :
    codeAny (model prog w) A (.call (.builtin "bytes.__new__") ⟨[.type "bytes", .bytes b t], []⟩) (wants Q E) s := by
  refine codeAny_of_tree ?_
  show wpAny _ A.in1 (do checkBuiltinCall "bytes.__new__" ⟨[.type "bytes", .bytes b t], []⟩; again (.builtin "bytes.__new__" ⟨[.type "bytes", .bytes b t], []⟩)) _ _ s
  refine wpAny_bind (wpAny_of_eq (PySem.F.bm_newCall _) (wpAny_pure ⟨plainId_quiet PySem.F.bm_plain _, codeAny_builtin PySem.F.bm_entry ?_⟩))
  rw [Around.under_plainId PySem.F.bm_plain _]
  have hT : s.TypeIs (.bytes b t) "bytes" := PySem.W.typeIs_bytes _ _ _
  unfold Builtin.«bytes.__new__»
  refine wpAny_bind (wpAny_of_eq (a := true) rfl ?_)
  refine bm_if_false rfl ?_
  refine wpAny_bind (wpAny_of_eq PySem.F.bm_sub ?_)
  refine bm_if_false rfl ?_
  refine wpAny_bind (wpAny_of_eq (PySem.F.bm_bind _) ?_)
  refine wpAny_bind (wpAny_of_eq (a := ()) rfl ?_)
  refine wpAny_bind (wpAny_of_eq (a := ()) rfl ?_)
  refine bm_if_false rfl ?_
  refine wpAny_bind (wpAny_specialOf hT by_look ?_)
  refine wpAny_bind (wpAny_rule ?_)
  refine wpAny_bind (wpAny_typeOf hT ?_)
  refine bm_if_true (by decide) ?_
  exact wpAny_pure h

theorem Cl.bytesB {b : Array UInt8} : Cl c k (.type "bytes") [.bytes b] (.bytes b) := by
  intro A h₀ L m mu D s vs Q E R B S ia h
  obtain ⟨v, rfl, i⟩ := all1 ia
  cases i
  rename_i t
  refine callType_codes (Q₁ := fun obj s₁ => s₁.TypeIs obj "bytes" ∧ Q obj s₁) PySem.F.bm_called (PySem.F.bm_typeCall _) PySem.F.entry_object_init
    (bytes_new_bytes ⟨PySem.W.typeIs_bytes _ _ _, h _ [] s.heap s.toks S (.bytes _ _)⟩) fun obj s₁ h₁ => ?_
  exact ⟨h₁.1, PySem.F.args_object_init_2 obj _, object_init_meets PySem.F.bm_called.init.lookup PySem.F.bm_called.made (by decide) c.prog c.w A.in1 _ s₁ ⟨h₁.1, rfl, h₁.2⟩⟩

/-! sorted, up to three tuples whose first ints differ -/
def Dif : List Dat → Prop := fun ds => ∀ d ∈ ds, ∃ a x, d = .tuple [.int a, x]

theorem ask_tup {prog : Program} {w : World} {A : Around} {E : Value → Shared → Prop} {s : Shared} {x y : Addr} {ox oy : Obj} {a b : Int} {t u : Tok} {v z : Value} {n m : Nat} {C : Bool → Shared → Prop} (hx : s.heap.get? x = some ox) (dx : ox.data = .seq #[.int a t, v] n) (hy : s.heap.get? y = some oy) (dy : oy.data = .seq #[.int b u, z] m)
    (hab : a ≠ b) (h : C (decide (a < b)) s) : wpAny (model prog w) A (keyLt' (tuples' true) (.ref x) (.ref y)) C E s := by
  refine kat_lt hx dx hy dy (kat_cons (wpAny_eqBool_int ?_))
  have e : (a == b) = false := by simpa using hab
  rw [e]
  exact kat_no (oneLt_int h)

theorem sorted_one {prog : Program} {w : World} {A : Around} {E : Value → Shared → Prop} {s : Shared} {h₀ : Heap} {L l : Addr} {m : Str → Option Value} {news : List (Addr × Obj)} {v : Value} {Q : Value → Shared → Prop} (F : Fr h₀ L s.heap m) (N : News h₀ L s.heap news) (hl : s.heap.IsList l [v].toArray)
    (h : ∀ D e h', Fr h₀ L h' m → News h₀ L h' ((D, PySem.W.listOf [v].toArray e) :: news) → (∀ q ∈ news, q.1 < D) → Q (.ref D) { s with heap := h' }) : wpAny (model prog w) A (call (.builtin "sorted") [.ref l]) Q E s := by
  refine Calls.call_function_entry kind_sorted plain_sorted entry_sorted (args_sorted1 _) ?_
  unfold Builtin.«sorted»
  refine wpAny_bind (m := checkCount "sorted" 1 1 _) (wpAny_pure ?_)
  refine wpAny_bind (collect_list hl ?_ (by rw [sizeLine_eq]; simp))
  refine wpAny_bind (wpAny_newList ?_ (by rw [sizeLine_eq]; simp))
  generalize hg : (s.heap.push (seqObj "list" #[] 0)).update s.heap.objs.size (Obj.mapSeq (· ++ [v].toArray)) = g
  have gsz : g.objs.size = s.heap.objs.size + 1 := by rw [← hg, Heap.size_update, size_push']
  have keep0 : ∀ b o, s.heap.get? b = some o → g.get? b = some o := fun b o q => by
    have hlt : b < s.heap.objs.size := Heap.lt_size q
    rw [← hg, Heap.get?_update_ne _ _ _ _ (Nat.ne_of_lt hlt), Heap.get?_push_ne _ _ _ (Nat.ne_of_lt hlt)]
    exact q
  generalize hD : g.objs.size = D
  have hlt : ∀ b o, s.heap.get? b = some o → b < D := fun b o q => by rw [← hD, gsz]; exact Nat.lt_succ_of_lt (Heap.lt_size q)
  have ho : (g.push (seqObj "list" [v].toArray 0)).get? D = some (seqObj "list" [v].toArray 0) := by rw [← hD]; exact Heap.get?_push_size _ rfl
  refine wpAny_bind (wpAny_holding (wpAny_call_entry slot_list_sort ⟨_, ho, rfl⟩ entry_list_sort ?body (args_list_sort _)))
  case body =>
    rw [list_sort_plain]
    refine wpAny_bind (listItems_at ho rfl ?_)
    refine wpAny_bind (listUpdate_at ho rfl ?_ (by rw [sizeLine_eq]; simp) (by rw [sizeLine_eq]; simp))
    obtain ⟨e1, ho1⟩ : ∃ e1, ((g.push (seqObj "list" [v].toArray 0)).update D (Obj.mapSeq fun _ => (#[] : Array Value))).get? D = some (seqObj "list" #[] e1) := ⟨_, get?_update_seq ho fun _ => #[]⟩
    refine wpAny_bind (seqEpoch_at ho1 rfl ?_)
    refine wpAny_bind (wpAny_newTuple ?_ (by rw [sizeLine_eq]; simp))
    refine wpAny_bind (wpAny_newList ?_ (by decide))
    refine wpAny_holding ?_
    dsimp only
    rw [if_pos (show #[v].size < 2 by simp), if_pos (show #[v].size < 2 by simp)]
    refine wpAny_bind (wpAny_pure ?_)
    refine wpAny_bind (wpAny_pure ?_)
    dsimp only
    generalize hg2 : (((g.push (seqObj "list" [v].toArray 0)).update D (Obj.mapSeq fun _ => (#[] : Array Value))).push { cls := .type "tuple", data := .seq [v].toArray }).push { cls := .type "list", data := .seq ([] : List Value).toArray } = g2
    have ho2 : g2.get? D = some (seqObj "list" #[] e1) := by rw [← hg2]; exact Heap.get?_push_of_some _ (Heap.get?_push_of_some _ ho1)
    refine wpAny_bind (seqEpoch_at ho2 rfl ?_)
    refine wpAny_bind (listUpdate_at ho2 rfl ?_ (Nat.zero_le _) (by
      rw [sizeLine_eq]
      show (Array.map (fun x => x.2) (arrOf (SortSt.mk' general' ([v].toArray.zip [v].toArray) #[] 7 none))).size ≤ _
      show (Array.map _ ([v].toArray.zip [v].toArray)).size ≤ _
      simp))
    have ea : Array.map (fun x => x.2) (arrOf (SortSt.mk' general' ([v].toArray.zip [v].toArray) #[] 7 none)) = #[v] := by
      show Array.map _ ([v].toArray.zip [v].toArray) = _
      simp
    rw [ea]
    obtain ⟨e2, ho3⟩ : ∃ e2, (g2.update D (Obj.mapSeq fun _ => (#[v] : Array Value))).get? D = some (seqObj "list" #[v] e2) := ⟨_, get?_update_seq ho2 fun _ => (#[v] : Array Value)⟩
    have keep : ∀ b o, s.heap.get? b = some o → (g2.update D (Obj.mapSeq fun _ => (#[v] : Array Value))).get? b = some o := fun b o q => by
      have hb := Nat.ne_of_lt (hlt b o q)
      rw [Heap.get?_update_ne _ _ _ _ hb, ← hg2]
      refine Heap.get?_push_of_some _ (Heap.get?_push_of_some _ ?_)
      rw [Heap.get?_update_ne _ _ _ _ hb]
      exact Heap.get?_push_of_some _ (keep0 b o q)
    simp only [bne_self_eq_false, Bool.false_eq_true, if_false]
    refine wpAny_pure ⟨_, rfl, wpAny_pure ⟨_, rfl, ?_⟩⟩
    refine h D e2 _ (F.keeps keep) (fun p hp => ?_) fun q hq => hlt q.1 q.2 (N q hq).1
    rcases List.mem_cons.mp hp with rfl | hp
    · refine ⟨ho3, ?_, ?_⟩
      · intro e
        obtain ⟨oL, _, _, hL, _⟩ := F.ns
        have := hlt L oL hL
        rw [← e] at this
        exact Nat.lt_irrefl _ this
      · exact none_of_ge (by rw [← hD, gsz]; exact Nat.le_trans F.above (Nat.le_succ_of_le (Nat.le_of_lt F.ns.lt)))
    · exact N.grown keep p hp
end
end Mine

namespace Mine

def krun {α : Type} (lt : Nat → Nat → Bool) : KasT α → α
  | .ret a => a
  | .ask i j k => krun lt (k (lt i j))
def kval {α : Type} (n : Nat) : KasT α → Bool
  | .ret _ => true
  | .ask i j k => i != j && decide (i < n) && decide (j < n) && kval n (k true) && kval n (k false)
theorem krun_wp {α : Type} {n : Nat} {lt : Nat → Nat → Bool} {cmp : Nat → Nat → (Bool → Shared → Prop) → Shared → Prop} {s : Shared} (hc : ∀ i j C, i ≠ j → i < n → j < n → C (lt i j) s → cmp i j C s) {Q : α → Shared → Prop} :
    ∀ t : KasT α, kval n t = true → Q (krun lt t) s → t.kasWp cmp Q s
  | .ret a, _, h => h
  | .ask i j k, hv, h => by
    simp only [kval, Bool.and_eq_true, bne_iff_ne, decide_eq_true_eq] at hv
    obtain ⟨⟨⟨⟨h1, h2⟩, h3⟩, h4⟩, h5⟩ := hv
    refine hc i j _ h1 h2 h3 ?_
    refine krun_wp hc (k (lt i j)) ?_ h
    cases lt i j with
    | true => exact h4
    | false => exact h5

theorem kval2 : kval 2 (kas_sort 2) = true := by decide +kernel
theorem kval3 : kval 3 (kas_sort 3) = true := by decide +kernel

def byRank (rk : List Nat) (i j : Nat) : Bool := decide (rk.getD i 0 < rk.getD j 0)

/-- a datum that is a tuple of an int and something -/
def tp (p : Int × Dat) : Dat := .tuple [.int p.1, p.2]

section
variable {c : Cfg} {k : Nat}

theorem tups_of {h₀ h : Heap} {L : Addr} {m : Str → Option Value} {mu D : List (Addr × Obj)} (S : St h₀ L m mu D h) : ∀ {vs : List Value} {ps : List (Int × Dat)}, DatAll D vs (ps.map tp) →
    ∃ fs : List Value, KatTups h vs fs ∧ (∀ v ∈ fs, ∃ a t, v = .int a t) ∧ fs.length = ps.length
  | _, [], .nil => ⟨[], trivial, fun _ h => (by cases h), rfl⟩
  | _, p :: ps, .cons i r => by
    obtain ⟨fs, h1, h2, h3⟩ := tups_of S r
    cases i with
    | tuple hm hd =>
      cases hd with
      | cons i1 r1 =>
        cases i1
        rename_i t
        refine ⟨.int p.1 t :: fs, KatTups.cons (S.get hm) rfl rfl rfl h1, fun v hv => ?_, by rw [List.length_cons, List.length_cons, h3]⟩
        rcases List.mem_cons.mp hv with rfl | hv
        · exact ⟨_, _, rfl⟩
        · exact h2 v hv

theorem sorted_core {ps : List (Int × Dat)} {rk : List Nat} {out : List Nat} (h2 : 2 ≤ ps.length) (h64 : ps.length < 64) (hv : kval ps.length (kas_sort ps.length) = true)
    (hr : ∀ i j, i ≠ j → i < ps.length → j < ps.length → (ps.getD i (0, .none)).1 ≠ (ps.getD j (0, .none)).1 ∧ decide ((ps.getD i (0, .none)).1 < (ps.getD j (0, .none)).1) = byRank rk i j)
    (ho : (krun (byRank rk) (kas_sort ps.length)).toList = out) (hb : ∀ i ∈ out, i < ps.length) :
    Cl c k (.builtin "sorted") [.list (ps.map tp)] (.list ((out.map fun i => ps.getD i (0, .none)).map tp)) := by
  intro A h₀ L m mu D s vs Q E R B S ia h
  obtain ⟨v, rfl, i⟩ := all1 ia
  cases i with
  | list hm hd =>
    rename_i l ws n
    have hlen : ws.length = ps.length := by rw [hd.length, List.length_map]
    refine kat_sorted S.fr S.nw (isList_of S hm) (by rw [hlen]; exact h2) (by rw [hlen]; exact h64) fun D' e1 h' F' N' lt => ?_
    have S1 : St h₀ L m mu D h' := S.ofFN F' (fun p hp => N' p (List.mem_cons_of_mem _ hp))
    obtain ⟨fs, t1, t2, t3⟩ := tups_of S1 hd
    refine kat_kind (T := .type "int") t1 (by rw [t3]; omega) (fun v hv => ?_) (by decide) ?_
    · obtain ⟨a, t, rfl⟩ := t2 v hv
      exact Looks.of_pure rfl
    · rw [show (Value.type "int" != Value.type "tuple") = true by decide, hlen]
      refine krun_wp (n := ps.length) (lt := byRank rk) (fun i j C hij hi hj hC => ?_) _ hv ?_
      · unfold kas_ask
        obtain ⟨x, hx, dx⟩ := hd.get (k := i) (by rw [List.length_map]; exact hi)
        obtain ⟨y, hy, dy⟩ := hd.get (k := j) (by rw [List.length_map]; exact hj)
        obtain ⟨q1, q2⟩ := hr i j hij hi hj
        have ei : ws.getD i Value.none = x := by rw [List.getD_eq_getElem?_getD, hx, Option.getD_some]
        have ej : ws.getD j Value.none = y := by rw [List.getD_eq_getElem?_getD, hy, Option.getD_some]
        rw [ei, ej]
        rw [List.getElem_map] at dx dy
        have pi : ps.getD i (0, .none) = ps[i] := by rw [List.getD_eq_getElem?_getD, List.getElem?_eq_getElem hi, Option.getD_some]
        have pj : ps.getD j (0, .none) = ps[j] := by rw [List.getD_eq_getElem?_getD, List.getElem?_eq_getElem hj, Option.getD_some]
        rw [pi, pj] at q1 q2
        unfold tp at dx dy
        cases dx with
        | tuple hmx hdx =>
          cases dy with
          | tuple hmy hdy =>
            cases hdx with
            | cons i1 r1 => cases i1; cases r1 with
              | cons i2 r2 => cases r2; cases hdy with
                | cons j1 s1 => cases j1; cases s1 with
                  | cons j2 s2 =>
                    cases s2
                    refine ask_tup (S1.get hmx) rfl (S1.get hmy) rfl q1 ?_
                    rw [q2]; exact hC
      · rw [ho]
        refine KasFin.intro F' N' (.head (fun p hp => Nat.ne_of_lt (lt p hp))) fun h'' c F'' N'' => ?_
        have S2 := S1.add1 F'' N'' lt
        refine h _ _ h'' s.toks S2 (.list (List.mem_append.mpr (.inl List.mem_cons_self)) ?_)
        have pick : ∀ l : List Nat, (∀ i ∈ l, i < ps.length) → DatAll D (l.map fun i => ws.getD i Value.none) ((l.map fun i => ps.getD i (0, .none)).map tp) := by
          intro l hl
          induction l with
          | nil => exact .nil
          | cons i l ih =>
            have hi := hl i List.mem_cons_self
            obtain ⟨x, hx, dx⟩ := hd.get (k := i) (by rw [List.length_map]; exact hi)
            rw [List.getElem_map] at dx
            refine .cons ?_ (ih fun j hj => hl j (List.mem_cons_of_mem _ hj))
            have pi : ps.getD i (0, .none) = ps[i] := by rw [List.getD_eq_getElem?_getD, List.getElem?_eq_getElem hi, Option.getD_some]
            show DatIn D (ws.getD i Value.none) (tp (ps.getD i (0, .none)))
            rw [List.getD_eq_getElem?_getD, hx, Option.getD_some, pi]
            exact dx
        exact (pick out hb).mono subL

def insP (p : Int × Dat) : List (Int × Dat) → List (Int × Dat)
  | [] => [p]
  | q :: r => if p.1 < q.1 then p :: q :: r else q :: insP p r
def sortP : List (Int × Dat) → List (Int × Dat)
  | [] => []
  | p :: r => insP p (sortP r)

theorem Cl.sorted {ps : List (Int × Dat)} (h1 : 1 ≤ ps.length) (h3 : ps.length ≤ 3) (hd : (ps.map (·.1)).Nodup) : Cl c k (.builtin "sorted") [.list (ps.map tp)] (.list ((sortP ps).map tp)) := by
  match ps, h1, h3, hd with
  | [p], _, _, _ =>
    intro A h₀ L m mu D s vs Q E R B S ia h
    obtain ⟨v, rfl, i⟩ := all1 ia
    cases i with
    | list hm hd =>
      cases hd with
      | cons i1 r1 =>
        cases r1
        exact sorted_one S.fr S.nw (isList_of S hm) fun D' e h' F N lt => h _ _ h' s.toks (S.add1 F N lt) (.list (List.mem_append.mpr (.inl List.mem_cons_self)) (.cons (i1.mono subL) .nil))
  | [(a, x), (b, y)], _, _, hd =>
    have hab : a ≠ b := by simpa using hd
    by_cases h : a < b
    · have z := sorted_core (c := c) (k := k) (ps := [(a, x), (b, y)]) (rk := [0, 1]) (out := [0, 1]) (by simp) (by simp) kval2 (fun i j hij hi hj => by
        match i, j, hi, hj with
        | 0, 0, _, _ => exact absurd rfl hij
        | 1, 1, _, _ => exact absurd rfl hij
        | 0, 1, _, _ => exact ⟨hab, by simp [byRank, h]⟩
        | 1, 0, _, _ => exact ⟨Ne.symm hab, by simp [byRank]; omega⟩) (by show (krun _ (kas_sort 2)).toList = _; decide +kernel) (by simp)
      have e : sortP [(a, x), (b, y)] = [(a, x), (b, y)] := by simp [sortP, insP, h]
      rw [e]; exact z
    · have z := sorted_core (c := c) (k := k) (ps := [(a, x), (b, y)]) (rk := [1, 0]) (out := [1, 0]) (by simp) (by simp) kval2 (fun i j hij hi hj => by
        match i, j, hi, hj with
        | 0, 0, _, _ => exact absurd rfl hij
        | 1, 1, _, _ => exact absurd rfl hij
        | 0, 1, _, _ => exact ⟨hab, by simp [byRank]; omega⟩
        | 1, 0, _, _ => exact ⟨Ne.symm hab, by simp [byRank]; omega⟩) (by show (krun _ (kas_sort 2)).toList = _; decide +kernel) (by simp)
      have e : sortP [(a, x), (b, y)] = [(b, y), (a, x)] := by simp [sortP, insP, h]
      rw [e]; exact z
  | [(a, x), (b, y), (d, z)], _, _, hd =>
    have hab : a ≠ b ∧ a ≠ d ∧ b ≠ d := by
      simp at hd; exact ⟨hd.1.1, hd.1.2, hd.2⟩
    have core : ∀ (rk out : List Nat), (krun (byRank rk) (kas_sort 3)).toList = out → (∀ i ∈ out, i < 3) → decide (a < b) = byRank rk 0 1 → decide (a < d) = byRank rk 0 2 → decide (b < d) = byRank rk 1 2 → decide (b < a) = byRank rk 1 0 → decide (d < a) = byRank rk 2 0 → decide (d < b) = byRank rk 2 1 →
        Cl c k (.builtin "sorted") [.list ([(a, x), (b, y), (d, z)].map tp)] (.list ((out.map fun i => [(a, x), (b, y), (d, z)].getD i (0, .none)).map tp)) := fun rk out ho hb e1 e2 e3 e4 e5 e6 =>
      sorted_core (c := c) (k := k) (ps := [(a, x), (b, y), (d, z)]) (rk := rk) (out := out) (by simp) (by simp) kval3 (fun i j hij hi hj => by
        match i, j, hi, hj with
        | 0, 0, _, _ => exact absurd rfl hij
        | 1, 1, _, _ => exact absurd rfl hij
        | 2, 2, _, _ => exact absurd rfl hij
        | 0, 1, _, _ => exact ⟨hab.1, e1⟩
        | 0, 2, _, _ => exact ⟨hab.2.1, e2⟩
        | 1, 2, _, _ => exact ⟨hab.2.2, e3⟩
        | 1, 0, _, _ => exact ⟨Ne.symm hab.1, e4⟩
        | 2, 0, _, _ => exact ⟨Ne.symm hab.2.1, e5⟩
        | 2, 1, _, _ => exact ⟨Ne.symm hab.2.2, e6⟩) ho hb
    obtain ⟨n1, n2, n3⟩ := hab
    by_cases h1 : a < b
    · by_cases h2 : b < d
      · have q := core [0, 1, 2] [0, 1, 2] (by decide +kernel) (by simp) (by simp [byRank]; omega) (by simp [byRank]; omega) (by simp [byRank]; omega) (by simp [byRank]; omega) (by simp [byRank]; omega) (by simp [byRank]; omega)
        have e : sortP [(a, x), (b, y), (d, z)] = [(a, x), (b, y), (d, z)] := by simp [sortP, insP, h1, h2]
        rw [e]; exact q
      · by_cases h3 : a < d
        · have q := core [0, 2, 1] [0, 2, 1] (by decide +kernel) (by simp) (by simp [byRank]; omega) (by simp [byRank]; omega) (by simp [byRank]; omega) (by simp [byRank]; omega) (by simp [byRank]; omega) (by simp [byRank]; omega)
          have e : sortP [(a, x), (b, y), (d, z)] = [(a, x), (d, z), (b, y)] := by simp [sortP, insP, h2, h3]
          rw [e]; exact q
        · have q := core [1, 2, 0] [2, 0, 1] (by decide +kernel) (by simp) (by simp [byRank]; omega) (by simp [byRank]; omega) (by simp [byRank]; omega) (by simp [byRank]; omega) (by simp [byRank]; omega) (by simp [byRank]; omega)
          have e : sortP [(a, x), (b, y), (d, z)] = [(d, z), (a, x), (b, y)] := by simp [sortP, insP, h1, h2, h3]
          rw [e]; exact q
    · by_cases h2 : b < d
      · by_cases h3 : a < d
        · have q := core [1, 0, 2] [1, 0, 2] (by decide +kernel) (by simp) (by simp [byRank]; omega) (by simp [byRank]; omega) (by simp [byRank]; omega) (by simp [byRank]; omega) (by simp [byRank]; omega) (by simp [byRank]; omega)
          have e : sortP [(a, x), (b, y), (d, z)] = [(b, y), (a, x), (d, z)] := by simp [sortP, insP, h1, h2, h3]
          rw [e]; exact q
        · have q := core [2, 0, 1] [1, 2, 0] (by decide +kernel) (by simp) (by simp [byRank]; omega) (by simp [byRank]; omega) (by simp [byRank]; omega) (by simp [byRank]; omega) (by simp [byRank]; omega) (by simp [byRank]; omega)
          have e : sortP [(a, x), (b, y), (d, z)] = [(b, y), (d, z), (a, x)] := by simp [sortP, insP, h1, h2, h3]
          rw [e]; exact q
      · have h3 : ¬ a < d := by omega
        have q := core [2, 1, 0] [2, 1, 0] (by decide +kernel) (by simp) (by simp [byRank]; omega) (by simp [byRank]; omega) (by simp [byRank]; omega) (by simp [byRank]; omega) (by simp [byRank]; omega) (by simp [byRank]; omega)
        have e : sortP [(a, x), (b, y), (d, z)] = [(d, z), (b, y), (a, x)] := by simp [sortP, insP, h1, h2, h3]
        rw [e]; exact q
end
end Mine

namespace Mine

section
variable {c : Cfg} {k : Nat} {A : Around}

theorem Has.sup {env : Env} {L : Addr} {m : Str → Option Value} {mu mu' D : List (Addr × Obj)} {Γ : List (Str × Dat)} (G : Has env L m mu D Γ) (h : ∀ p ∈ mu, p ∈ mu') : Has env L m mu' D Γ := fun x d e => by
  obtain ⟨v, r, i⟩ := G x d e
  refine ⟨v, ?_, i⟩
  cases r with
  | loc a b c => exact .loc a b c
  | own a b c d => exact .own (h _ a) b c d
  | cell a b c d => exact .cell a b (h _ c) d

theorem step_bind {target : Expr} {I : Addr} {ads : List Addr} {n i : Nat} {bd : Nat → List (Str × Dat)} {At : Nat → List (Addr × Obj) → List (Addr × Obj) → Prop} (T : It c A target I ads n bd At) (hi : i < n) {hB : Heap} {L : Addr} {m : Str → Option Value} {its mu D : List (Addr × Obj)} {s : Shared}
    {rest : Value → Sem Fin} {Qf : Fin → Shared → Prop} {E : Value → Shared → Prop} (hat : At i its D) (S : St hB L m (its ++ mu) D s.heap)
    (h : ∀ v its' h' tk, St hB L m (its' ++ mu) D h' → At (i + 1) its' D → Unp h' D target v (bd i) → wpAny (model c.prog c.w) A (rest v) Qf E { s with heap := h', toks := tk }) :
    wpAny (model c.prog c.w) A (pyNext (.ref I)) (fun r s₁ => wpAny (model c.prog c.w) A (match r with
      | none => pure (.done .next)
      | some v => letOwnedTupleGo target (.ref I) v >>= fun _ => rest v) Qf E s₁) E s := by
  refine wpAny_mono (T.step i hi hB L m mu D its s (fun v s₂ => wpAny (model c.prog c.w) A (rest v) Qf E s₂) E hat S h) (fun r s₁ hr => ?_) fun _ _ e => e
  obtain ⟨v, rfl, hv⟩ := hr
  exact wpAny_bind hv

/-- one clause's turns; what a turn does with the list is the act -/
theorem loop_level {elt : Expr} {gens : List Comprehension} {scope : Scope} {pos p0 px : Pos} {dp : Nat} {x : Str} {act : Sem Fin} {env : Env} {I a : Addr} {ads : List Addr} {n : Nat} {dd : Nat → Dat} {At : Nat → List (Addr × Obj) → List (Addr × Obj) → Prop} {R : Result → Shared → Prop}
    {hB : Heap} {m : Str → Option Value} {its mu mu0 D : List (Addr × Obj)} {s : Shared} {ys : List Value} {nn : Nat} (Γb : List (Str × Dat)) (ds0 : List Dat) (chunk : Nat → List Dat)
    (hturn : compTurn (.ListComp elt gens scope pos) dp (.ref I) (.ref a) env = (standAt p0 >>= fun _ => pyNext (.ref I) >>= fun r => match r with
      | none => pure (.done .next)
      | some v => letOwnedTupleGo (.Name x px) (.ref I) v >>= fun _ => assign (.Name x px) env v >>= fun _ => act))
    (T : It c A (.Name x px) I ads n (fun i => [(x, dd i)]) At) (hk : env.scope.kind = .function) (hx : env.kindOf x = some .local) (hdis : Γb.lookup x = none) (hm0 : ∀ p ∈ mu0, p ∈ mu)
    (hact : ∀ i < n, ∀ (its' : List (Addr × Obj)) m' D' ys' nn' (s' : Shared) (Q' : Fin → Shared → Prop) (E' : Value → Shared → Prop), St hB env.locals m' (its' ++ (a, PySem.W.listOf (List.toArray ys') nn') :: mu) D' s'.heap → (∀ p ∈ D, p ∈ D') → Has env env.locals m' mu0 D' ((x, dd i) :: Γb) →
      DatAll D' ys' (ds0 ++ (List.range i).flatMap chunk) →
      (∀ h'' tk'' D'' zs nn'' m'', St hB env.locals m'' (its' ++ (a, PySem.W.listOf (List.toArray (ys' ++ zs)) nn'') :: mu) D'' h'' → (∀ p ∈ D', p ∈ D'') → DatAll D'' zs (chunk i) → Has env env.locals m'' mu0 D'' Γb → Q' (.again (.compLoop (.ListComp elt gens scope pos) dp (.ref I) (.ref a) env)) { s' with heap := h'', toks := tk'' }) →
      wpAny (model c.prog c.w) A act Q' E' s')
    (hat : At 0 its D) (S : St hB env.locals m (its ++ (a, PySem.W.listOf (List.toArray ys) nn) :: mu) D s.heap) (G : Has env env.locals m mu0 D Γb) (hys : DatAll D ys ds0)
    (hR : ∀ h' tk D' ys' nn' m', St hB env.locals m' ((a, PySem.W.listOf (List.toArray ys') nn') :: mu) D' h' → (∀ p ∈ D, p ∈ D') → (∃ zs, ys' = ys ++ zs ∧ DatAll D' zs ((List.range n).flatMap chunk)) → DatAll D' ys' (ds0 ++ (List.range n).flatMap chunk) → Has env env.locals m' mu0 D' Γb → R (.ok .next) { s with heap := h', toks := tk }) :
    codeAny (model c.prog c.w) A (.compLoop (.ListComp elt gens scope pos) dp (.ref I) (.ref a) env) R s := by
  refine codeAny_loop rfl (fun fuel s' => ∃ i its' h'' tk' D' zs nn m', s' = { s with heap := h'', toks := tk' } ∧ fuel = n + 1 - i ∧ i ≤ n ∧ At i its' D' ∧ (∀ p ∈ D, p ∈ D') ∧
      St hB env.locals m' (its' ++ (a, PySem.W.listOf (List.toArray (ys ++ zs)) nn) :: mu) D' h'' ∧ DatAll D' zs ((List.range i).flatMap chunk) ∧ Has env env.locals m' mu0 D' Γb) ?_ (n + 1)
    ⟨0, its, s.heap, s.toks, D, [], nn, m, rfl, rfl, Nat.zero_le _, hat, fun p hp => hp, by rw [List.append_nil]; exact S, .nil, G⟩
  rintro fuel s' ⟨i, its', h₂, tk₂, D', zs, nn', m', rfl, rfl, hi, hat', hD', St₂, hzs, G₂⟩
  show wpAny _ A ((compTurn (.ListComp elt gens scope pos) dp (.ref I) (.ref a) env).onRaise (fun x => do noteFrame x env; theTreesLotGoes x)) _ _ _
  refine wpAny_noted ?_
  rw [hturn]
  refine wpAny_bind (wpAny_standAt (wpAny_bind ?_))
  have hall : DatAll D' (ys ++ zs) (ds0 ++ (List.range i).flatMap chunk) := (hys.mono hD').append hzs
  by_cases hlt : i < n
  · refine step_bind T hlt hat' St₂ fun v its₂ h₃ tk₃ St₃ hat₃ U => ?_
    cases U with
    | nm iv =>
      refine wpAny_bind (wpAny_assign_Name (store_loc (s := { s with heap := h₃, toks := tk₃ }) hk St₃ hx fun h₄ tk₄ St₄ => ?_))
      have G₄ : Has env env.locals (fun y => if y = x then some v else m' y) mu0 D' ((x, dd i) :: Γb) := fun y d e => by
        rw [List.lookup_cons] at e
        by_cases hyx : y == x
        · rw [hyx] at e; cases e
          have q : y = x := beq_iff_eq.mp hyx
          subst q
          exact ⟨v, .loc rfl hx (by simp), iv⟩
        · simp only [hyx] at e
          have hne : y ≠ x := fun q => by rw [q] at e; rw [hdis] at e; cases e
          obtain ⟨w, r, j⟩ := G₂ y d e
          refine ⟨w, ?_, j⟩
          cases r with
          | loc a b c => exact .loc a b (by simp [hne, c])
          | own a b c d => exact absurd rfl (St₃.nw _ (List.mem_append.mpr (.inl (List.mem_append.mpr (.inr (List.mem_cons_of_mem _ (hm0 _ a))))))).2.1
          | cell a b c d => exact .cell a b c d
      refine hact i hlt its₂ _ D' (ys ++ zs) nn' _ _ _ St₄ hD' G₄ hall fun h₅ tk₅ D₅ zs' nn₅ m₅ St₅ hD₅ hz G₅ => ?_
      refine ⟨rfl, n + 1 - (i + 1), by omega, i + 1, its₂, h₅, tk₅, D₅, zs ++ zs', nn₅, m₅, rfl, rfl, hlt, T.mono _ _ _ _ hat₃ hD₅, fun p hp => hD₅ p (hD' p hp), by rw [← List.append_assoc]; exact St₅, ?_, G₅⟩
      rw [List.range_succ, List.flatMap_append, List.flatMap_singleton]
      exact (hzs.mono hD₅).append hz
  · have ein : i = n := by omega
    subst ein
    refine T.done _ _ m' _ D' its' _ _ _ hat' St₂ fun h₃ tk₃ St₃ => ?_
    exact wpAny_pure (hR h₃ tk₃ D' (ys ++ zs) nn' m' St₃ hD' ⟨zs, rfl, hzs⟩ ((hys.mono hD').append hzs) G₂)

theorem turn0 (elt it1 it2 : Expr) (x y : Str) (p1 p2 : Pos) (scope : Scope) (pos : Pos) (it acc : Value) (env : Env) :
    compTurn (.ListComp elt [⟨.Name x p1, it1, [], 0⟩, ⟨.Name y p2, it2, [], 0⟩] scope pos) 0 it acc env = (standAt it1.pos >>= fun _ => pyNext it >>= fun r => match r with
      | none => pure (.done .next)
      | some v => letOwnedTupleGo (.Name x p1) it v >>= fun _ => assign (.Name x p1) env v >>= fun _ =>
        (eval it2 env >>= fun z => standAt it2.pos >>= fun _ => foldedSetIterable it2 env z >>= fun z => holding [z] (pyIter z) >>= fun j => runOwn (.compStart (.ListComp elt [⟨.Name x p1, it1, [], 0⟩, ⟨.Name y p2, it2, [], 0⟩] scope pos) 1 j acc env) env >>= fun _ =>
          again (.compLoop (.ListComp elt [⟨.Name x p1, it1, [], 0⟩, ⟨.Name y p2, it2, [], 0⟩] scope pos) 0 it acc env))) := by rfl
theorem turn1 (elt it1 it2 : Expr) (x y : Str) (p1 p2 : Pos) (scope : Scope) (pos : Pos) (it acc : Value) (env : Env) :
    compTurn (.ListComp elt [⟨.Name x p1, it1, [], 0⟩, ⟨.Name y p2, it2, [], 0⟩] scope pos) 1 it acc env = (standAt it2.pos >>= fun _ => pyNext it >>= fun r => match r with
      | none => pure (.done .next)
      | some v => letOwnedTupleGo (.Name y p2) it v >>= fun _ => assign (.Name y p2) env v >>= fun _ =>
        (eval elt env >>= fun z => call (.builtin "list.append") [acc, z] >>= fun _ => pure ()) >>= fun _ =>
          again (.compLoop (.ListComp elt [⟨.Name x p1, it1, [], 0⟩, ⟨.Name y p2, it2, [], 0⟩] scope pos) 1 it acc env)) := by rfl
end
end Mine

namespace Mine

section
variable {h₀ h h' : Heap} {L : Addr} {m : Str → Option Value} {mu D : List (Addr × Obj)} {C : Addr} {oC : Obj}
theorem St.dropC (S : St h₀ L m ((C, oC) :: mu) D h) (hs : Heap.SameBut C h h') : St h₀ L m mu D h' := by
  have n0 := S.nw (C, oC) List.mem_cons_self
  have nd := S.nd
  rw [List.map_cons, List.nodup_cons] at nd
  refine ⟨⟨S.fr.ns.sameBut hs (Ne.symm n0.2.1), fun b ob e => ?_, S.fr.above⟩, fun p hp => ?_, fun p hp => S.off p (List.mem_cons_of_mem _ hp), nd.2⟩
  · exact hs.extBut b ob (fun q => by rw [q, n0.2.2] at e; cases e) (S.fr.keep b ob e)
  · have z := S.nw p (List.mem_cons_of_mem _ hp)
    refine ⟨hs.extBut _ _ (fun q => ?_) z.1, z.2⟩
    rcases List.mem_append.mp hp with hp | hp
    · exact nd.1 (List.mem_map.mpr ⟨p, hp, q⟩)
    · exact S.off (C, oC) List.mem_cons_self p hp q.symm
theorem St.addMC (S : St h₀ L m mu D h) (ho : h.get? C = some oC) (hL : C ≠ L) (h0 : h₀.get? C = none) (hm : ∀ p ∈ mu, p.1 ≠ C) (hD : ∀ p ∈ D, p.1 ≠ C) : St h₀ L m ((C, oC) :: mu) D h := by
  refine ⟨S.fr, fun p hp => ?_, fun p hp q hq => ?_, ?_⟩
  · rcases List.mem_cons.mp hp with rfl | hp
    · exact ⟨ho, hL, h0⟩
    · exact S.nw p hp
  · rcases List.mem_cons.mp hp with rfl | hp
    · exact fun e => hD q hq e.symm
    · exact S.off p hp q hq
  · rw [List.map_cons, List.nodup_cons]
    refine ⟨fun hh => ?_, S.nd⟩
    obtain ⟨p, hp, e⟩ := List.mem_map.mp hh
    exact hm p hp e
end

section
variable {c : Cfg} {k : Nat} {env : Env} {Γ : List (Str × Dat)} {o : Option (Str × List Dat)}

theorem SatM.dropC {h₀ h h' : Heap} {R D₀ : List (Addr × Obj)} {m : Str → Option Value} {mu D : List (Addr × Obj)} {C : Addr} {oC : Obj} (S : SatM env h₀ ((C, oC) :: R) D₀ Γ o m mu D h) (hs : Heap.SameBut C h h') (hRC : ∀ p ∈ R, p.1 ≠ C) : Sat env h₀ R D₀ Γ o h' := by
  obtain ⟨hmem, hcell⟩ := S.rs (C, oC) List.mem_cons_self
  obtain ⟨r, hp⟩ := mem_perm hmem
  have S1 := (S.st.perm hp).dropC hs
  have keep : ∀ p ∈ mu, p.1 ≠ C → p ∈ r := fun p hp' hn => by
    rcases List.mem_cons.mp (hp.mem_iff.mp hp') with rfl | q
    · exact absurd rfl hn
    · exact q
  have rdk : ∀ x v, Rd env env.locals m mu x v → Rd env env.locals m r x v := fun x v rd => rd.perm fun a ob hm hc => by
    rcases hc with ⟨y, hy⟩ | rfl
    · exact keep _ hm fun e => hcell y a hy e.symm
    · exact absurd rfl (S.st.nw _ (List.mem_append.mpr (.inl hm))).2.1
  refine ⟨m, r, D, S1, fun x d hx => ?_, ⟨fun x c hx => ?_, S.ce.one⟩, fun p hp' => ?_, S.d0, fun x ds hx => ?_⟩
  · obtain ⟨v, rd, i⟩ := S.hs x d hx
    exact ⟨v, rdk x v rd, i⟩
  · obtain ⟨ob, v, h1, h2⟩ := S.ce.is x c hx
    exact ⟨ob, v, keep _ h1 fun e => hcell x c hx e.symm, h2⟩
  · have z := S.rs p (List.mem_cons_of_mem _ hp')
    exact ⟨keep p z.1 (hRC p hp'), z.2⟩
  · obtain ⟨a, vs, nn, h1, h2, h3, h4, h5⟩ := S.ow x ds hx
    exact ⟨a, vs, nn, keep _ h1 fun e => h4 _ List.mem_cons_self e.symm, rdk _ _ h2, h3, fun p hp' => h4 p (List.mem_cons_of_mem _ hp'), h5⟩

theorem codeAny_compStart_one {prog : Program} {w : World} {A : Around} {R : Result → Shared → Prop} {s : Shared} {elt it1 it2 : Expr} {x y : Str} {p1 p2 : Pos} {scope : Scope} {pos : Pos} {it acc : Value} {env : Env}
    (h0 : codeAny (model prog w) A (.compLoop (.ListComp elt [⟨.Name x p1, it1, [], 0⟩, ⟨.Name y p2, it2, [], 0⟩] scope pos) 1 it acc env) R s)
    (h : wpAny (model prog w) A (pyIter it) (fun it' s' => codeAny (model prog w) A (.compLoop (.ListComp elt [⟨.Name x p1, it1, [], 0⟩, ⟨.Name y p2, it2, [], 0⟩] scope pos) 1 it' acc env) R s')
      (notedBy (model prog w) A env fun x s' => R (.error x) s') s) :
    codeAny (model prog w) A (.compStart (.ListComp elt [⟨.Name x p1, it1, [], 0⟩, ⟨.Name y p2, it2, [], 0⟩] scope pos) 1 it acc env) R s := by
  refine codeAny_of_tree ?_
  show wpAny _ _ ((compStart (.ListComp elt [⟨.Name x p1, it1, [], 0⟩, ⟨.Name y p2, it2, [], 0⟩] scope pos) 1 it acc env).onRaise (fun x => do noteFrame x env; standAt theWindowsPlace)) _ _ s
  refine wpAny_notedAt ?_
  unfold compStart
  show wpAny _ _ (ask >>= _) _ _ s
  refine wpAny_bind (wpAny_askSetting (wpAny_ite ?_))
  split
  · first
      | exact wpAny_bind (wpAny_pure (wpAny_pure (And.intro rfl h0)))
      | exact wpAny_pure (And.intro rfl h0)
  · first
      | exact wpAny_bind (wpAny_rule (wpAny_bind (wpAny_standAt (wpAny_bind (wpAny_mono h (fun it' s' h' => wpAny_pure (And.intro rfl h')) fun _ _ x => x)))))
      | (refine wpAny_bind (wpAny_rule ?_); show wpAny _ _ (standAt it2.pos >>= _) _ _ s; exact wpAny_bind (wpAny_standAt (wpAny_bind (wpAny_mono h (fun it' s' h' => wpAny_pure (And.intro rfl h')) fun _ _ x => x))))

theorem Has.tail {L : Addr} {m : Str → Option Value} {mu D : List (Addr × Obj)} {x : Str} {d : Dat} (G : Has env L m mu D ((x, d) :: Γ)) (hx : Γ.lookup x = none) : Has env L m mu D Γ := fun y e h => by
  refine G y e ?_
  rw [List.lookup_cons]
  by_cases hyx : y == x
  · have : y = x := beq_iff_eq.mp hyx
    rw [this, hx] at h; cases h
  · simp only [hyx]; exact h

theorem flat_len {f : Nat → List Dat} {B n : Nat} (h : ∀ i < n, (f i).length ≤ B) : ((List.range n).flatMap f).length ≤ n * B := by
  induction n with
  | zero => simp
  | succ n ih =>
    rw [List.range_succ, List.flatMap_append, List.flatMap_singleton, List.length_append, Nat.succ_mul]
    exact Nat.add_le_add (ih fun i hi => h i (Nat.lt_succ_of_lt hi)) (h n (Nat.lt_succ_self n))

def flat2 (n : Nat) (n2 : Nat → Nat) (res : Nat → Nat → Dat) : List Dat := (List.range n).flatMap fun i => (List.range (n2 i)).flatMap fun j => [res i j]

set_option maxHeartbeats 1000000 in
theorem Ex1.comp2 {elt it1 it2 : Expr} {f x y : Str} {pf p1 p2 : Pos} {scope : Scope} {pos spos : Pos} {n : Nat} {n2 : Nat → Nat} {d1 : Nat → Dat} {d2 res : Nat → Nat → Dat} {cl : List (Str × Addr)} (Γf : List (Str × Dat)) (he : EnvOk env) (hkf : env.kindOf f = some .local)
    (src1 : ItE c k env Γ it1 (.Name x p1) n (fun i => [(x, d1 i)]))
    (src2 : ∀ i < n, ∀ C, ItE c k (compEnvC scope cl C env) ((x, d1 i) :: Γf) it2 (.Name y p2) (n2 i) (fun j => [(y, d2 i j)]))
    (hel : ∀ i < n, ∀ j < n2 i, ∀ C, Ev c k (compEnvC scope cl C env) ((y, d2 i j) :: (x, d1 i) :: Γf) elt (res i j))
    (hf : ∀ x d, Γf.lookup x = some d → Γ.lookup x = some d ∧ scope.names.lookup x = some .free ∧ env.kindOf x = some .cell ∧ ∃ a, cl.lookup x = some a ∧ env.cells.lookup x = some a)
    (hclos : closureFor scope env = pure cl) (hcell : ∀ y ∈ scope.names, y.2 ≠ .cell) (hkind : scope.kind = .function) (hnames : ∀ y ∈ scope.names, y.2 = .local → scope.names.lookup y.1 = some .local)
    (hx : scope.names.lookup x = some .local) (hy : scope.names.lookup y = some .local) (hxy : y ≠ x) (hfx : Γf.lookup x = none) (hfy : Γf.lookup y = none) (hn : n ≤ 1000) (hn2 : ∀ i < n, n2 i ≤ 1000)
    (hsw : swapsWith (.ListComp elt [⟨.Name x p1, it1, [], 0⟩, ⟨.Name y p2, it2, [], 0⟩] scope pos) (some (.Name f pf)) spos.line env = pure true)
    (hs : ∀ x, foldedSetIterable it1 env x = pure x := by intro _; rfl) (hs2 : ∀ C x, foldedSetIterable it2 (compEnvC scope cl C env) x = pure x := by intro _ _; rfl) :
    Ex1 c k env Γ none (.Assign [.Name f pf] (.ListComp elt [⟨.Name x p1, it1, [], 0⟩, ⟨.Name y p2, it2, [], 0⟩] scope pos) spos) (.next ((f, .list (flat2 n n2 res)) :: Γ) none) := by
  intro A h₀ R₀ D₀ s Q E r B S P
  obtain ⟨m, mu, D, S⟩ := S
  rw [exec_Assign_Name_used _ _ _ _ hsw]
  refine wpAny_bind (wpAny_standAt (wpAny_bind ?_))
  show wpAny _ A (do let _ ← comprehension (.ListComp elt [⟨.Name x p1, it1, [], 0⟩, ⟨.Name y p2, it2, [], 0⟩] scope pos) scope env _ (newList []) false (eval it1 env) (some (assign (.Name f pf) env))) _ _ s
  refine wpAny_bind (wpAny_mono (wpAny_comprehension_free (use := some (assign (.Name f pf) env)) (Q := fun _ s' => Q .next s') (g := ⟨.Name x p1, it1, [], 0⟩) (gs := [⟨.Name y p2, it2, [], 0⟩]) rfl hs hclos hkind hnames ?_) (fun _ s' hq => wpAny_pure (wpAny_pure hq)) fun _ _ e => e)
  show wpAny _ A (eval it1 env) _ _ s
  refine src1 A h₀ _ m mu D s _ E r B S.st S.hs fun I ads At its tl h' tk T hat S' => ?_
  refine wpAny_newObj_type (wpAny_newFunctionEnv hcell (by intro y hy; simp at hy) (fun h₁ hns₁ hsb₁ => ?_) hkind)
  dsimp only at hns₁ hsb₁ ⊢
  generalize hH2 : h'.push { cls := .type "list", dict := none, data := .seq ([] : List Value).toArray } = H2 at hns₁ hsb₁ ⊢
  have hC : H2.objs.size = h'.objs.size + 1 := by rw [← hH2, Heap.size_push]
  generalize hCc : H2.objs.size = C at hns₁ hsb₁ ⊢
  generalize ha : h'.objs.size = a
  have haC : @Eq Nat C (a + 1) := by rw [← hCc, hC, ha]
  have lt_ne : ∀ b : Nat, b < a → @Ne Nat b C := fun b hb => by omega
  have aC : @Ne Nat a C := by omega
  have old : ∀ b o, h'.get? b = some o → h₁.get? b = some o := fun b o e => hsb₁.extBut b o (lt_ne b (by have := Heap.lt_size e; rw [ha] at this; exact this)) (Heap.get?_push_of_some _ (hH2 ▸ Heap.get?_push_of_some _ e))
  have hacc : h₁.get? a = some (PySem.W.listOf ([] : List Value).toArray 0) := hsb₁.extBut _ _ aC (Heap.get?_push_of_some _ (by rw [← hH2, ← ha]; exact Heap.get?_push_size _ rfl))
  generalize hZ : (its ++ mu ++ (tl ++ D)).map (·.1) = Z
  have memZ : ∀ b, b ∈ Z → h₀.get? b = none ∧ b ≠ env.locals := fun b hb => by
    rw [← hZ] at hb
    obtain ⟨o, hm⟩ := keys_map hb
    have := S'.nw _ hm
    exact ⟨this.2.2, this.2.1⟩
  have inZ : ∀ p ∈ its ++ mu ++ (tl ++ D), p.1 ∈ Z := fun p hp => hZ ▸ List.mem_map_of_mem hp
  have subH : Sub c.H (hideAll h' Z) := sub_hide (h₀ := h₀) (S'.sub B) fun b hb => by
    cases e : c.H.get? b with
    | none => rfl
    | some o => have := B b o e; rw [(memZ b hb).1] at this; cases this
  have ltA : ∀ p ∈ its ++ mu ++ (tl ++ D), p.1 < a := fun p hp => by
    have := Heap.lt_size (S'.nw p hp).1
    rw [ha] at this; exact this
  have sz : (hideAll h' Z).objs.size = a := (hideAll_size Z h').trans ha
  have St₁ : St (hideAll h' Z) C (fun x => ([] : List (Str × Value)).reverse.lookup x) (its ++ (a, PySem.W.listOf ([] : List Value).toArray 0) :: mu) (tl ++ D) h₁ := by
    refine ⟨⟨hns₁, fun b o e => old b o (of_hideAll Z e), by rw [sz, haC]; exact Nat.le_succ a⟩, fun p hp => ?_, fun p hp q hq => ?_, ?_⟩
    · have hp' : p = (a, PySem.W.listOf ([] : List Value).toArray 0) ∨ p ∈ its ++ mu ++ (tl ++ D) := by
        simp only [List.mem_append, List.mem_cons] at hp ⊢
        rcases hp with (hp | rfl | hp) | hp
        · exact .inr (.inl (.inl hp))
        · exact .inl rfl
        · exact .inr (.inl (.inr hp))
        · exact .inr (.inr hp)
      rcases hp' with rfl | hp'
      · exact ⟨hacc, aC, none_of_ge (by rw [sz]; exact Nat.le_refl a)⟩
      · have := ltA p hp'
        exact ⟨old _ _ (S'.nw p hp').1, lt_ne _ this, hideAll_none Z (inZ p hp')⟩
    · rcases List.mem_append.mp hp with hp | hp
      · exact S'.off p (List.mem_append.mpr (.inl hp)) q hq
      · rcases List.mem_cons.mp hp with rfl | hp
        · exact Nat.ne_of_gt (ltA q (List.mem_append.mpr (.inr hq)))
        · exact S'.off p (List.mem_append.mpr (.inr hp)) q hq
    · have nd := S'.nd
      have e : ((its ++ (a, PySem.W.listOf ([] : List Value).toArray 0) :: mu).map (·.1)).Perm (a :: (its ++ mu).map (·.1)) := (List.perm_middle (l₁ := its) (l₂ := mu)).map (·.1)
      rw [e.nodup_iff, List.nodup_cons]
      refine ⟨fun hm => ?_, nd⟩
      obtain ⟨o, hm⟩ := keys_map hm
      exact Nat.lt_irrefl _ (ltA _ (List.mem_append.mpr (.inl hm)))
  have hck : (compEnvC scope cl C env).scope.kind = .function := hkind
  have hxk : (compEnvC scope cl C env).kindOf x = some .local := lookup_relabel_local hx
  have hyk : (compEnvC scope cl C env).kindOf y = some .local := lookup_relabel_local hy
  have hyΓ : ∀ i, ((x, d1 i) :: Γf).lookup y = none := fun i => by
    rw [List.lookup_cons]
    have : (y == x) = false := by simpa using hxy
    simp only [this]; exact hfy
  have G₁ : Has (compEnvC scope cl C env) C (fun x => ([] : List (Str × Value)).reverse.lookup x) mu (tl ++ D) Γf := fun z d e => by
    obtain ⟨e1, e2, e3, b, e4, e5⟩ := hf z d e
    obtain ⟨v, rv, j⟩ := S.hs z d e1
    refine ⟨v, ?_, j.mono subL⟩
    cases rv with
    | loc _ q _ => rw [e3] at q; cases q
    | own _ _ q _ => rw [e3] at q; cases q
    | cell q1 _ q3 q4 =>
      rw [e5] at q1; cases q1
      exact .cell e4 (lookup_relabel_free he.k e2 e3) q3 q4
  have inner : ∀ i, ((List.range (n2 i)).flatMap fun j => [res i j]).length ≤ n2 i := fun i => by
    have := flat_len (f := fun j => [res i j]) (B := 1) (n := n2 i) fun _ _ => Nat.le_refl _
    omega
  have hat₁ : At 0 its (tl ++ D) := hat
  have loop : ∀ s₃ : Shared, s₃ = { s with heap := h₁, toks := tk + ([] : List (Str × Value)).length } →
      codeAny (model c.prog c.w) A (.compLoop (.ListComp elt [⟨.Name x p1, it1, [], 0⟩, ⟨.Name y p2, it2, [], 0⟩] scope pos) 0 (.ref I) (.ref a) (compEnvC scope cl C env)) (compPost (model c.prog c.w) A E (some (assign (.Name f pf) env)) (fun _ s' => Q .next s') (.ref a) C) s₃ := by
    rintro s₃ rfl
    refine loop_level (env := compEnvC scope cl C env) (mu := mu) (mu0 := mu) (ys := []) Γf [] (fun i => (List.range (n2 i)).flatMap fun j => [res i j]) (turn0 ..) T hck hxk hfx (fun p hp => hp) (fun i hi its' m' D' ys' nn' s' Q' E' St₂ hD' G₂ hys hq => ?_) hat₁ St₁ G₁ .nil fun h₃ tk₃ D₃ ys₃ nn₃ m₃ St₃ hD₃ _ hys₃ G₃ => ?_
    · refine wpAny_bind (wpAny_mono (src2 i hi C A _ _ m' _ D' s' (fun j s₁ => wpAny (model c.prog c.w) A (runOwn (.compStart (.ListComp elt [⟨.Name x p1, it1, [], 0⟩, ⟨.Name y p2, it2, [], 0⟩] scope pos) 1 j (.ref a) (compEnvC scope cl C env)) (compEnvC scope cl C env) >>= fun _ =>
          again (.compLoop (.ListComp elt [⟨.Name x p1, it1, [], 0⟩, ⟨.Name y p2, it2, [], 0⟩] scope pos) 0 (.ref I) (.ref a) (compEnvC scope cl C env))) Q' E' s₁) E' r subH St₂ (G₂.sup fun p hp => List.mem_append.mpr (.inr (List.mem_cons_of_mem _ hp))) fun I2 ads2 At2 its2 tl2 h2 tk2 T2 hat2 St₄ => ?_)
          (fun z s₁ hz => wpAny_bind (wpAny_standAt (wpAny_bind (wpAny_of_eq (hs2 C z) (wpAny_bind (wpAny_holding hz)))))) fun _ _ e => e)
      refine wpAny_bind (wpAny_runOwn ?_)
      rw [Around.mark_none]
      have hp1 : (its2 ++ (its' ++ (a, PySem.W.listOf (List.toArray ys') nn') :: mu)).Perm (its2 ++ (a, PySem.W.listOf (List.toArray ys') nn') :: (its' ++ mu)) := List.Perm.append_left its2 List.perm_middle
      have St₅ := St₄.perm hp1
      have lp : codeAny (model c.prog c.w) A (.compLoop (.ListComp elt [⟨.Name x p1, it1, [], 0⟩, ⟨.Name y p2, it2, [], 0⟩] scope pos) 1 (.ref I2) (.ref a) (compEnvC scope cl C env)) (fun r s'_1 => match r with | .ok f => wpAny (model c.prog c.w) A (again (.compLoop (.ListComp elt [⟨.Name x p1, it1, [], 0⟩, ⟨.Name y p2, it2, [], 0⟩] scope pos) 0 (.ref I) (.ref a) (compEnvC scope cl C env))) Q' E' s'_1 | .error e => cameBackBy (model c.prog c.w) A (compEnvC scope cl C env) E' e s'_1) { s' with heap := h2, toks := tk2 } := by
        refine loop_level (env := compEnvC scope cl C env) (mu := its' ++ mu) (mu0 := mu) (ys := ys') ((x, d1 i) :: Γf) _ (fun j => [res i j]) (turn1 ..) T2 hck hyk (hyΓ i) (fun p hp => List.mem_append.mpr (.inr hp)) (fun j hj its₄ m₄ D₄ ys₄ nn₄ s₄ Q₄ E₄ St₆ hD₄ G₆ hys₄ hq₄ => ?_) hat2 St₅ (G₂.mono subL) (hys.mono subL) fun h₅ tk₅ D₅ ys₅ nn₅ m₅ St₇ hD₅ hz _ G₇ => ?_
        · have hsz : ys₄.length ≤ 16777216 := by
            rw [hys₄.length, List.length_append, List.length_append]
            have q1 := flat_len (f := fun i => (List.range (n2 i)).flatMap fun j => [res i j]) (B := 1000) (n := i) fun i' hi' => Nat.le_trans (inner i') (hn2 i' (Nat.lt_trans hi' hi))
            have q2 := flat_len (f := fun j => [res i j]) (B := 1) (n := j) fun _ _ => Nat.le_refl _
            have := hn2 i hi
            have q3 : i * 1000 ≤ 1000 * 1000 := Nat.mul_le_mul_right _ (by omega)
            simp only [List.length_nil]
            omega
          refine wpAny_bind (wpAny_bind (hel i hi j hj C A _ _ m₄ _ D₄ s₄ _ E₄ r subH St₆ (G₆.sup fun p hp => List.mem_append.mpr (.inr (List.mem_cons_of_mem _ (List.mem_append.mpr (.inr hp))))) fun xv tl₅ h₅ tk₅ St₇ jv => ?_))
          refine wpAny_bind (append_at (s := { s₄ with heap := h₅, toks := tk₅ }) (hsz := by rw [List.size_toArray, sizeLine_eq]; exact hsz) (St₇.getM (List.mem_append.mpr (.inr List.mem_cons_self))) fun h₆ hsb₆ ho₆ => wpAny_pure (wpAny_pure ?_))
          have St₈ := ((St₇.perm List.perm_middle).turn hsb₆ ho₆).perm List.perm_middle.symm
          have e : ys₄.toArray.push xv = (ys₄ ++ [xv]).toArray := by simp
          rw [e] at St₈
          exact hq₄ h₆ tk₅ _ [xv] (nn₄ + 1) m₄ St₈ subL (.one jv) ((G₆.tail (hyΓ i)).mono subL)
        · obtain ⟨zs, rfl, hz⟩ := hz
          exact wpAny_pure (hq h₅ tk₅ D₅ zs nn₅ m₅ (St₇.perm List.perm_middle.symm) (fun p hp => hD₅ p (subL p hp)) hz (G₇.tail hfx))
      exact codeAny_compStart_one lp (T2.self 0 _ _ _ _ _ its2 _ _ _ hat2 St₄ lp)
    · show wpAny _ A (assign (.Name f pf) env (.ref a)) _ _ _
      obtain ⟨oC, hoC, hNs⟩ := LCg.ns_obj St₃.fr.ns
      have fr0 := S'.fresh0 (a := C) (by rw [ha, haC]; exact Nat.le_succ a)
      have keep3 : ∀ p ∈ (a, PySem.W.listOf (List.toArray ys₃) nn₃) :: mu ++ D₃, h₃.get? p.1 = some p.2 := fun p hp => (St₃.nw p hp).1
      have fin := S'.dropL.back (h' := h₃) (Z := Z) (tl := (a, PySem.W.listOf (List.toArray ys₃) nn₃) :: D₃) memZ (fun b o e => St₃.fr.keep b o e)
        (fun p hp => keep3 p (List.mem_append.mpr (.inl (List.mem_cons_of_mem _ hp)))) (fun p hp => keep3 p (List.mem_append.mpr (.inr (hD₃ p hp)))) (fun p hp => by
          rcases List.mem_cons.mp hp with rfl | hp
          · exact ⟨keep3 _ List.mem_cons_self, none_of_ge (by rw [sz]; exact Nat.le_refl a), fun q hq => Nat.ne_of_lt (ltA q (List.mem_append.mpr (.inl (List.mem_append.mpr (.inr hq)))))⟩
          · exact ⟨keep3 _ (List.mem_append.mpr (.inr hp)), (St₃.nw p (List.mem_append.mpr (.inr hp))).2.2, fun q hq => St₃.off q (List.mem_cons_of_mem _ hq) p hp⟩)
      have notC : ∀ p ∈ mu, p.1 ≠ C := fun p hp => (St₃.nw p (List.mem_append.mpr (.inl (List.mem_cons_of_mem _ hp)))).2.1
      have fin2 := fin.addMC hoC fr0.2 fr0.1 notC (fun p hp => by
        rcases List.mem_append.mp hp with hp | hp
        · rcases List.mem_cons.mp hp with rfl | hp
          · exact aC
          · exact (St₃.nw p (List.mem_append.mpr (.inr hp))).2.1
        · exact (St₃.nw p (List.mem_append.mpr (.inr (hD₃ p hp)))).2.1)
      have S₅ : SatM env h₀ ((C, oC) :: R₀) D₀ Γ none m ((C, oC) :: mu) (((a, PySem.W.listOf (List.toArray ys₃) nn₃) :: D₃) ++ (tl ++ D)) h₃ := by
        refine ⟨fin2, (S.hs.sup fun p hp => List.mem_cons_of_mem _ hp).mono fun p hp => List.mem_append.mpr (.inr (List.mem_append.mpr (.inr hp))), ⟨fun z b e => ?_, S.ce.one⟩, fun p hp => ?_, fun p hp => List.mem_append.mpr (.inr (List.mem_append.mpr (.inr (S.d0 p hp)))), fun _ _ e => by cases e⟩
        · obtain ⟨ob, v, q1, q2⟩ := S.ce.is z b e
          exact ⟨ob, v, List.mem_cons_of_mem _ q1, q2⟩
        · rcases List.mem_cons.mp hp with rfl | hp
          · refine ⟨List.mem_cons_self, fun z b e q => ?_⟩
            obtain ⟨ob, v, q1, q2⟩ := S.ce.is z b e
            exact notC _ q1 q.symm
          · exact ⟨List.mem_cons_of_mem _ (S.rs p hp).1, (S.rs p hp).2⟩
      refine wpAny_assign_Name (S₅.store (s := { s with heap := h₃, toks := tk₃ }) (d := .list (flat2 n n2 res)) he (.inl hkf) ?_ (fun _ _ e => by cases e) fun h₅ tk₅ m₅ mu₅ S₆ => ?_)
      · refine .list (n := nn₃) (vs := ys₃) (List.mem_append.mpr (.inl List.mem_cons_self)) (DatAll.mono (fun p hp => List.mem_append.mpr (.inl (List.mem_cons_of_mem _ hp))) ?_)
        exact hys₃
      · refine ⟨_, hNs.ns (S₆.st.getM (S₆.rs _ List.mem_cons_self).1), fun h₆ hs₆ => ?_⟩
        exact P h₆ tk₅ (S₆.dropC hs₆ fun p hp => notC p (S.rs p hp).1)
  refine codeAny_compStart_list (loop _ rfl) (T.self 0 _ _ _ _ _ its _ _ _ hat₁ St₁ (loop _ rfl))
end
end Mine

namespace Mine

section
variable {c : Cfg} {k : Nat} {env : Env} {Γ : List (Str × Dat)}
set_option maxHeartbeats 1000000 in
theorem comp_at {A : Around} {h₀ : Heap} {L : Addr} {m : Str → Option Value} {mu D : List (Addr × Obj)} {s : Shared} {Q : Value → Shared → Prop} {E : Value → Shared → Prop} {elt target iter : Expr} {ifs : List Expr} {scope : Scope} {pos : Pos} {n : Nat} {bd : Nat → List (Str × Dat)} {cl : List (Str × Addr)} (Γf : List (Str × Dat)) (res : Nat → Option Dat) (r : Rm A k) (B : Sub c.H h₀) (S : St h₀ L m mu D s.heap) (G : Has env L m mu D Γ)
    (src : ∀ (Q : Value → Shared → Prop) (E : Value → Shared → Prop), (∀ I ads At its tl h' tk, It c A target I ads n bd At → At 0 its (tl ++ D) → St h₀ L m (its ++ mu) (tl ++ D) h' → Q (.ref I) { s with heap := h', toks := tk }) → wpAny (model c.prog c.w) A (eval iter env) (fun x s₁ => wpAny (model c.prog c.w) A (pyIter x) Q E s₁) E s) (hek : env.scope.kind = .function)
    (hf : ∀ x d, Γf.lookup x = some d → Γ.lookup x = some d ∧ scope.names.lookup x = some .free ∧ env.kindOf x = some .cell ∧ ∃ a, cl.lookup x = some a ∧ env.cells.lookup x = some a)
    (hclos : closureFor scope env = pure cl) (hcell : ∀ y ∈ scope.names, y.2 ≠ .cell) (hkind : scope.kind = .function) (hnames : ∀ y ∈ scope.names, y.2 = .local → scope.names.lookup y.1 = some .local)
    (hb : ∀ i < n, ∀ x ∈ (bd i).map (·.1), scope.names.lookup x = some .local) (hnd : ∀ i < n, ((bd i).map (·.1)).Nodup) (hn : n ≤ 16777216)
    (turn : ∀ i < n, ∀ C, (∃ d, res i = some d ∧ Ts c k (compEnvC scope cl C env) (bd i ++ Γf) ifs true ∧ Ev c k (compEnvC scope cl C env) (bd i ++ Γf) elt d) ∨ (res i = none ∧ Ts c k (compEnvC scope cl C env) (bd i ++ Γf) ifs false))
    (hs : ∀ x, foldedSetIterable iter env x = pure x := by intro _; rfl) :
    (∀ v tl h' tk, St h₀ L m mu (tl ++ D) h' → DatIn (tl ++ D) v (.list ((List.range n).filterMap res)) → Q v { s with heap := h', toks := tk }) →
    wpAny (model c.prog c.w) A (eval (.ListComp elt [⟨target, iter, ifs, 0⟩] scope pos) env) Q E s := by
  intro hq
  rw [eval_ListComp]
  refine wpAny_comprehension_free (use := none) (g := ⟨target, iter, ifs, 0⟩) (gs := []) rfl hs hclos hkind hnames ?_
  show wpAny _ A (eval iter env) _ _ s
  refine src _ E fun I ads At its tl h' tk T hat S' => ?_
  refine wpAny_newObj_type (wpAny_newFunctionEnv hcell (by intro y hy; simp at hy) (fun h₁ hns₁ hsb₁ => ?_) hkind)
  dsimp only at hns₁ hsb₁ ⊢
  generalize hH2 : h'.push { cls := .type "list", dict := none, data := .seq ([] : List Value).toArray } = H2 at hns₁ hsb₁ ⊢
  have hC : H2.objs.size = h'.objs.size + 1 := by rw [← hH2, Heap.size_push]
  generalize hCc : H2.objs.size = C at hns₁ hsb₁ ⊢
  generalize ha : h'.objs.size = a
  have haC : @Eq Nat C (a + 1) := by rw [← hCc, hC, ha]
  have lt_ne : ∀ b : Nat, b < a → @Ne Nat b C := fun b hb => by omega
  have aC : @Ne Nat a C := by omega
  have old : ∀ b o, h'.get? b = some o → h₁.get? b = some o := fun b o e => hsb₁.extBut b o (lt_ne b (by have := Heap.lt_size e; rw [ha] at this; exact this)) (Heap.get?_push_of_some _ (hH2 ▸ Heap.get?_push_of_some _ e))
  have hacc : h₁.get? a = some (PySem.W.listOf ([] : List Value).toArray 0) := hsb₁.extBut _ _ aC (Heap.get?_push_of_some _ (by rw [← hH2, ← ha]; exact Heap.get?_push_size _ rfl))
  -- the block's own ground
  generalize hZ : (its ++ mu ++ (tl ++ D)).map (·.1) = Z
  have memZ : ∀ b, b ∈ Z → h₀.get? b = none ∧ b ≠ L := fun b hb => by
    rw [← hZ] at hb
    obtain ⟨o, hm⟩ := keys_map hb
    have := S'.nw _ hm
    exact ⟨this.2.2, this.2.1⟩
  have inZ : ∀ p ∈ its ++ mu ++ (tl ++ D), p.1 ∈ Z := fun p hp => hZ ▸ List.mem_map_of_mem hp
  have subH : Sub c.H (hideAll h' Z) := sub_hide (h₀ := h₀) (S'.sub B) fun b hb => by
    cases e : c.H.get? b with
    | none => rfl
    | some o => have := B b o e; rw [(memZ b hb).1] at this; cases this
  have ltA : ∀ p ∈ its ++ mu ++ (tl ++ D), p.1 < a := fun p hp => by
    have := Heap.lt_size (S'.nw p hp).1
    rw [ha] at this; exact this
  have sz : (hideAll h' Z).objs.size = a := (hideAll_size Z h').trans ha
  have St₁ : St (hideAll h' Z) C (fun x => ([] : List (Str × Value)).reverse.lookup x) (its ++ (a, PySem.W.listOf ([] : List Value).toArray 0) :: mu) (tl ++ D) h₁ := by
    refine ⟨⟨hns₁, fun b o e => old b o (of_hideAll Z e), by rw [sz, haC]; exact Nat.le_succ a⟩, fun p hp => ?_, fun p hp q hq => ?_, ?_⟩
    · have hp' : p = (a, PySem.W.listOf ([] : List Value).toArray 0) ∨ p ∈ its ++ mu ++ (tl ++ D) := by
        simp only [List.mem_append, List.mem_cons] at hp ⊢
        rcases hp with (hp | rfl | hp) | hp
        · exact .inr (.inl (.inl hp))
        · exact .inl rfl
        · exact .inr (.inl (.inr hp))
        · exact .inr (.inr hp)
      rcases hp' with rfl | hp'
      · exact ⟨hacc, aC, none_of_ge (by rw [sz]; exact Nat.le_refl a)⟩
      · have := ltA p hp'
        exact ⟨old _ _ (S'.nw p hp').1, lt_ne _ this, hideAll_none Z (inZ p hp')⟩
    · rcases List.mem_append.mp hp with hp | hp
      · exact S'.off p (List.mem_append.mpr (.inl hp)) q hq
      · rcases List.mem_cons.mp hp with rfl | hp
        · exact Nat.ne_of_gt (ltA q (List.mem_append.mpr (.inr hq)))
        · exact S'.off p (List.mem_append.mpr (.inr hp)) q hq
    · have nd := S'.nd
      have e : ((its ++ (a, PySem.W.listOf ([] : List Value).toArray 0) :: mu).map (·.1)).Perm (a :: (its ++ mu).map (·.1)) := (List.perm_middle (l₁ := its) (l₂ := mu)).map (·.1)
      rw [e.nodup_iff, List.nodup_cons]
      refine ⟨fun hm => ?_, nd⟩
      obtain ⟨o, hm⟩ := keys_map hm
      exact Nat.lt_irrefl _ (ltA _ (List.mem_append.mpr (.inl hm)))
  have hck : (compEnvC scope cl C env).scope.kind = .function := hkind
  have loop : ∀ s₃ : Shared, s₃ = { s with heap := h₁, toks := tk + ([] : List (Str × Value)).length } →
      codeAny (model c.prog c.w) A (.compLoop (.ListComp elt [⟨target, iter, ifs, 0⟩] scope pos) 0 (.ref I) (.ref a) (compEnvC scope cl C env)) (compPost (model c.prog c.w) A E none Q (.ref a) C) s₃ := by
    rintro s₃ rfl
    refine codeAny_compLoop_gen (fun fuel s' => ∃ i its' h'' tk' D' ys nn mC, s' = { s with heap := h'', toks := tk' } ∧ fuel = n + 1 - i ∧ i ≤ n ∧ At i its' D' ∧ (∀ p ∈ tl ++ D, p ∈ D') ∧
      St (hideAll h' Z) C mC (its' ++ (a, PySem.W.listOf (List.toArray ys) nn) :: mu) D' h'' ∧ DatAll D' ys ((List.range i).filterMap res)) ?_ (n + 1)
      ⟨0, its, h₁, _, tl ++ D, [], 0, _, rfl, rfl, Nat.zero_le _, hat, fun p hp => hp, St₁, .nil⟩
    rintro fuel s' ⟨i, its', h₂, tk₂, D', ys, nn, mC, rfl, rfl, hi, hat', hD', St₂, hys⟩
    have hyl : ys.length ≤ 16777216 := by
      rw [hys.length]
      exact Nat.le_trans (List.length_filterMap_le _ _) (by rw [List.length_range]; omega)
    by_cases hlt : i < n
    · refine wpAny_mono (T.step i hlt _ _ mC _ D' its' _ (fun v s₂ => wpAny (model c.prog c.w) A (assign target (compEnvC scope cl C env) v) (fun _ s₂ =>
          wpAny (model c.prog c.w) A (forIn ifs true fun c r => if r = true then do let ok ← isTrue c (compEnvC scope cl C env) (eval c (compEnvC scope cl C env)); pure (ForInStep.yield ok) else pure (ForInStep.yield r)) (fun ok s₃ =>
            if ok = true then wpAny (model c.prog c.w) A (eval elt (compEnvC scope cl C env)) (fun x s₄ =>
              wpAny (model c.prog c.w) A (call (.builtin "list.append") [.ref a, x]) (fun _ s₅ => ∃ m, m < n + 1 - i ∧ ∃ i its' h'' tk' D' ys nn mC, s₅ = { s with heap := h'', toks := tk' } ∧ m = n + 1 - i ∧ i ≤ n ∧ At i its' D' ∧ (∀ p ∈ tl ++ D, p ∈ D') ∧
                St (hideAll h' Z) C mC (its' ++ (a, PySem.W.listOf (List.toArray ys) nn) :: mu) D' h'' ∧ DatAll D' ys ((List.range i).filterMap res)) (notedBy (model c.prog c.w) A (compEnvC scope cl C env) fun e s' => compPost (model c.prog c.w) A E none Q (.ref a) C (.error e) s') s₄) (notedBy (model c.prog c.w) A (compEnvC scope cl C env) fun e s' => compPost (model c.prog c.w) A E none Q (.ref a) C (.error e) s') s₃
            else ∃ m, m < n + 1 - i ∧ ∃ i its' h'' tk' D' ys nn mC, s₃ = { s with heap := h'', toks := tk' } ∧ m = n + 1 - i ∧ i ≤ n ∧ At i its' D' ∧ (∀ p ∈ tl ++ D, p ∈ D') ∧
                St (hideAll h' Z) C mC (its' ++ (a, PySem.W.listOf (List.toArray ys) nn) :: mu) D' h'' ∧ DatAll D' ys ((List.range i).filterMap res)) (notedBy (model c.prog c.w) A (compEnvC scope cl C env) fun e s' => compPost (model c.prog c.w) A E none Q (.ref a) C (.error e) s') s₂) (notedBy (model c.prog c.w) A (compEnvC scope cl C env) fun e s' => compPost (model c.prog c.w) A E none Q (.ref a) C (.error e) s') s₂) _ hat' St₂ fun v its₂ h₃ tk₃ St₃ hat₃ U => ?_) (fun r s₁ hr => ?_) fun _ _ e => e
      · refine assign_loc (s := { s with heap := h₃, toks := tk₃ }) hck r.hh St₃ U (fun x hx => lookup_relabel_local (hb i hlt x hx)) (hnd i hlt) fun h₄ tk₄ m₄ St₄ hm₄ => ?_
        have G₄ : Has (compEnvC scope cl C env) C m₄ (its₂ ++ (a, PySem.W.listOf (List.toArray ys) nn) :: mu) D' (bd i ++ Γf) := fun x d e => by
          rcases lookup_app e with e | ⟨_, e⟩
          · obtain ⟨w, hw, j⟩ := hm₄ x d e
            exact ⟨w, .loc rfl (lookup_relabel_local (hb i hlt x (List.mem_map.mpr ⟨_, lookup_mem e, rfl⟩))) hw, j⟩
          · obtain ⟨e1, e2, e3, b, e4, e5⟩ := hf x d e
            obtain ⟨v, rv, j⟩ := G x d e1
            refine ⟨v, ?_, j.mono fun p hp => hD' p (List.mem_append.mpr (.inr hp))⟩
            cases rv with
            | loc _ q _ => rw [e3] at q; cases q
            | own _ _ q _ => rw [e3] at q; cases q
            | cell q1 _ q3 q4 =>
              rw [e5] at q1; cases q1
              exact .cell e4 (lookup_relabel_free hek e2 e3) (List.mem_append.mpr (.inr (List.mem_cons_of_mem _ q3))) q4
        have step1 : (List.range (i + 1)).filterMap res = (List.range i).filterMap res ++ (match res i with | some d => [d] | none => []) := by
          rw [List.range_succ, List.filterMap_append]
          cases hr : res i with
          | none => simp [hr]
          | some d => simp [hr]
        rcases turn i hlt C with ⟨d, hres, hT, hE⟩ | ⟨hres, hT⟩
        · have emit : ∀ tl' h₅ tk₅, St (hideAll h' Z) C m₄ (its₂ ++ (a, PySem.W.listOf (List.toArray ys) nn) :: mu) (tl' ++ D') h₅ → wpAny (model c.prog c.w) A (eval elt (compEnvC scope cl C env)) (fun x s₄ =>
              wpAny (model c.prog c.w) A (call (.builtin "list.append") [.ref a, x]) (fun _ s₅ => ∃ m, m < n + 1 - i ∧ ∃ i its' h'' tk' D' ys nn mC, s₅ = { s with heap := h'', toks := tk' } ∧ m = n + 1 - i ∧ i ≤ n ∧ At i its' D' ∧ (∀ p ∈ tl ++ D, p ∈ D') ∧
                St (hideAll h' Z) C mC (its' ++ (a, PySem.W.listOf (List.toArray ys) nn) :: mu) D' h'' ∧ DatAll D' ys ((List.range i).filterMap res)) (notedBy (model c.prog c.w) A (compEnvC scope cl C env) fun e s' => compPost (model c.prog c.w) A E none Q (.ref a) C (.error e) s') s₄) (notedBy (model c.prog c.w) A (compEnvC scope cl C env) fun e s' => compPost (model c.prog c.w) A E none Q (.ref a) C (.error e) s') { s with heap := h₅, toks := tk₅ } := fun tl' h₅ tk₅ St₅ => by
            refine hE A _ _ m₄ _ _ _ _ _ r subH St₅ G₄.up fun x tl₆ h₆ tk₆ St₆ j => ?_
            rw [← List.append_assoc] at St₆ j
            have hm : (a, PySem.W.listOf (List.toArray ys) nn) ∈ its₂ ++ (a, PySem.W.listOf (List.toArray ys) nn) :: mu := List.mem_append.mpr (.inr List.mem_cons_self)
            refine append_at (s := { s with heap := h₆, toks := tk₆ }) (hsz := by rw [List.size_toArray, sizeLine_eq]; exact hyl) (St₆.getM hm) fun h₇ hsb₇ ho₇ => ?_
            have St₇ := ((St₆.perm List.perm_middle).turn hsb₇ ho₇).perm List.perm_middle.symm
            refine ⟨n + 1 - (i + 1), by omega, i + 1, its₂, h₇, tk₆, tl₆ ++ tl' ++ D', ys ++ [x], nn + 1, m₄, rfl, rfl, hlt, T.mono _ _ _ _ hat₃ subL, fun p hp => subL _ (hD' p hp), ?_, ?_⟩
            · have e : (List.toArray ys).push x = (ys ++ [x]).toArray := by simp
              rw [e] at St₇
              exact St₇
            · rw [step1, hres]
              exact (hys.mono subL).append (.one j)
          rcases hT with ⟨rfl, _⟩ | ⟨t, rfl, ht⟩
          · refine wpAny_tests_nil ?_
            rw [if_pos rfl]
            exact emit [] h₄ tk₄ St₄
          · refine wpAny_tests_one (ht A _ _ m₄ _ _ _ _ _ r subH St₄ G₄ fun tl' h₅ tk₅ St₅ => ?_)
            rw [if_pos rfl]
            exact emit tl' h₅ tk₅ St₅
        · rcases hT with ⟨_, e⟩ | ⟨t, rfl, ht⟩
          · cases e
          · refine wpAny_tests_one (ht A _ _ m₄ _ _ _ _ _ r subH St₄ G₄ fun tl' h₅ tk₅ St₅ => ?_)
            rw [if_neg (by decide)]
            refine ⟨n + 1 - (i + 1), by omega, i + 1, its₂, h₅, tk₅, tl' ++ D', ys, nn, m₄, rfl, rfl, hlt, T.mono _ _ _ _ hat₃ subL, fun p hp => subL _ (hD' p hp), St₅, ?_⟩
            rw [step1, hres]
            simpa using hys.mono subL
      · obtain ⟨v, rfl, hv⟩ := hr
        exact hv
    · have ein : i = n := by omega
      subst ein
      refine T.done _ _ mC _ D' its' _ _ _ hat' St₂ fun h₃ tk₃ St₃ => ?_
      refine ⟨mC, St₃.fr.ns, fun h₄ hs₄ => ?_⟩
      have keep4 : ∀ p ∈ (a, PySem.W.listOf (List.toArray ys) nn) :: mu ++ D', h₄.get? p.1 = some p.2 := fun p hp => hs₄.extBut _ _ (St₃.nw p hp).2.1 (St₃.nw p hp).1
      have fin := S'.dropL.back (h' := h₄) (Z := Z) (tl := (a, PySem.W.listOf (List.toArray ys) nn) :: D') memZ (fun b o e => hs₄.extBut b o (lt_ne b (by have := Heap.lt_size e; rw [sz] at this; exact this)) (St₃.fr.keep b o e))
        (fun p hp => keep4 p (List.mem_append.mpr (.inl (List.mem_cons_of_mem _ hp)))) (fun p hp => keep4 p (List.mem_append.mpr (.inr (hD' p hp)))) (fun p hp => by
          rcases List.mem_cons.mp hp with rfl | hp
          · exact ⟨keep4 _ List.mem_cons_self, none_of_ge (by rw [sz]; exact Nat.le_refl a), fun q hq => Nat.ne_of_lt (ltA q (List.mem_append.mpr (.inl (List.mem_append.mpr (.inr hq)))))⟩
          · exact ⟨keep4 _ (List.mem_append.mpr (.inr hp)), (St₃.nw p (List.mem_append.mpr (.inr hp))).2.2, fun q hq => St₃.off q (List.mem_cons_of_mem _ hq) p hp⟩)
      rw [← List.append_assoc] at fin
      exact hq (.ref a) _ h₄ tk₃ fin (.list (List.mem_append.mpr (.inl (List.mem_append.mpr (.inl List.mem_cons_self)))) (hys.mono fun p hp => List.mem_append.mpr (.inl (List.mem_append.mpr (.inl (List.mem_cons_of_mem _ hp))))))
  have hat₁ : At 0 its (tl ++ D) := hat
  exact codeAny_compStart_list (loop _ rfl) (T.self 0 _ _ _ _ _ its _ _ _ hat₁ St₁ (loop _ rfl))

theorem iter_list {A : Around} {h₀ : Heap} {L : Addr} {m : Str → Option Value} {mu D : List (Addr × Obj)} {s : Shared} {Q : Value → Shared → Prop} {E : Value → Shared → Prop} {target : Expr} {v : Value} {ds : List Dat} (R : Rm A k) (S' : St h₀ L m mu D s.heap) (i : DatIn D v (.list ds)) (t : TgOk target ds)
    (hq : ∀ I ads At its h' tk, It c A target I ads ds.length (fun i => bindT target (ds.getD i .none)) At → At 0 its D → St h₀ L m (its ++ mu) D h' → Q (.ref I) { s with heap := h', toks := tk }) : wpAny (model c.prog c.w) A (pyIter v) Q E s := by
  cases i with
  | list hm hd =>
    rename_i ax vs n
    have hl := isList_of S' hm
    refine wpAny_pyIter_list hl ?_
    have hne : ax ≠ s.heap.objs.size := Nat.ne_of_lt (S'.ltD _ hm)
    have ho : (s.heap.push ({ cls := .type "list_iterator", data := .fields #[.ref ax, .int 0 0] } : Obj)).get? s.heap.objs.size = some { cls := .type "list_iterator", data := .fields #[.ref ax, .int 0 0] } := Heap.get?_push_size _ rfl
    have S2 := S'.addM (h' := s.heap.push { cls := .type "list_iterator", data := .fields #[.ref ax, .int 0 0] }) (fun _ _ e => Heap.get?_push_of_some _ e) ho (Nat.le_refl _)
    refine hq s.heap.objs.size [s.heap.objs.size] _ [(s.heap.objs.size, _)] _ s.toks (It.list (vs := vs) (n := n) R.hh hne t) ⟨?_, hm, hd⟩ S2
    refine at_of (Walks.list (prog := c.prog) (w := c.w) R.hh s.heap.objs.size ax hne vs.toArray).frame ⟨⟨_, ho, rfl, rfl⟩, hl.push _⟩ rfl (fun p hp => ?_) (fun p hp => S2.get (a := p.1) (o := p.2) hp) fun b hb => ?_
    · rw [List.mem_singleton.mp hp]; exact ho
    · rcases List.mem_cons.mp hb with rfl | hb
      · exact .inl List.mem_cons_self
      · rw [List.mem_singleton.mp hb]; exact .inr (List.mem_map_of_mem (f := (·.1)) hm)

/-- the front of a list that stands below -/
theorem front_at {A : Around} {h₀ : Heap} {L l : Addr} {m : Str → Option Value} {mu D : List (Addr × Obj)} {s : Shared} {Q : Value → Shared → Prop} {E : Value → Shared → Prop} {x : Str} {p1 p2 pos p3 : Pos} {b nn : Nat} {vs : List Value} {xs : List Int} (he : env.scope.kind = .function) (R : Rm A k) (B : Sub c.H h₀) (S : St h₀ L m mu D s.heap) (rd : Rd env L m mu x (.ref l)) (hx : (x == ("__debug__" : Str)) = false) (hl : s.heap.IsList l vs.toArray) (hi : IntsAre vs xs) (hn : vs.length ≤ 1000)
    (hq : ∀ v tl h' tk, St h₀ L m mu (tl ++ D) h' → DatIn (tl ++ D) v (.list ((xs.take b).map Dat.int)) → Q v { s with heap := h', toks := tk }) :
    wpAny (model c.prog c.w) A (eval (.Subscript (.Name x p1) (.Slice none (some (.Constant (.int (b : Int)) nn p3)) none p2) pos) env) Q E s := by
  refine wpAny_Subscript_list_slice (name_rd he S rd hx ?_)
  refine wpAny_evalPart_none (wpAny_evalPart_some (wpAny_Constant_int ?_))
  refine ⟨l, vs.toArray, none, some (b : Int), rfl, hl, by rw [List.size_toArray, sizeLine_eq]; omega, .none, .int _ _, ?_⟩
  rw [slicePick_upto']
  have S3 := S.up (h' := s.heap.push { cls := .type "slice", data := .fields #[.none, .int (b : Int) s.toks, .none] }) fun _ _ e => Heap.get?_push_of_some _ e
  have S4 := S3.add (tl := [(s.heap.objs.size + 1, ({ cls := .type "list", data := .seq (vs.take b).toArray } : Obj))]) (h' := (s.heap.push { cls := .type "slice", data := .fields #[.none, .int (b : Int) s.toks, .none] }).push { cls := .type "list", data := .seq (vs.take b).toArray }) (fun _ _ e => Heap.get?_push_of_some _ e) (fun p hp => by
    rw [List.mem_singleton.mp hp]
    refine ⟨?_, by rw [Heap.size_push]; exact Nat.le_refl _⟩
    have z := Heap.get?_push_size (s.heap.push { cls := .type "slice", data := .fields #[.none, .int (b : Int) s.toks, .none] }) (o := ({ cls := .type "list", data := .seq (vs.take b).toArray } : Obj)) rfl
    rw [Heap.size_push] at z
    exact z)
  refine hq _ _ _ _ S4 (.list (n := 0) (vs := vs.take b) (List.mem_append.mpr (.inl List.mem_cons_self)) ?_)
  rw [List.map_take]
  exact (pick_all (of_ints hi) b).1
end
end Mine

namespace Mine

def recOf : Option Stmt → DefRec
  | some (.FunctionDef name a b _ _ _ sc _ _ pos) => ⟨name, a, b, sc, pos⟩
  | _ => ⟨"", { posonlyargs := [], args := [], vararg := none, kwonlyargs := [], kw_defaults := [], kwarg := none, defaults := [] }, [], { kind := .function, names := [], isGenerator := false, isCoroutine := false, more := [] }, ⟨0, 0, 0, 0⟩⟩
def rAt (i : Nat) : DefRec := recOf (PySem.Challenge.pw_tk0086_01.main.body[i]?)

theorem nm1 : (rAt 1).name = "add_number" := rfl
theorem nm2 : (rAt 2).name = "add_range" := rfl
def rs : List DefRec := [rAt 1, rAt 2, rAt 3, rAt 4, rAt 5, rAt 6, rAt 8, rAt 9, rAt 10, rAt 12, rAt 13, rAt 14, rAt 15, rAt 16]

theorem names : rs.map (fun r => r.name) = (["add_number", "add_range", "has_number", "largest_of", "count_of", "are_right", "add_piece", "taken_from", "covered", "_law_draw", "_law_sequences", "_law_rings", "_law_steps", "law"] : List Str) := rfl

section
variable {c : Cfg} {k : Nat} (ok : c.Ok rs)
include ok
theorem f_add_number0 {D : Dat} {n : Int} {d : Dat} (h : Fn c k "add_range" [D, .int n, .int n] d) : Fn c (k + 1) "add_number" [D, .int n] d := by
  refine Fn.of (r := rAt 1) (ps := ["ranges", "n"]) ok (by simp [rs]) (fun pm code doc vs hl => ?_) rfl (by decide) rfl rfl rfl rfl fun pm code doc L a => ?_
  · match vs, hl with
    | [v, w], _ => rfl
  · refine Ex.consR (Ex1.ret (Ev.callF ok ⟨rfl, rfl, rfl⟩ rfl h (EvL.cons (Ev.nm rfl rfl) (EvL.cons (Ev.nm rfl rfl) (EvL.cons (Ev.nm rfl rfl) EvL.nil)))))
end
end Mine

namespace Mine

def AllIn : List (Str × Dat) → List (Str × Dat) → Prop
  | [], _ => True
  | p :: r, Γ => Γ.lookup p.1 = some p.2 ∧ AllIn r Γ
theorem allIn_mem : ∀ {Γ' Γ : List (Str × Dat)}, AllIn Γ' Γ → ∀ p ∈ Γ', Γ.lookup p.1 = some p.2
  | [], _, _, p, hp => by cases hp
  | q :: r, Γ, h, p, hp => by
    rcases List.mem_cons.mp hp with rfl | hp
    · exact h.1
    · exact allIn_mem h.2 p hp
theorem allIn {Γ' Γ : List (Str × Dat)} (h : AllIn Γ' Γ) : ∀ x d, Γ'.lookup x = some d → Γ.lookup x = some d := fun x d e => allIn_mem h (x, d) (lookup_mem e)

section
variable {c : Cfg} {k : Nat} {env : Env} {Γ Γ' Γ'' : List (Str × Dat)} {o o' : Option (Str × List Dat)} {out : Out}
theorem Ex.post {ss : List Stmt} (h : Ex c k env Γ o ss (.next Γ' o')) (w : AllIn Γ'' Γ') : Ex c k env Γ o ss (.next Γ'' o') := fun A h₀ R D₀ s Q E r B S P =>
  h A h₀ R D₀ s Q E r B S fun h' tk S' => P h' tk (S'.weaken (allIn w))
theorem Ex1.post {st : Stmt} (h : Ex1 c k env Γ o st (.next Γ' o')) (w : AllIn Γ'' Γ') : Ex1 c k env Γ o st (.next Γ'' o') := fun A h₀ R D₀ s Q E r B S P =>
  h A h₀ R D₀ s Q E r B S fun h' tk S' => P h' tk (S'.weaken (allIn w))
theorem Ex1.ifd {P : Prop} [Decidable P] {t : Expr} {a b : List Stmt} {pos : Pos} (h : Tr c k env Γ t (decide P)) (ha : P → Ex c k env Γ o a out) (hb : ¬ P → Ex c k env Γ o b out) : Ex1 c k env Γ o (.If t a b pos) out := by
  by_cases hp : P
  · rw [decide_eq_true hp] at h; exact Ex1.ifT h (ha hp)
  · rw [decide_eq_false hp] at h; exact Ex1.ifF h (hb hp)
theorem Ex1.ifb {x : Bool} {t : Expr} {a b : List Stmt} {pos : Pos} (h : Tr c k env Γ t x) (ha : x = true → Ex c k env Γ o a out) (hb : x = false → Ex c k env Γ o b out) : Ex1 c k env Γ o (.If t a b pos) out := by
  cases x with
  | true => exact Ex1.ifT h (ha rfl)
  | false => exact Ex1.ifF h (hb rfl)
theorem Tr.eq {e : Expr} {x y : Bool} (h : Tr c k env Γ e x) (q : x = y) : Tr c k env Γ e y := q ▸ h
theorem Ev.eq {e : Expr} {x y : Dat} (h : Ev c k env Γ e x) (q : x = y) : Ev c k env Γ e y := q ▸ h
/-- one statement and no more -/
theorem Ex.one {st : Stmt} (h : Ex1 c k env Γ o st (.next Γ' o')) : Ex c k env Γ o [st] (.next Γ' o') := Ex.cons h Ex.nil
end

def pr (p : Int × Int) : Dat := .tuple [.int p.1, .int p.2]
def rng (rs : List (Int × Int)) : Dat := .list (rs.map pr)

structure AR where
  found : List (Int × Int)
  isIn : Bool
  low : Int
  high : Int
def arStep (st : AR) (one : Int × Int) : AR :=
  if st.high + 1 < one.1 then { st with found := st.found ++ [one] }
  else if one.2 < st.low - 1 then { st with found := (if st.isIn then st.found else st.found ++ [(st.low, st.high)]) ++ [one], isIn := true }
  else { st with low := min st.low one.1, high := max st.high one.2 }
def arRun (rs : List (Int × Int)) (lo hi : Int) : AR := rs.foldl arStep ⟨[], false, lo, hi⟩
def addRange (rs : List (Int × Int)) (lo hi : Int) : List (Int × Int) :=
  let st := arRun rs lo hi
  if st.isIn then st.found else st.found ++ [(st.low, st.high)]

theorem arStep_len (st : AR) (one : Int × Int) : (arStep st one).found.length ≤ st.found.length + 2 := by
  unfold arStep
  split
  · simp
  · split
    · cases st.isIn <;> simp
    · simp
theorem arRun_len (rs : List (Int × Int)) : ∀ st : AR, (rs.foldl arStep st).found.length ≤ st.found.length + 2 * rs.length := by
  induction rs with
  | nil => intro st; simp
  | cons p r ih =>
    intro st
    have h1 := ih (arStep st p)
    have h2 := arStep_len st p
    rw [List.foldl_cons, List.length_cons]
    omega
theorem take_fold {α β : Type} (f : β → α → β) (b : β) (l : List α) (i : Nat) (h : i < l.length) : (l.take (i + 1)).foldl f b = f ((l.take i).foldl f b) l[i] := by
  rw [List.take_succ_eq_append_getElem h, List.foldl_append]; rfl

section
variable {c : Cfg} {k : Nat} (ok : c.Ok rs)
include ok
theorem gbi {env : Env} {x : Str} {f : Value} (he : EnvOk env) (hx : env.kindOf x = some .globalImplicit) (hm : (x, f) ∈ biTable) (hd : (x == ("__debug__" : Str)) = false := by decide) : Gl c env x f := Gl.bi ok he hx hm hd

theorem f_add_range {l : List (Int × Int)} {lo hi : Int} (hl : l.length ≤ 1000) : Fn c (k + 1) "add_range" [rng l, .int lo, .int hi] (rng (addRange l lo hi)) := by
  refine Fn.of (r := rAt 2) (ps := ["ranges", "low", "high"]) ok (by simp [rs]) (fun pm code doc vs hl => ?_) rfl (by decide) rfl rfl rfl rfl fun pm code doc L a => ?_
  · match vs, hl with
    | [v, w, z], _ => rfl
  · have he : EnvOk (fenv (rAt 2) pm code doc L a) := ⟨rfl, rfl, rfl⟩
    refine Ex.cons (Ex1.tupSO (x := "found") (xs := ["found", "is_in"]) (ws := [none, some (.bool false)]) he (EvW.own (EvL.cons Ev.cBool EvL.nil)) (by simp) rfl (by simp) (fun x hx => ?_) (by decide) (fun y hy => ?_)) ?_
    · simp at hx; rcases hx with rfl | rfl <;> exact .inl rfl
    · simp at hy; rcases hy with rfl | rfl <;> intro _ <;> rfl
    refine Ex.cons (for_core (σ := fun i => [("is_in", .bool (arRun (l.take i) lo hi).isIn), ("low", .int (arRun (l.take i) lo hi).low), ("high", .int (arRun (l.take i) lo hi).high)]) (ω := fun i => some ("found", (arRun (l.take i) lo hi).found.map pr))
        (j := (l.map pr).length) (Nat.le_refl _) he (ItE.list (Ev.nm rfl rfl) TgOk.nm) (allIn ⟨rfl, rfl, rfl, trivial⟩) rfl
        (fun i _ x hx => ?_) (fun i _ => by simp [bindT]) (fun i _ y ds e => ?_) (fun i hlt => ?_) (.inl ⟨rfl, rfl⟩)) ?_
    · simp [bindT] at hx; subst hx; exact .inl rfl
    · cases e; simp [bindT]; decide
    · have hi' : i < l.length := by simpa using hlt
      have hst : arRun (l.take (i + 1)) lo hi = arStep (arRun (l.take i) lo hi) l[i] := take_fold _ _ l i hi'
      have hlen : (arRun (l.take i) lo hi).found.length ≤ 4000 := by
        have h1 := arRun_len (l.take i) ⟨[], false, lo, hi⟩
        have h2 := List.length_take_le i l
        unfold arRun
        simp only [List.length_nil] at h1
        omega
      have hbd : (l.map pr).getD i Dat.none = pr l[i] := by simp [List.getD_eq_getElem?_getD, hi']
      rw [hst]
      show Ex c k _ (bindT _ ((l.map pr).getD i Dat.none) ++ _) _ _ _
      rw [hbd]
      generalize arRun (l.take i) lo hi = st at hlen ⊢
      generalize l[i] = p
      refine Ex.one (Ex1.ifd (Tr.cmp (Ev.itemT (d := .int p.1) (Ev.nm rfl rfl) Ev.cInt (by decide) (by simp) rfl) (Ev.bin (Ev.nm rfl rfl) Ev.cInt Bn.add) Cm.gt) (fun h1 => ?_) fun h1 => ?_)
      · have e : arStep st p = { st with found := st.found ++ [p] } := by simp [arStep, h1]
        rw [e]
        simp only [List.map_append, List.map_cons, List.map_nil]
        exact Ex.post (Ex.one (Ex1.append he (Ev.nm rfl rfl) (by simp; omega))) ⟨rfl, rfl, rfl, trivial⟩
      · refine Ex.one (Ex1.ifd (Tr.cmp (Ev.itemT (d := .int p.2) (Ev.nm rfl rfl) Ev.cInt (by decide) (by simp) rfl) (Ev.bin (Ev.nm rfl rfl) Ev.cInt Bn.sub) Cm.lt) (fun h2 => ?_) fun h2 => ?_)
        · have e : arStep st p = { st with found := (if st.isIn then st.found else st.found ++ [(st.low, st.high)]) ++ [p], isIn := true } := by simp [arStep, h1, h2]
          rw [e]
          refine Ex.cons (Γ' := [("is_in", .bool true), ("low", .int st.low), ("high", .int st.high), ("one", pr p)]) (o' := some ("found", (if st.isIn then st.found else st.found ++ [(st.low, st.high)]).map pr)) (Ex1.ifb (Tr.not (Tr.of (Ev.nm rfl rfl))) (fun h3 => ?_) fun h3 => ?_) ?_
          · have h3' : st.isIn = false := by simpa using h3
            rw [h3']
            simp only [Bool.false_eq_true, if_false, List.map_append, List.map_cons, List.map_nil]
            refine Ex.cons (Ex1.append he (Ev.tuple (EvL.cons (Ev.nm rfl rfl) (EvL.cons (Ev.nm rfl rfl) EvL.nil)) (by simp)) (by simp; omega)) ?_
            exact Ex.post (Ex.one (Ex1.asg he (.inl rfl) Ev.cBool (fun y ds e => by cases e; decide))) ⟨rfl, rfl, rfl, rfl, trivial⟩
          · have h3' : st.isIn = true := by simpa using h3
            rw [h3']
            simp only [if_true]
            exact Ex.post Ex.nil ⟨by rw [← h3']; rfl, rfl, rfl, rfl, trivial⟩
          · simp only [List.map_append, List.map_cons, List.map_nil]
            refine Ex.post (Ex.one (Ex1.append he (Ev.nm rfl rfl) ?_)) ⟨rfl, rfl, rfl, trivial⟩
            cases st.isIn <;> simp <;> omega
        · have e : arStep st p = { st with low := min st.low p.1, high := max st.high p.2 } := by simp [arStep, h1, h2]
          rw [e]
          exact Ex.post (Ex.one (Ex1.tupS (xs := ["low", "high"]) he (EvL.cons (Ev.callB (gbi ok he rfl (by simp [biTable])) (EvL.cons (Ev.nm rfl rfl) (EvL.cons (Ev.itemT (d := .int p.1) (Ev.nm rfl rfl) Ev.cInt (by decide) (by simp) rfl) EvL.nil)) Cl.min2)
            (EvL.cons (Ev.callB (gbi ok he rfl (by simp [biTable])) (EvL.cons (Ev.nm rfl rfl) (EvL.cons (Ev.itemT (d := .int p.2) (Ev.nm rfl rfl) Ev.cInt (by decide) (by simp) rfl) EvL.nil)) Cl.max2) EvL.nil)) rfl (by simp)
            (fun x hx => by simp at hx; rcases hx with rfl | rfl <;> exact .inl rfl) (by decide) (fun y ds e => by cases e; decide))) ⟨rfl, rfl, rfl, trivial⟩
    · have e : (l.map pr).length = l.length := by simp
      rw [e, List.take_length]
      have hlen : (arRun l lo hi).found.length ≤ 4000 := by
        have h1 := arRun_len l ⟨[], false, lo, hi⟩
        unfold arRun
        simp only [List.length_nil] at h1
        omega
      refine Ex.freeze (Ex.consR (Ex1.ret ?_))
      by_cases hb : (arRun l lo hi).isIn = true
      · have e2 : addRange l lo hi = (arRun l lo hi).found := by simp [addRange, hb]
        rw [e2]
        exact Ev.ifT (Tr.eq (Tr.of (Ev.nm rfl rfl)) hb) (Ev.nm rfl rfl)
      · have hb' : (arRun l lo hi).isIn = false := by simpa using hb
        have e2 : addRange l lo hi = (arRun l lo hi).found ++ [((arRun l lo hi).low, (arRun l lo hi).high)] := by simp [addRange, hb']
        rw [e2]
        unfold rng
        rw [List.map_append]
        exact Ev.ifF (Tr.eq (Tr.of (Ev.nm rfl rfl)) hb') (Ev.bin (Ev.nm rfl rfl) (Ev.list (EvL.cons (Ev.tuple (EvL.cons (Ev.nm rfl rfl) (EvL.cons (Ev.nm rfl rfl) EvL.nil)) (by simp)) EvL.nil) (by simp)) (Bn.list (by simp; omega)))

theorem f_add_number {l : List (Int × Int)} {n : Int} (hl : l.length ≤ 1000) : Fn c (k + 2) "add_number" [rng l, .int n] (rng (addRange l n n)) := f_add_number0 ok (f_add_range ok hl)
end
end Mine

namespace Mine

theorem range_get {α : Type} (l : List α) : (List.range l.length).filterMap (l[·]?) = l := by
  have h := krv_all l.toArray
  simpa using h
theorem range_bind {α β : Type} (l : List α) (g : α → Option β) : (List.range l.length).filterMap (fun i => (l[i]?).bind g) = l.filterMap g := by
  have h := range_get l
  conv => rhs; rw [← h]
  rw [List.filterMap_filterMap]

section
variable {c : Cfg} {k : Nat} {env : Env} {Γ : List (Str × Dat)}
theorem free_all {Γf : List (Str × Dat)} {scope : Scope} {cl : List (Str × Addr)} (h : ∀ p ∈ Γf, Γ.lookup p.1 = some p.2 ∧ scope.names.lookup p.1 = some .free ∧ env.kindOf p.1 = some .cell ∧ ∃ a, cl.lookup p.1 = some a ∧ env.cells.lookup p.1 = some a) :
    ∀ x d, Γf.lookup x = some d → Γ.lookup x = some d ∧ scope.names.lookup x = some .free ∧ env.kindOf x = some .cell ∧ ∃ a, cl.lookup x = some a ∧ env.cells.lookup x = some a := fun x d e => h (x, d) (lookup_mem e)

theorem Ev.compL {α : Type} {elt target iter : Expr} {ifs : List Expr} {scope : Scope} {pos : Pos} {bd : Nat → List (Str × Dat)} {cl : List (Str × Addr)} (Γf : List (Str × Dat)) (l : List α) (b : α → List (Str × Dat)) (g : α → Option Dat)
    (src : ItE c k env Γ iter target l.length bd) (hbd : ∀ i (h : i < l.length), bd i = b l[i]) (hek : env.scope.kind = .function)
    (hf : ∀ p ∈ Γf, Γ.lookup p.1 = some p.2 ∧ scope.names.lookup p.1 = some .free ∧ env.kindOf p.1 = some .cell ∧ ∃ a, cl.lookup p.1 = some a ∧ env.cells.lookup p.1 = some a)
    (hclos : closureFor scope env = pure cl) (hcell : ∀ y ∈ scope.names, y.2 ≠ .cell) (hkind : scope.kind = .function) (hnames : ∀ y ∈ scope.names, y.2 = .local → scope.names.lookup y.1 = some .local)
    (hb : ∀ a ∈ l, ∀ x ∈ (b a).map (·.1), scope.names.lookup x = some .local) (hnd : ∀ a ∈ l, ((b a).map (·.1)).Nodup) (hn : l.length ≤ 16777216)
    (turn : ∀ a ∈ l, ∀ C, (∃ d, g a = some d ∧ Ts c k (compEnvC scope cl C env) (b a ++ Γf) ifs true ∧ Ev c k (compEnvC scope cl C env) (b a ++ Γf) elt d) ∨ (g a = none ∧ Ts c k (compEnvC scope cl C env) (b a ++ Γf) ifs false))
    (hs : ∀ x, foldedSetIterable iter env x = pure x := by intro _; rfl) :
    Ev c k env Γ (.ListComp elt [⟨target, iter, ifs, 0⟩] scope pos) (.list (l.filterMap g)) := by
  have z := Ev.comp (pos := pos) Γf (fun i => (l[i]?).bind g) src hek (free_all hf) hclos hcell hkind hnames (fun i hi x hx => hb l[i] (List.getElem_mem hi) x (by rw [← hbd i hi]; exact hx)) (fun i hi => by rw [hbd i hi]; exact hnd _ (List.getElem_mem hi)) hn
    (fun i hi C => by
      have h := turn l[i] (List.getElem_mem hi) C
      rw [← hbd i hi] at h
      have e : (l[i]?).bind g = g l[i] := by rw [List.getElem?_eq_getElem hi]; rfl
      rw [e]; exact h) hs
  rw [range_bind] at z
  exact z
end

def hasNumber (l : List (Int × Int)) (n : Int) : Bool := l.any fun p => decide (p.1 ≤ n) && decide (n ≤ p.2)

theorem tg_pr {x y : Str} {p q r : Pos} {n : Nat} (l : List (Int × Int)) : TgOk (.Tuple [.Name x p, .Name y q] n r) (l.map pr) := TgOk.two fun d hd => by
  obtain ⟨p, _, rfl⟩ := List.mem_map.mp hd
  exact ⟨_, _, rfl⟩
theorem getD_map {α : Type} (l : List α) (f : α → Dat) (i : Nat) (h : i < l.length) : (l.map f).getD i Dat.none = f l[i] := by simp [List.getD_eq_getElem?_getD, h]

section
variable {c : Cfg} {k : Nat} (ok : c.Ok rs)
include ok

section
variable {env : Env}
theorem g_len (he : EnvOk env) (hx : env.kindOf "len" = some .globalImplicit := by rfl) : Gl c env "len" (.builtin "len") := Gl.bi ok he hx (by simp [biTable])
theorem g_min (he : EnvOk env) (hx : env.kindOf "min" = some .globalImplicit := by rfl) : Gl c env "min" (.builtin "min") := Gl.bi ok he hx (by simp [biTable])
theorem g_max (he : EnvOk env) (hx : env.kindOf "max" = some .globalImplicit := by rfl) : Gl c env "max" (.builtin "max") := Gl.bi ok he hx (by simp [biTable])
theorem g_any (he : EnvOk env) (hx : env.kindOf "any" = some .globalImplicit := by rfl) : Gl c env "any" (.builtin "any") := Gl.bi ok he hx (by simp [biTable])
theorem g_sum (he : EnvOk env) (hx : env.kindOf "sum" = some .globalImplicit := by rfl) : Gl c env "sum" (.builtin "sum") := Gl.bi ok he hx (by simp [biTable])
theorem g_sorted (he : EnvOk env) (hx : env.kindOf "sorted" = some .globalImplicit := by rfl) : Gl c env "sorted" (.builtin "sorted") := Gl.bi ok he hx (by simp [biTable])
theorem g_abs (he : EnvOk env) (hx : env.kindOf "abs" = some .globalImplicit := by rfl) : Gl c env "abs" (.builtin "abs") := Gl.bi ok he hx (by simp [biTable])
theorem g_enumerate (he : EnvOk env) (hx : env.kindOf "enumerate" = some .globalImplicit := by rfl) : Gl c env "enumerate" (.type "enumerate") := Gl.bi ok he hx (by simp [biTable])
theorem g_range (he : EnvOk env) (hx : env.kindOf "range" = some .globalImplicit := by rfl) : Gl c env "range" (.type "range") := Gl.bi ok he hx (by simp [biTable])
theorem g_bytes (he : EnvOk env) (hx : env.kindOf "bytes" = some .globalImplicit := by rfl) : Gl c env "bytes" (.type "bytes") := Gl.bi ok he hx (by simp [biTable])
theorem g_int (he : EnvOk env) (hx : env.kindOf "int" = some .globalImplicit := by rfl) : Gl c env "int" (.type "int") := Gl.bi ok he hx (by simp [biTable])
theorem g_list (he : EnvOk env) (hx : env.kindOf "list" = some .globalImplicit := by rfl) : Gl c env "list" (.type "list") := Gl.bi ok he hx (by simp [biTable])
end

theorem f_has_number {l : List (Int × Int)} {n : Int} (hl : l.length ≤ 1000) : Fn c (k + 1) "has_number" [rng l, .int n] (.bool (hasNumber l n)) := by
  refine Fn.of (r := rAt 3) (ps := ["ranges", "n"]) ok (by simp [rs]) (fun pm code doc vs hl => ?_) rfl (by decide) rfl rfl rfl rfl fun pm code doc L a => ?_
  · match vs, hl with
    | [v, w], _ => rfl
  · have he : EnvOk (fenv (rAt 3) pm code doc L a) := ⟨rfl, rfl, rfl⟩
    have e : hasNumber l n = ((l.map fun p => decide (p.1 ≤ n) && decide (n ≤ p.2)).any id) := by rw [List.any_map]; rfl
    rw [e]
    refine Ex.consR (Ex1.ret (Ev.callB (g_any ok he) (EvL.cons ?_ EvL.nil) Cl.anyB))
    have z := l.length_map (f := pr)
    refine Ev.eq (Ev.compL [("n", .int n)] l (fun p => [("low", .int p.1), ("high", .int p.2)]) (fun p => some (.bool (decide (p.1 ≤ n) && decide (n ≤ p.2)))) (z ▸ ItE.list (Ev.nm rfl rfl) (tg_pr l)) (fun i hi => by rw [getD_map l pr i hi]; rfl) rfl
      (fun p hp => by rcases List.mem_singleton.mp hp with rfl; exact ⟨rfl, rfl, rfl, _, rfl, rfl⟩) rfl (by decide) rfl (by decide) (fun a _ x hx => by simp at hx; rcases hx with rfl | rfl <;> rfl) (fun a _ => by simp; decide) (by omega)
      (fun p _ C => .inl ⟨_, rfl, Ts.nil, Ev.chain (Ev.nm rfl rfl) (Ev.nm rfl rfl) (Ev.nm rfl rfl) Cm.le Cm.le⟩)) ?_
    rw [List.filterMap_eq_map', List.map_map]; rfl
end
end Mine

namespace Mine

def countOf (l : List (Int × Int)) : Int := (l.map fun p => p.2 - p.1 + 1).sum

abbrev Pc := Int × List UInt8
def pc (p : Pc) : Dat := .tuple [.int p.1, .bytes p.2.toArray]
def pcs (ps : List Pc) : Dat := .list (ps.map pc)
def coveredOf (ps : List Pc) : List (Int × Int) := ps.map fun p => (p.1, p.1 + p.2.length)

theorem tg_pc {x y : Str} {p q r : Pos} {n : Nat} (l : List Pc) : TgOk (.Tuple [.Name x p, .Name y q] n r) (l.map pc) := TgOk.two fun d hd => by
  obtain ⟨p, _, rfl⟩ := List.mem_map.mp hd
  exact ⟨_, _, rfl⟩

def tkStep (at_ : Int) (st : List UInt8 × List Pc) (p : Pc) : List UInt8 × List Pc :=
  if p.1 ≤ at_ ∧ at_ < p.1 + p.2.length then (p.2.drop (at_ - p.1).toNat, st.2) else if at_ < p.1 then (st.1, st.2 ++ [p]) else st
def takenFrom (ps : List Pc) (at_ : Int) : List UInt8 × List Pc := ps.foldl (tkStep at_) ([], [])

theorem tk_len (at_ : Int) (ps : List Pc) : ∀ st : List UInt8 × List Pc, (ps.foldl (tkStep at_) st).2.length ≤ st.2.length + ps.length := by
  induction ps with
  | nil => intro st; simp
  | cons p r ih =>
    intro st
    have h1 := ih (tkStep at_ st p)
    have h2 : (tkStep at_ st p).2.length ≤ st.2.length + 1 := by
      unfold tkStep
      split
      · simp
      · split <;> simp
    rw [List.foldl_cons, List.length_cons]
    omega

section
variable {c : Cfg} {k : Nat} (ok : c.Ok rs)
include ok

theorem f_largest_of {p : Int × Int} {l : List (Int × Int)} (hl : l.length ≤ 1000) : Fn c (k + 1) "largest_of" [rng (p :: l)] (.int p.2) := by
  refine Fn.of (r := rAt 4) (ps := ["ranges"]) ok (by simp [rs]) (fun pm code doc vs hl => ?_) rfl (by decide) rfl rfl rfl rfl fun pm code doc L a => ?_
  · match vs, hl with
    | [v], _ => rfl
  · have he : EnvOk (fenv (rAt 4) pm code doc L a) := ⟨rfl, rfl, rfl⟩
    refine Ex.consR (Ex1.ret (Ev.ifT (Tr.eq (Tr.cmp (Ev.callB (g_len ok he) (EvL.cons (Ev.nm rfl rfl) EvL.nil) (Cl.len (by simp; omega))) Ev.cInt Cm.gt) (by simp)) (Ev.itemT (d := .int p.2) (Ev.item (d := pr p) (Ev.nm rfl rfl) Ev.cInt (by decide) (by simp; omega) rfl) Ev.cInt (by decide) (by simp) rfl)))

theorem f_count_of {l : List (Int × Int)} (hl : l.length ≤ 1000) : Fn c (k + 1) "count_of" [rng l] (.int (countOf l)) := by
  refine Fn.of (r := rAt 5) (ps := ["ranges"]) ok (by simp [rs]) (fun pm code doc vs hl => ?_) rfl (by decide) rfl rfl rfl rfl fun pm code doc L a => ?_
  · match vs, hl with
    | [v], _ => rfl
  · have he : EnvOk (fenv (rAt 5) pm code doc L a) := ⟨rfl, rfl, rfl⟩
    refine Ex.consR (Ex1.ret (Ev.callB (g_sum ok he) (EvL.cons ?_ EvL.nil) Cl.sumI))
    have z := l.length_map (f := pr)
    refine Ev.eq (Ev.compL [] l (fun p => [("low", .int p.1), ("high", .int p.2)]) (fun p => some (.int (p.2 - p.1 + 1))) (z ▸ ItE.list (Ev.nm rfl rfl) (tg_pr l)) (fun i hi => by rw [getD_map l pr i hi]; rfl) rfl
      (fun p hp => by cases hp) rfl (by decide) rfl (by decide) (fun a _ x hx => by simp at hx; rcases hx with rfl | rfl <;> rfl) (fun a _ => by simp; decide) (by omega)
      (fun p _ C => .inl ⟨_, rfl, Ts.nil, Ev.bin (Ev.bin (Ev.nm rfl rfl) (Ev.nm rfl rfl) Bn.sub) Ev.cInt Bn.add⟩)) ?_
    rw [List.filterMap_eq_map', List.map_map]; rfl

theorem f_covered {l : List Pc} (hl : l.length ≤ 1000) (hp : ∀ p ∈ l, p.2.length ≤ 1000) : Fn c (k + 1) "covered" [pcs l] (rng (coveredOf l)) := by
  refine Fn.of (r := rAt 10) (ps := ["pieces"]) ok (by simp [rs]) (fun pm code doc vs hl => ?_) rfl (by decide) rfl rfl rfl rfl fun pm code doc L a => ?_
  · match vs, hl with
    | [v], _ => rfl
  · have he : EnvOk (fenv (rAt 10) pm code doc L a) := ⟨rfl, rfl, rfl⟩
    refine Ex.consR (Ex1.ret ?_)
    have z := l.length_map (f := pc)
    refine Ev.eq (Ev.compL [] l (fun p => [("start", .int p.1), ("octets", .bytes p.2.toArray)]) (fun p => some (pr (p.1, p.1 + p.2.length))) (z ▸ ItE.list (Ev.nm rfl rfl) (tg_pc l)) (fun i hi => by rw [getD_map l pc i hi]; rfl) rfl
      (fun p hp => by cases hp) rfl (by decide) rfl (by decide) (fun a _ x hx => by simp at hx; rcases hx with rfl | rfl <;> rfl) (fun a _ => by simp; decide) (by omega)
      (fun p hm C => .inl ⟨_, rfl, Ts.nil, Ev.tuple (EvL.cons (Ev.nm rfl rfl) (EvL.cons (Ev.bin (Ev.nm rfl rfl) (Ev.callB (g_len ok ⟨rfl, rfl, rfl⟩) (EvL.cons (Ev.nm rfl rfl) EvL.nil) (Cl.lenBy (by simp; have := hp p hm; omega))) Bn.add) EvL.nil)) (by simp)⟩)) ?_
    unfold rng coveredOf
    rw [List.filterMap_eq_map', List.map_map]; rfl

theorem f_are_right {l : List (Int × Int)} (hl : l.length ≤ 1000) (hr : ∀ i (h : i < l.length), 0 ≤ l[i].1 ∧ l[i].1 ≤ l[i].2 ∧ ∀ h0 : 0 < i, l[i].2 < (l[i - 1]'(by omega)).1 - 1) : Fn c (k + 1) "are_right" [rng l] (.bool true) := by
  refine Fn.of (r := rAt 6) (ps := ["ranges"]) ok (by simp [rs]) (fun pm code doc vs hl => ?_) rfl (by decide) rfl rfl rfl rfl fun pm code doc L a => ?_
  · match vs, hl with
    | [v], _ => rfl
  · have he : EnvOk (fenv (rAt 6) pm code doc L a) := ⟨rfl, rfl, rfl⟩
    refine Ex.cons (for_core (σ := fun _ => [("ranges", rng l)]) (ω := fun _ => none) (j := (l.map pr).length) (Nat.le_refl _) he (ItE.enum (g_enumerate ok he) (Ev.nm rfl rfl)) (allIn ⟨rfl, trivial⟩) rfl
      (fun i _ x hx => by simp at hx; rcases hx with rfl | rfl <;> exact .inl rfl) (fun i _ => by simp; decide) (fun i _ y ds e => by cases e) (fun i hlt => ?_) (.inl ⟨rfl, rfl⟩)) (Ex.consR (Ex1.ret Ev.cBool))
    have hi : i < l.length := by simpa using hlt
    obtain ⟨h1, h2, h3⟩ := hr i hi
    rw [getD_map l pr i hi]
    refine Ex.post (Ex.one (Ex1.ifF (Tr.orF (Tr.eq (Tr.not (Tr.chain Ev.cInt (Ev.itemT (d := .int l[i].1) (Ev.nm rfl rfl) Ev.cInt (by decide) (by simp) rfl) (Ev.itemT (d := .int l[i].2) (Ev.nm rfl rfl) Ev.cInt (by decide) (by simp) rfl) Cm.le Cm.le)) (by simp [h1, h2])) (Tr.orF ?_ Tr.orNil)) Ex.nil)) ⟨rfl, trivial⟩
    by_cases h0 : 0 < i
    · have h4 := h3 h0
      refine Tr.andT (Tr.eq (Tr.cmp (Ev.nm rfl rfl) Ev.cInt Cm.gt) (by simp; omega)) (Tr.andF (Tr.eq (Tr.cmp (Ev.itemT (d := .int l[i].2) (Ev.nm rfl rfl) Ev.cInt (by decide) (by simp) rfl) (Ev.bin (Ev.itemT (d := .int (l[i - 1]'(by omega)).1) (Ev.item (d := pr (l[i - 1]'(by omega))) (Ev.nm rfl rfl) (Ev.bin (Ev.nm rfl rfl) Ev.cInt Bn.sub) (by omega) (by simp; omega) ?_) Ev.cInt (by decide) (by simp) rfl) Ev.cInt Bn.sub) Cm.ge) (by simp; omega)))
      have e : ((i : Int) - 1).toNat = i - 1 := by omega
      rw [e]
      simp only [List.getElem?_map]
      rw [List.getElem?_eq_getElem (by omega)]
      rfl
    · exact Tr.andF (Tr.eq (Tr.cmp (Ev.nm rfl rfl) Ev.cInt Cm.gt) (by simp; omega))

theorem f_taken_from {l : List Pc} {at_ : Int} (hl : l.length ≤ 1000) (hp : ∀ p ∈ l, p.2.length ≤ 1000) : Fn c (k + 1) "taken_from" [pcs l, .int at_] (.tuple [.bytes (takenFrom l at_).1.toArray, pcs (takenFrom l at_).2]) := by
  refine Fn.of (r := rAt 9) (ps := ["pieces", "at"]) ok (by simp [rs]) (fun pm code doc vs hl => ?_) rfl (by decide) rfl rfl rfl rfl fun pm code doc L a => ?_
  · match vs, hl with
    | [v, w], _ => rfl
  · have he : EnvOk (fenv (rAt 9) pm code doc L a) := ⟨rfl, rfl, rfl⟩
    refine Ex.cons (Ex1.tupSO (x := "left") (xs := ["found", "left"]) (ws := [some (.bytes #[]), none]) he (EvW.cons Ev.cBytes (EvW.own EvL.nil)) (by simp) rfl (by simp) (fun x hx => ?_) (by decide) (fun y hy => ?_)) ?_
    · simp at hx; rcases hx with rfl | rfl <;> exact .inl rfl
    · simp at hy; rcases hy with rfl | rfl <;> intro _ <;> rfl
    refine Ex.cons (for_core (σ := fun i => [("found", .bytes ((l.take i).foldl (tkStep at_) ([], [])).1.toArray), ("at", .int at_)]) (ω := fun i => some ("left", ((l.take i).foldl (tkStep at_) ([], [])).2.map pc)) (j := (l.map pc).length) (Nat.le_refl _) he (ItE.list (Ev.nm rfl rfl) (tg_pc l)) (allIn ⟨rfl, rfl, trivial⟩) rfl
      (fun i hi x hx => ?_) (fun i hi => ?_) (fun i hi y ds e => ?_) (fun i hlt => ?_) (.inl ⟨rfl, rfl⟩)) ?_
    · rw [getD_map l pc i (by simpa using hi)] at hx
      simp [bindT, pc] at hx; rcases hx with rfl | rfl <;> exact .inl rfl
    · rw [getD_map l pc i (by simpa using hi)]; simp [bindT, pc]; decide
    · cases e; rw [getD_map l pc i (by simpa using hi)]; simp [bindT, pc]; decide
    · have hi : i < l.length := by simpa using hlt
      rw [getD_map l pc i hi, take_fold _ _ l i hi]
      have hlen := tk_len at_ (l.take i) ([], [])
      have h2 := List.length_take_le i l
      have hpl := hp l[i] (List.getElem_mem hi)
      generalize (l.take i).foldl (tkStep at_) ([], []) = st at hlen ⊢
      generalize l[i] = p at hpl ⊢
      simp only [List.length_nil] at hlen
      refine Ex.one (Ex1.ifb (Tr.chain (Ev.nm rfl rfl) (Ev.nm rfl rfl) (Ev.bin (Ev.nm rfl rfl) (Ev.callB (g_len ok he) (EvL.cons (Ev.nm rfl rfl) EvL.nil) (Cl.lenBy (by simp; omega))) Bn.add) Cm.le Cm.lt) (fun h1 => ?_) fun h1 => ?_)
      · have h1' : p.1 ≤ at_ ∧ at_ < p.1 + p.2.length := by simpa using h1
        have e : tkStep at_ st p = (p.2.drop (at_ - p.1).toNat, st.2) := by unfold tkStep; rw [if_pos h1']
        rw [e]
        exact Ex.post (Ex.one (Ex1.asg he (.inl rfl) (Ev.fromB (Ev.nm rfl rfl) (Ev.bin (Ev.nm rfl rfl) (Ev.nm rfl rfl) Bn.sub) (by omega) (by simp; omega)) (fun y ds e => by cases e; decide))) ⟨rfl, rfl, trivial⟩
      · have h1' : ¬ (p.1 ≤ at_ ∧ at_ < p.1 + p.2.length) := fun q => by simp [q] at h1
        refine Ex.one (Ex1.ifd (Tr.cmp (Ev.nm rfl rfl) (Ev.nm rfl rfl) Cm.gt) (fun h3 => ?_) fun h3 => ?_)
        · have e : tkStep at_ st p = (st.1, st.2 ++ [p]) := by unfold tkStep; rw [if_neg h1', if_pos h3]
          rw [e]
          simp only [List.map_append, List.map_cons, List.map_nil]
          exact Ex.post (Ex.one (Ex1.append he (Ev.tuple (EvL.cons (Ev.nm rfl rfl) (EvL.cons (Ev.nm rfl rfl) EvL.nil)) (by simp)) (by simp; omega))) ⟨rfl, rfl, trivial⟩
        · have e : tkStep at_ st p = st := by unfold tkStep; rw [if_neg h1', if_neg h3]
          rw [e]
          exact Ex.post Ex.nil ⟨rfl, rfl, trivial⟩
    · have e : (l.map pc).length = l.length := by simp
      rw [e, List.take_length]
      refine Ex.freeze (Ex.consR (Ex1.ret (Ev.tuple (EvL.cons (Ev.nm rfl rfl) (EvL.cons (Ev.nm rfl rfl) EvL.nil)) (by simp))))
end
end Mine

namespace Mine

abbrev Ap := List Pc × Int × List UInt8
def apStep (st : Ap) (p : Pc) : Ap :=
  if p.1 + p.2.length < st.2.1 ∨ st.2.1 + st.2.2.length < p.1 then (st.1 ++ [p], st.2)
  else (st.1, min st.2.1 p.1, st.2.2.take (max 0 (p.1 - st.2.1)).toNat ++ p.2 ++ st.2.2.drop (p.1 + p.2.length - st.2.1).toNat)
def insPc (p : Pc) : List Pc → List Pc
  | [] => [p]
  | q :: r => if p.1 < q.1 then p :: q :: r else q :: insPc p r
def sortPc : List Pc → List Pc
  | [] => []
  | p :: r => insPc p (sortPc r)
def apRun (ps : List Pc) (off : Int) (data : List UInt8) : Ap := ps.foldl apStep ([], off, data)
def apAll (ps : List Pc) (off : Int) (data : List UInt8) : List Pc := (apRun ps off data).1 ++ [(apRun ps off data).2]
def addPiece (ps : List Pc) (off : Int) (data : List UInt8) : List Pc := sortPc (apAll ps off data)

abbrev td (p : Pc) : Int × Dat := (p.1, .bytes p.2.toArray)
theorem ins_td (p : Pc) : ∀ l : List Pc, (insPc p l).map td = insP (td p) (l.map td)
  | [] => rfl
  | q :: r => by
    unfold insPc
    rw [List.map_cons, insP]
    split
    · rw [List.map_cons, List.map_cons]
    · rw [List.map_cons, ins_td p r]
theorem sort_td : ∀ l : List Pc, (sortPc l).map td = sortP (l.map td)
  | [] => rfl
  | p :: r => by
    show (insPc p (sortPc r)).map td = insP (td p) (sortP (r.map td))
    rw [ins_td, sort_td r]
theorem pc_td (l : List Pc) : (l.map td).map tp = l.map pc := by rw [List.map_map]; rfl

theorem ap_len (l : List Pc) (hp : ∀ p ∈ l, p.2.length ≤ 1000) : ∀ st : Ap, (l.foldl apStep st).1.length ≤ st.1.length + l.length ∧ (l.foldl apStep st).2.2.length + 1000 ≤ 2 ^ l.length * (st.2.2.length + 1000) := by
  induction l with
  | nil => intro st; simp
  | cons p r ih =>
    intro st
    obtain ⟨h1, h2⟩ := ih (fun q hq => hp q (List.mem_cons_of_mem _ hq)) (apStep st p)
    have hp1 := hp p List.mem_cons_self
    have h3 : (apStep st p).1.length ≤ st.1.length + 1 ∧ (apStep st p).2.2.length + 1000 ≤ 2 * (st.2.2.length + 1000) := by
      unfold apStep
      split
      · simp; omega
      · refine ⟨by simp, ?_⟩
        have e1 := List.length_take_le (max 0 (p.1 - st.2.1)).toNat st.2.2
        simp only [List.length_append, List.length_drop, List.length_take]
        omega
    rw [List.foldl_cons, List.length_cons]
    refine ⟨by omega, Nat.le_trans h2 ?_⟩
    rw [Nat.pow_succ, Nat.mul_assoc]
    exact Nat.mul_le_mul_left _ h3.2

section
variable {c : Cfg} {k : Nat} (ok : c.Ok rs)
include ok

theorem f_add_piece {l : List Pc} {off : Int} {data : List UInt8} (hl : l.length ≤ 3) (hp : ∀ p ∈ l, p.2.length ≤ 1000) (hd0 : data ≠ []) (hd : data.length ≤ 1000) (h3 : (apAll l off data).length ≤ 3) (hnd : ((apAll l off data).map (·.1)).Nodup) :
    Fn c (k + 1) "add_piece" [pcs l, .int off, .bytes data.toArray] (pcs (addPiece l off data)) := by
  have hdl : 0 < data.length := List.length_pos_iff.mpr hd0
  refine Fn.of (r := rAt 8) (ps := ["pieces", "offset", "data"]) ok (by simp [rs]) (fun pm code doc vs hl => ?_) rfl (by decide) rfl rfl rfl rfl fun pm code doc L a => ?_
  · match vs, hl with
    | [v, w, z], _ => rfl
  · have he : EnvOk (fenv (rAt 8) pm code doc L a) := ⟨rfl, rfl, rfl⟩
    refine Ex.cons (Ex1.ifF (Tr.eq (Tr.cmp (Ev.callB (g_len ok he) (EvL.cons (Ev.nm rfl rfl) EvL.nil) (Cl.lenBy (by simp; omega))) Ev.cInt Cm.eq) (by simp; omega)) Ex.nil) ?_
    refine Ex.cons (Ex1.tupSO (x := "found") (xs := ["found", "begin", "joined"]) (ws := [none, some (.int off), some (.bytes data.toArray)]) he (EvW.own (EvL.cons (Ev.nm rfl rfl) (EvL.cons (Ev.callT (g_bytes ok he) (EvL.cons (Ev.nm rfl rfl) EvL.nil) Cl.bytesB) EvL.nil))) (by simp) rfl (by simp) (fun x hx => ?_) (by decide) (fun y hy => ?_)) ?_
    · simp at hx; rcases hx with rfl | rfl | rfl <;> exact .inl rfl
    · simp at hy; rcases hy with rfl | rfl | rfl <;> intro _ <;> rfl
    refine Ex.cons (for_core (σ := fun i => [("begin", .int (apRun (l.take i) off data).2.1), ("joined", .bytes (apRun (l.take i) off data).2.2.toArray)]) (ω := fun i => some ("found", (apRun (l.take i) off data).1.map pc)) (j := (l.map pc).length) (Nat.le_refl _) he (ItE.list (Ev.nm rfl rfl) (tg_pc l)) (allIn ⟨rfl, rfl, trivial⟩) rfl
      (fun i hi x hx => ?_) (fun i hi => ?_) (fun i hi y ds e => ?_) (fun i hlt => ?_) (.inl ⟨rfl, rfl⟩)) ?_
    · rw [getD_map l pc i (by simpa using hi)] at hx
      simp [bindT, pc] at hx; rcases hx with rfl | rfl <;> exact .inl rfl
    · rw [getD_map l pc i (by simpa using hi)]; simp [bindT, pc]; decide
    · cases e; rw [getD_map l pc i (by simpa using hi)]; simp [bindT, pc]; decide
    · have hi : i < l.length := by simpa using hlt
      have hst : apRun (l.take (i + 1)) off data = apStep (apRun (l.take i) off data) l[i] := take_fold _ _ l i hi
      rw [getD_map l pc i hi, hst]
      have hlen := ap_len (l.take i) (fun p hm => hp p (List.mem_of_mem_take hm)) ([], off, data)
      have h2 : (l.take i).length ≤ 3 := by have := List.length_take_le i l; omega
      have h4 : 2 ^ (l.take i).length ≤ 2 ^ 3 := Nat.pow_le_pow_right (by decide) h2
      have hpl := hp l[i] (List.getElem_mem hi)
      change (apRun (l.take i) off data).1.length ≤ _ ∧ (apRun (l.take i) off data).2.2.length + 1000 ≤ _ at hlen
      generalize apRun (l.take i) off data = st at hlen ⊢
      generalize l[i] = p at hpl ⊢
      obtain ⟨fd, bg, jn⟩ := st
      have hj : jn.length ≤ 20000 := by
        have h5 := Nat.le_trans hlen.2 (Nat.mul_le_mul_right _ h4)
        simp only [] at h5
        omega
      have hf : fd.length ≤ 3 := by have := hlen.1; simp at this; omega
      refine Ex.cons (Ex1.tupS (xs := ["end", "last"]) he (EvL.cons (Ev.bin (Ev.nm rfl rfl) (Ev.callB (g_len ok he) (EvL.cons (Ev.nm rfl rfl) EvL.nil) (Cl.lenBy (by simp; omega))) Bn.add) (EvL.cons (Ev.bin (Ev.nm rfl rfl) (Ev.callB (g_len ok he) (EvL.cons (Ev.nm rfl rfl) EvL.nil) (Cl.lenBy (by simp; omega))) Bn.add) EvL.nil)) rfl (by simp)
        (fun x hx => by simp at hx; rcases hx with rfl | rfl <;> exact .inl rfl) (by decide) (fun y ds e => by cases e; decide)) ?_
      refine Ex.one (Ex1.ifb (Tr.or2 (Tr.cmp (Ev.nm rfl rfl) (Ev.nm rfl rfl) Cm.lt) (fun _ => Tr.or2 (Tr.cmp (Ev.nm rfl rfl) (Ev.nm rfl rfl) Cm.lt) fun _ => Tr.orNil)) (fun h1 => ?_) fun h1 => ?_)
      · have h1' : p.1 + p.2.length < bg ∨ bg + jn.length < p.1 := by simpa using h1
        have e : apStep (fd, bg, jn) p = (fd ++ [p], bg, jn) := by unfold apStep; rw [if_pos h1']
        rw [e]
        simp only [List.map_append, List.map_cons, List.map_nil]
        exact Ex.post (Ex.one (Ex1.append he (Ev.tuple (EvL.cons (Ev.nm rfl rfl) (EvL.cons (Ev.nm rfl rfl) EvL.nil)) (by simp)) (by simp; omega))) ⟨rfl, rfl, trivial⟩
      · have h1' : ¬ (p.1 + p.2.length < bg ∨ bg + jn.length < p.1) := fun q => by
          have : (p.1 + p.2.length < bg ∨ bg + jn.length < p.1) ↔ True := by simp [q]
          simp at h1
          omega
        have e : apStep (fd, bg, jn) p = (fd, min bg p.1, jn.take (max 0 (p.1 - bg)).toNat ++ p.2 ++ jn.drop (p.1 + p.2.length - bg).toNat) := by unfold apStep; rw [if_neg h1']
        rw [e]
        refine Ex.cons (Ex1.asg he (.inl rfl) (Ev.uptoB (Ev.nm rfl rfl) (Ev.callB (g_max ok he) (EvL.cons Ev.cInt (EvL.cons (Ev.bin (Ev.nm rfl rfl) (Ev.nm rfl rfl) Bn.sub) EvL.nil)) Cl.max2) (by omega) (by simp; omega)) (fun y ds e => by cases e; decide)) ?_
        refine Ex.cons (Ex1.asg he (.inl rfl) (Ev.fromB (Ev.nm rfl rfl) (Ev.bin (Ev.nm rfl rfl) (Ev.nm rfl rfl) Bn.sub) (by simp; omega) (by simp; omega)) (fun y ds e => by cases e; decide)) ?_
        have z1 := List.length_take_le (max 0 (p.1 - bg)).toNat jn
        refine Ex.post (Ex.one (Ex1.tupS (xs := ["begin", "joined"]) he (EvL.cons (Ev.callB (g_min ok he) (EvL.cons (Ev.nm rfl rfl) (EvL.cons (Ev.nm rfl rfl) EvL.nil)) Cl.min2) (EvL.cons (Ev.bin (Ev.bin (Ev.nm rfl rfl) (Ev.nm rfl rfl) (Bn.bytes (by simp; omega))) (Ev.nm rfl rfl) (Bn.bytes (by simp; omega))) EvL.nil)) rfl (by simp)
          (fun x hx => by simp at hx; rcases hx with rfl | rfl <;> exact .inl rfl) (by decide) (fun y ds e => by cases e; decide))) ⟨rfl, ?_, trivial⟩
        show some (Dat.bytes _) = some (Dat.bytes _)
        congr 2
        simp
    · have e : (l.map pc).length = l.length := by simp
      rw [e, List.take_length]
      have e2 : pcs (addPiece l off data) = .list ((sortP ((apAll l off data).map td)).map tp) := by
        unfold pcs addPiece
        rw [← pc_td, sort_td]
      rw [e2]
      have h1 : ((apAll l off data).map td).length ≤ 3 := by simpa using h3
      have h2 : (((apAll l off data).map td).map (·.1)).Nodup := by rw [List.map_map]; exact hnd
      have h0 : 1 ≤ ((apAll l off data).map td).length := by simp [apAll]
      have hf : (apRun l off data).1.length + 1 ≤ 3 := by simpa [apAll] using h3
      refine Ex.freeze (Ex.consR (Ex1.ret (Ev.callB (g_sorted ok he) (EvL.cons (Ev.eq (Ev.bin (Ev.nm rfl rfl) (Ev.list (EvL.cons (Ev.tuple (EvL.cons (Ev.nm rfl rfl) (EvL.cons (Ev.nm rfl rfl) EvL.nil)) (by simp)) EvL.nil) (by simp)) (Bn.list (by simp; omega))) ?_) EvL.nil) (Cl.sorted h0 h1 h2))))
      rw [pc_td]
      unfold apAll
      rw [List.map_append]
      rfl
end
end Mine

namespace Mine

abbrev Rg := List (Int × Int)
def stStep (st : Rg × List Rg) (n : Int) : Rg × List Rg := (addRange st.1 n n, st.2 ++ [addRange st.1 n n])
def stRun (row : List Int) : Rg × List Rg := row.foldl stStep ([], [])
def lawSteps (row : List Int) : List Rg := (stRun row).2

theorem addRange_len (l : Rg) (a b : Int) : (addRange l a b).length + 1 ≤ 2 * (l.length + 1) := by
  have h := arRun_len l ⟨[], false, a, b⟩
  have e : (arRun l a b).found.length ≤ 0 + 2 * l.length := h
  unfold addRange
  dsimp only
  split
  · omega
  · rw [List.length_append, List.length_singleton]; omega
theorem st_len (row : List Int) : ∀ st : Rg × List Rg, (row.foldl stStep st).1.length + 1 ≤ 2 ^ row.length * (st.1.length + 1) ∧ (row.foldl stStep st).2.length = st.2.length + row.length := by
  induction row with
  | nil => intro st; simp
  | cons n r ih =>
    intro st
    obtain ⟨h1, h2⟩ := ih (stStep st n)
    have h3 := addRange_len st.1 n n
    rw [List.foldl_cons, List.length_cons]
    refine ⟨Nat.le_trans h1 ?_, ?_⟩
    · rw [Nat.pow_succ, Nat.mul_assoc]
      exact Nat.mul_le_mul_left _ h3
    · rw [h2]; simp [stStep]; omega

def ringsStep (size : Nat) (f : List Int) : List Int :=
  (List.range (size + 1)).map fun (j : Nat) => (size : Int) * (if decide ((j : Int) < f.length) then f.getD j 0 else 0) + (if decide ((0 : Int) < j) then f.getD (j - 1) 0 else 0)
def rings : Nat → List Int
  | 0 => [1]
  | i + 1 => ringsStep (i + 1) (rings i)
theorem rings_len : ∀ i, (rings i).length = i + 1
  | 0 => rfl
  | i + 1 => by simp [rings, ringsStep]

section
variable {c : Cfg} {k : Nat} (ok : c.Ok rs)
include ok

theorem f_law_steps {row : List Int} (hl : row.length ≤ 8) : Fn c (k + 3) "_law_steps" [.list (row.map Dat.int)] (.list ((lawSteps row).map rng)) := by
  refine Fn.of (r := rAt 15) (ps := ["row"]) ok (by simp [rs]) (fun pm code doc vs hl => ?_) rfl (by decide) rfl rfl rfl rfl fun pm code doc L a => ?_
  · match vs, hl with
    | [v], _ => rfl
  · have he : EnvOk (fenv (rAt 15) pm code doc L a) := ⟨rfl, rfl, rfl⟩
    refine Ex.cons (Ex1.tupSO (x := "found") (xs := ["ranges", "found"]) (ws := [some (.list []), none]) he (EvW.cons (Ev.list EvL.nil (by simp)) (EvW.own EvL.nil)) (by simp) rfl (by simp) (fun x hx => ?_) (by decide) (fun y hy => ?_)) ?_
    · simp at hx; rcases hx with rfl | rfl <;> exact .inl rfl
    · simp at hy; rcases hy with rfl | rfl <;> intro _ <;> rfl
    refine Ex.cons (for_core (σ := fun i => [("ranges", rng (stRun (row.take i)).1)]) (ω := fun i => some ("found", (stRun (row.take i)).2.map rng)) (j := (row.map Dat.int).length) (Nat.le_refl _) he (ItE.list (Ev.nm rfl rfl) TgOk.nm) (allIn ⟨rfl, trivial⟩) rfl
      (fun i _ x hx => ?_) (fun i _ => by simp [bindT]) (fun i _ y ds e => ?_) (fun i hlt => ?_) (.inl ⟨rfl, rfl⟩)) ?_
    · simp [bindT] at hx; subst hx; exact .inl rfl
    · cases e; simp [bindT]; decide
    · have hi : i < row.length := by simpa using hlt
      have hst : stRun (row.take (i + 1)) = stStep (stRun (row.take i)) row[i] := take_fold _ _ row i hi
      show Ex c _ _ (bindT _ ((row.map Dat.int).getD i Dat.none) ++ _) _ _ _
      rw [getD_map row Dat.int i hi, hst]
      have hlen := st_len (row.take i) ([], [])
      have h2 : (row.take i).length ≤ 8 := by have := List.length_take_le i row; omega
      have h4 : 2 ^ (row.take i).length ≤ 2 ^ 8 := Nat.pow_le_pow_right (by decide) h2
      change (stRun (row.take i)).1.length + 1 ≤ _ ∧ (stRun (row.take i)).2.length = _ at hlen
      generalize stRun (row.take i) = st at hlen ⊢
      generalize row[i] = n
      have h5 : st.1.length ≤ 1000 := by have := Nat.le_trans hlen.1 (Nat.mul_le_mul_right _ h4); simp at this; omega
      have h6 : st.2.length ≤ 1000 := by have := hlen.2; simp at this; omega
      refine Ex.cons (Ex1.asg he (.inl rfl) (Ev.callF ok he rfl (f_add_number ok h5) (EvL.cons (Ev.nm rfl rfl) (EvL.cons (Ev.nm rfl rfl) EvL.nil))) (fun y ds e => by cases e; decide)) ?_
      show Ex c _ _ _ _ _ (.next _ (some ("found", (st.2 ++ [addRange st.1 n n]).map rng)))
      rw [List.map_append]
      exact Ex.post (Ex.one (Ex1.append he (Ev.nm rfl rfl) (by simp; omega))) ⟨rfl, trivial⟩
    · have e : (row.map Dat.int).length = row.length := by simp
      rw [e, List.take_length]
      exact Ex.freeze (Ex.consR (Ex1.ret (Ev.nm rfl rfl)))

theorem f_law_rings {many : Nat} (h1 : 1 ≤ many) (hm : many ≤ 100) : Fn c (k + 1) "_law_rings" [.int many] (.list ((rings (many - 1)).map Dat.int)) := by
  refine Fn.of (r := rAt 14) (ps := ["many"]) ok (by simp [rs]) (fun pm code doc vs hl => ?_) rfl (by decide) rfl rfl rfl rfl fun pm code doc L a => ?_
  · match vs, hl with
    | [v], _ => rfl
  · have he : EnvOk (fenv (rAt 14) pm code doc L a) := ⟨rfl, rfl, rfl⟩
    have en : ((many : Int) - 1).toNat = many - 1 := by omega
    refine Ex.cons (Ex1.asg he (.inr ⟨rfl, rfl⟩) (Ev.list (EvL.cons Ev.cInt EvL.nil) (by simp)) (fun y ds e => by cases e)) ?_
    refine Ex.cons (for_core (σ := fun i => [("found", .list ((rings i).map Dat.int))]) (ω := fun i => none) (j := many - 1) (Nat.le_refl _) he (en ▸ ItE.range2 (a := 1) (n := (many : Int)) (g_range ok he) Ev.cInt (Ev.nm rfl rfl) (by decide) (by decide) (by omega) (by omega)) (allIn ⟨rfl, trivial⟩) rfl
      (fun i _ x hx => ?_) (fun i _ => by simp) (fun i _ y ds e => by cases e) (fun i hi => ?_) (.inl ⟨rfl, rfl⟩)) (Ex.consR (Ex1.ret (Ev.nm rfl rfl)))
    · simp at hx; subst hx; exact .inr ⟨rfl, rfl⟩
    · have hlen := rings_len i
      show Ex c _ _ _ _ _ (.next [("found", .list ((ringsStep (i + 1) (rings i)).map Dat.int))] none)
      generalize rings i = f at hlen ⊢
      refine Ex.post (Ex.one (Ex1.asg he (.inr ⟨rfl, rfl⟩) (d := .list ((ringsStep (i + 1) f).map Dat.int)) ?_ (fun y ds e => by cases e))) ⟨rfl, trivial⟩
      have e2 : (1 + (i : Int) + 1).toNat = (List.range (i + 2)).length := by simp; omega
      refine Ev.eq (Ev.compL [("found", .list (f.map Dat.int)), ("size", .int (1 + i))] (List.range (i + 2)) (fun (j : Nat) => [("at", .int j)]) (fun (j : Nat) => some (.int (((i + 1 : Nat) : Int) * (if decide ((j : Int) < f.length) then f.getD j 0 else 0) + (if decide ((0 : Int) < j) then f.getD (j - 1) 0 else 0))))
        (e2 ▸ ItE.range1 (g_range ok he) (Ev.bin (Ev.nm rfl rfl) Ev.cInt Bn.add) (by omega) (by omega)) (fun j hj => by simp) rfl
        (fun p hp => by
          rcases List.mem_cons.mp hp with rfl | hp
          · exact ⟨rfl, rfl, rfl, _, rfl, rfl⟩
          · rcases List.mem_singleton.mp hp with rfl; exact ⟨rfl, rfl, rfl, _, rfl, rfl⟩) rfl (by decide) rfl (by decide) (fun a _ x hx => by simp at hx; subst hx; rfl) (fun a _ => by simp) (by simp; omega)
        (fun j hj C => .inl ⟨_, rfl, Ts.nil, ?_⟩)) ?_
      · have hj' : j < i + 2 := List.mem_range.mp hj
        refine Ev.bin (Ev.bin (Ev.eq (Ev.nm rfl rfl) (congrArg Dat.int (by omega : (1 + (i : Int)) = ((i + 1 : Nat) : Int)))) (Ev.eq (Ev.ite (Tr.cmp (Ev.nm rfl rfl) (Ev.callB (g_len ok ⟨rfl, rfl, rfl⟩) (EvL.cons (Ev.nm rfl rfl) EvL.nil) (Cl.len (by simp; omega))) Cm.lt) (d := .int (f.getD j 0)) (e := .int 0) (fun hx => ?_) fun hx => Ev.cInt) ?_) (Bn.mul (.of_left (intBits_cast_le (by rw [sizeLine_eq]; omega))))) (Ev.eq (Ev.ite (Tr.cmp (Ev.nm rfl rfl) Ev.cInt Cm.gt) (d := .int (f.getD (j - 1) 0)) (e := .int 0) (fun hx => ?_) fun hx => Ev.cInt) ?_) Bn.add
        · have hx' : j < f.length := by simpa using hx
          exact Ev.item (Ev.nm rfl rfl) (Ev.nm rfl rfl) (by omega) (by simp; omega) (by simp [hx'])
        · simp only [List.length_map]
          split <;> rfl
        · have hx' : 0 < j := by simpa using hx
          refine Ev.item (Ev.nm rfl rfl) (Ev.bin (Ev.nm rfl rfl) Ev.cInt Bn.sub) (by omega) (by simp; omega) ?_
          have e : ((j : Int) - 1).toNat = j - 1 := by omega
          rw [e]
          have : j - 1 < f.length := by omega
          simp [this]
        · split <;> rfl
      · unfold ringsStep; rw [List.filterMap_eq_map', List.map_map]; rfl
end
end Mine

namespace Mine

def insAt (row : List Int) (place : Nat) (n : Int) : List Int := row.take place ++ [n] ++ row.drop place
def seqStep (n : Nat) (found : List (List Int)) : List (List Int) := found.flatMap fun row => (List.range (n + 1)).flatMap fun place => [insAt row place n]
def seqs : Nat → List (List Int)
  | 0 => [[]]
  | i + 1 => seqStep i (seqs i)
abbrev ld (r : List Int) : Dat := .list (r.map Dat.int)

theorem seqs_small : ∀ i < 5, (seqs i).length ≤ 1000 ∧ ∀ r ∈ seqs i, r.length ≤ 10 := by decide +kernel

theorem range_getD {α : Type} (l : List α) (d : α) : (List.range l.length).map (fun i => l.getD i d) = l := by
  refine List.ext_getElem (by simp) fun i h1 h2 => ?_
  simp [h2]
theorem flat_getD {α β : Type} (l : List α) (d : α) (g : α → List β) : ((List.range l.length).flatMap fun i => g (l.getD i d)) = l.flatMap g := by
  conv => rhs; rw [← range_getD l d]
  rw [List.flatMap_map]
theorem flat_map2 {α β γ : Type} (l : List α) (g : α → List β) (f : β → γ) : (l.flatMap g).map f = l.flatMap fun a => (g a).map f := List.map_flatMap

section
variable {c : Cfg} {k : Nat} (ok : c.Ok rs)
include ok

theorem f_law_sequences {many : Nat} (hm : many ≤ 5) : Fn c (k + 1) "_law_sequences" [.int many] (.list ((seqs many).map ld)) := by
  refine Fn.of (r := rAt 13) (ps := ["many"]) ok (by simp [rs]) (fun pm code doc vs hl => ?_) rfl (by decide) rfl rfl rfl rfl fun pm code doc L a => ?_
  · match vs, hl with
    | [v], _ => rfl
  · have he : EnvOk (fenv (rAt 13) pm code doc L a) := ⟨rfl, rfl, rfl⟩
    refine Ex.cons (Ex1.asg he (.inl rfl) (Ev.list (EvL.cons (Ev.list EvL.nil (by simp)) EvL.nil) (by simp)) (fun y ds e => by cases e)) ?_
    refine Ex.cons (for_core (σ := fun i => [("found", .list ((seqs i).map ld))]) (ω := fun i => none) (j := (many : Int).toNat) (Nat.le_refl _) he (ItE.range1 (n := (many : Int)) (g_range ok he) (Ev.nm rfl rfl) (by omega) (by omega)) (allIn ⟨rfl, trivial⟩) rfl
      (fun i _ x hx => ?_) (fun i _ => by simp) (fun i _ y ds e => by cases e) (fun i hi => ?_) (.inl ⟨rfl, rfl⟩)) ?_
    · simp at hx; subst hx; exact .inr ⟨rfl, rfl⟩
    · have hi5 : i < 5 := by omega
      obtain ⟨hl1, hl2⟩ := seqs_small i hi5
      show Ex c _ _ _ _ _ (.next [("found", .list ((seqStep i (seqs i)).map ld))] none)
      generalize seqs i = found at hl1 hl2 ⊢
      have e2 : ((i : Int) + 1).toNat = i + 1 := by omega
      have z := found.length_map (f := ld)
      have er : (seqStep i found).map ld = flat2 found.length (fun _ => i + 1) (fun a j => ld (insAt (found.getD a []) j i)) := by
        unfold seqStep flat2
        rw [flat_map2, flat_getD found [] fun row => (List.range (i + 1)).flatMap fun j => [ld (insAt row j i)]]
        congr 1
        funext row
        rw [flat_map2]; rfl
      rw [er]
      refine Ex.post (Ex.one (Ex1.comp2 [("number", .int i)] he rfl (z ▸ ItE.list (ds := found.map ld) (Ev.nm rfl rfl) TgOk.nm) (fun a ha C => e2 ▸ ItE.range1 (n := (i : Int) + 1) (g_range ok ⟨rfl, rfl, rfl⟩) (Ev.bin (Ev.nm rfl rfl) Ev.cInt Bn.add) (by omega) (by omega)) (fun a ha j hj C => ?_)
        (free_all fun p hp => by rcases List.mem_singleton.mp hp with rfl; exact ⟨rfl, rfl, rfl, _, rfl, rfl⟩) rfl (by decide) rfl (by decide) rfl rfl (by decide) rfl rfl hl1 (fun _ _ => by omega) rfl)) ⟨rfl, trivial⟩
      have hrow : (found.map ld).getD a Dat.none = ld (found.getD a []) := by
        rw [getD_map found ld a ha]; simp [ha]
      have hrl : (found.getD a []).length ≤ 10 := by
        have : found.getD a [] = found[a] := by simp [ha]
        rw [this]; exact hl2 _ (List.getElem_mem ha)
      have hj' : j ≤ i := by omega
      generalize found.getD a [] = row at hrow hrl ⊢
      refine Ev.eq (Ev.bin (Ev.bin (Ev.uptoL (xs := row.map Dat.int) (Ev.eq (Ev.nm rfl rfl) hrow) (Ev.nm rfl rfl) (by omega) (by simp; omega)) (Ev.list (EvL.cons (Ev.nm rfl rfl) EvL.nil) (by simp)) (Bn.list (by simp; omega)))
        (Ev.fromL (xs := row.map Dat.int) (Ev.eq (Ev.nm rfl rfl) hrow) (Ev.nm rfl rfl) (by omega) (by simp; omega)) (Bn.list (by simp; omega))) ?_
      simp [ld, insAt, List.map_take, List.map_drop]
    · have e : (many : Int).toNat = many := by omega
      rw [e]
      exact Ex.consR (Ex1.ret (Ev.nm rfl rfl))
end
end Mine

namespace Mine

def drawn (xs : List Int) (spot : Nat) (many : Int) : Int :=
  if decide ((spot : Int) < xs.length) then (if xs.getD spot 0 < 0 then -(xs.getD spot 0) else xs.getD spot 0).fmod many else ([1, 0, 0, 2, 1, 4, 1].getD (spot % 7) (0 : Int)).fmod many

theorem setA_perm {mu r : List (Addr × Obj)} {a : Addr} {o o' : Obj} (hp : mu.Perm ((a, o) :: r)) (hn : (mu.map (·.1)).Nodup) : ((a, o') :: r).Perm (setA mu a o') := by
  have h1 : (setA mu a o').Perm (setA ((a, o) :: r) a o') := hp.map _
  have h2 : setA ((a, o) :: r) a o' = (a, o') :: r := by
    have nd := ((hp.map (·.1)).nodup_iff).mp hn
    rw [List.map_cons, List.nodup_cons] at nd
    unfold setA
    rw [List.map_cons, if_pos rfl]
    congr 1
    refine (List.map_congr_left fun p hp' => ?_).trans (List.map_id r)
    rw [if_neg fun e => nd.1 (List.mem_map.mpr ⟨p, hp', e⟩)]; rfl
  rw [h2] at h1
  exact h1.symm

section
variable {c : Cfg} {k : Nat} (ok : c.Ok rs)
include ok

theorem draw_rest {xs : List Int} {spot : Nat} {many : Int} (hl : xs.length ≤ 1000) (hs : spot ≤ 1000) (hm : many ≠ 0) {pm code doc : Value} {L a : Addr} :
    Ex c k (fenv (rAt 12) pm code doc L a) [("spot", .int spot), ("pool", .list [.list (xs.map Dat.int), .int (spot + 1)]), ("many", .int many)] none ((rAt 12).body.drop 2) (.ret (.int (drawn xs spot many))) := by
  have he : EnvOk (fenv (rAt 12) pm code doc L a) := ⟨rfl, rfl, rfl⟩
  have pool0 : ∀ p1 p2 p3 n, Ev c k (fenv (rAt 12) pm code doc L a) [("spot", .int spot), ("pool", .list [.list (xs.map Dat.int), .int (spot + 1)]), ("many", .int many)] (.Subscript (.Name "pool" p1) (.Constant (.int 0) n p2) p3) (.list (xs.map Dat.int)) := fun p1 p2 p3 n =>
    Ev.item (xs := [.list (xs.map Dat.int), .int (spot + 1)]) (Ev.nm rfl rfl) Ev.cInt (by decide) (by simp) rfl
  by_cases h : spot < xs.length
  · have e : drawn xs spot many = (if xs.getD spot 0 < 0 then -(xs.getD spot 0) else xs.getD spot 0).fmod many := by
      unfold drawn; rw [if_pos (by simpa using h)]
    rw [e]
    refine Ex.consR (Ex1.ifT (Tr.eq (Tr.cmp (Ev.nm rfl rfl) (Ev.callB (g_len ok he) (EvL.cons (pool0 _ _ _ _) EvL.nil) (Cl.len (by simp; omega))) Cm.lt) (by simp; omega)) (Ex.consR (Ex1.ret (Ev.bin (Ev.callB (g_abs ok he) (EvL.cons (Ev.item (xs := xs.map Dat.int) (d := .int (xs.getD spot 0)) (pool0 _ _ _ _) (Ev.nm rfl rfl) (by omega) (by simp; omega) (by simp [h])) EvL.nil) Cl.abs1) (Ev.nm rfl rfl) (Bn.mod hm)))))
  · have hlen : (xs.map Dat.int).length ≤ 16777216 := by simp; omega
    have hno : decide ((spot : Int) < ((xs.map Dat.int).length : Nat)) = false := by simp; omega
    have e : drawn xs spot many = ([1, 0, 0, 2, 1, 4, 1].getD (spot % 7) (0 : Int)).fmod many := by
      unfold drawn; rw [if_neg (by simpa using h)]
    rw [e]
    clear e
    have hf : (spot : Int).fmod 7 = ((spot % 7 : Nat) : Int) := by rw [Int.fmod_eq_emod_of_nonneg _ (by decide)]; omega
    have hlt : spot % 7 < 7 := Nat.mod_lt _ (by decide)
    show Ex c k _ _ _ [_, _] _
    refine Ex.cons (Γ' := [("spot", .int spot), ("pool", .list [.list (xs.map Dat.int), .int (spot + 1)]), ("many", .int many)]) (o' := none) ?_ ?_
    · refine Ex1.ifF ?_ Ex.nil
      refine Tr.eq (Tr.cmp (Ev.nm rfl rfl) ?_ Cm.lt) hno
      exact Ev.callB (g_len ok he) (EvL.cons (pool0 _ _ _ _) EvL.nil) (Cl.len hlen)
    refine Ex.consR ?_
    refine Ex1.ret ?_
    refine Ev.bin (dl := .int ([1, 0, 0, 2, 1, 4, 1].getD (spot % 7) (0 : Int))) ?_ (Ev.nm rfl rfl) (Bn.mod hm)
    refine Ev.itemT (xs := [.int 1, .int 0, .int 0, .int 2, .int 1, .int 4, .int 1]) (n := ((spot % 7 : Nat) : Int)) ?_ ?_ (by omega) (by simp) ?_
    · exact Ev.tuple (EvL.cons Ev.cInt (EvL.cons Ev.cInt (EvL.cons Ev.cInt (EvL.cons Ev.cInt (EvL.cons Ev.cInt (EvL.cons Ev.cInt (EvL.cons Ev.cInt EvL.nil))))))) (by simp)
    · exact Ev.eq (Ev.bin (Ev.nm rfl rfl) Ev.cInt (Bn.mod (by decide))) (congrArg Dat.int hf)
    have e7 : (((spot % 7 : Nat) : Int)).toNat = spot % 7 := by omega
    rw [e7]
    generalize spot % 7 = j at hlt
    match j, hlt with
    | 0, _ => rfl
    | 1, _ => rfl
    | 2, _ => rfl
    | 3, _ => rfl
    | 4, _ => rfl
    | 5, _ => rfl
    | 6, _ => rfl

theorem draw_core {A : Around} {h₀ : Heap} {Lc : Addr} {mc : Str → Option Value} {muc D : List (Addr × Obj)} {s : Shared} {Q : Value → Shared → Prop} {E : Value → Shared → Prop} {a : Addr} {vs : List Value} {n : Nat} {xs : List Int} {spot : Nat} {many : Int} {t : Tok}
    (hl : xs.length ≤ 1000) (hs : spot ≤ 1000) (hmany : many ≠ 0) : ∃ fa o fd, c.mg "_law_draw" = some (.ref fa) ∧ c.H.get? fa = some o ∧ o.data = .func fd ∧
    (Rm A (k + 1) → Sub c.H h₀ → St h₀ Lc mc muc D s.heap → (a, PySem.W.listOf vs.toArray n) ∈ muc → DatAll D vs [.list (xs.map Dat.int), .int spot] →
      (∀ v h' tk vs' n', St h₀ Lc mc (setA muc a (PySem.W.listOf (List.toArray vs') n')) D h' → DatAll D vs' [.list (xs.map Dat.int), .int ((spot + 1 : Nat) : Int)] → DatIn D v (.int (drawn xs spot many)) → Q v { s with heap := h', toks := tk }) →
      wpAny (model c.prog c.w) A (call (.ref fa) [.ref a, .int many t]) Q E s) := by
  obtain ⟨fa, o, pm, code, doc, h1, h2, h3, h4⟩ := ok.fn (rAt 12) (by simp [rs])
  refine ⟨fa, o, _, h1, h2, h3, fun R B S hm hd hq => ?_⟩
  obtain ⟨rr, hp⟩ := mem_perm hm
  have nd := ((hp.map (·.1)).nodup_iff).mp S.nd
  rw [List.map_cons, List.nodup_cons] at nd
  have Sr := (S.perm hp).drop1
  have na := S.nw _ (List.mem_append.mpr (.inl hm))
  refine wpAny_call (codeAny_call_cells (binds := (["pool", "many"] : List Str).zip [.ref a, .int many t]) (by have := R.hd; omega) (S.sub B fa o h2) h3 (ok.nolimit.keeps (S.sub B)) (h4.keeps (S.sub B)) rfl rfl rfl (fun x hx => ?_) (fun s₁ X => ?_) rfl rfl rfl)
  · rcases List.mem_cons.mp hx with rfl | hx
    · exact .inl rfl
    · rcases List.mem_singleton.mp hx with rfl
      exact .inl rfl
  generalize hZ : a :: D.map (·.1) = Z
  have aZ : a ∈ Z := hZ ▸ List.mem_cons_self
  have inZ : ∀ p ∈ D, p.1 ∈ Z := fun p hp => hZ ▸ List.mem_cons_of_mem _ (List.mem_map_of_mem hp)
  have memZ : ∀ b, b ∈ Z → h₀.get? b = none ∧ b ≠ Lc := fun b hb => by
    rw [← hZ] at hb
    rcases List.mem_cons.mp hb with rfl | hb
    · exact ⟨na.2.2, na.2.1⟩
    · obtain ⟨o, hm⟩ := keys_map hb
      have := S.nw _ (List.mem_append.mpr (.inr hm))
      exact ⟨this.2.2, this.2.1⟩
  have subH : Sub c.H (hideAll s.heap Z) := sub_hide (h₀ := h₀) (S.sub B) fun b hb => by
    cases e : c.H.get? b with
    | none => rfl
    | some o => have := B b o e; rw [(memZ b hb).1] at this; cases this
  obtain ⟨⟨⟨hh, tk, rfl⟩, hns, hkeep, habove⟩, hcell, hap, hab⟩ := X
  have sz : (hideAll s.heap Z).objs.size = s.heap.objs.size := hideAll_size Z s.heap
  have alt : a < s.heap.objs.size := Heap.lt_size na.1
  have he : EnvOk (fenv (rAt 12) pm code doc s.heap.objs.size fa) := ⟨rfl, rfl, rfl⟩
  have St₁ : St (hideAll s.heap Z) s.heap.objs.size (bindL (fenv (rAt 12) pm code doc s.heap.objs.size fa).kindOf ((["pool", "many"] : List Str).zip [.ref a, .int many t]) fun _ => none) [(a, PySem.W.listOf vs.toArray n)] D hh := by
    refine ⟨⟨hns, fun b o e => hkeep b o (of_hideAll Z e), by rw [sz]; exact Nat.le_refl _⟩, fun p hp => ?_, fun p hp q hq => ?_, by simp⟩
    · rcases List.mem_append.mp hp with hp | hp
      · rcases List.mem_singleton.mp hp with rfl
        exact ⟨hkeep _ _ na.1, Nat.ne_of_lt alt, hideAll_none Z aZ⟩
      · exact ⟨hkeep _ _ (S.get (a := p.1) (o := p.2) hp), Nat.ne_of_lt (S.ltD p hp), hideAll_none Z (inZ p hp)⟩
    · rcases List.mem_singleton.mp hp with rfl
      exact S.off _ hm q hq
  obtain ⟨m1, hm1⟩ : ∃ m1, m1 = (bindL (fenv (rAt 12) pm code doc s.heap.objs.size fa).kindOf ((["pool", "many"] : List Str).zip [.ref a, .int many t]) fun _ => none) := ⟨_, rfl⟩
  rw [← hm1] at St₁
  have hpool : m1 "pool" = some (.ref a) := by rw [hm1]; rfl
  have hmny : m1 "many" = some (.int many t) := by rw [hm1]; rfl
  clear hm1
  cases hd with
  | cons i1 r1 => cases r1 with
    | cons i2 r2 =>
      cases r2
      cases i2
      rename_i w1 t2
      refine wpAny_execs_cons ?_
      refine wpAny_Assign_Name ?_ (by rfl)
      refine Subscript_ (name_rd he.k St₁ (.loc rfl rfl hpool) (by decide) ?_)
      refine wpAny_Constant_int ?_
      refine kd_item (ds := [.list (xs.map Dat.int), .int (spot : Int)]) (us := [w1, Value.int (spot : Int) t2]) (n := n) (L9 := D) St₁.nw (List.mem_append.mpr (.inl List.mem_cons_self)) (.cons i1 (.cons (.int _ _) .nil)) (by decide) (by simp) (by decide) (fun v d e _ iv => ?_) (by with_unfolding_all rfl)
      have ed : d = .int (spot : Int) := (Option.some.inj e).symm
      subst ed
      cases iv
      rename_i t3
      refine store_loc he.k (St₁) rfl fun h2 tk2 St₂ => ?_
      obtain ⟨m2, hm2⟩ : ∃ m2, m2 = (fun y => if y = ("spot" : Str) then some (Value.int (spot : Int) t3) else m1 y) := ⟨_, rfl⟩
      rw [← hm2] at St₂
      have hspot : m2 "spot" = some (.int (spot : Int) t3) := by rw [hm2]; exact if_pos rfl
      have hpool : m2 "pool" = some (.ref a) := by rw [hm2]; exact (if_neg (by decide)).trans hpool
      have hmny : m2 "many" = some (.int many t) := by rw [hm2]; exact (if_neg (by decide)).trans hmny
      clear hm2
      have G₂ : Has (fenv (rAt 12) pm code doc s.heap.objs.size fa) s.heap.objs.size m2 [(a, PySem.W.listOf [w1, Value.int (spot : Int) t2].toArray n)] D [("spot", .int (spot : Int))] := fun x d e => by
        rw [List.lookup_cons] at e
        by_cases hx : x == "spot"
        · rw [hx] at e; cases e
          have q : x = "spot" := beq_iff_eq.mp hx
          subst q
          exact ⟨_, .loc rfl rfl hspot, .int _ t3⟩
        · simp only [hx] at e; cases e
      refine wpAny_execs_cons ?_
      refine wpAny_Assign_Subscript ?_ (by rfl)
      refine (Ev.bin (c := c) (k := k) (Ev.nm (d := .int (spot : Int)) rfl rfl) Ev.cInt Bn.add) _ (hideAll s.heap Z) s.heap.objs.size _ _ D { s with heap := h2, toks := tk2 } _ _ R.deeper subH St₂ G₂ fun v tl h3 tk3 St₃ iv => ?_
      cases iv
      rename_i t4
      refine name_rd (s := { s with heap := h3, toks := tk3 }) he.k St₃ (.loc rfl rfl hpool) (by decide) ?_
      refine wpAny_Constant_int ?_
      have ho₃ := St₃.getM (a := a) (o := PySem.W.listOf [w1, Value.int (spot : Int) t2].toArray n) List.mem_cons_self
      refine ki_setAt ho₃ (by decide) (by decide) (by simp) ?_
      have ho₄ := get?_update_seq (c := "list") (xs := [w1, Value.int (spot : Int) t2].toArray) (n := n) ho₃ (·.setIfInBounds (1 : Int).toNat (.int ((spot : Int) + 1) t4))
      have St₄ := (St₃.turn (Heap.SameBut.update ..) ho₄).less (D' := D) fun p hp => List.mem_append.mpr (.inr hp)
      have eo : seqObj "list" ([w1, Value.int (spot : Int) t2].toArray.setIfInBounds (1 : Int).toNat (.int ((spot : Int) + 1) t4)) (if ([w1, Value.int (spot : Int) t2].toArray.setIfInBounds (1 : Int).toNat (.int ((spot : Int) + 1) t4)).size == [w1, Value.int (spot : Int) t2].toArray.size then n else n + 1) = PySem.W.listOf [w1, .int ((spot : Int) + 1) t4].toArray n := rfl
      rw [eo] at St₄
      have St₅ := St₄.freeze
      have hdn : DatAll D [w1, .int ((spot : Int) + 1) t4] [.list (xs.map Dat.int), .int ((spot : Int) + 1)] := .cons i1 (.cons (.int _ _) .nil)
      refine draw_rest ok (pm := pm) (code := code) (doc := doc) (L := s.heap.objs.size) (a := fa) (k := k) hl hs hmany _ (hideAll s.heap Z) [] ([(a, PySem.W.listOf [w1, .int ((spot : Int) + 1) t4].toArray n)] ++ D) _ _ _ R.deeper subH ⟨m2, [], _, St₅, fun x d e => ?_, ⟨fun x b e => (by cases e), fun x y b e => (by cases e)⟩, fun p hp => (by cases hp), fun p hp => hp, fun _ _ e => (by cases e)⟩ ?_
      · rw [List.lookup_cons] at e
        by_cases hx : x == "spot"
        · rw [hx] at e; cases e
          have q : x = "spot" := beq_iff_eq.mp hx
          subst q
          exact ⟨_, .loc rfl rfl hspot, .int _ t3⟩
        · simp only [hx] at e
          rw [List.lookup_cons] at e
          by_cases hx : x == "pool"
          · rw [hx] at e; cases e
            have q : x = "pool" := beq_iff_eq.mp hx
            subst q
            exact ⟨_, .loc rfl rfl hpool, .list (List.mem_append.mpr (.inl List.mem_cons_self)) (hdn.mono subL)⟩
          · simp only [hx] at e
            rw [List.lookup_cons] at e
            by_cases hx : x == "many"
            · rw [hx] at e; cases e
              have q : x = "many" := beq_iff_eq.mp hx
              subst q
              exact ⟨_, .loc rfl rfl hmny, .int _ t⟩
            · simp only [hx] at e; cases e
      rintro v h' tk' ⟨m', mu', D', St₆, hD', j⟩
      have kp : ∀ b o, (hideAll s.heap Z).get? b = some o → h'.get? b = some o := St₆.fr.keep
      have fin := Sr.back (h' := h') (Z := Z) (tl := []) memZ kp (fun p hp' => kp _ _ (hideAll_get Z (Sr.getM (a := p.1) (o := p.2) hp') fun hm' => by
          rw [← hZ] at hm'
          rcases List.mem_cons.mp hm' with q | hm'
          · exact nd.1 (List.mem_map.mpr ⟨p, hp', q⟩)
          · obtain ⟨q, hq, e⟩ := List.mem_map.mp hm'
            exact Sr.off p hp' q hq e.symm)) (fun p hp' => St₆.get (a := p.1) (o := p.2) (hD' p (List.mem_append.mpr (.inr hp')))) (fun p hp' => by cases hp')
      have fin2 := fin.addMC (C := a) (St₆.get (hD' _ (List.mem_append.mpr (.inl List.mem_cons_self)))) na.2.1 na.2.2 (fun p hp' e => nd.1 (List.mem_map.mpr ⟨p, hp', e⟩)) (fun p hp' e => S.off _ hm p hp' e.symm)
      cases j
      exact hq _ h' tk' [w1, .int ((spot : Int) + 1) t4] n (fin2.perm (setA_perm hp S.nd)) (by rw [show ((spot + 1 : Nat) : Int) = (spot : Int) + 1 by omega]; exact hdn) (.int _ _)
end
end Mine

namespace Mine

/-- an expression that turns the owned list -/
def EvS (c : Cfg) (k : Nat) (env : Env) (Γ : List (Str × Dat)) (x : Str) (ds ds' : List Dat) (e : Expr) (d : Dat) : Prop :=
  ∀ (A : Around) (h₀ : Heap) (R D₀ : List (Addr × Obj)) (m : Str → Option Value) (mu D : List (Addr × Obj)) (s : Shared) (Q : Value → Shared → Prop) (E : Value → Shared → Prop),
    Rm A k → Sub c.H h₀ → SatM env h₀ R D₀ Γ (some (x, ds)) m mu D s.heap →
    (∀ v mu' D' h' tk, SatM env h₀ R D₀ Γ (some (x, ds')) m mu' D' h' → (∀ p ∈ D, p ∈ D') → DatIn D' v d → Q v { s with heap := h', toks := tk }) → wpAny (model c.prog c.w) A (eval e env) Q E s

section
variable {c : Cfg} {k : Nat} {env : Env} {Γ : List (Str × Dat)} {o : Option (Str × List Dat)} {x : Str} {ds ds' : List Dat}

theorem SatM.forget {h₀ h : Heap} {R D₀ : List (Addr × Obj)} {m : Str → Option Value} {mu D : List (Addr × Obj)} (S : SatM env h₀ R D₀ Γ o m mu D h) : SatM env h₀ R D₀ Γ none m mu D h := ⟨S.st, S.hs, S.ce, S.rs, S.d0, fun _ _ e => by cases e⟩

theorem EvS.binR {l r : Expr} {pos : Pos} {op : Operator} {dl dr d : Dat} (hl : Ev c k env Γ l dl) (hr : EvS c k env Γ x ds ds' r dr) (hb : Bn c k op dl dr d) : EvS c k env Γ x ds ds' (.BinOp l op r pos) d := by
  intro A h₀ R D₀ m mu D s Q E rm B S hq
  refine wpAny_BinOp (hl A h₀ _ m mu D s _ E rm B S.st S.hs fun v tl h' tk S' i => ?_)
  refine hr A h₀ R D₀ m mu _ _ _ E rm B (S.grow S') fun w mu' D' h'' tk' S'' hD j => ?_
  refine hb A h₀ _ m mu' _ _ v w Q E rm S''.st (i.mono hD) j fun z tl' h3 tk3 S3 i3 => ?_
  exact hq z mu' _ h3 tk3 (S''.grow S3) (fun p hp => List.mem_append.mpr (.inr (hD p (List.mem_append.mpr (.inr hp))))) i3

theorem EvS.draw (ok : c.Ok rs) (he : EnvOk env) (hk : env.kindOf "_law_draw" = some .globalImplicit) {p pp pos : Pos} {e : Expr} {xs : List Int} {spot : Nat} {many : Int} (hl : xs.length ≤ 1000) (hs : spot ≤ 1000) (hm : many ≠ 0) (hE : Ev c (k + 1) env Γ e (.int many))
    (h1 : starEach (.Name "pool" pp :: e :: []) env = (false, eval (.Name "pool" pp) env) :: starEach (e :: []) env := by rfl) (h2 : starEach (e :: []) env = (false, eval e env) :: starEach [] env := by rfl) :
    EvS c (k + 1) env Γ "pool" [.list (xs.map Dat.int), .int (spot : Int)] [.list (xs.map Dat.int), .int ((spot + 1 : Nat) : Int)] (.Call (.Name "_law_draw" p) [.Name "pool" pp, e] [] pos) (.int (drawn xs spot many)) := by
  intro A h₀ R D₀ m mu D s Q E rm B S hq
  obtain ⟨a, vs, n, g1, g2, g3, g4, g5⟩ := S.ow _ _ rfl
  obtain ⟨fa, oo, pm, code, doc, f1, f2, f3, f4⟩ := ok.fn (rAt 12) (by simp [rs])
  refine Call_Name rfl (Gl.fn ok he hk f1 (by decide) A s _ E p (S.st.sub B) ?_)
  refine callWith_def (o := oo) (fd := docDef (rAt 12).name (rAt 12).params (rAt 12).body (rAt 12).scope pm code doc) f3 (args_cons (name_rd he.k S.st g2 (by decide) ?_) h1) h1
  refine args_cons (hE A h₀ _ m mu D s _ E rm B S.st S.hs fun v tl h' tk S' i => args_nil ⟨S'.sub B fa oo f2, ?_⟩) h2
  cases i
  rename_i t
  obtain ⟨fa', o', fd', q1, q2, q3, q4⟩ := draw_core (k := k) ok (A := A) (h₀ := h₀) (Lc := env.locals) (mc := m) (muc := mu) (D := tl ++ D) (s := { s with heap := h', toks := tk }) (Q := Q) (E := E) (a := a) (vs := vs) (n := n) (t := t) hl hs hm
  have ea : fa' = fa := by
    have f1' : c.mg "_law_draw" = some (.ref fa) := f1
    rw [q1] at f1'; cases f1'; rfl
  subst ea
  refine q4 rm B S' g1 (g3.mono subL) fun v h'' tk' vs' n' S'' hd' iv => ?_
  have S2 := S.grow S'
  have rdk : ∀ y w, Rd env env.locals m mu y w → Rd env env.locals m (setA mu a (PySem.W.listOf (List.toArray vs') n')) y w := fun y w R => by
    cases R with
    | loc e1 e2 e3 => exact .loc e1 e2 e3
    | own hm' hn e2 e3 => exact absurd rfl (S.st.nw _ (List.mem_append.mpr (.inl hm'))).2.1
    | cell hc e2 hm' hd'' => exact .cell hc e2 (setA_old hm' fun e => g5 _ _ hc e.symm) hd''
  refine hq v (setA mu a (PySem.W.listOf (List.toArray vs') n')) (tl ++ D) h'' tk' ⟨S'', fun y d' e => ?_, ⟨fun y c' hy => ?_, S.ce.one⟩, fun q hq => ⟨setA_old (S.rs q hq).1 (g4 q hq), (S.rs q hq).2⟩, S2.d0, fun y ds' e => ?_⟩ subL iv
  · obtain ⟨w, hw, j⟩ := S2.hs y d' e
    exact ⟨w, rdk y w hw, j⟩
  · obtain ⟨ob, w, r1, r2⟩ := S.ce.is y c' hy
    exact ⟨ob, w, setA_old r1 fun e => g5 _ _ hy e.symm, r2⟩
  · cases e
    exact ⟨a, vs', n', setA_new g1, rdk _ _ g2, hd', g4, g5⟩

theorem Ex1.asgS {y : Str} {pos' pos : Pos} {e : Expr} {d : Dat} (he : EnvOk env) (hk : Okind env y) (h : EvS c k env Γ x ds ds' e d) (hx : x ≠ y) (hs : swapsWith e (some (.Name y pos')) pos.line env = pure false := by rfl) :
    Ex1 c k env Γ (some (x, ds)) (.Assign [.Name y pos'] e pos) (.next ((y, d) :: Γ) (some (x, ds'))) := by
  intro A h₀ R D₀ s Q E r B S P
  obtain ⟨m, mu, D, S⟩ := S
  refine wpAny_Assign_Name (h A h₀ R D₀ m mu D s _ E r B S fun v mu' D' h' tk S' hD i => ?_) hs
  exact S'.store (s := { s with heap := h', toks := tk }) he hk i (fun _ _ e => by cases e; exact hx) fun h'' tk' m' mu'' S'' => P h'' tk' ⟨m', mu'', _, S''⟩

/-- two names at once, of which the first's value turns the list -/
theorem Ex1.tupSS {elts es : List Expr} {e : Expr} {n n' : Nat} {p1 p2 pos : Pos} {xs : List Str} {d : Dat} {dr : List Dat} (he : EnvOk env) (h : EvS c k env Γ x ds ds' e d) (h2 : EvL c k env Γ es dr) (hl : xs.length = (d :: dr).length) (hsz : (d :: dr).length ≤ 16777216) (hk : ∀ x ∈ xs, Okind env x) (hn : xs.Nodup)
    (hx : x ∉ xs) (hst : starEach (e :: es) env = (false, eval e env) :: starEach es env := by rfl)
    (hs : swapsWithSole [.Tuple elts n p1] (.Tuple (e :: es) n' p2) pos.line env = pure false := by rfl) (hw : swappedStores [.Tuple elts n p1] (.Tuple (e :: es) n' p2) env = pure (some xs) := by rfl) :
    Ex1 c k env Γ (some (x, ds)) (.Assign [.Tuple elts n p1] (.Tuple (e :: es) n' p2) pos) (.next (xs.zip (d :: dr) ++ Γ) (some (x, ds'))) := by
  intro A h₀ R D₀ s Q E r B S P
  obtain ⟨m, mu, D, S⟩ := S
  refine Assign_Tuple_swapped (Tuple_ (args_cons (h A h₀ R D₀ m mu D s _ E r B S fun v mu₁ D₁ h₁ tk₁ S₁ hD₁ i₁ => ?_) hst)) hs hw
  refine h2 A h₀ _ m mu₁ D₁ _ _ E p2 r B S₁.st S₁.hs fun vs tl h' tk S' i => ?_
  have ia : DatAll (tl ++ D₁) (v :: vs) (d :: dr) := .cons (i₁.mono subL) i
  refine newTuple_N (hsz := by rw [ia.length, sizeLine_eq]; exact hsz) S'.fr S'.nw fun h'' F N => ?_
  have S'' := S'.ofFN F (fun p hp => N p (List.mem_cons_of_mem _ hp))
  have ht : IsTup h'' _ (List.toArray (v :: vs)) := ⟨_, (N _ List.mem_cons_self).1, rfl, 0, rfl⟩
  have e : xs.length = (List.toArray (v :: vs)).size := by rw [hl, List.size_toArray, ia.length]
  rw [e]
  refine unpackItems_tuple r.hh ht fun h3 hb => ?_
  have S3 : St h₀ env.locals m mu₁ (tl ++ D₁) h3 := S''.up fun b o e => hb b o (Nat.ne_of_lt (Heap.lt_size e)) e
  have hlv : xs.length = (v :: vs).length := by rw [hl, ia.length]
  refine (S₁.grow S3).stores (xs := xs) (xs' := xs.reverse) (vs := v :: vs) he (acts_bd env xs.reverse) (fun p hp => ?_) (fun y hy => List.mem_reverse.mp hy) (by rw [List.length_reverse, List.length_reverse]; exact hlv) hl hk ((List.reverse_perm xs).nodup_iff.mpr hn) ia (fun _ _ e => by cases e; exact hx) fun h₃ tk₃ m₃ mu₃ S₃ => P h₃ tk₃ ⟨m₃, mu₃, _, S₃⟩
  rw [zip_rev hlv]; exact List.mem_reverse.mpr hp

/-- names in order, of which the first's value turns the list, which is owned no more; another is a new list -/
theorem Ex1.tupOS {elts es : List Expr} {e : Expr} {n n' : Nat} {p1 p2 pos : Pos} {xs : List Str} {d : Dat} {ws : List (Option Dat)} {y : Str} (he : EnvOk env) (h : EvS c k env Γ x ds ds' e d) (h2 : EvW c k env Γ es ws) (hy : (y, none) ∈ xs.zip (some d :: ws)) (hl : xs.length = (some d :: ws).length) (hsz : (some d :: ws).length ≤ 16777216) (hk : ∀ x ∈ xs, Okind env x) (hn : xs.Nodup)
    (hg : ∀ y ∈ xs, (dats xs (some d :: ws)).lookup y = none → Γ.lookup y = none)
    (ac : Acts env xs ((assignEach elts env).map (·.2))) (hel : (assignEach elts env).length = xs.length) (hstar : (assignEach elts env).findIdx? (·.1) = none) (hst : starEach (e :: es) env = (false, eval e env) :: starEach es env := by rfl)
    (hs : swapsWithSole [.Tuple elts n p1] (.Tuple (e :: es) n' p2) pos.line env = pure false := by rfl) (hw : swappedStores [.Tuple elts n p1] (.Tuple (e :: es) n' p2) env = pure none := by rfl) :
    Ex1 c k env Γ (some (x, ds)) (.Assign [.Tuple elts n p1] (.Tuple (e :: es) n' p2) pos) (.next (dats xs (some d :: ws) ++ Γ) (some (y, []))) := by
  intro A h₀ R D₀ s Q E r B S P
  obtain ⟨m, mu, D, S⟩ := S
  refine Assign_Tuple (Tuple_ (args_cons (h A h₀ R D₀ m mu D s _ E r B S fun v mu₁ D₁ h₁ tk₁ S₁ hD₁ i₁ => ?_) hst)) hs hw
  refine h2 A h₀ _ m mu₁ D₁ _ _ E p2 r B S₁.st S₁.hs fun vs a tl h' tk S' i => ?_
  have ia : WAll (tl ++ D₁) a (v :: vs) (some d :: ws) := .dat (i₁.mono subL) i
  refine newTuple_N (hsz := by rw [ia.length, sizeLine_eq]; exact hsz) S'.fr S'.nw fun h'' F N => ?_
  have S'' := S'.ofFN F (fun p hp => N p (List.mem_cons_of_mem _ hp))
  have ht : IsTup h'' _ (List.toArray (v :: vs)) := ⟨_, (N _ List.mem_cons_self).1, rfl, 0, rfl⟩
  refine assign_Tuple_tuple r.hh ht (by rw [hel, hl, List.size_toArray, ia.length]) hstar fun h3 hb => ?_
  have S3 := S''.up (h' := h3) fun b o e => hb b o (Nat.ne_of_lt (Heap.lt_size e)) e
  have S₂ := S₁.forget
  exact (S₂.addM S3).storesW he (fun p hp => (S₂.rs p hp).1) (fun y c hy => let ⟨ob, _, h1, _⟩ := S₂.ce.is y c hy; ⟨ob, h1⟩) ac (fun p hp => hp) (fun _ => Iff.rfl) (by rw [hl]; exact ia.length.symm) hk hn ia hy hg fun h₃ tk₃ m₃ mu₃ S₃ => P h₃ tk₃ ⟨m₃, mu₃, _, S₃⟩
end
end Mine

namespace Mine

def byteOf (n : Int) : UInt8 := (65 + n).toNat.toUInt8
def has (l : List Int) (n : Int) : Bool := l.any (· == n)
def twoIn (l : List Int) (a b : Int) : Nat := (([a, b] : List Int).filter (has l)).length
def pieceStep (ps : List Pc) (n : Int) : List Pc := addPiece ps n [byteOf n]
def firstOut (many : Nat) (l : List Int) : List Nat := (List.range (many + 1)).filter fun j => !has l (j : Int)
def rightAll : Rg → Bool
  | [] => true
  | [p] => decide (0 ≤ p.1) && decide (p.1 ≤ p.2)
  | p :: q :: r => decide (0 ≤ p.1) && decide (p.1 ≤ p.2) && decide (q.2 < p.1 - 1) && rightAll (q :: r)

structure TurnOk (many i : Nat) (n : Int) (met here : List Int) (bf st opp : Rg) (ps ps' : List Pc) : Prop where
  len : (st.length : Int) = bf.length + 1 - twoIn met (n - 1) (n + 1)
  right : rightAll st = true
  cnt : countOf st = i + 1
  top : ∃ p r, st = p :: r ∧ p.2 ∈ here ∧ ∀ a ∈ here, a ≤ p.2
  hasn : ∀ one < many, hasNumber st (one : Int) = has here (one : Int)
  pl : ps.length ≤ 3
  pb : ∀ p ∈ ps, p.2.length ≤ 1000
  al : (apAll ps n [byteOf n]).length ≤ 3
  an : ((apAll ps n [byteOf n]).map (·.1)).Nodup
  pl' : ps'.length ≤ 3
  pb' : ∀ p ∈ ps', p.2.length ≤ 1000
  cov : coveredOf ps' = st.reverse.map fun p => (p.1, p.2 + 1)
  fst : ∃ f r, firstOut many here = f :: r ∧ f ≤ 100 ∧ (takenFrom ps' 0).1 = (List.range f).map fun (j : Nat) => byteOf (j : Int)
  opp : i + 1 < many → (st.length : Int) - opp.length = twoIn here 0 ((many : Int) - 1) - 1

def turnB (many i : Nat) (n : Int) (met here : List Int) (bf st opp : Rg) (ps ps' : List Pc) : Bool :=
  decide ((st.length : Int) = bf.length + 1 - twoIn met (n - 1) (n + 1)) && rightAll st && decide (countOf st = i + 1) &&
  (match st with | p :: _ => has here p.2 && here.all fun a => decide (a ≤ p.2) | [] => false) &&
  ((List.range many).all fun one => hasNumber st (one : Int) == has here (one : Int)) &&
  Nat.ble ps.length 3 && (ps.all fun p => Nat.ble p.2.length 1000) && Nat.ble (apAll ps n [byteOf n]).length 3 && decide ((apAll ps n [byteOf n]).map (·.1)).Nodup &&
  Nat.ble ps'.length 3 && (ps'.all fun p => Nat.ble p.2.length 1000) && decide (coveredOf ps' = st.reverse.map fun p => (p.1, p.2 + 1)) &&
  (match firstOut many here with | f :: _ => Nat.ble f 100 && decide ((takenFrom ps' 0).1 = (List.range f).map fun (j : Nat) => byteOf (j : Int)) | [] => false) &&
  (if i + 1 < many then decide ((st.length : Int) - opp.length = twoIn here 0 ((many : Int) - 1) - 1) else true)

abbrev rgF (bf : Rg) (l : List Int) : Rg := l.foldl (fun a n => addRange a n n) bf
abbrev pcF (ps : List Pc) (l : List Int) : List Pc := l.foldl pieceStep ps

def rI (many : Nat) : List Int := (List.range many).map fun (j : Nat) => (j : Int)
def subs : List Int → List (List Int)
  | [] => [[]]
  | a :: r => subs r ++ (subs r).map (a :: ·)
def nxt (many : Nat) (S : List Int) (n : Int) : List Int := (rI many).filter fun x => has S x || x == n
def outOf (many : Nat) (H : List Int) : List Int := (rI many).filter fun x => !has H x
def oneB (many : Nat) (S : List Int) (n : Int) (H : List Int) : Bool :=
  Nat.beq H.length (S.length + 1) && decide (addRange (rgF [] S) n n = rgF [] H) && decide (pieceStep (pcF [] S) n = pcF [] H) && turnB many S.length n S H (rgF [] S) (rgF [] H) (rgF [] (outOf many H)) (pcF [] S) (pcF [] H)
def setB (many : Nat) (S : List Int) : Bool := (rI many).all fun n => has S n || oneB many S n (nxt many S n)
set_option maxRecDepth 100000 in
theorem set4 : (subs (rI 4)).all (setB 4) = true := by decide +kernel
set_option maxRecDepth 100000 in
theorem set5 : (subs (rI 5)).all (setB 5) = true := by decide +kernel
set_option maxRecDepth 100000 in
theorem set6a : ((subs (rI 6)).take 32).all (setB 6) = true := by decide +kernel
set_option maxRecDepth 100000 in
theorem set6b : ((subs (rI 6)).drop 32).all (setB 6) = true := by decide +kernel
theorem set6 : (subs (rI 6)).all (setB 6) = true := by
  rw [← List.take_append_drop 32 (subs (rI 6)), List.all_append, set6a, set6b]; rfl
end Mine

namespace Mine

theorem has_mem {l : List Int} {n : Int} : has l n = true ↔ n ∈ l := by
  unfold has
  rw [List.any_eq_true]
  constructor
  · rintro ⟨a, h, e⟩
    rw [← beq_iff_eq.mp e]; exact h
  · exact fun h => ⟨n, h, beq_self_eq_true n⟩

theorem turn_ok {many i : Nat} {n : Int} {met here : List Int} {bf st opp : Rg} {ps ps' : List Pc} (h : turnB many i n met here bf st opp ps ps' = true) : TurnOk many i n met here bf st opp ps ps' := by
  unfold turnB at h
  simp only [Bool.and_eq_true] at h
  obtain ⟨⟨⟨⟨⟨⟨⟨⟨⟨⟨⟨⟨⟨h1, h2⟩, h3⟩, h4⟩, h5⟩, h6⟩, h7⟩, h8⟩, h9⟩, h10⟩, h11⟩, h12⟩, h13⟩, h14⟩ := h
  refine ⟨of_decide_eq_true h1, h2, of_decide_eq_true h3, ?_, fun one ho => ?_, Nat.le_of_ble_eq_true h6, fun p hp => Nat.le_of_ble_eq_true (List.all_eq_true.mp h7 p hp), Nat.le_of_ble_eq_true h8, of_decide_eq_true h9, Nat.le_of_ble_eq_true h10, fun p hp => Nat.le_of_ble_eq_true (List.all_eq_true.mp h11 p hp), of_decide_eq_true h12, ?_, fun hlt => ?_⟩
  · cases st with
    | nil => cases h4
    | cons p r =>
      have h4' : (has here p.2 && here.all fun a => decide (a ≤ p.2)) = true := h4
      rw [Bool.and_eq_true] at h4'
      exact ⟨p, r, rfl, has_mem.mp h4'.1, fun a ha => of_decide_eq_true (List.all_eq_true.mp h4'.2 a ha)⟩
  · exact beq_iff_eq.mp (List.all_eq_true.mp h5 one (List.mem_range.mpr ho))
  · cases hf : firstOut many here with
    | nil => rw [hf] at h13; cases h13
    | cons f r =>
      rw [hf] at h13
      have h13' : (Nat.ble f 100 && decide ((takenFrom ps' 0).1 = (List.range f).map fun (j : Nat) => byteOf (j : Int))) = true := h13
      rw [Bool.and_eq_true] at h13'
      exact ⟨f, r, rfl, Nat.le_of_ble_eq_true h13'.1, of_decide_eq_true h13'.2⟩
  · rw [if_pos hlt] at h14
    exact of_decide_eq_true h14

theorem filter_subs (p : Int → Bool) : ∀ l : List Int, l.filter p ∈ subs l
  | [] => List.mem_singleton.mpr rfl
  | a :: r => by
    have ih := filter_subs p r
    unfold subs
    by_cases h : p a = true
    · rw [List.filter_cons_of_pos h]
      exact List.mem_append.mpr (.inr (List.mem_map_of_mem ih))
    · rw [List.filter_cons_of_neg h]
      exact List.mem_append.mpr (.inl ih)
theorem set_all {many : Nat} (h4 : 4 ≤ many) (h6 : many ≤ 6) : (subs (rI many)).all (setB many) = true := by
  have h : many = 4 ∨ many = 5 ∨ many = 6 := by omega
  rcases h with rfl | rfl | rfl
  · exact set4
  · exact set5
  · exact set6
def can (many : Nat) (l : List Int) : List Int := (rI many).filter (has l)
theorem one_ok {many : Nat} (h4 : 4 ≤ many) (h6 : many ≤ 6) (l : List Int) {n : Int} (hn : n ∈ rI many) (hno : n ∉ can many l) : oneB many (can many l) n (nxt many (can many l) n) = true := by
  have h := List.all_eq_true.mp (List.all_eq_true.mp (set_all h4 h6) _ (filter_subs (has l) (rI many))) n hn
  have h2 : has (can many l) n = false := by
    cases e : has (can many l) n with
    | false => rfl
    | true => exact absurd (has_mem.mp e) hno
  change (has (can many l) n || oneB many (can many l) n (nxt many (can many l) n)) = true at h
  rw [h2, Bool.false_or] at h
  exact h
theorem has_can {many : Nat} {l : List Int} (hs : ∀ x ∈ l, x ∈ rI many) : has (can many l) = has l := by
  funext x
  rw [Bool.eq_iff_iff, has_mem, can, List.mem_filter]
  exact ⟨fun h => h.2, fun h => ⟨hs x (has_mem.mp h), h⟩⟩
theorem nxt_can {many : Nat} {l : List Int} {n : Int} (hs : ∀ x ∈ l, x ∈ rI many) : nxt many (can many l) n = can many (l ++ [n]) := by
  unfold nxt
  rw [has_can hs]
  unfold can
  congr 1
  funext x
  rw [Bool.eq_iff_iff, Bool.or_eq_true, has_mem, has_mem, beq_iff_eq, List.mem_append, List.mem_singleton]
theorem rI_nodup (many : Nat) : (rI many).Nodup := by
  unfold rI
  refine List.pairwise_map.mpr ((List.nodup_range (n := many)).imp fun h e => h (by omega))
theorem row_perm : ∀ n, ∀ row ∈ seqs n, row.Perm (rI n)
  | 0, row, h => by rw [List.mem_singleton.mp h]; exact List.Perm.refl _
  | n + 1, row, h => by
    have h' : row ∈ seqStep n (seqs n) := h
    unfold seqStep at h'
    obtain ⟨r, hr, h2⟩ := List.mem_flatMap.mp h'
    obtain ⟨p, _, h3⟩ := List.mem_flatMap.mp h2
    rw [List.mem_singleton.mp h3]
    have ih := row_perm n r hr
    have e : rI (n + 1) = rI n ++ [(n : Int)] := by unfold rI; rw [List.range_succ, List.map_append]; rfl
    rw [e]
    unfold insAt
    have q1 : (r.take p ++ [(n : Int)] ++ r.drop p).Perm ((n : Int) :: r) := by
      rw [List.append_assoc]
      have := List.perm_middle (a := (n : Int)) (l₁ := r.take p) (l₂ := r.drop p)
      rw [List.take_append_drop] at this
      exact this
    exact q1.trans ((ih.cons _).trans (List.perm_append_singleton _ _).symm)
theorem rg_take {many : Nat} (h4 : 4 ≤ many) (h6 : many ≤ 6) {row : List Int} (hp : row.Perm (rI many)) : ∀ i ≤ row.length, rgF [] (row.take i) = rgF [] (can many (row.take i)) ∧ pcF [] (row.take i) = pcF [] (can many (row.take i)) ∧ (can many (row.take i)).length = i
  | 0, _ => by
    have e : can many [] = [] := by
      unfold can
      exact List.filter_eq_nil_iff.mpr fun x _ h => by cases h
    rw [List.take_zero, e]
    exact ⟨rfl, rfl, rfl⟩
  | i + 1, hi => by
    obtain ⟨i1, i2, i3⟩ := rg_take h4 h6 hp i (by omega)
    have hi' : i < row.length := hi
    have hs : ∀ x ∈ row.take i, x ∈ rI many := fun x hx => hp.mem_iff.mp (List.mem_of_mem_take hx)
    have hnd := hp.nodup_iff.mpr (rI_nodup many)
    have hno : row[i] ∉ can many (row.take i) := fun h => by
      have h2 := (List.mem_filter.mp h).2
      rw [has_mem] at h2
      rw [← List.take_append_drop i row, List.nodup_append] at hnd
      refine hnd.2.2 _ h2 _ ?_ rfl
      rw [List.drop_eq_getElem_cons hi']; exact List.mem_cons_self
    have z := one_ok h4 h6 (row.take i) (hp.mem_iff.mp (List.getElem_mem hi')) hno
    rw [nxt_can hs, ← List.take_succ_eq_append_getElem hi'] at z
    unfold oneB at z
    simp only [Bool.and_eq_true] at z
    obtain ⟨⟨⟨z1, z2⟩, z3⟩, _⟩ := z
    refine ⟨?_, ?_, ?_⟩
    · rw [← of_decide_eq_true z2, ← i1]; exact take_fold (fun a n => addRange a n n) [] row i hi'
    · rw [← of_decide_eq_true z3, ← i2]; exact take_fold pieceStep [] row i hi'
    · rw [Nat.eq_of_beq_eq_true z1, i3]
def stepsFrom (a : Rg) : List Int → List Rg
  | [] => []
  | n :: r => addRange a n n :: stepsFrom (addRange a n n) r
theorem st_fold : ∀ (row : List Int) (st : Rg × List Rg), (row.foldl stStep st).2 = st.2 ++ stepsFrom st.1 row
  | [], st => by simp [stepsFrom]
  | n :: r, st => by
    rw [List.foldl_cons, st_fold r]
    simp [stStep, stepsFrom]
theorem law_steps (row : List Int) : lawSteps row = stepsFrom [] row := by
  show (row.foldl stStep ([], [])).2 = _
  rw [st_fold]; rfl
theorem steps_len : ∀ (a : Rg) (row : List Int), (stepsFrom a row).length = row.length
  | _, [] => rfl
  | a, n :: r => by simp [stepsFrom, steps_len]
theorem steps_get : ∀ (row : List Int) (a : Rg) (i : Nat) (_ : i < row.length), (stepsFrom a row)[i]? = some (rgF a (row.take (i + 1)))
  | [], _, i, h => absurd h (Nat.not_lt_zero i)
  | n :: r, a, 0, _ => by simp [stepsFrom, rgF]
  | n :: r, a, i + 1, h => by
    have := steps_get r (addRange a n n) i (by simpa using h)
    simpa [stepsFrom, rgF] using this
theorem law_get {row : List Int} {i : Nat} (h : i < row.length) : (lawSteps row)[i]? = some (rgF [] (row.take (i + 1))) := by
  rw [law_steps]; exact steps_get row [] i h
theorem law_len (row : List Int) : (lawSteps row).length = row.length := by rw [law_steps, steps_len]

theorem turn_row {many : Nat} (h4 : 4 ≤ many) (h6 : many ≤ 6) {row : List Int} (hr : row ∈ seqs many) {i : Nat} (hi : i < row.length) : TurnOk many i row[i] (row.take i) (row.take (i + 1)) (rgF [] (row.take i)) (rgF [] (row.take (i + 1))) ((lawSteps row.reverse).getD (many - 2 - i) []) (pcF [] (row.take i)) (pcF [] (row.take (i + 1))) := by
  have hp := row_perm many row hr
  have hl : row.length = many := by rw [hp.length_eq]; simp [rI]
  have hs : ∀ x ∈ row.take i, x ∈ rI many := fun x hx => hp.mem_iff.mp (List.mem_of_mem_take hx)
  have hs' : ∀ x ∈ row.take (i + 1), x ∈ rI many := fun x hx => hp.mem_iff.mp (List.mem_of_mem_take hx)
  have hnd := hp.nodup_iff.mpr (rI_nodup many)
  have hno : row[i] ∉ can many (row.take i) := fun h => by
    have h2 := (List.mem_filter.mp h).2
    rw [has_mem] at h2
    have hnd' := hnd
    rw [← List.take_append_drop i row, List.nodup_append] at hnd'
    refine hnd'.2.2 _ h2 _ ?_ rfl
    rw [List.drop_eq_getElem_cons hi]; exact List.mem_cons_self
  have z := one_ok h4 h6 (row.take i) (hp.mem_iff.mp (List.getElem_mem hi)) hno
  rw [nxt_can hs, ← List.take_succ_eq_append_getElem hi] at z
  unfold oneB at z
  simp only [Bool.and_eq_true] at z
  have T := turn_ok z.2
  obtain ⟨a1, a2, a3⟩ := rg_take h4 h6 hp i (by omega)
  obtain ⟨b1, b2, _⟩ := rg_take h4 h6 hp (i + 1) hi
  rw [a3, ← a1, ← a2, ← b1, ← b2] at T
  have e1 : ∀ x, has (can many (row.take i)) x = has (row.take i) x := fun x => by rw [has_can hs]
  have e2 : ∀ x, has (can many (row.take (i + 1))) x = has (row.take (i + 1)) x := fun x => by rw [has_can hs']
  have t1 : ∀ x y, twoIn (can many (row.take i)) x y = twoIn (row.take i) x y := fun x y => by unfold twoIn; rw [has_can hs]
  have t2 : ∀ x y, twoIn (can many (row.take (i + 1))) x y = twoIn (row.take (i + 1)) x y := fun x y => by unfold twoIn; rw [has_can hs']
  have f2 : firstOut many (can many (row.take (i + 1))) = firstOut many (row.take (i + 1)) := by unfold firstOut; rw [has_can hs']
  have m2 : ∀ x, x ∈ can many (row.take (i + 1)) ↔ x ∈ row.take (i + 1) := fun x => by rw [← has_mem, ← has_mem, e2]
  refine ⟨by rw [← t1]; exact T.len, T.right, T.cnt, ?_, fun one ho => by rw [← e2]; exact T.hasn one ho, T.pl, T.pb, T.al, T.an, T.pl', T.pb', T.cov, by rw [← f2]; exact T.fst, fun hlt => ?_⟩
  · obtain ⟨p, r, q1, q2, q3⟩ := T.top
    exact ⟨p, r, q1, (m2 _).mp q2, fun a ha => q3 a ((m2 _).mpr ha)⟩
  · rw [← t2]
    have hrp : row.reverse.Perm (rI many) := (List.reverse_perm row).trans hp
    have hix : many - 2 - i < row.reverse.length := by rw [List.length_reverse]; omega
    have hg : (lawSteps row.reverse).getD (many - 2 - i) [] = rgF [] (row.reverse.take (many - 2 - i + 1)) := by rw [List.getD_eq_getElem?_getD, law_get hix]; rfl
    have ho : rgF [] (outOf many (can many (row.take (i + 1)))) = rgF [] (row.reverse.take (many - 2 - i + 1)) := by
      rw [(rg_take h4 h6 hrp (many - 2 - i + 1) (by omega)).1]
      congr 1
      unfold outOf can
      refine List.filter_congr fun x hx => ?_
      change (!has (can many (row.take (i + 1))) x) = _
      rw [e2, show row.reverse.take (many - 2 - i + 1) = (row.drop (i + 1)).reverse by rw [List.reverse_drop, hl]; congr 1; omega]
      have hxr : x ∈ row.take (i + 1) ++ row.drop (i + 1) := by rw [List.take_append_drop]; exact hp.mem_iff.mpr hx
      have hnd' := hnd
      rw [← List.take_append_drop (i + 1) row, List.nodup_append] at hnd'
      rw [Bool.eq_iff_iff, has_mem, List.mem_reverse]
      constructor
      · intro h
        rcases List.mem_append.mp hxr with q | q
        · rw [has_mem.mpr q] at h; cases h
        · exact q
      · intro h
        cases e : has (row.take (i + 1)) x with
        | false => rfl
        | true => exact absurd rfl (hnd'.2.2 _ (has_mem.mp e) _ h)
    rw [hg, ← ho]
    exact T.opp hlt

theorem right_at : ∀ {st : Rg}, rightAll st = true → ∀ i (h : i < st.length), 0 ≤ st[i].1 ∧ st[i].1 ≤ st[i].2 ∧ ∀ h0 : 0 < i, st[i].2 < (st[i - 1]'(by omega)).1 - 1
  | [], _, i, h => absurd h (Nat.not_lt_zero i)
  | [p], hr, i, h => by
    have hr' : (decide (0 ≤ p.1) && decide (p.1 ≤ p.2)) = true := hr
    rw [Bool.and_eq_true] at hr'
    have : i = 0 := by simpa using h
    subst this
    exact ⟨of_decide_eq_true hr'.1, of_decide_eq_true hr'.2, fun h0 => absurd h0 (Nat.lt_irrefl 0)⟩
  | p :: q :: r, hr, i, h => by
    have hr' : (decide (0 ≤ p.1) && decide (p.1 ≤ p.2) && decide (q.2 < p.1 - 1) && rightAll (q :: r)) = true := hr
    simp only [Bool.and_eq_true] at hr'
    obtain ⟨⟨⟨h1, h2⟩, h3⟩, h4⟩ := hr'
    match i, h with
    | 0, _ => exact ⟨of_decide_eq_true h1, of_decide_eq_true h2, fun h0 => absurd h0 (Nat.lt_irrefl 0)⟩
    | 1, h =>
      have z := right_at h4 0 (by simp)
      exact ⟨z.1, z.2.1, fun _ => of_decide_eq_true h3⟩
    | i + 2, h =>
      have z := right_at h4 (i + 1) (by simpa using h)
      exact ⟨z.1, z.2.1, fun _ => z.2.2 (Nat.succ_pos i)⟩

/-! the row that is drawn -/
def rowAt (xs : List Int) : Nat → List Int
  | 0 => []
  | i + 1 => insAt (rowAt xs i) (drawn xs (i + 1) ((i + 1 : Nat) : Int)).toNat i
theorem drawn_range {xs : List Int} {spot : Nat} {many : Int} (h : 0 < many) : 0 ≤ drawn xs spot many ∧ drawn xs spot many < many := by
  have z : ∀ a : Int, 0 ≤ a.fmod many ∧ a.fmod many < many := fun a => by
    rw [Int.fmod_eq_emod_of_nonneg _ (Int.le_of_lt h)]
    exact ⟨Int.emod_nonneg _ (Int.ne_of_gt h), Int.emod_lt_of_pos _ h⟩
  unfold drawn
  split
  · exact z _
  · exact z _
theorem row_mem (xs : List Int) : ∀ i, rowAt xs i ∈ seqs i
  | 0 => List.mem_singleton.mpr rfl
  | i + 1 => by
    show insAt _ _ _ ∈ seqStep i (seqs i)
    unfold seqStep
    refine List.mem_flatMap.mpr ⟨_, row_mem xs i, List.mem_flatMap.mpr ⟨_, List.mem_range.mpr ?_, List.mem_singleton.mpr rfl⟩⟩
    have := drawn_range (xs := xs) (spot := i + 1) (many := ((i + 1 : Nat) : Int)) (by omega)
    omega
theorem row_len (xs : List Int) : ∀ i, (rowAt xs i).length = i
  | 0 => rfl
  | i + 1 => by
    have ih := row_len xs i
    simp [rowAt, insAt, ih]
    omega

/-! the last part: all sequences of three or four -/
def topOf (st : Rg) : Int := (st.headD (0, 0)).2
def isAlone (steps : List Rg) : Bool := (steps.filter fun st => decide (st.length ≠ 1)).isEmpty
def risesOf (size : Nat) (steps : List Rg) : Nat := ((List.range size).filter fun j => decide (j = 0) || decide (topOf (steps.getD j []) > topOf (steps.getD (j - 1) []))).length
def aloneAt (l : List (List Int)) : Int := l.foldl (fun a q => a + (if isAlone (lawSteps q) then 1 else 0)) 0
def endB (size : Nat) : Bool :=
  ((seqs size).all fun q => (lawSteps q).all fun st => !st.isEmpty) && decide (aloneAt (seqs size) = 2 ^ (size - 1)) && decide (((List.range size).map fun (j : Nat) => (((seqs size).map fun q => ((risesOf size (lawSteps q) : Nat) : Int)).count ((j : Int) + 1) : Int)) = rings (size - 1)) &&
  ((seqs size).all fun q => Nat.beq q.length size) && Nat.ble (seqs size).length 1000
set_option maxRecDepth 100000 in
theorem end3 : endB 3 = true := by decide +kernel
set_option maxRecDepth 100000 in
theorem end4 : endB 4 = true := by decide +kernel
end Mine

namespace Mine

def lawS (i : Nat) : Stmt := (rAt 16).body.getD i (.Pass ⟨0, 0, 0, 0⟩)

section
variable {c : Cfg} {k : Nat} {env : Env} {Γ : List (Str × Dat)}
theorem Ev.rev2 {x : Str} {p1 p2 pos : Pos} {e : Expr} {xs : List Dat} (hv : Ev c k env Γ (.Name x p1) (.list xs)) (he : Ev c k env Γ e (.int (-1))) (hn : xs.length ≤ 16777216)
    (hs : ∀ a b, subscripted (.Slice none none (some e) p2) false (.ref a) (.ref b) = operate [.ref a, .ref b] (getItem (.ref a) (.ref b)) := by intros; with_unfolding_all rfl)
    (ht : ∀ a r, letTemporaryGo (.Name x p1) (.ref a) r = pure () := by intros; with_unfolding_all rfl) :
    Ev c k env Γ (.Subscript (.Name x p1) (.Slice none none (some e) p2) pos) (.list xs.reverse) := by
  intro A h₀ L m mu D s Q E R B S G hq
  refine Subscript_ (hv A h₀ L m mu D s _ E R B S G fun v tl h' tk S' i => ?_)
  refine wpAny_Slice (wpAny_evalPart_none (wpAny_evalPart_none (wpAny_evalPart_some (he A h₀ L m mu _ _ _ E R B S' G.up fun w tl2 h2 tk2 S2 j => ?_))))
  rw [← List.append_assoc] at S2
  cases i with
  | list hm hd =>
    rename_i l ws n
    cases j
    have hm2 : (l, PySem.W.listOf ws.toArray n) ∈ tl2 ++ tl ++ D := by rw [List.append_assoc]; exact List.mem_append.mpr (.inr hm)
    refine krv_lit (s := { s with heap := h2, toks := tk2 }) (its := ws.toArray) (zs := ws.reverse) S2.fr S2.nw (isList_of S2 hm2) (.int _ _) rfl (fun D' h3 F N lt => ?_) (hs _ _) (ht _) (by rw [List.size_toArray, hd.length, sizeLine_eq]; exact hn)
    have S3 := S2.add1 F N lt
    rw [← List.append_assoc] at S3
    refine hq _ _ h3 tk2 S3 (.list (n := 0) (List.mem_append.mpr (.inl (List.mem_append.mpr (.inl List.mem_cons_self)))) ((rev_all hd).mono fun p hp => ?_))
    rcases List.mem_append.mp hp with hp | hp
    · exact List.mem_append.mpr (.inl (List.mem_append.mpr (.inr (List.mem_append.mpr (.inr hp)))))
    · exact List.mem_append.mpr (.inr hp)

end

section
variable {c : Cfg} {k : Nat} (ok : c.Ok rs)
include ok
variable {pm code doc : Value} {L a : Addr}

def poolD (xs : List Int) (n : Nat) : Option (Str × List Dat) := some ("pool", [.list (xs.map Dat.int), .int (n : Int)])

theorem law2 {xs : List Int} {mN : Nat} (hx : xs.length ≤ 1000) (hm : 4 + drawn xs 0 3 = (mN : Int)) : Ex1 c (k + 3) (fenv (rAt 16) pm code doc L a) [] (poolD xs 0) (lawS 1) (.next [("many", .int (mN : Int)), ("row", ld [])] (poolD xs 1)) := by
  rw [← hm]
  have he : EnvOk (fenv (rAt 16) pm code doc L a) := ⟨rfl, rfl, rfl⟩
  refine Ex1.tupSS (xs := ["many", "row"]) (d := .int (4 + drawn xs 0 3)) (dr := [ld []]) he (EvS.binR Ev.cInt (EvS.draw (spot := 0) ok he rfl hx (by decide) (by decide) Ev.cInt) Bn.add) (EvL.cons (Ev.list EvL.nil (by simp)) EvL.nil) rfl (by simp) (fun x hx => ?_) (by decide) (by decide)
  simp at hx; rcases hx with rfl | rfl <;> exact .inl rfl

theorem law3 {xs : List Int} {mN : Nat} (hx : xs.length ≤ 1000) (hm : mN ≤ 6) : Ex1 c (k + 3) (fenv (rAt 16) pm code doc L a) [("many", .int (mN : Int)), ("row", ld [])] (poolD xs 1) (lawS 2) (.next [("many", .int mN), ("row", ld (rowAt xs mN))] (poolD xs (mN + 1))) := by
  have he : EnvOk (fenv (rAt 16) pm code doc L a) := ⟨rfl, rfl, rfl⟩
  have em : (mN : Int).toNat = mN := by omega
  refine for_core (σ := fun i => [("many", .int mN), ("row", ld (rowAt xs i))]) (ω := fun i => poolD xs (i + 1)) (j := mN) (Nat.le_refl _) he (em ▸ ItE.range1 (n := (mN : Int)) (g_range ok he) (Ev.nm rfl rfl) (by omega) (by omega)) (allIn ⟨rfl, rfl, trivial⟩) rfl
    (fun i _ x hx => ?_) (fun i _ => by simp) (fun i _ y ds e => ?_) (fun i hi => ?_) (.inl ⟨rfl, rfl⟩)
  · simp at hx; subst hx; exact .inl rfl
  · cases e; simp; decide
  · have hl := row_len xs i
    have hd := drawn_range (xs := xs) (spot := i + 1) (many := ((i + 1 : Nat) : Int)) (by omega)
    show Ex c _ _ _ _ _ (.next [("many", .int mN), ("row", ld (insAt (rowAt xs i) (drawn xs (i + 1) ((i + 1 : Nat) : Int)).toNat i))] _)
    generalize hD : drawn xs (i + 1) ((i + 1 : Nat) : Int) = d at hd ⊢
    generalize rowAt xs i = row at hl ⊢
    have e1 : ((i : Int) + 1) = ((i + 1 : Nat) : Int) := by omega
    refine Ex.cons (Ex1.asgS (x := "pool") (d := .int d) he (.inl rfl) (by
      rw [← hD]
      exact EvS.draw (spot := i + 1) ok he rfl hx (by omega) (by omega) (Ev.eq (Ev.bin (Ev.nm rfl rfl) Ev.cInt Bn.add) (congrArg Dat.int e1))) (by decide)) ?_
    refine Ex.post (Ex.one (Ex1.asg he (.inl rfl) (d := ld (insAt row d.toNat i)) ?_ (fun y ds e => by cases e; decide))) ⟨rfl, rfl, trivial⟩
    refine Ev.eq (Ev.bin (Ev.bin (Ev.uptoL (xs := row.map Dat.int) (n := d) (Ev.nm rfl rfl) (Ev.nm rfl rfl) hd.1 (by simp; omega)) (Ev.list (EvL.cons (Ev.nm rfl rfl) EvL.nil) (by simp)) (Bn.list (by simp; omega)))
        (Ev.fromL (xs := row.map Dat.int) (n := d) (Ev.nm rfl rfl) (Ev.nm rfl rfl) hd.1 (by simp; omega)) (Bn.list (by simp; omega))) ?_
    simp [ld, insAt, List.map_take, List.map_drop]

theorem law4 {o : Option (Str × List Dat)} {row : List Int} {mN : Nat} (hr : row.length ≤ 8) (ho : ∀ y ds, o = some (y, ds) → y = "pool") : Ex1 c (k + 3) (fenv (rAt 16) pm code doc L a) [("many", .int (mN : Int)), ("row", ld row)] o (lawS 3)
    (.next (([("steps", .list ((lawSteps row).map rng)), ("turned", .list ((lawSteps row.reverse).map rng)), ("pieces", pcs []), ("before", rng [])] : List (Str × Dat)) ++ ([("many", .int (mN : Int)), ("row", ld row)] : List (Str × Dat))) o) := by
  have he : EnvOk (fenv (rAt 16) pm code doc L a) := ⟨rfl, rfl, rfl⟩
  refine Ex1.tup (xs := ["steps", "turned", "pieces", "before"]) (ds := [.list ((lawSteps row).map rng), .list ((lawSteps row.reverse).map rng), pcs [], rng []]) he ?_ rfl (by simp) (fun x hx => ?_) (by decide)
    (.nm (.nm (.nm (.nm .nil)))) rfl rfl (fun y ds e => by rw [ho y ds e]; decide)
  rotate_left
  · simp at hx; rcases hx with rfl | rfl | rfl | rfl <;> exact .inl rfl
  exact (EvL.cons (Ev.callF ok he rfl (f_law_steps ok hr) (EvL.cons (Ev.nm rfl rfl) EvL.nil)) (EvL.cons (Ev.callF ok he rfl (f_law_steps (row := row.reverse) ok (by simpa using hr)) (EvL.cons (Ev.eq (Ev.rev2 (xs := row.map Dat.int) (Ev.nm rfl rfl) (Ev.neg Ev.cInt) (by simp; omega)) (by simp)) EvL.nil)) (EvL.cons (Ev.list EvL.nil (by simp)) (EvL.cons (Ev.list EvL.nil (by simp)) EvL.nil))))
end
end Mine

namespace Mine

def forB : Stmt → List Stmt
  | .For _ _ b _ _ => b
  | _ => []

section
variable {c : Cfg} {k : Nat} {env : Env} {Γ : List (Str × Dat)}
theorem fm_filter {α : Type} (l : List α) (p : α → Bool) (v : α → Dat) : (l.filterMap fun a => if p a then some (v a) else none) = (l.filter p).map v := by
  induction l with
  | nil => rfl
  | cons a r ih =>
    by_cases h : p a
    · simp [h, ih]
    · simp [h, ih]
/-- one clause, one test -/
theorem Ev.compF {α : Type} {elt target iter t : Expr} {scope : Scope} {pos : Pos} {bd : Nat → List (Str × Dat)} {cl : List (Str × Addr)} (Γf : List (Str × Dat)) (l : List α) (b : α → List (Str × Dat)) (p : α → Bool) (v : α → Dat)
    (src : ItE c k env Γ iter target l.length bd) (hbd : ∀ i (h : i < l.length), bd i = b l[i]) (hek : env.scope.kind = .function)
    (hf : ∀ p ∈ Γf, Γ.lookup p.1 = some p.2 ∧ scope.names.lookup p.1 = some .free ∧ env.kindOf p.1 = some .cell ∧ ∃ a, cl.lookup p.1 = some a ∧ env.cells.lookup p.1 = some a)
    (hclos : closureFor scope env = pure cl) (hcell : ∀ y ∈ scope.names, y.2 ≠ .cell) (hkind : scope.kind = .function) (hnames : ∀ y ∈ scope.names, y.2 = .local → scope.names.lookup y.1 = some .local)
    (hb : ∀ a ∈ l, ∀ x ∈ (b a).map (·.1), scope.names.lookup x = some .local) (hnd : ∀ a ∈ l, ((b a).map (·.1)).Nodup) (hn : l.length ≤ 16777216)
    (test : ∀ a ∈ l, ∀ C, Tr c k (compEnvC scope cl C env) (b a ++ Γf) t (p a)) (elem : ∀ a ∈ l, p a = true → ∀ C, Ev c k (compEnvC scope cl C env) (b a ++ Γf) elt (v a))
    (hs : ∀ x, foldedSetIterable iter env x = pure x := by intro _; rfl) :
    Ev c k env Γ (.ListComp elt [⟨target, iter, [t], 0⟩] scope pos) (.list ((l.filter p).map v)) := by
  rw [← fm_filter]
  refine Ev.compL Γf l b _ src hbd hek hf hclos hcell hkind hnames hb hnd hn (fun a ha C => ?_) hs
  have ht := test a ha C
  cases h : p a with
  | true => rw [h] at ht; exact .inl ⟨v a, by simp, Ts.one ht, elem a ha h C⟩
  | false => rw [h] at ht; exact .inr ⟨by simp, Ts.one ht⟩
end

theorem ne_no {a b : Int} (h : a = b) : (a != b) = false := by simp [h]

section
variable {c : Cfg} {k : Nat} (ok : c.Ok rs)
include ok
variable {pm code doc : Value} {L a : Addr}

set_option maxHeartbeats 1000000 in
theorem law5_turn {o : Option (Str × List Dat)} {mN i : Nat} {row : List Int} {steps turned : List Rg} {n : Int} {met here : List Int} {bf st opp : Rg} {ps ps' : List Pc} (T : TurnOk mN i n met here bf st opp ps ps') (ho : ∀ y ds, o = some (y, ds) → y = "pool")
    (hs : steps[i]? = some st) (hmet : row.take i = met) (hhere : met ++ [n] = here) (hps : addPiece ps n [byteOf n] = ps') (hopp : i + 1 < mN → turned[mN - 2 - i]? = some opp) (hm : mN ≤ 6) (hi : i < mN) (hrl : row.length ≤ 8) (hsl : steps.length ≤ 8) (htl : turned.length ≤ 8) (hst : st.length ≤ 1000) (hbf : bf.length ≤ 1000) (hopl : opp.length ≤ 1000) (hn : 0 ≤ n ∧ n ≤ 100) :
    Ex c (k + 3) (fenv (rAt 16) pm code doc L a) [("at", .int (i : Int)), ("number", .int n), ("steps", .list (steps.map rng)), ("turned", .list (turned.map rng)), ("pieces", pcs ps), ("before", rng bf), ("many", .int (mN : Int)), ("row", ld row)] o (forB (lawS 4))
      (.next [("steps", .list (steps.map rng)), ("turned", .list (turned.map rng)), ("pieces", pcs ps'), ("before", rng st), ("many", .int (mN : Int)), ("row", ld row)] o) := by
  have he : EnvOk (fenv (rAt 16) pm code doc L a) := ⟨rfl, rfl, rfl⟩
  have hml : met.length ≤ 8 := by rw [← hmet]; have := List.length_take_le i row; omega
  have hhl : here.length ≤ 9 := by rw [← hhere]; simp; omega
  have hxo : ∀ x : Str, x ≠ "pool" → ∀ y ds, o = some (y, ds) → y ≠ x := fun x hx y ds e q => hx (by rw [← q]; exact ho y ds e)
  -- ranges, met
  refine Ex.cons (Ex1.tup (xs := ["ranges", "met"]) (ds := [rng st, ld met]) he ?_ rfl (by simp) (fun x hx => ?_) (by decide) (.nm (.nm .nil)) rfl rfl (fun y ds e => by rw [ho y ds e]; decide)) ?_
  · refine EvL.cons (Ev.item (xs := steps.map rng) (d := rng st) (Ev.nm rfl rfl) (Ev.nm rfl rfl) (by omega) (by simp; omega) ?_) (EvL.cons (Ev.eq (Ev.uptoL (xs := row.map Dat.int) (n := (i : Int)) (Ev.nm rfl rfl) (Ev.nm rfl rfl) (by omega) (by simp; omega)) ?_) EvL.nil)
    · rw [Int.toNat_natCast, List.getElem?_map, hs]; rfl
    · rw [Int.toNat_natCast, ← List.map_take, hmet]
  · simp at hx; rcases hx with rfl | rfl <;> exact .inr ⟨rfl, rfl⟩
  -- beside
  have two : ∀ (l : List Int) (x y : Int), (((([x, y] : List Int).filter (has l)).map fun _ => Dat.int 1).length : Int) = (twoIn l x y : Int) := fun l x y => by rw [List.length_map]; rfl
  have two2 : ∀ (l : List Int) (x y : Int), ((([x, y] : List Int).filter (has l)).map fun _ => Dat.int 1).length ≤ 16777216 := fun l x y => by
    rw [List.length_map]
    exact Nat.le_trans (List.length_filter_le _ _) (by simp)
  refine Ex.cons (Ex1.asg he (.inl rfl) (d := .int (twoIn met (n - 1) (n + 1) : Nat)) ?_ (hxo _ (by decide))) ?_
  · refine Ev.eq (Ev.callB (g_len ok he) (EvL.cons (Ev.compF [("met", ld met)] [n - 1, n + 1] (fun x => [("other", .int x)]) (has met) (fun _ => .int 1) (ItE.tuple (ds := ([n - 1, n + 1] : List Int).map Dat.int) (Ev.tuple (EvL.cons (Ev.bin (Ev.nm rfl rfl) Ev.cInt Bn.sub) (EvL.cons (Ev.bin (Ev.nm rfl rfl) Ev.cInt Bn.add) EvL.nil)) (by simp)))
      (fun j hj => by rw [getD_map _ Dat.int j hj]; rfl) rfl (fun p hp => by rcases List.mem_singleton.mp hp with rfl; exact ⟨rfl, rfl, rfl, _, rfl, rfl⟩) rfl (by decide) rfl (by decide) (fun a _ x hx => by simp at hx; subst hx; rfl) (fun a _ => by simp) (by simp)
      (fun x _ C => Tr.cmp (Ev.nm rfl rfl) (Ev.nm rfl rfl) Cm.isIn) (fun x _ _ C => Ev.cInt)) EvL.nil) (Cl.len (two2 _ _ _))) (congrArg Dat.int (two _ _ _))
  -- the first tests
  refine Ex.cons (Ex1.ifF (Tr.orF (Tr.eq (Tr.cmp (Ev.callB (g_len ok he) (EvL.cons (Ev.nm rfl rfl) EvL.nil) (Cl.len (by simp; omega))) (Ev.bin (Ev.bin (Ev.callB (g_len ok he) (EvL.cons (Ev.nm rfl rfl) EvL.nil) (Cl.len (by simp; omega))) Ev.cInt Bn.add) (Ev.nm rfl rfl) Bn.sub) Cm.ne) (ne_no (by simp only [List.length_map]; exact T.len)))
    (Tr.orF (Tr.eq (Tr.not (Tr.of (Ev.callF ok he rfl (f_are_right ok hst (right_at T.right)) (EvL.cons (Ev.nm rfl rfl) EvL.nil)))) rfl)
    (Tr.orF (Tr.eq (Tr.cmp (Ev.callF ok he rfl (f_count_of ok hst) (EvL.cons (Ev.nm rfl rfl) EvL.nil)) (Ev.bin (Ev.nm rfl rfl) Ev.cInt Bn.add) Cm.ne) (ne_no T.cnt)) Tr.orNil))) Ex.nil) ?_
  -- here
  refine Ex.cons (Ex1.asg he (.inr ⟨rfl, rfl⟩) (d := ld here) (Ev.eq (Ev.bin (Ev.nm rfl rfl) (Ev.list (EvL.cons (Ev.nm rfl rfl) EvL.nil) (by simp)) (Bn.list (by simp; omega))) (by rw [← hhere]; simp [ld])) (hxo _ (by decide))) ?_
  -- the second tests
  have hin : ∀ (l : List Int) (x : Int), (l.any (· == x)) = has l x := fun _ _ => rfl
  obtain ⟨p, r, rfl, htop, hle⟩ := T.top
  refine Ex.cons (Ex1.ifF (Tr.orF (Tr.eq (Tr.cmp (Ev.callF ok he rfl (f_largest_of ok (p := p) (l := r) (by simp at hst; omega)) (EvL.cons (Ev.nm rfl rfl) EvL.nil)) (Ev.callB (g_max ok he) (EvL.cons (Ev.nm rfl rfl) EvL.nil) (Cl.maxL htop hle)) Cm.ne) (ne_no rfl))
    (Tr.orF (Tr.cmp (dl := .list []) (dr := .list []) (b := false) ?_ (Ev.list EvL.nil (by simp)) (Cm.neL (fun d hd => by cases hd) (fun d hd => by cases hd) (by simp))) Tr.orNil)) Ex.nil) ?_
  · have em : (mN : Int).toNat = (List.range mN).length := by simp
    refine Ev.eq (Ev.compF [("ranges", rng (p :: r)), ("here", ld here)] (List.range mN) (fun (j : Nat) => [("one", .int (j : Int))]) (fun j => (hasNumber (p :: r) (j : Int)) != has here (j : Int)) (fun (j : Nat) => .int (j : Int)) (em ▸ ItE.range1 (n := (mN : Int)) (g_range ok he) (Ev.nm rfl rfl) (by omega) (by omega))
      (fun j hj => by simp) rfl (fun q hq => by
        rcases List.mem_cons.mp hq with rfl | hq
        · exact ⟨rfl, rfl, rfl, _, rfl, rfl⟩
        · rcases List.mem_singleton.mp hq with rfl; exact ⟨rfl, rfl, rfl, _, rfl, rfl⟩) rfl (by decide) rfl (by decide) (fun a _ x hx => by simp at hx; subst hx; rfl) (fun a _ => by simp) (by simp; omega)
      (fun j _ C => Tr.cmp (Ev.callF ok ⟨rfl, rfl, rfl⟩ rfl (f_has_number ok hst) (EvL.cons (Ev.nm rfl rfl) (EvL.cons (Ev.nm rfl rfl) EvL.nil))) (Ev.cmp (Ev.nm rfl rfl) (Ev.nm rfl rfl) Cm.isIn) Cm.neB) (fun j _ _ C => Ev.nm rfl rfl)) ?_
    rw [List.filter_eq_nil_iff.mpr fun j hj => by rw [T.hasn j (List.mem_range.mp hj)]; simp]
    rfl
  -- pieces
  refine Ex.cons (Ex1.asg he (.inl rfl) (d := pcs ps') (Ev.eq (Ev.callF ok he rfl (f_add_piece ok T.pl T.pb (by simp) (by simp) T.al T.an) (EvL.cons (Ev.nm rfl rfl) (EvL.cons (Ev.nm rfl rfl) (EvL.cons (Ev.eq (Ev.callT (g_bytes ok he) (EvL.cons (Ev.list (EvL.cons (Ev.bin Ev.cInt (Ev.nm rfl rfl) Bn.add) EvL.nil) (by simp)) EvL.nil) (Cl.bytes1 (ns := [65 + n]) (fun m hm => by simp at hm; omega) (by simp))) rfl) EvL.nil)))) (by rw [hps])) (hxo _ (by decide))) ?_
  -- covered
  have zr := (p :: r).reverse.length_map (f := pr)
  have pl' : ps'.length ≤ 1000 := by have := T.pl'; omega
  refine Ex.cons (Ex1.ifF (Tr.cmp (b := false) (Ev.callF ok he rfl (f_covered ok pl' T.pb') (EvL.cons (Ev.nm rfl rfl) EvL.nil)) (Ev.compL [] (p :: r).reverse (fun q => [("low", .int q.1), ("high", .int q.2)]) (fun q => some (pr (q.1, q.2 + 1))) (zr ▸ ItE.list (Ev.eq (Ev.rev2 (xs := (p :: r).map pr) (Ev.nm rfl rfl) (Ev.neg Ev.cInt) (by simp at hst ⊢; omega)) (by rw [List.map_reverse])) (tg_pr _)) (fun j hj => by rw [getD_map (p :: r).reverse pr j hj]; rfl) rfl
      (fun q hq => by cases hq) rfl (by decide) rfl (by decide) (fun q _ x hx => by simp at hx; rcases hx with rfl | rfl <;> rfl) (fun q _ => by simp; decide) (by simp at hst ⊢; omega)
      (fun q _ C => .inl ⟨_, rfl, Ts.nil, Ev.tuple (EvL.cons (Ev.nm rfl rfl) (EvL.cons (Ev.bin (Ev.nm rfl rfl) Ev.cInt Bn.add) EvL.nil)) (by simp)⟩)) (Cm.neL ?_ ?_ ?_)) Ex.nil) ?_
  · intro d hd
    obtain ⟨q, _, rfl⟩ := List.mem_map.mp hd
    rfl
  · intro d hd
    rw [List.filterMap_eq_map'] at hd
    obtain ⟨q, _, rfl⟩ := List.mem_map.mp hd
    rfl
  · rw [T.cov, List.filterMap_eq_map', List.map_map]
    simp [Function.comp_def]
  -- first
  obtain ⟨f, fr, hfo, hf100, htk⟩ := T.fst
  have hol : (firstOut mN here).length ≤ 1000 := by
    refine Nat.le_trans (List.length_filter_le _ _) ?_
    rw [List.length_range]; omega
  refine Ex.cons (Ex1.asg he (.inl rfl) (d := .int (f : Int)) (Ev.item (xs := (firstOut mN here).map fun (j : Nat) => Dat.int (j : Int)) ?_ Ev.cInt (by decide) (by rw [List.length_map]; omega) (by rw [hfo]; rfl)) (hxo _ (by decide))) ?_
  · have em : ((mN : Int) + 1).toNat = (List.range (mN + 1)).length := by simp
    exact Ev.compF [("here", ld here)] (List.range (mN + 1)) (fun (j : Nat) => [("one", .int (j : Int))]) (fun (j : Nat) => !has here (j : Int)) (fun (j : Nat) => .int (j : Int)) (em ▸ ItE.range1 (n := (mN : Int) + 1) (g_range ok he) (Ev.bin (Ev.nm rfl rfl) Ev.cInt Bn.add) (by omega) (by omega))
      (fun j hj => by simp) rfl (fun q hq => by rcases List.mem_singleton.mp hq with rfl; exact ⟨rfl, rfl, rfl, _, rfl, rfl⟩) rfl (by decide) rfl (by decide) (fun a _ x hx => by simp at hx; subst hx; rfl) (fun a _ => by simp) (by simp; omega)
      (fun j _ C => Tr.cmp (Ev.nm rfl rfl) (Ev.nm rfl rfl) Cm.notIn) (fun j _ _ C => Ev.nm rfl rfl)
  -- taken
  have em : (f : Int).toNat = (List.range f).length := by simp
  refine Ex.cons (Ex1.ifF (Tr.eq (Tr.cmp (Ev.itemT (d := .bytes (takenFrom ps' 0).1.toArray) (Ev.callF ok he rfl (f_taken_from (at_ := 0) ok pl' T.pb') (EvL.cons (Ev.nm rfl rfl) (EvL.cons Ev.cInt EvL.nil))) Ev.cInt (by decide) (by simp) rfl)
    (Ev.callT (g_bytes ok he) (EvL.cons (Ev.eq (y := .list (((List.range f).map fun (j : Nat) => 65 + (j : Int)).map Dat.int)) (Ev.compL [] (List.range f) (fun (j : Nat) => [("one", .int (j : Int))]) (fun (j : Nat) => some (.int (65 + (j : Int)))) (em ▸ ItE.range1 (n := (f : Int)) (g_range ok he) (Ev.nm rfl rfl) (by omega) (by omega))
      (fun j hj => by simp) rfl (fun q hq => by cases hq) rfl (by decide) rfl (by decide) (fun a _ x hx => by simp at hx; subst hx; rfl) (fun a _ => by simp) (by simp; omega)
      (fun j _ C => .inl ⟨_, rfl, Ts.nil, Ev.bin Ev.cInt (Ev.nm rfl rfl) Bn.add⟩)) (by rw [List.filterMap_eq_map', List.map_map]; rfl)) EvL.nil) (Cl.bytes1 (ns := (List.range f).map fun (j : Nat) => 65 + (j : Int)) (fun m hm => ?_) (by simp; omega))) Cm.neBy) ?_) Ex.nil) ?_
  · obtain ⟨j, hj, rfl⟩ := List.mem_map.mp hm
    have := List.mem_range.mp hj
    omega
  · have e : (takenFrom ps' 0).1 = ((List.range f).map fun (j : Nat) => 65 + (j : Int)).map fun (m : Int) => m.toNat.toUInt8 := by
      rw [htk, List.map_map]; rfl
    rw [e]; simp
  -- the other way
  refine Ex.cons (Γ' := [("steps", .list (steps.map rng)), ("turned", .list (turned.map rng)), ("pieces", pcs ps'), ("ranges", rng (p :: r)), ("many", .int (mN : Int)), ("row", ld row)]) (o' := o) (Ex1.ifd (P := (i : Int) + 1 < (mN : Int)) (Tr.cmp (Ev.bin (Ev.nm rfl rfl) Ev.cInt Bn.add) (Ev.nm rfl rfl) Cm.lt) (fun hlt => ?_) fun hlt => Ex.post Ex.nil ⟨rfl, rfl, rfl, rfl, rfl, rfl, trivial⟩) ?_
  · have hlt' : i + 1 < mN := by omega
    have hop := hopp hlt'
    have hol2 := T.opp hlt'
    refine Ex.cons (Ex1.asg he (.inl rfl) (d := .int (twoIn here 0 ((mN : Int) - 1) : Nat)) ?_ (hxo _ (by decide))) ?_
    · refine Ev.eq (Ev.callB (g_len ok he) (EvL.cons (Ev.compF [("here", ld here)] [0, (mN : Int) - 1] (fun x => [("one", .int x)]) (has here) (fun _ => .int 1) (ItE.tuple (ds := ([0, (mN : Int) - 1] : List Int).map Dat.int) (Ev.tuple (EvL.cons Ev.cInt (EvL.cons (Ev.bin (Ev.nm rfl rfl) Ev.cInt Bn.sub) EvL.nil)) (by simp)))
        (fun j hj => by rw [getD_map _ Dat.int j hj]; rfl) rfl (fun p hp => by rcases List.mem_singleton.mp hp with rfl; exact ⟨rfl, rfl, rfl, _, rfl, rfl⟩) rfl (by decide) rfl (by decide) (fun a _ x hx => by simp at hx; subst hx; rfl) (fun a _ => by simp) (by simp)
        (fun x _ C => Tr.cmp (Ev.nm rfl rfl) (Ev.nm rfl rfl) Cm.isIn) (fun x _ _ C => Ev.cInt)) EvL.nil) (Cl.len (two2 _ _ _))) (congrArg Dat.int (two _ _ _))
    · refine Ex.post (Ex.one (Ex1.ifF (Tr.eq (Tr.cmp (Ev.bin (Ev.callB (g_len ok he) (EvL.cons (Ev.nm rfl rfl) EvL.nil) (Cl.len (by simp at hst ⊢; omega))) (Ev.callB (g_len ok he) (EvL.cons (Ev.item (xs := turned.map rng) (d := rng opp) (n := (mN : Int) - 2 - (i : Int)) (Ev.nm rfl rfl) (Ev.bin (Ev.bin (Ev.nm rfl rfl) Ev.cInt Bn.sub) (Ev.nm rfl rfl) Bn.sub) (by omega) (by simp; omega) ?_) EvL.nil) (Cl.len (by simp; omega))) Bn.sub) (Ev.bin (Ev.nm rfl rfl) Ev.cInt Bn.sub) Cm.ne) (ne_no (by simp only [List.length_map]; exact hol2))) Ex.nil)) ⟨rfl, rfl, rfl, rfl, rfl, rfl, trivial⟩
      rw [show ((mN : Int) - 2 - (i : Int)).toNat = mN - 2 - i by omega, List.getElem?_map, hop]; rfl
  -- before
  exact Ex.post (Ex.one (Ex1.asg he (.inl rfl) (Ev.nm rfl rfl) (hxo _ (by decide)))) ⟨rfl, rfl, rfl, rfl, rfl, rfl, trivial⟩
end
end Mine

namespace Mine

theorem rg_len : ∀ (l : List Int) (a : Rg), (rgF a l).length + 1 ≤ 2 ^ l.length * (a.length + 1)
  | [], a => by simp [rgF]
  | n :: r, a => by
    have h := rg_len r (addRange a n n)
    have h2 := addRange_len a n n
    have e : rgF a (n :: r) = rgF (addRange a n n) r := rfl
    rw [e, List.length_cons, Nat.pow_succ, Nat.mul_assoc]
    exact Nat.le_trans h (Nat.mul_le_mul_left _ h2)
theorem rg_le {l : List Int} (h : l.length ≤ 8) : (rgF [] l).length ≤ 1000 := by
  have h1 := rg_len l []
  have h2 : 2 ^ l.length ≤ 2 ^ 8 := Nat.pow_le_pow_right (by decide) h
  simp only [List.length_nil] at h1
  omega
theorem row_bd (xs : List Int) : ∀ i, ∀ x ∈ rowAt xs i, 0 ≤ x ∧ x < (i : Int)
  | 0, x, h => by cases h
  | i + 1, x, h => by
    have h' : x ∈ insAt (rowAt xs i) (drawn xs (i + 1) ((i + 1 : Nat) : Int)).toNat i := h
    unfold insAt at h'
    rw [List.mem_append, List.mem_append] at h'
    rcases h' with (h' | h') | h'
    · have := row_bd xs i x (List.mem_of_mem_take h'); omega
    · rw [List.mem_singleton] at h'; omega
    · have := row_bd xs i x (List.mem_of_mem_drop h'); omega

section
variable {c : Cfg} {k : Nat} (ok : c.Ok rs)
include ok
variable {pm code doc : Value} {L a : Addr}

theorem law5 {o : Option (Str × List Dat)} {mN : Nat} {row : List Int} (h4 : 4 ≤ mN) (h6 : mN ≤ 6) (hr : row ∈ seqs mN) (hrl : row.length = mN) (hbd : ∀ x ∈ row, 0 ≤ x ∧ x ≤ 100) (ho : ∀ y ds, o = some (y, ds) → y = "pool") :
    Ex1 c (k + 3) (fenv (rAt 16) pm code doc L a) (([("steps", .list ((lawSteps row).map rng)), ("turned", .list ((lawSteps row.reverse).map rng)), ("pieces", pcs []), ("before", rng [])] : List (Str × Dat)) ++ ([("many", .int (mN : Int)), ("row", ld row)] : List (Str × Dat))) o (lawS 4) (.next [("many", .int (mN : Int))] o) := by
  have he : EnvOk (fenv (rAt 16) pm code doc L a) := ⟨rfl, rfl, rfl⟩
  refine Ex1.post (Γ' := [("steps", .list ((lawSteps row).map rng)), ("turned", .list ((lawSteps row.reverse).map rng)), ("pieces", pcs (pcF [] (row.take (row.map Dat.int).length))), ("before", rng (rgF [] (row.take (row.map Dat.int).length))), ("many", .int (mN : Int)), ("row", ld row)]) (for_core
    (σ := fun i => [("steps", .list ((lawSteps row).map rng)), ("turned", .list ((lawSteps row.reverse).map rng)), ("pieces", pcs (pcF [] (row.take i))), ("before", rng (rgF [] (row.take i))), ("many", .int (mN : Int)), ("row", ld row)]) (ω := fun _ => o) (j := (row.map Dat.int).length) (Nat.le_refl _) he
    (ItE.enum (g_enumerate ok he) (Ev.nm rfl rfl)) (allIn ⟨rfl, rfl, rfl, rfl, rfl, rfl, trivial⟩) rfl (fun i _ x hx => ?_) (fun i _ => by simp; decide) (fun i _ y ds e => by rw [ho y ds e]; simp; decide) (fun i hlt => ?_) (.inl ⟨rfl, rfl⟩)) ⟨rfl, trivial⟩
  · simp at hx; rcases hx with rfl | rfl <;> exact .inl rfl
  · have hi : i < row.length := by simpa using hlt
    rw [getD_map row Dat.int i hi]
    have T := turn_row h4 h6 hr hi
    have hre : row.reverse.length = mN := by rw [List.length_reverse]; exact hrl
    have hix : mN - 2 - i < row.reverse.length := by omega
    have hg := law_get hix
    have hgd : (lawSteps row.reverse).getD (mN - 2 - i) [] = rgF [] (row.reverse.take (mN - 2 - i + 1)) := by rw [List.getD_eq_getElem?_getD, hg]; rfl
    rw [hgd] at T
    have tl : ∀ (l : List Int) (j : Nat), l.length ≤ 8 → (l.take j).length ≤ 8 := fun l j h => by have := List.length_take_le' j l; omega
    have hps : addPiece (pcF [] (row.take i)) row[i] [byteOf row[i]] = pcF [] (row.take (i + 1)) := by
      unfold pcF
      rw [take_fold pieceStep [] row i hi]; rfl
    exact law5_turn ok T ho (law_get hi) rfl (List.take_succ_eq_append_getElem hi).symm hps (fun _ => hg) h6 (by omega) (by omega) (by rw [law_len]; omega) (by rw [law_len]; omega) (rg_le (tl _ _ (by omega))) (rg_le (tl _ _ (by omega))) (rg_le (tl _ _ (by omega))) (hbd _ (List.getElem_mem hi))

theorem law6 {xs : List Int} {mN sN : Nat} (hx : xs.length ≤ 1000) (h6 : mN ≤ 6) (hs : 3 + drawn xs (mN + 1) 2 = (sN : Int)) : Ex1 c (k + 3) (fenv (rAt 16) pm code doc L a) [("many", .int (mN : Int))] (poolD xs (mN + 1)) (lawS 5) (.next [("size", .int (sN : Int)), ("alone", .int 0)] (some ("rises", []))) := by
  rw [← hs]
  have he : EnvOk (fenv (rAt 16) pm code doc L a) := ⟨rfl, rfl, rfl⟩
  refine Ex1.post (Ex1.tupOS (xs := ["size", "rises", "alone"]) (y := "rises") (d := .int (3 + drawn xs (mN + 1) 2)) (ws := [none, some (.int 0)]) he (EvS.binR Ev.cInt (EvS.draw (spot := mN + 1) ok he rfl hx (by omega) (by decide) Ev.cInt) Bn.add) (EvW.own (EvL.cons Ev.cInt EvL.nil)) (by simp) rfl (by simp) (fun x hx => ?_) (by decide) (fun y hy => ?_) (.nm (.nm (.nm .nil))) rfl rfl) ⟨rfl, rfl, trivial⟩
  · simp at hx; rcases hx with rfl | rfl | rfl
    · exact .inl rfl
    · exact .inr ⟨rfl, rfl⟩
    · exact .inl rfl
  · simp at hy; rcases hy with rfl | rfl | rfl <;> intro _ <;> rfl
end
end Mine

namespace Mine

theorem end_ok {sN : Nat} (h : sN = 3 ∨ sN = 4) : endB sN = true := by
  rcases h with rfl | rfl
  · exact end3
  · exact end4

structure EndOk (sN : Nat) : Prop where
  ne : ∀ q ∈ seqs sN, ∀ st ∈ lawSteps q, st ≠ []
  al : aloneAt (seqs sN) = 2 ^ (sN - 1)
  rs : ((List.range sN).map fun (j : Nat) => (((seqs sN).map fun q => ((risesOf sN (lawSteps q) : Nat) : Int)).count ((j : Int) + 1) : Int)) = rings (sN - 1)
  ln : ∀ q ∈ seqs sN, q.length = sN
  sz : (seqs sN).length ≤ 1000
theorem end_dec {sN : Nat} (h : sN = 3 ∨ sN = 4) : EndOk sN := by
  have z := end_ok h
  unfold endB at z
  simp only [Bool.and_eq_true] at z
  obtain ⟨⟨⟨⟨h1, h2⟩, h3⟩, h4⟩, h5⟩ := z
  refine ⟨fun q hq st hs e => ?_, of_decide_eq_true h2, of_decide_eq_true h3, fun q hq => Nat.eq_of_beq_eq_true (List.all_eq_true.mp h4 q hq), Nat.le_of_ble_eq_true h5⟩
  have := List.all_eq_true.mp (List.all_eq_true.mp h1 q hq) st hs
  rw [e] at this
  simp at this

section
variable {c : Cfg} {k : Nat} (ok : c.Ok rs)
include ok
variable {pm code doc : Value} {L a : Addr}

set_option maxHeartbeats 1000000 in
theorem law7 {sN : Nat} (h34 : sN = 3 ∨ sN = 4) : Ex1 c (k + 3) (fenv (rAt 16) pm code doc L a) [("size", .int (sN : Int)), ("alone", .int 0)] (some ("rises", [])) (lawS 6)
    (.next [("size", .int (sN : Int)), ("alone", .int (aloneAt (seqs sN)))] (some ("rises", ((seqs sN).map fun q => ((risesOf sN (lawSteps q) : Nat) : Int)).map Dat.int))) := by
  have he : EnvOk (fenv (rAt 16) pm code doc L a) := ⟨rfl, rfl, rfl⟩
  obtain ⟨hne, _, _, hln, hsz⟩ := end_dec h34
  have hs5 : sN ≤ 5 := by omega
  have eT : (seqs sN).take ((seqs sN).map ld).length = seqs sN := by rw [List.length_map, List.take_length]
  have fin : Out.next [("size", .int (sN : Int)), ("alone", .int (aloneAt (seqs sN)))] (some ("rises", ((seqs sN).map fun q => ((risesOf sN (lawSteps q) : Nat) : Int)).map Dat.int)) = Out.next [("size", .int (sN : Int)), ("alone", .int (aloneAt ((seqs sN).take ((seqs sN).map ld).length)))] (some ("rises", (((seqs sN).take ((seqs sN).map ld).length).map fun q => ((risesOf sN (lawSteps q) : Nat) : Int)).map Dat.int)) := by rw [eT]
  rw [fin]
  refine for_core (σ := fun i => [("size", .int (sN : Int)), ("alone", .int (aloneAt ((seqs sN).take i)))]) (ω := fun i => some ("rises", (((seqs sN).take i).map fun q => ((risesOf sN (lawSteps q) : Nat) : Int)).map Dat.int)) (j := ((seqs sN).map ld).length) (Nat.le_refl _) he
    (ItE.list (Ev.callF ok he rfl (f_law_sequences ok hs5) (EvL.cons (Ev.nm rfl rfl) EvL.nil)) TgOk.nm) (allIn ⟨rfl, rfl, trivial⟩) rfl (fun i _ x hx => ?_) (fun i _ => by simp [bindT]) (fun i _ y ds e => ?_) (fun i hlt => ?_) (.inl ⟨rfl, rfl⟩)
  · simp [bindT] at hx; subst hx; exact .inl rfl
  · cases e; simp [bindT]; decide
  · have hi : i < (seqs sN).length := by simpa using hlt
    show Ex c _ _ (bindT _ (((seqs sN).map ld).getD i Dat.none) ++ _) _ _ _
    rw [getD_map (seqs sN) ld i hi]
    have hq := List.getElem_mem hi
    have hal : aloneAt ((seqs sN).take (i + 1)) = aloneAt ((seqs sN).take i) + (if isAlone (lawSteps (seqs sN)[i]) then 1 else 0) := take_fold (fun (a : Int) q => a + (if isAlone (lawSteps q) then 1 else 0)) 0 _ i hi
    have hri : (((seqs sN).take (i + 1)).map fun q => ((risesOf sN (lawSteps q) : Nat) : Int)) = (((seqs sN).take i).map fun q => ((risesOf sN (lawSteps q) : Nat) : Int)) ++ [((risesOf sN (lawSteps (seqs sN)[i]) : Nat) : Int)] := by rw [List.take_succ_eq_append_getElem hi, List.map_append]; rfl
    have hrl : (((seqs sN).take i).map fun q => ((risesOf sN (lawSteps q) : Nat) : Int)).length ≤ 1000 := by
      rw [List.length_map]; have := List.length_take_le i (seqs sN); omega
    rw [hal, hri]
    have hqn := hne _ hq
    have hql := hln _ hq
    generalize (((seqs sN).take i).map fun q => ((risesOf sN (lawSteps q) : Nat) : Int)) = rl at hrl ⊢
    generalize aloneAt ((seqs sN).take i) = al
    generalize (seqs sN)[i] = q at hqn hql ⊢
    have hsl : (lawSteps q).length = sN := by rw [law_len, hql]
    have hsb : ∀ st ∈ lawSteps q, st.length ≤ 1000 := fun st hst => by
      obtain ⟨j, hj, rfl⟩ := List.getElem_of_mem hst
      have hj' : j < q.length := by rw [law_len] at hj; exact hj
      have e := law_get hj'
      rw [List.getElem?_eq_getElem hj] at e
      rw [Option.some.inj e]
      exact rg_le (by have := List.length_take_le' (j + 1) q; omega)
    refine Ex.cons (Ex1.asg he (.inr ⟨rfl, rfl⟩) (Ev.callF ok he rfl (f_law_steps ok (row := q) (by omega)) (EvL.cons (Ev.nm rfl rfl) EvL.nil)) (fun y ds e => by cases e; decide)) ?_
    generalize lawSteps q = steps at hqn hsl hsb ⊢
    have zs := steps.length_map (f := rng)
    refine Ex.cons (Ex1.asg he (.inl rfl) (d := .int (al + (if isAlone steps then 1 else 0))) ?_ (fun y ds e => by cases e; decide)) ?_
    · refine Ev.bin (Ev.nm rfl rfl) (Ev.eq (Ev.ite (d := .int 1) (e := .int 0) (Tr.cmp (Ev.compF [] steps (fun st => [("ranges", rng st)]) (fun st => decide (st.length ≠ 1)) (fun _ => .int 1) (zs ▸ ItE.list (Ev.nm rfl rfl) TgOk.nm) (fun j hj => by rw [getD_map steps rng j hj]; rfl) rfl
        (fun q hq => by cases hq) rfl (by decide) rfl (by decide) (fun q _ x hx => by simp at hx; subst hx; rfl) (fun q _ => by simp) (by omega)
        (fun st hst C => Tr.eq (Tr.cmp (Ev.callB (g_len ok ⟨rfl, rfl, rfl⟩) (EvL.cons (Ev.nm rfl rfl) EvL.nil) (Cl.len (by have := hsb st hst; simp; omega))) Ev.cInt Cm.ne) ?_) (fun st _ _ C => Ev.cInt)) (Ev.list EvL.nil (by simp)) (Cm.eqL (b := isAlone steps) (fun d hd => ?_) (fun d hd => by cases hd) ?_)) (fun _ => Ev.cInt) fun _ => Ev.cInt) ?_) Bn.add
      · rw [List.length_map]
        by_cases h1 : st.length = 1
        · simp [h1]
        · have : (st.length : Int) ≠ 1 := by omega
          simp [h1, this]
      · obtain ⟨_, _, rfl⟩ := List.mem_map.mp hd
        rfl
      · unfold isAlone
        rw [List.isEmpty_iff, List.map_eq_nil_iff]
      · cases isAlone steps <;> rfl
    · rw [List.map_append]
      refine Ex.post (Ex.one (Ex1.append he (d := .int ((risesOf sN steps : Nat) : Int)) ?_ (by simp; omega))) ⟨rfl, rfl, trivial⟩
      have em : (sN : Int).toNat = (List.range sN).length := by simp
      have at_ : ∀ j (hj : j < sN), steps[j]? = some (steps.getD j []) ∧ steps.getD j [] ∈ steps := fun j hj => by
        have hj' : j < steps.length := by omega
        have e : steps.getD j [] = steps[j] := by simp [hj']
        rw [e]
        exact ⟨List.getElem?_eq_getElem hj', List.getElem_mem hj'⟩
      refine Ev.eq (Ev.callB (g_len ok he) (EvL.cons (Ev.compF [("some", .list (steps.map rng))] (List.range sN) (fun (j : Nat) => [("at", .int (j : Int))]) (fun j => decide (j = 0) || decide (topOf (steps.getD j []) > topOf (steps.getD (j - 1) []))) (fun _ => .int 1) (em ▸ ItE.range1 (n := (sN : Int)) (g_range ok he) (Ev.nm rfl rfl) (by omega) (by omega))
        (fun j hj => by simp) rfl (fun q hq => by rcases List.mem_singleton.mp hq with rfl; exact ⟨rfl, rfl, rfl, _, rfl, rfl⟩) rfl (by decide) rfl (by decide) (fun a _ x hx => by simp at hx; subst hx; rfl) (fun a _ => by simp) (by simp; omega)
        (fun j hj C => ?_) (fun j _ _ C => Ev.cInt)) EvL.nil) (Cl.len (by rw [List.length_map]; have := List.length_filter_le (fun j => decide (j = 0) || decide (topOf (steps.getD j []) > topOf (steps.getD (j - 1) []))) (List.range sN); rw [List.length_range] at this; omega))) (by rw [List.length_map]; rfl)
      have hj' := List.mem_range.mp hj
      refine Tr.eq (Tr.or2 (Tr.cmp (Ev.nm rfl rfl) Ev.cInt Cm.eq) fun h0 => Tr.or2 (b := false) (Tr.eq (y := decide (topOf (steps.getD j []) > topOf (steps.getD (j - 1) []))) ?_ rfl) fun _ => Tr.orNil) ?_
      · have hj0 : 0 < j := by
          have h0' : ((j : Int) == 0) = false := h0
          have : (j : Int) ≠ 0 := by simpa using h0'
          omega
        obtain ⟨e1, m1⟩ := at_ j hj'
        obtain ⟨e2, m2⟩ := at_ (j - 1) (by omega)
        have n1 := hqn _ m1
        have n2 := hqn _ m2
        have b1 := hsb _ m1
        have b2 := hsb _ m2
        generalize steps.getD j [] = s1 at e1 n1 b1 ⊢
        generalize steps.getD (j - 1) [] = s2 at e2 n2 b2 ⊢
        match s1, s2, n1, n2 with
        | p1 :: l1, p2 :: l2, _, _ =>
          refine Tr.cmp (Ev.callF ok ⟨rfl, rfl, rfl⟩ rfl (f_largest_of ok (p := p1) (l := l1) (by simp at b1; omega)) (EvL.cons (Ev.item (xs := steps.map rng) (d := rng (p1 :: l1)) (Ev.nm rfl rfl) (Ev.nm rfl rfl) (by omega) (by simp; omega) ?_) EvL.nil))
            (Ev.callF ok ⟨rfl, rfl, rfl⟩ rfl (f_largest_of ok (p := p2) (l := l2) (by simp at b2; omega)) (EvL.cons (Ev.item (xs := steps.map rng) (d := rng (p2 :: l2)) (Ev.nm rfl rfl) (Ev.bin (Ev.nm rfl rfl) Ev.cInt Bn.sub) (by omega) (by simp; omega) ?_) EvL.nil)) Cm.gt
          · rw [Int.toNat_natCast, List.getElem?_map, e1]; rfl
          · rw [show ((j : Int) - 1).toNat = j - 1 by omega, List.getElem?_map, e2]; rfl
      · rw [Bool.or_false]
        congr 1
        by_cases h0 : j = 0
        · simp [h0]
        · simp [h0]

theorem law8 {sN : Nat} (h34 : sN = 3 ∨ sN = 4) : Ex c (k + 3) (fenv (rAt 16) pm code doc L a) [("size", .int (sN : Int)), ("alone", .int (aloneAt (seqs sN)))] (some ("rises", ((seqs sN).map fun q => ((risesOf sN (lawSteps q) : Nat) : Int)).map Dat.int)) [lawS 7] (.ret (.bool true)) := by
  have he : EnvOk (fenv (rAt 16) pm code doc L a) := ⟨rfl, rfl, rfl⟩
  obtain ⟨_, hal, hri, _, hsz⟩ := end_dec h34
  have hnl : ((seqs sN).map fun q => ((risesOf sN (lawSteps q) : Nat) : Int)).length ≤ 1000 := by rw [List.length_map]; exact hsz
  rw [hal]
  generalize ((seqs sN).map fun q => ((risesOf sN (lawSteps q) : Nat) : Int)) = ns at hri hnl ⊢
  refine Ex.freeze ?_
  refine Ex.consR ?_
  refine Ex1.ret ?_
  have hbits : (Builtin.Int.intBits 2 : Int) * ((sN : Int) - 1) ≤ 2 ^ 27 := by rcases h34 with rfl | rfl <;> decide +kernel
  have hpw : (2 : Int) ^ ((sN : Int) - 1).toNat = 2 ^ (sN - 1) := by
    have : ((sN : Int) - 1).toNat = sN - 1 := by omega
    rw [this]
  refine Ev.and (Ev.eq (Ev.cmp (Ev.nm rfl rfl) (Ev.bin Ev.cInt (Ev.bin (Ev.nm rfl rfl) Ev.cInt Bn.sub) (Bn.pow (by omega) hbits)) Cm.eq) (by rw [hpw]; simp)) ?_
  have em : ((sN : Int) + 1 - 1).toNat = (List.range sN).length := by simp
  refine Ev.cmp (Ev.compL [("rises", .list (ns.map Dat.int))] (List.range sN) (fun (j : Nat) => [("k", .int (1 + (j : Int)))]) (fun (j : Nat) => some (.int (ns.count (1 + (j : Int)) : Nat))) (em ▸ ItE.range2 (a := 1) (n := (sN : Int) + 1) (g_range ok he) Ev.cInt (Ev.bin (Ev.nm rfl rfl) Ev.cInt Bn.add) (by decide) (by decide) (by omega) (by omega))
    (fun j hj => by simp) rfl (fun q hq => by rcases List.mem_singleton.mp hq with rfl; exact ⟨rfl, rfl, rfl, _, rfl, rfl⟩) rfl (by decide) rfl (by decide) (fun a _ x hx => by simp at hx; subst hx; rfl) (fun a _ => by simp) (by simp; omega)
    (fun j hj C => .inl ⟨_, rfl, Ts.nil, Ev.count (Ev.nm rfl rfl) (Ev.nm rfl rfl)⟩)) (Ev.callF ok he rfl (f_law_rings (many := sN) ok (by omega) (by omega)) (EvL.cons (Ev.nm rfl rfl) EvL.nil)) (Cm.eqL (b := true) (fun d hd => ?_) (fun d hd => ?_) ?_)
  · rw [List.filterMap_eq_map'] at hd
    obtain ⟨_, _, rfl⟩ := List.mem_map.mp hd
    rfl
  · obtain ⟨_, _, rfl⟩ := List.mem_map.mp hd
    rfl
  · rw [List.filterMap_eq_map', ← hri, List.map_map]
    simp [Function.comp_def, Int.add_comm]
end
end Mine

namespace Mine

section
variable {c : Cfg} {k : Nat} (ok : c.Ok rs)
include ok
variable {pm code doc : Value} {L a : Addr}

theorem law_rest {xs : List Int} (hx : xs.length ≤ 1000) : Ex c (k + 3) (fenv (rAt 16) pm code doc L a) [] (poolD xs 0) [lawS 1, lawS 2, lawS 3, lawS 4, lawS 5, lawS 6, lawS 7] (.ret (.bool true)) := by
  have d0 := drawn_range (xs := xs) (spot := 0) (many := 3) (by decide)
  obtain ⟨mN, hm⟩ : ∃ mN : Nat, 4 + drawn xs 0 3 = (mN : Int) := ⟨(4 + drawn xs 0 3).toNat, by omega⟩
  have h4 : 4 ≤ mN := by omega
  have h6 : mN ≤ 6 := by omega
  have d1 := drawn_range (xs := xs) (spot := mN + 1) (many := 2) (by decide)
  obtain ⟨sN, hs⟩ : ∃ sN : Nat, 3 + drawn xs (mN + 1) 2 = (sN : Int) := ⟨(3 + drawn xs (mN + 1) 2).toNat, by omega⟩
  have h34 : sN = 3 ∨ sN = 4 := by omega
  have ho : ∀ y ds, poolD xs (mN + 1) = some (y, ds) → y = "pool" := fun y ds e => by cases e; rfl
  have hrl := row_len xs mN
  refine Ex.cons (law2 ok hx hm) (Ex.cons (law3 ok hx h6) (Ex.cons (law4 ok (by omega) ho) (Ex.cons (law5 ok h4 h6 (row_mem xs mN) hrl (fun x hx' => ?_) ho) (Ex.cons (law6 ok hx h6 hs) (Ex.cons (law7 ok h34) (law8 ok h34))))))
  have := row_bd xs mN x hx'
  omega

omit ok in
theorem addO {h₀ h h' : Heap} {L : Addr} {m : Str → Option Value} {mu D : List (Addr × Obj)} {b : Addr} {o : Obj} (S : St h₀ L m mu D h) (F : Fr h₀ L h' m) (N : News h₀ L h' ((b, o) :: (mu ++ D))) (lt : ∀ p ∈ mu ++ D, p.1 < b) : St h₀ L m ((b, o) :: mu) D h' := by
  have z := S.add1 F N lt
  refine ⟨z.fr, fun q hq => z.nw q ?_, fun q hq r hr => ?_, ?_⟩
  · rcases List.mem_append.mp hq with hq | hq
    · rcases List.mem_cons.mp hq with rfl | hq
      · exact List.mem_append.mpr (.inr List.mem_cons_self)
      · exact List.mem_append.mpr (.inl hq)
    · exact List.mem_append.mpr (.inr (List.mem_cons_of_mem _ hq))
  · rcases List.mem_cons.mp hq with rfl | hq
    · exact Nat.ne_of_gt (lt r (List.mem_append.mpr (.inr hr)))
    · exact S.off q hq r hr
  · rw [List.map_cons, List.nodup_cons]
    refine ⟨fun hm => ?_, S.nd⟩
    obtain ⟨q, hq, e⟩ := List.mem_map.mp hm
    exact absurd (lt q (List.mem_append.mpr (.inl hq))) (by rw [e]; exact Nat.lt_irrefl _)

theorem law_walk {A : Around} {h₀ : Heap} {m : Str → Option Value} {mu : List (Addr × Obj)} {s : Shared} {Q : Flow → Shared → Prop} {E : Value → Shared → Prop} {l : Addr} {vs : List Value} {ns : List Int} (r : Rm A (k + 3)) (B : Sub c.H h₀) (S : St h₀ L m mu [] s.heap) (C : Cells (fenv (rAt 16) pm code doc L a) mu)
    (hsc : m "script" = some (.ref l)) (hl : s.heap.IsList l vs.toArray) (hi : IntsAre vs ns) (hn : vs.length ≤ 63)
    (hq : ∀ m' v h' tk, Fr h₀ L h' m' → v = .bool true → Q (.ret v) { s with heap := h', toks := tk }) : wpAny (model c.prog c.w) A (execs (rAt 16).body (fenv (rAt 16) pm code doc L a)) Q E s := by
  have he : EnvOk (fenv (rAt 16) pm code doc L a) := ⟨rfl, rfl, rfl⟩
  have G0 : Has (fenv (rAt 16) pm code doc L a) L m mu [] [] := fun x d e => by cases e
  have eb : (rAt 16).body = [lawS 0, lawS 1, lawS 2, lawS 3, lawS 4, lawS 5, lawS 6, lawS 7] := rfl
  rw [eb]
  refine wpAny_execs_cons ?_
  refine wpAny_Assign_Name (List_ (args_cons ?_ rfl)) (by rfl)
  refine comp_at (Γ := []) (n := (ns.take 8).length) (bd := fun i => [("cell", ((ns.take 8).map Dat.int).getD i Dat.none)]) [] (fun i => ((ns.take 8)[i]?).bind fun x => some (.int x)) r B S G0 (fun Q E hq => ?_) rfl (fun x d e => by cases e) rfl (by decide) rfl (by decide) (fun i hi' x hx => ?_) (fun i hi' => by simp) ?_ (fun i hi' C => ?_) (by intro _; rfl) ?_
  · refine front_at (b := 8) he.k r B S (.loc rfl rfl hsc) (by decide) hl hi (by omega) fun v tl h' tk S' i => ?_
    have z := (ns.take 8).length_map (f := Dat.int)
    exact iter_list r (s := { s with heap := h', toks := tk }) S' i TgOk.nm fun I ads At its h'' tk'' T hat S'' => hq I ads At its tl h'' tk'' (z ▸ T) hat S''
  · simp at hx; subst hx; rfl
  · have := List.length_take_le 8 ns; omega
  · refine .inl ⟨.int (ns.take 8)[i], by rw [List.getElem?_eq_getElem hi']; rfl, Ts.nil, ?_⟩
    rw [getD_map (ns.take 8) Dat.int i hi']
    exact Ev.callT (g_int ok ⟨rfl, rfl, rfl⟩) (EvL.cons (Ev.nm rfl rfl) EvL.nil) Cl.toInt
  · intro v tl h' tk S' i
    rw [range_bind, List.filterMap_eq_map'] at i
    refine args_cons (wpAny_Constant_int (args_nil ?_)) rfl
    refine newList_N (hsz := by rw [sizeLine_eq]; simp) (s := { s with heap := h', toks := _ }) S'.fr S'.nw fun h'' F N => ?_
    have S'' := addO S' F N (fun p hp => (List.mem_append.mp hp).elim (S'.ltM p) (S'.ltD p))
    have nc : ∀ y b, (fenv (rAt 16) pm code doc L a).cells.lookup y = some b → @Ne Nat h'.objs.size b := fun y b e => by
      obtain ⟨o, _, hm, _⟩ := C.is y b e
      exact Nat.ne_of_gt (S'.ltM _ hm)
    have C' : ∀ ob : Obj, Cells (fenv (rAt 16) pm code doc L a) ((h'.objs.size, ob) :: mu) := fun ob => ⟨fun y b e => let ⟨o, w, hm, hd⟩ := C.is y b e; ⟨o, w, List.mem_cons_of_mem _ hm, hd⟩, C.one⟩
    refine store_core (s := { s with heap := h'', toks := _ }) he S'' (C' _) (.inl rfl) fun h3 tk3 m3 mu3 S3 C3 R3 _ rm => ?_
    have hx : (ns.take 8).length ≤ 1000 := by have := List.length_take_le 8 ns; omega
    refine law_rest (k := k) (pm := pm) (code := code) (doc := doc) (L := L) (a := a) ok hx A h₀ [] [] _ Q E r B ⟨m3, mu3, _, S3, fun x d e => (by cases e), C3, fun p hp => (by cases hp), fun p hp => (by cases hp), fun x ds e => ?_⟩ ?_
    · cases e
      exact ⟨_, _, 0, rm _ List.mem_cons_self nc, R3, .cons i (.cons (.int _ _) .nil), fun p hp => (by cases hp), nc⟩
    · rintro v' h4 tk4 ⟨m4, mu4, D4, S4, _, j⟩
      cases j
      exact hq m4 _ h4 tk4 S4.fr rfl
end
end Mine

namespace Mine
set_option maxRecDepth 100000 in
set_option maxHeartbeats 8000000 in
open_top hd for PySem.Challenge.rw_tk0086_01
end Mine

namespace Mine

set_option maxRecDepth 100000 in
theorem recs_eq : recsOf hd.view_39 = rs := by kernel_rfl

def farB (p : Program) (x : Str) : Bool := !(startupNames.contains x) && !((looseW p []).contains x) && !(((recsOf p).map (·.name)).contains x) && !(((litsOf p).map (·.1)).contains x) && !(((clssOf p (looseW p [])).map (·.name)).contains x) && !(x == "__name__")
set_option maxRecDepth 100000 in
theorem far_all : (biTable.all fun p => farB hd.view_39 p.1) = true := by kernel_rfl
set_option maxRecDepth 100000 in
theorem boot_all : biTable.map (fun p => bootBuiltins p.1) = biTable.map (fun p => some p.2) := by kernel_rfl
theorem map_eq {α β : Type} {f g : α → β} : ∀ {l : List α}, l.map f = l.map g → ∀ a ∈ l, f a = g a
  | [], _, a, h => by cases h
  | b :: r, e, a, h => by
    rw [List.map_cons, List.map_cons] at e
    rcases List.mem_cons.mp h with rfl | h
    · exact (List.cons.inj e).1
    · exact map_eq (List.cons.inj e).2 a h

theorem bi_of {mean : ExcName → Option Value} {mg mb : Str → Option Value} {h : Heap} (T : Top hd.view_39 (looseW hd.view_39 []) mean mg mb h) : ∀ p ∈ biTable, mg p.1 = none ∧ mb p.1 = some p.2 := fun p hp => by
  have f := List.all_eq_true.mp far_all p hp
  unfold farB at f
  simp only [Bool.and_eq_true, Bool.not_eq_true', beq_eq_false_iff_ne, List.contains_eq_mem, decide_eq_false_iff_not] at f
  obtain ⟨⟨⟨⟨⟨h1, h2⟩, h3⟩, h4⟩, h5⟩, h6⟩ := f
  exact ⟨T.free p.1 h1 h2 h3 h4 h5, (T.builtins p.1 h6).trans (map_eq boot_all p hp)⟩
end Mine

namespace Mine
theorem cells_is {cm : Str → Option Value} : ∀ {cs : List (Str × Addr)} {cells : List (Addr × Obj)}, CellsAre cm cs cells → (cells.map (·.1) = cs.map (·.2)) ∧ ∀ x b, (x, b) ∈ cs → ∃ o v, (b, o) ∈ cells ∧ o.data = .cell v := by
  intro cs cells h
  induction h with
  | nil => exact ⟨rfl, fun x b h => by cases h⟩
  | cons hd _ ih =>
    refine ⟨by rw [List.map_cons, List.map_cons, ih.1], fun x b h => ?_⟩
    rcases List.mem_cons.mp h with e | h
    · cases e; exact ⟨_, _, List.mem_cons_self, hd⟩
    · obtain ⟨o, v, h1, h2⟩ := ih.2 x b h
      exact ⟨o, v, List.mem_cons_of_mem _ h1, h2⟩
theorem rm_top (env : Env) : Rm (callerA.deeper env) (0 + 3) := ⟨rfl, (by decide : callerA.depth + 1 + (0 + 3) < recursionLimit), (by decide : callerA.units + 3 + 200 * (0 + 3) + 200 < cLine)⟩
theorem cells_of {env : Env} {cm : Str → Option Value} {cells : List (Addr × Obj)} (h : CellsAre cm env.cells cells) (nd : (cells.map (·.1)).Nodup) : Cells env cells := by
  obtain ⟨h1, h2⟩ := cells_is h
  rw [h1] at nd
  have hap : env.cells.Pairwise fun x y => x.2 ≠ y.2 := List.pairwise_map.mp nd
  exact ⟨fun x b e => h2 x b (mem_of_lookup e), fun x y b e1 e2 => name_of_addr hap (mem_of_lookup e1) (mem_of_lookup e2)⟩
end Mine

open Mine

set_option maxRecDepth 100000 in
set_option maxHeartbeats 8000000 in
theorem PySem.Challenge.cw_tk0086_01_holds : PySem.Challenge.rw_tk0086_01.Holds :=
  hd (by
  k_go0
  rename_i wd s₀ s₁ mg mb G Y fa o pm doc ho hg KX X V GL T B TE TW wA wO M wB wC hcd ns hs hlay0 hLay hr hl2 as1 as2 l vs as3 hL ra w1 r0 hI hr2 hc1 hc2 K0 hD h₁ tk₁ F o1 o2 o3 o4 o5 c1 c2 c3 c4 c5 N0 X0
  have okc : Cfg.Ok ⟨PySem.Challenge.rw_tk0086_01.row.prog, wd, s₁.heap, mg, mb⟩ rs := ⟨T.g, T.b, T.nolimit, fun d hd' => T.fn d (by rw [recs_eq]; exact hd'), bi_of T⟩
  have hlen : vs.length ≤ 63 := by rw [hI.length]; omega
  have S0 : St s₁.heap s₁.heap.objs.size _ _ [] h₁ := ⟨F, by rw [List.append_nil]; exact N0, fun p _ q hq => (by cases hq), by simp; omega⟩
  refine law_walk (k := 0) (c := ⟨PySem.Challenge.rw_tk0086_01.row.prog, wd, s₁.heap, mg, mb⟩) (pm := pm) (doc := doc) okc (rm_top _) (fun _ _ e => e) S0 (cells_of X0 S0.nd) rfl (hL.at fun o e => F.keep _ _ e) hI hlen fun m' v h' tk F' hv => ?_
  subst hv
  refine goodW_bool F' hg (raisesW_false ?_) ?_
  · wrow_none_raised
  · wrow_post)
