import PyProof.Rows.All
import Wide.All
import OpenK.AllK
import Wide.FinOn
import PySem.Challenge.RW_oj0048_01
open PySem PySem.W PyProof.Rows
set_option Elab.async false
set_option linter.unusedVariables false
set_option maxRecDepth 100000
set_option maxHeartbeats 4000000
namespace Mine

/-- the part of the heap that stands for good -/
abbrev Mem := Addr → Option Obj
def Mem.le (g g' : Mem) : Prop := ∀ a o, g a = some o → g' a = some o
def Mem.sub (g : Mem) (h : Heap) : Prop := ∀ a o, g a = some o → h.get? a = some o
def Mem.add (g : Mem) (a : Addr) (o : Obj) : Mem := fun b => if b = a then some o else g b
theorem Mem.le.refl (g : Mem) : Mem.le g g := fun _ _ e => e
theorem Mem.le.trans {g g' g'' : Mem} (x : Mem.le g g') (y : Mem.le g' g'') : Mem.le g g'' := fun a o e => y a o (x a o e)
theorem Mem.le_add {g : Mem} {a : Addr} {o : Obj} (h : g a = none) : Mem.le g (g.add a o) := fun b p e => by
  unfold Mem.add
  by_cases q : b = a
  · subst q; rw [h] at e; cases e
  · rw [if_neg q]; exact e
theorem Mem.add_self (g : Mem) (a : Addr) (o : Obj) : g.add a o a = some o := if_pos rfl

abbrev tupO (vs : List Value) (n : Nat) : Obj := { cls := .type "tuple", data := .seq vs.toArray n }
abbrev lstO (vs : List Value) (n : Nat) : Obj := { cls := .type "list", data := .seq vs.toArray n }

mutual
inductive Rd (g : Mem) : Value → PyData → Prop
  | none : Rd g .none .none
  | bool (b : Bool) : Rd g (.bool b) (.bool b)
  | int (i : Int) (t : Tok) : Rd g (.int i t) (.int i)
  | str (x : Str) (t : Tok) : Rd g (.str x t) (.str x)
  | list {a : Addr} {vs : List Value} {n : Nat} {ds : List PyData} : g a = some (lstO vs n) → RdAll g vs ds → Rd g (.ref a) (.list ds)
  | tuple {a : Addr} {vs : List Value} {n : Nat} {ds : List PyData} : g a = some (tupO vs n) → RdAll g vs ds → Rd g (.ref a) (.tuple ds)
inductive RdAll (g : Mem) : List Value → List PyData → Prop
  | nil : RdAll g [] []
  | cons {v : Value} {vs : List Value} {d : PyData} {ds : List PyData} : Rd g v d → RdAll g vs ds → RdAll g (v :: vs) (d :: ds)
end

mutual
theorem Rd.mono {g g' : Mem} (k : Mem.le g g') : ∀ {v : Value} {d : PyData}, Rd g v d → Rd g' v d
  | _, _, .none => .none
  | _, _, .bool b => .bool b
  | _, _, .int i t => .int i t
  | _, _, .str x t => .str x t
  | _, _, .list h r => .list (k _ _ h) (RdAll.mono k r)
  | _, _, .tuple h r => .tuple (k _ _ h) (RdAll.mono k r)
theorem RdAll.mono {g g' : Mem} (k : Mem.le g g') : ∀ {vs : List Value} {ds : List PyData}, RdAll g vs ds → RdAll g' vs ds
  | _, _, .nil => .nil
  | _, _, .cons h r => .cons (Rd.mono k h) (RdAll.mono k r)
end
mutual
theorem Rd.reads {g : Mem} {h : Heap} (k : g.sub h) : ∀ {v : Value} {d : PyData}, Rd g v d → ∃ as, Reads h v d as
  | _, _, .none => ⟨_, .none⟩
  | _, _, .bool b => ⟨_, .bool b⟩
  | _, _, .int i t => ⟨_, .int i t⟩
  | _, _, .str x t => ⟨_, .str x t⟩
  | _, _, .list e r => let ⟨_, R⟩ := RdAll.reads k r; ⟨_, .list (k _ _ e) rfl rfl R⟩
  | _, _, .tuple e r => let ⟨_, R⟩ := RdAll.reads k r; ⟨_, .tuple (k _ _ e) rfl rfl R⟩
theorem RdAll.reads {g : Mem} {h : Heap} (k : g.sub h) : ∀ {vs : List Value} {ds : List PyData}, RdAll g vs ds → ∃ as, ReadsAll h vs ds as
  | _, _, .nil => ⟨_, .nil⟩
  | _, _, .cons e r => let ⟨_, R⟩ := RdAll.reads k r; let ⟨_, S⟩ := Rd.reads k e; ⟨_, .cons S R⟩
end

section
variable {g : Mem} {v : Value} {vs ws : List Value} {d : PyData} {ds es : List PyData}
theorem Rd.int_inv {i : Int} (h : Rd g v (.int i)) : ∃ t, v = .int i t := by cases h; exact ⟨_, rfl⟩
theorem Rd.str_inv {x : Str} (h : Rd g v (.str x)) : ∃ t, v = .str x t := by cases h; exact ⟨_, rfl⟩
theorem Rd.bool_inv {b : Bool} (h : Rd g v (.bool b)) : v = .bool b := by cases h; rfl
theorem Rd.none_inv (h : Rd g v .none) : v = .none := by cases h; rfl
theorem Rd.list_inv (h : Rd g v (.list ds)) : ∃ a vs n, v = .ref a ∧ g a = some (lstO vs n) ∧ RdAll g vs ds := by cases h with | list h r => exact ⟨_, _, _, rfl, h, r⟩
theorem Rd.tuple_inv (h : Rd g v (.tuple ds)) : ∃ a vs n, v = .ref a ∧ g a = some (tupO vs n) ∧ RdAll g vs ds := by cases h with | tuple h r => exact ⟨_, _, _, rfl, h, r⟩
theorem RdAll.length (h : RdAll g vs ds) : vs.length = ds.length := by
  induction vs generalizing ds with
  | nil => cases h; rfl
  | cons v vs ih =>
    cases h with
    | cons _ r => rw [List.length_cons, List.length_cons, ih r]
theorem RdAll.append (h : RdAll g vs ds) (k : RdAll g ws es) : RdAll g (vs ++ ws) (ds ++ es) := by
  induction vs generalizing ds with
  | nil => cases h; exact k
  | cons v vs ih =>
    cases h with
    | cons h r => exact .cons h (ih r)
theorem RdAll.snoc (h : RdAll g vs ds) (k : Rd g v d) : RdAll g (vs ++ [v]) (ds ++ [d]) := h.append (.cons k .nil)
theorem RdAll.get (h : RdAll g vs ds) {k : Nat} (hk : ds[k]? = some d) : ∃ v, vs[k]? = some v ∧ Rd g v d := by
  induction vs generalizing ds k with
  | nil => cases h; cases hk
  | cons v vs ih =>
    cases h with
    | cons h r =>
      cases k with
      | zero => cases hk; exact ⟨v, rfl, h⟩
      | succ k => exact ih r hk
theorem RdAll.getV (h : RdAll g vs ds) {k : Nat} (hk : vs[k]? = some v) : ∃ d, ds[k]? = some d ∧ Rd g v d := by
  induction vs generalizing ds k with
  | nil => cases h; cases hk
  | cons v vs ih =>
    cases h with
    | cons h r =>
      cases k with
      | zero => cases hk; exact ⟨_, rfl, h⟩
      | succ k => exact ih r hk
theorem RdAll.replicate (h : Rd g v d) (n : Nat) : RdAll g (List.replicate n v) (List.replicate n d) := by
  induction n with
  | zero => exact .nil
  | succ n ih => exact .cons h ih
theorem RdAll.dropLast (h : RdAll g vs ds) : RdAll g vs.dropLast ds.dropLast := by
  induction vs generalizing ds with
  | nil => cases h; exact .nil
  | cons v vs ih =>
    cases h with
    | cons h r =>
      cases r with
      | nil => exact .nil
      | cons h' r' => exact .cons h (ih (.cons h' r'))
theorem RdAll.set (h : RdAll g vs ds) (k : Nat) (e : Rd g v d) : RdAll g (vs.set k v) (ds.set k d) := by
  induction vs generalizing ds k with
  | nil => cases h; exact .nil
  | cons v vs ih =>
    cases h with
    | cons h r =>
      cases k with
      | zero => exact .cons e r
      | succ k => exact .cons h (ih r k)
end

/-- a step of the machine that only lets the heap grow -/
structure Step (s : Shared) (g : Mem) (s' : Shared) (g' : Mem) : Prop where
  same : ∃ h tk, s' = { s with heap := h, toks := tk }
  up : ∀ b o, s.heap.get? b = some o → s'.heap.get? b = some o
  le : Mem.le g g'
  sub : g'.sub s'.heap
  new : ∀ a o, g' a = some o → g a = some o ∨ s.heap.get? a = none

theorem Step.refl {s : Shared} {g : Mem} (h : g.sub s.heap) : Step s g s g := ⟨⟨s.heap, s.toks, rfl⟩, fun _ _ e => e, Mem.le.refl g, h, fun _ _ e => .inl e⟩
theorem Step.toks {s : Shared} {g : Mem} (h : g.sub s.heap) (k : Nat) : Step s g { s with toks := k } g := ⟨⟨s.heap, k, rfl⟩, fun _ _ e => e, Mem.le.refl g, h, fun _ _ e => .inl e⟩
theorem none_of_up {h h' : Heap} (up : ∀ b o, h.get? b = some o → h'.get? b = some o) {a : Addr} (e : h'.get? a = none) : h.get? a = none := by
  cases q : h.get? a with
  | none => rfl
  | some o => rw [up a o q] at e; cases e
theorem Step.trans {s s' s'' : Shared} {g g' g'' : Mem} (x : Step s g s' g') (y : Step s' g' s'' g'') : Step s g s'' g'' := by
  obtain ⟨h1, t1, rfl⟩ := x.same
  obtain ⟨h2, t2, rfl⟩ := y.same
  refine ⟨⟨h2, t2, rfl⟩, fun b o e => y.up b o (x.up b o e), x.le.trans y.le, y.sub, fun a o e => ?_⟩
  rcases y.new a o e with e | e
  · exact x.new a o e
  · exact .inr (none_of_up x.up e)
theorem size_none (h : Heap) : h.get? h.objs.size = none := by
  cases q : h.get? h.objs.size with
  | none => rfl
  | some o => exact absurd (Heap.lt_size q) (Nat.lt_irrefl _)
theorem Step.push {s : Shared} {g : Mem} (h : g.sub s.heap) (o : Obj) (hf : o.isFreed = false) (k : Nat) : Step s g { s with heap := s.heap.push o, toks := k } (g.add s.heap.objs.size o) := by
  have hn : g s.heap.objs.size = none := by
    cases q : g s.heap.objs.size with
    | none => rfl
    | some p => have := h _ _ q; rw [size_none] at this; cases this
  refine ⟨⟨_, k, rfl⟩, fun _ _ e => Heap.get?_push_of_some _ e, Mem.le_add hn, fun a p e => ?_, fun a p e => ?_⟩
  · unfold Mem.add at e
    by_cases q : a = s.heap.objs.size
    · rw [if_pos q] at e; cases e; subst q; exact Heap.get?_push_size _ hf
    · rw [if_neg q] at e; exact Heap.get?_push_of_some _ (h _ _ e)
  · unfold Mem.add at e
    by_cases q : a = s.heap.objs.size
    · subst q; exact .inr (size_none _)
    · rw [if_neg q] at e; exact .inl e

def Ret (s : Shared) (g : Mem) (P : Mem → Value → Prop) (v : Value) (s' : Shared) : Prop := ∃ g', Step s g s' g' ∧ P g' v
abbrev D (d : PyData) : Mem → Value → Prop := fun g v => Rd g v d
def NoE : Value → Shared → Prop := fun _ _ => False
theorem Ret.step {s s' s'' : Shared} {g g' : Mem} {P : Mem → Value → Prop} {v : Value} (x : Step s g s' g') (y : Ret s' g' P v s'') : Ret s g P v s'' := let ⟨g2, a, b⟩ := y; ⟨g2, x.trans a, b⟩
theorem Ret.imp {s s' : Shared} {g : Mem} {P P' : Mem → Value → Prop} {v : Value} (y : Ret s g P v s') (h : ∀ g' v, P g' v → P' g' v) : Ret s g P' v s' := let ⟨g2, a, b⟩ := y; ⟨g2, a, h _ _ b⟩

section
variable (prog : Program) (w : World) (A : Around) (env : Env) (m : Str → Option Value) (G : Mem)
/-- the expression e, from every heap that holds G, gives a value of which P holds, and changes nothing -/
def Ev (e : Expr) (P : Mem → Value → Prop) : Prop :=
  ∀ G', Mem.le G G' → ∀ s : Shared, s.heap.Ns env.locals m → G'.sub s.heap → wpAny (model prog w) A (eval e env) (Ret s G' P) NoE s
def Evs (pos : Pos) (es : List Expr) (ds : List PyData) : Prop :=
  ∀ G', Mem.le G G' → ∀ s : Shared, s.heap.Ns env.locals m → G'.sub s.heap →
    wpAny (model prog w) A (spliced (backTo pos (starEach es env))) (fun vs s' => ∃ g', Step s G' s' g' ∧ RdAll g' vs ds) NoE s
/-- the test e comes out as b -/
def Tr (e : Expr) (b : Bool) : Prop :=
  ∀ G', Mem.le G G' → ∀ s : Shared, s.heap.Ns env.locals m → G'.sub s.heap →
    wpAny (model prog w) A (isTrue e env (eval e env)) (fun r s' => r = b ∧ ∃ g', Step s G' s' g') NoE s
end

section
variable {prog : Program} {w : World} {A : Around} {env : Env} {m : Str → Option Value} {G : Mem}
theorem Ev.up {G' : Mem} {e : Expr} {P : Mem → Value → Prop} (h : Ev prog w A env m G e P) (k : Mem.le G G') : Ev prog w A env m G' e P := fun _ k' s hn hs => h _ (k.trans k') s hn hs
theorem Ev.imp {e : Expr} {P P' : Mem → Value → Prop} (h : Ev prog w A env m G e P) (i : ∀ g v, Mem.le G g → P g v → P' g v) : Ev prog w A env m G e P' := fun G' k s hn hs =>
  wpAny_mono (h G' k s hn hs) (fun _ _ ⟨g', st, p⟩ => ⟨g', st, i _ _ (k.trans st.le) p⟩) fun _ _ x => x
theorem Ev.castD {e : Expr} {d d' : PyData} (h : Ev prog w A env m G e (D d)) (q : d = d') : Ev prog w A env m G e (D d') := q ▸ h
theorem ns_up {L : Addr} {s s' : Shared} {g g' : Mem} (hn : s.heap.Ns L m) (st : Step s g s' g') : s'.heap.Ns L m := hn.keeps st.up

/-- go on behind an expression -/
theorem Ev.go {e : Expr} {P : Mem → Value → Prop} {Q : Value → Shared → Prop} {G' : Mem} {s : Shared} (h : Ev prog w A env m G e P) (k : Mem.le G G') (hn : s.heap.Ns env.locals m) (hs : G'.sub s.heap)
    (q : ∀ v s' g', Step s G' s' g' → P g' v → Q v s') : wpAny (model prog w) A (eval e env) Q NoE s :=
  wpAny_mono (h G' k s hn hs) (fun v s' ⟨g', st, p⟩ => q v s' g' st p) fun _ _ x => x
theorem Tr.go {e : Expr} {b : Bool} {Q : Bool → Shared → Prop} {G' : Mem} {s : Shared} (h : Tr prog w A env m G e b) (k : Mem.le G G') (hn : s.heap.Ns env.locals m) (hs : G'.sub s.heap)
    (q : ∀ s' g', Step s G' s' g' → Q b s') : wpAny (model prog w) A (isTrue e env (eval e env)) Q NoE s :=
  wpAny_mono (h G' k s hn hs) (fun v s' ⟨e, g', st⟩ => e ▸ q s' g' st) fun _ _ x => x

theorem Ev.local {x : Str} {pos : Pos} {v : Value} {P : Mem → Value → Prop} (hm : m x = some v) (hP : ∀ g, Mem.le G g → P g v)
    (hk : env.scope.kind = .function := by rfl) (hl : env.kindOf x = some .local := by rfl) (hd : (x == ("__debug__" : Str)) = false := by decide) :
    Ev prog w A env m G (.Name x pos) P := fun G' k s hn hs =>
  wpAny_Name (wpAny_loadName_local hk hl hn hm ⟨G', Step.refl hs, hP G' k⟩) hd
theorem Ev.localD {x : Str} {pos : Pos} {v : Value} {d : PyData} (hm : m x = some v) (hP : Rd G v d)
    (hk : env.scope.kind = .function := by rfl) (hl : env.kindOf x = some .local := by rfl) (hd : (x == ("__debug__" : Str)) = false := by decide) :
    Ev prog w A env m G (.Name x pos) (D d) := Ev.local hm (fun _ k => hP.mono k) hk hl hd
theorem isCell_of {c : Addr} {o : Obj} {v : Value} {h : Heap} (e : h.get? c = some o) (hd : o.data = .cell (some v)) : h.IsCell c (some v) := ⟨o, e, hd⟩
theorem Ev.cell {x : Str} {pos : Pos} {c : Addr} {o : Obj} {v : Value} {P : Mem → Value → Prop} (hc : env.cells.lookup x = some c) (ho : G c = some o) (hd : o.data = .cell (some v)) (hP : ∀ g, Mem.le G g → P g v)
    (hk : env.scope.kind = .function := by rfl) (hl : env.kindOf x = some .cell := by rfl) (hdb : (x == ("__debug__" : Str)) = false := by decide) :
    Ev prog w A env m G (.Name x pos) P := fun G' k s _ hs =>
  wpAny_Name (wpAny_loadName_cell hk hl hc (isCell_of (hs _ _ (k _ _ ho)) hd) ⟨G', Step.refl hs, hP G' k⟩) hdb
theorem Ev.free {x : Str} {pos : Pos} {c : Addr} {o : Obj} {v : Value} {P : Mem → Value → Prop} (hc : env.cells.lookup x = some c) (ho : G c = some o) (hd : o.data = .cell (some v)) (hP : ∀ g, Mem.le G g → P g v)
    (hk : env.scope.kind = .function := by rfl) (hl : env.kindOf x = some .free := by rfl) (hn' : (x == ("__classdict__" : Str)) = false := by decide) (hdb : (x == ("__debug__" : Str)) = false := by decide) :
    Ev prog w A env m G (.Name x pos) P := fun G' k s _ hs =>
  wpAny_Name (wpAny_loadName_free hk hl hc (isCell_of (hs _ _ (k _ _ ho)) hd) ⟨G', Step.refl hs, hP G' k⟩ hn') hdb

theorem Ev.int {i : Int} {k : Nat} {pos : Pos} : Ev prog w A env m G (.Constant (.int i) k pos) (D (.int i)) := fun G' _ s _ hs => wpAny_Constant_int ⟨G', Step.toks hs _, .int _ _⟩
theorem Ev.str {x : Str} {k : Nat} {pos : Pos} : Ev prog w A env m G (.Constant (.str x) k pos) (D (.str x)) := fun G' _ s _ hs => wpAny_Constant_str ⟨G', Step.toks hs _, .str _ _⟩
theorem Ev.bool {b : Bool} {k : Nat} {pos : Pos} : Ev prog w A env m G (.Constant (.bool b) k pos) (D (.bool b)) := fun G' _ s _ hs => wpAny_Constant_bool ⟨G', Step.refl hs, .bool _⟩
theorem Ev.none {k : Nat} {pos : Pos} : Ev prog w A env m G (.Constant .none k pos) (D .none) := fun G' _ s _ hs => wpAny_Constant_none ⟨G', Step.refl hs, .none⟩

theorem Evs.nil {pos : Pos} : Evs prog w A env m G pos [] [] := fun G' _ s _ hs => args_nil ⟨G', Step.refl hs, .nil⟩
theorem Evs.cons {pos : Pos} {e : Expr} {es : List Expr} {d : PyData} {ds : List PyData} (h : Ev prog w A env m G e (D d)) (t : Evs prog w A env m G pos es ds)
    (he : starEach (e :: es) env = (false, eval e env) :: starEach es env := by rfl) : Evs prog w A env m G pos (e :: es) (d :: ds) := fun G' k s hn hs =>
  args_cons (h.go k hn hs fun v s' g' st p => wpAny_mono (t g' (k.trans st.le) s' (ns_up hn st) st.sub) (fun vs s'' ⟨g'', st', r⟩ => ⟨g'', st.trans st', .cons (p.mono st'.le) r⟩) fun _ _ x => x) he

theorem Ev.tuple {pos : Pos} {k : Nat} {es : List Expr} {ds : List PyData} (h : Evs prog w A env m G pos es ds) (hz : ds.length ≤ 1000 := by first | decide | simp) : Ev prog w A env m G (.Tuple es k pos) (D (.tuple ds)) := fun G' k s hn hs =>
  wpAny_Tuple (wpAny_mono (h G' k s hn hs) (fun vs s' ⟨g', st, r⟩ => ⟨by rw [r.length, sizeLine_eq]; omega, _, st.trans (Step.push st.sub _ rfl s'.toks), .tuple (Mem.add_self _ _ _) (r.mono (Step.push st.sub (tupO vs 0) rfl s'.toks).le)⟩) fun _ _ x => x)
theorem Ev.list {pos : Pos} {es : List Expr} {ds : List PyData} (h : Evs prog w A env m G pos es ds) (hz : ds.length ≤ 1000 := by first | decide | simp) : Ev prog w A env m G (.List es pos) (D (.list ds)) := fun G' k s hn hs =>
  wpAny_List (wpAny_mono (h G' k s hn hs) (fun vs s' ⟨g', st, r⟩ => ⟨by rw [r.length, sizeLine_eq]; omega, _, st.trans (Step.push st.sub _ rfl s'.toks), .list (Mem.add_self _ _ _) (r.mono (Step.push st.sub (lstO vs 0) rfl s'.toks).le)⟩) fun _ _ x => x)
end

def Mono (P : Mem → Value → Prop) : Prop := ∀ g g' v, Mem.le g g' → P g v → P g' v
theorem Mono.d (d : PyData) : Mono (D d) := fun _ _ _ k h => h.mono k

/-- enough room around -/
def Ok (n : Nat) (A : Around) : Prop := A.handled = none ∧ A.depth + n ≤ 900 ∧ A.units + 20 * n ≤ 9000
theorem Ok.deeper {n : Nat} {A : Around} {env : Env} (h : Ok (n + 1) A) : Ok n (A.deeper env) := ⟨h.1, by show A.depth + 1 + n ≤ 900; have := h.2.1; omega, by show A.units + 3 + 20 * n ≤ 9000; have := h.2.2; omega⟩
theorem Ok.in1 {n : Nat} {A : Around} (h : Ok (n + 1) A) : Ok n A.in1 := ⟨h.1, by show A.depth + n ≤ 900; have := h.2.1; omega, by show A.units + 1 + 20 * n ≤ 9000; have := h.2.2; omega⟩
theorem Ok.le {n k : Nat} {A : Around} (h : Ok n A) (e : k ≤ n) : Ok k A := ⟨h.1, by have := h.2.1; omega, by have := h.2.2; omega⟩
theorem Ok.room {n : Nat} {A : Around} (h : Ok n A) : A.depth < recursionLimit := by
  have := h.2.1; show A.depth < 1000; omega
theorem Ok.units {n : Nat} {A : Around} (h : Ok n A) : A.units + 64 < cLine := by
  have := h.2.2; show A.units + 64 < 9900; omega

section
variable {prog : Program} {w : World} {A : Around} {env : Env} {m : Str → Option Value} {G : Mem}

/-! ### operators -/
theorem Ev.bin {op : Operator} {l r : Expr} {pos : Pos} {P1 P2 P : Mem → Value → Prop} (h1 : Ev prog w A env m G l P1) (h2 : Ev prog w A env m G r P2) (m1 : Mono P1)
    (h : ∀ g a b (s : Shared), Mem.le G g → g.sub s.heap → P1 g a → P2 g b → wpAny (model prog w) A (binaryOp op a b) (Ret s g P) NoE s) : Ev prog w A env m G (.BinOp l op r pos) P := fun G' k s hn hs =>
  wpAny_BinOp (h1.go k hn hs fun v1 s1 g1 st1 p1 => h2.go (k.trans st1.le) (ns_up hn st1) st1.sub fun v2 s2 g2 st2 p2 =>
    wpAny_mono (h g2 v1 v2 s2 ((k.trans st1.le).trans st2.le) st2.sub (m1 _ _ _ st2.le p1) p2) (fun v s' r => r.step (st1.trans st2)) fun _ _ x => x)

theorem ret_int {s : Shared} {g : Mem} (h : g.sub s.heap) {i : Int} {t k : Nat} : Ret s g (D (.int i)) (.int i t) { s with toks := k } := ⟨g, Step.toks h k, .int _ _⟩
theorem ret_bool {s : Shared} {g : Mem} (h : g.sub s.heap) {b : Bool} {k : Nat} : Ret s g (D (.bool b)) (.bool b) { s with toks := k } := ⟨g, Step.toks h k, .bool _⟩

theorem Ev.add {l r : Expr} {pos : Pos} {a b : Int} (h1 : Ev prog w A env m G l (D (.int a))) (h2 : Ev prog w A env m G r (D (.int b))) : Ev prog w A env m G (.BinOp l .Add r pos) (D (.int (a + b))) :=
  h1.bin h2 (Mono.d _) fun g x y s _ hs p q => by obtain ⟨t, rfl⟩ := p.int_inv; obtain ⟨u, rfl⟩ := q.int_inv; exact P.add_int (ret_int hs)
theorem Ev.sub {l r : Expr} {pos : Pos} {a b : Int} (h1 : Ev prog w A env m G l (D (.int a))) (h2 : Ev prog w A env m G r (D (.int b))) : Ev prog w A env m G (.BinOp l .Sub r pos) (D (.int (a - b))) :=
  h1.bin h2 (Mono.d _) fun g x y s _ hs p q => by obtain ⟨t, rfl⟩ := p.int_inv; obtain ⟨u, rfl⟩ := q.int_inv; exact P.sub_int (ret_int hs)
theorem Ev.mul {l r : Expr} {pos : Pos} {a b : Int} (h1 : Ev prog w A env m G l (D (.int a))) (h2 : Ev prog w A env m G r (D (.int b))) (ha : -1000000 < a ∧ a < 1000000) : Ev prog w A env m G (.BinOp l .Mult r pos) (D (.int (a * b))) :=
  h1.bin h2 (Mono.d _) fun g x y s _ hs p q => by obtain ⟨t, rfl⟩ := p.int_inv; obtain ⟨u, rfl⟩ := q.int_inv; exact P.mul_int (ret_int hs) (.of_left (intBits_le_64 (by omega) (by omega)))
theorem Ev.mod {l r : Expr} {pos : Pos} {a b : Int} (h1 : Ev prog w A env m G l (D (.int a))) (h2 : Ev prog w A env m G r (D (.int b))) (hb : b ≠ 0) : Ev prog w A env m G (.BinOp l .Mod r pos) (D (.int (a.fmod b))) :=
  h1.bin h2 (Mono.d _) fun g x y s _ hs p q => by obtain ⟨t, rfl⟩ := p.int_inv; obtain ⟨u, rfl⟩ := q.int_inv; exact mod_int' hb (ret_int hs)
theorem Ev.div {l r : Expr} {pos : Pos} {a b : Int} (h1 : Ev prog w A env m G l (D (.int a))) (h2 : Ev prog w A env m G r (D (.int b))) (hb : 0 < b ∧ b < 1000000) : Ev prog w A env m G (.BinOp l .FloorDiv r pos) (D (.int (a.fdiv b))) :=
  h1.bin h2 (Mono.d _) fun g x y s _ hs p q => by
    obtain ⟨t, rfl⟩ := p.int_inv; obtain ⟨u, rfl⟩ := q.int_inv
    exact floordiv_int (by omega) (ret_int hs) (.inl (PyProof.noPylong_small (by omega)))
theorem Ev.pow2 {l r : Expr} {pos : Pos} {b : Int} (h1 : Ev prog w A env m G l (D (.int 2))) (h2 : Ev prog w A env m G r (D (.int b))) (hb : 0 < b ∧ b < 1000) : Ev prog w A env m G (.BinOp l .Pow r pos) (D (.int (2 ^ b.toNat))) :=
  h1.bin h2 (Mono.d _) fun g x y s _ hs p q => by
    obtain ⟨t, rfl⟩ := p.int_inv; obtain ⟨u, rfl⟩ := q.int_inv
    refine AutoIntOps.pow_4 (by omega) (by simp; omega) (by decide) (by decide) ?_ (ret_int hs)
    have e : ((Builtin.Int.intBits 2 : Nat) : Int) = 2 := by decide +kernel
    rw [e]
    simp [Builtin.Int.intTooBig]
    have e2 : bitsLine = 134217728 := rfl
    rw [e2]; omega

theorem Ev.catL {l r : Expr} {pos : Pos} {xs ys : List PyData} (h1 : Ev prog w A env m G l (D (.list xs))) (h2 : Ev prog w A env m G r (D (.list ys))) (hz : xs.length + ys.length ≤ 1000000) :
    Ev prog w A env m G (.BinOp l .Add r pos) (D (.list (xs ++ ys))) :=
  h1.bin h2 (Mono.d _) fun g x y s _ hs p q => by
    obtain ⟨a, vs, n, rfl, ha, ra⟩ := p.list_inv; obtain ⟨b, us, k, rfl, hb, rb⟩ := q.list_inv
    refine P.add_list (hs _ _ ha) (hs _ _ hb) ?_ (by simp only [List.size_toArray, ra.length, rb.length, sizeLine_eq]; omega)
    have st := Step.push hs (lstO (vs ++ us) 0) rfl s.toks
    refine ⟨_, by simpa [lstO] using st, ?_⟩
    exact .list (vs := vs ++ us) (n := 0) (Mem.add_self _ _ _) ((ra.append rb).mono st.le)

/-! ### comparisons -/
variable (prog w A G) in
def CmpOk (op : CmpOp) (P1 P2 : Mem → Value → Prop) (b : Bool) : Prop :=
  ∀ g, Mem.le G g → ∀ x y (s : Shared), g.sub s.heap → P1 g x → P2 g y → ∀ (Q : Value → Shared → Prop) (E : Value → Shared → Prop), (∀ k, Q (.bool b) { s with toks := k }) → wpAny (model prog w) A (compareOp op x y) Q E s

theorem Ev.cmp {op : CmpOp} {l r : Expr} {pos : Pos} {P1 P2 : Mem → Value → Prop} {b : Bool} (h1 : Ev prog w A env m G l P1) (h2 : Ev prog w A env m G r P2) (m1 : Mono P1) (h : CmpOk prog w A G op P1 P2 b)
    (hm : behindInMarks op r = false := by with_unfolding_all rfl) : Ev prog w A env m G (.Compare l [op] [r] pos) (D (.bool b)) := fun G' k s hn hs =>
  wpAny_Compare1 (h1.go k hn hs fun v1 s1 g1 st1 p1 => h2.go (k.trans st1.le) (ns_up hn st1) st1.sub fun v2 s2 g2 st2 p2 =>
    h g2 ((k.trans st1.le).trans st2.le) v1 v2 s2 st2.sub (m1 _ _ _ st2.le p1) p2 _ _ fun t => (ret_bool st2.sub).step (st1.trans st2)) hm
theorem Tr.cmp {op : CmpOp} {l r : Expr} {pos : Pos} {P1 P2 : Mem → Value → Prop} {b : Bool} (h1 : Ev prog w A env m G l P1) (h2 : Ev prog w A env m G r P2) (m1 : Mono P1) (h : CmpOk prog w A G op P1 P2 b)
    (hm : behindInMarks op r = false := by with_unfolding_all rfl) : Tr prog w A env m G (.Compare l [op] [r] pos) b := fun G' k s hn hs =>
  wpAny_isTrue_Compare1 (h1.go k hn hs fun v1 s1 g1 st1 p1 => h2.go (k.trans st1.le) (ns_up hn st1) st1.sub fun v2 s2 g2 st2 p2 =>
    h g2 ((k.trans st1.le).trans st2.le) v1 v2 s2 st2.sub (m1 _ _ _ st2.le p1) p2 _ _ fun t => wpAny_truthy_bool ⟨rfl, _, (st1.trans st2).trans (Step.toks st2.sub t)⟩) hm

theorem Tr.chain {op op' : CmpOp} {l r r' : Expr} {pos : Pos} {P1 P2 P3 : Mem → Value → Prop} {b b' : Bool} (h1 : Ev prog w A env m G l P1) (h2 : Ev prog w A env m G r P2) (h3 : b = true → Ev prog w A env m G r' P3) (m1 : Mono P1) (m2 : Mono P2)
    (h : CmpOk prog w A G op P1 P2 b) (h' : b = true → CmpOk prog w A G op' P2 P3 b')
    (hm : lastMarks [op, op'] [r, r'] = false := by with_unfolding_all rfl) : Tr prog w A env m G (.Compare l [op, op'] [r, r'] pos) (b && b') := fun G' k s hn hs => by
  refine isTrue_chain (h1.go k hn hs fun v1 s1 g1 st1 p1 => test_link ?_) hm
  refine h2.go (k.trans st1.le) (ns_up hn st1) st1.sub fun v2 s2 g2 st2 p2 => ?_
  refine h g2 ((k.trans st1.le).trans st2.le) v1 v2 s2 st2.sub (m1 _ _ _ st2.le p1) p2 _ _ fun t => wpAny_truthy_bool ?_
  have st12 := (st1.trans st2).trans (Step.toks st2.sub t)
  cases b with
  | false => exact ⟨rfl, _, st12⟩
  | true =>
    refine test_last ?_
    refine (h3 rfl).go (k.trans st12.le) (ns_up hn st12) st12.sub fun v3 s3 g3 st3 p3 => ?_
    exact h' rfl g3 ((k.trans st12.le).trans st3.le) v2 v3 s3 st3.sub (m2 _ _ _ st3.le p2) p3 _ _ fun t' => wpAny_truthy_bool ⟨by simp, _, (st12.trans st3).trans (Step.toks st3.sub t')⟩

theorem CmpOk.lt {a b : Int} : CmpOk prog w A G .Lt (D (.int a)) (D (.int b)) (decide (a < b)) := fun g _ x y s hs p q Q E h => by
  obtain ⟨t, rfl⟩ := p.int_inv; obtain ⟨u, rfl⟩ := q.int_inv; exact P.lt_int (h s.toks)
theorem CmpOk.le {a b : Int} : CmpOk prog w A G .LtE (D (.int a)) (D (.int b)) (decide (a ≤ b)) := fun g _ x y s hs p q Q E h => by
  obtain ⟨t, rfl⟩ := p.int_inv; obtain ⟨u, rfl⟩ := q.int_inv; exact P.le_int (h s.toks)
theorem CmpOk.gt {a b : Int} : CmpOk prog w A G .Gt (D (.int a)) (D (.int b)) (decide (a > b)) := fun g _ x y s hs p q Q E h => by
  obtain ⟨t, rfl⟩ := p.int_inv; obtain ⟨u, rfl⟩ := q.int_inv; exact P.gt_int (h s.toks)
theorem CmpOk.neInt {a b : Int} : CmpOk prog w A G .NotEq (D (.int a)) (D (.int b)) (a != b) := fun g _ x y s hs p q Q E h => by
  obtain ⟨t, rfl⟩ := p.int_inv; obtain ⟨u, rfl⟩ := q.int_inv; exact P.ne_int (h s.toks)
theorem CmpOk.eq {n : Nat} {a b : PyData} (hA : Ok n A) (ha : SeqAt.shaped a = true) (hb : SeqAt.shaped b = true) : CmpOk prog w A G .Eq (D a) (D b) (PyData.eqv a b) := fun g _ x y s hs p q Q E h => by
  obtain ⟨_, ra⟩ := p.reads hs; obtain ⟨_, rb⟩ := q.reads hs; exact eq_dataH ra rb ha hb hA.units (h s.toks)
theorem CmpOk.ne {n : Nat} {a b : PyData} (hA : Ok n A) (ha : SeqAt.shaped a = true) (hb : SeqAt.shaped b = true) : CmpOk prog w A G .NotEq (D a) (D b) (!PyData.eqv a b) := fun g _ x y s hs p q Q E h => by
  obtain ⟨_, ra⟩ := p.reads hs; obtain ⟨_, rb⟩ := q.reads hs; exact ne_dataH ra rb ha hb hA.units (h s.toks)
theorem CmpOk.inTup {n : Nat} {d : PyData} {xs : List PyData} (hA : Ok n A) (hx : PyData.canLayAll0 xs = true) (hd : d.canLay0 = true) (hz : PyData.depthAll xs ≤ 60) : CmpOk prog w A G .In (D d) (D (.tuple xs)) (xs.any fun y => PyData.eqv y d) := fun g _ x y s hs p q Q E h => by
  obtain ⟨_, ra⟩ := p.reads hs; obtain ⟨_, rb⟩ := q.reads hs; exact SeqAt.in_tuple_reads rb ra hx hd (by have := hA.units; omega) (h s.toks)
theorem CmpOk.inLst {n : Nat} {d : PyData} {xs : List PyData} (hA : Ok n A) (hx : PyData.canLayAll0 xs = true) (hd : d.canLay0 = true) (hz : PyData.depthAll xs ≤ 60) : CmpOk prog w A G .In (D d) (D (.list xs)) (xs.any fun y => PyData.eqv y d) := fun g _ x y s hs p q Q E h => by
  obtain ⟨_, ra⟩ := p.reads hs; obtain ⟨_, rb⟩ := q.reads hs; exact SeqAt.in_list_reads rb ra hx hd (by have := hA.units; omega) (h s.toks)
theorem CmpOk.notInLst {n : Nat} {d : PyData} {xs : List PyData} (hA : Ok n A) (hx : PyData.canLayAll0 xs = true) (hd : d.canLay0 = true) (hz : PyData.depthAll xs ≤ 60) : CmpOk prog w A G .NotIn (D d) (D (.list xs)) (!xs.any fun y => PyData.eqv y d) := fun g _ x y s hs p q Q E h => by
  obtain ⟨_, ra⟩ := p.reads hs; obtain ⟨_, rb⟩ := q.reads hs; exact SeqAt.notIn_list_reads rb ra hx hd (by have := hA.units; omega) (h s.toks)

def isNone : PyData → Bool
  | .none => true
  | _ => false
theorem none_beq {g : Mem} {v : Value} {d : PyData} (p : Rd g v d) : (v == Value.none) = isNone d := by cases p <;> rfl
theorem CmpOk.isNot {d : PyData} : CmpOk prog w A G .IsNot (D d) (D .none) (!isNone d) := fun g _ x y s hs p q Q E h => by
  rw [q.none_inv]; exact isNot_none (by rw [none_beq p]; exact h s.toks)
theorem CmpOk.is {d : PyData} : CmpOk prog w A G .Is (D d) (D .none) (isNone d) := fun g _ x y s hs p q Q E h => by
  rw [q.none_inv]; exact is_none (by rw [none_beq p]; exact h s.toks)

/-! ### tests -/
theorem Tr.cast {e : Expr} {b b' : Bool} (h : Tr prog w A env m G e b) (q : b = b') : Tr prog w A env m G e b' := q ▸ h
theorem Tr.val {e : Expr} {b : Bool} (h : Ev prog w A env m G e (D (.bool b))) (hw : ∀ whole, isTrue e env whole = (do let v ← whole; standAt e.pos; holding [v] (truthy v)) := by intro _; rfl) : Tr prog w A env m G e b := fun G' k s hn hs =>
  wpAny_isTrue_value (h.go k hn hs fun v s' g' st p => by rw [p.bool_inv]; exact wpAny_truthy_bool ⟨rfl, _, st⟩) (hw _)
theorem Tr.not {e : Expr} {pos : Pos} {b : Bool} (h : Tr prog w A env m G e b) : Tr prog w A env m G (.UnaryOp .Not e pos) (!b) := fun G' k s hn hs =>
  wpAny_isTrue_Not (h.go k hn hs fun s' g' st => ⟨rfl, _, st⟩)
theorem Tr.and2 {x y : Expr} {pos : Pos} {b c : Bool} (h1 : Tr prog w A env m G x b) (h2 : b = true → Tr prog w A env m G y c) : Tr prog w A env m G (.BoolOp .And [x, y] pos) (b && c) := fun G' k s hn hs => by
  refine wpAny_isTrue_BoolOp (wpAny_allTrue_And_cons (h1.go k hn hs fun s' g' st => ?_))
  cases b with
  | false => exact ⟨rfl, _, st⟩
  | true =>
    refine wpAny_allTrue_And_cons ((h2 rfl).go (k.trans st.le) (ns_up hn st) st.sub fun s2 g2 st2 => ?_)
    cases c with
    | false => exact ⟨rfl, _, st.trans st2⟩
    | true => exact wpAny_allTrue_And_nil ⟨rfl, _, st.trans st2⟩
theorem Tr.and3 {x y z : Expr} {pos : Pos} {b c d : Bool} (h1 : Tr prog w A env m G x b) (h2 : b = true → Tr prog w A env m G y c) (h3 : b = true → c = true → Tr prog w A env m G z d) : Tr prog w A env m G (.BoolOp .And [x, y, z] pos) (b && c && d) := fun G' k s hn hs => by
  refine wpAny_isTrue_BoolOp (wpAny_allTrue_And_cons (h1.go k hn hs fun s' g' st => ?_))
  cases b with
  | false => exact ⟨rfl, _, st⟩
  | true =>
    refine wpAny_allTrue_And_cons ((h2 rfl).go (k.trans st.le) (ns_up hn st) st.sub fun s2 g2 st2 => ?_)
    have st' := st.trans st2
    cases c with
    | false => exact ⟨rfl, _, st'⟩
    | true =>
      refine wpAny_allTrue_And_cons ((h3 rfl rfl).go (k.trans st'.le) (ns_up hn st') st'.sub fun s3 g3 st3 => ?_)
      cases d with
      | false => exact ⟨rfl, _, st'.trans st3⟩
      | true => exact wpAny_allTrue_And_nil ⟨rfl, _, st'.trans st3⟩
theorem Tr.or2 {x y : Expr} {pos : Pos} {b c : Bool} (h1 : Tr prog w A env m G x b) (h2 : b = false → Tr prog w A env m G y c) : Tr prog w A env m G (.BoolOp .Or [x, y] pos) (b || c) := fun G' k s hn hs => by
  refine wpAny_isTrue_BoolOp (wpAny_allTrue_Or_cons (h1.go k hn hs fun s' g' st => ?_))
  cases b with
  | true => exact ⟨rfl, _, st⟩
  | false =>
    refine wpAny_allTrue_Or_cons ((h2 rfl).go (k.trans st.le) (ns_up hn st) st.sub fun s2 g2 st2 => ?_)
    cases c with
    | true => exact ⟨rfl, _, st.trans st2⟩
    | false => exact wpAny_allTrue_Or_nil ⟨rfl, _, st.trans st2⟩
theorem Tr.or3 {x y z : Expr} {pos : Pos} {b c d : Bool} (h1 : Tr prog w A env m G x b) (h2 : b = false → Tr prog w A env m G y c) (h3 : b = false → c = false → Tr prog w A env m G z d) : Tr prog w A env m G (.BoolOp .Or [x, y, z] pos) (b || c || d) := fun G' k s hn hs => by
  refine wpAny_isTrue_BoolOp (wpAny_allTrue_Or_cons (h1.go k hn hs fun s' g' st => ?_))
  cases b with
  | true => exact ⟨rfl, _, st⟩
  | false =>
    refine wpAny_allTrue_Or_cons ((h2 rfl).go (k.trans st.le) (ns_up hn st) st.sub fun s2 g2 st2 => ?_)
    have st' := st.trans st2
    cases c with
    | true => exact ⟨rfl, _, st'⟩
    | false =>
      refine wpAny_allTrue_Or_cons ((h3 rfl rfl).go (k.trans st'.le) (ns_up hn st') st'.sub fun s3 g3 st3 => ?_)
      cases d with
      | true => exact ⟨rfl, _, st'.trans st3⟩
      | false => exact wpAny_allTrue_Or_nil ⟨rfl, _, st'.trans st3⟩

theorem Ev.ifexp {t x y : Expr} {pos : Pos} {b : Bool} {P : Mem → Value → Prop} (h : Tr prog w A env m G t b) (h1 : b = true → Ev prog w A env m G x P) (h2 : b = false → Ev prog w A env m G y P) : Ev prog w A env m G (.IfExp t x y pos) P := fun G' k s hn hs => by
  refine wpAny_IfExp (h.go k hn hs fun s' g' st => ?_)
  cases b with
  | true => exact (h1 rfl).go (k.trans st.le) (ns_up hn st) st.sub fun v s2 g2 st2 p => ⟨_, st.trans st2, p⟩
  | false => exact (h2 rfl).go (k.trans st.le) (ns_up hn st) st.sub fun v s2 g2 st2 p => ⟨_, st.trans st2, p⟩
theorem Ev.and {x y : Expr} {pos : Pos} {b c : Bool} (h1 : Ev prog w A env m G x (D (.bool b))) (h2 : b = true → Ev prog w A env m G y (D (.bool c))) : Ev prog w A env m G (.BoolOp .And [x, y] pos) (D (.bool (b && c))) := fun G' k s hn hs => by
  refine wpAny_And2 (h1.go k hn hs fun v s' g' st p => ?_)
  rw [p.bool_inv]
  refine wpAny_truthy_bool ?_
  cases b with
  | false => exact ⟨_, st, .bool _⟩
  | true => exact (h2 rfl).go (k.trans st.le) (ns_up hn st) st.sub fun v s2 g2 st2 p => ⟨_, st.trans st2, by simpa using p⟩

/-! ### items -/
theorem tail_list {value slice : Expr} {l : Addr} {items : Array Value} {k : Int} {t : Tok} {x : Value} {s : Shared} {Q E : Value → Shared → Prop} (hl : s.heap.IsList l items) (h0 : 0 ≤ k) (h1 : k < 2 ^ 63) (hx : items[k.toNat]? = some x) (h : Q x s)
    (hs : subscripted slice false (.ref l) (.int k t) = operate [.ref l, .int k t] (getItem (.ref l) (.int k t)) := by with_unfolding_all rfl) :
    wpAny (model prog w) A (subscriptTail value slice (.ref l) (.int k t)) Q E s :=
  kba_turn (value' := .Name (Str.ofString "x") ⟨0, 0, 0, 0⟩) (fun _ => rfl) (subscriptTail_builtin hl.typeIs slot_list_getitem.lookup (wpAny_getItem_list hl h0 h1 hx h) hs (fun _ => rfl))

theorem Ev.item {value slice : Expr} {pos : Pos} {ds : List PyData} {k : Int} {d : PyData} (h1 : Ev prog w A env m G value (D (.list ds))) (h2 : Ev prog w A env m G slice (D (.int k))) (h0 : 0 ≤ k) (hk : k < 2 ^ 63) (hd : ds[k.toNat]? = some d)
    (hs : ∀ o i, subscripted slice false o i = operate [o, i] (getItem o i) := by intro _ _; with_unfolding_all rfl) :
    Ev prog w A env m G (.Subscript value slice pos) (D d) := fun G' k' s hn hs' => by
  refine Subscript_ (h1.go k' hn hs' fun v1 s1 g1 st1 p1 => h2.go (k'.trans st1.le) (ns_up hn st1) st1.sub fun v2 s2 g2 st2 p2 => ?_)
  obtain ⟨u, rfl⟩ := p2.int_inv
  obtain ⟨a, vs, n, rfl, ha, ra⟩ := (p1.mono st2.le).list_inv
  obtain ⟨x, hx, rx⟩ := ra.get hd
  exact tail_list ⟨_, st2.sub _ _ ha, rfl, n, rfl⟩ h0 hk (by simpa using hx) ⟨_, st1.trans st2, rx⟩ (hs _ _)
theorem Ev.itemLast {value slice : Expr} {pos : Pos} {ds : List PyData} {d : PyData} (h1 : Ev prog w A env m G value (D (.list ds))) (h2 : Ev prog w A env m G slice (D (.int (-1)))) (hz : 0 < ds.length) (hz2 : ds.length < 1000000) (hd : ds[ds.length - 1]? = some d)
    (hs : ∀ o i, subscripted slice false o i = operate [o, i] (getItem o i) := by intro _ _; with_unfolding_all rfl) :
    Ev prog w A env m G (.Subscript value slice pos) (D d) := fun G' k' s hn hs' => by
  refine Subscript_ (h1.go k' hn hs' fun v1 s1 g1 st1 p1 => h2.go (k'.trans st1.le) (ns_up hn st1) st1.sub fun v2 s2 g2 st2 p2 => ?_)
  obtain ⟨u, rfl⟩ := p2.int_inv
  obtain ⟨a, vs, n, rfl, ha, ra⟩ := (p1.mono st2.le).list_inv
  obtain ⟨x, hx, rx⟩ := ra.get hd
  have hl : s2.heap.IsList a vs.toArray := ⟨_, st2.sub _ _ ha, rfl, n, rfl⟩
  have hlen := ra.length
  refine kba_turn (value' := .Name (Str.ofString "x") ⟨0, 0, 0, 0⟩) (fun _ => rfl) (subscriptTail_builtin hl.typeIs slot_list_getitem.lookup (wpAny_getItem_list_neg hl (by omega) (by simp; omega) (by omega) ?_ ⟨_, st1.trans st2, rx⟩) (hs _ _) (fun _ => rfl))
  have e : ((-1 : Int) + (vs.toArray.size : Int)).toNat = ds.length - 1 := by simp; omega
  rw [e]; simpa using hx
theorem Ev.itemT {value slice : Expr} {pos : Pos} {ds : List PyData} {k : Int} {d : PyData} (h1 : Ev prog w A env m G value (D (.tuple ds))) (h2 : Ev prog w A env m G slice (D (.int k))) (hd : 0 ≤ k ∧ ds[k.toNat]? = some d) (hk : k < 1000 := by decide)
    (hs : ∀ o i, subscripted slice false o i = operate [o, i] (getItem o i) := by intro _ _; with_unfolding_all rfl) :
    Ev prog w A env m G (.Subscript value slice pos) (D d) := fun G' k' s hn hs' => by
  refine Subscript_ (h1.go k' hn hs' fun v1 s1 g1 st1 p1 => h2.go (k'.trans st1.le) (ns_up hn st1) st1.sub fun v2 s2 g2 st2 p2 => ?_)
  obtain ⟨u, rfl⟩ := p2.int_inv
  obtain ⟨a, vs, n, rfl, ha, ra⟩ := (p1.mono st2.le).tuple_inv
  obtain ⟨x, hx, rx⟩ := ra.get hd.2
  have hlt : k.toNat < ds.length := (List.getElem?_eq_some_iff.mp hd.2).1
  refine kba_turn (value' := .Name (Str.ofString "x") ⟨0, 0, 0, 0⟩) (fun _ => rfl) (item_tuple (j := k.toNat) ⟨_, st2.sub _ _ ha, rfl, n, rfl⟩ (by omega) (by omega) ?_ (by simpa using hx) ⟨_, st1.trans st2, rx⟩ (hs _ _) (fun _ => rfl))
  have hlen := ra.length
  unfold seqIndex?
  simp only [List.size_toArray]
  rw [hlen]
  have := hd.1
  simp
  omega
end

def memOf (h : Heap) : Mem := fun a => h.get? a
theorem memOf_sub (h : Heap) : (memOf h).sub h := fun _ _ e => e
theorem le_memOf {g : Mem} {h : Heap} (k : g.sub h) : Mem.le g (memOf h) := k
theorem up_of {h₀ h : Heap} {g : Mem} (a : Mem.le (memOf h₀) g) (b : g.sub h) : ∀ x o, h₀.get? x = some o → h.get? x = some o := fun x o e => b x o (a x o e)

structure Wd (h₀ : Heap) (mg mb : Str → Option Value) : Prop where
  g : h₀.Ns mainGlobals mg
  b : h₀.Ns builtinsNs mb
  nolimit : h₀.NoLimit
  builtins : ∀ x : Str, x ≠ "__name__" → mb x = bootBuiltins x

/-- the def at f, called with values of which Pre holds, gives a value of which P holds -/
structure FnSpec (prog : Program) (w : World) (h₀ : Heap) (f : Addr) (n : Nat) (Pre : Mem → List Value → Prop) (P : Mem → Value → Prop) : Prop where
  isfn : ∃ o fd, h₀.get? f = some o ∧ o.data = .func fd
  run : ∀ A, Ok n A → ∀ (s : Shared) (g : Mem), Mem.le (memOf h₀) g → g.sub s.heap → ∀ vs, Pre g vs →
    codeAny (model prog w) A (.call (.ref f) ⟨vs, []⟩) (fun r s' => ∃ v, r = .ok (.ret v) ∧ Ret s g P v s') s
abbrev Dat (ds : List PyData) : Mem → List Value → Prop := fun g vs => RdAll g vs ds

section
variable {prog : Program} {w : World} {A : Around} {env : Env} {m : Str → Option Value} {G : Mem} {h₀ : Heap} {mg mb : Str → Option Value}

theorem name_glob {x : Str} {pos : Pos} {v : Value} {s : Shared} {Q E : Value → Shared → Prop} (hg : s.heap.Ns mainGlobals mg) (hv : mg x = some v) (h : Q v s) (he : env.globals = mainGlobals)
    (hk : env.scope.kind = .function) (hx : env.kindOf x = some .globalImplicit) (hd : (x == ("__debug__" : Str)) = false) : wpAny (model prog w) A (eval (.Name x pos) env) Q E s :=
  Calls.Name_function_global hk hx (Calls.loadGlobal_global (he ▸ hg) hv h) hd
theorem name_boot {x : Str} {pos : Pos} {v : Value} {s : Shared} {Q E : Value → Shared → Prop} (hg : s.heap.Ns mainGlobals mg) (hm : mg x = none) (hb : s.heap.Ns builtinsNs mb) (hv : mb x = some v) (h : Q v s) (he : env.globals = mainGlobals) (heb : env.builtins = builtinsNs)
    (hk : env.scope.kind = .function) (hx : env.kindOf x = some .globalImplicit) (hd : (x == ("__debug__" : Str)) = false) : wpAny (model prog w) A (eval (.Name x pos) env) Q E s :=
  Calls.Name_function_global hk hx (Calls.loadGlobal_builtin (he ▸ hg) hm (heb ▸ hb) hv h) hd

theorem FnSpec.call {f : Addr} {n : Nat} {Pre : Mem → List Value → Prop} {P : Mem → Value → Prop} (S : FnSpec prog w h₀ f n Pre P) (hA : Ok n A) {s : Shared} {g : Mem} (hw : Mem.le (memOf h₀) g) (hs : g.sub s.heap) {vs : List Value} (hp : Pre g vs) :
    wpAny (model prog w) A (call (.ref f) vs) (Ret s g P) NoE s :=
  wpAny_call (codeAny_mono (S.run A hA s g hw hs vs hp) fun r s' ⟨v, e, q⟩ => by subst e; exact q)

theorem Ev.call {x : Str} {p pos : Pos} {e : Expr} {es : List Expr} {ds : List PyData} {f : Addr} {n : Nat} {P : Mem → Value → Prop} (W : Wd h₀ mg mb) (hA : Ok n A) (hw : Mem.le (memOf h₀) G) (hf : mg x = some (.ref f))
    (S : FnSpec prog w h₀ f n (Dat ds) P) (args : Evs prog w A env m G pos (e :: es) ds)
    (he : env.globals = mainGlobals := by rfl) (hk : env.scope.kind = .function := by rfl) (hx : env.kindOf x = some .globalImplicit := by rfl) (hd : (x == ("__debug__" : Str)) = false := by decide)
    (hst : starEach (e :: es) env = (false, eval e env) :: starEach es env := by rfl) :
    Ev prog w A env m G (.Call (.Name x p) (e :: es) [] pos) P := fun G' k s hn hs => by
  have hup := up_of (hw.trans k) hs
  refine Call_ (name_glob (W.g.keeps hup) hf ?_ he hk hx hd)
  obtain ⟨o, fd, ho, hdat⟩ := S.isfn
  refine callWith_def hdat (wpAny_mono (args G' k s hn hs) (fun vs s' ⟨g', st, r⟩ => ?_) fun _ _ x => x) hst
  exact ⟨up_of ((hw.trans k).trans st.le) st.sub _ _ ho, wpAny_mono (S.call hA ((hw.trans k).trans st.le) st.sub r) (fun v s2 q => q.step st) fun _ _ x => x⟩
theorem Ev.call1P {x : Str} {p pos : Pos} {e : Expr} {f : Addr} {n : Nat} {P1 P : Mem → Value → Prop} (W : Wd h₀ mg mb) (hA : Ok n A) (hw : Mem.le (memOf h₀) G) (hf : mg x = some (.ref f))
    (S : FnSpec prog w h₀ f n (fun g vs => ∃ v, vs = [v] ∧ P1 g v) P) (arg : Ev prog w A env m G e P1)
    (he : env.globals = mainGlobals := by rfl) (hk : env.scope.kind = .function := by rfl) (hx : env.kindOf x = some .globalImplicit := by rfl) (hd : (x == ("__debug__" : Str)) = false := by decide)
    (hst : starEach [e] env = (false, eval e env) :: starEach [] env := by rfl) :
    Ev prog w A env m G (.Call (.Name x p) [e] [] pos) P := fun G' k s hn hs => by
  have hup := up_of (hw.trans k) hs
  refine Call_ (name_glob (W.g.keeps hup) hf ?_ he hk hx hd)
  obtain ⟨o, fd, ho, hdat⟩ := S.isfn
  refine callWith_def hdat (args_cons (arg.go k hn hs fun v s' g' st r => args_nil ?_) hst) hst
  exact ⟨up_of ((hw.trans k).trans st.le) st.sub _ _ ho, wpAny_mono (S.call hA ((hw.trans k).trans st.le) st.sub ⟨v, rfl, r⟩) (fun v s2 q => q.step st) fun _ _ x => x⟩
theorem Ev.call2P {x : Str} {p pos : Pos} {e e2 : Expr} {f : Addr} {n : Nat} {d : PyData} {P1 P : Mem → Value → Prop} (W : Wd h₀ mg mb) (hA : Ok n A) (hw : Mem.le (memOf h₀) G) (hf : mg x = some (.ref f))
    (S : FnSpec prog w h₀ f n (fun g vs => ∃ v u, vs = [v, u] ∧ P1 g v ∧ Rd g u d) P) (m1 : Mono P1) (arg : Ev prog w A env m G e P1) (arg2 : Ev prog w A env m G e2 (D d))
    (he : env.globals = mainGlobals := by rfl) (hk : env.scope.kind = .function := by rfl) (hx : env.kindOf x = some .globalImplicit := by rfl) (hd : (x == ("__debug__" : Str)) = false := by decide)
    (hst : starEach [e, e2] env = (false, eval e env) :: starEach [e2] env := by rfl) (hst2 : starEach [e2] env = (false, eval e2 env) :: starEach [] env := by rfl) :
    Ev prog w A env m G (.Call (.Name x p) [e, e2] [] pos) P := fun G' k s hn hs => by
  have hup := up_of (hw.trans k) hs
  refine Call_ (name_glob (W.g.keeps hup) hf ?_ he hk hx hd)
  obtain ⟨o, fd, ho, hdat⟩ := S.isfn
  refine callWith_def hdat (args_cons (arg.go k hn hs fun v s' g' st r => args_cons (arg2.go (k.trans st.le) (ns_up hn st) st.sub fun v2 s2 g2 st2 r2 => args_nil ?_) hst2) hst) hst
  have st' := st.trans st2
  exact ⟨up_of ((hw.trans k).trans st'.le) st'.sub _ _ ho, wpAny_mono (S.call hA ((hw.trans k).trans st'.le) st'.sub ⟨v, v2, rfl, m1 _ _ _ st2.le r, r2⟩) (fun v s2 q => q.step st') fun _ _ x => x⟩

/-- len of a list -/
theorem Ev.lenP {p pos : Pos} {e : Expr} {k : Nat} {P1 : Mem → Value → Prop} (W : Wd h₀ mg mb) (hw : Mem.le (memOf h₀) G) (hf : mg "len" = Option.none) (arg : Ev prog w A env m G e P1)
    (hl : ∀ (s : Shared) g v, g.sub s.heap → P1 g v → ∃ a items, v = .ref a ∧ s.heap.IsList a items ∧ items.size = k) (hz : k < 2 ^ 63)
    (he : env.globals = mainGlobals := by rfl) (heb : env.builtins = builtinsNs := by rfl) (hk : env.scope.kind = .function := by rfl) (hx : env.kindOf "len" = some .globalImplicit := by rfl)
    (hst : starEach [e] env = (false, eval e env) :: starEach [] env := by rfl) :
    Ev prog w A env m G (.Call (.Name "len" p) [e] [] pos) (D (.int k)) := fun G' q s hn hs => by
  have hup := up_of (hw.trans q) hs
  have hb : mb "len" = some (.builtin "len") := (W.builtins "len" (by decide)).trans (by rfl)
  refine Call_ (name_boot (W.g.keeps hup) hf (W.b.keeps hup) hb ?_ he heb hk hx (by decide))
  refine PyProof.Rows.callWith_builtin1 (args_cons (arg.go q hn hs fun v s' g' st r => args_nil ?_) hst) hst
  obtain ⟨a, items, rfl, hl', rfl⟩ := hl s' g' v st.sub r
  exact Calls.call_len_list hl' (by omega) ⟨g', st.trans (Step.toks st.sub _), .int _ _⟩
theorem Ev.len {p pos : Pos} {e : Expr} {ds : List PyData} (W : Wd h₀ mg mb) (hw : Mem.le (memOf h₀) G) (hf : mg "len" = Option.none) (arg : Ev prog w A env m G e (D (.list ds))) (hz : ds.length < 2 ^ 63)
    (he : env.globals = mainGlobals := by rfl) (heb : env.builtins = builtinsNs := by rfl) (hk : env.scope.kind = .function := by rfl) (hx : env.kindOf "len" = some .globalImplicit := by rfl)
    (hst : starEach [e] env = (false, eval e env) :: starEach [] env := by rfl) :
    Ev prog w A env m G (.Call (.Name "len" p) [e] [] pos) (D (.int ds.length)) :=
  Ev.lenP W hw hf arg (fun s g v hs r => by obtain ⟨a, vs, n, rfl, ha, ra⟩ := r.list_inv; exact ⟨a, vs.toArray, rfl, ⟨_, hs _ _ ha, rfl, n, rfl⟩, by simpa using ra.length⟩) hz he heb hk hx hst
end

/-! ### the state within a frame -/
structure St (s₀ : Shared) (g0 g : Mem) (L : Addr) (m : Str → Option Value) (mu : List (Addr × Obj)) (s : Shared) : Prop where
  same : ∃ h tk, s = { s₀ with heap := h, toks := tk }
  ns : s.heap.Ns L m
  up : ∀ b o, s₀.heap.get? b = some o → s.heap.get? b = some o
  le : Mem.le g0 g
  sub : g.sub s.heap
  new : ∀ a o, g a = some o → g0 a = some o ∨ s₀.heap.get? a = none
  L0 : s₀.heap.get? L = none
  gL : g L = none
  own : ∀ p ∈ mu, s.heap.get? p.1 = some p.2 ∧ p.1 ≠ L ∧ s₀.heap.get? p.1 = none ∧ g p.1 = none
  nd : (mu.map Prod.fst).Nodup

section
variable {s₀ s s' : Shared} {g0 g g' : Mem} {L : Addr} {m : Str → Option Value} {mu pre post : List (Addr × Obj)} {a : Addr} {o o' : Obj}

theorem St.ret (S : St s₀ g0 g L m mu s) {P : Mem → Value → Prop} {v : Value} (p : P g v) : Ret s₀ g0 P v s := ⟨g, ⟨S.same, S.up, S.le, S.sub, S.new⟩, p⟩
theorem none_new (st : Step s g s' g') {a : Addr} {o : Obj} (e : s.heap.get? a = some o) (h : g a = none) : g' a = none := by
  cases q : g' a with
  | none => rfl
  | some p =>
    rcases st.new a p q with r | r
    · rw [h] at r; cases r
    · rw [e] at r; cases r
theorem St.step (S : St s₀ g0 g L m mu s) (st : Step s g s' g') : St s₀ g0 g' L m mu s' := by
  obtain ⟨h1, t1, e1⟩ := S.same
  obtain ⟨h2, t2, e2⟩ := st.same
  obtain ⟨oL, es, ep, hL, _⟩ := id S.ns
  refine ⟨⟨h2, t2, by rw [e2, e1]⟩, S.ns.keeps st.up, fun b o e => st.up b o (S.up b o e), S.le.trans st.le, st.sub, fun a o e => ?_, S.L0, none_new st hL S.gL, fun p hp => ?_, S.nd⟩
  · rcases st.new a o e with r | r
    · exact S.new a o r
    · exact .inr (none_of_up S.up r)
  · obtain ⟨h1, h2, h3, h4⟩ := S.own p hp
    exact ⟨st.up _ _ h1, h2, h3, none_new st h1 h4⟩
/-- a step that may read all, and of which nothing new is kept -/
theorem St.keep (S : St s₀ g0 g L m mu s) {h h' : Mem} (st : Step s h s' h') : St s₀ g0 g L m mu s' := by
  obtain ⟨h1, t1, e1⟩ := S.same
  obtain ⟨h2, t2, e2⟩ := st.same
  refine ⟨⟨h2, t2, by rw [e2, e1]⟩, S.ns.keeps st.up, fun b o e => st.up b o (S.up b o e), S.le, fun a o e => st.up _ _ (S.sub a o e), S.new, S.L0, S.gL, fun p hp => ?_, S.nd⟩
  obtain ⟨h1, h2, h3, h4⟩ := S.own p hp
  exact ⟨st.up _ _ h1, h2, h3, h4⟩
theorem St.toks (S : St s₀ g0 g L m mu s) (k : Nat) : St s₀ g0 g L m mu { s with toks := k } := S.step (Step.toks S.sub k)

def upd (m : Str → Option Value) (x : Str) (v : Value) : Str → Option Value := fun y => if y = x then some v else m y
theorem upd_self (m : Str → Option Value) (x : Str) (v : Value) : upd m x v x = some v := if_pos rfl
theorem upd_ne {m : Str → Option Value} {x y : Str} {v : Value} (h : y ≠ x) : upd m x v y = m y := if_neg h

theorem St.store (S : St s₀ g0 g L m mu s) {h' : Heap} {m' : Str → Option Value} {k : Nat} (hn : h'.Ns L m') (hs : Heap.SameBut L s.heap h') : St s₀ g0 g L m' mu { s with heap := h', toks := k } := by
  obtain ⟨h1, t1, e1⟩ := S.same
  have keep : ∀ b o, b ≠ L → s.heap.get? b = some o → h'.get? b = some o := fun b o q e => (hs.2 b q).trans e
  refine ⟨⟨h', k, by rw [e1]⟩, hn, fun b o e => keep b o (fun q => ?_) (S.up b o e), S.le, fun b o e => keep b o (fun q => ?_) (S.sub b o e), S.new, S.L0, S.gL, fun p hp => ?_, S.nd⟩
  · subst q; rw [S.L0] at e; cases e
  · subst q; rw [S.gL] at e; cases e
  · obtain ⟨h1, h2, h3, h4⟩ := S.own p hp
    exact ⟨keep _ _ h2 h1, h2, h3, h4⟩
/-- one object of the frame's own is changed -/
theorem St.change (S : St s₀ g0 g L m (pre ++ (a, o) :: post) s) {h' : Heap} {k : Nat} (hs : Heap.SameBut a s.heap h') (ho : h'.get? a = some o') : St s₀ g0 g L m (pre ++ (a, o') :: post) { s with heap := h', toks := k } := by
  obtain ⟨h1, t1, e1⟩ := S.same
  obtain ⟨a1, a2, a3, a4⟩ := S.own (a, o) (by simp)
  have keep : ∀ b o, b ≠ a → s.heap.get? b = some o → h'.get? b = some o := fun b o q e => (hs.2 b q).trans e
  have nd := S.nd
  rw [List.map_append, List.map_cons] at nd
  obtain ⟨_, n2, n3⟩ := List.nodup_append.mp nd
  refine ⟨⟨h', k, by rw [e1]⟩, S.ns.sameBut hs (Ne.symm a2), fun b o e => keep b o (fun q => ?_) (S.up b o e), S.le, fun b o e => keep b o (fun q => ?_) (S.sub b o e), S.new, S.L0, S.gL, fun p hp => ?_, ?_⟩
  · subst q; rw [a3] at e; cases e
  · subst q; rw [a4] at e; cases e
  · rcases List.mem_append.mp hp with hp | hp
    · obtain ⟨h1, h2, h3, h4⟩ := S.own p (List.mem_append_left _ hp)
      exact ⟨keep _ _ (n3 p.1 (List.mem_map_of_mem hp) a (.head _)) h1, h2, h3, h4⟩
    · rcases List.mem_cons.mp hp with rfl | hp
      · exact ⟨ho, a2, a3, a4⟩
      · obtain ⟨h1, h2, h3, h4⟩ := S.own p (List.mem_append_right _ (.tail _ hp))
        refine ⟨keep _ _ (fun q => ?_) h1, h2, h3, h4⟩
        exact (show a ∉ post.map Prod.fst from (List.nodup_cons.mp n2).1) (by have r := List.mem_map_of_mem (f := Prod.fst) hp; rwa [q] at r)
  · rw [List.map_append, List.map_cons]; exact nd
/-- a new object of the frame's own -/
theorem St.alloc (S : St s₀ g0 g L m mu s) (ho : s'.heap.get? a = some o) (hn : s.heap.get? a = none) {h h' : Mem} (st : Step s h s' h') : St s₀ g0 g L m ((a, o) :: mu) s' := by
  have S' := S.keep st
  obtain ⟨oL, es, ep, hL, _⟩ := id S.ns
  refine ⟨S'.same, S'.ns, S'.up, S'.le, S'.sub, S'.new, S'.L0, S'.gL, fun p hp => ?_, ?_⟩
  · rcases List.mem_cons.mp hp with rfl | hp
    · refine ⟨ho, fun q => ?_, none_of_up S.up hn, ?_⟩
      · subst q; rw [hL] at hn; cases hn
      · cases q : g a with
        | none => rfl
        | some p => rw [S.sub _ _ q] at hn; cases hn
    · exact S'.own p hp
  · rw [List.map_cons]
    refine List.nodup_cons.mpr ⟨fun q => ?_, S.nd⟩
    obtain ⟨p, hp, e⟩ := List.mem_map.mp q
    have e' : p.1 = a := e
    rw [← e', (S.own p hp).1] at hn; cases hn
/-- an object of the frame's own stands from now on for good -/
theorem St.freeze (S : St s₀ g0 g L m (pre ++ (a, o) :: post) s) : St s₀ g0 (g.add a o) L m (pre ++ post) s := by
  obtain ⟨a1, a2, a3, a4⟩ := S.own (a, o) (by simp)
  have nd := S.nd
  rw [List.map_append, List.map_cons] at nd
  obtain ⟨n1, n2, n3⟩ := List.nodup_append.mp nd
  refine ⟨S.same, S.ns, S.up, S.le.trans (Mem.le_add a4), fun b p e => ?_, fun b p e => ?_, S.L0, ?_, fun p hp => ?_, ?_⟩
  · unfold Mem.add at e
    by_cases q : b = a
    · rw [if_pos q] at e; cases e; subst q; exact a1
    · rw [if_neg q] at e; exact S.sub b p e
  · unfold Mem.add at e
    by_cases q : b = a
    · subst q; exact .inr a3
    · rw [if_neg q] at e; exact S.new b p e
  · unfold Mem.add; rw [if_neg (Ne.symm a2)]; exact S.gL
  · have ne : p.1 ≠ a := by
      rcases List.mem_append.mp hp with hp | hp
      · exact n3 p.1 (List.mem_map_of_mem hp) a (.head _)
      · exact fun q => (show a ∉ post.map Prod.fst from (List.nodup_cons.mp n2).1) (by have r := List.mem_map_of_mem (f := Prod.fst) hp; rwa [q] at r)
    have hp' : p ∈ pre ++ (a, o) :: post := by
      rcases List.mem_append.mp hp with hp | hp
      · exact List.mem_append_left _ hp
      · exact List.mem_append_right _ (.tail _ hp)
    obtain ⟨h1, h2, h3, h4⟩ := S.own p hp'
    exact ⟨h1, h2, h3, by unfold Mem.add; rw [if_neg ne]; exact h4⟩
  · rw [List.map_append]
    exact List.nodup_append.mpr ⟨n1, (List.nodup_cons.mp n2).2, fun x hx y hy => n3 x hx y (.tail _ hy)⟩
/-- the frame's own object a is forgotten -/
theorem St.drop (S : St s₀ g0 g L m (pre ++ (a, o) :: post) s) : St s₀ g0 g L m (pre ++ post) s := by
  have nd := S.nd
  rw [List.map_append, List.map_cons] at nd
  obtain ⟨n1, n2, n3⟩ := List.nodup_append.mp nd
  refine ⟨S.same, S.ns, S.up, S.le, S.sub, S.new, S.L0, S.gL, fun p hp => S.own p ?_, ?_⟩
  · rcases List.mem_append.mp hp with hp | hp
    · exact List.mem_append_left _ hp
    · exact List.mem_append_right _ (.tail _ hp)
  · rw [List.map_append]
    exact List.nodup_append.mpr ⟨n1, (List.nodup_cons.mp n2).2, fun x hx y hy => n3 x hx y (.tail _ hy)⟩
/-- as the heap stands, an own object is read -/
theorem St.reads (S : St s₀ g0 g L m mu s) (h : (a, o) ∈ mu) : memOf s.heap a = some o := (S.own _ h).1
theorem St.all (S : St s₀ g0 g L m mu s) : Mem.le g (memOf s.heap) := S.sub
end

theorem mem_size {g : Mem} {h : Heap} (hs : g.sub h) : g h.objs.size = none := by
  cases q : g h.objs.size with
  | none => rfl
  | some p => have := hs _ _ q; rw [size_none] at this; cases this
/-! ### entering a def -/
def flowVal : Flow → Value
  | .ret v => v
  | _ => .none
def FnAt (h₀ : Heap) (mg : Str → Option Value) (x : Str) (params : Arguments) (body : List Stmt) (scope : Scope) (f : Addr) : Prop :=
  ∃ oc od osl doc pm an cd ct, mg x = some (.ref f) ∧ h₀.get? f = some (⟨oc, od, .func (fnOf x x params body scope .none .none doc pm an cd ct), osl⟩ : Obj) ∧ h₀.CodeRec cd x

theorem enter {prog : Program} {w : World} {h₀ : Heap} {mg mb : Str → Option Value} {x : Str} {params : Arguments} {body : List Stmt} {scope : Scope} {f : Addr} {n : Nat} {Pre : Mem → List Value → Prop} {P : Mem → Value → Prop}
    (W : Wd h₀ mg mb) (F : FnAt h₀ mg x params body scope f)
    (hcell : ∀ y ∈ scope.names, y.2 ≠ .cell)
    (h : ∀ (A : Around), Ok n A → ∀ (s : Shared) (g : Mem), Mem.le (memOf h₀) g → g.sub s.heap → ∀ vs, Pre g vs → ∀ cd : Value, ∃ binds : List (Str × Value),
      (∀ doc pm an ct, bindArgs (fnOf x x params body scope .none .none doc pm an cd ct) ⟨vs, []⟩ = pure binds) ∧ (∀ y ∈ binds, scope.names.lookup y.1 = some .local) ∧
      ∀ L s', St s g g L (fun y => binds.reverse.lookup y) [] s' →
        wpAny (model prog w) A (execs body (envOf x scope L f cd)) (fun fl s'' => Ret s g P (flowVal fl) s'') NoE s')
    (hco : scope.isCoroutine = false := by rfl) (hgen : scope.isGenerator = false := by rfl) (hk : scope.kind = .function := by rfl) :
    FnSpec prog w h₀ f (n + 1) Pre P := by
  obtain ⟨oc, od, osl, doc, pm, an, cd, ct, hmg, ho, hcd⟩ := F
  refine ⟨⟨_, _, ho, rfl⟩, fun A hA s g hw hs vs hp => ?_⟩
  obtain ⟨binds, hb, hl, hbody⟩ := h (A.deeper (envOf x scope s.heap.objs.size f cd)) hA.deeper s g hw hs vs hp cd
  have hup := up_of hw hs
  refine codeAny_call_def (fd := fnOf x x params body scope .none .none doc pm an cd ct) (body := body) (binds := binds) hA.room (hup _ _ ho) rfl (W.nolimit.keeps hup) (hcd.keeps hup) rfl (BindsTo.of_eq (hb ..)) hcell hl (fun h₁ hns hk₁ => ?_) hco hgen hk
  have S : St s g g s.heap.objs.size (fun y => binds.reverse.lookup y) [] { s with heap := h₁, toks := s.toks + binds.length } :=
    ⟨⟨_, _, rfl⟩, hns, hk₁, Mem.le.refl _, fun a o e => hk₁ _ _ (hs a o e), fun _ _ e => .inl e, size_none _, mem_size hs, fun _ hp => (nomatch hp), List.nodup_nil⟩
  refine wpAny_mono (hbody s.heap.objs.size _ S) (fun fl s' q => ⟨_, rfl, ?_⟩) fun _ _ x => x.elim
  cases fl <;> exact q

/-- new list: the list itself is not yet of the standing part -/
def EvNew (prog : Program) (w : World) (A : Around) (env : Env) (m : Str → Option Value) (G : Mem) (e : Expr) (ds : List PyData) : Prop :=
  ∀ G', Mem.le G G' → ∀ s : Shared, s.heap.Ns env.locals m → G'.sub s.heap →
    wpAny (model prog w) A (eval e env) (fun v s' => ∃ a vs n g', Step s G' s' g' ∧ v = .ref a ∧ s'.heap.get? a = some (lstO vs n) ∧ s.heap.get? a = none ∧ g' a = none ∧ RdAll g' vs ds) NoE s

section
variable {prog : Program} {w : World} {A : Around} {env : Env} {m : Str → Option Value} {G : Mem}
theorem EvNew.list {pos : Pos} {es : List Expr} {ds : List PyData} (h : Evs prog w A env m G pos es ds) (hz : ds.length ≤ 1000 := by first | decide | simp) : EvNew prog w A env m G (.List es pos) ds := fun G' k s hn hs =>
  wpAny_List (wpAny_mono (h G' k s hn hs) (fun vs s' ⟨g', st, r⟩ => ⟨by rw [r.length, sizeLine_eq]; omega, s'.heap.objs.size, vs, 0, g',
    st.trans ⟨⟨_, s'.toks, rfl⟩, fun _ _ e => Heap.get?_push_of_some _ e, Mem.le.refl _, fun a o e => Heap.get?_push_of_some _ (st.sub a o e), fun _ _ e => .inl e⟩, rfl, Heap.get?_push_size _ rfl,
    none_of_up st.up (size_none _), mem_size st.sub, r⟩) fun _ _ x => x)
theorem EvNew.cat {l r : Expr} {pos : Pos} {xs ys : List PyData} (h1 : Ev prog w A env m G l (D (.list xs))) (h2 : Ev prog w A env m G r (D (.list ys))) (hz : xs.length + ys.length ≤ 1000000) :
    EvNew prog w A env m G (.BinOp l .Add r pos) (xs ++ ys) := fun G' k s hn hs => by
  refine wpAny_BinOp (h1.go k hn hs fun v1 s1 g1 st1 p1 => h2.go (k.trans st1.le) (ns_up hn st1) st1.sub fun v2 s2 g2 st2 p2 => ?_)
  obtain ⟨a, vs, n, rfl, ha, ra⟩ := (p1.mono st2.le).list_inv; obtain ⟨b, us, k, rfl, hb, rb⟩ := p2.list_inv
  have st := st1.trans st2
  refine P.add_list (st2.sub _ _ ha) (st2.sub _ _ hb) ⟨s2.heap.objs.size, vs ++ us, 0, g2, st.trans ⟨⟨_, s2.toks, rfl⟩, fun _ _ e => Heap.get?_push_of_some _ e, Mem.le.refl _, fun a o e => Heap.get?_push_of_some _ (st.sub a o e), fun _ _ e => .inl e⟩, rfl, ?_, none_of_up st.up (size_none _), mem_size st.sub, ra.append rb⟩ (by simp only [List.size_toArray, ra.length, rb.length, sizeLine_eq]; omega)
  have := Heap.get?_push_size s2.heap (o := lstO (vs ++ us) 0) rfl
  simpa [lstO] using this

theorem mul_raw {l : Addr} {vs : List Value} {k : Nat} {x : Int} {u : Tok} {s : Shared} {Q E : Value → Shared → Prop} (hl : s.heap.get? l = some (lstO vs k)) (h0 : 0 ≤ x) (h1 : x < 2 ^ 63) (hz : vs.length * x.toNat ≤ 2 ^ 24)
    (h : Q (.ref s.heap.objs.size) { s with heap := s.heap.push { cls := .type "list", data := .seq (List.foldl (fun x1 x2 => x1 ++ x2) #[] (List.replicate (if vs.toArray.isEmpty = true then 0 else x.toNat) vs.toArray)) } }) :
    wpAny (model prog w) A (binaryOp .Mult (.ref l) (.int x u)) Q E s :=
  have hz' : vs.toArray.size * x.toNat ≤ 2 ^ 24 := by simpa using hz
  wpAny_binaryOp_repeat_ref (T := "list") (U := "int") (by decide) ⟨_, hl, rfl⟩ (fun s' => typeIs_int s' x u) noFill_list_mul F.fills_int_mul F.slot_int_rmul repeat_list F.slot_int_index.lookup
    (call_meets F.slot_int_rmul (typeIs_int s x u) F.entry_int_rmul (F.args_int_rmul_2 _ _) (int___rmul___int_list x u l vs.toArray k)
      ⟨hl, rfl, ⟨_, hl, rfl⟩, call_meets F.slot_list_mul ⟨_, hl, rfl⟩ F.entry_list_mul (F.args_list_mul_2 _ _)
        (AutoListH.list___mul___list_int_3 l vs.toArray k x u (by simp [Builtin.List.listFitsIndex]; omega) (by omega) (by simp [Builtin.List.listTooLong, sizeLine]; omega)) ⟨hl, h⟩⟩)

theorem rep_one (v : Value) : ∀ n : Nat, List.foldl (fun (x1 x2 : Array Value) => x1 ++ x2) #[] (List.replicate n #[v]) = (List.replicate n v).toArray := by
  intro n
  have gen : ∀ (n : Nat) (acc : List Value), List.foldl (fun (x1 x2 : Array Value) => x1 ++ x2) acc.toArray (List.replicate n #[v]) = (acc ++ List.replicate n v).toArray := by
    intro n
    induction n with
    | zero => intro acc; simp
    | succ n ih =>
      intro acc
      rw [List.replicate_succ, List.foldl_cons]
      have e : acc.toArray ++ #[v] = (acc ++ [v]).toArray := by simp
      rw [e, ih]
      simp [List.replicate_succ]
  simpa using gen n []

theorem EvNew.mul {l r : Expr} {pos : Pos} {d : PyData} {n : Int} (h1 : Ev prog w A env m G l (D (.list [d]))) (h2 : Ev prog w A env m G r (D (.int n))) (h0 : 0 ≤ n ∧ n ≤ 100000) :
    EvNew prog w A env m G (.BinOp l .Mult r pos) (List.replicate n.toNat d) := fun G' k s hn hs => by
  refine wpAny_BinOp (h1.go k hn hs fun v1 s1 g1 st1 p1 => h2.go (k.trans st1.le) (ns_up hn st1) st1.sub fun v2 s2 g2 st2 p2 => ?_)
  obtain ⟨a, vs, n', rfl, ha, ra⟩ := (p1.mono st2.le).list_inv; obtain ⟨u, rfl⟩ := p2.int_inv
  have st := st1.trans st2
  cases ra with
  | cons rd rn =>
    cases rn
    rename_i v
    refine mul_raw (st2.sub _ _ ha) h0.1 (by omega) (by simp; omega) ?_
    have e1 : ([v] : List Value).toArray.isEmpty = false := rfl
    have e2 : ([v] : List Value).toArray = #[v] := rfl
    rw [e1, e2]
    simp only [Bool.false_eq_true, if_false]
    rw [rep_one]
    exact ⟨s2.heap.objs.size, List.replicate n.toNat v, 0, g2, st.trans ⟨⟨_, s2.toks, rfl⟩, fun _ _ e => Heap.get?_push_of_some _ e, Mem.le.refl _, fun a o e => Heap.get?_push_of_some _ (st.sub a o e), fun _ _ e => .inl e⟩, rfl, Heap.get?_push_size _ rfl, none_of_up st.up (size_none _), mem_size st.sub, RdAll.replicate rd _⟩
end

/-! ### statements -/
section
variable {prog : Program} {w : World} {A : Around} {env : Env} {m : Str → Option Value} {s₀ s : Shared} {g0 g : Mem} {mu : List (Addr × Obj)} {rest : List Stmt} {Q : Flow → Shared → Prop}

/-- what is known without any heap -/
def Atom (d : PyData) : Prop := match d with
  | .list _ | .tuple _ | .dict _ => False
  | _ => True
theorem Rd.atom {g g' : Mem} {v : Value} {d : PyData} (h : Rd g v d) (a : Atom d) : Rd g' v d := by
  cases h <;> first | exact .none | exact .bool _ | exact .int _ _ | exact .str _ _ | exact a.elim

theorem St.assign {x : Str} {p' pos : Pos} {e : Expr} {P : Mem → Value → Prop} (S : St s₀ g0 g env.locals m mu s) (h : Ev prog w A env m g e P)
    (next : ∀ v g' s', St s₀ g0 g' env.locals (upd m x v) mu s' → Mem.le g g' → P g' v → wpAny (model prog w) A (execs rest env) Q NoE s')
    (hl : env.kindOf x = some .local := by rfl) (hp : (env.scope.kind == .class || (env.scope.kind == .module && env.locals != env.globals)) = false := by rfl)
    (hs : swapsWith e (some (.Name x p')) pos.line env = pure false := by rfl) :
    wpAny (model prog w) A (execs (.Assign [.Name x p'] e pos :: rest) env) Q NoE s :=
  wpAny_execs_cons (wpAny_Assign_Name (h.go (Mem.le.refl _) S.ns S.sub fun v s' g' st p => by
    have S' := S.step st
    exact wpAny_storeName_local hl S'.ns (fun h' hn hsb => next v g' _ (S'.store hn hsb) st.le p) hp) hs)

/-- a value that is an atom, reckoned from all that stands, the frame's own objects too -/
theorem St.assignA {x : Str} {p' pos : Pos} {e : Expr} {d : PyData} (S : St s₀ g0 g env.locals m mu s) (h : Ev prog w A env m (memOf s.heap) e (D d)) (ha : Atom d)
    (next : ∀ v s', St s₀ g0 g env.locals (upd m x v) mu s' → Rd g v d → wpAny (model prog w) A (execs rest env) Q NoE s')
    (hl : env.kindOf x = some .local := by rfl) (hp : (env.scope.kind == .class || (env.scope.kind == .module && env.locals != env.globals)) = false := by rfl)
    (hs : swapsWith e (some (.Name x p')) pos.line env = pure false := by rfl) :
    wpAny (model prog w) A (execs (.Assign [.Name x p'] e pos :: rest) env) Q NoE s :=
  wpAny_execs_cons (wpAny_Assign_Name (h.go (Mem.le.refl _) S.ns (memOf_sub _) fun v s' g' st p => by
    have S' := S.keep st
    exact wpAny_storeName_local hl S'.ns (fun h' hn hsb => next v _ (S'.store hn hsb) (p.atom ha)) hp) hs)

mutual
theorem Rd.carry {g g' : Mem} (k1 : ∀ a vs n, g a = some (lstO vs n) → g' a = some (lstO vs n)) (k2 : ∀ a vs n, g a = some (tupO vs n) → g' a = some (tupO vs n)) : ∀ {v : Value} {d : PyData}, Rd g v d → Rd g' v d
  | _, _, .none => .none
  | _, _, .bool b => .bool b
  | _, _, .int i t => .int i t
  | _, _, .str x t => .str x t
  | _, _, .list h r => .list (k1 _ _ _ h) (RdAll.carry k1 k2 r)
  | _, _, .tuple h r => .tuple (k2 _ _ _ h) (RdAll.carry k1 k2 r)
theorem RdAll.carry {g g' : Mem} (k1 : ∀ a vs n, g a = some (lstO vs n) → g' a = some (lstO vs n)) (k2 : ∀ a vs n, g a = some (tupO vs n) → g' a = some (tupO vs n)) : ∀ {vs : List Value} {ds : List PyData}, RdAll g vs ds → RdAll g' vs ds
  | _, _, .nil => .nil
  | _, _, .cons h r => .cons (Rd.carry k1 k2 h) (RdAll.carry k1 k2 r)
end
/-- a value that is known as the heap stands now, the frame's own objects read with it -/
theorem St.assignH {x : Str} {p' pos : Pos} {e : Expr} {d : PyData} (S : St s₀ g0 g env.locals m mu s) (h : Ev prog w A env m (memOf s.heap) e (D d))
    (next : ∀ v s', St s₀ g0 g env.locals (upd m x v) mu s' → Rd (memOf s'.heap) v d → wpAny (model prog w) A (execs rest env) Q NoE s')
    (hl : env.kindOf x = some .local := by rfl) (hp : (env.scope.kind == .class || (env.scope.kind == .module && env.locals != env.globals)) = false := by rfl)
    (hs : swapsWith e (some (.Name x p')) pos.line env = pure false := by rfl) :
    wpAny (model prog w) A (execs (.Assign [.Name x p'] e pos :: rest) env) Q NoE s :=
  wpAny_execs_cons (wpAny_Assign_Name (h.go (Mem.le.refl _) S.ns (memOf_sub _) fun v s' g' st p => by
    have S' := S.keep st
    refine wpAny_storeName_local hl S'.ns (fun h' hn hsb => next v _ (S'.store hn hsb) ?_) hp
    obtain ⟨oL, es, ep, hL, hd, _⟩ := id S'.ns
    have ne : ∀ a o, g' a = some o → (∀ es ep, o.data ≠ .dict es ep) → memOf h' a = some o := fun a o e q => (hsb.2 a (fun e2 => by
      subst e2
      have := st.sub _ _ e
      rw [hL] at this; cases this
      exact q _ _ hd)).trans (st.sub _ _ e)
    exact p.carry (fun a vs n e => ne _ _ e (fun _ _ q => by cases q)) (fun a vs n e => ne _ _ e (fun _ _ q => by cases q))) hs)

theorem St.assignNew {x : Str} {p' pos : Pos} {e : Expr} {ds : List PyData} (S : St s₀ g0 g env.locals m mu s) (h : EvNew prog w A env m g e ds)
    (next : ∀ a vs n g' s', St s₀ g0 g' env.locals (upd m x (.ref a)) ((a, lstO vs n) :: mu) s' → Mem.le g g' → RdAll g' vs ds → wpAny (model prog w) A (execs rest env) Q NoE s')
    (hl : env.kindOf x = some .local := by rfl) (hp : (env.scope.kind == .class || (env.scope.kind == .module && env.locals != env.globals)) = false := by rfl)
    (hs : swapsWith e (some (.Name x p')) pos.line env = pure false := by rfl) :
    wpAny (model prog w) A (execs (.Assign [.Name x p'] e pos :: rest) env) Q NoE s :=
  wpAny_execs_cons (wpAny_Assign_Name (wpAny_mono (h g (Mem.le.refl _) s S.ns S.sub) (fun v s' ⟨a, vs, n, g', st, e, ho, hn, hg, r⟩ => by
    subst e
    have S' := S.step st
    have S2 : St s₀ g0 g' env.locals m ((a, lstO vs n) :: mu) s' := by
      have S3 := S.alloc ho hn st
      refine ⟨S'.same, S'.ns, S'.up, S'.le, S'.sub, S'.new, S'.L0, S'.gL, fun p hp => ?_, S3.nd⟩
      rcases List.mem_cons.mp hp with rfl | hp
      · obtain ⟨h1, h2, h3, h4⟩ := S3.own (a, lstO vs n) (.head _)
        exact ⟨h1, h2, h3, hg⟩
      · exact S'.own p hp
    exact wpAny_storeName_local hl S2.ns (fun h' hn hsb => next a vs n g' _ (S2.store hn hsb) st.le r) hp) fun _ _ x => x) hs)

theorem execs_if {t : Expr} {body orelse : List Stmt} {pos : Pos} {b : Bool} (S : St s₀ g0 g env.locals m mu s) (h : Tr prog w A env m (memOf s.heap) t b)
    (h1 : b = true → ∀ s', St s₀ g0 g env.locals m mu s' → wpAny (model prog w) A (execs body env) (fun f s2 => match f with | .next => wpAny (model prog w) A (execs rest env) Q NoE s2 | f => Q f s2) NoE s')
    (h2 : b = false → ∀ s', St s₀ g0 g env.locals m mu s' → wpAny (model prog w) A (execs orelse env) (fun f s2 => match f with | .next => wpAny (model prog w) A (execs rest env) Q NoE s2 | f => Q f s2) NoE s') :
    wpAny (model prog w) A (execs (.If t body orelse pos :: rest) env) Q NoE s :=
  wpAny_execs_cons (wpAny_If (h.go (Mem.le.refl _) S.ns (memOf_sub _) fun s' g' st => by
    cases b with
    | true => exact h1 rfl s' (S.keep st)
    | false => exact h2 rfl s' (S.keep st)))

theorem execs_if0 {t : Expr} {body : List Stmt} {pos : Pos} {b : Bool} (S : St s₀ g0 g env.locals m mu s) (h : Tr prog w A env m (memOf s.heap) t b)
    (h1 : b = true → ∀ s', St s₀ g0 g env.locals m mu s' → wpAny (model prog w) A (execs body env) (fun f s2 => match f with | .next => wpAny (model prog w) A (execs rest env) Q NoE s2 | f => Q f s2) NoE s')
    (h2 : b = false → ∀ s', St s₀ g0 g env.locals m mu s' → wpAny (model prog w) A (execs rest env) Q NoE s') :
    wpAny (model prog w) A (execs (.If t body [] pos :: rest) env) Q NoE s := execs_if S h h1 fun e s' S' => wpAny_execs_nil (h2 e s' S')

/-- an if whose ways meet -/
theorem execs_ifX {t : Expr} {body : List Stmt} {pos : Pos} {b : Bool} (X : Shared → Prop) (S : St s₀ g0 g env.locals m mu s) (h : Tr prog w A env m (memOf s.heap) t b)
    (h1 : b = true → ∀ s', St s₀ g0 g env.locals m mu s' → wpAny (model prog w) A (execs body env) (fun f s2 => f = .next ∧ X s2) NoE s')
    (h2 : b = false → ∀ s', St s₀ g0 g env.locals m mu s' → X s')
    (k : ∀ s', X s' → wpAny (model prog w) A (execs rest env) Q NoE s') :
    wpAny (model prog w) A (execs (.If t body [] pos :: rest) env) Q NoE s := execs_if0 S h (fun e s' S' => wpAny_mono (h1 e s' S') (fun f s2 ⟨e, x⟩ => by subst e; exact k s2 x) fun _ _ x => x) fun e s' S' => k s' (h2 e s' S')

theorem St.ret' {e : Expr} {pos : Pos} {P : Mem → Value → Prop} (S : St s₀ g0 g env.locals m mu s) (h : Ev prog w A env m g e P)
    (q : ∀ v s', Ret s₀ g0 P v s' → Q (.ret v) s') : wpAny (model prog w) A (execs (.Return (some e) pos :: rest) env) Q NoE s :=
  wpAny_execs_cons (wpAny_Return_some (h.go (Mem.le.refl _) S.ns S.sub fun v s' g' st p => q v s' ((S.step st).ret p)))
theorem St.retA {e : Expr} {pos : Pos} {d : PyData} (S : St s₀ g0 g env.locals m mu s) (h : Ev prog w A env m (memOf s.heap) e (D d)) (ha : Atom d)
    (q : ∀ v s', Ret s₀ g0 (D d) v s' → Q (.ret v) s') : wpAny (model prog w) A (execs (.Return (some e) pos :: rest) env) Q NoE s :=
  wpAny_execs_cons (wpAny_Return_some (h.go (Mem.le.refl _) S.ns (memOf_sub _) fun v s' g' st p => q v s' ((S.keep st).ret (p.atom ha))))

/-! append -/
theorem append_raw {l : Addr} {vs : List Value} {n : Nat} {x : Value} {R E : Value → Shared → Prop} (hl : s.heap.get? l = some (lstO vs n)) (hz : vs.length ≤ 1000000)
    (h : R .none { s with heap := s.heap.update l (Obj.mapSeq (·.push x)) }) : wpAny (model prog w) A (call (.builtin "list.append") [.ref l, x]) R E s := by
  refine wpAny_call_entry slot_list_append ⟨_, hl, rfl⟩ entry_list_append ?_ (args_list_append _ _)
  show wpAny _ _ (updateSeq l (·.push x) >>= fun _ => PySem.ret .none) _ _ s
  exact wpAny_bind (wpAny_updateSeq hl rfl (wpAny_pure ⟨.none, rfl, h⟩) (by simp only [List.size_toArray, sizeLine_eq]; omega))

theorem St.append {x : Str} {px apos pos pos' : Pos} {e : Expr} {P : Mem → Value → Prop} {a : Addr} {vs : List Value} {n : Nat} (pre post : List (Addr × Obj)) (S : St s₀ g0 g env.locals m (pre ++ (a, lstO vs n) :: post) s)
    (hm : m x = some (.ref a)) (hz : vs.length ≤ 1000000)
    (h : Ev prog w A env m g e P)
    (next : ∀ v n' g' s', St s₀ g0 g' env.locals m (pre ++ (a, lstO (vs ++ [v]) n') :: post) s' → Mem.le g g' → P g' v → wpAny (model prog w) A (execs rest env) Q NoE s')
    (hk : env.scope.kind = .function := by rfl) (hl : env.kindOf x = some .local := by rfl) (hd : (x == ("__debug__" : Str)) = false := by decide)
    (hbase : attributeBase (.Name x px) "append" env (eval (.Name x px) env) = eval (.Name x px) env := by rfl)
    (hfew : ((backTo pos (starEach [e] env)).all (fun x => !x.1) && (backToKw pos (keywordEach [] env)).all (fun x => x.1.isSome) && decide (([e] : List Expr).length + ([] : List Keyword).length + (if ([] : List Keyword).isEmpty then 0 else 1) < 30)) = true := by rfl)
    (hline : (apos.endLine == pos.line) = true := by rfl) (htrees : backTo pos (starEach [e] env) = [(false, eval e env)] := by rfl)
    (hi : interactive env = false := by rfl) (hs : swapsWith (.Call (.Attribute (.Name x px) "append" apos) [e] [] pos) none pos'.line env = pure false := by rfl) :
    wpAny (model prog w) A (execs (.Expr (.Call (.Attribute (.Name x px) "append" apos) [e] [] pos) pos' :: rest) env) Q NoE s := by
  refine wpAny_execs_cons (wpAny_Expr (wpAny_Call_append hbase hfew hline htrees ?_) hi hs)
  refine wpAny_Name (wpAny_loadName_local hk hl S.ns hm ?_) hd
  refine ⟨a, vs.toArray, rfl, ⟨_, n, (S.own (a, lstO vs n) (by simp)).1, rfl, rfl, rfl⟩, ?_⟩
  refine h.go (Mem.le.refl _) S.ns S.sub fun v s' g' st p => ?_
  have S' := S.step st
  have ho : s'.heap.get? a = some (lstO vs n) := (S'.own (a, lstO vs n) (by simp)).1
  refine append_raw ho hz ?_
  have hu := PySem.IsL.update (n := n) ho (·.push v)
  have ep : vs.toArray.push v = (vs ++ [v]).toArray := by simp
  rw [ep] at hu
  refine next v _ g' _ (S'.change (Heap.SameBut.update ..) hu (k := s'.toks)) st.le p

theorem appendOwn {x : Str} {px apos pos pos' : Pos} {e : Expr} {d : PyData} {a : Addr} {vs : List Value} {n : Nat} (pre post : List (Addr × Obj)) (S : St s₀ g0 g env.locals m (pre ++ (a, lstO vs n) :: post) s)
    (hm : m x = some (.ref a)) (hz : vs.length ≤ 1000000) (hat : Atom d)
    (h : Ev prog w A env m (memOf s.heap) e (D d))
    (next : ∀ v n' s', St s₀ g0 g env.locals m (pre ++ (a, lstO (vs ++ [v]) n') :: post) s' → Rd g v d → wpAny (model prog w) A (execs rest env) Q NoE s')
    (hk : env.scope.kind = .function := by rfl) (hl : env.kindOf x = some .local := by rfl) (hd : (x == ("__debug__" : Str)) = false := by decide)
    (hbase : attributeBase (.Name x px) "append" env (eval (.Name x px) env) = eval (.Name x px) env := by rfl)
    (hfew : ((backTo pos (starEach [e] env)).all (fun x => !x.1) && (backToKw pos (keywordEach [] env)).all (fun x => x.1.isSome) && decide (([e] : List Expr).length + ([] : List Keyword).length + (if ([] : List Keyword).isEmpty then 0 else 1) < 30)) = true := by rfl)
    (hline : (apos.endLine == pos.line) = true := by rfl) (htrees : backTo pos (starEach [e] env) = [(false, eval e env)] := by rfl)
    (hi : interactive env = false := by rfl) (hs : swapsWith (.Call (.Attribute (.Name x px) "append" apos) [e] [] pos) none pos'.line env = pure false := by rfl) :
    wpAny (model prog w) A (execs (.Expr (.Call (.Attribute (.Name x px) "append" apos) [e] [] pos) pos' :: rest) env) Q NoE s := by
  refine wpAny_execs_cons (wpAny_Expr (wpAny_Call_append hbase hfew hline htrees ?_) hi hs)
  refine wpAny_Name (wpAny_loadName_local hk hl S.ns hm ?_) hd
  refine ⟨a, vs.toArray, rfl, ⟨_, n, (S.own (a, lstO vs n) (by simp)).1, rfl, rfl, rfl⟩, ?_⟩
  refine h.go (Mem.le.refl _) S.ns (memOf_sub _) fun v s' g' st p => ?_
  have S' := S.keep st
  have ho : s'.heap.get? a = some (lstO vs n) := (S'.own (a, lstO vs n) (by simp)).1
  refine append_raw ho hz ?_
  have hu := PySem.IsL.update (n := n) ho (·.push v)
  have ep : vs.toArray.push v = (vs ++ [v]).toArray := by simp
  rw [ep] at hu
  refine next v _ _ (S'.change (Heap.SameBut.update ..) hu (k := s'.toks)) (p.atom hat)

/-! an item of an own list is set -/
theorem St.setAt {o i ev : Expr} {p1 pos : Pos} {k : Int} {d : PyData} {a : Addr} {vs : List Value} {n : Nat} (pre post : List (Addr × Obj)) (S : St s₀ g0 g env.locals m (pre ++ (a, lstO vs n) :: post) s)
    (he : Ev prog w A env m g ev (D d)) (ho : Ev prog w A env m g o (fun _ v => v = .ref a)) (hi : Ev prog w A env m g i (D (.int k))) (hk : 0 ≤ k ∧ k < vs.length) (hz : vs.length ≤ 1000000)
    (next : ∀ v n' g' s', St s₀ g0 g' env.locals m (pre ++ (a, lstO (vs.set k.toNat v) n') :: post) s' → Mem.le g g' → Rd g' v d → wpAny (model prog w) A (execs rest env) Q NoE s')
    (hs : swapsWith ev (some (.Subscript o i p1)) pos.line env = pure false := by rfl) :
    wpAny (model prog w) A (execs (.Assign [.Subscript o i p1] ev pos :: rest) env) Q NoE s := by
  refine wpAny_execs_cons (wpAny_Assign_Subscript ?_ hs)
  refine he.go (Mem.le.refl _) S.ns S.sub fun v s1 g1 st1 r1 => ?_
  refine ho.go st1.le (ns_up S.ns st1) st1.sub fun vo s2 g2 st2 eo => ?_
  subst eo
  have st12 := st1.trans st2
  refine hi.go st12.le (ns_up S.ns st12) st2.sub fun vi s3 g3 st3 r3 => ?_
  obtain ⟨u, rfl⟩ := r3.int_inv
  have st := st12.trans st3
  have S' := S.step st
  have ha : s3.heap.get? a = some (lstO vs n) := (S'.own (a, lstO vs n) (by simp)).1
  refine ki_setAt (n := n) (items := vs.toArray) ha hk.1 (by omega) (by simpa using hk.2) ?_
  have hu := PySem.IsL.update (n := n) ha (·.setIfInBounds k.toNat v)
  have ep : vs.toArray.setIfInBounds k.toNat v = (vs.set k.toNat v).toArray := by simp
  rw [ep] at hu
  exact next v _ g3 _ (S'.change (Heap.SameBut.update ..) hu (k := s3.toks)) st.le (r1.mono (st2.trans st3).le)
end

/-! ### dicts whose keys are ints and whose values are True -/
def TD (ks : List Int) : List (Int × Value) := ks.map fun k => (k, Value.bool true)
def PD (prog : Program) (w : World) (ks : List Int) : Mem → Value → Prop := fun g v => ∃ a o, v = .ref a ∧ (a == sysModules) = false ∧ g a = some o ∧ o.IsDictOf (intKind prog w) (TD ks)
theorem Mono.pd {prog : Program} {w : World} (ks : List Int) : Mono (PD prog w ks) := fun g g' v k ⟨a, o, e, h1, h2, h3⟩ => ⟨a, o, e, h1, k _ _ h2, h3⟩
def putK (ks : List Int) (k : Int) : List Int := if k ∈ ks then ks else ks ++ [k]
theorem mem_putK {ks : List Int} {k x : Int} : x ∈ putK ks k ↔ x ∈ ks ∨ x = k := by
  unfold putK
  split
  · rename_i h
    constructor
    · exact .inl
    · rintro (h' | rfl) <;> assumption
  · simp
theorem valueAt_TD (ks : List Int) (k : Int) : valueAt (TD ks) k = if k ∈ ks then some (.bool true) else none := by
  unfold valueAt TD
  induction ks with
  | nil => rfl
  | cons x ks ih =>
    rw [List.map_cons, List.find?_cons]
    by_cases h : x = k
    · subst h; simp
    · have h' : ¬ k = x := fun e => h e.symm
      simp only [h, decide_false, List.mem_cons, h', false_or]
      exact ih
theorem valueAt_TD_isSome (ks : List Int) (k : Int) : (valueAt (TD ks) k).isSome = decide (k ∈ ks) := by
  rw [valueAt_TD]; split <;> simp [*]
theorem stored_TD (ks : List Int) (k : Int) : stored (TD ks) k (.bool true) = TD (putK ks k) := by
  unfold stored putK TD
  have e : (List.map (fun k => (k, Value.bool true)) ks).any (fun kv => decide (kv.1 = k)) = decide (k ∈ ks) := by
    induction ks with
    | nil => rfl
    | cons x ks ih =>
      rw [List.map_cons, List.any_cons, ih]
      by_cases h : x = k
      · subst h; simp
      · have h' : ¬ k = x := fun e => h e.symm
        simp [h, h']
  rw [e]
  by_cases h : k ∈ ks
  · simp only [h, decide_true, if_true, List.map_map]
    apply List.map_congr_left
    intro a _
    show (if a = k then _ else _) = _
    split <;> rfl
  · simp [h]
theorem keys_TD (ks : List Int) : (TD ks).map (·.1) = ks := by unfold TD; rw [List.map_map]; simp [Function.comp_def]
theorem nodup_of_dict {prog : Program} {w : World} {o : Obj} {ks : List Int} (h : o.IsDictOf (intKind prog w) (TD ks)) : ks.Nodup := by
  obtain ⟨_, _, _, _, _, _, n⟩ := h; rwa [keys_TD] at n

section
variable {prog : Program} {w : World} {A : Around} {env : Env} {m : Str → Option Value} {G : Mem}
theorem CmpOk.inD {k : Int} {ks : List Int} : CmpOk prog w A G .In (D (.int k)) (PD prog w ks) (decide (k ∈ ks)) := fun g _ x y s hs p q Q E h => by
  obtain ⟨t, rfl⟩ := p.int_inv; obtain ⟨a, o, rfl, h1, h2, h3⟩ := q
  refine wpAny_in_of (knd := intKind prog w) (k := k) (intKind_is _ _ _ _) h1 (Heap.DictOf.mapOf (Heap.dictOf_iff.mpr ⟨o, hs _ _ h2, h3⟩)) ?_
  rw [valueAt_TD_isSome]; exact h _
theorem CmpOk.notInD {k : Int} {ks : List Int} : CmpOk prog w A G .NotIn (D (.int k)) (PD prog w ks) (!decide (k ∈ ks)) := fun g _ x y s hs p q Q E h => by
  obtain ⟨t, rfl⟩ := p.int_inv; obtain ⟨a, o, rfl, h1, h2, h3⟩ := q
  refine wpAny_notIn_of (knd := intKind prog w) (k := k) (intKind_is _ _ _ _) h1 (Heap.DictOf.mapOf (Heap.dictOf_iff.mpr ⟨o, hs _ _ h2, h3⟩)) ?_
  rw [valueAt_TD_isSome]; exact h _

theorem hits_TD {A : Around} {s : Shared} {kb : List Int} : ∀ {ka : List Int}, (∀ k ∈ ka, k ∈ kb) → KeqHits A s (TD kb) (TD ka) true
  | [], _ => .nil
  | k :: ka, h => by
    have r : KeqHits A s (TD kb) (TD ka) true := hits_TD fun x hx => h x (.tail _ hx)
    have e : SeqAt.EqAt A s (.bool true) (.bool true) true := keq_flat (d := .bool true) (e := .bool true) (fun _ => .bool _) (fun _ => .bool _)
    have := KeqHits.hit (k := k) (v := .bool true) (y := .bool true) (kb := TD kb) (by rw [valueAt_TD, if_pos (h k (.head _))]) e r
    exact this
theorem CmpOk.neD {n : Nat} {ka kb : List Int} (hA : Ok n A) (h : ∀ k, k ∈ ka ↔ k ∈ kb) : CmpOk prog w A G .NotEq (PD prog w ka) (PD prog w kb) false := fun g _ x y s hs p q Q E hq => by
  obtain ⟨a, o, rfl, h1, h2, h3⟩ := p; obtain ⟨b, o', rfl, h1', h2', h3'⟩ := q
  have na := nodup_of_dict h3
  have nb := nodup_of_dict h3'
  have hl : (TD ka).length = (TD kb).length := by
    unfold TD; rw [List.length_map, List.length_map]
    exact ((List.perm_ext_iff_of_nodup na nb).mpr h).length_eq
  refine keq_ne (r := true) h1 h1' (Heap.dictOf_iff.mpr ⟨o, hs _ _ h2, h3⟩) (Heap.dictOf_iff.mpr ⟨o', hs _ _ h2', h3'⟩) (by have := hA.units; omega) (fun _ => hits_TD fun k hk => (h k).mp hk) ?_
  rw [hl]; simpa using hq s.toks
theorem CmpOk.eqD {n : Nat} {ka kb : List Int} (hA : Ok n A) (h : ∀ k, k ∈ ka ↔ k ∈ kb) : CmpOk prog w A G .Eq (PD prog w ka) (PD prog w kb) true := fun g _ x y s hs p q Q E hq => by
  obtain ⟨a, o, rfl, h1, h2, h3⟩ := p; obtain ⟨b, o', rfl, h1', h2', h3'⟩ := q
  have na := nodup_of_dict h3
  have nb := nodup_of_dict h3'
  have hl : (TD ka).length = (TD kb).length := by
    unfold TD; rw [List.length_map, List.length_map]
    exact ((List.perm_ext_iff_of_nodup na nb).mpr h).length_eq
  refine keq_eq (r := true) h1 h1' (Heap.dictOf_iff.mpr ⟨o, hs _ _ h2, h3⟩) (Heap.dictOf_iff.mpr ⟨o', hs _ _ h2', h3'⟩) (by have := hA.units; omega) (fun _ => hits_TD fun k hk => (h k).mp hk) ?_
  rw [hl]; simpa using hq s.toks
theorem size_gt {h₀ h : Heap} {mg : Str → Option Value} (hg : h₀.Ns mainGlobals mg) (up : ∀ x o, h₀.get? x = some o → h.get? x = some o) : 3 < h.objs.size := by
  obtain ⟨o, _, _, ho, _⟩ := hg
  exact Heap.lt_size (up _ _ ho)
end

section
variable {prog : Program} {w : World} {A : Around} {env : Env} {m : Str → Option Value} {s₀ s : Shared} {g0 g : Mem} {mu : List (Addr × Obj)} {rest : List Stmt} {Q : Flow → Shared → Prop} {h₀ : Heap} {mg mb : Str → Option Value}

theorem St.assignDict {x : Str} {p' pos dp : Pos} (W : Wd h₀ mg mb) (hw : Mem.le (memOf h₀) g) (S : St s₀ g0 g env.locals m mu s)
    (next : ∀ a o s', (a == sysModules) = false → o.IsDictOf (intKind prog w) (TD []) → St s₀ g0 g env.locals (upd m x (.ref a)) ((a, o) :: mu) s' → wpAny (model prog w) A (execs rest env) Q NoE s')
    (hl : env.kindOf x = some .local := by rfl) (hp : (env.scope.kind == .class || (env.scope.kind == .module && env.locals != env.globals)) = false := by rfl)
    (hs : swapsWith (.Dict [] [] dp) (some (.Name x p')) pos.line env = pure false := by rfl) :
    wpAny (model prog w) A (execs (.Assign [.Name x p'] (.Dict [] [] dp) pos :: rest) env) Q NoE s := by
  refine wpAny_execs_cons (wpAny_Assign_Name (wpAny_Dict_empty ?_) hs)
  have hlt := size_gt W.g (up_of hw S.sub)
  have st : Step s g { s with heap := s.heap.push { cls := .type "dict", data := .dict #[] } } g := ⟨⟨_, s.toks, rfl⟩, fun _ _ e => Heap.get?_push_of_some _ e, Mem.le.refl _, fun a o e => Heap.get?_push_of_some _ (S.sub a o e), fun _ _ e => .inl e⟩
  have S2 := S.alloc (a := s.heap.objs.size) (o := { cls := .type "dict", data := .dict #[] }) (Heap.get?_push_size _ rfl) (size_none _) st
  obtain ⟨o, ho, hd⟩ := Heap.dictOf_iff.mp (Heap.DictOf.new (knd := intKind prog w) s.heap)
  have eo : o = { cls := .type "dict", data := .dict #[] } := by
    have := Heap.get?_push_size s.heap (o := { cls := .type "dict", data := .dict #[] }) rfl
    rw [this] at ho; exact (Option.some.inj ho).symm
  subst eo
  exact wpAny_storeName_local hl S2.ns (fun h' hn hsb => next _ _ _ (by show decide (s.heap.objs.size = 1) = false; exact decide_eq_false (by omega)) hd (S2.store hn hsb)) hp

theorem St.put {o i : Expr} {kk : Nat} {p1 p2 pos : Pos} {k : Int} {ks : List Int} {a : Addr} {ob : Obj} (pre post : List (Addr × Obj)) (S : St s₀ g0 g env.locals m (pre ++ (a, ob) :: post) s)
    (hd : ob.IsDictOf (intKind prog w) (TD ks)) (ho : Ev prog w A env m (memOf s.heap) o (fun _ v => v = .ref a)) (hi : Ev prog w A env m (memOf s.heap) i (D (.int k))) (hz : ks.length ≤ 1000000)
    (next : ∀ ob' s', ob'.IsDictOf (intKind prog w) (TD (putK ks k)) → St s₀ g0 g env.locals m (pre ++ (a, ob') :: post) s' → wpAny (model prog w) A (execs rest env) Q NoE s')
    (hs : swapsWith (.Constant (.bool true) kk p2) (some (.Subscript o i p1)) pos.line env = pure false := by rfl) :
    wpAny (model prog w) A (execs (.Assign [.Subscript o i p1] (.Constant (.bool true) kk p2) pos :: rest) env) Q NoE s := by
  refine wpAny_execs_cons (wpAny_Assign_Subscript (wpAny_Constant_bool ?_) hs)
  refine ho.go (Mem.le.refl _) S.ns (memOf_sub _) fun vo s2 g2 st2 eo => ?_
  subst eo
  refine hi.go st2.le (ns_up S.ns st2) st2.sub fun vi s3 g3 st3 r3 => ?_
  obtain ⟨u, rfl⟩ := r3.int_inv
  have S' := S.keep (st2.trans st3)
  have ha : s3.heap.get? a = some ob := (S'.own (a, ob) (by simp)).1
  refine wpAny_setItem_pairs (knd := intKind prog w) (k := k) (intKind_is _ _ _ _) (Heap.dictOf_iff.mpr ⟨ob, ha, hd⟩) (fun h' hd' hsb => ?_) (by unfold TD; rw [List.length_map, sizeLine_eq]; omega)
  rw [stored_TD] at hd'
  obtain ⟨ob', hob, hd2⟩ := Heap.dictOf_iff.mp hd'
  exact next ob' _ hd2 (S'.change hsb hob)

/-- x = y.pop() -/
theorem St.popTo {x y : Str} {p' pos py apos cpos : Pos} {a : Addr} {vs : List Value} {v : Value} {n : Nat} (pre post : List (Addr × Obj)) (S : St s₀ g0 g env.locals m (pre ++ (a, lstO (vs ++ [v]) n) :: post) s)
    (hm : m y = some (.ref a)) (hz : vs.length ≤ 1000000)
    (next : ∀ n' s', St s₀ g0 g env.locals (upd m x v) (pre ++ (a, lstO vs n') :: post) s' → wpAny (model prog w) A (execs rest env) Q NoE s')
    (hk : env.scope.kind = .function := by rfl) (hl : env.kindOf x = some .local := by rfl) (hly : env.kindOf y = some .local := by rfl) (hd : (y == ("__debug__" : Str)) = false := by decide)
    (hp : (env.scope.kind == .class || (env.scope.kind == .module && env.locals != env.globals)) = false := by rfl)
    (hbase : attributeBase (.Name y py) "pop" env (eval (.Name y py) env) = eval (.Name y py) env := by rfl)
    (hline : (apos.endLine == cpos.line) = true := by rfl)
    (hs : swapsWith (.Call (.Attribute (.Name y py) "pop" apos) [] [] cpos) (some (.Name x p')) pos.line env = pure false := by rfl) :
    wpAny (model prog w) A (execs (.Assign [.Name x p'] (.Call (.Attribute (.Name y py) "pop" apos) [] [] cpos) pos :: rest) env) Q NoE s := by
  have ha : s.heap.get? a = some (lstO (vs ++ [v]) n) := (S.own (a, lstO (vs ++ [v]) n) (by simp)).1
  refine wpAny_execs_cons (wpAny_Assign_Name (wpAny_Call_method hbase (by rfl) hline PySem.F.plainAttrs_list PySem.F.slot_list_pop PySem.F.type_list_pop ?_) hs)
  refine wpAny_Name (wpAny_loadName_local hk hly S.ns hm ?_) hd
  refine ⟨⟨_, ha, rfl⟩, fun b e => by cases e; exact ⟨_, ha, rfl⟩, ?_⟩
  refine P.pop_list (y := v) ha (by simp) ?_ (by simp only [List.size_toArray, List.length_append, List.length_cons, List.length_nil, sizeLine_eq]; omega)
  have hu := PySem.IsL.update (n := n) ha (fun xs => xs.eraseIdxIfInBounds ((vs ++ [v]).toArray.size - 1))
  have ep : (vs ++ [v]).toArray.eraseIdxIfInBounds ((vs ++ [v]).toArray.size - 1) = vs.toArray := by
    have hh : (vs ++ [v]).toArray.size - 1 < (vs ++ [v]).toArray.size := by simp
    unfold Array.eraseIdxIfInBounds
    rw [dif_pos hh]
    apply Array.ext'
    simp [List.eraseIdx_append_of_length_le]
  rw [ep] at hu
  have S' := S.change (Heap.SameBut.update ..) hu (k := s.toks)
  exact wpAny_storeName_local hl S'.ns (fun h' hn hsb => next _ _ (S'.store hn hsb)) hp
end

/-! ### loops -/
section
variable {prog : Program} {w : World} {A : Around} {env : Env} {m : Str → Option Value} {s₀ s : Shared} {g0 g : Mem} {mu : List (Addr × Obj)} {rest : List Stmt} {Q : Flow → Shared → Prop} {h₀ : Heap} {mg mb : Str → Option Value}
abbrev Inv := Mem → (Str → Option Value) → List (Addr × Obj) → Prop

theorem St.endIter {I : Addr} {io : Obj} {L : Addr} (S : St s₀ g0 g L m ((I, io) :: mu) s) {h' : Heap} {k : Nat} (hx : Heap.ExtBut I s.heap h') : St s₀ g0 g L m mu { s with heap := h', toks := k } := by
  obtain ⟨h1, t1, e1⟩ := S.same
  obtain ⟨a1, a2, a3, a4⟩ := S.own (I, io) (.head _)
  have nd := S.nd
  rw [List.map_cons] at nd
  obtain ⟨n1, n2⟩ := List.nodup_cons.mp nd
  obtain ⟨oL, es, ep, hL, r⟩ := S.ns
  refine ⟨⟨h', k, by rw [e1]⟩, ⟨oL, es, ep, hx _ _ (Ne.symm a2) hL, r⟩, fun b o e => hx b o (fun q => ?_) (S.up b o e), S.le, fun b o e => hx b o (fun q => ?_) (S.sub b o e), S.new, S.L0, S.gL, fun p hp => ?_, n2⟩
  · subst q; rw [a3] at e; cases e
  · subst q; rw [a4] at e; cases e
  · obtain ⟨h1, h2, h3, h4⟩ := S.own p (.tail _ hp)
    exact ⟨hx _ _ (fun q => n1 (by have r := List.mem_map_of_mem (f := Prod.fst) hp; rwa [q] at r)) h1, h2, h3, h4⟩

/-- the turn's end -/
def TurnEnd (s₀ : Shared) (g0 : Mem) (L : Addr) (g1 : Mem) (it : Addr × Obj) (J : Inv) (Q : Flow → Shared → Prop) (f : Flow) (s2 : Shared) : Prop := match f with
  | .next | .cont => ∃ g2 m2 mu2, Mem.le g1 g2 ∧ J g2 m2 mu2 ∧ St s₀ g0 g2 L m2 (it :: mu2) s2
  | .brk => False
  | .ret v => Q (.ret v) s2
theorem TurnEnd.next {L : Addr} {g1 g2 : Mem} {it : Addr × Obj} {J : Inv} {m2 : Str → Option Value} {mu2 : List (Addr × Obj)} {s2 : Shared} (h : Mem.le g1 g2) (j : J g2 m2 mu2) (S : St s₀ g0 g2 L m2 (it :: mu2) s2) : TurnEnd s₀ g0 L g1 it J Q .next s2 := ⟨g2, m2, mu2, h, j, S⟩

theorem St.forList {x : Str} {px pos : Pos} {iter : Expr} {body : List Stmt} {ds : List PyData} (hA : A.handled = none) (S : St s₀ g0 g env.locals m mu s) (h : Ev prog w A env m g iter (D (.list ds)))
    (J : Nat → Inv) (j0 : ∀ g', Mem.le g g' → J 0 g' m mu)
    (turn : ∀ (i : Nat) d, ds[i]? = some d → ∀ g1 m1 mu1 v s1 it, Mem.le g g1 → J i g1 m1 mu1 → St s₀ g0 g1 env.locals (upd m1 x v) (it :: mu1) s1 → Rd g1 v d →
      wpAny (model prog w) A (execs body env) (TurnEnd s₀ g0 env.locals g1 it (J (i + 1)) Q) NoE s1)
    (done : ∀ g1 m1 mu1 s1, Mem.le g g1 → J ds.length g1 m1 mu1 → St s₀ g0 g1 env.locals m1 mu1 s1 → wpAny (model prog w) A (execs rest env) Q NoE s1)
    (hl : env.kindOf x = some .local := by rfl) (hp : (env.scope.kind == .class || (env.scope.kind == .module && env.locals != env.globals)) = false := by rfl)
    (hs : ∀ x, foldedSetIterable iter env x = pure x := by intro _; rfl) :
    wpAny (model prog w) A (execs (.For (.Name x px) iter body [] pos :: rest) env) Q NoE s := by
  refine wpAny_execs_cons (wpAny_For (h.go (Mem.le.refl _) S.ns S.sub fun vl s1 gl st1 pl => ?_) hs)
  obtain ⟨l, vs, n, rfl, hl1, rl⟩ := pl.list_inv
  have S1 := S.step st1
  refine wpAny_pyIter_list ⟨_, st1.sub _ _ hl1, rfl, n, rfl⟩ ?_
  have stp : Step s1 gl { s1 with heap := s1.heap.push { cls := .type "list_iterator", data := .fields #[.ref l, .int 0 0] } } gl := ⟨⟨_, s1.toks, rfl⟩, fun _ _ e => Heap.get?_push_of_some _ e, Mem.le.refl _, fun a o e => Heap.get?_push_of_some _ (st1.sub a o e), fun _ _ e => .inl e⟩
  have S2 := S1.alloc (a := s1.heap.objs.size) (o := { cls := .type "list_iterator", data := .fields #[.ref l, .int 0 0] }) (Heap.get?_push_size _ rfl) (size_none _) stp
  generalize s1.heap.objs.size = I at S2
  refine codeAny_forLoop (fun k s' => ∃ (i : Nat) (g1 : Mem) (m1 : Str → Option Value) (mu1 : List (Addr × Obj)) (io : Obj), Mem.le gl g1 ∧ J i g1 m1 mu1 ∧ St s₀ g0 g1 env.locals m1 ((I, io) :: mu1) s' ∧ io.cls = .type "list_iterator" ∧ io.data = .fields #[.ref l, .int i 0] ∧ i ≤ vs.length ∧ k = vs.length + 1 - i) ?_ (vs.length + 1)
    ⟨0, gl, m, mu, _, Mem.le.refl _, j0 gl st1.le, S2, rfl, rfl, Nat.zero_le _, rfl⟩
  rintro k s' ⟨i, g1, m1, mu1, io, le1, j1, S3, hc, hd, hi, rfl⟩
  have hio : s'.heap.get? I = some io := (S3.own (I, io) (.head _)).1
  have hlist : s'.heap.IsList l vs.toArray := ⟨_, S3.sub _ _ (le1 _ _ hl1), rfl, n, rfl⟩
  cases hv : vs[i]? with
  | none =>
    have hsz : i = vs.length := Nat.le_antisymm hi (by simpa using hv)
    subst hsz
    refine wpAny_pyNext_list_end hA ⟨io, hio, hc, hd⟩ hlist (by simp) fun h' he' => wpAny_execs_nil ?_
    rw [rl.length] at j1
    exact wpAny_mono (done g1 m1 mu1 _ (st1.le.trans le1) j1 (S3.endIter he' (k := s'.toks))) (fun _ _ x => x) fun _ _ x => x
  | some v =>
    have hlt : i < vs.length := (List.getElem?_eq_some_iff.mp hv).1
    obtain ⟨d, hds, rd⟩ := rl.getV hv
    refine wpAny_mono (wpAny_pyNext_list_item (E := NoE) (Q := fun r s1 => _) ⟨io, hio, hc, hd⟩ hlist (x := v) (by simpa using hv) fun h1 hit1 hs1 => ?_) (fun _ _ x => x) fun _ _ x => x.elim
    obtain ⟨io', hio', hc', hd'⟩ := hit1
    have S4 := St.change (pre := []) S3 hs1 hio' (k := s'.toks)
    refine wpAny_assign_Name (wpAny_storeName_local hl S4.ns (fun h2 hn2 hs2 => ?_) hp)
    have S5 := S4.store hn2 hs2 (k := s'.toks + 1)
    refine wpAny_mono (turn i d hds g1 m1 mu1 v _ (I, io') (st1.le.trans le1) j1 S5 (rd.mono le1)) (fun f s3 h3 => ?_) fun _ _ x => x.elim
    cases f with
    | next => obtain ⟨g2, m2, mu2, le2, j2, S6⟩ := h3; exact ⟨vs.length + 1 - (i + 1), by omega, i + 1, g2, m2, mu2, io', le1.trans le2, j2, S6, hc', hd', hlt, rfl⟩
    | cont => obtain ⟨g2, m2, mu2, le2, j2, S6⟩ := h3; exact ⟨vs.length + 1 - (i + 1), by omega, i + 1, g2, m2, mu2, io', le1.trans le2, j2, S6, hc', hd', hlt, rfl⟩
    | brk => exact h3.elim
    | ret v => exact h3

theorem St.forRange {x : Str} {px pos rp cp : Pos} {e : Expr} {body : List Stmt} {N : Nat} (W : Wd h₀ mg mb) (hw : Mem.le (memOf h₀) g) (hf : mg "range" = Option.none) (hA : A.handled = none) (S : St s₀ g0 g env.locals m mu s)
    (h : Ev prog w A env m (memOf s.heap) e (D (.int N))) (hN : N ≤ 1000000)
    (J : Nat → Inv) (j0 : J 0 g m mu)
    (turn : ∀ (i : Nat), i < N → ∀ g1 m1 mu1 t s1 it, Mem.le g g1 → J i g1 m1 mu1 → St s₀ g0 g1 env.locals (upd m1 x (.int i t)) (it :: mu1) s1 →
      wpAny (model prog w) A (execs body env) (TurnEnd s₀ g0 env.locals g1 it (J (i + 1)) Q) NoE s1)
    (done : ∀ g1 m1 mu1 s1, Mem.le g g1 → J N g1 m1 mu1 → St s₀ g0 g1 env.locals m1 mu1 s1 → wpAny (model prog w) A (execs rest env) Q NoE s1)
    (hl : env.kindOf x = some .local := by rfl) (hp : (env.scope.kind == .class || (env.scope.kind == .module && env.locals != env.globals)) = false := by rfl)
    (he : env.globals = mainGlobals := by rfl) (heb : env.builtins = builtinsNs := by rfl) (hk : env.scope.kind = .function := by rfl) (hx : env.kindOf "range" = some .globalImplicit := by rfl)
    (hst : starEach [e] env = (false, eval e env) :: starEach [] env := by rfl)
    (hs : ∀ x, foldedSetIterable (.Call (.Name "range" rp) [e] [] cp) env x = pure x := by intro _; rfl) :
    wpAny (model prog w) A (execs (.For (.Name x px) (.Call (.Name "range" rp) [e] [] cp) body [] pos :: rest) env) Q NoE s := by
  have hup := up_of hw S.sub
  have hb : mb "range" = some (.type "range") := (W.builtins "range" (by decide)).trans (by rfl)
  refine wpAny_execs_cons (wpAny_For (Call_ (name_boot (W.g.keeps hup) hf (W.b.keeps hup) hb ?_ he heb hk hx (by decide))) hs)
  refine PyProof.Rows.callWith_type1 (args_cons (h.go (Mem.le.refl _) S.ns (memOf_sub _) fun vn s1 gl st1 pn => args_nil ?_) hst) hst
  obtain ⟨u, rfl⟩ := pn.int_inv
  have S1 := S.keep st1
  refine call_range_1 ?_
  refine wpAny_pyIter_range (IsRange.new ..) (small_one (by omega) (by omega) (by omega) (by omega)) ?_
  rw [rangeSize_one]
  have eN : (if (0 : Int) < (N : Int) then (N : Int) - 0 else 0) = (N : Int) := by split <;> omega
  rw [eN]
  have st2 : Step s1 g { s1 with heap := s1.heap.push { cls := .type "range", data := .fields #[.int 0 s1.toks, .int N u, .int 1 (s1.toks + 1)] }, toks := s1.toks + 1 + 1 } g := ⟨⟨_, _, rfl⟩, fun _ _ e => Heap.get?_push_of_some _ e, Mem.le.refl _, fun a o e => Heap.get?_push_of_some _ (S1.sub a o e), fun _ _ e => .inl e⟩
  have S2 := S1.keep st2
  generalize hq : ({ s1 with heap := s1.heap.push { cls := .type "range", data := .fields #[.int 0 s1.toks, .int N u, .int 1 (s1.toks + 1)] }, toks := s1.toks + 1 + 1 } : Shared) = s2 at S2 ⊢
  have stp : Step s2 g { s2 with heap := s2.heap.push { cls := .type "range_iterator", data := .fields #[rawInt 0, rawInt N, rawInt 1] } } g := ⟨⟨_, s2.toks, rfl⟩, fun _ _ e => Heap.get?_push_of_some _ e, Mem.le.refl _, fun a o e => Heap.get?_push_of_some _ (S2.sub a o e), fun _ _ e => .inl e⟩
  have S3 := S2.alloc (a := s2.heap.objs.size) (o := { cls := .type "range_iterator", data := .fields #[rawInt 0, rawInt N, rawInt 1] }) (Heap.get?_push_size _ rfl) (size_none _) stp
  generalize s2.heap.objs.size = I at S3
  refine codeAny_forLoop (fun k s' => ∃ (i : Nat) (g1 : Mem) (m1 : Str → Option Value) (mu1 : List (Addr × Obj)), Mem.le g g1 ∧ J i g1 m1 mu1 ∧ St s₀ g0 g1 env.locals m1 ((I, { cls := .type "range_iterator", data := .fields #[rawInt i, rawInt ((N : Int) - i), rawInt 1] }) :: mu1) s' ∧ i ≤ N ∧ k = N + 1 - i) ?_ (N + 1)
    ⟨0, g, m, mu, Mem.le.refl _, j0, by simpa using S3, Nat.zero_le _, rfl⟩
  rintro k s' ⟨i, g1, m1, mu1, le1, j1, S4, hi, rfl⟩
  have hio : IsRangeIter s'.heap I i ((N : Int) - i) 1 := (S4.own (I, _) (.head _)).1
  by_cases hlt : i < N
  · refine wpAny_mono (wpAny_pyNext_range_item (E := NoE) (Q := fun r s1 => _) hio (by omega) fun h1 hit1 hs1 => ?_) (fun _ _ x => x) fun _ _ x => x.elim
    have e1 : ((i : Int) + 1) = ((i + 1 : Nat) : Int) := by omega
    have e2 : ((N : Int) - i - 1) = ((N : Int) - ((i + 1 : Nat) : Int)) := by omega
    rw [e1, e2] at hit1
    have S5 := St.change (pre := []) S4 hs1 hit1 (k := s'.toks + 1)
    refine wpAny_assign_Name (wpAny_storeName_local hl S5.ns (fun h2 hn2 hs2 => ?_) hp)
    have S6 := S5.store hn2 hs2 (k := s'.toks + 1 + 1)
    refine wpAny_mono (turn i hlt g1 m1 mu1 s'.toks _ _ le1 j1 S6) (fun f s3 h3 => ?_) fun _ _ x => x.elim
    cases f with
    | next => obtain ⟨g2, m2, mu2, le2, j2, S7⟩ := h3; exact ⟨N + 1 - (i + 1), by omega, i + 1, g2, m2, mu2, le1.trans le2, j2, S7, hlt, rfl⟩
    | cont => obtain ⟨g2, m2, mu2, le2, j2, S7⟩ := h3; exact ⟨N + 1 - (i + 1), by omega, i + 1, g2, m2, mu2, le1.trans le2, j2, S7, hlt, rfl⟩
    | brk => exact h3.elim
    | ret v => exact h3
  · have hiN : i = N := by omega
    subst hiN
    refine wpAny_pyNext_range_end hA hio (by omega) fun h' he' => wpAny_execs_nil ?_
    exact wpAny_mono (done g1 m1 mu1 _ le1 j1 (S4.endIter he' (k := s'.toks))) (fun _ _ x => x) fun _ _ x => x

theorem execs_while {test : Expr} {body : List Stmt} {pos : Pos} (I : Nat → Shared → Prop)
    (turn : ∀ n s, I n s → wpAny (model prog w) A (isTrue test env (eval test env)) (fun b s2 =>
      if b = true then wpAny (model prog w) A (execs body env) (fun f s3 => match f with
        | .next | .cont => ∃ k, k < n ∧ I k s3
        | .brk => False
        | .ret v => Q (.ret v) s3) NoE s2
      else wpAny (model prog w) A (execs rest env) Q NoE s2) NoE s)
    (n : Nat) (h : I n s) : wpAny (model prog w) A (execs (.While test body [] pos :: rest) env) Q NoE s := by
  refine wpAny_execs_cons (wpAny_While (codeAny_whileLoop I (fun n s hI => ?_) n h))
  refine wpAny_mono (turn n s hI) (fun b s2 h2 => ?_) fun _ _ x => x.elim
  cases b with
  | false =>
    simp only [Bool.false_eq_true, if_false] at h2 ⊢
    exact wpAny_execs_nil h2
  | true =>
    simp only [if_true] at h2 ⊢
    refine wpAny_mono h2 (fun f s3 h3 => ?_) fun _ _ x => x.elim
    cases f with
    | next => exact h3
    | cont => exact h3
    | brk => exact h3.elim
    | ret v => exact h3
end
def stm (i : Nat) : Stmt := PySem.Challenge.pw_oj0048_01.main.body.getD i (.Pass ⟨0, 0, 0, 0⟩)
def bodyOf : Stmt → List Stmt
  | .FunctionDef _ _ b _ _ _ _ _ _ _ => b
  | _ => []
def parOf : Stmt → Arguments
  | .FunctionDef _ a _ _ _ _ _ _ _ _ => a
  | _ => ⟨[], [], none, [], [], none, []⟩
def scopeOf : Stmt → Scope
  | .FunctionDef _ _ _ _ _ _ sc _ _ _ => sc
  | _ => default

inductive Row where
  | jump (t : Nat) | jf (t : Nat) | jt (t : Nat) | start (t : Nat) | step (t : Nat) | push | fail
abbrev st (x : String) : PyData := .str (Str.ofString x)
def Row.tag : Row → String
  | .jump _ => "jump" | .jf _ => "jump_false" | .jt _ => "jump_true" | .start _ => "start" | .step _ => "each_step" | .push => "push" | .fail => "fail"
def Row.mid : Row → PyData
  | .jump t | .jf t | .jt t => .int t
  | .start _ => st "s"
  | .step _ => .int 0
  | _ => st "x"
def Row.last : Row → PyData
  | .start t | .step t => .int t
  | _ => .none
def Row.to : Row → Option Nat
  | .jump t | .jf t | .jt t | .start t | .step t => some t
  | _ => none
def Row.dat (r : Row) : PyData := .tuple [st r.tag, r.mid, r.last]
def od : Option Nat → PyData
  | some t => .int t
  | none => .none

theorem no1 {P : Prop} (h : true = false) : P := nomatch h
theorem no2 {P : Prop} (h : false = true) : P := nomatch h
def Row.isJ : Row → Bool
  | .jump _ | .jf _ | .jt _ => true
  | _ => false
def Row.isS : Row → Bool
  | .start _ | .step _ => true
  | _ => false
def Row.isJump : Row → Bool
  | .jump _ => true
  | _ => false
theorem tag_lay (r : Row) : (st r.tag).canLay0 = true := by cases r <;> (dsimp only [Row.tag, Row.isJ, Row.isS]; decide +kernel)
theorem any_j (r : Row) : ([st "jump", st "jump_false", st "jump_true"].any fun y => PyData.eqv y (st r.tag)) = r.isJ := by cases r <;> (dsimp only [Row.tag, Row.isJ, Row.isS]; decide +kernel)
theorem any_s (r : Row) : ([st "start", st "each_step"].any fun y => PyData.eqv y (st r.tag)) = r.isS := by cases r <;> (dsimp only [Row.tag, Row.isJ, Row.isS]; decide +kernel)

section
variable {prog : Program} {w : World} {h₀ : Heap} {mg mb : Str → Option Value} {f : Addr}
section
variable {A : Around} {env : Env} {m : Str → Option Value} {G : Mem} {n : Nat} {x : Str}
theorem Ev.tag {p1 p2 : Pos} {k : Nat} {r : Row} {e : Expr} (h : Ev prog w A env m G e (D r.dat)) : Ev prog w A env m G (.Subscript e (.Constant (.int 0) k p1) p2) (D (st r.tag)) :=
  Ev.itemT h Ev.int ⟨by decide, rfl⟩ (by decide) (by intro _ _; with_unfolding_all rfl)
theorem Ev.mid {p1 p2 : Pos} {k : Nat} {r : Row} {e : Expr} (h : Ev prog w A env m G e (D r.dat)) : Ev prog w A env m G (.Subscript e (.Constant (.int 1) k p1) p2) (D r.mid) :=
  Ev.itemT h Ev.int ⟨by decide, rfl⟩ (by decide) (by intro _ _; with_unfolding_all rfl)
theorem Ev.last {p1 p2 : Pos} {k : Nat} {r : Row} {e : Expr} (h : Ev prog w A env m G e (D r.dat)) : Ev prog w A env m G (.Subscript e (.Constant (.int 2) k p1) p2) (D r.last) :=
  Ev.itemT h Ev.int ⟨by decide, rfl⟩ (by decide) (by intro _ _; with_unfolding_all rfl)
theorem Tr.isJ {e : Expr} {k1 k2 k3 k4 : Nat} {p1 p2 p3 p4 p5 : Pos} {r : Row} (hA : Ok n A) (h : Ev prog w A env m G e (D (st r.tag))) :
    Tr prog w A env m G (.Compare e [.In] [.Tuple [.Constant (.str (Str.ofString "jump")) k1 p1, .Constant (.str (Str.ofString "jump_false")) k2 p2, .Constant (.str (Str.ofString "jump_true")) k3 p3] k4 p4] p5) r.isJ :=
  (Tr.cmp h (Ev.tuple (Evs.cons Ev.str (Evs.cons Ev.str (Evs.cons Ev.str Evs.nil)))) (Mono.d _) (CmpOk.inTup hA (by decide +kernel) (tag_lay r) (by decide +kernel))).cast (any_j r)
theorem Tr.isS {e : Expr} {k1 k2 k4 : Nat} {p1 p2 p4 p5 : Pos} {r : Row} (hA : Ok n A) (h : Ev prog w A env m G e (D (st r.tag))) :
    Tr prog w A env m G (.Compare e [.In] [.Tuple [.Constant (.str (Str.ofString "start")) k1 p1, .Constant (.str (Str.ofString "each_step")) k2 p2] k4 p4] p5) r.isS :=
  (Tr.cmp h (Ev.tuple (Evs.cons Ev.str (Evs.cons Ev.str Evs.nil))) (Mono.d _) (CmpOk.inTup hA (by decide +kernel) (tag_lay r) (by decide +kernel))).cast (any_s r)
end

theorem place_of (W : Wd h₀ mg mb) (F : FnAt h₀ mg "place_of" (parOf (stm 1)) (bodyOf (stm 1)) (scopeOf (stm 1)) f) (r : Row) : FnSpec prog w h₀ f 2 (Dat [r.dat]) (D (od r.to)) := by
  refine enter W F (by decide +kernel) (fun A hA s g hw hs vs hp cd => ?_)
  obtain ⟨v, rfl, rv⟩ : ∃ v, vs = [v] ∧ Rd g v r.dat := by cases hp with | cons h t => cases t; exact ⟨_, rfl, h⟩
  refine ⟨[("row", v)], fun _ _ _ _ => rfl, locs rfl, fun L s1 S => ?_⟩
  refine execs_if0 S (Tr.isJ hA (Ev.tag (Ev.localD rfl (rv.mono S.all)))) (fun e s2 S2 => ?_) fun e s2 S2 => ?_
  · refine S2.ret' (Ev.mid (Ev.localD rfl rv)) fun v s3 q => ?_
    cases r <;> first | exact q | exact no2 e
  · refine execs_if0 S2 (Tr.isS hA (Ev.tag (Ev.localD rfl (rv.mono S2.all)))) (fun e' s3 S3 => ?_) fun e' s3 S3 => ?_
    · refine S3.ret' (Ev.last (Ev.localD rfl rv)) fun v s3 q => ?_
      cases r <;> first | exact q | exact no2 e'
    · refine S3.ret' Ev.none fun v s3 q => ?_
      cases r <;> first | exact q | exact no1 e | exact no1 e'
end
structure Rng where
  kind : Bool
  size : Nat
  place : Nat
  again : Option Nat
def Rng.dat (r : Rng) : PyData := .tuple [if r.kind then st "loop" else st "catch", .int 0, .int r.size, .int r.place, od r.again, .int 0]
def nd (l : List Nat) : List PyData := l.map fun n : Nat => PyData.int (n : Int)
def Rng.places (r : Rng) : List Nat := r.place :: r.again.toList
def places (rs : List Rng) : List Nat := rs.flatMap Rng.places
theorem nd_append (a b : List Nat) : nd (a ++ b) = nd a ++ nd b := by unfold nd; exact List.map_append
theorem places_length (rs : List Rng) : (places rs).length ≤ 2 * rs.length := by
  induction rs with
  | nil => exact Nat.le_refl _
  | cons r rs ih =>
    unfold places at ih ⊢
    rw [List.flatMap_cons, List.length_append, List.length_cons]
    have : r.places.length ≤ 2 := by unfold Rng.places; cases r.again <;> simp
    omega
theorem take_succ_of {α : Type} {l : List α} {i : Nat} {x : α} (h : l[i]? = some x) : l.take (i + 1) = l.take i ++ [x] := by
  rw [List.take_add_one, h]; rfl
theorem map_get {α β : Type} {l : List α} {i : Nat} {f : α → β} {y : β} (h : (l.map f)[i]? = some y) : ∃ x, l[i]? = some x ∧ f x = y := by
  rw [List.getElem?_map] at h
  cases q : l[i]? with
  | none => rw [q] at h; cases h
  | some x => rw [q] at h; exact ⟨x, rfl, Option.some.inj h⟩

section
variable {prog : Program} {w : World} {h₀ : Heap} {mg mb : Str → Option Value} {f : Addr}
theorem isNone_od (o : Option Nat) : isNone (od o) = o.isNone := by cases o <;> rfl

theorem range_places (W : Wd h₀ mg mb) (F : FnAt h₀ mg "range_places" (parOf (stm 2)) (bodyOf (stm 2)) (scopeOf (stm 2)) f) (rs : List Rng) (hrs : rs.length ≤ 1000) :
    FnSpec prog w h₀ f 2 (Dat [.list (rs.map Rng.dat)]) (D (.list (nd (places rs)))) := by
  refine enter W F (by decide +kernel) (fun A hA s g hw hs vs hp cd => ?_)
  obtain ⟨v, rfl, rv⟩ : ∃ v, vs = [v] ∧ Rd g v (.list (rs.map Rng.dat)) := by cases hp with | cons h t => cases t; exact ⟨_, rfl, h⟩
  refine ⟨[("ranges", v)], fun _ _ _ _ => rfl, locs rfl, fun L s1 S => ?_⟩
  refine S.assignNew (EvNew.list Evs.nil) fun a us n g1 s2 S2 le1 r1 => ?_
  refine S2.forList hA.1 (Ev.localD rfl (rv.mono le1)) (fun i g m mu => m "places" = some (.ref a) ∧ ∃ us n, mu = [(a, lstO us n)] ∧ RdAll g us (nd (places (rs.take i))))
    (fun g' le => ⟨upd_self .., us, n, rfl, r1.mono le⟩) (fun i d hd g2 m2 mu2 u s3 it le2 j S3 ru => ?_) fun g2 m2 mu2 s3 le2 j S3 => ?_
  · obtain ⟨r, hr, rfl⟩ := map_get hd
    obtain ⟨hm, ws, k, rfl, rw'⟩ := j
    have hlen : ws.length ≤ 2000 := by
      rw [rw'.length]; unfold nd; rw [List.length_map]
      have := places_length (rs.take i)
      have := List.length_take_le' i rs
      omega
    have hm' : ∀ v, upd m2 "held" v "places" = some (.ref a) := fun v => (upd_ne (by decide)).trans hm
    refine appendOwn [it] [] S3 (hm' u) (by omega) (d := .int r.place) trivial (Ev.itemT (Ev.localD rfl (ru.mono S3.all)) Ev.int ⟨by decide, rfl⟩) fun v1 n1 s4 S4 q1 => ?_
    refine execs_if0 S4 (Tr.cmp (Ev.itemT (d := od r.again) (Ev.localD rfl (ru.mono S4.all)) Ev.int ⟨by decide, rfl⟩) Ev.none (Mono.d _) CmpOk.isNot) (fun e s5 S5 => ?_) fun e s5 S5 => ?_
    · rw [isNone_od] at e
      cases hag : r.again with
      | none => rw [hag] at e; exact no2 e
      | some t =>
      refine appendOwn [it] [] S5 (hm' u) (by simp; omega) (d := .int t) trivial (Ev.itemT (Ev.localD rfl (ru.mono S5.all)) Ev.int ⟨by decide, by rw [hag]; rfl⟩) fun v2 n2 s6 S6 q2 => ?_
      refine wpAny_execs_nil (wpAny_execs_nil ?_)
      refine TurnEnd.next (Mem.le.refl _) ⟨hm' u, _, _, rfl, ?_⟩ S6
      rw [take_succ_of hr]
      have e2 : nd (places (rs.take i ++ [r])) = nd (places (rs.take i)) ++ [.int r.place] ++ [.int t] := by
        unfold places; rw [List.flatMap_append, nd_append]; simp [Rng.places, hag, nd]
      rw [e2]
      exact (rw'.snoc q1).snoc q2
    · rw [isNone_od] at e
      cases hag : r.again with
      | some t => rw [hag] at e; exact no1 e
      | none =>
      refine wpAny_execs_nil ?_
      refine TurnEnd.next (Mem.le.refl _) ⟨hm' u, _, _, rfl, ?_⟩ S5
      rw [take_succ_of hr]
      have e2 : nd (places (rs.take i ++ [r])) = nd (places (rs.take i)) ++ [.int r.place] := by
        unfold places; rw [List.flatMap_append, nd_append]; simp [Rng.places, hag, nd]
      rw [e2]
      exact rw'.snoc q1
  · obtain ⟨hm, ws, k, rfl, rw'⟩ := j
    rw [List.length_map, List.take_length] at rw'
    have S4 := St.freeze (pre := []) S3
    refine S4.ret' (Ev.localD hm (.list (Mem.add_self _ _ _) (rw'.mono (Mem.le_add (S3.own _ (.head _)).2.2.2)))) fun v s5 q => q
end
def Agree (xs : List Str) (m m' : Str → Option Value) : Prop := ∀ y, y ∉ xs → m' y = m y
theorem Agree.refl (xs : List Str) (m : Str → Option Value) : Agree xs m m := fun _ _ => rfl
theorem Agree.upd {xs : List Str} {m m' : Str → Option Value} (h : Agree xs m m') {x : Str} {v : Value} (hx : x ∈ xs) : Agree xs m (Mine.upd m' x v) := fun y hy => (upd_ne (fun e => hy (by rw [e]; exact hx))).trans (h y hy)
theorem Agree.get {xs : List Str} {m m' : Str → Option Value} (h : Agree xs m m') {y : Str} {v : Option Value} (e : m y = v) (hy : y ∉ xs) : m' y = v := (h y hy).trans e
def putKN (ks : List Int) (n : Nat) : List Int := putK ks (n : Int)
def putAll (l : List Nat) : List Int := l.foldl putKN []
theorem putAll_snoc (l : List Nat) (n : Nat) : putAll (l ++ [n]) = putK (putAll l) n := by unfold putAll; rw [List.foldl_append]; rfl
theorem putK_length (ks : List Int) (k : Int) : (putK ks k).length ≤ ks.length + 1 := by unfold putK; split <;> simp
theorem putAll_length (l : List Nat) : (putAll l).length ≤ l.length := by
  have gen : ∀ (l : List Nat) (ks : List Int), (l.foldl putKN ks).length ≤ ks.length + l.length := by
    intro l
    induction l with
    | nil => intro ks; exact Nat.le_refl _
    | cons n l ih => intro ks; have h1 := ih (putKN ks n); have h2 := putK_length ks n; rw [List.foldl_cons, List.length_cons]; unfold putKN at *; omega
  simpa [putAll] using gen l []
theorem mem_putAll {l : List Nat} {k : Int} : k ∈ putAll l ↔ ∃ n ∈ l, (n : Int) = k := by
  have gen : ∀ (l : List Nat) (ks : List Int), k ∈ l.foldl putKN ks ↔ k ∈ ks ∨ ∃ n ∈ l, (n : Int) = k := by
    intro l
    induction l with
    | nil => intro ks; simp
    | cons n l ih =>
      intro ks
      rw [List.foldl_cons, ih]; unfold putKN; rw [mem_putK]
      constructor
      · rintro ((h | h) | ⟨x, hx, e⟩)
        · exact .inl h
        · exact .inr ⟨n, .head _, h.symm⟩
        · exact .inr ⟨x, .tail _ hx, e⟩
      · rintro (h | ⟨x, hx, e⟩)
        · exact .inl (.inl h)
        · rcases List.mem_cons.mp hx with rfl | hx
          · exact .inl (.inr e.symm)
          · exact .inr ⟨x, hx, e⟩
  simpa [putAll] using gen l []
theorem filterMap_len (rs : List Row) : (rs.filterMap Row.to).length ≤ rs.length := List.length_filterMap_le _ _
def toList2 (h : Option Nat) : List Nat := h.toList

section
variable {prog : Program} {w : World} {h₀ : Heap} {mg mb : Str → Option Value} {f f1 f2 : Addr}
theorem two {g : Mem} {vs : List Value} {d1 d2 : PyData} (h : Dat [d1, d2] g vs) : ∃ v u, vs = [v, u] ∧ Rd g v d1 ∧ Rd g u d2 := by
  cases h with | cons h t => cases t with | cons h' t' => cases t'; exact ⟨_, _, rfl, h, h'⟩
theorem one {g : Mem} {vs : List Value} {d1 : PyData} (h : Dat [d1] g vs) : ∃ v, vs = [v] ∧ Rd g v d1 := by
  cases h with | cons h t => cases t; exact ⟨_, rfl, h⟩

theorem led_to (W : Wd h₀ mg mb) (F : FnAt h₀ mg "led_to" (parOf (stm 3)) (bodyOf (stm 3)) (scopeOf (stm 3)) f) (n1 : mg "place_of" = some (.ref f1)) (n2 : mg "range_places" = some (.ref f2))
    (S1 : ∀ r : Row, FnSpec prog w h₀ f1 2 (Dat [r.dat]) (D (od r.to)))
    (S2 : ∀ rs : List Rng, rs.length ≤ 1000 → FnSpec prog w h₀ f2 2 (Dat [.list (rs.map Rng.dat)]) (D (.list (nd (places rs)))))
    (rows : List Row) (rs : List Rng) (hrows : rows.length ≤ 1000) (hrs : rs.length ≤ 1000) :
    FnSpec prog w h₀ f 4 (Dat [.list (rows.map Row.dat), .list (rs.map Rng.dat)]) (PD prog w (putAll (rows.filterMap Row.to ++ places rs))) := by
  refine enter W F (by decide +kernel) (fun A hA s g hw hs vs hp cd => ?_)
  obtain ⟨v1, v2, rfl, rv1, rv2⟩ := two hp
  refine ⟨[("rows", v1), ("ranges", v2)], fun _ _ _ _ => rfl, locs rfl, fun L s1 S => ?_⟩
  refine S.assignDict W hw fun a o s2 ha ho Sd => ?_
  refine Sd.forList hA.1 (Ev.localD rfl rv1) (fun i g m mu => Agree ["row", "to"] (upd (fun y => List.lookup y [(("rows" : Str), v1), ("ranges", v2)].reverse) "found" (.ref a)) m ∧ ∃ ob, mu = [(a, ob)] ∧ ob.IsDictOf (intKind prog w) (TD (putAll ((rows.take i).filterMap Row.to))))
    (fun g' le => ⟨Agree.refl _ _, o, rfl, ho⟩) (fun i d hd g2 m2 mu2 u s3 it le2 j S3 ru => ?_) fun g2 m2 mu2 s3 le2 j S3 => ?_
  · obtain ⟨r, hr, rfl⟩ := map_get hd
    obtain ⟨hm, ob, rfl, hob⟩ := j
    have hm2 := hm.upd (x := "row") (v := u) (by decide)
    refine S3.assign (Ev.call W (hA.le (by decide)) (hw.trans le2) n1 (S1 r) (Evs.cons (Ev.localD rfl ru) Evs.nil)) fun ut g4 s4 S4 le4 rt => ?_
    have hm3 := hm2.upd (x := "to") (v := ut) (by decide)
    have hlen : (putAll ((rows.take i).filterMap Row.to)).length ≤ 1000 := by
      have e1 := putAll_length ((rows.take i).filterMap Row.to)
      have e2 := filterMap_len (rows.take i)
      have e3 := List.length_take_le' i rows
      omega
    refine execs_if0 S4 (Tr.cmp (Ev.localD (upd_self ..) (rt.mono S4.all)) Ev.none (Mono.d _) CmpOk.isNot) (fun e s5 S5 => ?_) fun e s5 S5 => ?_
    · rw [isNone_od] at e
      cases hto : r.to with
      | none => rw [hto] at e; exact no2 e
      | some t =>
      rw [hto] at rt
      refine St.put [it] [] S5 hob (Ev.local (hm3.get rfl (by decide)) fun _ _ => rfl) (k := t) (Ev.localD (upd_self ..) (rt.mono S5.all)) (by omega) fun ob' s6 hob' S6 => ?_
      refine wpAny_execs_nil (wpAny_execs_nil ?_)
      refine TurnEnd.next le4 ⟨hm3, _, rfl, ?_⟩ S6
      rw [take_succ_of hr, List.filterMap_append]
      have e2 : [r].filterMap Row.to = [t] := by simp [hto]
      rw [e2, putAll_snoc]; exact hob'
    · rw [isNone_od] at e
      cases hto : r.to with
      | some t => rw [hto] at e; exact no1 e
      | none =>
      refine wpAny_execs_nil ?_
      refine TurnEnd.next le4 ⟨hm3, _, rfl, ?_⟩ S5
      rw [take_succ_of hr, List.filterMap_append]
      have e2 : [r].filterMap Row.to = [] := by simp [hto]
      rw [e2, List.append_nil]; exact hob
  · obtain ⟨hm, ob, rfl, hob⟩ := j
    rw [List.length_map, List.take_length] at hob
    refine S3.forList hA.1 (Ev.call W (hA.le (by decide)) (hw.trans le2) n2 (S2 rs hrs) (Evs.cons (Ev.localD (hm.get rfl (by decide)) (rv2.mono le2)) Evs.nil))
      (fun i g m mu => Agree ["row", "to"] (upd (fun y => List.lookup y [(("rows" : Str), v1), ("ranges", v2)].reverse) "found" (.ref a)) m ∧ ∃ ob, mu = [(a, ob)] ∧ ob.IsDictOf (intKind prog w) (TD (putAll (rows.filterMap Row.to ++ (places rs).take i))))
      (fun g' le => ⟨hm, ob, rfl, by rw [List.take_zero, List.append_nil]; exact hob⟩) (fun i d hd g5 m5 mu5 u s5 it le5 j S5 ru => ?_) fun g5 m5 mu5 s5 le5 j S5 => ?_
    · obtain ⟨t, ht, rfl⟩ := map_get hd
      obtain ⟨hm5, ob5, rfl, hob5⟩ := j
      have hm6 := hm5.upd (x := "to") (v := u) (by decide)
      have hlen : (putAll (rows.filterMap Row.to ++ (places rs).take i)).length ≤ 4000 := by
        have e1 := putAll_length (rows.filterMap Row.to ++ (places rs).take i)
        have e2 := filterMap_len rows
        have e3 := List.length_take_le' i (places rs)
        have e4 := places_length rs
        rw [List.length_append] at e1
        omega
      refine St.put [it] [] S5 hob5 (Ev.local (hm6.get rfl (by decide)) fun _ _ => rfl) (k := t) (Ev.localD (upd_self ..) (ru.mono S5.all)) (by omega) fun ob' s6 hob' S6 => ?_
      refine wpAny_execs_nil ?_
      refine TurnEnd.next (Mem.le.refl _) ⟨hm6, _, rfl, ?_⟩ S6
      rw [take_succ_of ht, ← List.append_assoc, putAll_snoc]; exact hob'
    · obtain ⟨hm5, ob5, rfl, hob5⟩ := j
      unfold nd at hob5
      rw [List.length_map, List.take_length] at hob5
      have S6 := St.freeze (pre := []) S5
      exact S6.ret' (Ev.local (hm5.get rfl (by decide)) fun g' le => ⟨a, ob5, rfl, ha, le _ _ (Mem.add_self _ _ _), hob5⟩) fun v s7 q => q
end
def jumpAt (rows : List Row) (k : Nat) : Option Nat := match rows[k]? with
  | some (.jump t) => some t
  | _ => none
noncomputable def chase (rows : List Row) : Nat → List Nat → Nat → Nat
  | 0, _, to => to
  | n + 1, seen, to => match jumpAt rows to with
    | some t => if to ∈ seen then to else chase rows n (seen ++ [to]) t
    | none => to
noncomputable def ends (rows : List Row) (t : Nat) : Nat := chase rows (rows.length + 1) [] t
def moved : Row → Nat → Row
  | .jump _, t => .jump t
  | .jf _, t => .jf t
  | .jt _, t => .jt t
  | .start _, t => .start t
  | .step _, t => .step t
  | r, _ => r
noncomputable def threadRow (rows : List Row) (r : Row) : Row := match r with
  | .jump t => .jump (ends rows t)
  | .jf t => .jf (ends rows t)
  | .jt t => .jt (ends rows t)
  | r => r
noncomputable def thread (rows : List Row) : List Row := rows.map (threadRow rows)
theorem tag_shaped (r : Row) : SeqAt.shaped (st r.tag) = true := by cases r <;> (dsimp only [Row.tag]; decide +kernel)
theorem eq_jump (r : Row) : PyData.eqv (st r.tag) (st "jump") = r.isJump := by cases r <;> (dsimp only [Row.tag, Row.isJump]; decide +kernel)
theorem jumpAt_isSome {rows : List Row} {k : Nat} {r : Row} (h : rows[k]? = some r) : (jumpAt rows k).isSome = r.isJump := by
  unfold jumpAt; rw [h]; cases r <;> rfl
theorem jumpAt_some {rows : List Row} {k t : Nat} (h : jumpAt rows k = some t) : rows[k]? = some (.jump t) := by
  unfold jumpAt at h
  split at h
  · rename_i t' e; cases h; exact e
  · cases h
theorem jumpAt_lt {rows : List Row} {k t : Nat} (h : jumpAt rows k = some t) : k < rows.length := (List.getElem?_eq_some_iff.mp (jumpAt_some h)).1
theorem nodup_len : ∀ (n : Nat) (l : List Nat), l.Nodup → (∀ x ∈ l, x < n) → l.length ≤ n
  | 0, [], _, _ => Nat.le_refl _
  | 0, x :: _, _, h => absurd (h x (.head _)) (Nat.not_lt_zero _)
  | n + 1, l, hn, hb => by
    have h1 := nodup_len n (l.erase n) (hn.erase n) (fun x hx => by
      have h2 := (hn.mem_erase_iff).mp hx
      have := hb x h2.2
      have := h2.1
      omega)
    rw [List.length_erase] at h1
    split at h1 <;> omega
theorem map_getD {rows : List Row} {k : Nat} {r : Row} (h : rows[k]? = some r) : (rows.map Row.dat)[((k : Nat) : Int).toNat]? = some r.dat := by
  rw [Int.toNat_natCast, List.getElem?_map, h]; rfl

section
variable {prog : Program} {w : World} {h₀ : Heap} {mg mb : Str → Option Value} {f f1 f2 : Addr}

theorem moved_row (W : Wd h₀ mg mb) (F : FnAt h₀ mg "moved_row" (parOf (stm 5)) (bodyOf (stm 5)) (scopeOf (stm 5)) f) (r : Row) (t : Nat) (hr : r.isJ = true) :
    FnSpec prog w h₀ f 2 (Dat [r.dat, .int t]) (D (moved r t).dat) := by
  refine enter W F (by decide +kernel) (fun A hA s g hw hs vs hp cd => ?_)
  obtain ⟨v1, v2, rfl, rv1, rv2⟩ := two hp
  refine ⟨[("row", v1), ("to", v2)], fun _ _ _ _ => rfl, locs rfl, fun L s1 S => ?_⟩
  have hS : r.isS = false := by cases r <;> first | rfl | exact no2 hr
  refine execs_if0 S (Tr.isS hA (Ev.tag (Ev.localD rfl (rv1.mono S.all)))) (fun e s2 S2 => no2 (hS.symm.trans e)) fun e s2 S2 => ?_
  refine S2.ret' (Ev.tuple (Evs.cons (Ev.tag (r := r) (Ev.localD rfl rv1)) (Evs.cons (Ev.localD rfl rv2) (Evs.cons (Ev.last (r := r) (Ev.localD rfl rv1)) Evs.nil)))) fun v s3 q => ?_
  cases r <;> first | exact q | exact no2 hr

theorem threaded (W : Wd h₀ mg mb) (F : FnAt h₀ mg "threaded" (parOf (stm 6)) (bodyOf (stm 6)) (scopeOf (stm 6)) f) (n1 : mg "moved_row" = some (.ref f1)) (nl : mg "len" = none)
    (S1 : ∀ (r : Row) (t : Nat), r.isJ = true → FnSpec prog w h₀ f1 2 (Dat [r.dat, .int t]) (D (moved r t).dat))
    (rows : List Row) (hrows : rows.length ≤ 1000) :
    FnSpec prog w h₀ f 4 (Dat [.list (rows.map Row.dat)]) (D (.list ((thread rows).map Row.dat))) := by
  refine enter W F (by decide +kernel) (fun A hA s g hw hs vs hp cd => ?_)
  obtain ⟨v, rfl, rv⟩ := one hp
  refine ⟨[("rows", v)], fun _ _ _ _ => rfl, locs rfl, fun L s1 S => ?_⟩
  refine S.assignNew (EvNew.list Evs.nil) fun a us n g1 s2 S2 le1 r1 => ?_
  refine S2.forList hA.1 (Ev.localD rfl (rv.mono le1)) (fun i g m mu => Agree ["row", "seen", "to"] (upd (fun y => List.lookup y [(("rows" : Str), v)].reverse) "made" (.ref a)) m ∧ ∃ us n, mu = [(a, lstO us n)] ∧ RdAll g us (((thread rows).take i).map Row.dat))
    (fun g' le => ⟨Agree.refl _ _, us, n, rfl, r1.mono le⟩) (fun i d hd g2 m2 mu2 u s3 it le2 j S3 ru => ?_) fun g2 m2 mu2 s3 le2 j S3 => ?_
  · obtain ⟨r, hr, rfl⟩ := map_get hd
    obtain ⟨hm, us2, k2, rfl, rus⟩ := j
    have hm2 := hm.upd (x := "row") (v := u) (by decide)
    have lg : g.le g2 := le1.trans le2
    have hthr : (thread rows)[i]? = some (threadRow rows r) := by unfold thread; rw [List.getElem?_map, hr]; rfl
    have hlen : us2.length ≤ 1000 := by
      rw [rus.length, List.length_map]
      have e3 := List.length_take_le' i (thread rows)
      unfold thread at e3 ⊢; rw [List.length_map] at e3; omega
    -- what is behind the if
    have fin : ∀ (g5 : Mem) (m5 : Str → Option Value) (s5 : Shared) (u5 : Value), g2.le g5 → Agree ["row", "seen", "to"] (upd (fun y => List.lookup y [(("rows" : Str), v)].reverse) "made" (.ref a)) m5 → m5 "row" = some u5 → Rd g5 u5 (threadRow rows r).dat →
        St s g g5 L m5 [it, (a, lstO us2 k2)] s5 → wpAny (model prog w) A (execs (match bodyOf (stm 6) with | [_, .For _ _ b _ _, _] => b.drop 1 | _ => []) (envOf "threaded" (scopeOf (stm 6)) L f cd))
          (TurnEnd s g L g2 it (fun g m mu => Agree ["row", "seen", "to"] (upd (fun y => List.lookup y [(("rows" : Str), v)].reverse) "made" (.ref a)) m ∧ ∃ us n, mu = [(a, lstO us n)] ∧ RdAll g us (((thread rows).take (i + 1)).map Row.dat)) (fun fl s'' => Ret s g (D (.list ((thread rows).map Row.dat))) (flowVal fl) s'')) NoE s5 := by
      intro g5 m5 s5 u5 le5 hm5 hrow r5 S5
      refine St.append [it] [] S5 (hm5.get rfl (by decide)) (by omega) (Ev.localD hrow r5) fun v6 n6 g6 s6 S6 le6 r6 => ?_
      refine wpAny_execs_nil ?_
      refine TurnEnd.next (le5.trans le6) ⟨hm5, _, _, rfl, ?_⟩ S6
      rw [take_succ_of hthr, List.map_append]
      exact (rus.mono (le5.trans le6)).snoc r6
    refine execs_if0 S3 (Tr.isJ hA (Ev.tag (Ev.localD (upd_self ..) (ru.mono S3.all)))) (fun e s4 S4 => ?_) fun e s4 S4 => ?_
    · obtain ⟨t, ht⟩ : ∃ t : Nat, r.mid = .int t ∧ threadRow rows r = moved r (ends rows t) := by
        cases r <;> first | exact ⟨_, rfl, rfl⟩ | exact no2 e
      refine S4.assignDict W (hw.trans lg) fun sd so s5 hsd hso S5 => ?_
      have hm5 := hm2.upd (x := "seen") (v := .ref sd) (by decide)
      refine S5.assign (Ev.mid (r := r) (Ev.localD ((upd_ne (by decide)).trans (upd_self ..)) ru)) fun vt g6 s6 S6 le6 r6 => ?_
      rw [ht.1] at r6
      have lg6 : g.le g6 := lg.trans le6
      refine execs_while (fun fuel s7 => ∃ (sn : List Nat) (to : Nat) (m7 : Str → Option Value) (so7 : Obj) (vt7 : Value), Agree ["to"] (upd (upd (upd m2 "row" u) "seen" (.ref sd)) "to" vt) m7 ∧ m7 "to" = some vt7 ∧ Rd g6 vt7 (.int to) ∧
          so7.IsDictOf (intKind prog w) (TD (putAll sn)) ∧ St s g g6 L m7 [(sd, so7), it, (a, lstO us2 k2)] s7 ∧ sn.Nodup ∧ (∀ x ∈ sn, x < rows.length) ∧ fuel + sn.length = rows.length + 1 ∧ chase rows fuel sn to = ends rows t) (fun fuel s7 h7 => ?_) (rows.length + 1)
        ⟨[], t, _, so, vt, Agree.refl _ _, upd_self .., r6, hso, S6, List.nodup_nil, fun _ h => (nomatch h), rfl, rfl⟩
      obtain ⟨sn, to, m7, so7, vt7, hm7, hto, r7, hso7, S7, hnd, hbd, hfu, hch⟩ := h7
      have hsl := nodup_len _ _ hnd hbd
      obtain ⟨fuel', rfl⟩ : ∃ k, fuel = k + 1 := ⟨fuel - 1, by omega⟩
      have rrows : Rd (memOf s7.heap) v (.list (rows.map Row.dat)) := rv.mono (lg6.trans S7.all)
      have hrw : m7 "rows" = some v := by
        have e1 := hm7 "rows" (by decide)
        have e2 := (hm5.upd (x := "to") (v := vt) (by decide)) "rows" (by decide)
        exact e1.trans e2
      have hseen : m7 "seen" = some (.ref sd) := (hm7 "seen" (by decide)).trans ((upd_ne (by decide)).trans (upd_self ..))
      refine Tr.go (Tr.and3 (b := decide ((to : Int) < ((rows.map Row.dat).length : Nat))) (c := (jumpAt rows to).isSome) (d := !decide ((to : Int) ∈ putAll sn)) (Tr.cmp (Ev.localD hto (r7.mono S7.all)) (Ev.len W (hw.trans (lg6.trans S7.all)) nl (Ev.localD hrw rrows) (by rw [List.length_map]; omega)) (Mono.d _) CmpOk.lt) (fun hb => ?_) fun hb hc => ?_) (Mem.le.refl _) S7.ns (memOf_sub _) fun s8 g8 st8 => ?_
      · have hlt : to < rows.length := by have := of_decide_eq_true hb; rw [List.length_map] at this; omega
        have hget : rows[to]? = some rows[to] := List.getElem?_eq_getElem hlt
        rw [jumpAt_isSome hget]
        exact (Tr.cmp (Ev.tag (r := rows[to]) (Ev.item (Ev.localD hrw rrows) (Ev.localD hto (r7.mono S7.all)) (by omega) (by omega) (map_getD hget))) Ev.str (Mono.d _) (CmpOk.eq hA (tag_shaped _) (by decide +kernel))).cast (eq_jump _)
      · exact Tr.cmp (Ev.localD hto (r7.mono S7.all)) (Ev.local hseen fun g' le => ⟨sd, so7, rfl, hsd, le _ _ (S7.reads (.head _)), hso7⟩) (Mono.d _) CmpOk.notInD
      · have S8 := S7.keep st8
        have other : chase rows (fuel' + 1) sn to = to → wpAny (model prog w) A (execs (match bodyOf (stm 6) with | [_, .For _ _ [.If _ b _ _, _] _ _, _] => b.drop 3 | _ => []) (envOf "threaded" (scopeOf (stm 6)) L f cd))
            (fun fl s2 => match fl with
              | .next => wpAny (model prog w) A (execs (match bodyOf (stm 6) with | [_, .For _ _ b _ _, _] => b.drop 1 | _ => []) (envOf "threaded" (scopeOf (stm 6)) L f cd)) (TurnEnd s g L g2 it (fun g m mu => Agree ["row", "seen", "to"] (upd (fun y => List.lookup y [(("rows" : Str), v)].reverse) "made" (.ref a)) m ∧ ∃ us n, mu = [(a, lstO us n)] ∧ RdAll g us (((thread rows).take (i + 1)).map Row.dat)) (fun fl s'' => Ret s g (D (.list ((thread rows).map Row.dat))) (flowVal fl) s'')) NoE s2
              | fl => TurnEnd s g L g2 it (fun g m mu => Agree ["row", "seen", "to"] (upd (fun y => List.lookup y [(("rows" : Str), v)].reverse) "made" (.ref a)) m ∧ ∃ us n, mu = [(a, lstO us n)] ∧ RdAll g us (((thread rows).take (i + 1)).map Row.dat)) (fun fl s'' => Ret s g (D (.list ((thread rows).map Row.dat))) (flowVal fl) s'') fl s2) NoE s8 := by
          intro hto2
          have hend : ends rows t = to := hch.symm.trans hto2
          have hrow7 : m7 "row" = some u := (hm7 "row" (by decide)).trans ((upd_ne (by decide)).trans ((upd_ne (by decide)).trans (upd_self ..)))
          refine S8.assign (Ev.call W (hA.le (by decide)) (hw.trans lg6) n1 (S1 r to e) (Evs.cons (Ev.localD hrow7 (ru.mono le6)) (Evs.cons (Ev.localD hto r7) Evs.nil))) fun v9 g9 s9 S9 le9 r9 => ?_
          refine wpAny_execs_nil ?_
          have S10 := St.drop (pre := []) S9
          refine fin g9 _ s9 v9 (le6.trans le9) (fun y hy => ?_) (upd_self ..) (by rw [ht.2, hend]; exact r9) S10
          have y1 : y ≠ "row" := fun q => hy (by rw [q]; decide)
          have y2 : y ≠ "to" := fun q => hy (by rw [q]; decide)
          rw [upd_ne y1, hm7 y (by simpa using y2), upd_ne y2]
          exact hm5 y hy
        cases hj : jumpAt rows to with
        | none =>
          rw [if_neg (by simp)]
          exact other (by unfold chase; rw [hj])
        | some t' =>
          have hlt := jumpAt_lt hj
          by_cases hin : to ∈ sn
          · have hin2 : (to : Int) ∈ putAll sn := mem_putAll.mpr ⟨to, hin, rfl⟩
            rw [if_neg (by simp [hin2])]
            exact other (by unfold chase; rw [hj]; simp [hin])
          · have hin2 : ¬ (to : Int) ∈ putAll sn := fun q => by
              obtain ⟨x, hx, e⟩ := mem_putAll.mp q
              have : x = to := by omega
              exact hin (this ▸ hx)
            rw [if_pos (by simp [hin2]; omega)]
            have hlen2 : (putAll sn).length ≤ 1000 := Nat.le_trans (putAll_length sn) (by omega)
            refine St.put [] [it, (a, lstO us2 k2)] S8 hso7 (Ev.local hseen fun _ _ => rfl) (k := to) (Ev.localD hto (r7.mono S8.all)) (by omega) fun so9 s9 hso9 S9 => ?_
            refine St.assignA S9 (Ev.mid (r := .jump t') (Ev.item (Ev.localD hrw (rv.mono (lg6.trans S9.all))) (Ev.localD hto (r7.mono S9.all)) (by omega) (by omega) (map_getD (jumpAt_some hj)))) trivial fun v10 s10 S10 r10 => ?_
            refine wpAny_execs_nil ?_
            refine ⟨fuel', Nat.lt_succ_self _, sn ++ [to], t', _, so9, v10, hm7.upd (by decide), upd_self .., r10, by rw [putAll_snoc]; exact hso9, S10, ?_, ?_, ?_, ?_⟩
            · exact List.nodup_append.mpr ⟨hnd, by simp, fun x hx y hy e => by rw [List.mem_singleton.mp hy] at e; exact hin (e ▸ hx)⟩
            · intro x hx
              rcases List.mem_append.mp hx with hx | hx
              · exact hbd x hx
              · rw [List.mem_singleton.mp hx]; exact hlt
            · rw [List.length_append]; simp; omega
            · rw [← hch]; conv => rhs; unfold chase
              rw [hj]; simp [hin]
    · have et : threadRow rows r = r := by cases r <;> first | rfl | exact no1 e
      exact fin g2 _ s4 u (Mem.le.refl _) hm2 (upd_self ..) (by rw [et]; exact ru) S4
  · obtain ⟨hm, us2, k2, rfl, rus⟩ := j
    have e1 : (thread rows).take (rows.map Row.dat).length = thread rows := by
      apply List.take_of_length_le; unfold thread; rw [List.length_map, List.length_map]; exact Nat.le_refl _
    rw [e1] at rus
    have S4 := St.freeze (pre := []) S3
    refine S4.ret' (Ev.localD (hm.get rfl (by decide)) (.list (Mem.add_self _ _ _) (rus.mono (Mem.le_add (S3.own _ (.head _)).2.2.2)))) fun v s5 q => q
end
def Row.stops : Row → Bool
  | .jump _ | .fail => true
  | _ => false
def ways (r : Row) (k : Nat) : List Nat := (if r.stops then [] else [k + 1]) ++ r.to.toList
inductive Reach (rows : List Row) (roots : List Nat) : Nat → Prop
  | root {t : Nat} : t ∈ roots → t < rows.length → Reach rows roots t
  | next {k x : Nat} {r : Row} : Reach rows roots k → rows[k]? = some r → x ∈ ways r k → x < rows.length → Reach rows roots x
theorem Reach.lt {rows : List Row} {roots : List Nat} {k : Nat} (h : Reach rows roots k) : k < rows.length := by cases h <;> assumption
theorem any_jf (r : Row) : ([st "jump", st "fail"].any fun y => PyData.eqv y (st r.tag)) = r.stops := by cases r <;> (dsimp only [Row.tag, Row.stops]; decide +kernel)
theorem RdAll.snoc_inv {g : Mem} {d : PyData} : ∀ {us : List Value} {ds : List PyData}, RdAll g us (ds ++ [d]) → ∃ us' v, us = us' ++ [v] ∧ RdAll g us' ds ∧ Rd g v d
  | us, [], h => by cases h with | cons h t => cases t; exact ⟨[], _, rfl, .nil, h⟩
  | us, e :: ds, h => by
    cases h with
    | cons h t =>
      obtain ⟨us', v, rfl, r, q⟩ := RdAll.snoc_inv t
      exact ⟨_ :: us', v, rfl, .cons h r, q⟩

/-- what the search has found and what it has left to do; at is under way -/
structure Seek (rows : List Row) (roots : List Nat) (sn ls : List Nat) (at' : Nat) : Prop where
  nd : sn.Nodup
  sound : ∀ x ∈ sn, Reach rows roots x
  left : ∀ x ∈ ls, x < rows.length → Reach rows roots x
  here : at' < rows.length → Reach rows roots at'
  root : ∀ x ∈ roots, x < rows.length → x ∈ sn ∨ x ∈ ls ∨ x = at'
  next : ∀ x ∈ sn, ∀ r, rows[x]? = some r → ∀ y ∈ ways r x, y < rows.length → y ∈ sn ∨ y ∈ ls ∨ y = at'
theorem Seek.init {rows : List Row} {roots : List Nat} : Seek rows roots [] roots rows.length :=
  ⟨List.nodup_nil, fun _ h => (nomatch h), fun x hx hl => .root hx hl, fun h => absurd h (Nat.lt_irrefl _), fun x hx _ => .inr (.inl hx), fun _ h => (nomatch h)⟩
theorem Seek.pop {rows : List Row} {roots sn ls : List Nat} {a x : Nat} (S : Seek rows roots sn (ls ++ [x]) a) (ha : ¬ a < rows.length ∨ a ∈ sn) : Seek rows roots sn ls x := by
  have old : ∀ y, y < rows.length → y ∈ sn ∨ y ∈ ls ++ [x] ∨ y = a → y ∈ sn ∨ y ∈ ls ∨ y = x := by
    rintro y hy (h | h | rfl)
    · exact .inl h
    · rcases List.mem_append.mp h with h | h
      · exact .inr (.inl h)
      · exact .inr (.inr (List.mem_singleton.mp h))
    · rcases ha with h | h
      · exact absurd hy h
      · exact .inl h
  exact ⟨S.nd, S.sound, fun y hy => S.left y (List.mem_append_left _ hy), S.left x (by simp), fun y hy hl => old y hl (S.root y hy hl), fun y hy r hr z hz hl => old z hl (S.next y hy r hr z hz hl)⟩
theorem Seek.go {rows : List Row} {roots sn ls : List Nat} {a : Nat} {r : Row} (S : Seek rows roots sn ls a) (hr : rows[a]? = some r) (hn : a ∉ sn) :
    Seek rows roots (sn ++ [a]) (ls ++ r.to.toList) (if r.stops then rows.length else a + 1) := by
  have hlt : a < rows.length := (List.getElem?_eq_some_iff.mp hr).1
  have ra := S.here hlt
  have old : ∀ y, y < rows.length → y ∈ sn ∨ y ∈ ls ∨ y = a → y ∈ sn ++ [a] ∨ y ∈ ls ++ r.to.toList ∨ y = (if r.stops then rows.length else a + 1) := by
    rintro y hy (h | h | rfl)
    · exact .inl (List.mem_append_left _ h)
    · exact .inr (.inl (List.mem_append_left _ h))
    · exact .inl (by simp)
  refine ⟨List.nodup_append.mpr ⟨S.nd, by simp, fun x hx y hy e => by rw [List.mem_singleton.mp hy] at e; exact hn (e ▸ hx)⟩, fun x hx => ?_, fun x hx hl => ?_, fun hl => ?_, fun x hx hl => old x hl (S.root x hx hl), fun x hx r' hr' y hy hl => ?_⟩
  · rcases List.mem_append.mp hx with hx | hx
    · exact S.sound x hx
    · rw [List.mem_singleton.mp hx]; exact ra
  · rcases List.mem_append.mp hx with hx | hx
    · exact S.left x hx hl
    · exact .next ra hr (List.mem_append_right _ hx) hl
  · cases hs : r.stops with
    | true => rw [hs] at hl; exact absurd hl (Nat.lt_irrefl _)
    | false =>
      rw [hs] at hl
      exact .next ra hr (List.mem_append_left _ (by rw [hs]; simp)) hl
  · rcases List.mem_append.mp hx with hx | hx
    · exact old y hl (S.next x hx r' hr' y hy hl)
    · rw [List.mem_singleton.mp hx] at hr' hy
      rw [hr] at hr'; cases hr'
      rcases List.mem_append.mp hy with hy | hy
      · cases hs : r.stops with
        | true => rw [hs] at hy; cases hy
        | false =>
          rw [hs] at hy
          exact .inr (.inr (by simpa using hy))
      · exact .inr (.inl (List.mem_append_right _ hy))
theorem Seek.done {rows : List Row} {roots sn : List Nat} {a : Nat} (S : Seek rows roots sn [] a) (ha : ¬ a < rows.length ∨ a ∈ sn) (x : Nat) : x ∈ sn ↔ Reach rows roots x := by
  have pick : ∀ y, y < rows.length → y ∈ sn ∨ y ∈ ([] : List Nat) ∨ y = a → y ∈ sn := by
    rintro y hy (h | h | rfl)
    · exact h
    · cases h
    · rcases ha with h | h
      · exact absurd hy h
      · exact h
  refine ⟨S.sound x, fun h => ?_⟩
  induction h with
  | root ht hl => exact pick _ hl (S.root _ ht hl)
  | next hk hr hx hl ih => exact pick _ hl (S.next _ ih _ hr _ hx hl)
theorem Seek.len {rows : List Row} {roots sn ls : List Nat} {a : Nat} (S : Seek rows roots sn ls a) : sn.length ≤ rows.length := nodup_len _ _ S.nd fun x hx => (S.sound x hx).lt

/-- a dict whose keys are the places that are reached -/
def ReachD (prog : Program) (w : World) (rows : List Row) (roots : List Nat) : Mem → Value → Prop := fun g v => ∃ ks, PD prog w ks g v ∧ ∀ k : Int, k ∈ ks ↔ ∃ n : Nat, (n : Int) = k ∧ Reach rows roots n

section
variable {prog : Program} {w : World} {h₀ : Heap} {mg mb : Str → Option Value} {f f1 f2 : Addr}
theorem reached (W : Wd h₀ mg mb) (F : FnAt h₀ mg "reached" (parOf (stm 7)) (bodyOf (stm 7)) (scopeOf (stm 7)) f) (n1 : mg "place_of" = some (.ref f1)) (n2 : mg "range_places" = some (.ref f2)) (nl : mg "len" = none)
    (S1 : ∀ r : Row, FnSpec prog w h₀ f1 2 (Dat [r.dat]) (D (od r.to)))
    (S2 : ∀ rs : List Rng, rs.length ≤ 1000 → FnSpec prog w h₀ f2 2 (Dat [.list (rs.map Rng.dat)]) (D (.list (nd (places rs)))))
    (rows : List Row) (rs : List Rng) (hrows : rows.length ≤ 1000) (hrs : rs.length ≤ 1000) :
    FnSpec prog w h₀ f 4 (Dat [.list (rows.map Row.dat), .list (rs.map Rng.dat)]) (ReachD prog w rows (0 :: places rs)) := by
  refine enter W F (by decide +kernel) (fun A hA s g hw hs vs hp cd => ?_)
  obtain ⟨v1, v2, rfl, rv1, rv2⟩ := two hp
  refine ⟨[("rows", v1), ("ranges", v2)], fun _ _ _ _ => rfl, locs rfl, fun L s1 S => ?_⟩
  refine S.assignDict W hw fun fa fo s2 hfa hfo S2' => ?_
  have hpl := places_length rs
  refine S2'.assignNew (EvNew.cat (Ev.list (Evs.cons Ev.int Evs.nil)) (Ev.call W (hA.le (by decide)) hw n2 (S2 rs hrs) (Evs.cons (Ev.localD rfl rv2) Evs.nil)) (by unfold nd; rw [List.length_map]; simp; omega)) fun la lus ln g3 s3 S3 le3 r3 => ?_
  have r3' : RdAll g3 lus (nd (0 :: places rs)) := r3
  refine execs_while (fun fuel s4 => ∃ (sn ls : List Nat) (a : Nat) (m4 : Str → Option Value) (fo4 : Obj) (us4 : List Value) (n4 : Nat) (g4 : Mem), Mem.le g3 g4 ∧ Agree ["at", "to"] (upd (upd (fun y => List.lookup y [(("rows" : Str), v1), ("ranges", v2)].reverse) "found" (.ref fa)) "left" (.ref la)) m4 ∧
      fo4.IsDictOf (intKind prog w) (TD (putAll sn)) ∧ RdAll g4 us4 (nd ls) ∧ St s g g4 L m4 [(la, lstO us4 n4), (fa, fo4)] s4 ∧ Seek rows (0 :: places rs) sn ls a ∧ (¬ a < rows.length ∨ a ∈ sn) ∧ fuel = 2 * (rows.length - sn.length) + ls.length ∧ fuel ≤ 5000) (fun fuel s4 h4 => ?_) (2 * rows.length + (0 :: places rs).length)
    ⟨[], 0 :: places rs, rows.length, _, fo, lus, ln, g3, Mem.le.refl _, Agree.refl _ _, hfo, r3', S3, Seek.init, .inl (Nat.lt_irrefl _), by simp, by rw [List.length_cons]; omega⟩
  obtain ⟨sn, ls, a, m4, fo4, us4, n4, g4, le4, hm4, hfo4, rus4, S4, K4, ha4, hfu, hfb⟩ := h4
  have hul : us4.length = ls.length := by rw [rus4.length]; unfold nd; rw [List.length_map]
  have hsl := K4.len
  have lg4 : g.le g4 := le3.trans le4
  have hleft : m4 "left" = some (.ref la) := hm4.get (upd_self ..) (by decide)
  have hfound : ∀ {m : Str → Option Value}, Agree ["at", "to"] (upd (upd (fun y => List.lookup y [(("rows" : Str), v1), ("ranges", v2)].reverse) "found" (.ref fa)) "left" (.ref la)) m → m "found" = some (.ref fa) := fun h => h.get ((upd_ne (by decide)).trans (upd_self ..)) (by decide)
  refine Tr.go (Tr.cmp (Ev.len W (hw.trans (lg4.trans S4.all)) nl (Ev.localD hleft (.list (S4.reads (.head _)) (rus4.mono S4.all))) (by unfold nd; rw [List.length_map]; omega)) Ev.int (Mono.d _) CmpOk.gt) (Mem.le.refl _) S4.ns (memOf_sub _) fun s5 g5 st5 => ?_
  have S5 := S4.keep st5
  rcases List.eq_nil_or_concat ls with rfl | ⟨ls', x, rfl⟩
  · rw [if_neg (by simp [nd])]
    have S6 := St.freeze (pre := [(la, lstO us4 n4)]) S5
    refine S6.ret' (Ev.local (hfound hm4) fun g' le => ⟨putAll sn, ⟨fa, fo4, rfl, hfa, le _ _ (Mem.add_self _ _ _), hfo4⟩, fun k => ?_⟩) fun v s q => q
    rw [mem_putAll]
    exact ⟨fun ⟨n, h, e⟩ => ⟨n, e, (K4.done ha4 n).mp h⟩, fun ⟨n, e, h⟩ => ⟨n, (K4.done ha4 n).mpr h, e⟩⟩
  · rw [List.concat_eq_append] at rus4 K4 hul hfu
    rw [if_pos (by simp [nd])]
    rw [nd_append] at rus4
    obtain ⟨us', v, rfl, rus', rv'⟩ := rus4.snoc_inv
    rw [List.length_append] at hfu
    simp only [List.length_append, List.length_cons, List.length_nil] at hul hfu
    refine St.popTo [] [(fa, fo4)] S5 hleft (by omega) fun n6 s6 S6 => ?_
    refine execs_while (fun fuel7 s7 => ∃ (sn ls : List Nat) (a : Nat) (m7 : Str → Option Value) (fo7 : Obj) (us7 : List Value) (n7 : Nat) (g7 : Mem) (va : Value), Mem.le g4 g7 ∧ Agree ["at", "to"] (upd (upd (fun y => List.lookup y [(("rows" : Str), v1), ("ranges", v2)].reverse) "found" (.ref fa)) "left" (.ref la)) m7 ∧
        fo7.IsDictOf (intKind prog w) (TD (putAll sn)) ∧ RdAll g7 us7 (nd ls) ∧ St s g g7 L m7 [(la, lstO us7 n7), (fa, fo7)] s7 ∧ Seek rows (0 :: places rs) sn ls a ∧ m7 "at" = some va ∧ Rd g7 va (.int a) ∧ 2 * (rows.length - sn.length) + ls.length + 1 ≤ fuel ∧ fuel7 = rows.length - sn.length) (fun fuel7 s7 h7 => ?_) (rows.length - sn.length)
      ⟨sn, ls', x, _, fo4, us', n6, g4, v, Mem.le.refl _, hm4.upd (by decide), hfo4, rus', S6, K4.pop ha4, upd_self .., rv', by omega, rfl⟩
    obtain ⟨sn7, ls7, a7, m7, fo7, us7, n7, g7, va, le7, hm7, hfo7, rus7, S7, K7, hat, rva, hle7, hfu7⟩ := h7
    have hul7 : us7.length = ls7.length := by rw [rus7.length]; unfold nd; rw [List.length_map]
    have lg7 : g.le g7 := lg4.trans le7
    have hrw7 : ∀ {m : Str → Option Value}, Agree ["at", "to"] (upd (upd (fun y => List.lookup y [(("rows" : Str), v1), ("ranges", v2)].reverse) "found" (.ref fa)) "left" (.ref la)) m → m "rows" = some v1 := fun h => h.get ((upd_ne (by decide)).trans ((upd_ne (by decide)).trans rfl)) (by decide)
    refine Tr.go (Tr.and2 (b := decide ((a7 : Int) < ((rows.map Row.dat).length : Nat))) (c := !decide ((a7 : Int) ∈ putAll sn7)) (Tr.cmp (Ev.localD hat (rva.mono S7.all)) (Ev.len W (hw.trans (lg7.trans S7.all)) nl (Ev.localD (hrw7 hm7) (rv1.mono (lg7.trans S7.all))) (by rw [List.length_map]; omega)) (Mono.d _) CmpOk.lt) (fun hb => ?_)) (Mem.le.refl _) S7.ns (memOf_sub _) fun s8 g8 st8 => ?_
    · exact Tr.cmp (Ev.localD hat (rva.mono S7.all)) (Ev.local (hfound hm7) fun g' le => ⟨fa, fo7, rfl, hfa, le _ _ (S7.reads (.tail _ (.head _))), hfo7⟩) (Mono.d _) CmpOk.notInD
    · have S8 := S7.keep st8
      rw [List.length_map]
      by_cases hgo : a7 < rows.length ∧ a7 ∉ sn7
      case neg =>
        have hstop : ¬ a7 < rows.length ∨ a7 ∈ sn7 := by
          by_cases h1 : a7 < rows.length
          · exact .inr (Classical.not_not.mp fun h2 => hgo ⟨h1, h2⟩)
          · exact .inl h1
        rw [if_neg (by
          rcases hstop with h | h
          · simp; intro q; omega
          · have : (a7 : Int) ∈ putAll sn7 := mem_putAll.mpr ⟨a7, h, rfl⟩
            simp [this])]
        refine wpAny_execs_nil ?_
        exact ⟨2 * (rows.length - sn7.length) + ls7.length, by omega, sn7, ls7, a7, m7, fo7, us7, n7, g7, le4.trans le7, hm7, hfo7, rus7, S8, K7, hstop, rfl, by omega⟩
      case pos =>
        obtain ⟨hlt, hni⟩ := hgo
        have hni2 : ¬ (a7 : Int) ∈ putAll sn7 := fun q => by
          obtain ⟨y, hy, e⟩ := mem_putAll.mp q
          have : y = a7 := by omega
          exact hni (this ▸ hy)
        rw [if_pos (by simp [hni2]; omega)]
        have hget : rows[a7]? = some rows[a7] := List.getElem?_eq_getElem hlt
        generalize rows[a7] = r at hget
        have K9 := K7.go hget hni
        have hl9 := K9.len
        rw [List.length_append, List.length_cons, List.length_nil] at hl9
        have hto1 : r.to.toList.length ≤ 1 := by cases r.to <;> simp
        have hlen2 : (putAll sn7).length ≤ 1000 := Nat.le_trans (putAll_length sn7) (by omega)
        refine St.put [(la, lstO us7 n7)] [] S8 hfo7 (Ev.local (hfound hm7) fun _ _ => rfl) (k := a7) (Ev.localD hat (rva.mono S8.all)) (by omega) fun fo9 s9 hfo9 S9 => ?_
        refine St.assign S9 (Ev.call W (hA.le (by decide)) (hw.trans lg7) n1 (S1 r) (Evs.cons (Ev.item (Ev.localD (hrw7 hm7) (rv1.mono lg7)) (Ev.localD hat rva) (by omega) (by omega) (map_getD hget)) Evs.nil)) fun vt g10 s10 S10 le10 rt => ?_
        have hm10 := hm7.upd (x := "to") (v := vt) (by decide)
        have hat10 : upd m7 "to" vt "at" = some va := (upd_ne (by decide)).trans hat
        have rva10 := rva.mono le10
        rw [← putAll_snoc] at hfo9
        refine execs_ifX (fun s11 => ∃ us11 n11, RdAll g10 us11 (nd (ls7 ++ r.to.toList)) ∧ St s g g10 L (upd m7 "to" vt) [(la, lstO us11 n11), (fa, fo9)] s11) S10 (Tr.cmp (Ev.localD (upd_self ..) (rt.mono S10.all)) Ev.none (Mono.d _) CmpOk.isNot) (fun e s11 S11 => ?_) (fun e s11 S11 => ?_) fun s12 h12 => ?_
        · rw [isNone_od] at e
          cases hto : r.to with
          | none => rw [hto] at e; exact no2 e
          | some t =>
            rw [hto] at rt
            refine appendOwn [] [(fa, fo9)] S11 (hm10.get (upd_self ..) (by decide)) (by omega) (d := .int t) trivial (Ev.localD (upd_self ..) (rt.mono S11.all)) fun v12 n12 s12 S12 r12 => ?_
            refine wpAny_execs_nil ⟨rfl, _, _, ?_, S12⟩
            rw [nd_append]; exact (rus7.mono le10).snoc r12
        · rw [isNone_od] at e
          cases hto : r.to with
          | some t => rw [hto] at e; exact no1 e
          | none => exact ⟨us7, n7, by simpa using rus7.mono le10, S11⟩
        · obtain ⟨us12, n12, r12, S12⟩ := h12
          refine St.assignA (d := .int ((if r.stops then rows.length else a7 + 1 : Nat) : Int)) S12 (Ev.ifexp (b := r.stops) ?_ (fun e => ?_) fun e => ?_) trivial fun v13 s13 S13 r13 => ?_
          · exact (Tr.cmp (Ev.tag (r := r) (Ev.item (Ev.localD (hrw7 hm10) (rv1.mono (lg7.trans (le10.trans S12.all)))) (Ev.localD hat10 (rva10.mono S12.all)) (by omega) (by omega) (map_getD hget))) (Ev.tuple (Evs.cons Ev.str (Evs.cons Ev.str Evs.nil))) (Mono.d _) (CmpOk.inTup hA (by decide +kernel) (tag_lay r) (by decide +kernel))).cast (any_jf r)
          · exact Ev.castD (Ev.len W (hw.trans (lg7.trans (le10.trans S12.all))) nl (Ev.localD (hrw7 hm10) (rv1.mono (lg7.trans (le10.trans S12.all)))) (by rw [List.length_map]; omega)) (by rw [e, if_pos rfl, List.length_map])
          · exact Ev.castD (Ev.add (Ev.localD hat10 (rva10.mono S12.all)) Ev.int) (by rw [e, if_neg (by decide)]; rfl)
          · refine wpAny_execs_nil ?_
            exact ⟨rows.length - (sn7 ++ [a7]).length, by rw [List.length_append, List.length_cons, List.length_nil]; omega, sn7 ++ [a7], ls7 ++ r.to.toList, _, _, fo9, us12, n12, g10, v13, le7.trans le10, hm10.upd (by decide), hfo9, r12, S13, K9, upd_self .., r13, by rw [List.length_append, List.length_append, List.length_cons, List.length_nil]; omega, rfl⟩
end
def initOf : Stmt → Stmt
  | .ClassDef _ _ _ b _ _ _ _ _ _ _ => b.getD 0 (.Pass ⟨0, 0, 0, 0⟩)
  | _ => .Pass ⟨0, 0, 0, 0⟩
abbrev ini : Stmt := initOf (stm 9)

structure CodeCls (h₀ : Heap) (mg : Str → Option Value) (K : Frag) (C fI : Addr) : Prop where
  kin : K.In h₀
  name : mg "Code" = some (.ref C)
  makes : makesIn K C = true
  init : findIn K (.ref C) "__init__" = some (some (.ref fI))
  initFn : typeIn K (.ref fI) = some (.type "function")
  setattr : findIn K (.ref C) "__setattr__" = some (some (.builtin "object.__setattr__"))
  over : plainOver K C = true
  dict : hasDictIn K C = true
  keep : keepIn K (.ref C) = true
  taker : ∀ n ∈ ([("rows" : Str), "ranges", "names", "sources", "epoch"] : List Str), takerIn K C n = some none
  plain : ∀ n ∈ ([("rows" : Str), "ranges"] : List Str), plainGet K C n = true
  find : ∀ n ∈ ([("rows" : Str), "ranges"] : List Str), findIn K (.ref C) n = some none
  fn : ∃ oc od osl doc pm an cd ct, h₀.get? fI = some (⟨oc, od, .func (fnOf "__init__" "Code.__init__" (parOf ini) (bodyOf ini) (scopeOf ini) .none .none doc pm an cd ct), osl⟩ : Obj) ∧ h₀.CodeRec cd "Code.__init__"

/-- an object of Code -/
def PCode (C : Addr) (v1 v2 : Value) : Mem → Value → Prop := fun g v => ∃ x dx es n, v = .ref x ∧ g x = some (instObj C dx) ∧ g dx = some (dictOf es n) ∧ getL "rows" es = some (some v1) ∧ getL "ranges" es = some (some v2)
theorem Mono.pcode (C : Addr) (v1 v2 : Value) : Mono (PCode C v1 v2) := fun g g' v k ⟨x, dx, es, n, e, h1, h2, h3⟩ => ⟨x, dx, es, n, e, k _ _ h1, k _ _ h2, h3⟩

section
variable {prog : Program} {w : World} {A : Around} {h₀ : Heap} {mg mb : Str → Option Value} {K : Frag} {C fI : Addr} {s : Shared} {g : Mem}

theorem store1 {B : Heap} {L x dx a : Addr} {m : Str → Option Value} {es : List DictEntry} {n : Nat} {name y : Str} {p1 p2 p3 pos : Pos} {v : Value} {Q : Flow → Shared → Prop} {cd : Value} {rest : List Stmt} {sc : Scope} (c : CodeCls h₀ mg K C fI) (X : K.In B)
    (F : Fr B L s.heap m) (N : News B L s.heap [(x, instObj C dx), (dx, dictOf es n)]) (hxd : x ≠ dx) (hself : m "self" = some (.ref x)) (hy : m y = some v) (hname : name ∈ ([("rows" : Str), "ranges", "names", "sources", "epoch"] : List Str))
    (hl : (getL name es).isSome = true) (hz : ∀ k, (putL name (PyData.keyHash w.params name) (.str name k) v es).length ≤ 1000)
    (next : ∀ k h' tk, Fr B L h' m → News B L h' [(x, instObj C dx), (dx, dictOf (putL name (PyData.keyHash w.params name) (.str name k) v es) (putN name es n))] → wpAny (model prog w) A (execs rest (envOf "Code.__init__" sc L a cd)) Q NoE { s with heap := h', toks := tk })
    (hk : sc.kind = .function := by rfl) (hls : (envOf "Code.__init__" sc L a cd).kindOf "self" = some .local := by rfl) (hly : (envOf "Code.__init__" sc L a cd).kindOf y = some .local := by rfl)
    (hdy : (y == ("__debug__" : Str)) = false := by decide)
    (hs : swapsWith (.Name y p3) (some (.Attribute (.Name "self" p1) name p2)) pos.line (envOf "Code.__init__" sc L a cd) = pure false := by rfl) :
    wpAny (model prog w) A (execs (.Assign [.Attribute (.Name "self" p1) name p2] (.Name y p3) pos :: rest) (envOf "Code.__init__" sc L a cd)) Q NoE s := by
  refine wpAny_execs_cons (plainObj_wpAny_Assign_Attribute (ld F hy (ld F hself ?_ hk hls) hk hly hdy) hs)
  have hne : ∀ p ∈ ([(x, instObj C dx)] : List (Addr × Obj)), p.1 ≠ dx := fun p hp => by rw [List.mem_singleton.mp hp]; exact hxd
  exact set_dict F X N (InstAt.of_news N (.head _) (.tail _ (.head _))) rfl c.setattr c.over (c.taker _ hname) c.dict hl rfl (.tail hxd (.head (fun _ h => (nomatch h)))) (hz _) fun h' F' N' => next _ h' _ F' N'

theorem code_make (c : CodeCls h₀ mg K C fI) (W : Wd h₀ mg mb) {k : Nat} (hA : Ok (k + 2) A) (hw : Mem.le (memOf h₀) g) (hs : g.sub s.heap) (v1 v2 v3 v4 v5 : Value) :
    wpAny (model prog w) A (call (.ref C) [v1, v2, v3, v4, v5]) (Ret s g (PCode C v1 v2)) NoE s := by
  have hup := up_of hw hs
  have X : K.In s.heap := c.kin.keeps hup
  obtain ⟨oc, od, osl, doc, pm, an, cd, ct, ho, hcd⟩ := c.fn
  refine wpAny_call ?_
  obtain ⟨hh, gg, d, t, os⟩ := s
  refine make_core (makes_of X c.makes) (looks_findIn X c.init) (fun self => bind_fn X self c.initFn) (.inl rfl) ?_
  have k1 : ∀ b o, hh.get? b = some o → ((hh.push emptyDict).push (instObj C hh.objs.size)).get? b = some o := fun b o e => Heap.get?_push_of_some _ (Heap.get?_push_of_some _ e)
  have hx : ((hh.push emptyDict).push (instObj C hh.objs.size)).get? (hh.objs.size + 1) = some (instObj C hh.objs.size) := by
    have := Heap.get?_push_size (hh.push emptyDict) (o := instObj C hh.objs.size) rfl
    rwa [Heap.size_push] at this
  have hdx : ((hh.push emptyDict).push (instObj C hh.objs.size)).get? hh.objs.size = some emptyDict := Heap.get?_push_of_some _ (Heap.get?_push_size _ rfl)
  refine codeAny_call_def (fd := fnOf "__init__" "Code.__init__" (parOf ini) (bodyOf ini) (scopeOf ini) .none .none doc pm an cd ct) (body := bodyOf ini) (binds := [("self", .ref (hh.objs.size + 1)), ("rows", v1), ("ranges", v2), ("names", v3), ("sources", v4), ("epoch", v5)]) ?_ (k1 _ _ (hup _ _ ho)) rfl ((W.nolimit.keeps hup).keeps k1) ((hcd.keeps hup).keeps k1) rfl (BindsTo.of_eq rfl) (show ∀ x ∈ (scopeOf ini).names, x.2 ≠ .cell by decide +kernel) (locs rfl) (fun h₁ hns hk₁ => ?_)
  · rw [depth_under_make]; have := hA.2.1; show A.depth + 1 < 1000; omega
  have hsz : ((hh.push emptyDict).push (instObj C hh.objs.size)).objs.size = hh.objs.size + 2 := by rw [Heap.size_push, Heap.size_push]
  rw [show ((⟨(hh.push emptyDict).push (instObj C hh.objs.size), gg, d, t, os⟩ : Shared).heap.objs.size) = hh.objs.size + 2 from hsz] at hns ⊢
  have F : Fr hh (hh.objs.size + 2) h₁ (fun y => List.lookup y [(("self" : Str), Value.ref (hh.objs.size + 1)), ("rows", v1), ("ranges", v2), ("names", v3), ("sources", v4), ("epoch", v5)].reverse) := ⟨hns, fun b o e => hk₁ _ _ (k1 b o e), Nat.le_add_right _ _⟩
  have nn : ∀ j : Nat, hh.get? (hh.objs.size + j) = none := fun j => by
    cases q : hh.get? (hh.objs.size + j) with
    | none => rfl
    | some o => exact absurd (Heap.lt_size q) (Nat.not_lt.mpr (Nat.le_add_right _ _))
  have N : News hh (hh.objs.size + 2) h₁ [(hh.objs.size + 1, instObj C hh.objs.size), (hh.objs.size, dictOf [] 0)] := fun p hp => by
    rcases List.mem_cons.mp hp with rfl | hp
    · exact ⟨hk₁ _ _ hx, by simp, nn 1⟩
    · rw [List.mem_singleton.mp hp]
      exact ⟨hk₁ _ _ hdx, by simp, nn 0⟩
  have hxd : hh.objs.size + 1 ≠ hh.objs.size := by omega
  refine wpAny_mono (Q := fun fl s' => InitBack (hh.objs.size + 1) (fun r s' => match r with | .ok (.ret v) => Ret ⟨hh, gg, d, t, os⟩ g (PCode C v1 v2) v s' | .ok _ => False | .error e => NoE e s') (.ok (.ret (flowVal fl))) s') (E := NoE) ?_ (fun fl s' q => by cases fl <;> exact q) fun _ _ x => x.elim
  refine store1 c X F N hxd rfl rfl (by decide) rfl (fun _ => Nat.le_of_ble_eq_true rfl) fun k1 h1 t1 F1 N1 => ?_
  refine store1 c X F1 N1 hxd rfl rfl (by decide) rfl (fun _ => Nat.le_of_ble_eq_true rfl) fun k2 h2 t2 F2 N2 => ?_
  refine store1 c X F2 N2 hxd rfl rfl (by decide) rfl (fun _ => Nat.le_of_ble_eq_true rfl) fun k3 h3 t3 F3 N3 => ?_
  refine store1 c X F3 N3 hxd rfl rfl (by decide) rfl (fun _ => Nat.le_of_ble_eq_true rfl) fun k4 h4 t4 F4 N4 => ?_
  refine store1 c X F4 N4 hxd rfl rfl (by decide) rfl (fun _ => Nat.le_of_ble_eq_true rfl) fun k5 h5 t5 F5 N5 => ?_
  refine wpAny_execs_nil ⟨rfl, ?_⟩
  have key : ∀ (es : List DictEntry) (n : Nat), News hh (hh.objs.size + 2) h5 [(hh.objs.size + 1, instObj C hh.objs.size), (hh.objs.size, dictOf es n)] → getL "rows" es = some (some v1) → getL "ranges" es = some (some v2) →
      Ret ⟨hh, gg, d, t, os⟩ g (PCode C v1 v2) (.ref (hh.objs.size + 1)) ⟨h5, gg, d, t5, os⟩ := by
    intro es n N5 e1 e2
    obtain ⟨x1, x2, x3⟩ := N5 _ (.head _)
    obtain ⟨y1, y2, y3⟩ := N5 _ (.tail _ (.head _))
    have gn : ∀ j : Nat, g (hh.objs.size + j) = none := fun j => by
      cases q : g (hh.objs.size + j) with
      | none => rfl
      | some o => have := hs _ _ q; rw [nn j] at this; cases this
    refine ⟨(g.add (hh.objs.size + 1) (instObj C hh.objs.size)).add hh.objs.size (dictOf es n), ⟨⟨h5, t5, rfl⟩, F5.keep, (Mem.le_add (gn 1)).trans (Mem.le_add ?_), fun b p e => ?_, fun b p e => ?_⟩, _, _, es, n, rfl, ?_, Mem.add_self _ _ _, e1, e2⟩
    · unfold Mem.add; rw [if_neg (Ne.symm hxd)]; exact gn 0
    · unfold Mem.add at e
      by_cases q : b = hh.objs.size
      · rw [if_pos q] at e; cases e; subst q; exact y1
      · rw [if_neg q] at e
        by_cases q' : b = hh.objs.size + 1
        · rw [if_pos q'] at e; cases e; subst q'; exact x1
        · rw [if_neg q'] at e; exact F5.keep _ _ (hs _ _ e)
    · unfold Mem.add at e
      by_cases q : b = hh.objs.size
      · subst q; exact .inr (nn 0)
      · rw [if_neg q] at e
        by_cases q' : b = hh.objs.size + 1
        · subst q'; exact .inr (nn 1)
        · rw [if_neg q'] at e; exact .inl e
    · unfold Mem.add; rw [if_neg hxd, if_pos rfl]
  exact key _ _ N5 rfl rfl
end
/-- an object of Code whose rows and ranges are given -/
def PCodeD (C : Addr) (d1 d2 : PyData) : Mem → Value → Prop := fun g v => ∃ v1 v2, PCode C v1 v2 g v ∧ Rd g v1 d1 ∧ Rd g v2 d2
theorem Mono.pcodeD (C : Addr) (d1 d2 : PyData) : Mono (PCodeD C d1 d2) := fun g g' v k ⟨v1, v2, p, r1, r2⟩ => ⟨v1, v2, Mono.pcode _ _ _ _ _ _ k p, r1.mono k, r2.mono k⟩
theorem Rd.handed {g : Mem} {v : Value} {d : PyData} (h : Rd g v d) : handedIn v = true := by cases h <;> rfl

section
variable {prog : Program} {w : World} {h₀ : Heap} {mg mb : Str → Option Value} {f f1 f2 : Addr} {K : Frag} {C fI : Addr}
section
variable {A : Around} {env : Env} {m : Str → Option Value} {G : Mem} {n : Nat}
theorem Ev.code {p pos : Pos} {e1 e2 e3 e4 e5 : Expr} {d1 d2 d3 d4 d5 : PyData} (c : CodeCls h₀ mg K C fI) (W : Wd h₀ mg mb) {k : Nat} (hA : Ok (k + 2) A) (hw : Mem.le (memOf h₀) G)
    (args : Evs prog w A env m G pos [e1, e2, e3, e4, e5] [d1, d2, d3, d4, d5])
    (he : env.globals = mainGlobals := by rfl) (hk : env.scope.kind = .function := by rfl) (hx : env.kindOf "Code" = some .globalImplicit := by rfl)
    (hst : starEach [e1, e2, e3, e4, e5] env = (false, eval e1 env) :: starEach [e2, e3, e4, e5] env := by rfl) (hpl : (backTo pos (starEach [e2, e3, e4, e5] env)).any (·.1) = false := by rfl) :
    Ev prog w A env m G (.Call (.Name "Code" p) [e1, e2, e3, e4, e5] [] pos) (PCodeD C d1 d2) := fun G' q s hn hs => by
  have hup := up_of (hw.trans q) hs
  refine Call_ (name_glob (W.g.keeps hup) c.name ?_ he hk hx (by decide))
  refine callWith_K (K := K) c.kin c.keep (wpAny_mono (args G' q s hn hs) (fun vs s' ⟨g', st, r⟩ => ?_) fun _ _ x => x) hst hpl
  have hw' := (hw.trans q).trans st.le
  refine ⟨c.kin.keeps (up_of hw' st.sub), ?_⟩
  cases r with | cons r1 r => cases r with | cons r2 r => cases r with | cons r3 r => cases r with | cons r4 r => cases r with | cons r5 r =>
  cases r
  exact wpAny_mono (code_make c W hA hw' st.sub _ _ _ _ _) (fun v s2 ⟨g2, st2, p⟩ => ⟨g2, st.trans st2, _, _, p, r1.mono st2.le, r2.mono st2.le⟩) fun _ _ x => x

theorem Ev.rowsOf {x : Str} {p pos : Pos} {d1 d2 : PyData} (c : CodeCls h₀ mg K C fI) (hw : Mem.le (memOf h₀) G) (h : Ev prog w A env m G (.Name x p) (PCodeD C d1 d2)) :
    Ev prog w A env m G (.Attribute (.Name x p) "rows" pos) (D d1) := fun G' q s hn hs => by
  refine Attribute_name (h.go q hn hs fun v s' g' st p => ?_)
  obtain ⟨v1, v2, ⟨x, dx, es, n, rfl, h1, h2, h3, h4⟩, r1, r2⟩ := p
  have X := c.kin.keeps (up_of ((hw.trans q).trans st.le) st.sub)
  refine get_value X (ox := instObj C dx) (od := some (dictOf es n)) ⟨st.sub _ _ h1, rfl, rfl, st.sub _ _ h2⟩ (plainGet_of (c.plain "rows" (by decide))).1 (findObj_own c.dict (c.find "rows" (by decide)) rfl h3) r1.handed ?_
  exact ⟨g', st.trans (Step.toks st.sub _), r1⟩
theorem Ev.rangesOf {x : Str} {p pos : Pos} {d1 d2 : PyData} (c : CodeCls h₀ mg K C fI) (hw : Mem.le (memOf h₀) G) (h : Ev prog w A env m G (.Name x p) (PCodeD C d1 d2)) :
    Ev prog w A env m G (.Attribute (.Name x p) "ranges" pos) (D d2) := fun G' q s hn hs => by
  refine Attribute_name (h.go q hn hs fun v s' g' st p => ?_)
  obtain ⟨v1, v2, ⟨x, dx, es, n, rfl, h1, h2, h3, h4⟩, r1, r2⟩ := p
  have X := c.kin.keeps (up_of ((hw.trans q).trans st.le) st.sub)
  refine get_value X (ox := instObj C dx) (od := some (dictOf es n)) ⟨st.sub _ _ h1, rfl, rfl, st.sub _ _ h2⟩ (plainGet_of (c.plain "ranges" (by decide))).1 (findObj_own c.dict (c.find "ranges" (by decide)) rfl h4) r2.handed ?_
  exact ⟨g', st.trans (Step.toks st.sub _), r2⟩
end

theorem targets (W : Wd h₀ mg mb) (F : FnAt h₀ mg "targets" (parOf (stm 4)) (bodyOf (stm 4)) (scopeOf (stm 4)) f) (c : CodeCls h₀ mg K C fI) (n1 : mg "led_to" = some (.ref f1)) {d1 d2 : PyData} {P : Mem → Value → Prop}
    (S1 : FnSpec prog w h₀ f1 4 (Dat [d1, d2]) P) : FnSpec prog w h₀ f 6 (fun g vs => ∃ v, vs = [v] ∧ PCodeD C d1 d2 g v) P := by
  refine enter W F (by decide +kernel) (fun A hA s g hw hs vs hp cd => ?_)
  obtain ⟨v, rfl, rv⟩ := hp
  refine ⟨[("code", v)], fun _ _ _ _ => rfl, locs rfl, fun L s1 S => ?_⟩
  exact S.ret' (Ev.call W (hA.le (by decide)) hw n1 S1 (Evs.cons (Ev.rowsOf c hw (Ev.local rfl fun g' k => Mono.pcodeD _ _ _ _ _ _ k rv)) (Evs.cons (Ev.rangesOf c hw (Ev.local rfl fun g' k => Mono.pcodeD _ _ _ _ _ _ k rv)) Evs.nil))) fun v s3 q => q

theorem is_jump (W : Wd h₀ mg mb) (F : FnAt h₀ mg "_law_is_jump" (parOf (stm 14)) (bodyOf (stm 14)) (scopeOf (stm 14)) f) (nl : mg "len" = none) (rows : List Row) (k : Nat) (hrows : rows.length ≤ 1000) :
    FnSpec prog w h₀ f 2 (Dat [.list (rows.map Row.dat), .int k]) (D (.bool (jumpAt rows k).isSome)) := by
  refine enter W F (by decide +kernel) (fun A hA s g hw hs vs hp cd => ?_)
  obtain ⟨v1, v2, rfl, rv1, rv2⟩ := two hp
  refine ⟨[("rows", v1), ("place", v2)], fun _ _ _ _ => rfl, locs rfl, fun L s1 S => ?_⟩
  refine S.ret' (Ev.and (b := decide ((k : Int) < ((rows.map Row.dat).length : Nat))) (c := (jumpAt rows k).isSome) (Ev.cmp (Ev.localD rfl rv2) (Ev.len W hw nl (Ev.localD rfl rv1) (by rw [List.length_map]; omega)) (Mono.d _) CmpOk.lt) fun hb => ?_) fun v s3 q => ?_
  · have hlt : k < rows.length := by have := of_decide_eq_true hb; rw [List.length_map] at this; omega
    have hget : rows[k]? = some rows[k] := List.getElem?_eq_getElem hlt
    rw [jumpAt_isSome hget]
    exact Ev.castD (Ev.cmp (Ev.tag (r := rows[k]) (Ev.item (Ev.localD rfl rv1) (Ev.localD rfl rv2) (by omega) (by omega) (map_getD hget))) Ev.str (Mono.d _) (CmpOk.eq hA (tag_shaped _) (by decide +kernel))) (by rw [eq_jump])
  · have e : (decide ((k : Int) < ((rows.map Row.dat).length : Nat)) && (jumpAt rows k).isSome) = (jumpAt rows k).isSome := by
      cases h : jumpAt rows k with
      | none => simp
      | some t => have := jumpAt_lt h; simp; omega
    rw [e] at q; exact q

theorem row_to (W : Wd h₀ mg mb) (F : FnAt h₀ mg "_law_to" (parOf (stm 15)) (bodyOf (stm 15)) (scopeOf (stm 15)) f) (r : Row) : FnSpec prog w h₀ f 2 (Dat [r.dat]) (D (od r.to)) := by
  refine enter W F (by decide +kernel) (fun A hA s g hw hs vs hp cd => ?_)
  obtain ⟨v, rfl, rv⟩ := one hp
  refine ⟨[("row", v)], fun _ _ _ _ => rfl, locs rfl, fun L s1 S => ?_⟩
  refine S.ret' (Ev.ifexp (b := r.isJ) ((Tr.cmp (Ev.tag (r := r) (Ev.localD rfl rv)) (Ev.list (Evs.cons Ev.str (Evs.cons Ev.str (Evs.cons Ev.str Evs.nil)))) (Mono.d _) (CmpOk.inLst hA (by decide +kernel) (tag_lay r) (by decide +kernel))).cast (any_j r)) (fun e => ?_) fun e => ?_) fun v s3 q => q
  · exact Ev.castD (Ev.mid (r := r) (Ev.localD rfl rv)) (by cases r <;> first | rfl | exact no2 e)
  · exact Ev.castD (Ev.last (r := r) (Ev.localD rfl rv)) (by cases r <;> first | rfl | exact no1 e)

theorem row_ways (W : Wd h₀ mg mb) (F : FnAt h₀ mg "_law_ways" (parOf (stm 16)) (bodyOf (stm 16)) (scopeOf (stm 16)) f) (n1 : mg "_law_to" = some (.ref f1)) (S1 : ∀ r : Row, FnSpec prog w h₀ f1 2 (Dat [r.dat]) (D (od r.to)))
    (rows : List Row) (k : Nat) (r : Row) (hr : rows[k]? = some r) (hrows : rows.length ≤ 1000) : FnSpec prog w h₀ f 4 (Dat [.list (rows.map Row.dat), .int k]) (D (.list (nd (ways r k)))) := by
  refine enter W F (by decide +kernel) (fun A hA s g hw hs vs hp cd => ?_)
  obtain ⟨v1, v2, rfl, rv1, rv2⟩ := two hp
  have hlt : k < rows.length := (List.getElem?_eq_some_iff.mp hr).1
  refine ⟨[("rows", v1), ("k", v2)], fun _ _ _ _ => rfl, locs rfl, fun L s1 S => ?_⟩
  refine S.assign (P := D (.list (nd (if r.stops then [] else [k + 1])))) (Ev.ifexp (b := r.stops) ((Tr.cmp (Ev.tag (r := r) (Ev.item (Ev.localD rfl rv1) (Ev.localD rfl rv2) (by omega) (by omega) (map_getD hr))) (Ev.list (Evs.cons Ev.str (Evs.cons Ev.str Evs.nil))) (Mono.d _) (CmpOk.inLst hA (by decide +kernel) (tag_lay r) (by decide +kernel))).cast (any_jf r)) (fun e => ?_) fun e => ?_) fun vw g2 s2 S2 le2 rw' => ?_
  · exact Ev.castD (Ev.list Evs.nil) (by rw [e]; rfl)
  · exact Ev.castD (Ev.list (Evs.cons (Ev.add (Ev.localD rfl rv2) Ev.int) Evs.nil)) (by rw [e]; rfl)
  · refine S2.assign (Ev.call W (hA.le (by decide)) (hw.trans le2) n1 (S1 r) (Evs.cons (Ev.item (Ev.localD rfl (rv1.mono le2)) (Ev.localD rfl (rv2.mono le2)) (by omega) (by omega) (map_getD hr)) Evs.nil)) fun vt g3 s3 S3 le3 rt => ?_
    have rw3 := rw'.mono le3
    refine S3.ret' (P := D (.list (nd (ways r k)))) (Ev.ifexp (b := isNone (od r.to)) (Tr.cmp (Ev.localD (upd_self ..) rt) Ev.none (Mono.d _) CmpOk.is) (fun e => ?_) fun e => ?_) fun v s4 q => q
    · rw [isNone_od] at e
      have e2 : r.to = none := by cases h : r.to with | none => rfl | some t => rw [h] at e; exact no2 e
      exact Ev.castD (Ev.localD ((upd_ne (by decide)).trans (upd_self ..)) rw3) (by unfold ways; rw [e2]; simp)
    · rw [isNone_od] at e
      cases h : r.to with
      | none => rw [h] at e; exact no1 e
      | some t =>
        rw [h] at rt
        refine Ev.castD (Ev.catL (Ev.localD ((upd_ne (by decide)).trans (upd_self ..)) rw3) (Ev.list (Evs.cons (Ev.localD (upd_self ..) rt) Evs.nil)) ?_) ?_
        · unfold nd; split <;> simp
        · unfold ways; rw [h, nd_append]; rfl
end
noncomputable def nextN (rows : List Row) : Nat → Nat → Option Nat
  | 0, _ => none
  | n + 1, p => match jumpAt rows p with
    | none => some p
    | some t => nextN rows n t
noncomputable def nextP (rows : List Row) (p : Nat) : Option Nat := nextN rows (rows.length + 1) p
def nxd (o : Option Nat) : PyData := match o with
  | some q => .int q
  | none => .int (-1)
def mkRow (x : Int) (n : Nat) : Row :=
  let t := ((x.fdiv 9).fmod (n + 1)).toNat
  let c := x.fmod 9
  if c < 3 then .jump t else if c = 3 then .jf t else if c = 4 then .jt t else if c = 5 then .start t else if c = 6 then .step t else if c = 7 then .push else .fail
def mkRng (x : Int) (n : Nat) : Rng where
  kind := x.fmod 2 = 0
  size := n
  place := ((x.fdiv 2).fmod (n + 1)).toNat
  again := let a := (((x.fdiv 2).fdiv (n + 1)).fmod (n + 2)).toNat
    if a ≤ n then some a else none
theorem fmod_pos {a b : Int} (hb : 0 < b) : 0 ≤ a.fmod b ∧ a.fmod b < b := ⟨Int.fmod_nonneg_of_pos a hb, Int.fmod_lt_of_pos a hb⟩
theorem mkRow_to {x : Int} {n t : Nat} (h : (mkRow x n).to = some t) : t ≤ n := by
  have h1 := fmod_pos (a := x.fdiv 9) (b := (n : Int) + 1) (by omega)
  unfold mkRow at h
  simp only at h
  split at h
  · cases h; omega
  split at h
  · cases h; omega
  split at h
  · cases h; omega
  split at h
  · cases h; omega
  split at h
  · cases h; omega
  split at h <;> cases h
theorem mkRng_place (x : Int) (n : Nat) : (mkRng x n).place ≤ n := by
  have h1 := fmod_pos (a := x.fdiv 2) (b := (n : Int) + 1) (by omega)
  unfold mkRng; simp only; omega
theorem mkRng_again {x : Int} {n t : Nat} (h : (mkRng x n).again = some t) : t ≤ n := by
  unfold mkRng at h; simp only at h
  split at h
  · cases h; assumption
  · cases h

/-- the script -/
def PScript (xs : List Int) : Mem → Value → Prop := fun g v => ∃ a o items n, v = .ref a ∧ g a = some o ∧ o.cls = .type "list" ∧ o.data = .seq items n ∧ IntsAre items.toList xs
theorem Mono.script (xs : List Int) : Mono (PScript xs) := fun g g' v k ⟨a, o, items, n, e, h, r⟩ => ⟨a, o, items, n, e, k _ _ h, r⟩

section
variable {prog : Program} {w : World} {h₀ : Heap} {mg mb : Str → Option Value} {f f1 f2 : Addr}
section
variable {A : Around} {env : Env} {m : Str → Option Value} {G : Mem} {n : Nat}
theorem Ev.neg {e : Expr} {pos : Pos} {a : Int} (h : Ev prog w A env m G e (D (.int a))) : Ev prog w A env m G (.UnaryOp .USub e pos) (D (.int (-a))) := fun G' k s hn hs =>
  wpAny_UnaryOp (h.go k hn hs fun v s' g' st p => by obtain ⟨t, rfl⟩ := p.int_inv; exact P.neg_int ⟨g', st.trans (Step.toks st.sub _), .int _ _⟩)
theorem Ev.itemS {value slice : Expr} {pos : Pos} {xs : List Int} {k : Nat} (h1 : Ev prog w A env m G value (PScript xs)) (h2 : Ev prog w A env m G slice (D (.int k))) (hk : k < xs.length) (hz : xs.length ≤ 1000000)
    (hs : ∀ o i, subscripted slice false o i = operate [o, i] (getItem o i) := by intro _ _; with_unfolding_all rfl) :
    Ev prog w A env m G (.Subscript value slice pos) (D (.int (xs.getD k 0))) := fun G' k' s hn hs' => by
  refine Subscript_ (h1.go k' hn hs' fun v1 s1 g1 st1 p1 => h2.go (k'.trans st1.le) (ns_up hn st1) st1.sub fun v2 s2 g2 st2 p2 => ?_)
  obtain ⟨u, rfl⟩ := p2.int_inv
  obtain ⟨a, o, items, n, rfl, ho, hc, hd, hI⟩ := p1
  have hget : xs[k]? = some (xs.getD k 0) := by
    rw [List.getD_eq_getElem?_getD, List.getElem?_eq_getElem hk]; rfl
  obtain ⟨t, hx⟩ := hI.get k _ hget
  exact tail_list ⟨o, st2.sub _ _ (st2.le _ _ ho), hc, n, hd⟩ (by omega) (by omega) (by simpa using hx) ⟨_, st1.trans st2, .int _ _⟩ (hs _ _)
end

theorem law_next (W : Wd h₀ mg mb) (F : FnAt h₀ mg "_law_next" (parOf (stm 17)) (bodyOf (stm 17)) (scopeOf (stm 17)) f) (nl : mg "len" = none) (nr : mg "range" = none) (n1 : mg "_law_is_jump" = some (.ref f1))
    (S1 : ∀ (rows : List Row) (k : Nat), rows.length ≤ 1000 → FnSpec prog w h₀ f1 2 (Dat [.list (rows.map Row.dat), .int k]) (D (.bool (jumpAt rows k).isSome)))
    (rows : List Row) (p : Nat) (hrows : rows.length ≤ 1000) : FnSpec prog w h₀ f 4 (Dat [.list (rows.map Row.dat), .int p]) (D (nxd (nextP rows p))) := by
  refine enter W F (by decide +kernel) (fun A hA s g hw hs vs hp cd => ?_)
  obtain ⟨v1, v2, rfl, rv1, rv2⟩ := two hp
  refine ⟨[("rows", v1), ("place", v2)], fun _ _ _ _ => rfl, locs rfl, fun L s1 S => ?_⟩
  refine S.forRange (N := rows.length + 1) W hw nr hA.1 (Ev.castD (Ev.add (Ev.len W (hw.trans S.all) nl (Ev.localD rfl (rv1.mono S.all)) (by rw [List.length_map]; omega)) Ev.int) (by rw [List.length_map]; rfl)) (by omega)
    (fun i g m mu => Agree ["hop", "place"] (fun y => List.lookup y [(("rows" : Str), v1), ("place", v2)].reverse) m ∧ mu = [] ∧ ∃ p' v, m "place" = some v ∧ Rd g v (.int p') ∧ ∃ q : Nat, (q : Int) = p' ∧ nextN rows (rows.length + 1 - i) q = nextP rows p)
    ⟨Agree.refl _ _, rfl, p, v2, rfl, rv2, p, rfl, rfl⟩ (fun i hi g2 m2 mu2 t s3 it le2 j S3 => ?_) fun g2 m2 mu2 s3 le2 j S3 => ?_
  · obtain ⟨hm, rfl, _, v, hv, rv, q, rfl, hq⟩ := j
    have hm2 := hm.upd (x := "hop") (v := .int i t) (by decide)
    have hv2 : upd m2 "hop" (.int i t) "place" = some v := (upd_ne (by decide)).trans hv
    have lg : Mem.le g (memOf s3.heap) := le2.trans S3.all
    obtain ⟨fu, hfu⟩ : ∃ k, rows.length + 1 - i = k + 1 := ⟨rows.length - i, by omega⟩
    rw [hfu] at hq
    refine execs_if0 S3 (Tr.not (Tr.val (Ev.call W (hA.le (by decide)) (hw.trans lg) n1 (S1 rows q hrows) (Evs.cons (Ev.localD (hm2.get rfl (by decide)) (rv1.mono lg)) (Evs.cons (Ev.localD hv2 (rv.mono S3.all)) Evs.nil))))) (fun e s4 S4 => ?_) fun e s4 S4 => ?_
    · have hj : jumpAt rows q = none := by cases h : jumpAt rows q with | none => rfl | some t => rw [h] at e; exact no2 e
      refine S4.ret' (Ev.localD hv2 rv) fun v s5 r => ?_
      have e2 : nextP rows p = some q := by rw [← hq]; unfold nextN; rw [hj]
      show Ret s g (D (nxd (nextP rows p))) v s5
      rw [e2]; exact r
    · obtain ⟨t', hj⟩ : ∃ t', jumpAt rows q = some t' := by cases h : jumpAt rows q with | none => rw [h] at e; exact no1 e | some t => exact ⟨t, rfl⟩
      have hget := jumpAt_some hj
      have hlt := jumpAt_lt hj
      refine St.assign S4 (Ev.mid (r := .jump t') (Ev.item (Ev.localD (hm2.get rfl (by decide)) (rv1.mono le2)) (Ev.localD hv2 rv) (by omega) (by omega) (map_getD hget))) fun v5 g5 s5 S5 le5 r5 => ?_
      refine wpAny_execs_nil ?_
      refine TurnEnd.next le5 ⟨hm2.upd (by decide), rfl, t', v5, upd_self .., r5, t', rfl, ?_⟩ S5
      rw [← hq]; conv => rhs; unfold nextN
      rw [hj]
      have e3 : rows.length + 1 - (i + 1) = fu := by omega
      rw [e3]
  · obtain ⟨hm, rfl, _, v, hv, rv, q, rfl, hq⟩ := j
    have e2 : nextP rows p = none := by rw [← hq]; rw [Nat.sub_self]; rfl
    refine S3.ret' (Ev.neg Ev.int) fun v s5 r => ?_
    show Ret s g (D (nxd (nextP rows p))) v s5
    rw [e2]; exact r

theorem law_heads (W : Wd h₀ mg mb) (F : FnAt h₀ mg "_law_heads" (parOf (stm 19)) (bodyOf (stm 19)) (scopeOf (stm 19)) f) (rs : List Rng) (hrs : rs.length ≤ 1000) :
    FnSpec prog w h₀ f 2 (Dat [.list (rs.map Rng.dat)]) (D (.list (nd (places rs)))) := by
  refine enter W F (by decide +kernel) (fun A hA s g hw hs vs hp cd => ?_)
  obtain ⟨v, rfl, rv⟩ := one hp
  refine ⟨[("ranges", v)], fun _ _ _ _ => rfl, locs rfl, fun L s1 S => ?_⟩
  refine S.assignNew (EvNew.list Evs.nil) fun a us n g1 s2 S2 le1 r1 => ?_
  refine S2.forList hA.1 (Ev.localD rfl (rv.mono le1)) (fun i g m mu => m "heads" = some (.ref a) ∧ ∃ us n, mu = [(a, lstO us n)] ∧ RdAll g us (nd (places (rs.take i))))
    (fun g' le => ⟨upd_self .., us, n, rfl, r1.mono le⟩) (fun i d hd g2 m2 mu2 u s3 it le2 j S3 ru => ?_) fun g2 m2 mu2 s3 le2 j S3 => ?_
  · obtain ⟨r, hr, rfl⟩ := map_get hd
    obtain ⟨hm, ws, k, rfl, rw'⟩ := j
    have hlen : ws.length ≤ 2000 := by
      rw [rw'.length]; unfold nd; rw [List.length_map]
      have := places_length (rs.take i)
      have := List.length_take_le' i rs
      omega
    have hm' : ∀ v, upd m2 "held" v "heads" = some (.ref a) := fun v => (upd_ne (by decide)).trans hm
    refine appendOwn [it] [] S3 (hm' u) (by omega) (d := .int r.place) trivial (Ev.itemT (Ev.localD rfl (ru.mono S3.all)) Ev.int ⟨by decide, rfl⟩) fun v1 n1 s4 S4 q1 => ?_
    refine execs_if0 S4 (Tr.cmp (Ev.itemT (d := od r.again) (Ev.localD rfl (ru.mono S4.all)) Ev.int ⟨by decide, rfl⟩) Ev.none (Mono.d _) CmpOk.isNot) (fun e s5 S5 => ?_) fun e s5 S5 => ?_
    · rw [isNone_od] at e
      cases hag : r.again with
      | none => rw [hag] at e; exact no2 e
      | some t =>
      refine appendOwn [it] [] S5 (hm' u) (by simp; omega) (d := .int t) trivial (Ev.itemT (Ev.localD rfl (ru.mono S5.all)) Ev.int ⟨by decide, by rw [hag]; rfl⟩) fun v2 n2 s6 S6 q2 => ?_
      refine wpAny_execs_nil (wpAny_execs_nil ?_)
      refine TurnEnd.next (Mem.le.refl _) ⟨hm' u, _, _, rfl, ?_⟩ S6
      rw [take_succ_of hr]
      have e2 : nd (places (rs.take i ++ [r])) = nd (places (rs.take i)) ++ [.int r.place] ++ [.int t] := by
        unfold places; rw [List.flatMap_append, nd_append]; simp [Rng.places, hag, nd]
      rw [e2]
      exact (rw'.snoc q1).snoc q2
    · rw [isNone_od] at e
      cases hag : r.again with
      | some t => rw [hag] at e; exact no1 e
      | none =>
      refine wpAny_execs_nil ?_
      refine TurnEnd.next (Mem.le.refl _) ⟨hm' u, _, _, rfl, ?_⟩ S5
      rw [take_succ_of hr]
      have e2 : nd (places (rs.take i ++ [r])) = nd (places (rs.take i)) ++ [.int r.place] := by
        unfold places; rw [List.flatMap_append, nd_append]; simp [Rng.places, hag, nd]
      rw [e2]
      exact rw'.snoc q1
  · obtain ⟨hm, ws, k, rfl, rw'⟩ := j
    rw [List.length_map, List.take_length] at rw'
    have S4 := St.freeze (pre := []) S3
    exact S4.ret' (Ev.localD hm (.list (Mem.add_self _ _ _) (rw'.mono (Mem.le_add (S3.own _ (.head _)).2.2.2)))) fun v s5 q => q

theorem law_cell (W : Wd h₀ mg mb) (F : FnAt h₀ mg "_law_cell" (parOf (stm 11)) (bodyOf (stm 11)) (scopeOf (stm 11)) f) (nl : mg "len" = none) (xs : List Int) (k : Nat) (hxs : xs.length ≤ 1000) :
    FnSpec prog w h₀ f 2 (fun g vs => ∃ v u, vs = [v, u] ∧ PScript xs g v ∧ Rd g u (.int k)) (D (.int (xs.getD k 0))) := by
  refine enter W F (by decide +kernel) (fun A hA s g hw hs vs hp cd => ?_)
  obtain ⟨v1, v2, rfl, rv1, rv2⟩ := hp
  refine ⟨[("script", v1), ("place", v2)], fun _ _ _ _ => rfl, locs rfl, fun L s1 S => ?_⟩
  have hlen : ∀ (s : Shared) g v, g.sub s.heap → PScript xs g v → ∃ a items, v = .ref a ∧ s.heap.IsList a items ∧ items.size = xs.length := fun s g v hs ⟨a, o, items, n, e, ho, hc, hd, hI⟩ =>
    ⟨a, items, e, ⟨o, hs _ _ ho, hc, n, hd⟩, by have := hI.length; simpa using this⟩
  refine S.ret' (P := D (.int (xs.getD k 0))) (Ev.ifexp (b := decide ((k : Int) < (xs.length : Nat))) (Tr.cmp (Ev.localD rfl rv2) (Ev.lenP W hw nl (Ev.local rfl fun g' le => Mono.script xs _ _ _ le rv1) hlen (by omega)) (Mono.d _) CmpOk.lt) (fun e => ?_) fun e => ?_) fun v s4 q => q
  · have := of_decide_eq_true e
    exact Ev.itemS (Ev.local rfl fun g' le => Mono.script xs _ _ _ le rv1) (Ev.localD rfl rv2) (by omega) (by omega)
  · have := of_decide_eq_false e
    exact Ev.castD Ev.int (by rw [List.getD_eq_getElem?_getD, List.getElem?_eq_none (by omega)]; rfl)
end
section
variable {prog : Program} {w : World} {h₀ : Heap} {mg mb : Str → Option Value} {f f1 f2 : Addr}

theorem law_row (W : Wd h₀ mg mb) (F : FnAt h₀ mg "_law_row" (parOf (stm 12)) (bodyOf (stm 12)) (scopeOf (stm 12)) f) (x : Int) (n : Nat) (hn : n ≤ 1000) :
    FnSpec prog w h₀ f 2 (Dat [.int x, .int n]) (D (mkRow x n).dat) := by
  refine enter W F (by decide +kernel) (fun A hA s g hw hs vs hp cd => ?_)
  obtain ⟨v1, v2, rfl, rv1, rv2⟩ := two hp
  refine ⟨[("number", v1), ("size", v2)], fun _ _ _ _ => rfl, locs rfl, fun L s1 S => ?_⟩
  have h1 := fmod_pos (a := x.fdiv 9) (b := (n : Int) + 1) (by omega)
  have h2 := fmod_pos (a := x) (b := 9) (by decide)
  refine S.assign (Ev.mod (Ev.div (Ev.localD rfl rv1) Ev.int (by decide)) (Ev.add (Ev.localD rfl rv2) Ev.int) (by omega)) fun vt g2 s2 S2 le2 rt => ?_
  refine S2.assign (Ev.mod (Ev.localD ((upd_ne (by decide)).trans rfl) (rv1.mono le2)) Ev.int (by decide)) fun vk g3 s3 S3 le3 rk => ?_
  have rt3 := rt.mono le3
  have hto : ((x.fdiv 9).fmod ((n : Int) + 1)) = (((x.fdiv 9).fmod ((n : Int) + 1)).toNat : Int) := (Int.toNat_of_nonneg h1.1).symm
  rw [hto] at rt3
  have hmk : ∀ {r : Row}, mkRow x n = r → mkRow x n = r := id
  have eto : ∀ {m : Str → Option Value}, upd (upd (fun y => List.lookup y [(("number" : Str), v1), ("size", v2)].reverse) "to" vt) "kind" vk "to" = some vt := (upd_ne (by decide)).trans (upd_self ..)
  generalize hc : x.fmod 9 = c at *
  refine execs_if0 S3 (Tr.cmp (Ev.localD (upd_self ..) (rk.mono S3.all)) Ev.int (Mono.d _) CmpOk.lt) (fun e s4 S4 => ?_) fun e s4 S4 => ?_
  · have e := of_decide_eq_true e
    refine S4.ret' (Ev.tuple (Evs.cons Ev.str (Evs.cons (Ev.localD ((upd_ne (by decide)).trans (upd_self ..)) rt3) (Evs.cons Ev.none Evs.nil)))) fun v s5 q => ?_
    show Ret s g (D (mkRow x n).dat) v s5
    unfold mkRow; rw [hc]; simp only [e, if_true]; exact q
  have e1 := of_decide_eq_false e
  refine execs_if0 S4 (Tr.cmp (Ev.localD (upd_self ..) (rk.mono S4.all)) Ev.int (Mono.d _) CmpOk.lt) (fun e s5 S5 => ?_) fun e s5 S5 => ?_
  · have e := of_decide_eq_true e
    have hcc : c = 3 ∨ c = 4 := by omega
    refine S5.ret' (P := D (mkRow x n).dat) ?_ fun v s6 q => q
    rcases hcc with rfl | rfl
    · refine Ev.castD (Ev.tuple (Evs.cons (Ev.item (d := st "jump_false") (Ev.list (Evs.cons Ev.str (Evs.cons Ev.str Evs.nil))) (Ev.sub (Ev.localD (upd_self ..) rk) Ev.int) (by decide) (by decide) rfl) (Evs.cons (Ev.localD ((upd_ne (by decide)).trans (upd_self ..)) rt3) (Evs.cons Ev.none Evs.nil)))) ?_
      unfold mkRow; rw [hc]; rfl
    · refine Ev.castD (Ev.tuple (Evs.cons (Ev.item (d := st "jump_true") (Ev.list (Evs.cons Ev.str (Evs.cons Ev.str Evs.nil))) (Ev.sub (Ev.localD (upd_self ..) rk) Ev.int) (by decide) (by decide) rfl) (Evs.cons (Ev.localD ((upd_ne (by decide)).trans (upd_self ..)) rt3) (Evs.cons Ev.none Evs.nil)))) ?_
      unfold mkRow; rw [hc]; rfl
  have e2 := of_decide_eq_false e
  refine execs_if0 S5 (Tr.cmp (Ev.localD (upd_self ..) (rk.mono S5.all)) Ev.int (Mono.d _) CmpOk.lt) (fun e s6 S6 => ?_) fun e s6 S6 => ?_
  · have e := of_decide_eq_true e
    have hcc : c = 5 ∨ c = 6 := by omega
    refine S6.ret' (P := D (mkRow x n).dat) ?_ fun v s6 q => q
    rcases hcc with rfl | rfl
    · refine Ev.castD (Ev.tuple (Evs.cons (Ev.item (d := st "start") (Ev.list (Evs.cons Ev.str (Evs.cons Ev.str Evs.nil))) (Ev.sub (Ev.localD (upd_self ..) rk) Ev.int) (by decide) (by decide) rfl) (Evs.cons (Ev.item (d := st "s") (Ev.list (Evs.cons Ev.str (Evs.cons Ev.int Evs.nil))) (Ev.sub (Ev.localD (upd_self ..) rk) Ev.int) (by decide) (by decide) rfl) (Evs.cons (Ev.localD ((upd_ne (by decide)).trans (upd_self ..)) rt3) Evs.nil)))) ?_
      unfold mkRow; rw [hc]; rfl
    · refine Ev.castD (Ev.tuple (Evs.cons (Ev.item (d := st "each_step") (Ev.list (Evs.cons Ev.str (Evs.cons Ev.str Evs.nil))) (Ev.sub (Ev.localD (upd_self ..) rk) Ev.int) (by decide) (by decide) rfl) (Evs.cons (Ev.item (d := .int 0) (Ev.list (Evs.cons Ev.str (Evs.cons Ev.int Evs.nil))) (Ev.sub (Ev.localD (upd_self ..) rk) Ev.int) (by decide) (by decide) rfl) (Evs.cons (Ev.localD ((upd_ne (by decide)).trans (upd_self ..)) rt3) Evs.nil)))) ?_
      unfold mkRow; rw [hc]; rfl
  have e3 := of_decide_eq_false e
  have hcc : c = 7 ∨ c = 8 := by omega
  refine S6.ret' (P := D (mkRow x n).dat) ?_ fun v s6 q => q
  rcases hcc with rfl | rfl
  · refine Ev.castD (Ev.tuple (Evs.cons (Ev.item (d := st "push") (Ev.list (Evs.cons Ev.str (Evs.cons Ev.str Evs.nil))) (Ev.sub (Ev.localD (upd_self ..) rk) Ev.int) (by decide) (by decide) rfl) (Evs.cons Ev.str (Evs.cons Ev.none Evs.nil)))) ?_
    unfold mkRow; rw [hc]; rfl
  · refine Ev.castD (Ev.tuple (Evs.cons (Ev.item (d := st "fail") (Ev.list (Evs.cons Ev.str (Evs.cons Ev.str Evs.nil))) (Ev.sub (Ev.localD (upd_self ..) rk) Ev.int) (by decide) (by decide) rfl) (Evs.cons Ev.str (Evs.cons Ev.none Evs.nil)))) ?_
    unfold mkRow; rw [hc]; rfl

theorem law_range (W : Wd h₀ mg mb) (F : FnAt h₀ mg "_law_range" (parOf (stm 13)) (bodyOf (stm 13)) (scopeOf (stm 13)) f) (x : Int) (n : Nat) (hn : n ≤ 1000) :
    FnSpec prog w h₀ f 2 (Dat [.int x, .int n]) (D (mkRng x n).dat) := by
  refine enter W F (by decide +kernel) (fun A hA s g hw hs vs hp cd => ?_)
  obtain ⟨v1, v2, rfl, rv1, rv2⟩ := two hp
  refine ⟨[("number", v1), ("size", v2)], fun _ _ _ _ => rfl, locs rfl, fun L s1 S => ?_⟩
  have h1 := fmod_pos (a := (x.fdiv 2).fdiv (n + 1)) (b := (n : Int) + 2) (by omega)
  have h2 := fmod_pos (a := x) (b := 2) (by decide)
  have h3 := fmod_pos (a := x.fdiv 2) (b := (n : Int) + 1) (by omega)
  refine S.assign (Ev.mod (Ev.div (Ev.div (Ev.localD rfl rv1) Ev.int (by decide)) (Ev.add (Ev.localD rfl rv2) Ev.int) (by omega)) (Ev.add (Ev.localD rfl rv2) Ev.int) (by omega)) fun va g2 s2 S2 le2 ra => ?_
  have hag : (((x.fdiv 2).fdiv ((n : Int) + 1)).fmod ((n : Int) + 2)) = ((((x.fdiv 2).fdiv ((n : Int) + 1)).fmod ((n : Int) + 2)).toNat : Int) := (Int.toNat_of_nonneg h1.1).symm
  have hpl : ((x.fdiv 2).fmod ((n : Int) + 1)) = (((x.fdiv 2).fmod ((n : Int) + 1)).toNat : Int) := (Int.toNat_of_nonneg h3.1).symm
  have en : ∀ {m : Str → Option Value}, (upd (fun y => List.lookup y [(("number" : Str), v1), ("size", v2)].reverse) "again" va) "number" = some v1 := (upd_ne (by decide)).trans rfl
  have es : (upd (fun y => List.lookup y [(("number" : Str), v1), ("size", v2)].reverse) "again" va) "size" = some v2 := (upd_ne (by decide)).trans rfl
  refine S2.ret' (P := D (mkRng x n).dat) ?_ fun v s6 q => q
  refine Ev.castD (Ev.tuple (Evs.cons (Ev.item (d := if x.fmod 2 = 0 then st "loop" else st "catch") (Ev.list (Evs.cons Ev.str (Evs.cons Ev.str Evs.nil))) (Ev.mod (Ev.localD ((upd_ne (by decide)).trans rfl) (rv1.mono le2)) Ev.int (by decide)) h2.1 (by omega) ?_)
    (Evs.cons Ev.int (Evs.cons (Ev.localD es (rv2.mono le2)) (Evs.cons (Ev.mod (Ev.div (Ev.localD ((upd_ne (by decide)).trans rfl) (rv1.mono le2)) Ev.int (by decide)) (Ev.add (Ev.localD es (rv2.mono le2)) Ev.int) (by omega))
      (Evs.cons (d := od (mkRng x n).again) (Ev.ifexp (b := decide ((((x.fdiv 2).fdiv ((n : Int) + 1)).fmod ((n : Int) + 2)) ≤ (n : Int))) (Tr.cmp (Ev.localD (upd_self ..) ra) (Ev.localD es (rv2.mono le2)) (Mono.d _) CmpOk.le) (fun e => ?_) fun e => ?_) (Evs.cons Ev.int Evs.nil))))))) ?_
  · have hcc : x.fmod 2 = 0 ∨ x.fmod 2 = 1 := by omega
    rcases hcc with e | e <;> rw [e] <;> rfl
  · have e := of_decide_eq_true e
    refine Ev.castD (Ev.localD (upd_self ..) ra) ?_
    unfold mkRng; simp only
    rw [if_pos (by omega)]
    show _ = PyData.int _
    rw [← hag]
  · have e := of_decide_eq_false e
    refine Ev.castD Ev.none ?_
    unfold mkRng; simp only
    rw [if_neg (by omega)]; rfl
  · unfold Rng.dat
    have e1 : (mkRng x n).place = ((x.fdiv 2).fmod ((n : Int) + 1)).toNat := rfl
    have e2 : (mkRng x n).size = n := rfl
    have e3 : (mkRng x n).kind = decide (x.fmod 2 = 0) := rfl
    rw [e1, e2, e3, hpl]
    by_cases h : x.fmod 2 = 0
    · simp [h]
    · simp [h]
end
def Row.isFail : Row → Bool
  | .fail => true
  | _ => false
theorem ne_fail (r : Row) : (!PyData.eqv (st r.tag) (st "fail")) = !r.isFail := by cases r <;> (dsimp only [Row.tag, Row.isFail]; decide +kernel)
def goOn (rows : List Row) (road : List (Option Nat)) : Option (Nat × Row) :=
  if road.length < 12 then match road.getLast? with
    | some (some k) => match rows[k]? with
      | some r => if r.isFail then none else some (k, r)
      | none => none
    | _ => none
  else none
def pick (ws : List Nat) (ans : Int) (l : Nat) : Nat := ws.getD ((ans.fdiv (2 ^ l)).fmod ws.length).toNat 0
noncomputable def roadN (rows : List Row) (ans : Int) : Nat → List (Option Nat) → List (Option Nat)
  | 0, road => road
  | n + 1, road => match goOn rows road with
    | none => road
    | some (k, r) => roadN rows ans n (road ++ [nextP rows (pick (ways r k) ans road.length)])
noncomputable def roadOf (rows : List Row) (ans : Int) : List (Option Nat) := roadN rows ans 12 [nextP rows 0]
theorem nextN_stop {rows : List Row} {q : Nat} : ∀ (n p : Nat), nextN rows n p = some q → jumpAt rows q = none
  | 0, _, h => by cases h
  | n + 1, p, h => by
    unfold nextN at h
    cases hj : jumpAt rows p with
    | none => rw [hj] at h; cases h; exact hj
    | some t => rw [hj] at h; exact nextN_stop n t h
theorem nextP_stop {rows : List Row} {p q : Nat} (h : nextP rows p = some q) : jumpAt rows q = none := nextN_stop _ _ h
theorem nxd_atom (o : Option Nat) : Atom (nxd o) := by cases o <;> trivial
def lastI (o : Option Nat) : Int := match o with
  | some q => q
  | none => -1
theorem nxd_lastI (o : Option Nat) : nxd o = .int (lastI o) := by cases o <;> rfl
theorem stops_false {rows : List Row} {k : Nat} {r : Row} (hr : rows[k]? = some r) (hj : jumpAt rows k = none) (hf : r.isFail = false) : r.stops = false := by
  unfold jumpAt at hj; rw [hr] at hj
  cases r <;> first | rfl | (cases hj; done) | (exact no1 hf)

section
variable {prog : Program} {w : World} {h₀ : Heap} {mg mb : Str → Option Value} {f f1 f2 : Addr}
theorem law_road (W : Wd h₀ mg mb) (F : FnAt h₀ mg "_law_road" (parOf (stm 18)) (bodyOf (stm 18)) (scopeOf (stm 18)) f) (nl : mg "len" = none) (n1 : mg "_law_next" = some (.ref f1)) (n2 : mg "_law_ways" = some (.ref f2))
    (S1 : ∀ (rows : List Row) (p : Nat), rows.length ≤ 1000 → FnSpec prog w h₀ f1 4 (Dat [.list (rows.map Row.dat), .int p]) (D (nxd (nextP rows p))))
    (S2 : ∀ (rows : List Row) (k : Nat) (r : Row), rows[k]? = some r → rows.length ≤ 1000 → FnSpec prog w h₀ f2 4 (Dat [.list (rows.map Row.dat), .int k]) (D (.list (nd (ways r k)))))
    (rows : List Row) (ans : Int) (hrows : rows.length ≤ 1000) : FnSpec prog w h₀ f 6 (Dat [.list (rows.map Row.dat), .int ans]) (D (.list ((roadOf rows ans).map nxd))) := by
  refine enter W F (by decide +kernel) (fun A hA s g hw hs vs hp cd => ?_)
  obtain ⟨v1, v2, rfl, rv1, rv2⟩ := two hp
  refine ⟨[("rows", v1), ("answers", v2)], fun _ _ _ _ => rfl, locs rfl, fun L s1 S => ?_⟩
  refine S.assignNew (EvNew.list (Evs.cons (Ev.call W (hA.le (by decide)) hw n1 (S1 rows 0 hrows) (Evs.cons (Ev.localD rfl rv1) (Evs.cons Ev.int Evs.nil))) Evs.nil)) fun a us n g2 s2 S2' le2 r2 => ?_
  refine execs_while (fun fuel s3 => ∃ (road : List (Option Nat)) (us : List Value) (n : Nat) (m : Str → Option Value) (g3 : Mem), Mem.le g g3 ∧ Agree ["ways"] (upd (fun y => List.lookup y [(("rows" : Str), v1), ("answers", v2)].reverse) "road" (.ref a)) m ∧ RdAll g3 us (road.map nxd) ∧
      St s g g3 L m [(a, lstO us n)] s3 ∧ (∀ k, some k ∈ road → jumpAt rows k = none) ∧ road.length + fuel = 13 ∧ 0 < road.length ∧ roadN rows ans fuel road = roadOf rows ans) (fun fuel s3 h3 => ?_) 12
    ⟨[nextP rows 0], us, n, _, g2, le2, Agree.refl _ _, r2, S2', fun k hk => nextP_stop (List.mem_singleton.mp hk).symm, rfl, Nat.lt_succ_self _, rfl⟩
  obtain ⟨road, us, n, m, g3, le3, hm, rus, S3, hj, hlen, hpos, hR⟩ := h3
  have lg : Mem.le g (memOf s3.heap) := le3.trans S3.all
  have erows : ∀ {m}, Agree ["ways"] (upd (fun y => List.lookup y [(("rows" : Str), v1), ("answers", v2)].reverse) "road" (.ref a)) m → m "rows" = some v1 := fun h => h.get ((upd_ne (by decide)).trans rfl) (by decide)
  have eroad : ∀ {m}, Agree ["ways"] (upd (fun y => List.lookup y [(("rows" : Str), v1), ("answers", v2)].reverse) "road" (.ref a)) m → m "road" = some (.ref a) := fun h => h.get (upd_self ..) (by decide)
  have own3 : Rd (memOf s3.heap) (.ref a) (.list (road.map nxd)) := .list (S3.reads (.head _)) (rus.mono S3.all)
  obtain ⟨init, last, rfl⟩ : ∃ init last, road = init ++ [last] := by
    rcases List.eq_nil_or_concat road with rfl | ⟨i, l, rfl⟩
    · exact absurd hpos (Nat.lt_irrefl _)
    · exact ⟨i, l, List.concat_eq_append⟩
  have hlast : ((init ++ [last]).map nxd)[((init ++ [last]).map nxd).length - 1]? = some (nxd last) := by simp
  have hgl : (init ++ [last]).getLast? = some last := by simp
  have elast : ∀ {e : Expr} (G : Mem), True := fun _ => trivial
  refine Tr.go (Tr.and3 (b := decide ((((init ++ [last]).map nxd).length : Nat) < (12 : Int))) (c := (decide (0 ≤ lastI last) && decide (lastI last < ((rows.map Row.dat).length : Nat)))) (d := (goOn rows (init ++ [last])).isSome)
    (Tr.cmp (Ev.len W (hw.trans lg) nl (Ev.localD (eroad hm) own3) (by rw [List.length_map]; omega)) Ev.int (Mono.d _) CmpOk.lt) (fun hb => ?_) fun hb hc => ?_) (Mem.le.refl _) S3.ns (memOf_sub _) fun s4 g4 st4 => ?_
  · exact Tr.chain Ev.int (Ev.castD (Ev.itemLast (Ev.localD (eroad hm) own3) (Ev.neg Ev.int) (by simp) (by rw [List.length_map]; omega) hlast) (nxd_lastI last)) (fun _ => Ev.len W (hw.trans lg) nl (Ev.localD (erows hm) (rv1.mono lg)) (by rw [List.length_map]; omega)) (Mono.d _) (Mono.d _) CmpOk.le fun _ => CmpOk.lt
  · obtain ⟨hc1, hc2⟩ := Bool.and_eq_true_iff.mp hc
    have hc1 := of_decide_eq_true hc1
    have hc2 := of_decide_eq_true hc2
    obtain ⟨k, rfl⟩ : ∃ k, last = some k := by cases last with | none => exact absurd hc1 (by decide) | some k => exact ⟨k, rfl⟩
    have hk : k < rows.length := by rw [List.length_map] at hc2; simp only [lastI] at hc2; omega
    have hget : rows[k]? = some rows[k] := List.getElem?_eq_getElem hk
    generalize rows[k] = r at hget
    have hgo : (goOn rows (init ++ [some k])).isSome = !r.isFail := by
      unfold goOn
      have hb := of_decide_eq_true hb
      rw [List.length_map] at hb
      rw [if_pos (by omega), hgl]
      simp only [hget]
      cases r.isFail <;> rfl
    rw [hgo]
    exact (Tr.cmp (Ev.tag (r := r) (Ev.item (Ev.localD (erows hm) (rv1.mono lg)) (Ev.itemLast (d := .int k) (Ev.localD (eroad hm) own3) (Ev.neg Ev.int) (by simp) (by rw [List.length_map]; omega) hlast) (by omega) (by omega) (map_getD hget))) Ev.str (Mono.d _) (CmpOk.ne hA (tag_shaped _) (by decide +kernel))).cast (ne_fail r)
  · have S4 := S3.keep st4
    cases hgo : goOn rows (init ++ [last]) with
    | none =>
      rw [if_neg (by simp)]
      have hres : roadOf rows ans = init ++ [last] := by
        rw [← hR]
        cases fuel with
        | zero => rfl
        | succ k => unfold roadN; rw [hgo]
      have S5 := St.freeze (pre := []) S4
      refine S5.ret' (Ev.localD (eroad hm) (.list (Mem.add_self _ _ _) (rus.mono (Mem.le_add (S4.own _ (.head _)).2.2.2)))) fun v s5 q => ?_
      show Ret s g (D (.list ((roadOf rows ans).map nxd))) v s5
      rw [hres]; exact q
    | some kr =>
      obtain ⟨k, r⟩ := kr
      have hgo' := hgo
      unfold goOn at hgo'
      split at hgo'
      case isFalse => cases hgo'
      rename_i hl12
      rw [hgl] at hgo'
      obtain ⟨k', rfl⟩ : ∃ k, last = some k := by cases last with | none => cases hgo' | some k => exact ⟨k, rfl⟩
      simp only at hgo'
      cases hget : rows[k']? with
      | none => rw [hget] at hgo'; cases hgo'
      | some r' =>
      rw [hget] at hgo'
      simp only at hgo'
      cases hfl : r'.isFail with
      | true => rw [hfl] at hgo'; cases hgo'
      | false =>
      rw [hfl] at hgo'
      cases hgo'
      have hk : k < rows.length := (List.getElem?_eq_some_iff.mp hget).1
      have hst := stops_false hget (hj k (by simp)) hfl
      have hwn : 0 < (ways r k).length := by unfold ways; rw [hst]; simp
      have hw2 : (ways r k).length ≤ 2 := by unfold ways; rw [hst]; cases r.to <;> simp
      rw [if_pos (by rw [List.length_map]; simp only [lastI]; simp; constructor <;> simp at hl12 <;> omega)]
      obtain ⟨fu, rfl⟩ : ∃ k, fuel = k + 1 := ⟨fuel - 1, by omega⟩
      have own4 : Rd (memOf s4.heap) (.ref a) (.list ((init ++ [some k]).map nxd)) := .list (S4.reads (.head _)) (rus.mono S4.all)
      refine St.assignH S4 (Ev.call W (hA.le (by decide)) (hw.trans (le3.trans S4.all)) n2 (S2 rows k r hget hrows) (Evs.cons (Ev.localD (erows hm) (rv1.mono (le3.trans S4.all))) (Evs.cons (Ev.itemLast (d := .int k) (Ev.localD (eroad hm) own4) (Ev.neg Ev.int) (by simp) (by rw [List.length_map]; omega) hlast) Evs.nil))) fun vw s5 S5 rw5 => ?_
      have hm5 := hm.upd (x := "ways") (v := vw) (by decide)
      have own5 : Rd (memOf s5.heap) (.ref a) (.list ((init ++ [some k]).map nxd)) := .list (S5.reads (.head _)) (rus.mono S5.all)
      have lg5 := le3.trans S5.all
      have hp2 : (0 : Int) < 2 ^ (init ++ [some k]).length ∧ (2 : Int) ^ (init ++ [some k]).length < 1000000 := by
        constructor
        · exact Int.pow_pos (by decide)
        · have : (2 : Nat) ^ (init ++ [some k]).length ≤ 2 ^ 12 := Nat.pow_le_pow_right (by decide) (by omega)
          have e : ((2 : Int) ^ (init ++ [some k]).length) = ((2 ^ (init ++ [some k]).length : Nat) : Int) := by push_cast; rfl
          rw [e]; omega
      have hfm := fmod_pos (a := ans.fdiv (2 ^ (init ++ [some k]).length)) (b := ((ways r k).length : Int)) (by omega)
      have hul : us.length ≤ 1000 := by rw [rus.length, List.length_map]; omega
      refine appendOwn [] [] S5 (eroad hm5) (by omega) (nxd_atom (nextP rows (pick (ways r k) ans (init ++ [some k]).length))) (Ev.call W (hA.le (by decide)) (hw.trans lg5) n1 (S1 rows _ hrows) (Evs.cons (Ev.localD (erows hm5) (rv1.mono lg5)) (Evs.cons ?_ Evs.nil))) fun v6 n6 s6 S6 r6 => ?_
      · refine Ev.item (Ev.localD (upd_self ..) rw5) (Ev.mod (Ev.div (Ev.localD (hm5.get ((upd_ne (by decide)).trans rfl) (by decide)) (rv2.mono lg5)) (Ev.castD (Ev.pow2 Ev.int (Ev.len W (hw.trans lg5) nl (Ev.localD (eroad hm5) own5) (by rw [List.length_map]; omega)) (by rw [List.length_map]; omega)) (by rw [Int.toNat_natCast, List.length_map])) hp2) (Ev.castD (Ev.len W (hw.trans lg5) nl (Ev.localD (upd_self ..) rw5) (by unfold nd; rw [List.length_map]; omega)) (by unfold nd; rw [List.length_map])) (by omega)) hfm.1 (by omega) ?_
        unfold pick nd
        rw [List.getElem?_map, List.getD_eq_getElem?_getD]
        have hlt : ((ans.fdiv (2 ^ (init ++ [some k]).length)).fmod ((ways r k).length : Int)).toNat < (ways r k).length := by omega
        rw [List.getElem?_eq_getElem hlt]; rfl
      · refine wpAny_execs_nil ?_
        refine ⟨fu, Nat.lt_succ_self _, init ++ [some k] ++ [nextP rows (pick (ways r k) ans (init ++ [some k]).length)], _, _, _, g3, le3, hm5, ?_, S6, ?_, ?_, ?_, ?_⟩
        · rw [List.map_append]; exact rus.snoc r6
        · intro q hq
          rcases List.mem_append.mp hq with hq | hq
          · exact hj q hq
          · exact nextP_stop (List.mem_singleton.mp hq).symm
        · rw [List.length_append, List.length_cons, List.length_nil]; omega
        · rw [List.length_append]; omega
        · rw [← hR]; conv => rhs; unfold roadN
          rw [hgo]
end
def bd (l : List Bool) : List PyData := l.map PyData.bool
theorem count_set : ∀ (l : List Bool) (i : Nat), l[i]? = some false → (l.set i true).count false + 1 = l.count false
  | b :: l, 0, h => by cases h; simp
  | b :: l, i + 1, h => by
    have := count_set l i h
    rw [List.set_cons_succ, List.count_cons, List.count_cons]; omega
/-- the flags: what is known of them -/
structure Lit (rows : List Row) (roots : List Nat) (fl : List Bool) : Prop where
  len : fl.length = rows.length + 1
  sound : ∀ k, k < rows.length → fl[k]? = some true → Reach rows roots k
  root : ∀ t ∈ roots, fl[t]? = some true
def Closed (rows : List Row) (fl : List Bool) (n : Nat) : Prop := ∀ k, k < n → fl[k]? = some true → ∀ r, rows[k]? = some r → ∀ y ∈ ways r k, fl[y]? = some true
theorem Lit.set {rows : List Row} {roots : List Nat} {fl : List Bool} {y : Nat} (h : Lit rows roots fl) (hy : y < rows.length → Reach rows roots y) : Lit rows roots (fl.set y true) := by
  refine ⟨by rw [List.length_set]; exact h.len, fun k hk e => ?_, fun t ht => ?_⟩
  · rw [List.getElem?_set] at e
    split at e
    · rename_i q; subst q; exact hy hk
    · exact h.sound k hk e
  · rw [List.getElem?_set]
    split
    · rename_i q; subst q
      have := h.root _ ht
      rw [if_pos (List.getElem?_eq_some_iff.mp this).1]
    · exact h.root t ht
theorem Lit.done {rows : List Row} {roots : List Nat} {fl : List Bool} (h : Lit rows roots fl) (c : Closed rows fl rows.length) (k : Nat) (hk : k < rows.length) : fl[k]? = some true ↔ Reach rows roots k := by
  refine ⟨h.sound k hk, fun r => ?_⟩
  clear hk
  induction r with
  | root ht hl => exact h.root _ ht
  | next hk hr hx hl ih => exact c _ hk.lt ih _ hr _ hx
def PLive (rows : List Row) (roots : List Nat) : Mem → Value → Prop := fun g v => ∃ fl : List Bool, Rd g v (.list (bd fl)) ∧ fl.length = rows.length + 1 ∧ ∀ k, k < rows.length → (fl[k]? = some true ↔ Reach rows roots k)
theorem ways_le {rows : List Row} {r : Row} {k y : Nat} (hr : rows[k]? = some r) (ht : ∀ r ∈ rows, ∀ t, r.to = some t → t ≤ rows.length) (hy : y ∈ ways r k) : y ≤ rows.length := by
  have hlt : k < rows.length := (List.getElem?_eq_some_iff.mp hr).1
  unfold ways at hy
  rcases List.mem_append.mp hy with hy | hy
  · split at hy
    · cases hy
    · have := List.mem_singleton.mp hy; omega
  · cases h : r.to with
    | none => rw [h] at hy; cases hy
    | some t =>
      rw [h] at hy
      have : y = t := by simpa using hy
      subst this
      exact ht r (List.mem_of_getElem? hr) _ h
theorem ways_len (r : Row) (k : Nat) : (ways r k).length ≤ 2 := by unfold ways; cases r <;> simp [Row.stops, Row.to]

section
variable {prog : Program} {w : World} {h₀ : Heap} {mg mb : Str → Option Value} {f f1 f2 : Addr}
theorem law_live (W : Wd h₀ mg mb) (F : FnAt h₀ mg "_law_live" (parOf (stm 20)) (bodyOf (stm 20)) (scopeOf (stm 20)) f) (nl : mg "len" = none) (nr : mg "range" = none) (n1 : mg "_law_heads" = some (.ref f1)) (n2 : mg "_law_ways" = some (.ref f2))
    (S1 : ∀ rs : List Rng, rs.length ≤ 1000 → FnSpec prog w h₀ f1 2 (Dat [.list (rs.map Rng.dat)]) (D (.list (nd (places rs)))))
    (S2 : ∀ (rows : List Row) (k : Nat) (r : Row), rows[k]? = some r → rows.length ≤ 1000 → FnSpec prog w h₀ f2 4 (Dat [.list (rows.map Row.dat), .int k]) (D (.list (nd (ways r k)))))
    (rows : List Row) (rs : List Rng) (hrows : rows.length ≤ 1000) (hrs : rs.length ≤ 1000) (hto : ∀ r ∈ rows, ∀ t, r.to = some t → t ≤ rows.length) (hpl : ∀ t ∈ places rs, t ≤ rows.length) :
    FnSpec prog w h₀ f 6 (Dat [.list (rows.map Row.dat), .list (rs.map Rng.dat)]) (PLive rows (0 :: places rs)) := by
  refine enter W F (by decide +kernel) (fun A hA s g hw hs vs hp cd => ?_)
  obtain ⟨v1, v2, rfl, rv1, rv2⟩ := two hp
  refine ⟨[("rows", v1), ("ranges", v2)], fun _ _ _ _ => rfl, locs rfl, fun L s1 S => ?_⟩
  refine S.assignNew (EvNew.mul (n := ((rows.length + 1 : Nat) : Int)) (Ev.list (Evs.cons Ev.bool Evs.nil)) (Ev.castD (Ev.add (Ev.len W hw nl (Ev.localD rfl rv1) (by rw [List.length_map]; omega)) Ev.int) (by rw [List.length_map]; rfl)) (by omega)) fun a us n g2 s2 S2' le2 r2 => ?_
  have epl := places_length rs
  have r2' : RdAll g2 us (bd (List.replicate (rows.length + 1) false)) := by
    rw [Int.toNat_natCast] at r2
    unfold bd; rw [List.map_replicate]; exact r2
  refine S2'.forList hA.1 (ds := nd (0 :: places rs)) (Ev.castD (Ev.catL (Ev.list (Evs.cons Ev.int Evs.nil)) (Ev.call W (hA.le (by decide)) (hw.trans le2) n1 (S1 rs hrs) (Evs.cons (Ev.localD ((upd_ne (by decide)).trans rfl) (rv2.mono le2)) Evs.nil)) (by unfold nd; rw [List.length_map]; simp; omega)) rfl)
    (fun i g3 m3 mu => Agree ["place"] (upd (fun y => List.lookup y [(("rows" : Str), v1), ("ranges", v2)].reverse) "live" (.ref a)) m3 ∧ ∃ fl us n, mu = [(a, lstO us n)] ∧ RdAll g3 us (bd fl) ∧ fl.length = rows.length + 1 ∧ (∀ k, fl[k]? = some true → k ∈ (0 :: places rs)) ∧ ∀ t ∈ (0 :: places rs).take i, fl[t]? = some true)
    (fun g' le => ⟨Agree.refl _ _, _, us, n, rfl, r2'.mono le, by simp, fun k hk => (by rw [List.getElem?_replicate] at hk; split at hk <;> cases hk), fun t ht => (by cases ht)⟩)
    (fun i d hd g3 m3 mu3 u s3 it le3 j S3 ru => ?_) fun g3 m3 mu3 s3 le3 j S3 => ?_
  · obtain ⟨t, ht, rfl⟩ := map_get hd
    obtain ⟨hm, fl, us3, n3, rfl, r3, hfl, hsub, hin⟩ := j
    have hm' := hm.upd (x := "place") (v := u) (by decide)
    have hmem : t ∈ (0 :: places rs) := List.mem_of_getElem? ht
    have htl : t ≤ rows.length := by
      rcases List.mem_cons.mp hmem with rfl | h
      · exact Nat.zero_le _
      · exact hpl t h
    have hul : us3.length = fl.length := by rw [r3.length]; unfold bd; rw [List.length_map]
    refine St.setAt [it] [] S3 Ev.bool (Ev.local (hm'.get (upd_self ..) (by decide)) fun _ _ => rfl) (Ev.localD (upd_self ..) ru) (by omega) (by omega) fun v4 n4 g4 s4 S4 le4 r4 => ?_
    refine wpAny_execs_nil ?_
    refine TurnEnd.next le4 ⟨hm', fl.set t true, _, _, rfl, ?_, by rw [List.length_set]; exact hfl, fun k hk => ?_, fun t' ht' => ?_⟩ S4
    · rw [Int.toNat_natCast]
      have := (r3.mono le4).set t r4
      unfold bd at this ⊢; rw [List.map_set]; exact this
    · rw [List.getElem?_set] at hk
      split at hk
      · rename_i q; subst q; exact hmem
      · exact hsub k hk
    · rw [take_succ_of ht] at ht'
      rw [List.getElem?_set]
      by_cases q : t = t'
      · rw [if_pos q, if_pos (by omega)]
      · rw [if_neg q]
        rcases List.mem_append.mp ht' with h | h
        · exact hin t' h
        · exact absurd (List.mem_singleton.mp h).symm q
  · obtain ⟨hm, fl, us3, n3, rfl, r3, hfl, hsub, hin⟩ := j
    have hall : ∀ t ∈ (0 :: places rs), fl[t]? = some true := fun t ht => hin t (by rw [List.take_of_length_le (by unfold nd; rw [List.length_map]; exact Nat.le_refl _)]; exact ht)
    have lit : Lit rows (0 :: places rs) fl := ⟨hfl, fun k hk e => .root (hsub k e) hk, hall⟩
    refine S3.assign Ev.bool fun vb g4 s4 S4 le4 rb => ?_
    refine execs_while (fun fuel s5 => ∃ (fl : List Bool) (b : Bool) (vb : Value) (us : List Value) (n : Nat) (m5 : Str → Option Value) (g5 : Mem), Mem.le g g5 ∧ Agree ["place", "is_more", "k"] (upd (fun y => List.lookup y [(("rows" : Str), v1), ("ranges", v2)].reverse) "live" (.ref a)) m5 ∧ m5 "is_more" = some vb ∧ Rd g5 vb (.bool b) ∧
        RdAll g5 us (bd fl) ∧ St s g g5 L m5 [(a, lstO us n)] s5 ∧ Lit rows (0 :: places rs) fl ∧ (b = false → Closed rows fl rows.length) ∧ fuel = 2 * fl.count false + (if b then 1 else 0)) (fun fuel s5 h5 => ?_) (2 * fl.count false + 1)
      ⟨fl, true, vb, us3, n3, _, g4, (le2.trans le3).trans le4, fun y hy => ?_, upd_self .., rb, r3.mono le4, S4, lit, fun e => no1 e, rfl⟩
    · obtain ⟨fl, b, vb, us, n, m5, g5, le5, hm5, hmb, rb, r5, S5, lit, hcl, hfu⟩ := h5
      refine Tr.go (Tr.val (Ev.localD hmb (rb.mono S5.all))) (Mem.le.refl _) S5.ns (memOf_sub _) fun s6 g6 st6 => ?_
      have S6 := S5.keep st6
      cases b with
      | false =>
        rw [if_neg (by decide)]
        have S7 := St.freeze (pre := []) S6
        exact S7.ret' (Ev.local (hm5.get (upd_self ..) (by decide)) fun g' le => ⟨fl, .list (le _ _ (Mem.add_self _ _ _)) (r5.mono ((Mem.le_add (S6.own _ (.head _)).2.2.2).trans le)), lit.len, fun k hk => lit.done (hcl rfl) k hk⟩) fun v s q => q
      | true =>
        rw [if_pos rfl]
        refine St.assign S6 Ev.bool fun vc g7 s7 S7 le7 rc => ?_
        have le57 := le5.trans le7
        refine St.forRange (N := rows.length) W (hw.trans le57) nr hA.1 S7 (Ev.castD (Ev.len W (hw.trans (le57.trans S7.all)) nl (Ev.localD ((hm5.upd (x := "is_more") (by decide)).get ((upd_ne (by decide)).trans rfl) (by decide)) (rv1.mono (le57.trans S7.all))) (by rw [List.length_map]; omega)) (by rw [List.length_map])) (by omega)
          (fun i g8 m8 mu => Agree ["place", "is_more", "k"] (upd (fun y => List.lookup y [(("rows" : Str), v1), ("ranges", v2)].reverse) "live" (.ref a)) m8 ∧ ∃ (fl' : List Bool) (b' : Bool) (vb' : Value) (us' : List Value) (n' : Nat), mu = [(a, lstO us' n')] ∧ m8 "is_more" = some vb' ∧ Rd g8 vb' (.bool b') ∧ RdAll g8 us' (bd fl') ∧ Lit rows (0 :: places rs) fl' ∧
            (b' = false → fl' = fl ∧ Closed rows fl i) ∧ (b' = true → fl'.count false < fl.count false))
          ⟨hm5.upd (by decide), fl, false, vc, us, n, rfl, upd_self .., rc, r5.mono le7, lit, fun _ => ⟨rfl, fun k hk => absurd hk (Nat.not_lt_zero _)⟩, fun e => no2 e⟩
          (fun i hi g8 m8 mu8 t s8 it le8 j S8 => ?_) fun g8 m8 mu8 s8 le8 j S8 => ?_
        · obtain ⟨hm8, fl', b', vb', us', n', rfl, hmb', rb', r8, lit', hcl', hct'⟩ := j
          have hm9 := hm8.upd (x := "k") (v := .int i t) (by decide)
          have le58 := le57.trans le8
          have hfi : fl'[i]? = some fl'[i]! := by
            rw [List.getElem?_eq_getElem (by rw [lit'.len]; omega)]
            simp [List.getElem!_eq_getElem?_getD, List.getElem?_eq_getElem (show i < fl'.length by rw [lit'.len]; omega)]
          generalize fl'[i]! = bi at hfi
          have hget : rows[i]? = some rows[i] := List.getElem?_eq_getElem hi
          generalize rows[i] = r at hget
          have own8 : Rd (memOf s8.heap) (.ref a) (.list (bd fl')) := .list (S8.reads (.tail _ (.head _))) (r8.mono S8.all)
          have hmis : upd m8 "k" (.int i t) "is_more" = some vb' := (upd_ne (by decide)).trans hmb'
          refine execs_if0 S8 (Tr.val (Ev.item (d := .bool bi) (Ev.localD (hm9.get (upd_self ..) (by decide)) own8) (Ev.localD (upd_self ..) (.int i t)) (by omega) (by omega) (by rw [Int.toNat_natCast]; unfold bd; rw [List.getElem?_map, hfi]; rfl))) (fun e s9 S9 => ?_) fun e s9 S9 => ?_
          · subst e
            have hwl := ways_len r i
            refine St.forList (ds := nd (ways r i)) hA.1 S9 (Ev.call W (hA.le (by decide)) (hw.trans le58) n2 (S2 rows i r hget hrows) (Evs.cons (Ev.localD (hm9.get ((upd_ne (by decide)).trans rfl) (by decide)) (rv1.mono le58)) (Evs.cons (Ev.localD (upd_self ..) (.int i t)) Evs.nil)))
              (fun j g10 m10 mu => Agree ["place", "is_more", "k"] (upd (fun y => List.lookup y [(("rows" : Str), v1), ("ranges", v2)].reverse) "live" (.ref a)) m10 ∧ ∃ (fl2 : List Bool) (b2 : Bool) (vb2 : Value) (us2 : List Value) (n2 : Nat), mu = [it, (a, lstO us2 n2)] ∧ m10 "is_more" = some vb2 ∧ Rd g10 vb2 (.bool b2) ∧ RdAll g10 us2 (bd fl2) ∧ Lit rows (0 :: places rs) fl2 ∧
                (b2 = false → fl2 = fl ∧ Closed rows fl i ∧ ∀ y ∈ (ways r i).take j, fl[y]? = some true) ∧ (b2 = true → fl2.count false < fl.count false) ∧ fl2[i]? = some true)
              (fun g' le => ⟨hm9, fl', b', vb', us', n', rfl, hmis, rb'.mono le, r8.mono le, lit', fun e => ⟨(hcl' e).1, (hcl' e).2, fun y hy => (by cases hy)⟩, hct', hfi⟩) (fun j d hd g10 m10 mu10 u s10 it2 le10 J S10 ru => ?_) fun g10 m10 mu10 s10 le10 J S10 => ?_
            · obtain ⟨y, hy, rfl⟩ := map_get hd
              obtain ⟨hm10, fl2, b2, vb2, us2, n2, rfl, hmb2, rb2, r10, lit2, hcl2, hct2, hfi2⟩ := J
              have hm11 := hm10.upd (x := "place") (v := u) (by decide)
              have hmem : y ∈ ways r i := List.mem_of_getElem? hy
              have hyl := ways_le hget hto hmem
              have hyf : fl2[y]? = some fl2[y]! := by
                rw [List.getElem?_eq_getElem (by rw [lit2.len]; omega)]
                simp [List.getElem!_eq_getElem?_getD, List.getElem?_eq_getElem (show y < fl2.length by rw [lit2.len]; omega)]
              generalize fl2[y]! = by' at hyf
              have own10 : Rd (memOf s10.heap) (.ref a) (.list (bd fl2)) := .list (S10.reads (.tail _ (.tail _ (.head _)))) (r10.mono S10.all)
              have hul : us2.length = fl2.length := by rw [r10.length]; unfold bd; rw [List.length_map]
              have hri : Reach rows (0 :: places rs) i := lit2.sound i hi hfi2
              refine execs_if0 S10 (Tr.not (Tr.val (Ev.item (d := .bool by') (Ev.localD (hm11.get (upd_self ..) (by decide)) own10) (Ev.localD (upd_self ..) (ru.mono S10.all)) (by omega) (by omega) (by rw [Int.toNat_natCast]; unfold bd; rw [List.getElem?_map, hyf]; rfl)))) (fun e s11 S11 => ?_) fun e s11 S11 => ?_
              · cases by' with
                | true => exact no2 e
                | false =>
                refine St.setAt [it2, it] [] S11 Ev.bool (Ev.local (hm11.get (upd_self ..) (by decide)) fun _ _ => rfl) (Ev.localD (upd_self ..) ru) (by have := lit2.len; omega) (by have := lit2.len; omega) fun v12 n12 g12 s12 S12 le12 r12 => ?_
                refine St.assign S12 Ev.bool fun v13 g13 s13 S13 le13 r13 => ?_
                refine wpAny_execs_nil (wpAny_execs_nil ?_)
                have hcs := count_set fl2 y hyf
                refine TurnEnd.next (le12.trans le13) ⟨hm11.upd (by decide), fl2.set y true, true, v13, _, _, rfl, upd_self .., r13, ?_, lit2.set fun hl => .next hri hget hmem hl, fun e => no1 e, fun _ => ?_, ?_⟩ S13
                · rw [Int.toNat_natCast]
                  have := (r10.mono (le12.trans le13)).set y (r12.mono le13)
                  unfold bd at this ⊢; rw [List.map_set]; exact this
                · cases b2 with
                  | true => have := hct2 rfl; omega
                  | false => obtain ⟨rfl, _⟩ := hcl2 rfl; omega
                · rw [List.getElem?_set]
                  split
                  · rename_i q; subst q; rw [if_pos (List.getElem?_eq_some_iff.mp hfi2).1]
                  · exact hfi2
              · cases by' with
                | false => exact no1 e
                | true =>
                refine wpAny_execs_nil ?_
                refine TurnEnd.next (Mem.le.refl _) ⟨hm11, fl2, b2, vb2, us2, n2, rfl, (upd_ne (by decide)).trans hmb2, rb2, r10, lit2, fun e => ?_, hct2, hfi2⟩ S11
                obtain ⟨rfl, hc, hin⟩ := hcl2 e
                refine ⟨rfl, hc, fun z hz => ?_⟩
                rw [take_succ_of hy] at hz
                rcases List.mem_append.mp hz with h | h
                · exact hin z h
                · rw [List.mem_singleton.mp h]; exact hyf
            · obtain ⟨hm10, fl2, b2, vb2, us2, n2, rfl, hmb2, rb2, r10, lit2, hcl2, hct2, hfi2⟩ := J
              refine wpAny_execs_nil (wpAny_execs_nil ?_)
              refine TurnEnd.next le10 ⟨hm10, fl2, b2, vb2, us2, n2, rfl, hmb2, rb2, r10, lit2, fun e => ?_, hct2⟩ S10
              obtain ⟨rfl, hc, hin⟩ := hcl2 e
              refine ⟨rfl, fun k hk hfk r' hr' y hy => ?_⟩
              rcases Nat.lt_succ_iff_lt_or_eq.mp hk with h | rfl
              · exact hc k h hfk r' hr' y hy
              · rw [hget] at hr'; cases hr'
                exact hin y (by rw [List.take_of_length_le (by unfold nd; rw [List.length_map]; exact Nat.le_refl _)]; exact hy)
          · subst e
            refine wpAny_execs_nil ?_
            refine TurnEnd.next (Mem.le.refl _) ⟨hm9, fl', b', vb', us', n', rfl, hmis, rb', r8, lit', fun e => ?_, hct'⟩ S9
            obtain ⟨rfl, hc⟩ := hcl' e
            refine ⟨rfl, fun k hk hfk r' hr' y hy => ?_⟩
            rcases Nat.lt_succ_iff_lt_or_eq.mp hk with h | rfl
            · exact hc k h hfk r' hr' y hy
            · rw [hfi] at hfk; cases hfk
        · obtain ⟨hm8, fl', b', vb', us', n', rfl, hmb', rb', r8, lit', hcl', hct'⟩ := j
          refine wpAny_execs_nil ?_
          refine ⟨2 * fl'.count false + (if b' then 1 else 0), ?_, fl', b', vb', us', n', m8, g8, le57.trans le8, hm8, hmb', rb', r8, S8, lit', fun e => ?_, rfl⟩
          · rw [hfu]
            cases b' with
            | false => obtain ⟨rfl, _⟩ := hcl' rfl; simp
            | true => have := hct' rfl; simp; omega
          · obtain ⟨rfl, hc⟩ := hcl' e; exact hc
    · have y1 : y ≠ "is_more" := fun q => hy (by rw [q]; decide)
      have y2 : y ∉ ([("place" : Str)] : List Str) := fun q => hy (by rw [List.mem_singleton.mp q]; decide)
      rw [upd_ne y1]; exact hm y y2
end

/-- an iterator that gives N values -/
structure Itr (prog : Program) (w : World) (A : Around) (g : Mem) (N : Nat) (T : Nat → Value → Prop) (ok : Nat → Obj → Prop) : Prop where
  item : ∀ i o I (s : Shared) (Q : Option Value → Shared → Prop) (E : Value → Shared → Prop), i < N → ok i o → g.sub s.heap → s.heap.get? I = some o →
    (∀ v h' tk o', T i v → ok (i + 1) o' → Heap.SameBut I s.heap h' → h'.get? I = some o' → Q (some v) { s with heap := h', toks := tk }) → wpAny (model prog w) A (pyNext (.ref I)) Q E s
  done : ∀ o I (s : Shared) (Q : Option Value → Shared → Prop) (E : Value → Shared → Prop), ok N o → g.sub s.heap → s.heap.get? I = some o →
    (∀ h', Heap.ExtBut I s.heap h' → Q none { s with heap := h' }) → wpAny (model prog w) A (pyNext (.ref I)) Q E s
  self : ∀ i o I (s : Shared) (Q : Value → Shared → Prop) (E : Value → Shared → Prop), ok i o → s.heap.get? I = some o → Q (.ref I) s → wpAny (model prog w) A (pyIter (.ref I)) Q E s

section
variable {prog : Program} {w : World} {A : Around} {g : Mem}
theorem Itr.list (hh : A.handled = none) {l : Addr} {vs : List Value} {n : Nat} (hl : g l = some (lstO vs n)) :
    Itr prog w A g vs.length (fun i v => vs[i]? = some v) (fun i o => o.cls = .type "list_iterator" ∧ o.data = .fields #[.ref l, .int i 0]) where
  item := fun i o I s Q E hi ⟨hc, hd⟩ hs ho hQ => by
    have hlt : vs[i]? = some vs[i] := List.getElem?_eq_getElem hi
    refine wpAny_pyNext_list_item ⟨o, ho, hc, hd⟩ (items := vs.toArray) ⟨_, hs _ _ hl, rfl, n, rfl⟩ (x := vs[i]) (by simpa using hlt) fun h1 hit1 hs1 => ?_
    obtain ⟨io', hio', hc', hd'⟩ := hit1
    exact hQ _ h1 s.toks io' hlt ⟨hc', hd'⟩ hs1 hio'
  done := fun o I s Q E ⟨hc, hd⟩ hs ho hQ => wpAny_pyNext_list_end hh ⟨o, ho, hc, hd⟩ (items := vs.toArray) ⟨_, hs _ _ hl, rfl, n, rfl⟩ (by simp) fun h' he' => hQ h' he'
  self := fun i o I s Q E ⟨hc, hd⟩ ho hQ => wpAny_pyIter_listiter ⟨o, ho, hc, hd⟩ hQ
theorem Itr.range (hh : A.handled = none) (N : Nat) :
    Itr prog w A g N (fun i v => ∃ t, v = .int i t) (fun i o => o = { cls := .type "range_iterator", data := .fields #[rawInt i, rawInt ((N : Int) - i), rawInt 1] }) where
  item := fun i o I s Q E hi e hs ho hQ => by
    subst e
    have hio : IsRangeIter s.heap I i ((N : Int) - i) 1 := ho
    refine wpAny_pyNext_range_item hio (by omega) fun h1 hit1 hs1 => ?_
    have e1 : ((i : Int) + 1) = ((i + 1 : Nat) : Int) := by omega
    have e2 : ((N : Int) - i - 1) = ((N : Int) - ((i + 1 : Nat) : Int)) := by omega
    rw [e1, e2] at hit1
    exact hQ _ h1 _ _ ⟨_, rfl⟩ rfl hs1 hit1
  done := fun o I s Q E e hs ho hQ => by
    subst e
    have hio : IsRangeIter s.heap I N ((N : Int) - N) 1 := ho
    exact wpAny_pyNext_range_end hh hio (by omega) fun h' he' => hQ h' he'
  self := fun i o I s Q E e ho hQ => by
    subst e
    have hio : IsRangeIter s.heap I i ((N : Int) - i) 1 := ho
    exact wpAny_pyIter_rangeiter hio hQ
theorem Itr.imp {N : Nat} {T T' : Nat → Value → Prop} {ok : Nat → Obj → Prop} (h : Itr prog w A g N T ok) (k : ∀ i v, T i v → T' i v) : Itr prog w A g N T' ok where
  item := fun i o I s Q E hi e hs ho hQ => h.item i o I s Q E hi e hs ho fun v h' tk o' t => hQ v h' tk o' (k _ _ t)
  done := h.done
  self := h.self
end

/-- the iterable of a comprehension -/
def ItrOf (prog : Program) (w : World) (A : Around) (env : Env) (m : Str → Option Value) (G : Mem) (iter : Expr) (N : Nat) (seq : Nat → Option PyData) : Prop :=
  ∀ G', Mem.le G G' → ∀ s : Shared, s.heap.Ns env.locals m → G'.sub s.heap → wpAny (model prog w) A (eval iter env) (fun xv s₁ => wpAny (model prog w) A (pyIter xv) (fun it s₂ => ∃ I io g₂ ok, it = .ref I ∧
    Step s G' s₂ g₂ ∧ s₂.heap.get? I = some io ∧ s.heap.get? I = none ∧ g₂ I = none ∧ Itr prog w A g₂ N (fun i v => ∃ d, seq i = some d ∧ Rd g₂ v d) ok ∧ ok 0 io) NoE s₁) NoE s

section
variable {prog : Program} {w : World} {A : Around} {env : Env} {m : Str → Option Value} {G : Mem} {h₀ : Heap} {mg mb : Str → Option Value}
theorem ItrOf.list {iter : Expr} {ds : List PyData} (hA : A.handled = none) (h : Ev prog w A env m G iter (D (.list ds))) : ItrOf prog w A env m G iter ds.length (fun i => ds[i]?) := fun G' k s hn hs => by
  refine h.go k hn hs fun v s1 g1 st1 p => ?_
  obtain ⟨l, vs, n, rfl, hl1, rl⟩ := p.list_inv
  refine wpAny_pyIter_list ⟨_, st1.sub _ _ hl1, rfl, n, rfl⟩ ?_
  have stp : Step s1 g1 { s1 with heap := s1.heap.push { cls := .type "list_iterator", data := .fields #[.ref l, .int 0 0] } } g1 := ⟨⟨_, s1.toks, rfl⟩, fun _ _ e => Heap.get?_push_of_some _ e, Mem.le.refl _, fun a o e => Heap.get?_push_of_some _ (st1.sub a o e), fun _ _ e => .inl e⟩
  refine ⟨s1.heap.objs.size, _, g1, (fun i o => o.cls = .type "list_iterator" ∧ o.data = .fields #[.ref l, .int i 0]), rfl, st1.trans stp, Heap.get?_push_size _ rfl, none_of_up st1.up (size_none _), mem_size st1.sub, ?_, ⟨rfl, rfl⟩⟩
  rw [← rl.length]
  exact (Itr.list hA hl1).imp fun i v hv => rl.getV hv
theorem ItrOf.range {rp cp : Pos} {e : Expr} {N : Nat} (W : Wd h₀ mg mb) (hw : Mem.le (memOf h₀) G) (hf : mg "range" = Option.none) (hA : A.handled = Option.none) (h : Ev prog w A env m G e (D (.int N))) (hN : N ≤ 1000000)
    (he : env.globals = mainGlobals := by rfl) (heb : env.builtins = builtinsNs := by rfl) (hk : env.scope.kind = .function := by rfl) (hx : env.kindOf "range" = some .globalImplicit := by rfl)
    (hst : starEach [e] env = (false, eval e env) :: starEach [] env := by rfl) :
    ItrOf prog w A env m G (.Call (.Name "range" rp) [e] [] cp) N (fun i => some (.int i)) := fun G' k s hn hs => by
  have hup := up_of (hw.trans k) hs
  have hb : mb "range" = some (.type "range") := (W.builtins "range" (by decide)).trans (by rfl)
  refine Call_ (name_boot (W.g.keeps hup) hf (W.b.keeps hup) hb ?_ he heb hk hx (by decide))
  refine PyProof.Rows.callWith_type1 (args_cons (h.go k hn hs fun vn s1 gl st1 pn => args_nil ?_) hst) hst
  obtain ⟨u, rfl⟩ := pn.int_inv
  refine call_range_1 ?_
  refine wpAny_pyIter_range (IsRange.new ..) (small_one (by omega) (by omega) (by omega) (by omega)) ?_
  rw [rangeSize_one]
  have eN : (if (0 : Int) < (N : Int) then (N : Int) - 0 else 0) = (N : Int) := by split <;> omega
  rw [eN]
  have st2 : Step s1 gl { s1 with heap := s1.heap.push { cls := .type "range", data := .fields #[.int 0 s1.toks, .int N u, .int 1 (s1.toks + 1)] }, toks := s1.toks + 1 + 1 } gl := ⟨⟨_, _, rfl⟩, fun _ _ e => Heap.get?_push_of_some _ e, Mem.le.refl _, fun a o e => Heap.get?_push_of_some _ (st1.sub a o e), fun _ _ e => .inl e⟩
  have st12 := st1.trans st2
  generalize hq : ({ s1 with heap := s1.heap.push { cls := .type "range", data := .fields #[.int 0 s1.toks, .int N u, .int 1 (s1.toks + 1)] }, toks := s1.toks + 1 + 1 } : Shared) = s2 at st12 ⊢
  have stp : Step s2 gl { s2 with heap := s2.heap.push { cls := .type "range_iterator", data := .fields #[rawInt 0, rawInt N, rawInt 1] } } gl := ⟨⟨_, s2.toks, rfl⟩, fun _ _ e => Heap.get?_push_of_some _ e, Mem.le.refl _, fun a o e => Heap.get?_push_of_some _ (st12.sub a o e), fun _ _ e => .inl e⟩
  refine ⟨s2.heap.objs.size, _, gl, _, rfl, st12.trans stp, Heap.get?_push_size _ rfl, none_of_up st12.up (size_none _), mem_size st12.sub, (Itr.range hA N).imp (fun i v ⟨t, e⟩ => ⟨_, rfl, e ▸ .int _ _⟩), by simp⟩
end

section
variable {prog : Program} {w : World} {A : Around} {m : Str → Option Value} {s₀ s : Shared} {g0 g : Mem}
theorem comp_loop {elt iter : Expr} {x : Str} {px : Pos} {scope : Scope} {pos : Pos} {I acc : Addr} {cenv : Env} {N : Nat} {T : Nat → Value → Prop} {ok : Nat → Obj → Prop} {io : Obj} {n : Nat} {es : List PyData} {R : Result → Shared → Prop}
    (hit : Itr prog w A g N T ok) (hio : ok 0 io) (hN : N ≤ 1000000) (hes : es.length = N)
    (hx : cenv.kindOf x = some .local) (hp : (cenv.scope.kind == .class || (cenv.scope.kind == .module && cenv.locals != cenv.globals)) = false)
    (helt : ∀ i v d m', T i v → es[i]? = some d → m' x = some v → Ev prog w A cenv m' g elt (D d))
    (S : St s₀ g0 g cenv.locals m [(I, io), (acc, lstO [] n)] s)
    (hR : ∀ g' m' us n' s', St s₀ g0 g' cenv.locals m' [(acc, lstO us n')] s' → Mem.le g g' → RdAll g' us es → R (.ok .next) s') :
    codeAny (model prog w) A (.compLoop (.ListComp elt [⟨.Name x px, iter, [], 0⟩] scope pos) 0 (.ref I) (.ref acc) cenv) R s := by
  refine codeAny_compLoop_tests (fun k s' => ∃ (i : Nat) (g1 : Mem) (m1 : Str → Option Value) (us : List Value) (n1 : Nat) (io1 : Obj), Mem.le g g1 ∧ St s₀ g0 g1 cenv.locals m1 [(I, io1), (acc, lstO us n1)] s' ∧ ok i io1 ∧ RdAll g1 us (es.take i) ∧ i ≤ N ∧ k = N + 1 - i) ?_ (N + 1)
    ⟨0, g, m, [], n, io, Mem.le.refl _, S, hio, .nil, Nat.zero_le _, rfl⟩
  rintro k s' ⟨i, g1, m1, us, n1, io1, le1, S1, hok, rus, hi, rfl⟩
  have hI : s'.heap.get? I = some io1 := (S1.own (I, io1) (.head _)).1
  have hul : us.length ≤ 1000000 := by rw [rus.length]; have := List.length_take_le' i es; omega
  by_cases hlt : i < N
  · refine hit.item i io1 I s' _ _ hlt hok (fun a o e => S1.sub a o (le1 _ _ e)) hI fun v h1 tk o' ht hok' hsb hI' => ?_
    have S2 := St.change (pre := []) S1 hsb hI' (k := tk)
    refine wpAny_assign_Name (wpAny_storeName_local hx S2.ns (fun h2 hn2 hs2 => ?_) hp)
    have S3 := S2.store hn2 hs2 (k := tk + 1)
    refine wpAny_tests_nil ?_
    simp only [if_true]
    have hd : es[i]? = some es[i] := List.getElem?_eq_getElem (hes ▸ hlt)
    refine wpAny_mono (helt i v _ _ ht hd (if_pos rfl) g1 le1 _ S3.ns S3.sub) (fun y s4 ⟨g4, st4, r4⟩ => ?_) fun _ _ x => x.elim
    have S4 := S3.step st4
    have ho : s4.heap.get? acc = some (lstO us n1) := (S4.own (acc, lstO us n1) (by simp)).1
    refine append_raw ho hul ?_
    have hu := PySem.IsL.update (n := n1) ho (·.push y)
    have ep : us.toArray.push y = (us ++ [y]).toArray := by simp
    rw [ep] at hu
    refine ⟨N + 1 - (i + 1), by omega, i + 1, g4, _, us ++ [y], _, o', le1.trans st4.le, St.change (pre := [(I, o')]) S4 (Heap.SameBut.update ..) hu (k := s4.toks), hok', ?_, hlt, rfl⟩
    rw [take_succ_of hd]
    exact (rus.mono st4.le).snoc r4
  · have hin : i = N := by omega
    subst hin
    refine hit.done io1 I s' _ _ hok (fun a o e => S1.sub a o (le1 _ _ e)) hI fun h' he' => ?_
    rw [List.take_of_length_le (by omega)] at rus
    exact hR g1 m1 us n1 _ (S1.endIter he' (k := s'.toks)) le1 rus
end

section
variable {prog : Program} {w : World} {A : Around} {E : Value → Shared → Prop} {env : Env} {m : Str → Option Value} {G : Mem}
theorem comp_begin {elt iter : Expr} {x : Str} {px : Pos} {scope : Scope} {cl : List (Str × Addr)} {pos : Pos} {s s₂ : Shared} {I : Addr} {io : Obj} {G' g₂ : Mem} {N : Nat} {T : Nat → Value → Prop} {ok : Nat → Obj → Prop} {es : List PyData} {RR : Value → Addr → Result → Shared → Prop}
    (st : Step s G' s₂ g₂) (hI : s₂.heap.get? I = some io) (hI0 : s.heap.get? I = none) (hgI : g₂ I = none) (hit : Itr prog w A g₂ N T ok) (hio : ok 0 io) (hN : N ≤ 1000000) (hes : es.length = N)
    (hcell : ∀ y ∈ scope.names, y.2 ≠ .cell) (hkind : scope.kind = .function) (hx : scope.names.lookup x = some .local)
    (helt : ∀ C i v d m', T i v → es[i]? = some d → m' x = some v → Ev prog w A (compEnvC scope cl C env) m' g₂ elt (D d))
    (hRR : ∀ acc C g' m' us n' s', St s G' g' C m' [(acc, lstO us n')] s' → Mem.le g₂ g' → RdAll g' us es → RR (.ref acc) C (.ok .next) s') :
    wpAny (model prog w) A (newList []) (fun acc s₃ => wpAny (model prog w) A (newFunctionEnv scope env.globals cl [] env.qual none .none (some env)) (fun cenv s₄ =>
      codeAny (model prog w) A (.compStart (.ListComp elt [⟨.Name x px, iter, [], 0⟩] scope pos) 0 (.ref I) acc { cenv with scope := relabel scope env }) (RR acc cenv.locals) s₄) E s₃) E s₂ := by
  refine wpAny_newObj_type (wpAny_newFunctionEnv hcell (by intro y hy; simp at hy) (fun h₁ hns₁ hsb₁ => ?_) hkind)
  dsimp only at hns₁ hsb₁ ⊢
  generalize hH2 : s₂.heap.push { cls := .type "list", dict := none, data := .seq ([] : List Value).toArray } = H2 at hns₁ hsb₁ ⊢
  have hC : H2.objs.size = s₂.heap.objs.size + 1 := by rw [← hH2, Heap.size_push]
  have old : ∀ b o, s₂.heap.get? b = some o → h₁.get? b = some o := fun b o e => hsb₁.extBut b o (Nat.ne_of_lt (hC ▸ Nat.lt_succ_of_lt (Heap.lt_size e))) (Heap.get?_push_of_some _ (hH2 ▸ Heap.get?_push_of_some _ e))
  have hacc : h₁.get? s₂.heap.objs.size = some (lstO [] 0) := hsb₁.extBut _ _ (Nat.ne_of_lt (hC ▸ Nat.lt_succ_self _)) (Heap.get?_push_of_some _ (hH2 ▸ Heap.get?_push_size _ rfl))
  have nn : ∀ j : Nat, s₂.heap.get? (s₂.heap.objs.size + j) = none := fun j => by
    cases q : s₂.heap.get? (s₂.heap.objs.size + j) with
    | none => rfl
    | some o => exact absurd (Heap.lt_size q) (Nat.not_lt.mpr (Nat.le_add_right _ _))
  have gn : ∀ j : Nat, g₂ (s₂.heap.objs.size + j) = none := fun j => by
    cases q : g₂ (s₂.heap.objs.size + j) with
    | none => rfl
    | some o => have := st.sub _ _ q; rw [nn j] at this; cases this
  have hIlt := Heap.lt_size hI
  have S : St s G' g₂ H2.objs.size (fun y => ([] : List (Str × Value)).reverse.lookup y) [(I, io), (s₂.heap.objs.size, lstO [] 0)] { s₂ with heap := h₁, toks := s₂.toks + ([] : List (Str × Value)).length } := by
    obtain ⟨h2, t2, e2⟩ := st.same
    refine ⟨⟨h₁, s₂.toks + ([] : List (Str × Value)).length, by rw [e2]⟩, hns₁, fun b o e => old b o (st.up b o e), st.le, fun a o e => old a o (st.sub a o e), st.new, ?_, ?_, fun p hp => ?_, ?_⟩
    · rw [hC]; exact none_of_up st.up (nn 1)
    · rw [hC]; exact gn 1
    · rcases List.mem_cons.mp hp with rfl | hp
      · exact ⟨old _ _ hI, Nat.ne_of_lt (hC ▸ Nat.lt_succ_of_lt hIlt), hI0, hgI⟩
      · rw [List.mem_singleton.mp hp]
        exact ⟨hacc, Nat.ne_of_lt (hC ▸ Nat.lt_succ_self _), none_of_up st.up (nn 0), gn 0⟩
    · simpa using Nat.ne_of_lt hIlt
  have loop : ∀ s₃ : Shared, s₃ = { s₂ with heap := h₁, toks := s₂.toks + ([] : List (Str × Value)).length } →
      codeAny (model prog w) A (.compLoop (.ListComp elt [⟨.Name x px, iter, [], 0⟩] scope pos) 0 (.ref I) (.ref s₂.heap.objs.size) (compEnvC scope cl H2.objs.size env))
        (RR (.ref s₂.heap.objs.size) H2.objs.size) s₃ := by
    rintro s₃ rfl
    exact comp_loop (cenv := compEnvC scope cl H2.objs.size env) hit hio hN hes (lookup_relabel_local hx) (by simp [compEnvC, relabel, hkind]) (fun i v d m' t hd hm => helt _ i v d m' t hd hm) S
      fun g' m' us n' s' S' le r => hRR _ _ g' m' us n' s' S' le r
  exact codeAny_compStart_list (loop _ rfl) (hit.self 0 io I _ _ _ hio (old _ _ hI) (loop _ rfl))

theorem EvNew.comp {elt iter : Expr} {x : Str} {px : Pos} {scope : Scope} {cl : List (Str × Addr)} {pos : Pos} {N : Nat} {seq : Nat → Option PyData} {es : List PyData}
    (hi : ItrOf prog w A env m G iter N seq) (hN : N ≤ 1000000) (hes : es.length = N)
    (helt : ∀ G', Mem.le G G' → ∀ C i v d e m', seq i = some d → Rd G' v d → es[i]? = some e → m' x = some v → Ev prog w A (compEnvC scope cl C env) m' G' elt (D e))
    (hclos : closureFor scope env = pure cl := by rfl) (hcell : ∀ y ∈ scope.names, y.2 ≠ .cell := by decide +kernel) (hkind : scope.kind = .function := by rfl)
    (hnames : ∀ y ∈ scope.names, y.2 = .local → scope.names.lookup y.1 = some .local := by decide +kernel) (hx : scope.names.lookup x = some .local := by rfl)
    (hs : ∀ x, foldedSetIterable iter env x = pure x := by intro _; rfl) :
    EvNew prog w A env m G (.ListComp elt [⟨.Name x px, iter, [], 0⟩] scope pos) es := fun G' k s hn hsub => by
  rw [eval_ListComp]
  refine wpAny_comprehension_free (use := none) rfl hs hclos hkind hnames (wpAny_mono (hi G' k s hn hsub) (fun xv s₁ h₁ => wpAny_mono h₁ (fun it s₂ h₂ => ?_) fun _ _ e => e) fun _ _ e => e)
  obtain ⟨I, io, g₂, ok, rfl, st, hI, hI0, hgI, hit, hio⟩ := h₂
  refine comp_begin (RR := fun acc C => compPost (model prog w) A NoE none (fun v s' => ∃ a vs n g', Step s G' s' g' ∧ v = .ref a ∧ s'.heap.get? a = some (lstO vs n) ∧ s.heap.get? a = none ∧ g' a = none ∧ RdAll g' vs es) acc C) st hI hI0 hgI hit hio hN hes hcell hkind hx
    (fun C i v e m' ⟨d, hd, rd⟩ he hm => helt g₂ (k.trans st.le) C i v d e m' hd rd he hm) fun acc C g' m' us n' s' S le r => ⟨m', S.ns, fun h' hsb => ?_⟩
  obtain ⟨a1, a2, a3, a4⟩ := S.own (acc, lstO us n') (.head _)
  have S' := S.sub
  have ne : ∀ b o, g' b = some o → b ≠ C := fun b o e q => by subst q; rw [S.gL] at e; cases e
  obtain ⟨h1, t1, e1⟩ := S.same
  refine ⟨acc, us, n', g', ⟨⟨h', t1, by rw [e1]⟩, fun b o e => hsb.extBut b o (fun q => ?_) (S.up b o e), S.le, fun b o e => hsb.extBut b o (ne b o e) (S.sub b o e), S.new⟩, rfl, hsb.extBut _ _ a2 a1, a3, a4, r⟩
  subst q; rw [S.L0] at e; cases e
end

section
variable {s₀ s : Shared} {g0 g : Mem} {L : Addr} {m : Str → Option Value} {mu : List (Addr × Obj)}
theorem St.elsewhere (S : St s₀ g0 g L m mu s) {C : Addr} {h' : Heap} {k : Nat} (hsb : Heap.SameBut C s.heap h') (h0 : s₀.heap.get? C = none) (hg : g C = none) (hL : L ≠ C) (hmu : ∀ p ∈ mu, p.1 ≠ C) :
    St s₀ g0 g L m mu { s with heap := h', toks := k } := by
  obtain ⟨h1, t1, e1⟩ := S.same
  have keep : ∀ b o, b ≠ C → s.heap.get? b = some o → h'.get? b = some o := fun b o q e => (hsb.2 b q).trans e
  refine ⟨⟨h', k, by rw [e1]⟩, S.ns.sameBut hsb hL, fun b o e => keep b o (fun q => ?_) (S.up b o e), S.le, fun b o e => keep b o (fun q => ?_) (S.sub b o e), S.new, S.L0, S.gL, fun p hp => ?_, S.nd⟩
  · subst q; rw [h0] at e; cases e
  · subst q; rw [hg] at e; cases e
  · obtain ⟨h1, h2, h3, h4⟩ := S.own p hp
    exact ⟨keep _ _ (hmu p hp) h1, h2, h3, h4⟩
end

section
variable {prog : Program} {w : World} {A : Around} {env : Env} {m : Str → Option Value} {s₀ s : Shared} {g0 g : Mem} {mu : List (Addr × Obj)} {rest : List Stmt} {Q : Flow → Shared → Prop} {h₀ : Heap} {mg mb : Str → Option Value}

/-- y = [elt for x in iter], the frames exchanged before the store -/
theorem St.assignComp {elt iter : Expr} {x y : Str} {px py : Pos} {scope : Scope} {cl : List (Str × Addr)} {pos spos : Pos} {N : Nat} {seq : Nat → Option PyData} {es : List PyData} (S : St s₀ g0 g env.locals m mu s)
    (hi : ItrOf prog w A env m g iter N seq) (hN : N ≤ 1000000) (hes : es.length = N)
    (helt : ∀ G', Mem.le g G' → ∀ C i v d e m', seq i = some d → Rd G' v d → es[i]? = some e → m' x = some v → Ev prog w A (compEnvC scope cl C env) m' G' elt (D e))
    (next : ∀ a vs n g' s', St s₀ g0 g' env.locals (upd m y (.ref a)) ((a, lstO vs n) :: mu) s' → Mem.le g g' → RdAll g' vs es → wpAny (model prog w) A (execs rest env) Q NoE s')
    (hsw : swapsWith (.ListComp elt [⟨.Name x px, iter, [], 0⟩] scope pos) (some (.Name y py)) spos.line env = pure true := by rfl)
    (hy : env.kindOf y = some .local := by rfl) (hp : (env.scope.kind == .class || (env.scope.kind == .module && env.locals != env.globals)) = false := by rfl)
    (hclos : closureFor scope env = pure cl := by rfl) (hcell : ∀ y ∈ scope.names, y.2 ≠ .cell := by decide +kernel) (hkind : scope.kind = .function := by rfl)
    (hnames : ∀ y ∈ scope.names, y.2 = .local → scope.names.lookup y.1 = some .local := by decide +kernel) (hx : scope.names.lookup x = some .local := by rfl)
    (hs : ∀ x, foldedSetIterable iter env x = pure x := by intro _; rfl) :
    wpAny (model prog w) A (execs (.Assign [.Name y py] (.ListComp elt [⟨.Name x px, iter, [], 0⟩] scope pos) spos :: rest) env) Q NoE s := by
  refine wpAny_execs_cons ?_
  rw [exec_Assign_Name_used _ _ _ _ hsw]
  refine wpAny_bind (wpAny_standAt (wpAny_bind ?_))
  show wpAny _ A (do let _ ← comprehension (.ListComp elt [⟨.Name x px, iter, [], 0⟩] scope pos) scope env _ (newList []) false (eval iter env) (some (PySem.assign (Expr.Name y py) env))) _ _ s
  refine wpAny_bind (wpAny_mono (wpAny_comprehension_free (use := some (PySem.assign (Expr.Name y py) env)) (Q := fun _ s' => wpAny (model prog w) A (execs rest env) Q NoE s') rfl hs hclos hkind hnames
    (wpAny_mono (hi g (Mem.le.refl _) s S.ns S.sub) (fun xv s₁ h₁ => wpAny_mono h₁ (fun it s₂ h₂ => ?_) fun _ _ e => e) fun _ _ e => e)) (fun _ s' hq => wpAny_pure (wpAny_pure hq)) fun _ _ e => e)
  obtain ⟨I, io, g₂, ok, rfl, st, hI, hI0, hgI, hit, hio⟩ := h₂
  refine comp_begin (RR := fun acc C => compPost (model prog w) A NoE (some (PySem.assign (Expr.Name y py) env)) (fun _ s' => wpAny (model prog w) A (execs rest env) Q NoE s') acc C) st hI hI0 hgI hit hio hN hes hcell hkind hx
    (fun C i v e m' ⟨d, hd, rd⟩ he hm => helt g₂ st.le C i v d e m' hd rd he hm) fun acc C g' m' us n' s' S' le r => ?_
  have st' : Step s g s' g' := ⟨S'.same, S'.up, S'.le, S'.sub, S'.new⟩
  obtain ⟨a1, a2, a3, a4⟩ := S'.own (acc, lstO us n') (.head _)
  have T := S.step st'
  have T2 : St s₀ g0 g' env.locals m ((acc, lstO us n') :: mu) s' := by
    have T3 := S.alloc a1 a3 st'
    refine ⟨T.same, T.ns, T.up, T.le, T.sub, T.new, T.L0, T.gL, fun p hp => ?_, T3.nd⟩
    rcases List.mem_cons.mp hp with rfl | hp
    · obtain ⟨h1, h2, h3, h4⟩ := T3.own (acc, lstO us n') (.head _)
      exact ⟨h1, h2, h3, a4⟩
    · exact T.own p hp
  obtain ⟨oL, _, _, hL, _⟩ := id S.ns
  have hLC : env.locals ≠ C := fun q => by rw [q, S'.L0] at hL; cases hL
  show wpAny _ A (PySem.assign (Expr.Name y py) env (.ref acc)) _ _ _
  refine wpAny_assign_Name (wpAny_storeName_local hy T2.ns (fun h₂ hn₂ hs₂ => ?_) hp)
  refine ⟨m', S'.ns.sameBut hs₂ (Ne.symm hLC), fun h₃ hs₃ => ?_⟩
  have T4 := T2.store hn₂ hs₂ (k := s'.toks + 1)
  refine next acc us n' g' _ (T4.elsewhere hs₃ (none_of_up S.up S'.L0) S'.gL hLC (fun p hp q => ?_)) (st.le.trans le) r
  rcases List.mem_cons.mp hp with rfl | hp
  · exact a2 q
  · have := (S.own p hp).1
    rw [q, S'.L0] at this; cases this

/-- a copy of a list -/
theorem EvNew.copy {x : Str} {p pos : Pos} {e : Expr} {ds : List PyData} (W : Wd h₀ mg mb) (hw : Mem.le (memOf h₀) g) (hf : mg "list" = Option.none) (arg : Ev prog w A env m g e (D (.list ds))) (hz : ds.length ≤ 1000000)
    (he : env.globals = mainGlobals := by rfl) (heb : env.builtins = builtinsNs := by rfl) (hk : env.scope.kind = .function := by rfl) (hx : env.kindOf "list" = some .globalImplicit := by rfl)
    (hst : starEach [e] env = (false, eval e env) :: starEach [] env := by rfl) :
    EvNew prog w A env m g (.Call (.Name "list" p) [e] [] pos) ds := fun G' q s hn hs => by
  have hup := up_of (hw.trans q) hs
  have hb : mb "list" = some (.type "list") := (W.builtins "list" (by decide)).trans (by rfl)
  refine Call_ (name_boot (W.g.keeps hup) hf (W.b.keeps hup) hb ?_ he heb hk hx (by decide))
  refine PyProof.Rows.callWith_type1 (args_cons (arg.go q hn hs fun v s' g' st r => args_nil ?_) hst) hst
  obtain ⟨a, vs, n, rfl, ha, ra⟩ := r.list_inv
  refine call_list_seq (hsz := by rw [List.size_toArray, ra.length, sizeLine_eq]; omega) a (.inl rfl) (st.sub _ _ ha) rfl rfl fun h' c' hk' hD => ?_
  exact ⟨s'.heap.objs.size, vs, c', g', st.trans ⟨⟨h', s'.toks, rfl⟩, hk', Mem.le.refl _, fun b o e => hk' b o (st.sub b o e), fun _ _ e => .inl e⟩, rfl, hD, none_of_up st.up (size_none _), mem_size st.sub, ra⟩

/-- a cell of the frame's own is set -/
theorem St.assignCell {x : Str} {p' pos : Pos} {e : Expr} {d : PyData} {c : Addr} {ob : Obj} {v₀ : Option Value} (pre post : List (Addr × Obj)) (S : St s₀ g0 g env.locals m (pre ++ (c, ob) :: post) s) (hob : ob.data = .cell v₀)
    (h : Ev prog w A env m g e (D d))
    (next : ∀ v ob' g' s', ob'.data = .cell (some v) → St s₀ g0 g' env.locals m (pre ++ (c, ob') :: post) s' → Mem.le g g' → Rd g' v d → wpAny (model prog w) A (execs rest env) Q NoE s')
    (hc : env.cells.lookup x = some c := by rfl) (hl : env.kindOf x = some .cell := by rfl) (hk : env.scope.kind = .function := by rfl)
    (hs : swapsWith e (some (.Name x p')) pos.line env = pure false := by rfl) :
    wpAny (model prog w) A (execs (.Assign [.Name x p'] e pos :: rest) env) Q NoE s :=
  wpAny_execs_cons (wpAny_Assign_Name (h.go (Mem.le.refl _) S.ns S.sub fun v s' g' st p => by
    have S' := S.step st
    have ho : s'.heap.get? c = some ob := (S'.own (c, ob) (by simp)).1
    refine wpAny_storeName_cell hk hl hc ⟨ob, ho, hob⟩ fun h' hcell hsb => ?_
    obtain ⟨ob', ho', hd'⟩ := hcell
    exact next v ob' g' _ hd' (S'.change hsb ho' (k := s'.toks)) st.le p) hs)
end

/-! ### dict comprehensions -/
section
variable {prog : Program} {w : World} {A : Around} {m : Str → Option Value} {s₀ s : Shared} {g0 g : Mem}
theorem comp_loopD {kx tst iter : Expr} {x : Str} {px p1 : Pos} {kk : Nat} {scope : Scope} {pos : Pos} {I acc : Addr} {cenv : Env} {N : Nat} {T : Nat → Value → Prop} {ok : Nat → Obj → Prop} {io ob : Obj} {bits : Nat → Bool} {R : Result → Shared → Prop}
    (hit : Itr prog w A g N T ok) (hio : ok 0 io) (hN : N ≤ 1000000) (hob : ob.IsDictOf (intKind prog w) (TD []))
    (hx : cenv.kindOf x = some .local) (hp : (cenv.scope.kind == .class || (cenv.scope.kind == .module && cenv.locals != cenv.globals)) = false)
    (htst : ∀ i v m', i < N → T i v → m' x = some v → Tr prog w A cenv m' g tst (bits i))
    (hkey : ∀ (i : Nat) v m', i < N → T i v → m' x = some v → Ev prog w A cenv m' g kx (D (.int i)))
    (S : St s₀ g0 g cenv.locals m [(I, io), (acc, ob)] s)
    (hR : ∀ g' m' ob' s', St s₀ g0 g' cenv.locals m' [(acc, ob')] s' → Mem.le g g' → ob'.IsDictOf (intKind prog w) (TD (putAll ((List.range N).filter bits))) → R (.ok .next) s') :
    codeAny (model prog w) A (.compLoop (.DictComp kx (.Constant (.bool true) kk p1) [⟨.Name x px, iter, [tst], 0⟩] scope pos) 0 (.ref I) (.ref acc) cenv) R s := by
  refine codeAny_compLoop_testsD (fun k s' => ∃ (i : Nat) (g1 : Mem) (m1 : Str → Option Value) (ob1 io1 : Obj), Mem.le g g1 ∧ St s₀ g0 g1 cenv.locals m1 [(I, io1), (acc, ob1)] s' ∧ ok i io1 ∧ ob1.IsDictOf (intKind prog w) (TD (putAll ((List.range i).filter bits))) ∧ i ≤ N ∧ k = N + 1 - i) ?_ (N + 1)
    ⟨0, g, m, ob, io, Mem.le.refl _, S, hio, hob, Nat.zero_le _, rfl⟩
  rintro k s' ⟨i, g1, m1, ob1, io1, le1, S1, hok, hob1, hi, rfl⟩
  have hI : s'.heap.get? I = some io1 := (S1.own (I, io1) (.head _)).1
  by_cases hlt : i < N
  · refine hit.item i io1 I s' _ _ hlt hok (fun a o e => S1.sub a o (le1 _ _ e)) hI fun v h1 tk o' ht hok' hsb hI' => ?_
    have S2 := St.change (pre := []) S1 hsb hI' (k := tk)
    refine wpAny_assign_Name (wpAny_storeName_local hx S2.ns (fun h2 hn2 hs2 => ?_) hp)
    have S3 := S2.store hn2 hs2 (k := tk + 1)
    refine wpAny_tests_one ?_
    refine wpAny_mono (htst i v _ hlt ht (if_pos rfl) g1 le1 _ S3.ns S3.sub) (fun b s4 ⟨eb, g4, st4⟩ => ?_) fun _ _ x => x.elim
    subst eb
    have S4 := S3.step st4
    have ef : (List.range (i + 1)).filter bits = (List.range i).filter bits ++ (if bits i then [i] else []) := by
      rw [List.range_succ, List.filter_append]
      cases hb : bits i <;> simp [hb]
    cases hb : bits i with
    | false =>
      simp only [Bool.false_eq_true, if_false]
      refine ⟨N + 1 - (i + 1), by omega, i + 1, g4, _, ob1, o', le1.trans st4.le, S4, hok', ?_, hlt, rfl⟩
      rw [ef, hb]; simpa using hob1
    | true =>
      simp only [if_true]
      refine wpAny_mono (hkey i v _ hlt ht (if_pos rfl) g4 (le1.trans st4.le) _ S4.ns S4.sub) (fun y s5 ⟨g5, st5, r5⟩ => ?_) fun _ _ x => x.elim
      refine wpAny_Constant_bool ?_
      have S5 := S4.step st5
      obtain ⟨t5, rfl⟩ := r5.int_inv
      have ho : s5.heap.get? acc = some ob1 := (S5.own (acc, ob1) (by simp)).1
      refine wpAny_dictSet_pairs (knd := intKind prog w) (k := (i : Int)) (intKind_is _ _ _ _) (Heap.dictOf_iff.mpr ⟨ob1, ho, hob1⟩) (fun h' hd' hsb' => ?_) (by
        unfold TD; rw [List.length_map, sizeLine_eq]
        have e1 := putAll_length ((List.range i).filter bits)
        have e2 := List.length_filter_le bits (List.range i)
        rw [List.length_range] at e2
        omega)
      rw [stored_TD] at hd'
      obtain ⟨ob2, hob2, hd2⟩ := Heap.dictOf_iff.mp hd'
      refine ⟨N + 1 - (i + 1), by omega, i + 1, g5, _, ob2, o', (le1.trans st4.le).trans st5.le, St.change (pre := [(I, o')]) S5 hsb' hob2 (k := s5.toks + 1), hok', ?_, hlt, rfl⟩
      rw [ef, hb, if_pos rfl, putAll_snoc]; exact hd2
  · have hin : i = N := by omega
    subst hin
    refine hit.done io1 I s' _ _ hok (fun a o e => S1.sub a o (le1 _ _ e)) hI fun h' he' => ?_
    exact hR g1 m1 ob1 _ (S1.endIter he' (k := s'.toks)) le1 hob1
end

section
variable {prog : Program} {w : World} {A : Around} {env : Env} {m : Str → Option Value} {G : Mem} {h₀ : Heap} {mg mb : Str → Option Value}
theorem evDictComp {kx tst iter : Expr} {x : Str} {px p1 : Pos} {kk : Nat} {scope : Scope} {cl : List (Str × Addr)} {pos : Pos} {N : Nat} {seq : Nat → Option PyData} {bits : Nat → Bool}
    (W : Wd h₀ mg mb) (hw : Mem.le (memOf h₀) G)
    (hi : ItrOf prog w A env m G iter N seq) (hN : N ≤ 1000000)
    (htst : ∀ G', Mem.le G G' → ∀ C i v d m', i < N → seq i = some d → Rd G' v d → m' x = some v → Tr prog w A (compEnvC scope cl C env) m' G' tst (bits i))
    (hkey : ∀ G', Mem.le G G' → ∀ C (i : Nat) v d m', i < N → seq i = some d → Rd G' v d → m' x = some v → Ev prog w A (compEnvC scope cl C env) m' G' kx (D (.int i)))
    (hclos : closureFor scope env = pure cl := by rfl) (hcell : ∀ y ∈ scope.names, y.2 ≠ .cell := by decide +kernel) (hkind : scope.kind = .function := by rfl)
    (hnames : ∀ y ∈ scope.names, y.2 = .local → scope.names.lookup y.1 = some .local := by decide +kernel) (hx : scope.names.lookup x = some .local := by rfl)
    (hs : ∀ x, foldedSetIterable iter env x = pure x := by intro _; rfl) :
    Ev prog w A env m G (.DictComp kx (.Constant (.bool true) kk p1) [⟨.Name x px, iter, [tst], 0⟩] scope pos) (PD prog w (putAll ((List.range N).filter bits))) := fun G' k s hn hsub => by
  rw [arm_eval_DictComp]
  refine wpAny_comprehension_free (use := Option.none) rfl hs hclos hkind hnames (wpAny_mono (hi G' k s hn hsub) (fun xv s₁ h₁ => wpAny_mono h₁ (fun it s₂ h₂ => ?_) fun _ _ e => e) fun _ _ e => e)
  obtain ⟨I, io, g₂, ok, rfl, st, hI, hI0, hgI, hit, hio⟩ := h₂
  have h3 := size_gt W.g (up_of ((hw.trans k).trans st.le) st.sub)
  refine wpAny_newObj_type (wpAny_newFunctionEnv hcell (by intro y hy; simp at hy) (fun h₁ hns₁ hsb₁ => ?_) hkind)
  dsimp only at hns₁ hsb₁ ⊢
  obtain ⟨o, ho, hd⟩ := Heap.dictOf_iff.mp (Heap.DictOf.new (knd := intKind prog w) s₂.heap)
  generalize hH2 : s₂.heap.push { cls := .type "dict", dict := none, data := .dict #[] } = H2 at hns₁ hsb₁ ho ⊢
  have hC : H2.objs.size = s₂.heap.objs.size + 1 := by rw [← hH2, Heap.size_push]
  have old : ∀ b o, s₂.heap.get? b = some o → h₁.get? b = some o := fun b o e => hsb₁.extBut b o (Nat.ne_of_lt (hC ▸ Nat.lt_succ_of_lt (Heap.lt_size e))) (Heap.get?_push_of_some _ (hH2 ▸ Heap.get?_push_of_some _ e))
  have hacc : h₁.get? s₂.heap.objs.size = some o := hsb₁.extBut _ _ (Nat.ne_of_lt (hC ▸ Nat.lt_succ_self _)) (Heap.get?_push_of_some _ ho)
  have nn : ∀ j : Nat, s₂.heap.get? (s₂.heap.objs.size + j) = none := fun j => by
    cases q : s₂.heap.get? (s₂.heap.objs.size + j) with
    | none => rfl
    | some o => exact absurd (Heap.lt_size q) (Nat.not_lt.mpr (Nat.le_add_right _ _))
  have gn : ∀ j : Nat, g₂ (s₂.heap.objs.size + j) = none := fun j => by
    cases q : g₂ (s₂.heap.objs.size + j) with
    | none => rfl
    | some o => have := st.sub _ _ q; rw [nn j] at this; cases this
  have hIlt := Heap.lt_size hI
  have S : St s G' g₂ H2.objs.size (fun y => ([] : List (Str × Value)).reverse.lookup y) [(I, io), (s₂.heap.objs.size, o)] { s₂ with heap := h₁, toks := s₂.toks + ([] : List (Str × Value)).length } := by
    obtain ⟨h2, t2, e2⟩ := st.same
    refine ⟨⟨h₁, s₂.toks + ([] : List (Str × Value)).length, by rw [e2]⟩, hns₁, fun b o e => old b o (st.up b o e), st.le, fun a o e => old a o (st.sub a o e), st.new, ?_, ?_, fun p hp => ?_, ?_⟩
    · rw [hC]; exact none_of_up st.up (nn 1)
    · rw [hC]; exact gn 1
    · rcases List.mem_cons.mp hp with rfl | hp
      · exact ⟨old _ _ hI, Nat.ne_of_lt (hC ▸ Nat.lt_succ_of_lt hIlt), hI0, hgI⟩
      · rw [List.mem_singleton.mp hp]
        exact ⟨hacc, Nat.ne_of_lt (hC ▸ Nat.lt_succ_self _), none_of_up st.up (nn 0), gn 0⟩
    · simpa using Nat.ne_of_lt hIlt
  have loop : ∀ s₃ : Shared, s₃ = { s₂ with heap := h₁, toks := s₂.toks + ([] : List (Str × Value)).length } →
      codeAny (model prog w) A (.compLoop (.DictComp kx (.Constant (.bool true) kk p1) [⟨.Name x px, iter, [tst], 0⟩] scope pos) 0 (.ref I) (.ref s₂.heap.objs.size) (compEnvC scope cl H2.objs.size env))
        (compPost (model prog w) A NoE Option.none (Ret s G' (PD prog w (putAll ((List.range N).filter bits)))) (.ref s₂.heap.objs.size) H2.objs.size) s₃ := by
    rintro s₃ rfl
    refine comp_loopD (cenv := compEnvC scope cl H2.objs.size env) hit hio hN hd (lookup_relabel_local hx) (by simp [compEnvC, relabel, hkind]) (fun i v m' hi' ⟨d, hd, rd⟩ hm => htst g₂ (k.trans st.le) _ i v d m' hi' hd rd hm) (fun i v m' hi' ⟨d, hd, rd⟩ hm => hkey g₂ (k.trans st.le) _ i v d m' hi' hd rd hm) S
      fun g' m' ob' s' S' le hob' => ⟨m', S'.ns, fun h' hsb => ?_⟩
    have S2 := St.freeze (pre := []) S'
    obtain ⟨h1, t1, e1⟩ := S2.same
    have ne : ∀ b o, (g'.add s₂.heap.objs.size ob') b = some o → b ≠ H2.objs.size := fun b o e q => by have e2 : (g'.add s₂.heap.objs.size ob') H2.objs.size = Option.none := S2.gL; rw [q] at e; rw [e2] at e; cases e
    refine ⟨g'.add s₂.heap.objs.size ob', ⟨⟨h', t1, by rw [e1]⟩, fun b o e => hsb.extBut b o (fun q => ?_) (S2.up b o e), S2.le, fun b o e => hsb.extBut b o (ne b o e) (S2.sub b o e), S2.new⟩, _, ob', rfl, ?_, Mem.add_self _ _ _, hob'⟩
    · have e2 : s.heap.get? H2.objs.size = Option.none := S2.L0
      rw [q] at e; rw [e2] at e; cases e
    · show decide (s₂.heap.objs.size = 1) = false; exact decide_eq_false (by omega)
  exact codeAny_compStart_dict (loop _ rfl) (hit.self 0 io I _ _ _ hio (old _ _ hI) (loop _ rfl))
end
theorem enterC {prog : Program} {w : World} {h₀ : Heap} {mg mb : Str → Option Value} {x : Str} {params : Arguments} {body : List Stmt} {scope : Scope} {f : Addr} {n : Nat} {Pre : Mem → List Value → Prop} {P : Mem → Value → Prop}
    (W : Wd h₀ mg mb) (F : FnAt h₀ mg x params body scope f) (cs : Addr → List (Str × Addr)) (hcs : ∀ L, cellsFrom (L + 1) scope.names [] = cs L) (hdis : ∀ L p, p ∈ cs L → (cs L).lookup p.1 = some p.2)
    (h : ∀ (A : Around), Ok n A → ∀ (s : Shared) (g : Mem), Mem.le (memOf h₀) g → g.sub s.heap → ∀ vs, Pre g vs → ∀ cd : Value, ∃ binds : List (Str × Value),
      (∀ doc pm an ct, bindArgs (fnOf x x params body scope .none .none doc pm an cd ct) ⟨vs, []⟩ = pure binds) ∧
      (∀ L, ∀ y ∈ binds, scope.names.lookup y.1 = some .local ∨ (scope.names.lookup y.1 = some .cell ∧ ((cs L).lookup y.1).isSome = true)) ∧
      ∀ L s' (cf : Addr → Obj), (∀ nm c, (cs L).lookup nm = some c → (cf c).data = .cell (bindC (envOfC x scope L f cd).kindOf binds (fun _ => none) nm)) →
        St s g g L (bindL (envOfC x scope L f cd).kindOf binds fun _ => none) ((cs L).map fun p => (p.2, cf p.2)) s' →
        wpAny (model prog w) A (execs body (envOfC x scope L f cd)) (fun fl s'' => Ret s g P (flowVal fl) s'') NoE s')
    (hco : scope.isCoroutine = false := by rfl) (hgen : scope.isGenerator = false := by rfl) (hk : scope.kind = .function := by rfl) :
    FnSpec prog w h₀ f (n + 1) Pre P := by
  obtain ⟨oc, od, osl, doc, pm, an, cd, ct, hmg, ho, hcd⟩ := F
  refine ⟨⟨_, _, ho, rfl⟩, fun A hA s g hw hs vs hp => ?_⟩
  obtain ⟨binds, hb, hl, hbody⟩ := h (A.deeper (envOfC x scope s.heap.objs.size f cd)) hA.deeper s g hw hs vs hp cd
  have hup := up_of hw hs
  refine codeAny_call_cells (fd := fnOf x x params body scope .none .none doc pm an cd ct) (body := body) (binds := binds) hA.room (hup _ _ ho) rfl (W.nolimit.keeps hup) (hcd.keeps hup) rfl (hb ..) rfl
    (fun y hy => by
      show scope.names.lookup y.1 = some .local ∨ (scope.names.lookup y.1 = some .cell ∧ ((cellsFrom (s.heap.objs.size + 1) scope.names []).lookup y.1).isSome = true)
      rw [hcs]; exact hl _ y hy) (fun s₁ X => ?_) hco hgen hk
  have hcell : ∀ n c, (cs s.heap.objs.size).lookup n = some c → s₁.heap.IsCell c (bindC (envOfC x scope s.heap.objs.size f cd).kindOf binds (fun _ => none) n) := fun n c e => by rw [← hcs] at e; exact X.cell n c e
  have hab : ∀ n c, (n, c) ∈ cs s.heap.objs.size → s.heap.objs.size < c := fun n c e => by rw [← hcs] at e; exact X.above n c e
  have hap : (cs s.heap.objs.size).Pairwise fun x y => x.2 ≠ y.2 := by rw [← hcs]; exact X.apart
  have fresh : ∀ c, s.heap.objs.size ≤ c → s.heap.get? c = none := fun c hc => by
    cases e : s.heap.get? c with
    | none => rfl
    | some o => exact absurd (Heap.lt_size e) (Nat.not_lt.mpr hc)
  have gn : ∀ c, s.heap.get? c = none → g c = none := fun c hc => by
    cases q : g c with
    | none => rfl
    | some o => have := hs _ _ q; rw [hc] at this; cases this
  have S : St s g g s.heap.objs.size (bindL (envOfC x scope s.heap.objs.size f cd).kindOf binds fun _ => none) ((cs s.heap.objs.size).map fun p => (p.2, (fun c => (s₁.heap.get? c).getD (tupO [] 0)) p.2)) s₁ :=
    ⟨X.toInCall.same, X.toInCall.ns, X.toInCall.keep, Mem.le.refl _, fun a o e => X.toInCall.keep _ _ (hs a o e), fun _ _ e => .inl e, size_none _, mem_size hs, fun p hp => by
      obtain ⟨q, hq, rfl⟩ := List.mem_map.mp hp
      have hlt := hab q.1 q.2 hq
      have h0 := fresh q.2 (Nat.le_of_lt hlt)
      obtain ⟨o, ho, hd⟩ := hcell q.1 q.2 (hdis _ q hq)
      exact ⟨by show s₁.heap.get? q.2 = some ((s₁.heap.get? q.2).getD (tupO [] 0)); rw [ho]; rfl, Nat.ne_of_gt hlt, h0, gn _ h0⟩, by
      rw [List.map_map]
      exact (List.pairwise_map (f := (Prod.fst ∘ fun p : Str × Addr => (p.2, (fun c => (s₁.heap.get? c).getD (tupO [] 0)) p.2))) (R := (· ≠ ·))).mpr hap⟩
  refine wpAny_mono (hbody s.heap.objs.size _ (fun c => (s₁.heap.get? c).getD (tupO [] 0)) (fun nm c e => ?_) S) (fun fl s' q => ⟨_, rfl, ?_⟩) fun _ _ x => x.elim
  · obtain ⟨o, ho, hd⟩ := hcell nm c e
    show ((s₁.heap.get? c).getD (tupO [] 0)).data = _
    rw [ho]; exact hd
  · cases fl <;> exact q
/-- a list of bools of which Φ holds -/
def PFl (Φ : List Bool → Prop) : Mem → Value → Prop := fun g v => ∃ fl : List Bool, Rd g v (.list (bd fl)) ∧ Φ fl
theorem Mono.fl (Φ : List Bool → Prop) : Mono (PFl Φ) := fun g g' v k ⟨fl, r, h⟩ => ⟨fl, r.mono k, h⟩
section
variable {prog : Program} {w : World} {h₀ : Heap} {mg mb : Str → Option Value} {f f1 f2 : Addr}
theorem law_places (W : Wd h₀ mg mb) (F : FnAt h₀ mg "_law_places" (parOf (stm 21)) (bodyOf (stm 21)) (scopeOf (stm 21)) f) (nr : mg "range" = none) (Φ : List Bool → Prop) (N : Nat) (hΦ : ∀ fl, Φ fl → N ≤ fl.length) (hN : N ≤ 1000) :
    FnSpec prog w h₀ f 2 (fun g vs => ∃ v u, vs = [v, u] ∧ PFl Φ g v ∧ Rd g u (.int N)) (fun g v => ∃ fl, Φ fl ∧ PD prog w (putAll ((List.range N).filter fun k => fl.getD k false)) g v) := by
  refine enterC W F (fun L => [("flags", L + 1)]) (fun L => rfl) (fun L p hp => by rw [List.mem_singleton.mp hp]; rfl) (fun A hA s g hw hs vs hp cd => ?_)
  obtain ⟨v1, v2, rfl, ⟨fl, r1, hfl⟩, r2⟩ := hp
  refine ⟨[("flags", v1), ("size", v2)], fun _ _ _ _ => rfl, fun L y hy => ?_, fun L s1 cf hcf S => ?_⟩
  · rcases List.mem_cons.mp hy with rfl | hy
    · exact .inr ⟨rfl, rfl⟩
    · rw [List.mem_singleton.mp hy]; exact .inl rfl
  have hc1 : (cf (L + 1)).data = .cell (some v1) := hcf "flags" (L + 1) rfl
  have hlen := hΦ fl hfl
  have S2 := St.freeze (pre := []) (post := []) (a := L + 1) (o := cf (L + 1)) S
  have le2 : Mem.le g (g.add (L + 1) (cf (L + 1))) := S2.le
  refine S2.ret' (P := PD prog w (putAll ((List.range N).filter fun k => fl.getD k false))) (evDictComp W (hw.trans le2) (ItrOf.range W (hw.trans le2) nr hA.1 (Ev.localD rfl (r2.mono le2)) (by omega)) (by omega) (fun G' k C i v d m' hi hd rd hm => ?_) (fun G' k C i v d m' hi hd rd hm => ?_)) fun v s3 ⟨g', st, q⟩ => ⟨g', st, fl, hfl, q⟩
  · cases hd
    have hget : (bd fl)[i]? = some (.bool (fl.getD i false)) := by
      unfold bd
      rw [List.getElem?_map, List.getD_eq_getElem?_getD, List.getElem?_eq_getElem (by omega)]; rfl
    exact Tr.val (Ev.item (Ev.cell (c := L + 1) rfl (k _ _ (Mem.add_self _ _ _)) hc1 (fun g'' k' => r1.mono (le2.trans (k.trans k')))) (Ev.localD hm rd) (by omega) (by omega) (by rw [Int.toNat_natCast]; exact hget))
  · cases hd
    exact Ev.localD hm rd
end
/-- a True dict whose keys are the numbers of which Φ holds -/
def KD (prog : Program) (w : World) (Φ : Nat → Prop) : Mem → Value → Prop := fun g v => ∃ ks, PD prog w ks g v ∧ ∀ k : Int, k ∈ ks ↔ ∃ n : Nat, (n : Int) = k ∧ Φ n
theorem Mono.kd {prog : Program} {w : World} (Φ : Nat → Prop) : Mono (KD prog w Φ) := fun g g' v k ⟨ks, p, h⟩ => ⟨ks, Mono.pd _ _ _ _ k p, h⟩
theorem putAll_kd {prog : Program} {w : World} {l : List Nat} {Φ : Nat → Prop} (h : ∀ n, n ∈ l ↔ Φ n) {g : Mem} {v : Value} (p : PD prog w (putAll l) g v) : KD prog w Φ g v :=
  ⟨_, p, fun k => by rw [mem_putAll]; exact ⟨fun ⟨n, hn, e⟩ => ⟨n, e, (h n).mp hn⟩, fun ⟨n, e, hn⟩ => ⟨n, (h n).mpr hn, e⟩⟩⟩
section
variable {prog : Program} {w : World} {A : Around} {env : Env} {m : Str → Option Value} {G : Mem}
theorem CmpOk.neK {n : Nat} {Φ Ψ : Nat → Prop} (hA : Ok n A) (h : ∀ k, Φ k ↔ Ψ k) : CmpOk prog w A G .NotEq (KD prog w Φ) (KD prog w Ψ) false := fun g le x y s hs ⟨ka, p, hk⟩ ⟨kb, q, hk'⟩ =>
  CmpOk.neD (G := G) hA (fun k => ((hk k).trans ⟨fun ⟨n, e, f⟩ => ⟨n, e, (h n).mp f⟩, fun ⟨n, e, f⟩ => ⟨n, e, (h n).mpr f⟩⟩).trans (hk' k).symm) g le x y s hs p q
theorem CmpOk.eqK {n : Nat} {Φ Ψ : Nat → Prop} (hA : Ok n A) (h : ∀ k, Φ k ↔ Ψ k) : CmpOk prog w A G .Eq (KD prog w Φ) (KD prog w Ψ) true := fun g le x y s hs ⟨ka, p, hk⟩ ⟨kb, q, hk'⟩ =>
  CmpOk.eqD (G := G) hA (fun k => ((hk k).trans ⟨fun ⟨n, e, f⟩ => ⟨n, e, (h n).mp f⟩, fun ⟨n, e, f⟩ => ⟨n, e, (h n).mpr f⟩⟩).trans (hk' k).symm) g le x y s hs p q
theorem EvNew.ev {e : Expr} {ds : List PyData} (h : EvNew prog w A env m G e ds) : Ev prog w A env m G e (D (.list ds)) := fun G' k s hn hs =>
  wpAny_mono (h G' k s hn hs) (fun v s' ⟨a, vs, n, g', st, e, ho, h0, hg, r⟩ => by
    subst e
    refine ⟨g'.add a (lstO vs n), ⟨st.same, st.up, st.le.trans (Mem.le_add hg), fun b p e => ?_, fun b p e => ?_⟩, .list (Mem.add_self _ _ _) (r.mono (Mem.le_add hg))⟩
    · unfold Mem.add at e
      by_cases q : b = a
      · rw [if_pos q] at e; cases e; subst q; exact ho
      · rw [if_neg q] at e; exact st.sub _ _ e
    · unfold Mem.add at e
      by_cases q : b = a
      · subst q; exact .inr h0
      · rw [if_neg q] at e; exact st.new _ _ e) fun _ _ x => x
end

def lookAt (rows : List Row) (rs : List Rng) : List (Option Nat) := rows.map Row.to ++ (places rs).map some
theorem lookAt_dat (rows : List Row) (rs : List Rng) : rows.map (fun r => od r.to) ++ nd (places rs) = (lookAt rows rs).map od := by
  unfold lookAt nd; rw [List.map_append, List.map_map, List.map_map]; rfl
theorem mem_lookAt {rows : List Row} {rs : List Rng} {n : Nat} : n ∈ rows.filterMap Row.to ++ places rs ↔ some n ∈ lookAt rows rs := by
  unfold lookAt
  simp only [List.mem_append, List.mem_filterMap, List.mem_map, Option.some.injEq, exists_eq_right]

section
variable {prog : Program} {w : World} {h₀ : Heap} {mg mb : Str → Option Value} {f f1 f2 f3 f4 f5 f6 f7 : Addr} {K : Frag} {C fI : Addr}
theorem law_reach_right (W : Wd h₀ mg mb) (F : FnAt h₀ mg "_law_reach_right" (parOf (stm 23)) (bodyOf (stm 23)) (scopeOf (stm 23)) f) (c : CodeCls h₀ mg K C fI) (nl : mg "len" = none)
    (n1 : mg "_law_to" = some (.ref f1)) (n2 : mg "_law_heads" = some (.ref f2)) (n3 : mg "_law_places" = some (.ref f3)) (nn4 : mg "led_to" = some (.ref f4)) (n5 : mg "targets" = some (.ref f5)) (n6 : mg "reached" = some (.ref f6)) (n7 : mg "_law_live" = some (.ref f7))
    (rows : List Row) (rs : List Rng) (hrows : rows.length ≤ 900) (hrs : rs.length ≤ 900) (hto : ∀ r ∈ rows, ∀ t, r.to = some t → t ≤ rows.length) (hpl : ∀ t ∈ places rs, t ≤ rows.length)
    (S1 : ∀ r : Row, FnSpec prog w h₀ f1 2 (Dat [r.dat]) (D (od r.to)))
    (S2 : FnSpec prog w h₀ f2 2 (Dat [.list (rs.map Rng.dat)]) (D (.list (nd (places rs)))))
    (S3 : ∀ (Φ : List Bool → Prop) (N : Nat), (∀ fl, Φ fl → N ≤ fl.length) → N ≤ 1000 → FnSpec prog w h₀ f3 2 (fun g vs => ∃ v u, vs = [v, u] ∧ PFl Φ g v ∧ Rd g u (.int N)) (fun g v => ∃ fl, Φ fl ∧ PD prog w (putAll ((List.range N).filter fun k => fl.getD k false)) g v))
    (S4 : FnSpec prog w h₀ f4 4 (Dat [.list (rows.map Row.dat), .list (rs.map Rng.dat)]) (PD prog w (putAll (rows.filterMap Row.to ++ places rs))))
    (S5 : FnSpec prog w h₀ f5 6 (fun g vs => ∃ v, vs = [v] ∧ PCodeD C (.list (rows.map Row.dat)) (.list (rs.map Rng.dat)) g v) (PD prog w (putAll (rows.filterMap Row.to ++ places rs))))
    (S6 : FnSpec prog w h₀ f6 4 (Dat [.list (rows.map Row.dat), .list (rs.map Rng.dat)]) (ReachD prog w rows (0 :: places rs)))
    (S7 : FnSpec prog w h₀ f7 6 (Dat [.list (rows.map Row.dat), .list (rs.map Rng.dat)]) (PLive rows (0 :: places rs))) :
    FnSpec prog w h₀ f 8 (Dat [.list (rows.map Row.dat), .list (rs.map Rng.dat)]) (D (.bool true)) := by
  refine enter W F (by decide +kernel) (fun A hA s g hw hs vs hp cd => ?_)
  obtain ⟨v1, v2, rfl, rv1, rv2⟩ := two hp
  refine ⟨[("rows", v1), ("ranges", v2)], fun _ _ _ _ => rfl, locs rfl, fun L s1 S => ?_⟩
  have epl := places_length rs
  refine S.assign (Ev.len W hw nl (Ev.localD rfl rv1) (by rw [List.length_map]; omega)) fun vz g2 s2 S2' le2 rz => ?_
  rw [List.length_map] at rz
  refine S2'.assignNew (EvNew.mul (n := ((rows.length + 1 : Nat) : Int)) (Ev.list (Evs.cons Ev.bool Evs.nil)) (Ev.castD (Ev.add (Ev.localD (upd_self ..) rz) Ev.int) rfl) (by omega)) fun a us n g3 s3 S3' le3 r3 => ?_
  have r3' : RdAll g3 us (bd (List.replicate (rows.length + 1) false)) := by
    rw [Int.toNat_natCast] at r3
    unfold bd; rw [List.map_replicate]; exact r3
  have le23 := le2.trans le3
  have hos : (lookAt rows rs).length ≤ 3000 := by unfold lookAt; rw [List.length_append, List.length_map, List.length_map]; omega
  refine S3'.forList hA.1 (ds := (lookAt rows rs).map od) (Ev.castD (Ev.catL (xs := rows.map (fun r => od r.to)) (ys := nd (places rs))
      (EvNew.ev (EvNew.comp (ItrOf.list hA.1 (Ev.localD ((upd_ne (by decide)).trans ((upd_ne (by decide)).trans rfl)) (rv1.mono le23))) (by rw [List.length_map]; omega) (by rw [List.length_map, List.length_map]) (fun G' k C i v d e m' hd rd he hm => ?_)))
      (Ev.call W (hA.le (by decide)) (hw.trans le23) n2 S2 (Evs.cons (Ev.localD ((upd_ne (by decide)).trans ((upd_ne (by decide)).trans rfl)) (rv2.mono le23)) Evs.nil)) (by unfold nd; rw [List.length_map, List.length_map]; omega)) (congrArg PyData.list (lookAt_dat rows rs)))
    (fun i g4 m4 mu => Agree ["place"] (upd (upd (fun y => List.lookup y [(("rows" : Str), v1), ("ranges", v2)].reverse) "size" vz) "named" (.ref a)) m4 ∧ ∃ fl us n, mu = [(a, lstO us n)] ∧ RdAll g4 us (bd fl) ∧ fl.length = rows.length + 1 ∧ ∀ k, fl[k]? = some true ↔ some k ∈ (lookAt rows rs).take i)
    (fun g' le => ⟨Agree.refl _ _, _, us, n, rfl, r3'.mono le, by simp, fun k => ⟨fun hk => (by rw [List.getElem?_replicate] at hk; split at hk <;> cases hk), fun h => (by cases h)⟩⟩)
    (fun i d hd g4 m4 mu4 u s4 it le4 j S4' ru => ?_) fun g4 m4 mu4 s4 le4 j S4' => ?_
  · obtain ⟨r, hr, rfl⟩ := map_get hd
    rw [List.getElem?_map, hr] at he
    cases he
    exact Ev.call W (hA.le (by decide)) ((hw.trans le23).trans k) n1 (S1 r) (Evs.cons (Ev.localD hm rd) Evs.nil)
  · obtain ⟨o, ho, rfl⟩ := map_get hd
    obtain ⟨hm, fl, us4, n4, rfl, r4, hfl, hin⟩ := j
    have hm' := hm.upd (x := "place") (v := u) (by decide)
    have hul : us4.length = fl.length := by rw [r4.length]; unfold bd; rw [List.length_map]
    refine execs_if0 S4' (Tr.cmp (Ev.localD (upd_self ..) (ru.mono S4'.all)) Ev.none (Mono.d _) CmpOk.isNot) (fun e s5 S5' => ?_) fun e s5 S5' => ?_
    · rw [isNone_od] at e
      cases o with
      | none => exact no2 e
      | some t =>
      have htl : t ≤ rows.length := by
        have h1 : some t ∈ lookAt rows rs := List.mem_of_getElem? ho
        rcases List.mem_append.mp (mem_lookAt.mpr h1) with h2 | h2
        · obtain ⟨r, hr, e2⟩ := List.mem_filterMap.mp h2
          exact hto r hr t e2
        · exact hpl t h2
      refine St.setAt [it] [] S5' Ev.bool (Ev.local (hm'.get (upd_self ..) (by decide)) fun _ _ => rfl) (k := t) (Ev.localD (upd_self ..) ru) (by omega) (by omega) fun v6 n6 g6 s6 S6' le6 r6 => ?_
      refine wpAny_execs_nil (wpAny_execs_nil ?_)
      refine TurnEnd.next le6 ⟨hm', fl.set t true, _, _, rfl, ?_, by rw [List.length_set]; exact hfl, fun k => ?_⟩ S6'
      · rw [Int.toNat_natCast]
        have := (r4.mono le6).set t r6
        unfold bd at this ⊢; rw [List.map_set]; exact this
      · rw [take_succ_of ho, List.mem_append, List.mem_singleton, ← hin k, List.getElem?_set]
        by_cases q : t = k
        · subst q; rw [if_pos rfl, if_pos (by omega)]; simp
        · rw [if_neg q]
          constructor
          · exact .inl
          · rintro (h | h)
            · exact h
            · cases h; exact absurd rfl q
    · rw [isNone_od] at e
      cases o with
      | some t => exact no1 e
      | none =>
      refine wpAny_execs_nil ?_
      refine TurnEnd.next (Mem.le.refl _) ⟨hm', fl, _, _, rfl, r4, hfl, fun k => ?_⟩ S5'
      rw [take_succ_of ho, List.mem_append, List.mem_singleton, ← hin k]
      constructor
      · exact .inl
      · rintro (h | h)
        · exact h
        · cases h
  · obtain ⟨hm, fl, us4, n4, rfl, r4, hfl, hin⟩ := j
    rw [List.length_map, List.take_length] at hin
    have S5' := St.freeze (pre := []) S4'
    have hg4 : g4 a = Option.none := (S4'.own _ (.head _)).2.2.2
    generalize hg5 : g4.add a (lstO us4 n4) = g5 at S5'
    have le5 : Mem.le g4 g5 := hg5 ▸ Mem.le_add hg4
    have lg5 : Mem.le g g5 := (le23.trans le4).trans le5
    have ha5 : g5 a = some (lstO us4 n4) := hg5 ▸ Mem.add_self _ _ _
    have enamed : m4 "named" = some (.ref a) := hm.get (upd_self ..) (by decide)
    have esize : m4 "size" = some vz := hm.get ((upd_ne (by decide)).trans (upd_self ..)) (by decide)
    have erows : m4 "rows" = some v1 := hm.get ((upd_ne (by decide)).trans ((upd_ne (by decide)).trans rfl)) (by decide)
    have erng : m4 "ranges" = some v2 := hm.get ((upd_ne (by decide)).trans ((upd_ne (by decide)).trans rfl)) (by decide)
    refine St.assign (P := KD prog w (fun n => some n ∈ lookAt rows rs)) S5' (Ev.imp (Ev.call2P W (hA.le (by decide)) (hw.trans lg5) n3 (S3 (fun l => l = fl) (rows.length + 1) (fun l e => by subst e; omega) (by omega)) (Mono.fl _)
        (Ev.local enamed fun g' k => ⟨fl, .list (k _ _ ha5) (r4.mono (le5.trans k)), rfl⟩) (Ev.castD (Ev.add (Ev.localD esize (rz.mono ((le3.trans le4).trans le5))) Ev.int) rfl)) fun g' v k ⟨l, e, p⟩ => ?_) fun vd g6 s6 S6' le6 rd => ?_
    · subst e
      refine putAll_kd (fun n => ?_) p
      rw [List.mem_filter, List.mem_range, List.getD_eq_getElem?_getD, ← hin n]
      constructor
      · rintro ⟨h1, h2⟩
        rw [List.getElem?_eq_getElem (by omega)] at h2 ⊢
        simpa using h2
      · intro h
        have h1 := (List.getElem?_eq_some_iff.mp h).1
        refine ⟨by omega, ?_⟩
        rw [h]; rfl
    have lg6 := lg5.trans le6
    have hrd : ∀ g', Mem.le g6 g' → KD prog w (fun n => some n ∈ lookAt rows rs) g' vd := fun g' k => Mono.kd _ _ _ _ k rd
    have n6' : ∀ {y : Str} {v : Option Value}, m4 y = v → y ≠ "due" → upd m4 "due" vd y = v := fun e h => (upd_ne h).trans e
    have lg6' : Mem.le g (memOf s6.heap) := lg6.trans S6'.all
    refine execs_if0 S6' (Tr.or2 (b := false) (c := false) (Tr.cmp (P1 := KD prog w (fun n => some n ∈ lookAt rows rs)) (Ev.imp (Ev.call W (hA.le (by decide)) (hw.trans lg6') nn4 S4 (Evs.cons (Ev.localD (n6' erows (by decide)) (rv1.mono lg6')) (Evs.cons (Ev.localD (n6' erng (by decide)) (rv2.mono lg6')) Evs.nil))) fun g' v k p => putAll_kd (fun n => mem_lookAt) p)
        (Ev.local (upd_self ..) fun g' k => hrd g' (S6'.all.trans k)) (Mono.kd _) (CmpOk.neK hA fun _ => Iff.rfl)) fun _ =>
        Tr.cmp (P1 := KD prog w (fun n => some n ∈ lookAt rows rs)) (Ev.imp (Ev.call1P W (hA.le (by decide)) (hw.trans lg6') n5 S5 (Ev.code c W (k := 0) (hA.le (by decide)) (hw.trans lg6') (Evs.cons (Ev.localD (n6' erows (by decide)) (rv1.mono lg6')) (Evs.cons (Ev.localD (n6' erng (by decide)) (rv2.mono lg6')) (Evs.cons (Ev.list Evs.nil) (Evs.cons (Ev.list Evs.nil) (Evs.cons Ev.int Evs.nil))))))) fun g' v k p => putAll_kd (fun n => mem_lookAt) p)
          (Ev.local (upd_self ..) fun g' k => hrd g' (S6'.all.trans k)) (Mono.kd _) (CmpOk.neK hA fun _ => Iff.rfl)) (fun e s7 S7' => no2 e) fun e s7 S7' => ?_
    refine S7'.ret' (Ev.cmp (P1 := KD prog w (Reach rows (0 :: places rs))) (P2 := KD prog w (Reach rows (0 :: places rs))) (Ev.call W (hA.le (by decide)) (hw.trans lg6) n6 S6 (Evs.cons (Ev.localD (n6' erows (by decide)) (rv1.mono lg6)) (Evs.cons (Ev.localD (n6' erng (by decide)) (rv2.mono lg6)) Evs.nil)))
      (Ev.imp (Ev.call2P W (hA.le (by decide)) (hw.trans lg6) n3 (S3 (fun l => l.length = rows.length + 1 ∧ ∀ k, k < rows.length → (l[k]? = some true ↔ Reach rows (0 :: places rs) k)) rows.length (fun l e => by omega) (by omega)) (Mono.fl _)
        (Ev.call W (hA.le (by decide)) (hw.trans lg6) n7 S7 (Evs.cons (Ev.localD (n6' erows (by decide)) (rv1.mono lg6)) (Evs.cons (Ev.localD (n6' erng (by decide)) (rv2.mono lg6)) Evs.nil))) (Ev.localD (n6' esize (by decide)) (rz.mono (((le3.trans le4).trans le5).trans le6)))) fun g' v k ⟨l, ⟨e1, e2⟩, p⟩ => ?_)
      (Mono.kd _) (CmpOk.eqK hA fun _ => Iff.rfl)) fun v s q => q
    refine putAll_kd (fun n => ?_) p
    rw [List.mem_filter, List.mem_range, List.getD_eq_getElem?_getD]
    constructor
    · rintro ⟨h1, h2⟩
      refine (e2 n h1).mp ?_
      rw [List.getElem?_eq_getElem (by omega)] at h2 ⊢
      simpa using h2
    · intro h
      refine ⟨h.lt, ?_⟩
      rw [(e2 n h.lt).mpr h]; rfl
end
def nx (rows : List Row) (p : Nat) : Nat := (jumpAt rows p).getD p
noncomputable def it (rows : List Row) : Nat → Nat → Nat
  | 0, p => p
  | n + 1, p => nx rows (it rows n p)
theorem nx_stop {rows : List Row} {p : Nat} (h : jumpAt rows p = none) : nx rows p = p := by unfold nx; rw [h]; rfl
theorem nx_go {rows : List Row} {p t : Nat} (h : jumpAt rows p = some t) : nx rows p = t := by unfold nx; rw [h]; rfl
theorem it_add (rows : List Row) (a b p : Nat) : it rows (a + b) p = it rows a (it rows b p) := by
  induction a with
  | zero => rw [Nat.zero_add]; rfl
  | succ a ih => rw [Nat.succ_add]; show nx rows (it rows (a + b) p) = nx rows (it rows a (it rows b p)); rw [ih]
theorem it_stop {rows : List Row} {p : Nat} (h : jumpAt rows p = none) (i : Nat) : it rows i p = p := by
  induction i with
  | zero => rfl
  | succ i ih => show nx rows (it rows i p) = p; rw [ih, nx_stop h]
theorem it_from {rows : List Row} {p i j : Nat} (h : jumpAt rows (it rows i p) = none) (k : i ≤ j) : it rows j p = it rows i p := by
  have e : j = (j - i) + i := by omega
  rw [e, it_add, it_stop h]
theorem it_front (rows : List Row) (i p : Nat) : it rows (i + 1) p = it rows i (nx rows p) := by rw [it_add rows i 1 p]; rfl
def Cyc (rows : List Row) (x : Nat) : Prop := (jumpAt rows x).isSome = true ∧ ∃ k, 1 ≤ k ∧ it rows k x = x
theorem it_mul {rows : List Row} {x k : Nat} (h : it rows k x = x) (m : Nat) : it rows (k * m) x = x := by
  induction m with
  | zero => rfl
  | succ m ih => rw [Nat.mul_succ, it_add, h, ih]
theorem Cyc.jumps {rows : List Row} {x : Nat} (h : Cyc rows x) (i : Nat) : (jumpAt rows (it rows i x)).isSome = true := by
  obtain ⟨hx, k, hk, e⟩ := h
  cases q : jumpAt rows (it rows i x) with
  | some t => rfl
  | none =>
    have h1 : i ≤ k * i := Nat.le_mul_of_pos_left i hk
    have h2 := it_from q h1
    rw [it_mul e i] at h2
    rw [← h2] at q
    rw [q] at hx; cases hx
theorem Cyc.walk {rows : List Row} {x : Nat} (h : Cyc rows x) (m : Nat) : Cyc rows (it rows m x) := by
  refine ⟨h.jumps m, ?_⟩
  obtain ⟨_, k, hk, e⟩ := h
  refine ⟨k, hk, ?_⟩
  rw [← it_add, Nat.add_comm, it_add, e]

theorem chase_end {rows : List Row} {t : Nat} : ∀ (fuel i : Nat), fuel + i = rows.length + 1 → (∀ a b, a < b → b < i → it rows a t ≠ it rows b t) → (∀ a, a < i → it rows a t < rows.length) →
    ∃ j, j ≤ rows.length ∧ chase rows fuel ((List.range i).map fun a => it rows a t) (it rows i t) = it rows j t ∧ (∀ a b, a < b → b < j → it rows a t ≠ it rows b t) ∧
      (jumpAt rows (it rows j t) = none ∨ (jumpAt rows (it rows j t)).isSome = true ∧ ∃ a, a < j ∧ it rows a t = it rows j t)
  | 0, i, hf, hd, hl => by
    exfalso
    have nd : ((List.range i).map fun a => it rows a t).Nodup := by
      refine List.pairwise_map.mpr ((List.pairwise_lt_range (n := i)).imp_of_mem ?_)
      intro a b ha hb hab
      exact hd a b hab (List.mem_range.mp hb)
    have := nodup_len rows.length _ nd (fun x hx => by
      obtain ⟨a, ha, rfl⟩ := List.mem_map.mp hx
      exact hl a (List.mem_range.mp ha))
    rw [List.length_map, List.length_range] at this
    omega
  | fuel + 1, i, hf, hd, hl => by
    unfold chase
    cases hj : jumpAt rows (it rows i t) with
    | none => exact ⟨i, by omega, rfl, hd, .inl hj⟩
    | some u =>
      dsimp only
      by_cases hm : it rows i t ∈ (List.range i).map fun a => it rows a t
      · rw [if_pos hm]
        obtain ⟨a, ha, e⟩ := List.mem_map.mp hm
        exact ⟨i, by omega, rfl, hd, .inr ⟨by rw [hj]; rfl, a, List.mem_range.mp ha, e⟩⟩
      · rw [if_neg hm]
        have e1 : (List.range i).map (fun a => it rows a t) ++ [it rows i t] = (List.range (i + 1)).map fun a => it rows a t := by rw [List.range_succ, List.map_append]; rfl
        have e2 : u = it rows (i + 1) t := (nx_go hj).symm
        rw [e1, e2]
        refine chase_end fuel (i + 1) (by omega) (fun a b hab hb => ?_) (fun a ha => ?_)
        · rcases Nat.lt_succ_iff_lt_or_eq.mp hb with h | rfl
          · exact hd a b hab h
          · exact fun e => hm (List.mem_map.mpr ⟨a, List.mem_range.mpr hab, e⟩)
        · rcases Nat.lt_succ_iff_lt_or_eq.mp ha with h | rfl
          · exact hl a h
          · exact jumpAt_lt hj

theorem ends_is (rows : List Row) (t : Nat) : ∃ j, j ≤ rows.length ∧ ends rows t = it rows j t ∧ (∀ a b, a < b → b < j → it rows a t ≠ it rows b t) ∧
      (jumpAt rows (it rows j t) = none ∨ (jumpAt rows (it rows j t)).isSome = true ∧ ∃ a, a < j ∧ it rows a t = it rows j t) :=
  chase_end (rows := rows) (t := t) (rows.length + 1) 0 rfl (fun a b _ hb => absurd hb (Nat.not_lt_zero _)) (fun a ha => absurd ha (Nat.not_lt_zero _))
theorem ends_or (rows : List Row) (t : Nat) : ∃ j, j ≤ rows.length ∧ ends rows t = it rows j t ∧ (jumpAt rows (ends rows t) = none ∨ Cyc rows (ends rows t)) := by
  obtain ⟨j, h1, h2, h3, h4⟩ := ends_is rows t
  refine ⟨j, h1, h2, ?_⟩
  rw [h2]
  rcases h4 with h | ⟨h, a, ha, e⟩
  · exact .inl h
  · refine .inr ⟨h, j - a, by omega, ?_⟩
    have e2 : (j - a) + a = j := by omega
    conv => lhs; rw [← e]
    rw [← it_add, e2]
theorem Cyc.ends {rows : List Row} {x : Nat} (h : Cyc rows x) : ends rows x = x := by
  obtain ⟨j, h1, h2, h3, h4⟩ := ends_is rows x
  rw [h2]
  rcases h4 with h4 | ⟨_, a, ha, e⟩
  · have := h.jumps j; rw [h4] at this; cases this
  · cases a with
    | zero => exact e.symm
    | succ a =>
      exfalso
      obtain ⟨hx, k, hk, ek⟩ := h
      obtain ⟨i, rfl⟩ : ∃ i, j = i + 1 := ⟨j - 1, by omega⟩
      obtain ⟨l, rfl⟩ : ∃ l, k = l + 1 := ⟨k - 1, by omega⟩
      have f : ∀ b, it rows l (it rows (b + 1) x) = it rows b x := fun b => by
        rw [← it_add]
        have e3 : l + (b + 1) = b + (l + 1) := by omega
        rw [e3, it_add, ek]
      have e4 : it rows a x = it rows i x := by rw [← f a, ← f i, e]
      exact h3 a i (by omega) (by omega) e4

theorem nextN_it {rows : List Row} : ∀ (n p i : Nat), i < n → jumpAt rows (it rows i p) = none → nextN rows n p = some (it rows i p)
  | 0, p, i, h, _ => absurd h (Nat.not_lt_zero _)
  | n + 1, p, i, h, e => by
    unfold nextN
    cases hj : jumpAt rows p with
    | none => rw [it_stop hj]
    | some t =>
      cases i with
      | zero => rw [show it rows 0 p = p from rfl, hj] at e; cases e
      | succ i =>
        rw [it_front, nx_go hj] at e ⊢
        exact nextN_it n t i (by omega) e
theorem it_nextN {rows : List Row} : ∀ (n p q : Nat), nextN rows n p = some q → ∃ i, it rows i p = q ∧ jumpAt rows q = none
  | 0, p, q, h => by cases h
  | n + 1, p, q, h => by
    unfold nextN at h
    cases hj : jumpAt rows p with
    | none => rw [hj] at h; cases h; exact ⟨0, rfl, hj⟩
    | some t =>
      rw [hj] at h
      obtain ⟨i, e, hn⟩ := it_nextN n t q h
      exact ⟨i + 1, by rw [it_front, nx_go hj, e], hn⟩
theorem nextP_iff {rows : List Row} {p q : Nat} : nextP rows p = some q ↔ (∃ i, it rows i p = q) ∧ jumpAt rows q = none := by
  constructor
  · intro h
    obtain ⟨i, e, hn⟩ := it_nextN _ _ _ h
    exact ⟨⟨i, e⟩, hn⟩
  · rintro ⟨⟨i, rfl⟩, hn⟩
    obtain ⟨j, hj, e, h⟩ := ends_or rows p
    rw [e] at h
    rcases h with h | h
    · have e2 : it rows j p = it rows i p := by
        rcases Nat.le_total i j with k | k
        · exact it_from hn k
        · exact (it_from h k).symm
      rw [← e2]
      exact nextN_it _ _ j (by omega) h
    · exfalso
      have h1 := h.jumps i
      rw [← it_add, it_from hn (Nat.le_add_right i j), hn] at h1
      cases h1
theorem nextP_path (rows : List Row) (i p : Nat) : nextP rows (it rows i p) = nextP rows p := by
  apply Option.ext
  intro q
  show nextP rows (it rows i p) = some q ↔ nextP rows p = some q
  rw [nextP_iff, nextP_iff]
  constructor
  · rintro ⟨⟨j, e⟩, h⟩
    exact ⟨⟨j + i, by rw [it_add, e]⟩, h⟩
  · rintro ⟨⟨j, e⟩, h⟩
    refine ⟨⟨j, ?_⟩, h⟩
    rw [← it_add, Nat.add_comm, it_add, e, it_stop h]
theorem nextP_stay {rows : List Row} {p : Nat} (h : jumpAt rows p = none) : nextP rows p = some p := nextP_iff.mpr ⟨⟨0, rfl⟩, h⟩
theorem Cyc.next {rows : List Row} {x : Nat} (h : Cyc rows x) : nextP rows x = none := by
  cases q : nextP rows x with
  | none => rfl
  | some y =>
    obtain ⟨⟨i, rfl⟩, hn⟩ := nextP_iff.mp q
    have := h.jumps i; rw [hn] at this; cases this
theorem nextP_ends (rows : List Row) (t : Nat) : nextP rows (ends rows t) = nextP rows t := by
  obtain ⟨j, _, e, _⟩ := ends_or rows t
  rw [e, nextP_path]
theorem ends_jump (rows : List Row) (t : Nat) : (jumpAt rows (ends rows t)).isSome = (nextP rows t).isNone := by
  rw [← nextP_ends]
  obtain ⟨j, _, _, h⟩ := ends_or rows t
  rcases h with h | h
  · rw [nextP_stay h, h]; rfl
  · rw [h.next, h.1]; rfl
theorem ends_next {rows : List Row} {t q : Nat} (h : nextP rows t = some q) : ends rows t = q := by
  obtain ⟨j, _, _, h'⟩ := ends_or rows t
  rw [← nextP_ends] at h
  rcases h' with h' | h'
  · rw [nextP_stay h'] at h; exact Option.some.inj h
  · rw [h'.next] at h; cases h

/-! the threaded rows -/
theorem thread_get {rows : List Row} {k : Nat} {r : Row} (h : rows[k]? = some r) : (thread rows)[k]? = some (threadRow rows r) := by unfold thread; rw [List.getElem?_map, h]; rfl
theorem thread_len (rows : List Row) : (thread rows).length = rows.length := by unfold thread; rw [List.length_map]
theorem jumpAt_thread (rows : List Row) (p : Nat) : jumpAt (thread rows) p = (jumpAt rows p).map (ends rows) := by
  unfold jumpAt
  cases h : rows[p]? with
  | none =>
    have : (thread rows)[p]? = none := by unfold thread; rw [List.getElem?_map, h]; rfl
    rw [this]; rfl
  | some r => rw [thread_get h]; cases r <;> rfl
theorem jump_thread_none {rows : List Row} {p : Nat} : jumpAt (thread rows) p = none ↔ jumpAt rows p = none := by rw [jumpAt_thread]; cases jumpAt rows p <;> simp
theorem it_thread (rows : List Row) (i p : Nat) : ∃ j, it (thread rows) i p = it rows j p := by
  induction i with
  | zero => exact ⟨0, rfl⟩
  | succ i ih =>
    obtain ⟨j, e⟩ := ih
    show ∃ j, nx (thread rows) (it (thread rows) i p) = it rows j p
    rw [e]
    cases h : jumpAt rows (it rows j p) with
    | none => exact ⟨j, nx_stop (jump_thread_none.mpr h)⟩
    | some t =>
      obtain ⟨a, _, e2, _⟩ := ends_or rows t
      refine ⟨a + (j + 1), ?_⟩
      rw [nx_go (t := ends rows t) (by rw [jumpAt_thread, h]; rfl), e2, it_add]
      show it rows a t = it rows a (nx rows (it rows j p))
      rw [nx_go h]
theorem nextP_thread (rows : List Row) (p : Nat) : nextP (thread rows) p = nextP rows p := by
  have fwd : ∀ q, nextP (thread rows) p = some q → nextP rows p = some q := fun q h => by
    obtain ⟨⟨i, e⟩, hn⟩ := nextP_iff.mp h
    obtain ⟨j, e2⟩ := it_thread rows i p
    exact nextP_iff.mpr ⟨⟨j, e2.symm.trans e⟩, jump_thread_none.mp hn⟩
  cases h : nextP (thread rows) p with
  | some q => exact (fwd q h).symm
  | none =>
    cases h2 : nextP rows p with
    | none => rfl
    | some q =>
      exfalso
      obtain ⟨i, _, e, hc⟩ := ends_or (thread rows) p
      rcases hc with hc | hc
      · have h3 := nextP_stay hc
        rw [nextP_ends, h] at h3; cases h3
      · obtain ⟨j, e2⟩ := it_thread rows i p
        have h3 : nextP rows (ends (thread rows) p) = some q := by rw [e, e2, nextP_path]; exact h2
        generalize ends (thread rows) p = x at hc h3
        cases hx : jumpAt rows x with
        | none => have := hc.1; rw [jump_thread_none.mpr hx] at this; cases this
        | some t =>
          have h4 : nextP rows t = some q := by
            have := nextP_path rows 1 x
            rw [show it rows 1 x = t from nx_go hx] at this
            rw [this]; exact h3
          have h5 := hc.jumps 1
          rw [show it (thread rows) 1 x = ends rows t from nx_go (p := x) (by rw [jumpAt_thread, hx]; rfl), ends_next h4, jump_thread_none.mpr (nextP_iff.mp h3).2] at h5
          cases h5
theorem Cyc.thread {rows : List Row} {x : Nat} (h : Cyc rows x) : Cyc (thread rows) x := by
  have same : ∀ i, Mine.it (Mine.thread rows) i x = Mine.it rows i x := fun i => by
    induction i with
    | zero => rfl
    | succ i ih =>
      show nx (Mine.thread rows) (Mine.it (Mine.thread rows) i x) = nx rows (Mine.it rows i x)
      rw [ih]
      cases hy : jumpAt rows (Mine.it rows i x) with
      | none => have := h.jumps i; rw [hy] at this; cases this
      | some z =>
        have e : Mine.it rows (i + 1) x = z := nx_go hy
        have hz : Cyc rows z := e ▸ h.walk (i + 1)
        rw [nx_go hy, nx_go (t := Mine.ends rows z) (by rw [jumpAt_thread, hy]; rfl), hz.ends]
  obtain ⟨hx, k, hk, e⟩ := h
  refine ⟨?_, k, hk, by rw [same, e]⟩
  rw [jumpAt_thread]
  cases hj : jumpAt rows x with
  | none => rw [hj] at hx; cases hx
  | some t => rfl
theorem ends_thread (rows : List Row) (t : Nat) : ends (thread rows) (ends rows t) = ends rows t := by
  obtain ⟨j, _, _, h⟩ := ends_or rows t
  rcases h with h | h
  · exact ends_next (nextP_stay (jump_thread_none.mpr h))
  · exact h.thread.ends
theorem thread_thread (rows : List Row) : thread (thread rows) = thread rows := by
  conv => lhs; unfold thread
  conv => rhs; unfold thread
  rw [List.map_map]
  refine List.map_congr_left fun r _ => ?_
  show threadRow (thread rows) (threadRow rows r) = threadRow rows r
  cases r <;> simp only [threadRow, ends_thread]

theorem it_le {rows : List Row} {n p : Nat} (ht : ∀ r ∈ rows, ∀ t, r.to = some t → t ≤ n) (hp : p ≤ n) (i : Nat) : it rows i p ≤ n := by
  induction i with
  | zero => exact hp
  | succ i ih =>
    show nx rows (it rows i p) ≤ n
    cases h : jumpAt rows (it rows i p) with
    | none => rw [nx_stop h]; exact ih
    | some t => rw [nx_go h]; exact ht _ (List.mem_of_getElem? (jumpAt_some h)) t rfl
theorem thread_to {rows : List Row} {n : Nat} (ht : ∀ r ∈ rows, ∀ t, r.to = some t → t ≤ n) : ∀ r ∈ thread rows, ∀ t, r.to = some t → t ≤ n := by
  intro r' hr' t' e
  unfold thread at hr'
  obtain ⟨r, hr, rfl⟩ := List.mem_map.mp hr'
  have key : ∀ t, r.to = some t → ends rows t ≤ n := fun t e => by
    obtain ⟨j, _, e2, _⟩ := ends_or rows t
    rw [e2]; exact it_le ht (ht r hr t e) j
  cases r with
  | jump t => cases e; exact key t rfl
  | jf t => cases e; exact key t rfl
  | jt t => cases e; exact key t rfl
  | start t => cases e; exact ht _ hr _ rfl
  | step t => cases e; exact ht _ hr _ rfl
  | push => cases e
  | fail => cases e

/-! what is reached -/
theorem it_below {rows : List Row} {i p : Nat} (h : it rows i p < rows.length) : p < rows.length := by
  cases hj : jumpAt rows p with
  | none => rwa [it_stop hj] at h
  | some t => exact jumpAt_lt hj
theorem Reach.path {rows : List Row} {roots : List Nat} {p : Nat} (h : Reach rows roots p) : ∀ i, it rows i p < rows.length → Reach rows roots (it rows i p) := by
  intro i
  induction i with
  | zero => intro _; exact h
  | succ i ih =>
    show nx rows (it rows i p) < rows.length → Reach rows roots (nx rows (it rows i p))
    cases hj : jumpAt rows (it rows i p) with
    | none => rw [nx_stop hj]; exact ih
    | some t =>
      rw [nx_go hj]
      intro hl
      exact .next (ih (jumpAt_lt hj)) (jumpAt_some hj) (by simp [ways, Row.stops, Row.to]) hl
theorem Reach.ends {rows : List Row} {roots : List Nat} {t : Nat} (h : t < rows.length → Reach rows roots t) (hl : Mine.ends rows t < rows.length) : Reach rows roots (Mine.ends rows t) := by
  obtain ⟨j, _, e, _⟩ := ends_or rows t
  rw [e] at hl ⊢
  exact (h (it_below hl)).path j hl
theorem Reach.to_next {rows : List Row} {roots : List Nat} {t q : Nat} (h : t < rows.length → Reach rows roots t) (e : nextP rows t = some q) (hl : q < rows.length) : Reach rows roots q := by
  rw [← ends_next e] at hl ⊢
  exact Reach.ends h hl
theorem thread_stops (rows : List Row) (r : Row) : (threadRow rows r).stops = r.stops := by cases r <;> rfl
theorem mem_ways {r : Row} {k x : Nat} : x ∈ ways r k ↔ (r.stops = false ∧ x = k + 1) ∨ r.to = some x := by
  unfold ways
  rw [List.mem_append]
  constructor
  · rintro (h | h)
    · cases hs : r.stops with
      | true => rw [hs] at h; cases h
      | false => rw [hs] at h; exact .inl ⟨rfl, by simpa using h⟩
    · exact .inr (by simpa using h)
  · rintro (⟨h, rfl⟩ | h)
    · exact .inl (by rw [h]; simp)
    · exact .inr (by rw [h]; simp)
theorem reach_sub {rows : List Row} {roots : List Nat} {x : Nat} (h : Reach (thread rows) roots x) : Reach rows roots x := by
  induction h with
  | root ht hl => rw [thread_len] at hl; exact .root ht hl
  | next hk hr hx hl ih =>
    rename_i k x r'
    rw [thread_len] at hl
    have hlt := ih.lt
    have hget : rows[k]? = some rows[k] := List.getElem?_eq_getElem hlt
    generalize rows[k] = r at hget
    rw [thread_get hget] at hr
    cases hr
    rcases mem_ways.mp hx with ⟨hs, rfl⟩ | hto
    · rw [thread_stops] at hs
      exact .next ih hget (mem_ways.mpr (.inl ⟨hs, rfl⟩)) hl
    · have key : ∀ t, r.to = some t → x = ends rows t → Reach rows roots x := fun t e1 e2 => by
        subst e2
        exact Reach.ends (fun hl' => .next ih hget (mem_ways.mpr (.inr e1)) hl') hl
      cases r with
      | jump t => exact key t rfl (Option.some.inj hto).symm
      | jf t => exact key t rfl (Option.some.inj hto).symm
      | jt t => exact key t rfl (Option.some.inj hto).symm
      | start t => exact .next ih hget (mem_ways.mpr (.inr hto)) hl
      | step t => exact .next ih hget (mem_ways.mpr (.inr hto)) hl
      | push => cases hto
      | fail => cases hto
theorem reach_up {rows : List Row} {roots : List Nat} {x : Nat} (h : Reach rows roots x) : ∀ q, nextP rows x = some q → q < rows.length → Reach (thread rows) roots q := by
  induction h with
  | root ht hl =>
    intro q e hq
    rw [← nextP_thread] at e
    exact Reach.to_next (fun h => .root ht h) e (by rw [thread_len]; exact hq)
  | next hk hr hx hl ih =>
    rename_i k x r
    intro q e hq
    cases hj : jumpAt rows k with
    | some t =>
      rw [jumpAt_some hj] at hr
      cases hr
      rcases mem_ways.mp hx with ⟨hs, _⟩ | hto
      · exact no1 hs
      · cases hto
        have e2 := nextP_path rows 1 k
        rw [show it rows 1 k = x from nx_go hj] at e2
        exact ih q (e2 ▸ e) hq
    | none =>
      have hk' := ih k (nextP_stay hj) hk.lt
      have hr' := thread_get hr
      rw [← nextP_thread] at e
      have hq' : q < (thread rows).length := by rw [thread_len]; exact hq
      rcases mem_ways.mp hx with ⟨hs, rfl⟩ | hto
      · exact Reach.to_next (fun h => .next hk' hr' (mem_ways.mpr (.inl ⟨(thread_stops rows r).trans hs, rfl⟩)) h) e hq'
      · have key : (threadRow rows r).to = some (ends rows x) → Reach (thread rows) roots q := fun e1 => by
          rw [nextP_thread] at e
          rw [ends_next e] at e1
          exact .next hk' hr' (mem_ways.mpr (.inr e1)) hq'
        have key2 : threadRow rows r = r → Reach (thread rows) roots q := fun e1 => Reach.to_next (fun h => .next hk' hr' (mem_ways.mpr (.inr (e1.symm ▸ hto))) h) e hq'
        cases r with
        | jump t => exact key (by cases hto; rfl)
        | jf t => exact key (by cases hto; rfl)
        | jt t => exact key (by cases hto; rfl)
        | start t => exact key2 rfl
        | step t => exact key2 rfl
        | push => cases hto
        | fail => cases hto

/-! the road -/
theorem ways_thread (rows : List Row) (r : Row) (k : Nat) : (ways (threadRow rows r) k).map (nextP (thread rows)) = (ways r k).map (nextP rows) := by
  have e : nextP (thread rows) = nextP rows := funext (nextP_thread rows)
  rw [e]
  cases r <;> simp [ways, Row.stops, Row.to, threadRow, nextP_ends]
theorem ways_thread_len (rows : List Row) (r : Row) (k : Nat) : (ways (threadRow rows r) k).length = (ways r k).length := by
  have := congrArg List.length (ways_thread rows r k)
  rwa [List.length_map, List.length_map] at this
theorem thread_fail (rows : List Row) (r : Row) : (threadRow rows r).isFail = r.isFail := by cases r <;> rfl
theorem goOn_thread (rows : List Row) (road : List (Option Nat)) : goOn (thread rows) road = (goOn rows road).map fun kr => (kr.1, threadRow rows kr.2) := by
  unfold goOn
  split
  · cases hl : road.getLast? with
    | none => rfl
    | some o =>
      cases o with
      | none => rfl
      | some k =>
        dsimp only
        cases hr : rows[k]? with
        | none =>
          have : (thread rows)[k]? = none := by unfold thread; rw [List.getElem?_map, hr]; rfl
          rw [this]; rfl
        | some r =>
          rw [thread_get hr]
          dsimp only
          rw [thread_fail]
          cases r.isFail <;> rfl
  · rfl
theorem pick_thread (rows : List Row) (r : Row) (k : Nat) (ans : Int) (l : Nat) : nextP (thread rows) (pick (ways (threadRow rows r) k) ans l) = nextP rows (pick (ways r k) ans l) := by
  unfold pick
  rw [ways_thread_len]
  generalize ((ans.fdiv (2 ^ l)).fmod (ways r k).length).toNat = j
  have h := congrArg (fun l => l[j]?) (ways_thread rows r k)
  simp only [List.getElem?_map] at h
  rw [List.getD_eq_getElem?_getD, List.getD_eq_getElem?_getD]
  cases h1 : (ways (threadRow rows r) k)[j]? with
  | none =>
    cases h2 : (ways r k)[j]? with
    | none => exact nextP_thread rows 0
    | some y => rw [h1, h2] at h; cases h
  | some x =>
    cases h2 : (ways r k)[j]? with
    | none => rw [h1, h2] at h; cases h
    | some y => rw [h1, h2] at h; exact Option.some.inj h
theorem road_thread (rows : List Row) (ans : Int) : roadOf (thread rows) ans = roadOf rows ans := by
  have gen : ∀ (n : Nat) (road : List (Option Nat)), roadN (thread rows) ans n road = roadN rows ans n road := by
    intro n
    induction n with
    | zero => intro road; rfl
    | succ n ih =>
      intro road
      unfold roadN
      rw [goOn_thread]
      cases goOn rows road with
      | none => rfl
      | some kr => obtain ⟨k, r⟩ := kr; dsimp only [Option.map]; rw [ih, pick_thread]
  unfold roadOf
  rw [gen, nextP_thread]
theorem road_reach (rows : List Row) (roots : List Nat) (ans : Int) : ∀ q, some q ∈ roadOf rows ans → q < rows.length → Reach rows (0 :: roots) q := by
  have zero : ∀ q, nextP rows 0 = some q → q < rows.length → Reach rows (0 :: roots) q := fun q e hq => Reach.to_next (fun h => .root (.head _) h) e hq
  have gen : ∀ (n : Nat) (road : List (Option Nat)), (∀ q, some q ∈ road → q < rows.length → Reach rows (0 :: roots) q) → ∀ q, some q ∈ roadN rows ans n road → q < rows.length → Reach rows (0 :: roots) q := by
    intro n
    induction n with
    | zero => intro road h; exact h
    | succ n ih =>
      intro road h
      unfold roadN
      cases hg : goOn rows road with
      | none => exact h
      | some kr =>
        obtain ⟨k, r⟩ := kr
        dsimp only
        refine ih _ fun q hq hl => ?_
        rcases List.mem_append.mp hq with hq | hq
        · exact h q hq hl
        · have e := List.mem_singleton.mp hq
          unfold goOn at hg
          split at hg
          case isFalse => cases hg
          cases hlast : road.getLast? with
          | none => rw [hlast] at hg; cases hg
          | some o =>
            rw [hlast] at hg
            cases o with
            | none => cases hg
            | some k' =>
              dsimp only at hg
              cases hr : rows[k']? with
              | none => rw [hr] at hg; cases hg
              | some r' =>
                rw [hr] at hg
                dsimp only at hg
                split at hg
                · cases hg
                · cases hg
                  have hk : Reach rows (0 :: roots) k := h k (List.mem_of_getLast? hlast) (List.getElem?_eq_some_iff.mp hr).1
                  unfold pick at e
                  rw [List.getD_eq_getElem?_getD] at e
                  cases hw : (ways r k)[((ans.fdiv (2 ^ road.length)).fmod (ways r k).length).toNat]? with
                  | none => rw [hw] at e; exact zero q e.symm hl
                  | some x =>
                    rw [hw] at e
                    exact Reach.to_next (fun h => .next hk hr (List.mem_of_getElem? hw) h) e.symm hl
  exact gen 12 _ fun q hq hl => zero q (List.mem_singleton.mp hq).symm hl
theorem lay_all : ∀ {ds : List PyData}, (∀ d ∈ ds, d.canLay0 = true ∧ d.depth ≤ 60) → PyData.canLayAll0 ds = true ∧ PyData.depthAll ds ≤ 60
  | [], _ => ⟨rfl, Nat.zero_le _⟩
  | d :: ds, h => by
    have h1 := h d (.head _)
    have h2 := lay_all (ds := ds) fun x hx => h x (.tail _ hx)
    refine ⟨?_, ?_⟩
    · unfold PyData.canLayAll0; rw [h1.1, h2.1]; rfl
    · unfold PyData.depthAll; exact Nat.max_le.mpr ⟨h1.2, h2.2⟩
theorem shaped_list {ds : List PyData} (h : ∀ d ∈ ds, d.canLay0 = true ∧ d.depth ≤ 60) : SeqAt.shaped (.list ds) = true := by
  have h2 := lay_all h
  unfold SeqAt.shaped
  refine Bool.and_eq_true_iff.mpr ⟨?_, decide_eq_true ?_⟩
  · unfold PyData.canLay0; exact h2.1
  · unfold PyData.depth; have := h2.2; omega
theorem nxd_ok (o : Option Nat) : (nxd o).canLay0 = true ∧ (nxd o).depth ≤ 60 := by cases o <;> exact ⟨rfl, Nat.zero_le _⟩
theorem row_ok (r : Row) : r.dat.canLay0 = true ∧ r.dat.depth ≤ 60 := by
  cases r <;> (constructor <;> (unfold Row.dat; dsimp only [Row.tag, Row.mid, Row.last]; simp [PyData.canLay0, PyData.canLayAll0, PyData.depth, PyData.depthAll] <;> decide +kernel))
theorem row_shaped (r : Row) : SeqAt.shaped r.dat = true := by
  unfold SeqAt.shaped; exact Bool.and_eq_true_iff.mpr ⟨(row_ok r).1, decide_eq_true (by have := (row_ok r).2; omega)⟩
theorem rows_shaped (rows : List Row) : SeqAt.shaped (.list (rows.map Row.dat)) = true := shaped_list fun d hd => by
  obtain ⟨r, _, rfl⟩ := List.mem_map.mp hd
  exact row_ok r
theorem nxds_shaped (l : List (Option Nat)) : SeqAt.shaped (.list (l.map nxd)) = true := shaped_list fun d hd => by
  obtain ⟨r, _, rfl⟩ := List.mem_map.mp hd
  exact nxd_ok r
theorem ne_self {d : PyData} (h : SeqAt.shaped d = true) : (!PyData.eqv d d) = false := by rw [SeqAt.eqv_refl d (SeqAt.canLay_of_shaped h)]; rfl
theorem nd_get {l : List Nat} {i : Nat} {d : PyData} (h : (nd l)[i]? = some d) : ∃ p, l[i]? = some p ∧ d = .int p := by
  unfold nd at h
  obtain ⟨p, hp, e⟩ := map_get h
  exact ⟨p, hp, e.symm⟩
theorem bool_ne (a b : Bool) : (!PyData.eqv (.bool a) (.bool b)) = (a != b) := by cases a <;> cases b <;> rfl
theorem lastI_neg (o : Option Nat) : decide (lastI o < 0) = o.isNone := by
  cases o with
  | none => rfl
  | some q => show decide ((q : Int) < 0) = false; exact decide_eq_false (by omega)
theorem isJ_ways {r : Row} (h : r.isJ = true) (rows : List Row) (k : Nat) : ∃ t, r.to = some t ∧ (ways r k).map (nextP rows) = (ways r k).dropLast.map (nextP rows) ++ [nextP rows t] ∧ (threadRow rows r).mid = .int (ends rows t) ∧ (threadRow rows r).dat = .tuple [st r.tag, .int (ends rows t), .none] := by
  cases r with
  | jump t => exact ⟨t, rfl, rfl, rfl, rfl⟩
  | jf t => exact ⟨t, rfl, rfl, rfl, rfl⟩
  | jt t => exact ⟨t, rfl, rfl, rfl, rfl⟩
  | start t => exact no2 h
  | step t => exact no2 h
  | push => exact no2 h
  | fail => exact no2 h
theorem notJ_thread {r : Row} (h : r.isJ = false) (rows : List Row) : threadRow rows r = r := by cases r <;> first | rfl | exact no1 h

section
variable {prog : Program} {w : World} {h₀ : Heap} {mg mb : Str → Option Value} {f f1 f2 f3 : Addr}
theorem law_threaded_right (W : Wd h₀ mg mb) (F : FnAt h₀ mg "_law_threaded_right" (parOf (stm 22)) (bodyOf (stm 22)) (scopeOf (stm 22)) f) (nl : mg "len" = none) (nr : mg "range" = none)
    (n1 : mg "_law_next" = some (.ref f1)) (n2 : mg "_law_ways" = some (.ref f2)) (n3 : mg "_law_is_jump" = some (.ref f3))
    (S1 : ∀ (rows : List Row) (p : Nat), rows.length ≤ 1000 → FnSpec prog w h₀ f1 4 (Dat [.list (rows.map Row.dat), .int p]) (D (nxd (nextP rows p))))
    (S2 : ∀ (rows : List Row) (k : Nat) (r : Row), rows[k]? = some r → rows.length ≤ 1000 → FnSpec prog w h₀ f2 4 (Dat [.list (rows.map Row.dat), .int k]) (D (.list (nd (ways r k)))))
    (S3 : ∀ (rows : List Row) (k : Nat), rows.length ≤ 1000 → FnSpec prog w h₀ f3 2 (Dat [.list (rows.map Row.dat), .int k]) (D (.bool (jumpAt rows k).isSome)))
    (rows : List Row) (hrows : rows.length ≤ 900) :
    FnSpec prog w h₀ f 6 (Dat [.list (rows.map Row.dat), .list ((thread rows).map Row.dat)]) (D (.bool true)) := by
  refine enterC W F (fun L => [("made", L + 1 + 1), ("rows", L + 1)]) (fun L => rfl) (fun L p hp => ?_) (fun A hA s g hw hs vs hp cd => ?_)
  · rcases List.mem_cons.mp hp with rfl | hp
    · rfl
    · rw [List.mem_singleton.mp hp]; rfl
  obtain ⟨v1, v2, rfl, rv1, rv2⟩ := two hp
  refine ⟨[("rows", v1), ("made", v2)], fun _ _ _ _ => rfl, fun L y hy => ?_, fun L s1 cf hcf S => ?_⟩
  · rcases List.mem_cons.mp hy with rfl | hy
    · exact .inr ⟨rfl, rfl⟩
    · rw [List.mem_singleton.mp hy]; exact .inr ⟨rfl, rfl⟩
  have hc1 : (cf (L + 1)).data = .cell (some v1) := hcf "rows" (L + 1) rfl
  have hc2 : (cf (L + 1 + 1)).data = .cell (some v2) := hcf "made" (L + 1 + 1) rfl
  have S2' := St.freeze (pre := [(L + 1 + 1, cf (L + 1 + 1))]) (post := []) (a := L + 1) (o := cf (L + 1)) S
  have S3' := St.freeze (pre := []) (post := []) (a := L + 1 + 1) (o := cf (L + 1 + 1)) S2'
  have le2 : Mem.le g (g.add (L + 1) (cf (L + 1))) := S2'.le
  have at1 : (((g.add (L + 1) (cf (L + 1))).add (L + 1 + 1) (cf (L + 1 + 1)))) (L + 1) = some (cf (L + 1)) := by
    unfold Mem.add; rw [if_neg (Nat.ne_of_lt (Nat.lt_succ_self _)), if_pos rfl]
  have at2 : (((g.add (L + 1) (cf (L + 1))).add (L + 1 + 1) (cf (L + 1 + 1)))) (L + 1 + 1) = some (cf (L + 1 + 1)) := Mem.add_self _ _ _
  have le3 : Mem.le g ((g.add (L + 1) (cf (L + 1))).add (L + 1 + 1) (cf (L + 1 + 1))) := S3'.le
  generalize ((g.add (L + 1) (cf (L + 1))).add (L + 1 + 1) (cf (L + 1 + 1))) = g3 at S3' at1 at2 le3
  have hmade : (thread rows).length ≤ 1000 := by rw [thread_len]; omega
  refine S3'.forRange (N := rows.length) W (hw.trans le3) nr hA.1 (Ev.castD (Ev.len W (hw.trans (le3.trans S3'.all)) nl (Ev.cell rfl (S3'.all _ _ at1) hc1 fun g' k => rv1.mono (le3.trans (S3'.all.trans k))) (by rw [List.length_map]; omega)) (by rw [List.length_map])) (by omega)
    (fun i g4 m4 mu => mu = []) rfl (fun i hi g4 m4 mu4 t s4 itr le4 j S4 => ?_) fun g4 m4 mu4 s4 le4 j S4 => ?_
  · subst j
    have hget : rows[i]? = some rows[i] := List.getElem?_eq_getElem hi
    generalize rows[i] = r at hget
    have hget' := thread_get hget
    have hwl := ways_len r i
    have lg4 := le3.trans le4
    have eR : ∀ {env : Env} {m : Str → Option Value} {G : Mem} {pos : Pos}, Mem.le g4 G → env.cells.lookup ("rows" : Str) = some (L + 1) → env.scope.kind = .function → env.kindOf "rows" = some .cell → Ev prog w A env m G (.Name "rows" pos) (D (.list (rows.map Row.dat))) :=
      fun k h1 h2 h3 => Ev.cell h1 (k _ _ (le4 _ _ at1)) hc1 (fun g' k' => rv1.mono (lg4.trans (k.trans k'))) h2 h3
    have eM : ∀ {env : Env} {m : Str → Option Value} {G : Mem} {pos : Pos}, Mem.le g4 G → env.cells.lookup ("made" : Str) = some (L + 1 + 1) → env.scope.kind = .function → env.kindOf "made" = some .cell → Ev prog w A env m G (.Name "made" pos) (D (.list ((thread rows).map Row.dat))) :=
      fun k h1 h2 h3 => Ev.cell h1 (k _ _ (le4 _ _ at2)) hc2 (fun g' k' => rv2.mono (lg4.trans (k.trans k'))) h2 h3
    refine St.assignComp (N := (nd (ways r i)).length) (es := ((ways r i).map (nextP rows)).map nxd) S4
      (ItrOf.list hA.1 (Ev.call W (hA.le (by decide)) (hw.trans lg4) n2 (S2 rows i r hget (by omega)) (Evs.cons (eR (Mem.le.refl _) rfl rfl rfl) (Evs.cons (Ev.localD (upd_self ..) (.int i t)) Evs.nil))))
      (by unfold nd; rw [List.length_map]; omega) (by unfold nd; rw [List.length_map, List.length_map, List.length_map]) (fun G' k C a v d e m' hd rd he hm => ?_) fun a us n g5 s5 S5 le5 r5 => ?_
    · obtain ⟨p, hp', rfl⟩ := nd_get hd
      rw [List.getElem?_map, List.getElem?_map, hp'] at he
      cases he
      exact Ev.call W (hA.le (by decide)) ((hw.trans lg4).trans k) n1 (S1 rows p (by omega)) (Evs.cons (eR k rfl rfl rfl) (Evs.cons (Ev.localD hm rd) Evs.nil))
    have S6 := St.freeze (pre := []) S5
    have le6 : Mem.le g4 (g5.add a (lstO us n)) := le5.trans (Mem.le_add (S5.own _ (.head _)).2.2.2)
    have at6 := Mem.add_self g5 a (lstO us n)
    have r6 : RdAll (g5.add a (lstO us n)) us (((ways r i).map (nextP rows)).map nxd) := r5.mono (Mem.le_add (S5.own _ (.head _)).2.2.2)
    generalize g5.add a (lstO us n) = g6 at S6 le6 at6 r6
    have lg6 := lg4.trans le6
    have S6' : St s g g6 L (upd (upd m4 "k" (.int i t)) "ways" (.ref a)) [itr] s5 := S6
    have ek : upd (upd m4 "k" (.int i t)) "ways" (.ref a) "k" = some (.int i t) := (upd_ne (by decide)).trans (upd_self ..)
    have ew : ∀ {G : Mem}, Mem.le g6 G → Rd G (.ref a) (.list (((ways r i).map (nextP rows)).map nxd)) := fun k => .list (k _ _ at6) (r6.mono k)
    have lgh : ∀ {s'}, St s g g6 L (upd (upd m4 "k" (.int i t)) "ways" (.ref a)) [itr] s' → Mem.le g4 (memOf s'.heap) := fun S => le6.trans S.all
    have fin : ∀ s', St s g g6 L (upd (upd m4 "k" (.int i t)) "ways" (.ref a)) [itr] s' → TurnEnd s g L g4 itr (fun g m mu => mu = []) (fun fl s'' => Ret s g (D (.bool true)) (flowVal fl) s'') .next s' := fun s' S' => TurnEnd.next le6 rfl S'
    refine execs_if0 S6' (Tr.cast (Tr.cmp (EvNew.ev (EvNew.comp (N := (nd (ways (threadRow rows r) i)).length) (es := ((ways r i).map (nextP rows)).map nxd)
      (ItrOf.list hA.1 (Ev.call W (hA.le (by decide)) (hw.trans (lg6.trans S6'.all)) n2 (S2 (thread rows) i _ hget' hmade) (Evs.cons (eM (lgh S6') rfl rfl rfl) (Evs.cons (Ev.localD ek (.int i t)) Evs.nil))))
      (by unfold nd; rw [List.length_map, ways_thread_len]; omega) (by unfold nd; rw [List.length_map, List.length_map, List.length_map, ways_thread_len]) (fun G' k C a v d e m' hd rd he hm => ?_))) (Ev.localD (upd_self ..) (ew S6'.all)) (Mono.d _) (CmpOk.ne hA (nxds_shaped _) (nxds_shaped _))) (ne_self (nxds_shaped _))) (fun e s7 S7 => no2 e) fun e s7 S7 => ?_
    · obtain ⟨p, hp', rfl⟩ := nd_get hd
      rw [← ways_thread, List.getElem?_map, List.getElem?_map, hp'] at he
      cases he
      exact Ev.call W (hA.le (by decide)) ((hw.trans (lg6.trans S6'.all)).trans k) n1 (S1 (thread rows) p hmade) (Evs.cons (eM ((lgh S6').trans k) rfl rfl rfl) (Evs.cons (Ev.localD hm rd) Evs.nil))
    refine execs_if S7 (Tr.cast (Tr.cmp (Ev.tag (r := r) (Ev.item (eR (lgh S7) rfl rfl rfl) (Ev.localD ek (.int i t)) (by omega) (by omega) (map_getD hget))) (Ev.list (Evs.cons Ev.str (Evs.cons Ev.str (Evs.cons Ev.str Evs.nil)))) (Mono.d _) (CmpOk.notInLst hA (by decide +kernel) (tag_lay r) (by decide +kernel))) (congrArg not (any_j r))) (fun e s8 S8 => ?_) fun e s8 S8 => ?_
    · have hr : r.isJ = false := by cases h : r.isJ with | false => rfl | true => rw [h] at e; exact no2 e
      refine execs_if0 S8 (Tr.cast (Tr.cmp (Ev.castD (Ev.item (eM (lgh S8) rfl rfl rfl) (Ev.localD ek (.int i t)) (by omega) (by omega) (map_getD hget')) (congrArg Row.dat (notJ_thread hr rows))) (Ev.item (eR (lgh S8) rfl rfl rfl) (Ev.localD ek (.int i t)) (by omega) (by omega) (map_getD hget)) (Mono.d _) (CmpOk.ne hA (row_shaped r) (row_shaped r))) (ne_self (row_shaped r))) (fun e s9 S9 => no2 e) fun e s9 S9 => ?_
      exact wpAny_execs_nil (wpAny_execs_nil (fin _ S9))
    · have hr : r.isJ = true := by cases h : r.isJ with | true => rfl | false => rw [h] at e; exact no1 e
      obtain ⟨tt, hto, hlast, hmid, hdat⟩ := isJ_ways hr rows i
      have hsh : SeqAt.shaped (.tuple [st r.tag, .int (ends rows tt), .none]) = true := hdat ▸ row_shaped _
      refine execs_if0 S8 (Tr.cast (Tr.cmp (Ev.castD (Ev.item (eM (lgh S8) rfl rfl rfl) (Ev.localD ek (.int i t)) (by omega) (by omega) (map_getD hget')) hdat)
        (Ev.tuple (Evs.cons (Ev.tag (r := r) (Ev.item (eR (lgh S8) rfl rfl rfl) (Ev.localD ek (.int i t)) (by omega) (by omega) (map_getD hget))) (Evs.cons (Ev.castD (Ev.mid (r := threadRow rows r) (Ev.item (eM (lgh S8) rfl rfl rfl) (Ev.localD ek (.int i t)) (by omega) (by omega) (map_getD hget'))) hmid) (Evs.cons Ev.none Evs.nil))))
        (Mono.d _) (CmpOk.ne hA hsh hsh)) (ne_self hsh)) (fun e s9 S9 => no2 e) fun e s9 S9 => ?_
      refine execs_if0 S9 (Tr.cast (Tr.cmp (P1 := D (.bool (jumpAt rows (ends rows tt)).isSome)) (P2 := D (.bool (nextP rows tt).isNone)) (Ev.call W (hA.le (by decide)) (hw.trans (lg4.trans (lgh S9))) n3 (S3 rows (ends rows tt) (by omega)) (Evs.cons (eR (lgh S9) rfl rfl rfl) (Evs.cons (Ev.castD (Ev.mid (r := threadRow rows r) (Ev.item (eM (lgh S9) rfl rfl rfl) (Ev.localD ek (.int i t)) (by omega) (by omega) (map_getD hget'))) hmid) Evs.nil)))
        (Ev.castD (Ev.cmp (Ev.castD (Ev.itemLast (d := nxd (nextP rows tt)) (Ev.localD (upd_self ..) (ew S9.all)) (Ev.neg Ev.int) (by rw [hlast]; simp) (by rw [List.length_map, List.length_map]; omega) (by rw [hlast]; simp)) (nxd_lastI _)) Ev.int (Mono.d _) CmpOk.lt) (congrArg PyData.bool (lastI_neg _))) (Mono.d _) (CmpOk.ne hA rfl rfl)) ((bool_ne _ _).trans (by rw [ends_jump]; cases (nextP rows tt).isNone <;> rfl))) (fun e s10 S10 => no2 e) fun e s10 S10 => ?_
      exact wpAny_execs_nil (wpAny_execs_nil (fin _ S10))
  · exact S4.ret' Ev.bool fun v s5 q => q
end
noncomputable def hb (p : Prop) : Bool := @decide p (Classical.propDecidable p)
theorem hb_iff {p : Prop} : hb p = true ↔ p := by unfold hb; exact @decide_eq_true_iff p (Classical.propDecidable p)
section
variable {prog : Program} {w : World} {A : Around} {env : Env} {m : Str → Option Value} {G : Mem}
theorem CmpOk.inK {Φ : Nat → Prop} {k : Nat} : CmpOk prog w A G .In (D (.int k)) (KD prog w Φ) (hb (Φ k)) := fun g le x y s hs p ⟨ks, q, hk⟩ => by
  have e : hb (Φ k) = decide ((k : Int) ∈ ks) := by
    rw [Bool.eq_iff_iff, hb_iff, decide_eq_true_iff, hk]
    exact ⟨fun h => ⟨k, rfl, h⟩, fun ⟨n, e, h⟩ => (show n = k by omega) ▸ h⟩
  rw [e]; exact CmpOk.inD (G := G) g le x y s hs p q
theorem CmpOk.notInK {Φ : Nat → Prop} {k : Nat} : CmpOk prog w A G .NotIn (D (.int k)) (KD prog w Φ) (!hb (Φ k)) := fun g le x y s hs p ⟨ks, q, hk⟩ => by
  have e : hb (Φ k) = decide ((k : Int) ∈ ks) := by
    rw [Bool.eq_iff_iff, hb_iff, decide_eq_true_iff, hk]
    exact ⟨fun h => ⟨k, rfl, h⟩, fun ⟨n, e, h⟩ => (show n = k by omega) ▸ h⟩
  rw [e]; exact CmpOk.notInD (G := G) g le x y s hs p q
end
def cv (xs : List Int) (k : Nat) : Int := xs.getD k 0
def sizeOf' (xs : List Int) : Nat := ((cv xs 0 + 14).fmod 17).toNat
def countOf (xs : List Int) : Nat := ((cv xs 17 + 1).fmod 3).toNat
def rowsOf (xs : List Int) : List Row := (List.range (sizeOf' xs)).map fun k => mkRow (cv xs (1 + k) + 29 * k + 7) (sizeOf' xs)
def rngsOf (xs : List Int) : List Rng := (List.range (countOf xs)).map fun k => mkRng (cv xs (18 + k) + 11 + 40 * k) (sizeOf' xs)
theorem size_cast (xs : List Int) : (cv xs 0 + 14).fmod 17 = (sizeOf' xs : Nat) ∧ sizeOf' xs ≤ 16 := by
  have := fmod_pos (a := cv xs 0 + 14) (b := 17) (by decide)
  unfold sizeOf'; omega
theorem count_cast (xs : List Int) : (cv xs 17 + 1).fmod 3 = (countOf xs : Nat) ∧ countOf xs ≤ 2 := by
  have := fmod_pos (a := cv xs 17 + 1) (b := 3) (by decide)
  unfold countOf; omega
theorem rows_len (xs : List Int) : (rowsOf xs).length = sizeOf' xs := by unfold rowsOf; rw [List.length_map, List.length_range]
theorem rngs_len (xs : List Int) : (rngsOf xs).length = countOf xs := by unfold rngsOf; rw [List.length_map, List.length_range]
theorem rows_get {xs : List Int} {i : Nat} {e : PyData} (h : ((rowsOf xs).map Row.dat)[i]? = some e) : e = (mkRow (cv xs (1 + i) + 29 * i + 7) (sizeOf' xs)).dat := by
  obtain ⟨r, hr, rfl⟩ := map_get h
  unfold rowsOf at hr
  obtain ⟨k, hk, rfl⟩ := map_get hr
  have := (List.getElem?_eq_some_iff.mp hk).2
  rw [List.getElem_range] at this
  rw [this]
theorem rngs_get {xs : List Int} {i : Nat} {e : PyData} (h : ((rngsOf xs).map Rng.dat)[i]? = some e) : e = (mkRng (cv xs (18 + i) + 11 + 40 * i) (sizeOf' xs)).dat := by
  obtain ⟨r, hr, rfl⟩ := map_get h
  unfold rngsOf at hr
  obtain ⟨k, hk, rfl⟩ := map_get hr
  have := (List.getElem?_eq_some_iff.mp hk).2
  rw [List.getElem_range] at this
  rw [this]
theorem rows_to (xs : List Int) : ∀ r ∈ rowsOf xs, ∀ t, r.to = some t → t ≤ (rowsOf xs).length := fun r hr t e => by
  rw [rows_len]
  unfold rowsOf at hr
  obtain ⟨k, _, rfl⟩ := List.mem_map.mp hr
  exact mkRow_to e
theorem rngs_to (xs : List Int) : ∀ t ∈ places (rngsOf xs), t ≤ (rowsOf xs).length := fun t ht => by
  rw [rows_len]
  unfold places rngsOf at ht
  obtain ⟨r, hr, h⟩ := List.mem_flatMap.mp ht
  obtain ⟨k, _, rfl⟩ := List.mem_map.mp hr
  rcases List.mem_cons.mp h with rfl | h
  · exact mkRng_place _ _
  · exact mkRng_again (by simpa using h)

section
variable {prog : Program} {w : World} {h₀ : Heap} {mg mb : Str → Option Value} {f f1 f2 f3 f4 f5 f6 f7 f8 : Addr}
theorem the_law (W : Wd h₀ mg mb) (F : FnAt h₀ mg "law" (parOf (stm 24)) (bodyOf (stm 24)) (scopeOf (stm 24)) f) (nl : mg "len" = none) (nr : mg "range" = none) (nli : mg "list" = none)
    (k1 : mg "_law_cell" = some (.ref f1)) (k2 : mg "_law_row" = some (.ref f2)) (k3 : mg "_law_range" = some (.ref f3)) (k4 : mg "threaded" = some (.ref f4)) (k5 : mg "_law_threaded_right" = some (.ref f5)) (k6 : mg "_law_reach_right" = some (.ref f6)) (k7 : mg "reached" = some (.ref f7)) (k8 : mg "_law_road" = some (.ref f8))
    (xs : List Int) (hxs : xs.length ≤ 1000)
    (S1 : ∀ k : Nat, FnSpec prog w h₀ f1 2 (fun g vs => ∃ v u, vs = [v, u] ∧ PScript xs g v ∧ Rd g u (.int k)) (D (.int (cv xs k))))
    (S2 : ∀ (x : Int) (n : Nat), n ≤ 1000 → FnSpec prog w h₀ f2 2 (Dat [.int x, .int n]) (D (mkRow x n).dat))
    (S3 : ∀ (x : Int) (n : Nat), n ≤ 1000 → FnSpec prog w h₀ f3 2 (Dat [.int x, .int n]) (D (mkRng x n).dat))
    (S4 : ∀ rows : List Row, rows.length ≤ 1000 → FnSpec prog w h₀ f4 4 (Dat [.list (rows.map Row.dat)]) (D (.list ((thread rows).map Row.dat))))
    (S5 : ∀ rows : List Row, rows.length ≤ 900 → FnSpec prog w h₀ f5 6 (Dat [.list (rows.map Row.dat), .list ((thread rows).map Row.dat)]) (D (.bool true)))
    (S6 : ∀ (rows : List Row) (rs : List Rng), rows.length ≤ 900 → rs.length ≤ 900 → (∀ r ∈ rows, ∀ t, r.to = some t → t ≤ rows.length) → (∀ t ∈ places rs, t ≤ rows.length) → FnSpec prog w h₀ f6 8 (Dat [.list (rows.map Row.dat), .list (rs.map Rng.dat)]) (D (.bool true)))
    (S7 : ∀ (rows : List Row) (rs : List Rng), rows.length ≤ 1000 → rs.length ≤ 1000 → FnSpec prog w h₀ f7 4 (Dat [.list (rows.map Row.dat), .list (rs.map Rng.dat)]) (ReachD prog w rows (0 :: places rs)))
    (S8 : ∀ (rows : List Row) (ans : Int), rows.length ≤ 1000 → FnSpec prog w h₀ f8 6 (Dat [.list (rows.map Row.dat), .int ans]) (D (.list ((roadOf rows ans).map nxd)))) :
    FnSpec prog w h₀ f 10 (fun g vs => ∃ v, vs = [v] ∧ PScript xs g v) (D (.bool true)) := by
  refine enterC W F (fun L => [("size", L + 1 + 1), ("script", L + 1)]) (fun L => rfl) (fun L p hp => ?_) (fun A hA s g hw hs vs hp cd => ?_)
  · rcases List.mem_cons.mp hp with rfl | hp
    · rfl
    · rw [List.mem_singleton.mp hp]; rfl
  obtain ⟨v1, rfl, rv1⟩ := hp
  refine ⟨[("script", v1)], fun _ _ _ _ => rfl, fun L y hy => ?_, fun L s1 cf hcf S => ?_⟩
  · rw [List.mem_singleton.mp hy]; exact .inr ⟨rfl, rfl⟩
  have hc1 : (cf (L + 1)).data = .cell (some v1) := hcf "script" (L + 1) rfl
  have hc2 : (cf (L + 1 + 1)).data = .cell none := hcf "size" (L + 1 + 1) rfl
  obtain ⟨eN, hN⟩ := size_cast xs
  obtain ⟨eC, hC⟩ := count_cast xs
  -- the script's cell stands
  have Sa := St.freeze (pre := [(L + 1 + 1, cf (L + 1 + 1))]) (post := []) (a := L + 1) (o := cf (L + 1)) S
  have le1 : Mem.le g (g.add (L + 1) (cf (L + 1))) := Sa.le
  have at1 : (g.add (L + 1) (cf (L + 1))) (L + 1) = some (cf (L + 1)) := Mem.add_self _ _ _
  generalize g.add (L + 1) (cf (L + 1)) = g1 at Sa le1 at1
  have eS : ∀ {env : Env} {m : Str → Option Value} {G : Mem} {pos : Pos}, Mem.le g1 G → env.cells.lookup ("script" : Str) = some (L + 1) → env.scope.kind = .function → env.kindOf "script" = some .cell → Ev prog w A env m G (.Name "script" pos) (PScript xs) :=
    fun k h1 h2 h3 => Ev.cell h1 (k _ _ at1) hc1 (fun g' k' => Mono.script xs _ _ _ (le1.trans (k.trans k')) rv1) h2 h3
  refine St.assignCell [] [] Sa hc2 (Ev.castD (Ev.mod (Ev.add (Ev.call2P W (hA.le (by decide)) (hw.trans le1) k1 (S1 0) (Mono.script xs) (eS (Mem.le.refl _) rfl rfl rfl) Ev.int) Ev.int) Ev.int (by decide)) (congrArg PyData.int eN)) fun vz ob g2 s2 hob Sb le2 rz => ?_
  have hg2 : g2 (L + 1 + 1) = none := (Sb.own _ (.head _)).2.2.2
  have Sc := St.freeze (pre := []) Sb
  have le3 : Mem.le g1 (g2.add (L + 1 + 1) ob) := le2.trans (Mem.le_add hg2)
  have at2 : (g2.add (L + 1 + 1) ob) (L + 1 + 1) = some ob := Mem.add_self _ _ _
  have rz3 : Rd (g2.add (L + 1 + 1) ob) vz (.int (sizeOf' xs)) := rz.mono (Mem.le_add hg2)
  generalize g2.add (L + 1 + 1) ob = g3 at Sc le3 at2 rz3
  have l3 : Mem.le g g3 := le1.trans le3
  have eZ : ∀ {env : Env} {m : Str → Option Value} {G : Mem} {pos : Pos}, Mem.le g3 G → env.cells.lookup ("size" : Str) = some (L + 1 + 1) → env.scope.kind = .function → env.kindOf "size" = some .cell → Ev prog w A env m G (.Name "size" pos) (D (.int (sizeOf' xs))) :=
    fun k h1 h2 h3 => Ev.cell h1 (k _ _ at2) hob (fun g' k' => rz3.mono (k.trans k')) h2 h3
  -- the rows
  refine St.assignComp (N := sizeOf' xs) (es := (rowsOf xs).map Row.dat) Sc (ItrOf.range W (hw.trans l3) nr hA.1 (eZ (Mem.le.refl _) rfl rfl rfl) (by omega)) (by omega) (by rw [List.length_map, rows_len]) (fun G' k C i v d e m' hd rd he hm => ?_) fun a us n g4 s4 Sd le4 r4 => ?_
  · cases hd
    rw [rows_get he]
    exact Ev.call W (hA.le (by decide)) ((hw.trans l3).trans k) k2 (S2 _ _ (by omega)) (Evs.cons (Ev.add (Ev.add (Ev.call2P W (hA.le (by decide)) ((hw.trans l3).trans k) k1 (S1 (1 + i)) (Mono.script xs) (eS (le3.trans k) rfl rfl rfl) (Ev.castD (Ev.add Ev.int (Ev.localD hm rd)) rfl)) (Ev.mul Ev.int (Ev.localD hm rd) (by omega))) Ev.int) (Evs.cons (eZ k rfl rfl rfl) Evs.nil))
  have hg4 := (Sd.own _ (.head _)).2.2.2
  have Se := St.freeze (pre := []) Sd
  have le5 : Mem.le g3 (g4.add a (lstO us n)) := le4.trans (Mem.le_add hg4)
  have r5 : Rd (g4.add a (lstO us n)) (.ref a) (.list ((rowsOf xs).map Row.dat)) := .list (Mem.add_self _ _ _) (r4.mono (Mem.le_add hg4))
  generalize g4.add a (lstO us n) = g5 at Se le5 r5
  have l5 := l3.trans le5
  have hrl := rows_len xs
  have hgl := rngs_len xs
  -- count
  refine St.assign Se (Ev.castD (Ev.mod (Ev.add (Ev.call2P W (hA.le (by decide)) (hw.trans l5) k1 (S1 17) (Mono.script xs) (eS (le3.trans le5) rfl rfl rfl) Ev.int) Ev.int) Ev.int (by decide)) (congrArg PyData.int eC)) fun vc g6 s6 Sf le6 rc => ?_
  have l6 := l5.trans le6
  -- ranges
  refine St.assignComp (N := countOf xs) (es := (rngsOf xs).map Rng.dat) Sf (ItrOf.range W (hw.trans l6) nr hA.1 (Ev.localD (upd_self ..) rc) (by omega)) (by omega) (by rw [List.length_map, rngs_len]) (fun G' k C i v d e m' hd rd he hm => ?_) fun b us7 n7 g7 s7 Sg le7 r7 => ?_
  · cases hd
    rw [rngs_get he]
    exact Ev.call W (hA.le (by decide)) ((hw.trans l6).trans k) k3 (S3 _ _ (by omega)) (Evs.cons (Ev.add (Ev.add (Ev.call2P W (hA.le (by decide)) ((hw.trans l6).trans k) k1 (S1 (18 + i)) (Mono.script xs) (eS (le3.trans (le5.trans (le6.trans k))) rfl rfl rfl) (Ev.castD (Ev.add Ev.int (Ev.localD hm rd)) rfl)) Ev.int) (Ev.mul Ev.int (Ev.localD hm rd) (by omega))) (Evs.cons (eZ (le5.trans (le6.trans k)) rfl rfl rfl) Evs.nil))
  have hg7 := (Sg.own _ (.head _)).2.2.2
  have Sh := St.freeze (pre := []) Sg
  have le8 : Mem.le g6 (g7.add b (lstO us7 n7)) := le7.trans (Mem.le_add hg7)
  have r8 : Rd (g7.add b (lstO us7 n7)) (.ref b) (.list ((rngsOf xs).map Rng.dat)) := .list (Mem.add_self _ _ _) (r7.mono (Mem.le_add hg7))
  generalize g7.add b (lstO us7 n7) = g8 at Sh le8 r8
  have l8 := l6.trans le8
  have r5' : Rd g8 (.ref a) (.list ((rowsOf xs).map Row.dat)) := r5.mono (le6.trans le8)
  -- given
  refine St.assignNew Sh (EvNew.copy (x := "rows") W (hw.trans l8) nli (Ev.localD ((upd_ne (by decide)).trans ((upd_ne (by decide)).trans (upd_self ..))) r5') (by rw [List.length_map]; omega)) fun c us9 n9 g9 s9 Si le9 r9 => ?_
  have hg9 := (Si.own _ (.head _)).2.2.2
  have Sj := St.freeze (pre := []) Si
  have le10 : Mem.le g8 (g9.add c (lstO us9 n9)) := le9.trans (Mem.le_add hg9)
  have r10 : Rd (g9.add c (lstO us9 n9)) (.ref c) (.list ((rowsOf xs).map Row.dat)) := .list (Mem.add_self _ _ _) (r9.mono (Mem.le_add hg9))
  generalize g9.add c (lstO us9 n9) = g10 at Sj le10 r10
  have l10 := l8.trans le10
  -- made
  refine St.assign Sj (Ev.call W (hA.le (by decide)) (hw.trans l10) k4 (S4 (rowsOf xs) (by omega)) (Evs.cons (Ev.localD ((upd_ne (by decide)).trans ((upd_ne (by decide)).trans ((upd_ne (by decide)).trans (upd_self ..)))) (r5'.mono le10)) Evs.nil)) fun vm g11 s11 Sk le11 rm => ?_
  have l11 := l10.trans le11
  generalize hm11 : (upd (upd (upd (upd (upd (bindL (envOfC "law" (scopeOf (stm 24)) L f cd).kindOf [("script", v1)] fun _ => none) "rows" (.ref a)) "count" vc) "ranges" (.ref b)) "given" (.ref c)) "made" vm) = m11 at Sk
  have erows : m11 "rows" = some (.ref a) := by rw [← hm11]; exact (upd_ne (by decide)).trans ((upd_ne (by decide)).trans ((upd_ne (by decide)).trans ((upd_ne (by decide)).trans (upd_self ..))))
  have erng : m11 "ranges" = some (.ref b) := by rw [← hm11]; exact (upd_ne (by decide)).trans ((upd_ne (by decide)).trans (upd_self ..))
  have egiv : m11 "given" = some (.ref c) := by rw [← hm11]; exact (upd_ne (by decide)).trans (upd_self ..)
  have emad : m11 "made" = some vm := by rw [← hm11]; exact upd_self ..
  have rrows : ∀ {G : Mem}, Mem.le g11 G → Rd G (.ref a) (.list ((rowsOf xs).map Row.dat)) := fun k => r5'.mono (le10.trans (le11.trans k))
  have rrng : ∀ {G : Mem}, Mem.le g11 G → Rd G (.ref b) (.list ((rngsOf xs).map Rng.dat)) := fun k => r8.mono (le10.trans (le11.trans k))
  have rgiv : ∀ {G : Mem}, Mem.le g11 G → Rd G (.ref c) (.list ((rowsOf xs).map Row.dat)) := fun k => r10.mono (le11.trans k)
  have rmad : ∀ {G : Mem}, Mem.le g11 G → Rd G vm (.list ((thread (rowsOf xs)).map Row.dat)) := fun k => rm.mono k
  have htl := thread_len (rowsOf xs)
  have hrs := rows_shaped (rowsOf xs)
  have hts := rows_shaped (thread (rowsOf xs))
  have hto := rows_to xs
  have hpl := rngs_to xs
  clear hm11 Sj Si Sh Sg Sf Se Sd Sc Sb Sa S
  -- the tests
  refine execs_if0 Sk (Tr.or3 (b := false) (c := false) (d := false) (Tr.cast (Tr.cmp (Ev.localD erows (rrows Sk.all)) (Ev.localD egiv (rgiv Sk.all)) (Mono.d _) (CmpOk.ne hA hrs hrs)) (ne_self hrs))
    (fun _ => Tr.cast (Tr.cmp (Ev.len W (hw.trans (l11.trans Sk.all)) nl (Ev.localD emad (rmad Sk.all)) (by rw [List.length_map]; omega)) (eZ (le5.trans (le6.trans (le8.trans (le10.trans (le11.trans Sk.all))))) rfl rfl rfl) (Mono.d _) CmpOk.neInt) (by rw [List.length_map, htl, hrl]; simp))
    (fun _ _ => Tr.cast (Tr.cmp (Ev.castD (Ev.call W (hA.le (by decide)) (hw.trans (l11.trans Sk.all)) k4 (S4 (thread (rowsOf xs)) (by omega)) (Evs.cons (Ev.localD emad (rmad Sk.all)) Evs.nil)) (by rw [thread_thread])) (Ev.localD emad (rmad Sk.all)) (Mono.d _) (CmpOk.ne hA hts hts)) (ne_self hts))) (fun e s12 Sl => no2 e) fun e s12 Sl => ?_
  refine execs_if0 Sl (Tr.cast (Tr.not (Tr.val (Ev.call W (hA.le (by decide)) (hw.trans (l11.trans Sl.all)) k5 (S5 (rowsOf xs) (by omega)) (Evs.cons (Ev.localD erows (rrows Sl.all)) (Evs.cons (Ev.localD emad (rmad Sl.all)) Evs.nil))))) (b' := false) rfl) (fun e s13 Sm => no2 e) fun e s13 Sm => ?_
  refine execs_if0 Sm (Tr.or2 (b := false) (c := false)
    (Tr.cast (Tr.not (Tr.val (Ev.call W (hA.le (by decide)) (hw.trans (l11.trans Sm.all)) k6 (S6 (rowsOf xs) (rngsOf xs) (by omega) (by omega) hto hpl) (Evs.cons (Ev.localD erows (rrows Sm.all)) (Evs.cons (Ev.localD erng (rrng Sm.all)) Evs.nil))))) (b' := false) rfl)
    (fun _ => Tr.cast (Tr.not (Tr.val (Ev.call W (hA.le (by decide)) (hw.trans (l11.trans Sm.all)) k6 (S6 (thread (rowsOf xs)) (rngsOf xs) (by omega) (by omega) (by rw [htl]; exact thread_to hto) (by rw [htl]; exact hpl)) (Evs.cons (Ev.localD emad (rmad Sm.all)) (Evs.cons (Ev.localD erng (rrng Sm.all)) Evs.nil))))) (b' := false) rfl)) (fun e s14 Sn => no2 e) fun e s14 Sn => ?_
  refine execs_if0 Sn (Tr.cast (Tr.cmp (Ev.localD erows (rrows Sn.all)) (Ev.localD egiv (rgiv Sn.all)) (Mono.d _) (CmpOk.ne hA hrs hrs)) (ne_self hrs)) (fun e s15 So => no2 e) fun e s15 So => ?_
  -- found, left
  refine St.assign So (Ev.call W (hA.le (by decide)) (hw.trans l11) k7 (S7 (rowsOf xs) (rngsOf xs) (by omega) (by omega)) (Evs.cons (Ev.localD erows (rrows (Mem.le.refl _))) (Evs.cons (Ev.localD erng (rrng (Mem.le.refl _))) Evs.nil))) fun vf g16 s16 Sp le16 rf => ?_
  refine St.assign Sp (Ev.call W (hA.le (by decide)) (hw.trans (l11.trans le16)) k7 (S7 (thread (rowsOf xs)) (rngsOf xs) (by omega) (by omega)) (Evs.cons (Ev.localD ((upd_ne (by decide)).trans emad) (rmad le16)) (Evs.cons (Ev.localD ((upd_ne (by decide)).trans erng) (rrng le16)) Evs.nil))) fun vl g17 s17 Sq le17 rl => ?_
  have l17 := (l11.trans le16).trans le17
  have k17 := le16.trans le17
  have rfnd : ∀ G : Mem, Mem.le g17 G → KD prog w (Reach (rowsOf xs) (0 :: places (rngsOf xs))) G vf := fun G k => Mono.kd _ _ _ _ (le17.trans k) rf
  have rlft : ∀ G : Mem, Mem.le g17 G → KD prog w (Reach (thread (rowsOf xs)) (0 :: places (rngsOf xs))) G vl := fun G k => Mono.kd _ _ _ _ k rl
  generalize hm17 : upd (upd m11 "found" vf) "left" vl = m17 at Sq
  have erows' : m17 "rows" = some (.ref a) := by rw [← hm17]; exact (upd_ne (by decide)).trans ((upd_ne (by decide)).trans erows)
  have emad' : m17 "made" = some vm := by rw [← hm17]; exact (upd_ne (by decide)).trans ((upd_ne (by decide)).trans emad)
  have efnd : m17 "found" = some vf := by rw [← hm17]; exact (upd_ne (by decide)).trans (upd_self ..)
  have elft : m17 "left" = some vl := by rw [← hm17]; exact upd_self ..
  clear hm17
  have z17 : Mem.le g3 g17 := le5.trans (le6.trans (le8.trans (le10.trans (le11.trans k17))))
  refine Sq.forRange (N := sizeOf' xs) W (hw.trans l17) nr hA.1 (eZ (z17.trans Sq.all) rfl rfl rfl) (by omega) (fun i g m mu => Agree ["k"] m17 m ∧ mu = []) ⟨Agree.refl _ _, rfl⟩ (fun i hi g18 m18 mu18 t s18 itr le18 j Sr => ?_) fun g18 m18 mu18 s18 le18 j Sr => ?_
  · obtain ⟨hm18, rfl⟩ := j
    have hm19 := hm18.upd (x := "k") (v := .int i t) (by decide)
    have hget : (rowsOf xs)[i]? = some (rowsOf xs)[i] := List.getElem?_eq_getElem (by omega)
    generalize (rowsOf xs)[i] = r at hget
    have eK : ∀ {G : Mem} {pos : Pos}, Ev prog w A (envOfC "law" (scopeOf (stm 24)) L f cd) (upd m18 "k" (.int i t)) G (.Name "k" pos) (D (.int i)) := Ev.localD (upd_self ..) (.int i t)
    have eF : ∀ {G : Mem} {pos : Pos}, Mem.le g17 G → Ev prog w A (envOfC "law" (scopeOf (stm 24)) L f cd) (upd m18 "k" (.int i t)) G (.Name "found" pos) (KD prog w (Reach (rowsOf xs) (0 :: places (rngsOf xs)))) := fun k => Ev.local (hm19.get efnd (by decide)) fun g' k' => rfnd g' (k.trans k')
    have eL : ∀ {G : Mem} {pos : Pos}, Mem.le g17 G → Ev prog w A (envOfC "law" (scopeOf (stm 24)) L f cd) (upd m18 "k" (.int i t)) G (.Name "left" pos) (KD prog w (Reach (thread (rowsOf xs)) (0 :: places (rngsOf xs)))) := fun k => Ev.local (hm19.get elft (by decide)) fun g' k' => rlft g' (k.trans k')
    refine execs_if0 Sr (Tr.cast (Tr.and2 (Tr.cmp eK (eL (le18.trans Sr.all)) (Mono.d _) CmpOk.inK) fun _ => Tr.cmp eK (eF (le18.trans Sr.all)) (Mono.d _) CmpOk.notInK) (b' := false) ?_) (fun e s19 Ss => no2 e) fun e s19 Ss => ?_
    · cases h1 : hb (Reach (thread (rowsOf xs)) (0 :: places (rngsOf xs)) i) with
      | false => rfl
      | true => rw [hb_iff.mpr (reach_sub (hb_iff.mp h1))]; rfl
    refine execs_if0 Ss (Tr.cast (Tr.and3 (Tr.cmp eK (eF (le18.trans Ss.all)) (Mono.d _) CmpOk.inK) (fun _ => Tr.cmp eK (eL (le18.trans Ss.all)) (Mono.d _) CmpOk.notInK)
      fun _ _ => Tr.cmp (Ev.tag (r := r) (Ev.item (Ev.localD (hm19.get erows' (by decide)) (rrows (k17.trans (le18.trans Ss.all)))) eK (by omega) (by omega) (map_getD hget))) Ev.str (Mono.d _) (CmpOk.ne hA (tag_shaped r) (by decide +kernel))) (b' := false) ?_) (fun e s20 St' => no2 e) fun e s20 St' => ?_
    · rw [eq_jump]
      cases h1 : hb (Reach (rowsOf xs) (0 :: places (rngsOf xs)) i) with
      | false => rfl
      | true =>
        cases h2 : r.isJump with
        | true => simp
        | false =>
          have hj : jumpAt (rowsOf xs) i = none := by
            have := jumpAt_isSome hget
            cases q : jumpAt (rowsOf xs) i with
            | none => rfl
            | some t => rw [q, h2] at this; cases this
          rw [hb_iff.mpr (reach_up (hb_iff.mp h1) i (nextP_stay hj) (by omega))]; rfl
    exact wpAny_execs_nil (TurnEnd.next (Mem.le.refl _) ⟨hm19, rfl⟩ St')
  · obtain ⟨hm18, rfl⟩ := j
    have l18 := l17.trans le18
    have k18 := k17.trans le18
    have z18 := z17.trans le18
    have s18' : Mem.le g1 g18 := le3.trans z18
    -- road
    refine St.assign Sr (Ev.call W (hA.le (by decide)) (hw.trans l18) k8 (S8 (rowsOf xs) (cv xs 20) (by omega)) (Evs.cons (Ev.localD (hm18.get erows' (by decide)) (rrows k18)) (Evs.cons (Ev.call2P W (hA.le (by decide)) (hw.trans l18) k1 (S1 20) (Mono.script xs) (eS s18' rfl rfl rfl) Ev.int) Evs.nil))) fun vr g19 s19 Ss le19 rr => ?_
    have l19 := l18.trans le19
    have rsh := nxds_shaped (roadOf (rowsOf xs) (cv xs 20))
    refine execs_if0 Ss (Tr.cast (Tr.cmp (Ev.castD (Ev.call W (hA.le (by decide)) (hw.trans (l19.trans Ss.all)) k8 (S8 (thread (rowsOf xs)) (cv xs 20) (by omega)) (Evs.cons (Ev.localD ((upd_ne (by decide)).trans (hm18.get emad' (by decide))) (rmad (k18.trans (le19.trans Ss.all)))) (Evs.cons (Ev.call2P W (hA.le (by decide)) (hw.trans (l19.trans Ss.all)) k1 (S1 20) (Mono.script xs) (eS (s18'.trans (le19.trans Ss.all)) rfl rfl rfl) Ev.int) Evs.nil))) (by rw [road_thread]))
      (Ev.localD (upd_self ..) (rr.mono Ss.all)) (Mono.d _) (CmpOk.ne hA rsh rsh)) (ne_self rsh)) (fun e s20 St' => no2 e) fun e s20 St' => ?_
    refine St'.forList hA.1 (Ev.localD (upd_self ..) rr) (fun i g m mu => Agree ["k", "place", "road"] m17 m ∧ mu = []) (fun g' le => ⟨fun y hy => (upd_ne (fun q => hy (by rw [q]; decide))).trans (hm18 y (fun q => hy (by rw [List.mem_singleton.mp q]; decide))), rfl⟩) (fun i d hd g21 m21 mu21 u s21 itr le21 j Su ru => ?_) fun g21 m21 mu21 s21 le21 j Su => ?_
    · obtain ⟨hm21, rfl⟩ := j
      obtain ⟨o, ho, rfl⟩ := map_get hd
      have hm22 := hm21.upd (x := "place") (v := u) (by decide)
      rw [nxd_lastI] at ru
      refine execs_if0 Su (Tr.cast (Tr.and2 (b := (decide (0 ≤ lastI o) && decide (lastI o < (sizeOf' xs : Int)))) (c := false) (Tr.chain Ev.int (Ev.localD (upd_self ..) (ru.mono Su.all)) (fun _ => eZ (z18.trans (le19.trans (le21.trans Su.all))) rfl rfl rfl) (Mono.d _) (Mono.d _) CmpOk.le fun _ => CmpOk.lt) fun hbb => ?_) (b' := false) (by simp)) (fun e s22 Sv => no2 e) fun e s22 Sv => ?_
      · obtain ⟨b1, b2⟩ := Bool.and_eq_true_iff.mp hbb
        have b1 := of_decide_eq_true b1
        have b2 := of_decide_eq_true b2
        obtain ⟨q, rfl⟩ : ∃ q, o = some q := by cases o with | none => exact absurd b1 (by decide) | some q => exact ⟨q, rfl⟩
        have hq : q < (rowsOf xs).length := by rw [hrl]; have : (q : Int) < (sizeOf' xs : Int) := b2; omega
        have hreach : Reach (thread (rowsOf xs)) (0 :: places (rngsOf xs)) q := road_reach (thread (rowsOf xs)) (places (rngsOf xs)) (cv xs 20) q (by rw [road_thread]; exact List.mem_of_getElem? ho) (by rw [htl]; exact hq)
        exact Tr.cast (Tr.cmp (P1 := D (.int (q : Nat))) (Ev.localD (upd_self ..) (ru.mono Su.all)) (Ev.local (hm22.get elft (by decide)) fun g' k' => rlft g' (le18.trans (le19.trans (le21.trans (Su.all.trans k'))))) (Mono.d _) CmpOk.notInK) (by rw [hb_iff.mpr hreach]; rfl)
      · exact wpAny_execs_nil (TurnEnd.next (Mem.le.refl _) ⟨hm22, rfl⟩ Sv)
    · exact Su.ret' Ev.bool fun v s5 q => q
end
theorem FnAt.nm {h₀ : Heap} {mg : Str → Option Value} {x : Str} {params : Arguments} {body : List Stmt} {scope : Scope} {f : Addr} (F : FnAt h₀ mg x params body scope f) : mg x = some (.ref f) := by
  obtain ⟨_, _, _, _, _, _, _, _, h, _⟩ := F; exact h
abbrev FnK (h₀ : Heap) (mg : Str → Option Value) (x : Str) (i : Nat) (f : Addr) : Prop := FnAt h₀ mg x (parOf (stm i)) (bodyOf (stm i)) (scopeOf (stm i)) f
theorem fnAt_K {K : Frag} {h : Heap} {mg : Str → Option Value} {x : Str} {params : Arguments} {body : List Stmt} {scope : Scope} {f : Addr} {oc : Value} {od : Option Addr} {osl : Array (Option Value)} {doc pm : Value} {an : Option Addr} {cd ct : Value}
    (X : K.In h) (G : h.Ns mainGlobals mg) (e1 : nsIn K mainGlobals x = some (some (.ref f))) (e2 : K.lookup f = some ⟨oc, od, .func (fnOf x x params body scope .none .none doc pm an cd ct), osl⟩) (e3 : codeIn K cd x = true) : FnAt h mg x params body scope f :=
  ⟨oc, od, osl, doc, pm, an, cd, ct, mg_of X G e1, X _ _ e2, codeRec_of X e3⟩

theorem whole {prog : Program} {w : World} {s₁ : Shared} {mg mb : Str → Option Value} {K : Frag} {C fI f1 f2 f3 f4 f5 f6 f7 f11 f12 f13 f14 f15 f16 f17 f18 f19 f20 f21 f22 f23 f24 fa l : Addr} {vs : List Value} {xs : List Int}
    (W : Wd s₁.heap mg mb) (c : CodeCls s₁.heap mg K C fI) (nl : mg "len" = none) (nr : mg "range" = none) (nli : mg "list" = none)
    (F1 : FnK s₁.heap mg "place_of" 1 f1) (F2 : FnK s₁.heap mg "range_places" 2 f2) (F3 : FnK s₁.heap mg "led_to" 3 f3) (F4 : FnK s₁.heap mg "targets" 4 f4) (F5 : FnK s₁.heap mg "moved_row" 5 f5) (F6 : FnK s₁.heap mg "threaded" 6 f6) (F7 : FnK s₁.heap mg "reached" 7 f7)
    (F11 : FnK s₁.heap mg "_law_cell" 11 f11) (F12 : FnK s₁.heap mg "_law_row" 12 f12) (F13 : FnK s₁.heap mg "_law_range" 13 f13) (F14 : FnK s₁.heap mg "_law_is_jump" 14 f14) (F15 : FnK s₁.heap mg "_law_to" 15 f15) (F16 : FnK s₁.heap mg "_law_ways" 16 f16) (F17 : FnK s₁.heap mg "_law_next" 17 f17)
    (F18 : FnK s₁.heap mg "_law_road" 18 f18) (F19 : FnK s₁.heap mg "_law_heads" 19 f19) (F20 : FnK s₁.heap mg "_law_live" 20 f20) (F21 : FnK s₁.heap mg "_law_places" 21 f21) (F22 : FnK s₁.heap mg "_law_threaded_right" 22 f22) (F23 : FnK s₁.heap mg "_law_reach_right" 23 f23) (F24 : FnK s₁.heap mg "law" 24 f24)
    (hfa : mg "law" = some (.ref fa)) (hL : s₁.heap.IsList l vs.toArray) (hI : IntsAre vs xs) (hlen : xs.length ≤ 1000) :
    codeAny (model prog w) callerA (.call (.ref fa) ⟨[.ref l], []⟩) (fun r s' => r = .ok (.ret (.bool true)) ∧ (∀ b o, s₁.heap.get? b = some o → s'.heap.get? b = some o) ∧ s'.os = s₁.os ∧ s'.gens = s₁.gens) s₁ := by
  have e24 : fa = f24 := by have := F24.nm; rw [hfa] at this; cases this; rfl
  subst e24
  have T1 : ∀ r : Row, FnSpec prog w s₁.heap f1 2 (Dat [r.dat]) (D (od r.to)) := place_of W F1
  have T2 : ∀ rs : List Rng, rs.length ≤ 1000 → FnSpec prog w s₁.heap f2 2 (Dat [.list (rs.map Rng.dat)]) (D (.list (nd (places rs)))) := range_places W F2
  have T3 := led_to (prog := prog) (w := w) W F3 F1.nm F2.nm T1 T2
  have T5 : ∀ (r : Row) (t : Nat), r.isJ = true → FnSpec prog w s₁.heap f5 2 (Dat [r.dat, .int t]) (D (moved r t).dat) := moved_row W F5
  have T6 := threaded (prog := prog) (w := w) W F6 F5.nm nl T5
  have T7 := reached (prog := prog) (w := w) W F7 F1.nm F2.nm nl T1 T2
  have T14 : ∀ (rows : List Row) (k : Nat), rows.length ≤ 1000 → FnSpec prog w s₁.heap f14 2 (Dat [.list (rows.map Row.dat), .int k]) (D (.bool (jumpAt rows k).isSome)) := is_jump W F14 nl
  have T15 : ∀ r : Row, FnSpec prog w s₁.heap f15 2 (Dat [r.dat]) (D (od r.to)) := row_to W F15
  have T16 := row_ways (prog := prog) (w := w) W F16 F15.nm T15
  have T17 := law_next (prog := prog) (w := w) W F17 nl nr F14.nm T14
  have T18 := law_road (prog := prog) (w := w) W F18 nl F17.nm F16.nm T17 T16
  have T19 : ∀ rs : List Rng, rs.length ≤ 1000 → FnSpec prog w s₁.heap f19 2 (Dat [.list (rs.map Rng.dat)]) (D (.list (nd (places rs)))) := law_heads W F19
  have T20 := law_live (prog := prog) (w := w) W F20 nl nr F19.nm F16.nm T19 T16
  have T22 := law_threaded_right (prog := prog) (w := w) W F22 nl nr F17.nm F16.nm F14.nm T17 T16 T14
  have T := the_law (prog := prog) (w := w) W F24 nl nr nli F11.nm F12.nm F13.nm F6.nm F22.nm F23.nm F7.nm F18.nm xs hlen (fun k => law_cell W F11 nl xs k hlen) (law_row W F12) (law_range W F13) T6 T22
    (fun rows rs h1 h2 h3 h4 => law_reach_right W F23 c nl F15.nm F19.nm F21.nm F3.nm F4.nm F7.nm F20.nm rows rs h1 h2 h3 h4 T15 (T19 rs (by omega)) (law_places W F21 nr) (T3 rows rs (by omega) (by omega)) (targets W F4 c F3.nm (T3 rows rs (by omega) (by omega))) (T7 rows rs (by omega) (by omega)) (T20 rows rs (by omega) (by omega) h3 h4)) T7 T18
  obtain ⟨o, ho, hc, n, hd⟩ := hL
  refine codeAny_mono (T.run callerA ⟨rfl, by decide, by decide⟩ s₁ (memOf s₁.heap) (Mem.le.refl _) (memOf_sub _) [.ref l] ⟨_, rfl, l, o, vs.toArray, n, rfl, ho, hc, hd, by simpa using hI⟩) (fun r s' ⟨v, e, g', st, q⟩ => ?_)
  have ev := q.bool_inv
  subst ev
  obtain ⟨h, tk, es⟩ := st.same
  exact ⟨e, st.up, by rw [es], by rw [es]⟩
end Mine

set_option maxRecDepth 100000 in
set_option maxHeartbeats 8000000 in
theorem PySem.Challenge.cw_oj0048_01_holds : PySem.Challenge.rw_oj0048_01.Holds := by
  w_on
  o_law
  k_head
  case hw => w_witness2
  k_fill
  intro w s₀ s₁ mg mb G Y fa o pm cd doc dV kV ho hd hcd hD hmg hg args vals as hpre hlay hrd hwl hlo
  have KX := kIn_of Y
  refine Ground.open G ?_
  intro T B D TE TW
  wrow_args hpre hlay hrd hwl hlo
  all_goals refine enter_call ?_
  clear ho hd hcd hD B D TE TW Y G
  have nl : mg "len" = none := mg_none_of KX T.g (by kernel_rfl)
  have nr : mg "range" = none := mg_none_of KX T.g (by kernel_rfl)
  have nli : mg "list" = none := mg_none_of KX T.g (by kernel_rfl)
  have F1 : Mine.FnK s₁.heap mg "place_of" 1 21 := Mine.fnAt_K KX T.g (by kernel_rfl) (by rfl) (by kernel_rfl)
  have F2 : Mine.FnK s₁.heap mg "range_places" 2 28 := Mine.fnAt_K KX T.g (by kernel_rfl) (by rfl) (by kernel_rfl)
  have F3 : Mine.FnK s₁.heap mg "led_to" 3 35 := Mine.fnAt_K KX T.g (by kernel_rfl) (by rfl) (by kernel_rfl)
  have F4 : Mine.FnK s₁.heap mg "targets" 4 42 := Mine.fnAt_K KX T.g (by kernel_rfl) (by rfl) (by kernel_rfl)
  have F5 : Mine.FnK s₁.heap mg "moved_row" 5 49 := Mine.fnAt_K KX T.g (by kernel_rfl) (by rfl) (by kernel_rfl)
  have F6 : Mine.FnK s₁.heap mg "threaded" 6 56 := Mine.fnAt_K KX T.g (by kernel_rfl) (by rfl) (by kernel_rfl)
  have F7 : Mine.FnK s₁.heap mg "reached" 7 63 := Mine.fnAt_K KX T.g (by kernel_rfl) (by rfl) (by kernel_rfl)
  have F11 : Mine.FnK s₁.heap mg "_law_cell" 11 91 := Mine.fnAt_K KX T.g (by kernel_rfl) (by rfl) (by kernel_rfl)
  have F12 : Mine.FnK s₁.heap mg "_law_row" 12 98 := Mine.fnAt_K KX T.g (by kernel_rfl) (by rfl) (by kernel_rfl)
  have F13 : Mine.FnK s₁.heap mg "_law_range" 13 105 := Mine.fnAt_K KX T.g (by kernel_rfl) (by rfl) (by kernel_rfl)
  have F14 : Mine.FnK s₁.heap mg "_law_is_jump" 14 112 := Mine.fnAt_K KX T.g (by kernel_rfl) (by rfl) (by kernel_rfl)
  have F15 : Mine.FnK s₁.heap mg "_law_to" 15 119 := Mine.fnAt_K KX T.g (by kernel_rfl) (by rfl) (by kernel_rfl)
  have F16 : Mine.FnK s₁.heap mg "_law_ways" 16 126 := Mine.fnAt_K KX T.g (by kernel_rfl) (by rfl) (by kernel_rfl)
  have F17 : Mine.FnK s₁.heap mg "_law_next" 17 133 := Mine.fnAt_K KX T.g (by kernel_rfl) (by rfl) (by kernel_rfl)
  have F18 : Mine.FnK s₁.heap mg "_law_road" 18 140 := Mine.fnAt_K KX T.g (by kernel_rfl) (by rfl) (by kernel_rfl)
  have F19 : Mine.FnK s₁.heap mg "_law_heads" 19 147 := Mine.fnAt_K KX T.g (by kernel_rfl) (by rfl) (by kernel_rfl)
  have F20 : Mine.FnK s₁.heap mg "_law_live" 20 154 := Mine.fnAt_K KX T.g (by kernel_rfl) (by rfl) (by kernel_rfl)
  have F21 : Mine.FnK s₁.heap mg "_law_places" 21 159 := Mine.fnAt_K KX T.g (by kernel_rfl) (by rfl) (by kernel_rfl)
  have F22 : Mine.FnK s₁.heap mg "_law_threaded_right" 22 164 := Mine.fnAt_K KX T.g (by kernel_rfl) (by rfl) (by kernel_rfl)
  have F23 : Mine.FnK s₁.heap mg "_law_reach_right" 23 169 := Mine.fnAt_K KX T.g (by kernel_rfl) (by rfl) (by kernel_rfl)
  have F24 : Mine.FnK s₁.heap mg "law" 24 174 := Mine.fnAt_K KX T.g (by kernel_rfl) (by rfl) (by kernel_rfl)
  have c : Mine.CodeCls s₁.heap mg _ 80 77 := { kin := KX, name := mg_of KX T.g (by kernel_rfl), makes := by kernel_rfl, init := by kernel_rfl, initFn := by kernel_rfl, setattr := by kernel_rfl, over := by kernel_rfl, dict := by kernel_rfl, keep := by kernel_rfl, taker := List.forall_mem_cons.mpr ⟨by kernel_rfl, List.forall_mem_cons.mpr ⟨by kernel_rfl, List.forall_mem_cons.mpr ⟨by kernel_rfl, List.forall_mem_cons.mpr ⟨by kernel_rfl, List.forall_mem_cons.mpr ⟨by kernel_rfl, fun _ h => nomatch h⟩⟩⟩⟩⟩, plain := List.forall_mem_cons.mpr ⟨by kernel_rfl, List.forall_mem_cons.mpr ⟨by kernel_rfl, fun _ h => nomatch h⟩⟩, find := List.forall_mem_cons.mpr ⟨by kernel_rfl, List.forall_mem_cons.mpr ⟨by kernel_rfl, fun _ h => nomatch h⟩⟩, fn := ⟨_, _, _, _, _, _, _, _, KX _ _ (by rfl), codeRec_of KX (by kernel_rfl)⟩ }
  refine codeAny_mono (Mine.whole ⟨T.g, T.b, T.nolimit, T.builtins⟩ c nl nr nli F1 F2 F3 F4 F5 F6 F7 F11 F12 F13 F14 F15 F16 F17 F18 F19 F20 F21 F22 F23 F24 hmg (by assumption) (by assumption) (by omega)) (fun r s' ⟨e, k, eo, eg⟩ => ?_)
  subst e
  refine GoodW.toG ⟨.inl ⟨.bool true, .bool true, [], rfl, fun _ => rfl, .bool true, ?_, unshared_nil⟩, k, eo, eg.trans hg⟩
  exact postW_of rfl (w_eq_bool (w_res rfl) w_lit) rfl
