import PyProof.Rows.All
import Wide.All
import Open.Line
import OpenK.KWalk
import KE.IntBitsLaws
import Lean
import PySem.Challenge.RW_xm0150_01
open PySem PySem.W PyProof.Rows PySem.Calls
set_option Elab.async false
set_option maxRecDepth 100000
set_option linter.unusedVariables false
set_option linter.unusedSimpArgs false
set_option linter.unusedSectionVars false

-- FcA
namespace Fco

-- lengths
theorem le8S {n : Nat} (h : n ≤ 8) : n ≤ sizeLine := Nat.le_trans h (by show 8 ≤ 2 ^ 24; decide)
theorem leKS {n : Nat} (h : n ≤ 1000) : n ≤ sizeLine := Nat.le_trans h (by show 1000 ≤ 2 ^ 24; decide)
theorem le8K {n : Nat} (h : n ≤ 8) : n ≤ 1000 := Nat.le_trans h (by decide)
theorem mapS {α β : Type} {f : α → β} {l : List α} (h : l.length ≤ 1000) : (l.map f).length ≤ sizeLine := by rw [List.length_map]; exact leKS h
theorem map8 {α β : Type} {f : α → β} {l : List α} (h : l.length ≤ 8) : (l.map f).length ≤ sizeLine := mapS (le8K h)

noncomputable abbrev Ws := Addr → Prop
/-- all objects stay but those in W -/
noncomputable def KpB (W : Ws) (h h' : Heap) : Prop := ∀ b o, ¬ W b → h.get? b = some o → h'.get? b = some o
noncomputable def Kp (h h' : Heap) : Prop := ∀ b o, h.get? b = some o → h'.get? b = some o
noncomputable def Ef : Value → Shared → Prop := fun _ _ => False

theorem Kp.refl (h : Heap) : Kp h h := fun _ _ e => e
theorem Kp.trans {a b c : Heap} (x : Kp a b) (y : Kp b c) : Kp a c := fun q o e => y q o (x q o e)
theorem Kp.toB {a b : Heap} (x : Kp a b) (W : Ws) : KpB W a b := fun q o _ e => x q o e
theorem Kp.push (h : Heap) (o : Obj) : Kp h (h.push o) := fun _ _ e => Heap.get?_push_of_some _ e
theorem KpB.refl (W : Ws) (h : Heap) : KpB W h h := fun _ _ _ e => e
theorem KpB.trans {W : Ws} {a b c : Heap} (x : KpB W a b) (y : KpB W b c) : KpB W a c := fun q o n e => y q o n (x q o n e)
theorem KpB.mono {W W' : Ws} {a b : Heap} (x : KpB W a b) (s : ∀ q, W q → W' q) : KpB W' a b := fun q o n e => x q o (fun h => n (s q h)) e
theorem kpB_same {a : Addr} {h h' : Heap} (x : Heap.SameBut a h h') (W : Ws) (ha : W a) : KpB W h h' := fun b o n e => x.extBut b o (fun q => n (q ▸ ha)) e

mutual
inductive Told (W : Ws) (h : Heap) : Value → PyData → Prop
  | none : Told W h .none .none
  | bool (b : Bool) : Told W h (.bool b) (.bool b)
  | int (i : Int) (t : Tok) : Told W h (.int i t) (.int i)
  | list {a : Addr} {vs : List Value} {ds : List PyData} : ¬ W a → h.IsList a vs.toArray → ToldAll W h vs ds → Told W h (.ref a) (.list ds)
  | tuple {a : Addr} {vs : List Value} {ds : List PyData} : ¬ W a → IsTup h a vs.toArray → ToldAll W h vs ds → Told W h (.ref a) (.tuple ds)
inductive ToldAll (W : Ws) (h : Heap) : List Value → List PyData → Prop
  | nil : ToldAll W h [] []
  | cons {v : Value} {vs : List Value} {d : PyData} {ds : List PyData} : Told W h v d → ToldAll W h vs ds → ToldAll W h (v :: vs) (d :: ds)
end

theorem isList_of {h h' : Heap} {a : Addr} {xs : Array Value} (x : h.IsList a xs) (e : ∀ o, h.get? a = some o → h'.get? a = some o) : h'.IsList a xs :=
  let ⟨o, ho, r⟩ := x; ⟨o, e _ ho, r⟩
theorem isTup_of {h h' : Heap} {a : Addr} {xs : Array Value} (x : IsTup h a xs) (e : ∀ o, h.get? a = some o → h'.get? a = some o) : IsTup h' a xs :=
  let ⟨o, ho, r⟩ := x; ⟨o, e _ ho, r⟩

mutual
theorem Told.keep {W : Ws} {h h' : Heap} (k : KpB W h h') : ∀ {v : Value} {d : PyData}, Told W h v d → Told W h' v d
  | _, _, .none => .none
  | _, _, .bool b => .bool b
  | _, _, .int i t => .int i t
  | _, _, .list n l r => .list n (isList_of l fun o e => k _ o n e) (ToldAll.keep k r)
  | _, _, .tuple n l r => .tuple n (isTup_of l fun o e => k _ o n e) (ToldAll.keep k r)
theorem ToldAll.keep {W : Ws} {h h' : Heap} (k : KpB W h h') : ∀ {vs : List Value} {ds : List PyData}, ToldAll W h vs ds → ToldAll W h' vs ds
  | _, _, .nil => .nil
  | _, _, .cons x r => .cons (Told.keep k x) (ToldAll.keep k r)
end
theorem Told.kp {W : Ws} {h h' : Heap} {v : Value} {d : PyData} (t : Told W h v d) (k : Kp h h') : Told W h' v d := t.keep (k.toB W)
theorem ToldAll.kp {W : Ws} {h h' : Heap} {v : List Value} {d : List PyData} (t : ToldAll W h v d) (k : Kp h h') : ToldAll W h' v d := t.keep (k.toB W)

mutual
theorem Told.weaken {W W' : Ws} {h : Heap} (k : ∀ a, W' a → W a ∨ h.get? a = none) : ∀ {v : Value} {d : PyData}, Told W h v d → Told W' h v d
  | _, _, .none => .none
  | _, _, .bool b => .bool b
  | _, _, .int i t => .int i t
  | _, _, .list n l r => .list (fun w => (k _ w).elim n fun e => by obtain ⟨o, ho, _⟩ := l; rw [e] at ho; cases ho) l (ToldAll.weaken k r)
  | _, _, .tuple n l r => .tuple (fun w => (k _ w).elim n fun e => by obtain ⟨o, ho, _⟩ := l; rw [e] at ho; cases ho) l (ToldAll.weaken k r)
theorem ToldAll.weaken {W W' : Ws} {h : Heap} (k : ∀ a, W' a → W a ∨ h.get? a = none) : ∀ {vs : List Value} {ds : List PyData}, ToldAll W h vs ds → ToldAll W' h vs ds
  | _, _, .nil => .nil
  | _, _, .cons x r => .cons (Told.weaken k x) (ToldAll.weaken k r)
end

theorem ToldAll.length {W : Ws} {h : Heap} : ∀ {vs : List Value} {ds : List PyData}, ToldAll W h vs ds → vs.length = ds.length
  | _, _, .nil => rfl
  | _, _, .cons _ r => by rw [List.length_cons, List.length_cons, r.length]
theorem ToldAll.get {W : Ws} {h : Heap} : ∀ {vs : List Value} {ds : List PyData}, ToldAll W h vs ds → ∀ {k : Nat} {d : PyData}, ds[k]? = some d → ∃ v, vs[k]? = some v ∧ Told W h v d
  | _, _, .nil, k, d, e => by simp at e
  | _, _, .cons x r, 0, d, e => by
    simp only [List.getElem?_cons_zero, Option.some.injEq] at e
    subst e; exact ⟨_, rfl, x⟩
  | _, _, .cons x r, k + 1, d, e => by
    simp only [List.getElem?_cons_succ] at e ⊢
    exact r.get e
theorem ToldAll.append {W : Ws} {h : Heap} : ∀ {vs : List Value} {ds : List PyData}, ToldAll W h vs ds → ∀ {ws : List Value} {es : List PyData}, ToldAll W h ws es → ToldAll W h (vs ++ ws) (ds ++ es)
  | _, _, .nil, _, _, y => y
  | _, _, .cons x r, _, _, y => .cons x (r.append y)
theorem ToldAll.snoc {W : Ws} {h : Heap} {vs : List Value} {ds : List PyData} (x : ToldAll W h vs ds) {v : Value} {d : PyData} (y : Told W h v d) : ToldAll W h (vs ++ [v]) (ds ++ [d]) :=
  x.append (.cons y .nil)
theorem ToldAll.reverse {W : Ws} {h : Heap} : ∀ {vs : List Value} {ds : List PyData}, ToldAll W h vs ds → ToldAll W h vs.reverse ds.reverse
  | _, _, .nil => .nil
  | _, _, .cons x r => by rw [List.reverse_cons, List.reverse_cons]; exact r.reverse.snoc x
theorem ToldAll.replicate {W : Ws} {h : Heap} {v : Value} {d : PyData} (x : Told W h v d) : ∀ n, ToldAll W h (List.replicate n v) (List.replicate n d)
  | 0 => .nil
  | n + 1 => .cons x (ToldAll.replicate x n)
theorem ToldAll.set {W : Ws} {h : Heap} : ∀ {vs : List Value} {ds : List PyData}, ToldAll W h vs ds → ∀ {k : Nat} {v : Value} {d : PyData}, Told W h v d → ToldAll W h (vs.set k v) (ds.set k d)
  | _, _, .nil, _, _, _, _ => .nil
  | _, _, .cons _ r, 0, _, _, y => .cons y r
  | _, _, .cons x r, _ + 1, _, _, y => .cons x (r.set y)

mutual
theorem Told.reads {W : Ws} {h : Heap} : ∀ {v : Value} {d : PyData}, Told W h v d → ∃ as, Reads h v d as
  | _, _, .none => ⟨_, .none⟩
  | _, _, .bool b => ⟨_, .bool b⟩
  | _, _, .int i t => ⟨_, .int i t⟩
  | _, _, .list _ l r => by
    obtain ⟨as, q⟩ := ToldAll.reads r
    obtain ⟨o, ho, hc, n, hd⟩ := l
    exact ⟨_, .list ho hc hd (by simpa using q)⟩
  | _, _, .tuple _ l r => by
    obtain ⟨as, q⟩ := ToldAll.reads r
    obtain ⟨o, ho, hc, n, hd⟩ := l
    exact ⟨_, .tuple ho hc hd (by simpa using q)⟩
theorem ToldAll.reads {W : Ws} {h : Heap} : ∀ {vs : List Value} {ds : List PyData}, ToldAll W h vs ds → ∃ as, ReadsAll h vs ds as
  | _, _, .nil => ⟨_, .nil⟩
  | _, _, .cons x r => by
    obtain ⟨as, q⟩ := Told.reads x
    obtain ⟨bs, p⟩ := ToldAll.reads r
    exact ⟨_, .cons q p⟩
end

/-- the ground that all calls stand on: the heap as the top left it -/
structure GC where
  B : Heap
  prog : Program
  w : World
  p : Program
  loose : List Str
  mean : ExcName → Option Value
  mg : Str → Option Value
  mb : Str → Option Value

noncomputable def dR (a b : Int) : PyData := .tuple [.int a, .int b]

noncomputable def usedB : List Str := ["len", "abs", "max", "list", "range", "enumerate", "sum", "int"]

structure GC.Good (G : GC) : Prop where
  top : Top G.p G.loose G.mean G.mg G.mb G.B
  tree : G.prog.given.tree = none
  imp : importsNone G.p = true
  nob : ∀ x ∈ usedB, G.mg x = none
  r0 : ∃ v, G.mg "R0" = some v ∧ Told (fun _ => False) G.B v (dR 0 1)
  r1 : ∃ v, G.mg "R1" = some v ∧ Told (fun _ => False) G.B v (dR 1 1)
  f0 : ∃ v, G.mg "F0" = some v ∧ Told (fun _ => False) G.B v (.tuple [.list [], .list [dR 1 1]])

/-- W names objects of the calls' own that stand in h -/
structure Ok (G : GC) (W : Ws) (h : Heap) : Prop where
  base : Kp G.B h
  ex : ∀ a, W a → ∃ o, h.get? a = some o
  off : ∀ a, W a → G.B.get? a = none

theorem Ok.kp {G : GC} {W : Ws} {h h' : Heap} (x : Ok G W h) (k : Kp h h') : Ok G W h' := ⟨x.base.trans k, fun a w => let ⟨o, e⟩ := x.ex a w; ⟨o, k _ _ e⟩, x.off⟩
theorem Ok.fresh {G : GC} {W : Ws} {h : Heap} (x : Ok G W h) : ¬ W h.objs.size := fun w => by
  obtain ⟨o, e⟩ := x.ex _ w
  exact Nat.lt_irrefl _ (Heap.lt_size e)
theorem none_of_ge {h : Heap} {a : Addr} (ha : h.objs.size ≤ a) : h.get? a = none := by
  cases e : h.get? a with
  | none => rfl
  | some o => exact absurd (Heap.lt_size e) (Nat.not_lt.mpr ha)
theorem Kp.none {h h' : Heap} (k : Kp h h') {a : Addr} (e : h'.get? a = none) : h.get? a = none := by
  cases q : h.get? a with
  | none => rfl
  | some o => have := k _ _ q; rw [e] at this; cases this

/-- what the frames around ask of a call of height n -/
structure AOk (n : Nat) (A : Around) : Prop where
  hh : A.handled = none
  room : A.depth + n < 800
  units : A.units + 8 * n < 9000
  fr : ∃ l, A.frames = some l
theorem AOk.mono {n m : Nat} {A : Around} (x : AOk n A) (h : m ≤ n) : AOk m A := ⟨x.hh, by have := x.room; (first | lia | omega), by have := x.units; (first | lia | omega), x.fr⟩
theorem AOk.deeper {n : Nat} {A : Around} {env : Env} (x : AOk (n + 1) A) : AOk n (A.deeper env) where
  hh := x.hh
  room := by have := x.room; show A.depth + 1 + n < 800; (first | lia | omega)
  units := by have := x.units; show A.units + 3 + 8 * n < 9000; (first | lia | omega)
  fr := let ⟨l, e⟩ := x.fr; ⟨env :: l, by show A.frames.map _ = _; rw [e]; rfl⟩

end Fco

-- FcB
namespace Fco

/-- inside a frame -/
structure AIn (n : Nat) (A : Around) : Prop extends AOk n A where
  top : ∃ (e : Env) (l : List Env), A.frames = some (e :: l) ∧ e.builtins = builtinsNs ∧ e.globals = mainGlobals ∧ e.scope.isGenerator = false ∧ e.scope.isCoroutine = false
structure Nm (env : Env) (h : Heap) (vm : Str → Option Value) : Prop where
  kind : env.scope.kind = .function
  glob : env.globals = mainGlobals
  blt : env.builtins = builtinsNs
  loc : ∃ m, h.Ns env.locals m ∧ ∀ x, env.kindOf x = some .local → m x = vm x
  cel : ∀ x c, env.kindOf x = some .cell ∨ env.kindOf x = some .free → env.cells.lookup x = some c → h.IsCell c (vm x)
  has : ∀ x, env.kindOf x = some .cell ∨ env.kindOf x = some .free → ∃ c, env.cells.lookup x = some c

theorem Nm.kp {env : Env} {h h' : Heap} {vm : Str → Option Value} (x : Nm env h vm) (k : Kp h h') : Nm env h' vm :=
  ⟨x.kind, x.glob, x.blt, let ⟨m, a, b⟩ := x.loc; ⟨m, a.keeps k, b⟩, fun y c q e => (x.cel y c q e).keeps k, x.has⟩

noncomputable abbrev Gam := List (Str × PyData)
noncomputable abbrev Own := List (Str × (Bool × List PyData))
noncomputable def OwnL (pl : Bool) (h : Heap) (a : Addr) (xs : Array Value) : Prop := h.IsList a xs ∧ (pl = true → PlainL h a xs)
theorem OwnL.of {pl : Bool} {h h' : Heap} {a : Addr} {xs : Array Value} (x : OwnL pl h a xs) (e : ∀ o, h.get? a = some o → h'.get? a = some o) : OwnL pl h' a xs :=
  ⟨isList_of x.1 e, fun p => let ⟨o, n, q, r⟩ := x.2 p; ⟨o, n, e o q, r⟩⟩

/-- the names in force: each bears its datum; an own list may still be stored into -/
structure SE (G : GC) (env : Env) (Γ : Gam) (O : Own) (W : Ws) (h : Heap) : Prop where
  ok : Ok G W h
  nm : ∃ vm, Nm env h vm ∧ (∀ x d, Γ.lookup x = some d → ∃ v, vm x = some v ∧ Told W h v d) ∧
    (∀ x pl ds, O.lookup x = some (pl, ds) → ∃ a vs, vm x = some (.ref a) ∧ OwnL pl h a vs.toArray ∧ ToldAll W h vs ds)
theorem SE.kp {G : GC} {env : Env} {Γ : Gam} {O : Own} {W : Ws} {h h' : Heap} (x : SE G env Γ O W h) (k : Kp h h') : SE G env Γ O W h' :=
  ⟨x.ok.kp k, let ⟨vm, a, b, c⟩ := x.nm
    ⟨vm, a.kp k, fun y d e => let ⟨v, p, q⟩ := b y d e; ⟨v, p, q.kp k⟩, fun y pl ds e => let ⟨q, vs, p, l, t⟩ := c y pl ds e; ⟨q, vs, p, l.of fun o => k _ o, t.kp k⟩⟩⟩

noncomputable abbrev MM (G : GC) : Model := model G.prog G.w

noncomputable def EvE (G : GC) (n : Nat) (env : Env) (Γ : Gam) (O : Own) (e : Expr) (d : PyData) : Prop :=
  ∀ A, AIn n A → ∀ W s, SE G env Γ O W s.heap → ∀ Q : Value → Shared → Prop,
    (∀ v h' tk, Kp s.heap h' → Told W h' v d → Q v { s with heap := h', toks := tk }) → wpAny (MM G) A (eval e env) Q Ef s

noncomputable def TeE (G : GC) (n : Nat) (env : Env) (Γ : Gam) (O : Own) (e : Expr) (b : Bool) : Prop :=
  ∀ A, AIn n A → ∀ W s, SE G env Γ O W s.heap → ∀ Q : Bool → Shared → Prop,
    (∀ h' tk, Kp s.heap h' → Q b { s with heap := h', toks := tk }) → wpAny (MM G) A (isTrue e env (eval e env)) Q Ef s

noncomputable def EvL (G : GC) (n : Nat) (env : Env) (Γ : Gam) (O : Own) (es : List Expr) (ds : List PyData) : Prop :=
  ∀ pos A, AIn n A → ∀ W s, SE G env Γ O W s.heap → ∀ Q : List Value → Shared → Prop,
    (∀ vs h' tk, Kp s.heap h' → ToldAll W h' vs ds → Q vs { s with heap := h', toks := tk }) → wpAny (MM G) A (spliced (backTo pos (starEach es env))) Q Ef s

section
variable {G : GC} {n : Nat} {env : Env} {Γ : Gam} {O : Own}

theorem EvE.conv {e : Expr} {d d' : PyData} (x : EvE G n env Γ O e d) (h : d = d') : EvE G n env Γ O e d' := h ▸ x
theorem TeE.conv {e : Expr} {d d' : Bool} (x : TeE G n env Γ O e d) (h : d = d') : TeE G n env Γ O e d' := h ▸ x

-- names
theorem ev_name {x : Str} {pos : Pos} {d : PyData} (hl : Γ.lookup x = some d) (hk : env.kindOf x = some .local ∨ env.kindOf x = some .cell ∨ env.kindOf x = some .free)
    (hd : (x == ("__debug__" : Str)) = false) (hn : (x == ("__classdict__" : Str)) = false) : EvE G n env Γ O (.Name x pos) d := by
  intro A hA W s S Q h
  obtain ⟨vm, N, b, _⟩ := S.nm
  obtain ⟨v, e, t⟩ := b x d hl
  have fin : Q v s := h v s.heap s.toks (Kp.refl _) t
  refine wpAny_Name ?_ hd
  rcases hk with k | k | k
  · obtain ⟨m, Ns, ag⟩ := N.loc
    exact wpAny_loadName_local N.kind k Ns ((ag x k).trans e) fin
  · obtain ⟨c, hc⟩ := N.has x (.inl k)
    exact wpAny_loadName_cell N.kind k hc (e ▸ N.cel x c (.inl k) hc) fin
  · obtain ⟨c, hc⟩ := N.has x (.inr k)
    exact wpAny_loadName_free N.kind k hc (e ▸ N.cel x c (.inr k) hc) fin hn

theorem ev_global (g : G.Good) {x : Str} {pos : Pos} {d : PyData} (hx : ∃ v, G.mg x = some v ∧ Told (fun _ => False) G.B v d) (hk : env.kindOf x = some .globalImplicit)
    (hd : (x == ("__debug__" : Str)) = false) : EvE G n env Γ O (.Name x pos) d := by
  intro A hA W s S Q h
  obtain ⟨vm, N, _, _⟩ := S.nm
  obtain ⟨v, e, t⟩ := hx
  have hns : s.heap.Ns env.globals G.mg := by rw [N.glob]; exact g.top.g.keeps S.ok.base
  have t' : Told W s.heap v d := (t.weaken fun a w => .inr (S.ok.off a w)).kp S.ok.base
  exact Name_function_global N.kind hk (loadGlobal_global hns e (h v s.heap s.toks (Kp.refl _) t')) hd

theorem nameB (g : G.Good) {A : Around} {W : Ws} {s : Shared} (S : SE G env Γ O W s.heap) {x : Str} {pos : Pos} {v : Value} {Q E : Value → Shared → Prop} (hu : x ∈ usedB) (hv : bootBuiltins x = some v) (hn : x ≠ "__name__")
    (hk : env.kindOf x = some .globalImplicit) (hd : (x == ("__debug__" : Str)) = false) (h : Q v s) : wpAny (MM G) A (eval (.Name x pos) env) Q E s := by
  obtain ⟨vm, N, _, _⟩ := S.nm
  have hns : s.heap.Ns env.globals G.mg := by rw [N.glob]; exact g.top.g.keeps S.ok.base
  have hbs : s.heap.Ns env.builtins G.mb := by rw [N.blt]; exact g.top.b.keeps S.ok.base
  exact Name_function_global N.kind hk (loadGlobal_builtin hns (g.nob x hu) hbs ((g.top.builtins x hn).trans hv) h) hd

-- constants
theorem ev_int {i : Int} {k : Nat} {pos : Pos} : EvE G n env Γ O (.Constant (.int i) k pos) (.int i) := fun _ _ _ s _ _ h =>
  wpAny_Constant_int (h _ s.heap _ (Kp.refl _) (.int _ _))
-- two after one another
theorem ev_bin {l r : Expr} {op : Operator} {pos : Pos} {a b c : PyData} (hl : EvE G n env Γ O l a) (hr : EvE G n env Γ O r b)
    (hop : ∀ A, AIn n A → ∀ (W : Ws) (s : Shared) (x y : Value), Ok G W s.heap → Told W s.heap x a → Told W s.heap y b → ∀ Q : Value → Shared → Prop,
      (∀ v h' tk, Kp s.heap h' → Told W h' v c → Q v { s with heap := h', toks := tk }) → wpAny (MM G) A (binaryOp op x y) Q Ef s) :
    EvE G n env Γ O (.BinOp l op r pos) c := by
  intro A hA W s S Q h
  refine wpAny_BinOp (hl A hA W s S _ fun x h1 t1 k1 T1 => hr A hA W _ (S.kp k1) _ fun y h2 t2 k2 T2 => ?_)
  exact hop A hA W _ x y ((S.ok.kp k1).kp k2) (T1.kp k2) T2 Q fun v h3 t3 k3 T3 => h v h3 t3 ((k1.trans k2).trans k3) T3

theorem ev_add {l r : Expr} {pos : Pos} {a b : Int} (hl : EvE G n env Γ O l (.int a)) (hr : EvE G n env Γ O r (.int b)) : EvE G n env Γ O (.BinOp l .Add r pos) (.int (a + b)) :=
  ev_bin hl hr fun A _ W s x y _ tx ty Q h => by
    cases tx; cases ty
    exact P.add_int (h _ s.heap _ (Kp.refl _) (.int _ _))
theorem ev_sub {l r : Expr} {pos : Pos} {a b : Int} (hl : EvE G n env Γ O l (.int a)) (hr : EvE G n env Γ O r (.int b)) : EvE G n env Γ O (.BinOp l .Sub r pos) (.int (a - b)) :=
  ev_bin hl hr fun A _ W s x y _ tx ty Q h => by
    cases tx; cases ty
    exact P.sub_int (h _ s.heap _ (Kp.refl _) (.int _ _))
theorem ev_mul {l r : Expr} {pos : Pos} {a b : Int} (hl : EvE G n env Γ O l (.int a)) (hr : EvE G n env Γ O r (.int b)) (hm : IntMulOk a b) : EvE G n env Γ O (.BinOp l .Mult r pos) (.int (a * b)) :=
  ev_bin hl hr fun A _ W s x y _ tx ty Q h => by
    cases tx; cases ty
    exact P.mul_int (h _ s.heap _ (Kp.refl _) (.int _ _)) hm
theorem ev_mod {l r : Expr} {pos : Pos} {a b : Int} (hl : EvE G n env Γ O l (.int a)) (hr : EvE G n env Γ O r (.int b)) (hb : b ≠ 0) : EvE G n env Γ O (.BinOp l .Mod r pos) (.int (a.fmod b)) :=
  ev_bin hl hr fun A _ W s x y _ tx ty Q h => by
    cases tx; cases ty
    exact mod_int' hb (h _ s.heap _ (Kp.refl _) (.int _ _))
theorem ev_pow {l r : Expr} {pos : Pos} {a b : Int} (hl : EvE G n env Γ O l (.int a)) (hr : EvE G n env Γ O r (.int b)) (hn : 0 ≤ b) (hsz : (Builtin.Int.intBits a : Int) * b ≤ 2 ^ 27) :
    EvE G n env Γ O (.BinOp l .Pow r pos) (.int (a ^ b.toNat)) :=
  ev_bin hl hr fun A _ W s x y _ tx ty Q h => by
    cases tx; cases ty
    exact pow_int hn hsz (h _ s.heap _ (Kp.refl _) (.int _ _))
theorem pylong_ok (g : G.Good) {A : Around} (hA : AIn n A) {W : Ws} {s : Shared} (ok : Ok G W s.heap) : PylongRoom (MM G) A s := by
  obtain ⟨e, l, hf, h1, h2, h3, h4⟩ := hA.top
  refine PylongRoom.of (g.top.nolimit.keeps ok.base) (by have := hA.room; show A.depth + 100 < 1000; (first | lia | omega)) ?_
  exact SeerAt.of ((g.top.seer g.imp).keeps ok.base) g.tree hf h3 h4 h1 h2
theorem ev_fdiv (g : G.Good) {l r : Expr} {pos : Pos} {a b : Int} (hl : EvE G n env Γ O l (.int a)) (hr : EvE G n env Γ O r (.int b)) (hb : b ≠ 0) : EvE G n env Γ O (.BinOp l .FloorDiv r pos) (.int (a.fdiv b)) :=
  ev_bin hl hr fun A hA W s x y ok tx ty Q h => by
    cases tx; cases ty
    exact floordiv_int hb (h _ s.heap _ (Kp.refl _) (.int _ _)) (.inr (pylong_ok g hA ok))
theorem ev_neg {x : Expr} {pos : Pos} {a : Int} (hx : EvE G n env Γ O x (.int a)) : EvE G n env Γ O (.UnaryOp .USub x pos) (.int (-a)) := by
  intro A hA W s S Q h
  refine wpAny_UnaryOp (hx A hA W s S _ fun v h1 t1 k1 T1 => ?_)
  cases T1
  exact P.neg_int (h _ _ _ k1 (.int _ _))

-- tests
noncomputable def CmpOk (G : GC) (n : Nat) (op : CmpOp) (a b : PyData) (c : Bool) : Prop :=
  ∀ A, AIn n A → ∀ (W : Ws) (s : Shared) (x y : Value), Ok G W s.heap → Told W s.heap x a → Told W s.heap y b → ∀ Q : Value → Shared → Prop,
      (∀ h' tk, Kp s.heap h' → Q (.bool c) { s with heap := h', toks := tk }) → wpAny (MM G) A (compareOp op x y) Q Ef s

theorem te_cmp {l r : Expr} {op : CmpOp} {pos : Pos} {a b : PyData} {c : Bool} (hl : EvE G n env Γ O l a) (hr : EvE G n env Γ O r b) (hop : CmpOk G n op a b c)
    (hm : behindInMarks op r = false) : TeE G n env Γ O (.Compare l [op] [r] pos) c := by
  intro A hA W s S Q h
  refine wpAny_isTrue_Compare1 (hl A hA W s S _ fun x h1 t1 k1 T1 => hr A hA W _ (S.kp k1) _ fun y h2 t2 k2 T2 => ?_) hm
  exact hop A hA W _ x y ((S.ok.kp k1).kp k2) (T1.kp k2) T2 _ fun h3 t3 k3 => wpAny_truthy_bool (h h3 t3 ((k1.trans k2).trans k3))
theorem ev_cmp {l r : Expr} {op : CmpOp} {pos : Pos} {a b : PyData} {c : Bool} (hl : EvE G n env Γ O l a) (hr : EvE G n env Γ O r b) (hop : CmpOk G n op a b c)
    (hm : behindInMarks op r = false) : EvE G n env Γ O (.Compare l [op] [r] pos) (.bool c) := by
  intro A hA W s S Q h
  refine wpAny_Compare1 (hl A hA W s S _ fun x h1 t1 k1 T1 => hr A hA W _ (S.kp k1) _ fun y h2 t2 k2 T2 => ?_) hm
  exact hop A hA W _ x y ((S.ok.kp k1).kp k2) (T1.kp k2) T2 _ fun h3 t3 k3 => h _ h3 t3 ((k1.trans k2).trans k3) (.bool _)

theorem cmp_eq {a b : Int} : CmpOk G n .Eq (.int a) (.int b) (a == b) := fun A _ W s x y _ tx ty Q h => by
  cases tx; cases ty; exact P.eq_int (h s.heap s.toks (Kp.refl _))
theorem cmp_ne {a b : Int} : CmpOk G n .NotEq (.int a) (.int b) (a != b) := fun A _ W s x y _ tx ty Q h => by
  cases tx; cases ty; exact P.ne_int (h s.heap s.toks (Kp.refl _))
theorem cmp_lt {a b : Int} : CmpOk G n .Lt (.int a) (.int b) (decide (a < b)) := fun A _ W s x y _ tx ty Q h => by
  cases tx; cases ty; exact P.lt_int (h s.heap s.toks (Kp.refl _))
theorem cmp_gt {a b : Int} : CmpOk G n .Gt (.int a) (.int b) (decide (a > b)) := fun A _ W s x y _ tx ty Q h => by
  cases tx; cases ty; exact P.gt_int (h s.heap s.toks (Kp.refl _))
theorem cmp_ge {a b : Int} : CmpOk G n .GtE (.int a) (.int b) (decide (a ≥ b)) := fun A _ W s x y _ tx ty Q h => by
  cases tx; cases ty; exact P.ge_int (h s.heap s.toks (Kp.refl _))

theorem te_and {x y : Expr} {pos : Pos} {b c : Bool} (hx : TeE G n env Γ O x b) (hy : b = true → TeE G n env Γ O y c) : TeE G n env Γ O (.BoolOp .And [x, y] pos) (b && c) := by
  intro A hA W s S Q h
  show wpAny _ _ (do
    match BoolOp.And, ← isTrue x env (eval x env) with
    | .And, false => pure false
    | .Or, true => pure true
    | _, _ => (do
      match BoolOp.And, ← isTrue y env (eval y env) with
      | .And, false => pure false
      | .Or, true => pure true
      | _, _ => pure (BoolOp.And == .And) : Sem Bool)) _ _ _
  refine wpAny_bind (hx A hA W s S _ fun h1 t1 k1 => ?_)
  cases b with
  | false => exact wpAny_pure (h h1 t1 k1)
  | true =>
    refine wpAny_bind (hy rfl A hA W _ (S.kp k1) _ fun h2 t2 k2 => ?_)
    have := h h2 t2 (k1.trans k2)
    cases c <;> exact wpAny_pure this
theorem te_or {x y : Expr} {pos : Pos} {b c : Bool} (hx : TeE G n env Γ O x b) (hy : b = false → TeE G n env Γ O y c) : TeE G n env Γ O (.BoolOp .Or [x, y] pos) (b || c) := by
  intro A hA W s S Q h
  show wpAny _ _ (do
    match BoolOp.Or, ← isTrue x env (eval x env) with
    | .And, false => pure false
    | .Or, true => pure true
    | _, _ => (do
      match BoolOp.Or, ← isTrue y env (eval y env) with
      | .And, false => pure false
      | .Or, true => pure true
      | _, _ => pure (BoolOp.Or == .And) : Sem Bool)) _ _ _
  refine wpAny_bind (hx A hA W s S _ fun h1 t1 k1 => ?_)
  cases b with
  | true => exact wpAny_pure (h h1 t1 k1)
  | false =>
    refine wpAny_bind (hy rfl A hA W _ (S.kp k1) _ fun h2 t2 k2 => ?_)
    have := h h2 t2 (k1.trans k2)
    cases c <;> exact wpAny_pure this
theorem ev_and {x y : Expr} {pos : Pos} {b c : Bool} (hx : EvE G n env Γ O x (.bool b)) (hy : b = true → EvE G n env Γ O y (.bool c)) : EvE G n env Γ O (.BoolOp .And [x, y] pos) (.bool (b && c)) := by
  intro A hA W s S Q h
  refine wpAny_And2 (hx A hA W s S _ fun v h1 t1 k1 T1 => ?_)
  cases T1
  refine wpAny_truthy_bool ?_
  cases b with
  | false => exact h _ h1 t1 k1 (.bool _)
  | true => exact hy rfl A hA W _ (S.kp k1) _ fun u h2 t2 k2 T2 => h u h2 t2 (k1.trans k2) T2
theorem ev_if {t b o : Expr} {pos : Pos} {c : Bool} {d : PyData} (ht : TeE G n env Γ O t c) (hb : c = true → EvE G n env Γ O b d) (ho : c = false → EvE G n env Γ O o d) : EvE G n env Γ O (.IfExp t b o pos) d := by
  intro A hA W s S Q h
  refine wpAny_IfExp (ht A hA W s S _ fun h1 t1 k1 => ?_)
  cases c with
  | true => exact hb rfl A hA W _ (S.kp k1) _ fun u h2 t2 k2 T2 => h u h2 t2 (k1.trans k2) T2
  | false => exact ho rfl A hA W _ (S.kp k1) _ fun u h2 t2 k2 T2 => h u h2 t2 (k1.trans k2) T2

-- displays
theorem evl_nil : EvL G n env Γ O [] [] := fun _ _ _ _ s _ _ h => spliced_nil (h [] s.heap s.toks (Kp.refl _) .nil)
theorem evl_cons {e : Expr} {es : List Expr} {d : PyData} {ds : List PyData} (he : EvE G n env Γ O e d) (hes : EvL G n env Γ O es ds)
    (hs : starEach (e :: es) env = (false, eval e env) :: starEach es env) : EvL G n env Γ O (e :: es) (d :: ds) := by
  intro pos A hA W s S Q h
  refine args_cons (he A hA W s S _ fun v h1 t1 k1 T1 => hes pos A hA W _ (S.kp k1) _ fun vs h2 t2 k2 T2 => ?_) hs
  exact h (v :: vs) h2 t2 (k1.trans k2) (.cons (T1.kp k2) T2)

theorem told_new_list {W : Ws} {h : Heap} (ok : Ok G W h) {vs : List Value} {ds : List PyData} (t : ToldAll W h vs ds) :
    Told W (h.push { cls := .type "list", data := .seq vs.toArray }) (.ref h.objs.size) (.list ds) :=
  .list ok.fresh ⟨_, Heap.get?_push_size _ rfl, rfl, _, rfl⟩ (t.kp (Kp.push _ _))
theorem told_new_tuple {W : Ws} {h : Heap} (ok : Ok G W h) {vs : List Value} {ds : List PyData} (t : ToldAll W h vs ds) :
    Told W (h.push { cls := .type "tuple", data := .seq vs.toArray }) (.ref h.objs.size) (.tuple ds) :=
  .tuple ok.fresh ⟨_, Heap.get?_push_size _ rfl, rfl, _, rfl⟩ (t.kp (Kp.push _ _))

theorem ev_list {es : List Expr} {pos : Pos} {ds : List PyData} (hes : EvL G n env Γ O es ds) (hsz : ds.length ≤ sizeLine) : EvE G n env Γ O (.List es pos) (.list ds) := by
  intro A hA W s S Q h
  refine wpAny_List_spliced (hes pos A hA W s S _ fun vs h1 t1 k1 T1 => ⟨by rw [T1.length]; exact hsz, ?_⟩)
  exact h _ _ _ (k1.trans (Kp.push _ _)) (told_new_list (S.ok.kp k1) T1)
theorem ev_tuple {es : List Expr} {k : Nat} {pos : Pos} {ds : List PyData} (hes : EvL G n env Γ O es ds) (hsz : ds.length ≤ sizeLine) : EvE G n env Γ O (.Tuple es k pos) (.tuple ds) := by
  intro A hA W s S Q h
  refine wpAny_Tuple_spliced (hes pos A hA W s S _ fun vs h1 t1 k1 T1 => ⟨by rw [T1.length]; exact hsz, ?_⟩)
  exact h _ _ _ (k1.trans (Kp.push _ _)) (told_new_tuple (S.ok.kp k1) T1)
end
end Fco

-- FcC
namespace Fco

/-- a call of a def of the text: on told arguments it gives the told answer, all objects stay -/
noncomputable def CallOk (G : GC) (n : Nat) (f : Str) (args : List PyData) (d : PyData) : Prop :=
  ∃ a o fd, G.mg f = some (.ref a) ∧ G.B.get? a = some o ∧ o.data = .func fd ∧ ∀ A, AOk n A → ∀ W s vs, Ok G W s.heap → ToldAll W s.heap vs args → ∀ Q : Value → Shared → Prop,
    (∀ v h' tk, Kp s.heap h' → Told W h' v d → Q v { s with heap := h', toks := tk }) → wpAny (MM G) A (call (.ref a) vs) Q Ef s

section
variable {G : GC} {n : Nat} {env : Env} {Γ : Gam} {O : Own}

theorem ev_call (g : G.Good) {m : Nat} {f : Str} {fp pos : Pos} {e : Expr} {es : List Expr} {args : List PyData} {d : PyData} (c : CallOk G m f args d) (hm : m ≤ n) (hk : env.kindOf f = some .globalImplicit)
    (hd : (f == ("__debug__" : Str)) = false) (ha : EvL G n env Γ O (e :: es) args) (he : starEach (e :: es) env = (false, eval e env) :: starEach es env) :
    EvE G n env Γ O (.Call (.Name f fp) (e :: es) [] pos) d := by
  intro A hA W s S Q h
  obtain ⟨a, o, fd, hmg, ho, hdat, c⟩ := c
  obtain ⟨vm, N, _, _⟩ := S.nm
  have hns : s.heap.Ns env.globals G.mg := by rw [N.glob]; exact g.top.g.keeps S.ok.base
  refine Call_ (Name_function_global N.kind hk (loadGlobal_global hns hmg ?_) hd)
  refine callWith_def hdat (ha pos A hA W s S _ fun vs h1 t1 k1 T1 => ⟨k1 _ _ (S.ok.base _ _ ho), ?_⟩) he
  exact c A (hA.toAOk.mono hm) W _ vs (S.ok.kp k1) T1 Q fun v h2 t2 k2 T2 => h v h2 t2 (k1.trans k2) T2

-- built-in functions
theorem ev_fn (g : G.Good) {x : Str} {fp pos : Pos} {id : String} {e : Expr} {es : List Expr} {args : List PyData} {d : PyData} (hu : x ∈ usedB) (hv : bootBuiltins x = some (.builtin id)) (hn : x ≠ "__name__")
    (hk : env.kindOf x = some .globalImplicit) (hd : (x == ("__debug__" : Str)) = false) (ha : EvL G n env Γ O (e :: es) args)
    (he : starEach (e :: es) env = (false, eval e env) :: starEach es env) (hp : ∀ pos, (backTo pos (starEach es env)).any (·.1) = false)
    (c : ∀ A, AIn n A → ∀ W s vs, Ok G W s.heap → ToldAll W s.heap vs args → ∀ Q : Value → Shared → Prop,
      (∀ v h' tk, Kp s.heap h' → Told W h' v d → Q v { s with heap := h', toks := tk }) → wpAny (MM G) A (call (.builtin id) vs) Q Ef s) :
    EvE G n env Γ O (.Call (.Name x fp) (e :: es) [] pos) d := by
  intro A hA W s S Q h
  refine Call_ (nameB g S hu hv hn hk hd ?_)
  refine callWith_builtin1 (ha pos A hA W s S _ fun vs h1 t1 k1 T1 => ?_) he (hp _)
  exact c A hA W _ vs (S.ok.kp k1) T1 Q fun v h2 t2 k2 T2 => h v h2 t2 (k1.trans k2) T2
theorem ev_ty (g : G.Good) {x : Str} {fp pos : Pos} {T : String} {e : Expr} {es : List Expr} {args : List PyData} {d : PyData} (hu : x ∈ usedB) (hv : bootBuiltins x = some (.type T)) (hn : x ≠ "__name__")
    (hk : env.kindOf x = some .globalImplicit) (hd : (x == ("__debug__" : Str)) = false) (ha : EvL G n env Γ O (e :: es) args)
    (he : starEach (e :: es) env = (false, eval e env) :: starEach es env) (hp : ∀ pos, (backTo pos (starEach es env)).any (·.1) = false)
    (c : ∀ A, AIn n A → ∀ W s vs, Ok G W s.heap → ToldAll W s.heap vs args → ∀ Q : Value → Shared → Prop,
      (∀ v h' tk, Kp s.heap h' → Told W h' v d → Q v { s with heap := h', toks := tk }) → wpAny (MM G) A (call (.type T) vs) Q Ef s) :
    EvE G n env Γ O (.Call (.Name x fp) (e :: es) [] pos) d := by
  intro A hA W s S Q h
  refine Call_ (nameB g S hu hv hn hk hd ?_)
  refine callWith_type1 (ha pos A hA W s S _ fun vs h1 t1 k1 T1 => ?_) he (hp _)
  exact c A hA W _ vs (S.ok.kp k1) T1 Q fun v h2 t2 k2 T2 => h v h2 t2 (k1.trans k2) T2

theorem boot_len : bootBuiltins "len" = some (.builtin "len") := by decide +kernel
theorem boot_abs : bootBuiltins "abs" = some (.builtin "abs") := by decide +kernel
theorem boot_max : bootBuiltins "max" = some (.builtin "max") := by decide +kernel
theorem boot_sum : bootBuiltins "sum" = some (.builtin "sum") := by decide +kernel
theorem boot_list : bootBuiltins "list" = some (.type "list") := by decide +kernel
theorem boot_int : bootBuiltins "int" = some (.type "int") := by decide +kernel
theorem boot_enum : bootBuiltins "enumerate" = some (.type "enumerate") := by decide +kernel

theorem size_arr {W : Ws} {h : Heap} {vs : List Value} {ds : List PyData} (t : ToldAll W h vs ds) : vs.toArray.size = ds.length := by simp [t.length]

theorem c_len {ds : List PyData} (hsz : ds.length ≤ sizeLine) {c : PyData} (hc : c = .list ds ∨ c = .tuple ds) : ∀ A, AIn n A → ∀ W s vs, Ok G W s.heap → ToldAll W s.heap vs [c] → ∀ Q : Value → Shared → Prop,
      (∀ v h' tk, Kp s.heap h' → Told W h' v (.int ds.length) → Q v { s with heap := h', toks := tk }) → wpAny (MM G) A (call (.builtin "len") vs) Q Ef s := by
  intro A hA W s vs ok T Q h
  cases T with
  | cons t r =>
    cases r
    have hlt : (ds.length : Int) < 2 ^ 63 := by have := hsz; unfold sizeLine at this; (first | lia | omega)
    rcases hc with rfl | rfl
    · cases t with
      | list n l q => exact len_list l (by rw [size_arr q]; exact hlt) (by rw [size_arr q]; exact h _ s.heap _ (Kp.refl _) (.int _ _))
    · cases t with
      | tuple n l q => exact PyProof.Rows.len_tuple l (by rw [size_arr q]; exact hlt) (by rw [size_arr q]; exact h _ s.heap _ (Kp.refl _) (.int _ _))
theorem c_abs {i : Int} : ∀ A, AIn n A → ∀ W s vs, Ok G W s.heap → ToldAll W s.heap vs [.int i] → ∀ Q : Value → Shared → Prop,
      (∀ v h' tk, Kp s.heap h' → Told W h' v (.int i.natAbs) → Q v { s with heap := h', toks := tk }) → wpAny (MM G) A (call (.builtin "abs") vs) Q Ef s := by
  intro A hA W s vs ok T Q h
  cases T with
  | cons t r =>
    cases r; cases t
    refine call_abs_int fun u tk => ?_
    have e : (if i < 0 then -i else i) = (i.natAbs : Int) := by split <;> (first | lia | omega)
    rw [e]; exact h _ s.heap _ (Kp.refl _) (.int _ _)
theorem c_max {i j : Int} : ∀ A, AIn n A → ∀ W s vs, Ok G W s.heap → ToldAll W s.heap vs [.int i, .int j] → ∀ Q : Value → Shared → Prop,
      (∀ v h' tk, Kp s.heap h' → Told W h' v (.int (max i j)) → Q v { s with heap := h', toks := tk }) → wpAny (MM G) A (call (.builtin "max") vs) Q Ef s := by
  intro A hA W s vs ok T Q h
  cases T with
  | cons t r =>
    cases t
    cases r with
    | cons t r =>
      cases r; cases t
      refine max_two_ints hA.hh fun h' tk k => ?_
      by_cases c : j > i
      · rw [if_pos c]; rw [show max i j = j by (first | lia | omega)] at h; exact h _ h' tk k (.int _ _)
      · rw [if_neg c]; rw [show max i j = i by (first | lia | omega)] at h; exact h _ h' tk k (.int _ _)
theorem c_listcopy {ds : List PyData} (hsz : ds.length ≤ sizeLine) {c : PyData} (hc : c = .list ds ∨ c = .tuple ds) : ∀ A, AIn n A → ∀ W s vs, Ok G W s.heap → ToldAll W s.heap vs [c] → ∀ Q : Value → Shared → Prop,
      (∀ v h' tk, Kp s.heap h' → Told W h' v (.list ds) → Q v { s with heap := h', toks := tk }) → wpAny (MM G) A (call (.type "list") vs) Q Ef s := by
  intro A hA W s vs ok T Q h
  cases T with
  | cons t r =>
    cases r
    rcases hc with rfl | rfl
    · cases t with
      | list nw l q =>
        obtain ⟨o, ho, hc, n, hd⟩ := l
        exact call_list_seq _ (.inl rfl) ho hc hd (fun h' c' k e => h _ h' _ k (.list ok.fresh ⟨_, e, rfl, _, rfl⟩ (q.kp k))) (by rw [size_arr q]; exact hsz)
    · cases t with
      | tuple nw l q =>
        obtain ⟨o, ho, hc, n, hd⟩ := l
        exact call_list_seq _ (.inr rfl) ho hc hd (fun h' c' k e => h _ h' _ k (.list ok.fresh ⟨_, e, rfl, _, rfl⟩ (q.kp k))) (by rw [size_arr q]; exact hsz)
theorem c_int {i : Int} : ∀ A, AIn n A → ∀ W s vs, Ok G W s.heap → ToldAll W s.heap vs [.int i] → ∀ Q : Value → Shared → Prop,
      (∀ v h' tk, Kp s.heap h' → Told W h' v (.int i) → Q v { s with heap := h', toks := tk }) → wpAny (MM G) A (call (.type "int") vs) Q Ef s := by
  intro A hA W s vs ok T Q h
  cases T with
  | cons t r =>
    cases r; cases t
    exact call_int_int (h _ s.heap _ (Kp.refl _) (.int _ _))
theorem told_ints {W : Ws} {h : Heap} : ∀ {vs : List Value} {ns : List Int}, ToldAll W h vs (ns.map .int) → ∃ xs : List (Int × Tok), vs = xs.map (fun p => .int p.1 p.2) ∧ xs.map (·.1) = ns
  | _, [], t => by cases t; exact ⟨[], rfl, rfl⟩
  | _, n :: ns, t => by
    cases t with
    | cons t r =>
      cases t with
      | int _ tk =>
        obtain ⟨xs, rfl, rfl⟩ := told_ints r
        exact ⟨(n, tk) :: xs, rfl, rfl⟩
theorem preSum_numAt (xs : List (Int × Tok)) : preSum (numAt xs.toArray) xs.length = (xs.map (·.1)).sum := by
  have e := preSum_eq xs.toArray xs.length
  rw [e, List.take_of_length_le (by simp)]
theorem c_sum {ns : List Int} : ∀ A, AIn n A → ∀ W s vs, Ok G W s.heap → ToldAll W s.heap vs [.list (ns.map .int)] → ∀ Q : Value → Shared → Prop,
      (∀ v h' tk, Kp s.heap h' → Told W h' v (.int ns.sum) → Q v { s with heap := h', toks := tk }) → wpAny (MM G) A (call (.builtin "sum") vs) Q Ef s := by
  intro A hA W s vs ok T Q h
  cases T with
  | cons t r =>
    cases r
    cases t with
    | list nw l q =>
      obtain ⟨xs, rfl, rfl⟩ := told_ints q
      rename_i a
      have l' : s.heap.IsList a (intItems xs.toArray) := by
        have e : intItems xs.toArray = (xs.map fun p => Value.int p.1 p.2).toArray := by simp [intItems]
        rw [e]; exact l
      refine sum_intListG hA.hh l' fun h' tk t' k => ?_
      have e : preSum (numAt xs.toArray) xs.toArray.size = (xs.map (·.1)).sum := by simpa using preSum_numAt xs
      rw [e]; exact h _ h' tk k (.int _ _)

-- items
theorem sub_tail {value slice : Expr} {A : Around} {s : Shared} {o i : Value} {T id : String} {ops : List Value} {Q E : Value → Shared → Prop} (hT : s.TypeIs o T)
    (hl : typeLookup (.type T) "__getitem__" = pure (some (.builtin id))) (hg : wpAny (MM G) A (getItem o i) Q E s)
    (hs : subscripted slice false o i = operate ops (getItem o i)) : wpAny (MM G) A (subscriptTail value slice o i) Q E s := tail_any hT hl hg hs

/-- Python's index -/
noncomputable def pyIdx (k : Int) (n : Nat) : Option Nat := if 0 ≤ k then (if k < n then some k.toNat else none) else (if -(n : Int) ≤ k then some (k + n).toNat else none)

theorem ev_item {value slice : Expr} {pos : Pos} {ds : List PyData} {k : Int} {j : Nat} {d c : PyData} (hc : c = .list ds ∨ c = .tuple ds) (hv : EvE G n env Γ O value c) (hi : EvE G n env Γ O slice (.int k))
    (hsz : ds.length ≤ sizeLine) (hj : pyIdx k ds.length = some j) (hd : ds[j]? = some d) (hs : ∀ o i : Value, ∃ ops, subscripted slice false o i = operate ops (getItem o i)) :
    EvE G n env Γ O (.Subscript value slice pos) d := by
  intro A hA W s S Q h
  refine Subscript_ (hv A hA W s S _ fun v h1 t1 k1 T1 => hi A hA W _ (S.kp k1) _ fun i h2 t2 k2 T2 => ?_)
  have T1' := T1.kp k2
  cases T2
  obtain ⟨ops, hs⟩ := hs v (.int k ‹_›)
  have hfit : (ds.length : Int) ≤ 2 ^ 24 := by have := hsz; unfold sizeLine at this; (first | lia | omega)
  have fin : ∀ x, Told W h2 x d → Q x { s with heap := h2, toks := t2 } := fun x tx => h x h2 t2 (k1.trans k2) tx
  unfold pyIdx at hj
  rcases hc with rfl | rfl
  · cases T1' with
    | list nw l q =>
      obtain ⟨x, hx, tx⟩ := q.get hd
      have hsz' := size_arr q
      refine sub_tail l.typeIs slot_list_getitem.lookup ?_ hs
      by_cases h0 : 0 ≤ k
      · rw [if_pos h0] at hj
        split at hj
        · cases hj
          exact wpAny_getItem_list l h0 (by (first | lia | omega)) (by simpa using hx) (fin x tx)
        · cases hj
      · rw [if_neg h0] at hj
        split at hj
        · cases hj
          exact wpAny_getItem_list_neg l (by (first | lia | omega)) (by rw [hsz']; assumption) (by (first | lia | omega)) (by rw [hsz']; simpa using hx) (fin x tx)
        · cases hj
  · cases T1' with
    | tuple nw l q =>
      obtain ⟨x, hx, tx⟩ := q.get hd
      have hsz' := size_arr q
      refine sub_tail l.typeIs slot_tuple_getitem.lookup ?_ hs
      have hb : -(ds.length : Int) ≤ k ∧ k < ds.length := by
        split at hj
        · split at hj
          · (first | lia | omega)
          · cases hj
        · split at hj
          · (first | lia | omega)
          · cases hj
      refine PyProof.Rows.getItem_tuple (j := j) l (by (first | lia | omega)) (by (first | lia | omega)) ?_ (by simpa using hx) (fin x tx)
      rw [hsz']
      unfold seqIndex?
      by_cases h0 : 0 ≤ k
      · rw [if_pos h0] at hj
        split at hj
        · cases hj
          simp only [show ¬ k < 0 by (first | lia | omega), if_false]
          simp; (first | lia | omega)
        · cases hj
      · rw [if_neg h0] at hj
        split at hj
        · cases hj
          simp only [show k < 0 by (first | lia | omega), if_true]
          simp; (first | lia | omega)
        · cases hj

-- an own list's item
theorem ev_itemO {x : Str} {xp pos : Pos} {slice : Expr} {pl : Bool} {ds : List PyData} {k : Int} {j : Nat} {d : PyData} (hx : O.lookup x = some (pl, ds)) (hk : env.kindOf x = some .local) (hb : (x == ("__debug__" : Str)) = false) (hi : EvE G n env Γ O slice (.int k))
    (hsz : ds.length ≤ sizeLine) (hj : pyIdx k ds.length = some j) (hd : ds[j]? = some d) (hs : ∀ o i : Value, ∃ ops, subscripted slice false o i = operate ops (getItem o i)) :
    EvE G n env Γ O (.Subscript (.Name x xp) slice pos) d := by
  intro A hA W s S Q h
  obtain ⟨vm, N, _, c⟩ := S.nm
  obtain ⟨a, vs, e, ⟨l, _⟩, q⟩ := c x pl ds hx
  obtain ⟨m, Ns, ag⟩ := N.loc
  refine Subscript_ (wpAny_Name (wpAny_loadName_local N.kind hk Ns ((ag x hk).trans e) (hi A hA W s S _ fun i h2 t2 k2 T2 => ?_)) hb)
  cases T2
  obtain ⟨ops, hs⟩ := hs (.ref a) (.int k ‹_›)
  have hfit : (ds.length : Int) ≤ 2 ^ 24 := by have := hsz; unfold sizeLine at this; (first | lia | omega)
  have l := isList_of l fun o => k2 _ o
  have q := q.kp k2
  obtain ⟨x, hx, tx⟩ := q.get hd
  have fin : Q x { s with heap := h2, toks := t2 } := h x h2 t2 k2 tx
  have hsz' := size_arr q
  refine sub_tail l.typeIs slot_list_getitem.lookup ?_ hs
  unfold pyIdx at hj
  by_cases h0 : 0 ≤ k
  · rw [if_pos h0] at hj
    split at hj
    · cases hj
      exact wpAny_getItem_list l h0 (by (first | lia | omega)) (by simpa using hx) fin
    · cases hj
  · rw [if_neg h0] at hj
    split at hj
    · cases hj
      exact wpAny_getItem_list_neg l (by (first | lia | omega)) (by rw [hsz']; assumption) (by (first | lia | omega)) (by rw [hsz']; simpa using hx) fin
    · cases hj

-- slices
/-- a slice's part: left out, or an int -/
noncomputable def EvP (G : GC) (n : Nat) (env : Env) (Γ : Gam) (O : Own) (o : Option Expr) (k : Option Int) : Prop :=
  ∀ A, AIn n A → ∀ W s, SE G env Γ O W s.heap → ∀ Q : Value → Shared → Prop,
    (∀ v h' tk, Kp s.heap h' → IsPart v k → Q v { s with heap := h', toks := tk }) → wpAny (MM G) A (valueOrNone (evalOpt o env)) Q Ef s
theorem evp_none : EvP G n env Γ O none none := fun _ _ _ s _ _ h => wpAny_pure (h _ s.heap s.toks (Kp.refl _) .none)
theorem evp_some {e : Expr} {i : Int} (he : EvE G n env Γ O e (.int i)) : EvP G n env Γ O (some e) (some i) := fun A hA W s S Q h => by
  show wpAny _ _ (eval e env) _ _ _
  refine he A hA W s S _ fun v h1 t1 k1 T1 => ?_
  cases T1
  exact h _ h1 t1 k1 (.int _ _)

noncomputable def dPick (ds : List PyData) (lo hi st : Option Int) : List PyData :=
  (sliceRange (sliceBounds lo hi st ds.length).1 (sliceBounds lo hi st ds.length).2.1 (sliceBounds lo hi st ds.length).2.2).filterMap (ds[·]?)
theorem told_pick {W : Ws} {h : Heap} {vs : List Value} {ds : List PyData} (t : ToldAll W h vs ds) (lo hi st : Option Int) : ToldAll W h (slicePick vs.toArray lo hi st).toList (dPick ds lo hi st) := by
  unfold slicePick dPick
  rw [size_arr t]
  simp only
  generalize sliceRange _ _ _ = is
  induction is with
  | nil => exact .nil
  | cons i is ih =>
    cases e : ds[i]? with
    | none =>
      have e' : vs.toArray[i]? = none := by
        have := t.length
        simp at e ⊢; (first | lia | omega)
      simp only [List.filterMap_cons, e, e']; exact ih
    | some d =>
      obtain ⟨v, hv, tv⟩ := t.get e
      have hv' : vs.toArray[i]? = some v := by simpa using hv
      simp only [List.filterMap_cons, e, hv']; exact .cons tv ih

theorem ev_slice {value : Expr} {lo hi st : Option Expr} {sp pos : Pos} {ds : List PyData} {l u k : Option Int} (hv : EvE G n env Γ O value (.list ds)) (hl : EvP G n env Γ O lo l) (hu : EvP G n env Γ O hi u) (hk : EvP G n env Γ O st k)
    (hsz : ds.length ≤ sizeLine) (h0 : k ≠ some 0) : EvE G n env Γ O (.Subscript value (.Slice lo hi st sp) pos) (.list (dPick ds l u k)) := by
  intro A hA W s S Q h
  refine Subscript_ (hv A hA W s S _ fun v h1 t1 k1 T1 => ?_)
  show wpAny _ _ (do
    let l ← valueOrNone (evalOpt lo env)
    let u ← holding [l] (valueOrNone (evalOpt hi env))
    let s ← holding [l, u] (valueOrNone (evalOpt st env))
    newFields "slice" [l, u, s]) _ _ _
  refine wpAny_bind (hl A hA W _ (S.kp k1) _ fun lv h2 t2 k2 P2 => wpAny_bind (wpAny_holding (hu A hA W _ ((S.kp k1).kp k2) _ fun uv h3 t3 k3 P3 => wpAny_bind (wpAny_holding (hk A hA W _ (((S.kp k1).kp k2).kp k3) _ fun kv h4 t4 k4 P4 => ?_)))))
  refine wpAny_newObj_type ?_ (by show 3 ≤ sizeLine + 2; decide)
  have T4 := ((T1.kp k2).kp k3).kp k4
  have K := ((k1.trans k2).trans k3).trans k4
  have ok4 := S.ok.kp K
  cases T4 with
  | list nw lst q =>
    have up := Kp.push h4 { cls := .type "slice", dict := none, data := .fields [lv, uv, kv].toArray }
    have fin : wpAny (MM G) A (getItem (.ref _) (.ref h4.objs.size)) Q Ef { s with heap := h4.push { cls := .type "slice", dict := none, data := .fields [lv, uv, kv].toArray }, toks := t4 } :=
      wpAny_getItem_list_slice (isList_of lst fun o => up _ o) (Heap.IsSliceOf.new ..) P2 P3 P4 h0
        (h _ _ _ ((K.trans up).trans (Kp.push _ _)) (.list (ok4.kp up).fresh ⟨_, Heap.get?_push_size _ rfl, rfl, 0, by rw [Array.toArray_toList]⟩ (((told_pick q l u k).kp up).kp (Kp.push _ _))))
        (by rw [size_arr q]; exact hsz)
    cases st with
    | none => exact sub_tail (ops := [.ref h4.objs.size, _]) (Heap.IsList.typeIs (s := { s with heap := h4.push _, toks := t4 }) (isList_of lst fun o => up _ o)) slot_list_getitem.lookup fin rfl
    | some ste => exact sub_tail (ops := [_, .ref h4.objs.size]) (Heap.IsList.typeIs (s := { s with heap := h4.push _, toks := t4 }) (isList_of lst fun o => up _ o)) slot_list_getitem.lookup fin rfl

-- lists put together
theorem ev_cat {l r : Expr} {pos : Pos} {ds es : List PyData} (hl : EvE G n env Γ O l (.list ds)) (hr : EvE G n env Γ O r (.list es)) (hsz : ds.length + es.length ≤ sizeLine) : EvE G n env Γ O (.BinOp l .Add r pos) (.list (ds ++ es)) :=
  ev_bin hl hr fun A _ W s x y ok tx ty Q h => by
    cases tx with
    | list nw lx qx =>
      cases ty with
      | list nw' ly qy =>
        obtain ⟨⟨cls, dd, data, sl⟩, ho, hc, n, hd⟩ := id lx
        obtain ⟨⟨cls2, dd2, data2, sl2⟩, ho2, hc2, n2, hd2⟩ := id ly
        simp only at hc hd hc2 hd2
        subst hc hd hc2 hd2
        refine concat_meets ⟨_, ho, rfl⟩ ⟨_, ho2, rfl⟩ noFill_list_add seq_list_add PySem.F.slot_list_add PySem.F.entry_list_add (PySem.F.args_list_add_2 _ _)
          (list_addW _ _ _ _ n n2 dd dd2 sl sl2 (by rw [size_arr qx, size_arr qy]; exact hsz)) ⟨ho, ho2, ?_⟩
        refine h _ _ _ (Kp.push _ _) (.list ok.fresh ⟨_, Heap.get?_push_size _ rfl, rfl, 0, ?_⟩ ((qx.append qy).kp (Kp.push _ _)))
        simp

theorem foldl_rep (vs : List Value) : ∀ (k : Nat) (acc : Array Value), List.foldl (fun x1 x2 => x1 ++ x2) acc (List.replicate k vs.toArray) = acc ++ (List.flatten (List.replicate k vs)).toArray
  | 0, acc => by simp
  | k + 1, acc => by rw [List.replicate_succ, List.foldl_cons, foldl_rep vs k]; simp [List.replicate_succ]
/-- [e] * k -/
theorem ev_rep {e r : Expr} {lp pos : Pos} {d : PyData} {k : Int} (he : EvE G n env Γ O e d) (hr : EvE G n env Γ O r (.int k)) (hs : starEach [e] env = [(false, eval e env)]) (hk : k ≤ 2 ^ 24) (hk' : -(2 ^ 63 : Int) ≤ k) :
    EvE G n env Γ O (.BinOp (.List [e] lp) .Mult r pos) (.list (List.replicate k.toNat d)) := by
  intro A hA W s S Q h
  refine wpAny_BinOp (wpAny_List_spliced (args_cons (rest := []) (he A hA W s S _ fun v h1 t1 k1 T1 => args_nil ⟨by show 1 ≤ sizeLine; decide, ?_⟩) (by rw [hs]; rfl)))
  have up := Kp.push h1 { cls := .type "list", data := .seq [v].toArray }
  refine hr A hA W _ (S.kp (k1.trans up)) _ fun kv h2 t2 k2 T2 => ?_
  obtain ⟨tk0, rfl⟩ : ∃ tk0, kv = .int k tk0 := by cases T2; exact ⟨_, rfl⟩
  clear T2
  have hl : h2.get? h1.objs.size = some { cls := .type "list", dict := none, data := .seq [v].toArray 0, slots := #[] } := k2 _ _ (Heap.get?_push_size _ rfl)
  have ok2 := S.ok.kp ((k1.trans up).trans k2)
  have T2 : Told W h2 v d := (T1.kp up).kp k2
  have hz : ([v].toArray.size * k.toNat : Nat) ≤ 2 ^ 24 := by
    have e : [v].toArray.size = 1 := rfl
    rw [e]; (first | lia | omega)
  have hz1 : ¬ ([v].toArray.size * k.toNat : Nat) > (2 ^ 63 - 1) / 8 := by
    have : (2 ^ 63 - 1) / 8 = 1152921504606846975 := by decide
    rw [this]; (first | lia | omega)
  have hz2 : ¬ (!Builtin.List.listFitsIndex k) = true := by
    simp [Builtin.List.listFitsIndex]; (first | lia | omega)
  have hz3 : ¬ Builtin.List.listTooLong ([v].toArray.size * k.toNat) = true := by
    simp [Builtin.List.listTooLong, sizeLine] at hz ⊢; (first | lia | omega)
  refine wpAny_binaryOp_repeat_ref (T := "list") (U := "int") (by decide) ⟨_, hl, rfl⟩ (fun s' => typeIs_int s' k tk0) noFill_list_mul PySem.F.fills_int_mul PySem.F.slot_int_rmul repeat_list PySem.F.slot_int_index.lookup
    (call_meets PySem.F.slot_int_rmul (typeIs_int _ k tk0) PySem.F.entry_int_rmul (PySem.F.args_int_rmul_2 _ _) (int___rmul___int_list k tk0 h1.objs.size [v].toArray 0)
      ⟨hl, rfl, ⟨_, hl, rfl⟩, call_meets PySem.F.slot_list_mul ⟨_, hl, rfl⟩ PySem.F.entry_list_mul (PySem.F.args_list_mul_2 _ _)
        (AutoListH.list___mul___list_int_3 h1.objs.size [v].toArray 0 k tk0 hz2 hz1 hz3)
        ⟨hl, ?_⟩⟩)
  refine h _ _ _ (((k1.trans up).trans k2).trans (Kp.push _ _)) (.list (vs := List.replicate k.toNat v) ok2.fresh ⟨_, Heap.get?_push_size _ rfl, rfl, 0, ?_⟩ ((ToldAll.replicate T2 _).kp (Kp.push _ _)))
  have e1 : ([v].toArray.isEmpty = true) = False := by simp
  simp only [e1, if_false]
  rw [foldl_rep [v] k.toNat #[]]
  simp

-- data compared
theorem cmp_data_eq {a b : PyData} (ha : SeqAt.shaped a = true) (hb : SeqAt.shaped b = true) : CmpOk G n .Eq a b (PyData.eqv a b) := fun A hA W s x y _ tx ty Q h => by
  obtain ⟨as, ra⟩ := tx.reads
  obtain ⟨bs, rb⟩ := ty.reads
  exact eq_dataH ra rb ha hb (by have := hA.units; show A.units + 64 < 9900; (first | lia | omega)) (h s.heap s.toks (Kp.refl _))
theorem cmp_data_ne {a b : PyData} (ha : SeqAt.shaped a = true) (hb : SeqAt.shaped b = true) : CmpOk G n .NotEq a b (!PyData.eqv a b) := fun A hA W s x y _ tx ty Q h => by
  obtain ⟨as, ra⟩ := tx.reads
  obtain ⟨bs, rb⟩ := ty.reads
  exact ne_dataH ra rb ha hb (by have := hA.units; show A.units + 64 < 9900; (first | lia | omega)) (h s.heap s.toks (Kp.refl _))
theorem cmp_bool_eq {a b : Bool} : CmpOk G n .Eq (.bool a) (.bool b) (a == b) := fun A hA W s x y _ tx ty Q h => by
  cases tx; cases ty; exact PyProof.Rows.eq_bool (h s.heap s.toks (Kp.refl _))
theorem cmp_data_in {a : PyData} {xs : List PyData} (hx : PyData.canLayAll0 xs = true) (ha : SeqAt.shaped a = true) : CmpOk G n .In a (.list xs) (xs.any fun y => PyData.eqv y a) := fun A hA W s x y _ tx ty Q h => by
  obtain ⟨as, ra⟩ := tx.reads
  obtain ⟨bs, rb⟩ := ty.reads
  refine SeqAt.in_list_reads rb ra hx (SeqAt.canLay_of_shaped ha) ?_ (h s.heap s.toks (Kp.refl _))
  have h1 := SeqAt.depth_of_shaped ha
  have h2 := Nat.min_le_right (PyData.depthAll xs) a.depth
  have := hA.units
  show A.units + 1 + min _ _ < 9900
  (first | lia | omega)
end
end Fco

-- FcD
namespace Fco

structure ScOk (sc : Scope) : Prop where
  kind : sc.kind = .function
  gen : sc.isGenerator = false
  co : sc.isCoroutine = false
  nofree : ∀ p ∈ sc.names, p.2 ≠ .free
  cells : ∀ p ∈ sc.names, p.2 = .cell → sc.names.lookup p.1 = some .cell

theorem cellsFrom_mem {x : Str} {c : Addr} : ∀ (names : List (Str × NameKind)) (n : Nat) (acc : List (Str × Addr)), (x, c) ∈ cellsFrom n names acc → (x, .cell) ∈ names ∨ (x, c) ∈ acc
  | [], _, _, h => .inr h
  | (y, k) :: r, n, acc, h => by
    unfold cellsFrom at h
    split at h
    · rename_i hk
      have hk : k = .cell := by simpa using hk
      subst hk
      rcases cellsFrom_mem r _ _ h with h | h
      · exact .inl (.tail _ h)
      · rcases List.mem_cons.mp h with h | h
        · cases h; exact .inl (.head _)
        · exact .inr h
    · rcases cellsFrom_mem r _ _ h with h | h
      · exact .inl (.tail _ h)
      · exact .inr h

theorem cellsFrom_some {x : Str} : ∀ (names : List (Str × NameKind)) (n : Nat) (acc : List (Str × Addr)), names.lookup x = some .cell ∨ (acc.lookup x).isSome = true → ((cellsFrom n names acc).lookup x).isSome = true
  | [], _, _, h => by
    unfold cellsFrom
    exact h.resolve_left (by simp)
  | (y, k) :: r, n, acc, h => by
    unfold cellsFrom
    by_cases hx : x = y
    · subst hx
      by_cases hk : k = .cell
      · subst hk
        exact cellsFrom_some r _ _ (.inr (by simp))
      · have hb : (k == NameKind.cell) = false := by simpa using hk
        simp only [hb]
        exact cellsFrom_some r _ _ (.inr (h.resolve_left (by simpa using hk)))
    · have hxy : (x == y) = false := by simpa using hx
      simp only [List.lookup_cons, hxy] at h
      split
      · refine cellsFrom_some r _ _ (h.imp id fun q => ?_)
        simpa [List.lookup_cons, hxy] using q
      · exact cellsFrom_some r _ _ h

noncomputable abbrev cellsAt (sc : Scope) (L : Addr) : List (Str × Addr) := cellsFrom (L + 1) sc.names []
/-- the frame's own objects: its names and its cells -/
noncomputable def Mu (sc : Scope) (L : Addr) : Ws := fun b => b = L ∨ ∃ x, (cellsAt sc L).lookup x = some b
noncomputable def FW (sc : Scope) (L : Addr) (oa W : Ws) : Ws := fun b => Mu sc L b ∨ oa b ∨ W b
noncomputable def val (sc : Scope) (m cm : Str → Option Value) (x : Str) : Option Value := if sc.names.lookup x = some .local then m x else cm x

structure St (G : GC) (sc : Scope) (L : Addr) (Γ : Gam) (O : Own) (oa W : Ws) (h : Heap) : Prop where
  scok : ScOk sc
  fm : ∃ m cm, h.Ns L m ∧ Cl L (cellsAt sc L) h cm ∧ (∀ x d, Γ.lookup x = some d → ∃ v, val sc m cm x = some v ∧ Told (FW sc L oa W) h v d) ∧
    (∀ x pl ds, O.lookup x = some (pl, ds) → ∃ b vs, val sc m cm x = some (.ref b) ∧ oa b ∧ OwnL pl h b vs.toArray ∧ ToldAll (FW sc L oa W) h vs ds)
  ok : Ok G (FW sc L oa W) h
  oL : ∀ b, oa b → ¬ Mu sc L b
  wL : ∀ b, W b → ¬ Mu sc L b ∧ ¬ oa b

theorem St.kp {G : GC} {sc : Scope} {L : Addr} {Γ : Gam} {O : Own} {oa W : Ws} {h h' : Heap} (x : St G sc L Γ O oa W h) (k : Kp h h') : St G sc L Γ O oa W h' where
  scok := x.scok
  fm := let ⟨m, cm, a, b, c, d⟩ := x.fm
    ⟨m, cm, a.keeps k, b.keeps k, fun y d e => let ⟨v, p, q⟩ := c y d e; ⟨v, p, q.kp k⟩, fun y pl ds e => let ⟨b, vs, p, o, l, t⟩ := d y pl ds e; ⟨b, vs, p, o, l.of fun o => k _ o, t.kp k⟩⟩
  ok := x.ok.kp k
  oL := x.oL
  wL := x.wL

theorem St.se {G : GC} {sc : Scope} {L a : Addr} {nm : Str} {cd : Value} {Γ : Gam} {O : Own} {oa W : Ws} {h : Heap} (x : St G sc L Γ O oa W h) : SE G (envOfC nm sc L a cd) Γ O (FW sc L oa W) h where
  ok := x.ok
  nm := by
    obtain ⟨m, cm, ns, cl, c, d⟩ := x.fm
    refine ⟨val sc m cm, ⟨x.scok.kind, rfl, rfl, ⟨m, ns, fun y hy => ?_⟩, fun y b hk e => ?_, fun y hk => ?_⟩, c, fun y pl ds e => ?_⟩
    · have hy : sc.names.lookup y = some .local := hy
      simp [val, hy]
    · have hk : sc.names.lookup y = some .cell ∨ sc.names.lookup y = some .free := hk
      have : val sc m cm y = cm y := by
        unfold val; rw [if_neg]; rcases hk with hk | hk <;> rw [hk] <;> decide
      rw [this]; exact cl.cell y b e
    · have hk : sc.names.lookup y = some .cell ∨ sc.names.lookup y = some .free := hk
      rcases hk with hk | hk
      · exact Option.isSome_iff_exists.mp (cellsFrom_some _ _ _ (.inl hk))
      · exact absurd rfl (x.scok.nofree _ (mem_of_lookup hk))
    · obtain ⟨b, vs, p, _, l, t⟩ := d y pl ds e
      exact ⟨b, vs, p, l, t⟩

inductive Out where
  | next (Γ : Gam) (O : Own)
  | ret (d : PyData)

/-- fx: no new own list -/
noncomputable def Post (G : GC) (fx : Bool) (sc : Scope) (L : Addr) (out : Out) (oa W : Ws) (h0 h' : Heap) (f : Flow) : Prop :=
  KpB (fun b => Mu sc L b ∨ oa b) h0 h' ∧ match out with
    | .next Γ O => f = .next ∧ ∃ oa', (∀ b, oa' b → oa b ∨ fx = false ∧ h0.get? b = none) ∧ St G sc L Γ O oa' W h'
    | .ret d => ∃ v, f = .ret v ∧ Told W h' v d

noncomputable def ExT (G : GC) (fx : Bool) (n : Nat) (nm : Str) (sc : Scope) (t : Env → Sem Flow) (Γ : Gam) (O : Own) (out : Out) : Prop :=
  ∀ A, AIn n A → ∀ L a cd W oa s, St G sc L Γ O oa W s.heap → ∀ Q : Flow → Shared → Prop,
    (∀ f h' tk, Post G fx sc L out oa W s.heap h' f → Q f { s with heap := h', toks := tk }) → wpAny (MM G) A (t (envOfC nm sc L a cd)) Q Ef s
noncomputable abbrev Ex1 (G : GC) (fx : Bool) (n : Nat) (nm : Str) (sc : Scope) (st : Stmt) := ExT G fx n nm sc (exec st)
noncomputable abbrev ExS (G : GC) (fx : Bool) (n : Nat) (nm : Str) (sc : Scope) (ss : List Stmt) := ExT G fx n nm sc (execs ss)

section
variable {G : GC} {fx : Bool} {n : Nat} {nm : Str} {sc : Scope} {Γ Γ1 : Gam} {O O1 : Own} {out : Out}

theorem post_trans {L : Addr} {oa oa1 W : Ws} {h0 h1 h2 : Heap} {f : Flow} (k1 : KpB (fun b => Mu sc L b ∨ oa b) h0 h1) (s1 : ∀ b, oa1 b → oa b ∨ fx = false ∧ h0.get? b = none) (p : Post G fx sc L out oa1 W h1 h2 f) : Post G fx sc L out oa W h0 h2 f := by
  have kk : KpB (fun b => Mu sc L b ∨ oa b) h0 h2 := fun b o nb e => by
    refine p.1 b o (fun hb => ?_) (k1 b o nb e)
    rcases hb with hb | hb
    · exact nb (.inl hb)
    · rcases s1 b hb with h | h
      · exact nb (.inr h)
      · rw [h.2] at e; cases e
  refine ⟨kk, ?_⟩
  cases out with
  | ret d => exact p.2
  | next Γ O =>
    obtain ⟨e, oa', s', st⟩ := p.2
    refine ⟨e, oa', fun b hb => ?_, st⟩
    rcases s' b hb with h | h
    · exact s1 b h
    · cases q : h0.get? b with
      | none => exact .inr ⟨h.1, rfl⟩
      | some o =>
        by_cases hoa : oa b
        · exact .inl hoa
        · have := k1 b o (fun hm => hm.elim (st.oL b hb) hoa) q
          rw [h.2] at this; cases this

theorem exs_nil : ExS G fx n nm sc [] Γ O (.next Γ O) := fun A _ L a cd W oa s S Q h =>
  wpAny_execs_nil (h .next s.heap s.toks ⟨KpB.refl _ _, rfl, oa, fun _ x => .inl x, S⟩)

theorem exs_cons {st : Stmt} {rest : List Stmt} (h1 : Ex1 G fx n nm sc st Γ O (.next Γ1 O1)) (h2 : ExS G fx n nm sc rest Γ1 O1 out) : ExS G fx n nm sc (st :: rest) Γ O out := by
  intro A hA L a cd W oa s S Q h
  refine wpAny_execs_cons (h1 A hA L a cd W oa s S _ fun f h' tk p => ?_)
  obtain ⟨k, rfl, oa1, s1, S1⟩ := p
  exact h2 A hA L a cd W oa1 _ S1 _ fun f h'' tk' p => h f h'' tk' (post_trans k s1 p)

theorem exs_ret {st : Stmt} {rest : List Stmt} {d : PyData} (h1 : Ex1 G fx n nm sc st Γ O (.ret d)) : ExS G fx n nm sc (st :: rest) Γ O (.ret d) := by
  intro A hA L a cd W oa s S Q h
  refine wpAny_execs_cons (h1 A hA L a cd W oa s S _ fun f h' tk p => ?_)
  have p' := p
  obtain ⟨k, v, rfl, t⟩ := p
  exact h _ h' tk p'

/-- an if with what stands behind it -/
theorem exs_if {t : Expr} {body orelse rest : List Stmt} {pos : Pos} {c : Bool} (ht : ∀ L a cd, TeE G n (envOfC nm sc L a cd) Γ O t c) (hb : c = true → ExS G fx n nm sc body Γ O (.next Γ1 O1) ∧ ExS G fx n nm sc rest Γ1 O1 out ∨ (∃ d, out = .ret d ∧ ExS G fx n nm sc body Γ O (.ret d)))
    (ho : c = false → ExS G fx n nm sc orelse Γ O (.next Γ1 O1) ∧ ExS G fx n nm sc rest Γ1 O1 out ∨ (∃ d, out = .ret d ∧ ExS G fx n nm sc orelse Γ O (.ret d))) : ExS G fx n nm sc (.If t body orelse pos :: rest) Γ O out := by
  intro A hA L a cd W oa s S Q h
  have go : ∀ (ss : List Stmt) (s1 : Shared), (ExS G fx n nm sc ss Γ O (.next Γ1 O1) ∧ ExS G fx n nm sc rest Γ1 O1 out ∨ (∃ d, out = .ret d ∧ ExS G fx n nm sc ss Γ O (.ret d))) → St G sc L Γ O oa W s1.heap → Kp s.heap s1.heap →
      (∀ f h' tk, Post G fx sc L out oa W s.heap h' f → Q f { s1 with heap := h', toks := tk }) →
      wpAny (MM G) A (execs ss (envOfC nm sc L a cd)) (fun f s' => match f with | .next => wpAny (MM G) A (execs rest (envOfC nm sc L a cd)) Q Ef s' | f => Q f s') Ef s1 := by
    intro ss s1 hh S1 k1 h
    rcases hh with ⟨hb', hr⟩ | ⟨d, rfl, hb'⟩
    · refine hb' A hA L a cd W oa s1 S1 _ fun f h' tk p => ?_
      obtain ⟨k, rfl, oa1, s1', S1'⟩ := p
      exact hr A hA L a cd W oa1 _ S1' _ fun f h'' tk' p => h f h'' tk' (post_trans ((k1.toB _)) (fun _ x => .inl x) (post_trans k s1' p))
    · refine hb' A hA L a cd W oa s1 S1 _ fun f h' tk p => ?_
      have q := post_trans (k1.toB _) (fun _ x => .inl x) p
      obtain ⟨k, v, rfl, t⟩ := p
      exact h _ h' tk q
  refine wpAny_execs_cons (wpAny_If (ht L a cd A hA _ s S.se _ fun h1 t1 k1 => ?_))
  cases c with
  | true => exact go body { s with heap := h1, toks := t1 } (hb rfl) (S.kp k1) k1 h
  | false => exact go orelse { s with heap := h1, toks := t1 } (ho rfl) (S.kp k1) k1 h

theorem ex_if {t : Expr} {body orelse : List Stmt} {pos : Pos} {c : Bool} (ht : ∀ L a cd, TeE G n (envOfC nm sc L a cd) Γ O t c) (hb : c = true → ExS G fx n nm sc body Γ O out) (ho : c = false → ExS G fx n nm sc orelse Γ O out) :
    Ex1 G fx n nm sc (.If t body orelse pos) Γ O out := by
  intro A hA L a cd W oa s S Q h
  refine wpAny_If (ht L a cd A hA _ s S.se _ fun h1 t1 k1 => ?_)
  cases c with
  | true => exact hb rfl A hA L a cd W oa _ (S.kp k1) _ fun f h' tk p => h f h' tk (post_trans (k1.toB _) (fun _ x => .inl x) p)
  | false => exact ho rfl A hA L a cd W oa _ (S.kp k1) _ fun f h' tk p => h f h' tk (post_trans (k1.toB _) (fun _ x => .inl x) p)

theorem ex_ret {e : Expr} {pos : Pos} {d : PyData} (he : ∀ L a cd, EvE G n (envOfC nm sc L a cd) Γ O e d) : Ex1 G fx n nm sc (.Return (some e) pos) Γ O (.ret d) := by
  intro A hA L a cd W oa s S Q h
  refine wpAny_Return_some (he L a cd A hA _ s S.se _ fun v h1 t1 k1 T1 => ?_)
  exact h _ h1 t1 ⟨k1.toB _, v, rfl, T1.weaken fun b w => .inl (.inr (.inr w))⟩

-- names stored
theorem store_core {L a : Addr} {cd : Value} {oa W : Ws} {A : Around} {s : Shared} {m cm : Str → Option Value} (scok : ScOk sc) (ns : s.heap.Ns L m) (cl : Cl L (cellsAt sc L) s.heap cm) (ok : Ok G (FW sc L oa W) s.heap) {x : Str} {v : Value} {Q : Unit → Shared → Prop}
    (hk : sc.names.lookup x = some .local ∨ sc.names.lookup x = some .cell)
    (h : ∀ h' tk m' cm', KpB (Mu sc L) s.heap h' → h'.Ns L m' → Cl L (cellsAt sc L) h' cm' → (∀ y, val sc m' cm' y = if y = x then some v else val sc m cm y) → Ok G (FW sc L oa W) h' → Q () { s with heap := h', toks := tk }) :
    wpAny (MM G) A (storeName (envOfC nm sc L a cd) x v) Q Ef s := by
  have base : ∀ h', KpB (Mu sc L) s.heap h' → ∀ m', h'.Ns L m' → ∀ cm', Cl L (cellsAt sc L) h' cm' → Ok G (FW sc L oa W) h' := by
    intro h' k m' hN cm' hC
    refine ⟨fun b o e => k b o (fun hm => ?_) (ok.base b o e), fun b hb => ?_, ok.off⟩
    · have := ok.off b (.inl hm); rw [e] at this; cases this
    · by_cases hm : Mu sc L b
      · rcases hm with rfl | ⟨x, hx⟩
        · obtain ⟨o, es, ep, ho, _⟩ := hN; exact ⟨o, ho⟩
        · obtain ⟨o, ho, _⟩ := hC.cell x b hx; exact ⟨o, ho⟩
      · obtain ⟨o, e⟩ := ok.ex b hb
        exact ⟨o, k b o hm e⟩
  have cellNe : ∀ {y c}, (cellsAt sc L).lookup y = some c → sc.names.lookup y ≠ some .local := fun {y c} e => by
    rcases cellsFrom_mem _ _ _ (mem_of_lookup e) with e1 | e1
    · rw [scok.cells _ e1 rfl]; decide
    · cases e1
  by_cases hl : sc.names.lookup x = some .local
  · refine wpAny_storeName_local (env := envOfC nm sc L a cd) hl ns (fun h' hn hs => ?_) (by show (sc.kind == .class || (sc.kind == .module && _)) = false; rw [scok.kind]; rfl)
    have k : KpB (Mu sc L) s.heap h' := kpB_same hs _ (.inl rfl)
    have cl' : Cl L (cellsAt sc L) h' cm := cl.sameBut hs (Nat.le_refl _)
    refine h h' _ _ cm k hn cl' (fun y => ?_) (base h' k _ hn _ cl')
    unfold val
    by_cases e : y = x
    · subst e; simp [hl]
    · simp [e]
  · have hc : sc.names.lookup x = some .cell := hk.resolve_left hl
    obtain ⟨c, hc'⟩ := Option.isSome_iff_exists.mp (cellsFrom_some sc.names (L + 1) [] (.inl hc))
    have hLc : L < c := cl.above x c (mem_of_lookup hc')
    refine wpAny_storeName_cell (env := envOfC nm sc L a cd) scok.kind hc hc' (cl.cell x c hc') fun h' hv hs => ?_
    have k : KpB (Mu sc L) s.heap h' := kpB_same hs _ (.inr ⟨x, hc'⟩)
    have ns' : h'.Ns L m := ns.sameBut hs (Nat.ne_of_lt hLc)
    have cl' : Cl L (cellsAt sc L) h' (fun y => if y = x then some v else cm y) := ⟨fun y c2 e => by
      by_cases hy : y = x
      · subst hy; rw [hc'] at e; cases e; simpa using hv
      · have hcc : c2 ≠ c := fun q => hy (name_of_addr cl.apart (mem_of_lookup e) (q ▸ mem_of_lookup hc'))
        simpa [hy] using (cl.cell y c2 e).sameBut hs hcc, cl.apart, cl.above⟩
    refine h h' _ m _ k ns' cl' (fun y => ?_) (base h' k _ ns' _ cl')
    unfold val
    by_cases e : y = x
    · subst e; simp [hl]
    · simp [e]

theorem Mu.fw {L : Addr} {oa W : Ws} : ∀ q, Mu sc L q → FW sc L oa W q := fun _ h => .inl h

/-- a datum stored under a name -/
theorem store_ok {L a : Addr} {cd : Value} {oa W : Ws} {A : Around} {s : Shared} (S : St G sc L Γ O oa W s.heap) {x : Str} {v : Value} {d : PyData} (T : Told (FW sc L oa W) s.heap v d) {Q : Unit → Shared → Prop}
    (hk : sc.names.lookup x = some .local ∨ sc.names.lookup x = some .cell) (hO : O.lookup x = none)
    (h : ∀ h' tk, KpB (Mu sc L) s.heap h' → St G sc L ((x, d) :: Γ) O oa W h' → Q () { s with heap := h', toks := tk }) :
    wpAny (MM G) A (storeName (envOfC nm sc L a cd) x v) Q Ef s := by
  obtain ⟨m, cm, ns, cl, c, ds⟩ := S.fm
  refine store_core S.scok ns cl S.ok hk fun h' tk m' cm' k ns' cl' hv ok' => h h' tk k ⟨S.scok, ⟨m', cm', ns', cl', fun y e hy => ?_, fun y pl es hy => ?_⟩, ok', S.oL, S.wL⟩
  · have kf := k.mono (Mu.fw (sc := sc) (L := L) (oa := oa) (W := W))
    rw [hv y]
    by_cases e1 : y = x
    · subst e1
      simp only [List.lookup_cons, beq_self_eq_true, Option.some.injEq] at hy
      subst hy
      exact ⟨v, by simp, T.keep kf⟩
    · have hb : (y == x) = false := by simpa using e1
      simp only [List.lookup_cons, hb] at hy
      obtain ⟨u, p, q⟩ := c y e hy
      exact ⟨u, by simpa [e1] using p, q.keep kf⟩
  · have kf := k.mono (Mu.fw (sc := sc) (L := L) (oa := oa) (W := W))
    rw [hv y]
    have e1 : y ≠ x := fun e => by subst e; rw [hO] at hy; cases hy
    obtain ⟨b, vs, p, ob, l, t⟩ := ds y pl es hy
    exact ⟨b, vs, by simpa [e1] using p, ob, l.of fun o e => k b o (S.oL b ob) e, t.keep kf⟩

theorem kpMu {L : Addr} {oa : Ws} {h h' : Heap} (k : KpB (Mu sc L) h h') : KpB (fun b => Mu sc L b ∨ oa b) h h' := k.mono fun _ x => .inl x
theorem post_next {L : Addr} {oa W : Ws} {h h' : Heap} (k : KpB (Mu sc L) h h') (S : St G sc L Γ O oa W h') : Post G fx sc L (.next Γ O) oa W h h' .next := ⟨kpMu k, rfl, oa, fun _ x => .inl x, S⟩

theorem ex_assign {x : Str} {xp pos : Pos} {value : Expr} {d : PyData} (hv : ∀ L a cd, EvE G n (envOfC nm sc L a cd) Γ O value d) (hk : sc.names.lookup x = some .local ∨ sc.names.lookup x = some .cell) (hO : O.lookup x = none)
    (hs : ∀ L a cd, swapsWith value (some (.Name x xp)) pos.line (envOfC nm sc L a cd) = pure false) : Ex1 G fx n nm sc (.Assign [.Name x xp] value pos) Γ O (.next ((x, d) :: Γ) O) := by
  intro A hA L a cd W oa s S Q h
  refine wpAny_Assign_Name (hv L a cd A hA _ s S.se _ fun v h1 t1 k1 T1 => store_ok (S.kp k1) T1 hk hO fun h2 t2 k2 S2 => ?_) (hs L a cd)
  exact h _ h2 t2 (post_trans (k1.toB _) (fun _ x => .inl x) (post_next k2 S2))

/-- x op= e on ints -/
theorem ex_aug {x : Str} {xp pos : Pos} {op : Operator} {value : Expr} {a b c : Int} (hx : Γ.lookup x = some (.int a)) (hv : ∀ L a cd, EvE G n (envOfC nm sc L a cd) Γ O value (.int b)) (hk : sc.names.lookup x = some .local) (hO : O.lookup x = none)
    (hop : ∀ (A : Around) (s : Shared) (t u : Tok) (Q : Value → Shared → Prop), AIn n A → (∀ t tk, Q (.int c t) { s with toks := tk }) → wpAny (MM G) A (inplaceOp op (.int a t) (.int b u)) Q Ef s) :
    Ex1 G fx n nm sc (.AugAssign (.Name x xp) op value pos) Γ O (.next ((x, .int c) :: Γ) O) := by
  intro A hA L ad cd W oa s S Q h
  obtain ⟨m, cm, ns, cl, cc, ds⟩ := S.fm
  obtain ⟨v, p, q⟩ := cc x _ hx
  have hmv : m x = some v := by have := p; unfold val at this; rwa [if_pos hk] at this
  cases q
  refine wpAny_AugAssign_Name (wpAny_loadName_local (env := envOfC nm sc L ad cd) S.scok.kind hk ns hmv (hv L ad cd A hA _ s S.se _ fun v h1 t1 k1 T1 => ?_))
  cases T1
  refine hop A _ _ _ _ hA fun t tk => ?_
  exact store_ok (s := { s with heap := h1, toks := tk }) (S.kp k1) (.int c t) (.inl hk) hO fun h2 t2 k2 S2 => h _ h2 t2 (post_trans (k1.toB _) (fun _ x => .inl x) (post_next k2 S2))
theorem isub_ok {a b : Int} : ∀ (A : Around) (s : Shared) (t u : Tok) (Q : Value → Shared → Prop), AIn n A → (∀ t tk, Q (.int (a - b) t) { s with toks := tk }) → wpAny (MM G) A (inplaceOp .Sub (.int a t) (.int b u)) Q Ef s :=
  fun _ _ _ _ _ _ h => P.isub_int (h _ _)

theorem ex_conv {t : Env → Sem Flow} {out' : Out} (x : ExT G fx n nm sc t Γ O out) (h : out = out') : ExT G fx n nm sc t Γ O out' := h ▸ x

-- while
noncomputable def WhC (G : GC) (fx : Bool) (n : Nat) (nm : Str) (sc : Scope) (t : Expr) (body : List Stmt) (Γ : Gam) (O : Own) (out : Out) : Prop :=
  ∀ A, AIn n A → ∀ L a cd W oa s, St G sc L Γ O oa W s.heap → ∀ R : Result → Shared → Prop,
    (∀ f h' tk, Post G fx sc L out oa W s.heap h' f → R (.ok f) { s with heap := h', toks := tk }) → codeAny (MM G) A (.whileLoop t body [] (envOfC nm sc L a cd)) R s

theorem while_turn {A : Around} {s : Shared} {test : Expr} {body : List Stmt} {env : Env} {R : Result → Shared → Prop}
    (h : wpAny (MM G) A (isTrue test env (eval test env)) (fun b s₂ => if b = true then wpAny (MM G) A (execs body env) (fun f s₃ => match f with
        | .next | .cont => codeAny (MM G) A (.whileLoop test body [] env) R s₃
        | .brk => R (.ok .next) s₃
        | .ret v => R (.ok (.ret v)) s₃) Ef s₂ else R (.ok .next) s₂) Ef s) : codeAny (MM G) A (.whileLoop test body [] env) R s := by
  refine codeAny_of_tree ?_
  show wpAny _ A ((whileTurn test body [] env).onRaise (fun x => do noteFrame x env; theTreesLotGoes x)) _ _ s
  refine wpAny_noted ?_
  simp only [whileTurn]
  refine wpAny_bind (wpAny_mono h (fun b s₂ h₂ => ?_) fun _ _ e => e.elim)
  cases b with
  | false =>
    simp only [Bool.false_eq_true, if_false] at h₂ ⊢
    exact wpAny_bind (wpAny_execs_nil (wpAny_pure h₂))
  | true =>
    simp only [if_true] at h₂ ⊢
    refine wpAny_bind (wpAny_mono h₂ (fun f s₃ h₃ => ?_) fun _ _ e => e.elim)
    cases f with
    | next => exact wpAny_pure ⟨rfl, h₃⟩
    | cont => exact wpAny_pure ⟨rfl, h₃⟩
    | brk => exact wpAny_pure h₃
    | ret v => exact wpAny_pure h₃

theorem wh_done {t : Expr} {body : List Stmt} (ht : ∀ L a cd, TeE G n (envOfC nm sc L a cd) Γ O t false) : WhC G fx n nm sc t body Γ O (.next Γ O) := by
  intro A hA L a cd W oa s S R h
  refine while_turn (ht L a cd A hA _ s S.se _ fun h1 t1 k1 => ?_)
  rw [if_neg (by decide)]
  exact h _ h1 t1 ⟨k1.toB _, rfl, oa, fun _ x => .inl x, S.kp k1⟩
theorem wh_step {t : Expr} {body : List Stmt} (ht : ∀ L a cd, TeE G n (envOfC nm sc L a cd) Γ O t true) (hb : ExS G fx n nm sc body Γ O (.next Γ1 O1)) (hr : WhC G fx n nm sc t body Γ1 O1 out) : WhC G fx n nm sc t body Γ O out := by
  intro A hA L a cd W oa s S R h
  refine while_turn (ht L a cd A hA _ s S.se _ fun h1 t1 k1 => ?_)
  rw [if_pos rfl]
  refine hb A hA L a cd W oa _ (S.kp k1) _ fun f h2 t2 p => ?_
  obtain ⟨k, rfl, oa1, s1, S1⟩ := p
  exact hr A hA L a cd W oa1 _ S1 _ fun f h3 t3 p => h f h3 t3 (post_trans (k1.toB _) (fun _ x => .inl x) (post_trans k s1 p))
theorem ex_while {t : Expr} {body : List Stmt} {pos : Pos} (hw : WhC G fx n nm sc t body Γ O out) : Ex1 G fx n nm sc (.While t body [] pos) Γ O out := by
  intro A hA L a cd W oa s S Q h
  exact wpAny_While (hw A hA L a cd W oa s S _ fun f h' tk p => h f h' tk p)
end
end Fco

-- FcE
namespace Fco

/-- an iterator: wr its own objects, all below lo; W the objects that may change besides -/
structure Itr (G : GC) (A : Around) (t : Expr) (it : Value) (W : Ws) (lo : Nat) (wr : Ws) (ds : List PyData) (I : Nat → Heap → Prop) : Prop where
  low : ∀ a, wr a → a < lo
  frame : ∀ i h h', I i h → (∀ b o, ¬ W b → b < lo → h.get? b = some o → h'.get? b = some o) → I i h'
  ex : ∀ i h, I i h → ∀ a, wr a → ∃ o, h.get? a = some o
  step : ∀ i d (s : Shared) (N : Shared → Prop) (Y : Value → Shared → Prop), ds[i]? = some d → I i s.heap →
    (∀ v h' tk, KpB wr s.heap h' → I (i + 1) h' → (∀ X : Ws, (∀ a, X a → (W a ∨ wr a ∨ lo ≤ a) ∧ ∃ o, s.heap.get? a = some o) → Told X h' v d) → Y v { s with heap := h', toks := tk }) →
    wpAny (MM G) A (pyNext it) (fun r s₁ => match r with | none => N s₁ | some v => wpAny (MM G) A (letOwnedTupleGo t it v) (fun _ s₂ => Y v s₂) Ef s₁) Ef s
  done : ∀ (s : Shared) (N : Shared → Prop) (Y : Value → Shared → Prop), I ds.length s.heap →
    (∀ h' tk, KpB wr s.heap h' → N { s with heap := h', toks := tk }) →
    wpAny (MM G) A (pyNext it) (fun r s₁ => match r with | none => N s₁ | some v => wpAny (MM G) A (letOwnedTupleGo t it v) (fun _ s₂ => Y v s₂) Ef s₁) Ef s
  self : ∀ i (s : Shared) (Q : Value → Shared → Prop), I i s.heap → Q it s → wpAny (MM G) A (pyIter it) Q Ef s

/-- what a for runs over -/
noncomputable def SrcE (G : GC) (n : Nat) (env : Env) (Γ : Gam) (O : Own) (t iter : Expr) (ds : List PyData) : Prop :=
  ∀ A, AIn n A → ∀ W s, SE G env Γ O W s.heap → ∀ Q : Value → Shared → Prop,
    (∀ it wr I h' tk, Kp s.heap h' → (∀ a, wr a → s.heap.get? a = none) → Itr G A t it W h'.objs.size wr ds I → I 0 h' → Q it { s with heap := h', toks := tk }) →
    wpAny (MM G) A (eval iter env) (fun x s₁ => wpAny (MM G) A (pyIter x) Q Ef s₁) Ef s

section
variable {G : GC} {n : Nat} {env : Env} {Γ : Gam} {O : Own}

theorem told_lo {W : Ws} {h : Heap} {vs : List Value} {ds : List PyData} (t : ToldAll W h vs ds) {lo : Nat} {wr : Ws} (hlo : h.objs.size ≤ lo) (hw : ∀ a, wr a → h.get? a = none) : ToldAll (fun a => W a ∨ wr a ∨ lo ≤ a) h vs ds :=
  t.weaken fun a ha => by
    rcases ha with h1 | h1 | h1
    · exact .inl h1
    · exact .inr (hw a h1)
    · exact .inr (none_of_ge (Nat.le_trans hlo h1))

theorem step_told {W wr X : Ws} {lo : Nat} {h h' : Heap} {v : Value} {d : PyData} (t : Told (fun a => W a ∨ wr a ∨ lo ≤ a) h v d) (k : KpB wr h h') (hX : ∀ a, X a → (W a ∨ wr a ∨ lo ≤ a) ∧ ∃ o, h.get? a = some o) : Told X h' v d :=
  (t.weaken (W' := fun a => X a ∨ wr a) fun a ha => ha.elim (fun x => .inl (hX a x).1) fun x => .inl (.inr (.inl x))).keep (k.mono fun _ x => .inr x) |>.weaken fun a ha => .inl (.inl ha)

theorem src_list {t iter : Expr} {ds : List PyData} {c : PyData} (hc : c = .list ds ∨ c = .tuple ds) (hi : EvE G n env Γ O iter c) (ht : ∀ (A : Around) (s : Shared) (J : Addr) (l : Addr) (v : Value) (Q : Unit → Shared → Prop), ((∃ i, s.heap.IsListIter J l i) ∨ ∃ i, s.heap.IsTupleIter J l i) → Q () s → wpAny (MM G) A (letOwnedTupleGo t (.ref J) v) Q Ef s) : SrcE G n env Γ O t iter ds := by
  intro A hA W s S Q h
  refine hi A hA W s S _ fun v h1 t1 k1 T1 => ?_
  have ok1 := S.ok.kp k1
  rcases hc with rfl | rfl
  · cases T1 with
    | list nw l q =>
      rename_i ax vs
      have hlt : ax < h1.objs.size := by obtain ⟨o, e, _⟩ := l; exact Heap.lt_size e
      have hne : ax ≠ h1.objs.size := Nat.ne_of_lt hlt
      refine wpAny_pyIter_list l ?_
      have W' := Walks.list (prog := G.prog) (w := G.w) hA.hh h1.objs.size ax hne vs.toArray
      have up := Kp.push h1 { cls := .type "list_iterator", data := .fields #[.ref ax, .int 0 0] }
      have hsz : (h1.push { cls := .type "list_iterator", data := .fields #[.ref ax, .int 0 0] }).objs.size = h1.objs.size + 1 := Heap.size_push ..
      have hlen : vs.toArray.size = ds.length := size_arr q
      refine h _ (fun a => a = h1.objs.size) (fun i h => h.IsListIter h1.objs.size ax i ∧ h.IsList ax vs.toArray ∧ ToldAll (fun a => W a ∨ a = h1.objs.size ∨ h1.objs.size + 1 ≤ a) h vs ds) _ _ (k1.trans up) (fun a ha => by
        rw [ha]; exact Kp.none k1 (none_of_ge (Nat.le_refl _))) ?_ ⟨⟨_, Heap.get?_push_size _ rfl, rfl, rfl⟩, l.push _, (told_lo q (Nat.le_succ _) (fun a ha => by rw [ha]; exact none_of_ge (Nat.le_refl _))).kp up⟩
      rw [hsz]
      exact {
        low := fun a ha => by rw [ha]; exact Nat.lt_succ_self _
        frame := fun i h h' st k => ⟨Heap.IsListIter.at st.1 fun o e => k _ o ok1.fresh (Nat.lt_succ_self _) e, isList_of st.2.1 fun o e => k _ o nw (Nat.lt_succ_of_lt hlt) e,
          st.2.2.keep fun b o nb e => k b o (fun w => nb (.inl w)) (Nat.not_le.mp fun w => nb (.inr (.inr w))) e⟩
        ex := fun i h st a ha => by obtain ⟨o, e, _⟩ := st.1; exact ⟨o, ha ▸ e⟩
        step := fun i d s N Y hd st hY => by
          have hi : i < vs.toArray.size := by rw [hlen]; exact (List.getElem?_eq_some_iff.mp hd).1
          refine W'.item i s _ _ hi ⟨st.1, st.2.1⟩ fun v h' tk hP st' k => ?_
          have kk : KpB (fun a => a = h1.objs.size) s.heap h' := fun b o nb e => k b o (by simpa using nb) e
          obtain ⟨v', hv', tv⟩ := st.2.2.get hd
          have ev : v = v' := by
            have : vs[i]? = some v := by simpa using hP
            rw [hv'] at this; exact (Option.some.inj this).symm
          subst ev
          refine ht A _ _ ax _ _ (.inl ⟨_, st'.1⟩) (hY v h' tk kk ⟨st'.1, st'.2, st.2.2.keep (kk.mono fun a ha => .inr (.inl ha))⟩ fun X hX => step_told tv kk hX)
        done := fun s N Y st hN => by
          rw [← hlen] at st
          exact W'.done s _ _ ⟨st.1, st.2.1⟩ fun h' tk k => hN h' tk fun b o nb e => k b o (by simpa using nb) e
        self := fun i s Q st hq => W'.self i s Q _ ⟨st.1, st.2.1⟩ hq }
  · cases T1 with
    | tuple nw l q =>
      rename_i ax vs
      have hlt : ax < h1.objs.size := by obtain ⟨o, e, _⟩ := l; exact Heap.lt_size e
      have hne : ax ≠ h1.objs.size := Nat.ne_of_lt hlt
      refine wpAny_pyIter_tuple l ?_
      have W' := Walks.tuple (prog := G.prog) (w := G.w) hA.hh h1.objs.size ax hne vs.toArray
      have up := Kp.push h1 { cls := .type "tuple_iterator", data := .fields #[.ref ax, .int 0 0] }
      have hsz : (h1.push { cls := .type "tuple_iterator", data := .fields #[.ref ax, .int 0 0] }).objs.size = h1.objs.size + 1 := Heap.size_push ..
      have hlen : vs.toArray.size = ds.length := size_arr q
      refine h _ (fun a => a = h1.objs.size) (fun i h => h.IsTupleIter h1.objs.size ax i ∧ h.IsTuple ax vs.toArray ∧ ToldAll (fun a => W a ∨ a = h1.objs.size ∨ h1.objs.size + 1 ≤ a) h vs ds) _ _ (k1.trans up) (fun a ha => by
        rw [ha]; exact Kp.none k1 (none_of_ge (Nat.le_refl _))) ?_ ⟨⟨_, Heap.get?_push_size _ rfl, rfl, rfl⟩, isTup_of l fun o => up _ o, (told_lo q (Nat.le_succ _) (fun a ha => by rw [ha]; exact none_of_ge (Nat.le_refl _))).kp up⟩
      rw [hsz]
      exact {
        low := fun a ha => by rw [ha]; exact Nat.lt_succ_self _
        frame := fun i h h' st k => ⟨Heap.IsTupleIter.at st.1 fun o e => k _ o ok1.fresh (Nat.lt_succ_self _) e, isTup_of st.2.1 fun o e => k _ o nw (Nat.lt_succ_of_lt hlt) e,
          st.2.2.keep fun b o nb e => k b o (fun w => nb (.inl w)) (Nat.not_le.mp fun w => nb (.inr (.inr w))) e⟩
        ex := fun i h st a ha => by obtain ⟨o, e, _⟩ := st.1; exact ⟨o, ha ▸ e⟩
        step := fun i d s N Y hd st hY => by
          have hi : i < vs.toArray.size := by rw [hlen]; exact (List.getElem?_eq_some_iff.mp hd).1
          refine W'.item i s _ _ hi ⟨st.1, st.2.1⟩ fun v h' tk hP st' k => ?_
          have kk : KpB (fun a => a = h1.objs.size) s.heap h' := fun b o nb e => k b o (by simpa using nb) e
          obtain ⟨v', hv', tv⟩ := st.2.2.get hd
          have ev : v = v' := by
            have : vs[i]? = some v := by simpa using hP
            rw [hv'] at this; exact (Option.some.inj this).symm
          subst ev
          refine ht A _ _ ax _ _ (.inr ⟨_, st'.1⟩) (hY v h' tk kk ⟨st'.1, st'.2, st.2.2.keep (kk.mono fun a ha => .inr (.inl ha))⟩ fun X hX => step_told tv kk hX)
        done := fun s N Y st hN => by
          rw [← hlen] at st
          exact W'.done s _ _ ⟨st.1, st.2.1⟩ fun h' tk k => hN h' tk fun b o nb e => k b o (by simpa using nb) e
        self := fun i s Q st hq => W'.self i s Q _ ⟨st.1, st.2.1⟩ hq }

theorem go_name {x : Str} {p : Pos} : ∀ (A : Around) (s : Shared) (J : Addr) (l : Addr) (v : Value) (Q : Unit → Shared → Prop), ((∃ i, s.heap.IsListIter J l i) ∨ ∃ i, s.heap.IsTupleIter J l i) → Q () s → wpAny (MM G) A (letOwnedTupleGo (.Name x p) (.ref J) v) Q Ef s :=
  fun _ _ _ _ _ _ _ h => wpAny_pure h
theorem go_tuple {es : List Expr} {k : Nat} {p : Pos} : ∀ (A : Around) (s : Shared) (J : Addr) (l : Addr) (v : Value) (Q : Unit → Shared → Prop), ((∃ i, s.heap.IsListIter J l i) ∨ ∃ i, s.heap.IsTupleIter J l i) → Q () s → wpAny (MM G) A (letOwnedTupleGo (.Tuple es k p) (.ref J) v) Q Ef s := by
  intro A s J l v Q hJ h
  unfold letOwnedTupleGo
  cases v with
  | ref a =>
    rcases hJ with ⟨i, o, ho, hc, hd⟩ | ⟨i, o, ho, hc, hd⟩
    · refine wpAny_bind (wpAny_load ho ?_)
      simp only [hc, hd]
      exact wpAny_ite (by rw [if_neg (by simp)]; exact wpAny_pure h)
    · refine wpAny_bind (wpAny_load ho ?_)
      simp only [hc, hd]
      exact wpAny_ite (by rw [if_neg (by simp)]; exact wpAny_pure h)
  | _ => exact wpAny_pure h

/-- range(n) -/
theorem boot_range' : bootBuiltins "range" = some (.type "range") := by decide +kernel
theorem src_range (g : G.Good) {x : Str} {px fp pos : Pos} {e : Expr} {k : Int} (he : EvE G n env Γ O e (.int k)) (hk : env.kindOf ("range" : Str) = some .globalImplicit) (hst : starEach [e] env = [(false, eval e env)]) (hb1 : -(2 ^ 62) ≤ k) (hb2 : k < 2 ^ 62) :
    SrcE G n env Γ O (.Name x px) (.Call (.Name "range" fp) [e] [] pos) ((List.range k.toNat).map fun i => .int (i : Nat)) := by
  intro A hA W s S Q h
  refine Call_ (nameB g S (by decide) boot_range' (by decide) hk (by decide) (callWith_type1 (args_cons (he A hA W s S _ fun v h1 t1 k1 T1 => args_nil ?_) hst) hst))
  obtain ⟨tk0, rfl⟩ : ∃ tk0, v = .int k tk0 := by cases T1; exact ⟨_, rfl⟩
  refine call_range_1 ?_
  have ok1 := S.ok.kp k1
  have up := Kp.push h1 { cls := .type "range", data := .fields #[.int 0 t1, .int k tk0, .int 1 (t1 + 1)] }
  have hr := IsRange.new h1 0 k 1 t1 tk0 (t1 + 1)
  generalize hh2 : h1.push { cls := .type "range", data := .fields #[.int 0 t1, .int k tk0, .int 1 (t1 + 1)] } = h2 at up hr
  refine wpAny_pyIter_range hr (small_one (by decide) (by decide) hb1 hb2) ?_
  have ok2 := ok1.kp up
  have W' := Walks.range (prog := G.prog) (w := G.w) hA.hh h2.objs.size 0 1 k.toNat
  have hsz : (Builtin.Range.rangeSize 0 k 1) = (k.toNat : Int) := by have := rangeSize_nat 0 k; rw [this]; simp
  rw [hsz]
  have up2 := Kp.push h2 { cls := .type "range_iterator", data := .fields #[rawInt 0, rawInt (k.toNat : Int), rawInt 1] }
  refine h _ (fun a => a = h2.objs.size) (fun i h => IsRangeIter h h2.objs.size (0 + (i : Nat) * 1) ((k.toNat : Int) - (i : Nat)) 1) _ _ ((k1.trans up).trans up2) (fun a ha => by
    rw [ha]; exact Kp.none (k1.trans up) (none_of_ge (Nat.le_refl _))) ?_ (by show IsRangeIter _ _ _ _ _; simpa using Heap.get?_push_size (o := _) h2 rfl)
  rw [Heap.size_push]
  have hlen : ((List.range k.toNat).map fun i => PyData.int (i : Nat)).length = k.toNat := by simp
  exact {
    low := fun a ha => by rw [ha]; exact Nat.lt_succ_self _
    frame := fun i h h' st k => k _ _ ok2.fresh (Nat.lt_succ_self _) st
    ex := fun i h st a ha => ⟨_, ha ▸ st⟩
    step := fun i d s N Y hd st hY => by
      have hi : i < k.toNat := by rw [← hlen]; exact (List.getElem?_eq_some_iff.mp hd).1
      refine W'.item i s _ _ hi st fun v h' tk hP st' k => ?_
      have kk : KpB (fun a => a = h2.objs.size) s.heap h' := fun b o nb e => k b o (by simpa using nb) e
      obtain ⟨t, rfl⟩ := hP
      have ed : d = .int (0 + (i : Int) * 1) := by
        simp only [List.getElem?_map, Option.map_eq_some_iff] at hd
        obtain ⟨j, hj, rfl⟩ := hd
        have : j = i := by simpa [hi] using hj.symm
        subst this; simp
      subst ed
      exact wpAny_pure (hY _ h' tk kk st' fun X hX => .int _ _)
    done := fun s N Y st hN => by
      rw [hlen] at st
      exact W'.done s _ _ st fun h' tk k => hN h' tk fun b o nb e => k b o (by simpa using nb) e
    self := fun i s Q st hq => W'.self i s Q _ st hq }

/-- the items of enumerate -/
noncomputable def enumD (ds : List PyData) : List PyData := ds.mapIdx fun i d => .tuple [.int i, d]
theorem enumD_get {ds : List PyData} {i : Nat} {d : PyData} (h : (enumD ds)[i]? = some d) : ∃ x, ds[i]? = some x ∧ d = .tuple [.int i, x] := by
  simp only [enumD, List.getElem?_mapIdx, Option.map_eq_some_iff] at h
  obtain ⟨x, hx, rfl⟩ := h
  exact ⟨x, hx, rfl⟩
theorem enumD_length (ds : List PyData) : (enumD ds).length = ds.length := by simp [enumD]

theorem src_enum (g : G.Good) {es : List Expr} {kn : Nat} {tp fp pos : Pos} {e : Expr} {ds : List PyData} (he : EvE G n env Γ O e (.list ds)) (hk : env.kindOf ("enumerate" : Str) = some .globalImplicit) (hst : starEach [e] env = [(false, eval e env)]) :
    SrcE G n env Γ O (.Tuple es kn tp) (.Call (.Name "enumerate" fp) [e] [] pos) (enumD ds) := by
  intro A hA W s S Q h
  refine Call_ (nameB g S (by decide) boot_enum (by decide) hk (by decide) (callWith_type1 (args_cons (he A hA W s S _ fun v h1 t1 k1 T1 => args_nil ?_) hst) hst))
  have ok1 := S.ok.kp k1
  cases T1 with
  | list nw l q =>
    rename_i ax vs
    have hlt : ax < h1.objs.size := by obtain ⟨o, e, _⟩ := l; exact Heap.lt_size e
    refine call_enumerate_list l fun h2 hE hI hS hK => ?_
    refine wpAny_pyIter_enum hE ?_
    have up : Kp h1 h2 := hK
    have hn1 : ∀ a, a = h1.objs.size + 1 ∨ a = h1.objs.size → h1.get? a = none := fun a ha => by
      rcases ha with rfl | rfl
      · exact none_of_ge (Nat.le_succ _)
      · exact none_of_ge (Nat.le_refl _)
    have W' := WalksT.enumerate (prog := G.prog) (w := G.w) hA.hh (h1.objs.size + 1) h1.objs.size ax (Nat.ne_of_gt (Nat.lt_succ_self _)) (Nat.ne_of_lt (Nat.lt_succ_of_lt hlt)) (Nat.ne_of_lt hlt) vs.toArray
    have hlen : vs.toArray.size = (enumD ds).length := by rw [enumD_length]; exact size_arr q
    refine h _ (fun a => a = h1.objs.size + 1 ∨ a = h1.objs.size) (fun i h => ((∃ old, IsEnum h (h1.objs.size + 1) h1.objs.size i old) ∧ h.IsListIter h1.objs.size ax i ∧ h.IsList ax vs.toArray) ∧ ToldAll (fun a => W a ∨ (a = h1.objs.size + 1 ∨ a = h1.objs.size) ∨ h1.objs.size + 2 ≤ a) h vs ds) _ _ (k1.trans up)
      (fun a ha => Kp.none k1 (hn1 a ha)) ?_ ⟨⟨⟨_, hE⟩, hI, isList_of l fun o => up _ o⟩, (told_lo q (Nat.le_add_right _ _) hn1).kp up⟩
    rw [hS]
    have hlow : ∀ a, a = h1.objs.size + 1 ∨ a = h1.objs.size → a < h1.objs.size + 2 := fun a ha => by
      rcases ha with rfl | rfl <;> (first | lia | omega)
    have toKK : ∀ {ha hb : Heap}, (∀ b o, b ∉ [h1.objs.size + 1, h1.objs.size] → ha.get? b = some o → hb.get? b = some o) → KpB (fun a => a = h1.objs.size + 1 ∨ a = h1.objs.size) ha hb := fun k b o nb e => k b o (by
      intro hm
      rcases List.mem_cons.mp hm with e | hm
      · exact nb (.inl e)
      · exact nb (.inr (List.mem_singleton.mp hm))) e
    exact {
      low := hlow
      frame := fun i h h' st k => by
        obtain ⟨⟨⟨old, hE⟩, hI, hL⟩, t⟩ := st
        have fr : ∀ a, a = h1.objs.size + 1 ∨ a = h1.objs.size → ∀ o, h.get? a = some o → h'.get? a = some o := fun a ha o e => k a o (fun w => by
          obtain ⟨o', e'⟩ := ok1.ex a w; rw [hn1 a ha] at e'; cases e') (hlow a ha) e
        exact ⟨⟨⟨old, fr _ (.inl rfl) _ hE⟩, Heap.IsListIter.at hI (fr _ (.inr rfl)), isList_of hL fun o e => k _ o nw (Nat.lt_of_lt_of_le hlt (Nat.le_add_right _ _)) e⟩, t.keep fun b o nb e => k b o (fun w => nb (.inl w)) (Nat.not_le.mp fun w => nb (.inr (.inr w))) e⟩
      ex := fun i h st a ha => by
        obtain ⟨⟨⟨old, hE⟩, hI, hL⟩, t⟩ := st
        rcases ha with rfl | rfl
        · exact ⟨_, hE⟩
        · obtain ⟨o, e, _⟩ := hI; exact ⟨o, e⟩
      step := fun i d s N Y hd st hY => by
        have hi : i < vs.toArray.size := by rw [hlen]; exact (List.getElem?_eq_some_iff.mp hd).1
        obtain ⟨x, hx, rfl⟩ := enumD_get hd
        obtain ⟨v', hv', tv⟩ := st.2.get hx
        refine W'.item i s _ _ hi st.1 fun T vals h' tk hP hT hTup hM k => ?_
        obtain ⟨tt, x', hx', rfl⟩ := hP
        have ev : x' = v' := by
          have : vs[i]? = some x' := by simpa using hx'
          rw [hv'] at this; exact (Option.some.inj this).symm
        subst ev
        have kk := toKK k
        have hTn := W'.apart i T h' hM
        refine W'.go es kn tp i T _ _ _ hM fun h'' st'' k' => ?_
        have kk' := toKK k'
        have kk2 := kk.trans kk'
        refine hY _ h'' tk kk2 ⟨st'', st.2.keep (kk2.mono fun a ha => .inr (.inl ha))⟩ fun X hX => ?_
        have nX : ¬ X T := fun w => by
          obtain ⟨_, o, e⟩ := hX T w
          exact Nat.lt_irrefl _ (Nat.lt_of_lt_of_le (Heap.lt_size e) hT)
        have tx : Told X h'' x' x := step_told tv kk2 hX
        refine .tuple (vs := [.int i tt, x']) nX ?_ (.cons (.int _ _) (.cons tx .nil))
        have : IsTup h' T #[.int i tt, x'] := hTup
        exact isTup_of this fun o e => k' T o hTn e
      done := fun s N Y st hN => by
        rw [← hlen] at st
        exact W'.done s _ _ st.1 fun h' tk k => hN h' tk (toKK k)
      self := fun i s Q st hq => W'.self i s Q _ st.1 hq }
end
end Fco

-- FcF
namespace Fco

section
variable {G : GC} {fx : Bool} {n : Nat} {nm : Str} {sc : Scope} {Γ Γ1 Γ2 : Gam} {O O1 O2 : Own} {out : Out}

/-- a target takes a datum -/
noncomputable def TgtE (G : GC) (n : Nat) (nm : Str) (sc : Scope) (t : Expr) (Γ : Gam) (O : Own) (d : PyData) (Γ1 : Gam) : Prop :=
  ∀ A, AIn n A → ∀ L a cd W oa s v, St G sc L Γ O oa W s.heap → Told (FW sc L oa W) s.heap v d → ∀ Q : Unit → Shared → Prop,
    (∀ h' tk, KpB (Mu sc L) s.heap h' → St G sc L Γ1 O oa W h' → Q () { s with heap := h', toks := tk }) → wpAny (MM G) A (assign t (envOfC nm sc L a cd) v) Q Ef s

theorem tgt_name {x : Str} {xp : Pos} {d : PyData} (hk : sc.names.lookup x = some .local ∨ sc.names.lookup x = some .cell) (hO : O.lookup x = none) : TgtE G n nm sc (.Name x xp) Γ O d ((x, d) :: Γ) :=
  fun _ _ _ _ _ _ _ _ _ S T _ h => wpAny_assign_Name (store_ok S T hk hO h)

/-- names stored one after the other -/
noncomputable def StoreL (xs : List Str) (ds : List PyData) (Γ : Gam) : Gam := (xs.zip ds).reverse ++ Γ

theorem assign_names {xs : List Str} (hk : ∀ x ∈ xs, (sc.names.lookup x = some .local ∨ sc.names.lookup x = some .cell) ∧ O.lookup x = none) : ∀ (xs' : List Str) (ps : List Pos) (ds : List PyData) (vs : List Value) (Γ : Gam), (∀ x ∈ xs', x ∈ xs) → xs'.length = vs.length → xs'.length = ps.length →
    ∀ A, AIn n A → ∀ L a cd W oa s, St G sc L Γ O oa W s.heap → ToldAll (FW sc L oa W) s.heap vs ds → ∀ Q : Unit → Shared → Prop,
    (∀ h' tk, KpB (Mu sc L) s.heap h' → St G sc L (StoreL xs' ds Γ) O oa W h' → Q () { s with heap := h', toks := tk }) →
    wpAny (MM G) A (assignInOrder ((xs'.zip ps).map fun p => assign (.Name p.1 p.2) (envOfC nm sc L a cd)) vs) Q Ef s
  | [], _, ds, vs, Γ, _, hl, _, A, hA, L, a, cd, W, oa, s, S, T, Q, h => by
    cases vs with
    | cons _ _ => cases hl
    | nil => cases T; exact wpAny_pure (h s.heap s.toks (KpB.refl _ _) S)
  | x :: xs', ps, ds, vs, Γ, hs, hl, hp, A, hA, L, a, cd, W, oa, s, S, T, Q, h => by
    cases vs with
    | nil => cases hl
    | cons v vs =>
      cases ps with
      | nil => cases hp
      | cons p ps =>
        cases T with
        | cons t r =>
          rename_i d ds
          have hx := hk x (hs x (.head _))
          show wpAny _ _ (do holding vs (assign (.Name x p) _ v); assignInOrder _ vs) _ _ _
          refine wpAny_bind (wpAny_holding (wpAny_assign_Name (store_ok S t hx.1 hx.2 fun h1 t1 k1 S1 => ?_)))
          refine assign_names hk xs' ps ds vs ((x, d) :: Γ) (fun y hy => hs y (.tail _ hy)) (by simpa using hl) (by simpa using hp) A hA L a cd W oa _ S1 (r.keep (k1.mono Mu.fw)) _ fun h2 t2 k2 S2 => ?_
          refine h h2 t2 (k1.trans k2) ?_
          have : StoreL (x :: xs') (d :: ds) Γ = StoreL xs' ds ((x, d) :: Γ) := by simp [StoreL]
          rw [this]; exact S2

/-- (x, y, ..) takes a tuple -/
theorem tgt_tuple {elts : List Expr} {kn : Nat} {tp : Pos} {xs : List Str} {ps : List Pos} {ds : List PyData} (hk : ∀ x ∈ xs, (sc.names.lookup x = some .local ∨ sc.names.lookup x = some .cell) ∧ O.lookup x = none)
    (hl : xs.length = ds.length) (hp : xs.length = ps.length) (ha : ∀ L a cd, assignEach elts (envOfC nm sc L a cd) = (xs.zip ps).map fun p => (false, assign (.Name p.1 p.2) (envOfC nm sc L a cd))) :
    TgtE G n nm sc (.Tuple elts kn tp) Γ O (.tuple ds) (StoreL xs ds Γ) := by
  intro A hA L a cd W oa s v S T Q h
  cases T with
  | tuple nw l q =>
    rename_i ax vs
    have hlen : ((xs.zip ps).map fun p => (false, assign (.Name p.1 p.2) (envOfC nm sc L a cd))).length = vs.toArray.size := by
      simp [hp.symm, hl, q.length]
    refine wpAny_assign_Tuple hA.hh l (by rw [ha]; exact hlen) ?_ fun h1 hx => ?_
    · rw [ha, List.findIdx?_eq_none_iff]; intro p hp; simp only [List.mem_map] at hp; obtain ⟨_, _, rfl⟩ := hp; rfl
    · rw [ha]
      have k1 : Kp s.heap h1 := fun b o e => hx b o (Nat.ne_of_lt (Heap.lt_size e)) e
      have e : (((xs.zip ps).map fun p => (false, assign (.Name p.1 p.2) (envOfC nm sc L a cd))).map (·.2)) = (xs.zip ps).map fun p => assign (.Name p.1 p.2) (envOfC nm sc L a cd) := by simp
      rw [e]
      refine assign_names hk xs ps ds vs Γ (fun _ h => h) (by rw [q.length]; exact hl) hp A hA L a cd W oa { s with heap := h1 } (S.kp k1) (q.kp k1) Q fun h2 t2 k2 S2 => h h2 t2 ((k1.toB _).trans k2) S2

/-- an assignment to a tuple of names, the value no tuple display -/
theorem ex_assignT {elts : List Expr} {kn : Nat} {tp pos : Pos} {value : Expr} {d : PyData} (hv : ∀ L a cd, EvE G n (envOfC nm sc L a cd) Γ O value d) (ht : TgtE G n nm sc (.Tuple elts kn tp) Γ O d Γ1)
    (hs : ∀ L a cd, swapsWithSole [.Tuple elts kn tp] value pos.line (envOfC nm sc L a cd) = pure false) (hw : ∀ L a cd, swappedStores [.Tuple elts kn tp] value (envOfC nm sc L a cd) = pure none) :
    Ex1 G fx n nm sc (.Assign [.Tuple elts kn tp] value pos) Γ O (.next Γ1 O) := by
  intro A hA L a cd W oa s S Q h
  refine Assign_Tuple (hv L a cd A hA _ s S.se _ fun v h1 t1 k1 T1 => ht A hA L a cd W oa _ v (S.kp k1) T1 _ fun h2 t2 k2 S2 => ?_) (hs L a cd) (hw L a cd)
  exact h _ h2 t2 (post_trans (k1.toB _) (fun _ x => .inl x) (post_next k2 S2))

theorem bind_names {xs : List Str} (hk : ∀ x ∈ xs, (sc.names.lookup x = some .local ∨ sc.names.lookup x = some .cell) ∧ O.lookup x = none) : ∀ (xs' : List Str) (ds : List PyData) (vs : List Value) (Γ : Gam), (∀ x ∈ xs', x ∈ xs) → xs'.length = vs.length →
    ∀ A, AIn n A → ∀ L a cd W oa s, St G sc L Γ O oa W s.heap → ToldAll (FW sc L oa W) s.heap vs ds → ∀ Q : Unit → Shared → Prop,
    (∀ h' tk, KpB (Mu sc L) s.heap h' → St G sc L (StoreL xs' ds Γ) O oa W h' → Q () { s with heap := h', toks := tk }) →
    wpAny (MM G) A (assignInOrder (xs'.map fun x => bindName (envOfC nm sc L a cd) x) vs) Q Ef s
  | [], ds, vs, Γ, _, hl, A, hA, L, a, cd, W, oa, s, S, T, Q, h => by
    cases vs with
    | cons _ _ => cases hl
    | nil => cases T; exact wpAny_pure (h s.heap s.toks (KpB.refl _ _) S)
  | x :: xs', ds, vs, Γ, hs, hl, A, hA, L, a, cd, W, oa, s, S, T, Q, h => by
    cases vs with
    | nil => cases hl
    | cons v vs =>
      cases T with
      | cons t r =>
        rename_i d ds
        have hx := hk x (hs x (.head _))
        show wpAny _ _ (do holding vs (bindName _ x v); assignInOrder _ vs) _ _ _
        refine wpAny_bind (wpAny_holding (wpAny_bindName (store_ok S t hx.1 hx.2 fun h1 t1 k1 S1 => ?_)))
        refine bind_names hk xs' ds vs ((x, d) :: Γ) (fun y hy => hs y (.tail _ hy)) (by simpa using hl) A hA L a cd W oa _ S1 (r.keep (k1.mono Mu.fw)) _ fun h2 t2 k2 S2 => ?_
        refine h h2 t2 (k1.trans k2) ?_
        have : StoreL (x :: xs') (d :: ds) Γ = StoreL xs' ds ((x, d) :: Γ) := by simp [StoreL]
        rw [this]; exact S2

/-- x, y = e1, e2: stored from the last one on -/
theorem ex_assignS {elts : List Expr} {kn : Nat} {tp pos : Pos} {value : Expr} {xs : List Str} {ds : List PyData} (hv : ∀ L a cd, EvE G n (envOfC nm sc L a cd) Γ O value (.tuple ds))
    (hk : ∀ x ∈ xs, (sc.names.lookup x = some .local ∨ sc.names.lookup x = some .cell) ∧ O.lookup x = none) (hl : xs.length = ds.length)
    (hs : ∀ L a cd, swapsWithSole [.Tuple elts kn tp] value pos.line (envOfC nm sc L a cd) = pure false) (hw : ∀ L a cd, swappedStores [.Tuple elts kn tp] value (envOfC nm sc L a cd) = pure (some xs)) :
    Ex1 G fx n nm sc (.Assign [.Tuple elts kn tp] value pos) Γ O (.next (StoreL xs.reverse ds.reverse Γ) O) := by
  intro A hA L a cd W oa s S Q h
  refine Assign_Tuple_swapped (hv L a cd A hA _ s S.se _ fun v h1 t1 k1 T1 => ?_) (hs L a cd) (hw L a cd)
  cases T1 with
  | tuple nw l q =>
    rename_i ax vs
    have e : xs.length = vs.toArray.size := by simp [q.length, hl]
    rw [e]
    refine wpAny_unpackItems_tuple hA.hh l fun h2 hx => ?_
    have k2 : Kp h1 h2 := fun b o e => hx b o (Nat.ne_of_lt (Heap.lt_size e)) e
    have S2 := (S.kp k1).kp k2
    refine bind_names hk xs.reverse ds.reverse vs.reverse Γ (fun x h => List.mem_reverse.mp h) (by simpa using e) A hA L a cd W oa { s with heap := h2, toks := t1 } S2 (q.kp k2).reverse _ fun h3 t3 k3 S3 => ?_
    exact h _ h3 t3 (post_trans ((k1.trans k2).toB _) (fun _ x => .inl x) (post_next k3 S3))

-- for
theorem St.kpb {L : Addr} {oa W W' : Ws} {h h' : Heap} (S : St G sc L Γ O oa W h) (k : KpB W' h h') (hs : ∀ a, W' a → W a) (hx : ∀ a, W' a → ∃ o, h'.get? a = some o) : St G sc L Γ O oa W h' := by
  obtain ⟨m, cm, ns, cl, c, d⟩ := S.fm
  have kf : KpB (FW sc L oa W) h h' := k.mono fun q hq => .inr (.inr (hs q hq))
  have nMu : ∀ b, Mu sc L b → ¬ W' b := fun b hb hw => (S.wL b (hs b hw)).1 hb
  have nOa : ∀ b, oa b → ¬ W' b := fun b hb hw => (S.wL b (hs b hw)).2 hb
  refine ⟨S.scok, ⟨m, cm, ns.at' fun o e => k L o (nMu L (.inl rfl)) e, ⟨fun y b e => ?_, cl.apart, cl.above⟩, fun y e hy => ?_, fun y pl es hy => ?_⟩, ⟨fun b o e => k b o (fun hw => ?_) (S.ok.base b o e), fun b hb => ?_, S.ok.off⟩, S.oL, S.wL⟩
  · obtain ⟨o, ho, hd⟩ := cl.cell y b e
    exact ⟨o, k b o (nMu b (.inr ⟨y, e⟩)) ho, hd⟩
  · obtain ⟨v, p, q⟩ := c y e hy
    exact ⟨v, p, q.keep kf⟩
  · obtain ⟨b, vs, p, ob, l, t⟩ := d y pl es hy
    exact ⟨b, vs, p, ob, l.of fun o e => k b o (nOa b ob) e, t.keep kf⟩
  · have := S.ok.off b (.inr (.inr (hs b hw))); rw [e] at this; cases this
  · by_cases hw : W' b
    · exact hx b hw
    · obtain ⟨o, e⟩ := S.ok.ex b hb
      exact ⟨o, k b o hw e⟩

theorem St.more {L : Addr} {oa W W' : Ws} {h : Heap} (S : St G sc L Γ O oa W h) (hs : ∀ a, W' a → W a) : St G sc L Γ O oa W' h := by
  obtain ⟨m, cm, ns, cl, c, d⟩ := S.fm
  have up : ∀ a, FW sc L oa W' a → FW sc L oa W a := fun a ha => ha.elim .inl fun x => .inr (x.elim .inl fun y => .inr (hs a y))
  exact ⟨S.scok, ⟨m, cm, ns, cl, fun y e hy => let ⟨v, p, q⟩ := c y e hy; ⟨v, p, q.weaken fun a ha => .inl (up a ha)⟩, fun y pl es hy => let ⟨b, vs, p, ob, l, t⟩ := d y pl es hy; ⟨b, vs, p, ob, l, t.weaken fun a ha => .inl (up a ha)⟩⟩,
    ⟨S.ok.base, fun a ha => S.ok.ex a (up a ha), fun a ha => S.ok.off a (up a ha)⟩, S.oL, fun b hb => S.wL b (hs b hb)⟩

theorem St.wider {L : Addr} {oa W wr : Ws} {h h' : Heap} (S : St G sc L Γ O oa W h) (k : Kp h h') (hf : ∀ a, wr a → h.get? a = none) (hx : ∀ a, wr a → ∃ o, h'.get? a = some o) : St G sc L Γ O oa (fun a => wr a ∨ W a) h' := by
  have S' := S.kp k
  obtain ⟨m, cm, ns, cl, c, d⟩ := S.fm
  have nF : ∀ a, wr a → ¬ FW sc L oa W a := fun a ha hw => by
    obtain ⟨o, e⟩ := S.ok.ex a hw; rw [hf a ha] at e; cases e
  have dn : ∀ a, FW sc L oa (fun a => wr a ∨ W a) a → FW sc L oa W a ∨ wr a := fun a ha => by
    rcases ha with h | h | h | h
    · exact .inl (.inl h)
    · exact .inl (.inr (.inl h))
    · exact .inr h
    · exact .inl (.inr (.inr h))
  refine ⟨S.scok, ⟨m, cm, ns.keeps k, cl.keeps k, fun y e hy => let ⟨v, p, q⟩ := c y e hy; ⟨v, p, (q.weaken fun a ha => (dn a ha).imp id (hf a)).kp k⟩,
    fun y pl es hy => let ⟨b, vs, p, ob, l, t⟩ := d y pl es hy; ⟨b, vs, p, ob, l.of fun o => k _ o, (t.weaken fun a ha => (dn a ha).imp id (hf a)).kp k⟩⟩,
    ⟨S'.ok.base, fun a ha => (dn a ha).elim (S'.ok.ex a) (hx a), fun a ha => (dn a ha).elim (S'.ok.off a) fun w => Kp.none S.ok.base (hf a w)⟩, S.oL, fun b hb => ?_⟩
  rcases hb with hb | hb
  · exact ⟨fun hm => nF b hb (.inl hm), fun ho => nF b hb (.inr (.inl ho))⟩
  · exact S.wL b hb

theorem St.drop {L : Addr} {oa W wr : Ws} {h h' : Heap} (S : St G sc L Γ O oa (fun b => wr b ∨ W b) h) (k : KpB wr h h') (hd : ∀ b, wr b → ¬ W b) : St G sc L Γ O oa W h' := by
  have nMu : ∀ b, Mu sc L b → ¬ wr b := fun b hb hw => (S.wL b (.inl hw)).1 hb
  have nOa : ∀ b, oa b → ¬ wr b := fun b hb hw => (S.wL b (.inl hw)).2 hb
  have S' := S.more (W' := W) fun _ h => .inr h
  obtain ⟨m, cm, ns, cl, c, d⟩ := S.fm
  have kf : KpB (FW sc L oa (fun b => wr b ∨ W b)) h h' := k.mono fun q hq => .inr (.inr (.inl hq))
  have up : ∀ a, FW sc L oa W a → FW sc L oa (fun b => wr b ∨ W b) a := fun a ha => ha.elim .inl fun x => .inr (x.elim .inl fun y => .inr (.inr y))
  refine ⟨S.scok, ⟨m, cm, ns.at' fun o e => k L o (nMu L (.inl rfl)) e, ⟨fun y b e => ?_, cl.apart, cl.above⟩, fun y e hy => ?_, fun y pl es hy => ?_⟩, ⟨fun b o e => k b o (fun hw => ?_) (S.ok.base b o e), fun b hb => ?_, S'.ok.off⟩, S.oL, fun b hb => S.wL b (.inr hb)⟩
  · obtain ⟨o, ho, hd⟩ := cl.cell y b e
    exact ⟨o, k b o (nMu b (.inr ⟨y, e⟩)) ho, hd⟩
  · obtain ⟨v, p, q⟩ := c y e hy
    exact ⟨v, p, (q.keep kf).weaken fun a ha => .inl (up a ha)⟩
  · obtain ⟨b, vs, p, ob, l, t⟩ := d y pl es hy
    exact ⟨b, vs, p, ob, l.of fun o e => k b o (nOa b ob) e, (t.keep kf).weaken fun a ha => .inl (up a ha)⟩
  · have := S.ok.off b (.inr (.inr (.inl hw))); rw [e] at this; cases this
  · obtain ⟨o, e⟩ := S'.ok.ex b hb
    refine ⟨o, k b o (fun hw => ?_) e⟩
    rcases hb with hb | hb | hb
    · exact nMu b hb hw
    · exact nOa b hb hw
    · exact hd b hw hb

/-- a for's turns from here on -/
noncomputable def ForC (G : GC) (n : Nat) (nm : Str) (sc : Scope) (t : Expr) (body : List Stmt) (Γ : Gam) (O : Own) (rest : List PyData) (out : Out) : Prop :=
  ∀ A, AIn n A → ∀ L a cd W oa oa0 s it lo wr ds I i, (∀ b, oa b → oa0 b) → i ≤ ds.length → ds.drop i = rest → Itr G A t it (FW sc L oa0 W) lo wr ds I → (∀ b, wr b → ¬ W b) → I i s.heap → St G sc L Γ O oa (fun b => wr b ∨ W b) s.heap →
    ∀ R : Result → Shared → Prop, (∀ f h' tk, (KpB (fun b => (Mu sc L b ∨ oa b) ∨ wr b) s.heap h' ∧ match out with
      | .next Γ' O' => f = .next ∧ ∃ oa', (∀ b, oa' b → oa b) ∧ St G sc L Γ' O' oa' W h'
      | .ret d => ∃ v, f = .ret v ∧ Told W h' v d) → R (.ok f) { s with heap := h', toks := tk }) →
    codeAny (MM G) A (.forLoop t it body [] (envOfC nm sc L a cd)) R s

theorem for_turn {A : Around} {s : Shared} {t : Expr} {it : Value} {body : List Stmt} {env : Env} {R : Result → Shared → Prop}
    (h : wpAny (MM G) A (pyNext it) (fun r s₁ => match r with
      | none => R (.ok .next) s₁
      | some v => wpAny (MM G) A (letOwnedTupleGo t it v) (fun _ s₂ => wpAny (MM G) A (assign t env v) (fun _ s₃ => wpAny (MM G) A (execs body env) (fun f s₄ => match f with
        | .next | .cont => codeAny (MM G) A (.forLoop t it body [] env) R s₄
        | .brk => R (.ok .next) s₄
        | .ret v => R (.ok (.ret v)) s₄) Ef s₃) Ef s₂) Ef s₁) Ef s) : codeAny (MM G) A (.forLoop t it body [] env) R s := by
  refine codeAny_of_tree ?_
  show wpAny _ A ((forTurn t it body [] env).onRaise (fun x => do noteFrame x env; theTreesLotGoes x)) _ _ s
  refine wpAny_noted ?_
  simp only [forTurn]
  refine wpAny_bind (wpAny_standAt (wpAny_bind (wpAny_onRaise (wpAny_mono h (fun r s₁ h₁ => ?_) fun _ _ e => e.elim))))
  cases r with
  | none => exact wpAny_pure ⟨rfl, codeAny_block (wpAny_execs_nil h₁)⟩
  | some v =>
    refine wpAny_bind (wpAny_mono h₁ (fun _ s₂ h₂ => ?_) fun _ _ e => e.elim)
    refine wpAny_bind (wpAny_mono h₂ (fun _ s₃ h₃ => wpAny_bind (wpAny_mono h₃ (fun f s₄ h₄ => ?_) fun _ _ e => e.elim)) fun _ _ e => e.elim)
    cases f with
    | next => exact wpAny_pure ⟨rfl, h₄⟩
    | cont => exact wpAny_pure ⟨rfl, h₄⟩
    | brk => exact wpAny_pure h₄
    | ret v => exact wpAny_pure h₄

theorem drop_nil {α : Type} {ds : List α} {i : Nat} (hi : ds.drop i = []) : ds.length ≤ i := by
  have := congrArg List.length hi
  simp at this; (first | lia | omega)
theorem drop_cons {α : Type} {ds : List α} {i : Nat} {d : α} {r : List α} (hi : ds.drop i = d :: r) : ds[i]? = some d ∧ ds.drop (i + 1) = r := by
  have e1 : ds[i]? = some d := by
    have := congrArg (fun l => l[0]?) hi
    simpa using this
  refine ⟨e1, ?_⟩
  have := congrArg List.tail hi
  simpa [List.tail_drop] using this

theorem for_nil {t : Expr} {body : List Stmt} : ForC G n nm sc t body Γ O [] (.next Γ O) := by
  intro A hA L a cd W oa oa0 s it lo wr ds I i ho hil hd J hdis st S R h
  have hi : i = ds.length := Nat.le_antisymm hil (drop_nil hd)
  subst hi
  refine for_turn (J.done s _ _ st fun h' tk k => ?_)
  exact h _ h' tk ⟨k.mono fun _ x => .inr x, rfl, oa, fun _ x => x, S.drop k hdis⟩

/-- one turn up to the body's end -/
theorem for_step_core {t : Expr} {body : List Stmt} {d : PyData} {rest : List PyData} {outb : Out} (ht : TgtE G n nm sc t Γ O d Γ1) (hb : ExS G true n nm sc body Γ1 O outb)
    {A : Around} (hA : AIn n A) {L a : Addr} {cd : Value} {W oa oa0 : Ws} {s : Shared} {it : Value} {lo : Nat} {wr : Ws} {ds : List PyData} {I : Nat → Heap → Prop} {i : Nat} (ho : ∀ b, oa b → oa0 b) (hd : ds.drop i = d :: rest) (J : Itr G A t it (FW sc L oa0 W) lo wr ds I)
    (hlo : ∀ b, FW sc L oa0 W b → True) (st : I i s.heap) (S : St G sc L Γ O oa (fun b => wr b ∨ W b) s.heap) {R : Result → Shared → Prop}
    (h : ∀ (f : Flow) (h' : Heap) (tk : Nat), KpB (fun b => (Mu sc L b ∨ oa b) ∨ wr b) s.heap h' → I (i + 1) h' → (match outb with
      | .next Γ' O' => f = .next ∧ ∃ oa', (∀ b, oa' b → oa b) ∧ St G sc L Γ' O' oa' (fun b => wr b ∨ W b) h'
      | .ret d => ∃ v, f = .ret v ∧ Told (fun b => wr b ∨ W b) h' v d) → match f with
        | .next | .cont => codeAny (MM G) A (.forLoop t it body [] (envOfC nm sc L a cd)) R { s with heap := h', toks := tk }
        | .brk => R (.ok .next) { s with heap := h', toks := tk }
        | .ret v => R (.ok (.ret v)) { s with heap := h', toks := tk }) : codeAny (MM G) A (.forLoop t it body [] (envOfC nm sc L a cd)) R s := by
  obtain ⟨hd1, hd2⟩ := drop_cons hd
  refine for_turn (J.step i d s _ _ hd1 st fun v h1 t1 k1 st1 T1 => ?_)
  have S1 : St G sc L Γ O oa (fun b => wr b ∨ W b) h1 := S.kpb k1 (fun _ x => .inl x) (J.ex _ _ st1)
  have T1' : Told (FW sc L oa (fun b => wr b ∨ W b)) h1 v d := T1 _ fun b hb => ⟨by
    rcases hb with hb | hb | hb | hb
    · exact .inl (.inl hb)
    · exact .inl (.inr (.inl (ho b hb)))
    · exact .inr (.inl hb)
    · exact .inl (.inr (.inr hb)), S.ok.ex b hb⟩
  refine ht A hA L a cd _ oa { s with heap := h1, toks := t1 } v S1 T1' _ fun h2 t2 k2 S2 => ?_
  have st2 : I (i + 1) h2 := J.frame _ _ _ st1 fun b o nb _ e => k2 b o (fun hm => nb (.inl hm)) e
  refine hb A hA L a cd _ oa { s with heap := h2, toks := t2 } S2 _ fun f h3 t3 p => ?_
  have st3 : I (i + 1) h3 := J.frame _ _ _ st2 fun b o nb _ e => p.1 b o (fun hm => nb (hm.elim .inl fun x => .inr (.inl (ho b x)))) e
  have kk : KpB (fun b => (Mu sc L b ∨ oa b) ∨ wr b) s.heap h3 := ((k1.mono fun _ x => Or.inr x).trans (k2.mono fun _ x => Or.inl (Or.inl x))).trans (p.1.mono fun _ x => Or.inl x)
  refine h f h3 t3 kk st3 ?_
  have p2 := p.2
  cases outb with
  | ret d => exact p2
  | next Γ' O' =>
    obtain ⟨e, oa', s', st'⟩ := p2
    exact ⟨e, oa', fun b hb => (s' b hb).elim id fun x => absurd x.1 (by decide), st'⟩

theorem for_cons {t : Expr} {body : List Stmt} {d : PyData} {rest : List PyData} (ht : TgtE G n nm sc t Γ O d Γ1) (hb : ExS G true n nm sc body Γ1 O (.next Γ2 O2)) (hr : ForC G n nm sc t body Γ2 O2 rest out) : ForC G n nm sc t body Γ O (d :: rest) out := by
  intro A hA L a cd W oa oa0 s it lo wr ds I i ho hil hd J hdis st S R h
  refine for_step_core ht hb hA ho hd J (fun _ _ => trivial) st S fun f h' tk k st' p => ?_
  obtain ⟨rfl, oa', s', S'⟩ := p
  have hl : i + 1 ≤ ds.length := (List.getElem?_eq_some_iff.mp (drop_cons hd).1).1
  refine hr A hA L a cd W oa' oa0 _ it lo wr ds I (i + 1) (fun b hb => ho b (s' b hb)) hl (drop_cons hd).2 J hdis st' S' R fun f h'' tk' p => h f h'' tk' ?_
  refine ⟨k.trans (p.1.mono fun b hb => hb.elim (fun x => .inl (x.elim .inl fun y => .inr (s' b y))) .inr), ?_⟩
  have p2 := p.2
  cases out with
  | ret d => exact p2
  | next Γ' O' =>
    obtain ⟨e, oa'', s'', st''⟩ := p2
    exact ⟨e, oa'', fun b hb => s' b (s'' b hb), st''⟩
theorem ex_for {t iter : Expr} {body : List Stmt} {pos : Pos} {ds : List PyData} (hi : ∀ L a cd, SrcE G n (envOfC nm sc L a cd) Γ O t iter ds) (hf : ForC G n nm sc t body Γ O ds out) (hs : ∀ L a cd x, foldedSetIterable iter (envOfC nm sc L a cd) x = pure x := by intro _ _ _ _; rfl) : Ex1 G fx n nm sc (.For t iter body [] pos) Γ O out := by
  intro A hA L a cd W oa s S Q h
  refine wpAny_For (hs := hs L a cd) (hi L a cd A hA _ s S.se _ fun it wr I h1 t1 k1 hfr J st => ?_)
  have nF : ∀ b, wr b → ¬ FW sc L oa W b := fun b hb hw => by
    obtain ⟨o, e⟩ := S.ok.ex b hw; rw [hfr b hb] at e; cases e
  have S1 := S.wider k1 hfr (J.ex _ _ st)
  refine hf A hA L a cd W oa oa { s with heap := h1, toks := t1 } it _ wr ds I 0 (fun _ x => x) (Nat.zero_le _) (by simp) J (fun b hb hw => nF b hb (.inr (.inr hw))) st S1 _ fun f h2 t2 p => ?_
  refine h f h2 t2 ⟨fun b o nb e => p.1 b o (fun hm => hm.elim nb fun w => ?_) (k1 b o e), ?_⟩
  · rw [hfr b w] at e; cases e
  · have p2 := p.2
    cases out with
    | ret d => exact p2
    | next Γ' O' =>
      obtain ⟨e, oa', s', st'⟩ := p2
      exact ⟨e, oa', fun b hb => .inl (s' b hb), st'⟩
end
end Fco

-- FcG
namespace Fco

theorem clos_go {env : Env} : ∀ (names : List (Str × NameKind)) (cs : List (Str × Addr)), (∀ x, (x, .free) ∈ names → ∃ c, env.cells.lookup x = some c) →
    (∀ x c, cs.lookup x = some c → env.cells.lookup x = some c) → ∃ cl, (forIn names cs fun (p : Str × NameKind) cs => (do
      if p.2 == .free then do let c ← cellOf env p.1; pure (ForInStep.yield ((p.1, c) :: cs)) else pure (ForInStep.yield cs) : Sem (ForInStep (List (Str × Addr))))) = pure cl ∧
      (∀ x c, cl.lookup x = some c → env.cells.lookup x = some c) ∧ (∀ x, (x, .free) ∈ names ∨ (∃ c, cs.lookup x = some c) → ∃ c, cl.lookup x = some c)
  | [], cs, _, h2 => ⟨cs, rfl, h2, fun x h => h.elim (fun h => nomatch h) id⟩
  | (n, k) :: r, cs, h1, h2 => by
    by_cases hk : (k == NameKind.free) = true
    · have ek : k = .free := by simpa using hk
      subst ek
      obtain ⟨c, hc⟩ := h1 n (.head _)
      obtain ⟨cl, e, a, b⟩ := clos_go r ((n, c) :: cs) (fun x hx => h1 x (.tail _ hx)) (fun x c' hx => by
        by_cases hn : (x == n) = true
        · have : x = n := by simpa using hn
          subst this
          simp only [List.lookup_cons, beq_self_eq_true, Option.some.injEq] at hx
          subst hx; exact hc
        · have hn : (x == n) = false := by simpa using hn
          simp only [List.lookup_cons, hn] at hx
          exact h2 x c' hx)
      refine ⟨cl, ?_, a, fun x hx => b x ?_⟩
      · rw [List.forIn_cons, ← e]
        simp only [cellOf, hc]
        rfl
      · rcases hx with hx | ⟨c', hx⟩
        · rcases List.mem_cons.mp hx with h | h
          · cases h; exact .inr ⟨c, by simp [List.lookup_cons]⟩
          · exact .inl h
        · refine .inr ?_
          by_cases hn : (x == n) = true
          · exact ⟨c, by simp [List.lookup_cons, hn]⟩
          · have hn : (x == n) = false := by simpa using hn
            exact ⟨c', by simp [List.lookup_cons, hn, hx]⟩
    · obtain ⟨cl, e, a, b⟩ := clos_go r cs (fun x hx => h1 x (.tail _ hx)) h2
      refine ⟨cl, ?_, a, fun x hx => b x ?_⟩
      · rw [List.forIn_cons, ← e]
        simp only [hk]
        rfl
      · rcases hx with hx | hx
        · rcases List.mem_cons.mp hx with h | h
          · cases h; exact absurd (by rfl) hk
          · exact .inl h
        · exact .inr hx
theorem clos_of {scope : Scope} {env : Env} (h : ∀ x, (x, .free) ∈ scope.names → ∃ c, env.cells.lookup x = some c) : ∃ cl, closureFor scope env = pure cl ∧
    (∀ x c, cl.lookup x = some c → env.cells.lookup x = some c) ∧ (∀ x, (x, .free) ∈ scope.names → ∃ c, cl.lookup x = some c) := by
  obtain ⟨cl, e, a, b⟩ := clos_go scope.names [] h (fun x c h => by simp at h)
  refine ⟨cl, ?_, a, fun x hx => b x (.inl hx)⟩
  rw [← e]
  unfold closureFor
  simp only [bind_pure]

/-- a comprehension's scope -/
structure CompOk (scope : Scope) : Prop where
  kind : scope.kind = .function
  nocell : ∀ y ∈ scope.names, y.2 ≠ .cell
  names : ∀ y ∈ scope.names, y.2 = .local → scope.names.lookup y.1 = some .local

theorem relabel_kind {scope : Scope} {env : Env} {x : Str} : ∀ {names : List (Str × NameKind)}, (∀ y ∈ names, y.2 ≠ .cell) → 
    ((names.map fun (n, k) => if (k == NameKind.free && env.scope.kind == .function && env.kindOf n == some .cell) then (n, NameKind.cell) else (n, k)).lookup x = some .cell ∨
     (names.map fun (n, k) => if (k == NameKind.free && env.scope.kind == .function && env.kindOf n == some .cell) then (n, NameKind.cell) else (n, k)).lookup x = some .free) → names.lookup x = some .free
  | [], _, h => by simp at h
  | (n, k) :: r, hn, h => by
    have ih := @relabel_kind scope env x r (fun y hy => hn y (.tail _ hy))
    by_cases hc : (k == NameKind.free && env.scope.kind == .function && env.kindOf n == some .cell) = true
    · have hk : k = .free := by have := hc; simp only [Bool.and_eq_true] at this; simpa using this.1.1
      cases hx : x == n with
      | true => simp [List.lookup_cons, hx, hk]
      | false =>
        simp only [List.map_cons, if_pos hc, List.lookup_cons, hx] at h ⊢
        exact ih h
    · cases hx : x == n with
      | true =>
        simp only [List.map_cons, if_neg hc, List.lookup_cons, hx] at h ⊢
        rcases h with h | h
        · cases h; exact absurd rfl (hn (n, .cell) (.head _))
        · exact h
      | false =>
        simp only [List.map_cons, if_neg hc, List.lookup_cons, hx] at h ⊢
        exact ih h
theorem relabel_local {scope : Scope} {env : Env} {x : Str} : ∀ {names : List (Str × NameKind)},
    (names.map fun (n, k) => if (k == NameKind.free && env.scope.kind == .function && env.kindOf n == some .cell) then (n, NameKind.cell) else (n, k)).lookup x = some .local → names.lookup x = some .local
  | [], h => by simp at h
  | (n, k) :: r, h => by
    have ih := @relabel_local scope env x r
    by_cases hc : (k == NameKind.free && env.scope.kind == .function && env.kindOf n == some .cell) = true
    · cases hx : x == n with
      | true => simp only [List.map_cons, if_pos hc, List.lookup_cons, hx] at h; cases h
      | false => simp only [List.map_cons, if_pos hc, List.lookup_cons, hx] at h ⊢; exact ih h
    · cases hx : x == n with
      | true => simp only [List.map_cons, if_neg hc, List.lookup_cons, hx] at h ⊢; exact h
      | false => simp only [List.map_cons, if_neg hc, List.lookup_cons, hx] at h ⊢; exact ih h

theorem mem_of_lookupK {x : Str} {k : NameKind} {names : List (Str × NameKind)} (h : names.lookup x = some k) : (x, k) ∈ names := mem_of_lookup h

/-- names inside a comprehension -/
theorem comp_nm {scope : Scope} (co : CompOk scope) {env : Env} {cl : List (Str × Addr)} {C : Addr} {h : Heap} {vm m : Str → Option Value} (N : Nm env h vm) (hC : h.Ns C m)
    (hfree : ∀ x, (x, .free) ∈ scope.names → env.kindOf x = some .cell ∨ env.kindOf x = some .free)
    (h1 : ∀ x c, cl.lookup x = some c → env.cells.lookup x = some c) (h2 : ∀ x, (x, .free) ∈ scope.names → ∃ c, cl.lookup x = some c) :
    Nm (compEnvC scope cl C env) h (fun x => if scope.names.lookup x = some .local then m x else vm x) where
  kind := co.kind
  glob := N.glob
  blt := N.blt
  loc := ⟨m, hC, fun x hx => by rw [if_pos (relabel_local (scope := scope) hx)]⟩
  cel := fun x c hk hc => by
    have hf : scope.names.lookup x = some .free := relabel_kind (scope := scope) co.nocell hk
    rw [if_neg (by rw [hf]; decide)]
    exact N.cel x c (hfree x (mem_of_lookupK hf)) (h1 x c hc)
  has := fun x hk => h2 x (mem_of_lookupK (relabel_kind (scope := scope) co.nocell hk))

theorem comp_turn {prog : Program} {w : World} {A : Around} {R : Result → Shared → Prop} {s : Shared} {elt target iter : Expr} {ifs : List Expr} {scope : Scope} {pos : Pos} {it acc : Value} {env : Env}
    (h : wpAny (model prog w) A (pyNext it) (fun r s₁ => match r with
      | none => R (.ok .next) s₁
      | some v => wpAny (model prog w) A (letOwnedTupleGo target it v) (fun _ s₂ => wpAny (model prog w) A (assign target env v) (fun _ s₃ =>
          wpAny (model prog w) A (forIn ifs true fun c r => if r = true then do let ok ← isTrue c env (eval c env); pure (ForInStep.yield ok) else pure (ForInStep.yield r)) (fun ok s₄ =>
            if ok = true then wpAny (model prog w) A (eval elt env) (fun x s₅ =>
              wpAny (model prog w) A (call (.builtin "list.append") [acc, x]) (fun _ s₆ => codeAny (model prog w) A (.compLoop (.ListComp elt [⟨target, iter, ifs, 0⟩] scope pos) 0 it acc env) R s₆) Ef s₅) Ef s₄
            else codeAny (model prog w) A (.compLoop (.ListComp elt [⟨target, iter, ifs, 0⟩] scope pos) 0 it acc env) R s₄) Ef s₃) Ef s₂) Ef s₁) Ef s) :
    codeAny (model prog w) A (.compLoop (.ListComp elt [⟨target, iter, ifs, 0⟩] scope pos) 0 it acc env) R s := by
  refine codeAny_of_tree ?_
  show wpAny _ A ((compTurn (.ListComp elt [⟨target, iter, ifs, 0⟩] scope pos) 0 it acc env).onRaise (fun x => do noteFrame x env; theTreesLotGoes x)) _ _ s
  refine wpAny_noted ?_
  rw [compTurn_list]
  refine wpAny_bind (wpAny_standAt (wpAny_bind (wpAny_mono h (fun r s₁ h₁ => ?_) fun _ _ e => e.elim)))
  cases r with
  | none => exact wpAny_pure h₁
  | some v =>
    refine wpAny_bind (wpAny_mono h₁ (fun _ s₂ h₂ => ?_) fun _ _ e => e.elim)
    refine wpAny_bind (wpAny_mono h₂ (fun _ s₃ h₃ => wpAny_bind (wpAny_mono h₃ (fun ok s₄ h₄ => ?_) fun _ _ e => e.elim)) fun _ _ e => e.elim)
    cases ok with
    | false => exact wpAny_pure ⟨rfl, h₄⟩
    | true =>
      exact wpAny_bind (wpAny_bind (wpAny_mono h₄ (fun x s₅ h₅ => wpAny_bind (wpAny_mono h₅ (fun _ s₆ h₆ => wpAny_pure (wpAny_pure ⟨rfl, h₆⟩)) fun _ _ e => e.elim)) fun _ _ e => e.elim))

/-- a comprehension's target takes a datum -/
noncomputable def TgtC (n : Nat) (G : GC) (cenv : Env) (C : Addr) (t : Expr) (d : PyData) (tg : Gam) : Prop :=
  ∀ A, AIn n A → ∀ X s v m, s.heap.Ns C m → Told X s.heap v d → X C → ∀ Q : Unit → Shared → Prop,
    (∀ h' tk m', KpB (fun b => b = C) s.heap h' → h'.Ns C m' → (∀ x e, tg.lookup x = some e → ∃ u, m' x = some u ∧ Told X h' u e) → Q () { s with heap := h', toks := tk }) → wpAny (MM G) A (assign t cenv v) Q Ef s


theorem kp0 {Z Y : Ws} {h0 h h' : Heap} (k0 : KpB Z h0 h) (k : KpB Y h h') (hy : ∀ b, Y b → Z b ∨ h0.get? b = none) : KpB Z h0 h' := fun b o nb e =>
  k b o (fun y => (hy b y).elim nb fun n => by rw [n] at e; cases e) (k0 b o nb e)

/-- the objects that a comprehension may change -/
noncomputable def XC (W wr : Ws) (C D : Addr) : Ws := fun b => W b ∨ wr b ∨ b = D ∨ b = C

/-- what the element does at each turn -/
noncomputable def EltC (G : GC) (A : Around) (scope : Scope) (cenv : Env) (ifs : List Expr) (elt : Expr) (X Z : Ws) (vm : Str → Option Value) (Γd : Gam) (K K' : Heap → Prop) (f : Option PyData) : Prop :=
  ∀ s', K s'.heap → Ok G X s'.heap → (∃ vm', Nm cenv s'.heap vm' ∧ (∀ x, scope.names.lookup x ≠ some .local → vm' x = vm x) ∧ (∀ x e, Γd.lookup x = some e → ∃ v, vm' x = some v ∧ Told X s'.heap v e)) →
    ∀ (N1 : Shared → Prop) (Y : Value → Shared → Prop),
    (match f with | none => ∀ h' tk, KpB Z s'.heap h' → K' h' → N1 { s' with heap := h', toks := tk } | some e => ∀ v h' tk, KpB Z s'.heap h' → K' h' → Told X h' v e → Y v { s' with heap := h', toks := tk }) →
    wpAny (MM G) A (forIn ifs true fun c r => if r = true then do let ok ← isTrue c cenv (eval c cenv); pure (ForInStep.yield ok) else pure (ForInStep.yield r)) (fun ok s₄ => if ok = true then wpAny (MM G) A (eval elt cenv) Y Ef s₄ else N1 s₄) Ef s'

section
variable {G : GC} {n : Nat}

theorem comp_loop {elt target iter : Expr} {ifs : List Expr} {scope : Scope} {pos : Pos} (co : CompOk scope) {W Z wr : Ws} {C D : Addr} {cl : List (Str × Addr)} {env : Env} {vm : Str → Option Value} {lo : Nat} {it : Value} {ds : List PyData} {I : Nat → Heap → Prop}
    {K : Nat → Heap → Prop} {f : PyData → Option PyData} {tg : PyData → Gam} {Γf : Gam} {h0 : Heap} {A : Around} {R : Result → Shared → Prop} {s0 : Shared} (hA : AIn n A) (J : Itr G A target it W lo wr ds I) (hDC : D ≠ C) (hDlo : lo ≤ D) (hClo : lo ≤ C)
    (wrn : ∀ a, wr a → h0.get? a = none) (gt' : ∀ a, lo ≤ a → h0.get? a = none) (ZW : ∀ b, Z b → W b) (N0 : ∀ h, KpB Z h0 h → Nm env h vm)
    (hΓ : ∀ x d, Γf.lookup x = some d → scope.names.lookup x ≠ some .local ∧ ∃ v, vm x = some v ∧ Told W h0 v d) (ok0 : Ok G W h0)
    (hfree : ∀ x, (x, .free) ∈ scope.names → env.kindOf x = some .cell ∨ env.kindOf x = some .free)
    (hc1 : ∀ x c, cl.lookup x = some c → env.cells.lookup x = some c) (hc2 : ∀ x, (x, .free) ∈ scope.names → ∃ c, cl.lookup x = some c)
    (KF : ∀ i h h', K i h → (∀ b o, h0.get? b ≠ none → h.get? b = some o → h'.get? b = some o) → K i h') (KZ : ∀ i h, K i h → ∀ b, Z b → ∃ o, h.get? b = some o)
    (hsz : ds.length ≤ sizeLine) (htl : ∀ d x e, (tg d).lookup x = some e → scope.names.lookup x = some .local)
    (ht : ∀ d ∈ ds, TgtC n G (compEnvC scope cl C env) C target d (tg d))
    (helt : ∀ i d, ds[i]? = some d → EltC G A scope (compEnvC scope cl C env) ifs elt (XC W wr C D) Z vm (tg d ++ Γf) (K i) (K (i + 1)) (f d))
    (hR : ∀ (s : Shared) vs m', s.heap.Ns C m' → s.heap.IsList D vs.toArray → ToldAll (XC W wr C D) s.heap vs (ds.filterMap f) → K ds.length s.heap → KpB Z h0 s.heap → (∃ h' tk, s = { s0 with heap := h', toks := tk }) → R (.ok .next) s) :
    ∀ (rest : List PyData) (i : Nat) (es : List PyData) (vs : List Value) (m : Str → Option Value) (s : Shared), ds.drop i = rest → i ≤ ds.length → es ++ rest.filterMap f = ds.filterMap f → es.length ≤ i → I i s.heap → K i s.heap → s.heap.Ns C m →
      s.heap.IsList D vs.toArray → ToldAll (XC W wr C D) s.heap vs es → KpB Z h0 s.heap → (∃ h' tk, s = { s0 with heap := h', toks := tk }) → codeAny (MM G) A (.compLoop (.ListComp elt [⟨target, iter, ifs, 0⟩] scope pos) 0 it (.ref D) (compEnvC scope cl C env)) R s := by
  have gt : ∀ {a}, lo ≤ a → h0.get? a = none := fun ha => gt' _ ha
  have nD : ¬ wr D := fun w => Nat.lt_irrefl _ (Nat.lt_of_lt_of_le (J.low _ w) hDlo)
  have nC : ¬ wr C := fun w => Nat.lt_irrefl _ (Nat.lt_of_lt_of_le (J.low _ w) hClo)
  have wD : ¬ W D := fun w => by obtain ⟨o, e⟩ := ok0.ex _ w; rw [gt hDlo] at e; cases e
  have wC : ¬ W C := fun w => by obtain ⟨o, e⟩ := ok0.ex _ w; rw [gt hClo] at e; cases e
  have kF : ∀ {i h h'} {Y : Ws}, K i h → KpB Y h h' → (∀ b, Y b → h0.get? b = none) → K i h' := fun kk k hy => KF _ _ _ kk fun b o nb e => k b o (fun y => nb (hy b y)) e
  have offB : ∀ b, h0.get? b = none → G.B.get? b = none := fun b hb => Kp.none ok0.base hb
  have okX : ∀ i h m (xs : Array Value), KpB Z h0 h → K i h → (∀ a, wr a → ∃ o, h.get? a = some o) → h.Ns C m → h.IsList D xs → Ok G (XC W wr C D) h := by
    intro i h m xs k0 kk we hN hL
    refine ⟨fun b o e => k0 b o (fun z => ?_) (ok0.base b o e), fun b hb => ?_, fun b hb => ?_⟩
    · have := ok0.off b (ZW b z); rw [e] at this; cases this
    · rcases hb with hb | hb | rfl | rfl
      · by_cases z : Z b
        · exact KZ _ _ kk b z
        · obtain ⟨o, e⟩ := ok0.ex b hb; exact ⟨o, k0 b o z e⟩
      · exact we b hb
      · obtain ⟨o, e, _⟩ := hL; exact ⟨o, e⟩
      · obtain ⟨o, _, _, e, _⟩ := hN; exact ⟨o, e⟩
    · rcases hb with hb | hb | rfl | rfl
      · exact ok0.off b hb
      · exact offB b (wrn b hb)
      · exact offB _ (gt hDlo)
      · exact offB _ (gt hClo)
  have ZX : ∀ b, Z b → XC W wr C D b := fun b z => .inl (ZW b z)
  intro rest
  induction rest with
  | nil =>
    intro i es vs m s hd hil he hes st kk hN hL hT k0 hs
    have hi : i = ds.length := Nat.le_antisymm hil (drop_nil hd)
    subst hi
    refine comp_turn (J.done s _ _ st fun h' tk k => ?_)
    have e : es = ds.filterMap f := by simpa using he
    obtain ⟨h', tk', rfl⟩ := hs
    refine hR _ vs m (hN.at' fun o e => k C o nC e) (isList_of hL fun o e => k D o nD e) (e ▸ hT.keep (k.mono fun _ x => .inr (.inl x))) (kF kk k wrn) (kp0 k0 k fun b w => .inr (wrn b w)) ⟨_, _, rfl⟩
  | cons d rest ih =>
    intro i es vs m s hd hil he hes st kk hN hL hT k0 hs
    obtain ⟨hd1, hd2⟩ := drop_cons hd
    have hlt : i < ds.length := (List.getElem?_eq_some_iff.mp hd1).1
    have hmem : d ∈ ds := List.mem_of_getElem? hd1
    have ok1 := okX i s.heap m _ k0 kk (J.ex _ _ st) hN hL
    refine comp_turn (J.step i d s _ _ hd1 st fun v h1 t1 k1 st1 T1 => ?_)
    have T1' : Told (XC W wr C D) h1 v d := T1 _ fun b hb => ⟨by
      rcases hb with hb | hb | rfl | rfl
      · exact .inl hb
      · exact .inr (.inl hb)
      · exact .inr (.inr hDlo)
      · exact .inr (.inr hClo), ok1.ex b hb⟩
    have hN1 := hN.at' fun o e => k1 C o nC e
    have hL1 := isList_of hL fun o e => k1 D o nD e
    have hT1 := hT.keep (k1.mono fun _ x => Or.inr (Or.inl x))
    have kk1 := kF kk k1 wrn
    have k01 := kp0 k0 k1 fun b w => .inr (wrn b w)
    refine ht d hmem A hA (XC W wr C D) { s with heap := h1, toks := t1 } v m hN1 T1' (.inr (.inr (.inr rfl))) _ fun h2 t2 m2 k2 hN2 hv2 => ?_
    have hL2 := isList_of hL1 fun o e => k2 D o hDC e
    have hT2 := hT1.keep (k2.mono fun _ x => Or.inr (Or.inr (Or.inr x)))
    have kk2 : K i h2 := kF kk1 k2 fun b hb => hb ▸ gt hClo
    have k02 := kp0 k01 k2 fun b w => .inr (w ▸ gt hClo)
    have st2 : I (i + 1) h2 := J.frame _ _ _ st1 fun b o _ hb e => k2 b o (fun q => by subst q; exact Nat.lt_irrefl _ (Nat.lt_of_lt_of_le hb hClo)) e
    have ok2 := okX i h2 m2 _ k02 kk2 (J.ex _ _ st2) hN2 hL2
    have nm2 := comp_nm co (N0 h2 k02) hN2 hfree hc1 hc2
    refine helt i d hd1 { s with heap := h2, toks := t2 } kk2 ok2 ⟨_, nm2, fun x hx => by rw [if_neg hx], fun x e hx => ?_⟩ _ _ ?_
    · have nz : KpB Z h0 h2 := k02
      cases hb : (tg d).lookup x with
      | some e' =>
        have e1 : (tg d ++ Γf).lookup x = some e' := by rw [List.lookup_append, hb]; rfl
        rw [hx] at e1; cases e1
        obtain ⟨u, hu, tu⟩ := hv2 x _ hb
        exact ⟨u, by rw [if_pos (htl d x _ hb)]; exact hu, tu⟩
      | none =>
        have e1 : Γf.lookup x = some e := by rw [List.lookup_append, hb] at hx; simpa using hx
        obtain ⟨hl, u, hu, tu⟩ := hΓ x e e1
        refine ⟨u, by rw [if_neg hl]; exact hu, ?_⟩
        refine (tu.weaken (W' := XC W wr C D) fun a ha => ?_).keep (k02.mono ZX)
        rcases ha with ha | ha | rfl | rfl
        · exact .inl ha
        · exact .inr (wrn a ha)
        · exact .inr (gt hDlo)
        · exact .inr (gt hClo)
    · have fr : ∀ h3, KpB Z h2 h3 → KpB Z h0 h3 ∧ I (i + 1) h3 ∧ h3.Ns C m2 ∧ h3.IsList D vs.toArray ∧ ToldAll (XC W wr C D) h3 vs es := fun h3 k3 =>
        ⟨kp0 k02 k3 fun b z => .inl z, J.frame _ _ _ st2 fun b o nb _ e => k3 b o (fun z => nb (ZW b z)) e, hN2.at' fun o e => k3 C o (fun z => wC (ZW _ z)) e, isList_of hL2 fun o e => k3 D o (fun z => wD (ZW _ z)) e, hT2.keep (k3.mono ZX)⟩
      obtain ⟨hp, tp, rfl⟩ := hs
      cases hf : f d with
      | none =>
        intro h3 t3 k3 kk3
        obtain ⟨k03, st3, hN3, hL3, hT3⟩ := fr h3 k3
        exact ih (i + 1) es vs m2 _ hd2 hlt (by simpa [List.filterMap_cons, hf] using he) (Nat.le_succ_of_le hes) st3 kk3 hN3 hL3 hT3 k03 ⟨_, _, rfl⟩
      | some e =>
        intro v3 h3 t3 k3 kk3 T3
        obtain ⟨k03, st3, hN3, hL3, hT3⟩ := fr h3 k3
        refine wpAny_list_append hL3 (fun h4 hL4 hs4 => ?_) (by rw [size_arr hT3]; (first | lia | omega))
        have k4 : KpB (fun b => b = D) h3 h4 := kpB_same hs4 _ rfl
        refine ih (i + 1) (es ++ [e]) (vs ++ [v3]) m2 _ hd2 hlt (by simpa [List.filterMap_cons, hf] using he) (by simp; (first | lia | omega)) (J.frame _ _ _ st3 fun b o _ hb e => k4 b o (fun q => by subst q; exact Nat.lt_irrefl _ (Nat.lt_of_lt_of_le hb hDlo)) e)
          (kF kk3 k4 fun b hb => hb ▸ gt hDlo) (hN3.at' fun o e => k4 C o (Ne.symm hDC) e) (by simpa using hL4) ((hT3.snoc T3).keep (k4.mono fun b hb => .inr (.inr (.inl hb)))) (kp0 k03 k4 fun b w => .inr (w ▸ gt hDlo)) ⟨_, _, rfl⟩
end
end Fco

-- FcH
namespace Fco

section
variable {G : GC} {n : Nat}

theorem comp_core {elt target iter : Expr} {ifs : List Expr} {scope : Scope} {pos : Pos} (co : CompOk scope) {W Z : Ws} {cl : List (Str × Addr)} {env : Env} {vm : Str → Option Value} {ds : List PyData}
    {K : Nat → Heap → Prop} {f : PyData → Option PyData} {tg : PyData → Gam} {Γ Γf : Gam} {O : Own} {A : Around} {RR : Value → Addr → Result → Shared → Prop} {E : Value → Shared → Prop} {s : Shared} (hA : AIn n A)
    (S : SE G env Γ O W s.heap) (hsrc : SrcE G n env Γ O target iter ds) (ZW : ∀ b, Z b → W b) (N0 : ∀ h, KpB Z s.heap h → Nm env h vm)
    (hΓ : ∀ x d, Γf.lookup x = some d → scope.names.lookup x ≠ some .local ∧ ∃ v, vm x = some v ∧ Told W s.heap v d)
    (hfree : ∀ x, (x, .free) ∈ scope.names → env.kindOf x = some .cell ∨ env.kindOf x = some .free)
    (hc1 : ∀ x c, cl.lookup x = some c → env.cells.lookup x = some c) (hc2 : ∀ x, (x, .free) ∈ scope.names → ∃ c, cl.lookup x = some c)
    (KF : ∀ i h h', K i h → (∀ b o, s.heap.get? b ≠ none → h.get? b = some o → h'.get? b = some o) → K i h') (KZ : ∀ i h, K i h → ∀ b, Z b → ∃ o, h.get? b = some o) (K0 : K 0 s.heap)
    (hsz : ds.length ≤ sizeLine) (htl : ∀ d x e, (tg d).lookup x = some e → scope.names.lookup x = some .local)
    (ht : ∀ d ∈ ds, ∀ C, TgtC n G (compEnvC scope cl C env) C target d (tg d))
    (helt : ∀ i d, ds[i]? = some d → ∀ wr C D, EltC G A scope (compEnvC scope cl C env) ifs elt (XC W wr C D) Z vm (tg d ++ Γf) (K i) (K (i + 1)) (f d))
    (hR : ∀ C D h' tk vs m', C ≠ D → s.heap.get? C = none → s.heap.get? D = none → h'.Ns C m' → h'.IsList D vs.toArray → ToldAll (fun b => W b ∨ b = D ∨ b = C) h' vs (ds.filterMap f) → K ds.length h' → KpB Z s.heap h' → RR (.ref D) C (.ok .next) { s with heap := h', toks := tk })
    (hEf : ∀ v s, Ef v s → E v s) :
    wpAny (MM G) A (eval iter env) (fun x s₁ => wpAny (MM G) A (pyIter x) (fun it s₂ => wpAny (MM G) A (newList []) (fun acc s₃ =>
      wpAny (MM G) A (newFunctionEnv scope env.globals cl [] env.qual none .none (some env)) (fun cenv s₄ =>
        codeAny (MM G) A (.compStart (.ListComp elt [⟨target, iter, ifs, 0⟩] scope pos) 0 it acc { cenv with scope := relabel scope env }) (RR acc cenv.locals) s₄) E s₃) E s₂) E s₁) E s := by
  refine wpAny_mono (hsrc A hA W s S (fun it s₂ => wpAny (MM G) A (newList []) (fun acc s₃ =>
      wpAny (MM G) A (newFunctionEnv scope env.globals cl [] env.qual none .none (some env)) (fun cenv s₄ =>
        codeAny (MM G) A (.compStart (.ListComp elt [⟨target, iter, ifs, 0⟩] scope pos) 0 it acc { cenv with scope := relabel scope env }) (RR acc cenv.locals) s₄) E s₃) E s₂) fun it wr I h1 t1 k1 wrn J st => ?_) (fun v s1 hh => wpAny_mono hh (fun _ _ q => q) fun _ _ e => e.elim) fun _ _ e => e.elim
  refine wpAny_newObj_type (wpAny_newFunctionEnv co.nocell (by intro y hy; simp at hy) (fun h3 hns3 hsb3 => ?_) co.kind)
  dsimp only at hns3 hsb3 ⊢
  generalize hH2 : h1.push { cls := .type "list", dict := none, data := .seq ([] : List Value).toArray } = h2 at hns3 hsb3 ⊢
  have hsz2 : h2.objs.size = h1.objs.size + 1 := by rw [← hH2, Heap.size_push]
  have hDC : h1.objs.size ≠ h2.objs.size := by rw [hsz2]; exact Nat.ne_of_lt (Nat.lt_succ_self _)
  have k12 : Kp h1 h2 := by rw [← hH2]; exact Kp.push _ _
  have k23 : Kp h2 h3 := fun b o e => hsb3.extBut b o (Nat.ne_of_lt (Heap.lt_size e)) (Heap.get?_push_of_some _ e)
  have k13 := k12.trans k23
  have k3 := k1.trans k13
  have gtn : ∀ {a}, h1.objs.size ≤ a → s.heap.get? a = none := fun ha => Kp.none k1 (none_of_ge ha)
  have hL : h3.IsList h1.objs.size ([] : List Value).toArray := ⟨_, k23 _ _ (by rw [← hH2]; exact Heap.get?_push_size _ rfl), rfl, _, rfl⟩
  have st3 : I 0 h3 := J.frame _ _ _ st fun b o _ _ e => k13 b o e
  have loop : codeAny (MM G) A (.compLoop (.ListComp elt [⟨target, iter, ifs, 0⟩] scope pos) 0 it (.ref h1.objs.size) (compEnvC scope cl h2.objs.size env)) (RR (.ref h1.objs.size) h2.objs.size) { s with heap := h3, toks := t1 + ([] : List (Str × Value)).length } := by
    refine comp_loop (s0 := s) co hA J hDC (Nat.le_refl _) (by rw [hsz2]; exact Nat.le_succ _) wrn (fun a ha => gtn ha) ZW N0 hΓ S.ok hfree hc1 hc2 KF KZ hsz htl (fun d hd => ht d hd _) (fun i d hd => helt i d hd wr _ _) (fun s' vs m' hN' hL' hT' hK' hk' hs' => ?_)
      ds 0 [] [] _ _ (by simp) (Nat.zero_le _) rfl (Nat.le_refl _) st3 (KF _ _ _ K0 fun b o _ e => k3 b o e) hns3 hL .nil (k3.toB _) ⟨_, _, rfl⟩
    obtain ⟨h', tk, rfl⟩ := hs'
    refine hR _ _ h' tk vs m' (Ne.symm hDC) (gtn (by rw [hsz2]; exact Nat.le_succ _)) (gtn (Nat.le_refl _)) hN' hL' (hT'.weaken fun a ha => .inl ?_) hK' hk'
    rcases ha with ha | ha | ha
    · exact .inl ha
    · exact .inr (.inr (.inl ha))
    · exact .inr (.inr (.inr ha))
  exact codeAny_compStart_list loop (wpAny_mono (J.self 0 _ (fun it' s' => codeAny (MM G) A (.compLoop (.ListComp elt [⟨target, iter, ifs, 0⟩] scope pos) 0 it' (.ref h1.objs.size) (compEnvC scope cl h2.objs.size env)) (RR (.ref h1.objs.size) h2.objs.size) s') st3 loop) (fun _ _ q => q) fun _ _ e => e.elim)


/-- the element of a pure comprehension -/
noncomputable def EltE (G : GC) (n : Nat) (env : Env) (scope : Scope) (ifs : List Expr) (elt : Expr) (Γd : Gam) (f : Option PyData) : Prop :=
  ∀ C cl, match ifs, f with
    | [], some e => EvE G n (compEnvC scope cl C env) Γd [] elt e
    | [c], some e => TeE G n (compEnvC scope cl C env) Γd [] c true ∧ EvE G n (compEnvC scope cl C env) Γd [] elt e
    | [c], none => TeE G n (compEnvC scope cl C env) Γd [] c false
    | _, _ => False

theorem elt_of {env : Env} {scope : Scope} {ifs : List Expr} {elt : Expr} {Γd : Gam} {f : Option PyData} (h : EltE G n env scope ifs elt Γd f) {A : Around} (hA : AIn n A) {cl : List (Str × Addr)} {C : Addr} {X : Ws} {vm : Str → Option Value} {K K' : Heap → Prop}
    (hK : ∀ h h', K h → Kp h h' → K' h') : EltC G A scope (compEnvC scope cl C env) ifs elt X (fun _ => False) vm Γd K K' f := by
  intro s' kk ok ⟨vm', N, _, hv⟩ N1 Y hY
  have S : SE G (compEnvC scope cl C env) Γd [] X s'.heap := ⟨ok, vm', N, hv, fun x pl ds e => by cases e⟩
  have hE := h C cl
  unfold EltE at h
  cases ifs with
  | nil =>
    cases f with
    | none => exact hE.elim
    | some e => exact wpAny_tests_nil (by rw [if_pos rfl]; exact hE A hA X s' S _ fun v h' tk k T => hY v h' tk (k.toB _) (hK _ _ kk k) T)
  | cons c r =>
    cases r with
    | cons _ _ => cases f <;> exact hE.elim
    | nil =>
      cases f with
      | some e =>
        refine wpAny_tests_one (hE.1 A hA X s' S _ fun h1 t1 k1 => ?_)
        rw [if_pos rfl]
        exact hE.2 A hA X { s' with heap := h1, toks := t1 } (S.kp k1) _ fun v h' tk k T => hY v h' tk ((k1.trans k).toB _) (hK _ _ kk (k1.trans k)) T
      | none =>
        refine wpAny_tests_one (hE A hA X s' S _ fun h1 t1 k1 => ?_)
        rw [if_neg (by decide)]
        exact hY h1 t1 (k1.toB _) (hK _ _ kk k1)

structure CompH (G : GC) (n : Nat) (env : Env) (Γ : Gam) (O : Own) (elt target iter : Expr) (ifs : List Expr) (scope : Scope) (ds : List PyData) (f : PyData → Option PyData) : Prop where
  co : CompOk scope
  src : SrcE G n env Γ O target iter ds
  fre : ∀ x, (x, .free) ∈ scope.names → env.kindOf x = some .cell ∨ env.kindOf x = some .free
  sz : ds.length ≤ sizeLine
  fold : ∀ x, foldedSetIterable iter env x = pure x
  el : ∃ (tg : PyData → Gam) (Γf : Gam), (∀ x d, Γf.lookup x = some d → scope.names.lookup x ≠ some .local ∧ Γ.lookup x = some d) ∧ (∀ d x e, (tg d).lookup x = some e → scope.names.lookup x = some .local) ∧
    (∀ d ∈ ds, ∀ C cl, TgtC n G (compEnvC scope cl C env) C target d (tg d)) ∧ (∀ d ∈ ds, EltE G n env scope ifs elt (tg d ++ Γf) (f d))

theorem comp_pure {elt target iter : Expr} {ifs : List Expr} {scope : Scope} {pos : Pos} {env : Env} {ds : List PyData} {f : PyData → Option PyData} {Γ : Gam} {O : Own} (H : CompH G n env Γ O elt target iter ifs scope ds f)
    {A : Around} (hA : AIn n A) {W : Ws} {s : Shared} (S : SE G env Γ O W s.heap) {RR : Value → Addr → Result → Shared → Prop}
    (hR : ∀ C D h' tk vs m', C ≠ D → s.heap.get? C = none → s.heap.get? D = none → h'.Ns C m' → h'.IsList D vs.toArray → ToldAll (fun b => W b ∨ b = D ∨ b = C) h' vs (ds.filterMap f) → Kp s.heap h' → RR (.ref D) C (.ok .next) { s with heap := h', toks := tk }) :
    ∃ cl, closureFor scope env = pure cl ∧ wpAny (MM G) A (eval iter env) (fun x s₁ => wpAny (MM G) A (pyIter x) (fun it s₂ => wpAny (MM G) A (newList []) (fun acc s₃ =>
      wpAny (MM G) A (newFunctionEnv scope env.globals cl [] env.qual none .none (some env)) (fun cenv s₄ =>
        codeAny (MM G) A (.compStart (.ListComp elt [⟨target, iter, ifs, 0⟩] scope pos) 0 it acc { cenv with scope := relabel scope env }) (RR acc cenv.locals) s₄) Ef s₃) Ef s₂) Ef s₁) Ef s := by
  obtain ⟨vm, N, hv, _⟩ := S.nm
  obtain ⟨tg, Γf, hΓf, htl, ht, hel⟩ := H.el
  obtain ⟨cl, e, hc1, hc2⟩ := clos_of (scope := scope) (env := env) fun x hx => N.has x (H.fre x hx)
  refine ⟨cl, e, ?_⟩
  refine comp_core (Z := fun _ => False) (K := fun _ _ => True) (Γf := Γf) H.co hA S H.src (fun _ h => h.elim) (fun h k => N.kp fun b o e => k b o id e) (fun x d hx => ?_) H.fre hc1 hc2 (fun _ _ _ _ _ => trivial) (fun _ _ _ _ h => h.elim) trivial H.sz htl (fun d hd C => ht d hd C cl)
    (fun i d hd wr C D => elt_of (hel d (List.mem_of_getElem? hd)) hA fun _ _ _ _ => trivial) (fun C D h' tk vs m' hCD hC hD hN hL hT _ k => hR C D h' tk vs m' hCD hC hD hN hL hT fun b o e => k b o id e) fun _ _ e => e
  obtain ⟨hl, hg⟩ := hΓf x d hx
  obtain ⟨v, hv1, hv2⟩ := hv x d hg
  exact ⟨hl, v, hv1, hv2⟩

theorem ev_comp {elt target iter : Expr} {ifs : List Expr} {scope : Scope} {pos : Pos} {env : Env} {ds : List PyData} {f : PyData → Option PyData} {Γ : Gam} {O : Own} (H : CompH G n env Γ O elt target iter ifs scope ds f) :
    EvE G n env Γ O (.ListComp elt [⟨target, iter, ifs, 0⟩] scope pos) (.list (ds.filterMap f)) := by
  intro A hA W s S Q h
  obtain ⟨cl, e, hh⟩ := comp_pure (pos := pos) H hA S (RR := fun acc C => compPost (MM G) A Ef none Q acc C) (fun C D h' tk vs m' hCD hC hD hN hL hT k => ⟨m', hN, fun h'' hs => by
    have k2 : KpB (fun b => b = C) h' h'' := kpB_same hs _ rfl
    refine h (.ref D) h'' tk (fun b o e => k2 b o (fun q => by subst q; rw [hC] at e; cases e) (k b o e)) (.list (fun w => ?_) (isList_of hL fun o e => k2 D o (Ne.symm hCD) e) ((hT.keep (k2.mono fun b hb => .inr (.inr hb))).weaken fun a ha => .inl (.inl ha)))
    obtain ⟨o, e⟩ := S.ok.ex D w; rw [hD] at e; cases e⟩)
  rw [eval_ListComp]
  exact wpAny_comprehension_free (use := none) rfl H.fold e H.co.kind H.co.names hh

theorem ex_assign_comp {fx : Bool} {nm : Str} {sc : Scope} {x : Str} {xp pos spos : Pos} {elt target iter : Expr} {ifs : List Expr} {scope : Scope} {ds : List PyData} {f : PyData → Option PyData} {Γ : Gam} {O : Own}
    (H : ∀ L a cd, CompH G n (envOfC nm sc L a cd) Γ O elt target iter ifs scope ds f)
    (hsw : ∀ L a cd, swapsWith (.ListComp elt [⟨target, iter, ifs, 0⟩] scope pos) (some (.Name x xp)) spos.line (envOfC nm sc L a cd) = pure true) (hk : sc.names.lookup x = some .local ∨ sc.names.lookup x = some .cell) (hO : O.lookup x = none) :
    Ex1 G fx n nm sc (.Assign [.Name x xp] (.ListComp elt [⟨target, iter, ifs, 0⟩] scope pos) spos) Γ O (.next ((x, .list (ds.filterMap f)) :: Γ) O) := by
  intro A hA L a cd W oa s S Q h
  rw [exec_Assign_Name_used _ _ _ _ (hsw L a cd)]
  refine wpAny_bind (wpAny_standAt (wpAny_bind ?_))
  show wpAny _ A (do let _ ← comprehension (.ListComp elt [⟨target, iter, ifs, 0⟩] scope pos) scope _ _ (newList []) false (eval iter _) (some (assign (.Name x xp) _))) _ _ s
  obtain ⟨cl, e, hh⟩ := comp_pure (pos := pos) (H L a cd) hA S.se (RR := fun acc C => compPost (MM G) A Ef (some (assign (.Name x xp) (envOfC nm sc L a cd))) (fun _ s' => Q .next s') acc C) (fun C D h' tk vs m' hCD hC hD hN hL hT k => by
    have S1 : St G sc L Γ O oa (fun b => b = C ∨ W b) h' := S.wider k (fun b hb => by subst hb; exact hC) (fun b hb => by subst hb; obtain ⟨o, _, _, e, _⟩ := hN; exact ⟨o, e⟩)
    have nF : ∀ b, s.heap.get? b = none → ¬ FW sc L oa W b := fun b hb hw => by obtain ⟨o, e⟩ := S.ok.ex b hw; rw [hb] at e; cases e
    have T1 : Told (FW sc L oa (fun b => b = C ∨ W b)) h' (.ref D) (.list (ds.filterMap f)) := by
      refine .list (fun w => ?_) hL (hT.weaken fun b hb => .inl ?_)
      · rcases w with w | w | w | w
        · exact nF D hD (.inl w)
        · exact nF D hD (.inr (.inl w))
        · exact hCD w.symm
        · exact nF D hD (.inr (.inr w))
      · rcases hb with w | w | w | w
        · exact .inl (.inl w)
        · exact .inl (.inr (.inl w))
        · exact .inr (.inr w)
        · exact .inl (.inr (.inr w))
    show wpAny _ A (assign (.Name x xp) _ (.ref D)) _ _ _
    refine wpAny_assign_Name (store_ok (s := { s with heap := h', toks := tk }) S1 T1 hk hO fun h2 t2 k2 S2 => ?_)
    have nMC : ¬ Mu sc L C := fun m => nF C hC (.inl m)
    refine ⟨m', hN.at' fun o e => k2 C o nMC e, fun h3 hs3 => ?_⟩
    have k3 : KpB (fun b => b = C) h2 h3 := kpB_same hs3 _ rfl
    have S3 := S2.drop k3 fun b hb w => nF C hC (.inr (.inr (hb ▸ w)))
    refine h .next h3 t2 ⟨fun b o nb e => k3 b o (fun q => by subst q; rw [hC] at e; cases e) (k2 b o (fun m => nb (.inl m)) (k b o e)), rfl, oa, fun _ x => .inl x, S3⟩)
  refine wpAny_bind (wpAny_mono (wpAny_comprehension_free (use := some (assign (.Name x xp) (envOfC nm sc L a cd))) (Q := fun _ s' => Q .next s') rfl (H L a cd).fold e (H L a cd).co.kind (H L a cd).co.names hh) (fun _ s' hq => wpAny_pure (wpAny_pure hq)) fun _ _ e => e)

-- a comprehension's targets
theorem tgtC_name {scope : Scope} {cl : List (Str × Addr)} {C : Addr} {env : Env} {x : Str} {xp : Pos} {d : PyData} (co : CompOk scope) (hx : scope.names.lookup x = some .local) : TgtC n G (compEnvC scope cl C env) C (.Name x xp) d [(x, d)] := by
  intro A hA X s v m hN T hXC Q h
  refine wpAny_assign_Name (wpAny_storeName_local (env := compEnvC scope cl C env) (lookup_relabel_local hx) hN (fun h' hN' hs => ?_) (by simp [compEnvC, relabel, co.kind]))
  have k : KpB (fun b => b = C) s.heap h' := kpB_same hs _ rfl
  refine h h' _ _ k hN' fun y e hy => ?_
  by_cases hxy : y = x
  · subst hxy
    simp only [List.lookup_cons, beq_self_eq_true, Option.some.injEq] at hy
    subst hy
    exact ⟨v, by simp, T.keep (k.mono fun b hb => hb ▸ hXC)⟩
  · have : (y == x) = false := by simpa using hxy
    simp [List.lookup_cons, this] at hy

theorem tgtC_names {scope : Scope} {cl : List (Str × Addr)} {C : Addr} {env : Env} (co : CompOk scope) {xs : List Str} (hk : ∀ x ∈ xs, scope.names.lookup x = some .local) : ∀ (xs' : List Str) (ps : List Pos) (ds : List PyData) (vs : List Value) (tg : Gam), (∀ x ∈ xs', x ∈ xs) → xs'.length = vs.length → xs'.length = ps.length →
    ∀ A, AIn n A → ∀ X s m, s.heap.Ns C m → ToldAll X s.heap vs ds → X C → (∀ x e, tg.lookup x = some e → ∃ u, m x = some u ∧ Told X s.heap u e) → ∀ Q : Unit → Shared → Prop,
    (∀ h' tk m', KpB (fun b => b = C) s.heap h' → h'.Ns C m' → (∀ x e, (StoreL xs' ds tg).lookup x = some e → ∃ u, m' x = some u ∧ Told X h' u e) → Q () { s with heap := h', toks := tk }) →
    wpAny (MM G) A (assignInOrder ((xs'.zip ps).map fun p => assign (.Name p.1 p.2) (compEnvC scope cl C env)) vs) Q Ef s
  | [], _, ds, vs, tg, _, hl, _, A, hA, X, s, m, hN, T, hXC, hv, Q, h => by
    cases vs with
    | cons _ _ => cases hl
    | nil => cases T; exact wpAny_pure (h s.heap s.toks m (KpB.refl _ _) hN hv)
  | x :: xs', ps, ds, vs, tg, hs, hl, hp, A, hA, X, s, m, hN, T, hXC, hv, Q, h => by
    cases vs with
    | nil => cases hl
    | cons v vs =>
      cases ps with
      | nil => cases hp
      | cons p ps =>
        cases T with
        | cons t r =>
          rename_i d ds
          have hx := hk x (hs x (.head _))
          show wpAny _ _ (do holding vs (assign (.Name x p) _ v); assignInOrder _ vs) _ _ _
          refine wpAny_bind (wpAny_holding (wpAny_assign_Name (wpAny_storeName_local (env := compEnvC scope cl C env) (lookup_relabel_local hx) hN (fun h1 hN1 hs1 => ?_) (by simp [compEnvC, relabel, co.kind]))))
          have k1 : KpB (fun b => b = C) s.heap h1 := kpB_same hs1 _ rfl
          have kX := k1.mono (W' := X) fun b hb => hb ▸ hXC
          refine tgtC_names co hk xs' ps ds vs ((x, d) :: tg) (fun y hy => hs y (.tail _ hy)) (by simpa using hl) (by simpa using hp) A hA X _ _ hN1 (r.keep kX) hXC (fun y e hy => ?_) _ fun h2 t2 m2 k2 hN2 hv2 => ?_
          · by_cases hxy : y = x
            · subst hxy
              simp only [List.lookup_cons, beq_self_eq_true, Option.some.injEq] at hy
              subst hy
              exact ⟨v, by simp, t.keep kX⟩
            · have hb : (y == x) = false := by simpa using hxy
              simp only [List.lookup_cons, hb] at hy
              obtain ⟨u, hu, tu⟩ := hv y e hy
              exact ⟨u, by simpa [hxy] using hu, tu.keep kX⟩
          · refine h h2 t2 m2 (k1.trans k2) hN2 ?_
            have : StoreL (x :: xs') (d :: ds) tg = StoreL xs' ds ((x, d) :: tg) := by simp [StoreL]
            rw [this]; exact hv2

theorem tgtC_tuple {scope : Scope} {cl : List (Str × Addr)} {C : Addr} {env : Env} (co : CompOk scope) {elts : List Expr} {kn : Nat} {tp : Pos} {xs : List Str} {ps : List Pos} {ds : List PyData} (hk : ∀ x ∈ xs, scope.names.lookup x = some .local)
    (hl : xs.length = ds.length) (hp : xs.length = ps.length) (ha : assignEach elts (compEnvC scope cl C env) = (xs.zip ps).map fun p => (false, assign (.Name p.1 p.2) (compEnvC scope cl C env))) :
    TgtC n G (compEnvC scope cl C env) C (.Tuple elts kn tp) (.tuple ds) (StoreL xs ds []) := by
  intro A hA X s v m hN T hXC Q h
  cases T with
  | tuple nw l q =>
    rename_i ax vs
    have hlen : ((xs.zip ps).map fun p => (false, assign (.Name p.1 p.2) (compEnvC scope cl C env))).length = vs.toArray.size := by
      simp [hp.symm, hl, q.length]
    refine wpAny_assign_Tuple hA.hh l (by rw [ha]; exact hlen) ?_ fun h1 hx => ?_
    · rw [ha, List.findIdx?_eq_none_iff]; intro p hp; simp only [List.mem_map] at hp; obtain ⟨_, _, rfl⟩ := hp; rfl
    · rw [ha]
      have k1 : Kp s.heap h1 := fun b o e => hx b o (Nat.ne_of_lt (Heap.lt_size e)) e
      have e : (((xs.zip ps).map fun p => (false, assign (.Name p.1 p.2) (compEnvC scope cl C env))).map (·.2)) = (xs.zip ps).map fun p => assign (.Name p.1 p.2) (compEnvC scope cl C env) := by simp
      rw [e]
      refine tgtC_names co hk xs ps ds vs [] (fun _ h => h) (by rw [q.length]; exact hl) hp A hA X { s with heap := h1 } m (hN.keeps k1) (q.kp k1) hXC (fun x e hx => by cases hx) Q fun h2 t2 m2 k2 hN2 hv2 => h h2 t2 m2 ((k1.toB _).trans k2) hN2 hv2
end
end Fco

-- FcI
namespace Fco

/-- a list made anew -/
noncomputable def EvF (G : GC) (n : Nat) (env : Env) (Γ : Gam) (O : Own) (pl : Bool) (e : Expr) (ds : List PyData) : Prop :=
  ∀ A, AIn n A → ∀ W s, SE G env Γ O W s.heap → ∀ Q : Value → Shared → Prop,
    (∀ b vs h' tk, Kp s.heap h' → s.heap.get? b = none → OwnL pl h' b vs.toArray → ToldAll (fun a => W a ∨ a = b) h' vs ds → Q (.ref b) { s with heap := h', toks := tk }) → wpAny (MM G) A (eval e env) Q Ef s

section
variable {G : GC} {n : Nat} {env : Env} {Γ : Gam} {O : Own}

theorem evf_list {es : List Expr} {pos : Pos} {ds : List PyData} (hes : EvL G n env Γ O es ds) (hsz : ds.length ≤ sizeLine) : EvF G n env Γ O true (.List es pos) ds := by
  intro A hA W s S Q h
  refine wpAny_List_spliced (hes pos A hA W s S _ fun vs h1 t1 k1 T1 => ⟨by rw [T1.length]; exact hsz, ?_⟩)
  refine h _ vs _ _ (k1.trans (Kp.push _ _)) (Kp.none k1 (none_of_ge (Nat.le_refl _))) ⟨⟨_, Heap.get?_push_size _ rfl, rfl, _, rfl⟩, fun _ => ⟨_, _, Heap.get?_push_size _ rfl, rfl, rfl, rfl⟩⟩ ((T1.weaken (W' := fun a => W a ∨ a = h1.objs.size) fun a ha => ha.imp id fun e => e ▸ none_of_ge (Nat.le_refl _)).kp (Kp.push _ _))

theorem evf_rep {e r : Expr} {lp pos : Pos} {d : PyData} {k : Int} (he : EvE G n env Γ O e d) (hr : EvE G n env Γ O r (.int k)) (hs : starEach [e] env = [(false, eval e env)]) (hk : k ≤ 2 ^ 24) (hk' : -(2 ^ 63 : Int) ≤ k) :
    EvF G n env Γ O false (.BinOp (.List [e] lp) .Mult r pos) (List.replicate k.toNat d) := by
  intro A hA W s S Q h
  refine wpAny_BinOp (wpAny_List_spliced (args_cons (rest := []) (he A hA W s S _ fun v h1 t1 k1 T1 => args_nil ⟨by show 1 ≤ sizeLine; decide, ?_⟩) (by rw [hs]; rfl)))
  have up := Kp.push h1 { cls := .type "list", data := .seq [v].toArray }
  refine hr A hA W _ (S.kp (k1.trans up)) _ fun kv h2 t2 k2 T2 => ?_
  obtain ⟨tk0, rfl⟩ : ∃ tk0, kv = .int k tk0 := by cases T2; exact ⟨_, rfl⟩
  clear T2
  have hl : h2.get? h1.objs.size = some { cls := .type "list", dict := none, data := .seq [v].toArray 0, slots := #[] } := k2 _ _ (Heap.get?_push_size _ rfl)
  have K := (k1.trans up).trans k2
  have T2 : Told W h2 v d := (T1.kp up).kp k2
  have hz : ([v].toArray.size * k.toNat : Nat) ≤ 2 ^ 24 := by
    have e : [v].toArray.size = 1 := rfl
    rw [e]; (first | lia | omega)
  have hz1 : ¬ ([v].toArray.size * k.toNat : Nat) > (2 ^ 63 - 1) / 8 := by
    have : (2 ^ 63 - 1) / 8 = 1152921504606846975 := by decide
    rw [this]; (first | lia | omega)
  have hz2 : ¬ (!Builtin.List.listFitsIndex k) = true := by
    simp [Builtin.List.listFitsIndex]; (first | lia | omega)
  have hz3 : ¬ Builtin.List.listTooLong ([v].toArray.size * k.toNat) = true := by
    simp [Builtin.List.listTooLong, sizeLine] at hz ⊢; (first | lia | omega)
  refine wpAny_binaryOp_repeat_ref (T := "list") (U := "int") (by decide) ⟨_, hl, rfl⟩ (fun s' => typeIs_int s' k tk0) noFill_list_mul PySem.F.fills_int_mul PySem.F.slot_int_rmul repeat_list PySem.F.slot_int_index.lookup
    (call_meets PySem.F.slot_int_rmul (typeIs_int _ k tk0) PySem.F.entry_int_rmul (PySem.F.args_int_rmul_2 _ _) (int___rmul___int_list k tk0 h1.objs.size [v].toArray 0)
      ⟨hl, rfl, ⟨_, hl, rfl⟩, call_meets PySem.F.slot_list_mul ⟨_, hl, rfl⟩ PySem.F.entry_list_mul (PySem.F.args_list_mul_2 _ _)
        (AutoListH.list___mul___list_int_3 h1.objs.size [v].toArray 0 k tk0 hz2 hz1 hz3)
        ⟨hl, ?_⟩⟩)
  refine h _ (List.replicate k.toNat v) _ _ (K.trans (Kp.push _ _)) (Kp.none K (none_of_ge (Nat.le_refl _))) ⟨⟨_, Heap.get?_push_size _ rfl, rfl, 0, ?_⟩, fun q => by cases q⟩ (((ToldAll.replicate T2 _).weaken (W' := fun a => W a ∨ a = h2.objs.size) fun a ha => ha.imp id fun e => e ▸ none_of_ge (Nat.le_refl _)).kp (Kp.push _ _))
  have e1 : ([v].toArray.isEmpty = true) = False := by simp
  simp only [e1, if_false]
  rw [foldl_rep [v] k.toNat #[]]
  simp
end

section
variable {G : GC} {fx : Bool} {n : Nat} {nm : Str} {sc : Scope} {Γ Γ1 : Gam} {O O1 : Own} {out : Out}

theorem St.newOwn {L : Addr} {W : Ws} {h : Heap} (S : St G sc L Γ [] (fun _ => False) W h) {h' : Heap} (k : Kp h h') {b : Addr} (hb : h.get? b = none) (hx : ∃ o, h'.get? b = some o) : St G sc L Γ [] (fun a => a = b) W h' := by
  have S' := S.kp k
  obtain ⟨m, cm, ns, cl, c, d⟩ := S.fm
  have nF : ∀ oa, ¬ FW sc L oa W b → True := fun _ _ => trivial
  have nb : ¬ Mu sc L b ∧ ¬ W b := by
    constructor
    · intro w; obtain ⟨o, e⟩ := S.ok.ex b (.inl w); rw [hb] at e; cases e
    · intro w; obtain ⟨o, e⟩ := S.ok.ex b (.inr (.inr w)); rw [hb] at e; cases e
  have dn : ∀ a, FW sc L (fun a => a = b) W a → FW sc L (fun _ => False) W a ∨ a = b := fun a ha => by
    rcases ha with h | h | h
    · exact .inl (.inl h)
    · exact .inr h
    · exact .inl (.inr (.inr h))
  refine ⟨S.scok, ⟨m, cm, ns.keeps k, cl.keeps k, fun y e hy => let ⟨v, p, q⟩ := c y e hy; ⟨v, p, (q.weaken fun a ha => (dn a ha).imp id fun e => e ▸ hb).kp k⟩, fun y pl es hy => by cases hy⟩,
    ⟨S'.ok.base, fun a ha => (dn a ha).elim (S'.ok.ex a) fun e => e ▸ hx, fun a ha => (dn a ha).elim (S'.ok.off a) fun e => e ▸ Kp.none S.ok.base hb⟩, fun a ha => ha ▸ nb.1, fun a ha => ⟨(S.wL a ha).1, fun e => nb.2 (e ▸ ha)⟩⟩

/-- the own list's name stored -/
theorem store_own {L a : Addr} {cd : Value} {W : Ws} {A : Around} {s : Shared} {b : Addr} (S : St G sc L Γ [] (fun a => a = b) W s.heap) {x : Str} {vs : List Value} {ds : List PyData} {pl : Bool} (l : OwnL pl s.heap b vs.toArray) (T : ToldAll (FW sc L (fun a => a = b) W) s.heap vs ds) {Q : Unit → Shared → Prop}
    (hk : sc.names.lookup x = some .local ∨ sc.names.lookup x = some .cell) (hG : Γ.lookup x = none)
    (h : ∀ h' tk, KpB (Mu sc L) s.heap h' → St G sc L Γ [(x, (pl, ds))] (fun a => a = b) W h' → Q () { s with heap := h', toks := tk }) :
    wpAny (MM G) A (storeName (envOfC nm sc L a cd) x (.ref b)) Q Ef s := by
  obtain ⟨m, cm, ns, cl, c, _⟩ := S.fm
  refine store_core S.scok ns cl S.ok hk fun h' tk m' cm' k ns' cl' hv ok' => h h' tk k ⟨S.scok, ⟨m', cm', ns', cl', fun y e hy => ?_, fun y pl' es hy => ?_⟩, ok', S.oL, S.wL⟩
  · have kf := k.mono (Mu.fw (sc := sc) (L := L) (oa := fun a => a = b) (W := W))
    rw [hv y]
    have e1 : y ≠ x := fun e => by subst e; rw [hG] at hy; cases hy
    obtain ⟨u, p, q⟩ := c y e hy
    exact ⟨u, by simpa [e1] using p, q.keep kf⟩
  · have kf := k.mono (Mu.fw (sc := sc) (L := L) (oa := fun a => a = b) (W := W))
    by_cases e1 : y = x
    · subst e1
      simp only [List.lookup_cons, beq_self_eq_true, Option.some.injEq, Prod.mk.injEq] at hy
      obtain ⟨rfl, rfl⟩ := hy
      exact ⟨b, vs, by rw [hv]; simp, rfl, l.of fun o e => k b o (S.oL b rfl) e, T.keep kf⟩
    · have hb : (y == x) = false := by simpa using e1
      simp [List.lookup_cons, hb] at hy

/-- St with no own list stands with none of their addresses -/
theorem St.noOwn {L : Addr} {oa W : Ws} {h : Heap} (S : St G sc L Γ [] oa W h) : St G sc L Γ [] (fun _ => False) W h := by
  obtain ⟨m, cm, ns, cl, c, _⟩ := S.fm
  have up : ∀ a, FW sc L (fun _ => False) W a → FW sc L oa W a := fun a ha => ha.elim .inl fun x => .inr (x.elim (fun f => f.elim) .inr)
  exact ⟨S.scok, ⟨m, cm, ns, cl, fun y e hy => let ⟨v, p, q⟩ := c y e hy; ⟨v, p, q.weaken fun a ha => .inl (up a ha)⟩, fun y pl es hy => by cases hy⟩, ⟨S.ok.base, fun a ha => S.ok.ex a (up a ha), fun a ha => S.ok.off a (up a ha)⟩, fun _ h => h.elim, fun b hb => ⟨(S.wL b hb).1, id⟩⟩

theorem ex_assignF {x : Str} {xp pos : Pos} {value : Expr} {pl : Bool} {ds : List PyData} (hv : ∀ L a cd, EvF G n (envOfC nm sc L a cd) Γ [] pl value ds) (hk : sc.names.lookup x = some .local ∨ sc.names.lookup x = some .cell) (hG : Γ.lookup x = none)
    (hs : ∀ L a cd, swapsWith value (some (.Name x xp)) pos.line (envOfC nm sc L a cd) = pure false) : Ex1 G false n nm sc (.Assign [.Name x xp] value pos) Γ [] (.next Γ [(x, (pl, ds))]) := by
  intro A hA L a cd W oa s S Q h
  have S0 := S.noOwn
  refine wpAny_Assign_Name (hv L a cd A hA _ s S0.se _ fun b vs h1 t1 k1 hb l T1 => ?_) (hs L a cd)
  have hx : ∃ o, h1.get? b = some o := by obtain ⟨⟨o, e, _⟩, _⟩ := l; exact ⟨o, e⟩
  have S1 := S0.newOwn k1 hb hx
  have T3 : ToldAll (FW sc L (fun a => a = b) W) h1 vs ds := T1.weaken fun a ha => .inl <| by
    rcases ha with h | h | h
    · exact .inl (.inl h)
    · exact .inr h
    · exact .inl (.inr (.inr h))
  exact store_own (s := { s with heap := h1, toks := t1 }) S1 l T3 hk hG fun h2 t2 k2 S2 => h .next h2 t2 (post_trans (oa1 := fun a => a = b) (k1.toB _) (fun a e => .inr ⟨rfl, e ▸ hb⟩) (post_next k2 S2))

/-- x, y = e1, e2: the second a list made anew -/
theorem ex_assignS2F {elts : List Expr} {kn kv : Nat} {tp vp pos : Pos} {e1 e2 : Expr} {x y : Str} {d : PyData} {pl : Bool} {ds : List PyData} (h1 : ∀ L a cd, EvE G n (envOfC nm sc L a cd) Γ [] e1 d) (h2 : ∀ L a cd, EvF G n (envOfC nm sc L a cd) Γ [] pl e2 ds)
    (hkx : sc.names.lookup x = some .local ∨ sc.names.lookup x = some .cell) (hky : sc.names.lookup y = some .local ∨ sc.names.lookup y = some .cell) (hG : Γ.lookup y = none) (hxy : x ≠ y)
    (hst : ∀ L a cd, starEach [e1, e2] (envOfC nm sc L a cd) = [(false, eval e1 (envOfC nm sc L a cd)), (false, eval e2 (envOfC nm sc L a cd))])
    (hst2 : ∀ L a cd, starEach [e2] (envOfC nm sc L a cd) = [(false, eval e2 (envOfC nm sc L a cd))])
    (hs : ∀ L a cd, swapsWithSole [.Tuple elts kn tp] (.Tuple [e1, e2] kv vp) pos.line (envOfC nm sc L a cd) = pure false) (hw : ∀ L a cd, swappedStores [.Tuple elts kn tp] (.Tuple [e1, e2] kv vp) (envOfC nm sc L a cd) = pure (some [x, y])) :
    Ex1 G false n nm sc (.Assign [.Tuple elts kn tp] (.Tuple [e1, e2] kv vp) pos) Γ [] (.next ((x, d) :: Γ) [(y, (pl, ds))]) := by
  intro A hA L a cd W oa s S Q h
  have S0 := S.noOwn
  refine Assign_Tuple_swapped (wpAny_Tuple_spliced (args_cons (h1 L a cd A hA _ s S0.se _ fun v1 g1 t1 k1 T1 => args_cons (rest := []) (h2 L a cd A hA _ _ (S0.kp k1).se _ fun b vs g2 t2 k2 hb l T2 => args_nil ⟨by show 2 ≤ sizeLine; decide, ?_⟩) (by rw [hst2]; rfl)) (by rw [hst, hst2]))) (hs L a cd) (hw L a cd)
  refine wpAny_unpackItems_tuple (items := [v1, .ref b].toArray) hA.hh ⟨_, Heap.get?_push_size _ rfl, rfl, _, rfl⟩ fun g3 hx => ?_
  have k3 : Kp g2 g3 := fun b o e => hx b o (Nat.ne_of_lt (Heap.lt_size (Heap.get?_push_of_some _ e))) (Heap.get?_push_of_some _ e)
  have k12 := k1.trans k2
  have hb0 : s.heap.get? b = none := Kp.none k1 hb
  have l3 := l.of fun o => k3 b o
  have hx3 : ∃ o, g3.get? b = some o := by obtain ⟨⟨o, e, _⟩, _⟩ := l3; exact ⟨o, e⟩
  have S3 := S0.newOwn (k12.trans k3) hb0 hx3
  have T3 : ToldAll (FW sc L (fun a => a = b) W) g3 vs ds := (T2.weaken fun a ha => .inl <| by
    rcases ha with h | h | h
    · exact .inl (.inl h)
    · exact .inr h
    · exact .inl (.inr (.inr h))).kp k3
  have Tx : Told (FW sc L (fun a => a = b) W) g3 v1 d := ((T1.weaken fun a ha => by
    rcases ha with h | h | h
    · exact .inl (.inl h)
    · exact .inr (h ▸ hb)
    · exact .inl (.inr (.inr h))).kp k2).kp k3
  have hOx : List.lookup x [(y, (pl, ds))] = none := by
    have q : (x == y) = false := by simpa using hxy
    simp [List.lookup_cons, q]
  have step : wpAny (MM G) A (assignInOrder [bindName (envOfC nm sc L a cd) y, bindName (envOfC nm sc L a cd) x] [.ref b, v1]) (fun _ s' => Q .next s') Ef { s with heap := g3, toks := t2 } := by
    unfold assignInOrder
    refine wpAny_bind (wpAny_holding (wpAny_bindName (store_own (s := { s with heap := g3, toks := t2 }) S3 l3 T3 hky hG fun g4 t4 k4 S4 => ?_)))
    unfold assignInOrder
    refine wpAny_bind (wpAny_holding (wpAny_bindName (store_ok (s := { s with heap := g4, toks := t4 }) S4 (Tx.keep (k4.mono Mu.fw)) hkx hOx fun g5 t5 k5 S5 => wpAny_pure ?_)))
    exact h .next g5 t5 (post_trans (oa1 := fun a => a = b) ((k12.trans k3).toB _) (fun a e => .inr ⟨rfl, e ▸ hb0⟩) (post_next (k4.trans k5) S5))
  exact step

/-- no more stores into the own list -/
theorem exs_freeze {ss : List Stmt} {x : Str} {pl : Bool} {ds : List PyData} (h : ExS G fx n nm sc ss ((x, .list ds) :: Γ) [] out) : ExS G fx n nm sc ss Γ [(x, (pl, ds))] out := by
  intro A hA L a cd W oa s S Q hQ
  have S1 : St G sc L ((x, .list ds) :: Γ) [] (fun _ => False) W s.heap := by
    obtain ⟨m, cm, ns, cl, c, d⟩ := S.fm
    have up : ∀ a, FW sc L (fun _ => False) W a → FW sc L oa W a := fun a ha => ha.elim .inl fun x => .inr (x.elim (fun f => f.elim) .inr)
    refine ⟨S.scok, ⟨m, cm, ns, cl, fun y e hy => ?_, fun y pl es hy => by cases hy⟩, ⟨S.ok.base, fun a ha => S.ok.ex a (up a ha), fun a ha => S.ok.off a (up a ha)⟩, fun _ h => h.elim, fun b hb => ⟨(S.wL b hb).1, id⟩⟩
    by_cases e1 : y = x
    · subst e1
      simp only [List.lookup_cons, beq_self_eq_true, Option.some.injEq] at hy
      subst hy
      obtain ⟨b, vs, p, ob, l, t⟩ := d y pl ds (by simp)
      refine ⟨_, p, .list (fun w => ?_) l.1 (t.weaken fun a ha => .inl (up a ha))⟩
      rcases w with w | w | w
      · exact S.oL b ob w
      · exact w
      · exact (S.wL b w).2 ob
    · have hb : (y == x) = false := by simpa using e1
      simp only [List.lookup_cons, hb] at hy
      obtain ⟨v, p, q⟩ := c y e hy
      exact ⟨v, p, q.weaken fun a ha => .inl (up a ha)⟩
  refine h A hA L a cd W _ s S1 Q fun f h' tk p => hQ f h' tk ?_
  exact post_trans (oa1 := fun _ => False) (KpB.refl _ _) (fun _ h => h.elim) p

/-- the own list read in a name's place: an item stored -/
theorem St.setOwn {L : Addr} {oa W : Ws} {h h' : Heap} {x : Str} {pl pl' : Bool} {ds es : List PyData} {b : Addr} {ws : List Value} (S : St G sc L Γ [(x, (pl, ds))] oa W h) (hb : oa b) (k : KpB (fun a => a = b) h h')
    (hv : ∀ m cm, h.Ns L m → Cl L (cellsAt sc L) h cm → val sc m cm x = some (.ref b) ∨ True) (l : OwnL pl' h' b ws.toArray) (T : ToldAll (FW sc L oa W) h' ws es) (hx : ∃ m cm, h.Ns L m ∧ Cl L (cellsAt sc L) h cm ∧ (∀ y d, Γ.lookup y = some d → ∃ v, val sc m cm y = some v ∧ Told (FW sc L oa W) h v d) ∧ val sc m cm x = some (.ref b)) :
    St G sc L Γ [(x, (pl', es))] oa W h' := by
  obtain ⟨m, cm, ns, cl, c, hvx⟩ := hx
  have nMu : ∀ a, Mu sc L a → ¬ a = b := fun a ha e => S.oL b hb (e ▸ ha)
  have kf : KpB (FW sc L oa W) h h' := k.mono fun q hq => .inr (.inl (hq ▸ hb))
  obtain ⟨⟨o1, e1, _⟩, _⟩ := id l
  refine ⟨S.scok, ⟨m, cm, ns.at' fun o e => k L o (nMu L (.inl rfl)) e, ⟨fun y a e => ?_, cl.apart, cl.above⟩, fun y e hy => ?_, fun y pl es hy => ?_⟩, ⟨fun a o e => k a o (fun hw => ?_) (S.ok.base a o e), fun a ha => ?_, S.ok.off⟩, S.oL, S.wL⟩
  · obtain ⟨o, ho, hd⟩ := cl.cell y a e
    exact ⟨o, k a o (nMu a (.inr ⟨y, e⟩)) ho, hd⟩
  · obtain ⟨v, p, q⟩ := c y e hy
    exact ⟨v, p, q.keep kf⟩
  · by_cases e1 : y = x
    · subst e1
      simp only [List.lookup_cons, beq_self_eq_true, Option.some.injEq, Prod.mk.injEq] at hy
      obtain ⟨rfl, rfl⟩ := hy
      exact ⟨b, ws, hvx, hb, l, T⟩
    · have hb : (y == x) = false := by simpa using e1
      simp [List.lookup_cons, hb] at hy
  · have := S.ok.off b (.inr (.inl hb)); subst hw; rw [e] at this; cases this
  · by_cases hw : a = b
    · exact hw ▸ ⟨o1, e1⟩
    · obtain ⟨o, e⟩ := S.ok.ex a ha
      exact ⟨o, k a o hw e⟩

theorem St.own {L : Addr} {oa W : Ws} {h : Heap} {x : Str} {pl : Bool} {ds : List PyData} (S : St G sc L Γ [(x, (pl, ds))] oa W h) : ∃ b vs, oa b ∧ OwnL pl h b vs.toArray ∧ ToldAll (FW sc L oa W) h vs ds ∧
    ∃ m cm, h.Ns L m ∧ Cl L (cellsAt sc L) h cm ∧ (∀ y d, Γ.lookup y = some d → ∃ v, val sc m cm y = some v ∧ Told (FW sc L oa W) h v d) ∧ val sc m cm x = some (.ref b) := by
  obtain ⟨m, cm, ns, cl, c, d⟩ := S.fm
  obtain ⟨b, vs, p, ob, l, t⟩ := d x pl ds (by simp)
  exact ⟨b, vs, ob, l, t, m, cm, ns, cl, c, p⟩

/-- evaluation of the own list's name -/
theorem name_own {L a : Addr} {cd : Value} {A : Around} {s : Shared} {x : Str} {xp : Pos} {b : Addr} {m cm : Str → Option Value} (scok : ScOk sc) (ns : s.heap.Ns L m) (hv : val sc m cm x = some (.ref b)) (hk : sc.names.lookup x = some .local) (hd : (x == ("__debug__" : Str)) = false)
    {Q : Value → Shared → Prop} (h : Q (.ref b) s) : wpAny (MM G) A (eval (.Name x xp) (envOfC nm sc L a cd)) Q Ef s := by
  have hm : m x = some (.ref b) := by have := hv; unfold val at this; rwa [if_pos hk] at this
  exact wpAny_Name (wpAny_loadName_local (env := envOfC nm sc L a cd) scok.kind hk ns hm h) hd

theorem own_more {L : Addr} {oa W : Ws} {h h' : Heap} {x : Str} {b : Addr} (k : Kp h h') (hx : ∃ m cm, h.Ns L m ∧ Cl L (cellsAt sc L) h cm ∧ (∀ y d, Γ.lookup y = some d → ∃ v, val sc m cm y = some v ∧ Told (FW sc L oa W) h v d) ∧ val sc m cm x = some (.ref b)) :
    ∃ m cm, h'.Ns L m ∧ Cl L (cellsAt sc L) h' cm ∧ (∀ y d, Γ.lookup y = some d → ∃ v, val sc m cm y = some v ∧ Told (FW sc L oa W) h' v d) ∧ val sc m cm x = some (.ref b) := by
  obtain ⟨m, cm, ns, cl, c, p⟩ := hx
  exact ⟨m, cm, ns.keeps k, cl.keeps k, fun y d e => let ⟨v, p, q⟩ := c y d e; ⟨v, p, q.kp k⟩, p⟩

theorem toArray_set {vs : List Value} {j : Nat} {v : Value} : vs.toArray.setIfInBounds j v = (vs.set j v).toArray := by simp

/-- found[i] = e -/
theorem ex_setO {x : Str} {xp sp pos : Pos} {slice value : Expr} {ds : List PyData} {pl : Bool} {k : Int} {d : PyData} (hv : ∀ L a cd, EvE G n (envOfC nm sc L a cd) Γ [(x, (pl, ds))] value d) (hi : ∀ L a cd, EvE G n (envOfC nm sc L a cd) Γ [(x, (pl, ds))] slice (.int k))
    (hk : sc.names.lookup x = some .local) (hd : (x == ("__debug__" : Str)) = false) (h0 : 0 ≤ k) (hn : k < ds.length) (hsz : ds.length ≤ sizeLine)
    (hs : ∀ L a cd, swapsWith value (some (.Subscript (.Name x xp) slice sp)) pos.line (envOfC nm sc L a cd) = pure false) :
    Ex1 G fx n nm sc (.Assign [.Subscript (.Name x xp) slice sp] value pos) Γ [(x, (pl, ds))] (.next Γ [(x, (false, ds.set k.toNat d))]) := by
  intro A hA L a cd W oa s S Q h
  refine wpAny_Assign_Subscript (hv L a cd A hA _ s S.se _ fun v h1 t1 k1 T1 => ?_) (hs L a cd)
  have S1 := S.kp k1
  obtain ⟨b, vs, hb, l, T, hx⟩ := S1.own
  obtain ⟨m, cm, ns, _, _, p⟩ := id hx
  refine name_own (s := { s with heap := h1, toks := t1 }) S.scok ns p hk hd (hi L a cd A hA _ _ S1.se _ fun iv h2 t2 k2 T2 => ?_)
  cases T2
  have l2 := isList_of l.1 fun o => k2 b o
  have hT := T.kp k2
  have hlen := size_arr hT
  refine wpAny_setItem_list l2 h0 (by have := hsz; unfold sizeLine at this; (first | lia | omega)) (by rw [hlen]; exact hn) fun h3 l3 hs3 => ?_
  have k3 : KpB (fun a => a = b) h2 h3 := kpB_same hs3 _ rfl
  have kf : KpB (FW sc L oa W) h2 h3 := k3.mono fun q hq => .inr (.inl (hq ▸ hb))
  rw [toArray_set] at l3
  have S3 := (S1.kp k2).setOwn (pl' := false) hb k3 (fun _ _ _ _ => .inr trivial) ⟨l3, fun q => by cases q⟩ ((hT.set (k := k.toNat) (T1.kp k2)).keep kf) (own_more k2 hx)
  exact h .next h3 t2 ⟨fun a o na e => k3 a o (fun q => na (.inr (q ▸ hb))) (k2 a o (k1 a o e)), rfl, oa, fun _ x => .inl x, S3⟩

/-- found[i] += e -/
theorem ex_augO {x : Str} {xp sp pos : Pos} {slice value : Expr} {ds : List PyData} {pl : Bool} {k i j : Int} (hv : ∀ L a cd, EvE G n (envOfC nm sc L a cd) Γ [(x, (pl, ds))] value (.int j)) (hi : ∀ L a cd, EvE G n (envOfC nm sc L a cd) Γ [(x, (pl, ds))] slice (.int k))
    (hk : sc.names.lookup x = some .local) (hd : (x == ("__debug__" : Str)) = false) (h0 : 0 ≤ k) (hn : k < ds.length) (hsz : ds.length ≤ sizeLine) (hg : ds[k.toNat]? = some (.int i))
    (ha : ∀ ov iv new, augStore slice ov iv new = (do holding [new, ov, iv] (setItem ov iv new); release [new, ov, iv] []; pure .next)) :
    Ex1 G fx n nm sc (.AugAssign (.Subscript (.Name x xp) slice sp) .Add value pos) Γ [(x, (pl, ds))] (.next Γ [(x, (false, ds.set k.toNat (.int (i + j))))]) := by
  intro A hA L a cd W oa s S Q h
  obtain ⟨b, vs, hb, l, T, hx⟩ := S.own
  obtain ⟨m, cm, ns, _, _, p⟩ := id hx
  refine wpAny_AugAssign_Subscript_any (name_own (s := s) S.scok ns p hk hd (hi L a cd A hA _ _ S.se _ fun iv h2 t2 k2 T2 => ?_)) ha
  cases T2
  have l2 := isList_of l.1 fun o => k2 b o
  have hT2 := T.kp k2
  obtain ⟨u, hu, tu⟩ := hT2.get hg
  refine wpAny_getItem_list l2 h0 (by have := hsz; unfold sizeLine at this; (first | lia | omega)) (by simpa using hu) ?_
  refine hv L a cd A hA _ _ (S.kp k2).se _ fun v h1 t1 k1 T1 => ?_
  cases tu; cases T1
  refine P.iadd_int ?_
  have K := k2.trans k1
  have hT := T.kp K
  have hlen := size_arr hT
  refine wpAny_setItem_list (isList_of l.1 fun o => K b o) h0 (by have := hsz; unfold sizeLine at this; (first | lia | omega)) (by rw [hlen]; exact hn) fun h3 l3 hs3 => ?_
  have k3 : KpB (fun a => a = b) h1 h3 := kpB_same hs3 _ rfl
  have kf : KpB (FW sc L oa W) h1 h3 := k3.mono fun q hq => .inr (.inl (hq ▸ hb))
  rw [toArray_set] at l3
  have S3 := (S.kp K).setOwn (pl' := false) hb k3 (fun _ _ _ _ => .inr trivial) ⟨l3, fun q => by cases q⟩ ((hT.set (k := k.toNat) (.int _ _)).keep kf) (own_more K hx)
  exact h .next h3 _ ⟨fun a o na e => k3 a o (fun q => na (.inr (q ▸ hb))) (K a o e), rfl, oa, fun _ x => .inl x, S3⟩

/-- values.append(e) -/
theorem ex_append {x : Str} {xp apos cpos pos : Pos} {elt : Expr} {ds : List PyData} {d : PyData} (he : ∀ L a cd, EvE G n (envOfC nm sc L a cd) Γ [(x, (true, ds))] elt d)
    (hk : sc.names.lookup x = some .local) (hd : (x == ("__debug__" : Str)) = false) (hsz : ds.length ≤ sizeLine)
    (hbase : ∀ L a cd, attributeBase (.Name x xp) "append" (envOfC nm sc L a cd) (eval (.Name x xp) (envOfC nm sc L a cd)) = eval (.Name x xp) (envOfC nm sc L a cd))
    (hfew : ∀ L a cd, ((backTo cpos (starEach [elt] (envOfC nm sc L a cd))).all (fun x => !x.1) && (backToKw cpos (keywordEach [] (envOfC nm sc L a cd))).all (fun x => x.1.isSome)
      && decide (([elt] : List Expr).length + ([] : List Keyword).length + (if ([] : List Keyword).isEmpty then 0 else 1) < 30)) = true)
    (hline : (apos.endLine == cpos.line) = true)
    (htrees : ∀ L a cd, backTo cpos (starEach [elt] (envOfC nm sc L a cd)) = [(false, eval elt (envOfC nm sc L a cd))])
    (hi : ∀ L a cd, interactive (envOfC nm sc L a cd) = false) (hs : ∀ L a cd, swapsWith (.Call (.Attribute (.Name x xp) "append" apos) [elt] [] cpos) none pos.line (envOfC nm sc L a cd) = pure false) :
    Ex1 G fx n nm sc (.Expr (.Call (.Attribute (.Name x xp) "append" apos) [elt] [] cpos) pos) Γ [(x, (true, ds))] (.next Γ [(x, (true, ds ++ [d]))]) := by
  intro A hA L a cd W oa s S Q h
  obtain ⟨b, vs, hb, l, T, hx⟩ := S.own
  obtain ⟨m, cm, ns, _, _, p⟩ := id hx
  refine wpAny_Expr_any (wpAny_Call_append (hbase L a cd) (hfew L a cd) hline (htrees L a cd) (name_own (s := s) S.scok ns p hk hd ⟨b, vs.toArray, rfl, l.2 rfl, he L a cd A hA _ _ S.se _ fun v h1 t1 k1 T1 => ?_⟩)) (hi L a cd) (hs L a cd)
  have hT := T.kp k1
  refine list_append_plainL ((l.2 rfl).keeps k1) (fun h3 l3 hs3 => ?_) (by rw [size_arr T]; exact hsz)
  have k3 : KpB (fun a => a = b) h1 h3 := kpB_same hs3 _ rfl
  have kf : KpB (FW sc L oa W) h1 h3 := k3.mono fun q hq => .inr (.inl (hq ▸ hb))
  have e : vs.toArray.push v = (vs ++ [v]).toArray := by simp
  rw [e] at l3
  have S3 := (S.kp k1).setOwn (pl' := true) hb k3 (fun _ _ _ _ => .inr trivial) ⟨l3.isList, fun _ => l3⟩ ((hT.snoc T1).keep kf) (own_more k1 hx)
  exact h .next h3 _ ⟨fun a o na e => k3 a o (fun q => na (.inr (q ▸ hb))) (k1 a o e), rfl, oa, fun _ x => .inl x, S3⟩

/-- an expression for its effect alone -/
theorem ex_expr {e : Expr} {pos : Pos} {d : PyData} (he : ∀ L a cd, EvE G n (envOfC nm sc L a cd) Γ O e d) (hi : ∀ L a cd, interactive (envOfC nm sc L a cd) = false) (hs : ∀ L a cd, swapsWith e none pos.line (envOfC nm sc L a cd) = pure false) : Ex1 G fx n nm sc (.Expr e pos) Γ O (.next Γ O) := by
  intro A hA L a cd W oa s S Q h
  exact wpAny_Expr_any (he L a cd A hA _ s S.se _ fun v h1 t1 k1 T1 => h .next h1 t1 ⟨k1.toB _, rfl, oa, fun _ x => .inl x, S.kp k1⟩) (hi L a cd) (hs L a cd)

-- calls
theorem val_bind {sc : Scope} {k : Str → Option NameKind} (hk : ∀ x, k x = sc.names.lookup x) {x : Str} : ∀ (binds : List (Str × Value)) (m cm : Str → Option Value), val sc (bindL k binds m) (bindC k binds cm) x = ((binds.reverse.lookup x).or (val sc m cm x))
  | [], m, cm => rfl
  | (y, v) :: r, m, cm => by
    rw [bindL, bindC, val_bind hk r, List.reverse_cons, List.lookup_append]
    have e : val sc (if k y = some .local then fun z => if z = y then some v else m z else m) (if k y = some .local then cm else fun z => if z = y then some v else cm z) x = if x = y then some v else val sc m cm x := by
      unfold val
      by_cases h1 : x = y
      · subst h1
        by_cases h2 : k x = some .local
        · rw [if_pos h2, if_pos (hk x ▸ h2)]; simp
        · rw [if_neg h2, if_neg (hk x ▸ h2)]; simp [h2]
      · by_cases h2 : k y = some .local
        · simp [h2, h1]
        · simp [h2, h1]
    rw [e]
    cases r.reverse.lookup x with
    | some w => rfl
    | none =>
      by_cases h1 : x = y
      · subst h1; simp
      · have : (x == y) = false := by simpa using h1
        simp [h1, this, List.lookup_cons]

theorem told_zip {W : Ws} {h : Heap} : ∀ {xs : List Str} {vs : List Value} {ds : List PyData}, ToldAll W h vs ds → ∀ {acc : List (Str × Value)} {accd : Gam}, (∀ x d, accd.lookup x = some d → ∃ v, acc.lookup x = some v ∧ Told W h v d) →
    ∀ x d, ((xs.zip ds).reverse ++ accd).lookup x = some d → ∃ v, ((xs.zip vs).reverse ++ acc).lookup x = some v ∧ Told W h v d
  | [], _, _, _, _, _, ha, x, d, hx => ha x d (by simpa using hx)
  | y :: xs, _, _, .nil, _, _, ha, x, d, hx => ha x d (by simpa using hx)
  | y :: xs, _, _, .cons (v := v) (d := e) t r, acc, accd, ha, x, d, hx => by
    have := told_zip (xs := xs) r (acc := (y, v) :: acc) (accd := (y, e) :: accd) (fun z c hz => by
      by_cases h1 : z = y
      · subst h1
        simp only [List.lookup_cons, beq_self_eq_true, Option.some.injEq] at hz
        subst hz; exact ⟨v, by simp, t⟩
      · have hb : (z == y) = false := by simpa using h1
        simp only [List.lookup_cons, hb] at hz ⊢
        exact ha z c hz) x d (by simpa using hx)
    simpa using this

theorem call_of (g : G.Good) {d : DefRec} (hd : d ∈ recsOf G.p) {xs : List Str} {ds : List PyData} {r : PyData} (scok : ScOk d.scope) (hl : xs.length = ds.length)
    (hk : ∀ x ∈ xs, d.scope.names.lookup x = some .local ∨ d.scope.names.lookup x = some .cell)
    (hbind : ∀ pm cd doc (vs : List Value), vs.length = xs.length → bindArgs (docDef d.name d.params d.body d.scope pm cd doc) ⟨vs, []⟩ = pure (xs.zip vs))
    (hb : ExS G fx n d.name d.scope d.body (xs.zip ds).reverse [] (.ret r)) : CallOk G (n + 1) d.name ds r := by
  obtain ⟨a, o, pm, code, doc, hmg, ho, hdat, hcode⟩ := g.top.fn d hd
  refine ⟨a, o, _, hmg, ho, hdat, fun A hA W s vs ok T Q h => ?_⟩
  have hlen : vs.length = xs.length := by rw [T.length, hl]
  refine wpAny_call (call_cells_ret (by have := hA.room; show A.depth < 1000; (first | lia | omega)) (ok.base _ _ ho) hdat (g.top.nolimit.keeps ok.base) (hcode.keeps ok.base) (hbind pm code doc vs hlen) ?_ ?_ scok.co scok.gen scok.kind)
  · intro x hx
    have hx' : x.1 ∈ xs := (List.of_mem_zip (by simpa using hx)).1
    rcases hk x.1 hx' with h1 | h1
    · exact .inl h1
    · exact .inr ⟨h1, cellsFrom_some _ _ _ (.inl h1)⟩
  · intro h1 tk F X
    have hA' : AIn n (A.deeper (envOfC d.name d.scope s.heap.objs.size a code)) := ⟨hA.deeper, by
      obtain ⟨l, e⟩ := hA.fr
      exact ⟨_, l, by show A.frames.map _ = _; rw [e]; rfl, rfl, rfl, scok.gen, scok.co⟩⟩
    have kp : Kp s.heap h1 := F.keep
    have hge : ∀ b, Mu d.scope s.heap.objs.size b → s.heap.objs.size ≤ b := fun b hb => by
      rcases hb with rfl | ⟨x, hx⟩
      · exact Nat.le_refl _
      · exact Nat.le_of_lt (X.above x b (mem_of_lookup hx))
    have hMn : ∀ b, Mu d.scope s.heap.objs.size b → s.heap.get? b = none := fun b hb => none_of_ge (hge b hb)
    have T1 : ToldAll (FW d.scope s.heap.objs.size (fun _ => False) W) h1 vs ds := (T.weaken fun b hb => by
      rcases hb with h | h | h
      · exact .inr (hMn b h)
      · exact h.elim
      · exact .inl h).kp kp
    have S : St G d.scope s.heap.objs.size (xs.zip ds).reverse [] (fun _ => False) W h1 := by
      refine ⟨scok, ⟨_, _, F.ns, X, fun x e hx => ?_, fun x pl es hx => by cases hx⟩, ⟨ok.base.trans kp, fun b hb => ?_, fun b hb => ?_⟩, fun _ h => h.elim, fun b hb => ⟨fun hm => ?_, id⟩⟩
      · rw [val_bind (sc := d.scope) (k := (envOfC d.name d.scope s.heap.objs.size a code).kindOf) (fun _ => rfl)]
        obtain ⟨v, hv, tv⟩ := told_zip (xs := xs) T1 (acc := []) (accd := []) (fun x d hx => by cases hx) x e (by simpa using hx)
        exact ⟨v, by rw [List.append_nil] at hv; rw [hv]; rfl, tv⟩
      · rcases hb with h | h | h
        · rcases h with rfl | ⟨x, hx⟩
          · obtain ⟨o, _, _, ho, _⟩ := F.ns; exact ⟨o, ho⟩
          · obtain ⟨o, ho, _⟩ := X.cell x b hx; exact ⟨o, ho⟩
        · exact h.elim
        · obtain ⟨o, e⟩ := ok.ex b h; exact ⟨o, kp _ _ e⟩
      · rcases hb with h | h | h
        · exact Kp.none ok.base (hMn b h)
        · exact h.elim
        · exact ok.off b h
      · obtain ⟨o, e⟩ := ok.ex b hb
        rw [hMn b hm] at e; cases e
    refine wpAny_mono (hb _ hA' s.heap.objs.size a code W _ { s with heap := h1, toks := tk } S (fun f s' => match f with | .ret v => Q v s' | _ => False) fun f h2 t2 p => ?_) (fun f s' hf => ?_) fun _ _ e => e.elim
    · obtain ⟨k2, v, rfl, T2⟩ := p
      refine h v h2 t2 (fun b o e => k2 b o (fun hm => ?_) (kp b o e)) T2
      rcases hm with hm | hm
      · rw [hMn b hm] at e; cases e
      · exact hm
    · cases f with
      | ret v => exact hf
      | _ => exact hf.elim
end
end Fco

-- FcJ
namespace Fco

noncomputable def dk (k : Nat) : DefRec := match (PySem.Challenge.pw_xm0150_01.main.body)[k]? with | some (.FunctionDef n a b _ _ _ s _ _ pos) => ⟨n, a, b, s, pos⟩ | _ => ⟨"", default, [], default, default⟩

noncomputable def scOkB (sc : Scope) : Bool := sc.kind == .function && !sc.isGenerator && !sc.isCoroutine && sc.names.all fun p => p.2 != .free && (p.2 != .cell || sc.names.lookup p.1 == some .cell)
theorem ScOk.of {sc : Scope} (h : scOkB sc = true) : ScOk sc := by
  simp only [scOkB, Bool.and_eq_true, Bool.not_eq_true', List.all_eq_true, Bool.or_eq_true, bne_iff_ne, beq_iff_eq] at h
  obtain ⟨⟨⟨h1, h2⟩, h3⟩, h4⟩ := h
  exact ⟨h1, h2, h3, fun p hp => (h4 p hp).1, fun p hp hc => ((h4 p hp).2.resolve_left (by simp [hc]))⟩
noncomputable def compOkB (sc : Scope) : Bool := sc.kind == .function && sc.names.all fun p => p.2 != .cell && (p.2 != .local || sc.names.lookup p.1 == some .local)
theorem CompOk.of {sc : Scope} (h : compOkB sc = true) : CompOk sc := by
  simp only [compOkB, Bool.and_eq_true, List.all_eq_true, Bool.or_eq_true, bne_iff_ne, beq_iff_eq] at h
  obtain ⟨h1, h4⟩ := h
  exact ⟨h1, fun p hp => (h4 p hp).1, fun p hp hc => ((h4 p hp).2.resolve_left (by simp [hc]))⟩

section
variable {G : GC} {fx : Bool} {n : Nat} {nm : Str} {sc : Scope} {Γ Γ1 Γ2 : Gam} {O O1 : Own} {out : Out}

theorem St.fewer {L : Addr} {oa W : Ws} {h : Heap} (S : St G sc L Γ O oa W h) (hs : ∀ x d, Γ1.lookup x = some d → Γ.lookup x = some d) : St G sc L Γ1 O oa W h :=
  ⟨S.scok, let ⟨m, cm, a, b, c, d⟩ := S.fm; ⟨m, cm, a, b, fun x e hx => c x e (hs x e hx), d⟩, S.ok, S.oL, S.wL⟩

theorem ExT.pre {t : Env → Sem Flow} (x : ExT G fx n nm sc t Γ1 O out) (hs : ∀ x d, Γ1.lookup x = some d → Γ.lookup x = some d) : ExT G fx n nm sc t Γ O out :=
  fun A hA L a cd W oa s S Q h => x A hA L a cd W oa s (S.fewer hs) Q h
theorem ExT.post {t : Env → Sem Flow} (x : ExT G fx n nm sc t Γ O (.next Γ1 O1)) (hs : ∀ x d, Γ2.lookup x = some d → Γ1.lookup x = some d) : ExT G fx n nm sc t Γ O (.next Γ2 O1) :=
  fun A hA L a cd W oa s S Q h => x A hA L a cd W oa s S Q fun f h' tk p => h f h' tk (by
    obtain ⟨k, e, oa', s', st⟩ := p
    exact ⟨k, e, oa', s', st.fewer hs⟩)

-- arguments one by one
section
variable {env : Env} {rest : List Expr}
theorem se_Name {x : Str} {p : Pos} : starEach (.Name x p :: rest) env = (false, eval (.Name x p) env) :: starEach rest env := rfl
theorem se_Constant {c : Const} {k : Nat} {p : Pos} : starEach (.Constant c k p :: rest) env = (false, eval (.Constant c k p) env) :: starEach rest env := rfl
theorem se_List {es : List Expr} {p : Pos} : starEach (.List es p :: rest) env = (false, eval (.List es p) env) :: starEach rest env := rfl
theorem se_Tuple {es : List Expr} {k : Nat} {p : Pos} : starEach (.Tuple es k p :: rest) env = (false, eval (.Tuple es k p) env) :: starEach rest env := rfl
theorem se_Call {f : Expr} {es : List Expr} {ks : List Keyword} {p : Pos} : starEach (.Call f es ks p :: rest) env = (false, eval (.Call f es ks p) env) :: starEach rest env := rfl
theorem se_BinOp {l r : Expr} {o : Operator} {p : Pos} : starEach (.BinOp l o r p :: rest) env = (false, eval (.BinOp l o r p) env) :: starEach rest env := rfl
theorem se_UnaryOp {x : Expr} {o : UnaryOp} {p : Pos} : starEach (.UnaryOp o x p :: rest) env = (false, eval (.UnaryOp o x p) env) :: starEach rest env := rfl
theorem se_Subscript {v i : Expr} {p : Pos} : starEach (.Subscript v i p :: rest) env = (false, eval (.Subscript v i p) env) :: starEach rest env := rfl
theorem se_IfExp {t b o : Expr} {p : Pos} : starEach (.IfExp t b o p :: rest) env = (false, eval (.IfExp t b o p) env) :: starEach rest env := rfl
theorem se_ListComp {e : Expr} {gs : List Comprehension} {sc : Scope} {p : Pos} : starEach (.ListComp e gs sc p :: rest) env = (false, eval (.ListComp e gs sc p) env) :: starEach rest env := rfl
end

section
variable {n : Nat} {env : Env}
/-- written ints, one by one -/
inductive CIL : List Expr → List Int → Prop
  | nil : CIL [] []
  | pos {es : List Expr} {is : List Int} {i : Int} {k : Nat} {p : Pos} : CIL es is → CIL (.Constant (.int i) k p :: es) (i :: is)
  | neg {es : List Expr} {is : List Int} {i : Int} {k : Nat} {p q : Pos} : CIL es is → CIL (.UnaryOp .USub (.Constant (.int i) k p) q :: es) (-i :: is)
theorem evl_ints {es : List Expr} {is : List Int} (h : CIL es is) : EvL G n env Γ O es (is.map .int) := by
  induction h with
  | nil => exact evl_nil
  | pos _ ih => exact evl_cons ev_int ih se_Constant
  | neg _ ih => exact evl_cons (ev_neg ev_int) ih se_UnaryOp
theorem evl1 {e1 : Expr} {d1 : PyData} (h1 : EvE G n env Γ O e1 d1) (s1 : ∀ rest, starEach (e1 :: rest) env = (false, eval e1 env) :: starEach rest env) : EvL G n env Γ O [e1] [d1] := evl_cons h1 evl_nil (s1 _)
theorem evl2 {e1 e2 : Expr} {d1 d2 : PyData} (h1 : EvE G n env Γ O e1 d1) (h2 : EvE G n env Γ O e2 d2) (s1 : ∀ rest, starEach (e1 :: rest) env = (false, eval e1 env) :: starEach rest env) (s2 : ∀ rest, starEach (e2 :: rest) env = (false, eval e2 env) :: starEach rest env) :
    EvL G n env Γ O [e1, e2] [d1, d2] := evl_cons h1 (evl1 h2 s2) (s1 _)
theorem evl3 {e1 e2 e3 : Expr} {d1 d2 d3 : PyData} (h1 : EvE G n env Γ O e1 d1) (h2 : EvE G n env Γ O e2 d2) (h3 : EvE G n env Γ O e3 d3) (s1 : ∀ rest, starEach (e1 :: rest) env = (false, eval e1 env) :: starEach rest env) (s2 : ∀ rest, starEach (e2 :: rest) env = (false, eval e2 env) :: starEach rest env) (s3 : ∀ rest, starEach (e3 :: rest) env = (false, eval e3 env) :: starEach rest env) :
    EvL G n env Γ O [e1, e2, e3] [d1, d2, d3] := evl_cons h1 (evl2 h2 h3 s2 s3) (s1 _)
theorem evl4 {e1 e2 e3 e4 : Expr} {d1 d2 d3 d4 : PyData} (h1 : EvE G n env Γ O e1 d1) (h2 : EvE G n env Γ O e2 d2) (h3 : EvE G n env Γ O e3 d3) (h4 : EvE G n env Γ O e4 d4) (s1 : ∀ rest, starEach (e1 :: rest) env = (false, eval e1 env) :: starEach rest env) (s2 : ∀ rest, starEach (e2 :: rest) env = (false, eval e2 env) :: starEach rest env) (s3 : ∀ rest, starEach (e3 :: rest) env = (false, eval e3 env) :: starEach rest env) (s4 : ∀ rest, starEach (e4 :: rest) env = (false, eval e4 env) :: starEach rest env) :
    EvL G n env Γ O [e1, e2, e3, e4] [d1, d2, d3, d4] := evl_cons h1 (evl3 h2 h3 h4 s2 s3 s4) (s1 _)
end

theorem sub_nil : ∀ x d, ([] : Gam).lookup x = some d → Γ.lookup x = some d := fun x d h => by cases h
theorem sub_cons {y : Str} {e : PyData} (h : Γ.lookup y = some e) (r : ∀ x d, Γ1.lookup x = some d → Γ.lookup x = some d) : ∀ x d, ((y, e) :: Γ1).lookup x = some d → Γ.lookup x = some d := fun x d hx => by
  by_cases hxy : x = y
  · subst hxy
    simp only [List.lookup_cons, beq_self_eq_true, Option.some.injEq] at hx
    exact hx ▸ h
  · have hb : (x == y) = false := by simpa using hxy
    simp only [List.lookup_cons, hb] at hx
    exact r x d hx

/-- a while over states -/
theorem wh_fold {S : Type} {t : Expr} {body : List Stmt} (Γf : S → Gam) (Of : S → Own) (inv : S → Prop) (c : S → Bool) (step : S → S) (F : S → S) (μ : S → Nat)
    (ht : ∀ σ, inv σ → ∀ L a cd, TeE G n (envOfC nm sc L a cd) (Γf σ) (Of σ) t (c σ)) (hb : ∀ σ, inv σ → c σ = true → ExS G fx n nm sc body (Γf σ) (Of σ) (.next (Γf (step σ)) (Of (step σ))))
    (hi : ∀ σ, inv σ → c σ = true → inv (step σ) ∧ μ (step σ) < μ σ) (h0 : ∀ σ, inv σ → c σ = false → F σ = σ) (h1 : ∀ σ, inv σ → c σ = true → F σ = F (step σ)) :
    ∀ (k : Nat) (σ : S), μ σ ≤ k → inv σ → WhC G fx n nm sc t body (Γf σ) (Of σ) (.next (Γf (F σ)) (Of (F σ))) := by
  intro k
  induction k with
  | zero =>
    intro σ hk hσ
    cases hc : c σ with
    | false => rw [h0 σ hσ hc]; exact wh_done fun L a cd => (ht σ hσ L a cd).conv hc
    | true => have := (hi σ hσ hc).2; (first | lia | omega)
  | succ k ih =>
    intro σ hk hσ
    cases hc : c σ with
    | false => rw [h0 σ hσ hc]; exact wh_done fun L a cd => (ht σ hσ L a cd).conv hc
    | true =>
      obtain ⟨i1, i2⟩ := hi σ hσ hc
      rw [h1 σ hσ hc]
      exact wh_step (fun L a cd => (ht σ hσ L a cd).conv hc) (hb σ hσ hc) (ih (step σ) (by (first | lia | omega)) i1)

end

-- sizes
noncomputable def Sm (k : Nat) (x : Int) : Prop := x.natAbs < 2 ^ k
theorem Sm.mono {k l : Nat} {x : Int} (h : Sm k x) (hk : k ≤ l) : Sm l x := Nat.lt_of_lt_of_le h (Nat.pow_le_pow_right (by decide) hk)
theorem Sm.mul {k l : Nat} {x y : Int} (hx : Sm k x) (hy : Sm l y) : Sm (k + l) (x * y) := by
  unfold Sm at *
  rw [Int.natAbs_mul, Nat.pow_add]
  exact Nat.mul_lt_mul'' hx hy
theorem Sm.add {k l : Nat} {x y : Int} (hx : Sm k x) (hy : Sm l y) : Sm (max k l + 1) (x + y) := by
  have h1 := hx.mono (Nat.le_max_left k l)
  have h2 := hy.mono (Nat.le_max_right k l)
  unfold Sm at *
  have := Int.natAbs_add_le x y
  rw [Nat.pow_succ]; (first | lia | omega)
theorem Sm.neg {k : Nat} {x : Int} (hx : Sm k x) : Sm k (-x) := by unfold Sm at *; rwa [Int.natAbs_neg]
theorem Sm.sub {k l : Nat} {x y : Int} (hx : Sm k x) (hy : Sm l y) : Sm (max k l + 1) (x - y) := by rw [Int.sub_eq_add_neg]; exact hx.add hy.neg
theorem Sm.zero {k : Nat} : Sm k 0 := by unfold Sm; simpa using Nat.pow_pos (by decide)
theorem Sm.ok {k l : Nat} {x y : Int} (hx : Sm k x) (hy : Sm l y) (h : k + l ≤ 134217728) : IntMulOk x y := IntMulOk.of_le (intBits_le_iff.mpr hx) (intBits_le_iff.mpr hy) h
theorem Sm.pow {k : Nat} {x : Int} (hx : Sm k x) (n : Nat) : Sm (k * n + 1) (x ^ n) := by
  induction n with
  | zero => unfold Sm; simp
  | succ n ih =>
    have e : k * (n + 1) + 1 = (k * n + 1) + k := by rw [Nat.mul_succ]; (first | lia | omega)
    rw [e, Int.pow_succ]; exact ih.mul hx
theorem Sm.of {k : Nat} {x : Int} (h1 : -(2 ^ k : Nat) < x) (h2 : x < (2 ^ k : Nat)) : Sm k x := by unfold Sm; (first | lia | omega)
theorem Sm.powOk {k n : Nat} {x : Int} (hx : Sm k x) (h : k * n ≤ 134217728) : (Builtin.Int.intBits x : Int) * (n : Int) ≤ 2 ^ 27 := by
  have h1 : Builtin.Int.intBits x ≤ k := intBits_le_iff.mpr hx
  have h2 : Builtin.Int.intBits x * n ≤ k * n := Nat.mul_le_mul_right _ h1
  have : ((Builtin.Int.intBits x * n : Nat) : Int) ≤ 134217728 := by (first | lia | omega)
  rw [Int.natCast_mul] at this; exact this

-- data
noncomputable def dZ (l : List Int) : PyData := .list (l.map .int)
noncomputable def dQ (x : Rat) : PyData := dR x.num x.den
noncomputable def dP (l : List Rat) : PyData := .list (l.map dQ)
noncomputable def SmL (k : Nat) (l : List Int) : Prop := ∀ x ∈ l, Sm k x
theorem dZ_get {l : List Int} {j : Nat} (h : j < l.length) : (l.map PyData.int)[j]? = some (.int (l.getD j 0)) := by simp [h]
theorem dP_get {l : List Rat} {j : Nat} (h : j < l.length) : (l.map dQ)[j]? = some (dQ (l.getD j 0)) := by simp [h]
end Fco

-- FcK
namespace Fco

noncomputable def usedK : List Nat := [3,4,8,9,10,11,12,13,15,16,17,18,19,20,21,22,23,24,25,26,27,30,31,32,33,34,35,36,38,39,40,41,42,43,44,45,46,47,48,49,51,52,54,55,56,57,58,60,61,62,63,64,65,66]
structure GC.Gd (G : GC) : Prop where
  g : G.Good
  df : ∀ k ∈ usedK, dk k ∈ recsOf G.p

section
variable {G : GC}

theorem len1_ex {α : Type} : ∀ {l : List α}, l.length = 1 → ∃ a, l = [a]
  | [a], _ => ⟨a, rfl⟩
theorem len_ex {α : Type} {n : Nat} : ∀ {l : List α}, l.length = n + 1 → ∃ a r, l = a :: r ∧ r.length = n
  | a :: r, h => ⟨a, r, rfl, Nat.succ.inj h⟩
theorem bind1 {d : DefRec} {x : Str} (h : ∀ pm cd doc v, bindArgs (docDef d.name d.params d.body d.scope pm cd doc) ⟨[v], []⟩ = pure [(x, v)]) : ∀ pm cd doc (vs : List Value), vs.length = [x].length → bindArgs (docDef d.name d.params d.body d.scope pm cd doc) ⟨vs, []⟩ = pure ([x].zip vs) := fun pm cd doc vs hl => by
  obtain ⟨v, rfl⟩ := len1_ex hl
  exact h pm cd doc v
theorem bind2 {d : DefRec} {x y : Str} (h : ∀ pm cd doc v w, bindArgs (docDef d.name d.params d.body d.scope pm cd doc) ⟨[v, w], []⟩ = pure [(x, v), (y, w)]) : ∀ pm cd doc (vs : List Value), vs.length = [x, y].length → bindArgs (docDef d.name d.params d.body d.scope pm cd doc) ⟨vs, []⟩ = pure ([x, y].zip vs) := fun pm cd doc vs hl => by
  obtain ⟨v, r, rfl, hr⟩ := len_ex hl
  obtain ⟨w, rfl⟩ := len1_ex hr
  exact h pm cd doc v w
theorem bind3 {d : DefRec} {x y z : Str} (h : ∀ pm cd doc v w u, bindArgs (docDef d.name d.params d.body d.scope pm cd doc) ⟨[v, w, u], []⟩ = pure [(x, v), (y, w), (z, u)]) : ∀ pm cd doc (vs : List Value), vs.length = [x, y, z].length → bindArgs (docDef d.name d.params d.body d.scope pm cd doc) ⟨vs, []⟩ = pure ([x, y, z].zip vs) := fun pm cd doc vs hl => by
  obtain ⟨v, r, rfl, hr⟩ := len_ex hl
  obtain ⟨w, r2, rfl, hr2⟩ := len_ex hr
  obtain ⟨u, rfl⟩ := len1_ex hr2
  exact h pm cd doc v w u
theorem ExT.conv' {fx : Bool} {n : Nat} {nm : Str} {sc : Scope} {Γ : Gam} {O : Own} {t : Env → Sem Flow} {d d' : PyData} (x : ExT G fx n nm sc t Γ O (.ret d)) (h : d = d') : ExT G fx n nm sc t Γ O (.ret d') := h ▸ x
-- gcd
theorem fmod_emod {a b : Int} (hb : 0 ≤ b) : a.fmod b = a % b := by rw [Int.fmod_eq_emod_of_nonneg]; exact hb
theorem gcd_step {x y : Int} (hx : 0 ≤ x) (hy : 0 ≤ y) : Int.gcd y (x % y) = Int.gcd x y := by
  obtain ⟨a, rfl⟩ := Int.eq_ofNat_of_zero_le hx
  obtain ⟨b, rfl⟩ := Int.eq_ofNat_of_zero_le hy
  have e : (a : Int) % (b : Int) = ((a % b : Nat) : Int) := by simp
  rw [e]
  simp only [Int.gcd, Int.natAbs_natCast]
  rw [Nat.gcd_comm b, ← Nat.gcd_rec, Nat.gcd_comm]
theorem c_gcd (D : G.Gd) (a b : Int) : CallOk G 1 "gcd" [.int a, .int b] (.int (Int.gcd a b)) := by
  have g := D.g
  refine call_of g (d := dk 3) (xs := ["a", "b"]) (fx := true) (D.df _ (by decide)) (ScOk.of rfl) rfl (by decide) (bind2 fun _ _ _ _ _ => rfl) ?_
  refine exs_cons ((ex_assignS (xs := ["a", "b"]) (fun _ _ _ => (ev_tuple (evl2 (ev_fn g (by decide) boot_abs (by decide) rfl rfl (evl1 (ev_name rfl (.inl rfl) rfl rfl) (fun _ => se_Name)) se_Name (fun _ => rfl) c_abs) (ev_fn g (by decide) boot_abs (by decide) rfl rfl (evl1 (ev_name rfl (.inl rfl) rfl rfl) (fun _ => se_Name)) se_Name (fun _ => rfl) c_abs) (fun _ => se_Call) (fun _ => se_Call)) (Nat.le_of_ble_eq_true rfl))) (by decide) rfl (fun _ _ _ => rfl) (fun _ _ _ => rfl)).post (Γ2 := [("a", .int a.natAbs), ("b", .int b.natAbs)]) (sub_cons rfl (sub_cons rfl sub_nil))) ?_
  refine exs_cons (ex_while (wh_fold (S := Int × Int) (fun σ => [("a", .int σ.1), ("b", .int σ.2)]) (fun _ => []) (fun σ => 0 ≤ σ.1 ∧ 0 ≤ σ.2) (fun σ => σ.2 != 0) (fun σ => (σ.2, σ.1.fmod σ.2)) (fun σ => ((Int.gcd σ.1 σ.2 : Nat), 0)) (fun σ => σ.2.natAbs)
    (fun σ _ _ _ _ => (te_cmp (ev_name rfl (.inl rfl) rfl rfl) ev_int cmp_ne rfl)) (fun σ hσ hc => ?_) (fun σ hσ hc => ?_) (fun σ hσ hc => ?_) (fun σ hσ hc => ?_) _ (a.natAbs, b.natAbs) (Nat.le_refl _) ⟨Int.natCast_nonneg _, Int.natCast_nonneg _⟩)) ?_
  · refine exs_cons ((ex_assignS (xs := ["a", "b"]) (fun _ _ _ => (ev_tuple (evl2 (ev_name rfl (.inl rfl) rfl rfl) (ev_mod (ev_name rfl (.inl rfl) rfl rfl) (ev_name rfl (.inl rfl) rfl rfl) ?_) (fun _ => se_Name) (fun _ => se_BinOp)) (Nat.le_of_ble_eq_true rfl))) (by decide) rfl (fun _ _ _ => rfl) (fun _ _ _ => rfl)).post (sub_cons rfl (sub_cons rfl sub_nil))) exs_nil
    simpa using hc
  · have h0 : σ.2 ≠ 0 := by simpa using hc
    simp only
    rw [fmod_emod hσ.2]
    have h1 := Int.emod_nonneg σ.1 h0
    have h2 := Int.emod_lt_of_pos σ.1 (by (first | lia | omega) : 0 < σ.2)
    exact ⟨⟨hσ.2, h1⟩, by (first | lia | omega)⟩
  · have h0 : σ.2 = 0 := by simpa using hc
    obtain ⟨x, y⟩ := σ
    simp only at h0 hσ ⊢
    subst h0
    simp; (first | lia | omega)
  · simp only
    rw [fmod_emod hσ.2]
    obtain ⟨x, y⟩ := σ
    simp only at hσ ⊢
    rw [gcd_step hσ.1 hσ.2]
  · refine exs_ret ((ex_ret fun _ _ _ => (ev_name rfl (.inl rfl) rfl rfl)).conv' ?_)
    simp [Int.gcd]

/-- a for over a mapped list -/
theorem for_map {n : Nat} {nm : Str} {sc : Scope} {S α : Type} {t : Expr} {body : List Stmt} (dec : α → PyData) (Γf : S → Gam) (Of : S → Own) (inv : Nat → S → Prop) (step : S → α → S) (Γt : S → α → Gam) (xs : List α)
    (ht : ∀ i σ x, xs[i]? = some x → inv i σ → TgtE G n nm sc t (Γf σ) (Of σ) (dec x) (Γt σ x)) (hb : ∀ i σ x, xs[i]? = some x → inv i σ → ExS G true n nm sc body (Γt σ x) (Of σ) (.next (Γf (step σ x)) (Of (step σ x))) ∧ inv (i + 1) (step σ x)) :
    ∀ (rest : List α) (i : Nat) (σ : S), xs.drop i = rest → inv i σ → ForC G n nm sc t body (Γf σ) (Of σ) (rest.map dec) (.next (Γf (rest.foldl step σ)) (Of (rest.foldl step σ))) := by
  intro rest
  induction rest with
  | nil => intro i σ _ _; exact for_nil
  | cons d rest ih =>
    intro i σ hd hσ
    obtain ⟨hd1, hd2⟩ := drop_cons hd
    obtain ⟨b, i'⟩ := hb i σ d hd1 hσ
    exact for_cons (ht i σ d hd1 hσ) b (ih (i + 1) (step σ d) hd2 i')

noncomputable def gcdL (l : List Int) : Int := l.foldl (fun g x => ((Int.gcd g x : Nat) : Int)) 0
theorem c_gcd_all (D : G.Gd) (l : List Int) (hl : l.length ≤ sizeLine) : CallOk G 2 "gcd_all" [dZ l] (.int (gcdL l)) := by
  have g := D.g
  refine call_of g (d := dk 4) (xs := ["numbers"]) (fx := true) (D.df _ (by decide)) (ScOk.of rfl) rfl (by decide) (bind1 fun _ _ _ _ => rfl) ?_
  refine exs_cons ((ex_assign (fun _ _ _ => ev_int) (by decide) rfl (fun _ _ _ => rfl)).post (Γ2 := [("found", .int 0), ("numbers", dZ l)]) (sub_cons rfl (sub_cons rfl sub_nil))) ?_
  refine exs_cons (ex_for (fun _ _ _ => src_list (.inl rfl) (ev_name rfl (.inl rfl) rfl rfl) go_name) (for_map PyData.int (fun σ : Int => [("found", .int σ), ("numbers", dZ l)]) (fun _ => []) (fun _ _ => True) (fun g x => ((Int.gcd g x : Nat) : Int)) (fun σ x => [("number", .int x), ("found", .int σ), ("numbers", dZ l)]) l
    (fun i σ x _ _ => tgt_name (.inl rfl) rfl) (fun i σ x _ _ => ⟨exs_cons ((ex_assign (fun _ _ _ => (ev_call g (c_gcd D _ _) (by decide) rfl rfl (evl2 (ev_name rfl (.inl rfl) rfl rfl) (ev_name rfl (.inl rfl) rfl rfl) (fun _ => se_Name) (fun _ => se_Name)) se_Name)) (by decide) rfl (fun _ _ _ => rfl)).post (sub_cons rfl (sub_cons rfl sub_nil))) exs_nil, trivial⟩) l 0 0 (by simp) trivial)) ?_
  exact exs_ret (ex_ret fun _ _ _ => (ev_name rfl (.inl rfl) rfl rfl))

-- ratios
noncomputable def SmQ (k : Nat) (x : Rat) : Prop := Sm k x.num ∧ Sm k x.den
theorem fdiv_of_dvd {a b : Int} (h : b ∣ a) : a.fdiv b = a / b := by
  rw [Int.fdiv_eq_ediv]
  simp [h]
theorem rat_num {t b : Int} (hb : b ≠ 0) : t.fdiv (if 0 < b then (Int.gcd t b : Int) else 0 - (Int.gcd t b : Int)) = (Rat.divInt t b).num := by
  have h1 : (Int.gcd t b : Int) ∣ t := Int.gcd_dvd_left ..
  rw [Rat.num_divInt, Int.gcd_comm b]
  split
  · rename_i h
    rw [fdiv_of_dvd h1, Int.sign_eq_one_of_pos h, Int.one_mul]
  · rename_i h
    have : b < 0 := by (first | lia | omega)
    rw [Int.zero_sub, fdiv_of_dvd (Int.neg_dvd.mpr h1), Int.sign_eq_neg_one_of_neg this, Int.ediv_neg, Int.neg_one_mul, Int.neg_ediv_of_dvd h1]
theorem rat_den {t b : Int} (hb : b ≠ 0) : b.fdiv (if 0 < b then (Int.gcd t b : Int) else 0 - (Int.gcd t b : Int)) = (Rat.divInt t b).den := by
  have h1 : (Int.gcd t b : Int) ∣ b := Int.gcd_dvd_right ..
  rw [Rat.den_divInt, if_neg hb, Int.gcd_comm b]
  split
  · rename_i h
    rw [fdiv_of_dvd h1]
    have : (b.natAbs : Int) = b := by (first | lia | omega)
    rw [Int.natCast_ediv, this]
  · rename_i h
    have : (b.natAbs : Int) = -b := by (first | lia | omega)
    rw [Int.zero_sub, fdiv_of_dvd (Int.neg_dvd.mpr h1), Int.ediv_neg, Int.natCast_ediv, this, Int.neg_ediv_of_dvd h1]

theorem c_rat (D : G.Gd) {t b : Int} (hb : b ≠ 0) : CallOk G 2 "rat" [.int t, .int b] (dQ (Rat.divInt t b)) := by
  have g := D.g
  refine call_of g (d := dk 8) (xs := ["top", "bottom"]) (fx := true) (D.df _ (by decide)) (ScOk.of rfl) rfl (by decide) (bind2 fun _ _ _ _ _ => rfl) ?_
  refine exs_if (fun _ _ _ => (te_cmp (ev_name rfl (.inl rfl) rfl rfl) ev_int cmp_eq rfl)) (fun h => absurd h (by simpa using hb)) (fun _ => .inl ⟨exs_nil, ?_⟩)
  refine exs_cons (ex_assign (d := .int (if 0 < b then (Int.gcd t b : Int) else 0 - (Int.gcd t b : Int))) (fun _ _ _ => (ev_if (te_cmp (ev_name rfl (.inl rfl) rfl rfl) ev_int cmp_gt rfl) ?_ ?_)) (by decide) rfl (fun _ _ _ => rfl)) (exs_ret ((ex_ret fun _ _ _ => (ev_tuple (evl2 (ev_fdiv g (ev_name rfl (.inl rfl) rfl rfl) (ev_name rfl (.inl rfl) rfl rfl) ?_) (ev_fdiv g (ev_name rfl (.inl rfl) rfl rfl) (ev_name rfl (.inl rfl) rfl rfl) ?_) (fun _ => se_BinOp) (fun _ => se_BinOp)) (Nat.le_of_ble_eq_true rfl))).conv' ?_))
  · intro h
    have h : b > 0 := by simpa using h
    refine EvE.conv (ev_call g (c_gcd D t b) (by decide) rfl rfl (evl2 (ev_name rfl (.inl rfl) rfl rfl) (ev_name rfl (.inl rfl) rfl rfl) (fun _ => se_Name) (fun _ => se_Name)) se_Name) ?_
    rw [if_pos h]
  · intro h
    have h : ¬ 0 < b := by simpa using h
    refine EvE.conv (ev_sub ev_int (ev_call g (c_gcd D t b) (by decide) rfl rfl (evl2 (ev_name rfl (.inl rfl) rfl rfl) (ev_name rfl (.inl rfl) rfl rfl) (fun _ => se_Name) (fun _ => se_Name)) se_Name)) ?_
    rw [if_neg h]
  · have h2 : Int.gcd t b ≠ 0 := fun e => hb (Int.gcd_eq_zero_iff.mp e).2
    split <;> (first | lia | omega)
  · have h2 : Int.gcd t b ≠ 0 := fun e => hb (Int.gcd_eq_zero_iff.mp e).2
    split <;> (first | lia | omega)
  · rw [rat_num hb, rat_den hb]; rfl
end
end Fco

-- FcL
namespace Fco

section
variable {G : GC} {n : Nat} {env : Env} {Γ : Gam} {O : Own}
theorem ev_itemX {value slice : Expr} {pos : Pos} {ds : List PyData} {k : Int} {d c : PyData} (hc : c = .list ds ∨ c = .tuple ds) (hv : EvE G n env Γ O value c) (hi : EvE G n env Γ O slice (.int k))
    (h : ds.length ≤ sizeLine ∧ ∃ j, pyIdx k ds.length = some j ∧ ds[j]? = some d) (hs : ∀ o i : Value, ∃ ops, subscripted slice false o i = operate ops (getItem o i)) : EvE G n env Γ O (.Subscript value slice pos) d := by
  obtain ⟨h1, j, h2, h3⟩ := h
  exact ev_item hc hv hi h1 h2 h3 hs
theorem ev_itemOX {x : Str} {xp pos : Pos} {slice : Expr} {pl : Bool} {ds : List PyData} {k : Int} {d : PyData} (hx : O.lookup x = some (pl, ds)) (hk : env.kindOf x = some .local) (hb : (x == ("__debug__" : Str)) = false) (hi : EvE G n env Γ O slice (.int k))
    (h : ds.length ≤ sizeLine ∧ ∃ j, pyIdx k ds.length = some j ∧ ds[j]? = some d) (hs : ∀ o i : Value, ∃ ops, subscripted slice false o i = operate ops (getItem o i)) : EvE G n env Γ O (.Subscript (.Name x xp) slice pos) d := by
  obtain ⟨h1, j, h2, h3⟩ := h
  exact ev_itemO hx hk hb hi h1 h2 h3 hs
end

theorem den_ne (x : Rat) : (x.den : Int) ≠ 0 := by exact_mod_cast x.den_nz
theorem radd_eq (x y : Rat) : Rat.divInt (x.num * y.den + y.num * x.den) (x.den * y.den) = x + y := by
  rw [← Rat.divInt_add_divInt _ _ (den_ne x) (den_ne y), Rat.num_divInt_den, Rat.num_divInt_den]
theorem rmul_eq (x y : Rat) : Rat.divInt (x.num * y.num) (x.den * y.den) = x * y := by
  rw [← Rat.divInt_mul_divInt, Rat.num_divInt_den, Rat.num_divInt_den]
theorem rinv_eq (x : Rat) : Rat.divInt (x.den) (x.num) = x⁻¹ := (Rat.inv_def x).symm
theorem rdiv_eq (x y : Rat) : Rat.divInt (x.num * y.den) (x.den * y.num) = x / y := by
  rw [← Rat.divInt_mul_divInt, Rat.num_divInt_den, rinv_eq, Rat.div_def]

section
variable {G : GC}

theorem c_radd (D : G.Gd) {x y : Rat} {k : Nat} (hx : SmQ k x) (hy : SmQ k y) (hk : k ≤ 60000000) : CallOk G 3 "radd" [dQ x, dQ y] (dQ (x + y)) := by
  have g := D.g
  rw [← radd_eq]
  refine call_of g (d := dk 9) (xs := ["a", "b"]) (fx := true) (D.df _ (by decide)) (ScOk.of rfl) rfl (by decide) (bind2 fun _ _ _ _ _ => rfl) ?_
  refine exs_ret (ex_ret fun _ _ _ => (ev_call g (c_rat D (Int.mul_ne_zero (den_ne x) (den_ne y))) (by decide) rfl rfl (evl2 (ev_add (ev_mul (ev_item (j := 0) (.inr rfl) (ev_name rfl (.inl rfl) rfl rfl) ev_int (Nat.le_of_ble_eq_true rfl) rfl rfl (fun _ _ => ⟨_, rfl⟩)) (ev_item (j := 1) (.inr rfl) (ev_name rfl (.inl rfl) rfl rfl) ev_int (Nat.le_of_ble_eq_true rfl) rfl rfl (fun _ _ => ⟨_, rfl⟩)) ?_) (ev_mul (ev_item (j := 0) (.inr rfl) (ev_name rfl (.inl rfl) rfl rfl) ev_int (Nat.le_of_ble_eq_true rfl) rfl rfl (fun _ _ => ⟨_, rfl⟩)) (ev_item (j := 1) (.inr rfl) (ev_name rfl (.inl rfl) rfl rfl) ev_int (Nat.le_of_ble_eq_true rfl) rfl rfl (fun _ _ => ⟨_, rfl⟩)) ?_)) (ev_mul (ev_item (j := 1) (.inr rfl) (ev_name rfl (.inl rfl) rfl rfl) ev_int (Nat.le_of_ble_eq_true rfl) rfl rfl (fun _ _ => ⟨_, rfl⟩)) (ev_item (j := 1) (.inr rfl) (ev_name rfl (.inl rfl) rfl rfl) ev_int (Nat.le_of_ble_eq_true rfl) rfl rfl (fun _ _ => ⟨_, rfl⟩)) ?_) (fun _ => se_BinOp) (fun _ => se_BinOp)) se_BinOp))
  · exact hx.1.ok hy.2 (by (first | lia | omega))
  · exact hy.1.ok hx.2 (by (first | lia | omega))
  · exact hx.2.ok hy.2 (by (first | lia | omega))
theorem c_rmul (D : G.Gd) {x y : Rat} {k : Nat} (hx : SmQ k x) (hy : SmQ k y) (hk : k ≤ 60000000) : CallOk G 3 "rmul" [dQ x, dQ y] (dQ (x * y)) := by
  have g := D.g
  rw [← rmul_eq]
  refine call_of g (d := dk 10) (xs := ["a", "b"]) (fx := true) (D.df _ (by decide)) (ScOk.of rfl) rfl (by decide) (bind2 fun _ _ _ _ _ => rfl) ?_
  refine exs_ret (ex_ret fun _ _ _ => (ev_call g (c_rat D (Int.mul_ne_zero (den_ne x) (den_ne y))) (by decide) rfl rfl (evl2 (ev_mul (ev_item (j := 0) (.inr rfl) (ev_name rfl (.inl rfl) rfl rfl) ev_int (Nat.le_of_ble_eq_true rfl) rfl rfl (fun _ _ => ⟨_, rfl⟩)) (ev_item (j := 0) (.inr rfl) (ev_name rfl (.inl rfl) rfl rfl) ev_int (Nat.le_of_ble_eq_true rfl) rfl rfl (fun _ _ => ⟨_, rfl⟩)) ?_) (ev_mul (ev_item (j := 1) (.inr rfl) (ev_name rfl (.inl rfl) rfl rfl) ev_int (Nat.le_of_ble_eq_true rfl) rfl rfl (fun _ _ => ⟨_, rfl⟩)) (ev_item (j := 1) (.inr rfl) (ev_name rfl (.inl rfl) rfl rfl) ev_int (Nat.le_of_ble_eq_true rfl) rfl rfl (fun _ _ => ⟨_, rfl⟩)) ?_) (fun _ => se_BinOp) (fun _ => se_BinOp)) se_BinOp))
  · exact hx.1.ok hy.1 (by (first | lia | omega))
  · exact hx.2.ok hy.2 (by (first | lia | omega))
theorem num_ne {x : Rat} (h : x ≠ 0) : x.num ≠ 0 := fun e => h (Rat.num_eq_zero.mp e)
theorem c_rdiv (D : G.Gd) {x y : Rat} {k : Nat} (hx : SmQ k x) (hy : SmQ k y) (h0 : y ≠ 0) (hk : k ≤ 60000000) : CallOk G 3 "rdiv" [dQ x, dQ y] (dQ (x / y)) := by
  have g := D.g
  rw [← rdiv_eq]
  refine call_of g (d := dk 11) (xs := ["a", "b"]) (fx := true) (D.df _ (by decide)) (ScOk.of rfl) rfl (by decide) (bind2 fun _ _ _ _ _ => rfl) ?_
  refine exs_ret (ex_ret fun _ _ _ => (ev_call g (c_rat D (Int.mul_ne_zero (den_ne x) (num_ne h0))) (by decide) rfl rfl (evl2 (ev_mul (ev_item (j := 0) (.inr rfl) (ev_name rfl (.inl rfl) rfl rfl) ev_int (Nat.le_of_ble_eq_true rfl) rfl rfl (fun _ _ => ⟨_, rfl⟩)) (ev_item (j := 1) (.inr rfl) (ev_name rfl (.inl rfl) rfl rfl) ev_int (Nat.le_of_ble_eq_true rfl) rfl rfl (fun _ _ => ⟨_, rfl⟩)) ?_) (ev_mul (ev_item (j := 1) (.inr rfl) (ev_name rfl (.inl rfl) rfl rfl) ev_int (Nat.le_of_ble_eq_true rfl) rfl rfl (fun _ _ => ⟨_, rfl⟩)) (ev_item (j := 0) (.inr rfl) (ev_name rfl (.inl rfl) rfl rfl) ev_int (Nat.le_of_ble_eq_true rfl) rfl rfl (fun _ _ => ⟨_, rfl⟩)) ?_) (fun _ => se_BinOp) (fun _ => se_BinOp)) se_BinOp))
  · exact hx.1.ok hy.2 (by (first | lia | omega))
  · exact hx.2.ok hy.1 (by (first | lia | omega))
theorem c_rneg (D : G.Gd) {x : Rat} : CallOk G 1 "rneg" [dQ x] (dQ (-x)) := by
  have g := D.g
  refine call_of g (d := dk 12) (xs := ["a"]) (fx := true) (D.df _ (by decide)) (ScOk.of rfl) rfl (by decide) (bind1 fun _ _ _ _ => rfl) ?_
  refine exs_ret ((ex_ret fun _ _ _ => (ev_tuple (evl2 (ev_sub ev_int (ev_item (j := 0) (.inr rfl) (ev_name rfl (.inl rfl) rfl rfl) ev_int (Nat.le_of_ble_eq_true rfl) rfl rfl (fun _ _ => ⟨_, rfl⟩))) (ev_item (j := 1) (.inr rfl) (ev_name rfl (.inl rfl) rfl rfl) ev_int (Nat.le_of_ble_eq_true rfl) rfl rfl (fun _ _ => ⟨_, rfl⟩)) (fun _ => se_BinOp) (fun _ => se_Subscript)) (Nat.le_of_ble_eq_true rfl))).conv' ?_)
  simp [dQ, dR, Rat.neg_num, Rat.neg_den]
theorem c_rinv (D : G.Gd) {x : Rat} (h0 : x ≠ 0) : CallOk G 3 "rinv" [dQ x] (dQ x⁻¹) := by
  have g := D.g
  rw [← rinv_eq]
  refine call_of g (d := dk 13) (xs := ["a"]) (fx := true) (D.df _ (by decide)) (ScOk.of rfl) rfl (by decide) (bind1 fun _ _ _ _ => rfl) ?_
  exact exs_ret (ex_ret fun _ _ _ => (ev_call g (c_rat D (num_ne h0)) (by decide) rfl rfl (evl2 (ev_item (j := 1) (.inr rfl) (ev_name rfl (.inl rfl) rfl rfl) ev_int (Nat.le_of_ble_eq_true rfl) rfl rfl (fun _ _ => ⟨_, rfl⟩)) (ev_item (j := 0) (.inr rfl) (ev_name rfl (.inl rfl) rfl rfl) ev_int (Nat.le_of_ble_eq_true rfl) rfl rfl (fun _ _ => ⟨_, rfl⟩)) (fun _ => se_Subscript) (fun _ => se_Subscript)) se_Subscript))

-- polynomials with whole coefficients
/-- how much of l stays -/
noncomputable def zSz (l : List Int) : Nat → Nat
  | 0 => 0
  | k + 1 => if l.getD k 0 = 0 then zSz l k else k + 1
theorem zSz_le (l : List Int) : ∀ k, zSz l k ≤ k
  | 0 => Nat.le_refl _
  | k + 1 => by unfold zSz; split; exact Nat.le_succ_of_le (zSz_le l k); exact Nat.le_refl _
noncomputable def zT (l : List Int) : List Int := l.take (zSz l l.length)

theorem pyIdx_nat {k n : Nat} (h : k < n) : pyIdx (k : Int) n = some k := by
  unfold pyIdx
  rw [if_pos (Int.natCast_nonneg _), if_pos (by (first | lia | omega))]; simp
theorem pyIdx_of {k : Int} {n : Nat} (h0 : 0 ≤ k) (h : k < n) : pyIdx k n = some k.toNat := by
  unfold pyIdx
  rw [if_pos h0, if_pos h]
theorem pyIdx_last {n : Nat} (h : 0 < n) : pyIdx (-1) n = some (n - 1) := by
  unfold pyIdx
  rw [if_neg (by decide), if_pos (by (first | lia | omega))]
  congr 1; (first | lia | omega)

theorem range_pick {α : Type} (ds : List α) (s : Nat) : ∀ c, ((List.range c).map fun (k : Nat) => s + k).filterMap (ds[·]?) = (ds.drop s).take c
  | 0 => by simp
  | c + 1 => by
    rw [List.range_succ, List.map_append, List.filterMap_append, range_pick ds s c, List.take_add_one]
    congr 1
    simp only [List.map_cons, List.map_nil, List.filterMap_cons, List.filterMap_nil, List.getElem?_drop]
    cases ds[s + c]? <;> rfl
theorem pick_core (ds : List PyData) {s e : Int} {a b : Nat} (hs : s = a) (he : e = b) (hab : a ≤ b) : (sliceRange s e 1).filterMap (ds[·]?) = (ds.drop a).take (b - a) := by
  subst hs he
  unfold sliceRange
  rw [← range_pick]
  rw [if_pos (by decide)]
  have e1 : (if (a : Int) < (b : Int) then ((b : Int) - a + 1 - 1) / 1 else 0).toNat = b - a := by split <;> (first | lia | omega)
  dsimp only
  rw [e1]
  congr 1
  apply List.map_congr_left
  intro k _
  (first | lia | omega)
theorem bounds_take {k : Int} {n : Nat} (h0 : 0 ≤ k) : sliceBounds none (some k) none n = (0, ((min k.toNat n : Nat) : Int), 1) := by
  have h : ¬ k < 0 := by (first | lia | omega)
  simp [sliceBounds, h]
  (first | lia | omega)
theorem bounds_drop {k : Int} {n : Nat} (h0 : 0 ≤ k) : sliceBounds (some k) none none n = (((min k.toNat n : Nat) : Int), (n : Int), 1) := by
  have h : ¬ k < 0 := by (first | lia | omega)
  simp [sliceBounds, h]
  (first | lia | omega)
theorem bounds_init {n : Nat} : sliceBounds none (some (-1)) none n = (0, ((n - 1 : Nat) : Int), 1) := by
  simp [sliceBounds]
  (first | lia | omega)
theorem pick_take (ds : List PyData) {k : Int} (h0 : 0 ≤ k) : dPick ds none (some k) none = ds.take k.toNat := by
  unfold dPick
  rw [bounds_take h0]
  simp only
  rw [pick_core ds (s := 0) (a := 0) rfl rfl (Nat.zero_le _)]
  simp [List.take_eq_take_iff]
theorem pick_drop1 (ds : List PyData) {k : Int} (h0 : 0 ≤ k) : dPick ds (some k) none none = ds.drop k.toNat := by
  unfold dPick
  rw [bounds_drop h0]
  simp only
  rw [pick_core ds rfl rfl (Nat.min_le_right _ _)]
  rw [List.take_of_length_le (by simp)]
  rcases Nat.le_total k.toNat ds.length with h | h
  · rw [Nat.min_eq_left h]
  · rw [Nat.min_eq_right h, List.drop_of_length_le (Nat.le_refl _), List.drop_of_length_le h]
theorem pick_init (ds : List PyData) : dPick ds none (some (-1)) none = ds.dropLast := by
  unfold dPick
  rw [bounds_init]
  simp only
  rw [pick_core ds (s := 0) (a := 0) rfl rfl (Nat.zero_le _)]
  simp [List.dropLast_eq_take]

theorem zT_le (l : List Int) : (zT l).length ≤ l.length := by unfold zT; rw [List.length_take]; exact Nat.min_le_right _ _
theorem SmL.zT {k : Nat} {l : List Int} (h : SmL k l) : SmL k (zT l) := fun x hx => h x (List.mem_of_mem_take hx)

theorem c_ztrim (D : G.Gd) {l : List Int} (hl : l.length ≤ sizeLine) : CallOk G 1 "ztrim" [dZ l] (dZ (zT l)) := by
  have g := D.g
  have hl' : (l.map PyData.int).length ≤ sizeLine := by simpa using hl
  have hf : sizeLine = 2 ^ 24 := rfl
  refine call_of g (d := dk 38) (xs := ["row"]) (fx := true) (D.df _ (by decide)) (ScOk.of rfl) rfl (by decide) (bind1 fun _ _ _ _ => rfl) ?_
  refine exs_cons ((ex_assign (fun _ _ _ => (ev_fn g (by decide) boot_len (by decide) rfl rfl (evl1 (ev_name rfl (.inl rfl) rfl rfl) (fun _ => se_Name)) se_Name (fun _ => rfl) (c_len ?_ (.inl rfl)))) (by decide) rfl (fun _ _ _ => rfl)).post (Γ2 := [("size", .int l.length), ("row", dZ l)]) (sub_cons (by simp) (sub_cons rfl sub_nil))) ?_
  · exact hl'
  refine exs_cons (ex_while (wh_fold (S := Nat) (fun σ => [("size", .int σ), ("row", dZ l)]) (fun _ => []) (fun σ => σ ≤ l.length) (fun σ => decide ((σ : Int) > 0) && (l.getD (σ - 1) 0 == 0)) (fun σ => σ - 1) (zSz l) id
    (fun σ hσ _ _ _ => (te_and (te_cmp (ev_name rfl (.inl rfl) rfl rfl) ev_int cmp_gt rfl) ?_)) (fun σ hσ hc => ?_) (fun σ hσ hc => ?_) (fun σ hσ hc => ?_) (fun σ hσ hc => ?_) _ l.length (Nat.le_refl _) (Nat.le_refl _))) ?_
  · intro h
    have h : (0 : Int) < σ := by simpa using h
    refine (te_cmp (ev_itemX (.inl rfl) (ev_name rfl (.inl rfl) rfl rfl) (ev_sub (ev_name rfl (.inl rfl) rfl rfl) ev_int) ?_ (fun _ _ => ⟨_, rfl⟩)) ev_int cmp_eq rfl)
    have e : ((σ : Int) - 1).toNat = σ - 1 := by (first | lia | omega)
    exact ⟨hl', _, pyIdx_of (by (first | lia | omega)) (by simp; (first | lia | omega)), by rw [e]; exact dZ_get (by (first | lia | omega))⟩
  · simp only [Bool.and_eq_true, decide_eq_true_eq] at hc
    refine exs_cons ((ex_aug rfl (fun _ _ _ => ev_int) rfl rfl isub_ok).post (sub_cons ?_ (sub_cons rfl sub_nil))) exs_nil
    have e : (σ : Int) - 1 = ((σ - 1 : Nat) : Int) := by (first | lia | omega)
    simp only [List.lookup_cons, beq_self_eq_true]
    rw [e]
  · simp only [Bool.and_eq_true, decide_eq_true_eq] at hc
    exact ⟨by (first | lia | omega), by simp only [id]; (first | lia | omega)⟩
  · cases σ with
    | zero => rfl
    | succ σ =>
      have : ¬ l.getD σ 0 = 0 := by simpa using hc
      unfold zSz; rw [if_neg this]
  · simp only [Bool.and_eq_true, decide_eq_true_eq] at hc
    cases σ with
    | zero => simp at hc
    | succ σ =>
      have : l.getD σ 0 = 0 := by simpa using hc.2
      rw [zSz, if_pos this]; rfl
  · refine exs_ret ((ex_ret fun _ _ _ => (ev_ty g (by decide) boot_list (by decide) rfl rfl (evl1 (ev_slice (ev_name rfl (.inl rfl) rfl rfl) evp_none (evp_some (ev_name rfl (.inl rfl) rfl rfl)) evp_none ?_ (by decide)) (fun _ => se_Subscript)) se_Subscript (fun _ => rfl) (c_listcopy ?_ (.inl rfl)))).conv' ?_)
    · exact hl'
    · rw [pick_take _ (by (first | lia | omega))]; simpa using Nat.le_trans (Nat.min_le_right _ _) hl
    · rw [pick_take _ (by (first | lia | omega))]
      simp only [Int.toNat_natCast, ← List.map_take]
      rfl

theorem c_zdegree (D : G.Gd) {l : List Int} (hl : l.length ≤ sizeLine) : CallOk G 1 "zdegree" [dZ l] (.int ((l.length : Int) - 1)) := by
  have g := D.g
  have hl' : (l.map PyData.int).length ≤ sizeLine := by simpa using hl
  refine call_of g (d := dk 39) (xs := ["p"]) (fx := true) (D.df _ (by decide)) (ScOk.of rfl) rfl (by decide) (bind1 fun _ _ _ _ => rfl) ?_
  refine exs_ret ((ex_ret fun _ _ _ => (ev_sub (ev_fn g (by decide) boot_len (by decide) rfl rfl (evl1 (ev_name rfl (.inl rfl) rfl rfl) (fun _ => se_Name)) se_Name (fun _ => rfl) (c_len ?_ (.inl rfl))) ev_int)).conv' ?_)
  · exact hl'
  · simp
noncomputable def zLd (l : List Int) : Int := l.getD (l.length - 1) 0
theorem c_zlead (D : G.Gd) {l : List Int} (hl : l.length ≤ sizeLine) : CallOk G 1 "zlead" [dZ l] (.int (zLd l)) := by
  have g := D.g
  have hl' : (l.map PyData.int).length ≤ sizeLine := by simpa using hl
  refine call_of g (d := dk 40) (xs := ["p"]) (fx := true) (D.df _ (by decide)) (ScOk.of rfl) rfl (by decide) (bind1 fun _ _ _ _ => rfl) ?_
  refine exs_ret (ex_ret fun _ _ _ => (ev_if (te_cmp (ev_fn g (by decide) boot_len (by decide) rfl rfl (evl1 (ev_name rfl (.inl rfl) rfl rfl) (fun _ => se_Name)) se_Name (fun _ => rfl) (c_len ?_ (.inl rfl))) ev_int cmp_gt rfl) (fun h => ?_) (fun h => ?_)))
  · exact hl'
  · have h : 0 < l.length := by simpa using h
    refine (ev_itemX (.inl rfl) (ev_name rfl (.inl rfl) rfl rfl) (ev_neg ev_int) ?_ (fun _ _ => ⟨_, rfl⟩))
    exact ⟨hl', _, pyIdx_last (by simpa using h), by rw [List.length_map]; exact dZ_get (by (first | lia | omega))⟩
  · have h : l = [] := by simpa using h
    subst h
    exact ev_int
end
end Fco

-- FcM
namespace Fco

section
variable {G : GC} {n : Nat} {env : Env} {Γ : Gam} {O : Own}

theorem EvE.hole {e : Expr} (d : PyData) (h : EvE G n env Γ O e d) : EvE G n env Γ O e d := h
open Classical in
noncomputable def lift {α : Type} (dec : α → PyData) (f : α → Option PyData) (d : PyData) : Option PyData := if h : ∃ x, dec x = d then f h.choose else none
theorem lift_dec {α : Type} {dec : α → PyData} (inj : ∀ x y, dec x = dec y → x = y) (f : α → Option PyData) (x : α) : lift dec f (dec x) = f x := by
  have h : ∃ y, dec y = dec x := ⟨x, rfl⟩
  unfold lift
  rw [dif_pos h, inj _ _ h.choose_spec]
theorem lift_map {α : Type} {dec : α → PyData} (inj : ∀ x y, dec x = dec y → x = y) (f : α → Option PyData) : ∀ xs : List α, (xs.map dec).filterMap (lift dec f) = xs.filterMap f
  | [] => rfl
  | x :: xs => by rw [List.map_cons, List.filterMap_cons, List.filterMap_cons, lift_dec inj, lift_map inj f xs]

noncomputable def freB (scope : Scope) (env : Env) : Bool := scope.names.all fun p => p.2 != .free || env.kindOf p.1 == some .cell
theorem fre_of {scope : Scope} {env : Env} (h : freB scope env = true) : ∀ x, (x, .free) ∈ scope.names → env.kindOf x = some .cell ∨ env.kindOf x = some .free := fun x hx => by
  have := List.all_eq_true.mp h _ hx
  exact .inl (by simpa using this)

noncomputable def FG (scope : Scope) (Γ Γf : Gam) : Prop := ∀ y d, Γf.lookup y = some d → scope.names.lookup y ≠ some .local ∧ Γ.lookup y = some d
theorem fg_nil {scope : Scope} : FG scope Γ [] := fun _ _ h => by cases h
theorem fg_cons {scope : Scope} {Γf : Gam} {y : Str} {d : PyData} (h1 : scope.names.lookup y ≠ some .local) (h2 : Γ.lookup y = some d) (r : FG scope Γ Γf) : FG scope Γ ((y, d) :: Γf) := fun z e hz => by
  by_cases hxy : z = y
  · subst hxy
    simp only [List.lookup_cons, beq_self_eq_true, Option.some.injEq] at hz
    exact ⟨h1, hz ▸ h2⟩
  · have hb : (z == y) = false := by simpa using hxy
    simp only [List.lookup_cons, hb] at hz
    exact r z e hz

theorem compH_name {α : Type} {dec : α → PyData} (inj : ∀ x y, dec x = dec y → x = y) {xs : List α} {f : α → Option PyData} {x : Str} {px : Pos} {elt iter : Expr} {ifs : List Expr} {scope : Scope} {Γf : Gam} (co : compOkB scope = true) (hx : scope.names.lookup x = some .local) (hf : freB scope env = true)
    (src : SrcE G n env Γ O (.Name x px) iter (xs.map dec)) (sz : xs.length ≤ sizeLine) (fold : ∀ v, foldedSetIterable iter env v = pure v) (hg : FG scope Γ Γf) (hel : ∀ a ∈ xs, EltE G n env scope ifs elt ((x, dec a) :: Γf) (f a)) :
    CompH G n env Γ O elt (.Name x px) iter ifs scope (xs.map dec) (lift dec f) where
  co := CompOk.of co
  src := src
  fre := fre_of hf
  sz := by simpa using sz
  fold := fold
  el := ⟨fun d => [(x, d)], Γf, hg, fun d y e hy => by
      by_cases hxy : y = x
      · subst hxy; exact hx
      · have hb : (y == x) = false := by simpa using hxy
        simp [List.lookup_cons, hb] at hy,
    fun d _ C cl => tgtC_name (CompOk.of co) hx, fun d hd => by
      obtain ⟨a, ha, rfl⟩ := List.mem_map.mp hd
      rw [lift_dec inj]; exact hel a ha⟩
theorem ev_compN {α : Type} {dec : α → PyData} (inj : ∀ x y, dec x = dec y → x = y) {xs : List α} {f : α → Option PyData} {x : Str} {px pos : Pos} {elt iter : Expr} {ifs : List Expr} {scope : Scope} {Γf : Gam} (co : compOkB scope = true) (hx : scope.names.lookup x = some .local) (hf : freB scope env = true)
    (src : SrcE G n env Γ O (.Name x px) iter (xs.map dec)) (sz : xs.length ≤ sizeLine) (fold : ∀ v, foldedSetIterable iter env v = pure v) (hg : FG scope Γ Γf) (hel : ∀ a ∈ xs, EltE G n env scope ifs elt ((x, dec a) :: Γf) (f a)) :
    EvE G n env Γ O (.ListComp elt [⟨.Name x px, iter, ifs, 0⟩] scope pos) (.list (xs.filterMap f)) :=
  (ev_comp (compH_name inj co hx hf src sz fold hg hel)).conv (by rw [lift_map inj])
noncomputable def tg2 (x y : Str) (d : PyData) : Gam := match d with | .tuple [u, v] => [(y, v), (x, u)] | _ => []
/-- two names as target -/
theorem ev_compN2 {α : Type} {dec : α → PyData} (inj : ∀ x y, dec x = dec y → x = y) {xs : List α} {f : α → Option PyData} {x y : Str} {elts : List Expr} {kn : Nat} {tp p1 p2 pos : Pos} {elt iter : Expr} {ifs : List Expr} {scope : Scope} {Γf : Gam} (co : compOkB scope = true)
    (hx : scope.names.lookup x = some .local) (hy : scope.names.lookup y = some .local) (hf : freB scope env = true)
    (src : SrcE G n env Γ O (.Tuple elts kn tp) iter (xs.map dec)) (sz : xs.length ≤ sizeLine) (fold : ∀ v, foldedSetIterable iter env v = pure v) (hg : FG scope Γ Γf) (d1 d2 : α → PyData) (hd : ∀ a, dec a = .tuple [d1 a, d2 a])
    (ha : ∀ C cl, assignEach elts (compEnvC scope cl C env) = [(false, assign (.Name x p1) (compEnvC scope cl C env)), (false, assign (.Name y p2) (compEnvC scope cl C env))])
    (hel : ∀ a ∈ xs, EltE G n env scope ifs elt ((y, d2 a) :: (x, d1 a) :: Γf) (f a)) :
    EvE G n env Γ O (.ListComp elt [⟨.Tuple elts kn tp, iter, ifs, 0⟩] scope pos) (.list (xs.filterMap f)) := by
  refine (ev_comp (f := lift dec f) ⟨CompOk.of co, src, fre_of hf, by simpa using sz, fold, tg2 x y, Γf, hg, fun d z e hz => ?_, fun d hd' C cl => ?_, fun d hd' => ?_⟩).conv (by rw [lift_map inj])
  · unfold tg2 at hz
    split at hz
    · simp only [List.lookup_cons] at hz
      split at hz
      · rename_i hh; rw [eq_of_beq hh]; exact hy
      · split at hz
        · rename_i hh; rw [eq_of_beq hh]; exact hx
        · cases hz
    · cases hz
  · obtain ⟨a, _, rfl⟩ := List.mem_map.mp hd'
    rw [hd]
    exact tgtC_tuple (xs := [x, y]) (ps := [p1, p2]) (CompOk.of co) (by
      intro z hz
      rcases List.mem_cons.mp hz with h | hz
      · exact h ▸ hx
      · exact (List.mem_singleton.mp hz) ▸ hy) rfl rfl (ha C cl)
  · obtain ⟨a, h, rfl⟩ := List.mem_map.mp hd'
    rw [lift_dec inj, hd]
    exact hel a h
end

theorem inj_int : ∀ x y : Int, PyData.int x = PyData.int y → x = y := fun _ _ h => by cases h; rfl
theorem all2 {α : Type} {P : α → Prop} {x y : α} (h1 : P x) (h2 : P y) : ∀ z ∈ [x, y], P z := fun z hz => by
  rcases List.mem_cons.mp hz with h | hz
  · exact h ▸ h1
  · exact (List.mem_singleton.mp hz) ▸ h2
theorem inj_nat : ∀ x y : Nat, PyData.int x = PyData.int y → x = y := fun _ _ h => by
  have := PyData.int.inj h; (first | lia | omega)
theorem inj_en : ∀ x y : Int × Nat, PyData.tuple [.int x.2, .int x.1] = PyData.tuple [.int y.2, .int y.1] → x = y := fun x y h => by
  obtain ⟨a, b⟩ := x; obtain ⟨c, d⟩ := y
  simp only [PyData.tuple.injEq, List.cons.injEq, PyData.int.injEq, and_true] at h
  obtain ⟨h1, h2⟩ := h
  rw [h2]; congr 1; (first | lia | omega)
theorem enumD_map {α : Type} (dec : α → PyData) (xs : List α) : enumD (xs.map dec) = xs.zipIdx.map fun p => .tuple [.int p.2, dec p.1] := by
  apply List.ext_getElem?
  intro i
  simp [enumD, List.getElem?_mapIdx, List.getElem?_zipIdx]
  cases xs[i]? <;> simp

theorem src_enumM {G : GC} {n : Nat} {env : Env} {Γ : Gam} {O : Own} {α : Type} (g : G.Good) {dec : α → PyData} {xs : List α} {es : List Expr} {kn : Nat} {tp fp pos : Pos} {e : Expr} (he : EvE G n env Γ O e (.list (xs.map dec))) (hk : env.kindOf ("enumerate" : Str) = some .globalImplicit) (hst : starEach [e] env = [(false, eval e env)]) :
    SrcE G n env Γ O (.Tuple es kn tp) (.Call (.Name "enumerate" fp) [e] [] pos) (xs.zipIdx.map fun p => .tuple [.int p.2, dec p.1]) := by
  rw [← enumD_map]; exact src_enum g he hk hst

section
variable {G : GC}
noncomputable def zAddL (a b : List Int) : List Int := (List.range (max a.length b.length)).map fun i => a.getD i 0 + b.getD i 0
noncomputable def zAdd (a b : List Int) : List Int := zT (zAddL a b)
theorem c_zadd (D : G.Gd) {a b : List Int} (ha : a.length ≤ 1000) (hb : b.length ≤ 1000) : CallOk G 2 "zadd" [dZ a, dZ b] (dZ (zAdd a b)) := by
  have g := D.g
  have hf : sizeLine = 2 ^ 24 := rfl
  have ha' : (a.map PyData.int).length ≤ sizeLine := by first | exact mapS ‹_› | exact map8 ‹_› | exact map8 (Nat.le_trans ‹_› ‹_›) | (simp; (first | lia | omega))
  have hb' : (b.map PyData.int).length ≤ sizeLine := by first | exact mapS ‹_› | exact map8 ‹_› | exact map8 (Nat.le_trans ‹_› ‹_›) | (simp; (first | lia | omega))
  refine call_of g (d := dk 41) (xs := ["a", "b"]) (fx := true) (D.df _ (by decide)) (ScOk.of rfl) rfl (by decide) (bind2 fun _ _ _ _ _ => rfl) ?_
  refine exs_cons ((ex_assign (fun _ _ _ => (ev_fn g (by decide) boot_max (by decide) rfl rfl (evl2 (ev_fn g (by decide) boot_len (by decide) rfl rfl (evl1 (ev_name rfl (.inr (.inl rfl)) rfl rfl) (fun _ => se_Name)) se_Name (fun _ => rfl) (c_len ?_ (.inl rfl))) (ev_fn g (by decide) boot_len (by decide) rfl rfl (evl1 (ev_name rfl (.inr (.inl rfl)) rfl rfl) (fun _ => se_Name)) se_Name (fun _ => rfl) (c_len ?_ (.inl rfl))) (fun _ => se_Call) (fun _ => se_Call)) se_Call (fun _ => rfl) c_max)) (by decide) rfl (fun _ _ _ => rfl)).post (Γ2 := [("size", .int (max a.length b.length : Nat)), ("a", dZ a), ("b", dZ b)]) (sub_cons (by simp; (first | lia | omega)) (sub_cons rfl (sub_cons rfl sub_nil)))) (exs_ret (ex_ret fun _ _ _ => (ev_call g (c_ztrim D (l := zAddL a b) (by simp only [zAddL, List.length_map, List.length_range]; (first | lia | omega))) (by decide) rfl rfl (evl1 ?_ (fun _ => se_ListComp)) se_ListComp)))
  · exact ha'
  · exact hb'
  · refine EvE.conv (ev_compN inj_nat (f := fun i => some (.int (a.getD i 0 + b.getD i 0))) (Γf := [("a", dZ a), ("b", dZ b)]) rfl rfl rfl (src_range (k := (max a.length b.length : Nat)) g (ev_name rfl (.inl rfl) rfl rfl) rfl rfl (by (first | lia | omega)) (by (first | lia | omega))) (by simp; (first | lia | omega)) (fun _ => rfl) (fg_cons (by decide) rfl (fg_cons (by decide) rfl fg_nil)) (fun i hi C cl => ?_)) ?_
    · have hl : (i : Int) < (List.map PyData.int a).length ↔ i < a.length := by simp
      have hl2 : (i : Int) < (List.map PyData.int b).length ↔ i < b.length := by simp
      show EvE _ _ _ _ _ _ _
      refine ev_add (a := a.getD i 0) (b := b.getD i 0) (ev_if (te_cmp (ev_name rfl (.inl rfl) rfl rfl) (ev_fn g (by decide) boot_len (by decide) rfl rfl (evl1 (ev_name rfl (.inr (.inl rfl)) rfl rfl) (fun _ => se_Name)) se_Name (fun _ => rfl) (c_len ?_ (.inl rfl))) cmp_lt rfl) ?_ ?_) (ev_if (te_cmp (ev_name rfl (.inl rfl) rfl rfl) (ev_fn g (by decide) boot_len (by decide) rfl rfl (evl1 (ev_name rfl (.inr (.inl rfl)) rfl rfl) (fun _ => se_Name)) se_Name (fun _ => rfl) (c_len ?_ (.inl rfl))) cmp_lt rfl) ?_ ?_)
      · exact ha'
      · intro h
        have h : i < a.length := by simpa using h
        refine (ev_itemX (.inl rfl) (ev_name rfl (.inr (.inl rfl)) rfl rfl) (ev_name rfl (.inl rfl) rfl rfl) ?_ (fun _ _ => ⟨_, rfl⟩))
        exact ⟨ha', _, pyIdx_nat (by simpa using h), dZ_get h⟩
      · intro h
        have h : a.length ≤ i := by simpa using h
        exact EvE.conv ev_int (by simp [h])
      · exact hb'
      · intro h
        have h : i < b.length := by simpa using h
        refine (ev_itemX (.inl rfl) (ev_name rfl (.inr (.inl rfl)) rfl rfl) (ev_name rfl (.inl rfl) rfl rfl) ?_ (fun _ _ => ⟨_, rfl⟩))
        exact ⟨hb', _, pyIdx_nat (by simpa using h), dZ_get h⟩
      · intro h
        have h : b.length ≤ i := by simpa using h
        exact EvE.conv ev_int (by simp [h])
    · simp [dZ, zAddL]

theorem zAdd_le (a b : List Int) : (zAdd a b).length ≤ max a.length b.length := by
  refine Nat.le_trans (zT_le _) ?_
  simp [zAddL]
noncomputable def zNeg (l : List Int) : List Int := l.map fun x => -x
theorem c_zneg (D : G.Gd) {l : List Int} (hl : l.length ≤ 1000) : CallOk G 1 "zneg" [dZ l] (dZ (zNeg l)) := by
  have g := D.g
  have hf : sizeLine = 2 ^ 24 := rfl
  refine call_of g (d := dk 42) (xs := ["p"]) (fx := true) (D.df _ (by decide)) (ScOk.of rfl) rfl (by decide) (bind1 fun _ _ _ _ => rfl) ?_
  refine exs_ret (ex_ret fun _ _ _ => ?_)
  refine EvE.conv (ev_compN inj_int (xs := l) (f := fun x => some (.int (-x))) (Γf := []) rfl rfl rfl (src_list (.inl rfl) (ev_name rfl (.inl rfl) rfl rfl) go_name) (by (first | lia | omega)) (fun _ => rfl) fg_nil (fun x _ C cl => ?_)) ?_
  · show EvE _ _ _ _ _ _ _
    exact (ev_neg (ev_name rfl (.inl rfl) rfl rfl))
  · simp [dZ, zNeg]
noncomputable def zSub (a b : List Int) : List Int := zAdd a (zNeg b)
theorem c_zsub (D : G.Gd) {a b : List Int} (ha : a.length ≤ 1000) (hb : b.length ≤ 1000) : CallOk G 3 "zsub" [dZ a, dZ b] (dZ (zSub a b)) := by
  have g := D.g
  refine call_of g (d := dk 43) (xs := ["a", "b"]) (fx := true) (D.df _ (by decide)) (ScOk.of rfl) rfl (by decide) (bind2 fun _ _ _ _ _ => rfl) ?_
  exact exs_ret (ex_ret fun _ _ _ => (ev_call g (c_zadd D ha (b := zNeg b) (by simpa [zNeg] using hb)) (by decide) rfl rfl (evl2 (ev_name rfl (.inl rfl) rfl rfl) (ev_call g (c_zneg D hb) (by decide) rfl rfl (evl1 (ev_name rfl (.inl rfl) rfl rfl) (fun _ => se_Name)) se_Name) (fun _ => se_Name) (fun _ => se_Call)) se_Name))
noncomputable def zScale (l : List Int) (k : Int) : List Int := if k = 0 then [] else l.map fun x => x * k
theorem c_zscale (D : G.Gd) {l : List Int} {k : Int} {B : Nat} (hl : l.length ≤ 1000) (hs : SmL B l) (hk : Sm B k) (hB : B ≤ 60000000) : CallOk G 1 "zscale" [dZ l, .int k] (dZ (zScale l k)) := by
  have g := D.g
  have hf : sizeLine = 2 ^ 24 := rfl
  refine call_of g (d := dk 44) (xs := ["p", "k"]) (fx := true) (D.df _ (by decide)) (ScOk.of rfl) rfl (by decide) (bind2 fun _ _ _ _ _ => rfl) ?_
  refine exs_ret (ex_ret fun _ _ _ => (ev_if (te_cmp (ev_name rfl (.inr (.inl rfl)) rfl rfl) ev_int cmp_ne rfl) (fun h => ?_) (fun h => ?_)))
  · have h : ¬ k = 0 := by simpa using h
    refine EvE.conv (ev_compN inj_int (xs := l) (f := fun x => some (.int (x * k))) (Γf := [("k", .int k)]) rfl rfl rfl (src_list (.inl rfl) (ev_name rfl (.inl rfl) rfl rfl) go_name) (by (first | lia | omega)) (fun _ => rfl) (fg_cons (by decide) rfl fg_nil) (fun x hx C cl => ?_)) ?_
    · show EvE _ _ _ _ _ _ _
      refine (ev_mul (ev_name rfl (.inl rfl) rfl rfl) (ev_name rfl (.inr (.inl rfl)) rfl rfl) ?_)
      exact (hs x hx).ok hk (by (first | lia | omega))
    · simp [dZ, zScale, h]
  · have h : k = 0 := by simpa using h
    exact EvE.conv (ev_list evl_nil (Nat.le_of_ble_eq_true rfl)) (by simp [dZ, zScale, h])
noncomputable def zRaise (l : List Int) (k : Nat) : List Int := if l = [] then [] else List.replicate k 0 ++ l
theorem c_zraise (D : G.Gd) {l : List Int} {k : Nat} (hl : l.length ≤ 1000) (hk : k ≤ 1000) : CallOk G 1 "zraise" [dZ l, .int k] (dZ (zRaise l k)) := by
  have g := D.g
  have hf : sizeLine = 2 ^ 24 := rfl
  have hl' : (l.map PyData.int).length ≤ sizeLine := by first | exact mapS ‹_› | exact map8 ‹_› | exact map8 (Nat.le_trans ‹_› ‹_›) | (simp; (first | lia | omega))
  refine call_of g (d := dk 45) (xs := ["p", "many"]) (fx := true) (D.df _ (by decide)) (ScOk.of rfl) rfl (by decide) (bind2 fun _ _ _ _ _ => rfl) ?_
  refine exs_ret (ex_ret fun _ _ _ => (ev_if (te_cmp (ev_fn g (by decide) boot_len (by decide) rfl rfl (evl1 (ev_name rfl (.inl rfl) rfl rfl) (fun _ => se_Name)) se_Name (fun _ => rfl) (c_len ?_ (.inl rfl))) ev_int cmp_gt rfl) (fun h => ?_) (fun h => ?_)))
  · exact hl'
  · have h : l ≠ [] := by intro e; subst e; simp at h
    refine EvE.conv (ev_cat (ev_rep ev_int (ev_name rfl (.inl rfl) rfl rfl) rfl ?_ ?_) (ev_ty g (by decide) boot_list (by decide) rfl rfl (evl1 (ev_name rfl (.inl rfl) rfl rfl) (fun _ => se_Name)) se_Name (fun _ => rfl) (c_listcopy ?_ (.inl rfl))) ?_) ?_
    · (first | lia | omega)
    · (first | lia | omega)
    · exact hl'
    · simp; (first | lia | omega)
    · simp [dZ, zRaise, h]
  · have h : l = [] := by simpa using h
    exact EvE.conv (ev_list evl_nil (Nat.le_of_ble_eq_true rfl)) (by simp [dZ, zRaise, h])
theorem c_zcontent (D : G.Gd) {l : List Int} (hl : l.length ≤ 1000) : CallOk G 3 "zcontent" [dZ l] (.int (gcdL l)) := by
  have g := D.g
  have hf : sizeLine = 2 ^ 24 := rfl
  refine call_of g (d := dk 48) (xs := ["p"]) (fx := true) (D.df _ (by decide)) (ScOk.of rfl) rfl (by decide) (bind1 fun _ _ _ _ => rfl) ?_
  exact exs_ret (ex_ret fun _ _ _ => (ev_call g (c_gcd_all D l (by (first | lia | omega))) (by decide) rfl rfl (evl1 (ev_name rfl (.inl rfl) rfl rfl) (fun _ => se_Name)) se_Name))
noncomputable def zDer (l : List Int) : List Int := (l.zipIdx.map fun p => p.1 * (p.2 : Int)).drop 1
theorem mem_zipIdx {α : Type} {l : List α} {p : α × Nat} (h : p ∈ l.zipIdx) : p.1 ∈ l ∧ p.2 < l.length := by
  have := List.mem_zipIdx h
  obtain ⟨h1, h2, h3⟩ := this
  exact ⟨h3 ▸ List.getElem_mem _, by (first | lia | omega)⟩
theorem c_zderive (D : G.Gd) {l : List Int} {B : Nat} (hl : l.length ≤ 1000) (hs : SmL B l) (hB : B ≤ 60000000) : CallOk G 1 "zderive" [dZ l] (dZ (zDer l)) := by
  have g := D.g
  have hf : sizeLine = 2 ^ 24 := rfl
  refine call_of g (d := dk 49) (xs := ["p"]) (fx := true) (D.df _ (by decide)) (ScOk.of rfl) rfl (by decide) (bind1 fun _ _ _ _ => rfl) ?_
  refine exs_ret ((ex_ret fun _ _ _ => (ev_slice (EvE.hole (.list (l.zipIdx.map fun p => .int (p.1 * (p.2 : Int)))) ?_) (evp_some ev_int) evp_none evp_none ?_ (by decide))).conv' ?_)
  · refine EvE.conv (ev_compN2 inj_en (xs := l.zipIdx) (f := fun p => some (.int (p.1 * (p.2 : Int)))) (Γf := []) rfl rfl rfl rfl (src_enumM g (dec := PyData.int) (xs := l) (ev_name rfl (.inl rfl) rfl rfl) rfl rfl) (by simp; (first | lia | omega)) (fun _ => rfl) fg_nil (fun p => .int p.2) (fun p => .int p.1) (fun _ => rfl) (fun _ _ => rfl) (fun p hp C cl => ?_)) ?_
    · show EvE _ _ _ _ _ _ _
      refine (ev_mul (ev_name rfl (.inl rfl) rfl rfl) (ev_name rfl (.inl rfl) rfl rfl) ?_)
      have h2 := (mem_zipIdx hp).2
      refine (hs _ (mem_zipIdx hp).1).ok (l := 10) ?_ (by (first | lia | omega))
      unfold Sm; (first | lia | omega)
    · simp
  · simp; (first | lia | omega)
  · rw [pick_drop1 _ (by decide)]
    simp [dZ, zDer]
    rfl

-- products
noncomputable def mulRow (left : Int) (one : Nat) (b : List Int) (found : List Int) : List Int := b.zipIdx.foldl (fun fd p => fd.set (one + p.2) (fd.getD (one + p.2) 0 + left * p.1)) found
noncomputable def zMulL (a b : List Int) : List Int := a.zipIdx.foldl (fun fd p => if p.1 = 0 then fd else mulRow p.1 p.2 b fd) (List.replicate (a.length + b.length - 1) 0)
noncomputable def zMul (a b : List Int) : List Int := if a = [] ∨ b = [] then [] else zMulL a b
theorem mulRow_len (left : Int) (one : Nat) (b : List Int) (found : List Int) : (mulRow left one b found).length = found.length := by
  unfold mulRow
  generalize b.zipIdx = l
  induction l generalizing found with
  | nil => rfl
  | cons p l ih => rw [List.foldl_cons, ih]; simp
theorem zMulL_len (a b : List Int) : (zMulL a b).length = a.length + b.length - 1 := by
  unfold zMulL
  have : ∀ (l : List (Int × Nat)) (fd : List Int), (l.foldl (fun fd p => if p.1 = 0 then fd else mulRow p.1 p.2 b fd) fd).length = fd.length := by
    intro l
    induction l with
    | nil => intro fd; rfl
    | cons p l ih =>
      intro fd
      rw [List.foldl_cons, ih]
      split
      · rfl
      · exact mulRow_len ..
  rw [this]; simp
theorem zMul_le (a b : List Int) : (zMul a b).length ≤ a.length + b.length := by
  unfold zMul
  split
  · simp
  · rw [zMulL_len]; (first | lia | omega)

theorem c_zmul (D : G.Gd) {a b : List Int} {B : Nat} (ha : a.length ≤ 1000) (hb : b.length ≤ 1000) (hsa : SmL B a) (hsb : SmL B b) (hB : B ≤ 60000000) : CallOk G 1 "zmul" [dZ a, dZ b] (dZ (zMul a b)) := by
  have g := D.g
  have hf : sizeLine = 2 ^ 24 := rfl
  have ha' : (a.map PyData.int).length ≤ sizeLine := by first | exact mapS ‹_› | exact map8 ‹_› | exact map8 (Nat.le_trans ‹_› ‹_›) | (simp; (first | lia | omega))
  have hb' : (b.map PyData.int).length ≤ sizeLine := by first | exact mapS ‹_› | exact map8 ‹_› | exact map8 (Nat.le_trans ‹_› ‹_›) | (simp; (first | lia | omega))
  refine call_of g (d := dk 46) (xs := ["a", "b"]) (fx := false) (D.df _ (by decide)) (ScOk.of rfl) rfl (by decide) (bind2 fun _ _ _ _ _ => rfl) ?_
  refine exs_if (c := decide (a = []) || decide (b = [])) (fun _ _ _ => ?_) (fun h => .inr ⟨_, rfl, exs_ret ((ex_ret fun _ _ _ => (ev_list evl_nil (Nat.le_of_ble_eq_true rfl))).conv' ?_)⟩) (fun h => .inl ⟨exs_nil, ?_⟩)
  · refine TeE.conv (te_or (te_cmp (ev_fn g (by decide) boot_len (by decide) rfl rfl (evl1 (ev_name rfl (.inl rfl) rfl rfl) (fun _ => se_Name)) se_Name (fun _ => rfl) (c_len ?_ (.inl rfl))) ev_int cmp_eq rfl) (fun _ => (te_cmp (ev_fn g (by decide) boot_len (by decide) rfl rfl (evl1 (ev_name rfl (.inl rfl) rfl rfl) (fun _ => se_Name)) se_Name (fun _ => rfl) (c_len ?_ (.inl rfl))) ev_int cmp_eq rfl))) ?_
    · exact ha'
    · exact hb'
    · rw [Bool.eq_iff_iff]; simp
  · have h : a = [] ∨ b = [] := by simpa using h
    simp [dZ, zMul, h]
  have h : ¬ (a = [] ∨ b = []) := by simpa using h
  have hab : a ≠ [] ∧ b ≠ [] := ⟨fun e => h (.inl e), fun e => h (.inr e)⟩
  have h1 : 0 < a.length := List.length_pos_iff.mpr hab.1
  have h2 : 0 < b.length := List.length_pos_iff.mpr hab.2
  let Γ0 : Gam := [("a", dZ a), ("b", dZ b)]
  refine exs_cons ((ex_assignF (fun _ _ _ => evf_rep (k := ((a.length + b.length - 1 : Nat) : Int)) (d := .int 0) ev_int (EvE.conv (ev_sub (ev_add (ev_fn g (by decide) boot_len (by decide) rfl rfl (evl1 (ev_name rfl (.inl rfl) rfl rfl) (fun _ => se_Name)) se_Name (fun _ => rfl) (c_len ?_ (.inl rfl))) (ev_fn g (by decide) boot_len (by decide) rfl rfl (evl1 (ev_name rfl (.inl rfl) rfl rfl) (fun _ => se_Name)) se_Name (fun _ => rfl) (c_len ?_ (.inl rfl)))) ev_int) ?_) rfl ?_ ?_) (by decide) rfl (fun _ _ _ => rfl)).post (Γ2 := Γ0) (sub_cons rfl (sub_cons rfl sub_nil))) ?_
  · exact ha'
  · exact hb'
  · simp; (first | lia | omega)
  · (first | lia | omega)
  · (first | lia | omega)
  have e0 : List.replicate ((a.length + b.length - 1 : Nat) : Int).toNat (PyData.int 0) = (List.replicate (a.length + b.length - 1) (0 : Int)).map .int := by simp
  rw [e0]
  refine exs_cons (ex_for (fun _ _ _ => src_enumM g (dec := PyData.int) (xs := a) (ev_name rfl (.inl rfl) rfl rfl) rfl rfl) (for_map (fun p : Int × Nat => .tuple [.int p.2, .int p.1]) (fun _ : List Int => Γ0) (fun fd => [("found", (false, fd.map .int))]) (fun _ fd => fd.length = a.length + b.length - 1)
    (fun fd p => if p.1 = 0 then fd else mulRow p.1 p.2 b fd) (fun _ p => StoreL ["one", "left"] [.int p.2, .int p.1] Γ0) a.zipIdx
    (fun i fd p hp hi => tgt_tuple (xs := ["one", "left"]) (ps := [_, _]) (all2 ⟨.inl rfl, rfl⟩ ⟨.inl rfl, rfl⟩) rfl rfl (fun _ _ _ => rfl)) (fun i fd p hp hi => ⟨?_, ?_⟩) a.zipIdx 0 (List.replicate (a.length + b.length - 1) 0) (by simp) (by simp))) ?_
  · have hm := mem_zipIdx (List.mem_of_getElem? hp)
    refine exs_cons (ExT.post (ex_if (c := p.1 != 0) (fun _ _ _ => (te_cmp (ev_name rfl (.inl rfl) rfl rfl) ev_int cmp_ne rfl)) (fun hc => ?_) (fun hc => ?_)) (Γ1 := StoreL ["one", "left"] [.int p.2, .int p.1] Γ0) (sub_cons rfl (sub_cons rfl sub_nil))) exs_nil
    · have hc : ¬ p.1 = 0 := by simpa using hc
      refine exs_cons (ExT.post (ex_for (fun _ _ _ => src_enumM g (dec := PyData.int) (xs := b) (ev_name rfl (.inl rfl) rfl rfl) rfl rfl) (for_map (fun p : Int × Nat => .tuple [.int p.2, .int p.1]) (fun _ : List Int => StoreL ["one", "left"] [.int p.2, .int p.1] Γ0) (fun fd => [("found", (false, fd.map .int))])
        (fun _ fd => fd.length = a.length + b.length - 1)
        (fun fd q => fd.set (p.2 + q.2) (fd.getD (p.2 + q.2) 0 + p.1 * q.1)) (fun _ q => StoreL ["other", "right"] [.int q.2, .int q.1] (StoreL ["one", "left"] [.int p.2, .int p.1] Γ0)) b.zipIdx
        (fun i fd q hq hi => tgt_tuple (xs := ["other", "right"]) (ps := [_, _]) (all2 ⟨.inl rfl, rfl⟩ ⟨.inl rfl, rfl⟩) rfl rfl (fun _ _ _ => rfl)) (fun i fd q hq hi => ⟨?_, by simpa using hi⟩) b.zipIdx 0 fd (by simp) hi)) (fun _ _ h => h)) ?_
      · have hq' := mem_zipIdx (List.mem_of_getElem? hq)
        have e1 : ((p.2 : Int) + (q.2 : Int)).toNat = p.2 + q.2 := by (first | lia | omega)
        refine exs_cons (ExT.post (ex_conv (ex_augO (k := (p.2 : Int) + q.2) (i := fd.getD (p.2 + q.2) 0) (j := p.1 * q.1) (fun _ _ _ => (ev_mul (ev_name rfl (.inl rfl) rfl rfl) (ev_name rfl (.inl rfl) rfl rfl) ?_)) (fun _ _ _ => (ev_add (ev_name rfl (.inl rfl) rfl rfl) (ev_name rfl (.inl rfl) rfl rfl))) rfl rfl (by (first | lia | omega)) (by simp; (first | lia | omega)) (by simp; (first | lia | omega)) ?_ (fun _ _ _ => rfl)) ?_)
          (Γ1 := StoreL ["other", "right"] [.int q.2, .int q.1] (StoreL ["one", "left"] [.int p.2, .int p.1] Γ0)) (sub_cons rfl (sub_cons rfl (sub_cons rfl (sub_cons rfl sub_nil))))) exs_nil
        · exact (hsa _ hm.1).ok (hsb _ hq'.1) (by (first | lia | omega))
        · rw [e1]; exact dZ_get (by (first | lia | omega))
        · rw [e1, List.map_set]
      · have e : (if p.1 = 0 then fd else mulRow p.1 p.2 b fd) = mulRow p.1 p.2 b fd := if_neg hc
        rw [e]; exact exs_nil
    · have hc : p.1 = 0 := by simpa using hc
      have e : (if p.1 = 0 then fd else mulRow p.1 p.2 b fd) = fd := if_pos hc
      rw [e]; exact exs_nil
  · show (if p.1 = 0 then fd else mulRow p.1 p.2 b fd).length = _
    split
    · exact hi
    · rw [mulRow_len]; exact hi
  · refine exs_freeze (exs_ret ((ex_ret fun _ _ _ => (ev_name rfl (.inl rfl) rfl rfl)).conv' ?_))
    simp [dZ, zMul, zMulL, h]
end
end Fco

-- FcN
namespace Fco

-- sizes of results
theorem SmL.mono {k l : Nat} {a : List Int} (h : SmL k a) (hk : k ≤ l) : SmL l a := fun x hx => (h x hx).mono hk
theorem getD_Sm {k : Nat} {a : List Int} (h : SmL k a) (i : Nat) : Sm k (a.getD i 0) := by
  by_cases hi : i < a.length
  · have e : a.getD i 0 = a[i] := by simp [hi]
    rw [e]; exact h _ (List.getElem_mem hi)
  · have e : a.getD i 0 = 0 := by rw [List.getD_eq_getElem?_getD, List.getElem?_eq_none (by (first | lia | omega))]; rfl
    rw [e]; exact .zero
theorem SmL_zAdd {k : Nat} {a b : List Int} (ha : SmL k a) (hb : SmL k b) : SmL (k + 1) (zAdd a b) := by
  refine SmL.zT fun x hx => ?_
  obtain ⟨i, _, rfl⟩ := List.mem_map.mp hx
  exact ((getD_Sm ha i).add (getD_Sm hb i)).mono (by (first | lia | omega))
theorem SmL_zNeg {k : Nat} {a : List Int} (ha : SmL k a) : SmL k (zNeg a) := fun x hx => by
  obtain ⟨y, hy, rfl⟩ := List.mem_map.mp hx
  exact (ha y hy).neg
theorem SmL_zSub {k : Nat} {a b : List Int} (ha : SmL k a) (hb : SmL k b) : SmL (k + 1) (zSub a b) := SmL_zAdd ha (SmL_zNeg hb)
theorem SmL_zScale {k l : Nat} {a : List Int} {c : Int} (ha : SmL k a) (hc : Sm l c) : SmL (k + l) (zScale a c) := by
  unfold zScale
  split
  · intro x hx; cases hx
  · intro x hx
    obtain ⟨y, hy, rfl⟩ := List.mem_map.mp hx
    exact (ha y hy).mul hc
theorem SmL_zRaise {k : Nat} {a : List Int} {n : Nat} (ha : SmL k a) : SmL k (zRaise a n) := by
  unfold zRaise
  split
  · intro x hx; cases hx
  · intro x hx
    rcases List.mem_append.mp hx with h | h
    · rw [(List.mem_replicate.mp h).2]; exact .zero
    · exact ha x h
noncomputable def BdL (t M : Nat) (l : List Int) : Prop := ∀ x ∈ l, x.natAbs ≤ t * M
theorem BdL.mono {t t' M : Nat} {l : List Int} (h : BdL t M l) (ht : t ≤ t') : BdL t' M l := fun x hx => Nat.le_trans (h x hx) (Nat.mul_le_mul_right _ ht)
theorem getD_Bd {t M : Nat} {a : List Int} (h : BdL t M a) (i : Nat) : (a.getD i 0).natAbs ≤ t * M := by
  by_cases hi : i < a.length
  · have e : a.getD i 0 = a[i] := by simp [hi]
    rw [e]; exact h _ (List.getElem_mem hi)
  · have e : a.getD i 0 = 0 := by rw [List.getD_eq_getElem?_getD, List.getElem?_eq_none (by (first | lia | omega))]; rfl
    rw [e]; simp
theorem BdL_row {M : Nat} {left : Int} {one : Nat} : ∀ (l : List (Int × Nat)) (t : Nat) (fd : List Int), BdL t M fd → (∀ p ∈ l, (left * p.1).natAbs ≤ M) →
    BdL (t + l.length) M (l.foldl (fun fd p => fd.set (one + p.2) (fd.getD (one + p.2) 0 + left * p.1)) fd)
  | [], t, fd, h, _ => h
  | p :: l, t, fd, h, hl => by
    rw [List.foldl_cons]
    have := BdL_row (one := one) l (t + 1) (fd.set (one + p.2) (fd.getD (one + p.2) 0 + left * p.1)) (fun x hx => by
      rcases List.mem_or_eq_of_mem_set hx with hx | hx
      · exact (h.mono (Nat.le_succ t)) x hx
      · rw [hx]
        have h1 := getD_Bd h (one + p.2)
        have h2 := hl p (.head _)
        have h3 := Int.natAbs_add_le (fd.getD (one + p.2) 0) (left * p.1)
        rw [Nat.succ_mul]; (first | lia | omega)) (fun q hq => hl q (.tail _ hq))
    rw [List.length_cons]
    exact this.mono (by (first | lia | omega))
theorem lt_two_pow' (t : Nat) : t < 2 ^ t := Nat.lt_two_pow_self
theorem SmL_zMul {k l : Nat} {a b : List Int} (ha : SmL k a) (hb : SmL l b) : SmL (k + l + a.length * b.length) (zMul a b) := by
  unfold zMul
  split
  · intro x hx; cases hx
  have key : ∀ (ps : List (Int × Nat)) (t : Nat) (fd : List Int), BdL t (2 ^ (k + l)) fd → (∀ p ∈ ps, Sm k p.1) → BdL (t + ps.length * b.length) (2 ^ (k + l)) (ps.foldl (fun fd p => if p.1 = 0 then fd else mulRow p.1 p.2 b fd) fd) := by
    intro ps
    induction ps with
    | nil => intro t fd h _; simpa using h
    | cons p ps ih =>
      intro t fd h hp
      rw [List.foldl_cons]
      have h1 : BdL (t + b.length) (2 ^ (k + l)) (if p.1 = 0 then fd else mulRow p.1 p.2 b fd) := by
        split
        · exact h.mono (Nat.le_add_right _ _)
        · have := BdL_row (left := p.1) (one := p.2) b.zipIdx t fd h (fun q hq => Nat.le_of_lt ((hp p (.head _)).mul (hb _ (mem_zipIdx hq).1)))
          unfold mulRow
          simpa using this
      refine (ih _ _ h1 fun q hq => hp q (.tail _ hq)).mono ?_
      rw [List.length_cons, Nat.succ_mul]; (first | lia | omega)
  intro x hx
  have h2 := key a.zipIdx 0 (List.replicate (a.length + b.length - 1) 0) (fun y hy => by rw [(List.mem_replicate.mp hy).2]; simp) (fun p hp => ha _ (mem_zipIdx hp).1) x hx
  unfold Sm
  rw [Nat.pow_add]
  rw [List.length_zipIdx, Nat.zero_add] at h2
  refine Nat.lt_of_le_of_lt h2 ?_
  rw [Nat.mul_comm]
  exact Nat.mul_lt_mul_of_pos_left (lt_two_pow' _) (Nat.pow_pos (by decide))

-- lengths
theorem zNeg_len (a : List Int) : (zNeg a).length = a.length := by simp [zNeg]
theorem zScale_len (a : List Int) (k : Int) : (zScale a k).length ≤ a.length := by unfold zScale; split <;> simp
theorem zSub_le (a b : List Int) : (zSub a b).length ≤ max a.length b.length := by have := zAdd_le a (zNeg b); rw [zNeg_len] at this; exact this
theorem zRaise_len (a : List Int) (k : Nat) : (zRaise a k).length ≤ k + a.length := by unfold zRaise; split <;> simp

-- equality of lists
theorem eqvAll_int : ∀ l m : List Int, PyData.eqvAll (l.map .int) (m.map .int) = decide (l = m)
  | [], [] => by simp [PyData.eqvAll]
  | [], _ :: _ => by simp [PyData.eqvAll]
  | _ :: _, [] => by simp [PyData.eqvAll]
  | x :: l, y :: m => by
    simp only [List.map_cons, PyData.eqvAll, PyData.eqv, eqvAll_int l m, List.cons.injEq, Bool.decide_and]
    congr 1
theorem eqv_dZ (l m : List Int) : PyData.eqv (dZ l) (dZ m) = decide (l = m) := by simp only [dZ, PyData.eqv]; exact eqvAll_int l m
theorem lay_dZ : ∀ l : List Int, PyData.canLayAll0 (l.map .int) = true
  | [] => by simp [PyData.canLayAll0]
  | x :: l => by simp [PyData.canLayAll0, PyData.canLay0, lay_dZ l]
theorem shaped_dZ (l : List Int) : SeqAt.shaped (dZ l) = true := by
  have h : ∀ l : List Int, PyData.depthAll (l.map .int) ≤ 1 := by
    intro l
    induction l with
    | nil => simp [PyData.depthAll]
    | cons x l ih => simp [PyData.depthAll, PyData.depth]; (first | lia | omega)
  have := h l
  unfold SeqAt.shaped
  simp only [dZ, PyData.canLay0, lay_dZ, PyData.depth, Bool.true_and, decide_eq_true_eq]
  (first | lia | omega)
end Fco

-- FcO
namespace Fco

theorem short_ok {x y : Int} (hx : Sm 64 x) : IntMulOk x y := by
  unfold IntMulOk
  have : Builtin.Int.intBits x ≤ 64 := intBits_le_iff.mpr hx
  have h : ¬ (Builtin.Int.intBits x > shortFactorBits) := by unfold shortFactorBits; (first | lia | omega)
  simp [h]
theorem short_ok' {x y : Int} (hy : Sm 64 y) : IntMulOk x y := by
  unfold IntMulOk
  have : Builtin.Int.intBits y ≤ 64 := intBits_le_iff.mpr hy
  have h : ¬ (Builtin.Int.intBits y > shortFactorBits) := by unfold shortFactorBits; (first | lia | omega)
  simp [h]

section
variable {G : GC} {n : Nat} {fx : Bool}
/-- a def that ends without a return -/
theorem call_none (g : G.Good) {d : DefRec} (hd : d ∈ recsOf G.p) {xs : List Str} {ds : List PyData} {Γ' : Gam} {O' : Own} (scok : ScOk d.scope) (hl : xs.length = ds.length)
    (hk : ∀ x ∈ xs, d.scope.names.lookup x = some .local ∨ d.scope.names.lookup x = some .cell)
    (hbind : ∀ pm cd doc (vs : List Value), vs.length = xs.length → bindArgs (docDef d.name d.params d.body d.scope pm cd doc) ⟨vs, []⟩ = pure (xs.zip vs))
    (hb : ExS G true n d.name d.scope d.body (xs.zip ds).reverse [] (.next Γ' O')) : CallOk G (n + 1) d.name ds .none := by
  obtain ⟨a, o, pm, code, doc, hmg, ho, hdat, hcode⟩ := g.top.fn d hd
  refine ⟨a, o, _, hmg, ho, hdat, fun A hA W s vs ok T Q h => ?_⟩
  have hlen : vs.length = xs.length := by rw [T.length, hl]
  refine wpAny_call (call_cells_ret (by have := hA.room; show A.depth < 1000; (first | lia | omega)) (ok.base _ _ ho) hdat (g.top.nolimit.keeps ok.base) (hcode.keeps ok.base) (hbind pm code doc vs hlen) ?_ ?_ scok.co scok.gen scok.kind)
  · intro x hx
    have hx' : x.1 ∈ xs := (List.of_mem_zip (by simpa using hx)).1
    rcases hk x.1 hx' with h1 | h1
    · exact .inl h1
    · exact .inr ⟨h1, cellsFrom_some _ _ _ (.inl h1)⟩
  · intro h1 tk F X
    have hA' : AIn n (A.deeper (envOfC d.name d.scope s.heap.objs.size a code)) := ⟨hA.deeper, by
      obtain ⟨l, e⟩ := hA.fr
      exact ⟨_, l, by show A.frames.map _ = _; rw [e]; rfl, rfl, rfl, scok.gen, scok.co⟩⟩
    have kp : Kp s.heap h1 := F.keep
    have hge : ∀ b, Mu d.scope s.heap.objs.size b → s.heap.objs.size ≤ b := fun b hb => by
      rcases hb with rfl | ⟨x, hx⟩
      · exact Nat.le_refl _
      · exact Nat.le_of_lt (X.above x b (PySem.mem_of_lookup hx))
    have hMn : ∀ b, Mu d.scope s.heap.objs.size b → s.heap.get? b = none := fun b hb => none_of_ge (hge b hb)
    have T1 : ToldAll (FW d.scope s.heap.objs.size (fun _ => False) W) h1 vs ds := (T.weaken fun b hb => by
      rcases hb with h | h | h
      · exact .inr (hMn b h)
      · exact h.elim
      · exact .inl h).kp kp
    have S : St G d.scope s.heap.objs.size (xs.zip ds).reverse [] (fun _ => False) W h1 := by
      refine ⟨scok, ⟨_, _, F.ns, X, fun x e hx => ?_, fun x pl es hx => by cases hx⟩, ⟨ok.base.trans kp, fun b hb => ?_, fun b hb => ?_⟩, fun _ h => h.elim, fun b hb => ⟨fun hm => ?_, id⟩⟩
      · rw [val_bind (sc := d.scope) (k := (envOfC d.name d.scope s.heap.objs.size a code).kindOf) (fun _ => rfl)]
        obtain ⟨v, hv, tv⟩ := told_zip (xs := xs) T1 (acc := []) (accd := []) (fun x d hx => by cases hx) x e (by simpa using hx)
        exact ⟨v, by rw [List.append_nil] at hv; rw [hv]; rfl, tv⟩
      · rcases hb with h | h | h
        · rcases h with rfl | ⟨x, hx⟩
          · obtain ⟨o, _, _, ho, _⟩ := F.ns; exact ⟨o, ho⟩
          · obtain ⟨o, ho, _⟩ := X.cell x b hx; exact ⟨o, ho⟩
        · exact h.elim
        · obtain ⟨o, e⟩ := ok.ex b h; exact ⟨o, kp _ _ e⟩
      · rcases hb with h | h | h
        · exact Kp.none ok.base (hMn b h)
        · exact h.elim
        · exact ok.off b h
      · obtain ⟨o, e⟩ := ok.ex b hb
        rw [hMn b hm] at e; cases e
    refine wpAny_mono (hb _ hA' s.heap.objs.size a code W _ { s with heap := h1, toks := tk } S (fun f s' => f = .next ∧ Q .none s') fun f h2 t2 p => ?_) (fun f s' hf => ?_) fun _ _ e => e.elim
    · obtain ⟨k2, rfl, _⟩ := p
      refine ⟨rfl, h .none h2 t2 (fun b o e => k2 b o (fun hm => ?_) (kp b o e)) .none⟩
      rcases hm with hm | hm
      · rw [hMn b hm] at e; cases e
      · exact hm
    · obtain ⟨rfl, hq⟩ := hf
      exact hq
end

section
variable {G : GC}

-- powers
noncomputable def zPow (p : List Int) : Nat → List Int
  | 0 => [1]
  | 1 => zMul [1] p
  | 2 => zMul [1] (zMul p p)
  | _ => zMul (zMul [1] p) (zMul p p)
noncomputable abbrev zpSt := List Int × List Int × Nat
noncomputable def zpG (σ : zpSt) : Gam := [("found", dZ σ.1), ("factor", dZ σ.2.1), ("many", .int (σ.2.2 : Nat))]
theorem fmod2 (k : Nat) : ((k : Nat) : Int).fmod 2 = ((k % 2 : Nat) : Int) := by rw [Int.fmod_eq_emod_of_nonneg _ (by decide)]; (first | lia | omega)
theorem fdiv2 (k : Nat) : ((k : Nat) : Int).fdiv 2 = ((k / 2 : Nat) : Int) := by rw [Int.fdiv_eq_ediv_of_nonneg _ (by decide)]; (first | lia | omega)
noncomputable def zpF : zpSt → zpSt
  | (fd, fc, 0) => (fd, fc, 0)
  | (fd, fc, 1) => (zMul fd fc, fc, 0)
  | (fd, fc, 2) => (zMul fd (zMul fc fc), zMul fc fc, 0)
  | (fd, fc, 3) => (zMul (zMul fd fc) (zMul fc fc), zMul fc fc, 0)
  | (fd, fc, k) => (fd, fc, k)
noncomputable def zpN (σ : zpSt) : zpSt := (if σ.2.2 % 2 = 1 then zMul σ.1 σ.2.1 else σ.1, if 1 < σ.2.2 then zMul σ.2.1 σ.2.1 else σ.2.1, σ.2.2 / 2)
structure zpI (B : Nat) (σ : zpSt) : Prop where
  k3 : σ.2.2 ≤ 3
  big : 2 ≤ σ.2.2 → σ.1.length ≤ 8 ∧ σ.2.1.length ≤ 8 ∧ SmL B σ.1 ∧ SmL B σ.2.1
  one : σ.2.2 = 1 → σ.1.length ≤ 16 ∧ σ.2.1.length ≤ 16 ∧ SmL (2 * B + 64) σ.1 ∧ SmL (2 * B + 64) σ.2.1
theorem zpN1 (fd fc : List Int) : zpN (fd, fc, 1) = (zMul fd fc, fc, 0) := by simp [zpN]
theorem zpN2 (fd fc : List Int) : zpN (fd, fc, 2) = (fd, zMul fc fc, 1) := by simp [zpN]
theorem zpN3 (fd fc : List Int) : zpN (fd, fc, 3) = (zMul fd fc, zMul fc fc, 1) := by simp [zpN]
theorem zpI_step {B : Nat} {σ : zpSt} (h : zpI B σ) (hk : 0 < σ.2.2) : zpI B (zpN σ) := by
  obtain ⟨fd, fc, k⟩ := σ
  obtain ⟨h1, h2, h3⟩ := h
  simp only at h1 h2 h3 hk
  have hk' : k = 1 ∨ k = 2 ∨ k = 3 := by (first | lia | omega)
  rcases hk' with rfl | rfl | rfl
  · rw [zpN1]; exact ⟨Nat.zero_le _, fun h => absurd h (by simp), fun h => absurd h (by simp)⟩
  · obtain ⟨l1, l2, s1, s2⟩ := h2 (by decide)
    rw [zpN2]
    refine ⟨by simp, fun h => absurd h (by simp), fun _ => ⟨?_, ?_, ?_, ?_⟩⟩
    · show fd.length ≤ 16; (first | lia | omega)
    · have := zMul_le fc fc; show (zMul fc fc).length ≤ 16; (first | lia | omega)
    · exact s1.mono (by (first | lia | omega))
    · have := Nat.mul_le_mul l2 l2; exact SmL.mono (SmL_zMul s2 s2) (by (first | lia | omega))
  · obtain ⟨l1, l2, s1, s2⟩ := h2 (by decide)
    rw [zpN3]
    refine ⟨by simp, fun h => absurd h (by simp), fun _ => ⟨?_, ?_, ?_, ?_⟩⟩
    · have := zMul_le fd fc; show (zMul fd fc).length ≤ 16; (first | lia | omega)
    · have := zMul_le fc fc; show (zMul fc fc).length ≤ 16; (first | lia | omega)
    · have := Nat.mul_le_mul l1 l2; exact SmL.mono (SmL_zMul s1 s2) (by (first | lia | omega))
    · have := Nat.mul_le_mul l2 l2; exact SmL.mono (SmL_zMul s2 s2) (by (first | lia | omega))
theorem c_zpower (D : G.Gd) {p : List Int} {k B : Nat} (hp : p.length ≤ 8) (hs : SmL B p) (hk : k ≤ 3) (hB0 : 1 ≤ B) (hB : B ≤ 100000) : CallOk G 2 "zpower" [dZ p, .int (k : Nat)] (dZ (zPow p k)) := by
  have g := D.g
  have hf : sizeLine = 2 ^ 24 := rfl
  have hp' : (p.map PyData.int).length ≤ sizeLine := by first | exact mapS ‹_› | exact map8 ‹_› | exact map8 (Nat.le_trans ‹_› ‹_›) | (simp; (first | lia | omega))
  have s1 : SmL B [1] := fun x hx => by rw [List.mem_singleton.mp hx]; exact (by unfold Sm; exact Nat.one_lt_two_pow (by (first | lia | omega)))
  refine call_of g (d := dk 47) (xs := ["p", "many"]) (fx := true) (D.df _ (by decide)) (ScOk.of rfl) rfl (by decide) (bind2 fun _ _ _ _ _ => rfl) ?_
  refine exs_cons ((ex_assignS (xs := ["found", "factor"]) (fun _ _ _ => (ev_tuple (evl2 (ev_list (evl1 ev_int (fun _ => se_Constant)) (Nat.le_of_ble_eq_true rfl)) (ev_ty g (by decide) boot_list (by decide) rfl rfl (evl1 (ev_name rfl (.inl rfl) rfl rfl) (fun _ => se_Name)) se_Name (fun _ => rfl) (c_listcopy ?_ (.inl rfl))) (fun _ => se_List) (fun _ => se_Call)) (Nat.le_of_ble_eq_true rfl))) (all2 ⟨.inl rfl, rfl⟩ ⟨.inl rfl, rfl⟩) rfl (fun _ _ _ => rfl) (fun _ _ _ => rfl)).post (Γ2 := zpG ([1], p, k)) (sub_cons rfl (sub_cons rfl (sub_cons rfl sub_nil)))) ?_
  · exact hp'
  refine exs_cons (ex_while (wh_fold zpG (fun _ => []) (zpI B) (fun σ => decide ((σ.2.2 : Int) > 0)) zpN zpF (fun σ => σ.2.2)
    (fun σ _ _ _ _ => (te_cmp (ev_name rfl (.inl rfl) rfl rfl) ev_int cmp_gt rfl)) (fun σ hσ hc => ?_) (fun σ hσ hc => ?_) (fun σ hσ hc => ?_) (fun σ hσ hc => ?_) _ ([1], p, k) (Nat.le_refl _) ⟨hk, fun _ => ⟨by simp, hp, s1, hs⟩, fun _ => ⟨by simp, by show p.length ≤ 16; (first | lia | omega), s1.mono (by (first | lia | omega)), hs.mono (by (first | lia | omega))⟩⟩)) ?_
  · obtain ⟨fd, fc, k⟩ := σ
    have hc : 0 < k := by simpa using hc
    have h3 : k ≤ 3 := hσ.k3
    have sz : fd.length ≤ 16 ∧ fc.length ≤ 16 ∧ SmL (2 * B + 64) fd ∧ SmL (2 * B + 64) fc := by
      by_cases h1 : k = 1
      · exact hσ.one h1
      · have h2 : 2 ≤ k := by (first | lia | omega)
        obtain ⟨a, b, c, d⟩ := hσ.big h2
        exact ⟨by simp only at a; (first | lia | omega), by simp only at b; (first | lia | omega), c.mono (by (first | lia | omega)), d.mono (by (first | lia | omega))⟩
    obtain ⟨l1, l2, t1, t2⟩ := sz
    let fd' := if k % 2 = 1 then zMul fd fc else fd
    refine exs_cons (Γ1 := zpG (fd', fc, k)) (O1 := []) (ex_if (c := decide (k % 2 = 1)) (fun _ _ _ => TeE.conv (te_cmp (ev_mod (ev_name rfl (.inl rfl) rfl rfl) ev_int ?_) ev_int cmp_eq rfl) ?_) (fun hc1 => ?_) (fun hc1 => ?_)) ?_
    · decide
    · rw [fmod2, Bool.eq_iff_iff]; simp; (first | lia | omega)
    · have hc1 : k % 2 = 1 := by simpa using hc1
      refine exs_cons ((ex_assign (fun _ _ _ => (ev_call g (c_zmul D (a := fd) (b := fc) (by (first | lia | omega)) (by (first | lia | omega)) t1 t2 (by (first | lia | omega))) (by decide) rfl rfl (evl2 (ev_name rfl (.inl rfl) rfl rfl) (ev_name rfl (.inl rfl) rfl rfl) (fun _ => se_Name) (fun _ => se_Name)) se_Name)) (by decide) rfl (fun _ _ _ => rfl)).post (sub_cons ?_ (sub_cons rfl (sub_cons rfl sub_nil)))) exs_nil
      show _ = some (dZ (if k % 2 = 1 then zMul fd fc else fd))
      rw [if_pos hc1]; rfl
    · have hc1 : ¬ k % 2 = 1 := by simpa using hc1
      have e : fd' = fd := if_neg hc1
      rw [e]; exact exs_nil
    refine exs_cons ((ex_assign (d := dZ (if 1 < k then zMul fc fc else fc)) (fun _ _ _ => (ev_if (te_cmp (ev_name rfl (.inl rfl) rfl rfl) ev_int cmp_gt rfl) ?_ ?_)) (by decide) rfl (fun _ _ _ => rfl)).post (Γ2 := zpG (fd', (if 1 < k then zMul fc fc else fc), k)) (sub_cons rfl (sub_cons rfl (sub_cons rfl sub_nil)))) ?_
    · intro h
      have h : 1 < k := by have : (1 : Int) < k := by simpa using h
                           (first | lia | omega)
      refine EvE.conv (ev_call g (c_zmul D (a := fc) (b := fc) (by (first | lia | omega)) (by (first | lia | omega)) t2 t2 (by (first | lia | omega))) (by decide) rfl rfl (evl2 (ev_name rfl (.inl rfl) rfl rfl) (ev_name rfl (.inl rfl) rfl rfl) (fun _ => se_Name) (fun _ => se_Name)) se_Name) ?_
      rw [if_pos h]
    · intro h
      have h : ¬ 1 < k := by have : ¬ (1 : Int) < k := by simpa using h
                             (first | lia | omega)
      refine EvE.conv (ev_name rfl (.inl rfl) rfl rfl) ?_
      rw [if_neg h]
    refine exs_cons ((ex_assign (fun _ _ _ => EvE.conv (ev_fdiv g (ev_name rfl (.inl rfl) rfl rfl) ev_int ?_) ?_) (by decide) rfl (fun _ _ _ => rfl)).post (Γ2 := zpG (zpN (fd, fc, k))) (sub_cons rfl (sub_cons rfl (sub_cons rfl sub_nil)))) exs_nil
    · decide
    · rw [fdiv2]; rfl
  · have hc : 0 < σ.2.2 := by simpa using hc
    exact ⟨zpI_step hσ hc, by show σ.2.2 / 2 < σ.2.2; (first | lia | omega)⟩
  · obtain ⟨fd, fc, k⟩ := σ
    have hc : k = 0 := by simpa using hc
    subst hc; rfl
  · obtain ⟨fd, fc, k⟩ := σ
    have hc : 0 < k := by simpa using hc
    have h3 : k ≤ 3 := hσ.k3
    have hk' : k = 1 ∨ k = 2 ∨ k = 3 := by (first | lia | omega)
    rcases hk' with rfl | rfl | rfl
    · rw [zpN1]; rfl
    · rw [zpN2]; rfl
    · rw [zpN3]; rfl
  · refine exs_ret ((ex_ret fun _ _ _ => (ev_name rfl (.inl rfl) rfl rfl)).conv' (d := dZ (zpF ([1], p, k)).1) ?_)
    have hk' : k = 0 ∨ k = 1 ∨ k = 2 ∨ k = 3 := by (first | lia | omega)
    rcases hk' with rfl | rfl | rfl | rfl <;> rfl
end
end Fco

-- FcP
namespace Fco

section
variable {G : GC}

/-- a while over states; the end told apart -/
theorem wh_fold2 {fx : Bool} {n : Nat} {nm : Str} {sc : Scope} {S T : Type} {t : Expr} {body : List Stmt} (Γf : S → Gam) (Of : S → Own) (Γo : T → Gam) (Oo : T → Own) (inv : S → Prop) (c : S → Bool) (step : S → S) (F : S → T) (μ : S → Nat)
    (ht : ∀ σ, inv σ → ∀ L a cd, TeE G n (envOfC nm sc L a cd) (Γf σ) (Of σ) t (c σ)) (hb : ∀ σ, inv σ → c σ = true → ExS G fx n nm sc body (Γf σ) (Of σ) (.next (Γf (step σ)) (Of (step σ))))
    (hi : ∀ σ, inv σ → c σ = true → inv (step σ) ∧ μ (step σ) < μ σ) (h0 : ∀ σ, inv σ → c σ = false → Γo (F σ) = Γf σ ∧ Oo (F σ) = Of σ) (h1 : ∀ σ, inv σ → c σ = true → F σ = F (step σ)) :
    ∀ (k : Nat) (σ : S), μ σ ≤ k → inv σ → WhC G fx n nm sc t body (Γf σ) (Of σ) (.next (Γo (F σ)) (Oo (F σ))) := by
  intro k
  induction k with
  | zero =>
    intro σ hk hσ
    cases hc : c σ with
    | false => rw [(h0 σ hσ hc).1, (h0 σ hσ hc).2]; exact wh_done fun L a cd => (ht σ hσ L a cd).conv hc
    | true => have := (hi σ hσ hc).2; (first | lia | omega)
  | succ k ih =>
    intro σ hk hσ
    cases hc : c σ with
    | false => rw [(h0 σ hσ hc).1, (h0 σ hσ hc).2]; exact wh_done fun L a cd => (ht σ hσ L a cd).conv hc
    | true =>
      obtain ⟨i1, i2⟩ := hi σ hσ hc
      rw [h1 σ hσ hc]
      exact wh_step (fun L a cd => (ht σ hσ L a cd).conv hc) (hb σ hσ hc) (ih (step σ) (by (first | lia | omega)) i1)

theorem c_check (D : G.Gd) {l : List Int} (hl : l.length ≤ 1000) (h0 : l ≠ []) : CallOk G 1 "check_bottom" [dZ l] .none := by
  have g := D.g
  have hf : sizeLine = 2 ^ 24 := rfl
  refine call_none g (d := dk 51) (xs := ["p"]) (D.df _ (by decide)) (ScOk.of rfl) rfl (by decide) (bind1 fun _ _ _ _ => rfl) (Γ' := [("p", dZ l)]) (O' := []) ?_
  · refine exs_if (fun _ _ _ => (te_cmp (ev_fn g (by decide) boot_len (by decide) rfl rfl (evl1 (ev_name rfl (.inl rfl) rfl rfl) (fun _ => se_Name)) se_Name (fun _ => rfl) (c_len ?_ (.inl rfl))) ev_int cmp_eq rfl)) (fun h => ?_) (fun _ => .inl ⟨exs_nil, exs_nil⟩)
    · simp; (first | lia | omega)
    · exact absurd h (by simpa using h0)

-- pseudo division
structure PsS where
  rest : List Int
  found : List Int
  left : Int
noncomputable def psN (b : List Int) (first : Int) (σ : PsS) : PsS :=
  ⟨zSub (zScale σ.rest first) (zRaise (zScale b (zLd σ.rest)) (σ.rest.length - b.length)), zSub (zScale σ.found first) (zRaise [-zLd σ.rest] (σ.rest.length - b.length)), σ.left - 1⟩
noncomputable def psRun (b : List Int) (first : Int) : Nat → PsS → PsS
  | 0, σ => σ
  | k + 1, σ => if b.length ≤ σ.rest.length then psRun b first k (psN b first σ) else σ

theorem zSz_lt {l : List Int} : ∀ k, 0 < k → l.getD (k - 1) 0 = 0 → zSz l k < k
  | 0, h, _ => absurd h (by decide)
  | k + 1, _, h => by
    rw [zSz, if_pos (by simpa using h)]
    exact Nat.lt_succ_of_le (zSz_le l k)
theorem zT_lt {l : List Int} (h0 : 0 < l.length) (h : l.getD (l.length - 1) 0 = 0) : (zT l).length < l.length := by
  unfold zT
  rw [List.length_take]
  have := zSz_lt l.length h0 h
  (first | lia | omega)
theorem zAddL_len (a b : List Int) : (zAddL a b).length = max a.length b.length := by simp [zAddL]
theorem zAddL_get (a b : List Int) {i : Nat} (h : i < max a.length b.length) : (zAddL a b).getD i 0 = a.getD i 0 + b.getD i 0 := by
  have h' : i < (zAddL a b).length := by rw [zAddL_len]; exact h
  have e : (zAddL a b).getD i 0 = (zAddL a b)[i] := by simp [h']
  rw [e]; simp [zAddL]
theorem getD_map_neg (b : List Int) (i : Nat) : (zNeg b).getD i 0 = -(b.getD i 0) := by
  by_cases h : i < b.length
  · simp [zNeg, h]
  · have e1 : (zNeg b).getD i 0 = 0 := by rw [List.getD_eq_getElem?_getD, List.getElem?_eq_none (by rw [zNeg_len]; (first | lia | omega))]; rfl
    have e2 : b.getD i 0 = 0 := by rw [List.getD_eq_getElem?_getD, List.getElem?_eq_none (by (first | lia | omega))]; rfl
    rw [e1, e2]; rfl
theorem getD_map_mul (b : List Int) (k : Int) (i : Nat) : (b.map fun x => x * k).getD i 0 = b.getD i 0 * k := by
  by_cases h : i < b.length
  · simp [h]
  · have e1 : (b.map fun x => x * k).getD i 0 = 0 := by rw [List.getD_eq_getElem?_getD, List.getElem?_eq_none (by simp; (first | lia | omega))]; rfl
    have e2 : b.getD i 0 = 0 := by rw [List.getD_eq_getElem?_getD, List.getElem?_eq_none (by (first | lia | omega))]; rfl
    rw [e1, e2]; simp
theorem psN_lt {b : List Int} {σ : PsS} (hb : b ≠ []) (h0 : zLd b ≠ 0) (hl : b.length ≤ σ.rest.length) : (psN b (zLd b) σ).rest.length < σ.rest.length := by
  have hb1 : 0 < b.length := List.length_pos_iff.mpr hb
  unfold psN zSub zAdd
  simp only
  have e1 : zScale σ.rest (zLd b) = σ.rest.map fun x => x * zLd b := by unfold zScale; rw [if_neg h0]
  rw [e1]
  generalize hq : zNeg (zRaise (zScale b (zLd σ.rest)) (σ.rest.length - b.length)) = q
  have hq1 : q.length ≤ σ.rest.length := by
    rw [← hq, zNeg_len]
    have := zRaise_len (zScale b (zLd σ.rest)) (σ.rest.length - b.length)
    have := zScale_len b (zLd σ.rest)
    (first | lia | omega)
  have hlen : (zAddL (σ.rest.map fun x => x * zLd b) q).length = σ.rest.length := by rw [zAddL_len]; simp; (first | lia | omega)
  have := zT_lt (l := zAddL (σ.rest.map fun x => x * zLd b) q) (by (first | lia | omega)) ?_
  · (first | lia | omega)
  rw [hlen, zAddL_get _ _ (by simp; (first | lia | omega)), getD_map_mul, ← hq, getD_map_neg]
  have e : zLd σ.rest = σ.rest.getD (σ.rest.length - 1) 0 := rfl
  by_cases hz : zLd σ.rest = 0
  · rw [← e, hz]
    simp [zScale, zRaise]
  · have e2 : zScale b (zLd σ.rest) = b.map fun x => x * zLd σ.rest := by unfold zScale; rw [if_neg hz]
    have e3 : zRaise (b.map fun x => x * zLd σ.rest) (σ.rest.length - b.length) = List.replicate (σ.rest.length - b.length) 0 ++ (b.map fun x => x * zLd σ.rest) := by
      unfold zRaise; rw [if_neg (by simpa using hb)]
    rw [e2, e3]
    have e4 : (List.replicate (σ.rest.length - b.length) (0 : Int) ++ (b.map fun x => x * zLd σ.rest)).getD (σ.rest.length - 1) 0 = (b.map fun x => x * zLd σ.rest).getD (b.length - 1) 0 := by
      rw [List.getD_eq_getElem?_getD, List.getElem?_append_right (by simp; (first | lia | omega)), ← List.getD_eq_getElem?_getD]
      congr 1
      simp; (first | lia | omega)
    rw [e4, getD_map_mul]
    have e5 : b.getD (b.length - 1) 0 = zLd b := rfl
    rw [e5, ← e, Int.mul_comm]
    (first | lia | omega)

structure PsI (a b : List Int) (B : Nat) (σ : PsS) : Prop where
  ex : ∃ j : Nat, σ.rest.length + j ≤ a.length ∧ σ.found.length ≤ 8 + j ∧ SmL (2 ^ j * (B + 1)) σ.rest ∧ SmL (2 ^ j * (B + 1)) σ.found ∧ σ.left = ((a.length - b.length + 1 : Nat) : Int) - j ∧ j ≤ a.length - b.length + 1
theorem PsI.next {a b : List Int} {B : Nat} {σ : PsS} (hb : b ≠ []) (h0 : zLd b ≠ 0) (hs : SmL B b) (h : PsI a b B σ) (hl : b.length ≤ σ.rest.length) (ha : a.length ≤ 8) : PsI a b B (psN b (zLd b) σ) := by
  obtain ⟨j, h1, h2, h3, h4, h5, h6⟩ := h.ex
  have hb1 : 0 < b.length := List.length_pos_iff.mpr hb
  have hlt := psN_lt hb h0 hl
  have p2 : 2 ^ (j + 1) * (B + 1) = 2 ^ j * (B + 1) + 2 ^ j * (B + 1) := by rw [Nat.pow_succ]; rw [Nat.mul_comm (2 ^ j) 2, Nat.mul_assoc, Nat.two_mul]
  have p1 : B + 1 ≤ 2 ^ j * (B + 1) := Nat.le_mul_of_pos_left _ (Nat.pow_pos (by decide))
  have hld : Sm B (zLd b) := getD_Sm hs _
  have hlr : Sm (2 ^ j * (B + 1)) (zLd σ.rest) := getD_Sm h3 _
  refine ⟨j + 1, by (first | lia | omega), ?_, ?_, ?_, by show σ.left - 1 = _; rw [h5]; (first | lia | omega), by (first | lia | omega)⟩
  · have q1 := zSub_le (zScale σ.found (zLd b)) (zRaise [-zLd σ.rest] (σ.rest.length - b.length))
    have q2 := zScale_len σ.found (zLd b)
    have q3 := zRaise_len [-zLd σ.rest] (σ.rest.length - b.length)
    have q4 : ([-zLd σ.rest] : List Int).length = 1 := rfl
    show (zSub (zScale σ.found (zLd b)) (zRaise [-zLd σ.rest] (σ.rest.length - b.length))).length ≤ _
    (first | lia | omega)
  · exact SmL.mono (SmL_zSub (k := 2 ^ j * (B + 1) + B) (SmL_zScale h3 hld) (SmL_zRaise (SmL.mono (SmL_zScale hs hlr) (by (first | lia | omega))))) (by (first | lia | omega))
  · exact SmL.mono (SmL_zSub (k := 2 ^ j * (B + 1) + B) (SmL_zScale h4 hld) (SmL_zRaise (fun x hx => by rw [List.mem_singleton.mp hx]; exact hlr.neg.mono (by (first | lia | omega))))) (by (first | lia | omega))

/-- what full_rest gives -/
noncomputable def psEnd (a b : List Int) : PsS := psRun b (zLd b) (a.length + 1) ⟨a, [], ((a.length - b.length + 1 : Nat) : Int)⟩
theorem psRun_I {a b : List Int} {B : Nat} (hb : b ≠ []) (h0 : zLd b ≠ 0) (hs : SmL B b) (ha : a.length ≤ 8) : ∀ k σ, PsI a b B σ → PsI a b B (psRun b (zLd b) k σ)
  | 0, _, h => h
  | k + 1, σ, h => by
    unfold psRun
    split
    · rename_i hl; exact psRun_I hb h0 hs ha k _ (h.next hb h0 hs hl ha)
    · exact h
theorem psI0 {a b : List Int} {B : Nat} (hs : SmL B a) : PsI a b B ⟨a, [], ((a.length - b.length + 1 : Nat) : Int)⟩ := by
  refine ⟨0, by simp, by simp, hs.mono (by (first | lia | omega)), ?_, by simp, Nat.zero_le _⟩
  intro x hx; cases hx

noncomputable abbrev psG (a b : List Int) (σ : PsS) : Gam := [("rest", dZ σ.rest), ("found", dZ σ.found), ("left", .int σ.left), ("first", .int (zLd b)), ("many", .int ((a.length - b.length + 1 : Nat) : Int)), ("b", dZ b)]
theorem c_pseudo (D : G.Gd) {a b : List Int} {B : Nat} (hab : b.length ≤ a.length) (ha : a.length ≤ 8) (hb : b ≠ []) (h0 : zLd b ≠ 0) (sa : SmL B a) (sb : SmL B b) (hB : B ≤ 10000) :
    CallOk G 4 "pseudo" [dZ a, dZ b] (.tuple [dZ (zScale (psEnd a b).found (zLd b ^ (psEnd a b).left.toNat)), dZ (zScale (psEnd a b).rest (zLd b ^ (psEnd a b).left.toNat)), .int ((a.length - b.length + 1 : Nat) : Int)]) := by
  have g := D.g
  have hf : sizeLine = 2 ^ 24 := rfl
  have ha' : (a.map PyData.int).length ≤ sizeLine := by first | exact mapS ‹_› | exact map8 ‹_› | exact map8 (Nat.le_trans ‹_› ‹_›) | (simp; (first | lia | omega))
  have hb' : (b.map PyData.int).length ≤ sizeLine := by first | exact mapS ‹_› | exact map8 ‹_› | exact map8 (Nat.le_trans ‹_› ‹_›) | (simp; (first | lia | omega))
  have hb1 : 0 < b.length := List.length_pos_iff.mpr hb
  refine call_of g (d := dk 52) (xs := ["a", "b"]) (fx := true) (D.df _ (by decide)) (ScOk.of rfl) rfl (by decide) (bind2 fun _ _ _ _ _ => rfl) ?_
  refine exs_cons (ex_expr (fun _ _ _ => (ev_call g (c_check D (l := b) (by (first | lia | omega)) hb) (by decide) rfl rfl (evl1 (ev_name rfl (.inl rfl) rfl rfl) (fun _ => se_Name)) se_Name)) (fun _ _ _ => rfl) (fun _ _ _ => rfl)) ?_
  refine exs_cons (ex_assign (fun _ _ _ => EvE.conv (d' := .int ((a.length - b.length + 1 : Nat) : Int)) (ev_fn g (by decide) boot_max (by decide) rfl rfl (evl2 ev_int (ev_add (ev_sub (ev_fn g (by decide) boot_len (by decide) rfl rfl (evl1 (ev_name rfl (.inl rfl) rfl rfl) (fun _ => se_Name)) se_Name (fun _ => rfl) (c_len ?_ (.inl rfl))) (ev_fn g (by decide) boot_len (by decide) rfl rfl (evl1 (ev_name rfl (.inl rfl) rfl rfl) (fun _ => se_Name)) se_Name (fun _ => rfl) (c_len ?_ (.inl rfl)))) ev_int) (fun _ => se_Constant) (fun _ => se_BinOp)) se_Constant (fun _ => rfl) c_max) ?_) (by decide) rfl (fun _ _ _ => rfl)) ?_
  · exact ha'
  · exact hb'
  · simp; (first | lia | omega)
  refine exs_cons ((ex_assignT (fun _ _ _ => (ev_tuple (evl4 (ev_ty g (by decide) boot_list (by decide) rfl rfl (evl1 (ev_name rfl (.inl rfl) rfl rfl) (fun _ => se_Name)) se_Name (fun _ => rfl) (c_listcopy ?_ (.inl rfl))) (ev_list evl_nil (Nat.le_of_ble_eq_true rfl)) (ev_name rfl (.inl rfl) rfl rfl) (ev_call g (c_zlead D (l := b) (by (first | lia | omega))) (by decide) rfl rfl (evl1 (ev_name rfl (.inl rfl) rfl rfl) (fun _ => se_Name)) se_Name) (fun _ => se_Call) (fun _ => se_List) (fun _ => se_Name) (fun _ => se_Call)) (Nat.le_of_ble_eq_true rfl))) (tgt_tuple (xs := ["rest", "found", "left", "first"]) (ps := [_, _, _, _]) (by decide) rfl rfl (fun _ _ _ => rfl)) (fun _ _ _ => rfl) (fun _ _ _ => rfl)).post (Γ2 := psG a b ⟨a, [], ((a.length - b.length + 1 : Nat) : Int)⟩) (sub_cons rfl (sub_cons rfl (sub_cons rfl (sub_cons rfl (sub_cons rfl (sub_cons rfl sub_nil))))))) ?_
  · exact ha'
  have I0 : PsI a b B ⟨a, [], ((a.length - b.length + 1 : Nat) : Int)⟩ := psI0 sa
  refine exs_cons (ex_while (wh_fold2 (S := PsS × Nat) (T := PsS) (fun σ => psG a b σ.1) (fun _ => []) (psG a b) (fun _ => []) (fun σ => PsI a b B σ.1 ∧ σ.1.rest.length < σ.2) (fun σ => decide (b.length ≤ σ.1.rest.length)) (fun σ => (psN b (zLd b) σ.1, σ.2 - 1)) (fun σ => psRun b (zLd b) σ.2 σ.1) (fun σ => σ.1.rest.length)
    (fun σ hσ _ _ _ => TeE.conv (te_cmp (ev_fn g (by decide) boot_len (by decide) rfl rfl (evl1 (ev_name rfl (.inl rfl) rfl rfl) (fun _ => se_Name)) se_Name (fun _ => rfl) (c_len ?_ (.inl rfl))) (ev_fn g (by decide) boot_len (by decide) rfl rfl (evl1 (ev_name rfl (.inl rfl) rfl rfl) (fun _ => se_Name)) se_Name (fun _ => rfl) (c_len ?_ (.inl rfl))) cmp_ge rfl) ?_) (fun σ hσ hc => ?_) (fun σ hσ hc => ?_) (fun σ hσ hc => ?_) (fun σ hσ hc => ?_) _ (⟨a, [], ((a.length - b.length + 1 : Nat) : Int)⟩, a.length + 1) (Nat.le_refl _) ⟨I0, Nat.lt_succ_self _⟩)) ?_
  · obtain ⟨j, q1, _⟩ := hσ.1.ex
    simp; (first | lia | omega)
  · exact hb'
  · rw [Bool.eq_iff_iff]; simp
  · obtain ⟨⟨rest, found, left⟩, k⟩ := σ
    obtain ⟨j, q1, q2, q3, q4, q5, q6⟩ := hσ.1.ex
    simp only at q1 q2 q3 q4 q5 q6
    have hc : b.length ≤ rest.length := by simpa using hc
    have hr' : (rest.map PyData.int).length ≤ sizeLine := by first | exact mapS ‹_› | exact map8 ‹_› | exact map8 (Nat.le_trans ‹_› ‹_›) | (simp; (first | lia | omega))
    have hrp : 0 < (rest.map PyData.int).length := by rw [List.length_map]; (first | lia | omega)
    have hrg : (rest.map PyData.int)[(rest.map PyData.int).length - 1]? = some (.int (zLd rest)) := by rw [List.length_map]; exact dZ_get (by (first | lia | omega))
    have hj : j ≤ 8 := by (first | lia | omega)
    have hpw : 2 ^ j ≤ 2 ^ 8 := Nat.pow_le_pow_right (by decide) hj
    have hpB : 2 ^ j * (B + 1) ≤ 256 * 10001 := Nat.mul_le_mul hpw (by (first | lia | omega))
    have p1 : B + 1 ≤ 2 ^ j * (B + 1) := Nat.le_mul_of_pos_left _ (Nat.pow_pos (by decide))
    have hld : Sm B (zLd b) := getD_Sm sb _
    have hlr : Sm (2 ^ j * (B + 1)) (zLd rest) := getD_Sm q3 _
    refine exs_cons ((ex_assignS (xs := ["number", "power"]) (ds := [.int (zLd rest), .int ((rest.length - b.length : Nat) : Int)]) (fun _ _ _ => EvE.conv (ev_tuple (evl2 (EvE.hole (.int (zLd rest)) (ev_itemX (.inl rfl) (ev_name rfl (.inl rfl) rfl rfl) (ev_neg ev_int) ?_ (fun _ _ => ⟨_, rfl⟩))) (ev_sub (ev_fn g (by decide) boot_len (by decide) rfl rfl (evl1 (ev_name rfl (.inl rfl) rfl rfl) (fun _ => se_Name)) se_Name (fun _ => rfl) (c_len ?_ (.inl rfl))) (ev_fn g (by decide) boot_len (by decide) rfl rfl (evl1 (ev_name rfl (.inl rfl) rfl rfl) (fun _ => se_Name)) se_Name (fun _ => rfl) (c_len ?_ (.inl rfl)))) (fun _ => se_Subscript) (fun _ => se_BinOp)) (Nat.le_of_ble_eq_true rfl)) ?_) (all2 ⟨.inl rfl, rfl⟩ ⟨.inl rfl, rfl⟩) rfl (fun _ _ _ => rfl) (fun _ _ _ => rfl)).post (Γ2 := ("number", .int (zLd rest)) :: ("power", .int ((rest.length - b.length : Nat) : Int)) :: psG a b ⟨rest, found, left⟩)
      (sub_cons rfl (sub_cons rfl (sub_cons rfl (sub_cons rfl (sub_cons rfl (sub_cons rfl (sub_cons rfl (sub_cons rfl sub_nil))))))))) ?_
    · exact ⟨hr', _, pyIdx_last hrp, hrg⟩
    · exact hr'
    · exact hb'
    · simp; (first | lia | omega)
    have l1 := zScale_len found (zLd b)
    have l2 := zRaise_len [-zLd rest] (rest.length - b.length)
    have l2' : ([-zLd rest] : List Int).length = 1 := rfl
    have l3 := zScale_len rest (zLd b)
    have l4 := zScale_len b (zLd rest)
    have l5 := zRaise_len (zScale b (zLd rest)) (rest.length - b.length)
    refine exs_cons ((ex_assign (fun _ _ _ => (ev_call g (c_zsub D (a := zScale found (zLd b)) (b := zRaise [-zLd rest] (rest.length - b.length)) (by (first | lia | omega)) (by (first | lia | omega))) (by decide) rfl rfl (evl2 (ev_call g (c_zscale D (by (first | lia | omega)) q4 (hld.mono (by (first | lia | omega))) (by (first | lia | omega))) (by decide) rfl rfl (evl2 (ev_name rfl (.inl rfl) rfl rfl) (ev_name rfl (.inl rfl) rfl rfl) (fun _ => se_Name) (fun _ => se_Name)) se_Name) (ev_call g (c_zraise D (l := [-zLd rest]) (k := rest.length - b.length) (by (first | lia | omega)) (by (first | lia | omega))) (by decide) rfl rfl (evl2 (ev_list (evl1 (ev_neg (ev_name rfl (.inl rfl) rfl rfl)) (fun _ => se_UnaryOp)) (Nat.le_of_ble_eq_true rfl)) (ev_name rfl (.inl rfl) rfl rfl) (fun _ => se_List) (fun _ => se_Name)) se_List) (fun _ => se_Call) (fun _ => se_Call)) se_Call)) (by decide) rfl (fun _ _ _ => rfl)).post (Γ2 := ("number", .int (zLd rest)) :: ("power", .int ((rest.length - b.length : Nat) : Int)) :: psG a b ⟨rest, (psN b (zLd b) ⟨rest, found, left⟩).found, left⟩)
      (sub_cons rfl (sub_cons rfl (sub_cons rfl (sub_cons rfl (sub_cons rfl (sub_cons rfl (sub_cons rfl (sub_cons rfl sub_nil))))))))) ?_
    refine exs_cons ((ex_assign (fun _ _ _ => (ev_call g (c_zsub D (a := zScale rest (zLd b)) (b := zRaise (zScale b (zLd rest)) (rest.length - b.length)) (by (first | lia | omega)) (by (first | lia | omega))) (by decide) rfl rfl (evl2 (ev_call g (c_zscale D (by (first | lia | omega)) q3 (hld.mono (by (first | lia | omega))) (by (first | lia | omega))) (by decide) rfl rfl (evl2 (ev_name rfl (.inl rfl) rfl rfl) (ev_name rfl (.inl rfl) rfl rfl) (fun _ => se_Name) (fun _ => se_Name)) se_Name) (ev_call g (c_zraise D (l := zScale b (zLd rest)) (k := rest.length - b.length) (by (first | lia | omega)) (by (first | lia | omega))) (by decide) rfl rfl (evl2 (ev_call g (c_zscale D (by (first | lia | omega)) (sb.mono (by (first | lia | omega))) hlr (by (first | lia | omega))) (by decide) rfl rfl (evl2 (ev_name rfl (.inl rfl) rfl rfl) (ev_name rfl (.inl rfl) rfl rfl) (fun _ => se_Name) (fun _ => se_Name)) se_Name) (ev_name rfl (.inl rfl) rfl rfl) (fun _ => se_Call) (fun _ => se_Name)) se_Call) (fun _ => se_Call) (fun _ => se_Call)) se_Call)) (by decide) rfl (fun _ _ _ => rfl)).post (Γ2 := psG a b ⟨(psN b (zLd b) ⟨rest, found, left⟩).rest, (psN b (zLd b) ⟨rest, found, left⟩).found, left⟩)
      (sub_cons rfl (sub_cons rfl (sub_cons rfl (sub_cons rfl (sub_cons rfl (sub_cons rfl sub_nil))))))) ?_
    exact exs_cons ((ex_aug rfl (fun _ _ _ => ev_int) rfl rfl isub_ok).post (sub_cons rfl (sub_cons rfl (sub_cons rfl (sub_cons rfl (sub_cons rfl (sub_cons rfl sub_nil))))))) exs_nil
  · have hc : b.length ≤ σ.1.rest.length := by simpa using hc
    have hlt := psN_lt hb h0 hc
    refine ⟨⟨hσ.1.next hb h0 sb hc ha, ?_⟩, hlt⟩
    show (psN b (zLd b) σ.1).rest.length < σ.2 - 1
    have := hσ.2
    (first | lia | omega)
  · obtain ⟨σ, k⟩ := σ
    have hc' : ¬ b.length ≤ σ.rest.length := by simpa using hc
    clear hc
    refine ⟨?_, rfl⟩
    cases k with
    | zero => exact absurd hσ.2 (Nat.not_lt_zero _)
    | succ k => simp only [psRun]; rw [if_neg hc']
  · obtain ⟨σ, k⟩ := σ
    have hc' : b.length ≤ σ.rest.length := by simpa using hc
    clear hc
    cases k with
    | zero => exact absurd hσ.2 (Nat.not_lt_zero _)
    | succ k => simp only [psRun]; rw [if_pos hc']; rfl
  have IE : PsI a b B (psEnd a b) := psRun_I hb h0 sb ha _ _ I0
  obtain ⟨j, q1, q2, q3, q4, q5, q6⟩ := IE.ex
  have hj : j ≤ 8 := by (first | lia | omega)
  have hpw : 2 ^ j ≤ 2 ^ 8 := Nat.pow_le_pow_right (by decide) hj
  have hpB : 2 ^ j * (B + 1) ≤ 256 * 10001 := Nat.mul_le_mul hpw (by (first | lia | omega))
  have hld : Sm B (zLd b) := getD_Sm sb _
  have hleft : (psEnd a b).left = ((psEnd a b).left.toNat : Int) := by (first | lia | omega)
  have hl8 : (psEnd a b).left.toNat ≤ 9 := by (first | lia | omega)
  have hpow : Sm (2 ^ j * (B + 1) + B * 9) (zLd b ^ (psEnd a b).left.toNat) := (hld.pow _).mono (by have := Nat.mul_le_mul_left B hl8; have : 1 ≤ 2 ^ j * (B + 1) := Nat.mul_pos (Nat.pow_pos (by decide)) (Nat.succ_pos _); (first | lia | omega))
  have q3' := q3.mono (l := 2 ^ j * (B + 1) + B * 9) (by (first | lia | omega))
  have q4' := q4.mono (l := 2 ^ j * (B + 1) + B * 9) (by (first | lia | omega))
  refine exs_cons (ex_assign (fun _ _ _ => (ev_pow (ev_name rfl (.inl rfl) rfl rfl) (ev_name rfl (.inl rfl) rfl rfl) ?_ ?_)) (by decide) rfl (fun _ _ _ => rfl)) (exs_ret (ex_ret fun _ _ _ => (ev_tuple (evl3 (ev_call g (c_zscale D (by (first | lia | omega)) q4' hpow (by (first | lia | omega))) (by decide) rfl rfl (evl2 (ev_name rfl (.inl rfl) rfl rfl) (ev_name rfl (.inl rfl) rfl rfl) (fun _ => se_Name) (fun _ => se_Name)) se_Name) (ev_call g (c_zscale D (by (first | lia | omega)) q3' hpow (by (first | lia | omega))) (by decide) rfl rfl (evl2 (ev_name rfl (.inl rfl) rfl rfl) (ev_name rfl (.inl rfl) rfl rfl) (fun _ => se_Name) (fun _ => se_Name)) se_Name) (ev_name rfl (.inl rfl) rfl rfl) (fun _ => se_Call) (fun _ => se_Call) (fun _ => se_Name)) (Nat.le_of_ble_eq_true rfl))))
  · show 0 ≤ (psEnd a b).left; (first | lia | omega)
  · show _ * (psEnd a b).left ≤ _; rw [hleft]; exact hld.powOk (by have := Nat.mul_le_mul_left B hl8; (first | lia | omega))
end
end Fco

-- FcQ
namespace Fco

section
variable {G : GC}

noncomputable def zDiv (l : List Int) (k : Int) : List Int := l.map fun x => x.fdiv k
theorem c_divided (D : G.Gd) {l : List Int} {k : Int} (hl : l.length ≤ 1000) (hk : k ≠ 0) : CallOk G 1 "divided" [dZ l, .int k] (dZ (zDiv l k)) := by
  have g := D.g
  have hf : sizeLine = 2 ^ 24 := rfl
  refine call_of g (d := dk 54) (xs := ["p", "number"]) (fx := true) (D.df _ (by decide)) (ScOk.of rfl) rfl (by decide) (bind2 fun _ _ _ _ _ => rfl) ?_
  refine exs_ret (ex_ret fun _ _ _ => ?_)
  refine EvE.conv (ev_compN inj_int (xs := l) (f := fun x => some (.int (x.fdiv k))) (Γf := [("number", .int k)]) rfl rfl rfl (src_list (.inl rfl) (ev_name rfl (.inl rfl) rfl rfl) go_name) (by (first | lia | omega)) (fun _ => rfl) (fg_cons (by decide) rfl fg_nil) (fun x hx C cl => ?_)) ?_
  · show EvE _ _ _ _ _ _ _
    refine (ev_fdiv g (ev_name rfl (.inl rfl) rfl rfl) (ev_name rfl (.inr (.inl rfl)) rfl rfl) ?_)
    exact hk
  · simp [dZ, zDiv]

noncomputable def psRest (a b : List Int) : List Int := zScale (psEnd a b).rest (zLd b ^ (psEnd a b).left.toNat)
theorem psEnd_I {a b : List Int} {B : Nat} (hb : b ≠ []) (h0 : zLd b ≠ 0) (sa : SmL B a) (sb : SmL B b) (ha : a.length ≤ 8) : PsI a b B (psEnd a b) := psRun_I hb h0 sb ha _ _ (psI0 sa)
theorem psRest_sz {a b : List Int} {B : Nat} (hb : b ≠ []) (h0 : zLd b ≠ 0) (sa : SmL B a) (sb : SmL B b) (ha : a.length ≤ 8) (hB : B ≤ 10000) : (psRest a b).length ≤ a.length ∧ SmL 3000000 (psRest a b) := by
  obtain ⟨j, q1, q2, q3, q4, q5, q6⟩ := (psEnd_I hb h0 sa sb ha).ex
  have hj : j ≤ 8 := by (first | lia | omega)
  have hpw : 2 ^ j ≤ 2 ^ 8 := Nat.pow_le_pow_right (by decide) hj
  have hpB : 2 ^ j * (B + 1) ≤ 256 * 10001 := Nat.mul_le_mul hpw (by (first | lia | omega))
  have hld : Sm B (zLd b) := getD_Sm sb _
  have hl8 : (psEnd a b).left.toNat ≤ 9 := by (first | lia | omega)
  have := Nat.mul_le_mul_left B hl8
  refine ⟨?_, ?_⟩
  · have := zScale_len (psEnd a b).rest (zLd b ^ (psEnd a b).left.toNat)
    unfold psRest; (first | lia | omega)
  · exact SmL.mono (SmL_zScale q3 (hld.pow _)) (by (first | lia | omega))

theorem c_full (D : G.Gd) {a b : List Int} {B : Nat} (hab : b.length ≤ a.length) (ha : a.length ≤ 8) (hb : b ≠ []) (h0 : zLd b ≠ 0) (sa : SmL B a) (sb : SmL B b) (hB : B ≤ 10000) : CallOk G 5 "full_rest" [dZ a, dZ b] (dZ (psRest a b)) := by
  have g := D.g
  have hf : sizeLine = 2 ^ 24 := rfl
  have hz := psRest_sz hb h0 sa sb ha hB
  have hld : Sm B (zLd b) := getD_Sm sb _
  refine call_of g (d := dk 55) (xs := ["a", "b"]) (fx := true) (D.df _ (by decide)) (ScOk.of rfl) rfl (by decide) (bind2 fun _ _ _ _ _ => rfl) ?_
  refine exs_cons ((ex_assignT (fun _ _ _ => (ev_call g (c_pseudo D hab ha hb h0 sa sb hB) (by decide) rfl rfl (evl2 (ev_name rfl (.inl rfl) rfl rfl) (ev_name rfl (.inr (.inl rfl)) rfl rfl) (fun _ => se_Name) (fun _ => se_Name)) se_Name)) (tgt_tuple (xs := ["quotient", "rest", "power"]) (ps := [_, _, _]) (by decide) rfl rfl (fun _ _ _ => rfl)) (fun _ _ _ => rfl) (fun _ _ _ => rfl)).post (Γ2 := [("rest", dZ (psRest a b)), ("power", .int ((a.length - b.length + 1 : Nat) : Int)), ("a", dZ a), ("b", dZ b)]) (sub_cons rfl (sub_cons rfl (sub_cons rfl (sub_cons rfl sub_nil))))) ?_
  refine exs_cons (ex_assign (d := .int 0) (fun _ _ _ => EvE.conv (ev_sub (ev_add (ev_sub (ev_call g (c_zdegree D (l := a) (by (first | lia | omega))) (by decide) rfl rfl (evl1 (ev_name rfl (.inl rfl) rfl rfl) (fun _ => se_Name)) se_Name) (ev_call g (c_zdegree D (l := b) (by (first | lia | omega))) (by decide) rfl rfl (evl1 (ev_name rfl (.inr (.inl rfl)) rfl rfl) (fun _ => se_Name)) se_Name)) ev_int) (ev_name rfl (.inl rfl) rfl rfl)) ?_) (by decide) rfl (fun _ _ _ => rfl)) ?_
  · congr 1; (first | lia | omega)
  refine exs_ret (ex_ret fun _ _ _ => ?_)
  refine EvE.conv (ev_compN inj_int (xs := psRest a b) (f := fun x => some (.int x)) (Γf := [("b", dZ b), ("lacking", .int 0)]) rfl rfl rfl (src_list (.inl rfl) (ev_name rfl (.inl rfl) rfl rfl) go_name) (by (first | lia | omega)) (fun _ => rfl) (fg_cons (by decide) rfl (fg_cons (by decide) rfl fg_nil)) (fun x hx C cl => ?_)) ?_
  · show EvE _ _ _ _ _ _ _
    refine EvE.conv (ev_mul (ev_name rfl (.inl rfl) rfl rfl) (ev_pow (ev_call g (c_zlead D (l := b) (by (first | lia | omega))) (by decide) rfl rfl (evl1 (ev_name rfl (.inr (.inl rfl)) rfl rfl) (fun _ => se_Name)) se_Name) (ev_name rfl (.inr (.inl rfl)) rfl rfl) ?_ ?_) ?_) ?_
    · decide
    · simp
    · exact short_ok' (by show Sm 64 (zLd b ^ 0); unfold Sm; simp)
    · simp
  · simp [dZ]

-- the row of rests
structure RrS where
  a : List Int
  b : List Int
  g : Int
  h : Int
  sign : Int
noncomputable def rrN (σ : RrS) : RrS :=
  ⟨σ.b, zDiv (psRest σ.a σ.b) (σ.g * σ.h ^ (σ.a.length - σ.b.length)), zLd σ.b,
   if 0 < σ.a.length - σ.b.length then (zLd σ.b ^ (σ.a.length - σ.b.length)).fdiv (σ.h ^ (σ.a.length - σ.b.length - 1)) else σ.h,
   if (σ.a.length - 1) % 2 = 1 ∧ (σ.b.length - 1) % 2 = 1 then -σ.sign else σ.sign⟩
noncomputable def stAt (k i : Nat) : Stmt := ((dk k).body)[i]?.getD (.Pass default)
noncomputable def whT : Stmt → Expr | .While t _ _ _ => t | _ => default
noncomputable def whB : Stmt → List Stmt | .While _ b _ _ => b | _ => []
/-- what stands at each turn -/
structure RrOk (σ : RrS) : Prop where
  len : σ.b.length ≤ σ.a.length
  la : σ.a.length ≤ 8
  lb : 1 < σ.b.length → zLd σ.b ≠ 0
  h0 : σ.h ≠ 0
  g0 : σ.g ≠ 0
  ne : 1 ≤ σ.a.length
  sz : SmL 10000 σ.a ∧ SmL 10000 σ.b ∧ Sm 10000 σ.g ∧ Sm 10000 σ.h ∧ Sm 2 σ.sign
noncomputable def rrEnd (σ : RrS) : Int := if σ.b = [] then 0 else σ.sign * (if 1 < σ.a.length then ((σ.b.getD 0 0) ^ (σ.a.length - 1)).fdiv (σ.h ^ (σ.a.length - 2)) else 1)
inductive RR : RrS → Int → Prop
  | done {σ : RrS} : RrOk σ → σ.b.length ≤ 1 → RR σ (rrEnd σ)
  | step {σ : RrS} {r : Int} : RrOk σ → 1 < σ.b.length → RR (rrN σ) r → RR σ r

noncomputable abbrev rrG (σ : RrS) : Gam := [("a", dZ σ.a), ("b", dZ σ.b), ("g", .int σ.g), ("h", .int σ.h), ("sign", .int σ.sign)]
theorem fmod_len {l : Nat} (h : 1 ≤ l) : ((l : Int) - 1).fmod 2 = (((l - 1) % 2 : Nat) : Int) := by
  have e : ((l : Int) - 1) = ((l - 1 : Nat) : Int) := by (first | lia | omega)
  rw [e, fmod2]
theorem gap_eq {la lb : Nat} (h : lb ≤ la) : ((la : Int) - 1) - ((lb : Int) - 1) = ((la - lb : Nat) : Int) := by (first | lia | omega)

theorem c_row (D : G.Gd) {a b : List Int} {sign r : Int} (hr : RR ⟨a, b, 1, 1, sign⟩ r) : CallOk G 6 "row_resultant" [dZ a, dZ b, .int sign] (.int r) := by
  have g := D.g
  have hf : sizeLine = 2 ^ 24 := rfl
  have main : ∀ σ r, RR σ r → ∃ τ, RrOk τ ∧ τ.b.length ≤ 1 ∧ rrEnd τ = r ∧ WhC G true 5 (dk 56).name (dk 56).scope (whT (stAt 56 1)) (whB (stAt 56 1)) (rrG σ) [] (.next (rrG τ) []) := by
    intro σ r hr
    induction hr with
    | @done σ ok hl =>
      refine ⟨σ, ok, hl, rfl, wh_done fun _ _ _ => TeE.conv (te_cmp (ev_call g (c_zdegree D (l := σ.b) (by (first | lia | omega))) (by decide) rfl rfl (evl1 (ev_name rfl (.inl rfl) rfl rfl) (fun _ => se_Name)) se_Name) ev_int cmp_gt rfl) ?_⟩
      simp; (first | lia | omega)
    | @step σ r ok hl _ ih =>
      obtain ⟨τ, t1, t2, t3, t4⟩ := ih
      refine ⟨τ, t1, t2, t3, wh_step (fun _ _ _ => TeE.conv (te_cmp (ev_call g (c_zdegree D (l := σ.b) (by have := ok.len; have := ok.la; (first | lia | omega))) (by decide) rfl rfl (evl1 (ev_name rfl (.inl rfl) rfl rfl) (fun _ => se_Name)) se_Name) ev_int cmp_gt rfl) ?_) ?_ t4⟩
      · simp; (first | lia | omega)
      obtain ⟨a, b, gg, hh, sn⟩ := σ
      obtain ⟨oka, okb, okc, okd, oke, okf, ok1, ok2, ok3, ok4, ok5⟩ := ok
      simp only at oka okb okc okd oke okf ok1 ok2 ok3 ok4 ok5 hl
      have hb : b ≠ [] := by intro e; subst e; simp at hl
      have hlb := okc hl
      have hz := psRest_sz hb hlb ok1 ok2 okb (Nat.le_refl _)
      have hla : (a.length : Int) - 1 - ((b.length : Int) - 1) = ((a.length - b.length : Nat) : Int) := gap_eq oka
      generalize hgap : a.length - b.length = gap at hla
      have hgap8 : gap ≤ 8 := by (first | lia | omega)
      have hgh : gg * hh ^ gap ≠ 0 := Int.mul_ne_zero oke (Int.pow_ne_zero okd)
      let sn' : Int := if (a.length - 1) % 2 = 1 ∧ (b.length - 1) % 2 = 1 then -sn else sn
      refine exs_cons ((ex_assign (d := .int (gap : Nat)) (fun _ _ _ => EvE.conv (ev_sub (ev_call g (c_zdegree D (l := a) (by (first | lia | omega))) (by decide) rfl rfl (evl1 (ev_name rfl (.inl rfl) rfl rfl) (fun _ => se_Name)) se_Name) (ev_call g (c_zdegree D (l := b) (by (first | lia | omega))) (by decide) rfl rfl (evl1 (ev_name rfl (.inl rfl) rfl rfl) (fun _ => se_Name)) se_Name)) (by rw [hla])) (by decide) rfl (fun _ _ _ => rfl)).post (Γ2 := ("gap", .int (gap : Nat)) :: rrG ⟨a, b, gg, hh, sn⟩) (sub_cons rfl (sub_cons rfl (sub_cons rfl (sub_cons rfl (sub_cons rfl (sub_cons rfl sub_nil))))))) ?_
      refine exs_cons (Γ1 := ("gap", .int (gap : Nat)) :: rrG ⟨a, b, gg, hh, sn'⟩) (O1 := []) (ex_if (c := decide ((a.length - 1) % 2 = 1) && decide ((b.length - 1) % 2 = 1)) (fun _ _ _ => TeE.conv (te_and (te_cmp (ev_mod (ev_call g (c_zdegree D (l := a) (by (first | lia | omega))) (by decide) rfl rfl (evl1 (ev_name rfl (.inl rfl) rfl rfl) (fun _ => se_Name)) se_Name) ev_int ?_) ev_int cmp_eq rfl) (fun _ => (te_cmp (ev_mod (ev_call g (c_zdegree D (l := b) (by (first | lia | omega))) (by decide) rfl rfl (evl1 (ev_name rfl (.inl rfl) rfl rfl) (fun _ => se_Name)) se_Name) ev_int ?_) ev_int cmp_eq rfl))) ?_) (fun hc => ?_) (fun hc => ?_)) ?_
      · decide
      · decide
      · rw [fmod_len (by (first | lia | omega)), fmod_len (by (first | lia | omega)), Bool.eq_iff_iff]; simp; (first | lia | omega)
      · have hc : (a.length - 1) % 2 = 1 ∧ (b.length - 1) % 2 = 1 := by simpa using hc
        have e : sn' = -sn := if_pos hc
        rw [e]
        exact exs_cons ((ex_assign (fun _ _ _ => (ev_neg (ev_name rfl (.inl rfl) rfl rfl))) (by decide) rfl (fun _ _ _ => rfl)).post (sub_cons rfl (sub_cons rfl (sub_cons rfl (sub_cons rfl (sub_cons rfl (sub_cons rfl sub_nil))))))) exs_nil
      · have hc : ¬ ((a.length - 1) % 2 = 1 ∧ (b.length - 1) % 2 = 1) := by simpa using hc
        have e : sn' = sn := if_neg hc
        rw [e]; exact exs_nil
      refine exs_cons (ex_assign (fun _ _ _ => (ev_call g (c_full D oka okb hb hlb ok1 ok2 (Nat.le_refl _)) (by decide) rfl rfl (evl2 (ev_name rfl (.inl rfl) rfl rfl) (ev_name rfl (.inl rfl) rfl rfl) (fun _ => se_Name) (fun _ => se_Name)) se_Name)) (by decide) rfl (fun _ _ _ => rfl)) ?_
      refine exs_cons ((ex_assignS (xs := ["a", "b"]) (fun _ _ _ => (ev_tuple (evl2 (ev_name rfl (.inl rfl) rfl rfl) (ev_call g (c_divided D (l := psRest a b) (k := gg * hh ^ ((gap : Nat) : Int).toNat) (by (first | lia | omega)) hgh) (by decide) rfl rfl (evl2 (ev_name rfl (.inl rfl) rfl rfl) (ev_mul (ev_name rfl (.inl rfl) rfl rfl) (ev_pow (ev_name rfl (.inl rfl) rfl rfl) (ev_name rfl (.inl rfl) rfl rfl) ?_ ?_) ?_) (fun _ => se_Name) (fun _ => se_BinOp)) se_Name) (fun _ => se_Name) (fun _ => se_Call)) (Nat.le_of_ble_eq_true rfl))) (all2 ⟨.inl rfl, rfl⟩ ⟨.inl rfl, rfl⟩) rfl (fun _ _ _ => rfl) (fun _ _ _ => rfl)).post (Γ2 := ("gap", .int (gap : Nat)) :: rrG ⟨b, zDiv (psRest a b) (gg * hh ^ gap), gg, hh, sn'⟩) (sub_cons rfl (sub_cons rfl (sub_cons rfl (sub_cons rfl (sub_cons rfl (sub_cons rfl sub_nil))))))) ?_
      · (first | lia | omega)
      · exact ok4.powOk (by (first | lia | omega))
      · exact ok3.ok (ok4.pow _) (by have := Nat.mul_le_mul_left 10000 hgap8; simp; (first | lia | omega))
      refine exs_cons ((ex_assign (fun _ _ _ => (ev_call g (c_zlead D (l := b) (by (first | lia | omega))) (by decide) rfl rfl (evl1 (ev_name rfl (.inl rfl) rfl rfl) (fun _ => se_Name)) se_Name)) (by decide) rfl (fun _ _ _ => rfl)).post (Γ2 := ("gap", .int (gap : Nat)) :: rrG ⟨b, zDiv (psRest a b) (gg * hh ^ gap), zLd b, hh, sn'⟩) (sub_cons rfl (sub_cons rfl (sub_cons rfl (sub_cons rfl (sub_cons rfl (sub_cons rfl sub_nil))))))) ?_
      refine exs_cons (ExT.post (ex_if (c := decide ((gap : Int) > 0)) (Γ := _) (out := .next (("gap", .int (gap : Nat)) :: rrG ⟨b, zDiv (psRest a b) (gg * hh ^ gap), zLd b, (if 0 < gap then (zLd b ^ gap).fdiv (hh ^ (gap - 1)) else hh), sn'⟩) []) (fun _ _ _ => (te_cmp (ev_name rfl (.inl rfl) rfl rfl) ev_int cmp_gt rfl)) (fun hc => ?_) (fun hc => ?_)) (Γ2 := rrG (rrN ⟨a, b, gg, hh, sn⟩)) ?_) exs_nil
      · have hc : 0 < gap := by simpa using hc
        have e1 : ((gap : Int) - 1) = ((gap - 1 : Nat) : Int) := by (first | lia | omega)
        rw [if_pos hc]
        refine exs_cons ((ex_assign (d := .int ((zLd b ^ gap).fdiv (hh ^ (gap - 1)))) (fun _ _ _ => EvE.conv (ev_fdiv g (ev_pow (ev_name rfl (.inl rfl) rfl rfl) (ev_name rfl (.inl rfl) rfl rfl) ?_ ?_) (ev_pow (ev_name rfl (.inl rfl) rfl rfl) (ev_sub (ev_name rfl (.inl rfl) rfl rfl) ev_int) ?_ ?_) ?_) ?_) (by decide) rfl (fun _ _ _ => rfl)).post (sub_cons rfl (sub_cons rfl (sub_cons rfl (sub_cons rfl (sub_cons rfl (sub_cons rfl sub_nil))))))) exs_nil
        · (first | lia | omega)
        · exact (getD_Sm ok2 _ : Sm 10000 (zLd b)).powOk (by (first | lia | omega))
        · (first | lia | omega)
        · rw [e1]; exact ok4.powOk (by (first | lia | omega))
        · exact Int.pow_ne_zero okd
        · rw [e1]; rfl
      · have hc : ¬ 0 < gap := by simpa using hc
        rw [if_neg hc]; exact exs_nil
      · subst hgap
        exact sub_cons rfl (sub_cons rfl (sub_cons rfl (sub_cons rfl (sub_cons rfl sub_nil))))
  obtain ⟨τ, ok, hl, e, hw⟩ := main _ _ hr
  refine call_of g (d := dk 56) (xs := ["a", "b", "sign"]) (fx := true) (D.df _ (by decide)) (ScOk.of rfl) rfl (by decide) (bind3 fun _ _ _ _ _ _ => rfl) ?_
  refine exs_cons ((ex_assignT (fun _ _ _ => (ev_tuple (evl2 ev_int ev_int (fun _ => se_Constant) (fun _ => se_Constant)) (Nat.le_of_ble_eq_true rfl))) (tgt_tuple (xs := ["g", "h"]) (ps := [_, _]) (all2 ⟨.inl rfl, rfl⟩ ⟨.inl rfl, rfl⟩) rfl rfl (fun _ _ _ => rfl)) (fun _ _ _ => rfl) (fun _ _ _ => rfl)).post (Γ2 := rrG ⟨a, b, 1, 1, sign⟩) (sub_cons rfl (sub_cons rfl (sub_cons rfl (sub_cons rfl (sub_cons rfl sub_nil)))))) ?_
  refine exs_cons (ex_while hw) ?_
  obtain ⟨a, b, gg, hh, sn⟩ := τ
  obtain ⟨oka, okb, okc, okd, oke, okf, ok1, ok2, ok3, ok4, ok5⟩ := ok
  simp only at oka okb okc okd oke okf ok1 ok2 ok3 ok4 ok5 hl
  refine exs_if (c := decide (b = [])) (fun _ _ _ => TeE.conv (te_cmp (ev_name rfl (.inl rfl) rfl rfl) (ev_list evl_nil (Nat.le_of_ble_eq_true rfl)) (cmp_data_eq ?_ ?_) rfl) (eqv_dZ b [])) (fun hc => .inr ⟨_, rfl, exs_ret ((ex_ret fun _ _ _ => ev_int).conv' ?_)⟩) (fun hc => .inl ⟨exs_nil, ?_⟩)
  · exact shaped_dZ b
  · rfl
  · have hc : b = [] := by simpa using hc
    rw [← e]; simp [rrEnd, hc]
  have hb : b ≠ [] := by simpa using hc
  have hb1 : 0 < b.length := List.length_pos_iff.mpr hb
  have hb' : (b.map PyData.int).length ≤ sizeLine := by first | exact mapS ‹_› | exact map8 ‹_› | exact map8 (Nat.le_trans ‹_› ‹_›) | (simp; (first | lia | omega))
  have e1 : ((a.length : Int) - 1) = ((a.length - 1 : Nat) : Int) := by (first | lia | omega)
  refine exs_cons (ex_assign (d := .int ((a.length - 1 : Nat) : Int)) (fun _ _ _ => EvE.conv (ev_call g (c_zdegree D (l := a) (by (first | lia | omega))) (by decide) rfl rfl (evl1 (ev_name rfl (.inl rfl) rfl rfl) (fun _ => se_Name)) se_Name) (by rw [e1])) (by decide) rfl (fun _ _ _ => rfl)) ?_
  refine exs_ret ((ex_ret fun _ _ _ => (ev_mul (ev_name rfl (.inl rfl) rfl rfl) (ev_if (d := .int (if 1 < a.length then ((b.getD 0 0) ^ (a.length - 1)).fdiv (hh ^ (a.length - 2)) else 1)) (te_cmp (ev_name rfl (.inl rfl) rfl rfl) ev_int cmp_gt rfl) (fun hc => ?_) (fun hc => ?_)) (short_ok (ok5.mono (by decide))))).conv' ?_)
  · have hc : 1 < a.length := by have : 0 < a.length - 1 := by simpa using hc
                                 (first | lia | omega)
    have e2 : (((a.length - 1 : Nat) : Int) - 1) = ((a.length - 2 : Nat) : Int) := by (first | lia | omega)
    have hl7 : a.length - 1 ≤ 8 := by (first | lia | omega)
    refine EvE.conv (ev_fdiv g (ev_pow (EvE.hole (.int (b.getD 0 0)) (ev_itemX (.inl rfl) (ev_name rfl (.inl rfl) rfl rfl) ev_int ?_ (fun _ _ => ⟨_, rfl⟩))) (ev_name rfl (.inl rfl) rfl rfl) ?_ ?_) (ev_pow (ev_name rfl (.inl rfl) rfl rfl) (ev_sub (ev_name rfl (.inl rfl) rfl rfl) ev_int) ?_ ?_) ?_) ?_
    · exact ⟨hb', 0, by unfold pyIdx; rw [if_pos (by decide), if_pos (by simp; (first | lia | omega))]; rfl, dZ_get hb1⟩
    · (first | lia | omega)
    · exact (getD_Sm ok2 _).powOk (by (first | lia | omega))
    · (first | lia | omega)
    · rw [e2]; exact ok4.powOk (by (first | lia | omega))
    · exact Int.pow_ne_zero okd
    · rw [if_pos hc, e2]; rfl
  · have hc : ¬ 1 < a.length := by have : ¬ 0 < a.length - 1 := by simpa using hc
                                   (first | lia | omega)
    exact EvE.conv ev_int (by rw [if_neg hc])
  · rw [← e]; simp only [rrEnd]; rw [if_neg hb]
end
end Fco

-- FcR
namespace Fco

theorem gcdL_go : ∀ (l : List Int) (g : Int), (l.foldl (fun g x => ((Int.gcd g x : Nat) : Int)) g) ∣ g ∧ ∀ x ∈ l, (l.foldl (fun g x => ((Int.gcd g x : Nat) : Int)) g) ∣ x
  | [], g => ⟨Int.dvd_refl _, fun x h => nomatch h⟩
  | y :: l, g => by
    obtain ⟨h1, h2⟩ := gcdL_go l ((Int.gcd g y : Nat) : Int)
    rw [List.foldl_cons]
    refine ⟨Int.dvd_trans h1 (Int.gcd_dvd_left ..), fun x hx => ?_⟩
    rcases List.mem_cons.mp hx with h | h
    · rw [h]; exact Int.dvd_trans h1 (Int.gcd_dvd_right ..)
    · exact h2 x h
theorem gcdL_dvd {l : List Int} {x : Int} (h : x ∈ l) : gcdL l ∣ x := (gcdL_go l 0).2 x h
theorem gcdL_ne {l : List Int} {x : Int} (h : x ∈ l) (hx : x ≠ 0) : gcdL l ≠ 0 := fun e => by
  have := gcdL_dvd h
  rw [e] at this
  exact hx (Int.zero_dvd.mp this)
theorem gcdL_Sm {l : List Int} {x : Int} {k : Nat} (h : x ∈ l) (hx : x ≠ 0) (hs : SmL k l) : Sm k (gcdL l) := by
  have h1 := Int.natAbs_dvd_natAbs.mpr (gcdL_dvd h)
  have h2 := Nat.le_of_dvd (by (first | lia | omega)) h1
  exact Nat.lt_of_le_of_lt h2 (hs x h)
theorem zLd_mem {l : List Int} (h : l ≠ []) : zLd l ∈ l := by
  have h1 : 0 < l.length := List.length_pos_iff.mpr h
  unfold zLd
  have h2 : l.length - 1 < l.length := by (first | lia | omega)
  have e : l.getD (l.length - 1) 0 = l[l.length - 1] := by simp [h2]
  rw [e]; exact List.getElem_mem _

section
variable {G : GC}

/-- the value of resultant -/
noncomputable def resSw (a b : List Int) : List Int × List Int × Int := if a.length < b.length then (b, a, if (b.length - 1) % 2 = 1 ∧ (a.length - 1) % 2 = 1 then -1 else 1) else (a, b, 1)
theorem c_resultant (D : G.Gd) {a b : List Int} {r : Int} (ha : a ≠ []) (hb : b ≠ []) (hla : a.length ≤ 8) (hlb : b.length ≤ 8) (za : zLd a ≠ 0) (zb : zLd b ≠ 0) (sa : SmL 12 a) (sb : SmL 12 b) (hd : a.length - 1 + (b.length - 1) ≤ 5)
    (hr : RR ⟨zDiv (resSw a b).1 (gcdL (resSw a b).1), zDiv (resSw a b).2.1 (gcdL (resSw a b).2.1), 1, 1, (resSw a b).2.2⟩ r) :
    CallOk G 7 "resultant" [dZ a, dZ b] (.int (gcdL (resSw a b).1 ^ ((resSw a b).2.1.length - 1) * gcdL (resSw a b).2.1 ^ ((resSw a b).1.length - 1) * r)) := by
  have g := D.g
  have hf : sizeLine = 2 ^ 24 := rfl
  have hla1 : 0 < a.length := List.length_pos_iff.mpr ha
  have hlb1 : 0 < b.length := List.length_pos_iff.mpr hb
  refine call_of g (d := dk 57) (xs := ["a", "b"]) (fx := true) (D.df _ (by decide)) (ScOk.of rfl) rfl (by decide) (bind2 fun _ _ _ _ _ => rfl) ?_
  refine exs_if (c := false) (fun _ _ _ => TeE.conv (te_or (te_cmp (ev_name rfl (.inl rfl) rfl rfl) (ev_list evl_nil (Nat.le_of_ble_eq_true rfl)) (cmp_data_eq ?_ ?_) rfl) (fun _ => (te_cmp (ev_name rfl (.inl rfl) rfl rfl) (ev_list evl_nil (Nat.le_of_ble_eq_true rfl)) (cmp_data_eq ?_ ?_) rfl))) ?_) (fun h => nomatch h) (fun _ => .inl ⟨exs_nil, ?_⟩)
  · exact shaped_dZ a
  · rfl
  · exact shaped_dZ b
  · rfl
  · rw [show PyData.list [] = dZ [] from rfl, eqv_dZ, eqv_dZ]; simp [ha, hb]
  refine exs_cons (ex_assign (fun _ _ _ => ev_int) (by decide) rfl (fun _ _ _ => rfl)) ?_
  have hsw : (resSw a b).1 ≠ [] ∧ (resSw a b).2.1 ≠ [] ∧ (resSw a b).1.length ≤ 8 ∧ (resSw a b).2.1.length ≤ 8 ∧ zLd (resSw a b).1 ≠ 0 ∧ zLd (resSw a b).2.1 ≠ 0 ∧ SmL 12 (resSw a b).1 ∧ SmL 12 (resSw a b).2.1 ∧ (resSw a b).1.length - 1 + ((resSw a b).2.1.length - 1) ≤ 5 := by
    unfold resSw
    split
    · exact ⟨hb, ha, hlb, hla, zb, za, sb, sa, by simp only; (first | lia | omega)⟩
    · exact ⟨ha, hb, hla, hlb, za, zb, sa, sb, hd⟩
  refine exs_cons (Γ1 := [("a", dZ (resSw a b).1), ("b", dZ (resSw a b).2.1), ("sign", .int (resSw a b).2.2)]) (O1 := []) (ex_if (c := decide (a.length < b.length)) (fun _ _ _ => TeE.conv (te_cmp (ev_call g (c_zdegree D (l := a) (by (first | lia | omega))) (by decide) rfl rfl (evl1 (ev_name rfl (.inl rfl) rfl rfl) (fun _ => se_Name)) se_Name) (ev_call g (c_zdegree D (l := b) (by (first | lia | omega))) (by decide) rfl rfl (evl1 (ev_name rfl (.inl rfl) rfl rfl) (fun _ => se_Name)) se_Name) cmp_lt rfl) ?_) (fun hc => ?_) (fun hc => ?_)) ?_
  · rw [Bool.eq_iff_iff]; simp
  · have hc : a.length < b.length := by simpa using hc
    have e : resSw a b = (b, a, if (b.length - 1) % 2 = 1 ∧ (a.length - 1) % 2 = 1 then -1 else 1) := if_pos hc
    rw [e]
    refine exs_cons ((ex_assignS (xs := ["a", "b"]) (fun _ _ _ => (ev_tuple (evl2 (ev_name rfl (.inl rfl) rfl rfl) (ev_name rfl (.inl rfl) rfl rfl) (fun _ => se_Name) (fun _ => se_Name)) (Nat.le_of_ble_eq_true rfl))) (all2 ⟨.inl rfl, rfl⟩ ⟨.inl rfl, rfl⟩) rfl (fun _ _ _ => rfl) (fun _ _ _ => rfl)).post (Γ2 := [("a", dZ b), ("b", dZ a)]) (sub_cons rfl (sub_cons rfl sub_nil))) ?_
    refine exs_cons ((ex_assign (d := .int (if (b.length - 1) % 2 = 1 ∧ (a.length - 1) % 2 = 1 then -1 else 1)) (fun _ _ _ => ev_if (c := decide ((b.length - 1) % 2 = 1) && decide ((a.length - 1) % 2 = 1)) (TeE.conv (te_and (te_cmp (ev_mod (ev_call g (c_zdegree D (l := b) (by (first | lia | omega))) (by decide) rfl rfl (evl1 (ev_name rfl (.inl rfl) rfl rfl) (fun _ => se_Name)) se_Name) ev_int ?_) ev_int cmp_eq rfl) (fun _ => (te_cmp (ev_mod (ev_call g (c_zdegree D (l := a) (by (first | lia | omega))) (by decide) rfl rfl (evl1 (ev_name rfl (.inl rfl) rfl rfl) (fun _ => se_Name)) se_Name) ev_int ?_) ev_int cmp_eq rfl))) ?_) (fun hc => ?_) (fun hc => ?_)) (by decide) rfl (fun _ _ _ => rfl)).post (sub_cons rfl (sub_cons rfl (sub_cons rfl sub_nil)))) exs_nil
    · decide
    · decide
    · rw [fmod_len (by (first | lia | omega)), fmod_len (by (first | lia | omega)), Bool.eq_iff_iff]; simp; (first | lia | omega)
    · have hc : (b.length - 1) % 2 = 1 ∧ (a.length - 1) % 2 = 1 := by simpa using hc
      exact EvE.conv (ev_neg ev_int) (by rw [if_pos hc])
    · have hc : ¬ ((b.length - 1) % 2 = 1 ∧ (a.length - 1) % 2 = 1) := by simpa using hc
      exact EvE.conv ev_int (by rw [if_neg hc])
  · have hc : ¬ a.length < b.length := by simpa using hc
    have e : resSw a b = (a, b, 1) := if_neg hc
    rw [e]
    exact ExT.post exs_nil (sub_cons rfl (sub_cons rfl (sub_cons rfl sub_nil)))
  generalize resSw a b = w at hsw hr
  obtain ⟨A, B, sg⟩ := w
  obtain ⟨h1, h2, h3, h4, h5, h6, h7, h8, h9⟩ := hsw
  simp only at h1 h2 h3 h4 h5 h6 h7 h8 h9 hr
  have q1 : 0 < A.length := List.length_pos_iff.mpr h1
  have q2 : 0 < B.length := List.length_pos_iff.mpr h2
  have n1 := gcdL_ne (zLd_mem h1) h5
  have n2 := gcdL_ne (zLd_mem h2) h6
  have s1 := gcdL_Sm (zLd_mem h1) h5 h7
  have s2 := gcdL_Sm (zLd_mem h2) h6 h8
  have e1 : ((A.length : Int) - 1) = ((A.length - 1 : Nat) : Int) := by (first | lia | omega)
  have e2 : ((B.length : Int) - 1) = ((B.length - 1 : Nat) : Int) := by (first | lia | omega)
  refine exs_cons ((ex_assignS (xs := ["one", "other"]) (fun _ _ _ => (ev_tuple (evl2 (ev_call g (c_zcontent D (l := A) (by (first | lia | omega))) (by decide) rfl rfl (evl1 (ev_name rfl (.inl rfl) rfl rfl) (fun _ => se_Name)) se_Name) (ev_call g (c_zcontent D (l := B) (by (first | lia | omega))) (by decide) rfl rfl (evl1 (ev_name rfl (.inl rfl) rfl rfl) (fun _ => se_Name)) se_Name) (fun _ => se_Call) (fun _ => se_Call)) (Nat.le_of_ble_eq_true rfl))) (all2 ⟨.inl rfl, rfl⟩ ⟨.inl rfl, rfl⟩) rfl (fun _ _ _ => rfl) (fun _ _ _ => rfl)).post (Γ2 := [("one", .int (gcdL A)), ("other", .int (gcdL B)), ("a", dZ A), ("b", dZ B), ("sign", .int sg)]) (sub_cons rfl (sub_cons rfl (sub_cons rfl (sub_cons rfl (sub_cons rfl sub_nil)))))) ?_
  refine exs_cons (ex_assign (d := .int (gcdL A ^ (B.length - 1) * gcdL B ^ (A.length - 1))) (fun _ _ _ => EvE.conv (ev_mul (ev_pow (ev_name rfl (.inl rfl) rfl rfl) (ev_call g (c_zdegree D (l := B) (by (first | lia | omega))) (by decide) rfl rfl (evl1 (ev_name rfl (.inl rfl) rfl rfl) (fun _ => se_Name)) se_Name) ?_ ?_) (ev_pow (ev_name rfl (.inl rfl) rfl rfl) (ev_call g (c_zdegree D (l := A) (by (first | lia | omega))) (by decide) rfl rfl (evl1 (ev_name rfl (.inl rfl) rfl rfl) (fun _ => se_Name)) se_Name) ?_ ?_) ?_) ?_) (by decide) rfl (fun _ _ _ => rfl)) ?_
  · (first | lia | omega)
  · rw [e2]; exact s1.powOk (by (first | lia | omega))
  · (first | lia | omega)
  · rw [e1]; exact s2.powOk (by (first | lia | omega))
  · exact (s1.pow _).ok (s2.pow _) (by (first | lia | omega))
  · rw [e1, e2]; rfl
  refine exs_ret (ex_ret fun _ _ _ => (ev_mul (ev_name rfl (.inl rfl) rfl rfl) (ev_call g (c_row D hr) (by decide) rfl rfl (evl3 (ev_call g (c_divided D (l := A) (by (first | lia | omega)) n1) (by decide) rfl rfl (evl2 (ev_name rfl (.inl rfl) rfl rfl) (ev_name rfl (.inl rfl) rfl rfl) (fun _ => se_Name) (fun _ => se_Name)) se_Name) (ev_call g (c_divided D (l := B) (by (first | lia | omega)) n2) (by decide) rfl rfl (evl2 (ev_name rfl (.inl rfl) rfl rfl) (ev_name rfl (.inl rfl) rfl rfl) (fun _ => se_Name) (fun _ => se_Name)) se_Name) (ev_name rfl (.inl rfl) rfl rfl) (fun _ => se_Call) (fun _ => se_Call) (fun _ => se_Name)) se_Call) ?_))
  exact short_ok (((s1.pow (B.length - 1)).mul (s2.pow (A.length - 1))).mono (by (first | lia | omega)))

theorem c_disc (D : G.Gd) {f : List Int} {r : Int} (hl : 2 ≤ f.length) (hl2 : f.length ≤ 4) (hz : zLd f ≠ 0) (sf : SmL 12 f) (hr : CallOk G 7 "resultant" [dZ f, dZ (zDer f)] (.int r)) :
    CallOk G 8 "discriminant" [dZ f] (.int (if f.length = 2 then r.fdiv (zLd f) else -(r.fdiv (zLd f)))) := by
  have g := D.g
  have hf : sizeLine = 2 ^ 24 := rfl
  have e1 : ((f.length : Int) - 1) = ((f.length - 1 : Nat) : Int) := by (first | lia | omega)
  refine call_of g (d := dk 58) (xs := ["f"]) (fx := true) (D.df _ (by decide)) (ScOk.of rfl) rfl (by decide) (bind1 fun _ _ _ _ => rfl) ?_
  refine exs_cons (ex_assign (d := .int ((f.length - 1 : Nat) : Int)) (fun _ _ _ => EvE.conv (ev_call g (c_zdegree D (l := f) (by (first | lia | omega))) (by decide) rfl rfl (evl1 (ev_name rfl (.inl rfl) rfl rfl) (fun _ => se_Name)) se_Name) (by rw [e1])) (by decide) rfl (fun _ _ _ => rfl)) ?_
  refine exs_if (c := false) (fun _ _ _ => TeE.conv (te_cmp (ev_name rfl (.inl rfl) rfl rfl) ev_int cmp_lt rfl) ?_) (fun h => nomatch h) (fun _ => .inl ⟨exs_nil, ?_⟩)
  · simp; (first | lia | omega)
  refine exs_cons (ex_assign (fun _ _ _ => (ev_fdiv g (ev_call g (hr) (by decide) rfl rfl (evl2 (ev_name rfl (.inl rfl) rfl rfl) (ev_call g (c_zderive D (l := f) (by (first | lia | omega)) sf (by (first | lia | omega))) (by decide) rfl rfl (evl1 (ev_name rfl (.inl rfl) rfl rfl) (fun _ => se_Name)) se_Name) (fun _ => se_Name) (fun _ => se_Call)) se_Name) (ev_call g (c_zlead D (l := f) (by (first | lia | omega))) (by decide) rfl rfl (evl1 (ev_name rfl (.inl rfl) rfl rfl) (fun _ => se_Name)) se_Name) ?_)) (by decide) rfl (fun _ _ _ => rfl)) ?_
  · exact hz
  have key : f.length - 1 = 1 ∨ f.length - 1 = 2 ∨ f.length - 1 = 3 := by (first | lia | omega)
  refine exs_ret (ex_ret fun _ _ _ => ev_if (c := decide (f.length ≠ 2)) (TeE.conv (te_cmp (ev_mod (ev_fdiv g (ev_mul (ev_name rfl (.inl rfl) rfl rfl) (ev_sub (ev_name rfl (.inl rfl) rfl rfl) ev_int) ?_) ev_int ?_) ev_int ?_) ev_int cmp_eq rfl) ?_) (fun hc => ?_) (fun hc => ?_))
  · exact short_ok (by unfold Sm; (first | lia | omega))
  · decide
  · decide
  · rcases key with h | h | h
    · rw [h]; have : f.length = 2 := by (first | lia | omega)
      simp [this]
    · rw [h]; have : f.length = 3 := by (first | lia | omega)
      simp [this]
    · rw [h]; have : f.length = 4 := by (first | lia | omega)
      simp [this]
  · have hc : f.length ≠ 2 := by simpa using hc
    exact EvE.conv (ev_neg (ev_name rfl (.inl rfl) rfl rfl)) (by rw [if_neg hc])
  · have hc : f.length = 2 := by simpa using hc
    exact EvE.conv (ev_name rfl (.inl rfl) rfl rfl) (by rw [if_pos hc])
end
end Fco

-- FcS
namespace Fco

section
variable {G : GC}

theorem zPow_sz {p : List Int} {k : Nat} (hp : p.length ≤ 2) (hs : SmL 12 p) (hk : k ≤ 3) : (zPow p k).length ≤ 8 ∧ SmL 100 (zPow p k) := by
  have s1 : SmL 12 [1] := fun x hx => by rw [List.mem_singleton.mp hx]; unfold Sm; decide
  have l1 : ([1] : List Int).length = 1 := rfl
  have a1 := zMul_le [1] p
  have a2 := zMul_le p p
  have b1 := SmL_zMul s1 hs
  have b2 := SmL_zMul hs hs
  have e1 : ([1] : List Int).length * p.length ≤ 2 := by rw [l1]; (first | lia | omega)
  have e2 : p.length * p.length ≤ 4 := Nat.mul_le_mul hp hp
  have b1' : SmL 26 (zMul [1] p) := SmL.mono b1 (by (first | lia | omega))
  have b2' : SmL 28 (zMul p p) := SmL.mono b2 (by (first | lia | omega))
  have hk' : k = 0 ∨ k = 1 ∨ k = 2 ∨ k = 3 := by (first | lia | omega)
  rcases hk' with rfl | rfl | rfl | rfl
  · exact ⟨by show ([1] : List Int).length ≤ 8; decide, s1.mono (by decide)⟩
  · exact ⟨by show (zMul [1] p).length ≤ 8; (first | lia | omega), b1'.mono (by decide)⟩
  · have a3 := zMul_le [1] (zMul p p)
    have e3 : ([1] : List Int).length * (zMul p p).length ≤ 4 := by rw [l1]; (first | lia | omega)
    exact ⟨by show (zMul [1] (zMul p p)).length ≤ 8; (first | lia | omega), SmL.mono (SmL_zMul s1 b2') (by (first | lia | omega))⟩
  · have a3 := zMul_le (zMul [1] p) (zMul p p)
    have e3 : (zMul [1] p).length * (zMul p p).length ≤ 3 * 4 := Nat.mul_le_mul (by (first | lia | omega)) (by (first | lia | omega))
    exact ⟨by show (zMul (zMul [1] p) (zMul p p)).length ≤ 8; (first | lia | omega), SmL.mono (SmL_zMul b1' b2') (by (first | lia | omega))⟩

theorem c_zpowerI (D : G.Gd) {p : List Int} {k B : Nat} {i : Int} (hi : i = (k : Nat)) (hp : p.length ≤ 8) (hs : SmL B p) (hk : k ≤ 3) (hB0 : 1 ≤ B) (hB : B ≤ 100000) : CallOk G 2 "zpower" [dZ p, .int i] (dZ (zPow p k)) := by
  subst hi; exact c_zpower D hp hs hk hB0 hB
noncomputable def putTerm (many : Nat) (m0 m1 m2 m3 : Int) (p : Int × Nat) : List Int := zScale (zMul (zPow (zT [m0, m1]) p.2) (zPow (zT [m2, m3]) (many - p.2))) p.1
noncomputable def zPut (f : List Int) (many : Nat) (m0 m1 m2 m3 : Int) : List Int := f.zipIdx.foldl (fun fd p => zAdd fd (putTerm many m0 m1 m2 m3 p)) []
theorem c_put (D : G.Gd) {f : List Int} {many : Nat} {m0 m1 m2 m3 : Int} (hl : f.length ≤ many + 1) (hm : many ≤ 3) (sf : SmL 12 f) (sm : SmL 12 [m0, m1, m2, m3]) : CallOk G 3 "_law_put" [dZ f, .int (many : Nat), dZ [m0, m1, m2, m3]] (dZ (zPut f many m0 m1 m2 m3)) := by
  have g := D.g
  have hf : sizeLine = 2 ^ 24 := rfl
  have sA : SmL 12 (zT [m0, m1]) := SmL.zT fun x hx => sm x (by
    rcases List.mem_cons.mp hx with h | h
    · rw [h]; simp
    · rw [List.mem_singleton.mp h]; simp)
  have sB : SmL 12 (zT [m2, m3]) := SmL.zT fun x hx => sm x (by
    rcases List.mem_cons.mp hx with h | h
    · rw [h]; simp
    · rw [List.mem_singleton.mp h]; simp)
  have lA : (zT [m0, m1]).length ≤ 2 := zT_le _
  have lB : (zT [m2, m3]).length ≤ 2 := zT_le _
  refine call_of g (d := dk 61) (xs := ["f", "many", "move"]) (fx := true) (D.df _ (by decide)) (ScOk.of rfl) rfl (by decide) (bind3 fun _ _ _ _ _ _ => rfl) ?_
  let Γ0 : List Int → Gam := fun fd => [("found", dZ fd), ("f", dZ f), ("many", .int (many : Nat)), ("move", dZ [m0, m1, m2, m3])]
  refine exs_cons ((ex_assign (fun _ _ _ => (ev_list evl_nil (Nat.le_of_ble_eq_true rfl))) (by decide) rfl (fun _ _ _ => rfl)).post (Γ2 := Γ0 []) (sub_cons rfl (sub_cons rfl (sub_cons rfl (sub_cons rfl sub_nil))))) ?_
  refine exs_cons (ex_for (fun _ _ _ => src_enumM g (dec := PyData.int) (xs := f) (ev_name rfl (.inl rfl) rfl rfl) rfl rfl) (for_map (fun p : Int × Nat => .tuple [.int p.2, .int p.1]) Γ0 (fun _ => []) (fun _ fd => fd.length ≤ 20) (fun fd p => zAdd fd (putTerm many m0 m1 m2 m3 p)) (fun fd p => StoreL ["power", "number"] [.int p.2, .int p.1] (Γ0 fd)) f.zipIdx
    (fun i fd p hp hi => tgt_tuple (xs := ["power", "number"]) (ps := [_, _]) (all2 ⟨.inl rfl, rfl⟩ ⟨.inl rfl, rfl⟩) rfl rfl (fun _ _ _ => rfl)) (fun i fd p hp hi => ?_) f.zipIdx 0 [] (by simp) (by simp))) ?_
  · have hm' := mem_zipIdx (List.mem_of_getElem? hp)
    have hp2 : p.2 ≤ 3 := by (first | lia | omega)
    have hq2 : many - p.2 ≤ 3 := by (first | lia | omega)
    have e1 : ((many : Int) - (p.2 : Int)) = ((many - p.2 : Nat) : Int) := by (first | lia | omega)
    obtain ⟨c1, c2⟩ := zPow_sz lA sA hp2
    obtain ⟨c3, c4⟩ := zPow_sz lB sB hq2
    have c5 := zMul_le (zPow (zT [m0, m1]) p.2) (zPow (zT [m2, m3]) (many - p.2))
    have c6 := SmL_zMul c2 c4
    have c7 : (zPow (zT [m0, m1]) p.2).length * (zPow (zT [m2, m3]) (many - p.2)).length ≤ 8 * 8 := Nat.mul_le_mul c1 c3
    have c8 := zScale_len (zMul (zPow (zT [m0, m1]) p.2) (zPow (zT [m2, m3]) (many - p.2))) p.1
    have c9 := zAdd_le fd (putTerm many m0 m1 m2 m3 p)
    have c10 : (putTerm many m0 m1 m2 m3 p).length ≤ 16 := by unfold putTerm; (first | lia | omega)
    have c11 : SmL 264 (zMul (zPow (zT [m0, m1]) p.2) (zPow (zT [m2, m3]) (many - p.2))) := SmL.mono c6 (by (first | lia | omega))
    refine ⟨?_, by show (zAdd fd (putTerm many m0 m1 m2 m3 p)).length ≤ 20; (first | lia | omega)⟩
    refine exs_cons (ex_assign (d := dZ (zMul (zPow (zT [m0, m1]) p.2) (zPow (zT [m2, m3]) (many - p.2)))) (fun _ _ _ => (ev_call g (c_zmul D (by (first | lia | omega)) (by (first | lia | omega)) c2 c4 (by (first | lia | omega))) (by decide) rfl rfl (evl2 (ev_call g (c_zpower D (p := zT [m0, m1]) (k := p.2) (by (first | lia | omega)) sA hp2 (by decide) (by decide)) (by decide) rfl rfl (evl2 (ev_call g (c_ztrim D (l := [m0, m1]) (Nat.le_of_ble_eq_true rfl)) (by decide) rfl rfl (evl1 (EvE.conv (d' := dZ [m0, m1]) (ev_slice (ev_name rfl (.inl rfl) rfl rfl) evp_none (evp_some ev_int) evp_none ?_ (by decide)) (by first | (rw [pick_take _ (by decide)]; rfl) | (rw [pick_drop1 _ (by decide)]; rfl) | (rw [pick_init, ← List.map_dropLast]; rfl) | rfl)) (fun _ => se_Subscript)) se_Subscript) (ev_name rfl (.inl rfl) rfl rfl) (fun _ => se_Call) (fun _ => se_Name)) se_Call) (ev_call g (c_zpowerI D (p := zT [m2, m3]) (k := many - p.2) e1 (by (first | lia | omega)) sB hq2 (by decide) (by decide)) (by decide) rfl rfl (evl2 (ev_call g (c_ztrim D (l := [m2, m3]) (Nat.le_of_ble_eq_true rfl)) (by decide) rfl rfl (evl1 (EvE.conv (d' := dZ [m2, m3]) (ev_slice (ev_name rfl (.inl rfl) rfl rfl) (evp_some ev_int) evp_none evp_none ?_ (by decide)) (by first | (rw [pick_take _ (by decide)]; rfl) | (rw [pick_drop1 _ (by decide)]; rfl) | (rw [pick_init, ← List.map_dropLast]; rfl) | rfl)) (fun _ => se_Subscript)) se_Subscript) (ev_sub (ev_name rfl (.inl rfl) rfl rfl) (ev_name rfl (.inl rfl) rfl rfl)) (fun _ => se_Call) (fun _ => se_BinOp)) se_Call) (fun _ => se_Call) (fun _ => se_Call)) se_Call)) (by decide) rfl (fun _ _ _ => rfl)) ?_
    · exact Nat.le_of_ble_eq_true rfl
    · exact Nat.le_of_ble_eq_true rfl
    refine exs_cons ((ex_assign (fun _ _ _ => (ev_call g (c_zadd D (a := fd) (b := putTerm many m0 m1 m2 m3 p) (by (first | lia | omega)) (by (first | lia | omega))) (by decide) rfl rfl (evl2 (ev_name rfl (.inl rfl) rfl rfl) (ev_call g (c_zscale D (by (first | lia | omega)) c11 (l := zMul (zPow (zT [m0, m1]) p.2) (zPow (zT [m2, m3]) (many - p.2))) ((sf _ hm'.1).mono (by decide)) (by decide)) (by decide) rfl rfl (evl2 (ev_name rfl (.inl rfl) rfl rfl) (ev_name rfl (.inl rfl) rfl rfl) (fun _ => se_Name) (fun _ => se_Name)) se_Name) (fun _ => se_Name) (fun _ => se_Call)) se_Name)) (by decide) rfl (fun _ _ _ => rfl)).post (sub_cons rfl (sub_cons rfl (sub_cons rfl (sub_cons rfl sub_nil))))) exs_nil
  · exact exs_ret (ex_ret fun _ _ _ => (ev_name rfl (.inl rfl) rfl rfl))

-- how often a root
noncomputable def oftV (f : List Int) (p r : Int) : Int := (f.zipIdx.map fun q => q.1 * p ^ q.2 * r ^ (f.length - 1 - q.2)).sum
inductive OR (p r : Int) : List Int → Nat → Nat → Prop
  | done {f : List Int} {k : Nat} : f.length ≤ 8 → SmL 100 f → oftV f p r ≠ 0 → OR p r f k k
  | step {f : List Int} {k m : Nat} : f.length ≤ 8 → SmL 100 f → oftV f p r = 0 → OR p r (zDer f) (k + 1) m → OR p r f k m
theorem c_often (D : G.Gd) {f : List Int} {p r : Int} {k : Nat} (hp : Sm 12 p) (hr : Sm 12 r) (h : OR p r f 0 k) : CallOk G 2 "_law_often" [dZ f, .int p, .int r] (.int (k : Nat)) := by
  have g := D.g
  have hf : sizeLine = 2 ^ 24 := rfl
  let Γ0 : List Int → Nat → Gam := fun f k => [("f", dZ f), ("many", .int (k : Nat)), ("top", .int p), ("bottom", .int r)]
  have test : ∀ (f : List Int) (k : Nat), f.length ≤ 8 → SmL 100 f → ∀ L a cd, TeE G 1 (envOfC (dk 63).name (dk 63).scope L a cd) (Γ0 f k) [] (whT (stAt 63 1)) (oftV f p r == 0) := by
    intro f k hl hs L a cd
    have hf' : (f.map PyData.int).length ≤ sizeLine := by first | exact mapS ‹_› | exact map8 ‹_› | exact map8 (Nat.le_trans ‹_› ‹_›) | (simp; (first | lia | omega))
    refine TeE.conv (te_cmp (ev_fn g (by decide) boot_sum (by decide) rfl rfl (evl1 (EvE.hole (dZ (f.zipIdx.map fun q => q.1 * p ^ q.2 * r ^ (f.length - 1 - q.2))) ?_) (fun _ => se_ListComp)) se_ListComp (fun _ => rfl) c_sum) ev_int cmp_eq rfl) rfl
    refine EvE.conv (ev_compN2 inj_en (xs := f.zipIdx) (f := fun q => some (.int (q.1 * p ^ q.2 * r ^ (f.length - 1 - q.2)))) (Γf := [("f", dZ f), ("top", .int p), ("bottom", .int r)]) rfl rfl rfl rfl (src_enumM g (dec := PyData.int) (xs := f) (ev_name rfl (.inr (.inl rfl)) rfl rfl) rfl rfl) (by simp; (first | lia | omega)) (fun _ => rfl)
      (fg_cons (by decide) rfl (fg_cons (by decide) rfl (fg_cons (by decide) rfl fg_nil))) (fun p => .int p.2) (fun p => .int p.1) (fun _ => rfl) (fun _ _ => rfl) (fun q hq C cl => ?_)) ?_
    · show EvE _ _ _ _ _ _ _
      have hq' := mem_zipIdx hq
      have e1 : ((f.length : Int) - 1 - (q.2 : Int)) = ((f.length - 1 - q.2 : Nat) : Int) := by (first | lia | omega)
      have e2 : ((f.map PyData.int).length : Int) - 1 - (q.2 : Int) = ((f.length - 1 - q.2 : Nat) : Int) := by rw [List.length_map]; exact e1
      refine EvE.conv (ev_mul (ev_mul (ev_name rfl (.inl rfl) rfl rfl) (ev_pow (ev_name rfl (.inr (.inl rfl)) rfl rfl) (ev_name rfl (.inl rfl) rfl rfl) ?_ ?_) ?_) (ev_pow (ev_name rfl (.inr (.inl rfl)) rfl rfl) (ev_sub (ev_sub (ev_fn g (by decide) boot_len (by decide) rfl rfl (evl1 (ev_name rfl (.inr (.inl rfl)) rfl rfl) (fun _ => se_Name)) se_Name (fun _ => rfl) (c_len ?_ (.inl rfl))) ev_int) (ev_name rfl (.inl rfl) rfl rfl)) ?_ ?_) ?_) ?_
      · (first | lia | omega)
      · exact hp.powOk (by (first | lia | omega))
      · exact (hs _ hq'.1).ok (hp.pow _) (by simp; (first | lia | omega))
      · exact hf'
      · rw [e2]; (first | lia | omega)
      · rw [e2]; exact hr.powOk (by (first | lia | omega))
      · rw [e2]; exact ((hs _ hq'.1).mul (hp.pow _)).ok (hr.pow _) (by simp; (first | lia | omega))
      · rw [e2]; rfl
    · simp [dZ]
  have main : ∀ f k m, OR p r f k m → ∃ f', WhC G true 1 (dk 63).name (dk 63).scope (whT (stAt 63 1)) (whB (stAt 63 1)) (Γ0 f k) [] (.next (Γ0 f' m) []) := by
    intro f k m h
    induction h with
    | @done f k hl hs hv => exact ⟨f, wh_done fun L a cd => (test f k hl hs L a cd).conv (by simpa using hv)⟩
    | @step f k m hl hs hv _ ih =>
      obtain ⟨f', hw⟩ := ih
      refine ⟨f', wh_step (fun L a cd => (test f k hl hs L a cd).conv (by simpa using hv)) ?_ hw⟩
      exact exs_cons ((ex_assignT (fun _ _ _ => (ev_tuple (evl2 (ev_call g (c_zderive D (l := f) (by (first | lia | omega)) hs (by decide)) (by decide) rfl rfl (evl1 (ev_name rfl (.inr (.inl rfl)) rfl rfl) (fun _ => se_Name)) se_Name) (ev_add (ev_name rfl (.inl rfl) rfl rfl) ev_int) (fun _ => se_Call) (fun _ => se_BinOp)) (Nat.le_of_ble_eq_true rfl))) (tgt_tuple (xs := ["f", "many"]) (ps := [_, _]) (all2 ⟨.inr rfl, rfl⟩ ⟨.inl rfl, rfl⟩) rfl rfl (fun _ _ _ => rfl)) (fun _ _ _ => rfl) (fun _ _ _ => rfl)).post (sub_cons rfl (sub_cons rfl (sub_cons rfl (sub_cons rfl sub_nil))))) exs_nil
  obtain ⟨f', hw⟩ := main f 0 k h
  refine call_of g (d := dk 63) (xs := ["f", "top", "bottom"]) (fx := true) (D.df _ (by decide)) (ScOk.of rfl) rfl (by decide) (bind3 fun _ _ _ _ _ _ => rfl) ?_
  refine exs_cons ((ex_assign (fun _ _ _ => ev_int) (by decide) rfl (fun _ _ _ => rfl)).post (Γ2 := Γ0 f 0) (sub_cons rfl (sub_cons rfl (sub_cons rfl (sub_cons rfl sub_nil))))) ?_
  refine exs_cons (ex_while hw) (exs_ret (ex_ret fun _ _ _ => (ev_name rfl (.inl rfl) rfl rfl)))

-- the discriminant of a row that stands for a degree
theorem c_told (D : G.Gd) {f : List Int} {many : Nat} {r : Int} (hl : f.length ≤ many + 1) (hm : many ≤ 3) (sf : SmL 12 f) (hr : many ≤ f.length → CallOk G 8 "discriminant" [dZ f] (.int r)) (h1 : 1 ≤ many) :
    CallOk G 9 "_law_told" [dZ f, .int (many : Nat)] (.int (if f.length < many then 0 else if f.length = many + 1 then r else r * zLd f ^ 2)) := by
  have g := D.g
  have hf : sizeLine = 2 ^ 24 := rfl
  have hf' : (f.map PyData.int).length ≤ sizeLine := by first | exact mapS ‹_› | exact map8 ‹_› | exact map8 (Nat.le_trans ‹_› ‹_›) | (simp; (first | lia | omega))
  refine call_of g (d := dk 64) (xs := ["f", "many"]) (fx := true) (D.df _ (by decide)) (ScOk.of rfl) rfl (by decide) (bind2 fun _ _ _ _ _ => rfl) ?_
  refine exs_if (c := decide (f.length < many)) (fun _ _ _ => TeE.conv (te_cmp (ev_fn g (by decide) boot_len (by decide) rfl rfl (evl1 (ev_name rfl (.inl rfl) rfl rfl) (fun _ => se_Name)) se_Name (fun _ => rfl) (c_len ?_ (.inl rfl))) (ev_name rfl (.inl rfl) rfl rfl) cmp_lt rfl) ?_) (fun hc => .inr ⟨_, rfl, exs_ret ((ex_ret fun _ _ _ => ev_int).conv' ?_)⟩) (fun hc => .inl ⟨exs_nil, ?_⟩)
  · exact hf'
  · rw [Bool.eq_iff_iff]; simp
  · have hc : f.length < many := by simpa using hc
    rw [if_pos hc]
  have hc : ¬ f.length < many := by simpa using hc
  have hr := hr (by (first | lia | omega))
  rw [if_neg hc]
  refine exs_ret (ex_ret fun _ _ _ => ev_if (c := decide (f.length = many + 1)) (TeE.conv (te_cmp (ev_fn g (by decide) boot_len (by decide) rfl rfl (evl1 (ev_name rfl (.inl rfl) rfl rfl) (fun _ => se_Name)) se_Name (fun _ => rfl) (c_len ?_ (.inl rfl))) (ev_add (ev_name rfl (.inl rfl) rfl rfl) ev_int) cmp_eq rfl) ?_) (fun hc => ?_) (fun hc => ?_))
  · exact hf'
  · rw [Bool.eq_iff_iff]; simp; (first | lia | omega)
  · have hc : f.length = many + 1 := by simpa using hc
    exact EvE.conv (ev_call g (hr) (by decide) rfl rfl (evl1 (ev_name rfl (.inl rfl) rfl rfl) (fun _ => se_Name)) se_Name) (by rw [if_pos hc])
  · have hc : ¬ f.length = many + 1 := by simpa using hc
    have hs : Sm 12 (zLd f) := getD_Sm sf _
    refine EvE.conv (ev_mul (ev_call g (hr) (by decide) rfl rfl (evl1 (ev_name rfl (.inl rfl) rfl rfl) (fun _ => se_Name)) se_Name) (ev_pow (EvE.hole (.int (zLd f)) (ev_itemX (.inl rfl) (ev_name rfl (.inl rfl) rfl rfl) (ev_neg ev_int) ?_ (fun _ _ => ⟨_, rfl⟩))) ev_int ?_ ?_) ?_) ?_
    · exact ⟨hf', _, pyIdx_last (by rw [List.length_map]; (first | lia | omega)), by rw [List.length_map]; exact dZ_get (by (first | lia | omega))⟩
    · decide
    · exact hs.powOk (n := 2) (by decide)
    · exact short_ok' ((hs.pow 2).mono (by decide))
    · rw [if_neg hc]; rfl

theorem c_both (D : G.Gd) {f h : List Int} {r : Int} (hl : f.length ≤ 4) (hl2 : h.length ≤ 3) (hf0 : f ≠ []) (hh0 : h ≠ []) (sf : SmL 12 f) (sh : SmL 12 h) (hr : f.length = 4 ∨ h.length = 3 → CallOk G 7 "resultant" [dZ f, dZ h] (.int r)) :
    CallOk G 8 "_law_both" [dZ f, dZ h] (.int (if f.length < 4 ∧ h.length < 3 then 0 else r * (if f.length < 4 then zLd h ^ (4 - f.length) else zLd f ^ (3 - h.length)))) := by
  have g := D.g
  have hf : sizeLine = 2 ^ 24 := rfl
  have hf' : (f.map PyData.int).length ≤ sizeLine := by first | exact mapS ‹_› | exact map8 ‹_› | exact map8 (Nat.le_trans ‹_› ‹_›) | (simp; (first | lia | omega))
  have hh' : (h.map PyData.int).length ≤ sizeLine := by first | exact mapS ‹_› | exact map8 ‹_› | exact map8 (Nat.le_trans ‹_› ‹_›) | (simp; (first | lia | omega))
  have e1 : (4 : Int) - (f.length : Int) = ((4 - f.length : Nat) : Int) := by (first | lia | omega)
  have e2 : (3 : Int) - (h.length : Int) = ((3 - h.length : Nat) : Int) := by (first | lia | omega)
  have q1 : 0 < f.length := List.length_pos_iff.mpr hf0
  have q2 : 0 < h.length := List.length_pos_iff.mpr hh0
  refine call_of g (d := dk 65) (xs := ["f", "g"]) (fx := true) (D.df _ (by decide)) (ScOk.of rfl) rfl (by decide) (bind2 fun _ _ _ _ _ => rfl) ?_
  refine exs_cons ((ex_assignS (xs := ["less", "fewer"]) (ds := [.int ((4 - f.length : Nat) : Int), .int ((3 - h.length : Nat) : Int)]) (fun _ _ _ => EvE.conv (ev_tuple (evl2 (ev_sub ev_int (ev_fn g (by decide) boot_len (by decide) rfl rfl (evl1 (ev_name rfl (.inl rfl) rfl rfl) (fun _ => se_Name)) se_Name (fun _ => rfl) (c_len ?_ (.inl rfl)))) (ev_sub ev_int (ev_fn g (by decide) boot_len (by decide) rfl rfl (evl1 (ev_name rfl (.inl rfl) rfl rfl) (fun _ => se_Name)) se_Name (fun _ => rfl) (c_len ?_ (.inl rfl)))) (fun _ => se_BinOp) (fun _ => se_BinOp)) (Nat.le_of_ble_eq_true rfl)) ?_) (all2 ⟨.inl rfl, rfl⟩ ⟨.inl rfl, rfl⟩) rfl (fun _ _ _ => rfl) (fun _ _ _ => rfl)).post (Γ2 := [("less", .int ((4 - f.length : Nat) : Int)), ("fewer", .int ((3 - h.length : Nat) : Int)), ("f", dZ f), ("g", dZ h)]) (sub_cons rfl (sub_cons rfl (sub_cons rfl (sub_cons rfl sub_nil))))) ?_
  · exact hf'
  · exact hh'
  · simp; (first | lia | omega)
  refine exs_if (c := decide (f.length < 4) && decide (h.length < 3)) (fun _ _ _ => TeE.conv (te_and (te_cmp (ev_name rfl (.inl rfl) rfl rfl) ev_int cmp_gt rfl) (fun _ => (te_cmp (ev_name rfl (.inl rfl) rfl rfl) ev_int cmp_gt rfl))) ?_) (fun hc => .inr ⟨_, rfl, exs_ret ((ex_ret fun _ _ _ => ev_int).conv' ?_)⟩) (fun hc => .inl ⟨exs_nil, ?_⟩)
  · rw [Bool.eq_iff_iff]; simp; (first | lia | omega)
  · have hc : f.length < 4 ∧ h.length < 3 := by simpa using hc
    rw [if_pos hc]
  have hc : ¬ (f.length < 4 ∧ h.length < 3) := by simpa using hc
  have hr := hr (by (first | lia | omega))
  rw [if_neg hc]
  have s1 : Sm 12 (zLd f) := getD_Sm sf _
  have s2 : Sm 12 (zLd h) := getD_Sm sh _
  have hsm : Sm 64 (if f.length < 4 then zLd h ^ (4 - f.length) else zLd f ^ (3 - h.length)) := by
    split
    · exact (s2.pow _).mono (by (first | lia | omega))
    · exact (s1.pow _).mono (by (first | lia | omega))
  refine exs_ret (ex_ret fun _ _ _ => ev_mul (ev_call g (hr) (by decide) rfl rfl (evl2 (ev_name rfl (.inl rfl) rfl rfl) (ev_name rfl (.inl rfl) rfl rfl) (fun _ => se_Name) (fun _ => se_Name)) se_Name) (ev_if (c := decide (f.length < 4)) (TeE.conv (te_cmp (ev_name rfl (.inl rfl) rfl rfl) ev_int cmp_gt rfl) ?_) (fun hc => ?_) (fun hc => ?_)) (short_ok' hsm))
  · rw [Bool.eq_iff_iff]; simp; (first | lia | omega)
  · have hc : f.length < 4 := by simpa using hc
    refine EvE.conv (ev_pow (EvE.hole (.int (zLd h)) (ev_itemX (.inl rfl) (ev_name rfl (.inl rfl) rfl rfl) (ev_neg ev_int) ?_ (fun _ _ => ⟨_, rfl⟩))) (ev_name rfl (.inl rfl) rfl rfl) ?_ ?_) ?_
    · exact ⟨hh', _, pyIdx_last (by rw [List.length_map]; (first | lia | omega)), by rw [List.length_map]; exact dZ_get (by (first | lia | omega))⟩
    · (first | lia | omega)
    · exact s2.powOk (by (first | lia | omega))
    · rw [if_pos hc]; rfl
  · have hc : ¬ f.length < 4 := by simpa using hc
    refine EvE.conv (ev_pow (EvE.hole (.int (zLd f)) (ev_itemX (.inl rfl) (ev_name rfl (.inl rfl) rfl rfl) (ev_neg ev_int) ?_ (fun _ _ => ⟨_, rfl⟩))) (ev_name rfl (.inl rfl) rfl rfl) ?_ ?_) ?_
    · exact ⟨hf', _, pyIdx_last (by rw [List.length_map]; (first | lia | omega)), by rw [List.length_map]; exact dZ_get (by (first | lia | omega))⟩
    · (first | lia | omega)
    · exact s1.powOk (by (first | lia | omega))
    · rw [if_neg hc]; rfl
end
end Fco

-- FcT
namespace Fco

-- sizes of ratios
theorem Sm.one {k : Nat} (h : 1 ≤ k) : Sm k 1 := by unfold Sm; exact Nat.one_lt_two_pow (by (first | lia | omega))
theorem SmQ.mono {k l : Nat} {x : Rat} (h : SmQ k x) (hk : k ≤ l) : SmQ l x := ⟨h.1.mono hk, h.2.mono hk⟩
theorem SmQ.divInt {k : Nat} {a b : Int} (ha : Sm k a) (hb : Sm k b) (h0 : b ≠ 0) : SmQ k (Rat.divInt a b) := by
  constructor
  · unfold Sm at *
    rw [← rat_num h0]
    have h2 : Int.gcd a b ≠ 0 := fun e => h0 (Int.gcd_eq_zero_iff.mp e).2
    refine Nat.lt_of_le_of_lt ?_ ha
    have h1 : (Int.gcd a b : Int) ∣ a := Int.gcd_dvd_left ..
    split
    · rw [fdiv_of_dvd h1]; exact Int.natAbs_ediv_le_natAbs ..
    · rw [Int.zero_sub, fdiv_of_dvd (Int.neg_dvd.mpr h1)]; exact Int.natAbs_ediv_le_natAbs ..
  · unfold Sm at *
    rw [← rat_den h0]
    refine Nat.lt_of_le_of_lt ?_ hb
    have h1 : (Int.gcd a b : Int) ∣ b := Int.gcd_dvd_right ..
    split
    · rw [fdiv_of_dvd h1]; exact Int.natAbs_ediv_le_natAbs ..
    · rw [Int.zero_sub, fdiv_of_dvd (Int.neg_dvd.mpr h1)]; exact Int.natAbs_ediv_le_natAbs ..
theorem SmQ.add {k l : Nat} {x y : Rat} (hx : SmQ k x) (hy : SmQ l y) : SmQ (k + l + 1) (x + y) := by
  rw [← radd_eq]
  exact .divInt (((hx.1.mul hy.2).add (hy.1.mul hx.2)).mono (by (first | lia | omega))) ((hx.2.mul hy.2).mono (by (first | lia | omega))) (Int.mul_ne_zero (den_ne x) (den_ne y))
theorem SmQ.mul {k l : Nat} {x y : Rat} (hx : SmQ k x) (hy : SmQ l y) : SmQ (k + l) (x * y) := by
  rw [← rmul_eq]
  exact .divInt (hx.1.mul hy.1) (hx.2.mul hy.2) (Int.mul_ne_zero (den_ne x) (den_ne y))
theorem SmQ.div {k l : Nat} {x y : Rat} (hx : SmQ k x) (hy : SmQ l y) (h0 : y ≠ 0) : SmQ (k + l) (x / y) := by
  rw [← rdiv_eq]
  exact .divInt (hx.1.mul hy.2) (hx.2.mul hy.1) (Int.mul_ne_zero (den_ne x) (num_ne h0))
theorem SmQ.inv {k : Nat} {x : Rat} (hx : SmQ k x) (h0 : x ≠ 0) : SmQ k x⁻¹ := by
  rw [← rinv_eq]
  exact .divInt hx.2 hx.1 (num_ne h0)
theorem SmQ.neg {k : Nat} {x : Rat} (hx : SmQ k x) : SmQ k (-x) := ⟨by rw [Rat.neg_num]; exact hx.1.neg, by rw [Rat.neg_den]; exact hx.2⟩
theorem SmQ.zero {k : Nat} (h : 1 ≤ k) : SmQ k 0 := ⟨.zero, Sm.one h⟩
theorem SmQ.int {k : Nat} {n : Int} (h : Sm k n) (h1 : 1 ≤ k) : SmQ k (n : Rat) := ⟨h, Sm.one h1⟩
noncomputable def SmP (k : Nat) (l : List Rat) : Prop := ∀ x ∈ l, SmQ k x
theorem SmP.mono {k l : Nat} {a : List Rat} (h : SmP k a) (hk : k ≤ l) : SmP l a := fun x hx => (h x hx).mono hk
theorem getD_SmQ {k : Nat} {a : List Rat} (h : SmP k a) (hk : 1 ≤ k) (i : Nat) : SmQ k (a.getD i 0) := by
  by_cases hi : i < a.length
  · have e : a.getD i 0 = a[i] := by simp [hi]
    rw [e]; exact h _ (List.getElem_mem hi)
  · have e : a.getD i 0 = 0 := by rw [List.getD_eq_getElem?_getD, List.getElem?_eq_none (by (first | lia | omega))]; rfl
    rw [e]; exact .zero hk

theorem inj_dQ : ∀ x y : Rat, dQ x = dQ y → x = y := fun x y h => by
  simp only [dQ, dR, PyData.tuple.injEq, List.cons.injEq, PyData.int.injEq, and_true] at h
  exact Rat.ext h.1 (by have := h.2; (first | lia | omega))
theorem dQ0 : dQ 0 = dR 0 1 := rfl
theorem dQ1 : dQ 1 = dR 1 1 := rfl
theorem num0 {x : Rat} : x.num = 0 ↔ x = 0 := Rat.num_eq_zero

section
variable {G : GC}

noncomputable def pSz (l : List Rat) : Nat → Nat
  | 0 => 0
  | k + 1 => if l.getD k 0 = 0 then pSz l k else k + 1
theorem pSz_le (l : List Rat) : ∀ k, pSz l k ≤ k
  | 0 => Nat.le_refl _
  | k + 1 => by unfold pSz; split; exact Nat.le_succ_of_le (pSz_le l k); exact Nat.le_refl _
noncomputable def pT (l : List Rat) : List Rat := l.take (pSz l l.length)
theorem pT_le (l : List Rat) : (pT l).length ≤ l.length := by unfold pT; rw [List.length_take]; exact Nat.min_le_right _ _
theorem SmP.pT {k : Nat} {l : List Rat} (h : SmP k l) : SmP k (pT l) := fun x hx => h x (List.mem_of_mem_take hx)

theorem c_qtrim (D : G.Gd) {l : List Rat} (hl : l.length ≤ sizeLine) : CallOk G 1 "qtrim" [dP l] (dP (pT l)) := by
  have g := D.g
  have hl' : (l.map dQ).length ≤ sizeLine := by simpa using hl
  have hf : sizeLine = 2 ^ 24 := rfl
  refine call_of g (d := dk 15) (xs := ["row"]) (fx := true) (D.df _ (by decide)) (ScOk.of rfl) rfl (by decide) (bind1 fun _ _ _ _ => rfl) ?_
  refine exs_cons ((ex_assign (fun _ _ _ => (ev_fn g (by decide) boot_len (by decide) rfl rfl (evl1 (ev_name rfl (.inl rfl) rfl rfl) (fun _ => se_Name)) se_Name (fun _ => rfl) (c_len ?_ (.inl rfl)))) (by decide) rfl (fun _ _ _ => rfl)).post (Γ2 := [("size", .int l.length), ("row", dP l)]) (sub_cons (by simp) (sub_cons rfl sub_nil))) ?_
  · exact hl'
  refine exs_cons (ex_while (wh_fold (S := Nat) (fun σ => [("size", .int σ), ("row", dP l)]) (fun _ => []) (fun σ => σ ≤ l.length) (fun σ => decide ((σ : Int) > 0) && ((l.getD (σ - 1) 0).num == 0)) (fun σ => σ - 1) (pSz l) id
    (fun σ hσ _ _ _ => (te_and (te_cmp (ev_name rfl (.inl rfl) rfl rfl) ev_int cmp_gt rfl) ?_)) (fun σ hσ hc => ?_) (fun σ hσ hc => ?_) (fun σ hσ hc => ?_) (fun σ hσ hc => ?_) _ l.length (Nat.le_refl _) (Nat.le_refl _))) ?_
  · intro h
    have h : (0 : Int) < σ := by simpa using h
    refine (te_cmp (ev_item (j := 0) (.inr rfl) (EvE.hole (dQ (l.getD (σ - 1) 0)) (ev_itemX (.inl rfl) (ev_name rfl (.inl rfl) rfl rfl) (ev_sub (ev_name rfl (.inl rfl) rfl rfl) ev_int) ?_ (fun _ _ => ⟨_, rfl⟩))) ev_int (Nat.le_of_ble_eq_true rfl) rfl rfl (fun _ _ => ⟨_, rfl⟩)) ev_int cmp_eq rfl)
    have e : ((σ : Int) - 1).toNat = σ - 1 := by (first | lia | omega)
    exact ⟨hl', _, pyIdx_of (by (first | lia | omega)) (by simp; (first | lia | omega)), by rw [e]; exact dP_get (by (first | lia | omega))⟩
  · simp only [Bool.and_eq_true, decide_eq_true_eq] at hc
    refine exs_cons ((ex_aug rfl (fun _ _ _ => ev_int) rfl rfl isub_ok).post (sub_cons ?_ (sub_cons rfl sub_nil))) exs_nil
    have e : (σ : Int) - 1 = ((σ - 1 : Nat) : Int) := by (first | lia | omega)
    simp only [List.lookup_cons, beq_self_eq_true]
    rw [e]
  · simp only [Bool.and_eq_true, decide_eq_true_eq] at hc
    exact ⟨by (first | lia | omega), by simp only [id]; (first | lia | omega)⟩
  · cases σ with
    | zero => rfl
    | succ σ =>
      have : ¬ l.getD σ 0 = 0 := by
        intro e
        rw [Nat.succ_sub_one, e] at hc
        simp at hc
      unfold pSz; rw [if_neg this]
  · simp only [Bool.and_eq_true, decide_eq_true_eq] at hc
    cases σ with
    | zero => simp at hc
    | succ σ =>
      have : l.getD σ 0 = 0 := num0.mp (by simpa using hc.2)
      rw [pSz, if_pos this]; rfl
  · refine exs_ret ((ex_ret fun _ _ _ => (ev_ty g (by decide) boot_list (by decide) rfl rfl (evl1 (ev_slice (ev_name rfl (.inl rfl) rfl rfl) evp_none (evp_some (ev_name rfl (.inl rfl) rfl rfl)) evp_none ?_ (by decide)) (fun _ => se_Subscript)) se_Subscript (fun _ => rfl) (c_listcopy ?_ (.inl rfl)))).conv' ?_)
    · exact hl'
    · rw [pick_take _ (by (first | lia | omega))]; simpa using Nat.le_trans (Nat.min_le_right _ _) hl
    · rw [pick_take _ (by (first | lia | omega))]
      simp only [Int.toNat_natCast, ← List.map_take]
      rfl
theorem c_qdegree (D : G.Gd) {l : List Rat} (hl : l.length ≤ sizeLine) : CallOk G 1 "qdegree" [dP l] (.int ((l.length : Int) - 1)) := by
  have g := D.g
  have hl' : (l.map dQ).length ≤ sizeLine := by simpa using hl
  refine call_of g (d := dk 16) (xs := ["p"]) (fx := true) (D.df _ (by decide)) (ScOk.of rfl) rfl (by decide) (bind1 fun _ _ _ _ => rfl) ?_
  refine exs_ret ((ex_ret fun _ _ _ => (ev_sub (ev_fn g (by decide) boot_len (by decide) rfl rfl (evl1 (ev_name rfl (.inl rfl) rfl rfl) (fun _ => se_Name)) se_Name (fun _ => rfl) (c_len ?_ (.inl rfl))) ev_int)).conv' ?_)
  · exact hl'
  · simp
noncomputable def pLd (l : List Rat) : Rat := l.getD (l.length - 1) 0
theorem c_qlead (D : G.Gd) {l : List Rat} (hl : l.length ≤ sizeLine) : CallOk G 1 "qlead" [dP l] (dQ (pLd l)) := by
  have g := D.g
  have hl' : (l.map dQ).length ≤ sizeLine := by simpa using hl
  refine call_of g (d := dk 17) (xs := ["p"]) (fx := true) (D.df _ (by decide)) (ScOk.of rfl) rfl (by decide) (bind1 fun _ _ _ _ => rfl) ?_
  refine exs_ret (ex_ret fun _ _ _ => (ev_if (te_cmp (ev_fn g (by decide) boot_len (by decide) rfl rfl (evl1 (ev_name rfl (.inl rfl) rfl rfl) (fun _ => se_Name)) se_Name (fun _ => rfl) (c_len ?_ (.inl rfl))) ev_int cmp_gt rfl) (fun h => ?_) (fun h => ?_)))
  · exact hl'
  · have h : 0 < l.length := by simpa using h
    refine (ev_itemX (.inl rfl) (ev_name rfl (.inl rfl) rfl rfl) (ev_neg ev_int) ?_ (fun _ _ => ⟨_, rfl⟩))
    exact ⟨hl', _, pyIdx_last (by simpa using h), by rw [List.length_map]; exact dP_get (by (first | lia | omega))⟩
  · have h : l = [] := by simpa using h
    subst h
    exact (ev_global g g.r0 rfl rfl)

noncomputable def pAddL (a b : List Rat) : List Rat := (List.range (max a.length b.length)).map fun i => a.getD i 0 + b.getD i 0
noncomputable def pAdd (a b : List Rat) : List Rat := pT (pAddL a b)
theorem pAddL_len (a b : List Rat) : (pAddL a b).length = max a.length b.length := by simp [pAddL]
theorem pAdd_le (a b : List Rat) : (pAdd a b).length ≤ max a.length b.length := by
  refine Nat.le_trans (pT_le _) ?_
  simp [pAddL]
theorem SmP_pAdd {k l : Nat} {a b : List Rat} (ha : SmP k a) (hb : SmP l b) (hk : 1 ≤ k) (hl : 1 ≤ l) : SmP (k + l + 1) (pAdd a b) := by
  refine SmP.pT fun x hx => ?_
  obtain ⟨i, _, rfl⟩ := List.mem_map.mp hx
  exact (getD_SmQ ha hk i).add (getD_SmQ hb hl i)
theorem c_qadd (D : G.Gd) {a b : List Rat} {k : Nat} (ha : a.length ≤ 1000) (hb : b.length ≤ 1000) (sa : SmP k a) (sb : SmP k b) (hk1 : 1 ≤ k) (hk : k ≤ 60000000) : CallOk G 4 "qadd" [dP a, dP b] (dP (pAdd a b)) := by
  have g := D.g
  have hf : sizeLine = 2 ^ 24 := rfl
  have ha' : (a.map dQ).length ≤ sizeLine := by first | exact mapS ‹_› | exact map8 ‹_› | exact map8 (Nat.le_trans ‹_› ‹_›) | (simp; (first | lia | omega))
  have hb' : (b.map dQ).length ≤ sizeLine := by first | exact mapS ‹_› | exact map8 ‹_› | exact map8 (Nat.le_trans ‹_› ‹_›) | (simp; (first | lia | omega))
  refine call_of g (d := dk 18) (xs := ["a", "b"]) (fx := true) (D.df _ (by decide)) (ScOk.of rfl) rfl (by decide) (bind2 fun _ _ _ _ _ => rfl) ?_
  refine exs_cons ((ex_assign (fun _ _ _ => (ev_fn g (by decide) boot_max (by decide) rfl rfl (evl2 (ev_fn g (by decide) boot_len (by decide) rfl rfl (evl1 (ev_name rfl (.inr (.inl rfl)) rfl rfl) (fun _ => se_Name)) se_Name (fun _ => rfl) (c_len ?_ (.inl rfl))) (ev_fn g (by decide) boot_len (by decide) rfl rfl (evl1 (ev_name rfl (.inr (.inl rfl)) rfl rfl) (fun _ => se_Name)) se_Name (fun _ => rfl) (c_len ?_ (.inl rfl))) (fun _ => se_Call) (fun _ => se_Call)) se_Call (fun _ => rfl) c_max)) (by decide) rfl (fun _ _ _ => rfl)).post (Γ2 := [("size", .int (max a.length b.length : Nat)), ("a", dP a), ("b", dP b)]) (sub_cons (by simp; (first | lia | omega)) (sub_cons rfl (sub_cons rfl sub_nil)))) (exs_ret (ex_ret fun _ _ _ => (ev_call g (c_qtrim D (l := pAddL a b) (by simp only [pAddL, List.length_map, List.length_range]; (first | lia | omega))) (by decide) rfl rfl (evl1 ?_ (fun _ => se_ListComp)) se_ListComp)))
  · exact ha'
  · exact hb'
  · refine EvE.conv (ev_compN inj_nat (f := fun i => some (dQ (a.getD i 0 + b.getD i 0))) (Γf := [("a", dP a), ("b", dP b)]) rfl rfl rfl (src_range (k := (max a.length b.length : Nat)) g (ev_name rfl (.inl rfl) rfl rfl) rfl rfl (by (first | lia | omega)) (by (first | lia | omega))) (by simp; (first | lia | omega)) (fun _ => rfl) (fg_cons (by decide) rfl (fg_cons (by decide) rfl fg_nil)) (fun i hi C cl => ?_)) ?_
    · show EvE _ _ _ _ _ _ _
      refine ev_call g (c_radd D (getD_SmQ sa hk1 i) (getD_SmQ sb hk1 i) hk) (by decide) rfl rfl (evl_cons (ev_if (te_cmp (ev_name rfl (.inl rfl) rfl rfl) (ev_fn g (by decide) boot_len (by decide) rfl rfl (evl1 (ev_name rfl (.inr (.inl rfl)) rfl rfl) (fun _ => se_Name)) se_Name (fun _ => rfl) (c_len ?_ (.inl rfl))) cmp_lt rfl) ?_ ?_) (evl_cons (ev_if (te_cmp (ev_name rfl (.inl rfl) rfl rfl) (ev_fn g (by decide) boot_len (by decide) rfl rfl (evl1 (ev_name rfl (.inr (.inl rfl)) rfl rfl) (fun _ => se_Name)) se_Name (fun _ => rfl) (c_len ?_ (.inl rfl))) cmp_lt rfl) ?_ ?_) evl_nil rfl) rfl) rfl
      · exact ha'
      · intro h
        have h : i < a.length := by simpa using h
        refine (ev_itemX (.inl rfl) (ev_name rfl (.inr (.inl rfl)) rfl rfl) (ev_name rfl (.inl rfl) rfl rfl) ?_ (fun _ _ => ⟨_, rfl⟩))
        exact ⟨ha', _, pyIdx_nat (by simpa using h), dP_get h⟩
      · intro h
        have h : a.length ≤ i := by simpa using h
        have e : a.getD i 0 = 0 := by rw [List.getD_eq_getElem?_getD, List.getElem?_eq_none (by (first | lia | omega))]; rfl
        exact EvE.conv (ev_global g g.r0 rfl rfl) (by rw [e]; rfl)
      · exact hb'
      · intro h
        have h : i < b.length := by simpa using h
        refine (ev_itemX (.inl rfl) (ev_name rfl (.inr (.inl rfl)) rfl rfl) (ev_name rfl (.inl rfl) rfl rfl) ?_ (fun _ _ => ⟨_, rfl⟩))
        exact ⟨hb', _, pyIdx_nat (by simpa using h), dP_get h⟩
      · intro h
        have h : b.length ≤ i := by simpa using h
        have e : b.getD i 0 = 0 := by rw [List.getD_eq_getElem?_getD, List.getElem?_eq_none (by (first | lia | omega))]; rfl
        exact EvE.conv (ev_global g g.r0 rfl rfl) (by rw [e]; rfl)
    · simp [dP, pAddL]
noncomputable def pNeg (l : List Rat) : List Rat := l.map fun x => -x
theorem pNeg_len (l : List Rat) : (pNeg l).length = l.length := by simp [pNeg]
theorem SmP_pNeg {k : Nat} {a : List Rat} (ha : SmP k a) : SmP k (pNeg a) := fun x hx => by
  obtain ⟨y, hy, rfl⟩ := List.mem_map.mp hx
  exact (ha y hy).neg
theorem c_qneg (D : G.Gd) {l : List Rat} (hl : l.length ≤ 1000) : CallOk G 2 "qneg" [dP l] (dP (pNeg l)) := by
  have g := D.g
  have hf : sizeLine = 2 ^ 24 := rfl
  refine call_of g (d := dk 19) (xs := ["p"]) (fx := true) (D.df _ (by decide)) (ScOk.of rfl) rfl (by decide) (bind1 fun _ _ _ _ => rfl) ?_
  refine exs_ret (ex_ret fun _ _ _ => ?_)
  refine EvE.conv (ev_compN inj_dQ (xs := l) (f := fun x => some (dQ (-x))) (Γf := []) rfl rfl rfl (src_list (.inl rfl) (ev_name rfl (.inl rfl) rfl rfl) go_name) (by (first | lia | omega)) (fun _ => rfl) fg_nil (fun x _ C cl => ?_)) ?_
  · show EvE _ _ _ _ _ _ _
    exact (ev_call g (c_rneg D (x := x)) (by decide) rfl rfl (evl1 (ev_name rfl (.inl rfl) rfl rfl) (fun _ => se_Name)) se_Name)
  · simp [dP, pNeg]
noncomputable def pSub (a b : List Rat) : List Rat := pAdd a (pNeg b)
theorem c_qsub (D : G.Gd) {a b : List Rat} {k : Nat} (ha : a.length ≤ 1000) (hb : b.length ≤ 1000) (sa : SmP k a) (sb : SmP k b) (hk1 : 1 ≤ k) (hk : k ≤ 60000000) : CallOk G 5 "qsub" [dP a, dP b] (dP (pSub a b)) := by
  have g := D.g
  refine call_of g (d := dk 20) (xs := ["a", "b"]) (fx := true) (D.df _ (by decide)) (ScOk.of rfl) rfl (by decide) (bind2 fun _ _ _ _ _ => rfl) ?_
  exact exs_ret (ex_ret fun _ _ _ => (ev_call g (c_qadd D ha (b := pNeg b) (by rw [pNeg_len]; exact hb) sa (SmP_pNeg sb) hk1 hk) (by decide) rfl rfl (evl2 (ev_name rfl (.inl rfl) rfl rfl) (ev_call g (c_qneg D hb) (by decide) rfl rfl (evl1 (ev_name rfl (.inl rfl) rfl rfl) (fun _ => se_Name)) se_Name) (fun _ => se_Name) (fun _ => se_Call)) se_Name))
noncomputable def pScale (l : List Rat) (r : Rat) : List Rat := if r = 0 then [] else l.map fun x => x * r
theorem pScale_len (l : List Rat) (r : Rat) : (pScale l r).length ≤ l.length := by unfold pScale; split <;> simp
theorem SmP_pScale {k l : Nat} {a : List Rat} {r : Rat} (ha : SmP k a) (hr : SmQ l r) : SmP (k + l) (pScale a r) := by
  unfold pScale
  split
  · intro x hx; cases hx
  · intro x hx
    obtain ⟨y, hy, rfl⟩ := List.mem_map.mp hx
    exact (ha y hy).mul hr
theorem c_qscale (D : G.Gd) {l : List Rat} {r : Rat} {k : Nat} (hl : l.length ≤ 1000) (sl : SmP k l) (sr : SmQ k r) (hk : k ≤ 60000000) : CallOk G 4 "qscale" [dP l, dQ r] (dP (pScale l r)) := by
  have g := D.g
  have hf : sizeLine = 2 ^ 24 := rfl
  refine call_of g (d := dk 21) (xs := ["p", "r"]) (fx := true) (D.df _ (by decide)) (ScOk.of rfl) rfl (by decide) (bind2 fun _ _ _ _ _ => rfl) ?_
  refine exs_ret (ex_ret fun _ _ _ => (ev_if (te_cmp (ev_item (j := 0) (.inr rfl) (ev_name rfl (.inr (.inl rfl)) rfl rfl) ev_int (Nat.le_of_ble_eq_true rfl) rfl rfl (fun _ _ => ⟨_, rfl⟩)) ev_int cmp_ne rfl) (fun h => ?_) (fun h => ?_)))
  · have h : ¬ r = 0 := by intro e; subst e; simp at h
    refine EvE.conv (ev_compN inj_dQ (xs := l) (f := fun x => some (dQ (x * r))) (Γf := [("r", dQ r)]) rfl rfl rfl (src_list (.inl rfl) (ev_name rfl (.inl rfl) rfl rfl) go_name) (by (first | lia | omega)) (fun _ => rfl) (fg_cons (by decide) rfl fg_nil) (fun x hx C cl => ?_)) ?_
    · show EvE _ _ _ _ _ _ _
      exact (ev_call g (c_rmul D (sl x hx) sr hk) (by decide) rfl rfl (evl2 (ev_name rfl (.inl rfl) rfl rfl) (ev_name rfl (.inr (.inl rfl)) rfl rfl) (fun _ => se_Name) (fun _ => se_Name)) se_Name)
    · simp [dP, pScale, h]
  · have h : r = 0 := num0.mp (by simpa using h)
    exact EvE.conv (ev_list evl_nil (Nat.le_of_ble_eq_true rfl)) (by simp [dP, pScale, h])
noncomputable def pRaise (l : List Rat) (k : Nat) : List Rat := if l = [] then [] else List.replicate k 0 ++ l
theorem pRaise_len (l : List Rat) (k : Nat) : (pRaise l k).length ≤ k + l.length := by unfold pRaise; split <;> simp
theorem SmP_pRaise {k : Nat} {a : List Rat} {n : Nat} (ha : SmP k a) (hk : 1 ≤ k) : SmP k (pRaise a n) := by
  unfold pRaise
  split
  · intro x hx; cases hx
  · intro x hx
    rcases List.mem_append.mp hx with h | h
    · rw [(List.mem_replicate.mp h).2]; exact .zero hk
    · exact ha x h
theorem c_qraise (D : G.Gd) {l : List Rat} {k : Nat} (hl : l.length ≤ 1000) (hk : k ≤ 1000) : CallOk G 1 "qraise" [dP l, .int (k : Nat)] (dP (pRaise l k)) := by
  have g := D.g
  have hf : sizeLine = 2 ^ 24 := rfl
  have hl' : (l.map dQ).length ≤ sizeLine := by first | exact mapS ‹_› | exact map8 ‹_› | exact map8 (Nat.le_trans ‹_› ‹_›) | (simp; (first | lia | omega))
  refine call_of g (d := dk 22) (xs := ["p", "many"]) (fx := true) (D.df _ (by decide)) (ScOk.of rfl) rfl (by decide) (bind2 fun _ _ _ _ _ => rfl) ?_
  refine exs_ret (ex_ret fun _ _ _ => (ev_if (te_cmp (ev_fn g (by decide) boot_len (by decide) rfl rfl (evl1 (ev_name rfl (.inl rfl) rfl rfl) (fun _ => se_Name)) se_Name (fun _ => rfl) (c_len ?_ (.inl rfl))) ev_int cmp_gt rfl) (fun h => ?_) (fun h => ?_)))
  · exact hl'
  · have h : l ≠ [] := by intro e; subst e; simp at h
    refine EvE.conv (ev_cat (ev_rep (ev_global g g.r0 rfl rfl) (ev_name rfl (.inl rfl) rfl rfl) rfl ?_ ?_) (ev_ty g (by decide) boot_list (by decide) rfl rfl (evl1 (ev_name rfl (.inl rfl) rfl rfl) (fun _ => se_Name)) se_Name (fun _ => rfl) (c_listcopy ?_ (.inl rfl))) ?_) ?_
    · (first | lia | omega)
    · (first | lia | omega)
    · exact hl'
    · simp; (first | lia | omega)
    · simp [dP, pRaise, h, dQ0]
  · have h : l = [] := by simpa using h
    exact EvE.conv (ev_list evl_nil (Nat.le_of_ble_eq_true rfl)) (by simp [dP, pRaise, h])
theorem c_fromz (D : G.Gd) {l : List Int} (hl : l.length ≤ 1000) : CallOk G 1 "from_z" [dZ l] (dP (l.map fun (x : Int) => (x : Rat))) := by
  have g := D.g
  have hf : sizeLine = 2 ^ 24 := rfl
  refine call_of g (d := dk 27) (xs := ["z"]) (fx := true) (D.df _ (by decide)) (ScOk.of rfl) rfl (by decide) (bind1 fun _ _ _ _ => rfl) ?_
  refine exs_ret (ex_ret fun _ _ _ => ?_)
  refine EvE.conv (ev_compN inj_int (xs := l) (f := fun x => some (dR x 1)) (Γf := []) rfl rfl rfl (src_list (.inl rfl) (ev_name rfl (.inl rfl) rfl rfl) go_name) (by (first | lia | omega)) (fun _ => rfl) fg_nil (fun x _ C cl => ?_)) ?_
  · show EvE _ _ _ _ _ _ _
    exact (ev_tuple (evl2 (ev_name rfl (.inl rfl) rfl rfl) ev_int (fun _ => se_Name) (fun _ => se_Constant)) (Nat.le_of_ble_eq_true rfl))
  · simp [dP]; intros; rfl
theorem c_qmonic (D : G.Gd) {l : List Rat} {k : Nat} (hl : l.length ≤ 1000) (sl : SmP k l) (h0 : l ≠ [] → pLd l ≠ 0) (hk1 : 1 ≤ k) (hk : k ≤ 60000000) : CallOk G 5 "qmonic" [dP l] (dP (if l = [] then [] else pScale l (pLd l)⁻¹)) := by
  have g := D.g
  have hf : sizeLine = 2 ^ 24 := rfl
  have hl' : (l.map dQ).length ≤ sizeLine := by first | exact mapS ‹_› | exact map8 ‹_› | exact map8 (Nat.le_trans ‹_› ‹_›) | (simp; (first | lia | omega))
  refine call_of g (d := dk 25) (xs := ["p"]) (fx := true) (D.df _ (by decide)) (ScOk.of rfl) rfl (by decide) (bind1 fun _ _ _ _ => rfl) ?_
  refine exs_ret (ex_ret fun _ _ _ => (ev_if (te_cmp (ev_fn g (by decide) boot_len (by decide) rfl rfl (evl1 (ev_name rfl (.inl rfl) rfl rfl) (fun _ => se_Name)) se_Name (fun _ => rfl) (c_len ?_ (.inl rfl))) ev_int cmp_gt rfl) (fun h => ?_) (fun h => ?_)))
  · exact hl'
  · have h : l ≠ [] := by intro e; subst e; simp at h
    have h1 : 0 < l.length := List.length_pos_iff.mpr h
    have hi := (getD_SmQ sl hk1 (l.length - 1)).inv (h0 h)
    refine EvE.conv (ev_call g (c_qscale D hl sl hi hk) (by decide) rfl rfl (evl2 (ev_name rfl (.inl rfl) rfl rfl) (ev_call g (c_rinv D (h0 h)) (by decide) rfl rfl (evl1 (ev_itemX (.inl rfl) (ev_name rfl (.inl rfl) rfl rfl) (ev_neg ev_int) ?_ (fun _ _ => ⟨_, rfl⟩)) (fun _ => se_Subscript)) se_Subscript) (fun _ => se_Name) (fun _ => se_Call)) se_Name) (by rw [if_neg h]; rfl)
    exact ⟨hl', _, pyIdx_last (by rw [List.length_map]; exact h1), by rw [List.length_map]; exact dP_get (by (first | lia | omega))⟩
  · have h : l = [] := by simpa using h
    exact EvE.conv (ev_list evl_nil (Nat.le_of_ble_eq_true rfl)) (by rw [if_pos h]; rfl)
end
end Fco

-- FcU
namespace Fco

section
variable {G : GC}
noncomputable def pRow (left : Rat) (one : Nat) (b : List Rat) (found : List Rat) : List Rat := b.zipIdx.foldl (fun fd p => fd.set (one + p.2) (fd.getD (one + p.2) 0 + left * p.1)) found
noncomputable def pMulL (a b : List Rat) : List Rat := a.zipIdx.foldl (fun fd p => pRow p.1 p.2 b fd) (List.replicate (a.length + b.length - 1) 0)
noncomputable def pMul (a b : List Rat) : List Rat := if a = [] ∨ b = [] then [] else pMulL a b
theorem pRow_len (left : Rat) (one : Nat) (b : List Rat) (found : List Rat) : (pRow left one b found).length = found.length := by
  unfold pRow
  generalize b.zipIdx = l
  induction l generalizing found with
  | nil => rfl
  | cons p l ih => rw [List.foldl_cons, ih]; simp
theorem pMulL_len (a b : List Rat) : (pMulL a b).length = a.length + b.length - 1 := by
  unfold pMulL
  have : ∀ (l : List (Rat × Nat)) (fd : List Rat), (l.foldl (fun fd p => pRow p.1 p.2 b fd) fd).length = fd.length := by
    intro l
    induction l with
    | nil => intro fd; rfl
    | cons p l ih => intro fd; rw [List.foldl_cons, ih, pRow_len]
  rw [this]; simp
theorem pMul_le (a b : List Rat) : (pMul a b).length ≤ a.length + b.length := by
  unfold pMul
  split
  · simp
  · rw [pMulL_len]; (first | lia | omega)
theorem SmP_set {k : Nat} {l : List Rat} {i : Nat} {x : Rat} (h : SmP k l) (hx : SmQ k x) : SmP k (l.set i x) := fun y hy => by
  rcases List.mem_or_eq_of_mem_set hy with hy | hy
  · exact h y hy
  · exact hy ▸ hx
theorem SmP_row {K : Nat} {left : Rat} {one : Nat} (hK : 1 ≤ K) : ∀ (l : List (Rat × Nat)) (t : Nat) (fd : List Rat), 1 ≤ t → SmP t fd → (∀ p ∈ l, SmQ K (left * p.1)) →
    SmP (t + l.length * (K + 1)) (l.foldl (fun fd p => fd.set (one + p.2) (fd.getD (one + p.2) 0 + left * p.1)) fd)
  | [], t, fd, _, h, _ => h.mono (by (first | lia | omega))
  | p :: l, t, fd, ht, h, hl => by
    rw [List.foldl_cons]
    have h1 := (getD_SmQ h ht (one + p.2)).add (hl p (.head _))
    have := SmP_row (one := one) hK l (t + K + 1) (fd.set (one + p.2) (fd.getD (one + p.2) 0 + left * p.1)) (by (first | lia | omega)) (SmP_set (h.mono (by (first | lia | omega))) h1) (fun q hq => hl q (.tail _ hq))
    refine this.mono ?_
    rw [List.length_cons, Nat.succ_mul]; (first | lia | omega)
theorem mem_zipIdxQ {l : List Rat} {p : Rat × Nat} (h : p ∈ l.zipIdx) : p.1 ∈ l ∧ p.2 < l.length := mem_zipIdx h
theorem SmP_pRow {K t : Nat} {left : Rat} {one : Nat} {b fd : List Rat} (hK : 1 ≤ K) (ht : 1 ≤ t) (h : SmP t fd) (hb : ∀ y ∈ b, SmQ K (left * y)) : SmP (t + b.length * (K + 1)) (pRow left one b fd) := by
  have := SmP_row (one := one) hK b.zipIdx t fd ht h (fun p hp => hb _ (mem_zipIdxQ hp).1)
  rw [List.length_zipIdx] at this
  exact this
theorem SmP_pMul {k l : Nat} {a b : List Rat} (ha : SmP k a) (hb : SmP l b) (hk : 1 ≤ k) : SmP (1 + a.length * (b.length * (k + l + 1))) (pMul a b) := by
  unfold pMul
  split
  · intro x hx; cases hx
  unfold pMulL
  have key : ∀ (ps : List (Rat × Nat)) (t : Nat) (fd : List Rat), 1 ≤ t → SmP t fd → (∀ p ∈ ps, SmQ k p.1) → SmP (t + ps.length * (b.length * (k + l + 1))) (ps.foldl (fun fd p => pRow p.1 p.2 b fd) fd) := by
    intro ps
    induction ps with
    | nil => intro t fd _ h _; simpa using h
    | cons p ps ih =>
      intro t fd ht h hp
      rw [List.foldl_cons]
      have h1 := SmP_pRow (one := p.2) (left := p.1) (K := k + l) (by (first | lia | omega)) ht h (fun y hy => (hp p (.head _)).mul (hb y hy))
      refine (ih _ _ (by (first | lia | omega)) h1 fun q hq => hp q (.tail _ hq)).mono ?_
      rw [List.length_cons, Nat.succ_mul]; (first | lia | omega)
  have := key a.zipIdx 1 (List.replicate (a.length + b.length - 1) 0) (Nat.le_refl _) (fun y hy => by rw [(List.mem_replicate.mp hy).2]; exact .zero (Nat.le_refl _)) (fun p hp => ha _ (mem_zipIdxQ hp).1)
  rwa [List.length_zipIdx] at this

theorem c_qmul (D : G.Gd) {a b : List Rat} {B : Nat} (ha : a.length ≤ 8) (hb : b.length ≤ 8) (hsa : SmP B a) (hsb : SmP B b) (hB1 : 1 ≤ B) (hB : B ≤ 200000) : CallOk G 4 "qmul" [dP a, dP b] (dP (pMul a b)) := by
  have g := D.g
  have hf : sizeLine = 2 ^ 24 := rfl
  have ha' : (a.map dQ).length ≤ sizeLine := by first | exact mapS ‹_› | exact map8 ‹_› | exact map8 (Nat.le_trans ‹_› ‹_›) | (simp; (first | lia | omega))
  have hb' : (b.map dQ).length ≤ sizeLine := by first | exact mapS ‹_› | exact map8 ‹_› | exact map8 (Nat.le_trans ‹_› ‹_›) | (simp; (first | lia | omega))
  refine call_of g (d := dk 23) (xs := ["a", "b"]) (fx := false) (D.df _ (by decide)) (ScOk.of rfl) rfl (by decide) (bind2 fun _ _ _ _ _ => rfl) ?_
  refine exs_if (c := decide (a = []) || decide (b = [])) (fun _ _ _ => ?_) (fun h => .inr ⟨_, rfl, exs_ret ((ex_ret fun _ _ _ => (ev_list evl_nil (Nat.le_of_ble_eq_true rfl))).conv' ?_)⟩) (fun h => .inl ⟨exs_nil, ?_⟩)
  · refine TeE.conv (te_or (te_cmp (ev_fn g (by decide) boot_len (by decide) rfl rfl (evl1 (ev_name rfl (.inl rfl) rfl rfl) (fun _ => se_Name)) se_Name (fun _ => rfl) (c_len ?_ (.inl rfl))) ev_int cmp_eq rfl) (fun _ => (te_cmp (ev_fn g (by decide) boot_len (by decide) rfl rfl (evl1 (ev_name rfl (.inl rfl) rfl rfl) (fun _ => se_Name)) se_Name (fun _ => rfl) (c_len ?_ (.inl rfl))) ev_int cmp_eq rfl))) ?_
    · exact ha'
    · exact hb'
    · rw [Bool.eq_iff_iff]; simp
  · have h : a = [] ∨ b = [] := by simpa using h
    simp [dP, pMul, h]
  have h : ¬ (a = [] ∨ b = []) := by simpa using h
  have hab : a ≠ [] ∧ b ≠ [] := ⟨fun e => h (.inl e), fun e => h (.inr e)⟩
  have h1 : 0 < a.length := List.length_pos_iff.mpr hab.1
  have h2 : 0 < b.length := List.length_pos_iff.mpr hab.2
  let Γ0 : Gam := [("a", dP a), ("b", dP b)]
  refine exs_cons ((ex_assignF (fun _ _ _ => evf_rep (k := ((a.length + b.length - 1 : Nat) : Int)) (d := dQ 0) (ev_global g g.r0 rfl rfl) (EvE.conv (ev_sub (ev_add (ev_fn g (by decide) boot_len (by decide) rfl rfl (evl1 (ev_name rfl (.inl rfl) rfl rfl) (fun _ => se_Name)) se_Name (fun _ => rfl) (c_len ?_ (.inl rfl))) (ev_fn g (by decide) boot_len (by decide) rfl rfl (evl1 (ev_name rfl (.inl rfl) rfl rfl) (fun _ => se_Name)) se_Name (fun _ => rfl) (c_len ?_ (.inl rfl)))) ev_int) ?_) rfl ?_ ?_) (by decide) rfl (fun _ _ _ => rfl)).post (Γ2 := Γ0) (sub_cons rfl (sub_cons rfl sub_nil))) ?_
  · exact ha'
  · exact hb'
  · simp; (first | lia | omega)
  · (first | lia | omega)
  · (first | lia | omega)
  have e0 : List.replicate ((a.length + b.length - 1 : Nat) : Int).toNat (dQ 0) = (List.replicate (a.length + b.length - 1) (0 : Rat)).map dQ := by simp
  rw [e0]
  let K := 2 * B + 1
  refine exs_cons (ex_for (fun _ _ _ => src_enumM g (dec := dQ) (xs := a) (ev_name rfl (.inl rfl) rfl rfl) rfl rfl) (for_map (fun p : Rat × Nat => .tuple [.int p.2, dQ p.1]) (fun _ : List Rat => Γ0) (fun fd => [("found", (false, fd.map dQ))]) (fun i fd => fd.length = a.length + b.length - 1 ∧ SmP (1 + i * (b.length * (2 * B + 1))) fd)
    (fun fd p => pRow p.1 p.2 b fd) (fun _ p => StoreL ["one", "left"] [.int p.2, dQ p.1] Γ0) a.zipIdx
    (fun i fd p hp hi => tgt_tuple (xs := ["one", "left"]) (ps := [_, _]) (all2 ⟨.inl rfl, rfl⟩ ⟨.inl rfl, rfl⟩) rfl rfl (fun _ _ _ => rfl)) (fun i fd p hp hi => ⟨?_, ?_⟩) a.zipIdx 0 (List.replicate (a.length + b.length - 1) 0) (by simp)
    ⟨by simp, fun y hy => by rw [(List.mem_replicate.mp hy).2]; exact .zero (by (first | lia | omega))⟩)) ?_
  · have hm := mem_zipIdxQ (List.mem_of_getElem? hp)
    have hi8 : i < 8 := by have := (List.getElem?_eq_some_iff.mp hp).1; rw [List.length_zipIdx] at this; (first | lia | omega)
    have hb0 : b.length * (2 * B + 1) ≤ 8 * 400001 := Nat.mul_le_mul hb (by (first | lia | omega))
    have hbi : i * (b.length * (2 * B + 1)) ≤ 7 * (8 * 400001) := Nat.mul_le_mul (by (first | lia | omega)) hb0
    refine exs_cons (ExT.post (ex_for (fun _ _ _ => src_enumM g (dec := dQ) (xs := b) (ev_name rfl (.inl rfl) rfl rfl) rfl rfl) (for_map (fun p : Rat × Nat => .tuple [.int p.2, dQ p.1]) (fun _ : List Rat => StoreL ["one", "left"] [.int p.2, dQ p.1] Γ0) (fun fd => [("found", (false, fd.map dQ))])
        (fun j fd => fd.length = a.length + b.length - 1 ∧ SmP (1 + i * (b.length * (2 * B + 1)) + j * (2 * B + 1)) fd)
        (fun fd q => fd.set (p.2 + q.2) (fd.getD (p.2 + q.2) 0 + p.1 * q.1)) (fun _ q => StoreL ["other", "right"] [.int q.2, dQ q.1] (StoreL ["one", "left"] [.int p.2, dQ p.1] Γ0)) b.zipIdx
        (fun i fd q hq hi => tgt_tuple (xs := ["other", "right"]) (ps := [_, _]) (all2 ⟨.inl rfl, rfl⟩ ⟨.inl rfl, rfl⟩) rfl rfl (fun _ _ _ => rfl)) (fun j fd q hq hj => ⟨?_, ?_⟩) b.zipIdx 0 fd (by simp) ⟨hi.1, hi.2.mono (by (first | lia | omega))⟩)) (sub_cons rfl (sub_cons rfl sub_nil))) exs_nil
    · have hq' := mem_zipIdxQ (List.mem_of_getElem? hq)
      have hj8 : j < 8 := by have := (List.getElem?_eq_some_iff.mp hq).1; rw [List.length_zipIdx] at this; (first | lia | omega)
      have hjj : j * (2 * B + 1) ≤ 7 * 400001 := Nat.mul_le_mul (by (first | lia | omega)) (by (first | lia | omega))
      have e1 : ((p.2 : Int) + (q.2 : Int)).toNat = p.2 + q.2 := by (first | lia | omega)
      have hlen : (fd.map dQ).length ≤ sizeLine := by rw [List.length_map, hj.1]; (first | lia | omega)
      have s1 : SmQ 30000000 (fd.getD (p.2 + q.2) 0) := (getD_SmQ hj.2 (by (first | lia | omega)) _).mono (by (first | lia | omega))
      have s2 : SmQ 30000000 (p.1 * q.1) := ((hsa _ hm.1).mul (hsb _ hq'.1)).mono (by (first | lia | omega))
      refine exs_cons (ExT.post (ex_conv (ex_setO (k := (p.2 : Int) + q.2) (d := dQ (fd.getD (p.2 + q.2) 0 + p.1 * q.1)) (fun _ _ _ => ev_call g (c_radd D s1 s2 (by decide)) (by decide) rfl rfl (evl_cons (ev_itemOX rfl rfl rfl (ev_add (ev_name rfl (.inl rfl) rfl rfl) (ev_name rfl (.inl rfl) rfl rfl)) ⟨hlen, _, pyIdx_of (by (first | lia | omega)) (by rw [List.length_map]; (first | lia | omega)), by rw [e1]; exact dP_get (by (first | lia | omega))⟩ (fun _ _ => ⟨_, rfl⟩)) (evl_cons (ev_call g (c_rmul D (hsa _ hm.1) (hsb _ hq'.1) (by (first | lia | omega))) (by decide) rfl rfl (evl2 (ev_name rfl (.inl rfl) rfl rfl) (ev_name rfl (.inl rfl) rfl rfl) (fun _ => se_Name) (fun _ => se_Name)) se_Name) evl_nil rfl) rfl) rfl) (fun _ _ _ => (ev_add (ev_name rfl (.inl rfl) rfl rfl) (ev_name rfl (.inl rfl) rfl rfl))) rfl rfl (by (first | lia | omega)) (by rw [List.length_map]; (first | lia | omega)) hlen (fun _ _ _ => rfl)) ?_)
          (Γ1 := StoreL ["other", "right"] [.int q.2, dQ q.1] (StoreL ["one", "left"] [.int p.2, dQ p.1] Γ0)) (sub_cons rfl (sub_cons rfl (sub_cons rfl (sub_cons rfl sub_nil))))) exs_nil
      rw [e1, List.map_set]
    · have hq' := mem_zipIdxQ (List.mem_of_getElem? hq)
      refine ⟨by rw [List.length_set]; exact hj.1, ?_⟩
      have h3 := (getD_SmQ hj.2 (by (first | lia | omega)) (p.2 + q.2)).add ((hsa _ hm.1).mul (hsb _ hq'.1))
      have ej : (j + 1) * (2 * B + 1) = j * (2 * B + 1) + (2 * B + 1) := Nat.succ_mul _ _
      rw [ej]
      exact SmP_set (hj.2.mono (by (first | lia | omega))) (h3.mono (by (first | lia | omega)))
  · have hm := mem_zipIdxQ (List.mem_of_getElem? hp)
    refine ⟨by rw [pRow_len]; exact hi.1, ?_⟩
    have ej : (i + 1) * (b.length * (2 * B + 1)) = i * (b.length * (2 * B + 1)) + b.length * (2 * B + 1) := Nat.succ_mul _ _
    rw [ej]
    exact (SmP_pRow (K := 2 * B) (by (first | lia | omega)) (by (first | lia | omega)) hi.2 (fun y hy => ((hsa _ hm.1).mul (hsb _ hy)).mono (by (first | lia | omega)))).mono (by (first | lia | omega))
  · refine exs_freeze (exs_ret ((ex_ret fun _ _ _ => (ev_name rfl (.inl rfl) rfl rfl)).conv' ?_))
    simp [dP, pMul, pMulL, h]
end
end Fco

-- FcV
namespace Fco

section
variable {G : GC}

noncomputable def qdN (b rest : List Rat) : List Rat := pSub rest.dropLast (pRaise (pScale b.dropLast (pLd rest / pLd b)) (rest.length - b.length))
inductive QD (b : List Rat) : List Rat → List Rat → List Rat → List Rat → Prop
  | done {rest found : List Rat} : rest.length ≤ 8 → found.length ≤ 8 → rest.length < b.length → QD b rest found rest found
  | step {rest found r' f' : List Rat} : b.length ≤ rest.length → rest.length ≤ 8 → found.length ≤ 8 → SmP 5000000 rest → rest.length - b.length < found.length → (qdN b rest).length < rest.length →
      QD b (qdN b rest) (found.set (rest.length - b.length) (pLd rest / pLd b)) r' f' → QD b rest found r' f'
theorem SmP_dropLast {k : Nat} {l : List Rat} (h : SmP k l) : SmP k l.dropLast := fun x hx => h x (List.dropLast_subset _ hx)

theorem c_qdivmod (D : G.Gd) {a b r q : List Rat} (ha : a.length ≤ 8) (hb0 : b ≠ []) (hb : b.length ≤ 8) (sb : SmP 5000000 b) (zb : pLd b ≠ 0) (h : QD b a (List.replicate (a.length - b.length + 1 - (if b.length ≤ a.length then 0 else 1)) 0) r q) :
    CallOk G 6 "qdivmod" [dP a, dP b] (.tuple [dP (pT q), dP r]) := by
  have g := D.g
  have hf : sizeLine = 2 ^ 24 := rfl
  have ha' : (a.map dQ).length ≤ sizeLine := by first | exact mapS ‹_› | exact map8 ‹_› | exact map8 (Nat.le_trans ‹_› ‹_›) | (simp; (first | lia | omega))
  have hb' : (b.map dQ).length ≤ sizeLine := by first | exact mapS ‹_› | exact map8 ‹_› | exact map8 (Nat.le_trans ‹_› ‹_›) | (simp; (first | lia | omega))
  have hb1 : 0 < b.length := List.length_pos_iff.mpr hb0
  let Γ0 : List Rat → Gam := fun rest => [("rest", dP rest), ("b", dP b)]
  let O0 : List Rat → Own := fun fd => [("found", (false, fd.map dQ))]
  have main : ∀ rest found r q, QD b rest found r q → q.length ≤ 8 ∧ WhC G false 5 (dk 24).name (dk 24).scope (whT (stAt 24 2)) (whB (stAt 24 2)) (Γ0 rest) (O0 found) (.next (Γ0 r) (O0 q)) := by
    intro rest found r q h
    induction h with
    | @done rest found l1 l2 l3 =>
      refine ⟨l2, wh_done fun _ _ _ => TeE.conv (te_cmp (ev_fn g (by decide) boot_len (by decide) rfl rfl (evl1 (ev_name rfl (.inl rfl) rfl rfl) (fun _ => se_Name)) se_Name (fun _ => rfl) (c_len ?_ (.inl rfl))) (ev_fn g (by decide) boot_len (by decide) rfl rfl (evl1 (ev_name rfl (.inl rfl) rfl rfl) (fun _ => se_Name)) se_Name (fun _ => rfl) (c_len ?_ (.inl rfl))) cmp_ge rfl) ?_⟩
      · simp; (first | lia | omega)
      · exact hb'
      · simp; (first | lia | omega)
    | @step rest found r' f' l1 l2 l3 s1 l4 l5 _ ih =>
      have hr' : (rest.map dQ).length ≤ sizeLine := by first | exact mapS ‹_› | exact map8 ‹_› | exact map8 (Nat.le_trans ‹_› ‹_›) | (simp; (first | lia | omega))
      have hrp : 0 < (rest.map dQ).length := by rw [List.length_map]; (first | lia | omega)
      have hbp : 0 < (b.map dQ).length := by rw [List.length_map]; (first | lia | omega)
      have hrg : (rest.map dQ)[(rest.map dQ).length - 1]? = some (dQ (pLd rest)) := by rw [List.length_map]; exact dP_get (by (first | lia | omega))
      have hbg : (b.map dQ)[(b.map dQ).length - 1]? = some (dQ (pLd b)) := by rw [List.length_map]; exact dP_get (by (first | lia | omega))
      have sl : SmQ 5000000 (pLd rest) := getD_SmQ s1 (by decide) _
      have slb : SmQ 5000000 (pLd b) := getD_SmQ sb (by decide) _
      have sn : SmQ 10000000 (pLd rest / pLd b) := SmQ.mono (sl.div slb zb) (by decide)
      have e1 : (((rest.length - b.length : Nat) : Int)).toNat = rest.length - b.length := by (first | lia | omega)
      refine ⟨ih.1, wh_step (fun _ _ _ => TeE.conv (te_cmp (ev_fn g (by decide) boot_len (by decide) rfl rfl (evl1 (ev_name rfl (.inl rfl) rfl rfl) (fun _ => se_Name)) se_Name (fun _ => rfl) (c_len ?_ (.inl rfl))) (ev_fn g (by decide) boot_len (by decide) rfl rfl (evl1 (ev_name rfl (.inl rfl) rfl rfl) (fun _ => se_Name)) se_Name (fun _ => rfl) (c_len ?_ (.inl rfl))) cmp_ge rfl) ?_) ?_ ih.2⟩
      · exact hr'
      · exact hb'
      · simp; (first | lia | omega)
      refine exs_cons ((ex_assignS (xs := ["number", "power"]) (ds := [dQ (pLd rest / pLd b), .int ((rest.length - b.length : Nat) : Int)]) (fun _ _ _ => EvE.conv (ev_tuple (evl2 (ev_call g (c_rdiv D sl slb zb (by decide)) (by decide) rfl rfl (evl2 (ev_itemX (.inl rfl) (ev_name rfl (.inl rfl) rfl rfl) (ev_neg ev_int) ?_ (fun _ _ => ⟨_, rfl⟩)) (ev_itemX (.inl rfl) (ev_name rfl (.inl rfl) rfl rfl) (ev_neg ev_int) ?_ (fun _ _ => ⟨_, rfl⟩)) (fun _ => se_Subscript) (fun _ => se_Subscript)) se_Subscript) (ev_sub (ev_fn g (by decide) boot_len (by decide) rfl rfl (evl1 (ev_name rfl (.inl rfl) rfl rfl) (fun _ => se_Name)) se_Name (fun _ => rfl) (c_len ?_ (.inl rfl))) (ev_fn g (by decide) boot_len (by decide) rfl rfl (evl1 (ev_name rfl (.inl rfl) rfl rfl) (fun _ => se_Name)) se_Name (fun _ => rfl) (c_len ?_ (.inl rfl)))) (fun _ => se_Call) (fun _ => se_BinOp)) (Nat.le_of_ble_eq_true rfl)) ?_) (all2 ⟨.inl rfl, rfl⟩ ⟨.inl rfl, rfl⟩) rfl (fun _ _ _ => rfl) (fun _ _ _ => rfl)).post (Γ2 := ("number", dQ (pLd rest / pLd b)) :: ("power", .int ((rest.length - b.length : Nat) : Int)) :: Γ0 rest)
        (sub_cons rfl (sub_cons rfl (sub_cons rfl (sub_cons rfl sub_nil))))) ?_
      · exact ⟨hr', _, pyIdx_last hrp, hrg⟩
      · exact ⟨hb', _, pyIdx_last hbp, hbg⟩
      · exact hr'
      · exact hb'
      · simp; (first | lia | omega)
      refine exs_cons (ex_conv (ex_setO (fun _ _ _ => (ev_name rfl (.inl rfl) rfl rfl)) (fun _ _ _ => (ev_name rfl (.inl rfl) rfl rfl)) rfl rfl (by (first | lia | omega)) (by rw [List.length_map]; (first | lia | omega)) (by rw [List.length_map]; (first | lia | omega)) (fun _ _ _ => rfl)) (out' := .next (("number", dQ (pLd rest / pLd b)) :: ("power", .int ((rest.length - b.length : Nat) : Int)) :: Γ0 rest) (O0 (found.set (rest.length - b.length) (pLd rest / pLd b)))) ?_) ?_
      · show Out.next _ [("found", (false, (found.map dQ).set _ _))] = Out.next _ [("found", (false, (found.set _ _).map dQ))]
        rw [e1, List.map_set]
      have d1 : rest.dropLast.length ≤ 8 := by rw [List.length_dropLast]; (first | lia | omega)
      have d2 : b.dropLast.length ≤ 8 := by rw [List.length_dropLast]; (first | lia | omega)
      have p1 := pScale_len b.dropLast (pLd rest / pLd b)
      have p2 := pRaise_len (pScale b.dropLast (pLd rest / pLd b)) (rest.length - b.length)
      have w1 : SmP 15000000 (pScale b.dropLast (pLd rest / pLd b)) := SmP.mono (SmP_pScale (SmP_dropLast sb) sn) (by decide)
      have w2 : SmP 15000000 (pRaise (pScale b.dropLast (pLd rest / pLd b)) (rest.length - b.length)) := SmP_pRaise w1 (by decide)
      refine exs_cons (ex_assign (fun _ _ _ => (ev_call g (c_qsub D (a := rest.dropLast) (b := pRaise (pScale b.dropLast (pLd rest / pLd b)) (rest.length - b.length)) (by (first | lia | omega)) (by (first | lia | omega)) ((SmP_dropLast s1).mono (by decide)) w2 (by decide) (by decide)) (by decide) rfl rfl (evl2 (EvE.conv (d' := dP rest.dropLast) (ev_slice (ev_name rfl (.inl rfl) rfl rfl) evp_none (evp_some (ev_neg ev_int)) evp_none ?_ (by decide)) (by first | (rw [pick_take _ (by decide)]; rfl) | (rw [pick_drop1 _ (by decide)]; rfl) | (rw [pick_init, ← List.map_dropLast]; rfl) | rfl)) (ev_call g (c_qraise D (by (first | lia | omega)) (by (first | lia | omega))) (by decide) rfl rfl (evl2 (ev_call g (c_qscale D (by (first | lia | omega)) ((SmP_dropLast sb).mono (by decide)) sn (by decide)) (by decide) rfl rfl (evl2 (EvE.conv (d' := dP b.dropLast) (ev_slice (ev_name rfl (.inl rfl) rfl rfl) evp_none (evp_some (ev_neg ev_int)) evp_none ?_ (by decide)) (by first | (rw [pick_take _ (by decide)]; rfl) | (rw [pick_drop1 _ (by decide)]; rfl) | (rw [pick_init, ← List.map_dropLast]; rfl) | rfl)) (ev_name rfl (.inl rfl) rfl rfl) (fun _ => se_Subscript) (fun _ => se_Name)) se_Subscript) (ev_name rfl (.inl rfl) rfl rfl) (fun _ => se_Call) (fun _ => se_Name)) se_Call) (fun _ => se_Subscript) (fun _ => se_Call)) se_Subscript)) (by decide) rfl (fun _ _ _ => rfl)) ?_
      · exact hr'
      · exact hb'
      exact exs_cons ((ex_assign (fun _ _ _ => (ev_name rfl (.inl rfl) rfl rfl)) (by decide) rfl (fun _ _ _ => rfl)).post (sub_cons rfl (sub_cons rfl sub_nil))) exs_nil
  obtain ⟨hq8, hw⟩ := main _ _ _ _ h
  refine call_of g (d := dk 24) (xs := ["a", "b"]) (fx := false) (D.df _ (by decide)) (ScOk.of rfl) rfl (by decide) (bind2 fun _ _ _ _ _ => rfl) ?_
  refine exs_if (c := false) (fun _ _ _ => TeE.conv (te_cmp (ev_fn g (by decide) boot_len (by decide) rfl rfl (evl1 (ev_name rfl (.inl rfl) rfl rfl) (fun _ => se_Name)) se_Name (fun _ => rfl) (c_len ?_ (.inl rfl))) ev_int cmp_eq rfl) ?_) (fun h => nomatch h) (fun _ => .inl ⟨exs_nil, ?_⟩)
  · exact hb'
  · simpa using hb0
  have hk8 : a.length - b.length + 1 - (if b.length ≤ a.length then 0 else 1) ≤ 8 := by split <;> (first | lia | omega)
  have em : max (0 : Int) ((a.length : Int) - (b.length : Int) + 1) = ((a.length - b.length + 1 - (if b.length ≤ a.length then 0 else 1) : Nat) : Int) := by split <;> (first | lia | omega)
  generalize a.length - b.length + 1 - (if b.length ≤ a.length then 0 else 1) = kk at hk8 em h hw
  refine exs_cons (ExT.post (ex_conv (ex_assignS2F (x := "rest") (y := "found") (fun _ _ _ => (ev_ty g (by decide) boot_list (by decide) rfl rfl (evl1 (ev_name rfl (.inl rfl) rfl rfl) (fun _ => se_Name)) se_Name (fun _ => rfl) (c_listcopy ?_ (.inl rfl)))) (fun _ _ _ => evf_rep (k := (kk : Nat)) (d := dQ 0) (ev_global g g.r0 rfl rfl) (EvE.conv (ev_fn g (by decide) boot_max (by decide) rfl rfl (evl2 ev_int (ev_add (ev_sub (ev_fn g (by decide) boot_len (by decide) rfl rfl (evl1 (ev_name rfl (.inl rfl) rfl rfl) (fun _ => se_Name)) se_Name (fun _ => rfl) (c_len ?_ (.inl rfl))) (ev_fn g (by decide) boot_len (by decide) rfl rfl (evl1 (ev_name rfl (.inl rfl) rfl rfl) (fun _ => se_Name)) se_Name (fun _ => rfl) (c_len ?_ (.inl rfl)))) ev_int) (fun _ => se_Constant) (fun _ => se_BinOp)) se_Constant (fun _ => rfl) c_max) ?_) rfl ?_ ?_) (.inl rfl) (.inl rfl) rfl (by decide) (fun _ _ _ => rfl) (fun _ _ _ => rfl) (fun _ _ _ => rfl) (fun _ _ _ => rfl)) ?_) (Γ1 := ("rest", dP a) :: [("b", dP b), ("a", dP a)]) (Γ2 := Γ0 a) (O1 := O0 (List.replicate kk 0)) (sub_cons rfl (sub_cons rfl sub_nil))) ?_
  · exact ha'
  · exact ha'
  · exact hb'
  · rw [← em]; simp
  · (first | lia | omega)
  · (first | lia | omega)
  · show Out.next _ [("found", (false, List.replicate ((kk : Nat) : Int).toNat (dQ 0)))] = Out.next _ [("found", (false, (List.replicate kk (0 : Rat)).map dQ))]
    simp; rfl
  refine exs_cons (ex_while hw) (exs_freeze (exs_ret (ex_ret fun _ _ _ => (ev_tuple (evl2 (ev_call g (c_qtrim D (l := q) (by (first | lia | omega))) (by decide) rfl rfl (evl1 (ev_name rfl (.inl rfl) rfl rfl) (fun _ => se_Name)) se_Name) (ev_name rfl (.inl rfl) rfl rfl) (fun _ => se_Call) (fun _ => se_Name)) (Nat.le_of_ble_eq_true rfl)))))
end
end Fco

-- FcW
namespace Fco

section
variable {G : GC}

noncomputable def pMonic (l : List Rat) : List Rat := if l = [] then [] else pScale l (pLd l)⁻¹
inductive QG : List Rat → List Rat → List Rat → Prop
  | done {a : List Rat} : a.length ≤ 8 → SmP 5000000 a → (a ≠ [] → pLd a ≠ 0) → QG a [] (pMonic a)
  | step {a b q rem r : List Rat} : b ≠ [] → a.length ≤ 8 → b.length ≤ 8 → SmP 5000000 b → pLd b ≠ 0 → QD b a (List.replicate (a.length - b.length + 1 - (if b.length ≤ a.length then 0 else 1)) 0) rem q → rem.length ≤ 8 → SmP 5000000 rem → (rem ≠ [] → pLd rem ≠ 0) →
      (pMonic rem).length < b.length → QG b (pMonic rem) r → QG a b r
theorem QG.len {a b r : List Rat} (h : QG a b r) : a.length ≤ 8 ∧ b.length ≤ 8 := by
  cases h with
  | done h1 h2 h3 => exact ⟨h1, Nat.zero_le _⟩
  | step h1 h2 h3 => exact ⟨h2, h3⟩

theorem c_qgcd (D : G.Gd) {a b r : List Rat} (h : QG a b r) : CallOk G 7 "qgcd" [dP a, dP b] (dP r) := by
  have g := D.g
  have hf : sizeLine = 2 ^ 24 := rfl
  let Γ0 : List Rat → List Rat → Gam := fun a b => [("a", dP a), ("b", dP b)]
  have main : ∀ a b r, QG a b r → ∃ c, c.length ≤ 8 ∧ SmP 5000000 c ∧ (c ≠ [] → pLd c ≠ 0) ∧ pMonic c = r ∧ WhC G true 6 (dk 26).name (dk 26).scope (whT (stAt 26 0)) (whB (stAt 26 0)) (Γ0 a b) [] (.next (Γ0 c []) []) := by
    intro a b r h
    induction h with
    | @done a l1 s1 z1 =>
      refine ⟨a, l1, s1, z1, rfl, wh_done fun _ _ _ => TeE.conv (te_cmp (ev_fn g (by decide) boot_len (by decide) rfl rfl (evl1 (ev_name rfl (.inl rfl) rfl rfl) (fun _ => se_Name)) se_Name (fun _ => rfl) (c_len ?_ (.inl rfl))) ev_int cmp_gt rfl) ?_⟩
      · simp
      · simp
    | @step a b q rem r h1 h2 h3 h4 h5 h6 h7 h8 h9 h10 _ ih =>
      obtain ⟨c, c1, c2, c3, c4, c5⟩ := ih
      have hb' : (b.map dQ).length ≤ sizeLine := by first | exact mapS ‹_› | exact map8 ‹_› | exact map8 (Nat.le_trans ‹_› ‹_›) | (simp; (first | lia | omega))
      have hb1 : 0 < b.length := List.length_pos_iff.mpr h1
      refine ⟨c, c1, c2, c3, c4, wh_step (fun _ _ _ => TeE.conv (te_cmp (ev_fn g (by decide) boot_len (by decide) rfl rfl (evl1 (ev_name rfl (.inl rfl) rfl rfl) (fun _ => se_Name)) se_Name (fun _ => rfl) (c_len ?_ (.inl rfl))) ev_int cmp_gt rfl) ?_) ?_ c5⟩
      · exact hb'
      · simp; (first | lia | omega)
      exact exs_cons ((ex_assignS (xs := ["a", "b"]) (fun _ _ _ => (ev_tuple (evl2 (ev_name rfl (.inl rfl) rfl rfl) (ev_call g (c_qmonic D (by (first | lia | omega)) h8 h9 (by decide) (by decide)) (by decide) rfl rfl (evl1 (ev_item (j := 1) (.inr rfl) (ev_call g (c_qdivmod D h2 h1 h3 h4 h5 h6) (by decide) rfl rfl (evl2 (ev_name rfl (.inl rfl) rfl rfl) (ev_name rfl (.inl rfl) rfl rfl) (fun _ => se_Name) (fun _ => se_Name)) se_Name) ev_int (Nat.le_of_ble_eq_true rfl) rfl rfl (fun _ _ => ⟨_, rfl⟩)) (fun _ => se_Subscript)) se_Subscript) (fun _ => se_Name) (fun _ => se_Call)) (Nat.le_of_ble_eq_true rfl))) (all2 ⟨.inl rfl, rfl⟩ ⟨.inl rfl, rfl⟩) rfl (fun _ _ _ => rfl) (fun _ _ _ => rfl)).post (sub_cons rfl (sub_cons rfl sub_nil))) exs_nil
  obtain ⟨c, c1, c2, c3, c4, c5⟩ := main _ _ _ h
  refine call_of g (d := dk 26) (xs := ["a", "b"]) (fx := true) (D.df _ (by decide)) (ScOk.of rfl) rfl (by decide) (bind2 fun _ _ _ _ _ => rfl) ?_
  refine ExT.pre (Γ1 := Γ0 a b) ?_ (sub_cons rfl (sub_cons rfl sub_nil))
  refine exs_cons (ex_while c5) (exs_ret ((ex_ret fun _ _ _ => (ev_call g (c_qmonic D (l := c) (by (first | lia | omega)) c2 c3 (by decide) (by decide)) (by decide) rfl rfl (evl1 (ev_name rfl (.inl rfl) rfl rfl) (fun _ => se_Name)) se_Name)).conv' ?_))
  rw [← c4]; rfl

noncomputable def dF (t b : List Rat) : PyData := .tuple [dP t, dP b]
theorem eqvAll_Q : ∀ l m : List Rat, PyData.eqvAll (l.map dQ) (m.map dQ) = decide (l = m)
  | [], [] => by simp [PyData.eqvAll]
  | [], _ :: _ => by simp [PyData.eqvAll]
  | _ :: _, [] => by simp [PyData.eqvAll]
  | x :: l, y :: m => by
    have e : PyData.eqv (dQ x) (dQ y) = decide (x = y) := by
      simp only [dQ, dR, PyData.eqv, PyData.eqvAll, Bool.and_true]
      rw [Bool.eq_iff_iff]
      simp only [Bool.and_eq_true, beq_iff_eq, decide_eq_true_eq]
      constructor
      · intro ⟨h1, h2⟩; exact Rat.ext h1 (by (first | lia | omega))
      · intro h; subst h; exact ⟨rfl, rfl⟩
    simp only [List.map_cons, PyData.eqvAll, e, eqvAll_Q l m, List.cons.injEq, Bool.decide_and]
theorem eqv_dQ (x y : Rat) : PyData.eqv (dQ x) (dQ y) = decide (x = y) := by
  have := eqvAll_Q [x] [y]
  simpa [PyData.eqvAll] using this
theorem eqv_dP (l m : List Rat) : PyData.eqv (dP l) (dP m) = decide (l = m) := by simp only [dP, PyData.eqv]; exact eqvAll_Q l m
theorem lay_dQ (x : Rat) : PyData.canLay0 (dQ x) = true := by simp [dQ, dR, PyData.canLay0, PyData.canLayAll0]
theorem lay_dP : ∀ l : List Rat, PyData.canLayAll0 (l.map dQ) = true
  | [] => by simp [PyData.canLayAll0]
  | x :: l => by simp [PyData.canLayAll0, lay_dQ x, lay_dP l]
theorem depth_dQ (x : Rat) : PyData.depth (dQ x) ≤ 3 := by simp [dQ, dR, PyData.depth, PyData.depthAll]
theorem depth_dP : ∀ l : List Rat, PyData.depthAll (l.map dQ) ≤ 3
  | [] => by simp [PyData.depthAll]
  | x :: l => by have := depth_dP l; have := depth_dQ x; simp [PyData.depthAll]; (first | lia | omega)
theorem shaped_dQ (x : Rat) : SeqAt.shaped (dQ x) = true := by
  have := depth_dQ x
  unfold SeqAt.shaped
  simp only [lay_dQ, Bool.true_and, decide_eq_true_eq]; (first | lia | omega)
theorem shaped_dP (l : List Rat) : SeqAt.shaped (dP l) = true := by
  have := depth_dP l
  unfold SeqAt.shaped
  simp only [dP, PyData.canLay0, lay_dP, PyData.depth, Bool.true_and, decide_eq_true_eq]; (first | lia | omega)
theorem eqv_dF (t b t' b' : List Rat) : PyData.eqv (dF t b) (dF t' b') = (decide (t = t') && decide (b = b')) := by
  simp only [dF, PyData.eqv, PyData.eqvAll, Bool.and_true]
  rw [eqv_dP, eqv_dP]
theorem shaped_dF (t b : List Rat) : SeqAt.shaped (dF t b) = true := by
  have h1 := depth_dP t
  have h2 := depth_dP b
  unfold SeqAt.shaped
  simp only [dF, dP, PyData.canLay0, PyData.canLayAll0, lay_dP, PyData.depth, PyData.depthAll, Bool.true_and, Bool.and_self, decide_eq_true_eq]
  (first | lia | omega)

theorem c_fmake0 (D : G.Gd) {b : List Rat} (hb : b ≠ []) : CallOk G 8 "fmake" [dP [], dP b] (dF [] [1]) := by
  have g := D.g
  refine call_of g (d := dk 30) (xs := ["top", "bottom"]) (fx := true) (D.df _ (by decide)) (ScOk.of rfl) rfl (by decide) (bind2 fun _ _ _ _ _ => rfl) ?_
  refine exs_if (c := false) (fun _ _ _ => TeE.conv (te_cmp (ev_name rfl (.inl rfl) rfl rfl) (ev_list evl_nil (Nat.le_of_ble_eq_true rfl)) (cmp_data_eq ?_ ?_) rfl) ?_) (fun h => nomatch h) (fun _ => .inl ⟨exs_nil, ?_⟩)
  · exact shaped_dP b
  · rfl
  · rw [show PyData.list [] = dP [] from rfl, eqv_dP]; simpa using hb
  refine exs_if (Γ1 := []) (O1 := []) (c := true) (fun _ _ _ => TeE.conv (te_cmp (ev_name rfl (.inl rfl) rfl rfl) (ev_list evl_nil (Nat.le_of_ble_eq_true rfl)) (cmp_data_eq ?_ ?_) rfl) ?_) (fun _ => .inr ⟨_, rfl, exs_ret (ex_ret fun _ _ _ => (ev_global g g.f0 rfl rfl))⟩) (fun h => nomatch h)
  · rfl
  · rfl
  · rfl
theorem c_fmake (D : G.Gd) {t b : List Rat} (ht : t ≠ []) (hb : b ≠ []) (zb : pLd b ≠ 0) (st : SmP 5000000 t) (sb : SmP 5000000 b) (h : QG t b [1]) : CallOk G 8 "fmake" [dP t, dP b] (dF (pScale t (pLd b)⁻¹) (pScale b (pLd b)⁻¹)) := by
  have g := D.g
  have hl := h.len
  have sl : SmQ 5000000 (pLd b)⁻¹ := (getD_SmQ sb (by decide) _).inv zb
  refine call_of g (d := dk 30) (xs := ["top", "bottom"]) (fx := true) (D.df _ (by decide)) (ScOk.of rfl) rfl (by decide) (bind2 fun _ _ _ _ _ => rfl) ?_
  refine exs_if (c := false) (fun _ _ _ => TeE.conv (te_cmp (ev_name rfl (.inl rfl) rfl rfl) (ev_list evl_nil (Nat.le_of_ble_eq_true rfl)) (cmp_data_eq ?_ ?_) rfl) ?_) (fun h => nomatch h) (fun _ => .inl ⟨exs_nil, ?_⟩)
  · exact shaped_dP b
  · rfl
  · rw [show PyData.list [] = dP [] from rfl, eqv_dP]; simpa using hb
  refine exs_if (c := false) (fun _ _ _ => TeE.conv (te_cmp (ev_name rfl (.inl rfl) rfl rfl) (ev_list evl_nil (Nat.le_of_ble_eq_true rfl)) (cmp_data_eq ?_ ?_) rfl) ?_) (fun h => nomatch h) (fun _ => .inl ⟨exs_nil, ?_⟩)
  · exact shaped_dP t
  · rfl
  · rw [show PyData.list [] = dP [] from rfl, eqv_dP]; simpa using ht
  refine exs_cons (ex_assign (fun _ _ _ => (ev_call g (c_qgcd D h) (by decide) rfl rfl (evl2 (ev_name rfl (.inl rfl) rfl rfl) (ev_name rfl (.inl rfl) rfl rfl) (fun _ => se_Name) (fun _ => se_Name)) se_Name)) (by decide) rfl (fun _ _ _ => rfl)) ?_
  refine exs_if (c := false) (fun _ _ _ => TeE.conv (te_cmp (ev_call g (c_qdegree D (l := [1]) (by decide)) (by decide) rfl rfl (evl1 (ev_name rfl (.inl rfl) rfl rfl) (fun _ => se_Name)) se_Name) ev_int cmp_gt rfl) rfl) (fun h => nomatch h) (fun _ => .inl ⟨exs_nil, ?_⟩)
  have hs : sizeLine = 2 ^ 24 := rfl
  exact exs_cons (ex_assign (fun _ _ _ => (ev_call g (c_rinv D zb) (by decide) rfl rfl (evl1 (ev_call g (c_qlead D (l := b) (by (first | lia | omega))) (by decide) rfl rfl (evl1 (ev_name rfl (.inl rfl) rfl rfl) (fun _ => se_Name)) se_Name) (fun _ => se_Call)) se_Call)) (by decide) rfl (fun _ _ _ => rfl)) (exs_ret (ex_ret fun _ _ _ => (ev_tuple (evl2 (ev_call g (c_qscale D (l := t) (by (first | lia | omega)) st sl (by decide)) (by decide) rfl rfl (evl2 (ev_name rfl (.inl rfl) rfl rfl) (ev_name rfl (.inl rfl) rfl rfl) (fun _ => se_Name) (fun _ => se_Name)) se_Name) (ev_call g (c_qscale D (l := b) (by (first | lia | omega)) sb sl (by decide)) (by decide) rfl rfl (evl2 (ev_name rfl (.inl rfl) rfl rfl) (ev_name rfl (.inl rfl) rfl rfl) (fun _ => se_Name) (fun _ => se_Name)) se_Name) (fun _ => se_Call) (fun _ => se_Call)) (Nat.le_of_ble_eq_true rfl))))

theorem c_fnumber (D : G.Gd) {x : Rat} : CallOk G 1 "fnumber" [dQ x] (dF (if x = 0 then [] else [x]) [1]) := by
  have g := D.g
  refine call_of g (d := dk 31) (xs := ["r"]) (fx := true) (D.df _ (by decide)) (ScOk.of rfl) rfl (by decide) (bind1 fun _ _ _ _ => rfl) ?_
  refine exs_ret (ex_ret fun _ _ _ => ev_tuple (evl_cons (ev_if (d := dP (if x = 0 then [] else [x])) (c := decide (x = 0)) (TeE.conv (te_cmp (ev_name rfl (.inl rfl) rfl rfl) (ev_global g g.r0 rfl rfl) (cmp_data_eq ?_ ?_) rfl) (eqv_dQ x 0)) (fun hc => ?_) (fun hc => ?_)) (evl_cons (ev_list (evl1 (ev_global g g.r1 rfl rfl) (fun _ => se_Name)) (Nat.le_of_ble_eq_true rfl)) evl_nil rfl) rfl) (Nat.le_of_ble_eq_true rfl))
  · exact shaped_dQ x
  · rfl
  · have hc : x = 0 := by simpa using hc
    exact EvE.conv (ev_list evl_nil (Nat.le_of_ble_eq_true rfl)) (by rw [if_pos hc]; rfl)
  · have hc : ¬ x = 0 := by simpa using hc
    exact EvE.conv (ev_list (evl1 (ev_name rfl (.inl rfl) rfl rfl) (fun _ => se_Name)) (Nat.le_of_ble_eq_true rfl)) (by rw [if_neg hc]; rfl)

theorem c_fneg (D : G.Gd) {t b : List Rat} (ht : t.length ≤ 8) (hb : b.length ≤ 8) : CallOk G 3 "fneg" [dF t b] (dF (pNeg t) b) := by
  have g := D.g
  have hf : sizeLine = 2 ^ 24 := rfl
  have hb' : (b.map dQ).length ≤ sizeLine := by first | exact mapS ‹_› | exact map8 ‹_› | exact map8 (Nat.le_trans ‹_› ‹_›) | (simp; (first | lia | omega))
  refine call_of g (d := dk 33) (xs := ["f"]) (fx := true) (D.df _ (by decide)) (ScOk.of rfl) rfl (by decide) (bind1 fun _ _ _ _ => rfl) ?_
  refine exs_ret (ex_ret fun _ _ _ => (ev_tuple (evl2 (ev_call g (c_qneg D (l := t) (by (first | lia | omega))) (by decide) rfl rfl (evl1 (ev_item (j := 0) (.inr rfl) (ev_name rfl (.inl rfl) rfl rfl) ev_int (Nat.le_of_ble_eq_true rfl) rfl rfl (fun _ _ => ⟨_, rfl⟩)) (fun _ => se_Subscript)) se_Subscript) (ev_ty g (by decide) boot_list (by decide) rfl rfl (evl1 (ev_item (j := 1) (.inr rfl) (ev_name rfl (.inl rfl) rfl rfl) ev_int (Nat.le_of_ble_eq_true rfl) rfl rfl (fun _ _ => ⟨_, rfl⟩)) (fun _ => se_Subscript)) se_Subscript (fun _ => rfl) (c_listcopy ?_ (.inl rfl))) (fun _ => se_Call) (fun _ => se_Call)) (Nat.le_of_ble_eq_true rfl)))
  exact hb'
theorem c_fmul (D : G.Gd) {t b t' b' : List Rat} {r : PyData} {B : Nat} (l1 : t.length ≤ 8) (l2 : b.length ≤ 8) (l3 : t'.length ≤ 8) (l4 : b'.length ≤ 8) (s1 : SmP B t) (s2 : SmP B b) (s3 : SmP B t') (s4 : SmP B b') (hB1 : 1 ≤ B) (hB : B ≤ 200000)
    (hm : CallOk G 8 "fmake" [dP (pMul t t'), dP (pMul b b')] r) : CallOk G 9 "fmul" [dF t b, dF t' b'] r := by
  have g := D.g
  refine call_of g (d := dk 34) (xs := ["f", "g"]) (fx := true) (D.df _ (by decide)) (ScOk.of rfl) rfl (by decide) (bind2 fun _ _ _ _ _ => rfl) ?_
  exact exs_ret (ex_ret fun _ _ _ => (ev_call g (hm) (by decide) rfl rfl (evl2 (ev_call g (c_qmul D l1 l3 s1 s3 hB1 hB) (by decide) rfl rfl (evl2 (ev_item (j := 0) (.inr rfl) (ev_name rfl (.inl rfl) rfl rfl) ev_int (Nat.le_of_ble_eq_true rfl) rfl rfl (fun _ _ => ⟨_, rfl⟩)) (ev_item (j := 0) (.inr rfl) (ev_name rfl (.inl rfl) rfl rfl) ev_int (Nat.le_of_ble_eq_true rfl) rfl rfl (fun _ _ => ⟨_, rfl⟩)) (fun _ => se_Subscript) (fun _ => se_Subscript)) se_Subscript) (ev_call g (c_qmul D l2 l4 s2 s4 hB1 hB) (by decide) rfl rfl (evl2 (ev_item (j := 1) (.inr rfl) (ev_name rfl (.inl rfl) rfl rfl) ev_int (Nat.le_of_ble_eq_true rfl) rfl rfl (fun _ _ => ⟨_, rfl⟩)) (ev_item (j := 1) (.inr rfl) (ev_name rfl (.inl rfl) rfl rfl) ev_int (Nat.le_of_ble_eq_true rfl) rfl rfl (fun _ _ => ⟨_, rfl⟩)) (fun _ => se_Subscript) (fun _ => se_Subscript)) se_Subscript) (fun _ => se_Call) (fun _ => se_Call)) se_Call))
theorem c_fdiv (D : G.Gd) {t b t' b' : List Rat} {r : PyData} {B : Nat} (l1 : t.length ≤ 8) (l2 : b.length ≤ 8) (l3 : t'.length ≤ 8) (l4 : b'.length ≤ 8) (s1 : SmP B t) (s2 : SmP B b) (s3 : SmP B t') (s4 : SmP B b') (hB1 : 1 ≤ B) (hB : B ≤ 200000)
    (hm : CallOk G 8 "fmake" [dP (pMul t b'), dP (pMul b t')] r) : CallOk G 9 "fdiv" [dF t b, dF t' b'] r := by
  have g := D.g
  refine call_of g (d := dk 35) (xs := ["f", "g"]) (fx := true) (D.df _ (by decide)) (ScOk.of rfl) rfl (by decide) (bind2 fun _ _ _ _ _ => rfl) ?_
  exact exs_ret (ex_ret fun _ _ _ => (ev_call g (hm) (by decide) rfl rfl (evl2 (ev_call g (c_qmul D l1 l4 s1 s4 hB1 hB) (by decide) rfl rfl (evl2 (ev_item (j := 0) (.inr rfl) (ev_name rfl (.inl rfl) rfl rfl) ev_int (Nat.le_of_ble_eq_true rfl) rfl rfl (fun _ _ => ⟨_, rfl⟩)) (ev_item (j := 1) (.inr rfl) (ev_name rfl (.inl rfl) rfl rfl) ev_int (Nat.le_of_ble_eq_true rfl) rfl rfl (fun _ _ => ⟨_, rfl⟩)) (fun _ => se_Subscript) (fun _ => se_Subscript)) se_Subscript) (ev_call g (c_qmul D l2 l3 s2 s3 hB1 hB) (by decide) rfl rfl (evl2 (ev_item (j := 1) (.inr rfl) (ev_name rfl (.inl rfl) rfl rfl) ev_int (Nat.le_of_ble_eq_true rfl) rfl rfl (fun _ _ => ⟨_, rfl⟩)) (ev_item (j := 0) (.inr rfl) (ev_name rfl (.inl rfl) rfl rfl) ev_int (Nat.le_of_ble_eq_true rfl) rfl rfl (fun _ _ => ⟨_, rfl⟩)) (fun _ => se_Subscript) (fun _ => se_Subscript)) se_Subscript) (fun _ => se_Call) (fun _ => se_Call)) se_Call))
theorem c_fadd (D : G.Gd) {t b t' b' : List Rat} {r : PyData} {B : Nat} (l1 : t.length ≤ 8) (l2 : b.length ≤ 8) (l3 : t'.length ≤ 8) (l4 : b'.length ≤ 8) (s1 : SmP B t) (s2 : SmP B b) (s3 : SmP B t') (s4 : SmP B b') (hB1 : 1 ≤ B) (hB : B ≤ 100000)
    (hm : CallOk G 8 "fmake" [dP (pAdd (pMul t b') (pMul t' b)), dP (pMul b b')] r) : CallOk G 9 "fadd" [dF t b, dF t' b'] r := by
  have g := D.g
  have q1 := SmP_pMul s1 s4 hB1
  have q2 := SmP_pMul s3 s2 hB1
  have n1 := pMul_le t b'
  have n2 := pMul_le t' b
  have e1 : t.length * (b'.length * (B + B + 1)) ≤ 8 * (8 * 200001) := Nat.mul_le_mul l1 (Nat.mul_le_mul l4 (by (first | lia | omega)))
  have e2 : t'.length * (b.length * (B + B + 1)) ≤ 8 * (8 * 200001) := Nat.mul_le_mul l3 (Nat.mul_le_mul l2 (by (first | lia | omega)))
  have q1' : SmP (1 + t.length * (b'.length * (B + B + 1)) + t'.length * (b.length * (B + B + 1))) (pMul t b') := q1.mono (by (first | lia | omega))
  have q2' : SmP (1 + t.length * (b'.length * (B + B + 1)) + t'.length * (b.length * (B + B + 1))) (pMul t' b) := q2.mono (by (first | lia | omega))
  refine call_of g (d := dk 32) (xs := ["f", "g"]) (fx := true) (D.df _ (by decide)) (ScOk.of rfl) rfl (by decide) (bind2 fun _ _ _ _ _ => rfl) ?_
  exact exs_ret (ex_ret fun _ _ _ => (ev_call g (hm) (by decide) rfl rfl (evl2 (ev_call g (c_qadd D (a := pMul t b') (b := pMul t' b) (by (first | lia | omega)) (by (first | lia | omega)) q1' q2' (by (first | lia | omega)) (by (first | lia | omega))) (by decide) rfl rfl (evl2 (ev_call g (c_qmul D l1 l4 s1 s4 hB1 (by (first | lia | omega))) (by decide) rfl rfl (evl2 (ev_item (j := 0) (.inr rfl) (ev_name rfl (.inl rfl) rfl rfl) ev_int (Nat.le_of_ble_eq_true rfl) rfl rfl (fun _ _ => ⟨_, rfl⟩)) (ev_item (j := 1) (.inr rfl) (ev_name rfl (.inl rfl) rfl rfl) ev_int (Nat.le_of_ble_eq_true rfl) rfl rfl (fun _ _ => ⟨_, rfl⟩)) (fun _ => se_Subscript) (fun _ => se_Subscript)) se_Subscript) (ev_call g (c_qmul D l3 l2 s3 s2 hB1 (by (first | lia | omega))) (by decide) rfl rfl (evl2 (ev_item (j := 0) (.inr rfl) (ev_name rfl (.inl rfl) rfl rfl) ev_int (Nat.le_of_ble_eq_true rfl) rfl rfl (fun _ _ => ⟨_, rfl⟩)) (ev_item (j := 1) (.inr rfl) (ev_name rfl (.inl rfl) rfl rfl) ev_int (Nat.le_of_ble_eq_true rfl) rfl rfl (fun _ _ => ⟨_, rfl⟩)) (fun _ => se_Subscript) (fun _ => se_Subscript)) se_Subscript) (fun _ => se_Call) (fun _ => se_Call)) se_Call) (ev_call g (c_qmul D l2 l4 s2 s4 hB1 (by (first | lia | omega))) (by decide) rfl rfl (evl2 (ev_item (j := 1) (.inr rfl) (ev_name rfl (.inl rfl) rfl rfl) ev_int (Nat.le_of_ble_eq_true rfl) rfl rfl (fun _ _ => ⟨_, rfl⟩)) (ev_item (j := 1) (.inr rfl) (ev_name rfl (.inl rfl) rfl rfl) ev_int (Nat.le_of_ble_eq_true rfl) rfl rfl (fun _ _ => ⟨_, rfl⟩)) (fun _ => se_Subscript) (fun _ => se_Subscript)) se_Subscript) (fun _ => se_Call) (fun _ => se_Call)) se_Call))
end
end Fco

-- FcX
namespace Fco

section
variable {G : GC}

/-- Horner's steps of fcompose -/
inductive FC (G : GC) (T B : List Rat) : List Rat → List Rat → List Rat → List Rat → List Rat → Prop
  | nil {vt vb : List Rat} : FC G T B [] vt vb vt vb
  | cons {x : Rat} {xs vt vb mt mb at' ab rt rb : List Rat} : CallOk G 9 "fmul" [dF vt vb, dF T B] (dF mt mb) → CallOk G 9 "fadd" [dF mt mb, dF (if x = 0 then [] else [x]) [1]] (dF at' ab) → FC G T B xs at' ab rt rb → FC G T B (x :: xs) vt vb rt rb

theorem pick_rev3 (a b c : PyData) : dPick [a, b, c] none none (some (-1)) = [c, b, a] := by
  have e : sliceRange (sliceBounds none none (some (-1)) 3).1 (sliceBounds none none (some (-1)) 3).2.1 (sliceBounds none none (some (-1)) 3).2.2 = [2, 1, 0] := by decide +kernel
  show List.filterMap ([a, b, c][·]?) (sliceRange (sliceBounds none none (some (-1)) 3).1 (sliceBounds none none (some (-1)) 3).2.1 (sliceBounds none none (some (-1)) 3).2.2) = _
  rw [e]; rfl
theorem pick_rev1 (a : PyData) : dPick [a] none none (some (-1)) = [a] := by
  have e : sliceRange (sliceBounds none none (some (-1)) 1).1 (sliceBounds none none (some (-1)) 1).2.1 (sliceBounds none none (some (-1)) 1).2.2 = [0] := by decide +kernel
  show List.filterMap ([a][·]?) (sliceRange (sliceBounds none none (some (-1)) 1).1 (sliceBounds none none (some (-1)) 1).2.1 (sliceBounds none none (some (-1)) 1).2.2) = _
  rw [e]; rfl
theorem ForC.pre {n : Nat} {nm : Str} {sc : Scope} {t : Expr} {body : List Stmt} {Γ Γ1 : Gam} {O : Own} {rest : List PyData} {out : Out} (hs : ∀ x d, Γ1.lookup x = some d → Γ.lookup x = some d) (h : ForC G n nm sc t body Γ1 O rest out) : ForC G n nm sc t body Γ O rest out :=
  fun A hA L a cd W oa oa0 s it lo wr ds I i ho hil hd J hdis st S R hR => h A hA L a cd W oa oa0 s it lo wr ds I i ho hil hd J hdis st (S.fewer hs) R hR

theorem c_fcompose (D : G.Gd) {T B : List Rat} {x0 x1 x2 : Rat} {vt vb ut ub : List Rat} {r : PyData} (h1 : FC G T B [x2, x1, x0] [] [1] vt vb) (h2 : FC G T B [1] [] [1] ut ub) (hd : CallOk G 9 "fdiv" [dF vt vb, dF ut ub] r) :
    CallOk G 10 "fcompose" [.tuple [dP [x0, x1, x2], dP [1]], dF T B] r := by
  have g := D.g
  have hf : sizeLine = 2 ^ 24 := rfl
  let Γ0 : List Rat → List Rat → Gam := fun vt vb => [("value", dF vt vb), ("g", dF T B)]
  cases h1 with
  | @cons _ _ _ _ e1 f1 a1 b1 _ _ m1 p1 h1 =>
  cases h1 with
  | @cons _ _ _ _ e2 f2 a2 b2 _ _ m2 p2 h1 =>
  cases h1 with
  | @cons _ _ _ _ e3 f3 a3 b3 _ _ m3 p3 h1 =>
  cases h1
  cases h2 with
  | @cons _ _ _ _ e4 f4 c1 d1 _ _ m4 p4 h2 =>
  cases h2
  refine call_of g (d := dk 36) (xs := ["f", "g"]) (fx := false) (D.df _ (by decide)) (ScOk.of rfl) rfl (by decide) (bind2 fun _ _ _ _ _ => rfl) ?_
  refine exs_cons ((ex_assignF (fun _ _ _ => evf_list evl_nil (by decide)) (by decide) rfl (fun _ _ _ => rfl)).post (Γ2 := [("f", .tuple [dP [x0, x1, x2], dP [1]]), ("g", dF T B)]) (sub_cons rfl (sub_cons rfl sub_nil))) ?_
  refine exs_cons (ex_for (fun _ _ _ => src_list (.inr rfl) (ev_name rfl (.inl rfl) rfl rfl) go_name) (for_cons (Γ1 := [("p", dP [x0, x1, x2]), ("f", .tuple [dP [x0, x1, x2], dP [1]]), ("g", dF T B)]) (Γ2 := [("g", dF T B)]) (O2 := [("values", (true, [dF vt vb]))]) (tgt_name (.inl rfl) rfl) ?_ (for_cons (Γ1 := [("p", dP [1]), ("g", dF T B)]) (Γ2 := [("g", dF T B)]) (O2 := [("values", (true, [dF vt vb, dF ut ub]))]) (tgt_name (.inl rfl) rfl) ?_ for_nil))) ?_
  · refine exs_cons ((ex_assign (fun _ _ _ => (ev_global g g.f0 rfl rfl)) (by decide) rfl (fun _ _ _ => rfl)).post (Γ2 := ("p", dP [x0, x1, x2]) :: Γ0 [] [1]) (sub_cons rfl (sub_cons rfl (sub_cons rfl sub_nil)))) ?_
    refine exs_cons (ExT.pre (Γ1 := ("p", dP [x0, x1, x2]) :: Γ0 [] [1]) (ex_for (fun _ _ _ => src_list (ds := [dQ x2, dQ x1, dQ x0]) (.inl rfl) (EvE.conv (ev_slice (ev_name rfl (.inl rfl) rfl rfl) evp_none evp_none (evp_some (ev_neg ev_int)) ?_ (by decide)) ?_) go_name) (ForC.pre (Γ1 := Γ0 [] [1]) (sub_cons rfl (sub_cons rfl sub_nil)) (for_cons (Γ1 := ("r", dQ x2) :: Γ0 [] [1]) (Γ2 := Γ0 a1 b1) (O2 := [("values", (true, []))]) (tgt_name (.inl rfl) rfl) (exs_cons ((ex_assign (fun _ _ _ => (ev_call g (p1) (by decide) rfl rfl (evl2 (ev_call g (m1) (by decide) rfl rfl (evl2 (ev_name rfl (.inl rfl) rfl rfl) (ev_name rfl (.inl rfl) rfl rfl) (fun _ => se_Name) (fun _ => se_Name)) se_Name) (ev_call g (c_fnumber D) (by decide) rfl rfl (evl1 (ev_name rfl (.inl rfl) rfl rfl) (fun _ => se_Name)) se_Name) (fun _ => se_Call) (fun _ => se_Call)) se_Call)) (by decide) rfl (fun _ _ _ => rfl)).post (sub_cons rfl (sub_cons rfl sub_nil))) exs_nil) (for_cons (Γ1 := ("r", dQ x1) :: Γ0 a1 b1) (Γ2 := Γ0 a2 b2) (O2 := [("values", (true, []))]) (tgt_name (.inl rfl) rfl) (exs_cons ((ex_assign (fun _ _ _ => (ev_call g (p2) (by decide) rfl rfl (evl2 (ev_call g (m2) (by decide) rfl rfl (evl2 (ev_name rfl (.inl rfl) rfl rfl) (ev_name rfl (.inl rfl) rfl rfl) (fun _ => se_Name) (fun _ => se_Name)) se_Name) (ev_call g (c_fnumber D) (by decide) rfl rfl (evl1 (ev_name rfl (.inl rfl) rfl rfl) (fun _ => se_Name)) se_Name) (fun _ => se_Call) (fun _ => se_Call)) se_Call)) (by decide) rfl (fun _ _ _ => rfl)).post (sub_cons rfl (sub_cons rfl sub_nil))) exs_nil) (for_cons (Γ1 := ("r", dQ x0) :: Γ0 a2 b2) (Γ2 := Γ0 vt vb) (O2 := [("values", (true, []))]) (tgt_name (.inl rfl) rfl) (exs_cons ((ex_assign (fun _ _ _ => (ev_call g (p3) (by decide) rfl rfl (evl2 (ev_call g (m3) (by decide) rfl rfl (evl2 (ev_name rfl (.inl rfl) rfl rfl) (ev_name rfl (.inl rfl) rfl rfl) (fun _ => se_Name) (fun _ => se_Name)) se_Name) (ev_call g (c_fnumber D) (by decide) rfl rfl (evl1 (ev_name rfl (.inl rfl) rfl rfl) (fun _ => se_Name)) se_Name) (fun _ => se_Call) (fun _ => se_Call)) se_Call)) (by decide) rfl (fun _ _ _ => rfl)).post (sub_cons rfl (sub_cons rfl sub_nil))) exs_nil) for_nil))))) (fun _ _ h => h)) ?_
    · exact Nat.le_of_ble_eq_true rfl
    · exact congrArg PyData.list (pick_rev3 (dQ x0) (dQ x1) (dQ x2))
    exact exs_cons (ExT.post (ex_append (fun _ _ _ => (ev_name rfl (.inl rfl) rfl rfl)) rfl rfl (by decide) (fun _ _ _ => rfl) (fun _ _ _ => rfl) rfl (fun _ _ _ => rfl) (fun _ _ _ => rfl) (fun _ _ _ => rfl)) (sub_cons rfl sub_nil)) exs_nil
  · refine exs_cons ((ex_assign (fun _ _ _ => (ev_global g g.f0 rfl rfl)) (by decide) rfl (fun _ _ _ => rfl)).post (Γ2 := ("p", dP [1]) :: Γ0 [] [1]) (sub_cons rfl (sub_cons rfl (sub_cons rfl sub_nil)))) ?_
    refine exs_cons (ExT.pre (Γ1 := ("p", dP [1]) :: Γ0 [] [1]) (ex_for (fun _ _ _ => src_list (ds := [dQ 1]) (.inl rfl) (EvE.conv (ev_slice (ev_name rfl (.inl rfl) rfl rfl) evp_none evp_none (evp_some (ev_neg ev_int)) ?_ (by decide)) ?_) go_name) (ForC.pre (Γ1 := Γ0 [] [1]) (sub_cons rfl (sub_cons rfl sub_nil)) (for_cons (Γ1 := ("r", dQ 1) :: Γ0 [] [1]) (Γ2 := Γ0 ut ub) (O2 := [("values", (true, [dF vt vb]))]) (tgt_name (.inl rfl) rfl) (exs_cons ((ex_assign (fun _ _ _ => (ev_call g (p4) (by decide) rfl rfl (evl2 (ev_call g (m4) (by decide) rfl rfl (evl2 (ev_name rfl (.inl rfl) rfl rfl) (ev_name rfl (.inl rfl) rfl rfl) (fun _ => se_Name) (fun _ => se_Name)) se_Name) (ev_call g (c_fnumber D) (by decide) rfl rfl (evl1 (ev_name rfl (.inl rfl) rfl rfl) (fun _ => se_Name)) se_Name) (fun _ => se_Call) (fun _ => se_Call)) se_Call)) (by decide) rfl (fun _ _ _ => rfl)).post (sub_cons rfl (sub_cons rfl sub_nil))) exs_nil) for_nil))) (fun _ _ h => h)) ?_
    · exact Nat.le_of_ble_eq_true rfl
    · exact congrArg PyData.list (pick_rev1 (dQ 1))
    exact exs_cons (ExT.post (ex_append (fun _ _ _ => (ev_name rfl (.inl rfl) rfl rfl)) rfl rfl (Nat.le_of_ble_eq_true rfl) (fun _ _ _ => rfl) (fun _ _ _ => rfl) rfl (fun _ _ _ => rfl) (fun _ _ _ => rfl) (fun _ _ _ => rfl)) (sub_cons rfl sub_nil)) exs_nil
  · refine exs_ret (ex_ret fun _ _ _ => ev_call g hd (by decide) rfl rfl (evl_cons (ev_itemOX rfl rfl rfl ev_int ⟨Nat.le_of_ble_eq_true rfl, 0, rfl, rfl⟩ (fun _ _ => ⟨_, rfl⟩)) (evl_cons (ev_itemOX rfl rfl rfl ev_int ⟨Nat.le_of_ble_eq_true rfl, 1, rfl, rfl⟩ (fun _ _ => ⟨_, rfl⟩)) evl_nil rfl) rfl) rfl)
end
end Fco

-- FcY
namespace Fco

section
variable {G : GC}

noncomputable def toP (l : List Int) : List Rat := l.map fun (x : Int) => (x : Rat)
theorem inj_dZ : ∀ x y : List Int, dZ x = dZ y → x = y := fun x y h => by
  have := eqv_dZ x y
  rw [h] at this
  have h2 : PyData.eqv (dZ y) (dZ y) = true := by rw [eqv_dZ]; simp
  rw [h2] at this
  simpa using this.symm
noncomputable def rowsA : List (List Int) := [[0, 1, 1, 0], [1, 0, 1, -1], [-1, 1, 0, 1]]
noncomputable def rowsB : List (List Int) := [[1, 0, 0, 1], [1, -1, 1, 0], [0, 1, -1, 1]]
noncomputable def cnt (rows : List (List Int)) (mv : List Int) : Nat := (rows.filter fun row => decide (mv = row) || decide (mv.map (fun x => 0 - x) = row)).length
noncomputable def staysTop (q p s r : Int) : List Int := zPut [1, -3, 0, 1] 3 q p s r
noncomputable def staysBel (q p s r : Int) : List Int := zMul (zPut [0, -1, 1] 2 q p s r) (zT [s, r])

theorem rows_src {n : Nat} {env : Env} {Γ : Gam} {O : Own} {t e : Expr} {rows : List (List Int)} (he : EvE G n env Γ O e (.tuple (rows.map dZ))) (ht : ∀ (A : Around) (s : Shared) (J : Addr) (l : Addr) (v : Value) (Q : Unit → Shared → Prop), ((∃ i, s.heap.IsListIter J l i) ∨ ∃ i, s.heap.IsTupleIter J l i) → Q () s → wpAny (MM G) A (letOwnedTupleGo t (.ref J) v) Q Ef s) :
    SrcE G n env Γ O t e (rows.map dZ) := src_list (.inr rfl) he ht

theorem filterMap_len (rows : List (List Int)) (mv : List Int) : (rows.filterMap fun row => if (decide (mv = row) || decide (mv.map (fun x => 0 - x) = row)) = true then some (dZ row) else none).length = cnt rows mv := by
  unfold cnt
  induction rows with
  | nil => rfl
  | cons a l ih =>
    rw [List.filterMap_cons, List.filter_cons]
    split
    · rename_i h
      split at h
      · cases h
      · rename_i h2; rw [if_neg h2]; exact ih
    · rename_i b h
      split at h
      · rename_i h2; rw [if_pos h2, List.length_cons, List.length_cons, ih]
      · cases h

set_option maxHeartbeats 4000000 in
theorem c_stays (D : G.Gd) {q p s r : Int} {A B A' B' A2 B2 : List Rat} (sm : SmL 12 [q, p, s, r]) (lb : (staysBel q p s r).length ≤ 1000) (h1 : CallOk G 8 "fmake" [dP (toP (staysTop q p s r)), dP (toP (staysBel q p s r))] (dF A B))
    (h2 : CallOk G 8 "fmake" [dP (toP [1, -3, 0, 1]), dP (toP [0, -1, 1])] (dF A' B')) (h3 : CallOk G 9 "fadd" [dF (if (3 : Rat) = 0 then [] else [3]) [1], dF (pNeg A') B'] (dF A2 B2)) (l1 : A'.length ≤ 8) (l2 : B'.length ≤ 8)
    (lt : (staysTop q p s r).length ≤ 1000) (lp : (zPut [0, -1, 1] 2 q p s r).length ≤ 1000) (sp : SmL 1000 (zPut [0, -1, 1] 2 q p s r)) :
    CallOk G 11 "_law_stays" [dZ [q, p, s, r]] (.bool (((decide (A = A') && decide (B = B')) == decide (cnt rowsA [q, p, s, r] = 1)) && ((decide (A = A2) && decide (B = B2)) == decide (cnt rowsB [q, p, s, r] = 1)))) := by
  have g := D.g
  have hf : sizeLine = 2 ^ 24 := rfl
  have sB : SmL 1000 (zT [s, r]) := SmL.zT fun x hx => (sm x (by
    rcases List.mem_cons.mp hx with h | h
    · rw [h]; simp
    · rw [List.mem_singleton.mp h]; simp)).mono (by decide)
  have lB : (zT [s, r]).length ≤ 2 := zT_le _
  have s1 : SmL 12 [1, -3, 0, 1] := fun x hx => by
    have h : x = 1 ∨ x = -3 ∨ x = 0 ∨ x = 1 := by simpa using hx
    rcases h with h | h | h | h <;> (rw [h]; unfold Sm; decide)
  have s2 : SmL 12 [0, -1, 1] := fun x hx => by
    have h : x = 0 ∨ x = -1 ∨ x = 1 := by simpa using hx
    rcases h with h | h | h <;> (rw [h]; unfold Sm; decide)
  refine call_of g (d := dk 66) (xs := ["move"]) (fx := true) (D.df _ (by decide)) (ScOk.of rfl) rfl (by decide) (bind1 fun _ _ _ _ => rfl) ?_
  refine exs_cons (ex_assign (fun _ _ _ => (ev_call g (c_put D (f := [1, -3, 0, 1]) (many := 3) (by decide) (by decide) s1 sm) (by decide) rfl rfl (evl3 (ev_list (evl_ints (is := [1, -3, 0, 1]) (.pos (.neg (.pos (.pos .nil))))) (Nat.le_of_ble_eq_true rfl)) ev_int (ev_name rfl (.inl rfl) rfl rfl) (fun _ => se_List) (fun _ => se_Constant) (fun _ => se_Name)) se_List)) (by decide) rfl (fun _ _ _ => rfl)) ?_
  refine exs_cons (ex_assign (fun _ _ _ => (ev_call g (c_zmul D lp (by (first | lia | omega)) sp sB (by decide)) (by decide) rfl rfl (evl2 (ev_call g (c_put D (f := [0, -1, 1]) (many := 2) (by decide) (by decide) s2 sm) (by decide) rfl rfl (evl3 (ev_list (evl3 ev_int (ev_neg ev_int) ev_int (fun _ => se_Constant) (fun _ => se_UnaryOp) (fun _ => se_Constant)) (Nat.le_of_ble_eq_true rfl)) ev_int (ev_name rfl (.inl rfl) rfl rfl) (fun _ => se_List) (fun _ => se_Constant) (fun _ => se_Name)) se_List) (ev_call g (c_ztrim D (l := [s, r]) (Nat.le_of_ble_eq_true rfl)) (by decide) rfl rfl (evl1 (EvE.conv (d' := dZ [s, r]) (ev_slice (ev_name rfl (.inl rfl) rfl rfl) (evp_some ev_int) evp_none evp_none ?_ (by decide)) (by first | (rw [pick_take _ (by decide)]; rfl) | (rw [pick_drop1 _ (by decide)]; rfl) | (rw [pick_init, ← List.map_dropLast]; rfl) | rfl)) (fun _ => se_Subscript)) se_Subscript) (fun _ => se_Call) (fun _ => se_Call)) se_Call)) (by decide) rfl (fun _ _ _ => rfl)) ?_
  · exact Nat.le_of_ble_eq_true rfl
  refine exs_cons ((ex_assignS (xs := ["told", "due"]) (fun _ _ _ => (ev_tuple (evl2 (ev_call g (h1) (by decide) rfl rfl (evl2 (ev_call g (c_fromz D (l := staysTop q p s r) lt) (by decide) rfl rfl (evl1 (ev_name rfl (.inl rfl) rfl rfl) (fun _ => se_Name)) se_Name) (ev_call g (c_fromz D (l := staysBel q p s r) lb) (by decide) rfl rfl (evl1 (ev_name rfl (.inl rfl) rfl rfl) (fun _ => se_Name)) se_Name) (fun _ => se_Call) (fun _ => se_Call)) se_Call) (ev_call g (h2) (by decide) rfl rfl (evl2 (ev_call g (c_fromz D (l := [1, -3, 0, 1]) (by decide)) (by decide) rfl rfl (evl1 (ev_list (evl_ints (is := [1, -3, 0, 1]) (.pos (.neg (.pos (.pos .nil))))) (Nat.le_of_ble_eq_true rfl)) (fun _ => se_List)) se_List) (ev_call g (c_fromz D (l := [0, -1, 1]) (by decide)) (by decide) rfl rfl (evl1 (ev_list (evl3 ev_int (ev_neg ev_int) ev_int (fun _ => se_Constant) (fun _ => se_UnaryOp) (fun _ => se_Constant)) (Nat.le_of_ble_eq_true rfl)) (fun _ => se_List)) se_List) (fun _ => se_Call) (fun _ => se_Call)) se_Call) (fun _ => se_Call) (fun _ => se_Call)) (Nat.le_of_ble_eq_true rfl))) (all2 ⟨.inl rfl, rfl⟩ ⟨.inl rfl, rfl⟩) rfl (fun _ _ _ => rfl) (fun _ _ _ => rfl)).post (Γ2 := [("told", dF A B), ("due", dF A' B'), ("move", dZ [q, p, s, r])]) (sub_cons rfl (sub_cons rfl (sub_cons rfl sub_nil)))) ?_
  refine exs_cons (ex_assign (fun _ _ _ => (ev_call g (h3) (by decide) rfl rfl (evl2 (ev_call g (c_fnumber D (x := 3)) (by decide) rfl rfl (evl1 (ev_tuple (evl2 ev_int ev_int (fun _ => se_Constant) (fun _ => se_Constant)) (Nat.le_of_ble_eq_true rfl)) (fun _ => se_Tuple)) se_Tuple) (ev_call g (c_fneg D l1 l2) (by decide) rfl rfl (evl1 (ev_name rfl (.inl rfl) rfl rfl) (fun _ => se_Name)) se_Name) (fun _ => se_Call) (fun _ => se_Call)) se_Call)) (by decide) rfl (fun _ _ _ => rfl)) ?_
  refine exs_cons ((ex_assign (d := .list [dZ [q, p, s, r], dZ ([q, p, s, r].map fun x => 0 - x)]) (fun _ _ _ => (ev_list (evl2 (ev_name rfl (.inl rfl) rfl rfl) ?_ (fun _ => se_Name) (fun _ => se_ListComp)) (Nat.le_of_ble_eq_true rfl))) (by decide) rfl (fun _ _ _ => rfl)).post (Γ2 := [("signed", .list [dZ [q, p, s, r], dZ ([q, p, s, r].map fun x => 0 - x)]), ("turned", dF A2 B2), ("told", dF A B), ("due", dF A' B')]) (sub_cons rfl (sub_cons rfl (sub_cons rfl (sub_cons rfl sub_nil))))) ?_
  · refine EvE.conv (ev_compN inj_int (xs := [q, p, s, r]) (f := fun x => some (.int (0 - x))) (Γf := []) rfl rfl rfl (src_list (.inl rfl) (ev_name rfl (.inl rfl) rfl rfl) go_name) (by simp [sizeLine]) (fun _ => rfl) fg_nil (fun x _ C cl => ?_)) ?_
    · show EvE _ _ _ _ _ _ _
      exact (ev_sub ev_int (ev_name rfl (.inl rfl) rfl rfl))
    · rfl
  let F : List Int → Option PyData := fun row => if (decide ([q, p, s, r] = row) || decide ([q, p, s, r].map (fun x => 0 - x) = row)) = true then some (dZ row) else none
  have sg : PyData.canLayAll0 [dZ [q, p, s, r], dZ ([q, p, s, r].map fun x => 0 - x)] = true := by
    simp only [PyData.canLayAll0, dZ, PyData.canLay0, lay_dZ, Bool.and_self]
  let Γs : Gam := [("signed", .list [dZ [q, p, s, r], dZ ([q, p, s, r].map fun x => 0 - x)]), ("turned", dF A2 B2), ("told", dF A B), ("due", dF A' B')]
  let Γf : Gam := [("signed", .list [dZ [q, p, s, r], dZ ([q, p, s, r].map fun x => 0 - x)])]
  have anyS : ∀ row, ([dZ [q, p, s, r], dZ ([q, p, s, r].map fun x => 0 - x)].any fun y => PyData.eqv y (dZ row)) = (decide ([q, p, s, r] = row) || decide ([q, p, s, r].map (fun x => 0 - x) = row)) := by
    intro row
    simp only [List.any_cons, List.any_nil, eqv_dZ, Bool.or_false]
  refine exs_cons (Γ1 := ("three", .list (rowsA.filterMap F)) :: Γs) (O1 := []) ?_ ?_
  · rw [← lift_map inj_dZ F rowsA]
    refine ex_assign_comp (n := 10) (ds := rowsA.map dZ) (f := lift dZ F) ?_ ?_ ?_ ?_
    · intro _ _ _
      refine compH_name inj_dZ (Γf := Γf) ?_ ?_ ?_ ?_ ?_ ?_ ?_ ?_
      · rfl
      · rfl
      · rfl
      · exact rows_src (EvE.conv (ev_tuple (evl3 (ev_list (evl_ints (is := [0, 1, 1, 0]) (.pos (.pos (.pos (.pos .nil))))) (Nat.le_of_ble_eq_true rfl)) (ev_list (evl_ints (is := [1, 0, 1, -1]) (.pos (.pos (.pos (.neg .nil))))) (Nat.le_of_ble_eq_true rfl)) (ev_list (evl_ints (is := [-1, 1, 0, 1]) (.neg (.pos (.pos (.pos .nil))))) (Nat.le_of_ble_eq_true rfl)) (fun _ => se_List) (fun _ => se_List) (fun _ => se_List)) (Nat.le_of_ble_eq_true rfl)) rfl) go_name
      · decide
      · exact fun _ => rfl
      · exact fg_cons (by decide) rfl fg_nil
      · intro row _ C cl
        by_cases hc : (decide ([q, p, s, r] = row) || decide ([q, p, s, r].map (fun x => 0 - x) = row)) = true
        · have e : F row = some (dZ row) := if_pos hc
          rw [e]
          exact ⟨TeE.conv (te_cmp (ev_name rfl (.inl rfl) rfl rfl) (ev_name rfl (.inr (.inl rfl)) rfl rfl) (cmp_data_in sg (shaped_dZ row)) rfl) ((anyS row).trans hc), ev_name rfl (.inl rfl) rfl rfl⟩
        · have e : F row = none := if_neg hc
          rw [e]
          exact TeE.conv (te_cmp (ev_name rfl (.inl rfl) rfl rfl) (ev_name rfl (.inr (.inl rfl)) rfl rfl) (cmp_data_in sg (shaped_dZ row)) rfl) ((anyS row).trans (by simpa using hc))
    · exact fun _ _ _ => rfl
    · exact .inl rfl
    · rfl
  refine exs_cons (Γ1 := ("others", .list (rowsB.filterMap F)) :: ("three", .list (rowsA.filterMap F)) :: Γs) (O1 := []) ?_ ?_
  · rw [← lift_map inj_dZ F rowsB]
    refine ex_assign_comp (n := 10) (ds := rowsB.map dZ) (f := lift dZ F) ?_ ?_ ?_ ?_
    · intro _ _ _
      refine compH_name inj_dZ (Γf := Γf) ?_ ?_ ?_ ?_ ?_ ?_ ?_ ?_
      · rfl
      · rfl
      · rfl
      · exact rows_src (EvE.conv (ev_tuple (evl3 (ev_list (evl_ints (is := [1, 0, 0, 1]) (.pos (.pos (.pos (.pos .nil))))) (Nat.le_of_ble_eq_true rfl)) (ev_list (evl_ints (is := [1, -1, 1, 0]) (.pos (.neg (.pos (.pos .nil))))) (Nat.le_of_ble_eq_true rfl)) (ev_list (evl_ints (is := [0, 1, -1, 1]) (.pos (.pos (.neg (.pos .nil))))) (Nat.le_of_ble_eq_true rfl)) (fun _ => se_List) (fun _ => se_List) (fun _ => se_List)) (Nat.le_of_ble_eq_true rfl)) rfl) go_name
      · decide
      · exact fun _ => rfl
      · exact fg_cons (by decide) rfl fg_nil
      · intro row _ C cl
        by_cases hc : (decide ([q, p, s, r] = row) || decide ([q, p, s, r].map (fun x => 0 - x) = row)) = true
        · have e : F row = some (dZ row) := if_pos hc
          rw [e]
          exact ⟨TeE.conv (te_cmp (ev_name rfl (.inl rfl) rfl rfl) (ev_name rfl (.inr (.inl rfl)) rfl rfl) (cmp_data_in sg (shaped_dZ row)) rfl) ((anyS row).trans hc), ev_name rfl (.inl rfl) rfl rfl⟩
        · have e : F row = none := if_neg hc
          rw [e]
          exact TeE.conv (te_cmp (ev_name rfl (.inl rfl) rfl rfl) (ev_name rfl (.inr (.inl rfl)) rfl rfl) (cmp_data_in sg (shaped_dZ row)) rfl) ((anyS row).trans (by simpa using hc))
    · exact fun _ _ _ => rfl
    · exact .inl rfl
    · rfl
  have c1 : (rowsA.filterMap F).length = cnt rowsA [q, p, s, r] := filterMap_len _ _
  have c2 : (rowsB.filterMap F).length = cnt rowsB [q, p, s, r] := filterMap_len _ _
  have d1 : (rowsA.filterMap F).length ≤ 3 := List.length_filterMap_le F rowsA
  have d2 : (rowsB.filterMap F).length ≤ 3 := List.length_filterMap_le F rowsB
  have e1 : ((((rowsA.filterMap F).length : Nat) : Int) == 1) = decide (cnt rowsA [q, p, s, r] = 1) := by rw [c1, Bool.eq_iff_iff]; simp; (first | lia | omega)
  have e2 : ((((rowsB.filterMap F).length : Nat) : Int) == 1) = decide (cnt rowsB [q, p, s, r] = 1) := by rw [c2, Bool.eq_iff_iff]; simp; (first | lia | omega)
  rw [← e1, ← e2, ← eqv_dF, ← eqv_dF]
  refine exs_ret (ex_ret fun _ _ _ => (ev_and (ev_cmp (ev_cmp (ev_name rfl (.inl rfl) rfl rfl) (ev_name rfl (.inl rfl) rfl rfl) (cmp_data_eq ?_ ?_) rfl) (ev_cmp (ev_fn g (by decide) boot_len (by decide) rfl rfl (evl1 (ev_name rfl (.inl rfl) rfl rfl) (fun _ => se_Name)) se_Name (fun _ => rfl) (c_len ?_ (.inl rfl))) ev_int cmp_eq rfl) cmp_bool_eq rfl) (fun _ => (ev_cmp (ev_cmp (ev_name rfl (.inl rfl) rfl rfl) (ev_name rfl (.inl rfl) rfl rfl) (cmp_data_eq ?_ ?_) rfl) (ev_cmp (ev_fn g (by decide) boot_len (by decide) rfl rfl (evl1 (ev_name rfl (.inl rfl) rfl rfl) (fun _ => se_Name)) se_Name (fun _ => rfl) (c_len ?_ (.inl rfl))) ev_int cmp_eq rfl) cmp_bool_eq rfl))))
  · exact shaped_dF _ _
  · exact shaped_dF _ _
  · (first | lia | omega)
  · exact shaped_dF _ _
  · exact shaped_dF _ _
  · (first | lia | omega)
end
end Fco

-- FcZ
namespace Fco

section
variable {prog : Program} {w : World} {A : Around} {E : Value → Shared → Prop}
theorem draw_list {it t : Addr} {items : Array Value} (hne : t ≠ it) : ∀ (n i : Nat) (s : Shared) (Q : List Value → Shared → Prop), s.heap.IsListIter it t i → s.heap.IsList t items → i + n ≤ items.size →
    (∀ h', h'.IsListIter it t (i + n) → Heap.SameBut it s.heap h' → Q ((items.toList.drop i).take n) { s with heap := h' }) → wpAny (model prog w) A (draw (.ref it) n) Q E s
  | 0, i, s, Q, hit, _, _, hQ => by
    show wpAny _ _ (pure []) Q E s
    exact wpAny_pure (by simpa using hQ s.heap hit (Heap.SameBut.refl ..))
  | n + 1, i, s, Q, hit, ht, hle, hQ => by
    have hlt : i < items.size := by (first | lia | omega)
    show wpAny _ _ (pyNext (.ref it) >>= _) Q E s
    refine wpAny_bind (wpAny_pyNext_list_item hit ht (x := items[i]) (by simp [hlt]) fun h₁ hit₁ hs₁ => ?_)
    refine wpAny_bind (wpAny_holding (draw_list hne n (i + 1) _ _ hit₁ (ht.extBut hs₁.extBut hne) (by (first | lia | omega)) fun h₂ hit₂ hs₂ => wpAny_pure ?_))
    have hd : items.toList.drop i = items[i] :: items.toList.drop (i + 1) := by simp [List.drop_eq_getElem_cons, hlt]
    have := hQ h₂ (by rw [show i + (n + 1) = i + 1 + n by (first | lia | omega)]; exact hit₂) (hs₁.trans hs₂)
    rw [hd, List.take_succ_cons] at this
    exact this
theorem unpackItems_list {s : Shared} {t : Addr} {items : Array Value} {Q : List Value → Shared → Prop} (hh : A.handled = none) (ht : s.heap.IsList t items)
    (hQ : ∀ h', Heap.ExtBut s.heap.objs.size s.heap h' → Q items.toList { s with heap := h' }) : wpAny (model prog w) A (unpackItems (.ref t) items.size none) Q E s := by
  have hlt : t ≠ s.heap.objs.size := by obtain ⟨o, ho, _⟩ := ht; exact Nat.ne_of_lt (Heap.lt_size ho)
  unfold unpackItems
  refine wpAny_bind ?_
  · unfold notIterableAtAll
    refine wpAny_bind (wpAny_specialOf ht.typeIs slot_list_iter.lookup ?_)
    refine wpAny_pure ?_
    simp only [Bool.false_eq_true, if_false]
    refine wpAny_bind (wpAny_holding (wpAny_pyIter_list ht ?_))
    refine wpAny_bind (wpAny_holding (draw_list hlt items.size 0 _ _ ⟨_, Heap.get?_push_size _ rfl, rfl, rfl⟩ (ht.push _) (by (first | lia | omega)) fun h₁ hit₁ hs₁ => ?_))
    have hall : List.take items.size (List.drop 0 items.toList) = items.toList := by
      rw [List.drop_zero]; exact List.take_of_length_le (by simp)
    rw [hall]
    rw [if_neg (by simp)]
    have ht₁ : h₁.IsList t items := (ht.push _).extBut hs₁.extBut hlt
    refine wpAny_bind (wpAny_holding (wpAny_pyNext_list_end hh hit₁ ht₁ (by simp) fun h₂ he₂ => ?_))
    simp only [Option.isSome_none, Bool.false_eq_true, if_false]
    refine wpAny_pure (hQ h₂ fun b o hb e => he₂ b o hb (hs₁.extBut b o hb (Heap.get?_push_of_some _ e)))
theorem assign_Tuple_list {s : Shared} {env : Env} {elts : List Expr} {x1} {pos : Pos} {t : Addr} {items : Array Value} {Q : Unit → Shared → Prop} (hh : A.handled = none) (ht : s.heap.IsList t items)
    (hn : (assignEach elts env).length = items.size) (hstar : (assignEach elts env).findIdx? (·.1) = none)
    (h : ∀ h', Heap.ExtBut s.heap.objs.size s.heap h' → wpAny (model prog w) A (assignInOrder ((assignEach elts env).map (·.2)) items.toList) Q E { s with heap := h' }) :
    wpAny (model prog w) A (assign (.Tuple elts x1 pos) env (.ref t)) Q E s := by
  rw [arm_assign_Tuple]
  refine wpAny_bind (wpAny_standAt ?_)
  unfold unpack
  rw [hn, hstar]
  exact wpAny_bind (wpAny_holding (unpackItems_list hh ht h))
end

section
variable {G : GC} {n : Nat} {nm : Str} {sc : Scope} {Γ : Gam} {O : Own}
/-- (x, y, ..) takes a list -/
theorem tgt_list {elts : List Expr} {kn : Nat} {tp : Pos} {xs : List Str} {ps : List Pos} {ds : List PyData} (hk : ∀ x ∈ xs, (sc.names.lookup x = some .local ∨ sc.names.lookup x = some .cell) ∧ O.lookup x = none)
    (hl : xs.length = ds.length) (hp : xs.length = ps.length) (ha : ∀ L a cd, assignEach elts (envOfC nm sc L a cd) = (xs.zip ps).map fun p => (false, assign (.Name p.1 p.2) (envOfC nm sc L a cd))) :
    TgtE G n nm sc (.Tuple elts kn tp) Γ O (.list ds) (StoreL xs ds Γ) := by
  intro A hA L a cd W oa s v S T Q h
  cases T with
  | list nw l q =>
    rename_i ax vs
    have hlen : ((xs.zip ps).map fun p => (false, assign (.Name p.1 p.2) (envOfC nm sc L a cd))).length = vs.toArray.size := by
      simp [hp.symm, hl, q.length]
    refine assign_Tuple_list hA.hh l (by rw [ha]; exact hlen) ?_ fun h1 hx => ?_
    · rw [ha, List.findIdx?_eq_none_iff]; intro p hp; simp only [List.mem_map] at hp; obtain ⟨_, _, rfl⟩ := hp; rfl
    · rw [ha]
      have k1 : Kp s.heap h1 := fun b o e => hx b o (Nat.ne_of_lt (Heap.lt_size e)) e
      have e : (((xs.zip ps).map fun p => (false, assign (.Name p.1 p.2) (envOfC nm sc L a cd))).map (·.2)) = (xs.zip ps).map fun p => assign (.Name p.1 p.2) (envOfC nm sc L a cd) := by simp
      rw [e]
      refine assign_names hk xs ps ds vs Γ (fun _ h => h) (by rw [q.length]; exact hl) hp A hA L a cd W oa { s with heap := h1 } (S.kp k1) (q.kp k1) Q fun h2 t2 k2 S2 => h h2 t2 ((k1.toB _).trans k2) S2

theorem St.freeze {L : Addr} {oa W : Ws} {h : Heap} {x : Str} {pl : Bool} {ds : List PyData} (S : St G sc L Γ [(x, (pl, ds))] oa W h) : St G sc L ((x, .list ds) :: Γ) [] (fun _ => False) W h := by
  obtain ⟨m, cm, ns, cl, c, d⟩ := S.fm
  have up : ∀ a, FW sc L (fun _ => False) W a → FW sc L oa W a := fun a ha => ha.elim .inl fun x => .inr (x.elim (fun f => f.elim) .inr)
  refine ⟨S.scok, ⟨m, cm, ns, cl, fun y e hy => ?_, fun y pl es hy => by cases hy⟩, ⟨S.ok.base, fun a ha => S.ok.ex a (up a ha), fun a ha => S.ok.off a (up a ha)⟩, fun _ h => h.elim, fun b hb => ⟨(S.wL b hb).1, id⟩⟩
  by_cases e1 : y = x
  · subst e1
    simp only [List.lookup_cons, beq_self_eq_true, Option.some.injEq] at hy
    subst hy
    obtain ⟨b, vs, p, ob, l, t⟩ := d y pl ds (by simp)
    refine ⟨_, p, .list (fun w => ?_) l.1 (t.weaken fun a ha => .inl (up a ha))⟩
    rcases w with w | w | w
    · exact S.oL b ob w
    · exact w
    · exact (S.wL b w).2 ob
  · have hb : (y == x) = false := by simpa using e1
    simp only [List.lookup_cons, hb] at hy
    obtain ⟨v, p, q⟩ := c y e hy
    exact ⟨v, p, q.weaken fun a ha => .inl (up a ha)⟩
end

/-- the pool: a list of a list of ints and a count -/
noncomputable def PoolAt (v0 : Value) (k : Nat) (P : Addr) (h : Heap) : Prop := ∃ t, h.IsList P #[v0, .int (k : Nat) t]
noncomputable def cst15 : List Int := [4, 1, 5, 1, 2, 1, 1, 3, 4, 1, 3, 2, 1, 2, 0]
noncomputable def drawV (cells : List Int) (k : Nat) (many : Int) : Int := if k < cells.length then ((cells.getD k 0).natAbs : Int).fmod many else (cst15.getD (k % 15) 0).fmod many

section
variable {G : GC}
/-- a draw: the pool's count goes up by one, nothing else changes -/
noncomputable def DrawOk (G : GC) (n : Nat) (cells : List Int) (k : Nat) (many : Int) : Prop :=
  ∃ a o fd, G.mg "_law_draw" = some (.ref a) ∧ G.B.get? a = some o ∧ o.data = .func fd ∧ ∀ A, AOk n A → ∀ (W : Ws) s P v0 t, Ok G W s.heap → W P → PoolAt v0 k P s.heap → Told W s.heap v0 (dZ cells) → ∀ Q : Value → Shared → Prop,
    (∀ h' tk t', KpB (fun b => b = P) s.heap h' → PoolAt v0 (k + 1) P h' → Q (.int (drawV cells k many) t') { s with heap := h', toks := tk }) → wpAny (MM G) A (call (.ref a) [.ref P, .int many t]) Q Ef s

theorem c_draw (D : G.Gd) {cells : List Int} {k : Nat} {many : Int} (hm : many ≠ 0) (hc : cells.length ≤ 1000) : DrawOk G 1 cells k many := by
  have g := D.g
  have hf : sizeLine = 2 ^ 24 := rfl
  obtain ⟨a, o, pm, code, doc, hmg, ho, hdat, hcode⟩ := g.top.fn (dk 60) (D.df _ (by decide))
  refine ⟨a, o, _, hmg, ho, hdat, fun A hA W s P v0 t ok hP pool tv0 Q hQ => ?_⟩
  have scok : ScOk (dk 60).scope := ScOk.of rfl
  have hc' : (cells.map PyData.int).length ≤ sizeLine := by first | exact mapS ‹_› | exact map8 ‹_› | exact map8 (Nat.le_trans ‹_› ‹_›) | (simp; (first | lia | omega))
  refine wpAny_call (call_cells_ret (binds := [("pool", .ref P), ("many", .int many t)]) (by have := hA.room; show A.depth < 1000; (first | lia | omega)) (ok.base _ _ ho) hdat (g.top.nolimit.keeps ok.base) (hcode.keeps ok.base) rfl ?_ ?_ scok.co scok.gen scok.kind)
  · intro x hx
    rcases List.mem_cons.mp hx with h | hx
    · subst h; exact .inl rfl
    · rw [List.mem_singleton.mp hx]; exact .inl rfl
  intro h1 tk F X
  have hA' : AIn 0 (A.deeper (envOfC (dk 60).name (dk 60).scope s.heap.objs.size a code)) := ⟨hA.deeper, by
    obtain ⟨l, e⟩ := hA.fr
    exact ⟨_, l, by show A.frames.map _ = _; rw [e]; rfl, rfl, rfl, scok.gen, scok.co⟩⟩
  have kp : Kp s.heap h1 := F.keep
  let L := s.heap.objs.size
  have hge : ∀ b, Mu (dk 60).scope L b → s.heap.objs.size ≤ b := fun b hb => by
    rcases hb with rfl | ⟨x, hx⟩
    · exact Nat.le_refl _
    · exact Nat.le_of_lt (X.above x b (PySem.mem_of_lookup hx))
  have hMn : ∀ b, Mu (dk 60).scope L b → s.heap.get? b = none := fun b hb => none_of_ge (hge b hb)
  obtain ⟨oP, hoP⟩ := ok.ex P hP
  have nMP : ¬ Mu (dk 60).scope L P := fun m => by rw [hMn P m] at hoP; cases hoP
  obtain ⟨tc, lP⟩ := pool
  have tP : ToldAll W s.heap [v0, .int (k : Nat) tc] [dZ cells, .int (k : Nat)] := .cons tv0 (.cons (.int _ _) .nil)
  have S : St G (dk 60).scope L [("many", .int many)] [("pool", (false, [dZ cells, .int (k : Nat)]))] (fun b => b = P) (fun b => W b ∧ b ≠ P) h1 := by
    refine ⟨scok, ⟨_, _, F.ns, X, fun x e hx => ?_, fun x pl es hx => ?_⟩, ⟨ok.base.trans kp, fun b hb => ?_, fun b hb => ?_⟩, fun b hb => hb ▸ nMP, fun b hb => ⟨fun m => (by obtain ⟨o, e⟩ := ok.ex b hb.1; rw [hMn b m] at e; cases e), hb.2⟩⟩
    · rw [val_bind (sc := (dk 60).scope) (k := (envOfC (dk 60).name (dk 60).scope s.heap.objs.size a code).kindOf) (fun _ => rfl)]
      by_cases h : x = "many"
      · subst h
        simp only [List.lookup_cons, beq_self_eq_true, Option.some.injEq] at hx
        subst hx
        exact ⟨.int many t, rfl, .int _ _⟩
      · have hb : (x == "many") = false := by simpa using h
        simp [List.lookup_cons, hb] at hx
    · rw [val_bind (sc := (dk 60).scope) (k := (envOfC (dk 60).name (dk 60).scope s.heap.objs.size a code).kindOf) (fun _ => rfl)]
      by_cases h : x = "pool"
      · subst h
        simp only [List.lookup_cons, beq_self_eq_true, Option.some.injEq, Prod.mk.injEq] at hx
        obtain ⟨rfl, rfl⟩ := hx
        refine ⟨P, [v0, .int (k : Nat) tc], rfl, rfl, ⟨isList_of lP fun o => kp _ o, fun q => by cases q⟩, (tP.weaken fun b hb => ?_).kp kp⟩
        rcases hb with h | h | h
        · exact .inr (hMn b h)
        · exact .inl (h ▸ hP)
        · exact .inl h.1
      · have hb : (x == "pool") = false := by simpa using h
        simp [List.lookup_cons, hb] at hx
    · rcases hb with h | h | h
      · rcases h with rfl | ⟨x, hx⟩
        · obtain ⟨o, _, _, ho, _⟩ := F.ns; exact ⟨o, ho⟩
        · obtain ⟨o, ho, _⟩ := X.cell x b hx; exact ⟨o, ho⟩
      · exact ⟨oP, h ▸ kp _ _ hoP⟩
      · obtain ⟨o, e⟩ := ok.ex b h.1; exact ⟨o, kp _ _ e⟩
    · rcases hb with h | h | h
      · exact Kp.none ok.base (hMn b h)
      · exact h ▸ ok.off P hP
      · exact ok.off b h.1
  let O0 : Own := [("pool", (false, [dZ cells, .int (k : Nat)]))]
  let O1 : Own := [("pool", (false, [dZ cells, .int ((k + 1 : Nat) : Int)]))]
  have e15 : ((k : Nat) : Int).fmod 15 = ((k % 15 : Nat) : Int) := by rw [Int.fmod_eq_emod_of_nonneg _ (by decide)]; (first | lia | omega)
  obtain ⟨es, k0, p1, p2, p3, p4, p5, p6, p7, p8, k9, hb, hes⟩ : ∃ es k0 p1 p2 p3 p4 p5 p6 p7 p8 k9, (dk 60).body.drop 2 = [stAt 60 2, .Return (some (.BinOp (.Subscript (.Tuple es k0 p1) (.BinOp (.Name "spot" p2) .Mod (.Constant (.int 15) k9 p3) p4) p5) .Mod (.Name "many" p6) p7)) p8] ∧ CIL es cst15 :=
    ⟨_, _, _, _, _, _, _, _, _, _, _, rfl, (.pos (.pos (.pos (.pos (.pos (.pos (.pos (.pos (.pos (.pos (.pos (.pos (.pos (.pos (.pos .nil)))))))))))))))⟩
  have post : ExS G true 0 (dk 60).name (dk 60).scope ((dk 60).body.drop 2) (("pool", .list [dZ cells, .int ((k + 1 : Nat) : Int)]) :: [("spot", .int (k : Nat)), ("many", .int many)]) [] (.ret (.int (drawV cells k many))) := by
    rw [hb]
    refine exs_if (c := decide (k < cells.length)) (fun _ _ _ => TeE.conv (te_cmp (ev_name rfl (.inl rfl) rfl rfl) (ev_fn g (by decide) boot_len (by decide) rfl rfl (evl1 (EvE.hole (dZ cells) (ev_itemX (.inl rfl) (ev_name rfl (.inl rfl) rfl rfl) ev_int ?_ (fun _ _ => ⟨_, rfl⟩))) (fun _ => se_Subscript)) se_Subscript (fun _ => rfl) (c_len ?_ (.inl rfl))) cmp_lt rfl) ?_) (fun h => .inr ⟨_, rfl, exs_ret ?_⟩) (fun h => .inl ⟨exs_nil, exs_ret ?_⟩)
    · exact ⟨Nat.le_of_ble_eq_true rfl, 0, rfl, rfl⟩
    · exact hc'
    · rw [Bool.eq_iff_iff]; simp
    · have h : k < cells.length := by simpa using h
      refine (ex_ret fun _ _ _ => (ev_mod (ev_fn g (by decide) boot_abs (by decide) rfl rfl (evl1 (EvE.hole (.int (cells.getD k 0)) (ev_itemX (.inl rfl) (EvE.hole (dZ cells) (ev_itemX (.inl rfl) (ev_name rfl (.inl rfl) rfl rfl) ev_int ?_ (fun _ _ => ⟨_, rfl⟩))) (ev_name rfl (.inl rfl) rfl rfl) ?_ (fun _ _ => ⟨_, rfl⟩))) (fun _ => se_Subscript)) se_Subscript (fun _ => rfl) c_abs) (ev_name rfl (.inl rfl) rfl rfl) ?_)).conv' ?_
      · exact ⟨Nat.le_of_ble_eq_true rfl, 0, rfl, rfl⟩
      · exact ⟨hc', _, pyIdx_nat (by simpa using h), dZ_get h⟩
      · exact hm
      · unfold drawV; rw [if_pos h]
    · have h : ¬ k < cells.length := by simpa using h
      unfold drawV; rw [if_neg h]
      refine ex_ret fun _ _ _ => ev_mod (ev_itemX (ds := cst15.map .int) (.inr rfl) (ev_tuple (evl_ints hes) (Nat.le_of_ble_eq_true rfl)) (EvE.conv (d' := .int ((k % 15 : Nat) : Int)) (ev_mod (ev_name rfl (.inl rfl) rfl rfl) ev_int (by decide)) (by rw [e15])) ?_ (fun _ _ => ⟨_, rfl⟩)) (ev_name rfl (.inl rfl) rfl rfl) hm
      have hl : k % 15 < 15 := Nat.mod_lt _ (by decide)
      exact ⟨Nat.le_of_ble_eq_true rfl, _, pyIdx_nat (by simpa [cst15] using hl), dZ_get (by simpa [cst15] using hl)⟩
  have hbody : (dk 60).body = stAt 60 0 :: stAt 60 1 :: (dk 60).body.drop 2 := rfl
  rw [hbody]
  have fin : ∀ (f : Flow) (s' : Shared), (match f with | .ret v => Q v s' | _ => False) → Q (match f with | .ret v => v | _ => .none) s' := fun f s' h => by
    cases f with
    | ret v => exact h
    | _ => exact h.elim
  refine wpAny_mono (Q := fun f s' => match f with | .ret v => Q v s' | _ => False) (E := Ef) ?_ (fun f s' h => fin f s' h) fun _ _ e => e.elim
  have hst0 : ∃ e p1 p2, stAt 60 0 = .Assign [.Name "spot" p1] e p2 ∧ (∀ L a cd, EvE G 0 (envOfC (dk 60).name (dk 60).scope L a cd) [("many", .int many)] O0 e (.int (k : Nat))) ∧ ∀ L a cd, swapsWith e (some (.Name "spot" p1)) p2.line (envOfC (dk 60).name (dk 60).scope L a cd) = pure false :=
    ⟨_, _, _, rfl, fun _ _ _ => ev_itemOX rfl rfl rfl ev_int ⟨Nat.le_of_ble_eq_true rfl, 1, rfl, rfl⟩ (fun _ _ => ⟨_, rfl⟩), fun _ _ _ => rfl⟩
  obtain ⟨e0, p00, p01, hs0, ev0, sw0⟩ := hst0
  rw [hs0]
  refine wpAny_execs_cons (wpAny_Assign_Name (ev0 L a code _ hA' _ { s with heap := h1, toks := tk } S.se _ fun v h2 t2 k2 T2 => store_ok (s := { s with heap := h2, toks := t2 }) (S.kp k2) T2 (.inl rfl) rfl fun h3 t3 k3 S3 => ?_) (sw0 L a code))
  have lP3 : h3.IsList P #[v0, .int (k : Nat) tc] := isList_of (isList_of (isList_of lP fun o => kp _ o) fun o => k2 _ o) fun o e => k3 P o nMP e
  have hst1 : ∃ e p1 p2 p3 p4 k5 p6, stAt 60 1 = .Assign [.Subscript (.Name "pool" p1) (.Constant (.int 1) k5 p6) p2] e p3 ∧ p4 = p3.line ∧ (∀ L a cd, EvE G 0 (envOfC (dk 60).name (dk 60).scope L a cd) [("spot", .int (k : Nat)), ("many", .int many)] O0 e (.int ((k + 1 : Nat) : Int))) ∧ ∀ L a cd, swapsWith e (some (.Subscript (.Name "pool" p1) (.Constant (.int 1) k5 p6) p2)) p4 (envOfC (dk 60).name (dk 60).scope L a cd) = pure false :=
    ⟨_, _, _, _, _, _, _, rfl, rfl, fun _ _ _ => EvE.conv (ev_add (ev_name rfl (.inl rfl) rfl rfl) ev_int) rfl, fun _ _ _ => rfl⟩
  obtain ⟨e1, p10, p11, p12, p13, k14, p15, hs1, hp13, ev1, sw1⟩ := hst1
  subst hp13
  rw [hs1]
  obtain ⟨m3, cm3, ns3, cl3, _, d3⟩ := id S3.fm
  have hPv : val (dk 60).scope m3 cm3 "pool" = some (.ref P) := by
    obtain ⟨b, vs, p, ob, _, _⟩ := d3 "pool" _ _ rfl
    rw [p, ob]
  refine wpAny_execs_cons (wpAny_Assign_Subscript (ev1 L a code _ hA' _ { s with heap := h3, toks := t3 } S3.se _ fun v1 h4 t4 k4 T4 => ?_) (sw1 L a code))
  refine name_own (s := { s with heap := h4, toks := t4 }) scok (ns3.keeps k4) hPv rfl rfl (wpAny_Constant_int ?_)
  obtain ⟨tv, rfl⟩ : ∃ tv, v1 = .int ((k + 1 : Nat) : Int) tv := by cases T4; exact ⟨_, rfl⟩
  refine wpAny_setItem_list (isList_of lP3 fun o => k4 _ o) (by decide) (by decide) (by show (1 : Int) < 2; decide) fun h5 l5 hs5 => ?_
  have k5 : KpB (fun c => c = P) h4 h5 := kpB_same hs5 _ rfl
  have l5' : h5.IsList P #[v0, .int ((k + 1 : Nat) : Int) tv] := l5
  have S4 := S3.kp k4
  have tv5 : Told (FW (dk 60).scope L (fun b => b = P) (fun b => W b ∧ b ≠ P)) h5 v0 (dZ cells) := by
    have q1 : Told (FW (dk 60).scope L (fun b => b = P) (fun b => W b ∧ b ≠ P)) h1 v0 (dZ cells) := (tv0.weaken fun b hb => by
      rcases hb with h | h | h
      · exact .inr (hMn b h)
      · exact .inl (h ▸ hP)
      · exact .inl h.1).kp kp
    exact (((q1.kp k2).keep (k3.mono fun _ x => .inl x)).kp k4).keep (k5.mono fun c e => .inr (.inl e))
  have S5 : St G (dk 60).scope L [("spot", .int (k : Nat)), ("many", .int many)] [("pool", (false, [dZ cells, .int ((k + 1 : Nat) : Int)]))] (fun b => b = P) (fun b => W b ∧ b ≠ P) h5 := by
    obtain ⟨m4, cm4, ns4, cl4, c4, d4⟩ := id S4.fm
    obtain ⟨b, vs, p, ob, _, _⟩ := d4 "pool" _ _ rfl
    rw [ob] at p
    exact S4.setOwn (b := P) (ws := [v0, .int ((k + 1 : Nat) : Int) tv]) rfl k5 (fun _ _ _ _ => .inr trivial) ⟨l5', fun q => by cases q⟩ (.cons tv5 (.cons (.int _ _) .nil)) ⟨m4, cm4, ns4, cl4, c4, p⟩
  have S6 := S5.freeze
  refine post _ hA' L a code _ _ { s with heap := h5, toks := _ } S6 _ fun f h6 t6 p6 => ?_
  obtain ⟨q6, v, rfl, T6⟩ := p6
  cases T6
  have kk : KpB (fun c => c = P) s.heap h6 := fun c o nc e => by
    have nM : ¬ Mu (dk 60).scope L c := fun m => by rw [hMn c m] at e; cases e
    exact q6 c o (fun h => h.elim nM id) (k5 c o nc (k4 c o (k3 c o nM (k2 c o (kp c o e)))))
  exact hQ h6 t6 _ kk ⟨tv, isList_of l5' fun o e => q6 P o (fun h => h.elim nMP id) e⟩
end
end Fco

-- FcAA
namespace Fco

noncomputable abbrev OP (cells : List Int) (k : Nat) : Own := [("pool", (false, [dZ cells, .int (k : Nat)]))]

theorem Ns_ne {h : Heap} {L P : Addr} {m : Str → Option Value} {xs : Array Value} (n : h.Ns L m) (l : h.IsList P xs) : L ≠ P := fun e => by
  subst e
  obtain ⟨o, es, ep, ho, hc, hd, _⟩ := n
  obtain ⟨o', ho', hc', k, hd'⟩ := l
  rw [ho] at ho'; cases ho'
  simp_all
theorem Cell_ne {h : Heap} {c P : Addr} {v : Option Value} {xs : Array Value} (n : h.IsCell c v) (l : h.IsList P xs) : c ≠ P := fun e => by
  subst e
  obtain ⟨o, ho, hd⟩ := n
  obtain ⟨o', ho', hc', k, hd'⟩ := l
  rw [ho] at ho'; cases ho'
  simp_all
theorem Nm.keepP {env : Env} {h h' : Heap} {vm : Str → Option Value} {P : Addr} {xs : Array Value} (N : Nm env h vm) (l : h.IsList P xs) (k : KpB (fun b => b = P) h h') : Nm env h' vm where
  kind := N.kind
  glob := N.glob
  blt := N.blt
  loc := let ⟨m, a, b⟩ := N.loc; ⟨m, a.at' fun o e => k _ o (Ns_ne a l) e, b⟩
  cel := fun x c hk hc => by
    have q := N.cel x c hk hc
    obtain ⟨o, ho, hd⟩ := q
    exact ⟨o, k c o (Cell_ne ⟨o, ho, hd⟩ l) ho, hd⟩
  has := N.has
theorem Ok.keepP {G : GC} {W : Ws} {h h' : Heap} {P : Addr} (ok : Ok G W h) (hP : W P) (k : KpB (fun b => b = P) h h') (hx : ∃ o, h'.get? P = some o) : Ok G W h' where
  base := fun b o e => k b o (fun q => by subst q; have := ok.off b hP; rw [e] at this; cases this) (ok.base b o e)
  ex := fun b hb => by
    by_cases e : b = P
    · exact e ▸ hx
    · obtain ⟨o, ho⟩ := ok.ex b hb; exact ⟨o, k b o e ho⟩
  off := ok.off

section
variable {G : GC} {n : Nat}
theorem sub_int' {A : Around} {s : Shared} {a b : Int} {t u : Tok} {Q : Value → Shared → Prop} (h : Q (.int (a - b) s.toks) { s with toks := s.toks + 1 }) : wpAny (MM G) A (binaryOp .Sub (.int a t) (.int b u)) Q Ef s := P.sub_int h
theorem draw_ev (g : G.Good) {m : Nat} {env : Env} {Γ : Gam} {O : Own} {cells : List Int} {k : Nat} {many : Int} {e : Expr} {fp xp pos : Pos} (dr : DrawOk G m cells k many) (hm : m ≤ n) (hkf : env.kindOf ("_law_draw" : Str) = some .globalImplicit) (hp : env.kindOf ("pool" : Str) = some .cell ∨ env.kindOf ("pool" : Str) = some .free)
    (he : EvE G n env Γ O e (.int many)) (hse : ∀ rest, starEach (e :: rest) env = (false, eval e env) :: starEach rest env) {A : Around} (hA : AIn n A) {W Wp : Ws} {s : Shared} {P : Addr} {v0 : Value} {vm : Str → Option Value} (S : SE G env Γ O W s.heap) (N : Nm env s.heap vm) (hv : vm "pool" = some (.ref P)) (okp : Ok G Wp s.heap) (hP : Wp P)
    (pool : PoolAt v0 k P s.heap) (tv : Told Wp s.heap v0 (dZ cells)) {Q : Value → Shared → Prop} (hQ : ∀ h' tk t', KpB (fun b => b = P) s.heap h' → PoolAt v0 (k + 1) P h' → Q (.int (drawV cells k many) t') { s with heap := h', toks := tk }) :
    wpAny (MM G) A (eval (.Call (.Name "_law_draw" fp) [.Name "pool" xp, e] [] pos) env) Q Ef s := by
  obtain ⟨a, o, fd, hmg, ho, hdat, c⟩ := dr
  have hns : s.heap.Ns env.globals G.mg := by rw [N.glob]; exact g.top.g.keeps S.ok.base
  refine Call_ (Name_function_global N.kind hkf (loadGlobal_global hns hmg ?_) rfl)
  have load : ∀ (Q : Value → Shared → Prop), Q (.ref P) s → wpAny (MM G) A (eval (.Name "pool" xp) env) Q Ef s := fun Q h => by
    refine wpAny_Name ?_ rfl
    rcases hp with hk | hk
    · obtain ⟨c, hc⟩ := N.has _ (.inl hk)
      exact wpAny_loadName_cell N.kind hk hc (hv ▸ N.cel _ c (.inl hk) hc) h
    · obtain ⟨c, hc⟩ := N.has _ (.inr hk)
      exact wpAny_loadName_free N.kind hk hc (hv ▸ N.cel _ c (.inr hk) hc) h rfl
  refine callWith_def hdat (args_cons (load _ (args_cons (rest := []) (he A hA W s S _ fun v h1 t1 k1 T1 => args_nil ⟨k1 _ _ (S.ok.base _ _ ho), ?_⟩) (by rw [hse]))) (by rw [se_Name])) se_Name
  cases T1
  obtain ⟨tc, lP⟩ := pool
  refine c A (hA.toAOk.mono hm) Wp { s with heap := h1, toks := t1 } P v0 _ (okp.kp k1) hP ⟨tc, isList_of lP fun o => k1 _ o⟩ (tv.kp k1) Q fun h2 t2 t' k2 p2 => ?_
  exact hQ h2 t2 t' (fun b o nb e => k2 b o nb (k1 b o e)) p2

/-- a comprehension of draws -/
theorem comp_draws (g : G.Good) {m : Nat} {env : Env} {Γ Γf : Gam} {O : Own} {cells : List Int} {k0 cnt : Nat} {many c : Int} {em ec : Expr} {x : Str} {px fp xp cp bp rp rfp pos : Pos} {ie : Expr} {scope : Scope} (dr : ∀ i, DrawOk G m cells (k0 + i) many) (hm : m ≤ n)
    (co : compOkB scope = true) (hx : scope.names.lookup x = some .local) (hpl : scope.names.lookup ("pool" : Str) ≠ some .local) (hf : freB scope env = true) (hie : EvE G n env Γ O ie (.int (cnt : Nat))) (hst : starEach [ie] env = [(false, eval ie env)]) (hkr : env.kindOf ("range" : Str) = some .globalImplicit) (hcnt : cnt ≤ 1000)
    (hg : FG scope Γ Γf) (hkf : ∀ C cl, (compEnvC scope cl C env).kindOf ("_law_draw" : Str) = some .globalImplicit) (hkp : ∀ C cl, (compEnvC scope cl C env).kindOf ("pool" : Str) = some .cell ∨ (compEnvC scope cl C env).kindOf ("pool" : Str) = some .free)
    (hem : ∀ (i : Nat) C cl, EvE G n (compEnvC scope cl C env) ((x, .int (i : Nat)) :: Γf) [] em (.int many)) (hec : ∀ (i : Nat) C cl, EvE G n (compEnvC scope cl C env) ((x, .int (i : Nat)) :: Γf) [] ec (.int c)) (hse : ∀ C cl rest, starEach (em :: rest) (compEnvC scope cl C env) = (false, eval em (compEnvC scope cl C env)) :: starEach rest (compEnvC scope cl C env))
    {A : Around} (hA : AIn n A) {W : Ws} {s : Shared} {P : Addr} {v0 : Value} {vm : Str → Option Value} (S : SE G env Γ O W s.heap) (N : Nm env s.heap vm) (hΓ : ∀ y d, Γ.lookup y = some d → ∃ v, vm y = some v ∧ Told W s.heap v d) (hv : vm "pool" = some (.ref P)) (hP : W P)
    (pool : PoolAt v0 k0 P s.heap) (tv : Told W s.heap v0 (dZ cells)) {Q : Value → Shared → Prop} (hQ : ∀ v h' tk, KpB (fun b => b = P) s.heap h' → PoolAt v0 (k0 + cnt) P h' → Told W h' v (dZ ((List.range cnt).map fun i => drawV cells (k0 + i) many - c)) → Q v { s with heap := h', toks := tk }) :
    wpAny (MM G) A (eval (.ListComp (.BinOp (.Call (.Name "_law_draw" fp) [.Name "pool" xp, em] [] cp) .Sub ec bp) [⟨.Name x px, .Call (.Name "range" rfp) [ie] [] rp, [], 0⟩] scope pos) env) Q Ef s := by
  obtain ⟨cl, e, hc1, hc2⟩ := clos_of (scope := scope) (env := env) fun x hx => N.has x (fre_of hf x hx)
  have co' := CompOk.of co
  obtain ⟨t0, lP⟩ := id pool
  obtain ⟨oP, hoP, _⟩ := id lP
  rw [eval_ListComp]
  let K : Nat → Heap → Prop := fun i h => PoolAt v0 (k0 + i) P h ∧ KpB (fun b => b = P) s.heap h
  refine wpAny_comprehension_free (use := none) rfl (fun _ => rfl) e co'.kind co'.names (comp_core (Z := fun b => b = P) (K := K) (f := lift (fun i : Nat => .int (i : Nat)) fun i => some (.int (drawV cells (k0 + i) many - c))) (tg := fun d => [(x, d)]) (Γf := Γf) (ds := (List.range cnt).map fun i => .int (i : Nat)) (RR := fun acc C => compPost (MM G) A Ef none Q acc C) co' hA S
    (by have := src_range (x := x) (px := px) (fp := rfp) (pos := rp) (k := (cnt : Nat)) g hie hkr hst (by (first | lia | omega)) (by (first | lia | omega)); simpa using this) (fun b hb => hb ▸ hP) (fun h k => N.keepP lP k)
    (fun y d hy => ⟨(hg y d hy).1, hΓ y d (hg y d hy).2⟩) (fre_of hf) hc1 hc2 (fun i h h' kk fr => ?_) (fun i h kk b hb => ?_) ⟨pool, KpB.refl _ _⟩ (by simp; unfold sizeLine; (first | lia | omega)) (fun d y e' hy => ?_) (fun d _ C => tgtC_name co' hx) (fun i d hd wr C D => ?_) (fun C D h' tk vs m' hCD hC hD hN hL hT hK hk => ?_) fun _ _ e => e)
  · obtain ⟨⟨t, l⟩, kk⟩ := kk
    exact ⟨⟨t, isList_of l fun o e => fr P o (by rw [hoP]; simp) e⟩, fun b o nb e => fr b o (by rw [e]; simp) (kk b o nb e)⟩
  · obtain ⟨⟨t, ⟨o, ho, _⟩⟩, _⟩ := kk
    exact ⟨o, hb ▸ ho⟩
  · by_cases hxy : y = x
    · exact hxy ▸ hx
    · have hb : (y == x) = false := by simpa using hxy
      simp [List.lookup_cons, hb] at hy
  · have hd' : d = .int (i : Nat) := by
      simp only [List.getElem?_map, Option.map_eq_some_iff] at hd
      obtain ⟨j, hj, rfl⟩ := hd
      have h1 := (List.getElem?_eq_some_iff.mp hj)
      obtain ⟨h2, h3⟩ := h1
      simp at h3; rw [h3]
    subst hd'
    rw [lift_dec inj_nat]
    intro s' kk okX hvm N1 Y hY
    obtain ⟨vm', N', hv', hΓd⟩ := hvm
    have hv2 : vm' "pool" = some (.ref P) := (hv' _ hpl).trans hv
    obtain ⟨pk, kk0⟩ := kk
    have okW : Ok G W s'.heap := S.ok.keepP hP kk0 (by obtain ⟨t, ⟨o, ho, _⟩⟩ := pk; exact ⟨o, ho⟩)
    have tv' : Told W s'.heap v0 (dZ cells) := tv.keep (kk0.mono fun b hb => hb ▸ hP)
    have SX : SE G (compEnvC scope cl C env) ((x, .int (i : Nat)) :: Γf) [] (XC W wr C D) s'.heap := ⟨okX, vm', N', hΓd, fun x pl ds e => by cases e⟩
    refine wpAny_tests_nil ?_
    rw [if_pos rfl]
    refine wpAny_BinOp (draw_ev g (dr i) hm (hkf C cl) (hkp C cl) (hem i C cl) (hse C cl) hA SX N' hv2 okW hP pk tv' fun h1 t1 t' k1 p1 => ?_)
    obtain ⟨tcc, lPk⟩ := pk
    have ex1 : ∃ o, h1.get? P = some o := by obtain ⟨t, ⟨o, ho, _⟩⟩ := p1; exact ⟨o, ho⟩
    have SX1 : SE G (compEnvC scope cl C env) ((x, .int (i : Nat)) :: Γf) [] (XC W wr C D) h1 := ⟨okX.keepP (.inl hP) k1 ex1, vm', N'.keepP lPk k1, fun y d hy => let ⟨v, p, q⟩ := hΓd y d hy; ⟨v, p, q.keep (k1.mono fun b hb => .inl (hb ▸ hP))⟩, fun x pl ds e => by cases e⟩
    refine hec i C cl A hA _ { s' with heap := h1, toks := t1 } SX1 _ fun v2 h2 t2 k2 T2 => ?_
    cases T2
    refine sub_int' (hY _ h2 _ (fun b o nb e => k2 b o (k1 b o nb e)) ⟨?_, fun b o nb e => k2 b o (k1 b o nb (kk0 b o nb e))⟩ (.int _ _))
    obtain ⟨t, l⟩ := p1
    exact ⟨t, isList_of l fun o => k2 _ o⟩
  · refine ⟨m', hN, fun h'' hs => ?_⟩
    have k2 : KpB (fun b => b = C) h' h'' := kpB_same hs _ rfl
    have nPC : P ≠ C := fun q => by rw [q, hC] at hoP; cases hoP
    have nWD : ¬ W D := fun w => by obtain ⟨o, e⟩ := S.ok.ex D w; rw [hD] at e; cases e
    obtain ⟨⟨t, l⟩, _⟩ := hK
    refine hQ (.ref D) h'' tk (fun b o nb e => k2 b o (fun q => by subst q; rw [hC] at e; cases e) (hk b o nb e)) ⟨t, ?_⟩ ?_
    · have e1 : ((List.range cnt).map fun i => PyData.int (i : Nat)).length = cnt := by simp
      rw [e1] at l
      exact isList_of l fun o e => k2 P o nPC e
    · rw [lift_map inj_nat] at hT
      have e2 : (List.range cnt).filterMap (fun i => some (PyData.int (drawV cells (k0 + i) many - c))) = ((List.range cnt).map fun i => drawV cells (k0 + i) many - c).map .int := by simp
      rw [e2] at hT
      exact .list nWD (isList_of hL fun o e => k2 D o (Ne.symm hCD) e) ((hT.keep (k2.mono fun b hb => .inr (.inr hb))).weaken fun a ha => .inl (.inl ha))
end
end Fco

-- FcAB
namespace Fco

section
variable {G : GC} {n : Nat} {nm : Str} {sc : Scope} {Γ : Gam} {O : Own}
theorem St.release {L : Addr} {oa W : Ws} {h : Heap} (S : St G sc L Γ O oa W h) : St G sc L Γ [] (fun _ => False) (fun b => W b ∨ oa b) h := by
  obtain ⟨m, cm, ns, cl, c, d⟩ := S.fm
  have up : ∀ a, FW sc L (fun _ => False) (fun b => W b ∨ oa b) a → FW sc L oa W a := fun a ha => by
    rcases ha with h | h | h | h
    · exact .inl h
    · exact h.elim
    · exact .inr (.inr h)
    · exact .inr (.inl h)
  exact ⟨S.scok, ⟨m, cm, ns, cl, fun y e hy => let ⟨v, p, q⟩ := c y e hy; ⟨v, p, q.weaken fun a ha => .inl (up a ha)⟩, fun y pl es hy => by cases hy⟩, ⟨S.ok.base, fun a ha => S.ok.ex a (up a ha), fun a ha => S.ok.off a (up a ha)⟩, fun _ h => h.elim,
    fun b hb => ⟨hb.elim (fun h => (S.wL b h).1) (S.oL b), id⟩⟩

theorem St.poolOut {L a : Addr} {cd : Value} {W : Ws} {h : Heap} {P : Addr} {cells : List Int} {k : Nat} (S : St G sc L Γ (OP cells k) (fun b => b = P) W h) : ∃ v0 vm, Nm (envOfC nm sc L a cd) h vm ∧ (∀ y d, Γ.lookup y = some d → ∃ v, vm y = some v ∧ Told (FW sc L (fun b => b = P) W) h v d) ∧ vm "pool" = some (.ref P) ∧ PoolAt v0 k P h ∧ Told (FW sc L (fun b => b = P) W) h v0 (dZ cells) := by
  obtain ⟨m, cm, ns, cl, c, d⟩ := S.fm
  have key : ∃ v0, val sc m cm "pool" = some (.ref P) ∧ PoolAt v0 k P h ∧ Told (FW sc L (fun b => b = P) W) h v0 (dZ cells) := by
    obtain ⟨b, vs, p, ob, l, t⟩ := d "pool" _ _ rfl
    have eb : b = P := ob
    subst eb
    cases t with
    | cons t1 r =>
      cases r with
      | cons t2 r =>
        cases r; cases t2
        exact ⟨_, p, ⟨_, l.1⟩, t1⟩
  obtain ⟨v0, k1, k2, k3⟩ := key
  refine ⟨v0, val sc m cm, ⟨S.scok.kind, rfl, rfl, ⟨m, ns, fun y hy => ?_⟩, fun y b hk e => ?_, fun y hk => ?_⟩, c, k1, k2, k3⟩
  · have hy : sc.names.lookup y = some .local := hy
    simp [val, hy]
  · have hk : sc.names.lookup y = some .cell ∨ sc.names.lookup y = some .free := hk
    have : val sc m cm y = cm y := by
      unfold val; rw [if_neg]; rcases hk with hk | hk <;> rw [hk] <;> decide
    rw [this]; exact cl.cell y b e
  · have hk : sc.names.lookup y = some .cell ∨ sc.names.lookup y = some .free := hk
    rcases hk with hk | hk
    · exact Option.isSome_iff_exists.mp (cellsFrom_some _ _ _ (.inl hk))
    · exact absurd rfl (S.scok.nofree _ (PySem.mem_of_lookup hk))

theorem St.poolIn {L : Addr} {W : Ws} {h h' : Heap} {P : Addr} {cells : List Int} {k k' : Nat} {v0 : Value} (S : St G sc L Γ (OP cells k) (fun b => b = P) W h) (tv : Told (FW sc L (fun b => b = P) W) h v0 (dZ cells)) (kp : KpB (fun b => b = P) h h') (p : PoolAt v0 k' P h') : St G sc L Γ (OP cells k') (fun b => b = P) W h' := by
  obtain ⟨m, cm, ns, cl, c, d⟩ := id S.fm
  obtain ⟨b, vs, pv, ob, _, _⟩ := d "pool" _ _ rfl
  have eb : b = P := ob
  subst eb
  obtain ⟨t, l⟩ := p
  exact S.setOwn (b := b) (ws := [v0, .int (k' : Nat) t]) rfl kp (fun _ _ _ _ => .inr trivial) ⟨l, fun q => by cases q⟩ (.cons (tv.keep (kp.mono fun c e => .inr (.inl e))) (.cons (.int _ _) .nil)) ⟨m, cm, ns, cl, c, pv⟩
end

theorem all4 {α : Type} {P : α → Prop} {x y z w : α} (h1 : P x) (h2 : P y) (h3 : P z) (h4 : P w) : ∀ u ∈ [x, y, z, w], P u := fun u hu => by
  simp only [List.mem_cons, List.not_mem_nil, or_false] at hu
  rcases hu with h | h | h | h <;> subst h <;> assumption
noncomputable def fracQ (cells : List Int) (k : Nat) (most : Int) (i : Nat) : Int := drawV cells (k + i) (2 * most + 1) - most
noncomputable def fracV (cells : List Int) (k : Nat) (most : Int) : List Int :=
  if fracQ cells k most 1 * fracQ cells k most 2 = fracQ cells k most 0 * fracQ cells k most 3 then [if most > 1 then fracQ cells k most 0 else 0, 1, 1, 0] else [fracQ cells k most 0, fracQ cells k most 1, fracQ cells k most 2, fracQ cells k most 3]
noncomputable def FracOk (G : GC) (n : Nat) (cells : List Int) (k : Nat) (most : Int) : Prop :=
  ∃ a o fd, G.mg "_law_fraction" = some (.ref a) ∧ G.B.get? a = some o ∧ o.data = .func fd ∧ ∀ A, AOk n A → ∀ (W : Ws) s P v0 t, Ok G W s.heap → W P → PoolAt v0 k P s.heap → Told W s.heap v0 (dZ cells) → ∀ Q : Value → Shared → Prop,
    (∀ v h' tk, KpB (fun b => b = P) s.heap h' → PoolAt v0 (k + 4) P h' → Told W h' v (dZ (fracV cells k most)) → Q v { s with heap := h', toks := tk }) → wpAny (MM G) A (call (.ref a) [.ref P, .int most t]) Q Ef s

section
variable {G : GC}
theorem c_frac (D : G.Gd) {cells : List Int} {k : Nat} {most : Int} (hm : most = 1 ∨ most = 2) (hc : cells.length ≤ 1000) (hk : k ≤ 900) : FracOk G 2 cells k most := by
  have g := D.g
  have hf : sizeLine = 2 ^ 24 := rfl
  obtain ⟨a, o, pm, code, doc, hmg, ho, hdat, hcode⟩ := g.top.fn (dk 62) (D.df _ (by decide))
  refine ⟨a, o, _, hmg, ho, hdat, fun A hA W s P v0 t ok hP pool tv0 Q hQ => ?_⟩
  have scok : ScOk (dk 62).scope := ScOk.of rfl
  refine wpAny_call (call_cells_ret (binds := [("pool", .ref P), ("most", .int most t)]) (by have := hA.room; show A.depth < 1000; (first | lia | omega)) (ok.base _ _ ho) hdat (g.top.nolimit.keeps ok.base) (hcode.keeps ok.base) rfl ?_ ?_ scok.co scok.gen scok.kind)
  · intro x hx
    rcases List.mem_cons.mp hx with h | hx
    · subst h; exact .inr ⟨rfl, cellsFrom_some _ _ _ (.inl rfl)⟩
    · rw [List.mem_singleton.mp hx]; exact .inr ⟨rfl, cellsFrom_some _ _ _ (.inl rfl)⟩
  intro h1 tk F X
  have hA' : AIn 1 (A.deeper (envOfC (dk 62).name (dk 62).scope s.heap.objs.size a code)) := ⟨hA.deeper, by
    obtain ⟨l, e⟩ := hA.fr
    exact ⟨_, l, by show A.frames.map _ = _; rw [e]; rfl, rfl, rfl, scok.gen, scok.co⟩⟩
  have kp : Kp s.heap h1 := F.keep
  let L := s.heap.objs.size
  have hge : ∀ b, Mu (dk 62).scope L b → s.heap.objs.size ≤ b := fun b hb => by
    rcases hb with rfl | ⟨x, hx⟩
    · exact Nat.le_refl _
    · exact Nat.le_of_lt (X.above x b (PySem.mem_of_lookup hx))
  have hMn : ∀ b, Mu (dk 62).scope L b → s.heap.get? b = none := fun b hb => none_of_ge (hge b hb)
  obtain ⟨oP, hoP⟩ := ok.ex P hP
  have nMP : ¬ Mu (dk 62).scope L P := fun m => by rw [hMn P m] at hoP; cases hoP
  obtain ⟨tc, lP⟩ := pool
  have tP : ToldAll W s.heap [v0, .int (k : Nat) tc] [dZ cells, .int (k : Nat)] := .cons tv0 (.cons (.int _ _) .nil)
  have S : St G (dk 62).scope L [("most", .int most)] (OP cells k) (fun b => b = P) (fun b => W b ∧ b ≠ P) h1 := by
    refine ⟨scok, ⟨_, _, F.ns, X, fun x e hx => ?_, fun x pl es hx => ?_⟩, ⟨ok.base.trans kp, fun b hb => ?_, fun b hb => ?_⟩, fun b hb => hb ▸ nMP, fun b hb => ⟨fun m => (by obtain ⟨o, e⟩ := ok.ex b hb.1; rw [hMn b m] at e; cases e), hb.2⟩⟩
    · rw [val_bind (sc := (dk 62).scope) (k := (envOfC (dk 62).name (dk 62).scope s.heap.objs.size a code).kindOf) (fun _ => rfl)]
      by_cases h : x = "most"
      · subst h
        simp only [List.lookup_cons, beq_self_eq_true, Option.some.injEq] at hx
        subst hx
        exact ⟨.int most t, rfl, .int _ _⟩
      · have hb : (x == "most") = false := by simpa using h
        simp [List.lookup_cons, hb] at hx
    · rw [val_bind (sc := (dk 62).scope) (k := (envOfC (dk 62).name (dk 62).scope s.heap.objs.size a code).kindOf) (fun _ => rfl)]
      by_cases h : x = "pool"
      · subst h
        simp only [List.lookup_cons, beq_self_eq_true, Option.some.injEq, Prod.mk.injEq] at hx
        obtain ⟨rfl, rfl⟩ := hx
        refine ⟨P, [v0, .int (k : Nat) tc], rfl, rfl, ⟨isList_of lP fun o => kp _ o, fun q => by cases q⟩, (tP.weaken fun b hb => ?_).kp kp⟩
        rcases hb with h | h | h
        · exact .inr (hMn b h)
        · exact .inl (h ▸ hP)
        · exact .inl h.1
      · have hb : (x == "pool") = false := by simpa using h
        simp [List.lookup_cons, hb] at hx
    · rcases hb with h | h | h
      · rcases h with rfl | ⟨x, hx⟩
        · obtain ⟨o, _, _, ho, _⟩ := F.ns; exact ⟨o, ho⟩
        · obtain ⟨o, ho, _⟩ := X.cell x b hx; exact ⟨o, ho⟩
      · exact ⟨oP, h ▸ kp _ _ hoP⟩
      · obtain ⟨o, e⟩ := ok.ex b h.1; exact ⟨o, kp _ _ e⟩
    · rcases hb with h | h | h
      · exact Kp.none ok.base (hMn b h)
      · exact h ▸ ok.off P hP
      · exact ok.off b h.1
  have sQ : ∀ i, Sm 12 (fracQ cells k most i) ∧ True := fun i => ⟨by
    unfold fracQ
    have h3 : 0 < 2 * most + 1 := by (first | lia | omega)
    have h4 : 0 ≤ drawV cells (k + i) (2 * most + 1) ∧ drawV cells (k + i) (2 * most + 1) < 2 * most + 1 := by
      unfold drawV
      split
      · exact ⟨Int.fmod_nonneg_of_pos _ h3, Int.fmod_lt_of_pos _ h3⟩
      · exact ⟨Int.fmod_nonneg_of_pos _ h3, Int.fmod_lt_of_pos _ h3⟩
    exact Sm.of (by simp; (first | lia | omega)) (by simp; (first | lia | omega)), trivial⟩
  let Γ2 : Gam := [("q", .int (fracQ cells k most 0)), ("p", .int (fracQ cells k most 1)), ("s", .int (fracQ cells k most 2)), ("r", .int (fracQ cells k most 3)), ("most", .int most)]
  have post : ExS G true 1 (dk 62).name (dk 62).scope ((dk 62).body.drop 1) Γ2 [] (.ret (dZ (fracV cells k most))) := by
    refine exs_if (c := decide (fracQ cells k most 1 * fracQ cells k most 2 = fracQ cells k most 0 * fracQ cells k most 3)) (fun _ _ _ => TeE.conv (te_cmp (ev_mul (ev_name rfl (.inl rfl) rfl rfl) (ev_name rfl (.inl rfl) rfl rfl) ?_) (ev_mul (ev_name rfl (.inl rfl) rfl rfl) (ev_name rfl (.inl rfl) rfl rfl) ?_) cmp_eq rfl) ?_) (fun h => .inr ⟨_, rfl, exs_ret ?_⟩) (fun h => .inl ⟨exs_nil, exs_ret ?_⟩)
    · exact (sQ 1).1.ok (sQ 2).1 (by decide)
    · exact (sQ 0).1.ok (sQ 3).1 (by decide)
    · rw [Bool.eq_iff_iff]; simp
    · have h : fracQ cells k most 1 * fracQ cells k most 2 = fracQ cells k most 0 * fracQ cells k most 3 := by simpa using h
      refine (ex_ret fun _ _ _ => ev_list (evl4 (ev_if (d := .int (if most > 1 then fracQ cells k most 0 else 0)) (te_cmp (ev_name rfl (.inr (.inl rfl)) rfl rfl) ev_int cmp_gt rfl) (fun hc => ?_) (fun hc => ?_)) ev_int ev_int ev_int (fun _ => se_IfExp) (fun _ => se_Constant) (fun _ => se_Constant) (fun _ => se_Constant)) (Nat.le_of_ble_eq_true rfl)).conv' ?_
      · have hc : most > 1 := by simpa using hc
        exact EvE.conv (ev_name rfl (.inl rfl) rfl rfl) (by rw [if_pos hc])
      · have hc : ¬ most > 1 := by simpa using hc
        exact EvE.conv ev_int (by rw [if_neg hc])
      · unfold fracV; rw [if_pos h]; rfl
    · have h : ¬ fracQ cells k most 1 * fracQ cells k most 2 = fracQ cells k most 0 * fracQ cells k most 3 := by simpa using h
      refine (ex_ret fun _ _ _ => (ev_list (evl4 (ev_name rfl (.inl rfl) rfl rfl) (ev_name rfl (.inl rfl) rfl rfl) (ev_name rfl (.inl rfl) rfl rfl) (ev_name rfl (.inl rfl) rfl rfl) (fun _ => se_Name) (fun _ => se_Name) (fun _ => se_Name) (fun _ => se_Name)) (Nat.le_of_ble_eq_true rfl))).conv' ?_
      unfold fracV; rw [if_neg h]; rfl
  have hbody : (dk 62).body = stAt 62 0 :: (dk 62).body.drop 1 := rfl
  rw [hbody]
  have fin : ∀ (f : Flow) (s' : Shared), (match f with | .ret v => Q v s' | _ => False) → Q (match f with | .ret v => v | _ => .none) s' := fun f s' h => by
    cases f with
    | ret v => exact h
    | _ => exact h.elim
  refine wpAny_mono (Q := fun f s' => match f with | .ret v => Q v s' | _ => False) (E := Ef) ?_ (fun f s' h => fin f s' h) fun _ _ e => e.elim
  obtain ⟨v0', vm, N, hΓ, hv, pl, tv⟩ := S.poolOut (a := a) (cd := code)
  have hv0 : v0' = v0 := by
    obtain ⟨t', l'⟩ := pl
    have l1 : h1.IsList P #[v0, .int (k : Nat) tc] := isList_of lP fun o => kp _ o
    obtain ⟨o1, e1, c1, n1, d1⟩ := l'
    obtain ⟨o2, e2, c2, n2, d2⟩ := l1
    rw [e1] at e2; cases e2
    rw [d1] at d2
    have d3 : (#[v0', .int (k : Nat) t'] : Array Value) = #[v0, .int (k : Nat) tc] := by injection d2
    have := congrArg (fun x => x[0]?) d3
    simpa using this
  subst hv0
  refine wpAny_execs_cons (Assign_Tuple (comp_draws (many := 2 * most + 1) (c := most) (cnt := 4) (k0 := k) (x := "spot") (Γf := [("most", .int most)]) g (fun i => c_draw D (by (first | lia | omega)) hc) (by decide) rfl rfl (by decide) rfl ev_int rfl rfl (by decide) (fg_cons (by decide) rfl fg_nil) (fun _ _ => rfl) (fun _ _ => .inl rfl) (fun i C cl => ?_) (fun i C cl => (ev_name rfl (.inr (.inl rfl)) rfl rfl)) (fun _ _ _ => se_BinOp) hA' (s := { s with heap := h1, toks := tk }) S.se N hΓ hv (.inr (.inl rfl)) pl tv
    fun v h2 t2 k2 p2 T2 => ?_) (by rfl) (by rfl))
  · exact EvE.conv (ev_add (ev_mul ev_int (ev_name rfl (.inr (.inl rfl)) rfl rfl) (short_ok (Sm.of (by decide) (by decide)))) ev_int) rfl
  · have S2 := S.poolIn tv k2 p2
    refine tgt_list (xs := ["q", "p", "s", "r"]) (ps := [_, _, _, _]) (ds := [.int (fracQ cells k most 0), .int (fracQ cells k most 1), .int (fracQ cells k most 2), .int (fracQ cells k most 3)]) (all4 ⟨.inl rfl, rfl⟩ ⟨.inl rfl, rfl⟩ ⟨.inl rfl, rfl⟩ ⟨.inl rfl, rfl⟩) rfl rfl (fun _ _ _ => rfl) _ hA' L a code _ _ { s with heap := h2, toks := t2 } v S2 T2 _ fun h3 t3 k3 S3 => ?_
    have S4 := (S3.release).fewer (Γ1 := Γ2) (sub_cons rfl (sub_cons rfl (sub_cons rfl (sub_cons rfl (sub_cons rfl sub_nil)))))
    refine post _ hA' L a code _ _ { s with heap := h3, toks := t3 } S4 _ fun f h4 t4 p4 => ?_
    obtain ⟨k4, v', rfl, T4⟩ := p4
    refine hQ v' h4 t4 (fun c o nc e => ?_) ?_ (T4.weaken fun c hc => .inl ?_)
    · have nM : ¬ Mu (dk 62).scope L c := fun m => by rw [hMn c m] at e; cases e
      exact k4 c o (fun h => h.elim nM id) (k3 c o nM (k2 c o nc (kp c o e)))
    · obtain ⟨t', l'⟩ := p2
      exact ⟨t', isList_of (isList_of l' fun o e => k3 P o nMP e) fun o e => k4 P o (fun h => h.elim nMP id) e⟩
    · by_cases e : c = P
      · exact .inr e
      · exact .inl ⟨hc, e⟩
end
end Fco

-- FcAC
namespace Fco

theorem EvF.plain {G : GC} {n : Nat} {env : Env} {Γ : Gam} {O : Own} {e : Expr} {ds : List PyData} (h : EvF G n env Γ O true e ds) : EvF G n env Γ O false e ds := fun A hA W s S Q hQ =>
  h A hA W s S Q fun b vs h' tk k hb l t => hQ b vs h' tk k hb ⟨l.1, fun q => by cases q⟩ t

/-- the numbers that law draws -/
noncomputable def fOf (cells : List Int) : List Int := [drawV cells 0 7 - 3, drawV cells 1 7 - 3, drawV cells 2 7 - 3, 1 + drawV cells 3 3]
noncomputable def gOf (cells : List Int) : List Int := [drawV cells 4 7 - 3, drawV cells 5 7 - 3, 1 + drawV cells 6 2]

section
variable {G : GC} {n : Nat} {nm : Str} {sc : Scope} {Γ : Gam}

/-- an expression at a frame's level that draws from the pool -/
noncomputable def EvD (G : GC) (n : Nat) (nm : Str) (sc : Scope) (Γ : Gam) (cells : List Int) (e : Expr) (k k' : Nat) (d : PyData) : Prop :=
  ∀ A, AIn n A → ∀ L a cd W P s, St G sc L Γ (OP cells k) (fun b => b = P) W s.heap → ∀ Q : Value → Shared → Prop,
    (∀ v h' tk, KpB (fun b => b = P) s.heap h' → St G sc L Γ (OP cells k') (fun b => b = P) W h' → Told (FW sc L (fun b => b = P) W) h' v d → Q v { s with heap := h', toks := tk }) → wpAny (MM G) A (eval e (envOfC nm sc L a cd)) Q Ef s

theorem ed_cat {cells : List Int} {l r : Expr} {pos : Pos} {k k1 k2 : Nat} {ds es : List PyData} (hl : EvD G n nm sc Γ cells l k k1 (.list ds)) (hr : EvD G n nm sc Γ cells r k1 k2 (.list es)) (hsz : ds.length + es.length ≤ sizeLine) :
    EvD G n nm sc Γ cells (.BinOp l .Add r pos) k k2 (.list (ds ++ es)) := by
  intro A hA L a cd W P s S Q hQ
  refine wpAny_BinOp (hl A hA L a cd W P s S _ fun x h1 t1 k1' S1 T1 => hr A hA L a cd W P { s with heap := h1, toks := t1 } S1 _ fun y h2 t2 k2' S2 T2 => ?_)
  have T1' := T1.keep (k2'.mono (W' := FW sc L (fun b => b = P) W) fun b hb => .inr (.inl hb))
  have kk : KpB (fun b => b = P) s.heap h2 := k1'.trans k2'
  cases T1' with
  | list nw lx qx =>
    cases T2 with
    | list nw' ly qy =>
      obtain ⟨⟨cls, dd, data, sl⟩, ho, hc, n, hd⟩ := id lx
      obtain ⟨⟨cls2, dd2, data2, sl2⟩, ho2, hc2, n2, hd2⟩ := id ly
      simp only at hc hd hc2 hd2
      subst hc hd hc2 hd2
      refine concat_meets ⟨_, ho, rfl⟩ ⟨_, ho2, rfl⟩ noFill_list_add seq_list_add PySem.F.slot_list_add PySem.F.entry_list_add (PySem.F.args_list_add_2 _ _)
        (list_addW _ _ _ _ n n2 dd dd2 sl sl2 (by rw [size_arr qx, size_arr qy]; exact hsz)) ⟨ho, ho2, ?_⟩
      refine hQ _ _ _ (fun b o nb e => Kp.push _ _ b o (kk b o nb e)) (S2.kp (Kp.push _ _)) (.list S2.ok.fresh ⟨_, Heap.get?_push_size _ rfl, rfl, 0, ?_⟩ ((qx.append qy).kp (Kp.push _ _)))
      simp
theorem ed_list1 {cells : List Int} {e : Expr} {pos : Pos} {k k1 : Nat} {d : PyData} (h : EvD G n nm sc Γ cells e k k1 d) (hs : ∀ L a cd, starEach [e] (envOfC nm sc L a cd) = [(false, eval e (envOfC nm sc L a cd))]) : EvD G n nm sc Γ cells (.List [e] pos) k k1 (.list [d]) := by
  intro A hA L a cd W P s S Q hQ
  refine wpAny_List_spliced (args_cons (rest := []) (h A hA L a cd W P s S _ fun v h1 t1 k1' S1 T1 => args_nil ⟨by show 1 ≤ sizeLine; decide, ?_⟩) (by rw [hs]; rfl))
  exact hQ _ _ _ (fun b o nb e => Kp.push _ _ b o (k1' b o nb e)) (S1.kp (Kp.push _ _)) (told_new_list S1.ok (.cons T1 .nil))
theorem add_int' {A : Around} {s : Shared} {a b : Int} {t u : Tok} {Q : Value → Shared → Prop} (h : Q (.int (a + b) s.toks) { s with toks := s.toks + 1 }) : wpAny (MM G) A (binaryOp .Add (.int a t) (.int b u)) Q Ef s := P.add_int h
/-- c + a draw -/
theorem ed_plus (g : G.Good) {m : Nat} {cells : List Int} {k : Nat} {many c : Int} {ec em : Expr} {fp xp cp pos : Pos} (dr : DrawOk G m cells k many) (hm : m ≤ n) (hkf : ∀ L a cd, (envOfC nm sc L a cd).kindOf ("_law_draw" : Str) = some .globalImplicit) (hp : ∀ L a cd, (envOfC nm sc L a cd).kindOf ("pool" : Str) = some .cell ∨ (envOfC nm sc L a cd).kindOf ("pool" : Str) = some .free)
    (hc : ∀ L a cd, EvE G n (envOfC nm sc L a cd) Γ (OP cells k) ec (.int c)) (he : ∀ L a cd, EvE G n (envOfC nm sc L a cd) Γ (OP cells k) em (.int many)) (hse : ∀ L a cd rest, starEach (em :: rest) (envOfC nm sc L a cd) = (false, eval em (envOfC nm sc L a cd)) :: starEach rest (envOfC nm sc L a cd)) :
    EvD G n nm sc Γ cells (.BinOp ec .Add (.Call (.Name "_law_draw" fp) [.Name "pool" xp, em] [] cp) pos) k (k + 1) (.int (c + drawV cells k many)) := by
  intro A hA L a cd W P s S Q hQ
  refine wpAny_BinOp (hc L a cd A hA _ s S.se _ fun v h1 t1 k1 T1 => ?_)
  have S1 := S.kp k1
  obtain ⟨v0, vm, N, hΓ, hv, pl, tv⟩ := S1.poolOut (nm := nm) (a := a) (cd := cd)
  refine draw_ev g dr hm (hkf L a cd) (hp L a cd) (he L a cd) (hse L a cd) hA (s := { s with heap := h1, toks := t1 }) S1.se N hv S1.ok (.inr (.inl rfl)) pl tv fun h2 t2 t' k2 p2 => ?_
  cases T1
  refine Fco.add_int' (hQ _ h2 _ (fun b o nb e => k2 b o nb (k1 b o e)) (S1.poolIn tv k2 p2) (.int _ _))
/-- draws in a comprehension -/
theorem ed_comp (g : G.Good) {m : Nat} {Γf : Gam} {cells : List Int} {k0 cnt : Nat} {many c : Int} {em ec : Expr} {x : Str} {px fp xp cp bp rp rfp pos : Pos} {ie : Expr} {scope : Scope} (dr : ∀ i, DrawOk G m cells (k0 + i) many) (hm : m ≤ n)
    (co : compOkB scope = true) (hx : scope.names.lookup x = some .local) (hpl : scope.names.lookup ("pool" : Str) ≠ some .local) (hf : ∀ L a cd, freB scope (envOfC nm sc L a cd) = true) (hie : ∀ L a cd, EvE G n (envOfC nm sc L a cd) Γ (OP cells k0) ie (.int (cnt : Nat))) (hst : ∀ L a cd, starEach [ie] (envOfC nm sc L a cd) = [(false, eval ie (envOfC nm sc L a cd))]) (hkr : ∀ L a cd, (envOfC nm sc L a cd).kindOf ("range" : Str) = some .globalImplicit) (hcnt : cnt ≤ 1000)
    (hg : FG scope Γ Γf) (hkf : ∀ L a cd C cl, (compEnvC scope cl C (envOfC nm sc L a cd)).kindOf ("_law_draw" : Str) = some .globalImplicit) (hkp : ∀ L a cd C cl, (compEnvC scope cl C (envOfC nm sc L a cd)).kindOf ("pool" : Str) = some .cell ∨ (compEnvC scope cl C (envOfC nm sc L a cd)).kindOf ("pool" : Str) = some .free)
    (hem : ∀ L a cd (i : Nat) C cl, EvE G n (compEnvC scope cl C (envOfC nm sc L a cd)) ((x, .int (i : Nat)) :: Γf) [] em (.int many)) (hec : ∀ L a cd (i : Nat) C cl, EvE G n (compEnvC scope cl C (envOfC nm sc L a cd)) ((x, .int (i : Nat)) :: Γf) [] ec (.int c)) (hse : ∀ L a cd C cl rest, starEach (em :: rest) (compEnvC scope cl C (envOfC nm sc L a cd)) = (false, eval em (compEnvC scope cl C (envOfC nm sc L a cd))) :: starEach rest (compEnvC scope cl C (envOfC nm sc L a cd))) :
    EvD G n nm sc Γ cells (.ListComp (.BinOp (.Call (.Name "_law_draw" fp) [.Name "pool" xp, em] [] cp) .Sub ec bp) [⟨.Name x px, .Call (.Name "range" rfp) [ie] [] rp, [], 0⟩] scope pos) k0 (k0 + cnt) (dZ ((List.range cnt).map fun i => drawV cells (k0 + i) many - c)) := by
  intro A hA L a cd W P s S Q hQ
  obtain ⟨v0, vm, N, hΓ, hv, pl, tv⟩ := S.poolOut (nm := nm) (a := a) (cd := cd)
  refine comp_draws g dr hm co hx hpl (hf L a cd) (hie L a cd) (hst L a cd) (hkr L a cd) hcnt hg (hkf L a cd) (hkp L a cd) (hem L a cd) (hec L a cd) (hse L a cd) hA S.se N hΓ hv (.inr (.inl rfl)) pl tv fun v h' tk k' p' T' => ?_
  exact hQ v h' tk k' (S.poolIn tv k' p') T'
/-- a fraction drawn -/
theorem ed_frac (g : G.Good) {m : Nat} {cells : List Int} {k : Nat} {most : Int} {em : Expr} {fp xp cp : Pos} (fr : FracOk G m cells k most) (hm : m ≤ n) (hkf : ∀ L a cd, (envOfC nm sc L a cd).kindOf ("_law_fraction" : Str) = some .globalImplicit) (hp : ∀ L a cd, (envOfC nm sc L a cd).kindOf ("pool" : Str) = some .cell)
    (he : ∀ L a cd, EvE G n (envOfC nm sc L a cd) Γ (OP cells k) em (.int most)) (hse : ∀ L a cd rest, starEach (em :: rest) (envOfC nm sc L a cd) = (false, eval em (envOfC nm sc L a cd)) :: starEach rest (envOfC nm sc L a cd)) :
    EvD G n nm sc Γ cells (.Call (.Name "_law_fraction" fp) [.Name "pool" xp, em] [] cp) k (k + 4) (dZ (fracV cells k most)) := by
  intro A hA L ad cd W P s S Q hQ
  obtain ⟨v0, vm, N, hΓ, hv, pl, tv⟩ := S.poolOut (nm := nm) (a := ad) (cd := cd)
  obtain ⟨a, o, fd, hmg, ho, hdat, c⟩ := fr
  have hns : s.heap.Ns (envOfC nm sc L ad cd).globals G.mg := by rw [N.glob]; exact g.top.g.keeps S.ok.base
  refine Call_ (Name_function_global N.kind (hkf L ad cd) (loadGlobal_global hns hmg ?_) rfl)
  have load : ∀ (Q : Value → Shared → Prop), Q (.ref P) s → wpAny (MM G) A (eval (.Name "pool" xp) (envOfC nm sc L ad cd)) Q Ef s := fun Q h => by
    refine wpAny_Name ?_ rfl
    obtain ⟨c, hc⟩ := N.has _ (.inl (hp L ad cd))
    exact wpAny_loadName_cell N.kind (hp L ad cd) hc (hv ▸ N.cel _ c (.inl (hp L ad cd)) hc) h
  refine callWith_def hdat (args_cons (load _ (args_cons (rest := []) (he L ad cd A hA _ s S.se _ fun v h1 t1 k1 T1 => args_nil ⟨k1 _ _ (S.ok.base _ _ ho), ?_⟩) (by rw [hse]))) (by rw [se_Name])) se_Name
  cases T1
  obtain ⟨tc, lP⟩ := pl
  have S1 := S.kp k1
  refine c A (hA.toAOk.mono hm) _ { s with heap := h1, toks := t1 } P v0 _ S1.ok (.inr (.inl rfl)) ⟨tc, isList_of lP fun o => k1 _ o⟩ (tv.kp k1) Q fun v h2 t2 k2 p2 T2 => ?_
  exact hQ v h2 t2 (fun b o nb e => k2 b o nb (k1 b o e)) (S1.poolIn (tv.kp k1) k2 p2) T2
end
end Fco

-- FcAD
namespace Fco

section
variable {G : GC}
theorem assignD {n : Nat} {nm : Str} {sc : Scope} {Γ : Gam} {cells : List Int} {x : Str} {xp pos : Pos} {e : Expr} {k k' : Nat} {d : PyData} (hv : EvD G n nm sc Γ cells e k k' d) (hk : sc.names.lookup x = some .local ∨ sc.names.lookup x = some .cell) (hx : (OP cells k').lookup x = none)
    (hs : ∀ L a cd, swapsWith e (some (.Name x xp)) pos.line (envOfC nm sc L a cd) = pure false) {A : Around} (hA : AIn n A) {L a : Addr} {cd : Value} {W : Ws} {P : Addr} {s : Shared} (S : St G sc L Γ (OP cells k) (fun b => b = P) W s.heap) {Q : Flow → Shared → Prop}
    (h : ∀ h' tk, KpB (fun b => Mu sc L b ∨ b = P) s.heap h' → St G sc L ((x, d) :: Γ) (OP cells k') (fun b => b = P) W h' → Q .next { s with heap := h', toks := tk }) : wpAny (MM G) A (exec (.Assign [.Name x xp] e pos) (envOfC nm sc L a cd)) Q Ef s := by
  refine wpAny_Assign_Name (hv A hA L a cd W P s S _ fun v h1 t1 k1 S1 T1 => store_ok (s := { s with heap := h1, toks := t1 }) S1 T1 hk hx fun h2 t2 k2 S2 => ?_) (hs L a cd)
  exact h h2 t2 ((k1.mono fun _ x => .inr x).trans (k2.mono fun _ x => .inl x)) S2

theorem ed_tuple2 {n : Nat} {nm : Str} {sc : Scope} {Γ : Gam} {cells : List Int} {e1 e2 : Expr} {kv : Nat} {pos : Pos} {k k1 k2 : Nat} {d1 d2 : PyData} (h1 : EvD G n nm sc Γ cells e1 k k1 d1) (h2 : EvD G n nm sc Γ cells e2 k1 k2 d2)
    (hs1 : ∀ L a cd, starEach [e1, e2] (envOfC nm sc L a cd) = [(false, eval e1 (envOfC nm sc L a cd)), (false, eval e2 (envOfC nm sc L a cd))]) (hs2 : ∀ L a cd, starEach [e2] (envOfC nm sc L a cd) = [(false, eval e2 (envOfC nm sc L a cd))]) :
    EvD G n nm sc Γ cells (.Tuple [e1, e2] kv pos) k k2 (.tuple [d1, d2]) := by
  intro A hA L a cd W P s S Q hQ
  refine wpAny_Tuple_spliced (args_cons (h1 A hA L a cd W P s S _ fun v1 g1 t1 k1' S1 T1 => args_cons (rest := []) (h2 A hA L a cd W P { s with heap := g1, toks := t1 } S1 _ fun v2 g2 t2 k2' S2 T2 => args_nil ⟨by show 2 ≤ sizeLine; decide, ?_⟩) (by rw [hs2]; rfl)) (by rw [hs1, hs2]))
  have T1' := T1.keep (k2'.mono (W' := FW sc L (fun b => b = P) W) fun b hb => .inr (.inl hb))
  exact hQ _ _ _ (fun b o nb e => Kp.push _ _ b o (k2' b o nb (k1' b o nb e))) (S2.kp (Kp.push _ _)) (told_new_tuple S2.ok (.cons T1' (.cons T2 .nil)))

theorem assignSD {n : Nat} {nm : Str} {sc : Scope} {Γ : Gam} {cells : List Int} {elts : List Expr} {kn : Nat} {tp pos : Pos} {value : Expr} {xs : List Str} {k k' : Nat} {ds : List PyData} (hv : EvD G n nm sc Γ cells value k k' (.tuple ds))
    (hk : ∀ x ∈ xs, (sc.names.lookup x = some .local ∨ sc.names.lookup x = some .cell) ∧ (OP cells k').lookup x = none) (hl : xs.length = ds.length)
    (hs : ∀ L a cd, swapsWithSole [.Tuple elts kn tp] value pos.line (envOfC nm sc L a cd) = pure false) (hw : ∀ L a cd, swappedStores [.Tuple elts kn tp] value (envOfC nm sc L a cd) = pure (some xs))
    {A : Around} (hA : AIn n A) {L a : Addr} {cd : Value} {W : Ws} {P : Addr} {s : Shared} (S : St G sc L Γ (OP cells k) (fun b => b = P) W s.heap) {Q : Flow → Shared → Prop}
    (h : ∀ h' tk, KpB (fun b => Mu sc L b ∨ b = P) s.heap h' → St G sc L (StoreL xs.reverse ds.reverse Γ) (OP cells k') (fun b => b = P) W h' → Q .next { s with heap := h', toks := tk }) : wpAny (MM G) A (exec (.Assign [.Tuple elts kn tp] value pos) (envOfC nm sc L a cd)) Q Ef s := by
  refine Assign_Tuple_swapped (hv A hA L a cd W P s S _ fun v h1 t1 k1 S1 T1 => ?_) (hs L a cd) (hw L a cd)
  cases T1 with
  | tuple nw l q =>
    rename_i ax vs
    have e : xs.length = vs.toArray.size := by simp [q.length, hl]
    rw [e]
    refine wpAny_unpackItems_tuple hA.hh l fun h2 hx => ?_
    have k2 : Kp h1 h2 := fun b o e => hx b o (Nat.ne_of_lt (Heap.lt_size e)) e
    have S2 := S1.kp k2
    refine bind_names hk xs.reverse ds.reverse vs.reverse Γ (fun x h => List.mem_reverse.mp h) (by simpa using e) A hA L a cd W _ { s with heap := h2, toks := t1 } S2 (q.kp k2).reverse _ fun h3 t3 k3 S3 => ?_
    exact h h3 t3 (((k1.mono fun _ x => .inr x).trans (k2.toB _)).trans (k3.mono fun _ x => .inl x)) S3

/-- the first four statements of law: the draws -/
theorem law_start (D : G.Gd) {script : List Int} (hl : script.length ≤ sizeLine) {q p s r q' p' s' r' : Int} (hmv : fracV (script.take 15) 7 2 = [q, p, s, r]) (hot : fracV (script.take 15) 11 1 = [q', p', s', r'])
    {A : Around} (hA : AIn 12 A) {L a : Addr} {cd : Value} {sh : Shared} (S : St G (dk 67).scope L [("script", dZ script)] [] (fun _ => False) (fun _ => False) sh.heap) {Q : Flow → Shared → Prop}
    (h : ∀ P h' tk, sh.heap.get? P = none → KpB (fun b => Mu (dk 67).scope L b ∨ b = P) sh.heap h' → St G (dk 67).scope L [("f", dZ (fOf (script.take 15))), ("g", dZ (gOf (script.take 15))), ("move", dZ [q, p, s, r]), ("other", dZ [q', p', s', r'])] [] (fun _ => False) (fun b => b = P) h' →
      wpAny (MM G) A (execs ((dk 67).body.drop 4) (envOfC (dk 67).name (dk 67).scope L a cd)) Q Ef { sh with heap := h', toks := tk }) :
    wpAny (MM G) A (execs (dk 67).body (envOfC (dk 67).name (dk 67).scope L a cd)) Q Ef sh := by
  have g := D.g
  have hf : sizeLine = 2 ^ 24 := rfl
  have hl' : (script.map PyData.int).length ≤ sizeLine := by simpa using hl
  let cells := script.take 15
  have hcl : cells.length ≤ 1000 := by simp [cells]; (first | lia | omega)
  have hbody : (dk 67).body = stAt 67 0 :: stAt 67 1 :: stAt 67 2 :: stAt 67 3 :: (dk 67).body.drop 4 := rfl
  rw [hbody]
  have e0 : Ex1 G false 12 (dk 67).name (dk 67).scope (stAt 67 0) [("script", dZ script)] [] (.next [("script", dZ script)] (OP cells 0)) := by
    refine ex_assignF (fun _ _ _ => EvF.plain (evf_list (evl2 ?_ ev_int (fun _ => se_ListComp) (fun _ => se_Constant)) (by show 2 ≤ sizeLine; decide))) (by decide) rfl (fun _ _ _ => rfl)
    refine EvE.conv (ev_compN inj_int (xs := cells) (f := fun x => some (.int x)) (Γf := []) rfl rfl rfl (src_list (.inl rfl) (EvE.conv (ev_slice (ev_name rfl (.inl rfl) rfl rfl) evp_none (evp_some ev_int) evp_none ?_ (by decide)) ?_) go_name) (by (first | lia | omega)) (fun _ => rfl) fg_nil (fun x _ C cl => ?_)) ?_
    · exact hl'
    · rw [pick_take _ (by decide)]
      simp [cells]
    · show EvE _ _ _ _ _ _ _
      exact (ev_ty g (by decide) boot_int (by decide) rfl rfl (evl1 (ev_name rfl (.inl rfl) rfl rfl) (fun _ => se_Name)) se_Name (fun _ => rfl) c_int)
    · simp [dZ]
  have dr : ∀ (k : Nat) (many : Int), many ≠ 0 → DrawOk G 1 cells k many := fun k many hm => c_draw D hm hcl
  refine wpAny_execs_cons (e0 A hA L a cd _ _ sh S _ fun f h1 t1 p1 => ?_)
  obtain ⟨k1, rfl, oa1, o1, S1⟩ := p1
  obtain ⟨P, vs1, hP1, l1, T1, m1, cm1, ns1, cl1, c1, pv1⟩ := S1.own
  have hPn : sh.heap.get? P = none := (o1 P hP1).elim (fun f => f.elim) (fun h => h.2)
  have S1' : St G (dk 67).scope L [("script", dZ script)] (OP cells 0) (fun b => b = P) (fun _ => False) h1 := by
    refine ⟨S1.scok, ⟨m1, cm1, ns1, cl1, fun y d hy => let ⟨v, p, q⟩ := c1 y d hy; ⟨v, p, q.weaken fun b hb => .inl ?_⟩, fun y pl ds hy => ?_⟩, ⟨S1.ok.base, fun b hb => ?_, fun b hb => ?_⟩, fun b hb => hb ▸ S1.oL P hP1, fun _ h => h.elim⟩
    · rcases hb with h | h | h
      · exact .inl h
      · exact .inr (.inl (h ▸ hP1))
      · exact h.elim
    · by_cases e1 : y = "pool"
      · subst e1
        simp only [List.lookup_cons, beq_self_eq_true, Option.some.injEq, Prod.mk.injEq] at hy
        obtain ⟨rfl, rfl⟩ := hy
        refine ⟨P, vs1, pv1, rfl, l1, T1.weaken fun b hb => .inl ?_⟩
        rcases hb with h | h | h
        · exact .inl h
        · exact .inr (.inl (h ▸ hP1))
        · exact h.elim
      · have hb : (y == "pool") = false := by simpa using e1
        simp [List.lookup_cons, hb] at hy
    · rcases hb with h | h | h
      · exact S1.ok.ex b (.inl h)
      · exact S1.ok.ex b (.inr (.inl (h ▸ hP1)))
      · exact h.elim
    · rcases hb with h | h | h
      · exact S1.ok.off b (.inl h)
      · exact S1.ok.off b (.inr (.inl (h ▸ hP1)))
      · exact h.elim
  have kk1 : KpB (fun b => Mu (dk 67).scope L b ∨ b = P) sh.heap h1 := k1.mono fun b hb => hb.elim .inl fun f => f.elim
  refine wpAny_execs_cons (assignD (x := "f") (ed_cat (ed_comp g (k0 := 0) (cnt := 3) (many := 7) (c := 3) (x := "spot") (Γf := []) (fun i => dr _ 7 (by decide)) (by decide) rfl rfl (by decide) (fun _ _ _ => rfl) (fun _ _ _ => ev_int) (fun _ _ _ => rfl) (fun _ _ _ => rfl) (by decide) fg_nil (fun _ _ _ _ _ => rfl) (fun _ _ _ _ _ => .inl rfl) (fun _ _ _ _ _ _ => ev_int) (fun _ _ _ _ _ _ => ev_int) (fun _ _ _ _ _ _ => se_Constant))
    (ed_list1 (ed_plus g (k := 3) (many := 3) (c := 1) (dr 3 3 (by decide)) (by decide) (fun _ _ _ => rfl) (fun _ _ _ => .inl rfl) (fun _ _ _ => ev_int) (fun _ _ _ => ev_int) (fun _ _ _ _ => se_Constant)) (fun _ _ _ => rfl)) (by show 3 + 1 ≤ sizeLine; decide)) (.inl rfl) rfl (fun _ _ _ => rfl) hA (s := { sh with heap := h1, toks := t1 }) S1' fun h2 t2 k2 S2 => ?_)
  refine wpAny_execs_cons (assignD (x := "g") (ed_cat (ed_comp g (k0 := 4) (cnt := 2) (many := 7) (c := 3) (x := "spot") (Γf := []) (fun i => dr _ 7 (by decide)) (by decide) rfl rfl (by decide) (fun _ _ _ => rfl) (fun _ _ _ => ev_int) (fun _ _ _ => rfl) (fun _ _ _ => rfl) (by decide) fg_nil (fun _ _ _ _ _ => rfl) (fun _ _ _ _ _ => .inl rfl) (fun _ _ _ _ _ _ => ev_int) (fun _ _ _ _ _ _ => ev_int) (fun _ _ _ _ _ _ => se_Constant))
    (ed_list1 (ed_plus g (k := 6) (many := 2) (c := 1) (dr 6 2 (by decide)) (by decide) (fun _ _ _ => rfl) (fun _ _ _ => .inl rfl) (fun _ _ _ => ev_int) (fun _ _ _ => ev_int) (fun _ _ _ _ => se_Constant)) (fun _ _ _ => rfl)) (by show 2 + 1 ≤ sizeLine; decide)) (.inl rfl) rfl (fun _ _ _ => rfl) hA (s := { sh with heap := h2, toks := t2 }) S2 fun h3 t3 k3 S3 => ?_)
  have fr : ∀ (k : Nat) (most : Int), (most = 1 ∨ most = 2) → k ≤ 900 → FracOk G 2 cells k most := fun k most h1 h2 => c_frac D h1 hcl h2
  refine wpAny_execs_cons (assignSD (xs := ["move", "other"]) (ed_tuple2 (ed_frac g (k := 7) (most := 2) (fr 7 2 (.inr rfl) (by decide)) (by decide) (fun _ _ _ => rfl) (fun _ _ _ => rfl) (fun _ _ _ => ev_int) (fun _ _ _ _ => se_Constant)) (ed_frac g (k := 11) (most := 1) (fr 11 1 (.inl rfl) (by decide)) (by decide) (fun _ _ _ => rfl) (fun _ _ _ => rfl) (fun _ _ _ => ev_int) (fun _ _ _ _ => se_Constant)) (fun _ _ _ => rfl) (fun _ _ _ => rfl)) (all2 ⟨.inl rfl, rfl⟩ ⟨.inl rfl, rfl⟩) rfl (fun _ _ _ => rfl) (fun _ _ _ => rfl) hA (s := { sh with heap := h3, toks := t3 }) S3 fun h4 t4 k4 S4 => ?_)
  refine h P h4 _ hPn (((kk1.trans k2).trans k3).trans k4) ?_
  have S5 := S4.release
  rw [show fracV cells 7 2 = [q, p, s, r] from hmv, show fracV cells 11 1 = [q', p', s', r'] from hot] at S5
  have S6 := S5.fewer (Γ1 := [("f", dZ (fOf cells)), ("g", dZ (gOf cells)), ("move", dZ [q, p, s, r]), ("other", dZ [q', p', s', r'])]) (sub_cons rfl (sub_cons rfl (sub_cons rfl (sub_cons rfl sub_nil))))
  have eW : (fun b : Addr => False ∨ b = P) = (fun b => b = P) := funext fun b => by simp
  exact eW ▸ S6
end
end Fco

-- FcAE
namespace Fco

/-- what the plain law has to bring -/
structure LawF (G : GC) (f g : List Int) (q p s r q' p' s' r' : Int) : Prop where
  lf : f.length = 4
  lg : g.length = 3
  sf : SmL 12 f
  sg : SmL 12 g
  sm : SmL 12 [q, p, s, r]
  so : SmL 12 [q', p', s', r']
  sby : Sm 30 (p * s - q * r)
  lw : (zPut f 3 q p s r).length ≤ 4
  lp : (zPut g 2 q p s r).length ≤ 3
  sw : SmL 12 (zPut f 3 q p s r)
  sp : SmL 12 (zPut g 2 q p s r)
  oft1 : r ≠ 0 → ∃ k : Nat, CallOk G 2 "_law_often" [dZ f, .int p, .int r] (.int (k : Nat)) ∧ ((zPut f 3 q p s r).length : Int) = 4 - k
  oft1' : r = 0 → (zPut f 3 q p s r).length = 4
  oft2 : r ≠ 0 → ∃ k : Nat, CallOk G 2 "_law_often" [dZ g, .int p, .int r] (.int (k : Nat)) ∧ ((zPut g 2 q p s r).length : Int) = 3 - k
  oft2' : r = 0 → (zPut g 2 q p s r).length = 3
  told1 : ∃ d, CallOk G 9 "_law_told" [dZ (zPut f 3 q p s r), .int (3 : Nat)] (.int (d * (p * s - q * r) ^ 6)) ∧ CallOk G 8 "discriminant" [dZ f] (.int d) ∧ Sm 1000 d
  told2 : ∃ d, CallOk G 9 "_law_told" [dZ (zPut g 2 q p s r), .int (2 : Nat)] (.int (d * (p * s - q * r) ^ 2)) ∧ CallOk G 8 "discriminant" [dZ g] (.int d) ∧ Sm 1000 d
  both : ∃ d, CallOk G 8 "_law_both" [dZ (zPut f 3 q p s r), dZ (zPut g 2 q p s r)] (.int (d * (p * s - q * r) ^ 6)) ∧ CallOk G 7 "resultant" [dZ f, dZ g] (.int d) ∧ Sm 1000 d
  back : zPut (zPut f 3 q p s r) 3 (0 - q) s p (0 - r) = zScale f ((p * s - q * r) ^ 3)
  l1 : (zPut [q, p] 1 q' p' s' r').length ≤ 2
  l2 : (zPut [s, r] 1 q' p' s' r').length ≤ 2
  comp : ∃ b0 b1 b2 b3, zPut [q, p] 1 q' p' s' r' ++ List.replicate (2 - (zPut [q, p] 1 q' p' s' r').length) 0 ++ zPut [s, r] 1 q' p' s' r' ++ List.replicate (2 - (zPut [s, r] 1 q' p' s' r').length) 0 = [b0, b1, b2, b3] ∧ SmL 12 [b0, b1, b2, b3] ∧ zPut (zPut f 3 q p s r) 3 q' p' s' r' = zPut f 3 b0 b1 b2 b3
  fc : ∃ T B A1 B1, CallOk G 8 "fmake" [dP (toP (zT [q, p])), dP (toP (zT [s, r]))] (dF T B) ∧ CallOk G 10 "fcompose" [.tuple [dP (toP g), dP [1]], dF T B] (dF A1 B1) ∧ CallOk G 8 "fmake" [dP (toP (zPut g 2 q p s r)), dP (toP (zPow (zT [s, r]) 2))] (dF A1 B1)
  stays : CallOk G 11 "_law_stays" [dZ [q', p', s', r']] (.bool true)

theorem all3 {P : Str → Prop} {a b c : Str} (x : P a) (y : P b) (z : P c) : ∀ x ∈ [a, b, c], P x := fun w hw => by
  rcases List.mem_cons.mp hw with h | hw
  · exact h ▸ x
  rcases List.mem_cons.mp hw with h | hw
  · exact h ▸ y
  · rw [List.mem_singleton.mp hw]; exact z

section
variable {G : GC}

noncomputable abbrev gR (q p s r : Int) (df dg dw dp dother : PyData) : Gam := [("q", .int q), ("p", .int p), ("s", .int s), ("r", .int r), ("by", .int (p * s - q * r)), ("f", df), ("g", dg), ("whole", dw), ("part", dp), ("other", dother)]
theorem law_turn (D : G.Gd) {row made : List Int} {mn : Nat} {q p s r : Int} {df dg dw dp dother : PyData}
    (hmn : mn ≤ 3) (hl : made.length ≤ 8) (sby : Sm 30 (p * s - q * r)) (h1 : r ≠ 0 → ∃ k : Nat, CallOk G 2 "_law_often" [dZ row, .int p, .int r] (.int (k : Nat)) ∧ (made.length : Int) = (mn : Int) + 1 - k) (h1' : r = 0 → made.length = mn + 1)
    {e : Nat} (he : e = mn * (mn - 1)) (h2 : ∃ d, CallOk G 9 "_law_told" [dZ made, .int (mn : Nat)] (.int (d * (p * s - q * r) ^ e)) ∧ CallOk G 8 "discriminant" [dZ row] (.int d) ∧ Sm 1000 d) (h1m : 1 ≤ mn) :
    ExS G true 12 (dk 67).name (dk 67).scope (match stAt 67 6 with | .For _ _ b _ _ => b | _ => []) (("many", .int (mn : Nat)) :: ("made", dZ made) :: ("row", dZ row) :: gR q p s r df dg dw dp dother) [] (.next (gR q p s r df dg dw dp dother) []) := by
  have g := D.g
  have hf : sizeLine = 2 ^ 24 := rfl
  have hl' : (made.map PyData.int).length ≤ sizeLine := by first | exact mapS ‹_› | exact map8 ‹_› | exact map8 (Nat.le_trans ‹_› ‹_›) | (simp; (first | lia | omega))
  obtain ⟨d, c1, c2, sd⟩ := h2
  have e3 : (((mn : Nat) : Int) * (((mn : Nat) : Int) - 1)) = ((e : Nat) : Int) := by
    subst he
    have : ((mn : Int) - 1) = ((mn - 1 : Nat) : Int) := by (first | lia | omega)
    rw [this]; rfl
  have he6 : e ≤ 6 := by
    have h : mn = 1 ∨ mn = 2 ∨ mn = 3 := by (first | lia | omega)
    rcases h with h | h | h <;> subst h <;> subst he <;> decide
  refine exs_if (c := false) (fun _ _ _ => ?_) (fun h => nomatch h) (fun _ => .inl ⟨exs_nil, ?_⟩)
  · by_cases hr : r = 0
    · refine TeE.conv (te_cmp (ev_fn g (by decide) boot_len (by decide) rfl rfl (evl1 (ev_name rfl (.inl rfl) rfl rfl) (fun _ => se_Name)) se_Name (fun _ => rfl) (c_len hl' (.inl rfl))) (ev_sub (ev_add (ev_name rfl (.inl rfl) rfl rfl) ev_int) (ev_if (c := true) (d := .int 0) (TeE.conv (te_cmp (ev_name rfl (.inl rfl) rfl rfl) ev_int cmp_eq rfl) ?_) (fun _ => ev_int) (fun h => nomatch h))) cmp_ne rfl) ?_
      · simp [hr]
      · have := h1' hr
        simp; (first | lia | omega)
    · obtain ⟨k, ck, hk⟩ := h1 hr
      refine TeE.conv (te_cmp (ev_fn g (by decide) boot_len (by decide) rfl rfl (evl1 (ev_name rfl (.inl rfl) rfl rfl) (fun _ => se_Name)) se_Name (fun _ => rfl) (c_len hl' (.inl rfl))) (ev_sub (ev_add (ev_name rfl (.inl rfl) rfl rfl) ev_int) (ev_if (c := false) (d := .int (k : Nat)) (TeE.conv (te_cmp (ev_name rfl (.inl rfl) rfl rfl) ev_int cmp_eq rfl) ?_) (fun h => nomatch h) (fun _ => (ev_call g (ck) (by decide) rfl rfl (evl3 (ev_name rfl (.inl rfl) rfl rfl) (ev_name rfl (.inl rfl) rfl rfl) (ev_name rfl (.inl rfl) rfl rfl) (fun _ => se_Name) (fun _ => se_Name) (fun _ => se_Name)) se_Name)))) cmp_ne rfl) ?_
      · simpa using hr
      · simp; (first | lia | omega)
  refine exs_if (c := false) (Γ1 := ("many", .int (mn : Nat)) :: ("made", dZ made) :: ("row", dZ row) :: gR q p s r df dg dw dp dother) (O1 := []) (fun _ _ _ => TeE.conv (te_cmp (ev_call g (c1) (by decide) rfl rfl (evl2 (ev_name rfl (.inl rfl) rfl rfl) (ev_name rfl (.inl rfl) rfl rfl) (fun _ => se_Name) (fun _ => se_Name)) se_Name) (ev_mul (ev_call g (c2) (by decide) rfl rfl (evl1 (ev_name rfl (.inl rfl) rfl rfl) (fun _ => se_Name)) se_Name) (EvE.conv (d' := .int ((p * s - q * r) ^ e)) (ev_pow (ev_name rfl (.inl rfl) rfl rfl) (ev_mul (ev_name rfl (.inl rfl) rfl rfl) (ev_sub (ev_name rfl (.inl rfl) rfl rfl) ev_int) ?_) ?_ ?_) ?_) ?_) cmp_ne rfl) ?_) (fun h => nomatch h) (fun _ => .inl ⟨exs_nil, exs_nil.post (sub_cons rfl (sub_cons rfl (sub_cons rfl (sub_cons rfl (sub_cons rfl (sub_cons rfl (sub_cons rfl (sub_cons rfl (sub_cons rfl (sub_cons rfl sub_nil))))))))))⟩)
  · exact Sm.ok (k := 2) (l := 3) (by unfold Sm; (first | lia | omega)) (by unfold Sm; (first | lia | omega)) (by decide)
  · rw [e3]; (first | lia | omega)
  · rw [e3]; exact sby.powOk (by (first | lia | omega))
  · rw [e3]; rfl
  · exact sd.ok (sby.pow e) (by (first | lia | omega))
  · simp

theorem law_rest (D : G.Gd) {f gg : List Int} {q p s r q' p' s' r' : Int} (F : LawF G f gg q p s r q' p' s' r') :
    ExS G true 12 (dk 67).name (dk 67).scope ((dk 67).body.drop 4) [("f", dZ f), ("g", dZ gg), ("move", dZ [q, p, s, r]), ("other", dZ [q', p', s', r'])] [] (.ret (.bool true)) := by
  have g := D.g
  have hf : sizeLine = 2 ^ 24 := rfl
  have lf := F.lf
  have lg := F.lg
  have lw := F.lw
  have lp := F.lp
  have sq : ∀ x ∈ [q, p, s, r], Sm 12 x := F.sm
  have hq : Sm 12 q := sq q (by simp)
  have hp : Sm 12 p := sq p (by simp)
  have hs : Sm 12 s := sq s (by simp)
  have hr : Sm 12 r := sq r (by simp)
  have hbody : (dk 67).body.drop 4 = stAt 67 4 :: stAt 67 5 :: stAt 67 6 :: stAt 67 7 :: stAt 67 8 :: stAt 67 9 :: stAt 67 10 :: stAt 67 11 :: stAt 67 12 :: stAt 67 13 :: [stAt 67 14] := rfl
  rw [hbody]
  let W := zPut f 3 q p s r
  let P := zPut gg 2 q p s r
  have lW : W.length ≤ 4 := lw
  have lP : P.length ≤ 3 := lp
  refine exs_cons (ex_assignT (fun _ _ _ => (ev_name rfl (.inl rfl) rfl rfl)) (tgt_list (xs := ["q", "p", "s", "r"]) (ps := [_, _, _, _]) (ds := [.int q, .int p, .int s, .int r]) (all4 ⟨.inl rfl, rfl⟩ ⟨.inl rfl, rfl⟩ ⟨.inl rfl, rfl⟩ ⟨.inl rfl, rfl⟩) rfl rfl (fun _ _ _ => rfl)) (fun _ _ _ => rfl) (fun _ _ _ => rfl)) ?_
  refine exs_cons ((ex_assignS (xs := ["by", "whole", "part"]) (ds := [.int (p * s - q * r), dZ W, dZ P]) (fun _ _ _ => (ev_tuple (evl3 (ev_sub (ev_mul (ev_name rfl (.inl rfl) rfl rfl) (ev_name rfl (.inl rfl) rfl rfl) ?_) (ev_mul (ev_name rfl (.inl rfl) rfl rfl) (ev_name rfl (.inl rfl) rfl rfl) ?_)) (ev_call g (c_put D (f := f) (many := 3) (by (first | lia | omega)) (by decide) F.sf F.sm) (by decide) rfl rfl (evl3 (ev_name rfl (.inl rfl) rfl rfl) ev_int (ev_name rfl (.inl rfl) rfl rfl) (fun _ => se_Name) (fun _ => se_Constant) (fun _ => se_Name)) se_Name) (ev_call g (c_put D (f := gg) (many := 2) (by (first | lia | omega)) (by decide) F.sg F.sm) (by decide) rfl rfl (evl3 (ev_name rfl (.inl rfl) rfl rfl) ev_int (ev_name rfl (.inl rfl) rfl rfl) (fun _ => se_Name) (fun _ => se_Constant) (fun _ => se_Name)) se_Name) (fun _ => se_BinOp) (fun _ => se_Call) (fun _ => se_Call)) (Nat.le_of_ble_eq_true rfl))) (all3 ⟨.inl rfl, rfl⟩ ⟨.inl rfl, rfl⟩ ⟨.inl rfl, rfl⟩) rfl (fun _ _ _ => rfl) (fun _ _ _ => rfl)).post (Γ2 := gR q p s r (dZ f) (dZ gg) (dZ W) (dZ P) (dZ [q', p', s', r'])) (sub_cons rfl (sub_cons rfl (sub_cons rfl (sub_cons rfl (sub_cons rfl (sub_cons rfl (sub_cons rfl (sub_cons rfl (sub_cons rfl (sub_cons rfl sub_nil))))))))))) ?_
  · exact hp.ok hs (by decide)
  · exact hq.ok hr (by decide)
  refine exs_cons (ex_for (ds := [.tuple [dZ f, dZ W, .int (3 : Nat)], .tuple [dZ gg, dZ P, .int (2 : Nat)]]) (fun _ _ _ => src_list (.inr rfl) (EvE.conv (ev_tuple (evl2 (ev_tuple (evl3 (ev_name rfl (.inl rfl) rfl rfl) (ev_name rfl (.inl rfl) rfl rfl) ev_int (fun _ => se_Name) (fun _ => se_Name) (fun _ => se_Constant)) (Nat.le_of_ble_eq_true rfl)) (ev_tuple (evl3 (ev_name rfl (.inl rfl) rfl rfl) (ev_name rfl (.inl rfl) rfl rfl) ev_int (fun _ => se_Name) (fun _ => se_Name) (fun _ => se_Constant)) (Nat.le_of_ble_eq_true rfl)) (fun _ => se_Tuple) (fun _ => se_Tuple)) (Nat.le_of_ble_eq_true rfl)) rfl) go_tuple) (for_cons (tgt_tuple (xs := ["row", "made", "many"]) (ps := [_, _, _]) (ds := [dZ f, dZ W, .int (3 : Nat)]) (all3 ⟨.inl rfl, rfl⟩ ⟨.inl rfl, rfl⟩ ⟨.inl rfl, rfl⟩) rfl rfl (fun _ _ _ => rfl)) (law_turn D (mn := 3) (by decide) (by (first | lia | omega)) F.sby F.oft1 F.oft1' (e := 6) rfl F.told1 (by decide)) (for_cons (tgt_tuple (xs := ["row", "made", "many"]) (ps := [_, _, _]) (ds := [dZ gg, dZ P, .int (2 : Nat)]) (all3 ⟨.inl rfl, rfl⟩ ⟨.inl rfl, rfl⟩ ⟨.inl rfl, rfl⟩) rfl rfl (fun _ _ _ => rfl)) (law_turn D (mn := 2) (by decide) (by (first | lia | omega)) F.sby F.oft2 F.oft2' (e := 2) rfl F.told2 (by decide)) for_nil))) ?_
  obtain ⟨bd, cb, cr, sd⟩ := F.both
  refine exs_if (c := false) (fun _ _ _ => TeE.conv (te_cmp (ev_call g (cb) (by decide) rfl rfl (evl2 (ev_name rfl (.inl rfl) rfl rfl) (ev_name rfl (.inl rfl) rfl rfl) (fun _ => se_Name) (fun _ => se_Name)) se_Name) (ev_mul (ev_call g (cr) (by decide) rfl rfl (evl2 (ev_name rfl (.inl rfl) rfl rfl) (ev_name rfl (.inl rfl) rfl rfl) (fun _ => se_Name) (fun _ => se_Name)) se_Name) (ev_pow (ev_name rfl (.inl rfl) rfl rfl) ev_int ?_ ?_) ?_) cmp_ne rfl) ?_) (fun h => nomatch h) (fun _ => .inl ⟨exs_nil, ?_⟩)
  · decide
  · exact F.sby.powOk (n := 6) (by decide)
  · exact sd.ok (F.sby.pow 6) (by decide)
  · rw [show Int.toNat 6 = 6 from rfl]; simp
  have s4 : SmL 12 [0 - q, s, p, 0 - r] := fun x hx => by
    have n : ∀ y, Sm 12 y → Sm 12 (0 - y) := fun y h => by rw [Int.zero_sub]; exact h.neg
    have hx : x = 0 - q ∨ x = s ∨ x = p ∨ x = 0 - r := by simpa using hx
    rcases hx with h | h | h | h <;> rw [h]
    · exact n q hq
    · exact hs
    · exact hp
    · exact n r hr
  refine exs_if (c := false) (fun _ _ _ => TeE.conv (te_cmp (ev_call g (c_put D (f := W) (many := 3) (by (first | lia | omega)) (by decide) F.sw s4) (by decide) rfl rfl (evl3 (ev_name rfl (.inl rfl) rfl rfl) ev_int (ev_list (evl4 (ev_sub ev_int (ev_name rfl (.inl rfl) rfl rfl)) (ev_name rfl (.inl rfl) rfl rfl) (ev_name rfl (.inl rfl) rfl rfl) (ev_sub ev_int (ev_name rfl (.inl rfl) rfl rfl)) (fun _ => se_BinOp) (fun _ => se_Name) (fun _ => se_Name) (fun _ => se_BinOp)) (Nat.le_of_ble_eq_true rfl)) (fun _ => se_Name) (fun _ => se_Constant) (fun _ => se_List)) se_Name) (ev_call g (c_zscale D (l := f) (k := (p * s - q * r) ^ Int.toNat 3) (B := 1000) (by (first | lia | omega)) (F.sf.mono (by decide)) ((F.sby.pow 3).mono (by decide)) (by decide)) (by decide) rfl rfl (evl2 (ev_name rfl (.inl rfl) rfl rfl) (ev_pow (ev_name rfl (.inl rfl) rfl rfl) ev_int ?_ ?_) (fun _ => se_Name) (fun _ => se_BinOp)) se_Name) (cmp_data_ne (shaped_dZ _) (shaped_dZ _)) rfl) ?_) (fun h => nomatch h) (fun _ => .inl ⟨exs_nil, ?_⟩)
  · decide
  · exact F.sby.powOk (n := 3) (by decide)
  · rw [eqv_dZ, show Int.toNat 3 = 3 from rfl, show zPut W 3 (0 - q) s p (0 - r) = _ from F.back]; simp
  have sqp : SmL 12 [q, p] := fun x hx => F.sm x (by
    have hx : x = q ∨ x = p := by simpa using hx
    rcases hx with h | h <;> simp [h])
  have ssr : SmL 12 [s, r] := fun x hx => F.sm x (by
    have hx : x = s ∨ x = r := by simpa using hx
    rcases hx with h | h <;> simp [h])
  obtain ⟨b0, b1, b2, b3, hb1, hb2, hb3⟩ := F.comp
  have l1 := F.l1
  have l2 := F.l2
  let one := zPut [q, p] 1 q' p' s' r'
  let two := zPut [s, r] 1 q' p' s' r'
  have l1' : (one.map PyData.int).length ≤ 2 := by rw [List.length_map]; exact l1
  have l2' : (two.map PyData.int).length ≤ 2 := by rw [List.length_map]; exact l2
  refine exs_cons ((ex_assignS (xs := ["one", "two"]) (ds := [dZ one, dZ two]) (fun _ _ _ => (ev_tuple (evl2 (ev_call g (c_put D (f := [q, p]) (many := 1) (Nat.le_refl 2) (by decide) sqp F.so) (by decide) rfl rfl (evl3 (ev_list (evl2 (ev_name rfl (.inl rfl) rfl rfl) (ev_name rfl (.inl rfl) rfl rfl) (fun _ => se_Name) (fun _ => se_Name)) (Nat.le_of_ble_eq_true rfl)) ev_int (ev_name rfl (.inl rfl) rfl rfl) (fun _ => se_List) (fun _ => se_Constant) (fun _ => se_Name)) se_List) (ev_call g (c_put D (f := [s, r]) (many := 1) (Nat.le_refl 2) (by decide) ssr F.so) (by decide) rfl rfl (evl3 (ev_list (evl2 (ev_name rfl (.inl rfl) rfl rfl) (ev_name rfl (.inl rfl) rfl rfl) (fun _ => se_Name) (fun _ => se_Name)) (Nat.le_of_ble_eq_true rfl)) ev_int (ev_name rfl (.inl rfl) rfl rfl) (fun _ => se_List) (fun _ => se_Constant) (fun _ => se_Name)) se_List) (fun _ => se_Call) (fun _ => se_Call)) (Nat.le_of_ble_eq_true rfl))) (all2 ⟨.inl rfl, rfl⟩ ⟨.inl rfl, rfl⟩) rfl (fun _ _ _ => rfl) (fun _ _ _ => rfl)).post (Γ2 := ("one", dZ one) :: ("two", dZ two) :: gR q p s r (dZ f) (dZ gg) (dZ W) (dZ P) (dZ [q', p', s', r'])) (sub_cons rfl (sub_cons rfl (sub_cons rfl (sub_cons rfl (sub_cons rfl (sub_cons rfl (sub_cons rfl (sub_cons rfl (sub_cons rfl (sub_cons rfl (sub_cons rfl (sub_cons rfl sub_nil))))))))))))) ?_
  refine exs_cons ((ex_assign (d := dZ [b0, b1, b2, b3]) (fun _ _ _ => EvE.conv (ev_cat (ev_cat (ev_cat (ev_name rfl (.inl rfl) rfl rfl) (ev_rep ev_int (ev_sub ev_int (ev_fn g (by decide) boot_len (by decide) rfl rfl (evl1 (ev_name rfl (.inl rfl) rfl rfl) (fun _ => se_Name)) se_Name (fun _ => rfl) (c_len ?_ (.inl rfl)))) rfl ?_ ?_) ?_) (ev_name rfl (.inl rfl) rfl rfl) ?_) (ev_rep ev_int (ev_sub ev_int (ev_fn g (by decide) boot_len (by decide) rfl rfl (evl1 (ev_name rfl (.inl rfl) rfl rfl) (fun _ => se_Name)) se_Name (fun _ => rfl) (c_len ?_ (.inl rfl)))) rfl ?_ ?_) ?_) ?_) (by decide) rfl (fun _ _ _ => rfl)).post (Γ2 := ("both", dZ [b0, b1, b2, b3]) :: gR q p s r (dZ f) (dZ gg) (dZ W) (dZ P) (dZ [q', p', s', r'])) (sub_cons rfl (sub_cons rfl (sub_cons rfl (sub_cons rfl (sub_cons rfl (sub_cons rfl (sub_cons rfl (sub_cons rfl (sub_cons rfl (sub_cons rfl (sub_cons rfl sub_nil)))))))))))) ?_
  · (first | lia | omega)
  · (first | lia | omega)
  · (first | lia | omega)
  · rw [List.length_replicate]; (first | lia | omega)
  · rw [List.length_append, List.length_replicate]; (first | lia | omega)
  · (first | lia | omega)
  · (first | lia | omega)
  · (first | lia | omega)
  · rw [List.length_append, List.length_append, List.length_replicate, List.length_replicate]; (first | lia | omega)
  · have n1 : (2 - ((one.map PyData.int).length : Int)).toNat = 2 - one.length := by rw [List.length_map]; (first | lia | omega)
    have n2 : (2 - ((two.map PyData.int).length : Int)).toNat = 2 - two.length := by rw [List.length_map]; (first | lia | omega)
    rw [n1, n2]
    show PyData.list _ = PyData.list ([b0, b1, b2, b3].map .int)
    rw [← hb1]
    simp only [List.map_append, List.map_replicate]
    rfl
  refine exs_if (c := false) (fun _ _ _ => TeE.conv (te_cmp (ev_call g (c_put D (f := W) (many := 3) (by (first | lia | omega)) (by decide) F.sw F.so) (by decide) rfl rfl (evl3 (ev_name rfl (.inl rfl) rfl rfl) ev_int (ev_name rfl (.inl rfl) rfl rfl) (fun _ => se_Name) (fun _ => se_Constant) (fun _ => se_Name)) se_Name) (ev_call g (c_put D (f := f) (many := 3) (by (first | lia | omega)) (by decide) F.sf hb2) (by decide) rfl rfl (evl3 (ev_name rfl (.inl rfl) rfl rfl) ev_int (ev_name rfl (.inl rfl) rfl rfl) (fun _ => se_Name) (fun _ => se_Constant) (fun _ => se_Name)) se_Name) (cmp_data_ne (shaped_dZ _) (shaped_dZ _)) rfl) ?_) (fun h => nomatch h) (fun _ => .inl ⟨exs_nil, ?_⟩)
  · rw [eqv_dZ, show zPut W 3 q' p' s' r' = _ from hb3]; simp
  obtain ⟨T, B, A1, B1, k1, k2, k3⟩ := F.fc
  have t1 : (zT [q, p]).length ≤ 2 := zT_le [q, p]
  have t2 : (zT [s, r]).length ≤ 2 := zT_le [s, r]
  have t3 := zPow_sz (k := 2) t2 ssr.zT (by decide)
  refine exs_cons (ex_assign (d := dF A1 B1) (fun _ _ _ => (ev_call g (k2) (by decide) rfl rfl (evl2 (ev_tuple (evl2 (ev_call g (c_fromz D (l := gg) (by (first | lia | omega))) (by decide) rfl rfl (evl1 (ev_name rfl (.inl rfl) rfl rfl) (fun _ => se_Name)) se_Name) (ev_list (evl1 (ev_global g g.r1 rfl rfl) (fun _ => se_Name)) (Nat.le_of_ble_eq_true rfl)) (fun _ => se_Call) (fun _ => se_List)) (Nat.le_of_ble_eq_true rfl)) (ev_call g (k1) (by decide) rfl rfl (evl2 (ev_call g (c_fromz D (l := zT [q, p]) (by (first | lia | omega))) (by decide) rfl rfl (evl1 (ev_call g (c_ztrim D (l := [q, p]) (Nat.le_of_ble_eq_true rfl)) (by decide) rfl rfl (evl1 (ev_list (evl2 (ev_name rfl (.inl rfl) rfl rfl) (ev_name rfl (.inl rfl) rfl rfl) (fun _ => se_Name) (fun _ => se_Name)) (Nat.le_of_ble_eq_true rfl)) (fun _ => se_List)) se_List) (fun _ => se_Call)) se_Call) (ev_call g (c_fromz D (l := zT [s, r]) (by (first | lia | omega))) (by decide) rfl rfl (evl1 (ev_call g (c_ztrim D (l := [s, r]) (Nat.le_of_ble_eq_true rfl)) (by decide) rfl rfl (evl1 (ev_list (evl2 (ev_name rfl (.inl rfl) rfl rfl) (ev_name rfl (.inl rfl) rfl rfl) (fun _ => se_Name) (fun _ => se_Name)) (Nat.le_of_ble_eq_true rfl)) (fun _ => se_List)) se_List) (fun _ => se_Call)) se_Call) (fun _ => se_Call) (fun _ => se_Call)) se_Call) (fun _ => se_Tuple) (fun _ => se_Call)) se_Tuple)) (by decide) rfl (fun _ _ _ => rfl)) ?_
  refine exs_if (c := false) (fun _ _ _ => TeE.conv (te_cmp (ev_name rfl (.inl rfl) rfl rfl) (ev_call g (k3) (by decide) rfl rfl (evl2 (ev_call g (c_fromz D (l := P) (by (first | lia | omega))) (by decide) rfl rfl (evl1 (ev_name rfl (.inl rfl) rfl rfl) (fun _ => se_Name)) se_Name) (ev_call g (c_fromz D (l := zPow (zT [s, r]) 2) (by (first | lia | omega))) (by decide) rfl rfl (evl1 (ev_call g (c_zpower D (p := zT [s, r]) (k := 2) (by (first | lia | omega)) ssr.zT (by decide) (by decide) (by decide)) (by decide) rfl rfl (evl2 (ev_call g (c_ztrim D (l := [s, r]) (Nat.le_of_ble_eq_true rfl)) (by decide) rfl rfl (evl1 (ev_list (evl2 (ev_name rfl (.inl rfl) rfl rfl) (ev_name rfl (.inl rfl) rfl rfl) (fun _ => se_Name) (fun _ => se_Name)) (Nat.le_of_ble_eq_true rfl)) (fun _ => se_List)) se_List) ev_int (fun _ => se_Call) (fun _ => se_Constant)) se_Call) (fun _ => se_Call)) se_Call) (fun _ => se_Call) (fun _ => se_Call)) se_Call) (cmp_data_ne (shaped_dF _ _) (shaped_dF _ _)) rfl) ?_) (fun h => nomatch h) (fun _ => .inl ⟨exs_nil, ?_⟩)
  · rw [eqv_dF]; simp
  exact exs_ret (ex_ret fun _ _ _ => (ev_call g (F.stays) (by decide) rfl rfl (evl1 (ev_name rfl (.inl rfl) rfl rfl) (fun _ => se_Name)) se_Name))
end
end Fco

-- FcAF
namespace Fco
section
variable {G : GC}
theorem law_done (D : G.Gd) {script : List Int} (hl : script.length ≤ 63)
    (hp : ∃ q p s r q' p' s' r', fracV (script.take 15) 7 2 = [q, p, s, r] ∧ fracV (script.take 15) 11 1 = [q', p', s', r'] ∧ LawF G (fOf (script.take 15)) (gOf (script.take 15)) q p s r q' p' s' r')
    {A : Around} (hA : AIn 12 A) {L a : Addr} {cd : Value} {sh : Shared} (S : St G (dk 67).scope L [("script", dZ script)] [] (fun _ => False) (fun _ => False) sh.heap) {Q : Flow → Shared → Prop}
    (h : ∀ h' tk, Kp G.B h' → Q (.ret (.bool true)) { sh with heap := h', toks := tk }) :
    wpAny (MM G) A (execs (dk 67).body (envOfC (dk 67).name (dk 67).scope L a cd)) Q Ef sh := by
  have hf : sizeLine = 2 ^ 24 := rfl
  obtain ⟨q, p, s, r, q', p', s', r', hm, ho, F⟩ := hp
  refine law_start D (by (first | lia | omega)) hm ho hA S fun P h1 t1 hP k1 S1 => ?_
  refine law_rest D F A hA L a cd _ _ { sh with heap := h1, toks := t1 } S1 _ fun f h2 t2 p2 => ?_
  obtain ⟨k2, v, rfl, T2⟩ := p2
  cases T2
  refine h h2 t2 fun b o e => ?_
  have nM : ¬ Mu (dk 67).scope L b := fun m => by rw [S.ok.off b (.inl m)] at e; cases e
  have e1 := S.ok.base b o e
  exact k2 b o (fun x => x.elim nM id) (k1 b o (fun x => x.elim nM fun y => by rw [y, hP] at e1; cases e1) e1)
end
end Fco

-- FpA
namespace Fco

-- coefficients
theorem zSz_spec (l : List Int) : ∀ k, (∀ i, zSz l k ≤ i → i < k → l.getD i 0 = 0) ∧ (zSz l k = 0 ∨ l.getD (zSz l k - 1) 0 ≠ 0)
  | 0 => ⟨fun i _ h => absurd h (Nat.not_lt_zero _), .inl rfl⟩
  | k + 1 => by
    unfold zSz
    have ih := zSz_spec l k
    split
    · rename_i h
      refine ⟨fun i h1 h2 => ?_, ih.2⟩
      by_cases e : i = k
      · rw [e]; exact h
      · exact ih.1 i h1 (by (first | lia | omega))
    · rename_i h
      exact ⟨fun i h1 h2 => absurd h2 (by (first | lia | omega)), .inr (by simpa using h)⟩
theorem cf_ge {l : List Int} {i : Nat} (h : l.length ≤ i) : l.getD i 0 = 0 := by
  rw [List.getD_eq_getElem?_getD, List.getElem?_eq_none h]; rfl
theorem cf_zT (l : List Int) (i : Nat) : (zT l).getD i 0 = l.getD i 0 := by
  unfold zT
  by_cases h : i < zSz l l.length
  · rw [List.getD_eq_getElem?_getD, List.getElem?_take_of_lt h, List.getD_eq_getElem?_getD]
  · have h1 : (l.take (zSz l l.length)).getD i 0 = 0 := cf_ge (by rw [List.length_take]; (first | lia | omega))
    rw [h1]
    by_cases h2 : i < l.length
    · exact ((zSz_spec l l.length).1 i (by (first | lia | omega)) h2).symm
    · exact (cf_ge (by (first | lia | omega))).symm
noncomputable def Tr (l : List Int) : Prop := l = [] ∨ zLd l ≠ 0
theorem zT_len (l : List Int) : (zT l).length = zSz l l.length := by
  unfold zT; rw [List.length_take]; have := zSz_le l l.length; (first | lia | omega)
theorem Tr_zT (l : List Int) : Tr (zT l) := by
  rcases (zSz_spec l l.length).2 with h | h
  · left; unfold zT; rw [h]; rfl
  · right
    unfold zLd
    rw [zT_len, cf_zT]; exact h
theorem ext_len {a b : List Int} (ha : Tr a) (h : ∀ i, a.getD i 0 = b.getD i 0) : a.length ≤ b.length := by
  rcases ha with e | e
  · simp [e]
  · apply Classical.byContradiction
    intro hl
    apply e
    unfold zLd
    rw [h]; exact cf_ge (by (first | lia | omega))
theorem Tr.ext {a b : List Int} (ha : Tr a) (hb : Tr b) (h : ∀ i, a.getD i 0 = b.getD i 0) : a = b := by
  have hl : a.length = b.length := Nat.le_antisymm (ext_len ha h) (ext_len hb fun i => (h i).symm)
  apply List.ext_getElem hl
  intro i h1 h2
  have := h i
  rw [List.getD_eq_getElem?_getD, List.getD_eq_getElem?_getD, List.getElem?_eq_getElem h1, List.getElem?_eq_getElem h2] at this
  simpa using this
theorem cf_zAdd (a b : List Int) (i : Nat) : (zAdd a b).getD i 0 = a.getD i 0 + b.getD i 0 := by
  unfold zAdd
  rw [cf_zT]
  by_cases h : i < max a.length b.length
  · exact zAddL_get a b h
  · rw [cf_ge (by rw [zAddL_len]; (first | lia | omega)), cf_ge (l := a) (by (first | lia | omega)), cf_ge (l := b) (by (first | lia | omega))]; rfl
theorem Tr_zAdd (a b : List Int) : Tr (zAdd a b) := Tr_zT _
theorem cf_zNeg (a : List Int) (i : Nat) : (zNeg a).getD i 0 = -(a.getD i 0) := getD_map_neg a i
theorem cf_zSub (a b : List Int) (i : Nat) : (zSub a b).getD i 0 = a.getD i 0 - b.getD i 0 := by
  unfold zSub; rw [cf_zAdd, cf_zNeg, Int.sub_eq_add_neg]
theorem cf_zScale (a : List Int) (k : Int) (i : Nat) : (zScale a k).getD i 0 = a.getD i 0 * k := by
  unfold zScale
  split
  · rename_i h; rw [h]; simp
  · exact getD_map_mul a k i
theorem cf_zRaise (a : List Int) (k i : Nat) : (zRaise a k).getD i 0 = if i < k then 0 else a.getD (i - k) 0 := by
  unfold zRaise
  split
  · rename_i h; rw [h]; simp
  · simp only [List.getD_eq_getElem?_getD]
    split
    · rename_i h
      rw [List.getElem?_append_left (by simpa using h)]
      simp [h]
    · rename_i h
      rw [List.getElem?_append_right (by simp; (first | lia | omega))]
      simp

/-- the product's coefficients -/
noncomputable def cv : List Int → List Int → Nat → Int
  | [], _, _ => 0
  | x :: _, b, 0 => x * b.getD 0 0
  | x :: a, b, k + 1 => x * b.getD (k + 1) 0 + cv a b k

theorem cf_mulRow (left : Int) (one : Nat) : ∀ (b : List Int) (n : Nat) (fd : List Int), one + n + b.length ≤ fd.length → ∀ k, ((b.zipIdx n).foldl (fun fd p => fd.set (one + p.2) (fd.getD (one + p.2) 0 + left * p.1)) fd).getD k 0 = fd.getD k 0 + if one + n ≤ k then left * b.getD (k - (one + n)) 0 else 0
  | [], n, fd, _, k => by simp
  | x :: b, n, fd, h, k => by
    rw [List.zipIdx_cons, List.foldl_cons]
    simp only [List.length_cons] at h
    rw [cf_mulRow left one b (n + 1) _ (by simp; (first | lia | omega)) k]
    simp only [List.getD_eq_getElem?_getD, List.getElem?_set]
    by_cases h1 : one + n = k
    · subst h1
      have h2 : one + n < fd.length := by (first | lia | omega)
      have h3 : ¬ n + 1 ≤ n := by (first | lia | omega)
      simp [h2, h3]
    · by_cases h2 : one + n ≤ k
      · obtain ⟨j, rfl⟩ : ∃ j, k = one + n + (j + 1) := ⟨k - (one + n) - 1, by (first | lia | omega)⟩
        have e1 : one + n + (j + 1) - (one + (n + 1)) = j := by (first | lia | omega)
        have e2 : one + n + (j + 1) - (one + n) = j + 1 := by (first | lia | omega)
        have e3 : one + (n + 1) ≤ one + n + (j + 1) := by (first | lia | omega)
        have e4 : one + n ≤ one + n + (j + 1) := by (first | lia | omega)
        simp [e1, e2, e3]
      · have e3 : ¬ one + (n + 1) ≤ k := by (first | lia | omega)
        simp [h1, h2, e3]
theorem cf_zMulF (b : List Int) : ∀ (a : List Int) (n : Nat) (fd : List Int), n + a.length + b.length ≤ fd.length + 1 → ∀ k, ((a.zipIdx n).foldl (fun fd p => if p.1 = 0 then fd else mulRow p.1 p.2 b fd) fd).getD k 0 = fd.getD k 0 + if n ≤ k then cv a b (k - n) else 0
  | [], n, fd, _, k => by simp [cv]
  | x :: a, n, fd, h, k => by
    rw [List.zipIdx_cons, List.foldl_cons]
    simp only [List.length_cons] at h
    have step : ∀ j, (if x = 0 then fd else mulRow x n b fd).getD j 0 = fd.getD j 0 + if n ≤ j then x * b.getD (j - n) 0 else 0 := by
      intro j
      split
      · rename_i h0; rw [h0]; simp
      · unfold mulRow
        have := cf_mulRow x n b 0 fd (by (first | lia | omega)) j
        simpa using this
    have hl : (if x = 0 then fd else mulRow x n b fd).length = fd.length := by
      split
      · rfl
      · exact mulRow_len _ _ _ _
    show ((a.zipIdx (n + 1)).foldl (fun fd p => if p.1 = 0 then fd else mulRow p.1 p.2 b fd) (if x = 0 then fd else mulRow x n b fd)).getD k 0 = _
    rw [cf_zMulF b a (n + 1) _ (by rw [hl]; (first | lia | omega)) k, step k]
    by_cases h1 : n ≤ k
    · obtain ⟨j, rfl⟩ : ∃ j, k = n + j := ⟨k - n, by (first | lia | omega)⟩
      cases j with
      | zero =>
        have e : ¬ n + 1 ≤ n := by (first | lia | omega)
        simp [e, cv]
      | succ j =>
        have e1 : n + (j + 1) - (n + 1) = j := by (first | lia | omega)
        have e2 : n + (j + 1) - n = j + 1 := by (first | lia | omega)
        have e3 : n + 1 ≤ n + (j + 1) := by (first | lia | omega)
        rw [if_pos (by (first | lia | omega)), if_pos (by (first | lia | omega)), if_pos (by (first | lia | omega)), e1, e2]
        show _ = _ + (x * b.getD (j + 1) 0 + cv a b j)
        (first | lia | omega)
    · rw [if_neg h1, if_neg (by (first | lia | omega))]; (first | lia | omega)
theorem cv_zero (a b : List Int) : cv a b 0 = a.getD 0 0 * b.getD 0 0 := by
  cases a with
  | nil => simp [cv]
  | cons x a => simp [cv]
theorem cv_succ (a b : List Int) (k : Nat) : cv a b (k + 1) = a.getD 0 0 * b.getD (k + 1) 0 + cv a.tail b k := by
  cases a with
  | nil => simp [cv]
  | cons x a => simp [cv]
theorem cf_tail (a : List Int) (k : Nat) : a.tail.getD k 0 = a.getD (k + 1) 0 := by
  cases a with
  | nil => simp
  | cons x a => simp
theorem cv_nilR : ∀ (a : List Int) (k : Nat), cv a [] k = 0
  | [], _ => rfl
  | x :: a, 0 => by simp [cv]
  | x :: a, k + 1 => by simp [cv, cv_nilR a k]
theorem cf_zMul (a b : List Int) (k : Nat) : (zMul a b).getD k 0 = cv a b k := by
  unfold zMul
  split
  · rename_i h
    rcases h with h | h
    · rw [h]; rfl
    · rw [h, cv_nilR]; rfl
  · rename_i h
    have h1 : a ≠ [] := fun e => h (.inl e)
    have h2 := List.length_pos_iff.mpr h1
    unfold zMulL
    have := cf_zMulF b a 0 (List.replicate (a.length + b.length - 1) 0) (by simp; (first | lia | omega)) k
    have e0 : (List.replicate (a.length + b.length - 1) (0 : Int)).getD k 0 = 0 := by
      simp only [List.getD_eq_getElem?_getD, List.getElem?_replicate]; split <;> rfl
    rw [e0] at this
    simpa using this
end Fco

-- FpB
namespace Fco

theorem cv_big : ∀ (a b : List Int) (k : Nat), a.length + b.length ≤ k + 1 → cv a b k = 0
  | [], _, _, _ => rfl
  | x :: a, b, 0, h => by
    have : b.length = 0 := by simp at h; (first | lia | omega)
    have e : b = [] := List.length_eq_zero_iff.mp this
    simp [cv, e]
  | x :: a, b, k + 1, h => by
    simp only [List.length_cons] at h
    show x * b.getD (k + 1) 0 + cv a b k = 0
    rw [cf_ge (by (first | lia | omega)), cv_big a b k (by (first | lia | omega))]; simp
theorem zMul_len' (a b : List Int) : (zMul a b).length ≤ a.length + b.length - 1 := by
  unfold zMul
  split
  · simp
  · rw [zMulL_len]; exact Nat.le_refl _
theorem zPow_len {p : List Int} (hp : p.length ≤ 2) {k : Nat} (hk : k ≤ 3) : (zPow p k).length ≤ k + 1 := by
  have h1 := zMul_len' [1] p
  have h2 := zMul_len' p p
  have h3 := zMul_len' [1] (zMul p p)
  have h4 := zMul_len' (zMul [1] p) (zMul p p)
  simp only [List.length_cons, List.length_nil] at h1 h3
  have h : k = 0 ∨ k = 1 ∨ k = 2 ∨ k = 3 := by (first | lia | omega)
  rcases h with h | h | h | h <;> subst h
  · show ([1] : List Int).length ≤ 1; simp
  · show (zMul [1] p).length ≤ 2; (first | lia | omega)
  · show (zMul [1] (zMul p p)).length ≤ 3; (first | lia | omega)
  · show (zMul (zMul [1] p) (zMul p p)).length ≤ 4; (first | lia | omega)
theorem cv_one (p : List Int) (k : Nat) : cv [1] p k = p.getD k 0 := by
  cases k with
  | zero => simp [cv]
  | succ k => simp [cv]

/-- coefficients of the powers of a line -/
noncomputable def lpL (m0 m1 : Int) : Nat → List Int
  | 0 => [1]
  | 1 => [m0, m1]
  | 2 => [m0 ^ 2, 2 * m0 * m1, m1 ^ 2]
  | _ => [m0 ^ 3, 3 * m0 ^ 2 * m1, 3 * m0 * m1 ^ 2, m1 ^ 3]
noncomputable def lp (m0 m1 : Int) (j k : Nat) : Int := (lpL m0 m1 j).getD k 0
theorem cv0 (a b : List Int) : cv a b 0 = a.getD 0 0 * b.getD 0 0 := cv_zero a b
theorem cv1 (a b : List Int) : cv a b 1 = a.getD 0 0 * b.getD 1 0 + a.getD 1 0 * b.getD 0 0 := by rw [cv_succ, cv_zero, cf_tail]
theorem cv2 (a b : List Int) : cv a b 2 = a.getD 0 0 * b.getD 2 0 + (a.getD 1 0 * b.getD 1 0 + a.getD 2 0 * b.getD 0 0) := by rw [cv_succ, cv1, cf_tail, cf_tail]
theorem cv3 (a b : List Int) : cv a b 3 = a.getD 0 0 * b.getD 3 0 + (a.getD 1 0 * b.getD 2 0 + (a.getD 2 0 * b.getD 1 0 + a.getD 3 0 * b.getD 0 0)) := by rw [cv_succ, cv2, cf_tail, cf_tail, cf_tail]
theorem cf_zPow {m0 m1 : Int} {p : List Int} (h0 : p.getD 0 0 = m0) (h1 : p.getD 1 0 = m1) (hl : p.length ≤ 2) {j : Nat} (hj : j ≤ 3) (k : Nat) : (zPow p j).getD k 0 = lp m0 m1 j k := by
  have z : ∀ n, p.getD (n + 2) 0 = 0 := fun n => cf_ge (Nat.le_trans hl (Nat.le_add_left 2 n))
  have q : ∀ i, (zMul [1] p).getD i 0 = p.getD i 0 := fun i => by rw [cf_zMul, cv_one]
  have l2 := zMul_len' p p
  match j, hj with
  | 0, _ => rfl
  | 1, _ =>
    show (zMul [1] p).getD k 0 = [m0, m1].getD k 0
    rw [q]
    match k with
    | 0 => exact h0
    | 1 => exact h1
    | n + 2 => exact z n
  | 2, _ =>
    show (zMul [1] (zMul p p)).getD k 0 = [m0 ^ 2, 2 * m0 * m1, m1 ^ 2].getD k 0
    rw [cf_zMul, cv_one, cf_zMul]
    match k with
    | 0 => rw [cv0, h0]; show _ = m0 ^ 2; grind
    | 1 => rw [cv1, h0, h1]; show _ = 2 * m0 * m1; grind
    | 2 => rw [cv2, h0, h1, z 0]; show _ = m1 ^ 2; grind
    | n + 3 => rw [cv_big _ _ _ (by (first | lia | omega))]; rfl
  | 3, _ =>
    show (zMul (zMul [1] p) (zMul p p)).getD k 0 = [m0 ^ 3, 3 * m0 ^ 2 * m1, 3 * m0 * m1 ^ 2, m1 ^ 3].getD k 0
    rw [cf_zMul]
    match k with
    | 0 => rw [cv0, q, cf_zMul, cv0, h0]; show _ = m0 ^ 3; grind
    | 1 => rw [cv1, q, q, cf_zMul, cf_zMul, cv0, cv1, h0, h1]; show _ = 3 * m0 ^ 2 * m1; grind
    | 2 => rw [cv2, q, q, q, cf_zMul, cf_zMul, cf_zMul, cv0, cv1, cv2, h0, h1, z 0]; show _ = 3 * m0 * m1 ^ 2; grind
    | 3 => rw [cv3, q, q, q, q, cf_zMul, cf_zMul, cf_zMul, cf_zMul, cv1 p p, cv2 p p, cv3 p p, h0, h1, z 0, z 1]; show _ = m1 ^ 3; grind
    | n + 4 =>
      have l3 := zMul_len' [1] p
      simp only [List.length_cons, List.length_nil] at l3
      rw [cv_big _ _ _ (by (first | lia | omega))]; rfl

noncomputable def sumT (t : Nat → Int) : List Int → Nat → Int
  | [], _ => 0
  | x :: f, n => t n * x + sumT t f (n + 1)
theorem cf_putF (many : Nat) (m0 m1 m2 m3 : Int) (k : Nat) : ∀ (f : List Int) (n : Nat) (acc : List Int), ((f.zipIdx n).foldl (fun fd p => zAdd fd (putTerm many m0 m1 m2 m3 p)) acc).getD k 0 = acc.getD k 0 + sumT (fun i => cv (zPow (zT [m0, m1]) i) (zPow (zT [m2, m3]) (many - i)) k) f n
  | [], n, acc => by simp [sumT]
  | x :: f, n, acc => by
    rw [List.zipIdx_cons, List.foldl_cons, cf_putF many m0 m1 m2 m3 k f (n + 1), cf_zAdd]
    unfold putTerm
    rw [cf_zScale, cf_zMul]
    show _ = _ + (_ + _)
    rw [Int.add_assoc]
theorem Tr_putF (many : Nat) (m0 m1 m2 m3 : Int) : ∀ (l : List (Int × Nat)) (acc : List Int), Tr acc → Tr (l.foldl (fun fd p => zAdd fd (putTerm many m0 m1 m2 m3 p)) acc)
  | [], _, h => h
  | p :: l, acc, _ => by rw [List.foldl_cons]; exact Tr_putF many m0 m1 m2 m3 l _ (Tr_zAdd _ _)
theorem Tr_zPut (f : List Int) (many : Nat) (m0 m1 m2 m3 : Int) : Tr (zPut f many m0 m1 m2 m3) := Tr_putF _ _ _ _ _ _ _ (.inl rfl)

theorem sumT4 (t : Nat → Int) {f : List Int} (h : f.length ≤ 4) : sumT t f 0 = t 0 * f.getD 0 0 + t 1 * f.getD 1 0 + t 2 * f.getD 2 0 + t 3 * f.getD 3 0 := by
  match f, h with
  | [], _ => simp [sumT]
  | [a], _ => simp [sumT]
  | [a, b], _ => simp [sumT]
  | [a, b, c], _ => simp [sumT]; (first | lia | omega)
  | [a, b, c, d], _ => simp [sumT]; (first | lia | omega)
  | a :: b :: c :: d :: e :: l, h => simp at h
theorem sumT3 (t : Nat → Int) {f : List Int} (h : f.length ≤ 3) : sumT t f 0 = t 0 * f.getD 0 0 + t 1 * f.getD 1 0 + t 2 * f.getD 2 0 := by
  rw [sumT4 t (by (first | lia | omega)), cf_ge (l := f) (i := 3) h]; (first | lia | omega)
theorem sumT2 (t : Nat → Int) {f : List Int} (h : f.length ≤ 2) : sumT t f 0 = t 0 * f.getD 0 0 + t 1 * f.getD 1 0 := by
  rw [sumT3 t (by (first | lia | omega)), cf_ge (l := f) (i := 2) h]; (first | lia | omega)

-- the moved forms' numbers
noncomputable def w30 (f0 f1 f2 f3 q p s r : Int) : Int := f0 * s ^ 3 + f1 * (q * s ^ 2) + f2 * (q ^ 2 * s) + f3 * q ^ 3
noncomputable def w31 (f0 f1 f2 f3 q p s r : Int) : Int := f0 * (3 * s ^ 2 * r) + f1 * (p * s ^ 2 + 2 * q * s * r) + f2 * (2 * q * p * s + q ^ 2 * r) + f3 * (3 * q ^ 2 * p)
noncomputable def w32 (f0 f1 f2 f3 q p s r : Int) : Int := f0 * (3 * s * r ^ 2) + f1 * (2 * p * s * r + q * r ^ 2) + f2 * (p ^ 2 * s + 2 * q * p * r) + f3 * (3 * q * p ^ 2)
noncomputable def w33 (f0 f1 f2 f3 q p s r : Int) : Int := f0 * r ^ 3 + f1 * (p * r ^ 2) + f2 * (p ^ 2 * r) + f3 * p ^ 3
noncomputable def w20 (g0 g1 g2 q p s r : Int) : Int := g0 * s ^ 2 + g1 * (q * s) + g2 * q ^ 2
noncomputable def w21 (g0 g1 g2 q p s r : Int) : Int := g0 * (2 * s * r) + g1 * (p * s + q * r) + g2 * (2 * q * p)
noncomputable def w22 (g0 g1 g2 q p s r : Int) : Int := g0 * r ^ 2 + g1 * (p * r) + g2 * p ^ 2

theorem zT2_0 (a b : Int) : (zT [a, b]).getD 0 0 = a := by rw [cf_zT]; rfl
theorem zT2_1 (a b : Int) : (zT [a, b]).getD 1 0 = b := by rw [cf_zT]; rfl

theorem zPut3 {f : List Int} (hf : f.length ≤ 4) (q p s r : Int) : zPut f 3 q p s r = zT [w30 (f.getD 0 0) (f.getD 1 0) (f.getD 2 0) (f.getD 3 0) q p s r, w31 (f.getD 0 0) (f.getD 1 0) (f.getD 2 0) (f.getD 3 0) q p s r, w32 (f.getD 0 0) (f.getD 1 0) (f.getD 2 0) (f.getD 3 0) q p s r, w33 (f.getD 0 0) (f.getD 1 0) (f.getD 2 0) (f.getD 3 0) q p s r] := by
  refine (Tr_zPut _ _ _ _ _ _).ext (Tr_zT _) fun k => ?_
  rw [cf_zT]
  unfold zPut
  rw [cf_putF, sumT4 _ hf]
  have c1 : ∀ {j} (_ : j ≤ 3) k, (zPow (zT [q, p]) j).getD k 0 = lp q p j k := fun h k => cf_zPow (zT2_0 q p) (zT2_1 q p) (zT_le _) h k
  have c2 : ∀ {j} (_ : j ≤ 3) k, (zPow (zT [s, r]) j).getD k 0 = lp s r j k := fun h k => cf_zPow (zT2_0 s r) (zT2_1 s r) (zT_le _) h k
  have b1 : ∀ {j} (_ : j ≤ 3), (zPow (zT [q, p]) j).length ≤ j + 1 := fun h => zPow_len (zT_le _) h
  have b2 : ∀ {j} (_ : j ≤ 3), (zPow (zT [s, r]) j).length ≤ j + 1 := fun h => zPow_len (zT_le _) h
  have hk : k = 0 ∨ k = 1 ∨ k = 2 ∨ k = 3 ∨ 4 ≤ k := by (first | lia | omega)
  generalize f.getD 0 0 = f0
  generalize f.getD 1 0 = f1
  generalize f.getD 2 0 = f2
  generalize f.getD 3 0 = f3
  rcases hk with rfl | rfl | rfl | rfl | hk
  · simp only [cv0, c1 (j := 0) (by decide), c1 (j := 1) (by decide), c1 (j := 2) (by decide), c1 (j := 3) (by decide), c2 (j := 0) (by decide), c2 (j := 1) (by decide), c2 (j := 2) (by decide), c2 (j := 3) (by decide), Nat.sub_zero, Nat.reduceSub, lp, lpL, List.getD_cons_zero, List.getD_cons_succ, List.getD_nil]
    show _ = w30 f0 f1 f2 f3 q p s r
    unfold w30; grind
  · simp only [cv1, c1 (j := 0) (by decide), c1 (j := 1) (by decide), c1 (j := 2) (by decide), c1 (j := 3) (by decide), c2 (j := 0) (by decide), c2 (j := 1) (by decide), c2 (j := 2) (by decide), c2 (j := 3) (by decide), Nat.sub_zero, Nat.reduceSub, lp, lpL, List.getD_cons_zero, List.getD_cons_succ, List.getD_nil]
    show _ = w31 f0 f1 f2 f3 q p s r
    unfold w31; grind
  · simp only [cv2, c1 (j := 0) (by decide), c1 (j := 1) (by decide), c1 (j := 2) (by decide), c1 (j := 3) (by decide), c2 (j := 0) (by decide), c2 (j := 1) (by decide), c2 (j := 2) (by decide), c2 (j := 3) (by decide), Nat.sub_zero, Nat.reduceSub, lp, lpL, List.getD_cons_zero, List.getD_cons_succ, List.getD_nil]
    show _ = w32 f0 f1 f2 f3 q p s r
    unfold w32; grind
  · simp only [cv3, c1 (j := 0) (by decide), c1 (j := 1) (by decide), c1 (j := 2) (by decide), c1 (j := 3) (by decide), c2 (j := 0) (by decide), c2 (j := 1) (by decide), c2 (j := 2) (by decide), c2 (j := 3) (by decide), Nat.sub_zero, Nat.reduceSub, lp, lpL, List.getD_cons_zero, List.getD_cons_succ, List.getD_nil]
    show _ = w33 f0 f1 f2 f3 q p s r
    unfold w33; grind
  · have z : ∀ j, j ≤ 3 → cv (zPow (zT [q, p]) j) (zPow (zT [s, r]) (3 - j)) k = 0 := fun j hj => cv_big _ _ _ (by have := b1 hj; have := b2 (j := 3 - j) (by (first | lia | omega)); (first | lia | omega))
    rw [z 0 (by decide), z 1 (by decide), z 2 (by decide), z 3 (by decide), cf_ge (l := [_, _, _, _]) (by simpa using hk)]
    simp
theorem zPut2 {f : List Int} (hf : f.length ≤ 3) (q p s r : Int) : zPut f 2 q p s r = zT [w20 (f.getD 0 0) (f.getD 1 0) (f.getD 2 0) q p s r, w21 (f.getD 0 0) (f.getD 1 0) (f.getD 2 0) q p s r, w22 (f.getD 0 0) (f.getD 1 0) (f.getD 2 0) q p s r] := by
  refine (Tr_zPut _ _ _ _ _ _).ext (Tr_zT _) fun k => ?_
  rw [cf_zT]
  unfold zPut
  rw [cf_putF, sumT3 _ hf]
  have c1 : ∀ {j} (_ : j ≤ 3) k, (zPow (zT [q, p]) j).getD k 0 = lp q p j k := fun h k => cf_zPow (zT2_0 q p) (zT2_1 q p) (zT_le _) h k
  have c2 : ∀ {j} (_ : j ≤ 3) k, (zPow (zT [s, r]) j).getD k 0 = lp s r j k := fun h k => cf_zPow (zT2_0 s r) (zT2_1 s r) (zT_le _) h k
  have b1 : ∀ {j} (_ : j ≤ 3), (zPow (zT [q, p]) j).length ≤ j + 1 := fun h => zPow_len (zT_le _) h
  have b2 : ∀ {j} (_ : j ≤ 3), (zPow (zT [s, r]) j).length ≤ j + 1 := fun h => zPow_len (zT_le _) h
  have hk : k = 0 ∨ k = 1 ∨ k = 2 ∨ 3 ≤ k := by (first | lia | omega)
  generalize f.getD 0 0 = f0
  generalize f.getD 1 0 = f1
  generalize f.getD 2 0 = f2
  rcases hk with rfl | rfl | rfl | hk
  · simp only [cv0, c1 (j := 0) (by decide), c1 (j := 1) (by decide), c1 (j := 2) (by decide), c2 (j := 0) (by decide), c2 (j := 1) (by decide), c2 (j := 2) (by decide), Nat.sub_zero, Nat.reduceSub, lp, lpL, List.getD_cons_zero, List.getD_cons_succ, List.getD_nil]
    show _ = w20 f0 f1 f2 q p s r
    unfold w20; grind
  · simp only [cv1, c1 (j := 0) (by decide), c1 (j := 1) (by decide), c1 (j := 2) (by decide), c2 (j := 0) (by decide), c2 (j := 1) (by decide), c2 (j := 2) (by decide), Nat.sub_zero, Nat.reduceSub, lp, lpL, List.getD_cons_zero, List.getD_cons_succ, List.getD_nil]
    show _ = w21 f0 f1 f2 q p s r
    unfold w21; grind
  · simp only [cv2, c1 (j := 0) (by decide), c1 (j := 1) (by decide), c1 (j := 2) (by decide), c2 (j := 0) (by decide), c2 (j := 1) (by decide), c2 (j := 2) (by decide), Nat.sub_zero, Nat.reduceSub, lp, lpL, List.getD_cons_zero, List.getD_cons_succ, List.getD_nil]
    show _ = w22 f0 f1 f2 q p s r
    unfold w22; grind
  · have z : ∀ j, j ≤ 2 → cv (zPow (zT [q, p]) j) (zPow (zT [s, r]) (2 - j)) k = 0 := fun j hj => cv_big _ _ _ (by have := b1 (j := j) (by (first | lia | omega)); have := b2 (j := 2 - j) (by (first | lia | omega)); (first | lia | omega))
    rw [z 0 (by decide), z 1 (by decide), z 2 (by decide), cf_ge (l := [_, _, _]) (by simpa using hk)]
    simp
theorem zPut1 {f : List Int} (hf : f.length ≤ 2) (q p s r : Int) : zPut f 1 q p s r = zT [f.getD 0 0 * s + f.getD 1 0 * q, f.getD 0 0 * r + f.getD 1 0 * p] := by
  refine (Tr_zPut _ _ _ _ _ _).ext (Tr_zT _) fun k => ?_
  rw [cf_zT]
  unfold zPut
  rw [cf_putF, sumT2 _ hf]
  have c1 : ∀ {j} (_ : j ≤ 3) k, (zPow (zT [q, p]) j).getD k 0 = lp q p j k := fun h k => cf_zPow (zT2_0 q p) (zT2_1 q p) (zT_le _) h k
  have c2 : ∀ {j} (_ : j ≤ 3) k, (zPow (zT [s, r]) j).getD k 0 = lp s r j k := fun h k => cf_zPow (zT2_0 s r) (zT2_1 s r) (zT_le _) h k
  have b1 : ∀ {j} (_ : j ≤ 3), (zPow (zT [q, p]) j).length ≤ j + 1 := fun h => zPow_len (zT_le _) h
  have b2 : ∀ {j} (_ : j ≤ 3), (zPow (zT [s, r]) j).length ≤ j + 1 := fun h => zPow_len (zT_le _) h
  have hk : k = 0 ∨ k = 1 ∨ 2 ≤ k := by (first | lia | omega)
  generalize f.getD 0 0 = f0
  generalize f.getD 1 0 = f1
  rcases hk with rfl | rfl | hk
  · simp only [cv0, c1 (j := 0) (by decide), c1 (j := 1) (by decide), c2 (j := 0) (by decide), c2 (j := 1) (by decide), Nat.sub_zero, Nat.reduceSub, lp, lpL, List.getD_cons_zero, List.getD_cons_succ, List.getD_nil]
    show _ = f0 * s + f1 * q
    grind
  · simp only [cv1, c1 (j := 0) (by decide), c1 (j := 1) (by decide), c2 (j := 0) (by decide), c2 (j := 1) (by decide), Nat.sub_zero, Nat.reduceSub, lp, lpL, List.getD_cons_zero, List.getD_cons_succ, List.getD_nil]
    show _ = f0 * r + f1 * p
    grind
  · have z : ∀ j, j ≤ 1 → cv (zPow (zT [q, p]) j) (zPow (zT [s, r]) (1 - j)) k = 0 := fun j hj => cv_big _ _ _ (by have := b1 (j := j) (by (first | lia | omega)); have := b2 (j := 1 - j) (by (first | lia | omega)); (first | lia | omega))
    rw [z 0 (by decide), z 1 (by decide), cf_ge (l := [_, _]) (by simpa using hk)]
    simp
end Fco

-- FpC
namespace Fco

theorem zT4 {a b c d : Int} (h : d ≠ 0) : zT [a, b, c, d] = [a, b, c, d] := by simp [zT, zSz, h]
theorem zT40 (a b c : Int) : zT [a, b, c, 0] = zT [a, b, c] := by simp [zT, zSz]; split <;> (try split) <;> (try split) <;> simp_all
theorem zT3 {a b c : Int} (h : c ≠ 0) : zT [a, b, c] = [a, b, c] := by simp [zT, zSz, h]
theorem zT30 (a b : Int) : zT [a, b, 0] = zT [a, b] := by simp [zT, zSz]; split <;> (try split) <;> simp_all
theorem zT2 {a b : Int} (h : b ≠ 0) : zT [a, b] = [a, b] := by simp [zT, zSz, h]
theorem zT20 (a : Int) : zT [a, 0] = zT [a] := by simp [zT, zSz]; split <;> simp_all
theorem zT1 {a : Int} (h : a ≠ 0) : zT [a] = [a] := by simp [zT, zSz, h]
theorem zT10 : zT [0] = [] := by decide

-- the put-back
theorem back3 (f0 f1 f2 f3 q p s r : Int) :
    w30 (w30 f0 f1 f2 f3 q p s r) (w31 f0 f1 f2 f3 q p s r) (w32 f0 f1 f2 f3 q p s r) (w33 f0 f1 f2 f3 q p s r) (0 - q) s p (0 - r) = f0 * (p * s - q * r) ^ 3 ∧
    w31 (w30 f0 f1 f2 f3 q p s r) (w31 f0 f1 f2 f3 q p s r) (w32 f0 f1 f2 f3 q p s r) (w33 f0 f1 f2 f3 q p s r) (0 - q) s p (0 - r) = f1 * (p * s - q * r) ^ 3 ∧
    w32 (w30 f0 f1 f2 f3 q p s r) (w31 f0 f1 f2 f3 q p s r) (w32 f0 f1 f2 f3 q p s r) (w33 f0 f1 f2 f3 q p s r) (0 - q) s p (0 - r) = f2 * (p * s - q * r) ^ 3 ∧
    w33 (w30 f0 f1 f2 f3 q p s r) (w31 f0 f1 f2 f3 q p s r) (w32 f0 f1 f2 f3 q p s r) (w33 f0 f1 f2 f3 q p s r) (0 - q) s p (0 - r) = f3 * (p * s - q * r) ^ 3 := by
  unfold w30 w31 w32 w33
  refine ⟨?_, ?_, ?_, ?_⟩ <;> grind

theorem comp3 (f0 f1 f2 f3 q p s r u v w x : Int) :
    w30 (w30 f0 f1 f2 f3 q p s r) (w31 f0 f1 f2 f3 q p s r) (w32 f0 f1 f2 f3 q p s r) (w33 f0 f1 f2 f3 q p s r) u v w x = w30 f0 f1 f2 f3 (q * w + p * u) (q * x + p * v) (s * w + r * u) (s * x + r * v) ∧
    w31 (w30 f0 f1 f2 f3 q p s r) (w31 f0 f1 f2 f3 q p s r) (w32 f0 f1 f2 f3 q p s r) (w33 f0 f1 f2 f3 q p s r) u v w x = w31 f0 f1 f2 f3 (q * w + p * u) (q * x + p * v) (s * w + r * u) (s * x + r * v) ∧
    w32 (w30 f0 f1 f2 f3 q p s r) (w31 f0 f1 f2 f3 q p s r) (w32 f0 f1 f2 f3 q p s r) (w33 f0 f1 f2 f3 q p s r) u v w x = w32 f0 f1 f2 f3 (q * w + p * u) (q * x + p * v) (s * w + r * u) (s * x + r * v) ∧
    w33 (w30 f0 f1 f2 f3 q p s r) (w31 f0 f1 f2 f3 q p s r) (w32 f0 f1 f2 f3 q p s r) (w33 f0 f1 f2 f3 q p s r) u v w x = w33 f0 f1 f2 f3 (q * w + p * u) (q * x + p * v) (s * w + r * u) (s * x + r * v) := by
  unfold w30 w31 w32 w33
  refine ⟨?_, ?_, ?_, ?_⟩ <;> grind

theorem padZ (a b : Int) : zT [a, b] ++ List.replicate (2 - (zT [a, b]).length) 0 = [a, b] := by
  by_cases h : b = 0
  · subst h
    by_cases h2 : a = 0
    · subst h2; decide
    · rw [zT20, zT1 h2]; rfl
  · rw [zT2 h]; rfl

theorem put3L (f0 f1 f2 f3 q p s r : Int) : zPut [f0, f1, f2, f3] 3 q p s r = zT [w30 f0 f1 f2 f3 q p s r, w31 f0 f1 f2 f3 q p s r, w32 f0 f1 f2 f3 q p s r, w33 f0 f1 f2 f3 q p s r] := zPut3 (f := [f0, f1, f2, f3]) (Nat.le_refl _) q p s r
theorem put2L (f0 f1 f2 q p s r : Int) : zPut [f0, f1, f2] 2 q p s r = zT [w20 f0 f1 f2 q p s r, w21 f0 f1 f2 q p s r, w22 f0 f1 f2 q p s r] := zPut2 (f := [f0, f1, f2]) (Nat.le_refl _) q p s r
theorem put1L (f0 f1 q p s r : Int) : zPut [f0, f1] 1 q p s r = zT [f0 * s + f1 * q, f0 * r + f1 * p] := zPut1 (f := [f0, f1]) (Nat.le_refl _) q p s r
theorem put3T (a b c d q p s r : Int) : zPut (zT [a, b, c, d]) 3 q p s r = zT [w30 a b c d q p s r, w31 a b c d q p s r, w32 a b c d q p s r, w33 a b c d q p s r] := by
  rw [zPut3 (zT_le _)]
  simp only [cf_zT]
  rfl
theorem back_list (f0 f1 f2 f3 q p s r : Int) (h3 : f3 ≠ 0) (hD : p * s - q * r ≠ 0) : zPut (zPut [f0, f1, f2, f3] 3 q p s r) 3 (0 - q) s p (0 - r) = zScale [f0, f1, f2, f3] ((p * s - q * r) ^ 3) := by
  rw [put3L, put3T]
  obtain ⟨e0, e1, e2, e3⟩ := back3 f0 f1 f2 f3 q p s r
  rw [e0, e1, e2, e3]
  have hD3 : (p * s - q * r) ^ 3 ≠ 0 := Int.pow_ne_zero hD
  rw [zT4 (Int.mul_ne_zero h3 hD3)]
  simp [zScale, hD3]
theorem comp_list (f0 f1 f2 f3 q p s r u v w x : Int) : zPut (zPut [f0, f1, f2, f3] 3 q p s r) 3 u v w x = zPut [f0, f1, f2, f3] 3 (q * w + p * u) (q * x + p * v) (s * w + r * u) (s * x + r * v) := by
  rw [put3L, put3T, put3L]
  obtain ⟨e0, e1, e2, e3⟩ := comp3 f0 f1 f2 f3 q p s r u v w x
  rw [e0, e1, e2, e3]
theorem both_list (q p s r u v w x : Int) : zPut [q, p] 1 u v w x ++ List.replicate (2 - (zPut [q, p] 1 u v w x).length) 0 ++ zPut [s, r] 1 u v w x ++ List.replicate (2 - (zPut [s, r] 1 u v w x).length) 0 = [q * w + p * u, q * x + p * v, s * w + r * u, s * x + r * v] := by
  rw [put1L, put1L, padZ, List.append_assoc, padZ]; rfl

-- how often
theorem oft4 (f0 f1 f2 f3 p r : Int) : oftV [f0, f1, f2, f3] p r = w33 f0 f1 f2 f3 0 p 0 r := by
  simp [oftV, List.zipIdx, w33]; grind
theorem oft3 (f0 f1 f2 p r : Int) : oftV [f0, f1, f2] p r = f0 * r ^ 2 + f1 * p * r + f2 * p ^ 2 := by
  simp [oftV, List.zipIdx]; grind
theorem oft2 (f0 f1 p r : Int) : oftV [f0, f1] p r = f0 * r + f1 * p := by
  simp [oftV, List.zipIdx]; grind
theorem oft1 (f0 p r : Int) : oftV [f0] p r = f0 := by
  simp [oftV, List.zipIdx]
theorem der4 (a b c d : Int) : zDer [a, b, c, d] = [b, c * 2, d * 3] := by simp [zDer, List.zipIdx]
theorem der3 (a b c : Int) : zDer [a, b, c] = [b, c * 2] := by simp [zDer, List.zipIdx]
theorem der2 (a b : Int) : zDer [a, b] = [b] := by simp [zDer, List.zipIdx]
theorem smL1 {k : Nat} {a : Int} (ha : Sm k a) : SmL k [a] := fun x hx => by rw [List.mem_singleton.mp hx]; exact ha
theorem smL2 {k : Nat} {a b : Int} (ha : Sm k a) (hb : Sm k b) : SmL k [a, b] := fun x hx => by
  rcases List.mem_cons.mp hx with h | h
  · rw [h]; exact ha
  · exact smL1 hb x h
theorem smL3 {k : Nat} {a b c : Int} (ha : Sm k a) (hb : Sm k b) (hc : Sm k c) : SmL k [a, b, c] := fun x hx => by
  rcases List.mem_cons.mp hx with h | h
  · rw [h]; exact ha
  · exact smL2 hb hc x h
theorem smL4 {k : Nat} {a b c d : Int} (ha : Sm k a) (hb : Sm k b) (hc : Sm k c) (hd : Sm k d) : SmL k [a, b, c, d] := fun x hx => by
  rcases List.mem_cons.mp hx with h | h
  · rw [h]; exact ha
  · exact smL3 hb hc hd x h
theorem mul_eq_zero' {a b : Int} (h : a * b = 0) (ha : a ≠ 0) : b = 0 := (Int.mul_eq_zero.mp h).resolve_left ha

theorem OR.stepE {p r : Int} {f g : List Int} {k m : Nat} (h1 : f.length ≤ 8) (h2 : SmL 100 f) (h3 : oftV f p r = 0) (hg : zDer f = g) (h : OR p r g (k + 1) m) : OR p r f k m := .step h1 h2 h3 (hg ▸ h)
theorem often3 {f0 f1 f2 f3 q p s r : Int} (s0 : Sm 12 f0) (s1 : Sm 12 f1) (s2 : Sm 12 f2) (s3 : Sm 12 f3) (h3 : f3 ≠ 0) (hr : r ≠ 0) (hD : p * s - q * r ≠ 0) : ∃ k, OR p r [f0, f1, f2, f3] 0 k ∧ ((zPut [f0, f1, f2, f3] 3 q p s r).length : Int) = 4 - k := by
  rw [put3L]
  have c2 : Sm 100 2 := by unfold Sm; decide
  have c3 : Sm 3 3 := by unfold Sm; decide
  have c6 : Sm 3 6 := by unfold Sm; decide
  have c22 : Sm 3 2 := by unfold Sm; decide
  have z1 : SmL 100 [f0, f1, f2, f3] := smL4 (s0.mono (by decide)) (s1.mono (by decide)) (s2.mono (by decide)) (s3.mono (by decide))
  have z2 : SmL 100 [f1, f2 * 2, f3 * 3] := smL3 (s1.mono (by decide)) ((s2.mul c22).mono (by decide)) ((s3.mul c3).mono (by decide))
  have z3 : SmL 100 [f2 * 2, f3 * 3 * 2] := smL2 ((s2.mul c22).mono (by decide)) (((s3.mul c3).mul c22).mono (by decide))
  have z4 : SmL 100 [f3 * 3 * 2] := smL1 (((s3.mul c3).mul c22).mono (by decide))
  have hV0 : oftV [f0, f1, f2, f3] p r = w33 f0 f1 f2 f3 q p s r := by rw [oft4]; rfl
  by_cases h0 : w33 f0 f1 f2 f3 q p s r = 0
  · have i1 : r ^ 3 * w32 f0 f1 f2 f3 q p s r = - (p * s - q * r) * (f1 * r ^ 2 + (f2 * 2) * p * r + (f3 * 3) * p ^ 2) * r ^ 2 := by
      have := h0
      unfold w33 at this
      unfold w32
      grind
    rw [h0, zT40]
    by_cases h1 : f1 * r ^ 2 + (f2 * 2) * p * r + (f3 * 3) * p ^ 2 = 0
    · have w2z : w32 f0 f1 f2 f3 q p s r = 0 := mul_eq_zero' (a := r ^ 3) (by rw [i1, h1]; simp) (Int.pow_ne_zero hr)
      have i2 : r ^ 3 * w31 f0 f1 f2 f3 q p s r = (p * s - q * r) ^ 2 * ((f2 * 2) * r + (f3 * 3 * 2) * p) * r * 1 - (p * s - q * r) ^ 2 * r * (f2 * r + f3 * 3 * p) := by
        have a1 := h0
        unfold w33 at a1
        have a2 := h1
        unfold w31
        grind
      rw [w2z, zT30]
      by_cases h2 : (f2 * 2) * r + (f3 * 3 * 2) * p = 0
      · have e2 : f2 * r + f3 * 3 * p = 0 := by grind
        have w1z : w31 f0 f1 f2 f3 q p s r = 0 := mul_eq_zero' (a := r ^ 3) (by rw [i2, h2, e2]; simp) (Int.pow_ne_zero hr)
        have i3 : r ^ 3 * w30 f0 f1 f2 f3 q p s r = - (p * s - q * r) ^ 3 * f3 := by
          have a1 := h0
          unfold w33 at a1
          have a2 := h1
          have a3 := e2
          unfold w30
          grind
        have w0n : w30 f0 f1 f2 f3 q p s r ≠ 0 := fun e => by
          rw [e] at i3
          have h5 : (p * s - q * r) ^ 3 * f3 = 0 := by grind
          rcases Int.mul_eq_zero.mp h5 with h | h
          · exact Int.pow_ne_zero hD h
          · exact h3 h
        rw [w1z, zT20, zT1 w0n]
        refine ⟨3, .stepE (by simp) z1 (hV0.trans h0) (der4 ..) (.stepE (by simp) z2 ((oft3 ..).trans h1) (der3 ..) (.stepE (by simp) z3 ((oft2 ..).trans h2) (der2 ..) (.done (by simp) z4 ?_))), rfl⟩
        rw [oft1]; grind
      · have w1n : w31 f0 f1 f2 f3 q p s r ≠ 0 := fun e => by
          rw [e] at i2
          have h5 : (p * s - q * r) ^ 2 * r * (f2 * r + f3 * 3 * p) = 0 := by grind
          rcases Int.mul_eq_zero.mp h5 with h | h
          · rcases Int.mul_eq_zero.mp h with h | h
            · exact Int.pow_ne_zero hD h
            · exact hr h
          · exact h2 (by grind)
        rw [zT2 w1n]
        refine ⟨2, .stepE (by simp) z1 (hV0.trans h0) (der4 ..) (.stepE (by simp) z2 ((oft3 ..).trans h1) (der3 ..) (.done (by simp) z3 ?_)), rfl⟩
        rw [oft2]; exact h2
    · have w2n : w32 f0 f1 f2 f3 q p s r ≠ 0 := fun e => by
        rw [e] at i1
        have h5 : (p * s - q * r) * (f1 * r ^ 2 + (f2 * 2) * p * r + (f3 * 3) * p ^ 2) * r ^ 2 = 0 := by grind
        rcases Int.mul_eq_zero.mp h5 with h | h
        · rcases Int.mul_eq_zero.mp h with h | h
          · exact hD h
          · exact h1 h
        · exact Int.pow_ne_zero hr h
      rw [zT3 w2n]
      refine ⟨1, .stepE (by simp) z1 (hV0.trans h0) (der4 ..) (.done (by simp) z2 ?_), rfl⟩
      rw [oft3]; exact h1
  · rw [zT4 h0]
    exact ⟨0, .done (by simp) z1 (by rw [hV0]; exact h0), rfl⟩

theorem often2 {f0 f1 f2 q p s r : Int} (s0 : Sm 12 f0) (s1 : Sm 12 f1) (s2 : Sm 12 f2) (h3 : f2 ≠ 0) (hr : r ≠ 0) (hD : p * s - q * r ≠ 0) : ∃ k, OR p r [f0, f1, f2] 0 k ∧ ((zPut [f0, f1, f2] 2 q p s r).length : Int) = 3 - k := by
  rw [put2L]
  have c22 : Sm 3 2 := by unfold Sm; decide
  have z1 : SmL 100 [f0, f1, f2] := smL3 (s0.mono (by decide)) (s1.mono (by decide)) (s2.mono (by decide))
  have z2 : SmL 100 [f1, f2 * 2] := smL2 (s1.mono (by decide)) ((s2.mul c22).mono (by decide))
  have z3 : SmL 100 [f2 * 2] := smL1 ((s2.mul c22).mono (by decide))
  have hV0 : oftV [f0, f1, f2] p r = w22 f0 f1 f2 q p s r := by rw [oft3]; unfold w22; grind
  by_cases h0 : w22 f0 f1 f2 q p s r = 0
  · have i1 : r ^ 2 * w21 f0 f1 f2 q p s r = - (p * s - q * r) * (f1 * r + (f2 * 2) * p) * r := by
      have := h0
      unfold w22 at this
      unfold w21
      grind
    rw [h0, zT30]
    by_cases h1 : f1 * r + (f2 * 2) * p = 0
    · have w2z : w21 f0 f1 f2 q p s r = 0 := mul_eq_zero' (a := r ^ 2) (by rw [i1, h1]; simp) (Int.pow_ne_zero hr)
      have i3 : r ^ 2 * w20 f0 f1 f2 q p s r = (p * s - q * r) ^ 2 * f2 := by
        have a1 := h0
        unfold w22 at a1
        have a2 := h1
        unfold w20
        grind
      have w0n : w20 f0 f1 f2 q p s r ≠ 0 := fun e => by
        rw [e] at i3
        have h5 : (p * s - q * r) ^ 2 * f2 = 0 := by grind
        rcases Int.mul_eq_zero.mp h5 with h | h
        · exact Int.pow_ne_zero hD h
        · exact h3 h
      rw [w2z, zT20, zT1 w0n]
      refine ⟨2, .stepE (by simp) z1 (hV0.trans h0) (der3 ..) (.stepE (by simp) z2 ((oft2 ..).trans h1) (der2 ..) (.done (by simp) z3 ?_)), rfl⟩
      rw [oft1]; grind
    · have w1n : w21 f0 f1 f2 q p s r ≠ 0 := fun e => by
        rw [e] at i1
        have h5 : (p * s - q * r) * (f1 * r + (f2 * 2) * p) * r = 0 := by grind
        rcases Int.mul_eq_zero.mp h5 with h | h
        · rcases Int.mul_eq_zero.mp h with h | h
          · exact hD h
          · exact h1 h
        · exact hr h
      rw [zT2 w1n]
      refine ⟨1, .stepE (by simp) z1 (hV0.trans h0) (der3 ..) (.done (by simp) z2 ?_), rfl⟩
      rw [oft2]; exact h1
  · rw [zT3 h0]
    exact ⟨0, .done (by simp) z1 (by rw [hV0]; exact h0), rfl⟩
end Fco

-- FpD
namespace Fco

/-- the resultant of a cubic and a quadratic form, the discriminants -/
noncomputable def R32 (a0 a1 a2 a3 b0 b1 b2 : Int) : Int := a0 ^ 2 * b2 ^ 3 - a0 * a1 * b1 * b2 ^ 2 - 2 * a0 * a2 * b0 * b2 ^ 2 + a0 * a2 * b1 ^ 2 * b2 + 3 * a0 * a3 * b0 * b1 * b2 - a0 * a3 * b1 ^ 3 + a1 ^ 2 * b0 * b2 ^ 2 - a1 * a2 * b0 * b1 * b2 - 2 * a1 * a3 * b0 ^ 2 * b2 + a1 * a3 * b0 * b1 ^ 2 + a2 ^ 2 * b0 ^ 2 * b2 - a2 * a3 * b0 ^ 2 * b1 + a3 ^ 2 * b0 ^ 3
noncomputable def R22 (a0 a1 a2 b0 b1 b2 : Int) : Int := a0 ^ 2 * b2 ^ 2 - a0 * a1 * b1 * b2 - 2 * a0 * a2 * b0 * b2 + a0 * a2 * b1 ^ 2 + a1 ^ 2 * b0 * b2 - a1 * a2 * b0 * b1 + a2 ^ 2 * b0 ^ 2
noncomputable def R21 (a0 a1 a2 b0 b1 : Int) : Int := a0 * b1 ^ 2 - a1 * b0 * b1 + a2 * b0 ^ 2
noncomputable def R31 (a0 a1 a2 a3 b0 b1 : Int) : Int := a1 * b0 * b1 ^ 2 - a0 * b1 ^ 3 - a2 * b0 ^ 2 * b1 + a3 * b0 ^ 3
noncomputable def D3 (a0 a1 a2 a3 : Int) : Int := a1 ^ 2 * a2 ^ 2 - 4 * a0 * a2 ^ 3 - 4 * a1 ^ 3 * a3 + 18 * a0 * a1 * a2 * a3 - 27 * a0 ^ 2 * a3 ^ 2
noncomputable def D2 (a0 a1 a2 : Int) : Int := a1 ^ 2 - 4 * a0 * a2

structure Inv (R : Int → Int → Int → Int → Int → Int → Int → Int) : Prop where
  s1 : ∀ t a0 a1 a2 a3 b0 b1 b2, R a0 (a1 * t) (a2 * t ^ 2) (a3 * t ^ 3) b0 (b1 * t) (b2 * t ^ 2) = t ^ 6 * R a0 a1 a2 a3 b0 b1 b2
  s2 : ∀ t a0 a1 a2 a3 b0 b1 b2, R (a0 * t ^ 3) (a1 * t ^ 2) (a2 * t) a3 (b0 * t ^ 2) (b1 * t) b2 = t ^ 6 * R a0 a1 a2 a3 b0 b1 b2
  t1 : ∀ t a0 a1 a2 a3 b0 b1 b2, R (a0 + a1 * t + a2 * t ^ 2 + a3 * t ^ 3) (a1 + 2 * a2 * t + 3 * a3 * t ^ 2) (a2 + 3 * a3 * t) a3 (b0 + b1 * t + b2 * t ^ 2) (b1 + 2 * b2 * t) b2 = R a0 a1 a2 a3 b0 b1 b2
  rv : ∀ a0 a1 a2 a3 b0 b1 b2, R a3 a2 a1 a0 b2 b1 b0 = R a0 a1 a2 a3 b0 b1 b2
  hm : ∀ t a0 a1 a2 a3 b0 b1 b2, R (t ^ 3 * a0) (t ^ 3 * a1) (t ^ 3 * a2) (t ^ 3 * a3) (t ^ 2 * b0) (t ^ 2 * b1) (t ^ 2 * b2) = t ^ 12 * R a0 a1 a2 a3 b0 b1 b2

theorem inv_R32 : Inv R32 where
  s1 := fun t a0 a1 a2 a3 b0 b1 b2 => by unfold R32; grind
  s2 := fun t a0 a1 a2 a3 b0 b1 b2 => by unfold R32; grind
  t1 := fun t a0 a1 a2 a3 b0 b1 b2 => by unfold R32; grind
  rv := fun a0 a1 a2 a3 b0 b1 b2 => by unfold R32; grind
  hm := fun t a0 a1 a2 a3 b0 b1 b2 => by unfold R32; grind
theorem inv_D3 : Inv (fun a0 a1 a2 a3 _ _ _ => D3 a0 a1 a2 a3) where
  s1 := fun t a0 a1 a2 a3 b0 b1 b2 => by simp only [D3]; grind
  s2 := fun t a0 a1 a2 a3 b0 b1 b2 => by simp only [D3]; grind
  t1 := fun t a0 a1 a2 a3 b0 b1 b2 => by simp only [D3]; grind
  rv := fun a0 a1 a2 a3 b0 b1 b2 => by simp only [D3]; grind
  hm := fun t a0 a1 a2 a3 b0 b1 b2 => by simp only [D3]; grind

theorem Inv.t2 {R : Int → Int → Int → Int → Int → Int → Int → Int} (h : Inv R) (t a0 a1 a2 a3 b0 b1 b2 : Int) : R a0 (a1 + 3 * a0 * t) (a2 + 2 * a1 * t + 3 * a0 * t ^ 2) (a3 + a2 * t + a1 * t ^ 2 + a0 * t ^ 3) b0 (b1 + 2 * b0 * t) (b2 + b1 * t + b0 * t ^ 2) = R a0 a1 a2 a3 b0 b1 b2 := by
  rw [← h.rv, h.t1, h.rv]

theorem Inv.moved {R : Int → Int → Int → Int → Int → Int → Int → Int} (h : Inv R) (f0 f1 f2 f3 g0 g1 g2 q p s r : Int) (hD : p * s - q * r ≠ 0) :
    R (w30 f0 f1 f2 f3 q p s r) (w31 f0 f1 f2 f3 q p s r) (w32 f0 f1 f2 f3 q p s r) (w33 f0 f1 f2 f3 q p s r) (w20 g0 g1 g2 q p s r) (w21 g0 g1 g2 q p s r) (w22 g0 g1 g2 q p s r) = R f0 f1 f2 f3 g0 g1 g2 * (p * s - q * r) ^ 6 := by
  by_cases hp : p = 0
  · subst hp
    have e1 := h.s1 q f0 f1 f2 f3 g0 g1 g2
    have e2 := h.t2 s f0 (f1 * q) (f2 * q ^ 2) (f3 * q ^ 3) g0 (g1 * q) (g2 * q ^ 2)
    have e3 := h.s2 r f0 (f1 * q + 3 * f0 * s) (f2 * q ^ 2 + 2 * (f1 * q) * s + 3 * f0 * s ^ 2) (f3 * q ^ 3 + f2 * q ^ 2 * s + f1 * q * s ^ 2 + f0 * s ^ 3) g0 (g1 * q + 2 * g0 * s) (g2 * q ^ 2 + g1 * q * s + g0 * s ^ 2)
    rw [← h.rv] at e3
    have c0 : w30 f0 f1 f2 f3 q 0 s r = f3 * q ^ 3 + f2 * q ^ 2 * s + f1 * q * s ^ 2 + f0 * s ^ 3 := by unfold w30; grind
    have c1 : w31 f0 f1 f2 f3 q 0 s r = (f2 * q ^ 2 + 2 * (f1 * q) * s + 3 * f0 * s ^ 2) * r := by unfold w31; grind
    have c2 : w32 f0 f1 f2 f3 q 0 s r = (f1 * q + 3 * f0 * s) * r ^ 2 := by unfold w32; grind
    have c3 : w33 f0 f1 f2 f3 q 0 s r = f0 * r ^ 3 := by unfold w33; grind
    have k0 : w20 g0 g1 g2 q 0 s r = g2 * q ^ 2 + g1 * q * s + g0 * s ^ 2 := by unfold w20; grind
    have k1 : w21 g0 g1 g2 q 0 s r = (g1 * q + 2 * g0 * s) * r := by unfold w21; grind
    have k2 : w22 g0 g1 g2 q 0 s r = g0 * r ^ 2 := by unfold w22; grind
    rw [c0, c1, c2, c3, k0, k1, k2, e3, e2, e1]
    grind
  · have e1 := h.s1 p f0 f1 f2 f3 g0 g1 g2
    have e2 := h.t2 r f0 (f1 * p) (f2 * p ^ 2) (f3 * p ^ 3) g0 (g1 * p) (g2 * p ^ 2)
    generalize hh1 : f1 * p + 3 * f0 * r = h1 at e2
    generalize hh2 : f2 * p ^ 2 + 2 * (f1 * p) * r + 3 * f0 * r ^ 2 = h2 at e2
    generalize hh3 : f3 * p ^ 3 + f2 * p ^ 2 * r + f1 * p * r ^ 2 + f0 * r ^ 3 = h3 at e2
    generalize hk1 : g1 * p + 2 * g0 * r = k1 at e2
    generalize hk2 : g2 * p ^ 2 + g1 * p * r + g0 * r ^ 2 = k2 at e2
    have e3 := h.s2 (p * s - q * r) f0 h1 h2 h3 g0 k1 k2
    have e4 := h.t1 q (f0 * (p * s - q * r) ^ 3) (h1 * (p * s - q * r) ^ 2) (h2 * (p * s - q * r)) h3 (g0 * (p * s - q * r) ^ 2) (k1 * (p * s - q * r)) k2
    have e5 := h.s1 p (f0 * (p * s - q * r) ^ 3 + h1 * (p * s - q * r) ^ 2 * q + h2 * (p * s - q * r) * q ^ 2 + h3 * q ^ 3) (h1 * (p * s - q * r) ^ 2 + 2 * (h2 * (p * s - q * r)) * q + 3 * h3 * q ^ 2) (h2 * (p * s - q * r) + 3 * h3 * q) h3 (g0 * (p * s - q * r) ^ 2 + k1 * (p * s - q * r) * q + k2 * q ^ 2) (k1 * (p * s - q * r) + 2 * k2 * q) k2
    have e6 := h.hm p (w30 f0 f1 f2 f3 q p s r) (w31 f0 f1 f2 f3 q p s r) (w32 f0 f1 f2 f3 q p s r) (w33 f0 f1 f2 f3 q p s r) (w20 g0 g1 g2 q p s r) (w21 g0 g1 g2 q p s r) (w22 g0 g1 g2 q p s r)
    have c0 : p ^ 3 * w30 f0 f1 f2 f3 q p s r = f0 * (p * s - q * r) ^ 3 + h1 * (p * s - q * r) ^ 2 * q + h2 * (p * s - q * r) * q ^ 2 + h3 * q ^ 3 := by unfold w30; subst hh1 hh2 hh3; grind
    have c1 : p ^ 3 * w31 f0 f1 f2 f3 q p s r = (h1 * (p * s - q * r) ^ 2 + 2 * (h2 * (p * s - q * r)) * q + 3 * h3 * q ^ 2) * p := by unfold w31; subst hh1 hh2 hh3; grind
    have c2 : p ^ 3 * w32 f0 f1 f2 f3 q p s r = (h2 * (p * s - q * r) + 3 * h3 * q) * p ^ 2 := by unfold w32; subst hh1 hh2 hh3; grind
    have c3 : p ^ 3 * w33 f0 f1 f2 f3 q p s r = h3 * p ^ 3 := by unfold w33; subst hh3; grind
    have d0 : p ^ 2 * w20 g0 g1 g2 q p s r = g0 * (p * s - q * r) ^ 2 + k1 * (p * s - q * r) * q + k2 * q ^ 2 := by unfold w20; subst hk1 hk2; grind
    have d1 : p ^ 2 * w21 g0 g1 g2 q p s r = (k1 * (p * s - q * r) + 2 * k2 * q) * p := by unfold w21; subst hk1 hk2; grind
    have d2 : p ^ 2 * w22 g0 g1 g2 q p s r = k2 * p ^ 2 := by unfold w22; subst hk2; grind
    rw [c0, c1, c2, c3, d0, d1, d2, e5, e4, e3, e2, e1] at e6
    have hp12 : p ^ 12 ≠ 0 := Int.pow_ne_zero hp
    apply Int.eq_of_mul_eq_mul_left hp12
    rw [← e6]
    generalize p * s - q * r = D
    generalize R f0 f1 f2 f3 g0 g1 g2 = RR
    grind
theorem D2_moved (g0 g1 g2 q p s r : Int) : D2 (w20 g0 g1 g2 q p s r) (w21 g0 g1 g2 q p s r) (w22 g0 g1 g2 q p s r) = D2 g0 g1 g2 * (p * s - q * r) ^ 2 := by
  unfold D2 w20 w21 w22; grind
end Fco

-- FpE
namespace Fco

theorem Tr_zScale {a : List Int} {k : Int} (h : Tr a) (hk : k ≠ 0) : Tr (zScale a k) := by
  rcases h with h | h
  · left; rw [h]; simp [zScale]
  · right
    unfold zLd at *
    have hl : (zScale a k).length = a.length := by simp [zScale, hk]
    rw [hl, cf_zScale]
    exact Int.mul_ne_zero h hk
theorem zScale_zT (l : List Int) {k : Int} (hk : k ≠ 0) : zScale (zT l) k = zT (l.map fun x => x * k) :=
  (Tr_zScale (Tr_zT l) hk).ext (Tr_zT _) fun i => by rw [cf_zScale, cf_zT, cf_zT, getD_map_mul]
theorem zScale_one (l : List Int) : zScale l 1 = l := by simp [zScale]
theorem zDiv_one (l : List Int) : zDiv l 1 = l := by
  unfold zDiv
  induction l with
  | nil => rfl
  | cons a l ih => rw [List.map_cons, ih, Int.fdiv_one]
theorem zDiv_zT1 {c x y : Int} (hc : c ≠ 0) (h : x = c * y) : zDiv (zT [x]) c = zT [y] := by
  by_cases hy : y = 0
  · have hx : x = 0 := by rw [h, hy]; simp
    subst hy hx; rfl
  · have hx : x ≠ 0 := by rw [h]; exact Int.mul_ne_zero hc hy
    rw [zT1 hx, zT1 hy]
    show [x.fdiv c] = [y]
    rw [h, Int.mul_fdiv_cancel_left _ hc]

-- steps of pseudo division
theorem st_ext {a b l : List Int} {c n : Int} {k : Nat} (h : ∀ i, a.getD i 0 * c - (if i < k then 0 else b.getD (i - k) 0 * n) = l.getD i 0) : zSub (zScale a c) (zRaise (zScale b n) k) = zT l :=
  (Tr_zAdd _ _).ext (Tr_zT _) fun i => by
    rw [show zAdd (zScale a c) (zNeg (zRaise (zScale b n) k)) = zSub (zScale a c) (zRaise (zScale b n) k) from rfl, cf_zSub, cf_zScale, cf_zRaise, cf_zScale, cf_zT]
    exact h i
theorem st32 (a0 a1 a2 a3 b0 b1 b2 : Int) : zSub (zScale [a0, a1, a2, a3] b2) (zRaise (zScale [b0, b1, b2] a3) 1) = zT [a0 * b2, a1 * b2 - b0 * a3, a2 * b2 - b1 * a3] := st_ext fun i => by
  match i with
  | 0 => simp
  | 1 => simp
  | 2 => simp
  | 3 => simp; grind
  | n + 4 => simp
theorem st22 (a0 a1 a2 b0 b1 b2 : Int) : zSub (zScale [a0, a1, a2] b2) (zRaise (zScale [b0, b1, b2] a2) 0) = zT [a0 * b2 - b0 * a2, a1 * b2 - b1 * a2] := st_ext fun i => by
  match i with
  | 0 => simp
  | 1 => simp
  | 2 => simp; grind
  | n + 3 => simp
theorem st21 (a0 a1 a2 b0 b1 : Int) : zSub (zScale [a0, a1, a2] b1) (zRaise (zScale [b0, b1] a2) 1) = zT [a0 * b1, a1 * b1 - b0 * a2] := st_ext fun i => by
  match i with
  | 0 => simp
  | 1 => simp
  | 2 => simp; grind
  | n + 3 => simp
theorem st11 (a0 a1 b0 b1 : Int) : zSub (zScale [a0, a1] b1) (zRaise (zScale [b0, b1] a1) 0) = zT [a0 * b1 - b0 * a1] := st_ext fun i => by
  match i with
  | 0 => simp
  | 1 => simp; grind
  | n + 2 => simp
theorem st31 (a0 a1 a2 a3 b0 b1 : Int) : zSub (zScale [a0, a1, a2, a3] b1) (zRaise (zScale [b0, b1] a3) 2) = zT [a0 * b1, a1 * b1, a2 * b1 - b0 * a3] := st_ext fun i => by
  match i with
  | 0 => simp
  | 1 => simp
  | 2 => simp
  | 3 => simp; grind
  | n + 4 => simp

noncomputable def psV (c : Int) (σ : PsS) : List Int := zScale σ.rest (c ^ σ.left.toNat)
theorem pv_stop {b rest fd : List Int} {l c : Int} {k : Nat} (h : rest.length < b.length) : psV c (psRun b c k ⟨rest, fd, l⟩) = zScale rest (c ^ l.toNat) := by
  cases k with
  | zero => rfl
  | succ k =>
    unfold psRun
    rw [if_neg (by simpa using h)]; rfl
theorem pv_step {b rest rest' fd out : List Int} {l c : Int} {k : Nat} (h : b.length ≤ rest.length) (e : zSub (zScale rest c) (zRaise (zScale b (zLd rest)) (rest.length - b.length)) = rest') (h' : ∀ fd', psV c (psRun b c k ⟨rest', fd', l - 1⟩) = out) : psV c (psRun b c (k + 1) ⟨rest, fd, l⟩) = out := by
  unfold psRun
  rw [if_pos (by simpa using h)]
  have := h' (zSub (zScale fd c) (zRaise [-zLd rest] (rest.length - b.length)))
  rw [← e] at this
  exact this
theorem len2 (a b : Int) : (zT [a, b]).length ≤ 2 := zT_le _
theorem len1 (a : Int) : (zT [a]).length ≤ 1 := zT_le _

theorem ps32 (a0 a1 a2 a3 b0 b1 b2 : Int) (h : b2 ≠ 0) : psRest [a0, a1, a2, a3] [b0, b1, b2] = zT [a0 * b2 * b2 - b0 * (a2 * b2 - b1 * a3), (a1 * b2 - b0 * a3) * b2 - b1 * (a2 * b2 - b1 * a3)] := by
  show psV b2 (psRun [b0, b1, b2] b2 5 ⟨[a0, a1, a2, a3], [], 2⟩) = _
  refine pv_step (by simp) (st32 a0 a1 a2 a3 b0 b1 b2) fun fd => ?_
  by_cases h2 : a2 * b2 - b1 * a3 = 0
  · rw [h2, zT30]
    rw [pv_stop (by have := len2 (a0 * b2) (a1 * b2 - b0 * a3); simp; (first | lia | omega))]
    show zScale _ (b2 ^ 1) = _
    rw [Int.pow_one, zScale_zT _ h]
    simp
  · rw [zT3 h2]
    refine pv_step (by simp) (st22 _ _ _ b0 b1 b2) fun fd => ?_
    rw [pv_stop (by have := len2 (a0 * b2 * b2 - b0 * (a2 * b2 - b1 * a3)) ((a1 * b2 - b0 * a3) * b2 - b1 * (a2 * b2 - b1 * a3)); simp; (first | lia | omega))]
    show zScale _ (b2 ^ 0) = _
    rw [Int.pow_zero, zScale_one]
theorem ps22 (a0 a1 a2 b0 b1 b2 : Int) : psRest [a0, a1, a2] [b0, b1, b2] = zT [a0 * b2 - b0 * a2, a1 * b2 - b1 * a2] := by
  show psV b2 (psRun [b0, b1, b2] b2 4 ⟨[a0, a1, a2], [], 1⟩) = _
  refine pv_step (by simp) (st22 a0 a1 a2 b0 b1 b2) fun fd => ?_
  rw [pv_stop (by have := len2 (a0 * b2 - b0 * a2) (a1 * b2 - b1 * a2); simp; (first | lia | omega))]
  show zScale _ (b2 ^ 0) = _
  rw [Int.pow_zero, zScale_one]
theorem ps21 (a0 a1 a2 b0 b1 : Int) (h : b1 ≠ 0) : psRest [a0, a1, a2] [b0, b1] = zT [R21 a0 a1 a2 b0 b1] := by
  show psV b1 (psRun [b0, b1] b1 4 ⟨[a0, a1, a2], [], 2⟩) = _
  refine pv_step (by simp) (st21 a0 a1 a2 b0 b1) fun fd => ?_
  by_cases h2 : a1 * b1 - b0 * a2 = 0
  · have e : R21 a0 a1 a2 b0 b1 = a0 * b1 * b1 := by unfold R21; grind
    rw [h2, zT20, pv_stop (by have := len1 (a0 * b1); simp; (first | lia | omega)), e]
    show zScale _ (b1 ^ 1) = _
    rw [Int.pow_one, zScale_zT _ h]
    simp
  · rw [zT2 h2]
    refine pv_step (by simp) (st11 _ _ b0 b1) fun fd => ?_
    rw [pv_stop (by have := len1 (a0 * b1 * b1 - b0 * (a1 * b1 - b0 * a2)); simp; (first | lia | omega))]
    show zScale _ (b1 ^ 0) = _
    have e : R21 a0 a1 a2 b0 b1 = a0 * b1 * b1 - b0 * (a1 * b1 - b0 * a2) := by unfold R21; grind
    rw [Int.pow_zero, zScale_one, e]
theorem ps31 (a0 a1 a2 a3 b0 b1 : Int) (h : b1 ≠ 0) : psRest [a0, a1, a2, a3] [b0, b1] = zT [-R31 a0 a1 a2 a3 b0 b1] := by
  show psV b1 (psRun [b0, b1] b1 5 ⟨[a0, a1, a2, a3], [], 3⟩) = _
  refine pv_step (by simp) (st31 a0 a1 a2 a3 b0 b1) fun fd => ?_
  generalize hr2 : a2 * b1 - b0 * a3 = r2
  by_cases h2 : r2 = 0
  · rw [h2, zT30]
    by_cases h1 : a1 * b1 = 0
    · have ha1 : a1 = 0 := (Int.mul_eq_zero.mp h1).resolve_right h
      have e : -R31 a0 a1 a2 a3 b0 b1 = a0 * b1 * b1 ^ 2 := by unfold R31; subst ha1; grind
      rw [h1, zT20, pv_stop (by have := len1 (a0 * b1); simp; (first | lia | omega)), e]
      show zScale _ (b1 ^ 2) = _
      rw [zScale_zT _ (Int.pow_ne_zero h)]
      simp
    · rw [zT2 h1]
      refine pv_step (by simp) (st11 _ _ b0 b1) fun fd => ?_
      rw [pv_stop (by have := len1 (a0 * b1 * b1 - b0 * (a1 * b1)); simp; (first | lia | omega))]
      show zScale _ (b1 ^ 1) = _
      have e : -R31 a0 a1 a2 a3 b0 b1 = (a0 * b1 * b1 - b0 * (a1 * b1)) * b1 := by unfold R31; grind
      rw [Int.pow_one, zScale_zT _ h, e]
      simp
  · rw [zT3 h2]
    refine pv_step (by simp) (st21 _ _ _ b0 b1) fun fd => ?_
    by_cases h1 : a1 * b1 * b1 - b0 * r2 = 0
    · have e : -R31 a0 a1 a2 a3 b0 b1 = a0 * b1 * b1 * b1 := by unfold R31; grind
      rw [h1, zT20, pv_stop (by have := len1 (a0 * b1 * b1); simp; (first | lia | omega)), e]
      show zScale _ (b1 ^ 1) = _
      rw [Int.pow_one, zScale_zT _ h]
      simp
    · rw [zT2 h1]
      refine pv_step (by simp) (st11 _ _ b0 b1) fun fd => ?_
      rw [pv_stop (by have := len1 (a0 * b1 * b1 * b1 - b0 * (a1 * b1 * b1 - b0 * r2)); simp; (first | lia | omega))]
      show zScale _ (b1 ^ 0) = _
      have e : -R31 a0 a1 a2 a3 b0 b1 = a0 * b1 * b1 * b1 - b0 * (a1 * b1 * b1 - b0 * r2) := by unfold R31; grind
      rw [Int.pow_zero, zScale_one, e]
end Fco

-- FpF
namespace Fco

theorem Sm1 {k : Nat} (h : 1 ≤ k) : Sm k 1 := Sm.mono (k := 1) (by unfold Sm; decide) h
theorem n1 : (1 : Int) ≠ 0 := by decide
theorem rr_const {a : List Int} {b0 sg : Int} {k : Nat} (ha : 1 ≤ a.length) (ha2 : a.length ≤ 8) (sa : SmL 10000 a) (sb : Sm 10000 b0) (ss : Sm 2 sg) : RR ⟨a, [b0], 1, 1, sg⟩ (sg * b0 ^ (a.length - 1)) := by
  have one : Sm 10000 1 := Sm1 (by decide)
  have h := RR.done (σ := ⟨a, [b0], 1, 1, sg⟩) ⟨ha, ha2, fun h => absurd h (by simp), n1, n1, ha, sa, smL1 sb, one, one, ss⟩ (by simp)
  have e : rrEnd ⟨a, [b0], 1, 1, sg⟩ = sg * b0 ^ (a.length - 1) := by
    unfold rrEnd
    simp only [List.cons_ne_nil, if_false]
    by_cases h1 : 1 < a.length
    · rw [if_pos h1, Int.one_pow, Int.fdiv_one]; rfl
    · have : a.length - 1 = 0 := by (first | lia | omega)
      rw [if_neg h1, this, Int.pow_zero]
  rw [← e]; exact h
theorem rr_nil {a : List Int} {g h sg : Int} (ha : 1 ≤ a.length) (ha2 : a.length ≤ 8) (hg : g ≠ 0) (hh : h ≠ 0) (sa : SmL 10000 a) (s1 : Sm 10000 g) (s2 : Sm 10000 h) (ss : Sm 2 sg) : RR ⟨a, [], g, h, sg⟩ 0 :=
  RR.done (σ := ⟨a, [], g, h, sg⟩) ⟨Nat.zero_le _, ha2, fun h => absurd h (by simp), hh, hg, ha, sa, (fun x h => nomatch h), s1, s2, ss⟩ (by simp)
/-- the end with a list zT [x] and a line in front -/
theorem rr_end2 {a0 a1 x g h sg : Int} (hg : g ≠ 0) (hh : h ≠ 0) (sa : SmL 10000 [a0, a1]) (sx : Sm 10000 x) (s1 : Sm 10000 g) (s2 : Sm 10000 h) (ss : Sm 2 sg) : RR ⟨[a0, a1], zT [x], g, h, sg⟩ (sg * x) := by
  by_cases hx : x = 0
  · subst hx
    rw [Int.mul_zero]
    exact rr_nil (by simp) (by simp) hg hh sa s1 s2 ss
  · rw [zT1 hx]
    have := RR.done (σ := ⟨[a0, a1], [x], g, h, sg⟩) ⟨by simp, by simp, fun h => absurd h (by simp), hh, hg, by simp, sa, smL1 sx, s1, s2, ss⟩ (by simp)
    have e : rrEnd ⟨[a0, a1], [x], g, h, sg⟩ = sg * x := by
      show sg * (x ^ 1).fdiv (h ^ 0) = sg * x
      rw [Int.pow_one, Int.pow_zero, Int.fdiv_one]
    rw [← e]; exact this
theorem Sm3 {k l m : Nat} {x y : Int} (hx : Sm k x) (hy : Sm l y) (h : k + l ≤ m) : Sm m (x * y) := (hx.mul hy).mono h
theorem SmS {k m : Nat} {x y : Int} (hx : Sm k x) (hy : Sm k y) (h : k + 1 ≤ m) : Sm m (x - y) := (hx.sub hy).mono (by (first | lia | omega))
theorem SmA {k m : Nat} {x y : Int} (hx : Sm k x) (hy : Sm k y) (h : k + 1 ≤ m) : Sm m (x + y) := (hx.add hy).mono (by (first | lia | omega))

theorem Sm_R21 {k : Nat} {a0 a1 a2 b0 b1 : Int} (h0 : Sm k a0) (h1 : Sm k a1) (h2 : Sm k a2) (k0 : Sm k b0) (k1 : Sm k b1) : Sm (3 * k + 4) (R21 a0 a1 a2 b0 b1) := by
  unfold R21
  have e : a0 * b1 ^ 2 - a1 * b0 * b1 + a2 * b0 ^ 2 = a0 * b1 * b1 - a1 * b0 * b1 + a2 * b0 * b0 := by grind
  rw [e]
  exact SmA (k := 3 * k + 1) (SmS (k := 3 * k) (Sm3 (Sm3 h0 k1 (Nat.le_refl _)) k1 (by (first | lia | omega))) (Sm3 (Sm3 h1 k0 (Nat.le_refl _)) k1 (by (first | lia | omega))) (by (first | lia | omega))) (Sm3 (Sm3 h2 k0 (Nat.le_refl _)) k0 (by (first | lia | omega))) (by (first | lia | omega))
theorem Sm_R31 {k : Nat} {a0 a1 a2 a3 b0 b1 : Int} (h0 : Sm k a0) (h1 : Sm k a1) (h2 : Sm k a2) (h3 : Sm k a3) (k0 : Sm k b0) (k1 : Sm k b1) : Sm (4 * k + 4) (R31 a0 a1 a2 a3 b0 b1) := by
  unfold R31
  have e : a1 * b0 * b1 ^ 2 - a0 * b1 ^ 3 - a2 * b0 ^ 2 * b1 + a3 * b0 ^ 3 = a1 * b0 * b1 * b1 - a0 * b1 * b1 * b1 - a2 * b0 * b0 * b1 + a3 * b0 * b0 * b0 := by grind
  rw [e]
  have m4 : ∀ {x y z w : Int}, Sm k x → Sm k y → Sm k z → Sm k w → Sm (4 * k) (x * y * z * w) := fun hx hy hz hw => Sm3 (Sm3 (Sm3 hx hy (Nat.le_refl _)) hz (Nat.le_refl _)) hw (by (first | lia | omega))
  exact SmA (k := 4 * k + 2) (SmS (k := 4 * k + 1) (SmS (k := 4 * k) (m4 h1 k0 k1 k1) (m4 h0 k1 k1 k1) (by (first | lia | omega))) ((m4 h2 k0 k0 k1).mono (by (first | lia | omega))) (by (first | lia | omega))) ((m4 h3 k0 k0 k0).mono (by (first | lia | omega))) (by (first | lia | omega))

theorem rrN_eq {a b b' : List Int} {g h sg lb hh s' : Int} {gap : Nat} (hl : zLd b = lb) (hg : a.length - b.length = gap) (hb' : zDiv (psRest a b) (g * h ^ gap) = b') (h' : (if 0 < gap then (lb ^ gap).fdiv (h ^ (gap - 1)) else h) = hh)
    (hs : (if (a.length - 1) % 2 = 1 ∧ (b.length - 1) % 2 = 1 then -sg else sg) = s') : rrN ⟨a, b, g, h, sg⟩ = ⟨b, b', lb, hh, s'⟩ := by
  subst hg hl hb' h' hs
  rfl
theorem rr21 {a0 a1 a2 b0 b1 : Int} (hb : b1 ≠ 0) (sa : SmL 100 [a0, a1, a2]) (sb : SmL 100 [b0, b1]) : RR ⟨[a0, a1, a2], [b0, b1], 1, 1, 1⟩ (R21 a0 a1 a2 b0 b1) := by
  have k0 := sb b0 (by simp)
  have k1 := sb b1 (by simp)
  have sR := Sm_R21 (sa a0 (by simp)) (sa a1 (by simp)) (sa a2 (by simp)) k0 k1
  refine RR.step ⟨by simp, by simp, fun _ => hb, n1, n1, by simp, sa.mono (by decide), sb.mono (by decide), Sm1 (by decide), Sm1 (by decide), Sm1 (by decide)⟩ (by simp) ?_
  have e : rrN ⟨[a0, a1, a2], [b0, b1], 1, 1, 1⟩ = ⟨[b0, b1], zT [R21 a0 a1 a2 b0 b1], b1, b1, 1⟩ := by
    refine rrN_eq (gap := 1) rfl rfl ?_ ?_ (by simp)
    · rw [ps21 _ _ _ _ _ hb, Int.pow_one, Int.mul_one, zDiv_one]
    · rw [if_pos (by decide), Int.pow_one, Int.pow_zero, Int.fdiv_one]
  rw [e]
  have := rr_end2 (sg := 1) hb hb (sb.mono (by decide)) (sR.mono (l := 10000) (by decide)) (k1.mono (by decide)) (k1.mono (by decide)) (Sm1 (by decide))
  rwa [Int.one_mul] at this
theorem rr31 {a0 a1 a2 a3 b0 b1 : Int} (hb : b1 ≠ 0) (sa : SmL 100 [a0, a1, a2, a3]) (sb : SmL 100 [b0, b1]) : RR ⟨[a0, a1, a2, a3], [b0, b1], 1, 1, 1⟩ (R31 a0 a1 a2 a3 b0 b1) := by
  have k0 := sb b0 (by simp)
  have k1 := sb b1 (by simp)
  have sR := Sm_R31 (sa a0 (by simp)) (sa a1 (by simp)) (sa a2 (by simp)) (sa a3 (by simp)) k0 k1
  refine RR.step ⟨by simp, by simp, fun _ => hb, n1, n1, by simp, sa.mono (by decide), sb.mono (by decide), Sm1 (by decide), Sm1 (by decide), Sm1 (by decide)⟩ (by simp) ?_
  have e : rrN ⟨[a0, a1, a2, a3], [b0, b1], 1, 1, 1⟩ = ⟨[b0, b1], zT [-R31 a0 a1 a2 a3 b0 b1], b1, b1 ^ 2, -1⟩ := by
    refine rrN_eq (gap := 2) rfl rfl ?_ ?_ (by simp)
    · rw [ps31 _ _ _ _ _ _ hb, Int.one_pow, Int.mul_one, zDiv_one]
    · rw [if_pos (by decide), Int.one_pow, Int.fdiv_one]
  rw [e]
  have := rr_end2 (sg := -1) hb (Int.pow_ne_zero hb : b1 ^ 2 ≠ 0) (sb.mono (by decide)) (sR.neg.mono (l := 10000) (by decide)) (k1.mono (by decide)) ((k1.pow 2).mono (l := 10000) (by decide)) (by unfold Sm; decide)
  rwa [show (-1 : Int) * -R31 a0 a1 a2 a3 b0 b1 = R31 a0 a1 a2 a3 b0 b1 by (first | lia | omega)] at this

theorem id32 (a0 a1 a2 a3 b0 b1 b2 : Int) : R21 b0 b1 b2 (a0 * b2 * b2 - b0 * (a2 * b2 - b1 * a3)) ((a1 * b2 - b0 * a3) * b2 - b1 * (a2 * b2 - b1 * a3)) = b2 ^ 2 * R32 a0 a1 a2 a3 b0 b1 b2 := by
  unfold R21 R32; grind
theorem id22 (a0 a1 a2 b0 b1 b2 : Int) : R21 b0 b1 b2 (a0 * b2 - b0 * a2) (a1 * b2 - b1 * a2) = b2 * R22 a0 a1 a2 b0 b1 b2 := by
  unfold R21 R22; grind

theorem Sm_dvd {k : Nat} {x c y : Int} (hx : Sm k x) (h : x = c * y) (hc : c ≠ 0) : Sm k y := by
  unfold Sm at *
  rw [h, Int.natAbs_mul] at hx
  have : 1 ≤ c.natAbs := Int.natAbs_pos.mpr hc
  calc y.natAbs = 1 * y.natAbs := by (first | lia | omega)
    _ ≤ c.natAbs * y.natAbs := Nat.mul_le_mul_right _ this
    _ < 2 ^ k := hx

theorem rr32 {a0 a1 a2 a3 b0 b1 b2 : Int} (hb : b2 ≠ 0) (sa : SmL 20 [a0, a1, a2, a3]) (sb : SmL 20 [b0, b1, b2]) : RR ⟨[a0, a1, a2, a3], [b0, b1, b2], 1, 1, 1⟩ (R32 a0 a1 a2 a3 b0 b1 b2) := by
  have h0 := sa a0 (by simp)
  have h1 := sa a1 (by simp)
  have h2 := sa a2 (by simp)
  have h3 := sa a3 (by simp)
  have k0 := sb b0 (by simp)
  have k1 := sb b1 (by simp)
  have k2 := sb b2 (by simp)
  have r2 : Sm 41 (a2 * b2 - b1 * a3) := SmS (Sm3 h2 k2 (Nat.le_refl _)) (Sm3 k1 h3 (Nat.le_refl _)) (by decide)
  have r1 : Sm 41 (a1 * b2 - b0 * a3) := SmS (Sm3 h1 k2 (Nat.le_refl _)) (Sm3 k0 h3 (Nat.le_refl _)) (by decide)
  have s0 : Sm 100 (a0 * b2 * b2 - b0 * (a2 * b2 - b1 * a3)) := SmS (k := 61) (Sm3 (Sm3 h0 k2 (Nat.le_refl _)) k2 (by decide)) (Sm3 k0 r2 (by decide)) (by decide)
  have s1 : Sm 100 ((a1 * b2 - b0 * a3) * b2 - b1 * (a2 * b2 - b1 * a3)) := SmS (k := 61) (Sm3 r1 k2 (by decide)) (Sm3 k1 r2 (by decide)) (by decide)
  have id := id32 a0 a1 a2 a3 b0 b1 b2
  refine RR.step ⟨by simp, by simp, fun _ => hb, n1, n1, by simp, sa.mono (by decide), sb.mono (by decide), Sm1 (by decide), Sm1 (by decide), Sm1 (by decide)⟩ (by simp) ?_
  have e : rrN ⟨[a0, a1, a2, a3], [b0, b1, b2], 1, 1, 1⟩ = ⟨[b0, b1, b2], zT [a0 * b2 * b2 - b0 * (a2 * b2 - b1 * a3), (a1 * b2 - b0 * a3) * b2 - b1 * (a2 * b2 - b1 * a3)], b2, b2, 1⟩ := by
    refine rrN_eq (gap := 1) rfl rfl ?_ ?_ (by simp)
    · rw [ps32 _ _ _ _ _ _ _ hb, Int.pow_one, Int.mul_one, zDiv_one]
    · rw [if_pos (by decide), Int.pow_one, Int.pow_zero, Int.fdiv_one]
  rw [e]
  generalize a0 * b2 * b2 - b0 * (a2 * b2 - b1 * a3) = S0 at *
  generalize (a1 * b2 - b0 * a3) * b2 - b1 * (a2 * b2 - b1 * a3) = S1 at *
  generalize R32 a0 a1 a2 a3 b0 b1 b2 = R at *
  have sb' : SmL 10000 [b0, b1, b2] := sb.mono (by decide)
  have kb : Sm 10000 b2 := k2.mono (by decide)
  by_cases z1 : S1 = 0
  · subst z1
    rw [zT20]
    by_cases z0 : S0 = 0
    · subst z0
      have hR : R = 0 := by
        have : b2 ^ 2 * R = 0 := by rw [← id]; unfold R21; grind
        exact mul_eq_zero' this (Int.pow_ne_zero hb)
      rw [hR]
      exact rr_nil (by simp) (by simp) hb hb sb' kb kb (Sm1 (by decide))
    · rw [zT1 z0]
      have hR : S0 ^ 2 = b2 * R := by
        have : b2 * (S0 ^ 2) = b2 * (b2 * R) := by
          have : R21 b0 b1 b2 S0 0 = b2 * S0 ^ 2 := by unfold R21; grind
          rw [← this, id]; grind
        exact Int.eq_of_mul_eq_mul_left hb this
      have h := RR.done (σ := ⟨[b0, b1, b2], [S0], b2, b2, 1⟩) ⟨by simp, by simp, fun h => absurd h (by simp), hb, hb, by simp, sb', smL1 (s0.mono (by decide)), kb, kb, Sm1 (by decide)⟩ (by simp)
      have e : rrEnd ⟨[b0, b1, b2], [S0], b2, b2, 1⟩ = R := by
        show 1 * (S0 ^ 2).fdiv (b2 ^ 1) = R
        rw [hR, Int.pow_one, Int.mul_fdiv_cancel_left _ hb, Int.one_mul]
      rw [← e]; exact h
  · rw [zT2 z1]
    have sS : SmL 10000 [S0, S1] := smL2 (s0.mono (by decide)) (s1.mono (by decide))
    have sR : Sm 304 (R21 b0 b1 b2 S0 S1) := Sm_R21 (k := 100) (k0.mono (by decide)) (k1.mono (by decide)) (k2.mono (by decide)) s0 s1
    refine RR.step ⟨by simp, by simp, fun _ => z1, hb, hb, by simp, sb', sS, kb, kb, Sm1 (by decide)⟩ (by simp) ?_
    have e : rrN ⟨[b0, b1, b2], [S0, S1], b2, b2, 1⟩ = ⟨[S0, S1], zT [R], S1, S1, 1⟩ := by
      refine rrN_eq (gap := 1) rfl rfl ?_ ?_ (by simp)
      · rw [ps21 _ _ _ _ _ z1, Int.pow_one, zDiv_zT1 (Int.mul_ne_zero hb hb) (y := R) (by rw [id]; grind)]
      · rw [if_pos (by decide), Int.pow_one, Int.pow_zero, Int.fdiv_one]
    rw [e]
    have sRR : Sm 304 R := Sm_dvd sR id (Int.pow_ne_zero hb)
    have := rr_end2 (sg := 1) z1 z1 sS (sRR.mono (l := 10000) (by decide)) (s1.mono (by decide)) (s1.mono (by decide)) (Sm1 (by decide))
    rwa [Int.one_mul] at this

theorem rr22 {a0 a1 a2 b0 b1 b2 : Int} (hb : b2 ≠ 0) (sa : SmL 20 [a0, a1, a2]) (sb : SmL 20 [b0, b1, b2]) : RR ⟨[a0, a1, a2], [b0, b1, b2], 1, 1, 1⟩ (R22 a0 a1 a2 b0 b1 b2) := by
  have h0 := sa a0 (by simp)
  have h1 := sa a1 (by simp)
  have h2 := sa a2 (by simp)
  have k0 := sb b0 (by simp)
  have k1 := sb b1 (by simp)
  have k2 := sb b2 (by simp)
  have s0 : Sm 100 (a0 * b2 - b0 * a2) := SmS (k := 61) (Sm3 h0 k2 (by decide)) (Sm3 k0 h2 (by decide)) (by decide)
  have s1 : Sm 100 (a1 * b2 - b1 * a2) := SmS (k := 61) (Sm3 h1 k2 (by decide)) (Sm3 k1 h2 (by decide)) (by decide)
  have id := id22 a0 a1 a2 b0 b1 b2
  refine RR.step ⟨by simp, by simp, fun _ => hb, n1, n1, by simp, sa.mono (by decide), sb.mono (by decide), Sm1 (by decide), Sm1 (by decide), Sm1 (by decide)⟩ (by simp) ?_
  have e : rrN ⟨[a0, a1, a2], [b0, b1, b2], 1, 1, 1⟩ = ⟨[b0, b1, b2], zT [a0 * b2 - b0 * a2, a1 * b2 - b1 * a2], b2, 1, 1⟩ := by
    refine rrN_eq (gap := 0) rfl rfl ?_ ?_ (by simp)
    · rw [ps22, Int.pow_zero, Int.mul_one, zDiv_one]
    · rw [if_neg (by decide)]
  rw [e]
  generalize a0 * b2 - b0 * a2 = S0 at *
  generalize a1 * b2 - b1 * a2 = S1 at *
  generalize R22 a0 a1 a2 b0 b1 b2 = R at *
  have sb' : SmL 10000 [b0, b1, b2] := sb.mono (by decide)
  have kb : Sm 10000 b2 := k2.mono (by decide)
  by_cases z1 : S1 = 0
  · subst z1
    rw [zT20]
    by_cases z0 : S0 = 0
    · subst z0
      have hR : R = 0 := by
        have : b2 * R = 0 := by rw [← id]; unfold R21; grind
        exact mul_eq_zero' this hb
      rw [hR]
      exact rr_nil (by simp) (by simp) hb n1 sb' kb (Sm1 (by decide)) (Sm1 (by decide))
    · rw [zT1 z0]
      have hR : S0 ^ 2 = R := by
        have : b2 * (S0 ^ 2) = b2 * R := by
          have : R21 b0 b1 b2 S0 0 = b2 * S0 ^ 2 := by unfold R21; grind
          rw [← this, id]
        exact Int.eq_of_mul_eq_mul_left hb this
      have h := RR.done (σ := ⟨[b0, b1, b2], [S0], b2, 1, 1⟩) ⟨by simp, by simp, fun h => absurd h (by simp), n1, hb, by simp, sb', smL1 (s0.mono (by decide)), kb, Sm1 (by decide), Sm1 (by decide)⟩ (by simp)
      have e : rrEnd ⟨[b0, b1, b2], [S0], b2, 1, 1⟩ = R := by
        show 1 * (S0 ^ 2).fdiv (1 ^ 1) = R
        rw [hR, Int.one_pow, Int.fdiv_one, Int.one_mul]
      rw [← e]; exact h
  · rw [zT2 z1]
    have sS : SmL 10000 [S0, S1] := smL2 (s0.mono (by decide)) (s1.mono (by decide))
    have sR : Sm 304 (R21 b0 b1 b2 S0 S1) := Sm_R21 (k := 100) (k0.mono (by decide)) (k1.mono (by decide)) (k2.mono (by decide)) s0 s1
    refine RR.step ⟨by simp, by simp, fun _ => z1, n1, hb, by simp, sb', sS, kb, Sm1 (by decide), Sm1 (by decide)⟩ (by simp) ?_
    have e : rrN ⟨[b0, b1, b2], [S0, S1], b2, 1, 1⟩ = ⟨[S0, S1], zT [R], S1, S1, 1⟩ := by
      refine rrN_eq (gap := 1) rfl rfl ?_ ?_ (by simp)
      · rw [ps21 _ _ _ _ _ z1, Int.one_pow, Int.mul_one, zDiv_zT1 hb (y := R) id]
      · rw [if_pos (by decide), Int.pow_one, Int.pow_zero, Int.fdiv_one]
    rw [e]
    have sRR : Sm 304 R := Sm_dvd sR id hb
    have := rr_end2 (sg := 1) z1 z1 sS (sRR.mono (l := 10000) (by decide)) (s1.mono (by decide)) (s1.mono (by decide)) (Sm1 (by decide))
    rwa [Int.one_mul] at this
end Fco

-- FpG
namespace Fco

theorem cont {l : List Int} {y : Int} (hy : y ∈ l) (h0 : y ≠ 0) {k : Nat} (s : SmL k l) : ∃ c, gcdL l = c ∧ c ≠ 0 ∧ (∀ x ∈ l, x = c * x.fdiv c) ∧ ∀ x ∈ l, Sm k (x.fdiv c) := by
  have hc := gcdL_ne hy h0
  have e : ∀ x ∈ l, x = gcdL l * x.fdiv (gcdL l) := fun x hx => by
    obtain ⟨m, hm⟩ := gcdL_dvd hx
    rw [hm, Int.mul_fdiv_cancel_left _ hc]
  exact ⟨_, rfl, hc, e, fun x hx => Sm_dvd (s x hx) (e x hx) hc⟩

theorem hom32 {c d k0 k1 k2 k3 l0 l1 l2 : Int} : c ^ 2 * d ^ 3 * R32 k0 k1 k2 k3 l0 l1 l2 = R32 (c * k0) (c * k1) (c * k2) (c * k3) (d * l0) (d * l1) (d * l2) := by unfold R32; grind
theorem hom31 {c d k0 k1 k2 k3 l0 l1 : Int} : c ^ 1 * d ^ 3 * R31 k0 k1 k2 k3 l0 l1 = R31 (c * k0) (c * k1) (c * k2) (c * k3) (d * l0) (d * l1) := by unfold R31; grind
theorem hom22 {c d k0 k1 k2 l0 l1 l2 : Int} : c ^ 2 * d ^ 2 * R22 k0 k1 k2 l0 l1 l2 = R22 (c * k0) (c * k1) (c * k2) (d * l0) (d * l1) (d * l2) := by unfold R22; grind
theorem hom21 {c d k0 k1 k2 l0 l1 : Int} : c ^ 1 * d ^ 2 * R21 k0 k1 k2 l0 l1 = R21 (c * k0) (c * k1) (c * k2) (d * l0) (d * l1) := by unfold R21; grind

section
variable {G : GC}
theorem call_conv {n : Nat} {f : Str} {args : List PyData} {d d' : PyData} (h : CallOk G n f args d) (e : d = d') : CallOk G n f args d' := e ▸ h

theorem res32 (D : G.Gd) {a0 a1 a2 a3 b0 b1 b2 : Int} (ha : a3 ≠ 0) (hb : b2 ≠ 0) (sa : SmL 12 [a0, a1, a2, a3]) (sb : SmL 12 [b0, b1, b2]) : CallOk G 7 "resultant" [dZ [a0, a1, a2, a3], dZ [b0, b1, b2]] (.int (R32 a0 a1 a2 a3 b0 b1 b2)) := by
  obtain ⟨c, hc, hc0, ec, zc⟩ := cont (l := [a0, a1, a2, a3]) (y := a3) (by simp) ha sa
  obtain ⟨d, hd, hd0, ed, zd⟩ := cont (l := [b0, b1, b2]) (y := b2) (by simp) hb sb
  have hl2 : b2.fdiv d ≠ 0 := fun e => hb (by rw [ed b2 (by simp), e]; simp)
  have rr := rr32 (a0 := a0.fdiv c) (a1 := a1.fdiv c) (a2 := a2.fdiv c) (a3 := a3.fdiv c) (b0 := b0.fdiv d) (b1 := b1.fdiv d) (b2 := b2.fdiv d) hl2 ((smL4 (zc _ (by simp)) (zc _ (by simp)) (zc _ (by simp)) (zc _ (by simp))).mono (by decide)) ((smL3 (zd _ (by simp)) (zd _ (by simp)) (zd _ (by simp))).mono (by decide))
  refine call_conv (c_resultant D (a := [a0, a1, a2, a3]) (b := [b0, b1, b2]) (r := R32 (a0.fdiv c) (a1.fdiv c) (a2.fdiv c) (a3.fdiv c) (b0.fdiv d) (b1.fdiv d) (b2.fdiv d)) (by simp) (by simp) (by simp) (by simp) ha hb sa sb (by simp) ?_) ?_
  · show RR ⟨zDiv [a0, a1, a2, a3] (gcdL [a0, a1, a2, a3]), zDiv [b0, b1, b2] (gcdL [b0, b1, b2]), 1, 1, 1⟩ _
    rw [hc, hd]; exact rr
  · show PyData.int (gcdL [a0, a1, a2, a3] ^ 2 * gcdL [b0, b1, b2] ^ 3 * _) = _
    rw [hc, hd, hom32, ← ec a0 (by simp), ← ec a1 (by simp), ← ec a2 (by simp), ← ec a3 (by simp), ← ed b0 (by simp), ← ed b1 (by simp), ← ed b2 (by simp)]
theorem res31 (D : G.Gd) {a0 a1 a2 a3 b0 b1 : Int} (ha : a3 ≠ 0) (hb : b1 ≠ 0) (sa : SmL 12 [a0, a1, a2, a3]) (sb : SmL 12 [b0, b1]) : CallOk G 7 "resultant" [dZ [a0, a1, a2, a3], dZ [b0, b1]] (.int (R31 a0 a1 a2 a3 b0 b1)) := by
  obtain ⟨c, hc, hc0, ec, zc⟩ := cont (l := [a0, a1, a2, a3]) (y := a3) (by simp) ha sa
  obtain ⟨d, hd, hd0, ed, zd⟩ := cont (l := [b0, b1]) (y := b1) (by simp) hb sb
  have hl2 : b1.fdiv d ≠ 0 := fun e => hb (by rw [ed b1 (by simp), e]; simp)
  have rr := rr31 (a0 := a0.fdiv c) (a1 := a1.fdiv c) (a2 := a2.fdiv c) (a3 := a3.fdiv c) (b0 := b0.fdiv d) (b1 := b1.fdiv d) hl2 ((smL4 (zc _ (by simp)) (zc _ (by simp)) (zc _ (by simp)) (zc _ (by simp))).mono (by decide)) ((smL2 (zd _ (by simp)) (zd _ (by simp))).mono (by decide))
  refine call_conv (c_resultant D (a := [a0, a1, a2, a3]) (b := [b0, b1]) (r := R31 (a0.fdiv c) (a1.fdiv c) (a2.fdiv c) (a3.fdiv c) (b0.fdiv d) (b1.fdiv d)) (by simp) (by simp) (by simp) (by simp) ha hb sa sb (by simp) ?_) ?_
  · show RR ⟨zDiv [a0, a1, a2, a3] (gcdL [a0, a1, a2, a3]), zDiv [b0, b1] (gcdL [b0, b1]), 1, 1, 1⟩ _
    rw [hc, hd]; exact rr
  · show PyData.int (gcdL [a0, a1, a2, a3] ^ 1 * gcdL [b0, b1] ^ 3 * _) = _
    rw [hc, hd, hom31, ← ec a0 (by simp), ← ec a1 (by simp), ← ec a2 (by simp), ← ec a3 (by simp), ← ed b0 (by simp), ← ed b1 (by simp)]
theorem res22 (D : G.Gd) {a0 a1 a2 b0 b1 b2 : Int} (ha : a2 ≠ 0) (hb : b2 ≠ 0) (sa : SmL 12 [a0, a1, a2]) (sb : SmL 12 [b0, b1, b2]) : CallOk G 7 "resultant" [dZ [a0, a1, a2], dZ [b0, b1, b2]] (.int (R22 a0 a1 a2 b0 b1 b2)) := by
  obtain ⟨c, hc, hc0, ec, zc⟩ := cont (l := [a0, a1, a2]) (y := a2) (by simp) ha sa
  obtain ⟨d, hd, hd0, ed, zd⟩ := cont (l := [b0, b1, b2]) (y := b2) (by simp) hb sb
  have hl2 : b2.fdiv d ≠ 0 := fun e => hb (by rw [ed b2 (by simp), e]; simp)
  have rr := rr22 (a0 := a0.fdiv c) (a1 := a1.fdiv c) (a2 := a2.fdiv c) (b0 := b0.fdiv d) (b1 := b1.fdiv d) (b2 := b2.fdiv d) hl2 ((smL3 (zc _ (by simp)) (zc _ (by simp)) (zc _ (by simp))).mono (by decide)) ((smL3 (zd _ (by simp)) (zd _ (by simp)) (zd _ (by simp))).mono (by decide))
  refine call_conv (c_resultant D (a := [a0, a1, a2]) (b := [b0, b1, b2]) (r := R22 (a0.fdiv c) (a1.fdiv c) (a2.fdiv c) (b0.fdiv d) (b1.fdiv d) (b2.fdiv d)) (by simp) (by simp) (by simp) (by simp) ha hb sa sb (by simp) ?_) ?_
  · show RR ⟨zDiv [a0, a1, a2] (gcdL [a0, a1, a2]), zDiv [b0, b1, b2] (gcdL [b0, b1, b2]), 1, 1, 1⟩ _
    rw [hc, hd]; exact rr
  · show PyData.int (gcdL [a0, a1, a2] ^ 2 * gcdL [b0, b1, b2] ^ 2 * _) = _
    rw [hc, hd, hom22, ← ec a0 (by simp), ← ec a1 (by simp), ← ec a2 (by simp), ← ed b0 (by simp), ← ed b1 (by simp), ← ed b2 (by simp)]
theorem res21 (D : G.Gd) {a0 a1 a2 b0 b1 : Int} (ha : a2 ≠ 0) (hb : b1 ≠ 0) (sa : SmL 12 [a0, a1, a2]) (sb : SmL 12 [b0, b1]) : CallOk G 7 "resultant" [dZ [a0, a1, a2], dZ [b0, b1]] (.int (R21 a0 a1 a2 b0 b1)) := by
  obtain ⟨c, hc, hc0, ec, zc⟩ := cont (l := [a0, a1, a2]) (y := a2) (by simp) ha sa
  obtain ⟨d, hd, hd0, ed, zd⟩ := cont (l := [b0, b1]) (y := b1) (by simp) hb sb
  have hl2 : b1.fdiv d ≠ 0 := fun e => hb (by rw [ed b1 (by simp), e]; simp)
  have rr := rr21 (a0 := a0.fdiv c) (a1 := a1.fdiv c) (a2 := a2.fdiv c) (b0 := b0.fdiv d) (b1 := b1.fdiv d) hl2 ((smL3 (zc _ (by simp)) (zc _ (by simp)) (zc _ (by simp))).mono (by decide)) ((smL2 (zd _ (by simp)) (zd _ (by simp))).mono (by decide))
  refine call_conv (c_resultant D (a := [a0, a1, a2]) (b := [b0, b1]) (r := R21 (a0.fdiv c) (a1.fdiv c) (a2.fdiv c) (b0.fdiv d) (b1.fdiv d)) (by simp) (by simp) (by simp) (by simp) ha hb sa sb (by simp) ?_) ?_
  · show RR ⟨zDiv [a0, a1, a2] (gcdL [a0, a1, a2]), zDiv [b0, b1] (gcdL [b0, b1]), 1, 1, 1⟩ _
    rw [hc, hd]; exact rr
  · show PyData.int (gcdL [a0, a1, a2] ^ 1 * gcdL [b0, b1] ^ 2 * _) = _
    rw [hc, hd, hom21, ← ec a0 (by simp), ← ec a1 (by simp), ← ec a2 (by simp), ← ed b0 (by simp), ← ed b1 (by simp)]
theorem sw12 (a0 a1 b0 b1 b2 : Int) : resSw [a0, a1] [b0, b1, b2] = ([b0, b1, b2], [a0, a1], 1) := by simp [resSw]
theorem sw02 (a0 b0 b1 b2 : Int) : resSw [a0] [b0, b1, b2] = ([b0, b1, b2], [a0], 1) := by simp [resSw]
/-- the shorter one in front -/
theorem res12 (D : G.Gd) {a0 a1 b0 b1 b2 : Int} (ha : a1 ≠ 0) (hb : b2 ≠ 0) (sa : SmL 12 [a0, a1]) (sb : SmL 12 [b0, b1, b2]) : CallOk G 7 "resultant" [dZ [a0, a1], dZ [b0, b1, b2]] (.int (R21 b0 b1 b2 a0 a1)) := by
  obtain ⟨c, hc, hc0, ec, zc⟩ := cont (l := [b0, b1, b2]) (y := b2) (by simp) hb sb
  obtain ⟨d, hd, hd0, ed, zd⟩ := cont (l := [a0, a1]) (y := a1) (by simp) ha sa
  have hl2 : a1.fdiv d ≠ 0 := fun e => ha (by rw [ed a1 (by simp), e]; simp)
  have rr := rr21 (a0 := b0.fdiv c) (a1 := b1.fdiv c) (a2 := b2.fdiv c) (b0 := a0.fdiv d) (b1 := a1.fdiv d) hl2 ((smL3 (zc _ (by simp)) (zc _ (by simp)) (zc _ (by simp))).mono (by decide)) ((smL2 (zd _ (by simp)) (zd _ (by simp))).mono (by decide))
  refine call_conv (c_resultant D (a := [a0, a1]) (b := [b0, b1, b2]) (r := R21 (b0.fdiv c) (b1.fdiv c) (b2.fdiv c) (a0.fdiv d) (a1.fdiv d)) (by simp) (by simp) (by simp) (by simp) ha hb sa sb (by simp) ?_) ?_
  · rw [sw12]; show RR ⟨zDiv [b0, b1, b2] (gcdL [b0, b1, b2]), zDiv [a0, a1] (gcdL [a0, a1]), 1, 1, 1⟩ _
    rw [hc, hd]; exact rr
  · rw [sw12]; show PyData.int (gcdL [b0, b1, b2] ^ 1 * gcdL [a0, a1] ^ 2 * _) = _
    rw [hc, hd, hom21, ← ec b0 (by simp), ← ec b1 (by simp), ← ec b2 (by simp), ← ed a0 (by simp), ← ed a1 (by simp)]
/-- a constant behind -/
theorem resC (D : G.Gd) {a : List Int} {b0 : Int} (ha : a ≠ []) (hla : a.length ≤ 4) (hz : zLd a ≠ 0) (hb : b0 ≠ 0) (sa : SmL 12 a) (sb : Sm 12 b0) : CallOk G 7 "resultant" [dZ a, dZ [b0]] (.int (b0 ^ (a.length - 1))) := by
  have hl1 : 1 ≤ a.length := List.length_pos_iff.mpr ha
  obtain ⟨c, hc, hc0, ec, zc⟩ := cont (zLd_mem ha) hz sa
  obtain ⟨d, hd, hd0, ed, zd⟩ := cont (l := [b0]) (y := b0) (by simp) hb (smL1 sb)
  have hsw : resSw a [b0] = (a, [b0], 1) := by
    unfold resSw
    rw [if_neg (by simp; (first | lia | omega))]
  have rr := rr_const (a := zDiv a c) (b0 := b0.fdiv d) (sg := 1) (k := 0) (by simp [zDiv]; (first | lia | omega)) (by simp [zDiv]; (first | lia | omega)) (fun x hx => by
    obtain ⟨y, hy, rfl⟩ := List.mem_map.mp hx
    exact (zc y hy).mono (by decide)) ((zd b0 (by simp)).mono (by decide)) (Sm1 (by decide))
  refine call_conv (c_resultant D (a := a) (b := [b0]) (r := 1 * (b0.fdiv d) ^ ((zDiv a c).length - 1)) ha (by simp) (by (first | lia | omega)) (by simp) hz hb sa (smL1 sb) (by simp; (first | lia | omega)) ?_) ?_
  · rw [hsw]
    show RR ⟨zDiv a (gcdL a), zDiv [b0] (gcdL [b0]), 1, 1, 1⟩ _
    rw [hc, hd]; exact rr
  · rw [hsw]
    show PyData.int (gcdL a ^ 0 * gcdL [b0] ^ (a.length - 1) * _) = _
    have hl : (zDiv a c).length = a.length := by simp [zDiv]
    rw [hd, Int.pow_zero, Int.one_mul, Int.one_mul, hl, ← Int.mul_pow, ← ed b0 (by simp)]
/-- a constant in front of a square -/
theorem res02 (D : G.Gd) {a0 b0 b1 b2 : Int} (ha : a0 ≠ 0) (hb : b2 ≠ 0) (sa : Sm 12 a0) (sb : SmL 12 [b0, b1, b2]) : CallOk G 7 "resultant" [dZ [a0], dZ [b0, b1, b2]] (.int (a0 ^ 2)) := by
  obtain ⟨c, hc, hc0, ec, zc⟩ := cont (l := [b0, b1, b2]) (y := b2) (by simp) hb sb
  obtain ⟨d, hd, hd0, ed, zd⟩ := cont (l := [a0]) (y := a0) (by simp) ha (smL1 sa)
  have rr := rr_const (a := [b0.fdiv c, b1.fdiv c, b2.fdiv c]) (b0 := a0.fdiv d) (sg := 1) (k := 0) (by simp) (by simp) ((smL3 (zc _ (by simp)) (zc _ (by simp)) (zc _ (by simp))).mono (by decide)) ((zd a0 (by simp)).mono (by decide)) (Sm1 (by decide))
  refine call_conv (c_resultant D (a := [a0]) (b := [b0, b1, b2]) (r := 1 * (a0.fdiv d) ^ 2) (by simp) (by simp) (by simp) (by simp) ha hb (smL1 sa) sb (by simp) ?_) ?_
  · rw [sw02]; show RR ⟨zDiv [b0, b1, b2] (gcdL [b0, b1, b2]), zDiv [a0] (gcdL [a0]), 1, 1, 1⟩ _
    rw [hc, hd]; exact rr
  · rw [sw02]; show PyData.int (gcdL [b0, b1, b2] ^ 0 * gcdL [a0] ^ 2 * _) = _
    rw [hd, Int.pow_zero, Int.one_mul, Int.one_mul, ← Int.mul_pow, ← ed a0 (by simp)]
end
end Fco

-- FpH
namespace Fco
section
variable {G : GC}
theorem c2 : Sm 2 2 := by unfold Sm; decide
theorem c3 : Sm 2 3 := by unfold Sm; decide
theorem disc3 (D : G.Gd) {f0 f1 f2 f3 : Int} (h3 : f3 ≠ 0) (sf : SmL 10 [f0, f1, f2, f3]) : CallOk G 8 "discriminant" [dZ [f0, f1, f2, f3]] (.int (D3 f0 f1 f2 f3)) := by
  have k0 := sf f0 (by simp)
  have k1 := sf f1 (by simp)
  have k2 := sf f2 (by simp)
  have k3 := sf f3 (by simp)
  have hd : SmL 12 [f1, f2 * 2, f3 * 3] := smL3 (k1.mono (by decide)) (k2.mul c2) (k3.mul c3)
  have hr := res32 D (b2 := f3 * 3) h3 (Int.mul_ne_zero h3 (by decide)) (sf.mono (by decide)) hd
  refine call_conv (c_disc D (f := [f0, f1, f2, f3]) (by simp) (by simp) h3 (sf.mono (by decide)) (by rw [der4]; exact hr)) ?_
  show PyData.int (-((R32 f0 f1 f2 f3 f1 (f2 * 2) (f3 * 3)).fdiv f3)) = _
  have e : R32 f0 f1 f2 f3 f1 (f2 * 2) (f3 * 3) = f3 * (-D3 f0 f1 f2 f3) := by unfold R32 D3; grind
  rw [e, Int.mul_fdiv_cancel_left _ h3, Int.neg_neg]
theorem disc2 (D : G.Gd) {f0 f1 f2 : Int} (h2 : f2 ≠ 0) (sf : SmL 10 [f0, f1, f2]) : CallOk G 8 "discriminant" [dZ [f0, f1, f2]] (.int (D2 f0 f1 f2)) := by
  have k1 := sf f1 (by simp)
  have k2 := sf f2 (by simp)
  have hd : SmL 12 [f1, f2 * 2] := smL2 (k1.mono (by decide)) (k2.mul c2)
  have hr := res21 D (b1 := f2 * 2) h2 (Int.mul_ne_zero h2 (by decide)) (sf.mono (by decide)) hd
  refine call_conv (c_disc D (f := [f0, f1, f2]) (by simp) (by simp) h2 (sf.mono (by decide)) (by rw [der3]; exact hr)) ?_
  show PyData.int (-((R21 f0 f1 f2 f1 (f2 * 2)).fdiv f2)) = _
  have e : R21 f0 f1 f2 f1 (f2 * 2) = f2 * (-D2 f0 f1 f2) := by unfold R21 D2; grind
  rw [e, Int.mul_fdiv_cancel_left _ h2, Int.neg_neg]
theorem disc1 (D : G.Gd) {f0 f1 : Int} (h1 : f1 ≠ 0) (sf : SmL 10 [f0, f1]) : CallOk G 8 "discriminant" [dZ [f0, f1]] (.int 1) := by
  have k1 := sf f1 (by simp)
  have hr := resC D (a := [f0, f1]) (b0 := f1) (by simp) (by simp) h1 h1 (sf.mono (by decide)) (k1.mono (by decide))
  refine call_conv (c_disc D (f := [f0, f1]) (by simp) (by simp) h1 (sf.mono (by decide)) (by rw [der2]; exact hr)) ?_
  show PyData.int ((f1 ^ 1).fdiv f1) = _
  have e : f1 ^ 1 = f1 * 1 := by rw [Int.pow_one, Int.mul_one]
  rw [e, Int.mul_fdiv_cancel_left _ h1]

theorem told3 (D : G.Gd) {w0 w1 w2 w3 : Int} (sw : SmL 10 [w0, w1, w2, w3]) : CallOk G 9 "_law_told" [dZ (zT [w0, w1, w2, w3]), .int (3 : Nat)] (.int (D3 w0 w1 w2 w3)) := by
  have sz : SmL 10 (zT [w0, w1, w2, w3]) := sw.zT
  by_cases h3 : w3 = 0
  · subst h3
    rw [zT40] at sz ⊢
    by_cases h2 : w2 = 0
    · subst h2
      rw [zT30] at sz ⊢
      have hl := len2 w0 w1
      refine call_conv (c_told D (f := zT [w0, w1]) (many := 3) (r := 0) (by (first | lia | omega)) (by decide) (sz.mono (by decide)) (fun h => absurd h (by (first | lia | omega))) (by decide)) ?_
      rw [if_pos (by (first | lia | omega))]
      congr 1
      unfold D3; grind
    · rw [zT3 h2] at sz ⊢
      refine call_conv (c_told D (f := [w0, w1, w2]) (many := 3) (r := D2 w0 w1 w2) (by simp) (by decide) (sz.mono (by decide)) (fun _ => disc2 D h2 sz) (by decide)) ?_
      show PyData.int (D2 w0 w1 w2 * w2 ^ 2) = _
      congr 1
      unfold D3 D2; grind
  · rw [zT4 h3] at sz ⊢
    refine call_conv (c_told D (f := [w0, w1, w2, w3]) (many := 3) (r := D3 w0 w1 w2 w3) (by simp) (by decide) (sz.mono (by decide)) (fun _ => disc3 D h3 sz) (by decide)) ?_
    rfl
theorem told2 (D : G.Gd) {w0 w1 w2 : Int} (sw : SmL 10 [w0, w1, w2]) : CallOk G 9 "_law_told" [dZ (zT [w0, w1, w2]), .int (2 : Nat)] (.int (D2 w0 w1 w2)) := by
  have sz : SmL 10 (zT [w0, w1, w2]) := sw.zT
  by_cases h3 : w2 = 0
  · subst h3
    rw [zT30] at sz ⊢
    by_cases h2 : w1 = 0
    · subst h2
      rw [zT20] at sz ⊢
      have hl := len1 w0
      refine call_conv (c_told D (f := zT [w0]) (many := 2) (r := 0) (by (first | lia | omega)) (by decide) (sz.mono (by decide)) (fun h => absurd h (by (first | lia | omega))) (by decide)) ?_
      rw [if_pos (by (first | lia | omega))]
      congr 1
      unfold D2; grind
    · rw [zT2 h2] at sz ⊢
      refine call_conv (c_told D (f := [w0, w1]) (many := 2) (r := 1) (by simp) (by decide) (sz.mono (by decide)) (fun _ => disc1 D h2 sz) (by decide)) ?_
      show PyData.int (1 * w1 ^ 2) = _
      congr 1
      unfold D2; grind
  · rw [zT3 h3] at sz ⊢
    refine call_conv (c_told D (f := [w0, w1, w2]) (many := 2) (r := D2 w0 w1 w2) (by simp) (by decide) (sz.mono (by decide)) (fun _ => disc2 D h3 sz) (by decide)) ?_
    rfl

theorem both3 (D : G.Gd) {w0 w1 w2 w3 p0 p1 p2 : Int} (sw : SmL 10 [w0, w1, w2, w3]) (sp : SmL 10 [p0, p1, p2]) (nw : zT [w0, w1, w2, w3] ≠ []) (np : zT [p0, p1, p2] ≠ []) :
    CallOk G 8 "_law_both" [dZ (zT [w0, w1, w2, w3]), dZ (zT [p0, p1, p2])] (.int (R32 w0 w1 w2 w3 p0 p1 p2)) := by
  have sz : SmL 12 (zT [w0, w1, w2, w3]) := sw.zT.mono (by decide)
  have tz : SmL 12 (zT [p0, p1, p2]) := sp.zT.mono (by decide)
  have l1 : (zT [w0, w1, w2, w3]).length ≤ 4 := zT_le _
  have l2 : (zT [p0, p1, p2]).length ≤ 3 := zT_le _
  by_cases h3 : w3 = 0
  · by_cases h2 : p2 = 0
    · subst h3 h2
      refine call_conv (c_both D (r := 0) l1 l2 nw np sz tz fun h => ?_) ?_
      · have a1 : (zT [w0, w1, w2, 0]).length ≤ 3 := by rw [zT40]; exact zT_le _
        have a2 : (zT [p0, p1, 0]).length ≤ 2 := by rw [zT30]; exact zT_le _
        (first | lia | omega)
      · have a1 : (zT [w0, w1, w2, 0]).length ≤ 3 := by rw [zT40]; exact zT_le _
        have a2 : (zT [p0, p1, 0]).length ≤ 2 := by rw [zT30]; exact zT_le _
        rw [if_pos ⟨by (first | lia | omega), by (first | lia | omega)⟩]
        congr 1
        unfold R32; grind
    · subst h3
      rw [zT3 h2] at tz np l2 ⊢
      rw [zT40] at sz nw l1 ⊢
      by_cases g2 : w2 = 0
      · subst g2
        rw [zT30] at sz nw l1 ⊢
        by_cases g1 : w1 = 0
        · subst g1
          rw [zT20] at sz nw l1 ⊢
          by_cases g0 : w0 = 0
          · subst g0
            exact absurd zT10 nw
          · rw [zT1 g0] at sz nw l1 ⊢
            refine call_conv (c_both D (f := [w0]) (h := [p0, p1, p2]) (r := w0 ^ 2) l1 l2 nw np sz tz fun _ => res02 D g0 h2 (sz w0 (by simp)) tz) ?_
            show PyData.int (w0 ^ 2 * p2 ^ 3) = _
            congr 1
            unfold R32; grind
        · rw [zT2 g1] at sz nw l1 ⊢
          refine call_conv (c_both D (f := [w0, w1]) (h := [p0, p1, p2]) (r := R21 p0 p1 p2 w0 w1) l1 l2 nw np sz tz fun _ => res12 D g1 h2 sz tz) ?_
          show PyData.int (R21 p0 p1 p2 w0 w1 * p2 ^ 2) = _
          congr 1
          unfold R32 R21; grind
      · rw [zT3 g2] at sz nw l1 ⊢
        refine call_conv (c_both D (f := [w0, w1, w2]) (h := [p0, p1, p2]) (r := R22 w0 w1 w2 p0 p1 p2) l1 l2 nw np sz tz fun _ => res22 D g2 h2 sz tz) ?_
        show PyData.int (R22 w0 w1 w2 p0 p1 p2 * p2 ^ 1) = _
        congr 1
        unfold R32 R22; grind
  · rw [zT4 h3] at sz nw l1 ⊢
    by_cases h2 : p2 = 0
    · subst h2
      rw [zT30] at tz np l2 ⊢
      by_cases h1 : p1 = 0
      · subst h1
        rw [zT20] at tz np l2 ⊢
        by_cases h0 : p0 = 0
        · subst h0
          exact absurd zT10 np
        · rw [zT1 h0] at tz np l2 ⊢
          refine call_conv (c_both D (f := [w0, w1, w2, w3]) (h := [p0]) (r := p0 ^ 3) l1 l2 nw np sz tz fun _ => resC D (a := [w0, w1, w2, w3]) nw l1 h3 h0 sz (tz p0 (by simp))) ?_
          show PyData.int (p0 ^ 3 * w3 ^ 2) = _
          congr 1
          unfold R32; grind
      · rw [zT2 h1] at tz np l2 ⊢
        refine call_conv (c_both D (f := [w0, w1, w2, w3]) (h := [p0, p1]) (r := R31 w0 w1 w2 w3 p0 p1) l1 l2 nw np sz tz fun _ => res31 D h3 h1 sz tz) ?_
        show PyData.int (R31 w0 w1 w2 w3 p0 p1 * w3 ^ 1) = _
        congr 1
        unfold R32 R31; grind
    · rw [zT3 h2] at tz np l2 ⊢
      refine call_conv (c_both D (f := [w0, w1, w2, w3]) (h := [p0, p1, p2]) (r := R32 w0 w1 w2 w3 p0 p1 p2) l1 l2 nw np sz tz fun _ => res32 D h3 h2 sz tz) ?_
      show PyData.int (R32 w0 w1 w2 w3 p0 p1 p2 * w3 ^ 0) = _
      rw [Int.pow_zero, Int.mul_one]
end
end Fco

-- FpI
namespace Fco

-- coefficients of lists of ratios
theorem pSz_spec (l : List Rat) : ∀ k, (∀ i, pSz l k ≤ i → i < k → l.getD i 0 = 0) ∧ (pSz l k = 0 ∨ l.getD (pSz l k - 1) 0 ≠ 0)
  | 0 => ⟨fun i _ h => absurd h (Nat.not_lt_zero _), .inl rfl⟩
  | k + 1 => by
    unfold pSz
    have ih := pSz_spec l k
    split
    · rename_i h
      refine ⟨fun i h1 h2 => ?_, ih.2⟩
      by_cases e : i = k
      · rw [e]; exact h
      · exact ih.1 i h1 (by (first | lia | omega))
    · rename_i h
      exact ⟨fun i h1 h2 => absurd h2 (by (first | lia | omega)), .inr (by simpa using h)⟩
theorem qf_ge {l : List Rat} {i : Nat} (h : l.length ≤ i) : l.getD i 0 = 0 := by
  rw [List.getD_eq_getElem?_getD, List.getElem?_eq_none h]; rfl
theorem qf_pT (l : List Rat) (i : Nat) : (pT l).getD i 0 = l.getD i 0 := by
  unfold pT
  by_cases h : i < pSz l l.length
  · rw [List.getD_eq_getElem?_getD, List.getElem?_take_of_lt h, List.getD_eq_getElem?_getD]
  · have h1 : (l.take (pSz l l.length)).getD i 0 = 0 := qf_ge (by rw [List.length_take]; (first | lia | omega))
    rw [h1]
    by_cases h2 : i < l.length
    · exact ((pSz_spec l l.length).1 i (by (first | lia | omega)) h2).symm
    · exact (qf_ge (by (first | lia | omega))).symm
noncomputable def TrP (l : List Rat) : Prop := l = [] ∨ pLd l ≠ 0
theorem pT_len (l : List Rat) : (pT l).length = pSz l l.length := by
  unfold pT; rw [List.length_take]; have := pSz_le l l.length; (first | lia | omega)
theorem TrP_pT (l : List Rat) : TrP (pT l) := by
  rcases (pSz_spec l l.length).2 with h | h
  · left; unfold pT; rw [h]; rfl
  · right
    unfold pLd
    rw [pT_len, qf_pT]; exact h
theorem extP_len {a b : List Rat} (ha : TrP a) (h : ∀ i, a.getD i 0 = b.getD i 0) : a.length ≤ b.length := by
  rcases ha with e | e
  · simp [e]
  · apply Classical.byContradiction
    intro hl
    apply e
    unfold pLd
    rw [h]; exact qf_ge (by (first | lia | omega))
theorem TrP.ext {a b : List Rat} (ha : TrP a) (hb : TrP b) (h : ∀ i, a.getD i 0 = b.getD i 0) : a = b := by
  have hl : a.length = b.length := Nat.le_antisymm (extP_len ha h) (extP_len hb fun i => (h i).symm)
  apply List.ext_getElem hl
  intro i h1 h2
  have := h i
  rw [List.getD_eq_getElem?_getD, List.getD_eq_getElem?_getD, List.getElem?_eq_getElem h1, List.getElem?_eq_getElem h2] at this
  simpa using this
theorem qf_pAdd (a b : List Rat) (i : Nat) : (pAdd a b).getD i 0 = a.getD i 0 + b.getD i 0 := by
  unfold pAdd
  rw [qf_pT]
  by_cases h : i < max a.length b.length
  · have h' : i < (pAddL a b).length := by rw [pAddL_len]; exact h
    rw [List.getD_eq_getElem?_getD, List.getElem?_eq_getElem h']
    simp [pAddL]
  · rw [qf_ge (by rw [pAddL_len]; (first | lia | omega)), qf_ge (l := a) (by (first | lia | omega)), qf_ge (l := b) (by (first | lia | omega)), Rat.add_zero]
theorem TrP_pAdd (a b : List Rat) : TrP (pAdd a b) := TrP_pT _
theorem qf_pNeg (a : List Rat) (i : Nat) : (pNeg a).getD i 0 = -(a.getD i 0) := by
  unfold pNeg
  simp only [List.getD_eq_getElem?_getD, List.getElem?_map]
  cases a[i]? <;> simp
theorem qf_pSub (a b : List Rat) (i : Nat) : (pSub a b).getD i 0 = a.getD i 0 - b.getD i 0 := by
  unfold pSub; rw [qf_pAdd, qf_pNeg, Rat.sub_eq_add_neg]
theorem qf_map (a : List Rat) (k : Rat) (i : Nat) : (a.map fun x => x * k).getD i 0 = a.getD i 0 * k := by
  simp only [List.getD_eq_getElem?_getD, List.getElem?_map]
  cases a[i]? <;> simp [Rat.zero_mul]
theorem qf_pScale (a : List Rat) (k : Rat) (i : Nat) : (pScale a k).getD i 0 = a.getD i 0 * k := by
  unfold pScale
  split
  · rename_i h; rw [h, Rat.mul_zero]; rfl
  · exact qf_map a k i
theorem qf_pRaise (a : List Rat) (k i : Nat) : (pRaise a k).getD i 0 = if i < k then 0 else a.getD (i - k) 0 := by
  unfold pRaise
  split
  · rename_i h; rw [h]; simp
  · simp only [List.getD_eq_getElem?_getD]
    split
    · rename_i h
      rw [List.getElem?_append_left (by simpa using h)]
      simp [h]
    · rename_i h
      rw [List.getElem?_append_right (by simp; (first | lia | omega))]
      simp
theorem TrP_pScale {a : List Rat} {k : Rat} (h : TrP a) (hk : k ≠ 0) : TrP (pScale a k) := by
  rcases h with h | h
  · left; rw [h]; simp [pScale]
  · right
    unfold pLd at *
    have hl : (pScale a k).length = a.length := by simp [pScale, hk]
    rw [hl, qf_pScale]
    intro e
    rcases Rat.mul_eq_zero.mp e with e | e
    · exact h e
    · exact hk e
theorem pScale_one (l : List Rat) : pScale l 1 = l := by
  unfold pScale
  rw [if_neg (by decide)]
  induction l with
  | nil => rfl
  | cons a l ih => rw [List.map_cons, ih, Rat.mul_one]

/-- the product's coefficients -/
noncomputable def cq : List Rat → List Rat → Nat → Rat
  | [], _, _ => 0
  | x :: _, b, 0 => x * b.getD 0 0
  | x :: a, b, k + 1 => x * b.getD (k + 1) 0 + cq a b k

theorem qf_pRow (left : Rat) (one : Nat) : ∀ (b : List Rat) (n : Nat) (fd : List Rat), one + n + b.length ≤ fd.length → ∀ k, ((b.zipIdx n).foldl (fun fd p => fd.set (one + p.2) (fd.getD (one + p.2) 0 + left * p.1)) fd).getD k 0 = fd.getD k 0 + if one + n ≤ k then left * b.getD (k - (one + n)) 0 else 0
  | [], n, fd, _, k => by simp [Rat.mul_zero, Rat.add_zero]
  | x :: b, n, fd, h, k => by
    rw [List.zipIdx_cons, List.foldl_cons]
    simp only [List.length_cons] at h
    rw [qf_pRow left one b (n + 1) _ (by simp; (first | lia | omega)) k]
    simp only [List.getD_eq_getElem?_getD, List.getElem?_set]
    by_cases h1 : one + n = k
    · subst h1
      have h2 : one + n < fd.length := by (first | lia | omega)
      have h3 : ¬ n + 1 ≤ n := by (first | lia | omega)
      simp [h2, h3, Rat.add_zero]
    · by_cases h2 : one + n ≤ k
      · obtain ⟨j, rfl⟩ : ∃ j, k = one + n + (j + 1) := ⟨k - (one + n) - 1, by (first | lia | omega)⟩
        have e1 : one + n + (j + 1) - (one + (n + 1)) = j := by (first | lia | omega)
        have e2 : one + n + (j + 1) - (one + n) = j + 1 := by (first | lia | omega)
        have e3 : one + (n + 1) ≤ one + n + (j + 1) := by (first | lia | omega)
        have e4 : one + n ≤ one + n + (j + 1) := by (first | lia | omega)
        simp [e1, e2, e3]
      · have e3 : ¬ one + (n + 1) ≤ k := by (first | lia | omega)
        simp [h1, h2, e3]
theorem qf_pMulF (b : List Rat) : ∀ (a : List Rat) (n : Nat) (fd : List Rat), n + a.length + b.length ≤ fd.length + 1 → ∀ k, ((a.zipIdx n).foldl (fun fd p => pRow p.1 p.2 b fd) fd).getD k 0 = fd.getD k 0 + if n ≤ k then cq a b (k - n) else 0
  | [], n, fd, _, k => by simp [cq, Rat.add_zero]
  | x :: a, n, fd, h, k => by
    rw [List.zipIdx_cons, List.foldl_cons]
    simp only [List.length_cons] at h
    have step : ∀ j, (pRow x n b fd).getD j 0 = fd.getD j 0 + if n ≤ j then x * b.getD (j - n) 0 else 0 := by
      intro j
      unfold pRow
      have := qf_pRow x n b 0 fd (by (first | lia | omega)) j
      simpa using this
    have hl : (pRow x n b fd).length = fd.length := pRow_len _ _ _ _
    show ((a.zipIdx (n + 1)).foldl (fun fd p => pRow p.1 p.2 b fd) (pRow x n b fd)).getD k 0 = _
    rw [qf_pMulF b a (n + 1) _ (by rw [hl]; (first | lia | omega)) k, step k]
    by_cases h1 : n ≤ k
    · obtain ⟨j, rfl⟩ : ∃ j, k = n + j := ⟨k - n, by (first | lia | omega)⟩
      cases j with
      | zero =>
        have e : ¬ n + 1 ≤ n := by (first | lia | omega)
        simp [e, cq, Rat.add_zero]
      | succ j =>
        have e1 : n + (j + 1) - (n + 1) = j := by (first | lia | omega)
        have e2 : n + (j + 1) - n = j + 1 := by (first | lia | omega)
        have e3 : n + 1 ≤ n + (j + 1) := by (first | lia | omega)
        rw [if_pos (by (first | lia | omega)), if_pos (by (first | lia | omega)), if_pos (by (first | lia | omega)), e1, e2]
        show _ = _ + (x * b.getD (j + 1) 0 + cq a b j)
        rw [Rat.add_assoc]
    · rw [if_neg h1, if_neg (by (first | lia | omega)), if_neg h1, Rat.add_zero]
theorem cq_zero (a b : List Rat) : cq a b 0 = a.getD 0 0 * b.getD 0 0 := by
  cases a with
  | nil => simp [cq, Rat.zero_mul]
  | cons x a => simp [cq]
theorem cq_succ (a b : List Rat) (k : Nat) : cq a b (k + 1) = a.getD 0 0 * b.getD (k + 1) 0 + cq a.tail b k := by
  cases a with
  | nil => simp [cq, Rat.zero_mul, Rat.add_zero]
  | cons x a => simp [cq]
theorem qf_tail (a : List Rat) (k : Nat) : a.tail.getD k 0 = a.getD (k + 1) 0 := by
  cases a with
  | nil => simp
  | cons x a => simp
theorem cq_nilR : ∀ (a : List Rat) (k : Nat), cq a [] k = 0
  | [], _ => rfl
  | x :: a, 0 => by simp [cq, Rat.mul_zero]
  | x :: a, k + 1 => by simp [cq, cq_nilR a k, Rat.mul_zero, Rat.add_zero]
theorem qf_pMul (a b : List Rat) (k : Nat) : (pMul a b).getD k 0 = cq a b k := by
  unfold pMul
  split
  · rename_i h
    rcases h with h | h
    · rw [h]; rfl
    · rw [h, cq_nilR]; rfl
  · rename_i h
    have h1 : a ≠ [] := fun e => h (.inl e)
    have h2 := List.length_pos_iff.mpr h1
    unfold pMulL
    have := qf_pMulF b a 0 (List.replicate (a.length + b.length - 1) 0) (by simp; (first | lia | omega)) k
    have e0 : (List.replicate (a.length + b.length - 1) (0 : Rat)).getD k 0 = 0 := by
      simp only [List.getD_eq_getElem?_getD, List.getElem?_replicate]; split <;> rfl
    rw [e0, Rat.zero_add] at this
    simpa using this
theorem cq_big : ∀ (a b : List Rat) (k : Nat), a.length + b.length ≤ k + 1 → cq a b k = 0
  | [], _, _, _ => rfl
  | x :: a, b, 0, h => by
    have : b.length = 0 := by simp at h; (first | lia | omega)
    have e : b = [] := List.length_eq_zero_iff.mp this
    simp [cq, e, Rat.mul_zero]
  | x :: a, b, k + 1, h => by
    simp only [List.length_cons] at h
    show x * b.getD (k + 1) 0 + cq a b k = 0
    rw [qf_ge (by (first | lia | omega)), cq_big a b k (by (first | lia | omega)), Rat.mul_zero, Rat.add_zero]
theorem cq_top : ∀ (a b : List Rat), a ≠ [] → b ≠ [] → cq a b (a.length + b.length - 2) = pLd a * pLd b
  | [], _, h, _ => absurd rfl h
  | [x], b, _, hb => by
    have h1 := List.length_pos_iff.mpr hb
    show cq [x] b (1 + b.length - 2) = x * b.getD (b.length - 1) 0
    have e : 1 + b.length - 2 = b.length - 1 := by (first | lia | omega)
    rw [e]
    cases hq : b.length - 1 with
    | zero => simp [cq]
    | succ k => simp [cq, Rat.add_zero]
  | x :: y :: a, b, _, hb => by
    have h1 := List.length_pos_iff.mpr hb
    have ih := cq_top (y :: a) b (by simp) hb
    have e : (x :: y :: a).length + b.length - 2 = (y :: a).length + b.length - 2 + 1 := by simp only [List.length_cons]; (first | lia | omega)
    rw [e]
    show x * b.getD _ 0 + cq (y :: a) b _ = _
    rw [ih, qf_ge (by simp only [List.length_cons]; (first | lia | omega)), Rat.mul_zero, Rat.zero_add]
    congr 1
theorem pMul_len {a b : List Rat} (ha : a ≠ []) (hb : b ≠ []) : (pMul a b).length = a.length + b.length - 1 := by
  unfold pMul
  rw [if_neg (by simp [ha, hb]), pMulL_len]
theorem pLd_pMul {a b : List Rat} (ha : a ≠ []) (hb : b ≠ []) : pLd (pMul a b) = pLd a * pLd b := by
  have h1 := List.length_pos_iff.mpr ha
  have h2 := List.length_pos_iff.mpr hb
  rw [← cq_top a b ha hb]
  unfold pLd
  rw [pMul_len ha hb, qf_pMul]
  congr 1
theorem TrP_pMul {a b : List Rat} (ha : TrP a) (hb : TrP b) : TrP (pMul a b) := by
  rcases ha with e | ha
  · left; simp [pMul, e]
  rcases hb with e | hb
  · left; simp [pMul, e]
  right
  have h1 : a ≠ [] := fun e => ha (by rw [e]; rfl)
  have h2 : b ≠ [] := fun e => hb (by rw [e]; rfl)
  rw [pLd_pMul h1 h2]
  intro e
  rcases Rat.mul_eq_zero.mp e with e | e
  · exact ha e
  · exact hb e
theorem cq0 (a b : List Rat) : cq a b 0 = a.getD 0 0 * b.getD 0 0 := cq_zero a b
theorem cq1 (a b : List Rat) : cq a b 1 = a.getD 0 0 * b.getD 1 0 + a.getD 1 0 * b.getD 0 0 := by rw [cq_succ, cq_zero, qf_tail]
theorem cq2 (a b : List Rat) : cq a b 2 = a.getD 0 0 * b.getD 2 0 + (a.getD 1 0 * b.getD 1 0 + a.getD 2 0 * b.getD 0 0) := by rw [cq_succ, cq1, qf_tail, qf_tail]
theorem cq_one (p : List Rat) (k : Nat) : cq [1] p k = p.getD k 0 := by
  cases k with
  | zero => simp [cq, Rat.one_mul]
  | succ k => simp [cq, Rat.one_mul, Rat.add_zero]
theorem cq_oneR : ∀ (p : List Rat) (k : Nat), cq p [1] k = p.getD k 0
  | [], k => by simp [cq]
  | x :: p, 0 => by simp [cq, Rat.mul_one]
  | x :: p, k + 1 => by simp [cq, Rat.mul_zero, Rat.zero_add, cq_oneR p k]
theorem TrP_one : TrP [1] := .inr (by decide)
theorem pMul_one {p : List Rat} (h : TrP p) : pMul [1] p = p := (TrP_pMul TrP_one h).ext h fun i => by rw [qf_pMul, cq_one]
theorem pMul_oneR {p : List Rat} (h : TrP p) : pMul p [1] = p := (TrP_pMul h TrP_one).ext h fun i => by rw [qf_pMul, cq_oneR]
end Fco

-- FpJ
namespace Fco

/-- the value at x of a list of at most four numbers -/
noncomputable def pe (l : List Rat) (x : Rat) : Rat := l.getD 0 0 + l.getD 1 0 * x + l.getD 2 0 * x ^ 2 + l.getD 3 0 * x ^ 3
theorem pe_nil (x : Rat) : pe [] x = 0 := by simp [pe]; grind

theorem qf_dropLast (l : List Rat) (i : Nat) : l.dropLast.getD i 0 = if i < l.length - 1 then l.getD i 0 else 0 := by
  simp only [List.getD_eq_getElem?_getD, List.getElem?_dropLast]
  split <;> rfl

theorem qf_qdN {b rest : List Rat} (hb : b ≠ []) (zb : pLd b ≠ 0) (hl : b.length ≤ rest.length) (i : Nat) : (qdN b rest).getD i 0 = rest.getD i 0 - (if i < rest.length - b.length then 0 else pLd rest / pLd b * b.getD (i - (rest.length - b.length)) 0) := by
  have h1 := List.length_pos_iff.mpr hb
  unfold qdN
  rw [qf_pSub, qf_dropLast, qf_pRaise]
  by_cases hi : i < rest.length - b.length
  · rw [if_pos hi, if_pos hi, if_pos (by (first | lia | omega))]
  · rw [if_neg hi, if_neg hi, qf_pScale, qf_dropLast]
    by_cases h2 : i < rest.length - 1
    · rw [if_pos h2, if_pos (by (first | lia | omega))]; grind
    · rw [if_neg h2, if_neg (by (first | lia | omega))]
      by_cases h3 : i = rest.length - 1
      · have e1 : rest.getD i 0 = pLd rest := by rw [h3]; rfl
        have e2 : b.getD (i - (rest.length - b.length)) 0 = pLd b := by
          unfold pLd; congr 1; (first | lia | omega)
        rw [e1, e2]
        grind
      · rw [qf_ge (l := rest) (by (first | lia | omega)), qf_ge (l := b) (i := i - (rest.length - b.length)) (by (first | lia | omega))]; grind
theorem qdN_len {b rest : List Rat} (hb : b ≠ []) (hl : b.length ≤ rest.length) : (qdN b rest).length < rest.length := by
  have h1 := List.length_pos_iff.mpr hb
  have a1 := pAdd_le rest.dropLast (pNeg (pRaise (pScale b.dropLast (pLd rest / pLd b)) (rest.length - b.length)))
  have a2 := pNeg_len (pRaise (pScale b.dropLast (pLd rest / pLd b)) (rest.length - b.length))
  have a3 := pRaise_len (pScale b.dropLast (pLd rest / pLd b)) (rest.length - b.length)
  have a4 := pScale_len b.dropLast (pLd rest / pLd b)
  simp only [List.length_dropLast] at a1 a4
  unfold qdN pSub
  (first | lia | omega)
theorem qdN_Sm {b rest : List Rat} {k : Nat} (hk : 1 ≤ k) (zb : pLd b ≠ 0) (sb : SmP k b) (sr : SmP k rest) : SmP (8 * k) (qdN b rest) := by
  unfold qdN pSub
  have n := (getD_SmQ sr hk (rest.length - 1)).div (getD_SmQ sb hk (b.length - 1)) zb
  have s1 : SmP (3 * k) (pScale b.dropLast (pLd rest / pLd b)) := (SmP_pScale (SmP_dropLast sb) n).mono (by (first | lia | omega))
  exact (SmP_pAdd (SmP_dropLast sr) (SmP_pNeg (SmP_pRaise s1 (by (first | lia | omega)))) hk (by (first | lia | omega))).mono (by (first | lia | omega))
theorem pe_qdN {b rest : List Rat} (hb : b ≠ []) (zb : pLd b ≠ 0) (hl : b.length ≤ rest.length) (h4 : rest.length ≤ 4) {x : Rat} (hx : pe b x = 0) : pe (qdN b rest) x = pe rest x := by
  have q := qf_qdN hb zb hl
  have h1 := List.length_pos_iff.mpr hb
  generalize pLd rest / pLd b = n at q
  have hd : rest.length - b.length = 0 ∨ rest.length - b.length = 1 ∨ rest.length - b.length = 2 ∨ rest.length - b.length = 3 := by (first | lia | omega)
  unfold pe at hx ⊢
  rw [q 0, q 1, q 2, q 3]
  rcases hd with h | h | h | h
  · simp only [h, Nat.lt_irrefl, Nat.not_lt_zero, if_false, Nat.sub_zero]; grind
  · have b3 : b.getD 3 0 = 0 := qf_ge (by (first | lia | omega))
    rw [b3] at hx
    simp only [h, Nat.lt_irrefl, Nat.not_lt_zero, if_false, Nat.sub_zero, Nat.reduceLT, Nat.reduceSub, if_true]; grind
  · have b3 : b.getD 3 0 = 0 := qf_ge (by (first | lia | omega))
    have b2 : b.getD 2 0 = 0 := qf_ge (by (first | lia | omega))
    rw [b3, b2] at hx
    simp only [h, Nat.lt_irrefl, Nat.not_lt_zero, if_false, Nat.sub_zero, Nat.reduceLT, Nat.reduceSub, if_true]; grind
  · have b3 : b.getD 3 0 = 0 := qf_ge (by (first | lia | omega))
    have b2 : b.getD 2 0 = 0 := qf_ge (by (first | lia | omega))
    have b1 : b.getD 1 0 = 0 := qf_ge (by (first | lia | omega))
    rw [b3, b2, b1] at hx
    simp only [h, Nat.lt_irrefl, Nat.not_lt_zero, if_false, Nat.sub_zero, Nat.reduceLT, Nat.reduceSub, if_true]; grind

theorem qd_ex {b : List Rat} (hb : b ≠ []) (zb : pLd b ≠ 0) (lb : b.length ≤ 4) : ∀ (m : Nat) (rest found : List Rat) (k : Nat), rest.length < b.length + m → rest.length ≤ 4 → found.length ≤ 8 → (b.length ≤ rest.length → rest.length - b.length < found.length) → SmP k rest → SmP k b → 1 ≤ k → k * 8 ^ m ≤ 5000000 →
    ∃ r q, QD b rest found r q ∧ r.length < b.length ∧ SmP (k * 8 ^ m) r ∧ (r = rest ∨ TrP r) ∧ ∀ x, pe b x = 0 → pe r x = pe rest x
  | 0, rest, found, k, h1, h2, h3, h4, sr, sb, hk, hK => ⟨rest, found, .done (by (first | lia | omega)) h3 (by (first | lia | omega)), by (first | lia | omega), by simpa using sr, .inl rfl, fun _ _ => rfl⟩
  | m + 1, rest, found, k, h1, h2, h3, h4, sr, sb, hk, hK => by
    have e8 : k * 8 ^ (m + 1) = 8 * k * 8 ^ m := by rw [Nat.pow_succ, Nat.mul_comm (8 ^ m) 8, ← Nat.mul_assoc, Nat.mul_comm k 8]
    have p8 : 1 ≤ 8 ^ m := Nat.one_le_pow _ _ (by decide)
    have k8 : 8 * k ≤ 8 * k * 8 ^ m := Nat.le_mul_of_pos_right _ p8
    by_cases hl : b.length ≤ rest.length
    · have l1 := qdN_len hb hl
      obtain ⟨r, q, d1, d2, d3, d4, d5⟩ := qd_ex hb zb lb m (qdN b rest) (found.set (rest.length - b.length) (pLd rest / pLd b)) (8 * k) (by (first | lia | omega)) (by (first | lia | omega)) (by simpa using h3) (fun h => by rw [List.length_set]; have := h4 hl; (first | lia | omega)) (qdN_Sm hk zb sb sr) (sb.mono (by (first | lia | omega))) (by (first | lia | omega)) (by rw [← e8]; exact hK)
      refine ⟨r, q, .step hl (by (first | lia | omega)) h3 (sr.mono (by (first | lia | omega))) (h4 hl) l1 d1, d2, by rw [e8]; exact d3, .inr ?_, fun x hx => (d5 x hx).trans (pe_qdN hb zb hl h2 hx)⟩
      rcases d4 with e | e
      · rw [e]; exact TrP_pT _
      · exact e
    · exact ⟨rest, found, .done (by (first | lia | omega)) h3 (by (first | lia | omega)), by (first | lia | omega), sr.mono (by (first | lia | omega)), .inl rfl, fun _ _ => rfl⟩

theorem found0_len (a b : List Rat) (ha : a.length ≤ 4) : (List.replicate (a.length - b.length + 1 - (if b.length ≤ a.length then 0 else 1)) (0 : Rat)).length ≤ 8 := by
  rw [List.length_replicate]; (first | lia | omega)
theorem found0_gt {a b : List Rat} (h : b.length ≤ a.length) : a.length - b.length < (List.replicate (a.length - b.length + 1 - (if b.length ≤ a.length then 0 else 1)) (0 : Rat)).length := by
  rw [List.length_replicate, if_pos h]; (first | lia | omega)

theorem pMonic_one {c : Rat} (h : c ≠ 0) : pMonic [c] = [1] := by
  have h' : c⁻¹ ≠ 0 := fun e => h (by have := Rat.inv_inv c; rw [e] at this; simpa using this.symm)
  simp [pMonic, pScale, pLd, h', Rat.mul_inv_cancel _ h]
/-- a constant behind -/
theorem qg_C {a : List Rat} {c : Rat} {k : Nat} (m : Nat) (hc : c ≠ 0) (la : a.length ≤ 4) (lm : a.length ≤ m) (sa : SmP k a) (sc : SmP k [c]) (hk : 1 ≤ k) (hK : k * 8 ^ m ≤ 5000000) : QG a [c] [1] := by
  have zc : pLd [c] ≠ 0 := hc
  have k0 : k ≤ k * 8 ^ m := Nat.le_mul_of_pos_right _ (Nat.one_le_pow _ _ (by decide))
  obtain ⟨r, q, d1, d2, d3, d4, d5⟩ := qd_ex (b := [c]) (by simp) zc (by simp) m a _ k (by simp; (first | lia | omega)) la (found0_len a [c] la) found0_gt sa sc hk hK
  have hr : r = [] := List.length_eq_zero_iff.mp (by simp only [List.length_cons, List.length_nil] at d2; (first | lia | omega))
  subst hr
  have e : pMonic [] = [] := rfl
  refine .step (by simp) (by (first | lia | omega)) (by simp) (sc.mono (by (first | lia | omega))) zc d1 (by simp) (fun x h => nomatch h) (fun h => absurd rfl h) (by rw [e]; simp) ?_
  rw [e, ← pMonic_one hc]
  exact .done (by simp) (sc.mono (by (first | lia | omega))) (fun _ => zc)
theorem SmQ_one {k : Nat} (h : 1 ≤ k) : SmQ k 1 := ⟨Sm1 h, Sm1 h⟩
theorem SmP_one {k : Nat} (h : 1 ≤ k) : SmP k [1] := fun x hx => by rw [List.mem_singleton.mp hx]; exact SmQ_one h
/-- a line behind -/
theorem qg_L {a : List Rat} {u v : Rat} {k : Nat} (hv : v ≠ 0) (la : a.length ≤ 3) (sa : SmP k a) (sm : SmP k [u, v]) (hk : 1 ≤ k) (hK : k * 8 ^ 2 ≤ 5000000) (hx : pe a (-u / v) ≠ 0) : QG a [u, v] [1] := by
  have zc : pLd [u, v] ≠ 0 := hv
  obtain ⟨r, q, d1, d2, d3, d4, d5⟩ := qd_ex (b := [u, v]) (by simp) zc (by simp) 2 a _ k (by simp; (first | lia | omega)) (by (first | lia | omega)) (found0_len a [u, v] (by (first | lia | omega))) found0_gt sa sm hk hK
  have hroot : pe [u, v] (-u / v) = 0 := by simp [pe]; grind
  have hr := d5 _ hroot
  have hlen : r.length = 0 ∨ r.length = 1 := by simp at d2; (first | lia | omega)
  rcases hlen with h | h
  · have e := List.length_eq_zero_iff.mp h
    subst e
    rw [pe_nil] at hr
    exact absurd hr.symm hx
  · obtain ⟨c, rfl⟩ := List.length_eq_one_iff.mp h
    have hc : c ≠ 0 := fun e => by
      subst e
      apply hx
      rw [← hr]
      simp [pe]; grind
    refine .step (by simp) (by (first | lia | omega)) (by simp) (sm.mono (by (first | lia | omega))) zc d1 (by simp) (d3.mono hK) (fun _ => hc) (by rw [pMonic_one hc]; simp) ?_
    rw [pMonic_one hc]
    exact qg_C 2 (by decide) (by simp) (by simp) sm (SmP_one hk) hk hK
/-- a square of a line behind -/
theorem qg_S {a : List Rat} {b0 b1 b2 x : Rat} {k : Nat} (hb : b2 ≠ 0) (la : a.length ≤ 3) (ta : TrP a) (sa : SmP k a) (sb : SmP k [b0, b1, b2]) (hk : 1 ≤ k) (hK : k ≤ 4800) (h1 : b1 = -2 * b2 * x) (h0 : b0 = b2 * x ^ 2) (hx : pe a x ≠ 0) : QG a [b0, b1, b2] [1] := by
  have zb : pLd [b0, b1, b2] ≠ 0 := hb
  obtain ⟨r, q, d1, d2, d3, d4, d5⟩ := qd_ex (b := [b0, b1, b2]) (by simp) zb (by simp) 1 a _ k (by simp; (first | lia | omega)) (by (first | lia | omega)) (found0_len a [b0, b1, b2] (by (first | lia | omega))) found0_gt sa sb hk (by (first | lia | omega))
  have hroot : pe [b0, b1, b2] x = 0 := by simp [pe]; grind
  have hr := d5 _ hroot
  have tr : TrP r := d4.elim (fun e => e ▸ ta) id
  have hlen : r.length = 0 ∨ r.length = 1 ∨ r.length = 2 := by simp at d2; (first | lia | omega)
  have d3' : SmP (8 * k) r := d3.mono (by (first | lia | omega))
  rcases hlen with h | h | h
  · have e := List.length_eq_zero_iff.mp h
    subst e
    rw [pe_nil] at hr
    exact absurd hr.symm hx
  · obtain ⟨c, rfl⟩ := List.length_eq_one_iff.mp h
    have hc : c ≠ 0 := fun e => by
      subst e
      apply hx
      rw [← hr]
      simp [pe]; grind
    refine .step (by simp) (by (first | lia | omega)) (by simp) (sb.mono (by (first | lia | omega))) zb d1 (by simp) (d3'.mono (by (first | lia | omega))) (fun _ => hc) (by rw [pMonic_one hc]; simp) ?_
    rw [pMonic_one hc]
    exact qg_C 3 (by decide) (by simp) (by simp) sb (SmP_one hk) hk (by (first | lia | omega))
  · obtain ⟨c, d, rfl⟩ : ∃ c d, r = [c, d] := by
      obtain ⟨c, r', rfl, h'⟩ := len_ex h
      obtain ⟨d, rfl⟩ := len1_ex h'
      exact ⟨c, d, rfl⟩
    have hd : d ≠ 0 := by
      rcases tr with e | e
      · cases e
      · exact e
    have hd' : d⁻¹ ≠ 0 := fun e => hd (by have := Rat.inv_inv d; rw [e] at this; simpa using this.symm)
    have em : pMonic [c, d] = [c * d⁻¹, 1] := by
      simp [pMonic, pScale, pLd, hd', Rat.mul_inv_cancel _ hd]
    have sm0 : SmP (8 * k + 8 * k) (pMonic [c, d]) := by
      unfold pMonic
      rw [if_neg (by simp)]
      exact SmP_pScale d3' ((d3' d (by simp)).inv hd)
    refine .step (by simp) (by (first | lia | omega)) (by simp) (sb.mono (by (first | lia | omega))) zb d1 (by simp) (d3'.mono (by (first | lia | omega))) (fun _ => hd) (by rw [em]; simp) ?_
    rw [em] at sm0 ⊢
    refine qg_L (k := 16 * k) (by decide) (by simp) (sb.mono (by (first | lia | omega))) (sm0.mono (by (first | lia | omega))) (by (first | lia | omega)) (by (first | lia | omega)) ?_
    have hcd : c + d * x ≠ 0 := fun e => by
      apply hx
      rw [← hr]
      simp [pe]; grind
    have ev : pe [b0, b1, b2] (-(c * d⁻¹) / 1) = b2 * (c * d⁻¹ + x) ^ 2 := by
      simp [pe]; grind
    rw [ev]
    intro e
    rcases Rat.mul_eq_zero.mp e with e | e
    · exact hb e
    · have e' : c * d⁻¹ + x = 0 := by
        have : (c * d⁻¹ + x) * (c * d⁻¹ + x) = 0 := by grind
        rcases Rat.mul_eq_zero.mp this with h | h <;> exact h
      apply hcd
      grind
end Fco

-- FpK
namespace Fco
section
variable {G : GC}

theorem fm1 (D : G.Gd) {t b : List Rat} (ht : t ≠ []) (zb : pLd b = 1) (st : SmP 5000000 t) (sb : SmP 5000000 b) (h : QG t b [1]) : CallOk G 8 "fmake" [dP t, dP b] (dF t b) := by
  have hb : b ≠ [] := fun e => by rw [e] at zb; exact absurd zb (by decide)
  have := c_fmake D ht hb (by rw [zb]; decide) st sb h
  have e1 : ((1 : Rat))⁻¹ = 1 := by
    have := Rat.mul_inv_cancel 1 (by decide)
    rwa [Rat.one_mul] at this
  rw [zb, e1, pScale_one, pScale_one] at this
  exact this

noncomputable def c1L (g : Rat) : List Rat := if g = 0 then [] else [g]
theorem c1L_len (g : Rat) : (c1L g).length ≤ 1 := by unfold c1L; split <;> simp
theorem SmP_c1L {k : Nat} {g : Rat} (h : SmQ k g) : SmP k (c1L g) := by
  unfold c1L; split
  · intro x hx; cases hx
  · intro x hx; rw [List.mem_singleton.mp hx]; exact h
theorem pMul_len_le (a b : List Rat) {i j k : Nat} (ha : a.length ≤ i) (hb : b.length ≤ j) (hk : i + j ≤ k + 1) : (pMul a b).length ≤ k := by
  unfold pMul
  split
  · simp
  · rename_i h
    have h1 : a ≠ [] := fun e => h (.inl e)
    have h2 := List.length_pos_iff.mpr h1
    rw [pMulL_len]; (first | lia | omega)

/-- the bottom: 1, or x and a number -/
structure BotOk (T B : List Rat) : Prop where
  tT : TrP T
  lT : T.length ≤ 2
  sT : SmP 20 T
  sB : SmP 20 B
  c : (∃ β, B = [β, 1] ∧ pe T (-β) ≠ 0) ∨ (B = [1] ∧ T.getD 1 0 ≠ 0)
namespace BotOk
variable {T B : List Rat}
theorem lB (h : BotOk T B) : B.length ≤ 2 := by
  rcases h.c with ⟨β, e, _⟩ | ⟨e, _⟩ <;> rw [e] <;> simp
theorem ld (h : BotOk T B) : pLd B = 1 := by
  rcases h.c with ⟨β, e, _⟩ | ⟨e, _⟩ <;> rw [e] <;> rfl
theorem tB (h : BotOk T B) : TrP B := .inr (by rw [h.ld]; decide)
theorem nB (h : BotOk T B) : B ≠ [] := by
  rcases h.c with ⟨β, e, _⟩ | ⟨e, _⟩ <;> rw [e] <;> simp
theorem ldBB (h : BotOk T B) : pLd (pMul B B) = 1 := by rw [pLd_pMul h.nB h.nB, h.ld, Rat.mul_one]
theorem sBB (h : BotOk T B) : SmP 165 (pMul B B) := (SmP_pMul h.sB h.sB (by decide)).mono (by
  have := h.lB
  have e := Nat.mul_le_mul this (Nat.mul_le_mul_right (20 + 20 + 1) this)
  (first | lia | omega))
/-- what makes a top coprime to the bottom -/
noncomputable def Top (B t : List Rat) (i : Nat) : Prop := (∃ β, B = [β, 1] ∧ pe t (-β) ≠ 0) ∨ (B = [1] ∧ t.getD i 0 ≠ 0)
theorem Top.ne {t : List Rat} {i : Nat} (h : Top B t i) : t ≠ [] := fun e => by
  subst e
  rcases h with ⟨β, _, h⟩ | ⟨_, h⟩
  · exact h (pe_nil _)
  · exact h (by simp)
theorem qg1 (h : BotOk T B) {t : List Rat} {i k : Nat} (H : Top B t i) (lt : t.length ≤ 3) (st : SmP k t) (hk : 20 ≤ k) (hK : k ≤ 4800) : QG t B [1] := by
  have sB := h.sB
  rcases H with ⟨β, e, hx⟩ | ⟨e, hx⟩
  · subst e
    refine qg_L (k := k) (by decide) lt st (sB.mono hk) (by (first | lia | omega)) (by (first | lia | omega)) ?_
    have e : -β / 1 = -β := by grind
    rw [e]; exact hx
  · subst e
    exact qg_C (k := k) 3 (by decide) (by (first | lia | omega)) lt st (sB.mono hk) (by (first | lia | omega)) (by (first | lia | omega))
theorem qg2 (h : BotOk T B) {t : List Rat} {i k : Nat} (H : Top B t i) (tt : TrP t) (lt : t.length ≤ 3) (st : SmP k t) (hk : 165 ≤ k) (hK : k ≤ 4800) : QG t (pMul B B) [1] := by
  have sB := h.sBB
  rcases H with ⟨β, e, hx⟩ | ⟨e, hx⟩
  · subst e
    have eB : pMul [β, 1] [β, 1] = [β ^ 2, 2 * β, 1] := (TrP_pMul h.tB h.tB).ext (.inr (show (1 : Rat) ≠ 0 by decide)) fun i => by
      rw [qf_pMul]
      match i with
      | 0 => rw [cq0]; simp; grind
      | 1 => rw [cq1]; simp; grind
      | 2 => rw [cq2]; simp; grind
      | n + 3 => rw [cq_big _ _ _ (by simp)]; simp
    rw [eB] at sB ⊢
    exact qg_S (k := k) (x := -β) (by decide) lt tt st (sB.mono hk) (by (first | lia | omega)) hK (by grind) (by grind) hx
  · subst e
    have eB : pMul [1] [1] = [1] := pMul_one TrP_one
    rw [eB] at sB ⊢
    exact qg_C (k := k) 3 (by decide) (by (first | lia | omega)) lt st (sB.mono hk) (by (first | lia | omega)) (by (first | lia | omega))
end BotOk

noncomputable def qM1 (T : List Rat) (g2 : Rat) : List Rat := pMul [g2] T
noncomputable def qN1 (T B : List Rat) (g1 g2 : Rat) : List Rat := pAdd (qM1 T g2) (pMul (c1L g1) B)
noncomputable def qM2 (T B : List Rat) (g1 g2 : Rat) : List Rat := pMul (qN1 T B g1 g2) T
noncomputable def qN2 (T B : List Rat) (g0 g1 g2 : Rat) : List Rat := pAdd (qM2 T B g1 g2) (pMul (c1L g0) (pMul B B))

theorem chain (D : G.Gd) {T B : List Rat} {g0 g1 g2 : Rat} (h : BotOk T B) (h2 : g2 ≠ 0) (s0 : SmQ 20 g0) (s1 : SmQ 20 g1) (s2 : SmQ 20 g2) :
    CallOk G 10 "fcompose" [.tuple [dP [g0, g1, g2], dP [1]], dF T B] (dF (qN2 T B g0 g1 g2) (pMul B B)) := by
  have tB := h.tB
  have lB := h.lB
  have lT := h.lT
  have sT := h.sT
  have sB := h.sB
  have nB := h.nB
  have sg2 : SmP 20 [g2] := fun x hx => by rw [List.mem_singleton.mp hx]; exact s2
  have tg2 : TrP [g2] := .inr h2
  have sone : SmP 20 [1] := SmP_one (by decide)
  -- the tops
  have tM1 : TrP (qM1 T g2) := TrP_pMul tg2 h.tT
  have lM1 : (qM1 T g2).length ≤ 2 := pMul_len_le (i := 1) (j := 2) _ _ (by simp) lT (by decide)
  have sM1 : SmP 83 (qM1 T g2) := (SmP_pMul sg2 sT (by decide)).mono (by simp; (first | lia | omega))
  have fM1 : ∀ i, (qM1 T g2).getD i 0 = g2 * T.getD i 0 := fun i => by
    unfold qM1
    rw [qf_pMul]
    cases i with
    | zero => simp [cq]
    | succ k => simp [cq, Rat.add_zero]
  have tN1 : TrP (qN1 T B g1 g2) := TrP_pAdd _ _
  have lc : (pMul (c1L g1) B).length ≤ 2 := pMul_len_le (i := 1) (j := 2) _ _ (c1L_len _) lB (by decide)
  have lN1 : (qN1 T B g1 g2).length ≤ 2 := by
    have := pAdd_le (qM1 T g2) (pMul (c1L g1) B)
    unfold qN1; (first | lia | omega)
  have sc : SmP 83 (pMul (c1L g1) B) := (SmP_pMul (SmP_c1L s1) sB (by decide)).mono (by
    have := Nat.mul_le_mul (c1L_len g1) (Nat.mul_le_mul_right (20 + 20 + 1) lB)
    (first | lia | omega))
  have sN1 : SmP 167 (qN1 T B g1 g2) := SmP_pAdd sM1 sc (by decide) (by decide)
  have fc : ∀ (g : Rat) (b : List Rat) i, (pMul (c1L g) b).getD i 0 = g * b.getD i 0 := fun g b i => by
    rw [qf_pMul]
    unfold c1L
    split
    · rename_i hg; rw [hg]; simp [cq, Rat.zero_mul]
    · cases i with
      | zero => simp [cq]
      | succ k => simp [cq, Rat.add_zero]
  have fN1 : ∀ i, (qN1 T B g1 g2).getD i 0 = g2 * T.getD i 0 + g1 * B.getD i 0 := fun i => by
    unfold qN1; rw [qf_pAdd, fM1, fc]
  have tM2 : TrP (qM2 T B g1 g2) := TrP_pMul tN1 h.tT
  have lM2 : (qM2 T B g1 g2).length ≤ 3 := pMul_len_le (i := 2) (j := 2) _ _ lN1 lT (by decide)
  have sM2 : SmP 753 (qM2 T B g1 g2) := (SmP_pMul sN1 sT (by decide)).mono (by
    have := Nat.mul_le_mul lN1 (Nat.mul_le_mul_right (167 + 20 + 1) lT)
    (first | lia | omega))
  have lBB : (pMul B B).length ≤ 3 := pMul_len_le (i := 2) (j := 2) _ _ lB lB (by decide)
  have sBB := h.sBB
  have tBB : TrP (pMul B B) := TrP_pMul tB tB
  have lc0 : (pMul (c1L g0) (pMul B B)).length ≤ 3 := pMul_len_le (i := 1) (j := 3) _ _ (c1L_len _) lBB (by decide)
  have sc0 : SmP 559 (pMul (c1L g0) (pMul B B)) := (SmP_pMul (SmP_c1L s0) sBB (by decide)).mono (by
    have := Nat.mul_le_mul (c1L_len g0) (Nat.mul_le_mul_right (20 + 165 + 1) lBB)
    (first | lia | omega))
  have tN2 : TrP (qN2 T B g0 g1 g2) := TrP_pAdd _ _
  have lN2 : (qN2 T B g0 g1 g2).length ≤ 3 := by
    have := pAdd_le (qM2 T B g1 g2) (pMul (c1L g0) (pMul B B))
    unfold qN2; (first | lia | omega)
  have sN2 : SmP 1313 (qN2 T B g0 g1 g2) := SmP_pAdd sM2 sc0 (by decide) (by decide)
  have z2 : ∀ {l : List Rat} (_ : l.length ≤ 2), l.getD 2 0 = 0 ∧ l.getD 3 0 = 0 := fun hl => ⟨qf_ge hl, qf_ge (by (first | lia | omega))⟩
  have z3 : ∀ {l : List Rat} (_ : l.length ≤ 3), l.getD 3 0 = 0 := fun hl => qf_ge hl
  have nsq : ∀ {x : Rat}, x ≠ 0 → x * x ≠ 0 := fun hx e => by rcases Rat.mul_eq_zero.mp e with e | e <;> exact hx e
  have nmul : ∀ {x y : Rat}, x ≠ 0 → y ≠ 0 → x * y ≠ 0 := fun hx hy e => by rcases Rat.mul_eq_zero.mp e with e | e; exact hx e; exact hy e
  have fM2 : ∀ i, (qM2 T B g1 g2).getD i 0 = cq (qN1 T B g1 g2) T i := fun i => qf_pMul _ _ _
  have fN2 : ∀ i, (qN2 T B g0 g1 g2).getD i 0 = cq (qN1 T B g1 g2) T i + g0 * cq B B i := fun i => by
    unfold qN2; rw [qf_pAdd, fM2, fc, qf_pMul]
  have H0 : BotOk.Top B [g2] 0 ∨ True := .inr trivial
  have H1 : BotOk.Top B (qM1 T g2) 1 := by
    rcases h.c with ⟨β, e, hx⟩ | ⟨e, hx⟩
    · refine .inl ⟨β, e, ?_⟩
      have : pe (qM1 T g2) (-β) = g2 * pe T (-β) := by unfold pe; rw [fM1, fM1, fM1, fM1]; grind
      rw [this]; exact nmul h2 hx
    · refine .inr ⟨e, ?_⟩
      rw [fM1]; exact nmul h2 hx
  have H2 : BotOk.Top B (qN1 T B g1 g2) 1 := by
    rcases h.c with ⟨β, e, hx⟩ | ⟨e, hx⟩
    · refine .inl ⟨β, e, ?_⟩
      have hB : B.getD 0 0 = β ∧ B.getD 1 0 = 1 ∧ B.getD 2 0 = 0 ∧ B.getD 3 0 = 0 := by rw [e]; simp
      obtain ⟨q0, q1, q2, q3⟩ := hB
      have : pe (qN1 T B g1 g2) (-β) = g2 * pe T (-β) := by unfold pe; rw [fN1, fN1, fN1, fN1, q0, q1, q2, q3]; grind
      rw [this]; exact nmul h2 hx
    · refine .inr ⟨e, ?_⟩
      have q1 : B.getD 1 0 = 0 := by rw [e]; simp
      rw [fN1, q1, Rat.mul_zero, Rat.add_zero]; exact nmul h2 hx
  have H3 : BotOk.Top B (qM2 T B g1 g2) 2 := by
    obtain ⟨n2, n3⟩ := z2 lN1
    obtain ⟨u2, u3⟩ := z2 lT
    rcases h.c with ⟨β, e, hx⟩ | ⟨e, hx⟩
    · refine .inl ⟨β, e, ?_⟩
      have hB : B.getD 0 0 = β ∧ B.getD 1 0 = 1 ∧ B.getD 2 0 = 0 ∧ B.getD 3 0 = 0 := by rw [e]; simp
      obtain ⟨q0, q1, q2, q3⟩ := hB
      have m3 := z3 lM2
      have : pe (qM2 T B g1 g2) (-β) = g2 * (pe T (-β) * pe T (-β)) := by
        unfold pe
        rw [m3, fM2, fM2, fM2, cq0, cq1, cq2, n2, u2, u3, fN1, fN1, q0, q1]; grind
      rw [this]; exact nmul h2 (nsq hx)
    · refine .inr ⟨e, ?_⟩
      have q1 : B.getD 1 0 = 0 := by rw [e]; simp
      have : (qM2 T B g1 g2).getD 2 0 = g2 * (T.getD 1 0 * T.getD 1 0) := by
        rw [fM2, cq2, n2, u2, fN1, fN1, q1]; grind
      rw [this]; exact nmul h2 (nsq hx)
  have H4 : BotOk.Top B (qN2 T B g0 g1 g2) 2 := by
    obtain ⟨n2, n3⟩ := z2 lN1
    obtain ⟨u2, u3⟩ := z2 lT
    rcases h.c with ⟨β, e, hx⟩ | ⟨e, hx⟩
    · refine .inl ⟨β, e, ?_⟩
      have hB : B.getD 0 0 = β ∧ B.getD 1 0 = 1 ∧ B.getD 2 0 = 0 ∧ B.getD 3 0 = 0 := by rw [e]; simp
      obtain ⟨q0, q1, q2, q3⟩ := hB
      have m3 := z3 lN2
      have : pe (qN2 T B g0 g1 g2) (-β) = g2 * (pe T (-β) * pe T (-β)) := by
        unfold pe
        rw [m3, fN2, fN2, fN2, cq0, cq1, cq2, cq0, cq1, cq2, n2, u2, u3, fN1, fN1, q0, q1, q2]; grind
      rw [this]; exact nmul h2 (nsq hx)
    · refine .inr ⟨e, ?_⟩
      have q1 : B.getD 1 0 = 0 := by rw [e]; simp
      have q2 : B.getD 2 0 = 0 := by rw [e]; simp
      have : (qN2 T B g0 g1 g2).getD 2 0 = g2 * (T.getD 1 0 * T.getD 1 0) := by
        rw [fN2, cq2, cq2, n2, u2, fN1, fN1, q1, q2]; grind
      rw [this]; exact nmul h2 (nsq hx)
  -- the calls
  have one1 : pMul [1] [1] = ([1] : List Rat) := pMul_one TrP_one
  have mB : pMul [1] B = B := pMul_one tB
  have mBr : pMul B [1] = B := pMul_oneR tB
  have fl0 : CallOk G 9 "fmul" [dF [] [1], dF T B] (dF [] [1]) := c_fmul D (B := 20) (by simp) (by simp) (by (first | lia | omega)) (by (first | lia | omega)) (fun x h => nomatch h) sone sT sB (by decide) (by decide) (by
    have e1 : pMul [] T = [] := by simp [pMul]
    rw [e1, mB]; exact c_fmake0 D nB)
  have fa : ∀ (g : Rat), g ≠ 0 → SmQ 20 g → CallOk G 9 "fadd" [dF [] [1], dF (c1L g) [1]] (dF [g] [1]) := fun g hg sg => by
    have e0 : c1L g = [g] := by unfold c1L; rw [if_neg hg]
    have sgg : SmP 20 [g] := fun x hx => by rw [List.mem_singleton.mp hx]; exact sg
    have tg : TrP [g] := .inr hg
    rw [e0]
    refine c_fadd D (B := 20) (by simp) (by simp) (by simp) (by simp) (fun x h => nomatch h) sone sgg sone (by decide) (by decide) ?_
    have e1 : pMul [] [1] = ([] : List Rat) := by simp [pMul]
    have e2 : pMul [g] [1] = [g] := pMul_oneR tg
    have e3 : pAdd [] [g] = [g] := (TrP_pAdd _ _).ext tg fun i => by rw [qf_pAdd]; simp [Rat.zero_add]
    rw [e1, e2, e3, one1]
    exact fm1 D (by simp) rfl (sgg.mono (by decide)) (sone.mono (by decide)) (qg_C (k := 20) 1 (by decide) (by simp) (by simp) sgg sone (by decide) (by decide))
  have k1 : CallOk G 9 "fmul" [dF [g2] [1], dF T B] (dF (qM1 T g2) B) := c_fmul D (B := 20) (by simp) (by simp) (by (first | lia | omega)) (by (first | lia | omega)) sg2 sone sT sB (by decide) (by decide) (by
    rw [mB]
    exact fm1 D H1.ne h.ld (sM1.mono (by decide)) (sB.mono (by decide)) (h.qg1 H1 (Nat.le_trans lM1 (by decide)) sM1 (by decide) (by decide)))
  have k2 : CallOk G 9 "fadd" [dF (qM1 T g2) B, dF (c1L g1) [1]] (dF (qN1 T B g1 g2) B) := by
    refine c_fadd D (B := 83) (by (first | lia | omega)) (by (first | lia | omega)) (by have := c1L_len g1; (first | lia | omega)) (by simp) sM1 (sB.mono (by decide)) ((SmP_c1L s1).mono (by decide)) (sone.mono (by decide)) (by decide) (by decide) ?_
    rw [pMul_oneR tM1, mBr]
    exact fm1 D H2.ne h.ld (sN1.mono (by decide)) (sB.mono (by decide)) (h.qg1 H2 (Nat.le_trans lN1 (by decide)) sN1 (by decide) (by decide))
  have k3 : CallOk G 9 "fmul" [dF (qN1 T B g1 g2) B, dF T B] (dF (qM2 T B g1 g2) (pMul B B)) := c_fmul D (B := 167) (by (first | lia | omega)) (by (first | lia | omega)) (by (first | lia | omega)) (by (first | lia | omega)) sN1 (sB.mono (by decide)) (sT.mono (by decide)) (sB.mono (by decide)) (by decide) (by decide) (fm1 D H3.ne h.ldBB (sM2.mono (by decide)) (sBB.mono (by decide)) (h.qg2 H3 tM2 lM2 sM2 (by decide) (by decide)))
  have k4 : CallOk G 9 "fadd" [dF (qM2 T B g1 g2) (pMul B B), dF (c1L g0) [1]] (dF (qN2 T B g0 g1 g2) (pMul B B)) := by
    refine c_fadd D (B := 753) (by (first | lia | omega)) (by (first | lia | omega)) (by have := c1L_len g0; (first | lia | omega)) (by simp) sM2 (sBB.mono (by decide)) ((SmP_c1L s0).mono (by decide)) (sone.mono (by decide)) (by decide) (by decide) ?_
    rw [pMul_oneR tM2, pMul_oneR tBB]
    exact fm1 D H4.ne h.ldBB (sN2.mono (by decide)) (sBB.mono (by decide)) (h.qg2 H4 tN2 lN2 sN2 (by decide) (by decide))
  have k5 : CallOk G 9 "fdiv" [dF (qN2 T B g0 g1 g2) (pMul B B), dF [1] [1]] (dF (qN2 T B g0 g1 g2) (pMul B B)) := by
    refine c_fdiv D (B := 1313) (by (first | lia | omega)) (by (first | lia | omega)) (by simp) (by simp) sN2 (sBB.mono (by decide)) (sone.mono (by decide)) (sone.mono (by decide)) (by decide) (by decide) ?_
    rw [pMul_oneR tN2, pMul_oneR tBB]
    exact fm1 D H4.ne h.ldBB (sN2.mono (by decide)) (sBB.mono (by decide)) (h.qg2 H4 tN2 lN2 sN2 (by decide) (by decide))
  exact c_fcompose D (.cons fl0 (fa g2 h2 s2) (.cons k1 k2 (.cons k3 k4 .nil))) (.cons fl0 (fa 1 (by decide) (SmQ_one (by decide))) .nil) k5
end
end Fco

-- FpL
namespace Fco

theorem qf_toP (l : List Int) (i : Nat) : (toP l).getD i 0 = (l.getD i 0 : Rat) := by
  unfold toP
  simp only [List.getD_eq_getElem?_getD, List.getElem?_map]
  cases l[i]? <;> simp
theorem toP_len (l : List Int) : (toP l).length = l.length := by simp [toP]
theorem pLd_toP (l : List Int) : pLd (toP l) = (zLd l : Rat) := by
  unfold pLd zLd; rw [qf_toP, toP_len]
theorem rat_ne {x : Int} (h : x ≠ 0) : (x : Rat) ≠ 0 := fun e => h (Rat.intCast_inj.mp (by simpa using e))
theorem TrP_toP {l : List Int} (h : Tr l) : TrP (toP l) := by
  rcases h with h | h
  · left; rw [h]; rfl
  · right; rw [pLd_toP]; exact rat_ne h
theorem SmP_toP {k : Nat} {l : List Int} (h : SmL k l) (hk : 1 ≤ k) : SmP k (toP l) := fun x hx => by
  obtain ⟨y, hy, rfl⟩ := List.mem_map.mp hx
  exact SmQ.int (h y hy) hk
theorem inv_ne {x : Rat} (h : x ≠ 0) : x⁻¹ ≠ 0 := fun e => h (by have := Rat.inv_inv x; rw [e] at this; simpa using this.symm)

theorem zMul_lenE {a b : List Int} (ha : a ≠ []) (hb : b ≠ []) : (zMul a b).length = a.length + b.length - 1 := by
  unfold zMul
  rw [if_neg (by simp [ha, hb]), zMulL_len]
theorem sq2 {s r : Int} (hr : r ≠ 0) : zPow (zT [s, r]) 2 = [s ^ 2, 2 * s * r, r ^ 2] := by
  have c : ∀ k, (zPow (zT [s, r]) 2).getD k 0 = lp s r 2 k := fun k => cf_zPow (zT2_0 s r) (zT2_1 s r) (zT_le _) (by decide) k
  rw [zT2 hr] at c ⊢
  have l1 : (zMul [s, r] [s, r]).length = 3 := by rw [zMul_lenE (by simp) (by simp)]; rfl
  have l2 : (zPow [s, r] 2).length = 3 := by
    show (zMul [1] (zMul [s, r] [s, r])).length = 3
    rw [zMul_lenE (by simp) (fun e => by rw [e] at l1; cases l1), l1]; rfl
  have h2 : r ^ 2 ≠ 0 := Int.pow_ne_zero hr
  refine Tr.ext (.inr ?_) (.inr h2) fun i => ?_
  · unfold zLd; rw [l2, c]; exact h2
  · rw [c]
    match i with
    | 0 => rfl
    | 1 => rfl
    | 2 => rfl
    | n + 3 => simp [lp, lpL]
theorem sq1 {s : Int} (hs : s ≠ 0) : zPow (zT [s, 0]) 2 = [s ^ 2] := by
  have c : ∀ k, (zPow (zT [s, 0]) 2).getD k 0 = lp s 0 2 k := fun k => cf_zPow (zT2_0 s 0) (zT2_1 s 0) (zT_le _) (by decide) k
  rw [zT20, zT1 hs] at c ⊢
  have l1 : (zMul [s] [s]).length = 1 := by rw [zMul_lenE (by simp) (by simp)]; rfl
  have l2 : (zPow [s] 2).length = 1 := by
    show (zMul [1] (zMul [s] [s])).length = 1
    rw [zMul_lenE (by simp) (fun e => by rw [e] at l1; cases l1), l1]; rfl
  have h2 : s ^ 2 ≠ 0 := Int.pow_ne_zero hs
  refine Tr.ext (.inr ?_) (.inr h2) fun i => ?_
  · unfold zLd; rw [l2, c]; exact h2
  · rw [c]
    match i with
    | 0 => rfl
    | 1 => simp [lp, lpL]
    | 2 => simp [lp, lpL]
    | n + 3 => simp [lp, lpL]

/-- the two ways to the moved square are the same -/
theorem same_end {T B P S : List Rat} {g0 g1 g2 q p s r : Rat} {ℓ : Rat} (hℓ : ℓ ≠ 0) (h : BotOk T B) (tT0 : T.getD 0 0 = q * ℓ⁻¹) (tT1 : T.getD 1 0 = p * ℓ⁻¹) (tB0 : B.getD 0 0 = s * ℓ⁻¹) (tB1 : B.getD 1 0 = r * ℓ⁻¹)
    (trP : TrP P) (trS : TrP S) (lP : P.length ≤ 3) (lS : S.length ≤ 3) (p0 : P.getD 0 0 = g0 * s ^ 2 + g1 * (q * s) + g2 * q ^ 2) (p1 : P.getD 1 0 = g0 * (2 * s * r) + g1 * (p * s + q * r) + g2 * (2 * q * p)) (p2 : P.getD 2 0 = g0 * r ^ 2 + g1 * (p * r) + g2 * p ^ 2)
    (s0 : S.getD 0 0 = s ^ 2) (s1 : S.getD 1 0 = 2 * s * r) (s2 : S.getD 2 0 = r ^ 2) : qN2 T B g0 g1 g2 = pScale P (ℓ ^ 2)⁻¹ ∧ pMul B B = pScale S (ℓ ^ 2)⁻¹ := by
  have hk : (ℓ ^ 2)⁻¹ ≠ 0 := inv_ne (fun e => by
    have : ℓ * ℓ = 0 := by grind
    rcases Rat.mul_eq_zero.mp this with h | h <;> exact hℓ h)
  have ei : (ℓ ^ 2)⁻¹ = ℓ⁻¹ * ℓ⁻¹ := by grind
  have lT := h.lT
  have lB := h.lB
  have u2 : T.getD 2 0 = 0 := qf_ge lT
  have v2 : B.getD 2 0 = 0 := qf_ge lB
  have fc : ∀ (g : Rat) (b : List Rat) i, (pMul (c1L g) b).getD i 0 = g * b.getD i 0 := fun g b i => by
    rw [qf_pMul]
    unfold c1L
    split
    · rename_i hg; rw [hg]; simp [cq, Rat.zero_mul]
    · cases i with
      | zero => simp [cq]
      | succ k => simp [cq, Rat.add_zero]
  have fM1 : ∀ i, (qM1 T g2).getD i 0 = g2 * T.getD i 0 := fun i => by
    unfold qM1
    rw [qf_pMul]
    cases i with
    | zero => simp [cq]
    | succ k => simp [cq, Rat.add_zero]
  have fN1 : ∀ i, (qN1 T B g1 g2).getD i 0 = g2 * T.getD i 0 + g1 * B.getD i 0 := fun i => by
    unfold qN1; rw [qf_pAdd, fM1, fc]
  have lM1 : (qM1 T g2).length ≤ 2 := pMul_len_le (i := 1) (j := 2) _ _ (by simp) lT (by decide)
  have lc : (pMul (c1L g1) B).length ≤ 2 := pMul_len_le (i := 1) (j := 2) _ _ (c1L_len _) lB (by decide)
  have lN1 : (qN1 T B g1 g2).length ≤ 2 := by
    have := pAdd_le (qM1 T g2) (pMul (c1L g1) B)
    unfold qN1; (first | lia | omega)
  have fN2 : ∀ i, (qN2 T B g0 g1 g2).getD i 0 = cq (qN1 T B g1 g2) T i + g0 * cq B B i := fun i => by
    unfold qN2 qM2; rw [qf_pAdd, qf_pMul, fc, qf_pMul]
  refine ⟨TrP.ext (TrP_pAdd _ _) (TrP_pScale trP hk) fun i => ?_, TrP.ext (TrP_pMul h.tB h.tB) (TrP_pScale trS hk) fun i => ?_⟩
  · rw [fN2, qf_pScale, ei]
    generalize ℓ⁻¹ = m at *
    match i with
    | 0 => rw [cq0, cq0, fN1, tT0, tB0, p0]; grind
    | 1 => rw [cq1, cq1, fN1, fN1, tT0, tB0, tT1, tB1, p1]; grind
    | 2 => rw [cq2, cq2, fN1, fN1, fN1, tT0, tB0, tT1, tB1, u2, v2, p2]; grind
    | n + 3 => rw [cq_big _ _ _ (by (first | lia | omega)), cq_big _ _ _ (by (first | lia | omega)), qf_ge (l := P) (by (first | lia | omega))]; grind
  · rw [qf_pMul, qf_pScale, ei]
    generalize ℓ⁻¹ = m at *
    match i with
    | 0 => rw [cq0, tB0, s0]; grind
    | 1 => rw [cq1, tB0, tB1, s1]; grind
    | 2 => rw [cq2, tB0, tB1, v2, s2]; grind
    | n + 3 => rw [cq_big _ _ _ (by (first | lia | omega)), qf_ge (l := S) (by (first | lia | omega))]; grind

section
variable {G : GC}
theorem frac_calls (D : G.Gd) {g0 g1 g2 q p s r : Int} (sg : SmL 8 [g0, g1, g2]) (h2 : g2 ≠ 0) (sm : SmL 8 [q, p, s, r]) (hD : p * s - q * r ≠ 0) (sP : SmL 12 (zPut [g0, g1, g2] 2 q p s r)) :
    ∃ T B A1 B1, CallOk G 8 "fmake" [dP (toP (zT [q, p])), dP (toP (zT [s, r]))] (dF T B) ∧ CallOk G 10 "fcompose" [.tuple [dP (toP [g0, g1, g2]), dP [1]], dF T B] (dF A1 B1) ∧ CallOk G 8 "fmake" [dP (toP (zPut [g0, g1, g2] 2 q p s r)), dP (toP (zPow (zT [s, r]) 2))] (dF A1 B1) := by
  have kq := sm q (by simp)
  have kp := sm p (by simp)
  have ks := sm s (by simp)
  have kr := sm r (by simp)
  have k0 := SmQ.int (sg g0 (by simp)) (by decide)
  have k1 := SmQ.int (sg g1 (by simp)) (by decide)
  have k2 := SmQ.int (sg g2 (by simp)) (by decide)
  have sA : SmP 8 (toP (zT [q, p])) := SmP_toP (SmL.zT (smL2 kq kp)) (by decide)
  have sB : SmP 8 (toP (zT [s, r])) := SmP_toP (SmL.zT (smL2 ks kr)) (by decide)
  have lA : (toP (zT [q, p])).length ≤ 2 := by rw [toP_len]; exact zT_le _
  have hA0 : (toP (zT [q, p])).getD 0 0 = (q : Rat) := by rw [qf_toP, zT2_0]
  have hA1 : (toP (zT [q, p])).getD 1 0 = (p : Rat) := by rw [qf_toP, zT2_1]
  have hA2 : (toP (zT [q, p])).getD 2 0 = 0 := qf_ge (by (first | lia | omega))
  have hA3 : (toP (zT [q, p])).getD 3 0 = 0 := qf_ge (by (first | lia | omega))
  have hB0 : (toP (zT [s, r])).getD 0 0 = (s : Rat) := by rw [qf_toP, zT2_0]
  have hB1 : (toP (zT [s, r])).getD 1 0 = (r : Rat) := by rw [qf_toP, zT2_1]
  have lB : (toP (zT [s, r])).length ≤ 2 := by rw [toP_len]; exact zT_le _
  have trA : TrP (toP (zT [q, p])) := TrP_toP (Tr_zT _)
  have trB : TrP (toP (zT [s, r])) := TrP_toP (Tr_zT _)
  have hDr : (p : Rat) * s - q * r ≠ 0 := by
    have := rat_ne hD
    simpa [Rat.intCast_sub, Rat.intCast_mul] using this
  have hg2 : (g2 : Rat) ≠ 0 := rat_ne h2
  have eg : toP [g0, g1, g2] = [(g0 : Rat), (g1 : Rat), (g2 : Rat)] := rfl
  -- the moved square
  have eP := put2L g0 g1 g2 q p s r
  have trP : TrP (toP (zPut [g0, g1, g2] 2 q p s r)) := TrP_toP (Tr_zPut _ _ _ _ _ _)
  have lP : (toP (zPut [g0, g1, g2] 2 q p s r)).length ≤ 3 := by rw [toP_len, eP]; exact zT_le _
  have hP0 : (toP (zPut [g0, g1, g2] 2 q p s r)).getD 0 0 = (g0 : Rat) * s ^ 2 + g1 * (q * s) + g2 * q ^ 2 := by rw [qf_toP, eP, cf_zT]; show ((w20 g0 g1 g2 q p s r : Int) : Rat) = _; unfold w20; push_cast; rfl
  have hP1 : (toP (zPut [g0, g1, g2] 2 q p s r)).getD 1 0 = (g0 : Rat) * (2 * s * r) + g1 * (p * s + q * r) + g2 * (2 * q * p) := by rw [qf_toP, eP, cf_zT]; show ((w21 g0 g1 g2 q p s r : Int) : Rat) = _; unfold w21; push_cast; rfl
  have hP2 : (toP (zPut [g0, g1, g2] 2 q p s r)).getD 2 0 = (g0 : Rat) * r ^ 2 + g1 * (p * r) + g2 * p ^ 2 := by rw [qf_toP, eP, cf_zT]; show ((w22 g0 g1 g2 q p s r : Int) : Rat) = _; unfold w22; push_cast; rfl
  have sPP : SmP 12 (toP (zPut [g0, g1, g2] 2 q p s r)) := SmP_toP sP (by decide)
  by_cases hr : r = 0
  · subst hr
    have hps : p * s ≠ 0 := by simpa using hD
    have hs : s ≠ 0 := fun e => hps (by rw [e]; simp)
    have hp : p ≠ 0 := fun e => hps (by rw [e]; simp)
    have hs' := rat_ne hs
    have hp' := rat_ne hp
    have eB : toP (zT [s, 0]) = [(s : Rat)] := by rw [zT20, zT1 hs]; rfl
    have eS : toP (zPow (zT [s, 0]) 2) = [(s : Rat) ^ 2] := by rw [sq1 hs]; simp [toP, Rat.intCast_pow]
    have nA : toP (zT [q, p]) ≠ [] := fun e => by rw [e] at hA1; exact hp' (by simpa using hA1.symm)
    have ldB : pLd (toP (zT [s, 0])) = (s : Rat) := by rw [eB]; rfl
    have f1 := c_fmake D (t := toP (zT [q, p])) (b := toP (zT [s, 0])) nA (by rw [eB]; simp) (by rw [ldB]; exact hs') (sA.mono (by decide)) (sB.mono (by decide)) (by rw [eB] at sB ⊢; exact qg_C (k := 8) 2 hs' (by (first | lia | omega)) lA sA sB (by decide) (by decide))
    rw [ldB] at f1
    have si : SmQ 8 (s : Rat)⁻¹ := (SmQ.int ks (by decide)).inv hs'
    have eB1 : pScale (toP (zT [s, 0])) (s : Rat)⁻¹ = [1] := by
      rw [eB]; simp [pScale, inv_ne hs', Rat.mul_inv_cancel _ hs']
    have bot : BotOk (pScale (toP (zT [q, p])) (s : Rat)⁻¹) (pScale (toP (zT [s, 0])) (s : Rat)⁻¹) :=
      ⟨TrP_pScale trA (inv_ne hs'), Nat.le_trans (pScale_len _ _) lA, (SmP_pScale sA si).mono (by decide), (SmP_pScale sB si).mono (by decide), .inr ⟨eB1, by rw [qf_pScale, hA1]; exact fun e => by rcases Rat.mul_eq_zero.mp e with e | e; exact hp' e; exact inv_ne hs' e⟩⟩
    have ch := chain D (g0 := (g0 : Rat)) (g1 := (g1 : Rat)) (g2 := (g2 : Rat)) bot hg2 (k0.mono (by decide)) (k1.mono (by decide)) (k2.mono (by decide))
    refine ⟨_, _, _, _, f1, by rw [eg]; exact ch, ?_⟩
    have trS : TrP (toP (zPow (zT [s, 0]) 2)) := by rw [eS]; exact .inr (show (s : Rat) ^ 2 ≠ 0 from fun e => hs' (by have h2 : (s : Rat) * s = 0 := (by grind); rcases Rat.mul_eq_zero.mp h2 with h | h <;> exact h))
    have ldS : pLd (toP (zPow (zT [s, 0]) 2)) = (s : Rat) ^ 2 := by rw [eS]; rfl
    have nS : (s : Rat) ^ 2 ≠ 0 := fun e => hs' (by have h2 : (s : Rat) * s = 0 := (by grind); rcases Rat.mul_eq_zero.mp h2 with h | h <;> exact h)
    obtain ⟨e1, e2⟩ := same_end (ℓ := (s : Rat)) (g0 := g0) (g1 := g1) (g2 := g2) (q := q) (p := p) (s := s) (r := (0 : Int)) hs' bot (by rw [qf_pScale, hA0]) (by rw [qf_pScale, hA1]) (by rw [qf_pScale, hB0]) (by rw [qf_pScale, hB1]) trP trS lP (by rw [eS]; simp) hP0 hP1 hP2 (by rw [eS]; rfl) (by rw [eS]; simp) (by rw [eS]; simp; grind)
    have nP : toP (zPut [g0, g1, g2] 2 q p s 0) ≠ [] := fun e => by
      rw [e] at hP2
      have h5 : (g2 : Rat) * (p * p) = 0 := by simp at hP2; grind
      rcases Rat.mul_eq_zero.mp h5 with h | h
      · exact hg2 h
      · rcases Rat.mul_eq_zero.mp h with h | h <;> exact hp' h
    have sS : SmP 20 (toP (zPow (zT [s, 0]) 2)) := by
      rw [sq1 hs]; exact SmP_toP (smL1 ((ks.pow 2).mono (by decide))) (by decide)
    have f3 := c_fmake D (t := toP (zPut [g0, g1, g2] 2 q p s 0)) (b := toP (zPow (zT [s, 0]) 2)) nP (by rw [eS]; simp) (by rw [ldS]; exact nS) (sPP.mono (by decide)) (sS.mono (by decide)) (by rw [eS] at sS ⊢; exact qg_C (k := 20) 3 nS (by (first | lia | omega)) lP (sPP.mono (by decide)) sS (by decide) (by decide))
    rw [ldS, ← e1, ← e2] at f3
    exact f3
  · have hr' := rat_ne hr
    have eB : toP (zT [s, r]) = [(s : Rat), (r : Rat)] := by rw [zT2 hr]; rfl
    have eS : toP (zPow (zT [s, r]) 2) = [(s : Rat) ^ 2, 2 * s * r, (r : Rat) ^ 2] := by rw [sq2 hr]; simp [toP, Rat.intCast_pow, Rat.intCast_mul]
    have hroot : pe (toP (zT [q, p])) (-(s : Rat) / r) ≠ 0 := by
      unfold pe
      rw [hA0, hA1, hA2, hA3]
      intro e
      apply hDr
      have : ((q : Rat) + p * (-s / r)) * r = 0 := by grind
      grind
    have nA : toP (zT [q, p]) ≠ [] := fun e => hroot (by rw [e]; exact pe_nil _)
    have ldB : pLd (toP (zT [s, r])) = (r : Rat) := by rw [eB]; rfl
    have f1 := c_fmake D (t := toP (zT [q, p])) (b := toP (zT [s, r])) nA (by rw [eB]; simp) (by rw [ldB]; exact hr') (sA.mono (by decide)) (sB.mono (by decide)) (by rw [eB] at sB ⊢; exact qg_L (k := 8) hr' (by (first | lia | omega)) sA sB (by decide) (by decide) hroot)
    rw [ldB] at f1
    have si : SmQ 8 (r : Rat)⁻¹ := (SmQ.int kr (by decide)).inv hr'
    have eB1 : pScale (toP (zT [s, r])) (r : Rat)⁻¹ = [(s : Rat) * (r : Rat)⁻¹, 1] := by
      rw [eB]; simp [pScale, inv_ne hr', Rat.mul_inv_cancel _ hr']
    have bot : BotOk (pScale (toP (zT [q, p])) (r : Rat)⁻¹) (pScale (toP (zT [s, r])) (r : Rat)⁻¹) :=
      ⟨TrP_pScale trA (inv_ne hr'), Nat.le_trans (pScale_len _ _) lA, (SmP_pScale sA si).mono (by decide), (SmP_pScale sB si).mono (by decide), .inl ⟨_, eB1, by
        have : pe (pScale (toP (zT [q, p])) (r : Rat)⁻¹) (-((s : Rat) * (r : Rat)⁻¹)) = pe (toP (zT [q, p])) (-(s : Rat) / r) * (r : Rat)⁻¹ := by
          unfold pe
          rw [qf_pScale, qf_pScale, qf_pScale, qf_pScale, hA2, hA3]; grind
        rw [this]
        exact fun e => by rcases Rat.mul_eq_zero.mp e with e | e; exact hroot e; exact inv_ne hr' e⟩⟩
    have ch := chain D (g0 := (g0 : Rat)) (g1 := (g1 : Rat)) (g2 := (g2 : Rat)) bot hg2 (k0.mono (by decide)) (k1.mono (by decide)) (k2.mono (by decide))
    refine ⟨_, _, _, _, f1, by rw [eg]; exact ch, ?_⟩
    have nS : (r : Rat) ^ 2 ≠ 0 := fun e => hr' (by have h2 : (r : Rat) * r = 0 := (by grind); rcases Rat.mul_eq_zero.mp h2 with h | h <;> exact h)
    have trS : TrP (toP (zPow (zT [s, r]) 2)) := by rw [eS]; exact .inr nS
    have ldS : pLd (toP (zPow (zT [s, r]) 2)) = (r : Rat) ^ 2 := by rw [eS]; rfl
    obtain ⟨e1, e2⟩ := same_end (ℓ := (r : Rat)) (g0 := g0) (g1 := g1) (g2 := g2) (q := q) (p := p) (s := s) (r := r) hr' bot (by rw [qf_pScale, hA0]) (by rw [qf_pScale, hA1]) (by rw [qf_pScale, hB0]) (by rw [qf_pScale, hB1]) trP trS lP (by rw [eS]; simp) hP0 hP1 hP2 (by rw [eS]; rfl) (by rw [eS]; rfl) (by rw [eS]; rfl)
    have hP3 : (toP (zPut [g0, g1, g2] 2 q p s r)).getD 3 0 = 0 := qf_ge lP
    have hrP : pe (toP (zPut [g0, g1, g2] 2 q p s r)) (-(s : Rat) / r) ≠ 0 := by
      unfold pe
      rw [hP0, hP1, hP2, hP3]
      intro e
      have h5 : (g2 : Rat) * (((p : Rat) * s - q * r) * ((p : Rat) * s - q * r)) = 0 := by grind
      rcases Rat.mul_eq_zero.mp h5 with h | h
      · exact hg2 h
      · rcases Rat.mul_eq_zero.mp h with h | h <;> exact hDr h
    have nP : toP (zPut [g0, g1, g2] 2 q p s r) ≠ [] := fun e => hrP (by rw [e]; exact pe_nil _)
    have sS : SmP 40 (toP (zPow (zT [s, r]) 2)) := by
      rw [sq2 hr]; exact SmP_toP (smL3 ((ks.pow 2).mono (by decide)) (Sm3 (Sm3 c2 ks (Nat.le_refl _)) kr (by decide)) ((kr.pow 2).mono (by decide))) (by decide)
    have f3 := c_fmake D (t := toP (zPut [g0, g1, g2] 2 q p s r)) (b := toP (zPow (zT [s, r]) 2)) nP (by rw [eS]; simp) (by rw [ldS]; exact nS) (sPP.mono (by decide)) (sS.mono (by decide)) (by rw [eS] at sS ⊢; exact qg_S (k := 40) (x := -(s : Rat) / r) nS lP trP (sPP.mono (by decide)) sS (by decide) (by decide) (by grind) (by grind) hrP)
    rw [ldS, ← e1, ← e2] at f3
    exact f3
end
end Fco

-- FpM
namespace Fco

-- the gcd run on written numbers
noncomputable def szQ (x : Rat) : Bool := decide (x.num.natAbs < 2 ^ 100) && decide (x.den < 2 ^ 100)
noncomputable def szP (l : List Rat) : Bool := l.all szQ
theorem szP_ok {l : List Rat} (h : szP l = true) : SmP 100 l := fun x hx => by
  have := List.all_eq_true.mp h x hx
  simp only [szQ, Bool.and_eq_true, decide_eq_true_eq] at this
  exact ⟨this.1, this.2⟩
noncomputable def qdC (b : List Rat) : Nat → List Rat → List Rat → Option (List Rat)
  | 0, _, _ => none
  | n + 1, rest, found =>
    if rest.length < b.length then (if rest.length ≤ 8 ∧ found.length ≤ 8 then some rest else none)
    else if rest.length ≤ 8 ∧ found.length ≤ 8 ∧ szP rest = true ∧ rest.length - b.length < found.length ∧ (qdN b rest).length < rest.length then qdC b n (qdN b rest) (found.set (rest.length - b.length) (pLd rest / pLd b)) else none
theorem qdC_ok {b : List Rat} : ∀ (n : Nat) (rest found r : List Rat), qdC b n rest found = some r → ∃ q, QD b rest found r q
  | 0, _, _, _, h => by cases h
  | n + 1, rest, found, r, h => by
    unfold qdC at h
    split at h
    · rename_i h1
      split at h
      · rename_i h2
        cases h
        exact ⟨found, .done h2.1 h2.2 h1⟩
      · cases h
    · rename_i h1
      split at h
      · rename_i h2
        obtain ⟨a1, a2, a3, a4, a5⟩ := h2
        obtain ⟨q, d⟩ := qdC_ok n _ _ r h
        exact ⟨q, .step (Nat.le_of_not_lt h1) a1 a2 ((szP_ok a3).mono (by decide)) a4 a5 d⟩
      · cases h
noncomputable def qgC : Nat → List Rat → List Rat → Option (List Rat)
  | 0, _, _ => none
  | n + 1, a, b =>
    if b = [] then (if a.length ≤ 8 ∧ szP a = true ∧ pLd a ≠ 0 then some (pMonic a) else none)
    else if a.length ≤ 8 ∧ b.length ≤ 8 ∧ szP b = true ∧ pLd b ≠ 0 then
      match qdC b 9 a (List.replicate (a.length - b.length + 1 - (if b.length ≤ a.length then 0 else 1)) 0) with
      | some rem => if rem.length ≤ 8 ∧ szP rem = true ∧ (rem = [] ∨ pLd rem ≠ 0) ∧ (pMonic rem).length < b.length then qgC n b (pMonic rem) else none
      | none => none
    else none
theorem qgC_ok : ∀ (n : Nat) (a b r : List Rat), qgC n a b = some r → QG a b r
  | 0, _, _, _, h => by cases h
  | n + 1, a, b, r, h => by
    unfold qgC at h
    split at h
    · rename_i h1
      subst h1
      split at h
      · rename_i h2
        cases h
        exact .done h2.1 ((szP_ok h2.2.1).mono (by decide)) fun _ => h2.2.2
      · cases h
    · rename_i h1
      split at h
      · rename_i h2
        obtain ⟨a1, a2, a3, a4⟩ := h2
        split at h
        · rename_i rem hq
          split at h
          · rename_i h3
            obtain ⟨c1, c2, c3, c4⟩ := h3
            obtain ⟨q, d⟩ := qdC_ok _ _ _ _ hq
            exact .step h1 a1 a2 ((szP_ok a3).mono (by decide)) a4 d c1 ((szP_ok c2).mono (by decide)) (fun e => c3.resolve_left e) c4 (qgC_ok n _ _ r h)
          · cases h
        · cases h
      · cases h

/-- a call of fmake on written lists -/
noncomputable def fmC (t b : List Rat) : Bool := decide (t ≠ []) && decide (b ≠ []) && decide (pLd b ≠ 0) && szP t && szP b && decide (qgC 9 t b = some [1])
section
variable {G : GC}
theorem fmC_ok (D : G.Gd) {t b : List Rat} (h : fmC t b = true) : CallOk G 8 "fmake" [dP t, dP b] (dF (pScale t (pLd b)⁻¹) (pScale b (pLd b)⁻¹)) := by
  simp only [fmC, Bool.and_eq_true, decide_eq_true_eq] at h
  obtain ⟨⟨⟨⟨⟨h1, h2⟩, h3⟩, h4⟩, h5⟩, h6⟩ := h
  exact c_fmake D h1 h2 h3 ((szP_ok h4).mono (by decide)) ((szP_ok h5).mono (by decide)) (qgC_ok _ _ _ _ h6)
end
noncomputable def dueT : List Rat := [1, -3, 0, 1]
noncomputable def dueB : List Rat := [0, -1, 1]
noncomputable def turnT : List Rat := pAdd (pMul [3] dueB) (pMul (pNeg dueT) [1])
noncomputable def stB (q p s r : Int) : Bool :=
  let t := toP (staysTop q p s r)
  let b := toP (staysBel q p s r)
  let A := pScale t (pLd b)⁻¹
  let B := pScale b (pLd b)⁻¹
  fmC t b && (((decide (A = dueT) && decide (B = dueB)) == decide (cnt rowsA [q, p, s, r] = 1)) && ((decide (A = turnT) && decide (B = dueB)) == decide (cnt rowsB [q, p, s, r] = 1)))
noncomputable def tri : List Int := [-1, 0, 1]
theorem stays_all (q : Int) (hq : q ∈ tri) : (tri.all fun p => tri.all fun s => tri.all fun r => decide (p * s = q * r) || stB q p s r) = true := by
  simp only [tri, List.mem_cons, List.not_mem_nil, or_false] at hq
  rcases hq with rfl | rfl | rfl
  · decide +kernel
  · decide +kernel
  · decide +kernel
theorem due_ok : fmC (toP [1, -3, 0, 1]) (toP [0, -1, 1]) = true := by decide +kernel
end Fco

-- FpN
namespace Fco

-- bounds by written numbers
noncomputable def Bd (m : Nat) (x : Int) : Prop := x.natAbs ≤ m
theorem Bd.mul {m n : Nat} {x y : Int} (hx : Bd m x) (hy : Bd n y) : Bd (m * n) (x * y) := by
  unfold Bd at *; rw [Int.natAbs_mul]; exact Nat.mul_le_mul hx hy
theorem Bd.add {m n : Nat} {x y : Int} (hx : Bd m x) (hy : Bd n y) : Bd (m + n) (x + y) := by
  unfold Bd at *; have := Int.natAbs_add_le x y; (first | lia | omega)
theorem Bd.neg {m : Nat} {x : Int} (hx : Bd m x) : Bd m (-x) := by unfold Bd at *; rwa [Int.natAbs_neg]
theorem Bd.sub {m n : Nat} {x y : Int} (hx : Bd m x) (hy : Bd n y) : Bd (m + n) (x - y) := by rw [Int.sub_eq_add_neg]; exact hx.add hy.neg
theorem Bd.pow {m : Nat} {x : Int} (hx : Bd m x) (n : Nat) : Bd (m ^ n) (x ^ n) := by
  unfold Bd at *; rw [Int.natAbs_pow]; exact Nat.pow_le_pow_left hx n
theorem Bd.c2 : Bd 2 2 := by unfold Bd; decide
theorem Bd.c3 : Bd 3 3 := by unfold Bd; decide
theorem Bd.c4 : Bd 4 4 := by unfold Bd; decide
theorem Bd.c18 : Bd 18 18 := by unfold Bd; decide
theorem Bd.c27 : Bd 27 27 := by unfold Bd; decide
theorem Bd.sm {m k : Nat} {x : Int} (hx : Bd m x) (h : m < 2 ^ k) : Sm k x := Nat.lt_of_le_of_lt hx h
theorem Bd.mono {m n : Nat} {x : Int} (hx : Bd m x) (h : m ≤ n) : Bd n x := Nat.le_trans hx h

section
variable {f0 f1 f2 f3 q p s r : Int} (b0 : Bd 3 f0) (b1 : Bd 3 f1) (b2 : Bd 3 f2) (b3 : Bd 3 f3) (bq : Bd 2 q) (bp : Bd 2 p) (bs : Bd 2 s) (br : Bd 2 r)
include b0 b1 b2 bq bp bs br
theorem Bd_w20 : Sm 10 (w20 f0 f1 f2 q p s r) := (((b0.mul (bs.pow 2)).add (b1.mul (bq.mul bs))).add (b2.mul (bq.pow 2))).sm (by decide)
theorem Bd_w21 : Sm 10 (w21 f0 f1 f2 q p s r) := (((b0.mul ((Bd.c2.mul bs).mul br)).add (b1.mul ((bp.mul bs).add (bq.mul br)))).add (b2.mul ((Bd.c2.mul bq).mul bp))).sm (by decide)
theorem Bd_w22 : Sm 10 (w22 f0 f1 f2 q p s r) := (((b0.mul (br.pow 2)).add (b1.mul (bp.mul br))).add (b2.mul (bp.pow 2))).sm (by decide)
theorem SmW2 : SmL 10 [w20 f0 f1 f2 q p s r, w21 f0 f1 f2 q p s r, w22 f0 f1 f2 q p s r] := smL3 (Bd_w20 b0 b1 b2 bq bp bs br) (Bd_w21 b0 b1 b2 bq bp bs br) (Bd_w22 b0 b1 b2 bq bp bs br)
include b3
theorem Bd_w30 : Sm 10 (w30 f0 f1 f2 f3 q p s r) := ((((b0.mul (bs.pow 3)).add (b1.mul (bq.mul (bs.pow 2)))).add (b2.mul ((bq.pow 2).mul bs))).add (b3.mul (bq.pow 3))).sm (by decide)
theorem Bd_w31 : Sm 10 (w31 f0 f1 f2 f3 q p s r) := ((((b0.mul ((Bd.c3.mul (bs.pow 2)).mul br)).add (b1.mul ((bp.mul (bs.pow 2)).add (((Bd.c2.mul bq).mul bs).mul br)))).add (b2.mul ((((Bd.c2.mul bq).mul bp).mul bs).add ((bq.pow 2).mul br)))).add (b3.mul ((Bd.c3.mul (bq.pow 2)).mul bp))).sm (by decide)
theorem Bd_w32 : Sm 10 (w32 f0 f1 f2 f3 q p s r) := ((((b0.mul ((Bd.c3.mul bs).mul (br.pow 2))).add (b1.mul ((((Bd.c2.mul bp).mul bs).mul br).add (bq.mul (br.pow 2))))).add (b2.mul (((bp.pow 2).mul bs).add (((Bd.c2.mul bq).mul bp).mul br)))).add (b3.mul ((Bd.c3.mul bq).mul (bp.pow 2)))).sm (by decide)
theorem Bd_w33 : Sm 10 (w33 f0 f1 f2 f3 q p s r) := ((((b0.mul (br.pow 3)).add (b1.mul (bp.mul (br.pow 2)))).add (b2.mul ((bp.pow 2).mul br))).add (b3.mul (bp.pow 3))).sm (by decide)
theorem SmW3 : SmL 10 [w30 f0 f1 f2 f3 q p s r, w31 f0 f1 f2 f3 q p s r, w32 f0 f1 f2 f3 q p s r, w33 f0 f1 f2 f3 q p s r] := smL4 (Bd_w30 b0 b1 b2 b3 bq bp bs br) (Bd_w31 b0 b1 b2 b3 bq bp bs br) (Bd_w32 b0 b1 b2 b3 bq bp bs br) (Bd_w33 b0 b1 b2 b3 bq bp bs br)
end
theorem Bd_D3 {f0 f1 f2 f3 : Int} (b0 : Bd 3 f0) (b1 : Bd 3 f1) (b2 : Bd 3 f2) (b3 : Bd 3 f3) : Sm 1000 (D3 f0 f1 f2 f3) :=
  Sm.mono (k := 20) (((((((b1.pow 2).mul (b2.pow 2)).sub ((Bd.c4.mul b0).mul (b2.pow 3))).sub ((Bd.c4.mul (b1.pow 3)).mul b3)).add ((((Bd.c18.mul b0).mul b1).mul b2).mul b3)).sub ((Bd.c27.mul (b0.pow 2)).mul (b3.pow 2))).sm (by decide)) (by decide)
theorem Bd_D2 {f0 f1 f2 : Int} (b0 : Bd 3 f0) (b1 : Bd 3 f1) (b2 : Bd 3 f2) : Sm 1000 (D2 f0 f1 f2) :=
  Sm.mono (k := 20) (((b1.pow 2).sub ((Bd.c4.mul b0).mul b2)).sm (by decide)) (by decide)
theorem Bd_R32 {a0 a1 a2 a3 b0 b1 b2 : Int} (h0 : Bd 3 a0) (h1 : Bd 3 a1) (h2 : Bd 3 a2) (h3 : Bd 3 a3) (k0 : Bd 3 b0) (k1 : Bd 3 b1) (k2 : Bd 3 b2) : Sm 1000 (R32 a0 a1 a2 a3 b0 b1 b2) := by
  refine Sm.mono (k := 20) (Bd.sm (m := 20000) ?_ (by decide)) (by decide)
  unfold R32
  have t1 := (h0.pow 2).mul (k2.pow 3)
  have t2 := ((h0.mul h1).mul k1).mul (k2.pow 2)
  have t3 := (((Bd.c2.mul h0).mul h2).mul k0).mul (k2.pow 2)
  have t4 := ((h0.mul h2).mul (k1.pow 2)).mul k2
  have t5 := ((((Bd.c3.mul h0).mul h3).mul k0).mul k1).mul k2
  have t6 := (h0.mul h3).mul (k1.pow 3)
  have t7 := ((h1.pow 2).mul k0).mul (k2.pow 2)
  have t8 := (((h1.mul h2).mul k0).mul k1).mul k2
  have t9 := (((Bd.c2.mul h1).mul h3).mul (k0.pow 2)).mul k2
  have t10 := ((h1.mul h3).mul k0).mul (k1.pow 2)
  have t11 := ((h2.pow 2).mul (k0.pow 2)).mul k2
  have t12 := ((h2.mul h3).mul (k0.pow 2)).mul k1
  have t13 := (h3.pow 2).mul (k0.pow 3)
  exact ((((((((((((t1.sub t2).sub t3).add t4).add t5).sub t6).add t7).sub t8).sub t9).add t10).add t11).sub t12).add t13).mono (by decide)

section
variable {G : GC}
theorem stays_call (D : G.Gd) {q p s r : Int} (h : stB q p s r = true) (bq : Bd 2 q) (bp : Bd 2 p) (bs : Bd 2 s) (br : Bd 2 r) : CallOk G 11 "_law_stays" [dZ [q, p, s, r]] (.bool true) := by
  have e3 : (if (3 : Rat) = 0 then ([] : List Rat) else [3]) = [3] := by decide +kernel
  have ed : pScale (toP [1, -3, 0, 1]) (pLd (toP [0, -1, 1]))⁻¹ = dueT := by decide +kernel
  have ed2 : pScale (toP [0, -1, 1]) (pLd (toP [0, -1, 1]))⁻¹ = dueB := by decide +kernel
  have c2 := fmC_ok D due_ok
  rw [ed, ed2] at c2
  have ht : fmC turnT dueB = true := by decide +kernel
  have et : pScale turnT (pLd dueB)⁻¹ = turnT := by decide +kernel
  have et2 : pScale dueB (pLd dueB)⁻¹ = dueB := by decide +kernel
  have c3 := fmC_ok D ht
  rw [et, et2] at c3
  have sd : SmP 100 dueT := szP_ok (by decide +kernel)
  have sb : SmP 100 dueB := szP_ok (by decide +kernel)
  have s3 : SmP 100 [3] := szP_ok (by decide +kernel)
  have eb : pMul [1] dueB = dueB := by decide +kernel
  have c4 : CallOk G 9 "fadd" [dF (if (3 : Rat) = 0 then [] else [3]) [1], dF (pNeg dueT) dueB] (dF turnT dueB) := by
    rw [e3]
    refine c_fadd D (B := 100) (by simp) (by simp) (by simp [dueT, pNeg]) (by simp [dueB]) s3 (SmP_one (by decide)) (SmP_pNeg sd) sb (by decide) (by decide) ?_
    rw [eb]; exact c3
  simp only [stB, Bool.and_eq_true] at h
  obtain ⟨h1, h2⟩ := h
  have c1 := fmC_ok D h1
  have z1 : Bd 3 0 := by unfold Bd; decide
  have z2 : Bd 3 (-1) := by unfold Bd; decide
  have z3 : Bd 3 1 := by unfold Bd; decide
  have lt : (staysTop q p s r).length ≤ 4 := by unfold staysTop; rw [put3L]; exact zT_le _
  have lp : (zPut [0, -1, 1] 2 q p s r).length ≤ 3 := by rw [put2L]; exact zT_le _
  have lz : (zT [s, r]).length ≤ 2 := zT_le _
  have lb : (staysBel q p s r).length ≤ 1000 := by
    unfold staysBel
    have := zMul_len' (zPut [0, -1, 1] 2 q p s r) (zT [s, r])
    (first | lia | omega)
  have sp : SmL 1000 (zPut [0, -1, 1] 2 q p s r) := by
    rw [put2L]
    exact (SmL.zT (SmW2 z1 z2 z3 bq bp bs br)).mono (by decide)
  have sm : SmL 12 [q, p, s, r] := smL4 (bq.sm (by decide)) (bp.sm (by decide)) (bs.sm (by decide)) (br.sm (by decide))
  refine call_conv (c_stays D (A := pScale (toP (staysTop q p s r)) (pLd (toP (staysBel q p s r)))⁻¹) (B := pScale (toP (staysBel q p s r)) (pLd (toP (staysBel q p s r)))⁻¹) (A' := dueT) (B' := dueB) (A2 := turnT) (B2 := dueB) sm lb c1 c2 c4 (by simp [dueT]) (by simp [dueB]) (by (first | lia | omega)) (by (first | lia | omega)) sp) ?_
  rw [h2.1, h2.2]; rfl

theorem lawF (D : G.Gd) {f0 f1 f2 f3 g0 g1 g2 q p s r q' p' s' r' : Int} (b0 : Bd 3 f0) (b1 : Bd 3 f1) (b2 : Bd 3 f2) (b3 : Bd 3 f3) (h3 : f3 ≠ 0) (c0 : Bd 3 g0) (c1 : Bd 3 g1) (c2 : Bd 3 g2) (h2 : g2 ≠ 0)
    (bq : Bd 2 q) (bp : Bd 2 p) (bs : Bd 2 s) (br : Bd 2 r) (hD : p * s - q * r ≠ 0) (bq' : Bd 1 q') (bp' : Bd 1 p') (bs' : Bd 1 s') (br' : Bd 1 r') (hst : stB q' p' s' r' = true) :
    LawF G [f0, f1, f2, f3] [g0, g1, g2] q p s r q' p' s' r' := by
  have k0 := b0.sm (k := 8) (by decide)
  have k1 := b1.sm (k := 8) (by decide)
  have k2 := b2.sm (k := 8) (by decide)
  have k3 := b3.sm (k := 8) (by decide)
  have l0 := c0.sm (k := 8) (by decide)
  have l1 := c1.sm (k := 8) (by decide)
  have l2 := c2.sm (k := 8) (by decide)
  have kq := bq.sm (k := 8) (by decide)
  have kp := bp.sm (k := 8) (by decide)
  have ks := bs.sm (k := 8) (by decide)
  have kr := br.sm (k := 8) (by decide)
  have sW := SmW3 b0 b1 b2 b3 bq bp bs br
  have sP := SmW2 c0 c1 c2 bq bp bs br
  have eW := put3L f0 f1 f2 f3 q p s r
  have eP := put2L g0 g1 g2 q p s r
  have sPP : SmL 12 (zPut [g0, g1, g2] 2 q p s r) := by rw [eP]; exact sP.zT.mono (by decide)
  have nW : zT [w30 f0 f1 f2 f3 q p s r, w31 f0 f1 f2 f3 q p s r, w32 f0 f1 f2 f3 q p s r, w33 f0 f1 f2 f3 q p s r] ≠ [] := fun e => by
    have z : ∀ i, [w30 f0 f1 f2 f3 q p s r, w31 f0 f1 f2 f3 q p s r, w32 f0 f1 f2 f3 q p s r, w33 f0 f1 f2 f3 q p s r].getD i 0 = 0 := fun i => by rw [← cf_zT, e]; simp
    have z0 : w30 f0 f1 f2 f3 q p s r = 0 := z 0
    have z1 : w31 f0 f1 f2 f3 q p s r = 0 := z 1
    have z2 : w32 f0 f1 f2 f3 q p s r = 0 := z 2
    have z3 : w33 f0 f1 f2 f3 q p s r = 0 := z 3
    have := (back3 f0 f1 f2 f3 q p s r).2.2.2
    rw [z0, z1, z2, z3] at this
    have h5 : f3 * (p * s - q * r) ^ 3 = 0 := by rw [← this]; unfold w33; grind
    rcases Int.mul_eq_zero.mp h5 with h | h
    · exact h3 h
    · exact Int.pow_ne_zero hD h
  have nP : zT [w20 g0 g1 g2 q p s r, w21 g0 g1 g2 q p s r, w22 g0 g1 g2 q p s r] ≠ [] := fun e => by
    have z : ∀ i, [w20 g0 g1 g2 q p s r, w21 g0 g1 g2 q p s r, w22 g0 g1 g2 q p s r].getD i 0 = 0 := fun i => by rw [← cf_zT, e]; simp
    have z0 : w20 g0 g1 g2 q p s r = 0 := z 0
    have z1 : w21 g0 g1 g2 q p s r = 0 := z 1
    have z2 : w22 g0 g1 g2 q p s r = 0 := z 2
    have h5 : g2 * (p * s - q * r) ^ 2 = 0 := by
      have : g2 * (p * s - q * r) ^ 2 = w20 g0 g1 g2 q p s r * r ^ 2 - w21 g0 g1 g2 q p s r * s * r + w22 g0 g1 g2 q p s r * s ^ 2 := by unfold w20 w21 w22; grind
      rw [this, z0, z1, z2]; grind
    rcases Int.mul_eq_zero.mp h5 with h | h
    · exact h2 h
    · exact Int.pow_ne_zero hD h
  exact {
    lf := rfl
    lg := rfl
    sf := smL4 (k0.mono (by decide)) (k1.mono (by decide)) (k2.mono (by decide)) (k3.mono (by decide))
    sg := smL3 (l0.mono (by decide)) (l1.mono (by decide)) (l2.mono (by decide))
    sm := smL4 (kq.mono (by decide)) (kp.mono (by decide)) (ks.mono (by decide)) (kr.mono (by decide))
    so := smL4 (bq'.sm (by decide)) (bp'.sm (by decide)) (bs'.sm (by decide)) (br'.sm (by decide))
    sby := ((bp.mul bs).sub (bq.mul br)).sm (by decide)
    lw := by rw [eW]; exact zT_le _
    lp := by rw [eP]; exact zT_le _
    sw := by rw [eW]; exact sW.zT.mono (by decide)
    sp := sPP
    oft1 := fun hr => by
      obtain ⟨k, o, e⟩ := often3 (q := q) (p := p) (s := s) (k0.mono (by decide)) (k1.mono (by decide)) (k2.mono (by decide)) (k3.mono (by decide)) h3 hr hD
      exact ⟨k, c_often D (kp.mono (by decide)) (kr.mono (by decide)) o, e⟩
    oft1' := fun hr => by
      have hp : p ≠ 0 := fun e => hD (by rw [e, hr]; simp)
      have : w33 f0 f1 f2 f3 q p s r ≠ 0 := by
        unfold w33
        rw [hr]
        intro e
        have h5 : f3 * p ^ 3 = 0 := by grind
        rcases Int.mul_eq_zero.mp h5 with h | h
        · exact h3 h
        · exact Int.pow_ne_zero hp h
      rw [eW, zT4 this]; rfl
    oft2 := fun hr => by
      obtain ⟨k, o, e⟩ := often2 (q := q) (p := p) (s := s) (l0.mono (by decide)) (l1.mono (by decide)) (l2.mono (by decide)) h2 hr hD
      exact ⟨k, c_often D (kp.mono (by decide)) (kr.mono (by decide)) o, e⟩
    oft2' := fun hr => by
      have hp : p ≠ 0 := fun e => hD (by rw [e, hr]; simp)
      have : w22 g0 g1 g2 q p s r ≠ 0 := by
        unfold w22
        rw [hr]
        intro e
        have h5 : g2 * p ^ 2 = 0 := by grind
        rcases Int.mul_eq_zero.mp h5 with h | h
        · exact h2 h
        · exact Int.pow_ne_zero hp h
      rw [eP, zT3 this]; rfl
    told1 := ⟨D3 f0 f1 f2 f3, by
      rw [eW]
      exact call_conv (told3 D sW) (congrArg PyData.int (inv_D3.moved f0 f1 f2 f3 0 0 0 q p s r hD)), disc3 D h3 (smL4 (k0.mono (by decide)) (k1.mono (by decide)) (k2.mono (by decide)) (k3.mono (by decide))), Bd_D3 b0 b1 b2 b3⟩
    told2 := ⟨D2 g0 g1 g2, by
      rw [eP]
      exact call_conv (told2 D sP) (congrArg PyData.int (D2_moved g0 g1 g2 q p s r)), disc2 D h2 (smL3 (l0.mono (by decide)) (l1.mono (by decide)) (l2.mono (by decide))), Bd_D2 c0 c1 c2⟩
    both := ⟨R32 f0 f1 f2 f3 g0 g1 g2, by
      rw [eW, eP]
      exact call_conv (both3 D sW sP nW nP) (congrArg PyData.int (inv_R32.moved f0 f1 f2 f3 g0 g1 g2 q p s r hD)), res32 D h3 h2 (smL4 (k0.mono (by decide)) (k1.mono (by decide)) (k2.mono (by decide)) (k3.mono (by decide))) (smL3 (l0.mono (by decide)) (l1.mono (by decide)) (l2.mono (by decide))), Bd_R32 b0 b1 b2 b3 c0 c1 c2⟩
    back := back_list f0 f1 f2 f3 q p s r h3 hD
    l1 := by rw [put1L]; exact zT_le _
    l2 := by rw [put1L]; exact zT_le _
    comp := ⟨_, _, _, _, both_list q p s r q' p' s' r', smL4 (((bq.mul bs').add (bp.mul bq')).sm (by decide)) (((bq.mul br').add (bp.mul bp')).sm (by decide)) (((bs.mul bs').add (br.mul bq')).sm (by decide)) (((bs.mul br').add (br.mul bp')).sm (by decide)), comp_list f0 f1 f2 f3 q p s r q' p' s' r'⟩
    fc := frac_calls D (smL3 l0 l1 l2) h2 (smL4 kq kp ks kr) hD sPP
    stays := stays_call D hst (bq'.mono (by decide)) (bp'.mono (by decide)) (bs'.mono (by decide)) (br'.mono (by decide)) }

theorem drawV_range (cells : List Int) (k : Nat) {m : Int} (hm : 0 < m) : 0 ≤ drawV cells k m ∧ drawV cells k m < m := by
  unfold drawV
  split
  · exact ⟨Int.fmod_nonneg_of_pos _ hm, Int.fmod_lt_of_pos _ hm⟩
  · exact ⟨Int.fmod_nonneg_of_pos _ hm, Int.fmod_lt_of_pos _ hm⟩
theorem stays_of {q p s r : Int} (hq : Bd 1 q) (hp : Bd 1 p) (hs : Bd 1 s) (hr : Bd 1 r) (h : p * s ≠ q * r) : stB q p s r = true := by
  have m : ∀ {x : Int}, Bd 1 x → x ∈ tri := fun {x} hx => by
    unfold Bd at hx
    have : x = -1 ∨ x = 0 ∨ x = 1 := by (first | lia | omega)
    simpa [tri] using this
  have := stays_all q (m hq)
  have := List.all_eq_true.mp this p (m hp)
  have := List.all_eq_true.mp this s (m hs)
  have := List.all_eq_true.mp this r (m hr)
  simp only [Bool.or_eq_true, decide_eq_true_eq] at this
  exact this.resolve_left h
theorem plain_law (D : G.Gd) (cells : List Int) : ∃ q p s r q' p' s' r', fracV cells 7 2 = [q, p, s, r] ∧ fracV cells 11 1 = [q', p', s', r'] ∧ LawF G (fOf cells) (gOf cells) q p s r q' p' s' r' := by
  have B : ∀ k (m c : Int), 0 < m → ∀ n : Nat, m ≤ n + 1 + c → c ≤ n → 0 ≤ c → Bd n (drawV cells k m - c) := fun k m c hm n h1 h2 h3 => by
    have := drawV_range cells k hm
    unfold Bd; (first | lia | omega)
  have f0 := B 0 7 3 (by decide) 3 (by decide) (by decide) (by decide)
  have f1 := B 1 7 3 (by decide) 3 (by decide) (by decide) (by decide)
  have f2 := B 2 7 3 (by decide) 3 (by decide) (by decide) (by decide)
  have g0 := B 4 7 3 (by decide) 3 (by decide) (by decide) (by decide)
  have g1 := B 5 7 3 (by decide) 3 (by decide) (by decide) (by decide)
  have r3 := drawV_range cells 3 (m := 3) (by decide)
  have r6 := drawV_range cells 6 (m := 2) (by decide)
  have f3 : Bd 3 (1 + drawV cells 3 3) ∧ 1 + drawV cells 3 3 ≠ 0 := ⟨by unfold Bd; (first | lia | omega), by (first | lia | omega)⟩
  have g2 : Bd 3 (1 + drawV cells 6 2) ∧ 1 + drawV cells 6 2 ≠ 0 := ⟨by unfold Bd; (first | lia | omega), by (first | lia | omega)⟩
  have mv : ∃ q p s r, fracV cells 7 2 = [q, p, s, r] ∧ Bd 2 q ∧ Bd 2 p ∧ Bd 2 s ∧ Bd 2 r ∧ p * s - q * r ≠ 0 := by
    have fr : ∀ i, Bd 2 (fracQ cells 7 2 i) := fun i => B (7 + i) (2 * 2 + 1) 2 (by decide) 2 (by decide) (by decide) (by decide)
    unfold fracV
    split
    · exact ⟨_, _, _, _, rfl, by rw [if_pos (by decide)]; exact fr 0, by unfold Bd; decide, by unfold Bd; decide, by unfold Bd; decide, by (first | lia | omega)⟩
    · rename_i h
      exact ⟨_, _, _, _, rfl, fr 0, fr 1, fr 2, fr 3, fun e => h (by (first | lia | omega))⟩
  have ot : ∃ q p s r, fracV cells 11 1 = [q, p, s, r] ∧ Bd 1 q ∧ Bd 1 p ∧ Bd 1 s ∧ Bd 1 r ∧ p * s ≠ q * r := by
    have fr : ∀ i, Bd 1 (fracQ cells 11 1 i) := fun i => B (11 + i) (2 * 1 + 1) 1 (by decide) 1 (by decide) (by decide) (by decide)
    unfold fracV
    split
    · exact ⟨_, _, _, _, rfl, by rw [if_neg (by decide)]; unfold Bd; decide, by unfold Bd; decide, by unfold Bd; decide, by unfold Bd; decide, by rw [if_neg (by decide)]; decide⟩
    · rename_i h
      exact ⟨_, _, _, _, rfl, fr 0, fr 1, fr 2, fr 3, h⟩
  obtain ⟨q, p, s, r, e1, bq, bp, bs, br, hD⟩ := mv
  obtain ⟨q', p', s', r', e2, bq', bp', bs', br', hD'⟩ := ot
  exact ⟨q, p, s, r, q', p', s', r', e1, e2, lawF D f0 f1 f2 f3.1 f3.2 g0 g1 g2.1 g2.2 bq bp bs br hD bq' bp' bs' br' (stays_of bq' bp' bs' br' hD')⟩
end
end Fco

-- FcHk
namespace Fco
-- what the walk wants of the top's state: the three written values, and that the built-ins' names are free
noncomputable def tupO (l : List Value) : Obj := { cls := .type "tuple", data := .seq l.toArray 0 }
noncomputable def lstO (l : List Value) : Obj := { cls := .type "list", data := .seq l.toArray 0 }
noncomputable def seenO : List (Addr × Obj) := [(49, tupO [.int 0 241, .int 1 242]), (50, tupO [.int 1 244, .int 1 245]), (176, lstO []), (177, lstO [.ref 50]), (178, tupO [.ref 176, .ref 177])]
noncomputable def seenN : List (Str × Option Value) := ("R0", some (.ref 49)) :: ("R1", some (.ref 50)) :: ("F0", some (.ref 178)) :: usedB.map fun x => (x, none)
noncomputable def lookG (h : Heap) (x : Str) : Option (Option Value) := (h.get? mainGlobals).bind fun o => nsIn [(mainGlobals, o)] mainGlobals x
structure GSay (h : Heap) : Prop where
  n : ∀ p ∈ seenN, lookG h p.1 = some p.2
  o : ∀ p ∈ seenO, h.get? p.1 = some p.2
noncomputable def gHook : Hook where
  α := List (Option (Option Value)) × List (Option Obj)
  obs := fun s => (seenN.map fun p => lookG s.heap p.1, seenO.map fun p => s.heap.get? p.1)
  val := fun _ => (seenN.map fun p => some p.2, seenO.map fun p => some p.2)
  says := fun _ h => GSay h
  of := fun _ s e => ⟨(List.map_inj_left (f := fun p : Str × Option Value => lookG s.heap p.1) (g := fun p => some p.2)).mp (congrArg Prod.fst e), (List.map_inj_left (f := fun p : Addr × Obj => s.heap.get? p.1) (g := fun p => some p.2)).mp (congrArg Prod.snd e)⟩
  keeps := fun _ h h' x k => ⟨fun p hp => by
    obtain ⟨o, ho, e⟩ := Option.bind_eq_some_iff.mp (x.n p hp)
    exact Option.bind_eq_some_iff.mpr ⟨o, k _ _ ho, e⟩, fun p hp => k _ _ (x.o p hp)⟩
theorem frag1 {h : Heap} {o : Obj} (ho : h.get? mainGlobals = some o) : Frag.In [(mainGlobals, o)] h := fun a o' e => by
  simp only [List.lookup] at e
  split at e
  · rename_i q
    cases e
    rw [beq_iff_eq.mp q]; exact ho
  · cases e
theorem gsay_mg {h : Heap} {mg : Str → Option Value} (x : GSay h) (G : h.Ns mainGlobals mg) : (∀ x ∈ usedB, mg x = none) ∧ (∃ v, mg "R0" = some v ∧ Told (fun _ => False) h v (dR 0 1)) ∧ (∃ v, mg "R1" = some v ∧ Told (fun _ => False) h v (dR 1 1)) ∧ (∃ v, mg "F0" = some v ∧ Told (fun _ => False) h v (.tuple [.list [], .list [dR 1 1]])) := by
  have N : ∀ p ∈ seenN, mg p.1 = p.2 := fun p hp => by
    obtain ⟨o, ho, e⟩ := Option.bind_eq_some_iff.mp (x.n p hp)
    cases q : p.2 with
    | none => rw [q] at e; exact mg_none_of (frag1 ho) G e
    | some v => rw [q] at e; exact mg_of (frag1 ho) G e
  have m1 := x.o (49, _) (.head _)
  have m2 := x.o (50, _) (.tail _ (.head _))
  have m3 := x.o (176, _) (.tail _ (.tail _ (.head _)))
  have m4 := x.o (177, _) (.tail _ (.tail _ (.tail _ (.head _))))
  have m5 := x.o (178, _) (.tail _ (.tail _ (.tail _ (.tail _ (.head _)))))
  have t1 : Told (fun _ => False) h (.ref 50) (dR 1 1) := .tuple id ⟨_, m2, rfl, 0, rfl⟩ (.cons (.int _ _) (.cons (.int _ _) .nil))
  exact ⟨fun y hy => N (y, none) (.tail _ (.tail _ (.tail _ (List.mem_map.mpr ⟨y, hy, rfl⟩)))), ⟨_, N ("R0", _) (.head _), .tuple id ⟨_, m1, rfl, 0, rfl⟩ (.cons (.int _ _) (.cons (.int _ _) .nil))⟩, ⟨_, N ("R1", _) (.tail _ (.head _)), t1⟩,
    ⟨_, N ("F0", _) (.tail _ (.tail _ (.head _))), .tuple id ⟨_, m5, rfl, 0, rfl⟩ (.cons (.list id ⟨_, m3, rfl, 0, rfl⟩ .nil) (.cons (.list id ⟨_, m4, rfl, 0, rfl⟩ (.cons t1 .nil)) .nil))⟩⟩
end Fco

-- FcW1
set_option maxHeartbeats 8000000
namespace Fco
theorem toldInts {W : Ws} {h : Heap} : ∀ {vs : List Value} {ns : List Int}, IntsAre vs ns → ToldAll W h vs (ns.map .int)
  | _, _, .nil => .nil
  | _, _, .cons n t r => .cons (.int n t) (toldInts r)
theorem ain_top {env : Env} (h1 : env.builtins = builtinsNs) (h2 : env.globals = mainGlobals) (h3 : env.scope.isGenerator = false) (h4 : env.scope.isCoroutine = false) : AIn 12 (callerA.deeper env) :=
  ⟨⟨rfl, by show callerA.depth + 1 + 12 < 800; decide, by show callerA.units + 3 + 8 * 12 < 9000; decide, [env], rfl⟩, env, [], rfl, h1, h2, h3, h4⟩
theorem hasB : WShape.has [] (.bool true) .bool = true := by decide +kernel
theorem holdsB (args : List WData) : WTm.holds [] (.eq .res (.lit (.bool true))) { args := args, res := some (.bool true), after := args } = true := by
  have h : same (WData.bool true) (WData.bool true) = true := by decide +kernel
  simp [WTm.holds, WTm.value, h]
theorem post_true (args : List WData) : PySem.Challenge.rw_xm0150_01.row.claim.post args (.bool true) args = true := by
  have : PySem.Challenge.rw_xm0150_01.row.claim.post args (.bool true) args = (WShape.has [] (.bool true) .bool && WTm.holds [] (.eq .res (.lit (.bool true))) { args := args, res := some (.bool true), after := args }) := rfl
  rw [this, hasB, holdsB]; rfl
theorem walkO {q : Program} {loose : List Str} {XP : (Str → Option Value) → Heap → Prop} (himp : importsNone q = true) (hdf : ∀ k ∈ usedK, dk k ∈ recsOf q) (h67 : dk 67 ∈ recsOf q) :
    WalkO q loose XP gHook.says PySem.Challenge.rw_xm0150_01.row.toRowW (dk 67) [] (fun f vs => PySem.call f vs) := by
  intro w s₀ s₁ mg mb G Y fa o pm cd doc dV kV ho hd hcd hD hmg hg args vals as hpre hlay hrd hwl hlo
  refine Ground.open G ?_
  intro T B D TE TW
  wrow_args hpre hlay hrd hwl hlo
  all_goals (first | refine callC_kw (enter_call ?_) | refine enter_call ?_ | refine callC_kw (enter_callW ?_) | refine enter_callW ?_)
  all_goals (try refine codeAny_mono ?_ (fun _ _ g => GoodW.toG g))
  rename_i script hs hlay0 hL1 hr1 hl2 as5 as4 ascr vs as1 hL ra w1 r0 hI hr hc1 hc2
  have hlen : script.length ≤ 63 := by
    have := hc1
    (first | lia | omega)
  obtain ⟨u0, u1, u2, u3⟩ := gsay_mg Y T.g
  let GG : GC := ⟨s₁.heap, PySem.Challenge.rw_xm0150_01.row.prog, w, q, looseW q loose, ExcName.means s₀.heap, mg, mb⟩
  have DD : GG.Gd := ⟨⟨T, rfl, himp, u0, u1, u2, u3⟩, hdf⟩
  obtain ⟨a', o', pm', code', doc', hmg', ho', hdat', hcode'⟩ := T.fn _ h67
  rw [hmg] at hmg'
  cases hmg'
  have scok : ScOk (dk 67).scope := ScOk.of rfl
  refine call_cells_ret (binds := [("script", .ref ascr)]) (by decide) ho' hdat' T.nolimit hcode' rfl ?_ ?_ scok.co scok.gen scok.kind
  · intro x hx
    rw [List.mem_singleton.mp hx]; exact .inl rfl
  intro h1 tk F X
  have hMn : ∀ b, Mu (dk 67).scope s₁.heap.objs.size b → s₁.heap.get? b = none := fun b hb => none_of_ge (by
    rcases hb with rfl | ⟨x, hx⟩
    · exact Nat.le_refl _
    · exact Nat.le_of_lt (X.above x b (PySem.mem_of_lookup hx)))
  have hfw : ∀ b, FW (dk 67).scope s₁.heap.objs.size (fun _ => False) (fun _ => False) b → Mu (dk 67).scope s₁.heap.objs.size b := fun b hb => hb.elim id fun h => h.elim (fun f => f.elim) fun f => f.elim
  have S : St GG (dk 67).scope s₁.heap.objs.size [("script", dZ script)] [] (fun _ => False) (fun _ => False) h1 := by
    refine ⟨scok, ⟨_, _, F.ns, X, fun x d hx => ?_, fun x pl ds hx => by cases hx⟩, ⟨F.keep, fun b hb => ?_, fun b hb => hMn b (hfw b hb)⟩, fun _ h => h.elim, fun _ h => h.elim⟩
    · rw [val_bind (sc := (dk 67).scope) (k := (envOfC (dk 67).name (dk 67).scope s₁.heap.objs.size fa code').kindOf) (fun _ => rfl)]
      by_cases h : x = "script"
      · subst h
        simp only [List.lookup_cons, beq_self_eq_true, Option.some.injEq] at hx
        subst hx
        refine ⟨.ref ascr, rfl, .list (fun w => ?_) (isList_of hL fun o => F.keep _ o) (toldInts hI)⟩
        have := hMn _ (hfw _ w)
        obtain ⟨o, ho, _⟩ := hL
        rw [this] at ho; cases ho
      · have hb : (x == "script") = false := by simpa using h
        simp [List.lookup_cons, hb] at hx
    · rcases hfw b hb with rfl | ⟨x, hx⟩
      · obtain ⟨o, _, _, ho, _⟩ := F.ns; exact ⟨o, ho⟩
      · obtain ⟨o, ho, _⟩ := X.cell x b hx; exact ⟨o, ho⟩
  refine wpAny_mono (law_done (G := GG) DD hlen (plain_law DD _) (ain_top rfl rfl rfl rfl) (sh := { s₁ with heap := h1, toks := tk }) S (Q := fun f s' => f = .ret (.bool true) ∧ Kp s₁.heap s'.heap ∧ s'.os = s₁.os ∧ s'.gens = #[]) fun h' tk' kp => ⟨rfl, kp, rfl, hg⟩) ?_ ?_
  · rintro f s' ⟨rfl, kp, ho', hg'⟩
    exact ⟨.inl ⟨_, .bool true, [], rfl, fun _ => rfl, .bool true, post_true _, fun _ => ⟨List.nodup_nil, fun _ h => nomatch h⟩⟩, kp, ho', hg'⟩
  · intro e s' h
    exact h.elim
theorem walkE {q : Program} {loose : List Str} {XP : (Str → Option Value) → Heap → Prop} (himp : importsNone q = true) (e : recsOf q = (usedK ++ [67]).map dk) :
    WalkO q loose XP gHook.says PySem.Challenge.rw_xm0150_01.row.toRowW (dk 67) [] (fun f vs => PySem.call f vs) :=
  walkO himp (fun k hk => by rw [e]; exact List.mem_map_of_mem (List.mem_append_left _ hk)) (by rw [e]; exact List.mem_map_of_mem (List.mem_append_right _ (.head _)))
end Fco

-- FcW2
set_option maxHeartbeats 8000000
theorem PySem.Challenge.cw_xm0150_01_holds : PySem.Challenge.rw_xm0150_01.Holds := by
  w_on
  o_law
  o_head Fco.gHook
  case hw => w_witness2
  exact Fco.walkE rfl rfl
