import PyProof.Rows.All
import Wide.All
import OpenK.AllK
import Wide.FinOn
import PySem.Challenge.RW_ov0056_01
set_option Elab.async false
section
open PySem PySem.W PyProof.Rows PySem.Calls PySem.Spec
set_option Elab.async false
set_option maxRecDepth 100000
namespace Mine

/-! the plain data, and what denotes them in a heap -/

inductive Dt where
  | none
  | bool (b : Bool)
  | int (i : Int)
  | str (x : Str)
  | tup (ds : List Dt)
  | lst (ds : List Dt)

noncomputable abbrev Sub (h h' : Heap) : Prop := ∀ b o, h.get? b = some o → h'.get? b = some o

theorem Sub.rfl {h : Heap} : Sub h h := fun _ _ e => e
theorem Sub.trans {h h' h'' : Heap} (a : Sub h h') (b : Sub h' h'') : Sub h h'' := fun x o e => b x o (a x o e)
theorem Sub.push (h : Heap) (o : Obj) : Sub h (h.push o) := fun _ _ e => Heap.get?_push_of_some _ e

mutual
inductive Den (h : Heap) (O : Addr → Prop) : Value → Dt → Prop
  | none : Den h O .none .none
  | bool (b : Bool) : Den h O (.bool b) (.bool b)
  | int (i : Int) (t : Tok) : Den h O (.int i t) (.int i)
  | str (x : Str) (t : Tok) : Den h O (.str x t) (.str x)
  | tup {a : Addr} {vs : List Value} {ds : List Dt} : IsTup h a vs.toArray → ¬ O a → DenAll h O vs ds → Den h O (.ref a) (.tup ds)
  | lst {a : Addr} {vs : List Value} {ds : List Dt} : h.IsList a vs.toArray → ¬ O a → DenAll h O vs ds → Den h O (.ref a) (.lst ds)
inductive DenAll (h : Heap) (O : Addr → Prop) : List Value → List Dt → Prop
  | nil : DenAll h O [] []
  | cons {v : Value} {vs : List Value} {d : Dt} {ds : List Dt} : Den h O v d → DenAll h O vs ds → DenAll h O (v :: vs) (d :: ds)
end

theorem isTup_sub {h h' : Heap} {a : Addr} {xs : Array Value} (x : IsTup h a xs) (k : ∀ o, h.get? a = some o → h'.get? a = some o) : IsTup h' a xs := let ⟨o, e, r⟩ := x; ⟨o, k o e, r⟩
theorem isList_sub {h h' : Heap} {a : Addr} {xs : Array Value} (x : h.IsList a xs) (k : ∀ o, h.get? a = some o → h'.get? a = some o) : h'.IsList a xs := let ⟨o, e, r⟩ := x; ⟨o, k o e, r⟩

mutual
theorem Den.move {h h' : Heap} {O O' : Addr → Prop} (k : ∀ b o, ¬ O b → h.get? b = some o → h'.get? b = some o ∧ ¬ O' b) : ∀ {v : Value} {d : Dt}, Den h O v d → Den h' O' v d
  | _, _, .none => .none
  | _, _, .bool b => .bool b
  | _, _, .int i t => .int i t
  | _, _, .str x t => .str x t
  | _, _, .tup x n r => by
    obtain ⟨o, e, q⟩ := x
    exact .tup ⟨o, (k _ _ n e).1, q⟩ (k _ _ n e).2 (DenAll.move k r)
  | _, _, .lst x n r => by
    obtain ⟨o, e, q⟩ := x
    exact .lst ⟨o, (k _ _ n e).1, q⟩ (k _ _ n e).2 (DenAll.move k r)
theorem DenAll.move {h h' : Heap} {O O' : Addr → Prop} (k : ∀ b o, ¬ O b → h.get? b = some o → h'.get? b = some o ∧ ¬ O' b) : ∀ {vs : List Value} {ds : List Dt}, DenAll h O vs ds → DenAll h' O' vs ds
  | _, _, .nil => .nil
  | _, _, .cons a r => .cons (Den.move k a) (DenAll.move k r)
end

section
variable {h h' : Heap} {O : Addr → Prop} {v : Value} {d : Dt} {vs ws : List Value} {ds es : List Dt}
theorem Den.mono (x : Den h O v d) (k : Sub h h') : Den h' O v d := x.move fun b o n e => ⟨k b o e, n⟩
theorem DenAll.mono (x : DenAll h O vs ds) (k : Sub h h') : DenAll h' O vs ds := x.move fun b o n e => ⟨k b o e, n⟩
theorem DenAll.length (x : DenAll h O vs ds) : vs.length = ds.length := by
  induction vs generalizing ds with
  | nil => cases x; rfl
  | cons v vs ih => cases x with | cons _ r => rw [List.length_cons, List.length_cons, ih r]
theorem DenAll.append (x : DenAll h O vs ds) (y : DenAll h O ws es) : DenAll h O (vs ++ ws) (ds ++ es) := by
  induction vs generalizing ds with
  | nil => cases x; exact y
  | cons v vs ih => cases x with | cons a r => exact .cons a (ih r)
theorem DenAll.one (x : Den h O v d) : DenAll h O [v] [d] := .cons x .nil
theorem DenAll.get (x : DenAll h O vs ds) {k : Nat} (e : ds[k]? = some d) : ∃ v, vs[k]? = some v ∧ Den h O v d := by
  induction vs generalizing ds k with
  | nil => cases x; simp at e
  | cons v vs ih =>
    cases x with
    | cons a r =>
      cases k with
      | zero => simp at e; subst e; exact ⟨v, rfl, a⟩
      | succ k => exact ih r (by simpa using e)
theorem DenAll.at (x : DenAll h O vs ds) {k : Nat} (e : vs[k]? = some v) : ∃ d, ds[k]? = some d ∧ Den h O v d := by
  induction vs generalizing ds k with
  | nil => simp at e
  | cons v vs ih =>
    cases x with
    | cons a r =>
      cases k with
      | zero => simp at e; subst e; exact ⟨_, rfl, a⟩
      | succ k => exact ih r (by simpa using e)
theorem DenAll.take (x : DenAll h O vs ds) : ∀ n, DenAll h O (vs.take n) (ds.take n) := by
  induction vs generalizing ds with
  | nil => intro n; cases x; simpa using DenAll.nil
  | cons v vs ih =>
    intro n
    cases x with
    | cons a r =>
      cases n with
      | zero => exact .nil
      | succ n => exact .cons a (ih r n)
theorem DenAll.drop (x : DenAll h O vs ds) : ∀ n, DenAll h O (vs.drop n) (ds.drop n) := by
  induction vs generalizing ds with
  | nil => intro n; cases x; simpa using DenAll.nil
  | cons v vs ih =>
    intro n
    cases x with
    | cons a r =>
      cases n with
      | zero => exact .cons a r
      | succ n => exact ih r n
theorem DenAll.set (x : DenAll h O vs ds) (y : Den h O v d) : ∀ n, DenAll h O (vs.set n v) (ds.set n d) := by
  induction vs generalizing ds with
  | nil => intro n; cases x; exact .nil
  | cons u vs ih =>
    intro n
    cases x with
    | cons a r =>
      cases n with
      | zero => exact .cons y r
      | succ n => exact .cons a (ih r n)
theorem DenAll.replicate (y : Den h O v d) : ∀ n, DenAll h O (List.replicate n v) (List.replicate n d)
  | 0 => .nil
  | n + 1 => .cons y (DenAll.replicate y n)
end

/-! == : the library's reading of the data -/
mutual
noncomputable def toP : Dt → PyData
  | .none => .none
  | .bool b => .bool b
  | .int i => .int i
  | .str x => .str x
  | .tup ds => .tuple (toPs ds)
  | .lst ds => .list (toPs ds)
noncomputable def toPs : List Dt → List PyData
  | [] => []
  | d :: ds => toP d :: toPs ds
end
mutual
/-- data without bools and texts, at most n deep -/
noncomputable def okE : Nat → Dt → Bool
  | _, .none => true
  | _, .int _ => true
  | _, .str x => PyData.strOk x
  | n + 1, .tup ds => okEs n ds
  | n + 1, .lst ds => okEs n ds
  | _, _ => false
noncomputable def okEs : Nat → List Dt → Bool
  | _, [] => true
  | n, d :: ds => okE n d && okEs n ds
end

mutual
theorem Den.reads {h : Heap} {O : Addr → Prop} : ∀ {v : Value} {d : Dt}, Den h O v d → ∃ as, Reads h v (toP d) as
  | _, _, .none => ⟨_, Reads.none⟩
  | _, _, .bool b => ⟨_, Reads.bool b⟩
  | _, _, .int i t => ⟨_, Reads.int i t⟩
  | _, _, .str x t => ⟨_, Reads.str x t⟩
  | _, _, .tup x _ r => by
    obtain ⟨o, e, c, n, q⟩ := x
    obtain ⟨as, y⟩ := DenAll.reads r
    rw [toP]
    exact ⟨as, .tuple e c q (by simpa using y)⟩
  | _, _, .lst x _ r => by
    obtain ⟨o, e, c, n, q⟩ := x
    obtain ⟨as, y⟩ := DenAll.reads r
    rw [toP]
    exact ⟨_, .list e c q (by simpa using y)⟩
theorem DenAll.reads {h : Heap} {O : Addr → Prop} : ∀ {vs : List Value} {ds : List Dt}, DenAll h O vs ds → ∃ as, ReadsAll h vs (toPs ds) as
  | _, _, .nil => ⟨_, .nil⟩
  | _, _, .cons a r => by
    obtain ⟨as, x⟩ := Den.reads a
    obtain ⟨bs, y⟩ := DenAll.reads r
    rw [toPs]
    exact ⟨_, .cons x y⟩
end
mutual
theorem okE_lay : ∀ (n : Nat) (d : Dt), okE n d = true → (toP d).canLay0 = true ∧ (toP d).depth ≤ n
  | n, .none, _ => by simp [toP, PyData.canLay0, PyData.depth]
  | n, .int i, _ => by simp [toP, PyData.canLay0, PyData.depth]
  | n, .str x, h => by
    cases n <;> (simp [okE] at h; simp [toP, PyData.canLay0, PyData.depth, h])
  | n, .bool b, h => by cases n <;> simp [okE] at h
  | 0, .tup ds, h => by simp [okE] at h
  | 0, .lst ds, h => by simp [okE] at h
  | n + 1, .tup ds, h => by
    have q := okEs_lay n ds (by simpa [okE] using h)
    have q2 := q.2
    simp only [toP, PyData.canLay0, PyData.depth, q.1, true_and]
    omega
  | n + 1, .lst ds, h => by
    have q := okEs_lay n ds (by simpa [okE] using h)
    have q2 := q.2
    simp only [toP, PyData.canLay0, PyData.depth, q.1, true_and]
    omega
theorem okEs_lay : ∀ (n : Nat) (ds : List Dt), okEs n ds = true → PyData.canLayAll0 (toPs ds) = true ∧ PyData.depthAll (toPs ds) ≤ n
  | n, [], _ => by simp [toPs, PyData.canLayAll0, PyData.depthAll]
  | n, d :: ds, h => by
    simp only [okEs, Bool.and_eq_true] at h
    have h1 := okE_lay n d h.1
    have h2 := okEs_lay n ds h.2
    simp only [toPs, PyData.canLayAll0, PyData.depthAll, h1.1, h2.1, Bool.and_self, true_and]
    have a1 := h1.2
    have a2 := h2.2
    omega
end
mutual
theorem okE_eqv : ∀ (n k : Nat) (d e : Dt), okE n d = true → okE k e = true → (PyData.eqv (toP d) (toP e) = true ↔ d = e)
  | n, k, .none, e, _, h2 => by cases e <;> cases k <;> simp_all [okE, toP, PyData.eqv]
  | n, k, .int i, e, _, h2 => by cases e <;> cases k <;> simp_all [okE, toP, PyData.eqv]
  | n, k, .str x, e, _, h2 => by cases e <;> cases k <;> simp_all [okE, toP, PyData.eqv]
  | n, k, .bool b, e, h, _ => by cases n <;> simp [okE] at h
  | 0, k, .tup ds, e, h, _ => by simp [okE] at h
  | 0, k, .lst ds, e, h, _ => by simp [okE] at h
  | n + 1, k, .tup ds, e, h1, h2 => by
    cases e with
    | tup es =>
      cases k with
      | zero => simp [okE] at h2
      | succ k =>
        simp only [toP, PyData.eqv, Dt.tup.injEq]
        exact okEs_eqv n k ds es (by simpa [okE] using h1) (by simpa [okE] using h2)
    | _ => cases k <;> simp_all [okE, toP, PyData.eqv]
  | n + 1, k, .lst ds, e, h1, h2 => by
    cases e with
    | lst es =>
      cases k with
      | zero => simp [okE] at h2
      | succ k =>
        simp only [toP, PyData.eqv, Dt.lst.injEq]
        exact okEs_eqv n k ds es (by simpa [okE] using h1) (by simpa [okE] using h2)
    | _ => cases k <;> simp_all [okE, toP, PyData.eqv]
theorem okEs_eqv : ∀ (n k : Nat) (ds es : List Dt), okEs n ds = true → okEs k es = true → (PyData.eqvAll (toPs ds) (toPs es) = true ↔ ds = es)
  | n, k, [], es, _, _ => by cases es <;> simp [toPs, PyData.eqvAll]
  | n, k, d :: ds, [], _, _ => by simp [toPs, PyData.eqvAll]
  | n, k, d :: ds, e :: es, h1, h2 => by
    simp only [okEs, Bool.and_eq_true] at h1 h2
    have q1 := okE_eqv n k d e h1.1 h2.1
    have q2 := okEs_eqv n k ds es h1.2 h2.2
    simp only [toPs, PyData.eqvAll, Bool.and_eq_true, q1, q2, List.cons.injEq]
end

section
variable {prog : Program} {w : World} {A : Around} {E : Value → Shared → Prop} {s : Shared} {O : Addr → Prop} {a b : Value} {d e : Dt} {n k : Nat} {Q : Value → Shared → Prop}
theorem shaped_of (h : okE n d = true) (hn : n ≤ 12) : SeqAt.shaped (toP d) = true := by
  have l := okE_lay n d h
  unfold SeqAt.shaped; rw [l.1, Bool.true_and]; exact decide_eq_true (Nat.le_trans l.2 (Nat.le_trans hn (by decide)))
theorem eqv_bool (h1 : okE n d = true) (h2 : okE k e = true) {c : Bool} (hc : c = true ↔ d = e) : PyData.eqv (toP d) (toP e) = c := by
  have q := okE_eqv n k d e h1 h2
  cases c with
  | true => exact q.mpr (hc.mp rfl)
  | false => exact Bool.eq_false_iff.mpr fun x => Bool.false_ne_true (hc.mpr (q.mp x))
theorem eq_den (x : Den s.heap O a d) (y : Den s.heap O b e) (h1 : okE n d = true) (h2 : okE k e = true) (hn : n ≤ 12) (hk : k ≤ 12) (hu : A.units + 64 < cLine) {c : Bool} (hc : c = true ↔ d = e)
    (h : Q (.bool c) s) : wpAny (model prog w) A (compareOp .Eq a b) Q E s := by
  obtain ⟨as, ra⟩ := x.reads
  obtain ⟨bs, rb⟩ := y.reads
  exact eq_dataH ra rb (shaped_of h1 hn) (shaped_of h2 hk) hu (by rw [eqv_bool h1 h2 hc]; exact h)
theorem ne_den (x : Den s.heap O a d) (y : Den s.heap O b e) (h1 : okE n d = true) (h2 : okE k e = true) (hn : n ≤ 12) (hk : k ≤ 12) (hu : A.units + 64 < cLine) {c : Bool} (hc : c = true ↔ d = e)
    (h : Q (.bool (!c)) s) : wpAny (model prog w) A (compareOp .NotEq a b) Q E s := by
  obtain ⟨as, ra⟩ := x.reads
  obtain ⟨bs, rb⟩ := y.reads
  exact ne_dataH ra rb (shaped_of h1 hn) (shaped_of h2 hk) hu (by rw [eqv_bool h1 h2 hc]; exact h)
end
end Mine
end
section
open PySem PySem.W PyProof.Rows PySem.Calls PySem.Spec
set_option Elab.async false
set_option maxRecDepth 100000
namespace Mine

/-- the world behind the top -/
structure Wd where
  prog : Program
  w : World
  p : Program
  loose : List Str
  mean : ExcName → Option Value
  mg : Str → Option Value
  mb : Str → Option Value
  hb : Heap
  top : Top p loose mean mg mb hb
  tree : prog.given.tree = none
  seer : hb.NoSeer

/-- the heap at hand: the top's heap is kept; O are the addresses that may change, alive and not the top's -/
structure Gd (W : Wd) (h : Heap) (O : Addr → Prop) : Prop where
  sub : Sub W.hb h
  off : ∀ a, O a → W.hb.get? a = none
  live : ∀ a, O a → ∃ o, h.get? a = some o
theorem Gd.mono {W : Wd} {h h' : Heap} {O : Addr → Prop} (g : Gd W h O) (k : Sub h h') : Gd W h' O :=
  ⟨g.sub.trans k, g.off, fun a x => let ⟨o, e⟩ := g.live a x; ⟨o, k a o e⟩⟩
theorem Den.base {W : Wd} {h : Heap} {O : Addr → Prop} {v : Value} {d : Dt} (g : Gd W h O) (x : Den W.hb (fun _ => False) v d) : Den h O v d :=
  x.move fun b o _ e => ⟨g.sub b o e, fun q => by rw [g.off b q] at e; cases e⟩

/-- room for n more frames -/
structure Rm (A : Around) (n : Nat) : Prop where
  depth : A.depth + n + 100 < recursionLimit
  units : A.units + 8 * n + 200 < cLine
  hand : A.handled = none
  frames : ∃ l, A.frames = some l
theorem Rm.le {A : Around} {n m : Nat} (r : Rm A n) (h : m ≤ n) : Rm A m := ⟨by have := r.depth; omega, by have := r.units; omega, r.hand, r.frames⟩
theorem Rm.deeper {A : Around} {n : Nat} (r : Rm A (n + 1)) (env : Env) : Rm (A.deeper env) n :=
  ⟨by have := r.depth; show A.depth + 1 + n + 100 < _; omega, by have := r.units; show A.units + 3 + 8 * n + 200 < _; omega, r.hand, by obtain ⟨l, e⟩ := r.frames; exact ⟨env :: l, by show A.frames.map _ = _; rw [e]; rfl⟩⟩
theorem Rm.in1 {A : Around} {n : Nat} (r : Rm A (n + 1)) : Rm A.in1 n := ⟨by have := r.depth; show A.depth + n + 100 < _; omega, by have := r.units; show A.units + 1 + 8 * n + 200 < _; omega, r.hand, r.frames⟩

inductive LV where
  | un
  | fz (d : Dt)
  | ow (plain : Bool) (ds : List Dt)

inductive At : List Str → List LV → Str → LV → Prop
  | head {x ns l σ} : At (x :: ns) (l :: σ) x l
  | tail {y x ns l l' σ} : At ns σ x l → At (y :: ns) (l' :: σ) x l
inductive Put : List Str → List LV → Str → LV → List LV → Prop
  | head {x ns l l' σ} : Put (x :: ns) (l' :: σ) x l (l :: σ)
  | tail {y x ns l l' σ σ'} : Put ns σ x l σ' → Put (y :: ns) (l' :: σ) x l (l' :: σ')

/-- the place of a def's body: the world, the names' environment, what is around, the names -/
structure Fx where
  W : Wd
  env : Env
  A : Around
  ns : List Str
  n : Nat

noncomputable abbrev Fx.M (F : Fx) : Model := model F.W.prog F.W.w

structure Fx.Ok (F : Fx) : Prop where
  kind : F.env.scope.kind = .function
  glob : F.env.globals = mainGlobals
  buil : F.env.builtins = builtinsNs
  room : Rm F.A F.n
  frames : ∃ l env', F.A.frames = some (env' :: l) ∧ env'.scope.isGenerator = false ∧ env'.scope.isCoroutine = false ∧ env'.builtins = builtinsNs ∧ env'.globals = mainGlobals
  nodup : F.ns.Nodup

noncomputable def Rd (F : Fx) (h : Heap) (x : Str) (v : Value) : Prop :=
  ∀ (A : Around) (s : Shared) (pos : Pos) (Q : Value → Shared → Prop) (E : Value → Shared → Prop), Sub h s.heap → Q v s → wpAny F.M A (eval (.Name x pos) F.env) Q E s

noncomputable def Has (h : Heap) (O : Addr → Prop) : LV → Value → Prop
  | .un, _ => True
  | .fz d, v => Den h O v d
  | .ow pl ds, v => ∃ a vs, v = .ref a ∧ (if pl then h.PlainList a vs.toArray else h.IsList a vs.toArray) ∧ DenAll h O vs ds
theorem Has.mono {h h' : Heap} {O : Addr → Prop} {l : LV} {v : Value} (x : Has h O l v) (k : Sub h h') : Has h' O l v := by
  cases l with
  | un => trivial
  | fz d => exact Den.mono x k
  | ow pl ds =>
    obtain ⟨a, vs, e, q, r⟩ := x
    refine ⟨a, vs, e, ?_, r.mono k⟩
    cases pl with
    | true => exact Heap.PlainList.at q fun o e => k a o e
    | false => exact isList_sub q fun o e => k a o e
theorem Has.isList {h : Heap} {O : Addr → Prop} {pl : Bool} {ds : List Dt} {v : Value} (x : Has h O (.ow pl ds) v) : ∃ a vs, v = .ref a ∧ h.IsList a vs.toArray ∧ DenAll h O vs ds := by
  obtain ⟨a, vs, e, q, r⟩ := x
  cases pl with
  | true => exact ⟨a, vs, e, Heap.PlainList.isList q, r⟩
  | false => exact ⟨a, vs, e, q, r⟩

/-- what is known of the names -/
noncomputable def Vs (F : Fx) (O : Addr → Prop) (σ : List LV) (c : Str → Value) (h : Heap) : Prop :=
  ∀ x l, At F.ns σ x l → l ≠ .un → Rd F h x (c x) ∧ Has h O l (c x)
theorem Vs.mono {F : Fx} {O : Addr → Prop} {σ : List LV} {c : Str → Value} {h h' : Heap} (x : Vs F O σ c h) (k : Sub h h') : Vs F O σ c h' :=
  fun y l a n => ⟨fun A s pos Q E k' q => (x y l a n).1 A s pos Q E (k.trans k') q, (x y l a n).2.mono k⟩

/-- an expression yields d and only makes new objects -/
noncomputable def Ev (F : Fx) (σ : List LV) (e : Expr) (d : Dt) : Prop :=
  ∀ (O : Addr → Prop) (c : Str → Value) (s : Shared) (Q : Value → Shared → Prop), Gd F.W s.heap O → Vs F O σ c s.heap →
    (∀ v h' tk, Sub s.heap h' → Den h' O v d → Q v { s with heap := h', toks := tk }) → wpAny F.M F.A (eval e F.env) Q (fun _ _ => False) s
/-- a test -/
noncomputable def EvT (F : Fx) (σ : List LV) (e : Expr) (b : Bool) : Prop :=
  ∀ (O : Addr → Prop) (c : Str → Value) (s : Shared) (Q : Bool → Shared → Prop), Gd F.W s.heap O → Vs F O σ c s.heap →
    (∀ h' tk, Sub s.heap h' → Q b { s with heap := h', toks := tk }) → wpAny F.M F.A (isTrue e F.env (eval e F.env)) Q (fun _ _ => False) s
/-- a new list -/
noncomputable def EvN (F : Fx) (σ : List LV) (e : Expr) (pl : Bool) (ds : List Dt) : Prop :=
  ∀ (O : Addr → Prop) (c : Str → Value) (s : Shared) (Q : Value → Shared → Prop), Gd F.W s.heap O → Vs F O σ c s.heap →
    (∀ a vs h' tk, Sub s.heap h' → s.heap.get? a = none → (if pl then h'.PlainList a vs.toArray else h'.IsList a vs.toArray) → DenAll h' (fun b => O b ∨ b = a) vs ds → Q (.ref a) { s with heap := h', toks := tk }) →
    wpAny F.M F.A (eval e F.env) Q (fun _ _ => False) s
noncomputable def EvL (F : Fx) (σ : List LV) (es : List Expr) (ds : List Dt) : Prop :=
  ∀ (pos : Pos) (O : Addr → Prop) (c : Str → Value) (s : Shared) (Q : List Value → Shared → Prop), Gd F.W s.heap O → Vs F O σ c s.heap →
    (∀ vs h' tk, Sub s.heap h' → DenAll h' O vs ds → Q vs { s with heap := h', toks := tk }) → wpAny F.M F.A (spliced (backTo pos (starEach es F.env))) Q (fun _ _ => False) s

section
variable {F : Fx} {σ : List LV}

theorem EvN.plain {e : Expr} {ds : List Dt} (h : EvN F σ e true ds) : EvN F σ e false ds :=
  fun O c s Q g v k => h O c s Q g v fun a vs h' tk u n p r => k a vs h' tk u n (Heap.PlainList.isList p) r
theorem EvN.ev {e : Expr} {pl : Bool} {ds : List Dt} (h : EvN F σ e pl ds) : Ev F σ e (.lst ds) := by
  intro O c s Q g v k
  refine h O c s Q g v fun a vs h' tk u n p r => k _ h' tk u ?_
  have hl : h'.IsList a vs.toArray := by
    cases pl with
    | true => exact Heap.PlainList.isList p
    | false => exact p
  refine .lst hl (fun q => ?_) (r.move fun b o nb e => ⟨e, fun q => nb (.inl q)⟩)
  obtain ⟨o, e⟩ := g.live a q
  rw [n] at e; cases e

theorem Ev.int {i : Int} {k : Nat} {pos : Pos} : Ev F σ (.Constant (.int i) k pos) (.int i) :=
  fun _ _ s _ _ _ q => wpAny_Constant_int (q _ s.heap _ Sub.rfl (.int _ _))
theorem Ev.noneC {k : Nat} {pos : Pos} : Ev F σ (.Constant .none k pos) .none :=
  fun _ _ s _ _ _ q => wpAny_Constant_none (q _ s.heap s.toks Sub.rfl .none)
theorem Ev.boolC {b : Bool} {k : Nat} {pos : Pos} : Ev F σ (.Constant (.bool b) k pos) (.bool b) :=
  fun _ _ s _ _ _ q => wpAny_Constant_bool (q _ s.heap s.toks Sub.rfl (.bool b))
theorem Ev.var {x : Str} {d : Dt} {pos : Pos} (h : At F.ns σ x (.fz d)) : Ev F σ (.Name x pos) d :=
  fun _ _ s _ _ v q => (v x _ h (fun e => by cases e)).1 _ s pos _ _ Sub.rfl (q _ s.heap s.toks Sub.rfl (v x _ h (fun e => by cases e)).2)

theorem rd_glob {x : Str} {v : Value} {h : Heap} (K : F.Ok) (hx : F.env.kindOf x = some .globalImplicit) (hv : F.W.mg x = some v) (hd : (x == ("__debug__" : Str)) = false) (g : Sub F.W.hb h) : Rd F h x v :=
  fun _ _ _ _ _ k q => Name_function_global K.kind hx (loadGlobal_global (by rw [K.glob]; exact F.W.top.g.keeps (g.trans k)) hv q) hd
theorem rd_buil {x : Str} {v : Value} {h : Heap} (K : F.Ok) (hx : F.env.kindOf x = some .globalImplicit) (hv : F.W.mg x = none) (hb : bootBuiltins x = some v) (hn : x ≠ "__name__") (hd : (x == ("__debug__" : Str)) = false) (g : Sub F.W.hb h) : Rd F h x v :=
  fun _ _ _ _ _ k q => Name_function_global K.kind hx (loadGlobal_builtin (by rw [K.glob]; exact F.W.top.g.keeps (g.trans k)) hv (by rw [K.buil]; exact F.W.top.b.keeps (g.trans k)) ((F.W.top.builtins x hn).trans hb) q) hd

theorem Ev.glob {x : Str} {v : Value} {d : Dt} {pos : Pos} (K : F.Ok) (hv : F.W.mg x = some v) (hd : Den F.W.hb (fun _ => False) v d) (hx : F.env.kindOf x = some .globalImplicit := by rfl)
    (hdb : (x == ("__debug__" : Str)) = false := by decide) : Ev F σ (.Name x pos) d :=
  fun _ _ s _ g _ q => rd_glob K hx hv hdb g.sub _ s pos _ _ Sub.rfl (q _ s.heap s.toks Sub.rfl (hd.base g))

/-! ints -/
noncomputable def binI : Operator → Int → Int → Option Int
  | .Add, a, b => some (a + b)
  | .Sub, a, b => some (a - b)
  | _, _, _ => none
theorem Ev.add {l r : Expr} {a b : Int} {pos : Pos} (hl : Ev F σ l (.int a)) (hr : Ev F σ r (.int b)) : Ev F σ (.BinOp l .Add r pos) (.int (a + b)) := by
  intro O c s Q g v q
  refine wpAny_BinOp (hl O c s _ g v fun x h₁ t₁ k₁ d₁ => hr O c _ _ (g.mono k₁) (v.mono k₁) fun y h₂ t₂ k₂ d₂ => ?_)
  cases d₁; cases d₂
  exact P.add_int (q _ h₂ _ (k₁.trans k₂) (.int _ _))
theorem Ev.sub {l r : Expr} {a b : Int} {pos : Pos} (hl : Ev F σ l (.int a)) (hr : Ev F σ r (.int b)) : Ev F σ (.BinOp l .Sub r pos) (.int (a - b)) := by
  intro O c s Q g v q
  refine wpAny_BinOp (hl O c s _ g v fun x h₁ t₁ k₁ d₁ => hr O c _ _ (g.mono k₁) (v.mono k₁) fun y h₂ t₂ k₂ d₂ => ?_)
  cases d₁; cases d₂
  exact P.sub_int (q _ h₂ _ (k₁.trans k₂) (.int _ _))
theorem Ev.mul {l r : Expr} {a b : Int} {pos : Pos} (hl : Ev F σ l (.int a)) (hr : Ev F σ r (.int b)) (hm : IntMulOk a b) : Ev F σ (.BinOp l .Mult r pos) (.int (a * b)) := by
  intro O c s Q g v q
  refine wpAny_BinOp (hl O c s _ g v fun x h₁ t₁ k₁ d₁ => hr O c _ _ (g.mono k₁) (v.mono k₁) fun y h₂ t₂ k₂ d₂ => ?_)
  cases d₁; cases d₂
  exact P.mul_int (q _ h₂ _ (k₁.trans k₂) (.int _ _)) hm
theorem Ev.mod {l r : Expr} {a b : Int} {pos : Pos} (hl : Ev F σ l (.int a)) (hr : Ev F σ r (.int b)) (hb : b ≠ 0) : Ev F σ (.BinOp l .Mod r pos) (.int (a.fmod b)) := by
  intro O c s Q g v q
  refine wpAny_BinOp (hl O c s _ g v fun x h₁ t₁ k₁ d₁ => hr O c _ _ (g.mono k₁) (v.mono k₁) fun y h₂ t₂ k₂ d₂ => ?_)
  cases d₁; cases d₂
  exact mod_int' hb (q _ h₂ _ (k₁.trans k₂) (.int _ _))
theorem pylong {s : Shared} {O : Addr → Prop} (K : F.Ok) (g : Gd F.W s.heap O) : PylongRoom F.M F.A s := by
  obtain ⟨l, env', e, h1, h2, h3, h4⟩ := K.frames
  refine PylongRoom.of (F.W.top.nolimit.keeps g.sub) ?_ (SeerAt.of (F.W.seer.keeps g.sub) F.W.tree e h1 h2 h3 h4)
  have := K.room.depth
  show _ + 30 < _
  omega
theorem Ev.fdiv {l r : Expr} {a b : Int} {pos : Pos} (K : F.Ok) (hl : Ev F σ l (.int a)) (hr : Ev F σ r (.int b)) (hb : b ≠ 0) : Ev F σ (.BinOp l .FloorDiv r pos) (.int (a.fdiv b)) := by
  intro O c s Q g v q
  refine wpAny_BinOp (hl O c s _ g v fun x h₁ t₁ k₁ d₁ => hr O c _ _ (g.mono k₁) (v.mono k₁) fun y h₂ t₂ k₂ d₂ => ?_)
  cases d₁; cases d₂
  exact floordiv_int hb (q _ h₂ _ (k₁.trans k₂) (.int _ _)) (.inr (pylong K (g.mono (k₁.trans k₂))))

noncomputable def cmpI : CmpOp → Int → Int → Option Bool
  | .Lt, a, b => some (decide (a < b))
  | .LtE, a, b => some (decide (a ≤ b))
  | .Gt, a, b => some (decide (a > b))
  | .GtE, a, b => some (decide (a ≥ b))
  | .Eq, a, b => some (a == b)
  | .NotEq, a, b => some (a != b)
  | _, _, _ => none
theorem cmpI_wp {prog : Program} {w : World} {A : Around} {E : Value → Shared → Prop} {s : Shared} {op : CmpOp} {a b : Int} {t u : Tok} {c : Bool} {Q : Value → Shared → Prop} (h : cmpI op a b = some c) (q : Q (.bool c) s) :
    wpAny (model prog w) A (compareOp op (.int a t) (.int b u)) Q E s := by
  cases op <;> simp [cmpI] at h <;> subst h
  · exact P.eq_int q
  · exact P.ne_int q
  · exact P.lt_int q
  · exact P.le_int q
  · exact P.gt_int q
  · exact P.ge_int q
theorem Ev.cmp {op : CmpOp} {l r : Expr} {a b : Int} {pos : Pos} {x : Bool} (hl : Ev F σ l (.int a)) (hr : Ev F σ r (.int b)) (hc : cmpI op a b = some x) (hm : behindInMarks op r = false := by with_unfolding_all rfl) :
    Ev F σ (.Compare l [op] [r] pos) (.bool x) := by
  intro O c s Q g v q
  refine wpAny_Compare1 (hl O c s _ g v fun x h₁ t₁ k₁ d₁ => hr O c _ _ (g.mono k₁) (v.mono k₁) fun y h₂ t₂ k₂ d₂ => ?_) hm
  cases d₁; cases d₂
  exact cmpI_wp hc (q _ h₂ _ (k₁.trans k₂) (.bool _))
theorem EvT.cmp {op : CmpOp} {l r : Expr} {a b : Int} {pos : Pos} {x : Bool} (hl : Ev F σ l (.int a)) (hr : Ev F σ r (.int b)) (hc : cmpI op a b = some x) (hm : behindInMarks op r = false := by with_unfolding_all rfl) :
    EvT F σ (.Compare l [op] [r] pos) x := by
  intro O c s Q g v q
  refine wpAny_isTrue_Compare1 (hl O c s _ g v fun x h₁ t₁ k₁ d₁ => hr O c _ _ (g.mono k₁) (v.mono k₁) fun y h₂ t₂ k₂ d₂ => ?_) hm
  cases d₁; cases d₂
  exact cmpI_wp hc (wpAny_truthy_bool (q h₂ _ (k₁.trans k₂)))
theorem EvT.eq {l r : Expr} {a b : Dt} {pos : Pos} {x : Bool} {n k : Nat} (K : F.Ok) (hl : Ev F σ l a) (hr : Ev F σ r b) (h1 : okE n a = true) (h2 : okE k b = true) (hn : n ≤ 12) (hk : k ≤ 12) (hc : x = true ↔ a = b)
    (hm : behindInMarks .Eq r = false := by with_unfolding_all rfl) : EvT F σ (.Compare l [.Eq] [r] pos) x := by
  intro O c s Q g v q
  refine wpAny_isTrue_Compare1 (hl O c s _ g v fun x h₁ t₁ k₁ d₁ => hr O c _ _ (g.mono k₁) (v.mono k₁) fun y h₂ t₂ k₂ d₂ => ?_) hm
  exact eq_den (s := { s with heap := h₂, toks := t₂ }) (d₁.mono k₂) d₂ h1 h2 hn hk (by have := K.room.units; omega) hc (wpAny_truthy_bool (q h₂ t₂ (k₁.trans k₂)))
theorem Ev.eq {l r : Expr} {a b : Dt} {pos : Pos} {x : Bool} {n k : Nat} (K : F.Ok) (hl : Ev F σ l a) (hr : Ev F σ r b) (h1 : okE n a = true) (h2 : okE k b = true) (hn : n ≤ 12) (hk : k ≤ 12) (hc : x = true ↔ a = b)
    (hm : behindInMarks .Eq r = false := by with_unfolding_all rfl) : Ev F σ (.Compare l [.Eq] [r] pos) (.bool x) := by
  intro O c s Q g v q
  refine wpAny_Compare1 (hl O c s _ g v fun x h₁ t₁ k₁ d₁ => hr O c _ _ (g.mono k₁) (v.mono k₁) fun y h₂ t₂ k₂ d₂ => ?_) hm
  exact eq_den (s := { s with heap := h₂, toks := t₂ }) (d₁.mono k₂) d₂ h1 h2 hn hk (by have := K.room.units; omega) hc (q _ h₂ t₂ (k₁.trans k₂) (.bool _))
theorem EvT.ne {l r : Expr} {a b : Dt} {pos : Pos} {x : Bool} {n k : Nat} (K : F.Ok) (hl : Ev F σ l a) (hr : Ev F σ r b) (h1 : okE n a = true) (h2 : okE k b = true) (hn : n ≤ 12) (hk : k ≤ 12) (hc : x = true ↔ a = b)
    (hm : behindInMarks .NotEq r = false := by with_unfolding_all rfl) : EvT F σ (.Compare l [.NotEq] [r] pos) (!x) := by
  intro O c s Q g v q
  refine wpAny_isTrue_Compare1 (hl O c s _ g v fun x h₁ t₁ k₁ d₁ => hr O c _ _ (g.mono k₁) (v.mono k₁) fun y h₂ t₂ k₂ d₂ => ?_) hm
  exact ne_den (s := { s with heap := h₂, toks := t₂ }) (d₁.mono k₂) d₂ h1 h2 hn hk (by have := K.room.units; omega) hc (wpAny_truthy_bool (q h₂ t₂ (k₁.trans k₂)))
theorem Ev.isNone {l : Expr} {d : Dt} {k : Nat} {p pos : Pos} {x : Bool} (hl : Ev F σ l d) (hx : x = true ↔ d = .none) : Ev F σ (.Compare l [.Is] [.Constant .none k p] pos) (.bool x) := by
  intro O c s Q g v q
  refine wpAny_Compare1 (hl O c s _ g v fun y h₁ t₁ k₁ d₁ => wpAny_Constant_none (is_none ?_))
  have e : (y == Value.none) = x := by
    cases x with
    | true => cases hx.mp rfl; cases d₁; rfl
    | false =>
      have n : d ≠ .none := fun e => Bool.false_ne_true (hx.mpr e)
      cases d₁ <;> first | rfl | exact absurd rfl n
  rw [e]
  exact q _ h₁ t₁ k₁ (.bool x)
end
end Mine
end
section
open PySem PySem.W PyProof.Rows PySem.Calls PySem.Spec
set_option Elab.async false
set_option maxRecDepth 100000
set_option linter.unusedVariables false
namespace Mine
section
variable {F : Fx} {σ : List LV}

theorem Ev.conv {e : Expr} {d d' : Dt} (h : Ev F σ e d) (q : d = d') : Ev F σ e d' := q ▸ h
theorem EvT.conv {e : Expr} {b b' : Bool} (h : EvT F σ e b) (q : b = b') : EvT F σ e b' := q ▸ h
theorem EvN.conv {e : Expr} {pl : Bool} {d d' : List Dt} (h : EvN F σ e pl d) (q : d = d') : EvN F σ e pl d' := q ▸ h

theorem truthy_den {h : Heap} {O : Addr → Prop} {v : Value} {b : Bool} {M : Model} {A : Around} {E : Value → Shared → Prop} {s : Shared} {Q : Bool → Shared → Prop} (d : Den h O v (.bool b)) (q : Q b s) : wpAny M A (truthy v) Q E s := by
  cases d; exact wpAny_truthy_bool q

/-- a test by a bool's value -/
theorem EvT.val {e : Expr} {b : Bool} (h : Ev F σ e (.bool b)) (he : ∀ whole, isTrue e F.env whole = (do let v ← whole; standAt e.pos; holding [v] (truthy v)) := by intro _; rfl) : EvT F σ e b := by
  intro O c s Q g v q
  refine wpAny_isTrue_value (h O c s _ g v fun _ h₁ t₁ k₁ d₁ => truthy_den d₁ (q h₁ t₁ k₁)) (he _)
theorem EvT.not {e : Expr} {b : Bool} {pos : Pos} (h : EvT F σ e b) : EvT F σ (.UnaryOp .Not e pos) (!b) :=
  fun O c s _ g v q => wpAny_isTrue_Not (h O c s _ g v fun h₁ t₁ k₁ => q h₁ t₁ k₁)
theorem Ev.not {e : Expr} {b : Bool} {pos : Pos} (h : Ev F σ e (.bool b)) : Ev F σ (.UnaryOp .Not e pos) (.bool (!b)) :=
  fun O c s _ g v q => wpAny_UnaryOp (h O c s _ g v fun x h₁ t₁ k₁ d₁ => not_value (truthy_den d₁ (q _ h₁ t₁ k₁ (.bool _))))
theorem Ev.neg {e : Expr} {a : Int} {pos : Pos} (h : Ev F σ e (.int a)) : Ev F σ (.UnaryOp .USub e pos) (.int (-a)) := by
  intro O c s _ g v q
  refine wpAny_UnaryOp (h O c s _ g v fun x h₁ t₁ k₁ d₁ => ?_)
  cases d₁
  exact P.neg_int (q _ h₁ _ k₁ (.int _ _))
theorem EvT.boolop {op : BoolOp} {es : List Expr} {pos : Pos} {b : Bool}
    (h : ∀ (O : Addr → Prop) (c : Str → Value) (s : Shared) (Q : Bool → Shared → Prop), Gd F.W s.heap O → Vs F O σ c s.heap → (∀ h' tk, Sub s.heap h' → Q b { s with heap := h', toks := tk }) → wpAny F.M F.A (allTrue op es F.env) Q (fun _ _ => False) s) :
    EvT F σ (.BoolOp op es pos) b := fun O c s Q g v q => wpAny_isTrue_BoolOp (h O c s Q g v q)
noncomputable def EvA (F : Fx) (σ : List LV) (op : BoolOp) (es : List Expr) (b : Bool) : Prop :=
  ∀ (O : Addr → Prop) (c : Str → Value) (s : Shared) (Q : Bool → Shared → Prop), Gd F.W s.heap O → Vs F O σ c s.heap → (∀ h' tk, Sub s.heap h' → Q b { s with heap := h', toks := tk }) → wpAny F.M F.A (allTrue op es F.env) Q (fun _ _ => False) s
theorem EvT.op {op : BoolOp} {es : List Expr} {pos : Pos} {b : Bool} (h : EvA F σ op es b) : EvT F σ (.BoolOp op es pos) b := EvT.boolop h
theorem EvA.andNil : EvA F σ .And [] true := fun _ _ s _ _ _ q => wpAny_allTrue_And_nil (q s.heap s.toks Sub.rfl)
theorem EvA.orNil : EvA F σ .Or [] false := fun _ _ s _ _ _ q => wpAny_allTrue_Or_nil (q s.heap s.toks Sub.rfl)
theorem EvA.and {e : Expr} {es : List Expr} {a b : Bool} (h : EvT F σ e a) (r : a = true → EvA F σ .And es b) : EvA F σ .And (e :: es) (a && b) := by
  intro O c s Q g v q
  refine wpAny_allTrue_And_cons (h O c s _ g v fun h₁ t₁ k₁ => ?_)
  cases a with
  | false => exact q h₁ t₁ k₁
  | true => exact r rfl O c _ _ (g.mono k₁) (v.mono k₁) fun h₂ t₂ k₂ => q h₂ t₂ (k₁.trans k₂)
theorem EvA.or {e : Expr} {es : List Expr} {a b : Bool} (h : EvT F σ e a) (r : a = false → EvA F σ .Or es b) : EvA F σ .Or (e :: es) (a || b) := by
  intro O c s Q g v q
  refine wpAny_allTrue_Or_cons (h O c s _ g v fun h₁ t₁ k₁ => ?_)
  cases a with
  | true => exact q h₁ t₁ k₁
  | false => exact r rfl O c _ _ (g.mono k₁) (v.mono k₁) fun h₂ t₂ k₂ => q h₂ t₂ (k₁.trans k₂)
theorem Ev.and2 {x y : Expr} {a b : Bool} {pos : Pos} (hx : Ev F σ x (.bool a)) (hy : a = true → Ev F σ y (.bool b)) : Ev F σ (.BoolOp .And [x, y] pos) (.bool (a && b)) := by
  intro O c s Q g v q
  refine wpAny_And2 (hx O c s _ g v fun z h₁ t₁ k₁ d₁ => truthy_den d₁ ?_)
  cases a with
  | false => exact q _ h₁ t₁ k₁ d₁
  | true => exact hy rfl O c _ _ (g.mono k₁) (v.mono k₁) fun u h₂ t₂ k₂ d₂ => q u h₂ t₂ (k₁.trans k₂) d₂
theorem Ev.or2 {x y : Expr} {a b : Bool} {pos : Pos} (hx : Ev F σ x (.bool a)) (hy : a = false → Ev F σ y (.bool b)) : Ev F σ (.BoolOp .Or [x, y] pos) (.bool (a || b)) := by
  intro O c s Q g v q
  refine wpAny_Or2 (hx O c s _ g v fun z h₁ t₁ k₁ d₁ => truthy_den d₁ ?_)
  cases a with
  | true => exact q _ h₁ t₁ k₁ d₁
  | false => exact hy rfl O c _ _ (g.mono k₁) (v.mono k₁) fun u h₂ t₂ k₂ d₂ => q u h₂ t₂ (k₁.trans k₂) d₂
theorem Ev.ifexp {t x y : Expr} {b : Bool} {d : Dt} {pos : Pos} (ht : EvT F σ t b) (hx : b = true → Ev F σ x d) (hy : b = false → Ev F σ y d) : Ev F σ (.IfExp t x y pos) d := by
  intro O c s Q g v q
  refine wpAny_IfExp (ht O c s _ g v fun h₁ t₁ k₁ => ?_)
  cases b with
  | true => exact hx rfl O c _ _ (g.mono k₁) (v.mono k₁) fun u h₂ t₂ k₂ d₂ => q u h₂ t₂ (k₁.trans k₂) d₂
  | false => exact hy rfl O c _ _ (g.mono k₁) (v.mono k₁) fun u h₂ t₂ k₂ d₂ => q u h₂ t₂ (k₁.trans k₂) d₂

/-! displays -/
theorem EvL.nil : EvL F σ [] [] := fun _ _ _ s _ _ _ q => wpAny_items_nil (q [] s.heap s.toks Sub.rfl .nil)
theorem EvL.cons {e : Expr} {es : List Expr} {d : Dt} {ds : List Dt} (h : Ev F σ e d) (r : EvL F σ es ds) (he : ∀ env, starEach (e :: es) env = (false, eval e env) :: starEach es env := by intro _; rfl) : EvL F σ (e :: es) (d :: ds) := by
  intro pos O c s Q g v q
  exact wpAny_items_cons (h O c s _ g v fun x h₁ t₁ k₁ d₁ => r pos O c _ _ (g.mono k₁) (v.mono k₁) fun xs h₂ t₂ k₂ d₂ => q (x :: xs) h₂ t₂ (k₁.trans k₂) (.cons (d₁.mono k₂) d₂)) (he _)
theorem fresh_not {h : Heap} {O : Addr → Prop} {W : Wd} (g : Gd W h O) : ¬ O h.objs.size := fun q => by
  obtain ⟨o, e⟩ := g.live _ q
  exact Nat.lt_irrefl _ (Heap.lt_size e)
theorem get_size_none (h : Heap) : h.get? h.objs.size = none := by
  cases e : h.get? h.objs.size with
  | none => rfl
  | some o => exact absurd (Heap.lt_size e) (Nat.lt_irrefl _)
theorem Ev.tuple {es : List Expr} {ds : List Dt} {k : Nat} {pos : Pos} (h : EvL F σ es ds) (hn : ds.length ≤ sizeLine := by exact Nat.le_of_ble_eq_true rfl) : Ev F σ (.Tuple es k pos) (.tup ds) := by
  intro O c s Q g v q
  refine wpAny_Tuple (h pos O c s _ g v fun vs h₁ t₁ k₁ d₁ => ⟨by rw [d₁.length]; exact hn, ?_⟩)
  refine q _ _ t₁ (k₁.trans (Sub.push _ _)) (.tup ⟨_, Heap.get?_push_size _ rfl, rfl, 0, rfl⟩ (fresh_not (g.mono k₁)) (d₁.mono (Sub.push _ _)))
theorem EvN.list {es : List Expr} {ds : List Dt} {pos : Pos} (h : EvL F σ es ds) (hn : ds.length ≤ sizeLine := by exact Nat.le_of_ble_eq_true rfl) : EvN F σ (.List es pos) true ds := by
  intro O c s Q g v q
  refine wpAny_List (h pos O c s _ g v fun vs h₁ t₁ k₁ d₁ => ⟨by rw [d₁.length]; exact hn, ?_⟩)
  have nn : s.heap.get? h₁.objs.size = none := by
    cases e : s.heap.get? h₁.objs.size with
    | none => rfl
    | some o => exact absurd (Heap.lt_size (k₁ _ _ e)) (Nat.lt_irrefl _)
  refine q h₁.objs.size vs _ t₁ (k₁.trans (Sub.push _ _)) nn ⟨0, Heap.get?_push_size _ rfl⟩ (d₁.move fun b o n e => ⟨Heap.get?_push_of_some _ e, fun z => ?_⟩)
  rcases z with z | z
  · exact n z
  · subst z; exact Nat.lt_irrefl _ (Heap.lt_size e)

theorem Den.tup_inv {h : Heap} {O : Addr → Prop} {v : Value} {ds : List Dt} (x : Den h O v (.tup ds)) : ∃ a vs, v = .ref a ∧ IsTup h a vs.toArray ∧ ¬ O a ∧ DenAll h O vs ds := by
  cases x with | tup p n r => exact ⟨_, _, rfl, p, n, r⟩
theorem Den.lst_inv {h : Heap} {O : Addr → Prop} {v : Value} {ds : List Dt} (x : Den h O v (.lst ds)) : ∃ a vs, v = .ref a ∧ h.IsList a vs.toArray ∧ ¬ O a ∧ DenAll h O vs ds := by
  cases x with | lst p n r => exact ⟨_, _, rfl, p, n, r⟩

/-! items -/
noncomputable def Idx (e : Expr) : Prop := ∀ o i, subscripted e false o i = operate [o, i] (getItem o i)
theorem idx_wp {prog : Program} {w : World} {A : Around} {E : Value → Shared → Prop} {s : Shared} {l i : Expr} {a : Addr} {vs : List Value} {k : Int} {u : Tok} {x : Value} {Q : Value → Shared → Prop} (hi : Idx i) (hl : s.heap.IsList a vs.toArray) (h0 : 0 ≤ k) (h1 : k < 2 ^ 63) (hx : vs[k.toNat]? = some x) (q : Q x s) :
    wpAny (model prog w) A (subscriptTail l i (.ref a) (.int k u)) Q E s :=
  tail_any hl.typeIs slot_list_getitem.lookup (wpAny_getItem_list hl h0 h1 (by simpa using hx) q) (hi _ _)
theorem Ev.idx {l i : Expr} {ds : List Dt} {d : Dt} {k : Int} {pos : Pos} (hl : Ev F σ l (.lst ds)) (hi : Ev F σ i (.int k)) (h0 : 0 ≤ k) (h1 : k < 2 ^ 63) (hd : ds[k.toNat]? = some d) (hs : Idx i := by intro _ _; with_unfolding_all rfl) : Ev F σ (.Subscript l i pos) d := by
  intro O c s Q g v q
  refine Subscript_ (hl O c s _ g v fun x h₁ t₁ k₁ d₁ => hi O c _ _ (g.mono k₁) (v.mono k₁) fun y h₂ t₂ k₂ d₂ => ?_)
  cases d₂
  obtain ⟨a, vs, rfl, p, _, r⟩ := (d₁.mono k₂).lst_inv
  obtain ⟨z, e, dz⟩ := r.get hd
  exact idx_wp hs p h0 h1 e (q z h₂ t₂ (k₁.trans k₂) dz)
theorem Ev.idxT {l i : Expr} {ds : List Dt} {d : Dt} {k : Int} {pos : Pos} (hl : Ev F σ l (.tup ds)) (hi : Ev F σ i (.int k)) (h0 : 0 ≤ k) (h1 : k < 2 ^ 63) (hd : ds[k.toNat]? = some d) (hs : Idx i := by intro _ _; with_unfolding_all rfl) : Ev F σ (.Subscript l i pos) d := by
  intro O c s Q g v q
  refine Subscript_ (hl O c s _ g v fun x h₁ t₁ k₁ d₁ => hi O c _ _ (g.mono k₁) (v.mono k₁) fun y h₂ t₂ k₂ d₂ => ?_)
  cases d₂
  obtain ⟨a, vs, rfl, p, _, r⟩ := (d₁.mono k₂).tup_inv
  obtain ⟨z, e, dz⟩ := r.get hd
  refine item_tupleT p (by omega) h1 (j := k.toNat) ?_ e (q z h₂ t₂ (k₁.trans k₂) dz) (hs _ _)
  have hlt : k.toNat < vs.length := (List.getElem?_eq_some_iff.mp e).1
  unfold seqIndex?
  have n0 : ¬ k < 0 := by omega
  have n1 : k < (vs.length : Int) := by omega
  simp only [n0, if_false, h0, n1, decide_true, Bool.and_self, if_true]
theorem Ev.idxO {x : Str} {p : Pos} {i : Expr} {pl : Bool} {ds : List Dt} {d : Dt} {k : Int} {pos : Pos} (hx : At F.ns σ x (.ow pl ds)) (hi : Ev F σ i (.int k)) (h0 : 0 ≤ k) (h1 : k < 2 ^ 63) (hd : ds[k.toNat]? = some d) (hs : Idx i := by intro _ _; with_unfolding_all rfl) : Ev F σ (.Subscript (.Name x p) i pos) d := by
  intro O c s Q g v q
  obtain ⟨rd, hh⟩ := v x _ hx (fun e => by cases e)
  obtain ⟨a, vs, ea, pa, r⟩ := hh.isList
  refine Subscript_ (rd _ s p _ _ Sub.rfl (hi O c _ _ g v fun y h₂ t₂ k₂ d₂ => ?_))
  cases d₂
  obtain ⟨z, e, dz⟩ := r.get hd
  rw [ea]
  exact idx_wp hs (isList_sub pa fun o e => k₂ a o e) h0 h1 e (q z h₂ t₂ k₂ (dz.mono k₂))

/-! calls -/
noncomputable def Bui (F : Fx) (x : Str) (v : Value) : Prop := F.env.kindOf x = some .globalImplicit ∧ F.W.mg x = none ∧ bootBuiltins x = some v ∧ x ≠ "__name__" ∧ (x == ("__debug__" : Str)) = false

theorem call_any {M : Model} {A : Around} {E : Value → Shared → Prop} {s : Shared} {env : Env} {x : Str} {p pos : Pos} {e : Expr} {es : List Expr} {Q : Value → Shared → Prop}
    (h : wpAny M A (eval (.Name x p) env) (fun f s₁ => wpAny M A (callWith pos f [] (backTo pos (starEach (e :: es) env)) []) Q E s₁) E s) : wpAny M A (eval (.Call (.Name x p) (e :: es) [] pos) env) Q E s :=
  Call_Name rfl h

noncomputable def NoStar (env : Env) : List Expr → Prop
  | [] => True
  | e :: es => starEach (e :: es) env = (false, eval e env) :: starEach es env ∧ NoStar env es
theorem noStar_any {env : Env} {pos : Pos} : ∀ {es : List Expr}, NoStar env es → ((backTo pos (starEach es env)).any (·.1)) = false
  | [], _ => rfl
  | e :: es, h => by
    rw [h.1]
    show (false || (backTo pos (starEach es env)).any (·.1)) = false
    rw [noStar_any h.2]; rfl

theorem callB {M : Model} {A : Around} {E : Value → Shared → Prop} {s : Shared} {env : Env} {pos : Pos} {id : String} {e : Expr} {es : List Expr} {Q : Value → Shared → Prop} (hs : NoStar env (e :: es))
    (h : wpAny M A (spliced (backTo pos (starEach (e :: es) env))) (fun vs s₁ => wpAny M A (call (.builtin id) vs) Q E s₁) E s) : wpAny M A (callWith pos (.builtin id) [] (backTo pos (starEach (e :: es) env)) []) Q E s := by
  refine callWith_builtin (noStar_any hs) ?_
  have h' := h
  rw [hs.1] at h' ⊢
  exact evalArgs_plain h'
theorem callT {M : Model} {A : Around} {E : Value → Shared → Prop} {s : Shared} {env : Env} {pos : Pos} {T : String} {e : Expr} {es : List Expr} {Q : Value → Shared → Prop} (hs : NoStar env (e :: es))
    (h : wpAny M A (spliced (backTo pos (starEach (e :: es) env))) (fun vs s₁ => wpAny M A (call (.type T) vs) Q E s₁) E s) : wpAny M A (callWith pos (.type T) [] (backTo pos (starEach (e :: es) env)) []) Q E s := by
  refine PyProof.Rows.callWith_type (noStar_any hs) ?_
  have h' := h
  rw [hs.1] at h' ⊢
  exact evalArgs_plain h'

theorem rd_bui {x : Str} {v : Value} {h : Heap} (K : F.Ok) (b : Bui F x v) (g : Sub F.W.hb h) : Rd F h x v := rd_buil K b.1 b.2.1 b.2.2.1 b.2.2.2.1 b.2.2.2.2 g

theorem Ev.len {e : Expr} {ds : List Dt} {p pos : Pos} (K : F.Ok) (b : Bui F "len" (.builtin "len")) (h : Ev F σ e (.lst ds)) (hn : ds.length < 2 ^ 62) (hs : NoStar F.env [e] := by exact ⟨rfl, trivial⟩) : Ev F σ (.Call (.Name "len" p) [e] [] pos) (.int ds.length) := by
  intro O c s Q g v q
  refine call_any (rd_bui K b g.sub _ s p _ _ Sub.rfl (callB hs (wpAny_items_cons (h O c s _ g v fun x h₁ t₁ k₁ d₁ => wpAny_items_nil ?_) hs.1)))
  obtain ⟨a, vs, rfl, l, _, r⟩ := d₁.lst_inv
  refine call_len_list (s := { s with heap := h₁, toks := t₁ }) l (by have := r.length; simp; omega) (q _ h₁ _ k₁ ?_)
  have e : (vs.toArray.size : Int) = ds.length := by rw [← r.length]; simp
  rw [e]; exact .int _ _
theorem Ev.lenO {x : Str} {px : Pos} {pl : Bool} {ds : List Dt} {p pos : Pos} (K : F.Ok) (b : Bui F "len" (.builtin "len")) (hx : At F.ns σ x (.ow pl ds)) (hn : ds.length < 2 ^ 62) : Ev F σ (.Call (.Name "len" p) [.Name x px] [] pos) (.int ds.length) := by
  intro O c s Q g v q
  obtain ⟨rd, hh⟩ := v x _ hx (fun e => by cases e)
  obtain ⟨a, vs, ea, l, r⟩ := hh.isList
  refine call_any (rd_bui K b g.sub _ s p _ _ Sub.rfl (callB ⟨rfl, trivial⟩ (wpAny_items_cons (rd _ s px _ _ Sub.rfl (wpAny_items_nil ?_)) rfl)))
  rw [ea]
  refine call_len_list l (by have := r.length; simp; omega) (q _ s.heap _ Sub.rfl ?_)
  have e : (vs.toArray.size : Int) = ds.length := by rw [← r.length]; simp
  rw [e]; exact .int _ _
theorem Ev.abs {e : Expr} {a : Int} {p pos : Pos} (K : F.Ok) (b : Bui F "abs" (.builtin "abs")) (h : Ev F σ e (.int a)) (hs : NoStar F.env [e] := by exact ⟨rfl, trivial⟩) : Ev F σ (.Call (.Name "abs" p) [e] [] pos) (.int (a.natAbs : Int)) := by
  intro O c s Q g v q
  refine call_any (rd_bui K b g.sub _ s p _ _ Sub.rfl (callB hs (wpAny_items_cons (h O c s _ g v fun x h₁ t₁ k₁ d₁ => wpAny_items_nil ?_) hs.1)))
  cases d₁
  refine call_abs_int fun u tk => ?_
  have e : (if a < 0 then -a else a) = (a.natAbs : Int) := by split <;> omega
  rw [e]; exact q _ h₁ tk k₁ (.int _ _)
theorem Ev.toInt {e : Expr} {a : Int} {p pos : Pos} (K : F.Ok) (b : Bui F "int" (.type "int")) (h : Ev F σ e (.int a)) (hs : NoStar F.env [e] := by exact ⟨rfl, trivial⟩) : Ev F σ (.Call (.Name "int" p) [e] [] pos) (.int a) := by
  intro O c s Q g v q
  refine call_any (rd_bui K b g.sub _ s p _ _ Sub.rfl (callT hs (wpAny_items_cons (h O c s _ g v fun x h₁ t₁ k₁ d₁ => wpAny_items_nil ?_) hs.1)))
  cases d₁
  exact call_int_int (q _ h₁ _ k₁ (.int _ _))
theorem EvN.listOf {e : Expr} {ds : List Dt} {p pos : Pos} (K : F.Ok) (b : Bui F "list" (.type "list")) (h : Ev F σ e (.lst ds)) (hn : ds.length ≤ sizeLine) (hs : NoStar F.env [e] := by exact ⟨rfl, trivial⟩) : EvN F σ (.Call (.Name "list" p) [e] [] pos) true ds := by
  intro O c s Q g v q
  refine call_any (rd_bui K b g.sub _ s p _ _ Sub.rfl (callT hs (wpAny_items_cons (h O c s _ g v fun x h₁ t₁ k₁ d₁ => wpAny_items_nil ?_) hs.1)))
  obtain ⟨a, vs, rfl, ⟨o, ho, hc, n, hd⟩, _, r⟩ := d₁.lst_inv
  refine call_list_seq (s := { s with heap := h₁, toks := t₁ }) a (.inl rfl) ho hc hd (fun h' c' k hD => ?_) (by have := r.length; simp; omega)
  have nn : s.heap.get? h₁.objs.size = none := by
    cases e : s.heap.get? h₁.objs.size with
    | none => rfl
    | some o => exact absurd (Heap.lt_size (k₁ _ _ e)) (Nat.lt_irrefl _)
  refine q h₁.objs.size vs h' t₁ (k₁.trans k) nn ⟨c', hD⟩ (r.move fun b o nb e => ⟨k b o e, fun z => ?_⟩)
  rcases z with z | z
  · exact nb z
  · subst z; exact Nat.lt_irrefl _ (Heap.lt_size e)
theorem Ev.min2 {e f : Expr} {a b : Int} {p pos : Pos} (K : F.Ok) (bb : Bui F "min" (.builtin "min")) (h : Ev F σ e (.int a)) (h' : Ev F σ f (.int b)) (hs : NoStar F.env [e, f] := by exact ⟨rfl, rfl, trivial⟩) : Ev F σ (.Call (.Name "min" p) [e, f] [] pos) (.int (min a b)) := by
  intro O c s Q g v q
  refine call_any (rd_bui K bb g.sub _ s p _ _ Sub.rfl (callB hs (wpAny_items_cons (h O c s _ g v fun x h₁ t₁ k₁ d₁ => wpAny_items_cons (h' O c _ _ (g.mono k₁) (v.mono k₁) fun y h₂ t₂ k₂ d₂ => wpAny_items_nil ?_) hs.2.1) hs.1)))
  cases d₁; cases d₂
  rename_i t u
  refine PySem.Flt.min_two_num K.room.hand (.int _ _) (.int _ _) fun h₃ tk k₃ => ?_
  have e : (if PySem.Flt.ltV (.int b u) (.int a t) = true then Value.int b u else Value.int a t) = .int (min a b) (if PySem.Flt.ltV (.int b u) (.int a t) = true then u else t) := by
    have hl : PySem.Flt.ltV (.int b u) (.int a t) = decide (b < a) := rfl
    rw [hl]
    by_cases hb : b < a
    · rw [decide_eq_true hb, if_pos rfl, if_pos rfl, show min a b = b by omega]
    · rw [decide_eq_false hb, if_neg (by simp), if_neg (by simp), show min a b = a by omega]
  rw [e]
  exact q _ h₃ tk ((k₁.trans k₂).trans k₃) (.int _ _)
end
end Mine
end
section
open PySem PySem.W PyProof.Rows PySem.Calls PySem.Spec
set_option Elab.async false
set_option maxRecDepth 100000
set_option linter.unusedVariables false
namespace Mine
section
variable {F : Fx} {σ : List LV}

theorem size_fresh {h h₁ : Heap} (k : Sub h h₁) : h.get? h₁.objs.size = none := by
  cases e : h.get? h₁.objs.size with
  | none => rfl
  | some o => exact absurd (Heap.lt_size (k _ _ e)) (Nat.lt_irrefl _)
theorem DenAll.pushed {h : Heap} {O : Addr → Prop} {vs : List Value} {ds : List Dt} {o : Obj} (r : DenAll h O vs ds) : DenAll (h.push o) (fun b => O b ∨ b = h.objs.size) vs ds :=
  r.move fun b o' nb e => ⟨Heap.get?_push_of_some _ e, fun z => z.elim nb fun z => by subst z; exact Nat.lt_irrefl _ (Heap.lt_size e)⟩

theorem EvN.addL {l r : Expr} {ds es : List Dt} {pos : Pos} (hl : Ev F σ l (.lst ds)) (hr : Ev F σ r (.lst es)) (hn : ds.length + es.length ≤ sizeLine) : EvN F σ (.BinOp l .Add r pos) true (ds ++ es) := by
  intro O c s Q g v q
  refine wpAny_BinOp (hl O c s _ g v fun x h₁ t₁ k₁ d₁ => hr O c _ _ (g.mono k₁) (v.mono k₁) fun y h₂ t₂ k₂ d₂ => ?_)
  obtain ⟨a, vs, rfl, ⟨⟨cls, dd, data, sl⟩, ho, hc, n, hd⟩, _, r1⟩ := (d₁.mono k₂).lst_inv
  obtain ⟨b, ws, rfl, ⟨⟨cls2, dd2, data2, sl2⟩, ho2, hc2, n2, hd2⟩, _, r2⟩ := d₂.lst_inv
  simp only at hc hd hc2 hd2
  subst hc hd hc2 hd2
  have e : vs.toArray ++ ws.toArray = (vs ++ ws).toArray := by simp
  refine concat_meets (s := { s with heap := h₂, toks := t₂ }) ⟨_, ho, rfl⟩ ⟨_, ho2, rfl⟩ noFill_list_add seq_list_add PySem.F.slot_list_add PySem.F.entry_list_add (PySem.F.args_list_add_2 _ _) (list_addW a b vs.toArray ws.toArray n n2 dd dd2 sl sl2 (by
    have := r1.length; have := r2.length; simp; omega)) ⟨ho, ho2, ?_⟩
  rw [e]
  exact q h₂.objs.size (vs ++ ws) _ t₂ ((k₁.trans k₂).trans (Sub.push _ _)) (size_fresh (k₁.trans k₂)) ⟨0, Heap.get?_push_size _ rfl⟩ (r1.append r2).pushed

theorem mul_wp {prog : Program} {w : World} {A : Around} {E : Value → Shared → Prop} {s : Shared} {l : Addr} {items : Array Value} {k : Nat} {x : Int} {u : Tok} {Q : Value → Shared → Prop}
    (hl : s.heap.get? l = some { cls := .type "list", dict := none, data := .seq items k, slots := #[] })
    (hc0 : ¬(!Builtin.List.listFitsIndex x) = true) (hc1 : ¬items.size * x.toNat > (2 ^ 63 - 1) / 8) (hc2 : ¬Builtin.List.listTooLong (items.size * x.toNat) = true)
    (h : Q (.ref s.heap.objs.size) { s with heap := s.heap.push { cls := .type "list", data := .seq (List.foldl (fun x1 x2 => x1 ++ x2) #[] (List.replicate (if items.isEmpty = true then 0 else x.toNat) items)) } }) :
    wpAny (model prog w) A (binaryOp .Mult (.ref l) (.int x u)) Q E s :=
  wpAny_binaryOp_repeat_ref (T := "list") (U := "int") (by decide) ⟨_, hl, rfl⟩ (fun s' => typeIs_int s' x u) noFill_list_mul PySem.F.fills_int_mul PySem.F.slot_int_rmul repeat_list PySem.F.slot_int_index.lookup
    (call_meets PySem.F.slot_int_rmul (typeIs_int s x u) PySem.F.entry_int_rmul (PySem.F.args_int_rmul_2 _ _) (int___rmul___int_list x u l items k)
      ⟨hl, rfl, ⟨_, hl, rfl⟩, call_meets PySem.F.slot_list_mul ⟨_, hl, rfl⟩ PySem.F.entry_list_mul (PySem.F.args_list_mul_2 _ _)
        (AutoListH.list___mul___list_int_3 l items k x u hc0 hc1 hc2)
        ⟨hl, h⟩⟩)

theorem EvN.mulL {l r : Expr} {d : Dt} {n : Nat} {pos : Pos} (hl : EvN F σ l true [d]) (hr : Ev F σ r (.int n)) (hn : n ≤ 2 ^ 24) : EvN F σ (.BinOp l .Mult r pos) true (List.replicate n d) := by
  intro O c s Q g v q
  refine wpAny_BinOp (hl O c s _ g v fun a vs h₁ t₁ k₁ nn p r1 => hr O c _ _ (g.mono k₁) (v.mono k₁) fun y h₂ t₂ k₂ d₂ => ?_)
  obtain ⟨n', p⟩ := p
  have p2 := k₂ _ _ p
  have r2 := r1.mono k₂
  cases d₂
  rename_i u
  cases r2 with
  | cons dv r3 =>
  cases r3
  rename_i x
  have hsz : [x].toArray.size * ((n : Int)).toNat = n := by simp
  have hf : ¬ (!Builtin.List.listFitsIndex (n : Int)) = true := by
    have h1 : n ≤ 16777216 := hn
    have : Builtin.List.listFitsIndex (n : Int) = true := by
      unfold Builtin.List.listFitsIndex
      rw [Bool.and_eq_true]
      exact ⟨decide_eq_true (by omega), decide_eq_true (by omega)⟩
    rw [this]; exact Bool.false_ne_true
  have hz1 : ¬ [x].toArray.size * ((n : Int)).toNat > (2 ^ 63 - 1) / 8 := by
    rw [hsz]; have h1 : n ≤ 16777216 := hn
    omega
  have hz2 : ¬ Builtin.List.listTooLong ([x].toArray.size * ((n : Int)).toNat) = true := by
    rw [hsz]
    have : Builtin.List.listTooLong n = false := decide_eq_false (Nat.not_lt.mpr (show n ≤ sizeLine from hn))
    rw [this]; exact Bool.false_ne_true
  refine mul_wp (s := { s with heap := h₂, toks := t₂ }) p2 hf hz1 hz2 ?_
  have e : (List.foldl (fun x1 x2 => x1 ++ x2) #[] (List.replicate (if (#[x] : Array Value).isEmpty = true then 0 else ((n : Int)).toNat) #[x]) : Array Value) = (List.replicate n x).toArray := by
    have gen : ∀ (k : Nat) (z : List Value), List.foldl (fun x1 x2 => x1 ++ x2) z.toArray (List.replicate k #[x]) = (z ++ List.replicate k x).toArray := by
      intro k
      induction k with
      | zero => intro z; simp
      | succ k ih =>
        intro z
        have := ih (z ++ [x])
        simp only [List.replicate_succ, List.foldl_cons]
        rw [show z.toArray ++ #[x] = (z ++ [x]).toArray by simp, this]
        simp
    have := gen n []
    simpa using this
  rw [show ([x].toArray : Array Value) = #[x] from rfl, e]
  exact q h₂.objs.size _ _ t₂ ((k₁.trans k₂).trans (Sub.push _ _)) (size_fresh (k₁.trans k₂)) ⟨0, Heap.get?_push_size _ rfl⟩
    (DenAll.pushed ((DenAll.replicate (dv.move fun b o nb e => ⟨e, fun z => nb (.inl z)⟩) n)))

/-! slices with whole, written or reckoned bounds -/
noncomputable def EvP (F : Fx) (σ : List LV) (e : Option Expr) (lo : Option Nat) : Prop := match e, lo with
  | none, none => True
  | some e, some n => Ev F σ e (.int n)
  | _, _ => False
noncomputable def cutL (lo hi : Option Nat) (n : Nat) (ds : List Dt) : List Dt := ((ds.take (hi.getD n)).drop (lo.getD 0))
theorem evP_wp {e : Option Expr} {lo : Option Nat} (h : EvP F σ e lo) (O : Addr → Prop) (c : Str → Value) (s : Shared) (Q : Value → Shared → Prop) (g : Gd F.W s.heap O) (v : Vs F O σ c s.heap)
    (q : ∀ x h' tk, Sub s.heap h' → IsPart x (lo.map Int.ofNat) → Q x { s with heap := h', toks := tk }) : wpAny F.M F.A (evalPart e F.env) Q (fun _ _ => False) s := by
  cases e with
  | none =>
    cases lo with
    | none => exact wpAny_evalPart_none (q _ s.heap s.toks Sub.rfl .none)
    | some n => exact h.elim
  | some e =>
    cases lo with
    | none => exact h.elim
    | some n =>
      refine wpAny_evalPart_some ((h : Ev F σ e (.int n)) O c s _ g v fun x h₁ t₁ k₁ d₁ => ?_)
      cases d₁
      exact q _ h₁ t₁ k₁ (.int _ _)
theorem slicePick_cut {vs : List Value} {lo hi : Option Nat} (h1 : hi.getD vs.length ≤ vs.length) (h2 : lo.getD 0 ≤ hi.getD vs.length) :
    slicePick vs.toArray (lo.map Int.ofNat) (hi.map Int.ofNat) none = ((vs.take (hi.getD vs.length)).drop (lo.getD 0)).toArray := by
  cases lo with
  | none =>
    cases hi with
    | none => simpa using slicePick_all vs.toArray
    | some b => simpa using slicePick_upto vs.toArray b (by simpa using h1)
  | some a =>
    cases hi with
    | none => simpa using slicePick_from vs.toArray a (by simpa using h2)
    | some b =>
      have := slicePick_run vs.toArray a b (by simpa using h1) (by simpa using h2)
      show slicePick vs.toArray (some (a : Int)) (some (b : Int)) none = (List.drop a (List.take b vs)).toArray
      rw [this, List.drop_take]
theorem slice_tail {W : Wd} {A : Around} {E : Value → Shared → Prop} {s : Shared} {value : Expr} {lower upper : Option Expr} {p : Pos} {a sl : Addr} {vs : List Value} {vl vu : Value} {lo hi : Option Nat} {Q : Value → Shared → Prop}
    (l : s.heap.IsList a vs.toArray) (hs : s.heap.IsSliceOf sl vl vu .none) (pl : IsPart vl (lo.map Int.ofNat)) (pu : IsPart vu (hi.map Int.ofNat)) (h1 : hi.getD vs.length ≤ vs.length) (h2 : lo.getD 0 ≤ hi.getD vs.length) (hz : vs.length ≤ sizeLine)
    (q : Q (.ref s.heap.objs.size) { s with heap := s.heap.push { cls := .type "list", data := .seq ((vs.take (hi.getD vs.length)).drop (lo.getD 0)).toArray } }) :
    wpAny (model W.prog W.w) A (subscriptTail value (.Slice lower upper none p) (.ref a) (.ref sl)) Q E s := by
  refine tail_any l.typeIs slot_list_getitem.lookup (wpAny_getItem_list_slice l hs pl pu .none (by simp) ?_ (by simpa using hz)) rfl
  rw [slicePick_cut h1 h2]
  exact q
theorem EvN.slice {e : Expr} {lower upper : Option Expr} {lo hi : Option Nat} {ds : List Dt} {p pos : Pos} (h : Ev F σ e (.lst ds)) (hl : EvP F σ lower lo) (hu : EvP F σ upper hi) (h1 : hi.getD ds.length ≤ ds.length) (h2 : lo.getD 0 ≤ hi.getD ds.length) (hz : ds.length ≤ sizeLine) :
    EvN F σ (.Subscript e (.Slice lower upper none p) pos) true ((ds.take (hi.getD ds.length)).drop (lo.getD 0)) := by
  intro O c s Q g v q
  refine Subscript_ (h O c s _ g v fun x h₁ t₁ k₁ d₁ => wpAny_Slice (evP_wp hl O c _ _ (g.mono k₁) (v.mono k₁) fun vl h₂ t₂ k₂ pl => evP_wp hu O c _ _ ((g.mono k₁).mono k₂) ((v.mono k₁).mono k₂) fun vu h₃ t₃ k₃ pu => wpAny_evalPart_none ?_))
  obtain ⟨a, vs, rfl, l, _, r⟩ := ((d₁.mono k₂).mono k₃).lst_inv
  have hlen := r.length
  have kk : Sub s.heap h₃ := (k₁.trans k₂).trans k₃
  dsimp only
  refine slice_tail (s := { s with heap := h₃.push { cls := .type "slice", data := .fields #[vl, vu, .none] }, toks := t₃ }) (isList_sub l fun o e => Heap.get?_push_of_some _ e) (Heap.IsSliceOf.new ..) pl pu (by rw [hlen]; exact h1) (by rw [hlen]; exact h2) (by rw [hlen]; exact hz) ?_
  dsimp only
  rw [hlen]
  refine q _ _ _ t₃ ((kk.trans (Sub.push _ _)).trans (Sub.push _ _)) (size_fresh (kk.trans (Sub.push _ _))) ⟨0, Heap.get?_push_size _ rfl⟩ (DenAll.pushed (DenAll.drop (DenAll.take (r.mono (Sub.push _ _)) _) _))
end

/-! what a def of the text's gives -/
noncomputable def FnAt (W : Wd) (f : Str) (a : Addr) : Prop := ∃ o fd, W.mg f = some (.ref a) ∧ W.hb.get? a = some o ∧ o.data = .func fd

/-- the value of a call, for these data -/
noncomputable def Fn (W : Wd) (f : Str) (n : Nat) (ds : List Dt) (d : Dt) : Prop := ∃ a, FnAt W f a ∧
  ∀ (A : Around) (s : Shared) (O : Addr → Prop) (vs : List Value) (Q : Value → Shared → Prop), Rm A n → Gd W s.heap O → DenAll s.heap O vs ds →
    (∀ v h' tk, Sub s.heap h' → Den h' O v d → Q v { s with heap := h', toks := tk }) → wpAny (model W.prog W.w) A (call (.ref a) vs) Q (fun _ _ => False) s
/-- a call that gives a new list -/
noncomputable def FnN (W : Wd) (f : Str) (n : Nat) (ds : List Dt) (pl : Bool) (es : List Dt) : Prop := ∃ a, FnAt W f a ∧
  ∀ (A : Around) (s : Shared) (O : Addr → Prop) (vs : List Value) (Q : Value → Shared → Prop), Rm A n → Gd W s.heap O → DenAll s.heap O vs ds →
    (∀ a us h' tk, Sub s.heap h' → s.heap.get? a = none → (if pl then h'.PlainList a us.toArray else h'.IsList a us.toArray) → DenAll h' (fun b => O b ∨ b = a) us es → Q (.ref a) { s with heap := h', toks := tk }) →
    wpAny (model W.prog W.w) A (call (.ref a) vs) Q (fun _ _ => False) s
section
variable {F : Fx} {σ : List LV}
theorem FnN.fn {W : Wd} {f : Str} {n : Nat} {ds : List Dt} {pl : Bool} {es : List Dt} (h : FnN W f n ds pl es) : Fn W f n ds (.lst es) := by
  obtain ⟨a, fa, h⟩ := h
  refine ⟨a, fa, fun A s O vs Q r g d k => h A s O vs Q r g d fun a us h' tk u n p r => k _ h' tk u ?_⟩
  have hl : h'.IsList a us.toArray := by
    cases pl with
    | true => exact Heap.PlainList.isList p
    | false => exact p
  refine .lst hl (fun q => ?_) (r.move fun b o nb e => ⟨e, fun q => nb (.inl q)⟩)
  obtain ⟨o, e⟩ := g.live a q
  rw [n] at e; cases e

theorem callF {O : Addr → Prop} {c : Str → Value} {s : Shared} {pos : Pos} {a : Addr} {e : Expr} {es : List Expr} {ds : List Dt} {f : Str} {Q : Value → Shared → Prop} (fa : FnAt F.W f a) (hs : NoStar F.env (e :: es)) (hd : EvL F σ (e :: es) ds) (g : Gd F.W s.heap O) (v : Vs F O σ c s.heap)
    (h : ∀ vs h' tk, Sub s.heap h' → DenAll h' O vs ds → wpAny F.M F.A (call (.ref a) vs) Q (fun _ _ => False) { s with heap := h', toks := tk }) : wpAny F.M F.A (callWith pos (.ref a) [] (backTo pos (starEach (e :: es) F.env)) []) Q (fun _ _ => False) s := by
  obtain ⟨o, fd, hm, ho, hf⟩ := fa
  refine PySem.Calls.callWith_function (o := o) (fd := fd) ?_
  have h' := hd pos O c s (fun vs s₁ => (s₁.heap.get? a = some o ∧ o.data = .func fd) ∧ wpAny F.M F.A (call (.ref a) vs) Q (fun _ _ => False) s₁) g v fun vs h₁ t₁ k₁ d₁ => ⟨⟨k₁ _ _ (g.sub _ _ ho), hf⟩, h vs h₁ t₁ k₁ d₁⟩
  rw [hs.1] at h' ⊢
  exact evalArgs_plain h'
theorem Ev.call {f : Str} {n : Nat} {e : Expr} {es : List Expr} {ds : List Dt} {d : Dt} {p pos : Pos} (K : F.Ok) (hd : EvL F σ (e :: es) ds) (h : Fn F.W f n ds d) (hn : n ≤ F.n) (hx : F.env.kindOf f = some .globalImplicit := by rfl)
    (hs : NoStar F.env (e :: es) := by repeat (first | exact trivial | refine ⟨rfl, ?_⟩)) (hdb : (f == ("__debug__" : Str)) = false := by decide) : Ev F σ (.Call (.Name f p) (e :: es) [] pos) d := by
  intro O c s Q g v q
  obtain ⟨a, fa, h⟩ := h
  refine call_any (rd_glob K hx fa.choose_spec.choose_spec.1 hdb g.sub _ s p _ _ Sub.rfl (callF fa hs hd g v fun vs h₁ t₁ k₁ d₁ => ?_))
  exact h _ _ O vs _ (K.room.le hn) (g.mono k₁) d₁ fun v h₂ t₂ k₂ d₂ => q v h₂ t₂ (k₁.trans k₂) d₂
theorem EvN.call {f : Str} {n : Nat} {e : Expr} {es : List Expr} {ds : List Dt} {pl : Bool} {us : List Dt} {p pos : Pos} (K : F.Ok) (hd : EvL F σ (e :: es) ds) (h : FnN F.W f n ds pl us) (hn : n ≤ F.n) (hx : F.env.kindOf f = some .globalImplicit := by rfl)
    (hs : NoStar F.env (e :: es) := by repeat (first | exact trivial | refine ⟨rfl, ?_⟩)) (hdb : (f == ("__debug__" : Str)) = false := by decide) : EvN F σ (.Call (.Name f p) (e :: es) [] pos) pl us := by
  intro O c s Q g v q
  obtain ⟨a, fa, h⟩ := h
  refine call_any (rd_glob K hx fa.choose_spec.choose_spec.1 hdb g.sub _ s p _ _ Sub.rfl (callF fa hs hd g v fun vs h₁ t₁ k₁ d₁ => ?_))
  refine h _ _ O vs _ (K.room.le hn) (g.mono k₁) d₁ fun a us h₂ t₂ k₂ nn p r => q a us h₂ t₂ (k₁.trans k₂) ?_ p r
  cases e : s.heap.get? a with
  | none => rfl
  | some o => have := k₁ _ _ e; rw [nn] at this; cases this

theorem At.mem {ns : List Str} {σ : List LV} {y : Str} {l : LV} (a : At ns σ y l) : y ∈ ns := by
  induction a with
  | head => exact .head _
  | tail _ ih => exact .tail _ ih
theorem Put.mem {ns : List Str} {σ σ' : List LV} {y : Str} {l : LV} (a : Put ns σ y l σ') : y ∈ ns := by
  induction a with
  | head => exact .head _
  | tail _ ih => exact .tail _ ih
theorem Put.at {ns : List Str} {σ σ' : List LV} {x y : Str} {l l' : LV} (p : Put ns σ x l σ') (nd : ns.Nodup) (a : At ns σ' y l') : (y = x ∧ l' = l) ∨ (y ≠ x ∧ At ns σ y l') := by
  induction p with
  | head =>
    cases a with
    | head => exact .inl ⟨rfl, rfl⟩
    | tail a =>
      refine .inr ⟨fun e => ?_, .tail a⟩
      subst e
      exact (List.nodup_cons.mp nd).1 a.mem
  | tail p ih =>
    rename_i z x ns l l' σ σ'
    cases a with
    | head =>
      refine .inr ⟨fun e => ?_, .head⟩
      subst e
      exact (List.nodup_cons.mp nd).1 p.mem
    | tail a => exact (ih (List.nodup_cons.mp nd).2 a).imp id fun q => ⟨q.1, .tail q.2⟩

/-- a list of the call's own, read as a plain one for one expression whose value holds no list -/
theorem look_vs {O : Addr → Prop} {c : Str → Value} {h : Heap} {x : Str} {pl : Bool} {ds : List Dt} {σ' : List LV} (hx : At F.ns σ x (.ow pl ds)) (hp : Put F.ns σ x (.fz (.lst ds)) σ') (nd : F.ns.Nodup) (g : Gd F.W h O) (v : Vs F O σ c h) :
    ∃ O', (∀ a, O' a → O a) ∧ Gd F.W h O' ∧ Vs F O' σ' c h := by
  obtain ⟨rd, hh⟩ := v x _ hx (fun e => by cases e)
  obtain ⟨a, vs, ea, pa, r⟩ := hh.isList
  refine ⟨fun b => O b ∧ b ≠ a, fun _ q => q.1, ⟨g.sub, fun b q => g.off b q.1, fun b q => g.live b q.1⟩, fun y l at' nl => ?_⟩
  have weak : ∀ {w d}, Den h O w d → Den h (fun b => O b ∧ b ≠ a) w d := fun z => z.move fun b o nb e => ⟨e, fun q => nb q.1⟩
  have weakA : ∀ {w d}, DenAll h O w d → DenAll h (fun b => O b ∧ b ≠ a) w d := fun z => z.move fun b o nb e => ⟨e, fun q => nb q.1⟩
  rcases hp.at nd at' with ⟨rfl, rfl⟩ | ⟨_, z⟩
  · refine ⟨rd, ?_⟩
    rw [ea]
    exact .lst pa (fun q => q.2 rfl) (weakA r)
  · obtain ⟨r1, r2⟩ := v y l z nl
    refine ⟨r1, ?_⟩
    cases l with
    | un => exact trivial
    | fz d => exact weak r2
    | ow p es =>
      obtain ⟨b, us, e1, e2, e3⟩ := r2
      exact ⟨b, us, e1, e2, weakA e3⟩
theorem Ev.look {e : Expr} {d : Dt} {x : Str} {pl : Bool} {ds : List Dt} {σ' : List LV} (K : F.Ok) (hx : At F.ns σ x (.ow pl ds)) (hp : Put F.ns σ x (.fz (.lst ds)) σ') (h : Ev F σ' e d) (hd : ∀ h O O' v, Den h O v d → Den h O' v d) : Ev F σ e d := by
  intro O c s Q g v q
  obtain ⟨O', _, g', v'⟩ := look_vs hx hp K.nodup g v
  exact h O' c s Q g' v' fun z h₁ t₁ k₁ d₁ => q z h₁ t₁ k₁ (hd _ _ _ _ d₁)
theorem EvT.look {e : Expr} {b : Bool} {x : Str} {pl : Bool} {ds : List Dt} {σ' : List LV} (K : F.Ok) (hx : At F.ns σ x (.ow pl ds)) (hp : Put F.ns σ x (.fz (.lst ds)) σ') (h : EvT F σ' e b) : EvT F σ e b := by
  intro O c s Q g v q
  obtain ⟨O', _, g', v'⟩ := look_vs hx hp K.nodup g v
  exact h O' c s Q g' v' q
theorem flat_int {i : Int} : ∀ h O O' v, Den h O v (.int i) → Den h O' v (.int i) := by intro _ _ _ _ d; cases d; exact .int _ _
theorem flat_bool {i : Bool} : ∀ h O O' v, Den h O v (.bool i) → Den h O' v (.bool i) := by intro _ _ _ _ d; cases d; exact .bool _
end
end Mine
end
section
open PySem PySem.W PyProof.Rows PySem.Calls PySem.Spec
set_option Elab.async false
set_option maxRecDepth 100000
set_option linter.unusedVariables false
namespace Mine

noncomputable def slotV (F : Fx) (m cm : Str → Option Value) (x : Str) : Option Value := match F.env.kindOf x with
  | some .local => m x
  | some .cell => cm x
  | _ => none
/-- what a loop holds beside the names: its iterators, and values without a name -/
structure Ex where
  led : List (Addr × Obj) := []
  tmp : List (Value × Dt) := []
noncomputable def Om (F : Fx) (O₀ : Addr → Prop) (Z : Ex) (σ : List LV) (c : Str → Value) : Addr → Prop :=
  fun a => O₀ a ∨ a = F.env.locals ∨ (∃ y, F.env.cells.lookup y = some a) ∨ (∃ x pl ds, At F.ns σ x (.ow pl ds) ∧ c x = .ref a) ∨ ∃ o, (a, o) ∈ Z.led

/-- the names of a def's body are places of its own -/
structure Fx.Names (F : Fx) : Prop where
  kinds : ∀ x ∈ F.ns, F.env.kindOf x = some .local ∨ (F.env.kindOf x = some .cell ∧ ∃ a, F.env.cells.lookup x = some a)
  nodbg : ∀ x ∈ F.ns, (x == ("__debug__" : Str)) = false

structure InvC (F : Fx) (s₀ : Shared) (O₀ : Addr → Prop) (Z : Ex) (σ : List LV) (c : Str → Value) (m cm : Str → Option Value) (s : Shared) : Prop where
  frame : InCallC s₀ F.env.locals m F.env.cells cm s
  base : Gd F.W s₀.heap O₀
  val : ∀ x l, At F.ns σ x l → l ≠ .un → slotV F m cm x = some (c x)
  has : ∀ x l, At F.ns σ x l → l ≠ .un → Has s.heap (Om F O₀ Z σ c) l (c x)
  own : ∀ x pl ds a, At F.ns σ x (.ow pl ds) → c x = .ref a → s₀.heap.get? a = none ∧ a ≠ F.env.locals ∧ ∀ y b, F.env.cells.lookup y = some b → a ≠ b
  apart : ∀ x y pl ds pl' ds', At F.ns σ x (.ow pl ds) → At F.ns σ y (.ow pl' ds') → c x = c y → x = y
  led : ∀ p ∈ Z.led, s.heap.get? p.1 = some p.2 ∧ s₀.heap.get? p.1 = none ∧ p.1 ≠ F.env.locals ∧ (∀ y b, F.env.cells.lookup y = some b → p.1 ≠ b) ∧ ∀ x pl ds, At F.ns σ x (.ow pl ds) → c x ≠ .ref p.1
  tmp : ∀ p ∈ Z.tmp, Den s.heap (Om F O₀ Z σ c) p.1 p.2

section
variable {F : Fx} {s₀ s : Shared} {O₀ : Addr → Prop} {Z : Ex} {σ σ' : List LV} {c : Str → Value} {m cm : Str → Option Value}

theorem Has.owL {h : Heap} {O : Addr → Prop} {pl : Bool} {ds : List Dt} {v : Value} (x : Has h O (.ow pl ds) v) : ∃ a, v = .ref a ∧ ∃ o, h.get? a = some o := by
  obtain ⟨a, vs, e, ⟨o, l, _⟩, _⟩ := x.isList
  exact ⟨a, e, o, l⟩

theorem InvC.sub (I : InvC F s₀ O₀ Z σ c m cm s) : Sub s₀.heap s.heap := I.frame.toInCall.keep
theorem InvC.gd (I : InvC F s₀ O₀ Z σ c m cm s) : Gd F.W s.heap (Om F O₀ Z σ c) := by
  have none_of : ∀ a, s₀.heap.get? a = none → F.W.hb.get? a = none := fun a e => by
    cases q : F.W.hb.get? a with
    | none => rfl
    | some o => rw [I.base.sub _ _ q] at e; cases e
  have above : ∀ a, s₀.heap.objs.size ≤ a → s₀.heap.get? a = none := fun a h => by
    cases q : s₀.heap.get? a with
    | none => rfl
    | some o => exact absurd (Heap.lt_size q) (Nat.not_lt.mpr h)
  refine ⟨I.base.sub.trans I.sub, fun a h => ?_, fun a h => ?_⟩
  · rcases h with h | h | ⟨y, h⟩ | ⟨x, pl, ds, h, e⟩ | ⟨o, h⟩
    · exact I.base.off a h
    · subst h; exact none_of _ (above _ I.frame.toInCall.fresh)
    · exact none_of _ (above _ (Nat.le_trans I.frame.toInCall.fresh (Nat.le_of_lt (I.frame.above _ _ (mem_of_lookup h)))))
    · exact none_of _ (I.own x pl ds a h e).1
    · exact none_of _ (I.led _ h).2.1
  · rcases h with h | h | ⟨y, h⟩ | ⟨x, pl, ds, h, e⟩ | ⟨o, h⟩
    · obtain ⟨o, q⟩ := I.base.live a h; exact ⟨o, I.sub _ _ q⟩
    · subst h; obtain ⟨o, _, _, q, _⟩ := I.frame.toInCall.ns; exact ⟨o, q⟩
    · obtain ⟨o, q, _⟩ := I.frame.cell y a h; exact ⟨o, q⟩
    · obtain ⟨b, e', o, q⟩ := (I.has x _ h (fun e => by cases e)).owL
      rw [e] at e'; cases e'; exact ⟨o, q⟩
    · exact ⟨o, (I.led _ h).1⟩
theorem InvC.vs (K : F.Ok) (N : F.Names) (I : InvC F s₀ O₀ Z σ c m cm s) : Vs F (Om F O₀ Z σ c) σ c s.heap := by
  intro x l a nl
  refine ⟨fun A s' pos Q E k q => ?_, I.has x l a nl⟩
  have v := I.val x l a nl
  unfold slotV at v
  rcases N.kinds x a.mem with e | ⟨e, b, hb⟩
  · rw [e] at v
    exact wpAny_Name (wpAny_loadName_local K.kind e (I.frame.toInCall.ns.keeps k) v q) (N.nodbg x a.mem)
  · rw [e] at v
    have := I.frame.cell x b hb
    have hv : cm x = some (c x) := v
    rw [hv] at this
    exact wpAny_Name (wpAny_loadName_cell K.kind e hb (this.keeps k) q) (N.nodbg x a.mem)
theorem InvC.keep {h' : Heap} {tk : Nat} (I : InvC F s₀ O₀ Z σ c m cm s) (k : Sub s.heap h') : InvC F s₀ O₀ Z σ c m cm { s with heap := h', toks := tk } :=
  ⟨I.frame.kept k, I.base, I.val, fun x l a n => (I.has x l a n).mono k, I.own, I.apart, fun p hp => ⟨k _ _ (I.led p hp).1, (I.led p hp).2⟩, fun p hp => (I.tmp p hp).mono k⟩

/-- a value that may be stored -/
noncomputable def New (h h₁ : Heap) (O : Addr → Prop) : LV → Value → Prop
  | .un, _ => True
  | .fz d, v => Den h₁ O v d
  | .ow pl ds, v => ∃ a vs, v = .ref a ∧ h.get? a = none ∧ (if pl then h₁.PlainList a vs.toArray else h₁.IsList a vs.toArray) ∧ DenAll h₁ (fun b => O b ∨ b = a) vs ds

theorem Put.self {ns : List Str} {x : Str} {l : LV} (p : Put ns σ x l σ') : At ns σ' x l := by
  induction p with
  | head => exact .head
  | tail _ ih => exact .tail ih
theorem Put.other {ns : List Str} {x y : Str} {l l' : LV} (p : Put ns σ x l σ') (a : At ns σ y l') (n : y ≠ x) : At ns σ' y l' := by
  induction p with
  | head =>
    cases a with
    | head => exact absurd rfl n
    | tail a => exact .tail a
  | tail _ ih =>
    cases a with
    | head => exact .head
    | tail a => exact .tail (ih a n)
theorem At.uniq {ns : List Str} {x : Str} {l l' : LV} (nd : ns.Nodup) (a : At ns σ x l) (b : At ns σ x l') : l = l' := by
  induction a with
  | head =>
    cases b with
    | head => rfl
    | tail b => exact absurd b.mem (List.nodup_cons.mp nd).1
  | tail a ih =>
    cases b with
    | head => exact absurd a.mem (List.nodup_cons.mp nd).1
    | tail b => exact ih (List.nodup_cons.mp nd).2 b

theorem InvC.change {m' cm' : Str → Option Value} {h₁ h₂ : Heap} {tk : Nat} {x : Str} {lv : LV} {v : Value} {X : Addr} (K : F.Ok) (I : InvC F s₀ O₀ Z σ c m cm s) (k : Sub s.heap h₁) (hp : Put F.ns σ x lv σ') (hv : New s.heap h₁ (Om F O₀ Z σ c) lv v)
    (hX : Om F O₀ Z σ c X) (hX' : ∀ y pl ds, At F.ns σ y (.ow pl ds) → c y ≠ .ref X) (hX2 : ∀ p ∈ Z.led, p.1 ≠ X) (hs : Heap.SameBut X h₁ h₂)
    (fr : InCallC s₀ F.env.locals m' F.env.cells cm' { s with heap := h₂, toks := tk }) (hx : slotV F m' cm' x = some v) (ho : ∀ y, y ≠ x → slotV F m' cm' y = slotV F m cm y) :
    InvC F s₀ O₀ Z σ' (fun y => if y = x then v else c y) m' cm' { s with heap := h₂, toks := tk } := by
  have g := I.gd
  have nd := K.nodup
  have other : ∀ {b : Addr} {o : Obj}, ¬ Om F O₀ Z σ c b → s.heap.get? b = some o → ¬ Om F O₀ Z σ' (fun y => if y = x then v else c y) b := by
    intro b o nb e q
    rcases q with q | q | q | ⟨y, pl, ds, q, e'⟩ | q
    · exact nb (.inl q)
    · exact nb (.inr (.inl q))
    · exact nb (.inr (.inr (.inl q)))
    · rcases hp.at nd q with ⟨rfl, rfl⟩ | ⟨ny, z⟩
      · obtain ⟨a, vs, ea, fa, _⟩ := hv
        simp only [if_true] at e'
        rw [ea] at e'; cases e'
        rw [fa] at e; cases e
      · simp only [if_neg ny] at e'
        exact nb (.inr (.inr (.inr (.inl ⟨y, pl, ds, z, e'⟩))))
    · exact nb (.inr (.inr (.inr (.inr q))))
  have move : ∀ {w d}, Den s.heap (Om F O₀ Z σ c) w d → Den h₂ (Om F O₀ Z σ' (fun y => if y = x then v else c y)) w d := fun z =>
    z.move fun b o nb e => ⟨(hs.2 b fun q => nb (q ▸ hX)).trans (k b o e), other nb e⟩
  have moveA : ∀ {w d}, DenAll s.heap (Om F O₀ Z σ c) w d → DenAll h₂ (Om F O₀ Z σ' (fun y => if y = x then v else c y)) w d := fun z =>
    z.move fun b o nb e => ⟨(hs.2 b fun q => nb (q ▸ hX)).trans (k b o e), other nb e⟩
  have XL := g.live X hX
  refine ⟨fr, I.base, fun y l a nl => ?_, fun y l a nl => ?_, fun y pl ds a q e => ?_, fun y z pl ds pl' ds' q q' e => ?_, fun p hpl => ?_, fun p hpl => move (I.tmp p hpl)⟩
  · rcases hp.at nd a with ⟨rfl, rfl⟩ | ⟨ny, z⟩
    · simp only [if_true]; exact hx
    · simp only [if_neg ny]; rw [ho y ny]; exact I.val y l z nl
  · rcases hp.at nd a with ⟨rfl, rfl⟩ | ⟨ny, z⟩
    · simp only [if_true]
      cases l with
      | un => exact trivial
      | fz d =>
        have hv' : Den h₁ (Om F O₀ Z σ c) v d := hv
        refine Den.move (fun b o nb e => ⟨(hs.2 b fun q => nb (q ▸ hX)).trans e, fun q => ?_⟩) hv'
        rcases q with q | q | q | ⟨u, pl, ds, q, e'⟩ | q
        · exact nb (.inl q)
        · exact nb (.inr (.inl q))
        · exact nb (.inr (.inr (.inl q)))
        · rcases hp.at nd q with ⟨rfl, e2⟩ | ⟨nu, z⟩
          · cases e2
          · simp only [if_neg nu] at e'
            exact nb (.inr (.inr (.inr (.inl ⟨u, pl, ds, z, e'⟩))))
        · exact nb (.inr (.inr (.inr (.inr q))))
      | ow pl ds =>
        obtain ⟨a', vs, ea, fa, la, r⟩ := hv
        have naX : a' ≠ X := fun q => by obtain ⟨o, e⟩ := XL; rw [← q, fa] at e; cases e
        refine ⟨a', vs, ea, ?_, r.move fun b o nb e => ⟨(hs.2 b fun q => nb (.inl (q ▸ hX))).trans e, fun q => ?_⟩⟩
        · cases pl with
          | true => exact Heap.PlainList.at la fun o e => (hs.2 a' naX).trans e
          | false => exact isList_sub la fun o e => (hs.2 a' naX).trans e
        · rcases q with q | q | q | ⟨u, pl, ds, q, e'⟩ | q
          · exact nb (.inl (.inl q))
          · exact nb (.inl (.inr (.inl q)))
          · exact nb (.inl (.inr (.inr (.inl q))))
          · rcases hp.at nd q with ⟨rfl, e2⟩ | ⟨nu, z⟩
            · simp only [if_true] at e'
              rw [ea] at e'; cases e'; exact nb (.inr rfl)
            · simp only [if_neg nu] at e'
              exact nb (.inl (.inr (.inr (.inr (.inl ⟨u, pl, ds, z, e'⟩)))))
          · exact nb (.inl (.inr (.inr (.inr (.inr q)))))
    · simp only [if_neg ny]
      have h := I.has y l z nl
      cases l with
      | un => exact trivial
      | fz d => exact move h
      | ow pl ds =>
        obtain ⟨a', vs, ea, la, r⟩ := h
        have naX : a' ≠ X := fun q => hX' y pl ds z (by rw [ea, q])
        refine ⟨a', vs, ea, ?_, moveA r⟩
        cases pl with
        | true => exact Heap.PlainList.at la fun o e => (hs.2 a' naX).trans (k _ _ e)
        | false => exact isList_sub la fun o e => (hs.2 a' naX).trans (k _ _ e)
  · rcases hp.at nd q with ⟨rfl, rfl⟩ | ⟨ny, z⟩
    · obtain ⟨a', vs, ea, fa, la, r⟩ := hv
      simp only [if_true] at e
      rw [ea] at e; cases e
      refine ⟨?_, fun q => ?_, fun u b hb q => ?_⟩
      · cases e : s₀.heap.get? a with
        | none => rfl
        | some o => have := I.sub _ _ e; rw [fa] at this; cases this
      · obtain ⟨o, e⟩ := g.live _ (.inr (.inl rfl)); rw [← q, fa] at e; cases e
      · obtain ⟨o, e⟩ := g.live b (.inr (.inr (.inl ⟨u, hb⟩))); rw [← q, fa] at e; cases e
    · simp only [if_neg ny] at e
      exact I.own y pl ds a z e
  · rcases hp.at nd q with ⟨rfl, rfl⟩ | ⟨ny, qz⟩
    · rcases hp.at nd q' with ⟨rfl, _⟩ | ⟨nz, qz'⟩
      · rfl
      · exfalso
        simp only [if_true, if_neg nz] at e
        obtain ⟨a', vs, ea, fa, la, r⟩ := hv
        obtain ⟨b, eb, o, hb⟩ := (I.has z _ qz' (fun e => by cases e)).owL
        rw [ea, eb] at e; cases e
        rw [fa] at hb; cases hb
    · rcases hp.at nd q' with ⟨rfl, rfl⟩ | ⟨nz, qz'⟩
      · exfalso
        simp only [if_true, if_neg ny] at e
        obtain ⟨a', vs, ea, fa, la, r⟩ := hv
        obtain ⟨b, eb, o, hb⟩ := (I.has y _ qz (fun e => by cases e)).owL
        rw [ea, eb] at e; cases e
        rw [fa] at hb; cases hb
      · simp only [if_neg ny, if_neg nz] at e
        exact I.apart y z pl ds pl' ds' qz qz' e
  · obtain ⟨l1, l2, l3, l4, l5⟩ := I.led p hpl
    refine ⟨(hs.2 _ (hX2 p hpl)).trans (k _ _ l1), l2, l3, l4, fun y pl ds q e => ?_⟩
    rcases hp.at nd q with ⟨rfl, rfl⟩ | ⟨ny, qz⟩
    · obtain ⟨a', vs, ea, fa, la, r⟩ := hv
      simp only [if_true] at e
      rw [ea] at e; cases e
      rw [fa] at l1; cases l1
    · simp only [if_neg ny] at e
      exact l5 y pl ds qz e

theorem InvC.store {h₁ : Heap} {tk : Nat} {x : Str} {lv : LV} {v : Value} {Q : Unit → Shared → Prop} {E : Value → Shared → Prop} (K : F.Ok) (N : F.Names) (I : InvC F s₀ O₀ Z σ c m cm s) (k : Sub s.heap h₁) (hp : Put F.ns σ x lv σ') (hv : New s.heap h₁ (Om F O₀ Z σ c) lv v)
    (q : ∀ c' m' cm' s', InvC F s₀ O₀ Z σ' c' m' cm' s' → Q () s') : wpAny F.M F.A (storeName F.env x v) Q E { s with heap := h₁, toks := tk } := by
  have J := I.frame.kept (tk := tk) k
  rcases N.kinds x hp.mem with e | ⟨e, b, hb⟩
  · refine wpAny_storeName_local e J.toInCall.ns (fun h' hn' hs' => ?_) (by rw [K.kind]; rfl)
    refine q _ _ _ { s with heap := h', toks := tk + 1 } (InvC.change (s := s) (m' := fun y => if y = x then some v else m y) (cm' := cm) K I k hp hv (.inr (.inl rfl)) (fun y pl ds a e => (I.own y pl ds _ a e).2.1 rfl) (fun p hp => (I.led p hp).2.2.1) hs' ?_ ?_ ?_)
    · refine ⟨⟨?_, hn', fun b o e => ?_, J.toInCall.fresh⟩, fun k c hc => ?_, J.apart, J.above⟩
      · obtain ⟨h₁, tk, e⟩ := I.frame.toInCall.same
        exact ⟨h', _, by rw [e]⟩
      · exact hs'.extBut b o (Nat.ne_of_lt (Nat.lt_of_lt_of_le (Heap.lt_size e) J.toInCall.fresh)) (J.toInCall.keep b o e)
      · exact (J.cell k c hc).sameBut hs' (Nat.ne_of_gt (J.above k c (mem_of_lookup hc)))
    · unfold slotV; rw [e]; simp
    · intro y ny
      unfold slotV
      split <;> simp [ny]
  · refine wpAny_storeName_cell K.kind e hb (J.cell x b hb) fun h' hc' hs' => ?_
    have hLc := J.above x b (mem_of_lookup hb)
    refine q _ _ _ { s with heap := h', toks := tk } (InvC.change (s := s) (m' := m) (cm' := fun y => if y = x then some v else cm y) K I k hp hv (.inr (.inr (.inl ⟨x, hb⟩))) (fun y pl ds a e => (I.own y pl ds _ a e).2.2 x b hb rfl) (fun p hp => (I.led p hp).2.2.2.1 x b hb) hs' ?_ ?_ ?_)
    · refine ⟨⟨?_, J.toInCall.ns.sameBut hs' (Nat.ne_of_lt hLc), fun b' o e => ?_, J.toInCall.fresh⟩, fun k' c' hk' => ?_, J.apart, J.above⟩
      · obtain ⟨h₁, tk, e⟩ := I.frame.toInCall.same
        exact ⟨h', _, by rw [e]⟩
      · exact hs'.extBut b' o (Nat.ne_of_lt (Nat.lt_trans (Nat.lt_of_lt_of_le (Heap.lt_size e) J.toInCall.fresh) hLc)) (J.toInCall.keep b' o e)
      · by_cases hkn : k' = x
        · subst hkn
          rw [hb] at hk'; cases hk'
          simpa using hc'
        · rw [if_neg hkn]
          exact (J.cell k' c' hk').sameBut hs' fun e => hkn (name_of_addr J.apart (mem_of_lookup hk') (e ▸ mem_of_lookup hb))
    · unfold slotV; rw [e]; simp
    · intro y ny
      unfold slotV
      split <;> simp [ny]

/-- less is known: a name forgotten, an own list as a plain one -/
inductive Wk : List LV → List LV → Prop
  | nil : Wk [] []
  | same {l l' σ σ'} : l = l' → Wk σ σ' → Wk (l :: σ) (l' :: σ')
  | un {l σ σ'} : Wk σ σ' → Wk (l :: σ) (.un :: σ')
  | dn {ds es σ σ'} : ds = es → Wk σ σ' → Wk (.ow true ds :: σ) (.ow false es :: σ')
  | fr {pl ds es σ σ'} : ds = es → Wk σ σ' → Wk (.ow pl ds :: σ) (.fz (.lst es) :: σ')
theorem Wk.refl : ∀ {σ : List LV}, Wk σ σ
  | [] => .nil
  | _ :: _ => .same rfl Wk.refl
noncomputable def Wk1 (l l' : LV) : Prop := l = l' ∨ (∃ ds, l = .ow true ds ∧ l' = .ow false ds) ∨ ∃ pl ds, l = .ow pl ds ∧ l' = .fz (.lst ds)
theorem Wk.at {ns : List Str} {x : Str} {l : LV} (w : Wk σ σ') (a : At ns σ' x l) (n : l ≠ .un) : ∃ l₀, At ns σ x l₀ ∧ Wk1 l₀ l := by
  induction a generalizing σ with
  | head =>
    cases w with
    | same e _ => exact ⟨_, .head, .inl e⟩
    | un _ => exact absurd rfl n
    | dn e _ => subst e; exact ⟨_, .head, .inr (.inl ⟨_, rfl, rfl⟩)⟩
    | fr e _ => subst e; exact ⟨_, .head, .inr (.inr ⟨_, _, rfl, rfl⟩)⟩
  | tail a ih =>
    cases w with
    | same _ w => obtain ⟨l₀, a', q⟩ := ih w n; exact ⟨l₀, .tail a', q⟩
    | un w => obtain ⟨l₀, a', q⟩ := ih w n; exact ⟨l₀, .tail a', q⟩
    | dn _ w => obtain ⟨l₀, a', q⟩ := ih w n; exact ⟨l₀, .tail a', q⟩
    | fr _ w => obtain ⟨l₀, a', q⟩ := ih w n; exact ⟨l₀, .tail a', q⟩
theorem InvC.weak (K : F.Ok) (I : InvC F s₀ O₀ Z σ c m cm s) (w : Wk σ σ') : InvC F s₀ O₀ Z σ' c m cm s := by
  have nu : ∀ {l₀ l : LV}, Wk1 l₀ l → l ≠ .un → l₀ ≠ .un := by
    intro l₀ l q n
    rcases q with rfl | ⟨ds, rfl, rfl⟩ | ⟨pl, ds, rfl, rfl⟩
    · exact n
    · intro e; cases e
    · intro e; cases e
  have ow : ∀ {x pl ds}, At F.ns σ' x (.ow pl ds) → ∃ pl', At F.ns σ x (.ow pl' ds) := by
    intro x pl ds a
    obtain ⟨l₀, a', q⟩ := w.at a (fun e => by cases e)
    rcases q with rfl | ⟨ds, rfl, e⟩ | ⟨pl, ds, rfl, e⟩
    · exact ⟨_, a'⟩
    · cases e; exact ⟨_, a'⟩
    · cases e
  have le : ∀ b, Om F O₀ Z σ' c b → Om F O₀ Z σ c b := by
    intro b q
    rcases q with q | q | q | ⟨u, pl, ds, q, e'⟩ | q
    · exact .inl q
    · exact .inr (.inl q)
    · exact .inr (.inr (.inl q))
    · obtain ⟨pl', a'⟩ := ow q; exact .inr (.inr (.inr (.inl ⟨u, pl', ds, a', e'⟩)))
    · exact .inr (.inr (.inr (.inr q)))
  have mv : ∀ {v d}, Den s.heap (Om F O₀ Z σ c) v d → Den s.heap (Om F O₀ Z σ' c) v d := fun z => z.move fun b o nb e => ⟨e, fun q => nb (le b q)⟩
  have mvA : ∀ {v d}, DenAll s.heap (Om F O₀ Z σ c) v d → DenAll s.heap (Om F O₀ Z σ' c) v d := fun z => z.move fun b o nb e => ⟨e, fun q => nb (le b q)⟩
  refine ⟨I.frame, I.base, fun x l a n => ?_, fun x l a n => ?_, fun x pl ds a q e => ?_, fun x y pl ds pl' ds' q q' e => ?_, fun p hp => ?_, fun p hp => mv (I.tmp p hp)⟩
  · obtain ⟨l₀, a', q⟩ := w.at a n
    exact I.val x l₀ a' (nu q n)
  · obtain ⟨l₀, a', q⟩ := w.at a n
    have h := I.has x l₀ a' (nu q n)
    rcases q with rfl | ⟨ds, rfl, rfl⟩ | ⟨pl, ds, rfl, rfl⟩
    · cases l₀ with
      | un => exact trivial
      | fz d => exact mv h
      | ow pl ds => obtain ⟨b, vs, e, la, r⟩ := h; exact ⟨b, vs, e, la, mvA r⟩
    · obtain ⟨b, vs, e, la, r⟩ := h.isList; exact ⟨b, vs, e, la, mvA r⟩
    · obtain ⟨b, vs, e, la, r⟩ := h.isList
      rw [e]
      refine .lst la (fun q => ?_) (mvA r)
      obtain ⟨o1, o2, o3⟩ := I.own x pl ds b a' e
      rcases q with q | q | ⟨y, q⟩ | ⟨u, pl', ds', q, e'⟩ | ⟨o, q⟩
      · obtain ⟨o, e⟩ := I.base.live b q; rw [o1] at e; cases e
      · exact o2 q
      · exact o3 y b q rfl
      · obtain ⟨pl2, q2⟩ := ow q
        have := I.apart u x _ _ _ _ q2 a' (by rw [e', e])
        subst this
        have := At.uniq K.nodup q a
        cases this
      · exact (I.led _ q).2.2.2.2 x pl ds a' e
  · obtain ⟨pl', a'⟩ := ow q
    exact I.own x pl' ds a a' e
  · obtain ⟨p1, a1⟩ := ow q
    obtain ⟨p2, a2⟩ := ow q'
    exact I.apart x y _ _ _ _ a1 a2 e
  · obtain ⟨l1, l2, l3, l4, l5⟩ := I.led p hp
    exact ⟨l1, l2, l3, l4, fun x pl ds q => let ⟨p1, a1⟩ := ow q; l5 x p1 ds a1⟩
end
end Mine
end
section
open PySem PySem.W PyProof.Rows PySem.Calls PySem.Spec
set_option Elab.async false
set_option maxRecDepth 100000
set_option linter.unusedVariables false
namespace Mine

noncomputable def Inv (F : Fx) (s₀ : Shared) (O₀ : Addr → Prop) (Z : Ex) (σ : List LV) (s : Shared) : Prop := ∃ c m cm, InvC F s₀ O₀ Z σ c m cm s

/-- a block, from the state σ -/
noncomputable def Tr (F : Fx) (s₀ : Shared) (O₀ : Addr → Prop) (Z : Ex) (σ : List LV) (ss : List Stmt) (Φ : Flow → Shared → Prop) (E : Value → Shared → Prop) : Prop :=
  ∀ s, Inv F s₀ O₀ Z σ s → wpAny F.M F.A (execs ss F.env) Φ E s
noncomputable def Ts (F : Fx) (s₀ : Shared) (O₀ : Addr → Prop) (Z : Ex) (σ : List LV) (st : Stmt) (Φ : Flow → Shared → Prop) (E : Value → Shared → Prop) : Prop :=
  ∀ s, Inv F s₀ O₀ Z σ s → wpAny F.M F.A (exec st F.env) Φ E s

/-- the rest follows -/
noncomputable def Then (F : Fx) (rest : List Stmt) (Φ : Flow → Shared → Prop) (E : Value → Shared → Prop) : Flow → Shared → Prop := fun f s' => match f with
  | .next => wpAny F.M F.A (execs rest F.env) Φ E s'
  | f => Φ f s'
/-- a block that goes on behind with σ' -/
noncomputable def Nx (F : Fx) (s₀ : Shared) (O₀ : Addr → Prop) (Z : Ex) (σ' : List LV) (Φ : Flow → Shared → Prop) : Flow → Shared → Prop := fun f s' => match f with
  | .next => Inv F s₀ O₀ Z σ' s'
  | f => Φ f s'
/-- a loop's turn -/
noncomputable def Lp (F : Fx) (s₀ : Shared) (O₀ : Addr → Prop) (Z : Ex) (σ' : List LV) (Φ : Flow → Shared → Prop) : Flow → Shared → Prop := fun f s' => match f with
  | .next => Inv F s₀ O₀ Z σ' s'
  | .cont => Inv F s₀ O₀ Z σ' s'
  | .brk => False
  | .ret v => Φ (.ret v) s'

structure Fx.Good (F : Fx) : Prop extends F.Ok, F.Names

section
variable {F : Fx} {s₀ : Shared} {O₀ : Addr → Prop} {Z : Ex} {σ σ' : List LV} {Φ : Flow → Shared → Prop} {E : Value → Shared → Prop} {rest : List Stmt}

theorem Tr.cons {st : Stmt} (h : Ts F s₀ O₀ Z σ st (Then F rest Φ E) E) : Tr F s₀ O₀ Z σ (st :: rest) Φ E := fun s I => by
  refine wpAny_execs_cons (wpAny_mono (h s I) (fun f s' q => ?_) fun _ _ e => e)
  cases f <;> exact q
theorem Tr.next (h : Tr F s₀ O₀ Z σ rest Φ E) : Tr F s₀ O₀ Z σ [] (Then F rest Φ E) E := fun s I => wpAny_execs_nil (h s I)
theorem Tr.nx (h : Wk σ σ') (K : F.Good) : Tr F s₀ O₀ Z σ [] (Nx F s₀ O₀ Z σ' Φ) E := fun s I => wpAny_execs_nil (let ⟨c, m, cm, I⟩ := I; ⟨c, m, cm, I.weak K.toOk h⟩)
theorem Tr.lp (h : Wk σ σ') (K : F.Good) : Tr F s₀ O₀ Z σ [] (Lp F s₀ O₀ Z σ' Φ) E := fun s I => wpAny_execs_nil (let ⟨c, m, cm, I⟩ := I; ⟨c, m, cm, I.weak K.toOk h⟩)
theorem Tr.weak (K : F.Good) (w : Wk σ σ') {ss : List Stmt} (h : Tr F s₀ O₀ Z σ' ss Φ E) : Tr F s₀ O₀ Z σ ss Φ E := fun s I => h s (let ⟨c, m, cm, I⟩ := I; ⟨c, m, cm, I.weak K.toOk w⟩)
theorem Tr.conv {ss : List Stmt} (h : Tr F s₀ O₀ Z σ' ss Φ E) (e : σ = σ') : Tr F s₀ O₀ Z σ ss Φ E := e ▸ h
/-- two blocks, one behind the other -/
theorem Tr.mid {st : Stmt} (h : Ts F s₀ O₀ Z σ st (Nx F s₀ O₀ Z σ' Φ) E) (h' : Tr F s₀ O₀ Z σ' rest Φ E) : Tr F s₀ O₀ Z σ (st :: rest) Φ E := fun s I => by
  refine wpAny_execs_cons (wpAny_mono (h s I) (fun f s' q => ?_) fun _ _ e => e)
  cases f <;> first | exact h' _ q | exact q

theorem wp_no {α : Type} {M : Model} {A : Around} {t : Sem α} {Q : α → Shared → Prop} {s : Shared} (h : wpAny M A t Q (fun _ _ => False) s) : wpAny M A t Q E s := wpAny_mono h (fun _ _ q => q) fun _ _ q => q.elim

theorem Ts.ite {t : Expr} {b : Bool} {body orelse : List Stmt} {pos : Pos} (K : F.Good) (ht : EvT F σ t b) (h1 : b = true → Tr F s₀ O₀ Z σ body Φ E) (h2 : b = false → Tr F s₀ O₀ Z σ orelse Φ E) : Ts F s₀ O₀ Z σ (.If t body orelse pos) Φ E := by
  rintro s ⟨c, m, cm, I⟩
  refine wpAny_If (wp_no (ht _ c s _ I.gd (I.vs K.toOk K.toNames) fun h' tk k => ?_))
  have J := I.keep (tk := tk) k
  cases b with
  | true => exact h1 rfl _ ⟨c, m, cm, J⟩
  | false => exact h2 rfl _ ⟨c, m, cm, J⟩
theorem Ts.assign {x : Str} {px pos : Pos} {e : Expr} {d : Dt} (K : F.Good) (he : Ev F σ e d) (hp : Put F.ns σ x (.fz d) σ') (h : ∀ s', Inv F s₀ O₀ Z σ' s' → Φ .next s') (hs : swapsWith e (some (.Name x px)) pos.line F.env = pure false := by rfl) :
    Ts F s₀ O₀ Z σ (.Assign [.Name x px] e pos) Φ E := by
  rintro s ⟨c, m, cm, I⟩
  refine wpAny_Assign_Name (wp_no (he _ c s _ I.gd (I.vs K.toOk K.toNames) fun v h' tk k d => ?_)) hs
  exact I.store K.toOk K.toNames k hp d fun c' m' cm' s' J => h _ ⟨c', m', cm', J⟩
theorem Ts.assignN {x : Str} {px pos : Pos} {e : Expr} {pl : Bool} {ds : List Dt} (K : F.Good) (he : EvN F σ e pl ds) (hp : Put F.ns σ x (.ow pl ds) σ') (h : ∀ s', Inv F s₀ O₀ Z σ' s' → Φ .next s') (hs : swapsWith e (some (.Name x px)) pos.line F.env = pure false := by rfl) :
    Ts F s₀ O₀ Z σ (.Assign [.Name x px] e pos) Φ E := by
  rintro s ⟨c, m, cm, I⟩
  refine wpAny_Assign_Name (wp_no (he _ c s _ I.gd (I.vs K.toOk K.toNames) fun a vs h' tk k n l r => ?_)) hs
  exact I.store K.toOk K.toNames k hp ⟨a, vs, rfl, n, l, r⟩ fun c' m' cm' s' J => h _ ⟨c', m', cm', J⟩
theorem Ts.ret {e : Expr} {d : Dt} {pos : Pos} (K : F.Good) (he : Ev F σ e d) (h : ∀ v h' tk, Sub s₀.heap h' → Den h' O₀ v d → Φ (.ret v) { s₀ with heap := h', toks := tk }) : Ts F s₀ O₀ Z σ (.Return (some e) pos) Φ E := by
  rintro s ⟨c, m, cm, I⟩
  refine wpAny_Return_some (wp_no (he _ c s _ I.gd (I.vs K.toOk K.toNames) fun v h' tk k d => ?_))
  obtain ⟨h₁, t₁, e₁⟩ := I.frame.toInCall.same
  subst e₁
  exact h v h' tk (I.sub.trans k) (d.move fun b o nb e => ⟨e, fun q => nb (.inl q)⟩)
theorem Ts.retN {e : Expr} {pl : Bool} {ds : List Dt} {pos : Pos} (K : F.Good) (he : EvN F σ e pl ds) (h : ∀ a vs h' tk, Sub s₀.heap h' → s₀.heap.get? a = none → (if pl then h'.PlainList a vs.toArray else h'.IsList a vs.toArray) → DenAll h' (fun b => O₀ b ∨ b = a) vs ds → Φ (.ret (.ref a)) { s₀ with heap := h', toks := tk }) :
    Ts F s₀ O₀ Z σ (.Return (some e) pos) Φ E := by
  rintro s ⟨c, m, cm, I⟩
  refine wpAny_Return_some (wp_no (he _ c s _ I.gd (I.vs K.toOk K.toNames) fun a vs h' tk k n l r => ?_))
  obtain ⟨h₁, t₁, e₁⟩ := I.frame.toInCall.same
  have nn : s₀.heap.get? a = none := by
    cases q : s₀.heap.get? a with
    | none => rfl
    | some o => have := I.sub _ _ q; rw [n] at this; cases this
  subst e₁
  exact h a vs h' tk (I.sub.trans k) nn l (r.move fun b o nb e => ⟨e, fun q => nb (q.imp (fun q => .inl q) id)⟩)
theorem Ts.retO {x : Str} {px pos : Pos} {pl : Bool} {ds : List Dt} (K : F.Good) (hx : At F.ns σ x (.ow pl ds)) (h : ∀ a vs h' tk, Sub s₀.heap h' → s₀.heap.get? a = none → (if pl then h'.PlainList a vs.toArray else h'.IsList a vs.toArray) → DenAll h' (fun b => O₀ b ∨ b = a) vs ds → Φ (.ret (.ref a)) { s₀ with heap := h', toks := tk }) :
    Ts F s₀ O₀ Z σ (.Return (some (.Name x px)) pos) Φ E := by
  rintro s ⟨c, m, cm, I⟩
  obtain ⟨rd, hh⟩ := I.vs K.toOk K.toNames x _ hx (fun e => by cases e)
  obtain ⟨a, vs, ea, l, r⟩ := hh
  refine wpAny_Return_some (rd _ s px _ _ Sub.rfl ?_)
  obtain ⟨h₁, t₁, e₁⟩ := I.frame.toInCall.same
  have sb := I.sub
  have ow := (I.own x pl ds a hx ea).1
  rw [ea]
  subst e₁
  exact h a vs h₁ t₁ sb ow l (r.move fun b o nb e => ⟨e, fun q => nb (q.elim (fun q => .inl q) fun q => .inr (.inr (.inr (.inl ⟨x, pl, ds, hx, by rw [ea, q]⟩))))⟩)
theorem Ts.cont {pos : Pos} (h : ∀ s', Inv F s₀ O₀ Z σ s' → Φ .cont s') : Ts F s₀ O₀ Z σ (.Continue pos) Φ E := fun s I => wpAny_Continue (h s I)
theorem Ts.aug {x : Str} {px pos : Pos} {e : Expr} {a b : Int} (K : F.Good) (hx : At F.ns σ x (.fz (.int a))) (he : Ev F σ e (.int b)) (hp : Put F.ns σ x (.fz (.int (a + b))) σ') (h : ∀ s', Inv F s₀ O₀ Z σ' s' → Φ .next s') :
    Ts F s₀ O₀ Z σ (.AugAssign (.Name x px) .Add e pos) Φ E := by
  rintro s ⟨c, m, cm, I⟩
  have hh := I.has x _ hx (fun e => by cases e)
  have hv := I.val x _ hx (fun e => by cases e)
  have ld : ∀ {Q : Value → Shared → Prop}, Q (c x) s → wpAny F.M F.A (loadName F.env x) Q E s := by
    intro Q q
    unfold slotV at hv
    rcases K.kinds x hx.mem with e | ⟨e, b, hb⟩
    · rw [e] at hv; exact wpAny_loadName_local K.kind e I.frame.toInCall.ns hv q
    · rw [e] at hv
      have := I.frame.cell x b hb
      have hv' : cm x = some (c x) := hv
      rw [hv'] at this
      exact wpAny_loadName_cell K.kind e hb this q
  refine wpAny_AugAssign_Name (ld (wp_no (he _ c s _ I.gd (I.vs K.toOk K.toNames) fun v h' tk k d => ?_)))
  have hh' : Den s.heap (Om F O₀ Z σ c) (c x) (.int a) := hh
  generalize c x = w at hh'
  cases hh'
  cases d
  exact P.iadd_int ((I.store (tk := tk + 1) K.toOk K.toNames k hp (.int _ _) fun c' m' cm' s' J => h _ ⟨c', m', cm', J⟩) : wpAny F.M F.A (storeName F.env x _) _ E _)
end
end Mine
end
section
open PySem PySem.W PyProof.Rows PySem.Calls PySem.Spec
set_option Elab.async false
set_option maxRecDepth 100000
set_option linter.unusedVariables false
namespace Mine
section
variable {F : Fx} {s₀ s : Shared} {O₀ : Addr → Prop} {Z : Ex} {σ σ' : List LV} {c : Str → Value} {m cm : Str → Option Value} {Φ : Flow → Shared → Prop} {E : Value → Shared → Prop} {rest : List Stmt}

/-- an own list's items change -/
theorem InvC.mutate {h₁ h₂ : Heap} {tk : Nat} {x : Str} {pl pl' : Bool} {ds ds' : List Dt} {a : Addr} {vs' : List Value} (K : F.Ok) (I : InvC F s₀ O₀ Z σ c m cm s) (k : Sub s.heap h₁) (hx : At F.ns σ x (.ow pl ds)) (ha : c x = .ref a) (hp : Put F.ns σ x (.ow pl' ds') σ')
    (hs : ∀ b o, b ≠ a → h₁.get? b = some o → h₂.get? b = some o) (hl : if pl' then h₂.PlainList a vs'.toArray else h₂.IsList a vs'.toArray) (hd : DenAll h₁ (Om F O₀ Z σ c) vs' ds') : InvC F s₀ O₀ Z σ' c m cm { s with heap := h₂, toks := tk } := by
  have nd := K.nodup
  have hX : Om F O₀ Z σ c a := .inr (.inr (.inr (.inl ⟨x, pl, ds, hx, ha⟩)))
  obtain ⟨o1, o2, o3⟩ := I.own x pl ds a hx ha
  have J := I.frame.kept (tk := tk) k
  have ow : ∀ {y pl ds}, At F.ns σ' y (.ow pl ds) → ∃ pl' ds', At F.ns σ y (.ow pl' ds') := by
    intro y pl ds q
    rcases hp.at nd q with ⟨rfl, _⟩ | ⟨_, z⟩
    · exact ⟨_, _, hx⟩
    · exact ⟨_, _, z⟩
  have le : ∀ b, Om F O₀ Z σ' c b → Om F O₀ Z σ c b := by
    intro b q
    rcases q with q | q | q | ⟨u, pl, ds, q, e'⟩ | q
    · exact .inl q
    · exact .inr (.inl q)
    · exact .inr (.inr (.inl q))
    · obtain ⟨p1, d1, a'⟩ := ow q; exact .inr (.inr (.inr (.inl ⟨u, p1, d1, a', e'⟩)))
    · exact .inr (.inr (.inr (.inr q)))
  have mv : ∀ {h v d}, Sub h h₁ → Den h (Om F O₀ Z σ c) v d → Den h₂ (Om F O₀ Z σ' c) v d := fun k z => z.move fun b o nb e => ⟨hs b o (fun q => nb (q ▸ hX)) (k b o e), fun q => nb (le b q)⟩
  have mvA : ∀ {h v d}, Sub h h₁ → DenAll h (Om F O₀ Z σ c) v d → DenAll h₂ (Om F O₀ Z σ' c) v d := fun k z => z.move fun b o nb e => ⟨hs b o (fun q => nb (q ▸ hX)) (k b o e), fun q => nb (le b q)⟩
  refine ⟨⟨⟨?_, ?_, fun b o e => hs b o (fun q => by rw [q, o1] at e; cases e) (J.toInCall.keep b o e), J.toInCall.fresh⟩, fun y b hb => ?_, J.apart, J.above⟩, I.base, fun y l q n => ?_, fun y l q n => ?_, fun y pl ds b q e => ?_, fun y z pl ds pl' ds' q q' e => ?_, fun p hp' => ?_, fun p hp' => mv k (I.tmp p hp')⟩
  · obtain ⟨h₁, tk, e⟩ := I.frame.toInCall.same
    exact ⟨h₂, _, by rw [e]⟩
  · obtain ⟨o, es, ep, e, r⟩ := J.toInCall.ns
    exact ⟨o, es, ep, hs _ _ (fun q => o2 q.symm) e, r⟩
  · obtain ⟨o, e, r⟩ := J.cell y b hb
    exact ⟨o, hs _ _ (fun q => o3 y b hb q.symm) e, r⟩
  · rcases hp.at nd q with ⟨rfl, rfl⟩ | ⟨ny, z⟩
    · exact I.val y _ hx (fun e => by cases e)
    · exact I.val y l z n
  · rcases hp.at nd q with ⟨rfl, rfl⟩ | ⟨ny, z⟩
    · exact ⟨a, vs', ha, hl, mvA Sub.rfl hd⟩
    · have h := I.has y l z n
      cases l with
      | un => exact trivial
      | fz d => exact mv k h
      | ow pl2 ds2 =>
        obtain ⟨b, us, eb, lb, r⟩ := h
        have nba : b ≠ a := fun q => ny (I.apart y x _ _ _ _ z hx (by rw [eb, ha, q]))
        refine ⟨b, us, eb, ?_, mvA k r⟩
        cases pl2 with
        | true => exact Heap.PlainList.at lb fun o e => hs _ _ nba (k _ _ e)
        | false => exact isList_sub lb fun o e => hs _ _ nba (k _ _ e)
  · obtain ⟨p1, d1, z⟩ := ow q
    exact I.own y p1 d1 b z e
  · obtain ⟨p1, d1, z1⟩ := ow q
    obtain ⟨p2, d2, z2⟩ := ow q'
    exact I.apart y z _ _ _ _ z1 z2 e
  · obtain ⟨l1, l2, l3, l4, l5⟩ := I.led p hp'
    refine ⟨hs _ _ (fun q => l5 x pl ds hx (by rw [ha, q])) (k _ _ l1), l2, l3, l4, fun y pl ds q => ?_⟩
    obtain ⟨p1, d1, z⟩ := ow q
    exact l5 y p1 d1 z

theorem Ts.append {x : Str} {px ap pos pos' : Pos} {e : Expr} {ds : List Dt} {d : Dt} {pl : Sem Bool} (K : F.Good) (hx : At F.ns σ x (.ow true ds)) (he : Ev F σ e d) (hp : Put F.ns σ x (.ow true (ds ++ [d])) σ') (hn : ds.length < 2 ^ 20) (h : ∀ s', Inv F s₀ O₀ Z σ' s' → Φ .next s') (hst : NoStar F.env [e] := by exact ⟨rfl, trivial⟩) (hi : interactive F.env = false := by rfl)
    (hm : eval (.Call (.Attribute (.Name x px) "append" ap) [e] [] pos) F.env = (do
      let ov ← eval (.Name x px) F.env
      standAt ap.atName
      let (f, first) ← holding [ov] (getMethod ov "append" pl)
      callWith pos f first (backTo pos (starEach [e] F.env)) []) := by rfl) :
    Ts F s₀ O₀ Z σ (.Expr (.Call (.Attribute (.Name x px) "append" ap) [e] [] pos) pos') Φ E := by
  rintro s ⟨c, m, cm, I⟩
  obtain ⟨rd, hh⟩ := I.vs K.toOk K.toNames x _ hx (fun e => by cases e)
  obtain ⟨a, vs, ea, ⟨n, la⟩, r⟩ := hh
  refine wpAny_Expr (MethodCall_ (rd _ s px _ _ Sub.rfl ?_) hm) hi rfl
  rw [ea]
  refine getMethod_list_append la rfl rfl ?_
  dsimp only
  refine callWith_builtin (noStar_any hst) ?_
  rw [hst.1]
  show wpAny _ _ (evalArgs _ true [(false, eval e F.env)] []) _ _ _
  refine evalArgs_plain (spliced_cons (wp_no (he _ c s _ I.gd (I.vs K.toOk K.toNames) fun v h₁ tk k d => spliced_nil ?_)))
  refine wpAny_list_append_plain (s := { s with heap := h₁, toks := tk }) ⟨n, k _ _ la⟩ (fun h₂ l₂ s₂ => ?_) (by
      have := r.length; have h1 : ds.length < 1048576 := hn; show vs.toArray.size ≤ 16777216; simp; omega)
  refine h _ ⟨c, m, cm, InvC.mutate (s := s) (tk := tk) (vs' := vs ++ [v]) K.toOk I k hx ea hp s₂.extBut ?_ ((r.mono k).append (.one d))⟩
  simpa using l₂

theorem Ts.setitem {x : Str} {px ip pos : Pos} {i e : Expr} {pl : Bool} {ds : List Dt} {d : Dt} {j : Int} (K : F.Good) (hx : At F.ns σ x (.ow pl ds)) (he : Ev F σ e d) (hi : Ev F σ i (.int j)) (h0 : 0 ≤ j) (hj : j.toNat < ds.length) (hn : ds.length < 2 ^ 20) (hp : Put F.ns σ x (.ow false (ds.set j.toNat d)) σ') (h : ∀ s', Inv F s₀ O₀ Z σ' s' → Φ .next s')
    (hs : swapsWith e (some (.Subscript (.Name x px) i ip)) pos.line F.env = pure false := by rfl) :
    Ts F s₀ O₀ Z σ (.Assign [.Subscript (.Name x px) i ip] e pos) Φ E := by
  rintro s ⟨c, m, cm, I⟩
  refine wpAny_Assign_Subscript (wp_no (he _ c s _ I.gd (I.vs K.toOk K.toNames) fun v h₁ t₁ k₁ d₁ => ?_)) hs
  have I₁ := I.keep (tk := t₁) k₁
  obtain ⟨rd, hh⟩ := I₁.vs K.toOk K.toNames x _ hx (fun e => by cases e)
  refine rd _ _ px _ _ Sub.rfl (wp_no (hi _ c _ _ I₁.gd (I₁.vs K.toOk K.toNames) fun u h₂ t₂ k₂ d₂ => ?_))
  obtain ⟨a, vs, ea, la, r⟩ := hh.isList
  cases d₂
  rw [ea]
  have hlen := r.length
  have hn' : ds.length < 1048576 := hn
  refine wpAny_setItem_list (s := { s with heap := h₂, toks := t₂ }) (isList_sub la fun o e => k₂ _ _ e) h0 (by omega) (by simp; omega) fun h₃ l₃ s₃ => ?_
  refine h _ ⟨c, m, cm, InvC.mutate (s := s) (h₁ := h₂) (tk := t₂) (vs' := vs.set j.toNat v) K.toOk I (k₁.trans k₂) hx ea hp s₃.extBut ?_ ((r.mono k₂).set (d₁.mono k₂) _)⟩
  simpa using l₃
end
end Mine
end
section
open PySem PySem.W PyProof.Rows PySem.Calls PySem.Spec
set_option Elab.async false
set_option maxRecDepth 100000
set_option linter.unusedVariables false
namespace Mine
section
variable {F : Fx} {s₀ s : Shared} {O₀ : Addr → Prop} {Z : Ex} {σ σ' σ₁ σ₂ : List LV} {c : Str → Value} {m cm : Str → Option Value} {Φ : Flow → Shared → Prop} {E : Value → Shared → Prop} {rest : List Stmt}

/-! values without a name -/
theorem InvC.ledgers {Z' : Ex} (I : InvC F s₀ O₀ Z σ c m cm s) (hl : Z'.led = Z.led) (ht : ∀ p ∈ Z'.tmp, Den s.heap (Om F O₀ Z σ c) p.1 p.2) : InvC F s₀ O₀ Z' σ c m cm s := by
  obtain ⟨led, tmp⟩ := Z'
  simp only at hl
  subst hl
  exact ⟨I.frame, I.base, I.val, I.has, I.own, I.apart, I.led, ht⟩

/-- assigning to a target -/
noncomputable def Ta (F : Fx) (s₀ : Shared) (O₀ : Addr → Prop) (σ : List LV) (t : Expr) (d : Dt) (σ' : List LV) : Prop :=
  ∀ (Z : Ex) (c : Str → Value) (m cm : Str → Option Value) (s : Shared) (v : Value) (Q : Unit → Shared → Prop), InvC F s₀ O₀ Z σ c m cm s → Den s.heap (Om F O₀ Z σ c) v d →
    (∀ c' m' cm' s', InvC F s₀ O₀ Z σ' c' m' cm' s' → Q () s') → wpAny F.M F.A (assign t F.env v) Q (fun _ _ => False) s
theorem Ta.name {x : Str} {p : Pos} {d : Dt} (K : F.Good) (hp : Put F.ns σ x (.fz d) σ') : Ta F s₀ O₀ σ (.Name x p) d σ' := by
  intro Z c m cm s v Q I hd q
  exact wpAny_assign_Name (I.store (tk := s.toks) K.toOk K.toNames Sub.rfl hp hd q)
theorem Ta.item {x : Str} {px p : Pos} {i : Expr} {pl : Bool} {ds : List Dt} {d : Dt} {j : Int} (K : F.Good) (hx : At F.ns σ x (.ow pl ds)) (hi : Ev F σ i (.int j)) (h0 : 0 ≤ j) (hj : j.toNat < ds.length) (hn : ds.length < 2 ^ 20) (hp : Put F.ns σ x (.ow false (ds.set j.toNat d)) σ') : Ta F s₀ O₀ σ (.Subscript (.Name x px) i p) d σ' := by
  intro Z c m cm s v Q I hd q
  rw [assign_Subscript]
  obtain ⟨rd, hh⟩ := I.vs K.toOk K.toNames x _ hx (fun e => by cases e)
  obtain ⟨a, vs, ea, la, r⟩ := hh.isList
  refine wpAny_bind (wpAny_holding (rd _ s px _ _ Sub.rfl (wpAny_bind (wpAny_holding (hi _ c s _ I.gd (I.vs K.toOk K.toNames) fun u h₂ t₂ k₂ d₂ => wpAny_bind (wpAny_standAt (wpAny_bind (wpAny_holding ?_))))))))
  cases d₂
  rw [ea]
  have hlen := r.length
  have hn' : ds.length < 1048576 := hn
  refine wpAny_setItem_list (s := { s with heap := h₂, toks := t₂ }) (isList_sub la fun o e => k₂ _ _ e) h0 (by omega) (by simp; omega) fun h₃ l₃ s₃ => ?_
  have fin : Q () { s with heap := h₃, toks := t₂ } := q c m cm { s with heap := h₃, toks := t₂ } (InvC.mutate (s := s) (h₁ := h₂) (tk := t₂) (vs' := vs.set j.toNat v) K.toOk I k₂ hx ea hp s₃.extBut (by simpa using l₃) ((r.mono k₂).set (hd.mono k₂) _))
  intro Γ pp hΓ
  rw [Sem.wp_release]
  exact fin
theorem Ta.weak (K : F.Good) {t : Expr} {d : Dt} (h : Ta F s₀ O₀ σ t d σ₁) (w : Wk σ₁ σ') : Ta F s₀ O₀ σ t d σ' :=
  fun Z c m cm s v Q I hd q => h Z c m cm s v Q I hd fun c' m' cm' s' J => q c' m' cm' s' (J.weak K.toOk w)
/-- a pair's two targets, one behind the other -/
theorem assign2 {t₁ t₂ : Expr} {d₁ d₂ : Dt} {v₁ v₂ : Value} {Q : Unit → Shared → Prop} (K : F.Good) (h₁ : Ta F s₀ O₀ σ t₁ d₁ σ₁) (h₂ : Ta F s₀ O₀ σ₁ t₂ d₂ σ') (I : InvC F s₀ O₀ Z σ c m cm s) (a₁ : Den s.heap (Om F O₀ Z σ c) v₁ d₁) (a₂ : Den s.heap (Om F O₀ Z σ c) v₂ d₂)
    (q : ∀ c' m' cm' s', InvC F s₀ O₀ Z σ' c' m' cm' s' → Q () s') : wpAny F.M F.A (assignInOrder [assign t₁ F.env, assign t₂ F.env] [v₁, v₂]) Q (fun _ _ => False) s := by
  have J := I.ledgers (Z' := { Z with tmp := (v₂, d₂) :: Z.tmp }) rfl (fun p hp => by
    rcases List.mem_cons.mp hp with rfl | hp
    · exact a₂
    · exact I.tmp p hp)
  refine assignInOrder_cons (h₁ { Z with tmp := (v₂, d₂) :: Z.tmp } c m cm s v₁ _ J a₁ fun c₁ m₁ cm₁ s₁ I₁ => ?_)
  refine assignInOrder_cons (h₂ Z c₁ m₁ cm₁ s₁ v₂ _ (I₁.ledgers rfl fun p hp => I₁.tmp p (.tail _ hp)) (I₁.tmp _ (.head _)) fun c₂ m₂ cm₂ s₂ I₂ => assignInOrder_nil (q c₂ m₂ cm₂ s₂ I₂))
theorem Ta.pair {t₁ t₂ : Expr} {d₁ d₂ : Dt} {k : Nat} {p : Pos} (K : F.Good) (h₁ : Ta F s₀ O₀ σ t₁ d₁ σ₁) (h₂ : Ta F s₀ O₀ σ₁ t₂ d₂ σ') (he : assignEach [t₁, t₂] F.env = [(false, assign t₁ F.env), (false, assign t₂ F.env)] := by rfl) :
    Ta F s₀ O₀ σ (.Tuple [t₁, t₂] k p) (.tup [d₁, d₂]) σ' := by
  intro Z c m cm s v Q I hd q
  obtain ⟨a, vs, rfl, tp, na, r⟩ := hd.tup_inv
  cases r with
  | cons x₁ r =>
  cases r with
  | cons x₂ r =>
  cases r
  refine assign_Tuple_tuple K.room.hand tp (by rw [he]; rfl) (by rw [he]; rfl) fun h' eb => ?_
  have k : Sub s.heap h' := fun b o e => eb b o (Nat.ne_of_lt (Heap.lt_size e)) e
  have := assign2 (s := { s with heap := h' }) (Q := Q) K h₁ h₂ (I.keep (tk := s.toks) k) (x₁.mono k) (x₂.mono k) q
  rw [he]
  exact this
theorem Ts.assignT {t₁ t₂ e : Expr} {d : Dt} {k : Nat} {p pos : Pos} (K : F.Good) (he : Ev F σ e d) (ht : Ta F s₀ O₀ σ (.Tuple [t₁, t₂] k p) d σ') (h : ∀ s', Inv F s₀ O₀ Z σ' s' → Φ .next s')
    (hs : swapsWithSole [.Tuple [t₁, t₂] k p] e pos.line F.env = pure false := by rfl) (hw : swappedStores [.Tuple [t₁, t₂] k p] e F.env = pure none := by rfl) : Ts F s₀ O₀ Z σ (.Assign [.Tuple [t₁, t₂] k p] e pos) Φ E := by
  rintro s ⟨c, m, cm, I⟩
  refine Assign_Tuple (wp_no (he _ c s _ I.gd (I.vs K.toOk K.toNames) fun v h₁ t₁ k₁ d₁ => ?_)) hs hw
  exact wp_no (ht Z c m cm _ v _ (I.keep k₁) d₁ fun c' m' cm' s' J => h s' ⟨c', m', cm', J⟩)
/-- a, b = (x, y) : the machine stores the last first -/
theorem Ts.swap {a b : Str} {pa pb : Pos} {e : Expr} {d₁ d₂ : Dt} {k : Nat} {p pos : Pos} (K : F.Good) (he : Ev F σ e (.tup [d₁, d₂])) (h₁ : Put F.ns σ b (.fz d₂) σ₁) (h₂ : Put F.ns σ₁ a (.fz d₁) σ') (h : ∀ s', Inv F s₀ O₀ Z σ' s' → Φ .next s')
    (hs : swapsWithSole [.Tuple [.Name a pa, .Name b pb] k p] e pos.line F.env = pure false := by rfl) (hw : swappedStores [.Tuple [.Name a pa, .Name b pb] k p] e F.env = pure (some [a, b]) := by rfl) : Ts F s₀ O₀ Z σ (.Assign [.Tuple [.Name a pa, .Name b pb] k p] e pos) Φ E := by
  rintro s ⟨c, m, cm, I⟩
  refine Assign_Tuple_swapped (wp_no (he _ c s _ I.gd (I.vs K.toOk K.toNames) fun v h₁' t₁ k₁ dd => ?_)) hs hw
  obtain ⟨t, vs, rfl, tp, na, r⟩ := dd.tup_inv
  cases r with
  | cons x₁ r =>
  cases r with
  | cons x₂ r =>
  cases r
  rename_i w₁ w₂
  have go : ∀ {Q : List Value → Shared → Prop}, (∀ h', Heap.ExtBut h₁'.objs.size h₁' h' → Q [w₁, w₂] { s with heap := h', toks := t₁ }) → wpAny F.M F.A (unpackItems (.ref t) 2 none) Q (fun _ _ => False) { s with heap := h₁', toks := t₁ } :=
    fun q => unpackItems_tuple (s := { s with heap := h₁', toks := t₁ }) (items := [w₁, w₂].toArray) K.room.hand tp q
  refine wp_no (go fun h' eb => ?_)
  have k : Sub h₁' h' := fun b o e => eb b o (Nat.ne_of_lt (Heap.lt_size e)) e
  have T₁ : Ta F s₀ O₀ σ (.Name b pb) d₂ σ₁ := Ta.name K h₁
  have T₂ : Ta F s₀ O₀ σ₁ (.Name a pa) d₁ σ' := Ta.name K h₂
  have I' : InvC F s₀ O₀ Z σ c m cm { s with heap := h', toks := t₁ } := I.keep (k₁.trans k)
  have J := I'.ledgers (Z' := { Z with tmp := (_, d₁) :: Z.tmp }) rfl (fun p hp => by
    rcases List.mem_cons.mp hp with rfl | hp
    · exact x₁.mono k
    · exact I'.tmp p hp)
  show wpAny _ _ (assignInOrder [bindName F.env b, bindName F.env a] _) _ _ _
  refine assignInOrder_cons (wpAny_bindName (InvC.store (s := { s with heap := h', toks := t₁ }) (tk := t₁) K.toOk K.toNames J Sub.rfl h₁ (x₂.mono k) fun c₁ m₁ cm₁ s₁ I₁ => ?_))
  refine assignInOrder_cons (wpAny_bindName ((I₁.ledgers (Z' := Z) rfl fun p hp => I₁.tmp p (.tail _ hp)).store (tk := s₁.toks) K.toOk K.toNames Sub.rfl h₂ (I₁.tmp _ (.head _)) fun c₂ m₂ cm₂ s₂ I₂ => ?_))
  exact assignInOrder_nil (h _ ⟨c₂, m₂, cm₂, I₂⟩)

/-! a loop's iterator -/
theorem InvC.alloc {h' : Heap} {tk : Nat} {I₀ : Addr} {o : Obj} (I : InvC F s₀ O₀ Z σ c m cm s) (k : Sub s.heap h') (n : s.heap.get? I₀ = none) (e : h'.get? I₀ = some o) : InvC F s₀ O₀ { Z with led := (I₀, o) :: Z.led } σ c m cm { s with heap := h', toks := tk } := by
  have g := I.gd
  have J := I.keep (tk := tk) k
  have ne : ∀ a, Om F O₀ Z σ c a → a ≠ I₀ := fun a q z => by obtain ⟨o, e⟩ := g.live a q; rw [z, n] at e; cases e
  have mv : ∀ {v d}, Den s.heap (Om F O₀ Z σ c) v d → Den h' (Om F O₀ { Z with led := (I₀, o) :: Z.led } σ c) v d := fun z => z.move fun b o' nb e' => ⟨k b o' e', fun q => by
    rcases q with q | q | q | q | ⟨o, q⟩
    · exact nb (.inl q)
    · exact nb (.inr (.inl q))
    · exact nb (.inr (.inr (.inl q)))
    · exact nb (.inr (.inr (.inr (.inl q))))
    · rcases List.mem_cons.mp q with q | q
      · cases q; rw [n] at e'; cases e'
      · exact nb (.inr (.inr (.inr (.inr ⟨o, q⟩))))⟩
  have mvA : ∀ {v d}, DenAll s.heap (Om F O₀ Z σ c) v d → DenAll h' (Om F O₀ { Z with led := (I₀, o) :: Z.led } σ c) v d := fun z => z.move fun b o' nb e' => ⟨k b o' e', fun q => by
    rcases q with q | q | q | q | ⟨o, q⟩
    · exact nb (.inl q)
    · exact nb (.inr (.inl q))
    · exact nb (.inr (.inr (.inl q)))
    · exact nb (.inr (.inr (.inr (.inl q))))
    · rcases List.mem_cons.mp q with q | q
      · cases q; rw [n] at e'; cases e'
      · exact nb (.inr (.inr (.inr (.inr ⟨o, q⟩))))⟩
  refine ⟨J.frame, J.base, J.val, fun x l a nl => ?_, J.own, J.apart, fun p hp => ?_, fun p hp => mv (I.tmp p hp)⟩
  · have h := I.has x l a nl
    cases l with
    | un => exact trivial
    | fz d => exact mv h
    | ow pl ds =>
      obtain ⟨b, vs, eb, lb, r⟩ := h
      refine ⟨b, vs, eb, ?_, mvA r⟩
      cases pl with
      | true => exact Heap.PlainList.at lb fun o e => k _ _ e
      | false => exact isList_sub lb fun o e => k _ _ e
  · rcases List.mem_cons.mp hp with rfl | hp
    · refine ⟨e, ?_, fun q => ne _ (.inr (.inl rfl)) q.symm, fun y b hb q => ne _ (.inr (.inr (.inl ⟨y, hb⟩))) q.symm, fun x pl ds a q => ne _ (.inr (.inr (.inr (.inl ⟨x, pl, ds, a, q⟩)))) rfl⟩
      cases q : s₀.heap.get? I₀ with
      | none => rfl
      | some o' => have := I.sub _ _ q; rw [n] at this; cases this
    · exact J.led p hp
theorem InvC.turn {h' : Heap} {tk : Nat} {I₀ : Addr} {o o' : Obj} {L : List (Addr × Obj)} (I : InvC F s₀ O₀ { Z with led := (I₀, o) :: L } σ c m cm s) (hL : ∀ p ∈ L, p.1 ≠ I₀) (k : ∀ b x, b ≠ I₀ → s.heap.get? b = some x → h'.get? b = some x) (e : h'.get? I₀ = some o') :
    InvC F s₀ O₀ { Z with led := (I₀, o') :: L } σ c m cm { s with heap := h', toks := tk } := by
  obtain ⟨l1, l2, l3, l4, l5⟩ := I.led _ (.head _)
  have hI : Om F O₀ { Z with led := (I₀, o) :: L } σ c I₀ := .inr (.inr (.inr (.inr ⟨o, .head _⟩)))
  have le : ∀ b, Om F O₀ { Z with led := (I₀, o') :: L } σ c b → Om F O₀ { Z with led := (I₀, o) :: L } σ c b := by
    intro b q
    rcases q with q | q | q | q | ⟨w, q⟩
    · exact .inl q
    · exact .inr (.inl q)
    · exact .inr (.inr (.inl q))
    · exact .inr (.inr (.inr (.inl q)))
    · rcases List.mem_cons.mp q with q | q
      · cases q; exact hI
      · exact .inr (.inr (.inr (.inr ⟨w, .tail _ q⟩)))
  have mv : ∀ {v d}, Den s.heap (Om F O₀ { Z with led := (I₀, o) :: L } σ c) v d → Den h' (Om F O₀ { Z with led := (I₀, o') :: L } σ c) v d := fun z => z.move fun b x nb e => ⟨k b x (fun q => nb (q ▸ hI)) e, fun q => nb (le b q)⟩
  have mvA : ∀ {v d}, DenAll s.heap (Om F O₀ { Z with led := (I₀, o) :: L } σ c) v d → DenAll h' (Om F O₀ { Z with led := (I₀, o') :: L } σ c) v d := fun z => z.move fun b x nb e => ⟨k b x (fun q => nb (q ▸ hI)) e, fun q => nb (le b q)⟩
  refine ⟨⟨⟨?_, ?_, fun b x e => k b x (fun q => by rw [q, l2] at e; cases e) (I.sub b x e), I.frame.toInCall.fresh⟩, fun y b hb => ?_, I.frame.apart, I.frame.above⟩, I.base, I.val, fun x l a n => ?_, I.own, I.apart, fun p hp => ?_, fun p hp => mv (I.tmp p hp)⟩
  · obtain ⟨h₁, t, e⟩ := I.frame.toInCall.same
    exact ⟨h', _, by rw [e]⟩
  · obtain ⟨x, es, ep, e, r⟩ := I.frame.toInCall.ns
    exact ⟨x, es, ep, k _ _ (fun q => l3 q.symm) e, r⟩
  · obtain ⟨x, e, r⟩ := I.frame.cell y b hb
    exact ⟨x, k _ _ (fun q => l4 y b hb q.symm) e, r⟩
  · have h := I.has x l a n
    cases l with
    | un => exact trivial
    | fz d => exact mv h
    | ow pl ds =>
      obtain ⟨b, vs, eb, lb, r⟩ := h
      have nb : b ≠ I₀ := fun q => l5 x pl ds a (by rw [eb, q])
      refine ⟨b, vs, eb, ?_, mvA r⟩
      cases pl with
      | true => exact Heap.PlainList.at lb fun o e => k _ _ nb e
      | false => exact isList_sub lb fun o e => k _ _ nb e
  · rcases List.mem_cons.mp hp with rfl | hp
    · exact ⟨e, l2, l3, l4, l5⟩
    · obtain ⟨a1, a2⟩ := I.led p (.tail _ hp)
      exact ⟨k _ _ (hL p hp) a1, a2⟩
theorem InvC.leave {h' : Heap} {tk : Nat} {I₀ : Addr} {o : Obj} {L : List (Addr × Obj)} (I : InvC F s₀ O₀ { Z with led := (I₀, o) :: L } σ c m cm s) (hL : ∀ p ∈ L, p.1 ≠ I₀) (k : ∀ b x, b ≠ I₀ → s.heap.get? b = some x → h'.get? b = some x) :
    InvC F s₀ O₀ { Z with led := L } σ c m cm { s with heap := h', toks := tk } := by
  obtain ⟨l1, l2, l3, l4, l5⟩ := I.led _ (.head _)
  have hI : Om F O₀ { Z with led := (I₀, o) :: L } σ c I₀ := .inr (.inr (.inr (.inr ⟨o, .head _⟩)))
  have le : ∀ b, Om F O₀ { Z with led := L } σ c b → Om F O₀ { Z with led := (I₀, o) :: L } σ c b := by
    intro b q
    rcases q with q | q | q | q | ⟨w, q⟩
    · exact .inl q
    · exact .inr (.inl q)
    · exact .inr (.inr (.inl q))
    · exact .inr (.inr (.inr (.inl q)))
    · exact .inr (.inr (.inr (.inr ⟨w, .tail _ q⟩)))
  have mv : ∀ {v d}, Den s.heap (Om F O₀ { Z with led := (I₀, o) :: L } σ c) v d → Den h' (Om F O₀ { Z with led := L } σ c) v d := fun z => z.move fun b x nb e => ⟨k b x (fun q => nb (q ▸ hI)) e, fun q => nb (le b q)⟩
  have mvA : ∀ {v d}, DenAll s.heap (Om F O₀ { Z with led := (I₀, o) :: L } σ c) v d → DenAll h' (Om F O₀ { Z with led := L } σ c) v d := fun z => z.move fun b x nb e => ⟨k b x (fun q => nb (q ▸ hI)) e, fun q => nb (le b q)⟩
  refine ⟨⟨⟨?_, ?_, fun b x e => k b x (fun q => by rw [q, l2] at e; cases e) (I.sub b x e), I.frame.toInCall.fresh⟩, fun y b hb => ?_, I.frame.apart, I.frame.above⟩, I.base, I.val, fun x l a n => ?_, I.own, I.apart, fun p hp => ?_, fun p hp => mv (I.tmp p hp)⟩
  · obtain ⟨h₁, t, e⟩ := I.frame.toInCall.same
    exact ⟨h', _, by rw [e]⟩
  · obtain ⟨x, es, ep, e, r⟩ := I.frame.toInCall.ns
    exact ⟨x, es, ep, k _ _ (fun q => l3 q.symm) e, r⟩
  · obtain ⟨x, e, r⟩ := I.frame.cell y b hb
    exact ⟨x, k _ _ (fun q => l4 y b hb q.symm) e, r⟩
  · have h := I.has x l a n
    cases l with
    | un => exact trivial
    | fz d => exact mv h
    | ow pl ds =>
      obtain ⟨b, vs, eb, lb, r⟩ := h
      have nb : b ≠ I₀ := fun q => l5 x pl ds a (by rw [eb, q])
      refine ⟨b, vs, eb, ?_, mvA r⟩
      cases pl with
      | true => exact Heap.PlainList.at lb fun o e => k _ _ nb e
      | false => exact isList_sub lb fun o e => k _ _ nb e
  · obtain ⟨a1, a2⟩ := I.led p (.tail _ hp)
    exact ⟨k _ _ (hL p hp) a1, a2⟩
theorem InvC.drop {Z' : Ex} (I : InvC F s₀ O₀ Z σ c m cm s) (hl : ∀ p ∈ Z'.led, p ∈ Z.led) (ht : ∀ p ∈ Z'.tmp, p ∈ Z.tmp) : InvC F s₀ O₀ Z' σ c m cm s := by
  have le : ∀ b, Om F O₀ Z' σ c b → Om F O₀ Z σ c b := by
    intro b q
    rcases q with q | q | q | q | ⟨w, q⟩
    · exact .inl q
    · exact .inr (.inl q)
    · exact .inr (.inr (.inl q))
    · exact .inr (.inr (.inr (.inl q)))
    · exact .inr (.inr (.inr (.inr ⟨w, hl _ q⟩)))
  have mv : ∀ {v d}, Den s.heap (Om F O₀ Z σ c) v d → Den s.heap (Om F O₀ Z' σ c) v d := fun z => z.move fun b x nb e => ⟨e, fun q => nb (le b q)⟩
  have mvA : ∀ {v d}, DenAll s.heap (Om F O₀ Z σ c) v d → DenAll s.heap (Om F O₀ Z' σ c) v d := fun z => z.move fun b x nb e => ⟨e, fun q => nb (le b q)⟩
  refine ⟨I.frame, I.base, I.val, fun x l a n => ?_, I.own, I.apart, fun p hp => I.led p (hl p hp), fun p hp => mv (I.tmp p (ht p hp))⟩
  have h := I.has x l a n
  cases l with
  | un => exact trivial
  | fz d => exact mv h
  | ow pl ds => obtain ⟨b, vs, eb, lb, r⟩ := h; exact ⟨b, vs, eb, lb, mvA r⟩
end
end Mine
end
section
open PySem PySem.W PyProof.Rows PySem.Calls PySem.Spec
set_option Elab.async false
set_option maxRecDepth 100000
set_option linter.unusedVariables false
namespace Mine
section
variable {F : Fx} {s₀ s : Shared} {O₀ : Addr → Prop} {Z : Ex} {σ σ' σ₁ σ₂ : List LV} {c : Str → Value} {m cm : Str → Option Value} {Φ : Flow → Shared → Prop} {E : Value → Shared → Prop} {rest : List Stmt}

/-- how an iterator goes: P i o: the object o has handed i items -/
structure Iter (F : Fx) (s₀ : Shared) (O₀ : Addr → Prop) (target : Expr) (I₀ : Addr) (n : Nat) (P : Nat → Obj → Prop) (tp : List (Value × Dt)) (d : Nat → Dt) : Prop where
  item : ∀ i o (Z : Ex) σ c m cm s (Q : Option Value → Shared → Prop), i < n → P i o → (∀ p ∈ Z.led, p.1 ≠ I₀) → InvC F s₀ O₀ { led := (I₀, o) :: Z.led, tmp := tp ++ Z.tmp } σ c m cm s →
    (∀ v o' h' tk, P (i + 1) o' → (∀ b x, b ≠ I₀ → s.heap.get? b = some x → h'.get? b = some x) → h'.get? I₀ = some o' → Den h' (Om F O₀ { led := (I₀, o) :: Z.led, tmp := tp ++ Z.tmp } σ c) v (d i) →
      (∀ (Q' : Unit → Shared → Prop), Q' () { s with heap := h', toks := tk } → wpAny F.M F.A (letOwnedTupleGo target (.ref I₀) v) Q' (fun _ _ => False) { s with heap := h', toks := tk }) → Q (some v) { s with heap := h', toks := tk }) →
    wpAny F.M F.A (pyNext (.ref I₀)) Q (fun _ _ => False) s
  done : ∀ o (Z : Ex) σ c m cm s (Q : Option Value → Shared → Prop), P n o → (∀ p ∈ Z.led, p.1 ≠ I₀) → InvC F s₀ O₀ { led := (I₀, o) :: Z.led, tmp := tp ++ Z.tmp } σ c m cm s →
    (∀ h' tk, (∀ b x, b ≠ I₀ → s.heap.get? b = some x → h'.get? b = some x) → Q none { s with heap := h', toks := tk }) →
    wpAny F.M F.A (pyNext (.ref I₀)) Q (fun _ _ => False) s

/-- the loop's own run, the iterator made -/
noncomputable def Rt (Φ : Flow → Shared → Prop) : Flow → Shared → Prop := fun f s' => match f with
  | .ret v => Φ (.ret v) s'
  | _ => False
theorem loop_coreR {R : Nat → Prop} (hR : R 0) {target : Expr} {body : List Stmt} {I₀ : Addr} {o₀ : Obj} {n : Nat} {P : Nat → Obj → Prop} {tp : List (Value × Dt)} {d : Nat → Dt} (K : F.Good) (T : Iter F s₀ O₀ target I₀ n P tp d) (σf σb : Nat → List LV) (hI : ∀ p ∈ Z.led, p.1 ≠ I₀)
    (ht : ∀ i, i < n → Ta F s₀ O₀ (σf i) target (d i) (σb i)) (hb : ∀ Z' i, i < n → R i → (R (i + 1) ∧ Tr F s₀ O₀ Z' (σb i) body (Lp F s₀ O₀ Z' (σf (i + 1)) Φ) (fun _ _ => False)) ∨ Tr F s₀ O₀ Z' (σb i) body (Rt Φ) (fun _ _ => False))
    (hq : R n → ∀ s', Inv F s₀ O₀ Z (σf n) s' → Φ .next s') (h0 : P 0 o₀) (I : Inv F s₀ O₀ { led := (I₀, o₀) :: Z.led, tmp := tp ++ Z.tmp } (σf 0) s) :
    codeAny F.M F.A (.forLoop target (.ref I₀) body [] F.env) (fun r s' => match r with | .ok f => Φ f s' | .error e => cameBackBy F.M F.A F.env E e s') s := by
  refine codeAny_forLoop_any (fun k s' => ∃ i o, i ≤ n ∧ k = n - i ∧ R i ∧ P i o ∧ Inv F s₀ O₀ { led := (I₀, o) :: Z.led, tmp := tp ++ Z.tmp } (σf i) s') ?_ n ⟨0, o₀, Nat.zero_le _, rfl, hR, h0, I⟩
  rintro k s ⟨i, o, hi, rfl, hRi, hP, c, m, cm, I⟩
  by_cases hlt : i < n
  · refine wp_no (T.item i o Z _ c m cm s _ hlt hP hI I fun v o' h' tk hP' k' e' dv go => ?_)
    have J := I.turn (Z := { led := (I₀, o) :: Z.led, tmp := tp ++ Z.tmp }) (tk := tk) hI k' e'
    have le : Den h' (Om F O₀ { led := (I₀, o') :: Z.led, tmp := tp ++ Z.tmp } (σf i) c) v (d i) := dv.move fun b x nb e => ⟨e, fun q => nb (by
      rcases q with q | q | q | q | ⟨w, q⟩
      · exact .inl q
      · exact .inr (.inl q)
      · exact .inr (.inr (.inl q))
      · exact .inr (.inr (.inr (.inl q)))
      · rcases List.mem_cons.mp q with q | q
        · cases q; exact .inr (.inr (.inr (.inr ⟨o, .head _⟩)))
        · exact .inr (.inr (.inr (.inr ⟨w, .tail _ q⟩))))⟩
    refine wp_no (go _ (wp_no (ht i hlt _ c m cm _ v _ J le fun c' m' cm' s' I' => ?_)))
    rcases hb { led := (I₀, o') :: Z.led, tmp := tp ++ Z.tmp } i hlt hRi with ⟨hR', hb⟩ | hb
    · refine wp_no (wpAny_mono (hb s' ⟨c', m', cm', I'⟩) (fun f s₃ q => ?_) fun _ _ e => e)
      cases f with
      | next => exact ⟨n - (i + 1), by omega, i + 1, o', by omega, rfl, hR', hP', q⟩
      | cont => exact ⟨n - (i + 1), by omega, i + 1, o', by omega, rfl, hR', hP', q⟩
      | brk => exact q.elim
      | ret v => exact q
    · refine wp_no (wpAny_mono (hb s' ⟨c', m', cm', I'⟩) (fun f s₃ q => ?_) fun _ _ e => e)
      cases f with
      | next => exact q.elim
      | cont => exact q.elim
      | brk => exact q.elim
      | ret v => exact q
  · have hin : i = n := by omega
    subst hin
    refine wp_no (T.done o Z _ c m cm s _ hP hI I fun h' tk k' => ?_)
    have I' : InvC F s₀ O₀ { led := (I₀, o) :: Z.led, tmp := tp ++ Z.tmp } (σf i) c m cm s := I
    refine wpAny_execs_nil (hq hRi _ ?_)
    have J := I'.leave (Z := { led := (I₀, o) :: Z.led, tmp := tp ++ Z.tmp }) (tk := tk) hI k'
    exact ⟨c, m, cm, J.drop (fun p hp => hp) (fun p hp => List.mem_append.mpr (.inr hp))⟩

theorem loop_core {target : Expr} {body : List Stmt} {I₀ : Addr} {o₀ : Obj} {n : Nat} {P : Nat → Obj → Prop} {tp : List (Value × Dt)} {d : Nat → Dt} (K : F.Good) (T : Iter F s₀ O₀ target I₀ n P tp d) (σf σb : Nat → List LV) (hI : ∀ p ∈ Z.led, p.1 ≠ I₀)
    (ht : ∀ i, i < n → Ta F s₀ O₀ (σf i) target (d i) (σb i)) (hb : ∀ Z' i, i < n → Tr F s₀ O₀ Z' (σb i) body (Lp F s₀ O₀ Z' (σf (i + 1)) Φ) (fun _ _ => False))
    (hq : ∀ s', Inv F s₀ O₀ Z (σf n) s' → Φ .next s') (h0 : P 0 o₀) (I : Inv F s₀ O₀ { led := (I₀, o₀) :: Z.led, tmp := tp ++ Z.tmp } (σf 0) s) :
    codeAny F.M F.A (.forLoop target (.ref I₀) body [] F.env) (fun r s' => match r with | .ok f => Φ f s' | .error e => cameBackBy F.M F.A F.env E e s') s :=
  loop_coreR (R := fun _ => True) trivial K T σf σb hI ht (fun Z' i hi _ => .inl ⟨trivial, hb Z' i hi⟩) (fun _ => hq) h0 I
noncomputable def riObj (a : Int) (left : Int) : Obj := { cls := .type "range_iterator", data := .fields #[rawInt a, rawInt left, rawInt 1] }
noncomputable def PlainT (t : Expr) : Prop := ∀ it v, letOwnedTupleGo t it v = pure ()
theorem iter_range {target : Expr} {I₀ : Addr} {a : Int} {n : Nat} (K : F.Good) (hg : PlainT target) : Iter F s₀ O₀ target I₀ n (fun i o => o = riObj (a + (i : Nat) * 1) ((n : Int) - (i : Nat))) [] (fun i => .int (a + (i : Nat) * 1)) where
  item := by
    rintro i o Z σ c m cm s Q hi rfl hI I q
    refine (Walks.range (prog := F.W.prog) (w := F.W.w) K.room.hand I₀ a 1 n).item i s _ _ hi (I.led _ (.head _)).1 fun v h' tk hv st k => ?_
    obtain ⟨t, rfl⟩ := hv
    exact q _ _ h' tk rfl (fun b x nb e => k b x (by simpa using nb) e) st (.int _ _) fun Q' q' => by rw [hg]; exact wpAny_pure q'
  done := by
    rintro o Z σ c m cm s Q rfl hI I q
    exact (Walks.range (prog := F.W.prog) (w := F.W.w) K.room.hand I₀ a 1 n).done s _ _ (I.led _ (.head _)).1 fun h' tk k => q h' tk fun b x nb e => k b x (by simpa using nb) e
theorem led_ne {a : Addr} (I : InvC F s₀ O₀ Z σ c m cm s) (n : s.heap.get? a = none) : ∀ p ∈ Z.led, p.1 ≠ a := fun p hp q => by
  have := (I.led p hp).1
  rw [q, n] at this; cases this
theorem ge_none {h : Heap} {a : Addr} (k : h.objs.size ≤ a) : h.get? a = none := by
  cases e : h.get? a with
  | none => rfl
  | some o => exact absurd (Heap.lt_size e) (Nat.not_lt.mpr k)

theorem range_go {target : Expr} {body : List Stmt} {r : Addr} {a b : Nat} {t u v : Tok} {h₁ : Heap} {t₁ : Nat} (K : F.Good) (hg : PlainT target) (hab : a ≤ b) (hn : (b : Int) < 2 ^ 62) (σf σb : Nat → List LV) (I : InvC F s₀ O₀ Z (σf 0) c m cm s) (k : Sub s.heap h₁) (hr : IsRange h₁ r a b 1 t u v)
    (ht : ∀ i, i < b - a → Ta F s₀ O₀ (σf i) target (.int ((a + i : Nat) : Int)) (σb i)) (hb : ∀ Z' i, i < b - a → Tr F s₀ O₀ Z' (σb i) body (Lp F s₀ O₀ Z' (σf (i + 1)) Φ) (fun _ _ => False)) (hq : ∀ s', Inv F s₀ O₀ Z (σf (b - a)) s' → Φ .next s') :
    wpAny F.M F.A (pyIter (.ref r)) (fun it s₂ => codeAny F.M F.A (.forLoop target it body [] F.env) (fun r s' => match r with | .ok f => Φ f s' | .error e => cameBackBy F.M F.A F.env E e s') s₂) E { s with heap := h₁, toks := t₁ } := by
  refine wpAny_pyIter_range hr (small_one (by omega) (by omega) (by omega) hn) ?_
  have hsz : Builtin.Range.rangeSize (a : Int) b 1 = ((b - a : Nat) : Int) := by
    rw [rangeSize_one]
    split <;> omega
  have J := I.keep (tk := t₁) k
  have nn : s.heap.get? h₁.objs.size = none := size_fresh k
  have I' := I.alloc (tk := t₁) (h' := h₁.push { cls := .type "range_iterator", data := .fields #[rawInt (a : Int), rawInt (Builtin.Range.rangeSize (a : Int) b 1), rawInt 1] }) (k.trans (Sub.push _ _)) nn (Heap.get?_push_size _ rfl)
  refine loop_core K (iter_range (a := (a : Int)) (n := b - a) K hg) σf σb (led_ne I nn) (fun i hi => ?_) hb hq ?_ ⟨c, m, cm, I'⟩
  · have := ht i hi
    rw [show ((a + i : Nat) : Int) = (a : Int) + (i : Nat) * 1 by omega] at this
    exact this
  · show _ = riObj _ _
    rw [hsz]
    unfold riObj
    simp

theorem range_goR {R : Nat → Prop} (hR : R 0) {target : Expr} {body : List Stmt} {r : Addr} {a b : Nat} {t u v : Tok} {h₁ : Heap} {t₁ : Nat} (K : F.Good) (hg : PlainT target) (hab : a ≤ b) (hn : (b : Int) < 2 ^ 62) (σf σb : Nat → List LV) (I : InvC F s₀ O₀ Z (σf 0) c m cm s) (k : Sub s.heap h₁) (hr : IsRange h₁ r a b 1 t u v)
    (ht : ∀ i, i < b - a → Ta F s₀ O₀ (σf i) target (.int ((a + i : Nat) : Int)) (σb i)) (hb : ∀ Z' i, i < b - a → R i → (R (i + 1) ∧ Tr F s₀ O₀ Z' (σb i) body (Lp F s₀ O₀ Z' (σf (i + 1)) Φ) (fun _ _ => False)) ∨ Tr F s₀ O₀ Z' (σb i) body (Rt Φ) (fun _ _ => False)) (hq : R (b - a) → ∀ s', Inv F s₀ O₀ Z (σf (b - a)) s' → Φ .next s') :
    wpAny F.M F.A (pyIter (.ref r)) (fun it s₂ => codeAny F.M F.A (.forLoop target it body [] F.env) (fun r s' => match r with | .ok f => Φ f s' | .error e => cameBackBy F.M F.A F.env E e s') s₂) E { s with heap := h₁, toks := t₁ } := by
  refine wpAny_pyIter_range hr (small_one (by omega) (by omega) (by omega) hn) ?_
  have hsz : Builtin.Range.rangeSize (a : Int) b 1 = ((b - a : Nat) : Int) := by
    rw [rangeSize_one]
    split <;> omega
  have J := I.keep (tk := t₁) k
  have nn : s.heap.get? h₁.objs.size = none := size_fresh k
  have I' := I.alloc (tk := t₁) (h' := h₁.push { cls := .type "range_iterator", data := .fields #[rawInt (a : Int), rawInt (Builtin.Range.rangeSize (a : Int) b 1), rawInt 1] }) (k.trans (Sub.push _ _)) nn (Heap.get?_push_size _ rfl)
  refine loop_coreR hR K (iter_range (a := (a : Int)) (n := b - a) K hg) σf σb (led_ne I nn) (fun i hi => ?_) hb hq ?_ ⟨c, m, cm, I'⟩
  · have := ht i hi
    rw [show ((a + i : Nat) : Int) = (a : Int) + (i : Nat) * 1 by omega] at this
    exact this
  · show _ = riObj _ _
    rw [hsz]
    unfold riObj
    simp

theorem Ts.forRange {target e : Expr} {body : List Stmt} {p p' pos : Pos} {n : Nat} (K : F.Good) (b : Bui F "range" (.type "range")) (he : Ev F σ e (.int n)) (hn : (n : Int) < 2 ^ 62) (σf σb : Nat → List LV) (w : Wk σ (σf 0))
    (ht : ∀ i, i < n → Ta F s₀ O₀ (σf i) target (.int (i : Int)) (σb i)) (hb : ∀ Z' i, i < n → Tr F s₀ O₀ Z' (σb i) body (Lp F s₀ O₀ Z' (σf (i + 1)) Φ) (fun _ _ => False)) (hq : ∀ s', Inv F s₀ O₀ Z (σf n) s' → Φ .next s')
    (hg : PlainT target := by intro _ _; rfl) (hs : NoStar F.env [e] := by exact ⟨rfl, trivial⟩) : Ts F s₀ O₀ Z σ (.For target (.Call (.Name "range" p) [e] [] p') body [] pos) Φ E := by
  rintro s ⟨c, m, cm, I⟩
  refine wpAny_For (call_any (rd_bui K.toOk b I.gd.sub _ s p _ _ Sub.rfl (callT hs (wpAny_items_cons (wp_no (he _ c s _ I.gd (I.vs K.toOk K.toNames) fun v h₁ t₁ k₁ d₁ => wpAny_items_nil ?_)) hs.1)))) fun _ => rfl
  cases d₁
  rename_i u
  refine call_range_1 (s := { s with heap := h₁, toks := t₁ }) ?_
  have hr : IsRange (h₁.push { cls := .type "range", data := .fields #[.int 0 t₁, .int (n : Int) u, .int 1 (t₁ + 1)] }) h₁.objs.size ((0 : Nat) : Int) n 1 t₁ u (t₁ + 1) := Heap.get?_push_size _ rfl
  refine range_go (s := s) (c := c) (m := m) (cm := cm) (Z := Z) (a := 0) (b := n) K hg (Nat.zero_le _) hn σf σb (I.weak K.toOk w) (k₁.trans (Sub.push _ _)) hr (fun i hi => ?_) (fun Z' i hi => hb Z' i (by simpa using hi)) (fun s' J => hq s' (by simpa using J))
  have := ht i (by simpa using hi)
  rw [Nat.zero_add]; exact this
theorem Ts.forRange2 {target e e' : Expr} {body : List Stmt} {p p' pos : Pos} {a n : Nat} (K : F.Good) (b : Bui F "range" (.type "range")) (he : Ev F σ e (.int a)) (he' : Ev F σ e' (.int n)) (han : a ≤ n) (hn : (n : Int) < 2 ^ 62) (σf σb : Nat → List LV) (w : Wk σ (σf 0))
    (ht : ∀ i, i < n - a → Ta F s₀ O₀ (σf i) target (.int ((a + i : Nat) : Int)) (σb i)) (hb : ∀ Z' i, i < n - a → Tr F s₀ O₀ Z' (σb i) body (Lp F s₀ O₀ Z' (σf (i + 1)) Φ) (fun _ _ => False)) (hq : ∀ s', Inv F s₀ O₀ Z (σf (n - a)) s' → Φ .next s')
    (hg : PlainT target := by intro _ _; rfl) (hs : NoStar F.env [e, e'] := by exact ⟨rfl, rfl, trivial⟩) : Ts F s₀ O₀ Z σ (.For target (.Call (.Name "range" p) [e, e'] [] p') body [] pos) Φ E := by
  rintro s ⟨c, m, cm, I⟩
  refine wpAny_For (call_any (rd_bui K.toOk b I.gd.sub _ s p _ _ Sub.rfl (callT hs (wpAny_items_cons (wp_no (he _ c s _ I.gd (I.vs K.toOk K.toNames) fun v h₁ t₁ k₁ d₁ => wpAny_items_cons (wp_no (he' _ c _ _ (I.gd.mono k₁) ((I.vs K.toOk K.toNames).mono k₁) fun v₂ h₂ t₂ k₂ d₂ => wpAny_items_nil ?_)) hs.2.1)) hs.1)))) fun _ => rfl
  cases d₁
  rename_i u
  cases d₂
  rename_i u'
  refine call_range_2 (s := { s with heap := h₂, toks := t₂ }) ?_
  have hr : IsRange (h₂.push { cls := .type "range", data := .fields #[.int (a : Int) u, .int (n : Int) u', .int 1 t₂] }) h₂.objs.size (a : Int) n 1 u u' t₂ := Heap.get?_push_size _ rfl
  exact range_go (s := s) (c := c) (m := m) (cm := cm) (Z := Z) (a := a) (b := n) K hg han hn σf σb (I.weak K.toOk w) ((k₁.trans k₂).trans (Sub.push _ _)) hr ht hb hq

theorem Ts.forRangeR {R : Nat → Prop} (hR : R 0) {target e : Expr} {body : List Stmt} {p p' pos : Pos} {n : Nat} (K : F.Good) (b : Bui F "range" (.type "range")) (he : Ev F σ e (.int n)) (hn : (n : Int) < 2 ^ 62) (σf σb : Nat → List LV) (w : Wk σ (σf 0))
    (ht : ∀ i, i < n → Ta F s₀ O₀ (σf i) target (.int (i : Int)) (σb i)) (hb : ∀ Z' i, i < n → R i → (R (i + 1) ∧ Tr F s₀ O₀ Z' (σb i) body (Lp F s₀ O₀ Z' (σf (i + 1)) Φ) (fun _ _ => False)) ∨ Tr F s₀ O₀ Z' (σb i) body (Rt Φ) (fun _ _ => False)) (hq : R (n) → ∀ s', Inv F s₀ O₀ Z (σf n) s' → Φ .next s')
    (hg : PlainT target := by intro _ _; rfl) (hs : NoStar F.env [e] := by exact ⟨rfl, trivial⟩) : Ts F s₀ O₀ Z σ (.For target (.Call (.Name "range" p) [e] [] p') body [] pos) Φ E := by
  rintro s ⟨c, m, cm, I⟩
  refine wpAny_For (call_any (rd_bui K.toOk b I.gd.sub _ s p _ _ Sub.rfl (callT hs (wpAny_items_cons (wp_no (he _ c s _ I.gd (I.vs K.toOk K.toNames) fun v h₁ t₁ k₁ d₁ => wpAny_items_nil ?_)) hs.1)))) fun _ => rfl
  cases d₁
  rename_i u
  refine call_range_1 (s := { s with heap := h₁, toks := t₁ }) ?_
  have hr : IsRange (h₁.push { cls := .type "range", data := .fields #[.int 0 t₁, .int (n : Int) u, .int 1 (t₁ + 1)] }) h₁.objs.size ((0 : Nat) : Int) n 1 t₁ u (t₁ + 1) := Heap.get?_push_size _ rfl
  refine range_goR (R := R) hR (s := s) (c := c) (m := m) (cm := cm) (Z := Z) (a := 0) (b := n) K hg (Nat.zero_le _) hn σf σb (I.weak K.toOk w) (k₁.trans (Sub.push _ _)) hr (fun i hi => ?_) (fun Z' i hi => hb Z' i (by simpa using hi)) (fun r s' J => hq (by simpa using r) s' (by simpa using J))
  have := ht i (by simpa using hi)
  rw [Nat.zero_add]; exact this
theorem Ts.forRange2R {R : Nat → Prop} (hR : R 0) {target e e' : Expr} {body : List Stmt} {p p' pos : Pos} {a n : Nat} (K : F.Good) (b : Bui F "range" (.type "range")) (he : Ev F σ e (.int a)) (he' : Ev F σ e' (.int n)) (han : a ≤ n) (hn : (n : Int) < 2 ^ 62) (σf σb : Nat → List LV) (w : Wk σ (σf 0))
    (ht : ∀ i, i < n - a → Ta F s₀ O₀ (σf i) target (.int ((a + i : Nat) : Int)) (σb i)) (hb : ∀ Z' i, i < n - a → R i → (R (i + 1) ∧ Tr F s₀ O₀ Z' (σb i) body (Lp F s₀ O₀ Z' (σf (i + 1)) Φ) (fun _ _ => False)) ∨ Tr F s₀ O₀ Z' (σb i) body (Rt Φ) (fun _ _ => False)) (hq : R (n - a) → ∀ s', Inv F s₀ O₀ Z (σf (n - a)) s' → Φ .next s')
    (hg : PlainT target := by intro _ _; rfl) (hs : NoStar F.env [e, e'] := by exact ⟨rfl, rfl, trivial⟩) : Ts F s₀ O₀ Z σ (.For target (.Call (.Name "range" p) [e, e'] [] p') body [] pos) Φ E := by
  rintro s ⟨c, m, cm, I⟩
  refine wpAny_For (call_any (rd_bui K.toOk b I.gd.sub _ s p _ _ Sub.rfl (callT hs (wpAny_items_cons (wp_no (he _ c s _ I.gd (I.vs K.toOk K.toNames) fun v h₁ t₁ k₁ d₁ => wpAny_items_cons (wp_no (he' _ c _ _ (I.gd.mono k₁) ((I.vs K.toOk K.toNames).mono k₁) fun v₂ h₂ t₂ k₂ d₂ => wpAny_items_nil ?_)) hs.2.1)) hs.1)))) fun _ => rfl
  cases d₁
  rename_i u
  cases d₂
  rename_i u'
  refine call_range_2 (s := { s with heap := h₂, toks := t₂ }) ?_
  have hr : IsRange (h₂.push { cls := .type "range", data := .fields #[.int (a : Int) u, .int (n : Int) u', .int 1 t₂] }) h₂.objs.size (a : Int) n 1 u u' t₂ := Heap.get?_push_size _ rfl
  exact range_goR (R := R) hR (s := s) (c := c) (m := m) (cm := cm) (Z := Z) (a := a) (b := n) K hg han hn σf σb (I.weak K.toOk w) ((k₁.trans k₂).trans (Sub.push _ _)) hr ht hb hq

/-! over a list -/
noncomputable def TupT (t : Expr) : Prop := ∃ elts k p, t = .Tuple elts k p
theorem iter_list {target : Expr} {I₀ ax : Addr} {ds : List Dt} (K : F.Good) (hg : PlainT target ∨ (TupT target ∧ ∀ d ∈ ds, ∃ es, d = .tup es)) (hax : ax ≠ I₀) : Iter F s₀ O₀ target I₀ ds.length (fun i o => o.cls = .type "list_iterator" ∧ o.data = .fields #[.ref ax, .int i 0]) [(.ref ax, .lst ds)] (fun i => ds.getD i .none) where
  item := by
    rintro i o Z σ c m cm s Q hi ⟨hc, hd⟩ hI I q
    have hit : s.heap.IsListIter I₀ ax i := ⟨o, (I.led _ (.head _)).1, hc, hd⟩
    have hL := I.tmp (.ref ax, .lst ds) (.head _)
    obtain ⟨a', vs, e, hl, na, r⟩ := hL.lst_inv
    cases e
    have hlt : i < vs.length := by rw [r.length]; exact hi
    refine wpAny_pyNext_list_item hit hl (x := vs[i]) (by simp [hlt]) fun h' hit' hs' => ?_
    obtain ⟨d, ed, dv⟩ := r.at (List.getElem?_eq_getElem hlt)
    obtain ⟨o', e', hc', hd'⟩ := id hit'
    have edd : ds.getD i .none = d := by rw [List.getD_eq_getElem?_getD, ed]; rfl
    have nI : ∀ {b}, ¬ Om F O₀ { led := (I₀, o) :: Z.led, tmp := [(Value.ref ax, Dt.lst ds)] ++ Z.tmp } σ c b → b ≠ I₀ := fun nb q => nb (.inr (.inr (.inr (.inr ⟨o, by rw [q]; exact .head _⟩))))
    have dv' : Den h' (Om F O₀ { led := (I₀, o) :: Z.led, tmp := [(Value.ref ax, Dt.lst ds)] ++ Z.tmp } σ c) vs[i] (ds.getD i .none) := by
      rw [edd]; exact dv.move fun b x nb e => ⟨(hs'.2 b (nI nb)).trans e, nb⟩
    refine q _ o' h' s.toks ⟨hc', hd'⟩ (fun b x nb e => (hs'.2 b nb).trans e) e' dv' fun Q' q' => ?_
    rcases hg with hg | ⟨⟨elts, k, p, rfl⟩, ht⟩
    · rw [hg]; exact wpAny_pure q'
    · obtain ⟨es, hes⟩ := ht d (List.mem_of_getElem? ed)
      rw [hes] at dv
      obtain ⟨t, us, ev, _⟩ := dv.tup_inv
      rw [ev]
      exact wpAny_letOwnedTupleGo_listiter (s := { s with heap := h', toks := s.toks }) hit' q'
  done := by
    rintro o Z σ c m cm s Q ⟨hc, hd⟩ hI I q
    have hit : s.heap.IsListIter I₀ ax ds.length := ⟨o, (I.led _ (.head _)).1, hc, hd⟩
    have hL := I.tmp (.ref ax, .lst ds) (.head _)
    obtain ⟨a', vs, e, hl, na, r⟩ := hL.lst_inv
    cases e
    exact wpAny_pyNext_list_end K.room.hand hit hl (by simp [r.length]) fun h' he' => q h' s.toks fun b x nb e => he' b x nb e

theorem Ts.forList {target e : Expr} {body : List Stmt} {pos : Pos} {ds : List Dt} (K : F.Good) (he : Ev F σ e (.lst ds)) (σf σb : Nat → List LV) (w : Wk σ (σf 0))
    (ht : ∀ i, i < ds.length → Ta F s₀ O₀ (σf i) target (ds.getD i .none) (σb i)) (hb : ∀ Z' i, i < ds.length → Tr F s₀ O₀ Z' (σb i) body (Lp F s₀ O₀ Z' (σf (i + 1)) Φ) (fun _ _ => False)) (hq : ∀ s', Inv F s₀ O₀ Z (σf ds.length) s' → Φ .next s')
    (hg : PlainT target ∨ (TupT target ∧ ∀ d ∈ ds, ∃ es, d = .tup es) := by exact .inl fun _ _ => rfl) (hfs : ∀ x, foldedSetIterable e F.env x = pure x := by intro _; rfl) : Ts F s₀ O₀ Z σ (.For target e body [] pos) Φ E := by
  rintro s ⟨c, m, cm, I⟩
  refine wpAny_For (wp_no (he _ c s _ I.gd (I.vs K.toOk K.toNames) fun v h₁ t₁ k₁ d₁ => ?_)) hfs
  obtain ⟨ax, vs, rfl, hl, na, r⟩ := d₁.lst_inv
  refine wpAny_pyIter_list (s := { s with heap := h₁, toks := t₁ }) hl ?_
  have nn : s.heap.get? h₁.objs.size = none := size_fresh k₁
  have I₁ : InvC F s₀ O₀ Z σ c m cm { s with heap := h₁, toks := t₁ } := I.keep k₁
  have I₂ := I₁.ledgers (Z' := { led := Z.led, tmp := (.ref ax, .lst ds) :: Z.tmp }) rfl (fun p hp => by
    rcases List.mem_cons.mp hp with rfl | hp
    · exact d₁
    · exact I₁.tmp p hp)
  have I₃ := (I₂.weak K.toOk w).alloc (tk := t₁) (h' := h₁.push { cls := .type "list_iterator", data := .fields #[.ref ax, .int 0 0] }) (Sub.push _ _) (get_size_none h₁) (Heap.get?_push_size _ rfl)
  have hax : ax ≠ h₁.objs.size := by obtain ⟨o, e, _⟩ := hl; exact Nat.ne_of_lt (Heap.lt_size e)
  exact loop_core K (iter_list K hg hax) σf σb (led_ne I nn) ht hb hq ⟨rfl, rfl⟩ ⟨c, m, cm, I₃⟩

/-! while -/
theorem Ts.while_ {t : Expr} {body : List Stmt} {pos : Pos} {ι : Type} (K : F.Good) (σf : ι → List LV) (μ : ι → Nat) (b : ι → Bool) (nx : ι → ι) (x₀ : ι) (R : ι → Prop) (hR : R x₀) (w : Wk σ (σf x₀))
    (ht : ∀ x, R x → EvT F (σf x) t (b x)) (hb : ∀ x, R x → b x = true → Tr F s₀ O₀ Z (σf x) body (Lp F s₀ O₀ Z (σf (nx x)) Φ) (fun _ _ => False)) (hn : ∀ x, R x → b x = true → R (nx x) ∧ μ (nx x) < μ x)
    (hq : ∀ x, R x → b x = false → ∀ s', Inv F s₀ O₀ Z (σf x) s' → Φ .next s') : Ts F s₀ O₀ Z σ (.While t body [] pos) Φ E := by
  rintro s ⟨c, m, cm, I⟩
  refine wpAny_While (codeAny_whileLoop (fun k s' => ∃ x, k = μ x ∧ R x ∧ Inv F s₀ O₀ Z (σf x) s') ?_ (μ x₀) ⟨x₀, rfl, hR, c, m, cm, I.weak K.toOk w⟩)
  rintro k s ⟨x, rfl, hx, c, m, cm, I⟩
  refine wp_no (ht x hx _ c s _ I.gd (I.vs K.toOk K.toNames) fun h' tk k => ?_)
  have J : Inv F s₀ O₀ Z (σf x) { s with heap := h', toks := tk } := ⟨c, m, cm, I.keep k⟩
  cases hbx : b x with
  | true =>
    rw [if_pos rfl]
    obtain ⟨r1, r2⟩ := hn x hx hbx
    refine wp_no (wpAny_mono (hb x hx hbx _ J) (fun f s₃ q => ?_) fun _ _ e => e)
    cases f with
    | next => exact ⟨_, r2, _, rfl, r1, q⟩
    | cont => exact ⟨_, r2, _, rfl, r1, q⟩
    | brk => exact q.elim
    | ret v => exact q
  | false =>
    rw [if_neg Bool.false_ne_true]
    exact wpAny_execs_nil (hq x hx hbx _ J)
end
end Mine
end
section
open PySem PySem.W PyProof.Rows PySem.Calls PySem.Spec
set_option Elab.async false
set_option maxRecDepth 100000
set_option linter.unusedVariables false
namespace Mine

/-- the place of r's body -/
structure Fx.Is (F : Fx) (r : DefRec) : Prop extends F.Good where
  scope : F.env.scope = r.scope
  cells : F.env.cells = cellsFrom (F.env.locals + 1) r.scope.names []
  inter : interactive F.env = false
theorem Fx.Is.kindOf {F : Fx} {r : DefRec} (S : F.Is r) (x : Str) : F.env.kindOf x = r.scope.names.lookup x := by
  unfold Env.kindOf; rw [S.scope]

noncomputable def ini (ds : List Dt) (rest : List Str) : List LV := ds.map .fz ++ rest.map fun _ => .un
noncomputable def RetD (s₀ : Shared) (R : Value → Heap → Prop) : Flow → Shared → Prop := fun f s' => ∃ h tk, s' = { s₀ with heap := h, toks := tk } ∧ Sub s₀.heap h ∧ R (match f with | .ret v => v | _ => .none) h
theorem RetD.ret {s₀ : Shared} {R : Value → Heap → Prop} {v : Value} {h : Heap} {tk : Nat} (k : Sub s₀.heap h) (q : R v h) : RetD s₀ R (.ret v) { s₀ with heap := h, toks := tk } := ⟨h, tk, rfl, k, q⟩

/-- what is looked at in a def's head -/
structure Hd (r : DefRec) (ps rest : List Str) : Prop where
  bind : ∀ pm code doc (vs : List Value), vs.length = ps.length → bindArgs (docDef r.name r.params r.body r.scope pm code doc) ⟨vs, []⟩ = pure (ps.zip vs)
  nodup : (ps ++ rest).Nodup
  kinds : ((ps ++ rest).all fun x => r.scope.names.lookup x == some .local || r.scope.names.lookup x == some .cell) = true
  nodbg : ((ps ++ rest).all fun x => !(x == ("__debug__" : Str))) = true
  cor : r.scope.isCoroutine = false
  gen : r.scope.isGenerator = false
  kind : r.scope.kind = .function
  cellNames : ((cellsFrom 0 r.scope.names []).map (·.1)).Nodup

theorem bindL_not {kindOf : Str → Option NameKind} {x : Str} : ∀ {bs : List (Str × Value)} {m : Str → Option Value}, x ∉ bs.map (·.1) → bindL kindOf bs m x = m x
  | [], _, _ => rfl
  | (n, v) :: r, m, h => by
    rw [List.map_cons, List.mem_cons, not_or] at h
    unfold bindL
    rw [bindL_not h.2]
    split <;> simp [h.1]
theorem bindC_not {kindOf : Str → Option NameKind} {x : Str} : ∀ {bs : List (Str × Value)} {m : Str → Option Value}, x ∉ bs.map (·.1) → bindC kindOf bs m x = m x
  | [], _, _ => rfl
  | (n, v) :: r, m, h => by
    rw [List.map_cons, List.mem_cons, not_or] at h
    unfold bindC
    rw [bindC_not h.2]
    split <;> simp [h.1]
theorem bindL_mem {kindOf : Str → Option NameKind} {x : Str} {v : Value} (hk : kindOf x = some .local) : ∀ {bs : List (Str × Value)} {m : Str → Option Value}, (bs.map (·.1)).Nodup → (x, v) ∈ bs → bindL kindOf bs m x = some v
  | (n, w) :: r, m, nd, h => by
    rw [List.map_cons, List.nodup_cons] at nd
    unfold bindL
    rcases List.mem_cons.mp h with e | e
    · cases e
      rw [bindL_not nd.1, if_pos hk]; simp
    · exact bindL_mem hk nd.2 e
theorem bindC_mem {kindOf : Str → Option NameKind} {x : Str} {v : Value} (hk : kindOf x = some .cell) : ∀ {bs : List (Str × Value)} {m : Str → Option Value}, (bs.map (·.1)).Nodup → (x, v) ∈ bs → bindC kindOf bs m x = some v
  | (n, w) :: r, m, nd, h => by
    rw [List.map_cons, List.nodup_cons] at nd
    unfold bindC
    rcases List.mem_cons.mp h with e | e
    · cases e
      rw [bindC_not nd.1, if_neg (by rw [hk]; decide)]; simp
    · exact bindC_mem hk nd.2 e
theorem lookup_mem {y : Str} {v : Value} : ∀ {bs : List (Str × Value)}, (bs.map (·.1)).Nodup → (y, v) ∈ bs → bs.lookup y = some v
  | (u, w) :: bs, nd, hm => by
    rw [List.map_cons, List.nodup_cons] at nd
    rw [List.lookup_cons]
    rcases List.mem_cons.mp hm with e | e
    · cases e; simp
    · have : y ≠ u := fun q => nd.1 (q ▸ List.mem_map.mpr ⟨_, e, rfl⟩)
      simp [beq_eq_false_iff_ne.mpr this, lookup_mem nd.2 e]
theorem ini_at {ps rest : List Str} {ds : List Dt} {vs : List Value} {x : Str} {l : LV} {h : Heap} {O : Addr → Prop} (hl : ps.length = ds.length) (d : DenAll h O vs ds) (a : At (ps ++ rest) (ini ds rest) x l) (n : l ≠ .un) : ∃ v d, l = .fz d ∧ (x, v) ∈ ps.zip vs ∧ Den h O v d := by
  induction ps generalizing ds vs with
  | nil =>
    cases ds with
    | cons _ _ => simp at hl
    | nil =>
      exfalso
      unfold ini at a
      simp only [List.nil_append, List.map_nil] at a
      clear d hl
      induction rest with
      | nil => cases a
      | cons y r ih =>
        cases a with
        | head => exact n rfl
        | tail a => exact ih a
  | cons p ps ih =>
    cases ds with
    | nil => simp at hl
    | cons e ds =>
      cases d with
      | cons dv dr =>
        rename_i v vs
        cases a with
        | head => exact ⟨v, e, rfl, .head _, dv⟩
        | tail a =>
          obtain ⟨v', d', e1, e2, e3⟩ := ih (by simpa using hl) dr a
          exact ⟨v', d', e1, .tail _ e2, e3⟩
theorem ini_ow {ps rest : List Str} {ds : List Dt} {x : Str} {pl : Bool} {es : List Dt} (hl : ps.length = ds.length) (a : At (ps ++ rest) (ini ds rest) x (.ow pl es)) : False := by
  induction ps generalizing ds with
  | nil =>
    cases ds with
    | cons _ _ => simp at hl
    | nil =>
      unfold ini at a
      simp only [List.nil_append, List.map_nil] at a
      clear hl
      induction rest with
      | nil => cases a
      | cons y r ih =>
        cases a with
        | tail a => exact ih a
  | cons p ps ih =>
    cases ds with
    | nil => simp at hl
    | cons e ds =>
      cases a with
      | tail a => exact ih (by simpa using hl) a

theorem entryF {W : Wd} {r : DefRec} {ps rest : List Str} {n : Nat} {ds : List Dt} {f : Addr} {o : Obj} {pm code doc : Value} {A : Around} {s : Shared} {O₀ : Addr → Prop} {vs : List Value} {Rr : Result → Shared → Prop}
    (H : Hd r ps rest) (hl : ps.length = ds.length) (ho : W.hb.get? f = some o) (hd : o.data = .func (docDef r.name r.params r.body r.scope pm code doc)) (hc : W.hb.CodeRec code r.name) (rm : Rm A (n + 1)) (g : Gd W s.heap O₀) (dv : DenAll s.heap O₀ vs ds)
    (body : ∀ env, Fx.Is ⟨W, env, A.deeper env, ps ++ rest, n⟩ r → env.frame = some env.locals → ∀ s₁, Inv ⟨W, env, A.deeper env, ps ++ rest, n⟩ s O₀ {} (ini ds rest) s₁ →
      wpAny (model W.prog W.w) (A.deeper env) (execs r.body env) (fun fl s' => Rr (.ok (.ret (match fl with | .ret v => v | _ => .none))) s')
        (fun e s' => wpAny (model W.prog W.w) (A.deeper env) (leaving env e) (fun _ s'' => Rr (.error e) s'') (fun e' s'' => Rr (.error e') s'') s') s₁) :
    codeAny (model W.prog W.w) A (.call (.ref f) ⟨vs, []⟩) Rr s := by
  have hvl : vs.length = ps.length := by rw [dv.length, hl]
  have kin : ∀ x ∈ ps ++ rest, r.scope.names.lookup x = some .local ∨ (r.scope.names.lookup x = some .cell ∧ ∀ k, ((cellsFrom k r.scope.names []).lookup x).isSome = true) := by
    intro x hx
    have := List.all_eq_true.mp H.kinds x hx
    rcases Bool.or_eq_true_iff.mp this with q | q
    · exact .inl (by simpa using q)
    · have q' : r.scope.names.lookup x = some .cell := by simpa using q
      exact .inr ⟨q', fun k => cellsFrom_some _ _ _ (.inl q')⟩
  have inps : ∀ y ∈ ps.zip vs, y.1 ∈ ps ++ rest := fun y hy => List.mem_append.mpr (.inl (List.of_mem_zip hy).1)
  have nd1 : ((ps.zip vs).map (·.1)).Nodup := by
    rw [List.map_fst_zip (by omega)]
    exact (List.nodup_append.mp H.nodup).1
  refine codeAny_call_cells (fd := docDef r.name r.params r.body r.scope pm code doc) (body := r.body) (binds := ps.zip vs) (by have := rm.depth; omega) (g.sub _ _ ho) hd (W.top.nolimit.keeps g.sub) (hc.keeps g.sub) rfl (H.bind pm code doc vs hvl) rfl
    (fun y hy => (kin y.1 (inps y hy)).imp id fun q => ⟨q.1, q.2 _⟩) (fun s₁ x => ?_) H.cor H.gen H.kind
  have hk : (callEnvC (docDef r.name r.params r.body r.scope pm code doc) s.heap.objs.size f).scope.kind = .function := H.kind
  refine body _ ⟨⟨⟨hk, rfl, rfl, rm.deeper _, ?_, H.nodup⟩, ⟨fun y hy => ?_, fun y hy => ?_⟩⟩, rfl, rfl, ?_⟩ rfl s₁ ?_
  · obtain ⟨l, e⟩ := rm.frames
    exact ⟨l, _, Around.frames_deeper e, H.gen, H.cor, rfl, rfl⟩
  · rcases kin y hy with e | ⟨e, q⟩
    · exact .inl e
    · exact .inr ⟨e, Option.isSome_iff_exists.mp (q _)⟩
  · have := List.all_eq_true.mp H.nodbg y hy
    simpa using this
  · have e : r.scope.kind = .function := H.kind
    show ((r.scope.kind == .module) && _) = false
    rw [e]; rfl
  · have sb := x.toInCall.keep
    refine ⟨fun y => ((ps.zip vs).lookup y).getD .none, _, _, x, g, fun y l a nl => ?_, fun y l a nl => ?_, fun y pl es b a e => (ini_ow hl a).elim, fun y z pl es pl' es' a _ _ => (ini_ow hl a).elim, fun p hp => (nomatch hp), fun p hp => (nomatch hp)⟩
    · obtain ⟨v, d, rfl, hm, hd'⟩ := ini_at hl dv a nl
      have hlk := lookup_mem nd1 hm
      simp only [hlk, Option.getD_some]
      unfold slotV
      have hin := inps _ hm
      rcases kin y hin with e | ⟨e, _⟩
      · have e' : Env.kindOf (callEnvC (docDef r.name r.params r.body r.scope pm code doc) s.heap.objs.size f) y = some .local := e
        show (match Env.kindOf (callEnvC (docDef r.name r.params r.body r.scope pm code doc) s.heap.objs.size f) y with | some .local => _ | some .cell => _ | _ => none) = _
        rw [e']
        exact bindL_mem e' nd1 hm
      · have e' : Env.kindOf (callEnvC (docDef r.name r.params r.body r.scope pm code doc) s.heap.objs.size f) y = some .cell := e
        show (match Env.kindOf (callEnvC (docDef r.name r.params r.body r.scope pm code doc) s.heap.objs.size f) y with | some .local => _ | some .cell => _ | _ => none) = _
        rw [e']
        exact bindC_mem e' nd1 hm
    · obtain ⟨v, d, rfl, hm, hd'⟩ := ini_at hl dv a nl
      have hlk := lookup_mem nd1 hm
      simp only [hlk, Option.getD_some]
      refine Den.move (fun b o nb e => ⟨sb _ _ e, fun q => ?_⟩) hd'
      rcases q with q | q | ⟨y', q⟩ | ⟨u, pl, es, q, _⟩ | ⟨o, q⟩
      · exact nb q
      · have : s.heap.get? b = none := ge_none (by rw [q]; exact x.toInCall.fresh)
        rw [this] at e; cases e
      · have : s.heap.get? b = none := ge_none (Nat.le_trans x.toInCall.fresh (Nat.le_of_lt (x.above _ _ (mem_of_lookup q))))
        rw [this] at e; cases e
      · exact (ini_ow hl q).elim
      · cases q

theorem entry {W : Wd} {r : DefRec} {ps rest : List Str} {n : Nat} {ds : List Dt} {f : Addr} {o : Obj} {pm code doc : Value} {A : Around} {s : Shared} {O₀ : Addr → Prop} {vs : List Value} {Rr : Result → Shared → Prop}
    (H : Hd r ps rest) (hl : ps.length = ds.length) (ho : W.hb.get? f = some o) (hd : o.data = .func (docDef r.name r.params r.body r.scope pm code doc)) (hc : W.hb.CodeRec code r.name) (rm : Rm A (n + 1)) (g : Gd W s.heap O₀) (dv : DenAll s.heap O₀ vs ds)
    (body : ∀ env, Fx.Is ⟨W, env, A.deeper env, ps ++ rest, n⟩ r → ∀ s₁, Inv ⟨W, env, A.deeper env, ps ++ rest, n⟩ s O₀ {} (ini ds rest) s₁ →
      wpAny (model W.prog W.w) (A.deeper env) (execs r.body env) (fun fl s' => Rr (.ok (.ret (match fl with | .ret v => v | _ => .none))) s')
        (fun e s' => wpAny (model W.prog W.w) (A.deeper env) (leaving env e) (fun _ s'' => Rr (.error e) s'') (fun e' s'' => Rr (.error e') s'') s') s₁) :
    codeAny (model W.prog W.w) A (.call (.ref f) ⟨vs, []⟩) Rr s := entryF H hl ho hd hc rm g dv fun env S _ s₁ I => body env S s₁ I

theorem Fn.intro {W : Wd} {r : DefRec} {ps rest : List Str} {n : Nat} {ds : List Dt} {d : Dt} (H : Hd r ps rest) (hr : r ∈ recsOf W.p) (hl : ps.length = ds.length)
    (body : ∀ env A s₀ O₀, Fx.Is ⟨W, env, A, ps ++ rest, n⟩ r → Tr ⟨W, env, A, ps ++ rest, n⟩ s₀ O₀ {} (ini ds rest) r.body (RetD s₀ fun v h => Den h O₀ v d) (fun _ _ => False)) : Fn W r.name (n + 1) ds d := by
  obtain ⟨f, o, pm, code, doc, hm, ho, hd, hc⟩ := W.top.fn r hr
  refine ⟨f, ⟨o, _, hm, ho, hd⟩, fun A s O vs Q rm g dv q => wpAny_call (entry H hl ho hd hc rm g dv fun env S s₁ I => ?_)⟩
  refine wpAny_mono (body env _ s O S s₁ I) (fun fl s' z => ?_) fun _ _ z => z.elim
  obtain ⟨h, tk, rfl, k, z⟩ := z
  exact q _ h tk k z
theorem FnN.intro {W : Wd} {r : DefRec} {ps rest : List Str} {n : Nat} {ds : List Dt} {pl : Bool} {es : List Dt} (H : Hd r ps rest) (hr : r ∈ recsOf W.p) (hl : ps.length = ds.length)
    (body : ∀ env A s₀ O₀, Fx.Is ⟨W, env, A, ps ++ rest, n⟩ r → Tr ⟨W, env, A, ps ++ rest, n⟩ s₀ O₀ {} (ini ds rest) r.body (RetD s₀ fun v h => ∃ a us, v = .ref a ∧ s₀.heap.get? a = none ∧ (if pl then h.PlainList a us.toArray else h.IsList a us.toArray) ∧ DenAll h (fun b => O₀ b ∨ b = a) us es) (fun _ _ => False)) : FnN W r.name (n + 1) ds pl es := by
  obtain ⟨f, o, pm, code, doc, hm, ho, hd, hc⟩ := W.top.fn r hr
  refine ⟨f, ⟨o, _, hm, ho, hd⟩, fun A s O vs Q rm g dv q => wpAny_call (entry H hl ho hd hc rm g dv fun env S s₁ I => ?_)⟩
  refine wpAny_mono (body env _ s O S s₁ I) (fun fl s' z => ?_) fun _ _ z => z.elim
  obtain ⟨h, tk, rfl, k, a, us, e, n, l, z⟩ := z
  rw [e]
  exact q a us h tk k n l z
end Mine
end
section
open PySem PySem.W PyProof.Rows PySem.Calls PySem.Spec
set_option Elab.async false
set_option maxRecDepth 100000
set_option linter.unusedVariables false
namespace Mine
section
variable {prog : Program} {w : World} {A : Around}
theorem compLoop_any {elt iter target : Expr} {scope : Scope} {pos : Pos} {it acc : Value} {env : Env} {R : Result → Shared → Prop} (I : Nat → Shared → Prop)
    (turn : ∀ n s, I n s → wpAny (model prog w) A (pyNext it) (fun r s₁ => match r with
      | none => R (.ok .next) s₁
      | some v => wpAny (model prog w) A (letOwnedTupleGo target it v) (fun _ s₁' => wpAny (model prog w) A (assign target env v) (fun _ s₂ =>
          wpAny (model prog w) A (eval elt env) (fun x s₄ =>
              wpAny (model prog w) A (call (.builtin "list.append") [acc, x]) (fun _ s₅ => ∃ m, m < n ∧ I m s₅) (notedBy (model prog w) A env fun e s' => R (.error e) s') s₄) (notedBy (model prog w) A env fun e s' => R (.error e) s') s₂)
          (notedBy (model prog w) A env fun e s' => R (.error e) s') s₁') (notedBy (model prog w) A env fun e s' => R (.error e) s') s₁) (notedBy (model prog w) A env fun e s' => R (.error e) s') s)
    (n : Nat) {s : Shared} (h : I n s) : codeAny (model prog w) A (.compLoop (.ListComp elt [⟨target, iter, [], 0⟩] scope pos) 0 it acc env) R s := by
  refine codeAny_loop rfl I (fun n s hI => ?_) n h
  show wpAny _ A ((compTurn (.ListComp elt [⟨target, iter, [], 0⟩] scope pos) 0 it acc env).onRaise (fun x => do noteFrame x env; theTreesLotGoes x)) _ _ s
  refine wpAny_noted ?_
  rw [compTurn_list]
  refine wpAny_bind (wpAny_standAt (wpAny_bind (wpAny_mono (turn n s hI) (fun r s₁ h₁ => ?_) fun _ _ h' => h')))
  cases r with
  | none => exact wpAny_pure h₁
  | some v =>
    refine wpAny_bind (wpAny_mono h₁ (fun _ s₁' h₁' => ?_) fun _ _ h' => h')
    refine wpAny_bind (wpAny_mono h₁' (fun _ s₂ h₂ => wpAny_bind (wpAny_mono (wpAny_tests_nil (Q := fun ok s₃ => ok = true ∧ s₃ = s₂) ⟨rfl, rfl⟩) (fun ok s₃ h₃ => ?_) fun _ _ h' => h')) fun _ _ h' => h')
    obtain ⟨rfl, rfl⟩ := h₃
    exact wpAny_bind (wpAny_bind (wpAny_mono h₂ (fun x s₄ h₄ => wpAny_bind (wpAny_mono h₄ (fun _ s₅ h₅ => wpAny_pure (wpAny_pure ⟨rfl, h₅⟩)) fun _ _ h' => h')) fun _ _ h' => h'))
end

noncomputable abbrev Fx.comp (F : Fx) (scope : Scope) (cl : List (Str × Addr)) (C : Addr) (ns : List Str) : Fx := ⟨F.W, compEnvC scope cl C F.env, F.A, ns, F.n⟩

structure Cmp (F : Fx) (scope : Scope) (cl : List (Str × Addr)) (tgs frs : List Str) : Prop where
  clos : closureFor scope F.env = pure cl
  cell : ∀ y ∈ scope.names, y.2 ≠ .cell
  kind : scope.kind = .function
  names : ∀ y ∈ scope.names, y.2 = .local → scope.names.lookup y.1 = some .local
  loc : ∀ x ∈ tgs, scope.names.lookup x = some .local
  fre : ∀ x ∈ frs, (relabel scope F.env).names.lookup x = some .cell ∧ F.env.kindOf x = some .cell ∧ cl.lookup x = F.env.cells.lookup x
  dbg : ∀ x ∈ tgs ++ frs, (x == ("__debug__" : Str)) = false
  nodup : (tgs ++ frs).Nodup

theorem lookup_relabel_ne {env : Env} {k : NameKind} (hk : k ≠ .free) : ∀ {names : List (Str × NameKind)} {x : Str}, names.lookup x = some k →
    (names.map fun (n, k) => if (k == NameKind.free && env.scope.kind == .function && env.kindOf n == some .cell) then (n, NameKind.cell) else (n, k)).lookup x = some k
  | [], _, h => by simp at h
  | (n, k') :: r, x, h => by
    have ih := @lookup_relabel_ne env k hk r x
    show List.lookup x ((if (k' == NameKind.free && env.scope.kind == .function && env.kindOf n == some .cell) = true then (n, NameKind.cell) else (n, k')) :: _) = _
    cases hx : x == n with
    | true =>
      simp only [List.lookup_cons, hx] at h
      cases h
      have : (k == NameKind.free) = false := by simpa using hk
      simp [List.lookup_cons, hx, this]
    | false =>
      simp only [List.lookup_cons, hx] at h
      by_cases hc : (k' == NameKind.free && env.scope.kind == .function && env.kindOf n == some .cell) = true
      · rw [if_pos hc]; simp only [List.lookup_cons, hx]; exact ih h
      · rw [if_neg hc]; simp only [List.lookup_cons, hx]; exact ih h

theorem At.split {xs ys : List Str} {σ τ : List LV} (e : xs.length = σ.length) {x : Str} {l : LV} : At (xs ++ ys) (σ ++ τ) x l → At xs σ x l ∨ At ys τ x l := by
  induction xs generalizing σ with
  | nil => cases σ with
    | nil => exact .inr
    | cons _ _ => simp at e
  | cons y xs ih => cases σ with
    | nil => simp at e
    | cons l' σ =>
      intro a
      cases a with
      | head => exact .inl .head
      | tail a => exact (ih (by simpa using e) a).imp .tail id

section
variable {F : Fx} {σ : List LV}
theorem Fx.Ok.comp {scope : Scope} {cl : List (Str × Addr)} {tgs frs : List Str} (K : F.Ok) (M : Cmp F scope cl tgs frs) (C : Addr) : (F.comp scope cl C (tgs ++ frs)).Ok :=
  ⟨M.kind, K.glob, K.buil, K.room, K.frames, M.nodup⟩
theorem Has.move {h h' : Heap} {O O' : Addr → Prop} {l : LV} {v : Value} (k : Sub h h') (n : ∀ b o, ¬ O b → h.get? b = some o → ¬ O' b) (x : Has h O l v) : Has h' O' l v := by
  cases l with
  | un => trivial
  | fz d => exact Den.move (fun b o nb e => ⟨k b o e, n b o nb e⟩) x
  | ow pl ds =>
    obtain ⟨a, vs, e, hl, r⟩ := x
    refine ⟨a, vs, e, ?_, r.move fun b o nb e => ⟨k b o e, n b o nb e⟩⟩
    cases pl with
    | true => obtain ⟨o, e⟩ := hl; exact ⟨o, k _ _ e⟩
    | false => exact isList_sub hl fun o e => k _ o e
theorem loadName_cellEq {env env' : Env} {x : Str} (hk : env.scope.kind = .function) (hk' : env'.scope.kind = .function) (hl : env.kindOf x = some .cell) (hl' : env'.kindOf x = some .cell) (hc : env.cells.lookup x = env'.cells.lookup x) : loadName env x = loadName env' x := by
  unfold loadName
  simp only [hk, hk', hl, hl', Env.blockKind, cellOf, hc, ScopeKind.isAnnotationScope, Bool.false_and, Bool.false_eq_true, if_false]
  try rfl
theorem rd_free {scope : Scope} {cl : List (Str × Addr)} {tgs frs : List Str} {C : Addr} {x : Str} {v : Value} {h : Heap} (K : F.Ok) (M : Cmp F scope cl tgs frs) (hx : x ∈ frs) (r : Rd F h x v) : Rd (F.comp scope cl C (tgs ++ frs)) h x v := by
  intro A s pos Q E k q
  have := r A s pos Q E k q
  have hd := M.dbg x (List.mem_append_right _ hx)
  obtain ⟨h1, h2, h3⟩ := M.fre x hx
  have e : eval (.Name x pos) (F.comp scope cl C (tgs ++ frs)).env = eval (.Name x pos) F.env := by
    rw [eval_Name _ x pos hd, eval_Name _ x pos hd]
    rw [loadName_cellEq (env := (F.comp scope cl C (tgs ++ frs)).env) (env' := F.env) M.kind K.kind h1 h2 h3]
  rw [e]
  exact this
end
end Mine
end
section
open PySem PySem.W PyProof.Rows PySem.Calls PySem.Spec
set_option Elab.async false
set_option maxRecDepth 100000
set_option linter.unusedVariables false
namespace Mine
section
variable {F : Fx} {σ : List LV}
theorem At.mem2 {xs ys : List Str} {σ : List LV} {x : Str} {l : LV} (a : At xs σ x l) : x ∈ xs := a.mem
/-- the loop of a comprehension -/
theorem comp_loop {elt iter target : Expr} {scope : Scope} {cl : List (Str × Addr)} {pos : Pos} {tgs frs : List Str} {fl : List LV} {td : Nat → List LV} {es : List Dt} {I : Addr} {fp : List Addr} {n : Nat} {P : Nat → Value → Prop} {St : Nat → Heap → Prop}
    {s₁ : Shared} {O : Addr → Prop} {c : Str → Value} {h₂ : Heap} {t₂ : Nat} {RR : Value → Addr → Result → Shared → Prop} {E : Value → Shared → Prop}
    (K : F.Ok) (M : Cmp F scope cl tgs frs) (W : Walks F.W.prog F.W.w F.A I fp [I] n P St) (hn : n ≤ sizeLine) (hes : es.length = n) (hfp : ∀ b ∈ fp, b < h₂.objs.size) (hIo : ∀ i h, St i h → ∃ o, h.get? I = some o)
    (hst : St 0 h₂) (hI : s₁.heap.get? I = none) (k₂ : Sub s₁.heap h₂) (g : Gd F.W s₁.heap O) (vv : Vs F O σ c s₁.heap) (hfl : ∀ x l, At frs fl x l → At F.ns σ x l) (htl : ∀ i, tgs.length = (td i).length)
    (hasg : ∀ C i v s' m' (Q : Unit → Shared → Prop), i < n → P i v → s₁.heap.get? C = none → Sub s₁.heap s'.heap → St (i + 1) s'.heap → s'.heap.Ns C m' → 
      (∀ h'' tk m'', h''.Ns C m'' → (∀ b o, b ≠ C → s'.heap.get? b = some o → h''.get? b = some o) → (∀ x l, At tgs (td i) x l → l ≠ .un → ∃ v d, m'' x = some v ∧ l = .fz d ∧ Den s₁.heap O v d) → Q () { s' with heap := h'', toks := tk }) →
      wpAny F.M F.A (letOwnedTupleGo target (.ref I) v) (fun _ s₁' => wpAny F.M F.A (assign target (compEnvC scope cl C F.env) v) Q (fun _ _ => False) s₁') (fun _ _ => False) s')
    (helt : ∀ C i e, es[i]? = some e → Ev (F.comp scope cl C (tgs ++ frs)) (td i ++ fl) elt e)
    (hRR : ∀ D C h' tk m' vs, s₁.heap.get? D = none → s₁.heap.get? C = none → C ≠ D → h'.Ns C m' → h'.PlainList D vs.toArray → DenAll h' (fun b => O b ∨ b = I ∨ b = C ∨ b = D) vs es → Sub s₁.heap h' → RR (.ref D) C (.ok .next) { s₁ with heap := h', toks := tk }) :
    wpAny F.M F.A (newList []) (fun acc s₃ => wpAny F.M F.A (newFunctionEnv scope F.env.globals cl [] F.env.qual none .none (some F.env)) (fun cenv s₄ =>
      codeAny F.M F.A (.compStart (.ListComp elt [⟨target, iter, [], 0⟩] scope pos) 0 (.ref I) acc { cenv with scope := relabel scope F.env }) (RR acc cenv.locals) s₄) E s₃) E { s₁ with heap := h₂, toks := t₂ } := by
  refine wpAny_newObj_type (wpAny_newFunctionEnv M.cell (by intro y hy; simp at hy) (fun h₁ hns₁ hsb₁ => ?_) M.kind)
  dsimp only at hns₁ hsb₁ ⊢
  generalize hH2 : h₂.push { cls := .type "list", dict := none, data := .seq ([] : List Value).toArray } = H2 at hns₁ hsb₁ ⊢
  have hC : H2.objs.size = h₂.objs.size + 1 := by rw [← hH2, Heap.size_push]
  obtain ⟨D, hDd⟩ : ∃ D : Nat, h₂.objs.size = D := ⟨_, rfl⟩
  obtain ⟨C, hCd⟩ : ∃ C : Nat, H2.objs.size = C := ⟨_, rfl⟩
  simp only [hDd, hCd] at hC hns₁ hsb₁ hfp ⊢
  have hDC : D ≠ C := by omega
  have below : ∀ b o, h₂.get? b = some o → b ≠ C ∧ b ≠ D := fun b o e => by
    have z : @LT.lt Nat _ b D := hDd ▸ Heap.lt_size e
    exact ⟨fun q => by have q' : @Eq Nat b C := q; omega, fun q => by have q' : @Eq Nat b D := q; omega⟩
  have hDf : D ∉ fp := fun hm => Nat.lt_irrefl _ (hfp _ hm)
  have hCf : C ∉ fp := fun hm => by have z : @LT.lt Nat _ C D := hfp _ hm; omega
  have hIf : I ∈ fp := W.sub I (List.mem_singleton.mpr rfl)
  have hIlt : @LT.lt Nat _ I D := hfp I hIf
  have hIC : I ≠ C := fun q => by have q' : @Eq Nat I C := q; omega
  have hID : I ≠ D := fun q => by have q' : @Eq Nat I D := q; omega
  have old : ∀ b o, h₂.get? b = some o → h₁.get? b = some o := fun b o e => hsb₁.extBut b o (below b o e).1 (Heap.get?_push_of_some _ (hH2 ▸ Heap.get?_push_of_some _ e))
  have hacc : h₁.PlainList D #[] := ⟨_, hsb₁.extBut _ _ hDC (Heap.get?_push_of_some _ (hH2 ▸ hDd ▸ Heap.get?_push_size _ rfl))⟩
  have hst₁ : St 0 h₁ := W.frame _ _ _ hst fun b _ o e => old b o e
  have hD₁ : s₁.heap.get? D = none := by
    cases e : s₁.heap.get? D with
    | none => rfl
    | some o => exact absurd (hDd ▸ Heap.lt_size (k₂ _ _ e)) (Nat.lt_irrefl _)
  have hC₁ : s₁.heap.get? C = none := by
    cases e : s₁.heap.get? C with
    | none => rfl
    | some o => have z : @LT.lt Nat _ C D := hDd ▸ Heap.lt_size (k₂ _ _ e); omega
  have neb : ∀ b o, s₁.heap.get? b = some o → b ≠ I ∧ b ≠ C ∧ b ≠ D := by
    intro b o e
    refine ⟨?_, ?_, ?_⟩ <;> rintro rfl
    · rw [hI] at e; cases e
    · rw [hC₁] at e; cases e
    · rw [hD₁] at e; cases e
  have loop : ∀ s₃ : Shared, (∃ t, s₃ = { s₁ with heap := h₁, toks := t }) →
      codeAny F.M F.A (.compLoop (.ListComp elt [⟨target, iter, [], 0⟩] scope pos) 0 (.ref I) (.ref D) (compEnvC scope cl C F.env)) (RR (.ref D) C) s₃ := by
    rintro s₃ ⟨t₃, rfl⟩
    refine compLoop_any (fun k s' => ∃ h' tk i vs m', s' = { s₁ with heap := h', toks := tk } ∧ i ≤ n ∧ k = n + 1 - i ∧ St i h' ∧ Sub s₁.heap h' ∧ h'.Ns C m' ∧ h'.PlainList D vs.toArray ∧ DenAll h' (fun b => O b ∨ b = I ∨ b = C ∨ b = D) vs (es.take i)) ?_ (n + 1)
      ⟨h₁, _, 0, [], _, rfl, Nat.zero_le _, rfl, hst₁, k₂.trans old, hns₁, hacc, .nil⟩
    rintro k s' ⟨h', tk, i, vs, m', rfl, hi, rfl, hst', k', hn', hl', hd'⟩
    by_cases hlt : i < n
    · refine W.item i _ _ _ hlt hst' fun v h₃ tk₃ hPv hst₃ hk₃ => ?_
      have k₃ : Sub s₁.heap h₃ := fun b o e => hk₃ b o (by simpa using (neb b o e).1) (k' b o e)
      have hn₃ : h₃.Ns C m' := hn'.at' fun o e => hk₃ _ o (by simpa using Ne.symm hIC) e
      refine wpAny_mono (hasg C i v { s₁ with heap := h₃, toks := tk₃ } m' _ hlt hPv hC₁ k₃ hst₃ hn₃ fun h₄ tk₄ m₄ hn₄ hk₄ ht => ?_) (fun _ s q => wp_no q) fun _ _ q => q.elim
      have k₄ : Sub s₁.heap h₄ := fun b o e => hk₄ b o (neb b o e).2.1 (k₃ b o e)
      have hst₄ : St (i + 1) h₄ := W.frame _ _ _ hst₃ fun b hb o e => hk₄ b o (fun q => hCf (q ▸ hb)) e
      have hl₄ : h₄.PlainList D vs.toArray := by
        obtain ⟨nn, e⟩ := hl'
        exact ⟨nn, hk₄ _ _ hDC (hk₃ _ _ (by simpa using Ne.symm hID) e)⟩
      have g₄ : Gd F.W h₄ (fun b => O b ∨ b = I ∨ b = C ∨ b = D) := by
        refine ⟨fun b o e => k₄ _ _ (g.sub b o e), ?_, ?_⟩
        · have up : ∀ a, s₁.heap.get? a = none → F.W.hb.get? a = none := fun a e => by
            cases e' : F.W.hb.get? a with
            | none => rfl
            | some o => rw [g.sub _ _ e'] at e; cases e
          rintro a (h | rfl | rfl | rfl)
          · exact g.off a h
          · exact up _ hI
          · exact up _ hC₁
          · exact up _ hD₁
        · rintro a (h | rfl | rfl | rfl)
          · obtain ⟨o, e⟩ := g.live a h; exact ⟨o, k₄ _ _ e⟩
          · exact hIo _ _ hst₄
          · obtain ⟨o, _, _, e, _⟩ := hn₄; exact ⟨o, e⟩
          · obtain ⟨nn, e⟩ := hl₄; exact ⟨_, e⟩
      obtain ⟨e, he⟩ : ∃ e, es[i]? = some e := ⟨es[i], List.getElem?_eq_getElem (by omega)⟩
      have v₄ : Vs (F.comp scope cl C (tgs ++ frs)) (fun b => O b ∨ b = I ∨ b = C ∨ b = D) (td i ++ fl) (fun x => if x ∈ tgs then (m₄ x).getD .none else c x) h₄ := by
        intro x l a nl
        rcases At.split (htl i) a with a | a
        · obtain ⟨u, d, e1, rfl, e2⟩ := ht x l a nl
          have hx : x ∈ tgs := a.mem
          simp only [if_pos hx, e1, Option.getD_some]
          refine ⟨fun A s' pos Q E k q => ?_, ?_⟩
          · exact wpAny_Name (wpAny_loadName_local M.kind (lookup_relabel_local (M.loc x hx)) (hn₄.keeps k) e1 q) (M.dbg x (List.mem_append_left _ hx))
          · exact Den.move (fun b o nb e => ⟨k₄ b o e, fun q => by
              rcases q with h | h
              · exact nb h
              · have := neb b o e; rcases h with h | h | h <;> simp [h] at this⟩) e2
        · have hx : x ∈ frs := a.mem
          have nx : x ∉ tgs := fun h => (List.nodup_append.mp M.nodup).2.2 x h x hx rfl
          simp only [if_neg nx]
          obtain ⟨r, b⟩ := vv x l (hfl x l a) nl
          refine ⟨rd_free K M hx fun A s' pos Q E k q => r A s' pos Q E (k₄.trans k) q, ?_⟩
          exact Has.move k₄ (fun b o nb e q => by
              rcases q with h | h
              · exact nb h
              · have := neb b o e; rcases h with h | h | h <;> simp [h] at this) b
      refine wp_no (helt C i e he _ _ { s₁ with heap := h₄, toks := tk₄ } _ g₄ v₄ fun y h₅ tk₅ k₅ d₅ => ?_)
      have hd₅ : DenAll h₅ (fun b => O b ∨ b = I ∨ b = C ∨ b = D) vs (es.take i) := hd'.move fun b o nb e => ⟨k₅ _ _ (hk₄ _ _ (fun q => nb (.inr (.inr (.inl q)))) (hk₃ _ _ (by simp only [List.mem_singleton]; exact fun q => nb (.inr (.inl q))) e)), nb⟩
      obtain ⟨nn, hD₅⟩ := hl₄
      refine append_at (s := { s₁ with heap := h₅, toks := tk₅ }) (hsz := by rw [List.size_toArray, hd'.length, List.length_take]; omega) (k₅ _ _ hD₅) fun h₆ hs₆ hD₆ => ?_
      have hk₆ : ∀ b o, b ≠ D → h₅.get? b = some o → h₆.get? b = some o := fun b o nb e => hs₆.extBut b o nb e
      refine ⟨n + 1 - (i + 1), by omega, h₆, tk₅, i + 1, vs ++ [y], m₄, rfl, hlt, rfl, ?_, ?_, ?_, ?_, ?_⟩
      · exact W.frame _ _ _ hst₄ fun b hb o e => hk₆ b o (fun q => hDf (q ▸ hb)) (k₅ _ _ e)
      · exact fun b o e => hk₆ _ _ (neb b o e).2.2 (k₅ _ _ (k₄ b o e))
      · exact hn₄.at' fun o e => hk₆ _ _ (Ne.symm hDC) (k₅ _ _ e)
      · exact ⟨nn + 1, by rw [hD₆]; simp⟩
      · rw [List.take_add_one, he]
        refine DenAll.append (hd₅.move fun b o nb e => ⟨hk₆ _ _ (fun q => nb (.inr (.inr (.inr q)))) e, nb⟩) (.one (d₅.move fun b o nb e => ⟨hk₆ _ _ (fun q => nb (.inr (.inr (.inr q)))) e, nb⟩))
    · obtain rfl : i = n := Nat.le_antisymm hi (Nat.not_lt.mp hlt)
      rw [← hes, List.take_length] at hd'
      refine W.done _ _ _ hst' fun h₃ tk₃ hk₃ => ?_
      refine hRR D C h₃ tk₃ m' vs hD₁ hC₁ (Ne.symm hDC) (hn'.at' fun o e => hk₃ _ o (by simpa using Ne.symm hIC) e) ?_ (hd'.move fun b o nb e => ⟨hk₃ b o (by simp only [List.mem_singleton]; exact fun q => nb (.inr (.inl q))) e, nb⟩) fun b o e => hk₃ b o (by simpa using (neb b o e).1) (k' b o e)
      obtain ⟨nn, e⟩ := hl'
      exact ⟨nn, hk₃ _ _ (by simpa using Ne.symm hID) e⟩
  exact codeAny_compStart_list (loop _ ⟨_, rfl⟩) (W.self 0 _ _ _ hst₁ (loop _ ⟨_, rfl⟩))
end
end Mine
end
section
open PySem PySem.W PyProof.Rows PySem.Calls PySem.Spec
set_option Elab.async false
set_option maxRecDepth 100000
set_option linter.unusedVariables false
namespace Mine
/-- a comprehension's run up to its end -/
noncomputable def EvC (F : Fx) (σ : List LV) (elt target iter : Expr) (scope : Scope) (cl : List (Str × Addr)) (pos : Pos) (es : List Dt) : Prop :=
  ∀ (O : Addr → Prop) (c : Str → Value) (s : Shared) (RR : Value → Addr → Result → Shared → Prop) (E : Value → Shared → Prop), Gd F.W s.heap O → Vs F O σ c s.heap →
    (∀ D C h' tk m' vs, s.heap.get? D = none → s.heap.get? C = none → C ≠ D → h'.Ns C m' → h'.PlainList D vs.toArray → DenAll h' (fun b => O b ∨ b = C ∨ b = D) vs es → Sub s.heap h' → RR (.ref D) C (.ok .next) { s with heap := h', toks := tk }) →
    wpAny F.M F.A (eval iter F.env) (fun x s₁ => wpAny F.M F.A (pyIter x) (fun it s₂ => wpAny F.M F.A (newList []) (fun acc s₃ => wpAny F.M F.A (newFunctionEnv scope F.env.globals cl [] F.env.qual none .none (some F.env)) (fun cenv s₄ =>
      codeAny F.M F.A (.compStart (.ListComp elt [⟨target, iter, [], 0⟩] scope pos) 0 it acc { cenv with scope := relabel scope F.env }) (RR acc cenv.locals) s₄) E s₃) E s₂) E s₁) E s
section
variable {F : Fx} {σ : List LV}

theorem EvC.walk {elt iter target : Expr} {scope : Scope} {cl : List (Str × Addr)} {pos : Pos} {tgs frs : List Str} {fl : List LV} {td : Nat → List LV} {ds es : List Dt}
    (K : F.Ok) (M : Cmp F scope cl tgs frs) (he : Ev F σ iter (.lst ds)) (hn : ds.length ≤ sizeLine) (hes : es.length = ds.length) (hfl : ∀ x l, At frs fl x l → At F.ns σ x l) (htl : ∀ i, tgs.length = (td i).length)
    (hasg : ∀ C I ax i v (s₁ s' : Shared) m' O (Q : Unit → Shared → Prop), i < ds.length → Den s₁.heap O v (ds.getD i .none) → s₁.heap.get? C = none → Sub s₁.heap s'.heap → s'.heap.IsListIter I ax (i + 1) → s'.heap.Ns C m' → 
      (∀ h'' tk m'', h''.Ns C m'' → (∀ b o, b ≠ C → s'.heap.get? b = some o → h''.get? b = some o) → (∀ x l, At tgs (td i) x l → l ≠ .un → ∃ v d, m'' x = some v ∧ l = .fz d ∧ Den s₁.heap O v d) → Q () { s' with heap := h'', toks := tk }) →
      wpAny F.M F.A (letOwnedTupleGo target (.ref I) v) (fun _ s₁' => wpAny F.M F.A (assign target (compEnvC scope cl C F.env) v) Q (fun _ _ => False) s₁') (fun _ _ => False) s')
    (helt : ∀ C i e, es[i]? = some e → Ev (F.comp scope cl C (tgs ++ frs)) (td i ++ fl) elt e) : EvC F σ elt target iter scope cl pos es := by
  intro O c s RR E g v q
  refine wp_no (he O c s _ g v fun x h₁ t₁ k₁ d₁ => ?_)
  obtain ⟨ax, vs, rfl, hl, na, r⟩ := d₁.lst_inv
  have hlt : ax < h₁.objs.size := by obtain ⟨_, e, _⟩ := hl; exact Heap.lt_size e
  have hl' : (({ s with heap := h₁, toks := t₁ } : Shared)).heap.IsList ax vs.toArray := hl
  refine wpAny_pyIter_list hl' ?_
  have hw := Walks.list (prog := F.W.prog) (w := F.W.w) K.room.hand h₁.objs.size ax (Nat.ne_of_lt hlt) vs.toArray
  refine comp_loop (s₁ := { s with heap := h₁, toks := t₁ }) (O := O) (c := c) (es := es) (td := td) (fl := fl) K M hw (by rw [List.size_toArray, r.length]; exact hn) (by rw [List.size_toArray, r.length]; exact hes) (fun b hb => ?_) (fun i h st => by obtain ⟨o, e, _⟩ := st.1; exact ⟨o, e⟩)
    ⟨⟨_, Heap.get?_push_size _ rfl, rfl, rfl⟩, hl.push _⟩ (get_size_none h₁) (Sub.push _ _) (g.mono k₁) (v.mono k₁) hfl htl (fun C i v s' m' Q hi hP hC k st hn' q' => ?_) helt (fun D C h' tk m' us hD hC hCD hn' hl' hd' k' => ?_)
  · rw [Heap.size_push]
    rcases List.mem_cons.mp hb with rfl | hb
    · exact Nat.lt_succ_self _
    · rw [List.mem_singleton.mp hb]; exact Nat.lt_succ_of_lt hlt
  · have hP' : vs[i]? = some v := by simpa using hP
    obtain ⟨d, ed, dv⟩ := r.at hP'
    have ed' : ds.getD i .none = d := by rw [List.getD_eq_getElem?_getD, ed]; rfl
    exact hasg C h₁.objs.size ax i v { s with heap := h₁, toks := t₁ } s' m' O Q (by rw [List.size_toArray, r.length] at hi; exact hi) (ed' ▸ dv) hC k st.1 hn' q'
  · refine q D C h' tk m' us ?_ ?_ hCD hn' hl' (hd'.move fun b o nb e => ⟨e, fun q => nb (q.imp id .inr)⟩) (k₁.trans k')
    · cases e : s.heap.get? D with
      | none => rfl
      | some o => have := k₁ _ _ e; rw [hD] at this; cases this
    · cases e : s.heap.get? C with
      | none => rfl
      | some o => have := k₁ _ _ e; rw [hC] at this; cases this

theorem asg_name {scope : Scope} {cl : List (Str × Addr)} {x : Str} {px : Pos} {C : Addr} {v : Value} {it : Value} {s₁ s' : Shared} {O : Addr → Prop} {d : Dt} {m' : Str → Option Value} {Q : Unit → Shared → Prop} (hk : scope.kind = .function) (hx : scope.names.lookup x = some .local)
    (dv : Den s₁.heap O v d) (hn' : s'.heap.Ns C m')
    (q : ∀ h'' tk m'', h''.Ns C m'' → (∀ b o, b ≠ C → s'.heap.get? b = some o → h''.get? b = some o) → (∀ y l, At [x] [.fz d] y l → l ≠ .un → ∃ v d, m'' y = some v ∧ l = .fz d ∧ Den s₁.heap O v d) → Q () { s' with heap := h'', toks := tk }) :
    wpAny F.M F.A (letOwnedTupleGo (.Name x px) it v) (fun _ s₁' => wpAny F.M F.A (assign (.Name x px) (compEnvC scope cl C F.env) v) Q (fun _ _ => False) s₁') (fun _ _ => False) s' := by
  refine wpAny_of_eq (show letOwnedTupleGo (.Name x px) it v = pure () from rfl) ?_
  refine wpAny_assign_Name (wpAny_storeName_local (lookup_relabel_local hx) hn' (fun h₃ hn₃ hs₃ => ?_) (by simp [compEnvC, relabel, hk]))
  refine q h₃ _ _ hn₃ (fun b o nb e => hs₃.extBut b o nb e) fun y l a nl => ?_
  cases a with
  | head => exact ⟨v, d, by simp, rfl, dv⟩
  | tail a => cases a

theorem EvC.list {ι : Type} {elt iter : Expr} {x : Str} {px : Pos} {scope : Scope} {cl : List (Str × Addr)} {pos : Pos} {frs : List Str} {fl : List LV} {xs : List ι} {a b : ι → Dt}
    (K : F.Ok) (M : Cmp F scope cl [x] frs) (he : Ev F σ iter (.lst (xs.map a))) (hn : xs.length ≤ sizeLine) (hfl : ∀ x l, At frs fl x l → At F.ns σ x l)
    (helt : ∀ C y, y ∈ xs → Ev (F.comp scope cl C (x :: frs)) (.fz (a y) :: fl) elt (b y)) : EvC F σ elt (.Name x px) iter scope cl pos (xs.map b) := by
  refine EvC.walk (tgs := [x]) (td := fun i => [.fz ((xs.map a).getD i .none)]) K M he (by simpa using hn) (by simp) hfl (fun _ => rfl) (fun C I ax i v s₁ s' m' O Q hi dv hC k hit hn' q => ?_) (fun C i e he => ?_)
  · exact asg_name M.kind (M.loc x (by simp)) dv hn' q
  · rw [List.getElem?_map] at he
    cases hy : xs[i]? with
    | none => rw [hy] at he; simp at he
    | some y =>
      rw [hy] at he
      simp only [Option.map_some, Option.some.injEq] at he
      subst he
      have : (xs.map a).getD i .none = a y := by rw [List.getD_eq_getElem?_getD, List.getElem?_map, hy]; rfl
      simp only [this]
      exact helt C y (List.mem_of_getElem? hy)

theorem EvC.pair {ι : Type} {elt iter : Expr} {x y : Str} {px py : Pos} {k : Nat} {pt : Pos} {scope : Scope} {cl : List (Str × Addr)} {pos : Pos} {frs : List Str} {fl : List LV} {xs : List ι} {a₁ a₂ b : ι → Dt}
    (K : F.Ok) (M : Cmp F scope cl [x, y] frs) (he : Ev F σ iter (.lst (xs.map fun z => .tup [a₁ z, a₂ z]))) (hn : xs.length ≤ sizeLine) (hfl : ∀ x l, At frs fl x l → At F.ns σ x l)
    (helt : ∀ C z, z ∈ xs → Ev (F.comp scope cl C (x :: y :: frs)) (.fz (a₁ z) :: .fz (a₂ z) :: fl) elt (b z)) : EvC F σ elt (.Tuple [.Name x px, .Name y py] k pt) iter scope cl pos (xs.map b) := by
  have key : ∀ i z, xs[i]? = some z → (xs.map fun z => Dt.tup [a₁ z, a₂ z]).getD i .none = .tup [a₁ z, a₂ z] := fun i z hz => by rw [List.getD_eq_getElem?_getD, List.getElem?_map, hz]; rfl
  refine EvC.walk (tgs := [x, y]) (td := fun i => match xs[i]? with | some z => [.fz (a₁ z), .fz (a₂ z)] | none => [.un, .un]) K M he (by simpa using hn) (by simp) hfl (fun i => by cases xs[i]? <;> rfl) (fun C I ax i v s₁ s' m' O Q hi dv hC k hit hn' q => ?_) (fun C i e he => ?_)
  · obtain ⟨z, hz⟩ : ∃ z, xs[i]? = some z := ⟨xs[i]'(by simpa using hi), List.getElem?_eq_getElem _⟩
    rw [key i z hz] at dv
    simp only [hz] at q
    obtain ⟨t, us, rfl, ht, nt, r⟩ := dv.tup_inv
    cases r with
    | cons r1 r =>
    cases r with
    | cons r2 r =>
    cases r
    rename_i v1 v2
    refine wpAny_letOwnedTupleGo_listiter hit ?_
    have ht' : IsTup s'.heap t #[v1, v2] := isTup_sub ht fun o e => k _ o e
    refine assign_Tuple_tuple K.room.hand ht' rfl rfl fun h₅ he => ?_
    have he' : ∀ b o, s'.heap.get? b = some o → h₅.get? b = some o := fun b o e => he b o (Nat.ne_of_lt (Heap.lt_size e)) e
    refine assignInOrder_cons (wpAny_assign_Name (wpAny_storeName_local (lookup_relabel_local (M.loc x (by simp))) (hn'.at' fun o e => he' _ o e) (fun h₆ hn₆ hs₆ => ?_) (by simp [compEnvC, relabel, M.kind])))
    refine assignInOrder_cons (wpAny_assign_Name (wpAny_storeName_local (lookup_relabel_local (M.loc y (by simp))) hn₆ (fun h₃ hn₃ hs₃ => ?_) (by simp [compEnvC, relabel, M.kind])))
    have hxy : x ≠ y := by have := M.nodup; simp at this; exact this.1.1
    refine assignInOrder_nil (q h₃ _ _ hn₃ (fun b o nb e => hs₃.extBut b o nb (hs₆.extBut b o nb (he' b o e))) fun w l a nl => ?_)
    cases a with
    | head => exact ⟨v1, _, by simp [hxy], rfl, r1⟩
    | tail a =>
      cases a with
      | head => exact ⟨v2, _, by simp, rfl, r2⟩
      | tail a => cases a
  · rw [List.getElem?_map] at he
    cases hy : xs[i]? with
    | none => rw [hy] at he; simp at he
    | some z =>
      rw [hy] at he
      simp only [Option.map_some, Option.some.injEq] at he
      subst he
      simp only
      exact helt C z (List.mem_of_getElem? hy)

theorem EvC.range {elt e : Expr} {x : Str} {px p p' : Pos} {scope : Scope} {cl : List (Str × Addr)} {pos : Pos} {frs : List Str} {fl : List LV} {n : Nat} {b : Nat → Dt}
    (K : F.Ok) (M : Cmp F scope cl [x] frs) (B : Bui F "range" (.type "range")) (he : Ev F σ e (.int n)) (hn : n ≤ 2 ^ 20) (hfl : ∀ x l, At frs fl x l → At F.ns σ x l)
    (helt : ∀ C i, i < n → Ev (F.comp scope cl C (x :: frs)) (.fz (.int (i : Nat)) :: fl) elt (b i)) (hs : NoStar F.env [e] := by exact ⟨rfl, trivial⟩) : EvC F σ elt (.Name x px) (.Call (.Name "range" p) [e] [] p') scope cl pos ((List.range n).map b) := by
  intro O c s RR E g v q
  refine call_any (rd_bui K B g.sub _ s p _ _ Sub.rfl (callT hs (wpAny_items_cons (wp_no (he _ c s _ g v fun v₁ h₁ t₁ k₁ d₁ => wpAny_items_nil ?_)) hs.1)))
  cases d₁
  rename_i u
  refine call_range_1 (s := { s with heap := h₁, toks := t₁ }) ?_
  have hr : IsRange (h₁.push { cls := .type "range", data := .fields #[.int 0 t₁, .int (n : Int) u, .int 1 (t₁ + 1)] }) h₁.objs.size ((0 : Nat) : Int) n 1 t₁ u (t₁ + 1) := Heap.get?_push_size _ rfl
  refine wpAny_pyIter_range hr (small_one (by omega) (by omega) (by omega) (by omega)) ?_
  have hsz : Builtin.Range.rangeSize ((0 : Nat) : Int) n 1 = (n : Int) := by
    rw [rangeSize_one]
    split <;> omega
  rw [hsz]
  generalize hH : h₁.push { cls := .type "range", data := .fields #[.int 0 t₁, .int (n : Int) u, .int 1 (t₁ + 1)] } = H
  have kH : Sub h₁ H := hH ▸ Sub.push _ _
  have hw := Walks.range (prog := F.W.prog) (w := F.W.w) K.room.hand H.objs.size 0 1 n
  have nI : s.heap.get? H.objs.size = none := size_fresh (k₁.trans kH)
  refine comp_loop (s₁ := s) (O := O) (c := c) (es := (List.range n).map b) (td := fun i => [.fz (.int (i : Nat))]) (fl := fl) K M hw (Nat.le_trans hn (by exact Nat.le_of_ble_eq_true rfl)) (by simp) (fun b hb => ?_) (fun i h st => ⟨_, st⟩)
    (by have z : IsRangeIter (H.push { cls := .type "range_iterator", data := .fields #[rawInt 0, rawInt (n : Int), rawInt 1] }) H.objs.size 0 (n : Int) 1 := Heap.get?_push_size _ rfl
        simpa using z) nI ((k₁.trans kH).trans (Sub.push _ _)) g v hfl (fun _ => rfl) (fun C i v s' m' Q hi hP hC k st hn' q' => ?_) (fun C i e he => ?_) (fun D C h' tk m' us hD hC hCD hn' hl' hd' k' => ?_)
  · rw [Heap.size_push, List.mem_singleton.mp hb]; exact Nat.lt_succ_self _
  · obtain ⟨t, rfl⟩ := hP
    exact asg_name (s₁ := s) (O := O) M.kind (M.loc x (by simp)) (by simpa using Den.int (i : Int) t) hn' q'
  · rw [List.getElem?_map] at he
    by_cases hi : i < n
    · rw [List.getElem?_range hi] at he
      simp only [Option.map_some, Option.some.injEq] at he
      subst he
      exact helt C i hi
    · rw [List.getElem?_eq_none (by simpa using hi)] at he
      simp at he
  · exact q D C h' tk m' us hD hC hCD hn' hl' (hd'.move fun b o nb e => ⟨e, fun q => nb (q.imp id .inr)⟩) k'

theorem EvN.comp {elt target iter : Expr} {scope : Scope} {cl : List (Str × Addr)} {pos : Pos} {tgs frs : List Str} {es : List Dt} (M : Cmp F scope cl tgs frs) (h : EvC F σ elt target iter scope cl pos es)
    (hs : ∀ x, foldedSetIterable iter F.env x = pure x := by intro _; rfl) : EvN F σ (.ListComp elt [⟨target, iter, [], 0⟩] scope pos) true es := by
  intro O c s Q g v q
  rw [eval_ListComp]
  refine wpAny_comprehension_free (use := none) rfl hs M.clos M.kind M.names (h O c s (fun acc C => compPost F.M F.A (fun _ _ => False) none Q acc C) _ g v fun D C h' tk m' vs hD hC hCD hn hl hd k => ?_)
  refine ⟨m', hn, fun h'' hs'' => ?_⟩
  obtain ⟨nn, e⟩ := hl
  refine q D vs h'' tk (fun b o e => hs''.extBut b o (fun q => by rw [q, hC] at e; cases e) (k _ _ e)) hD ⟨nn, hs''.extBut _ _ (Ne.symm hCD) e⟩ (hd.move fun b o nb e => ⟨hs''.extBut b o (fun q => nb (.inr (.inl q))) e, fun q => nb (q.imp id .inr)⟩)
end
section
variable {F : Fx} {σ σ' : List LV} {s₀ : Shared} {O₀ : Addr → Prop} {Z : Ex} {Φ : Flow → Shared → Prop} {E : Value → Shared → Prop}
theorem Ts.assignC {elt target iter : Expr} {scope : Scope} {cl : List (Str × Addr)} {pos spos py : Pos} {y : Str} {tgs frs : List Str} {es : List Dt} (K : F.Good) (M : Cmp F scope cl tgs frs) (he : EvC F σ elt target iter scope cl pos es) (hp : Put F.ns σ y (.fz (.lst es)) σ') (h : ∀ s', Inv F s₀ O₀ Z σ' s' → Φ .next s')
    (hsw : swapsWith (.ListComp elt [⟨target, iter, [], 0⟩] scope pos) (some (.Name y py)) spos.line F.env = pure true) (hs : ∀ x, foldedSetIterable iter F.env x = pure x := by intro _; rfl) : Ts F s₀ O₀ Z σ (.Assign [.Name y py] (.ListComp elt [⟨target, iter, [], 0⟩] scope pos) spos) Φ E := by
  rintro s ⟨c, m, cm, I⟩
  rw [exec_Assign_Name_used _ _ _ _ hsw]
  refine wpAny_bind (wpAny_standAt (wpAny_bind ?_))
  show wpAny _ F.A (do let _ ← comprehension (.ListComp elt [⟨target, iter, [], 0⟩] scope pos) scope F.env _ (newList []) false (eval iter F.env) (some (PySem.assign (Expr.Name y py) F.env))) _ _ s
  refine wpAny_bind (wpAny_mono (wpAny_comprehension_free (use := some (PySem.assign (Expr.Name y py) F.env)) (Q := fun _ s' => Φ .next s') rfl hs M.clos M.kind M.names
    (he _ c s (fun acc C => compPost F.M F.A E (some (PySem.assign (Expr.Name y py) F.env)) (fun _ s' => Φ .next s') acc C) E I.gd (I.vs K.toOk K.toNames) fun D C h' tk m' vs hD hC hCD hn hl hd k => ?_)) (fun _ s' hq => wpAny_pure (wpAny_pure hq)) fun _ _ e => e)
  obtain ⟨oC, es', ep, eC, rest⟩ := id hn
  have I' := I.alloc (tk := tk) k hC eC
  have g := I.gd
  have nD : ¬ Om F O₀ { Z with led := (C, oC) :: Z.led } σ c D := by
    have nn : ¬ Om F O₀ Z σ c D := fun q => by obtain ⟨o, e⟩ := g.live D q; rw [hD] at e; cases e
    rintro (q | q | q | q | ⟨w, q⟩)
    · exact nn (.inl q)
    · exact nn (.inr (.inl q))
    · exact nn (.inr (.inr (.inl q)))
    · exact nn (.inr (.inr (.inr (.inl q))))
    · rcases List.mem_cons.mp q with q | q
      · cases q; exact hCD rfl
      · exact nn (.inr (.inr (.inr (.inr ⟨w, q⟩))))
  have hdD : DenAll h' (Om F O₀ { Z with led := (C, oC) :: Z.led } σ c) vs es := hd.move fun b o nb e => ⟨e, fun q => nb (by
      rcases q with q | q | q | q | ⟨w, q⟩
      · exact .inl (.inl q)
      · exact .inl (.inr (.inl q))
      · exact .inl (.inr (.inr (.inl q)))
      · exact .inl (.inr (.inr (.inr (.inl q))))
      · rcases List.mem_cons.mp q with q | q
        · cases q; exact .inr (.inl rfl)
        · exact .inl (.inr (.inr (.inr (.inr ⟨w, q⟩)))))⟩
  show wpAny _ F.A (PySem.assign (Expr.Name y py) F.env (.ref D)) _ _ _
  refine wpAny_assign_Name (I'.store (s := { s with heap := h', toks := tk }) (lv := .fz (.lst es)) K.toOk K.toNames Sub.rfl hp (Den.lst hl.isList nD hdD) fun c' m₁ cm' s' J => ?_)
  have eC' := (J.led _ (.head _)).1
  refine ⟨m', ⟨oC, es', ep, eC', rest⟩, fun h'' hs'' => h _ ⟨c', m₁, cm', ?_⟩⟩
  exact J.leave (tk := s'.toks) (led_ne I hC) fun b x nb e => (hs''.2 b nb).trans e
end
end Mine
end
section
open PySem PySem.W PyProof.Rows PySem.Calls PySem.Spec
set_option Elab.async false
set_option maxRecDepth 100000
set_option linter.unusedVariables false
namespace Mine
noncomputable def cmpChk (scope : Scope) (ks : List (Str × NameKind)) (ns tgs frs : List Str) : Bool :=
  scope.names.all (fun y => y.2 != .cell && (y.2 != .local || scope.names.lookup y.1 == some .local) && (y.2 != .free || (ks.lookup y.1 == some .cell && decide (y.1 ∈ ns)))) &&
  tgs.all (fun x => scope.names.lookup x == some .local && !(x == ("__debug__" : Str))) && frs.all (fun x => decide ((x, NameKind.free) ∈ scope.names) && scope.names.lookup x == some .free && !(x == ("__debug__" : Str))) && decide ((tgs ++ frs).Nodup)

noncomputable def cloL (ns : List (Str × NameKind)) (env : Env) : List (Str × Addr) := (((ns.filter (·.2 == .free)).map fun y => (y.1, (env.cells.lookup y.1).getD 0)).reverse)
theorem clo_go {env : Env} {f : Str × NameKind → List (Str × Addr) → Sem (ForInStep (List (Str × Addr)))} (h1 : ∀ n k cs, k ≠ NameKind.free → f (n, k) cs = pure (.yield cs)) (h2 : ∀ n a cs, env.cells.lookup n = some a → f (n, .free) cs = pure (.yield ((n, a) :: cs))) :
    ∀ (ns : List (Str × NameKind)) (cs : List (Str × Addr)), (∀ y ∈ ns, y.2 = .free → ∃ a, env.cells.lookup y.1 = some a) → forIn ns cs f = pure (cloL ns env ++ cs)
  | [], cs, _ => rfl
  | (n, k) :: ns, cs, h => by
    have ih := fun cs => clo_go h1 h2 ns cs fun y hy => h y (List.mem_cons_of_mem _ hy)
    rw [List.forIn_cons]
    by_cases hk : k = .free
    · subst hk
      obtain ⟨a, ha⟩ := h (n, .free) List.mem_cons_self rfl
      have ha' : List.lookup n env.cells = some a := ha
      rw [h2 n a cs ha']
      simp only [pure_bind]
      rw [ih]
      congr 1
      have e : ((n, NameKind.free) :: ns).filter (fun x => x.2 == NameKind.free) = (n, NameKind.free) :: ns.filter (fun x => x.2 == NameKind.free) := rfl
      unfold cloL
      rw [e, List.map_cons, List.reverse_cons]
      simp [ha']
    · rw [h1 n k cs hk]
      simp only [pure_bind]
      rw [ih]
      unfold cloL
      rw [List.filter_cons_of_neg (by simpa using hk)]
theorem clo_eq {env : Env} {scope : Scope} (h : ∀ y ∈ scope.names, y.2 = .free → ∃ a, env.cells.lookup y.1 = some a) : closureFor scope env = pure (cloL scope.names env) := by
  simp only [closureFor]
  rw [clo_go (env := env) (fun n k cs hk => ?_) (fun n a cs ha => ?_) _ _ h]
  · rw [List.append_nil]; rfl
  · have e : (k == NameKind.free) = false := by simpa using hk
    simp only [e, Bool.false_eq_true, if_false]
  · simp only [beq_self_eq_true, if_true, cellOf, ha, pure_bind]
theorem cloL_lookup {env : Env} {ns : List (Str × NameKind)} {x : Str} {a : Addr} (hx : (x, NameKind.free) ∈ ns) (ha : env.cells.lookup x = some a) : (cloL ns env).lookup x = some a := by
  have key : ∀ l : List (Str × Addr), (∀ p ∈ l, p.1 = x → p.2 = a) → (∃ p ∈ l, p.1 = x) → l.lookup x = some a := by
    intro l
    induction l with
    | nil => rintro _ ⟨p, hp, _⟩; cases hp
    | cons q l ih =>
      intro h1 h2
      rw [List.lookup_cons]
      by_cases hq : q.1 = x
      · have e := h1 q List.mem_cons_self hq
        rw [← hq]; simp [e]
      · have e : (x == q.1) = false := by simpa using Ne.symm hq
        rw [e]
        obtain ⟨p, hp, he⟩ := h2
        rcases List.mem_cons.mp hp with r | r
        · exact absurd (r ▸ he) hq
        · exact ih (fun p hp => h1 p (List.mem_cons_of_mem _ hp)) ⟨p, r, he⟩
  refine key _ (fun p hp he => ?_) ⟨(x, a), ?_, rfl⟩
  · unfold cloL at hp
    rw [List.mem_reverse, List.mem_map] at hp
    obtain ⟨y, _, rfl⟩ := hp
    simp only at he ⊢
    rw [he, ha]; rfl
  · unfold cloL
    rw [List.mem_reverse, List.mem_map]
    exact ⟨(x, .free), List.mem_filter.mpr ⟨hx, rfl⟩, by simp [ha]⟩
theorem lookup_relabel_free {env : Env} (hk : env.scope.kind = .function) {x : Str} (hx : env.kindOf x = some .cell) : ∀ {names : List (Str × NameKind)}, names.lookup x = some .free →
    (names.map fun (n, k) => if (k == NameKind.free && env.scope.kind == .function && env.kindOf n == some .cell) then (n, NameKind.cell) else (n, k)).lookup x = some .cell
  | [], h => by simp at h
  | (n, k) :: r, h => by
    have ih := @lookup_relabel_free env hk x hx r
    show List.lookup x ((if (k == NameKind.free && env.scope.kind == .function && env.kindOf n == some .cell) = true then (n, NameKind.cell) else (n, k)) :: _) = _
    cases hn : x == n with
    | true =>
      have e : x = n := by simpa using hn
      subst e
      simp only [List.lookup_cons, hn] at h
      cases h
      simp [List.lookup_cons, hk, hx]
    | false =>
      simp only [List.lookup_cons, hn] at h
      by_cases hc : (k == NameKind.free && env.scope.kind == .function && env.kindOf n == some .cell) = true
      · rw [if_pos hc]; simp only [List.lookup_cons, hn]; exact ih h
      · rw [if_neg hc]; simp only [List.lookup_cons, hn]; exact ih h
theorem Cmp.of {F : Fx} {r : DefRec} {scope : Scope} {tgs frs : List Str} (S : F.Is r) (hk : scope.kind = .function) (h : cmpChk scope r.scope.names F.ns tgs frs = true) : Cmp F scope (cloL scope.names F.env) tgs frs := by
  unfold cmpChk at h
  simp only [Bool.and_eq_true, List.all_eq_true, decide_eq_true_eq, Bool.or_eq_true, bne_iff_ne, beq_iff_eq, Bool.not_eq_true', ne_eq] at h
  obtain ⟨⟨⟨h1, h2⟩, h3⟩, h4⟩ := h
  have cellOfFree : ∀ y ∈ scope.names, y.2 = .free → F.env.kindOf y.1 = some .cell ∧ ∃ a, F.env.cells.lookup y.1 = some a := by
    intro y hy e
    rcases (h1 y hy).2 with q | ⟨q1, q2⟩
    · exact absurd e q
    · have k := S.kindOf y.1
      rw [q1] at k
      refine ⟨k, ?_⟩
      rcases S.kinds y.1 q2 with z | ⟨_, z⟩
      · rw [k] at z; cases z
      · exact z
  refine ⟨clo_eq fun y hy e => (cellOfFree y hy e).2, fun y hy => (h1 y hy).1.1, hk, fun y hy e => ?_, fun x hx => (h2 x hx).1, fun x hx => ?_, fun x hx => ?_, h4⟩
  · rcases (h1 y hy).1.2 with q | q
    · exact absurd e q
    · exact q
  · obtain ⟨⟨m, l⟩, _⟩ := h3 x hx
    obtain ⟨k, a, ha⟩ := cellOfFree (x, .free) m rfl
    exact ⟨lookup_relabel_free S.kind k l, k, (cloL_lookup m ha).trans ha.symm⟩
  · rcases List.mem_append.mp hx with hx | hx
    · exact (h2 x hx).2
    · exact (h3 x hx).2
/-- no free names -/
theorem Cmp.plain {F : Fx} {scope : Scope} {tgs : List Str} (hk : scope.kind = .function) (h : cmpChk scope [] [] tgs [] = true) : Cmp F scope (cloL scope.names F.env) tgs [] := by
  unfold cmpChk at h
  simp only [Bool.and_eq_true, List.all_eq_true, decide_eq_true_eq, Bool.or_eq_true, bne_iff_ne, beq_iff_eq, Bool.not_eq_true', ne_eq] at h
  obtain ⟨⟨⟨h1, h2⟩, h3⟩, h4⟩ := h
  have nofree : ∀ y ∈ scope.names, y.2 ≠ .free := by
    intro y hy e
    rcases (h1 y hy).2 with q | ⟨q1, q2⟩
    · exact q e
    · simp at q2
  refine ⟨clo_eq fun y hy e => absurd e (nofree y hy), fun y hy => (h1 y hy).1.1, hk, fun y hy e => ?_, fun x hx => (h2 x hx).1, fun x hx => (by cases hx), fun x hx => ?_, h4⟩
  · rcases (h1 y hy).1.2 with q | q
    · exact absurd e q
    · exact q
  · rcases List.mem_append.mp hx with hx | hx
    · exact (h2 x hx).2
    · cases hx
/-- a global name inside a comprehension -/
theorem comp_glo {F : Fx} {scope : Scope} {cl : List (Str × Addr)} {C : Addr} {ns : List Str} {x : Str} (h : scope.names.lookup x = some .globalImplicit) : (F.comp scope cl C ns).env.kindOf x = some .globalImplicit := lookup_relabel_ne (by decide) h
theorem comp_bui {F : Fx} {scope : Scope} {cl : List (Str × Addr)} {C : Addr} {ns : List Str} {x : Str} {v : Value} (h : scope.names.lookup x = some .globalImplicit) (h2 : F.W.mg x = none) (h3 : bootBuiltins x = some v) (h4 : x ≠ "__name__") (h5 : (x == ("__debug__" : Str)) = false) : Bui (F.comp scope cl C ns) x v := ⟨comp_glo h, h2, h3, h4, h5⟩
theorem EvN.compI {F : Fx} {σ : List LV} {r : DefRec} {elt target iter : Expr} {scope : Scope} {pos : Pos} {tgs frs : List Str} {es : List Dt} (S : F.Is r) (hk : scope.kind = .function) (h : cmpChk scope r.scope.names F.ns tgs frs = true)
    (e : Cmp F scope (cloL scope.names F.env) tgs frs → EvC F σ elt target iter scope (cloL scope.names F.env) pos es) (hs : ∀ x, foldedSetIterable iter F.env x = pure x := by intro _; rfl) : EvN F σ (.ListComp elt [⟨target, iter, [], 0⟩] scope pos) true es :=
  EvN.comp (Cmp.of S hk h) (e (Cmp.of S hk h)) hs
theorem Ts.assignCI {F : Fx} {σ σ' : List LV} {s₀ : Shared} {O₀ : Addr → Prop} {Z : Ex} {Φ : Flow → Shared → Prop} {E : Value → Shared → Prop} {r : DefRec} {elt target iter : Expr} {scope : Scope} {pos spos py : Pos} {y : Str} {tgs frs : List Str} {es : List Dt} (S : F.Is r) (hk : scope.kind = .function) (h' : cmpChk scope r.scope.names F.ns tgs frs = true)
    (he : Cmp F scope (cloL scope.names F.env) tgs frs → EvC F σ elt target iter scope (cloL scope.names F.env) pos es) (hp : Put F.ns σ y (.fz (.lst es)) σ') (h : ∀ s', Inv F s₀ O₀ Z σ' s' → Φ .next s')
    (hsw : swapsWith (.ListComp elt [⟨target, iter, [], 0⟩] scope pos) (some (.Name y py)) spos.line F.env = pure true) (hs : ∀ x, foldedSetIterable iter F.env x = pure x := by intro _; rfl) : Ts F s₀ O₀ Z σ (.Assign [.Name y py] (.ListComp elt [⟨target, iter, [], 0⟩] scope pos) spos) Φ E :=
  Ts.assignC S.toGood (Cmp.of S hk h') (he (Cmp.of S hk h')) hp h hsw hs
theorem swp {F : Fx} {r : DefRec} {b : Bool} {e : Expr} {t : Option Expr} {l : Nat} (S : F.Is r) (h : ∀ L gl cl q fu co fr bu, swapsWith e t l ⟨r.scope, L, gl, cl, q, fu, co, fr, bu⟩ = pure b) : swapsWith e t l F.env = pure b := by
  have e := S.scope
  obtain ⟨W, env, A, ns, n⟩ := F
  obtain ⟨sc, L, gl, cl, q, fu, co, fr, bu⟩ := env
  simp only at e
  subst e
  exact h _ _ _ _ _ _ _ _
theorem swpS {F : Fx} {r : DefRec} {b : Bool} {ts : List Expr} {e : Expr} {l : Nat} (S : F.Is r) (h : ∀ L gl cl q fu co fr bu, swapsWithSole ts e l ⟨r.scope, L, gl, cl, q, fu, co, fr, bu⟩ = pure b) : swapsWithSole ts e l F.env = pure b := by
  have e := S.scope
  obtain ⟨W, env, A, ns, n⟩ := F
  obtain ⟨sc, L, gl, cl, q, fu, co, fr, bu⟩ := env
  simp only at e
  subst e
  exact h _ _ _ _ _ _ _ _
end Mine
end
section
open PySem PySem.W PyProof.Rows PySem.Calls PySem.Spec
set_option Elab.async false
set_option maxRecDepth 100000
set_option linter.unusedVariables false
namespace Mine
section
variable {F : Fx} {σ : List LV} {l r : Expr} {a b : Int} {pos : Pos}
theorem EvT.cEq (hl : Ev F σ l (.int a)) (hr : Ev F σ r (.int b)) (hm : behindInMarks .Eq r = false := by with_unfolding_all rfl) : EvT F σ (.Compare l [.Eq] [r] pos) (a == b) := EvT.cmp hl hr rfl hm
theorem EvT.cNe (hl : Ev F σ l (.int a)) (hr : Ev F σ r (.int b)) (hm : behindInMarks .NotEq r = false := by with_unfolding_all rfl) : EvT F σ (.Compare l [.NotEq] [r] pos) (a != b) := EvT.cmp hl hr rfl hm
theorem EvT.cLt (hl : Ev F σ l (.int a)) (hr : Ev F σ r (.int b)) (hm : behindInMarks .Lt r = false := by with_unfolding_all rfl) : EvT F σ (.Compare l [.Lt] [r] pos) (decide (a < b)) := EvT.cmp hl hr rfl hm
theorem EvT.cLe (hl : Ev F σ l (.int a)) (hr : Ev F σ r (.int b)) (hm : behindInMarks .LtE r = false := by with_unfolding_all rfl) : EvT F σ (.Compare l [.LtE] [r] pos) (decide (a ≤ b)) := EvT.cmp hl hr rfl hm
theorem EvT.cGt (hl : Ev F σ l (.int a)) (hr : Ev F σ r (.int b)) (hm : behindInMarks .Gt r = false := by with_unfolding_all rfl) : EvT F σ (.Compare l [.Gt] [r] pos) (decide (a > b)) := EvT.cmp hl hr rfl hm
theorem EvT.cGe (hl : Ev F σ l (.int a)) (hr : Ev F σ r (.int b)) (hm : behindInMarks .GtE r = false := by with_unfolding_all rfl) : EvT F σ (.Compare l [.GtE] [r] pos) (decide (a ≥ b)) := EvT.cmp hl hr rfl hm
theorem Ev.cEq (hl : Ev F σ l (.int a)) (hr : Ev F σ r (.int b)) (hm : behindInMarks .Eq r = false := by with_unfolding_all rfl) : Ev F σ (.Compare l [.Eq] [r] pos) (.bool (a == b)) := Ev.cmp hl hr rfl hm
theorem Ev.cNe (hl : Ev F σ l (.int a)) (hr : Ev F σ r (.int b)) (hm : behindInMarks .NotEq r = false := by with_unfolding_all rfl) : Ev F σ (.Compare l [.NotEq] [r] pos) (.bool (a != b)) := Ev.cmp hl hr rfl hm
theorem Ev.cLt (hl : Ev F σ l (.int a)) (hr : Ev F σ r (.int b)) (hm : behindInMarks .Lt r = false := by with_unfolding_all rfl) : Ev F σ (.Compare l [.Lt] [r] pos) (.bool (decide (a < b))) := Ev.cmp hl hr rfl hm
theorem Ev.isNoneT {ds : List Dt} {k : Nat} {p : Pos} (hl : Ev F σ l (.tup ds)) : Ev F σ (.Compare l [.Is] [.Constant .none k p] pos) (.bool false) := Ev.isNone hl (by simp)
end

/-! the walk's own words -/
theorem At.hd {x y : Str} {ns : List Str} {l : LV} {σ : List LV} (e : x = y) : At (x :: ns) (l :: σ) y l := e ▸ .head
theorem Put.hd {x y : Str} {ns : List Str} {l l' : LV} {σ : List LV} (e : x = y) : Put (x :: ns) (l' :: σ) y l (l :: σ) := e ▸ .head
theorem Fx.Is.glo {F : Fx} {r : DefRec} {x : Str} {k : Option NameKind} (S : F.Is r) (h : r.scope.names.lookup x = k) : F.env.kindOf x = k := (S.kindOf x).trans h

/-! the text's defs -/
noncomputable def noScope : Scope := { kind := .function, names := [], isGenerator := false, isCoroutine := false, more := [] }
noncomputable def noRec : DefRec := ⟨Str.empty, { posonlyargs := [], args := [], vararg := none, kwonlyargs := [], kw_defaults := [], kwarg := none, defaults := [] }, [], noScope, ⟨0, 0, 0, 0⟩⟩
noncomputable def pickS : Stmt → DefRec
  | .FunctionDef name params body _ _ _ scope _ _ pos => ⟨name, params, body, scope, pos⟩
  | _ => noRec
noncomputable def pick (k : Nat) : DefRec := match PySem.Challenge.pw_ov0056_01.main.body[k]? with
  | some st => pickS st
  | none => noRec

noncomputable def r_gcd : DefRec := pick 5
theorem h_gcd : Hd r_gcd ["a", "b"] [] where
  bind := by
    intro pm code doc vs h
    rcases vs with _ | ⟨v1, _ | ⟨v2, _ | ⟨v3, vs⟩⟩⟩
    · simp at h
    · simp at h
    · rfl
    · simp at h
  nodup := by decide +kernel
  kinds := by decide +kernel
  nodbg := by decide +kernel
  cor := by rfl
  gen := by rfl
  kind := by rfl
  cellNames := by decide +kernel

noncomputable def r_make : DefRec := pick 6
theorem h_make : Hd r_make ["n", "d"] ["common"] where
  bind := by
    intro pm code doc vs h
    rcases vs with _ | ⟨v1, _ | ⟨v2, _ | ⟨v3, vs⟩⟩⟩
    · simp at h
    · simp at h
    · rfl
    · simp at h
  nodup := by decide +kernel
  kinds := by decide +kernel
  nodbg := by decide +kernel
  cor := by rfl
  gen := by rfl
  kind := by rfl
  cellNames := by decide +kernel

noncomputable def r_is_na : DefRec := pick 7
theorem h_is_na : Hd r_is_na ["x"] [] where
  bind := by
    intro pm code doc vs h
    rcases vs with _ | ⟨v1, _ | ⟨v2, vs⟩⟩
    · simp at h
    · rfl
    · simp at h
  nodup := by decide +kernel
  kinds := by decide +kernel
  nodbg := by decide +kernel
  cor := by rfl
  gen := by rfl
  kind := by rfl
  cellNames := by decide +kernel

noncomputable def r_marked : DefRec := pick 8
theorem h_marked : Hd r_marked ["x", "y"] [] where
  bind := by
    intro pm code doc vs h
    rcases vs with _ | ⟨v1, _ | ⟨v2, _ | ⟨v3, vs⟩⟩⟩
    · simp at h
    · simp at h
    · rfl
    · simp at h
  nodup := by decide +kernel
  kinds := by decide +kernel
  nodbg := by decide +kernel
  cor := by rfl
  gen := by rfl
  kind := by rfl
  cellNames := by decide +kernel

noncomputable def r_neg : DefRec := pick 9
theorem h_neg : Hd r_neg ["x"] [] where
  bind := by
    intro pm code doc vs h
    rcases vs with _ | ⟨v1, _ | ⟨v2, vs⟩⟩
    · simp at h
    · rfl
    · simp at h
  nodup := by decide +kernel
  kinds := by decide +kernel
  nodbg := by decide +kernel
  cor := by rfl
  gen := by rfl
  kind := by rfl
  cellNames := by decide +kernel

noncomputable def r_add : DefRec := pick 10
theorem h_add : Hd r_add ["x", "y"] [] where
  bind := by
    intro pm code doc vs h
    rcases vs with _ | ⟨v1, _ | ⟨v2, _ | ⟨v3, vs⟩⟩⟩
    · simp at h
    · simp at h
    · rfl
    · simp at h
  nodup := by decide +kernel
  kinds := by decide +kernel
  nodbg := by decide +kernel
  cor := by rfl
  gen := by rfl
  kind := by rfl
  cellNames := by decide +kernel

noncomputable def r_sub : DefRec := pick 11
theorem h_sub : Hd r_sub ["x", "y"] [] where
  bind := by
    intro pm code doc vs h
    rcases vs with _ | ⟨v1, _ | ⟨v2, _ | ⟨v3, vs⟩⟩⟩
    · simp at h
    · simp at h
    · rfl
    · simp at h
  nodup := by decide +kernel
  kinds := by decide +kernel
  nodbg := by decide +kernel
  cor := by rfl
  gen := by rfl
  kind := by rfl
  cellNames := by decide +kernel

noncomputable def r_mul : DefRec := pick 12
theorem h_mul : Hd r_mul ["x", "y"] [] where
  bind := by
    intro pm code doc vs h
    rcases vs with _ | ⟨v1, _ | ⟨v2, _ | ⟨v3, vs⟩⟩⟩
    · simp at h
    · simp at h
    · rfl
    · simp at h
  nodup := by decide +kernel
  kinds := by decide +kernel
  nodbg := by decide +kernel
  cor := by rfl
  gen := by rfl
  kind := by rfl
  cellNames := by decide +kernel

noncomputable def r_div : DefRec := pick 13
theorem h_div : Hd r_div ["x", "y"] [] where
  bind := by
    intro pm code doc vs h
    rcases vs with _ | ⟨v1, _ | ⟨v2, _ | ⟨v3, vs⟩⟩⟩
    · simp at h
    · simp at h
    · rfl
    · simp at h
  nodup := by decide +kernel
  kinds := by decide +kernel
  nodbg := by decide +kernel
  cor := by rfl
  gen := by rfl
  kind := by rfl
  cellNames := by decide +kernel

noncomputable def r_identity_rows : DefRec := pick 17
theorem h_identity_rows : Hd r_identity_rows ["size"] ["rows", "place", "row"] where
  bind := by
    intro pm code doc vs h
    rcases vs with _ | ⟨v1, _ | ⟨v2, vs⟩⟩
    · simp at h
    · rfl
    · simp at h
  nodup := by decide +kernel
  kinds := by decide +kernel
  nodbg := by decide +kernel
  cor := by rfl
  gen := by rfl
  kind := by rfl
  cellNames := by decide +kernel

noncomputable def r_copied : DefRec := pick 18
theorem h_copied : Hd r_copied ["rows"] [] where
  bind := by
    intro pm code doc vs h
    rcases vs with _ | ⟨v1, _ | ⟨v2, vs⟩⟩
    · simp at h
    · rfl
    · simp at h
  nodup := by decide +kernel
  kinds := by decide +kernel
  nodbg := by decide +kernel
  cor := by rfl
  gen := by rfl
  kind := by rfl
  cellNames := by decide +kernel

noncomputable def r_transposed : DefRec := pick 19
theorem h_transposed : Hd r_transposed ["rows", "width"] ["result", "place"] where
  bind := by
    intro pm code doc vs h
    rcases vs with _ | ⟨v1, _ | ⟨v2, _ | ⟨v3, vs⟩⟩⟩
    · simp at h
    · simp at h
    · rfl
    · simp at h
  nodup := by decide +kernel
  kinds := by decide +kernel
  nodbg := by decide +kernel
  cor := by rfl
  gen := by rfl
  kind := by rfl
  cellNames := by decide +kernel

noncomputable def r_dot : DefRec := pick 20
theorem h_dot : Hd r_dot ["u", "v"] ["total", "place"] where
  bind := by
    intro pm code doc vs h
    rcases vs with _ | ⟨v1, _ | ⟨v2, _ | ⟨v3, vs⟩⟩⟩
    · simp at h
    · simp at h
    · rfl
    · simp at h
  nodup := by decide +kernel
  kinds := by decide +kernel
  nodbg := by decide +kernel
  cor := by rfl
  gen := by rfl
  kind := by rfl
  cellNames := by decide +kernel

noncomputable def r_times : DefRec := pick 21
theorem h_times : Hd r_times ["a", "b", "width"] ["columns", "result", "row"] where
  bind := by
    intro pm code doc vs h
    rcases vs with _ | ⟨v1, _ | ⟨v2, _ | ⟨v3, _ | ⟨v4, vs⟩⟩⟩⟩
    · simp at h
    · simp at h
    · simp at h
    · rfl
    · simp at h
  nodup := by decide +kernel
  kinds := by decide +kernel
  nodbg := by decide +kernel
  cor := by rfl
  gen := by rfl
  kind := by rfl
  cellNames := by decide +kernel

noncomputable def r_scaled : DefRec := pick 22
theorem h_scaled : Hd r_scaled ["row", "factor"] [] where
  bind := by
    intro pm code doc vs h
    rcases vs with _ | ⟨v1, _ | ⟨v2, _ | ⟨v3, vs⟩⟩⟩
    · simp at h
    · simp at h
    · rfl
    · simp at h
  nodup := by decide +kernel
  kinds := by decide +kernel
  nodbg := by decide +kernel
  cor := by rfl
  gen := by rfl
  kind := by rfl
  cellNames := by decide +kernel

noncomputable def r_less_multiple : DefRec := pick 23
theorem h_less_multiple : Hd r_less_multiple ["row", "other", "factor"] ["result", "place"] where
  bind := by
    intro pm code doc vs h
    rcases vs with _ | ⟨v1, _ | ⟨v2, _ | ⟨v3, _ | ⟨v4, vs⟩⟩⟩⟩
    · simp at h
    · simp at h
    · simp at h
    · rfl
    · simp at h
  nodup := by decide +kernel
  kinds := by decide +kernel
  nodbg := by decide +kernel
  cor := by rfl
  gen := by rfl
  kind := by rfl
  cellNames := by decide +kernel

noncomputable def r_first_filled : DefRec := pick 24
theorem h_first_filled : Hd r_first_filled ["rows", "start", "column"] ["place"] where
  bind := by
    intro pm code doc vs h
    rcases vs with _ | ⟨v1, _ | ⟨v2, _ | ⟨v3, _ | ⟨v4, vs⟩⟩⟩⟩
    · simp at h
    · simp at h
    · simp at h
    · rfl
    · simp at h
  nodup := by decide +kernel
  kinds := by decide +kernel
  nodbg := by decide +kernel
  cor := by rfl
  gen := by rfl
  kind := by rfl
  cellNames := by decide +kernel

noncomputable def r_clear_column : DefRec := pick 25
theorem h_clear_column : Hd r_clear_column ["rows", "pivot", "column"] ["place"] where
  bind := by
    intro pm code doc vs h
    rcases vs with _ | ⟨v1, _ | ⟨v2, _ | ⟨v3, _ | ⟨v4, vs⟩⟩⟩⟩
    · simp at h
    · simp at h
    · simp at h
    · rfl
    · simp at h
  nodup := by decide +kernel
  kinds := by decide +kernel
  nodbg := by decide +kernel
  cor := by rfl
  gen := by rfl
  kind := by rfl
  cellNames := by decide +kernel

noncomputable def r_row_echelon : DefRec := pick 26
theorem h_row_echelon : Hd r_row_echelon ["a"] ["rows", "pivots", "width", "column", "top", "found"] where
  bind := by
    intro pm code doc vs h
    rcases vs with _ | ⟨v1, _ | ⟨v2, vs⟩⟩
    · simp at h
    · rfl
    · simp at h
  nodup := by decide +kernel
  kinds := by decide +kernel
  nodbg := by decide +kernel
  cor := by rfl
  gen := by rfl
  kind := by rfl
  cellNames := by decide +kernel

noncomputable def r_rank_of : DefRec := pick 27
theorem h_rank_of : Hd r_rank_of ["a"] [] where
  bind := by
    intro pm code doc vs h
    rcases vs with _ | ⟨v1, _ | ⟨v2, vs⟩⟩
    · simp at h
    · rfl
    · simp at h
  nodup := by decide +kernel
  kinds := by decide +kernel
  nodbg := by decide +kernel
  cor := by rfl
  gen := by rfl
  kind := by rfl
  cellNames := by decide +kernel

noncomputable def r_null_space : DefRec := pick 28
theorem h_null_space : Hd r_null_space ["a", "width"] ["rows", "pivots", "found", "column", "vector", "place"] where
  bind := by
    intro pm code doc vs h
    rcases vs with _ | ⟨v1, _ | ⟨v2, _ | ⟨v3, vs⟩⟩⟩
    · simp at h
    · simp at h
    · rfl
    · simp at h
  nodup := by decide +kernel
  kinds := by decide +kernel
  nodbg := by decide +kernel
  cor := by rfl
  gen := by rfl
  kind := by rfl
  cellNames := by decide +kernel

noncomputable def r_first_dependent : DefRec := pick 29
theorem h_first_dependent : Hd r_first_dependent ["pivots", "size"] ["column"] where
  bind := by
    intro pm code doc vs h
    rcases vs with _ | ⟨v1, _ | ⟨v2, _ | ⟨v3, vs⟩⟩⟩
    · simp at h
    · simp at h
    · rfl
    · simp at h
  nodup := by decide +kernel
  kinds := by decide +kernel
  nodbg := by decide +kernel
  cor := by rfl
  gen := by rfl
  kind := by rfl
  cellNames := by decide +kernel

noncomputable def r_solve_rows : DefRec := pick 30
theorem h_solve_rows : Hd r_solve_rows ["a", "b"] ["size", "joined", "rows", "pivots", "column"] where
  bind := by
    intro pm code doc vs h
    rcases vs with _ | ⟨v1, _ | ⟨v2, _ | ⟨v3, vs⟩⟩⟩
    · simp at h
    · simp at h
    · rfl
    · simp at h
  nodup := by decide +kernel
  kinds := by decide +kernel
  nodbg := by decide +kernel
  cor := by rfl
  gen := by rfl
  kind := by rfl
  cellNames := by decide +kernel

noncomputable def r_inverse : DefRec := pick 31
theorem h_inverse : Hd r_inverse ["a"] [] where
  bind := by
    intro pm code doc vs h
    rcases vs with _ | ⟨v1, _ | ⟨v2, vs⟩⟩
    · simp at h
    · rfl
    · simp at h
  nodup := by decide +kernel
  kinds := by decide +kernel
  nodbg := by decide +kernel
  cor := by rfl
  gen := by rfl
  kind := by rfl
  cellNames := by decide +kernel

noncomputable def r__law_drawn : DefRec := pick 33
theorem h__law_drawn : Hd r__law_drawn ["script"] ["seeds", "found", "turn_of", "step"] where
  bind := by
    intro pm code doc vs h
    rcases vs with _ | ⟨v1, _ | ⟨v2, vs⟩⟩
    · simp at h
    · rfl
    · simp at h
  nodup := by decide +kernel
  kinds := by decide +kernel
  nodbg := by decide +kernel
  cor := by rfl
  gen := by rfl
  kind := by rfl
  cellNames := by decide +kernel

noncomputable def r__law_grid : DefRec := pick 34
theorem h__law_grid : Hd r__law_grid ["found", "high", "wide"] ["grid", "spot", "_", "line", "half"] where
  bind := by
    intro pm code doc vs h
    rcases vs with _ | ⟨v1, _ | ⟨v2, _ | ⟨v3, _ | ⟨v4, vs⟩⟩⟩⟩
    · simp at h
    · simp at h
    · simp at h
    · rfl
    · simp at h
  nodup := by decide +kernel
  kinds := by decide +kernel
  nodbg := by decide +kernel
  cor := by rfl
  gen := by rfl
  kind := by rfl
  cellNames := by decide +kernel

noncomputable def r__law_singular : DefRec := pick 35
theorem h__law_singular : Hd r__law_singular ["grid"] ["doubled", "total", "spot", "after", "behind"] where
  bind := by
    intro pm code doc vs h
    rcases vs with _ | ⟨v1, _ | ⟨v2, vs⟩⟩
    · simp at h
    · rfl
    · simp at h
  nodup := by decide +kernel
  kinds := by decide +kernel
  nodbg := by decide +kernel
  cor := by rfl
  gen := by rfl
  kind := by rfl
  cellNames := by decide +kernel

noncomputable def r__law_refuses : DefRec := pick 36
theorem h__law_refuses : Hd r__law_refuses ["grid", "right"] ["refused", "error"] where
  bind := by
    intro pm code doc vs h
    rcases vs with _ | ⟨v1, _ | ⟨v2, _ | ⟨v3, vs⟩⟩⟩
    · simp at h
    · simp at h
    · rfl
    · simp at h
  nodup := by decide +kernel
  kinds := by decide +kernel
  nodbg := by decide +kernel
  cor := by rfl
  gen := by rfl
  kind := by rfl
  cellNames := by decide +kernel

noncomputable def r_law : DefRec := pick 37
theorem h_law : Hd r_law ["script"] ["found", "side", "one", "two", "right", "wide", "unit", "joint", "sound", "grid", "bad", "back", "answer", "high", "middle", "width_of", "left", "far", "most", "breadth"] where
  bind := by
    intro pm code doc vs h
    rcases vs with _ | ⟨v1, _ | ⟨v2, vs⟩⟩
    · simp at h
    · rfl
    · simp at h
  nodup := by decide +kernel
  kinds := by decide +kernel
  nodbg := by decide +kernel
  cor := by rfl
  gen := by rfl
  kind := by rfl
  cellNames := by decide +kernel
end Mine
end
section
open PySem PySem.W PyProof.Rows PySem.Calls PySem.Spec
set_option Elab.async false
set_option maxRecDepth 100000
set_option linter.unusedVariables false
namespace Mine
local macro_rules | `(tactic| k_memK) => `(tactic| first | exact At.hd (by with_reducible rfl) | exact Put.hd (by with_reducible rfl) | (refine At.tail ?_; k_memK) | (refine Put.tail ?_; k_memK))
local macro_rules | `(tactic| kqd_in) => `(tactic| first
  | assumption
  | k_memK
  | exact Ev.int
  | exact Ev.noneC
  | exact Ev.boolC
  | refine Ev.var ?_
  | exact EvL.nil
  | refine EvL.cons ?_ ?_
  | refine Ev.add ?_ ?_
  | refine Ev.sub ?_ ?_
  | refine Ev.mul ?_ ?_ ?_
  | refine Ev.mod ?_ ?_ ?_
  | refine Ev.fdiv ?_ ?_ ?_ ?_
  | refine Ev.tuple ?_
  | refine EvT.cEq ?_ ?_
  | refine EvT.cNe ?_ ?_
  | refine EvT.cLt ?_ ?_
  | refine EvT.cLe ?_ ?_
  | refine EvT.cGt ?_ ?_
  | refine EvT.cGe ?_ ?_
  | refine Ev.cEq ?_ ?_
  | refine Ev.cNe ?_ ?_
  | refine Ev.cLt ?_ ?_
  | refine Ev.isNoneT ?_
  | refine EvT.not ?_
  | refine Ev.not ?_
  | refine Ev.neg ?_
  | refine EvT.op ?_
  | exact EvA.andNil
  | exact EvA.orNil
  | exact Fx.Is.glo (by assumption) (by decide +kernel))

/-- all defs of the text stand in the world -/
structure Recs (W : Wd) : Prop where
  gcd : r_gcd ∈ recsOf W.p
  make : r_make ∈ recsOf W.p
  is_na : r_is_na ∈ recsOf W.p
  neg : r_neg ∈ recsOf W.p
  add : r_add ∈ recsOf W.p
  sub : r_sub ∈ recsOf W.p
  mul : r_mul ∈ recsOf W.p
  div : r_div ∈ recsOf W.p
  identity_rows : r_identity_rows ∈ recsOf W.p
  copied : r_copied ∈ recsOf W.p
  transposed : r_transposed ∈ recsOf W.p
  dot : r_dot ∈ recsOf W.p
  times : r_times ∈ recsOf W.p
  scaled : r_scaled ∈ recsOf W.p
  less_multiple : r_less_multiple ∈ recsOf W.p
  first_filled : r_first_filled ∈ recsOf W.p
  clear_column : r_clear_column ∈ recsOf W.p
  row_echelon : r_row_echelon ∈ recsOf W.p
  rank_of : r_rank_of ∈ recsOf W.p
  null_space : r_null_space ∈ recsOf W.p
  first_dependent : r_first_dependent ∈ recsOf W.p
  solve_rows : r_solve_rows ∈ recsOf W.p
  inverse : r_inverse ∈ recsOf W.p
  law_drawn : r__law_drawn ∈ recsOf W.p
  law_grid : r__law_grid ∈ recsOf W.p
  law_singular : r__law_singular ∈ recsOf W.p
  law_refuses : r__law_refuses ∈ recsOf W.p
  law : r_law ∈ recsOf W.p
  b_abs : W.mg "abs" = none
  b_len : W.mg "len" = none
  b_range : W.mg "range" = none
  b_int : W.mg "int" = none
  b_list : W.mg "list" = none
  b_min : W.mg "min" = none
  zero : ∃ v, W.mg "ZERO" = some v ∧ Den W.hb (fun _ => False) v (.tup [.int 0, .int 1])
  one : ∃ v, W.mg "ONE" = some v ∧ Den W.hb (fun _ => False) v (.tup [.int 1, .int 1])

theorem gcd_run {W : Wd} (R : Recs W) (a b : Nat) : Fn W "gcd" 1 [.int a, .int b] (.int (Nat.gcd a b)) := by
  refine Fn.intro h_gcd R.gcd rfl fun env A s₀ O₀ S => ?_
  have K := S.toGood
  refine Tr.cons (Ts.while_ (ι := Nat × Nat) K (fun x => [.fz (.int x.1), .fz (.int x.2)]) (fun x => x.2) (fun x => decide (0 < x.2)) (fun x => (x.2, x.1 % x.2)) (a, b) (fun x => Nat.gcd x.1 x.2 = Nat.gcd a b) rfl Wk.refl ?_ ?_ ?_ ?_)
  · rintro ⟨x, y⟩ _
    refine EvT.cmp (a := (y : Int)) (b := 0) (Ev.var ?_) Ev.int ?_
    · exact .tail .head
    · simp [cmpI]
  · rintro ⟨x, y⟩ _ hy
    refine Tr.cons (Ts.swap K (Ev.tuple (EvL.cons (Ev.var (.tail .head)) (EvL.cons (Ev.mod (a := (x : Int)) (b := (y : Int)) (Ev.var .head) (Ev.var (.tail .head)) ?_) EvL.nil))) (.tail .head) .head (fun s' J => ?_) rfl ?_)
    · simp at hy; omega
    · exact Tr.lp (.same rfl (.same (by simp [Int.fmod_eq_emod_of_nonneg]) .nil)) K s' J
    · have e := S.scope
      obtain ⟨sc, L, gl, cl, q, fu, co, fr, bu⟩ := env
      simp only at e
      subst e
      rfl
  · rintro ⟨x, y⟩ h hy
    simp only [decide_eq_true_eq] at hy h ⊢
    refine ⟨?_, Nat.mod_lt _ hy⟩
    rw [← h, Nat.gcd_comm x y, Nat.gcd_rec y x, Nat.gcd_comm]
  · rintro ⟨x, y⟩ h hy s' J
    have hy0 : y = 0 := by simp at hy; omega
    subst hy0
    simp only [Nat.gcd_zero_right] at h
    subst h
    refine Tr.cons (Ts.ret K (Ev.var .head) fun v h' tk k d => ?_) s' J
    exact ⟨h', tk, rfl, k, d⟩

noncomputable def encQ (q : Rat) : Dt := .tup [.int q.num, .int q.den]
theorem enc_divInt {n d : Int} (hd : 0 < d) : encQ (Rat.divInt n d) = .tup [.int (n.fdiv (Nat.gcd n.natAbs d.natAbs : Nat)), .int (d.fdiv (Nat.gcd n.natAbs d.natAbs : Nat))] := by
  have g0 : (0 : Int) ≤ (Nat.gcd n.natAbs d.natAbs : Nat) := Int.natCast_nonneg _
  unfold encQ
  rw [Rat.num_divInt, Rat.den_divInt, if_neg (by omega), Int.sign_eq_one_of_pos hd, Int.one_mul, Int.fdiv_eq_ediv_of_nonneg _ g0, Int.fdiv_eq_ediv_of_nonneg _ g0]
  have e : d.gcd n = Nat.gcd n.natAbs d.natAbs := by rw [Int.gcd_comm]; rfl
  rw [e]
  congr 3
  · congr 1
    obtain ⟨k, rfl⟩ := Int.eq_ofNat_of_zero_le (Int.le_of_lt hd)
    simp

theorem make_fin {W : Wd} (R : Recs W) {n d : Int} {env : Env} {A : Around} {s₀ : Shared} {O₀ : Addr → Prop} (S : Fx.Is ⟨W, env, A, ["n", "d", "common"], 1⟩ r_make) : ∀ n' d' : Int, 0 < d' → Rat.divInt n d = Rat.divInt n' d' → Tr ⟨W, env, A, ["n", "d", "common"], 1⟩ s₀ O₀ {} [.fz (.int n'), .fz (.int d'), .un] (r_make.body.drop 2) (RetD s₀ fun v h => Den h O₀ v (encQ (Rat.divInt n d))) (fun _ _ => False) := by
  intro n' d' h0 e
  have K := S.toGood
  have K' := S.toOk
  have hg := gcd_run R
  have g1 : ((Nat.gcd n'.natAbs d'.natAbs : Nat) : Int) ≠ 0 := by
    have : 0 < Nat.gcd n'.natAbs d'.natAbs := Nat.gcd_pos_of_pos_right _ (by omega)
    omega
  refine Tr.cons (Ts.assign (d := .int (Nat.gcd n'.natAbs d'.natAbs : Nat)) (σ' := [.fz (.int n'), .fz (.int d'), .fz (.int (Nat.gcd n'.natAbs d'.natAbs : Nat))]) K ?_ ?_ (fun s' J => ?_) rfl)
  · refine Ev.call (n := 1) (ds := [.int n'.natAbs, .int d'.natAbs]) K' ?_ (hg n'.natAbs d'.natAbs) (Nat.le_refl _) (S.glo (by decide +kernel))
    refine EvL.cons (Ev.abs K' ⟨S.glo (by decide +kernel), R.b_abs, by decide +kernel, by decide +kernel, by decide +kernel⟩ ?_) (EvL.cons (Ev.conv (d := .int d') ?_ ?_) EvL.nil)
    · repeat' kqd_in
    · repeat' kqd_in
    · congr 1; omega
  · k_memK
  · refine Tr.cons (Ts.ret (d := .tup [.int (n'.fdiv (Nat.gcd n'.natAbs d'.natAbs : Nat)), .int (d'.fdiv (Nat.gcd n'.natAbs d'.natAbs : Nat))]) K ?_ fun v h' tk k d => ?_) s' J
    · repeat' kqd_in
    · rw [e, enc_divInt h0]; exact ⟨h', tk, rfl, k, d⟩

theorem make_run {W : Wd} (R : Recs W) (n d : Int) (hd : d ≠ 0) : Fn W "make" 2 [.int n, .int d] (encQ (Rat.divInt n d)) := by
  refine Fn.intro h_make R.make rfl fun env A s₀ O₀ S => ?_
  dsimp only [ini, List.map_cons, List.map_nil, List.cons_append, List.nil_append] at S ⊢
  have K := S.toGood
  refine Tr.cons (Ts.ite (b := d == 0) K ?_ (fun h => ?_) (fun h => ?_))
  · repeat' kqd_in
  · exact absurd (by simpa using h) hd
  · refine Tr.next ?_
    refine Tr.cons (Ts.ite (b := decide (d < 0)) K ?_ (fun h => ?_) (fun h => ?_))
    · repeat' kqd_in
    · refine Tr.cons (Ts.assign (d := .int (0 - n)) (σ' := [.fz (.int (0 - n)), .fz (.int d), .un]) K ?_ ?_ (fun s' J => ?_) rfl)
      · repeat' kqd_in
      · k_memK
      · refine Tr.cons (Ts.assign (d := .int (0 - d)) (σ' := [.fz (.int (0 - n)), .fz (.int (0 - d)), .un]) K ?_ ?_ (fun s' J => ?_) rfl) s' J
        · repeat' kqd_in
        · k_memK
        · refine Tr.next ?_ s' J
          refine make_fin R S (0 - n) (0 - d) (by simp at h; omega) ?_
          rw [show (0 - n) = -n by omega, show (0 - d) = -d by omega, Rat.neg_divInt_neg]
    · exact Tr.next (make_fin R S n d (by simp at h; omega) rfl)
end Mine
end
section
open PySem PySem.W PyProof.Rows PySem.Calls PySem.Spec
set_option Elab.async false
set_option maxRecDepth 100000
set_option linter.unusedVariables false
namespace Mine
local macro_rules | `(tactic| k_memK) => `(tactic| first | exact At.hd (by with_reducible rfl) | exact Put.hd (by with_reducible rfl) | (refine At.tail ?_; k_memK) | (refine Put.tail ?_; k_memK))
local macro_rules | `(tactic| kqd_in) => `(tactic| first
  | assumption
  | k_memK
  | exact Ev.int
  | exact Ev.noneC
  | exact Ev.boolC
  | refine Ev.var ?_
  | exact EvL.nil
  | refine EvL.cons ?_ ?_
  | refine Ev.add ?_ ?_
  | refine Ev.sub ?_ ?_
  | refine Ev.mul ?_ ?_ ?_
  | refine Ev.mod ?_ ?_ ?_
  | refine Ev.fdiv ?_ ?_ ?_ ?_
  | refine Ev.tuple ?_
  | refine EvT.cEq ?_ ?_
  | refine EvT.cNe ?_ ?_
  | refine EvT.cLt ?_ ?_
  | refine EvT.cLe ?_ ?_
  | refine EvT.cGt ?_ ?_
  | refine EvT.cGe ?_ ?_
  | refine Ev.cEq ?_ ?_
  | refine Ev.cNe ?_ ?_
  | refine Ev.cLt ?_ ?_
  | refine Ev.isNoneT ?_
  | refine EvT.not ?_
  | refine Ev.not ?_
  | refine Ev.neg ?_
  | refine EvT.op ?_
  | exact EvA.andNil
  | exact EvA.orNil
  | exact Fx.Is.glo (by assumption) (by decide +kernel))

section
variable {F : Fx} {σ : List LV}
theorem Ev.num {l : Expr} {q : Rat} {k : Nat} {p pos : Pos} (h : Ev F σ l (encQ q)) : Ev F σ (.Subscript l (.Constant (.int 0) k p) pos) (.int q.num) := Ev.idxT (ds := [.int q.num, .int q.den]) h Ev.int (by decide) (by decide) rfl
theorem Ev.den {l : Expr} {q : Rat} {k : Nat} {p pos : Pos} (h : Ev F σ l (encQ q)) : Ev F σ (.Subscript l (.Constant (.int 1) k p) pos) (.int q.den) := Ev.idxT (ds := [.int q.num, .int q.den]) h Ev.int (by decide) (by decide) rfl
theorem Ev.qIsNone {l : Expr} {q : Rat} {k : Nat} {p pos : Pos} (hl : Ev F σ l (encQ q)) : Ev F σ (.Compare l [.Is] [.Constant .none k p] pos) (.bool false) := Ev.isNoneT (ds := [.int q.num, .int q.den]) hl
theorem EvT.qIsNone {l : Expr} {q : Rat} {k : Nat} {p pos : Pos} (hl : Ev F σ l (encQ q)) : EvT F σ (.Compare l [.Is] [.Constant .none k p] pos) false := by
  intro O c s Q g v q'
  refine wpAny_isTrue_Compare1 (hl O c s _ g v fun y h₁ t₁ k₁ d₁ => wpAny_Constant_none (is_none ?_)) (by with_unfolding_all rfl)
  have e : (y == Value.none) = false := by cases d₁; rfl
  rw [e]
  exact wpAny_truthy_bool (q' h₁ _ k₁)
end

/-- a fraction's numbers have at most `B` bits -/
structure Bq (B : Nat) (q : Rat) : Prop where
  n : q.num.natAbs < 2 ^ B
  d : q.den < 2 ^ B
theorem two_le {B C : Nat} (h : B ≤ C) : 2 ^ B ≤ 2 ^ C := Nat.pow_le_pow_right (by decide) h
theorem Bq.mono {B C : Nat} {q : Rat} (x : Bq B q) (h : B ≤ C) : Bq C q := ⟨Nat.lt_of_lt_of_le x.n (two_le h), Nat.lt_of_lt_of_le x.d (two_le h)⟩
theorem divInt_bd {n d : Int} {B : Nat} (hd : d ≠ 0) (hn : n.natAbs < 2 ^ B) (hd' : d.natAbs < 2 ^ B) : Bq B (Rat.divInt n d) := by
  constructor
  · rw [Rat.num_divInt]
    refine Nat.lt_of_le_of_lt ?_ hn
    have : (d.sign * n / (d.gcd n : Int)).natAbs ≤ (d.sign * n).natAbs := Int.natAbs_ediv_le_natAbs _ _
    refine Nat.le_trans this ?_
    rw [Int.natAbs_mul, Int.natAbs_sign_of_ne_zero hd, Nat.one_mul]
    exact Nat.le_refl _
  · rw [Rat.den_divInt, if_neg hd]
    exact Nat.lt_of_le_of_lt (Nat.div_le_self _ _) hd'
theorem den0 (q : Rat) : (q.den : Int) ≠ 0 := by have := q.den_nz; omega
theorem add_eq (a b : Rat) : a + b = Rat.divInt (a.num * b.den + b.num * a.den) (a.den * b.den) := by
  conv => lhs; rw [← Rat.num_divInt_den a, ← Rat.num_divInt_den b]
  exact Rat.divInt_add_divInt _ _ (den0 a) (den0 b)
theorem mul_eq (a b : Rat) : a * b = Rat.divInt (a.num * b.num) (a.den * b.den) := by
  conv => lhs; rw [← Rat.num_divInt_den a, ← Rat.num_divInt_den b]
  exact Rat.divInt_mul_divInt _ _
theorem div_eq (a b : Rat) : a / b = Rat.divInt (a.num * b.den) (a.den * b.num) := by
  rw [Rat.div_def]
  conv => lhs; rw [← Rat.num_divInt_den a, ← Rat.num_divInt_den b, Rat.inv_divInt]
  exact Rat.divInt_mul_divInt _ _
theorem mul_lt2 {a b : Nat} {B C : Nat} (ha : a < 2 ^ B) (hb : b < 2 ^ C) : a * b < 2 ^ (B + C) := by
  rw [Nat.pow_add]; exact Nat.mul_lt_mul'' ha hb
theorem Bq.add {a b : Rat} {B C : Nat} (x : Bq B a) (y : Bq C b) : Bq (B + C + 1) (a + b) := by
  rw [add_eq]
  refine divInt_bd (Int.mul_ne_zero (den0 a) (den0 b)) ?_ ?_
  · refine Nat.lt_of_le_of_lt (Int.natAbs_add_le _ _) ?_
    rw [Int.natAbs_mul, Int.natAbs_mul]
    have h1 := mul_lt2 x.n y.d
    have h2 := mul_lt2 y.n x.d
    rw [Nat.add_comm C B] at h2
    rw [Nat.pow_succ]
    simp only [Int.natAbs_natCast]
    omega
  · rw [Int.natAbs_mul]
    have h1 := mul_lt2 x.d y.d
    rw [Nat.pow_succ]
    simp only [Int.natAbs_natCast]
    omega
theorem Bq.mul {a b : Rat} {B C : Nat} (x : Bq B a) (y : Bq C b) : Bq (B + C) (a * b) := by
  rw [mul_eq]
  refine divInt_bd (Int.mul_ne_zero (den0 a) (den0 b)) ?_ ?_ <;> rw [Int.natAbs_mul]
  · exact mul_lt2 x.n y.n
  · exact mul_lt2 x.d y.d
theorem Bq.neg {a : Rat} {B : Nat} (x : Bq B a) : Bq B (-a) := ⟨by rw [Rat.neg_num]; simpa using x.n, by rw [Rat.neg_den]; exact x.d⟩
theorem Bq.sub {a b : Rat} {B C : Nat} (x : Bq B a) (y : Bq C b) : Bq (B + C + 1) (a - b) := by rw [Rat.sub_eq_add_neg]; exact x.add y.neg
theorem Bq.div {a b : Rat} {B C : Nat} (x : Bq B a) (y : Bq C b) (h : b ≠ 0) : Bq (B + C) (a / b) := by
  rw [div_eq]
  have hn : b.num ≠ 0 := by simpa using h
  refine divInt_bd (Int.mul_ne_zero (den0 a) hn) ?_ ?_ <;> rw [Int.natAbs_mul]
  · exact mul_lt2 x.n y.d
  · exact mul_lt2 x.d y.n
theorem bits_lt {a : Int} {B : Nat} (h : a.natAbs < 2 ^ B) : Builtin.Int.intBits a ≤ B := by
  unfold Builtin.Int.intBits
  split
  · omega
  · rename_i h0
    have : a.natAbs ≠ 0 := by simpa using h0
    have := (Nat.log2_lt this).2 h
    omega
theorem mulOk {a b : Int} {B C : Nat} (ha : a.natAbs < 2 ^ B) (hb : b.natAbs < 2 ^ C) (h : B + C ≤ 2 ^ 26) : IntMulOk a b := IntMulOk.of_le (bits_lt ha) (bits_lt hb) (Nat.le_trans h (by decide))
theorem Bq.nn {a b : Rat} {B C : Nat} (x : Bq B a) (y : Bq C b) (h : B + C ≤ 2 ^ 26) : IntMulOk a.num b.num := mulOk x.n y.n h
theorem Bq.nd {a b : Rat} {B C : Nat} (x : Bq B a) (y : Bq C b) (h : B + C ≤ 2 ^ 26) : IntMulOk a.num (b.den : Int) := mulOk x.n y.d h
theorem Bq.dn {a b : Rat} {B C : Nat} (x : Bq B a) (y : Bq C b) (h : B + C ≤ 2 ^ 26) : IntMulOk (a.den : Int) b.num := mulOk x.d y.n h
theorem Bq.dd {a b : Rat} {B C : Nat} (x : Bq B a) (y : Bq C b) (h : B + C ≤ 2 ^ 26) : IntMulOk (a.den : Int) (b.den : Int) := mulOk x.d y.d h

end Mine
end
section
open PySem PySem.W PyProof.Rows PySem.Calls PySem.Spec
set_option Elab.async false
set_option maxRecDepth 100000
set_option linter.unusedVariables false
namespace Mine
local macro_rules | `(tactic| k_memK) => `(tactic| first | exact At.hd (by with_reducible rfl) | exact Put.hd (by with_reducible rfl) | (refine At.tail ?_; k_memK) | (refine Put.tail ?_; k_memK))
local macro_rules | `(tactic| kqd_in) => `(tactic| first
  | assumption
  | k_memK
  | exact Ev.int
  | exact Ev.noneC
  | exact Ev.boolC
  | refine Ev.var ?_
  | exact EvL.nil
  | refine EvL.cons ?_ ?_
  | refine Ev.num ?_
  | refine Ev.den ?_
  | apply Ev.qIsNone
  | apply EvT.qIsNone
  | refine Ev.add ?_ ?_
  | refine Ev.sub ?_ ?_
  | refine Ev.mul ?_ ?_ ?_
  | refine Ev.mod ?_ ?_ ?_
  | refine Ev.fdiv ?_ ?_ ?_ ?_
  | refine Ev.tuple ?_
  | refine EvT.cEq ?_ ?_
  | refine EvT.cNe ?_ ?_
  | refine EvT.cLt ?_ ?_
  | refine EvT.cLe ?_ ?_
  | refine EvT.cGt ?_ ?_
  | refine EvT.cGe ?_ ?_
  | refine Ev.cEq ?_ ?_
  | refine Ev.cNe ?_ ?_
  | refine Ev.cLt ?_ ?_
  | refine Ev.isNoneT ?_
  | refine EvT.not ?_
  | refine Ev.not ?_
  | refine Ev.neg ?_
  | refine EvT.op ?_
  | exact EvA.andNil
  | exact EvA.orNil
  | exact Fx.Is.glo (by assumption) (by decide +kernel))

theorem isna_run {W : Wd} (R : Recs W) (q : Rat) : Fn W "is_na" 1 [encQ q] (.bool false) := by
  refine Fn.intro h_is_na R.is_na rfl fun env A s₀ O₀ S => ?_
  dsimp only [ini, List.map_cons, List.map_nil, List.cons_append, List.nil_append] at S ⊢
  have K := S.toGood
  refine Tr.cons (Ts.ret (d := .bool (false || (q.num == 0 && (q.den : Int) == 0))) K ?_ fun v h' tk k d => ?_)
  · refine Ev.or2 ?_ fun _ => Ev.and2 ?_ fun _ => ?_
    all_goals repeat' kqd_in
  · have : ((q.den : Int) == 0) = false := by simp [q.den_nz]
    rw [this] at d
    simp only [Bool.and_false, Bool.or_false] at d
    exact ⟨h', tk, rfl, k, d⟩
theorem neg_run {W : Wd} (R : Recs W) (q : Rat) : Fn W "neg" 1 [encQ q] (encQ (-q)) := by
  refine Fn.intro h_neg R.neg rfl fun env A s₀ O₀ S => ?_
  dsimp only [ini, List.map_cons, List.map_nil, List.cons_append, List.nil_append] at S ⊢
  have K := S.toGood
  refine Tr.cons (Ts.ite (b := false) K ?_ (fun h => by simp at h) (fun h => Tr.next ?_))
  · repeat' kqd_in
  refine Tr.cons (Ts.ret (d := .tup [.int (0 - q.num), .int q.den]) K ?_ fun v h' tk k d => ?_)
  · repeat' kqd_in
  · have e : encQ (-q) = .tup [.int (0 - q.num), .int q.den] := by unfold encQ; rw [Rat.neg_num, Rat.neg_den]; congr 3; omega
    rw [e]; exact ⟨h', tk, rfl, k, d⟩
section
variable {F : Fx} {σ : List LV}
theorem EvT.naOr {e e' : Expr} {p p' pp pp' pos : Pos} {a b : Rat} (R : Recs F.W) (K : F.Ok) (h1 : Ev F σ e (encQ a)) (h2 : Ev F σ e' (encQ b)) (hn : 1 ≤ F.n) (hx : F.env.kindOf "is_na" = some .globalImplicit)
    (s1 : NoStar F.env [e]) (s2 : NoStar F.env [e']) (t1 : ∀ env, starEach (e :: []) env = (false, eval e env) :: starEach [] env) (t2 : ∀ env, starEach (e' :: []) env = (false, eval e' env) :: starEach [] env) :
    EvT F σ (.BoolOp .Or [.Call (.Name "is_na" p) [e] [] pp, .Call (.Name "is_na" p') [e'] [] pp'] pos) false :=
  EvT.op (EvA.or (a := false) (b := false) (EvT.val (Ev.call K (EvL.cons h1 EvL.nil t1) (isna_run R a) hn hx s1)) fun _ => EvA.or (a := false) (b := false) (EvT.val (Ev.call K (EvL.cons h2 EvL.nil t2) (isna_run R b) hn hx s2)) fun _ => EvA.orNil)
end
theorem denB (q : Rat) : ((q.den : Int) == 0) = false := by simp [q.den_nz]
theorem encQ_inj {a b : Rat} (h : encQ a = encQ b) : a = b := by
  unfold encQ at h
  injection h with h
  injection h with h1 h2
  injection h1 with h1
  injection h2 with h2
  injection h2 with h2
  exact Rat.ext h1 (by omega)
theorem add_run {W : Wd} (R : Recs W) {a b : Rat} {B C : Nat} (ha : Bq B a) (hb : Bq C b) (hB : B + C ≤ 2 ^ 26) : Fn W "add" 3 [encQ a, encQ b] (encQ (a + b)) := by
  refine Fn.intro h_add R.add rfl fun env A s₀ O₀ S => ?_
  dsimp only [ini, List.map_cons, List.map_nil, List.cons_append, List.nil_append] at S ⊢
  have K := S.toGood
  have hB' : C + B ≤ 2 ^ 26 := by omega
  refine Tr.cons (Ts.ite (b := false) K (EvT.naOr R K.toOk (a := a) (b := b) ?_ ?_ (Nat.le_of_ble_eq_true rfl) (S.glo (by decide +kernel)) ⟨rfl, trivial⟩ ⟨rfl, trivial⟩ (fun _ => rfl) fun _ => rfl) (fun h => by simp at h) (fun h => Tr.next ?_))
  · repeat' kqd_in
  · repeat' kqd_in
  refine Tr.cons (Ts.ite (b := ((a.den : Int) == 0) && (((b.den : Int) == 0) && true)) K (EvT.op (EvA.and ?_ fun _ => EvA.and ?_ fun _ => EvA.andNil)) (fun h => by simp [a.den_nz] at h) (fun h => Tr.next ?_))
  · repeat' kqd_in
  · repeat' kqd_in
  refine Tr.cons (Ts.ite (b := (a.den : Int) == 0) K ?_ (fun h => by simp [a.den_nz] at h) (fun h => Tr.next ?_))
  · repeat' kqd_in
  refine Tr.cons (Ts.ite (b := (b.den : Int) == 0) K ?_ (fun h => by simp [b.den_nz] at h) (fun h => Tr.next ?_))
  · repeat' kqd_in
  refine Tr.cons (Ts.ret (d := encQ (a + b)) K ?_ fun v h' tk k d => ?_)
  · refine Ev.call (n := 2) (ds := [.int (a.num * b.den + b.num * a.den), .int (a.den * b.den)]) K.toOk ?_ ?_ (Nat.le_of_ble_eq_true rfl) (S.glo (by decide +kernel))
    · repeat' kqd_in
      · exact ha.nd hb hB
      · exact hb.nd ha hB'
      · exact ha.dd hb hB
    · rw [add_eq]; exact make_run R _ _ (Int.mul_ne_zero (den0 a) (den0 b))
  · exact ⟨h', tk, rfl, k, d⟩
theorem sub_run {W : Wd} (R : Recs W) {a b : Rat} {B C : Nat} (ha : Bq B a) (hb : Bq C b) (hB : B + C ≤ 2 ^ 26) : Fn W "sub" 4 [encQ a, encQ b] (encQ (a - b)) := by
  refine Fn.intro h_sub R.sub rfl fun env A s₀ O₀ S => ?_
  dsimp only [ini, List.map_cons, List.map_nil, List.cons_append, List.nil_append] at S ⊢
  have K := S.toGood
  refine Tr.cons (Ts.ret (d := encQ (a - b)) K ?_ fun v h' tk k d => ?_)
  · rw [Rat.sub_eq_add_neg]
    refine Ev.call (n := 3) (ds := [encQ a, encQ (-b)]) K.toOk ?_ (add_run R ha hb.neg hB) (Nat.le_of_ble_eq_true rfl) (S.glo (by decide +kernel))
    refine EvL.cons ?_ (EvL.cons (Ev.call (n := 1) (ds := [encQ b]) K.toOk ?_ (neg_run R b) (Nat.le_of_ble_eq_true rfl) (S.glo (by decide +kernel))) EvL.nil)
    · repeat' kqd_in
    · repeat' kqd_in
  · exact ⟨h', tk, rfl, k, d⟩
theorem mul_run {W : Wd} (R : Recs W) {a b : Rat} {B C : Nat} (ha : Bq B a) (hb : Bq C b) (hB : B + C ≤ 2 ^ 26) : Fn W "mul" 3 [encQ a, encQ b] (encQ (a * b)) := by
  refine Fn.intro h_mul R.mul rfl fun env A s₀ O₀ S => ?_
  dsimp only [ini, List.map_cons, List.map_nil, List.cons_append, List.nil_append] at S ⊢
  have K := S.toGood
  refine Tr.cons (Ts.ite (b := false) K (EvT.naOr R K.toOk (a := a) (b := b) ?_ ?_ (Nat.le_of_ble_eq_true rfl) (S.glo (by decide +kernel)) ⟨rfl, trivial⟩ ⟨rfl, trivial⟩ (fun _ => rfl) fun _ => rfl) (fun h => by simp at h) (fun h => Tr.next ?_))
  · repeat' kqd_in
  · repeat' kqd_in
  refine Tr.cons (Ts.ret (d := encQ (a * b)) K ?_ fun v h' tk k d => ?_)
  · refine Ev.call (n := 2) (ds := [.int (a.num * b.num), .int (a.den * b.den)]) K.toOk ?_ ?_ (Nat.le_of_ble_eq_true rfl) (S.glo (by decide +kernel))
    · repeat' kqd_in
      · exact ha.nn hb hB
      · exact ha.dd hb hB
    · rw [mul_eq]; exact make_run R _ _ (Int.mul_ne_zero (den0 a) (den0 b))
  · exact ⟨h', tk, rfl, k, d⟩
theorem div_run {W : Wd} (R : Recs W) {a b : Rat} {B C : Nat} (ha : Bq B a) (hb : Bq C b) (hB : B + C ≤ 2 ^ 26) (h0 : b ≠ 0) : Fn W "div" 3 [encQ a, encQ b] (encQ (a / b)) := by
  refine Fn.intro h_div R.div rfl fun env A s₀ O₀ S => ?_
  dsimp only [ini, List.map_cons, List.map_nil, List.cons_append, List.nil_append] at S ⊢
  have K := S.toGood
  have hn : b.num ≠ 0 := by simpa using h0
  refine Tr.cons (Ts.ite (b := false) K (EvT.naOr R K.toOk (a := a) (b := b) ?_ ?_ (Nat.le_of_ble_eq_true rfl) (S.glo (by decide +kernel)) ⟨rfl, trivial⟩ ⟨rfl, trivial⟩ (fun _ => rfl) fun _ => rfl) (fun h => by simp at h) (fun h => Tr.next ?_))
  · repeat' kqd_in
  · repeat' kqd_in
  refine Tr.cons (Ts.ite (b := ((a.den : Int) == 0) && (((b.den : Int) == 0) && true)) K (EvT.op (EvA.and ?_ fun _ => EvA.and ?_ fun _ => EvA.andNil)) (fun h => by simp [a.den_nz] at h) (fun h => Tr.next ?_))
  · repeat' kqd_in
  · repeat' kqd_in
  refine Tr.cons (Ts.ite (b := (a.den : Int) == 0) K ?_ (fun h => by simp [a.den_nz] at h) (fun h => Tr.next ?_))
  · repeat' kqd_in
  refine Tr.cons (Ts.ret (d := encQ (a / b)) K ?_ fun v h' tk k d => ?_)
  · refine Ev.call (n := 2) (ds := [.int (a.num * b.den), .int (a.den * b.num)]) K.toOk ?_ ?_ (Nat.le_of_ble_eq_true rfl) (S.glo (by decide +kernel))
    · repeat' kqd_in
      · exact ha.nd hb hB
      · exact ha.dn hb hB
    · rw [div_eq]; exact make_run R _ _ (Int.mul_ne_zero (den0 a) hn)
  · exact ⟨h', tk, rfl, k, d⟩

end Mine
end
section
open PySem PySem.W PyProof.Rows PySem.Calls PySem.Spec
set_option Elab.async false
set_option maxRecDepth 100000
set_option linter.unusedVariables false
namespace Mine
local macro_rules | `(tactic| k_memK) => `(tactic| first | exact At.hd (by with_reducible rfl) | exact Put.hd (by with_reducible rfl) | (refine At.tail ?_; k_memK) | (apply Put.tail; k_memK))
local macro_rules | `(tactic| kqd_in) => `(tactic| first
  | assumption
  | k_memK
  | exact Ev.int
  | exact Ev.noneC
  | exact Ev.boolC
  | refine Ev.var ?_
  | exact EvL.nil
  | refine EvL.cons ?_ ?_
  | refine Ev.num ?_
  | refine Ev.den ?_
  | apply Ev.qIsNone
  | apply EvT.qIsNone
  | refine Ev.add ?_ ?_
  | refine Ev.sub ?_ ?_
  | refine Ev.mul ?_ ?_ ?_
  | refine Ev.mod ?_ ?_ ?_
  | refine Ev.fdiv ?_ ?_ ?_ ?_
  | refine Ev.tuple ?_
  | refine EvT.cEq ?_ ?_
  | refine EvT.cNe ?_ ?_
  | refine EvT.cLt ?_ ?_
  | refine EvT.cLe ?_ ?_
  | refine EvT.cGt ?_ ?_
  | refine EvT.cGe ?_ ?_
  | refine Ev.cEq ?_ ?_
  | refine Ev.cNe ?_ ?_
  | refine Ev.cLt ?_ ?_
  | refine Ev.isNoneT ?_
  | refine EvT.not ?_
  | refine Ev.not ?_
  | refine Ev.neg ?_
  | refine EvT.op ?_
  | exact EvA.andNil
  | exact EvA.orNil
  | exact Fx.Is.glo (by assumption) (by decide +kernel))

/-! lists by their entries -/
noncomputable def rng {α : Type} (n : Nat) (g : Nat → α) : List α := (List.range n).map g
theorem rng_len {α : Type} {n : Nat} {g : Nat → α} : (rng n g).length = n := by simp [rng]
theorem rng_get {α : Type} {n : Nat} {g : Nat → α} {k : Nat} (h : k < n) : (rng n g)[k]? = some (g k) := by simp [rng, List.getElem?_range h]
theorem rng_nil {α : Type} {g : Nat → α} : rng 0 g = [] := rfl
theorem rng_snoc {α : Type} {n : Nat} {g : Nat → α} : rng n g ++ [g n] = rng (n + 1) g := by simp [rng, List.range_succ]
theorem rng_congr {α : Type} {n : Nat} {f g : Nat → α} (h : ∀ k, k < n → f k = g k) : rng n f = rng n g := List.map_congr_left fun k hk => h k (List.mem_range.mp hk)
theorem rng_set {α : Type} {n : Nat} {g : Nat → α} {k : Nat} {v : α} : (rng n g).set k v = rng n fun j => if j = k then v else g j := by
  apply List.ext_getElem?
  intro i
  by_cases hi : i < n
  · rw [rng_get hi, List.getElem?_set]
    by_cases h : k = i
    · subst h; simp [rng_len, hi]
    · rw [if_neg h, rng_get hi, if_neg (Ne.symm h)]
  · rw [List.getElem?_eq_none (by simp [rng_len]; omega), List.getElem?_eq_none (by simp [rng_len]; omega)]
theorem rng_const {α : Type} {n : Nat} {v : α} : List.replicate n v = rng n fun _ => v := by
  apply List.ext_getElem?
  intro i
  by_cases hi : i < n
  · rw [rng_get hi]; simp [hi]
  · rw [List.getElem?_eq_none (by simp; omega), List.getElem?_eq_none (by simp [rng_len]; omega)]
theorem rng_map {α β : Type} {n : Nat} {g : Nat → α} {f : α → β} : (rng n g).map f = rng n fun i => f (g i) := by simp [rng]
theorem rng_inj {α : Type} {n : Nat} {f g : Nat → α} (h : rng n f = rng n g) {k : Nat} (hk : k < n) : f k = g k := by
  have := congrArg (·[k]?) h
  simpa [rng_get hk] using this
theorem rng_add {α : Type} {n m : Nat} {g f : Nat → α} : rng n g ++ rng m f = rng (n + m) fun i => if i < n then g i else f (i - n) := by
  apply List.ext_getElem?
  intro i
  by_cases hi : i < n
  · rw [List.getElem?_append_left (by rw [rng_len]; exact hi), rng_get hi, rng_get (by omega), if_pos hi]
  · rw [List.getElem?_append_right (by rw [rng_len]; omega), rng_len]
    by_cases hm : i < n + m
    · rw [rng_get (by omega), rng_get hm, if_neg hi]
    · rw [List.getElem?_eq_none (by rw [rng_len]; omega), List.getElem?_eq_none (by rw [rng_len]; omega)]
theorem rng_drop {α : Type} {n k : Nat} {g : Nat → α} : (rng (k + n) g).drop k = rng n fun i => g (k + i) := by
  apply List.ext_getElem?
  intro i
  rw [List.getElem?_drop]
  by_cases hi : i < n
  · rw [rng_get (by omega), rng_get hi]
  · rw [List.getElem?_eq_none (by rw [rng_len]; omega), List.getElem?_eq_none (by rw [rng_len]; omega)]

/-- a row, a matrix -/
noncomputable abbrev Vc := Nat → Rat
noncomputable abbrev Mx := Nat → Nat → Rat
noncomputable def rowD (w : Nat) (f : Vc) : List Dt := rng w fun j => encQ (f j)
noncomputable def rw_ (w : Nat) (f : Vc) : Dt := .lst (rowD w f)
noncomputable def mxD (h w : Nat) (M : Mx) : List Dt := rng h fun i => rw_ w (M i)
noncomputable def mx (h w : Nat) (M : Mx) : Dt := .lst (mxD h w M)
theorem mx_congr {h w : Nat} {M N : Mx} (e : ∀ i j, i < h → j < w → M i j = N i j) : mx h w M = mx h w N := by
  unfold mx mxD rw_ rowD
  rw [rng_congr fun i hi => congrArg Dt.lst (rng_congr fun j hj => congrArg encQ (e i j hi hj))]
theorem rw_congr {w : Nat} {f g : Vc} (e : ∀ j, j < w → f j = g j) : rw_ w f = rw_ w g := by
  unfold rw_ rowD
  rw [rng_congr fun j hj => congrArg encQ (e j hj)]
theorem mx_inj {h w : Nat} {M N : Mx} (e : mx h w M = mx h w N) : ∀ i j, i < h → j < w → M i j = N i j := by
  intro i j hi hj
  unfold mx mxD rw_ rowD at e
  injection e with e
  have := rng_inj e hi
  injection this with this
  exact encQ_inj (rng_inj this hj)

section
variable {F : Fx} {σ : List LV}
theorem enc_zero : encQ 0 = .tup [.int 0, .int 1] := rfl
theorem enc_one : encQ 1 = .tup [.int 1, .int 1] := rfl
theorem Ev.zero {pos : Pos} (R : Recs F.W) (K : F.Ok) (hx : F.env.kindOf "ZERO" = some .globalImplicit) : Ev F σ (.Name "ZERO" pos) (encQ 0) := by
  obtain ⟨v, hv, hd⟩ := R.zero
  exact Ev.glob K hv hd hx
theorem Ev.one {pos : Pos} (R : Recs F.W) (K : F.Ok) (hx : F.env.kindOf "ONE" = some .globalImplicit) : Ev F σ (.Name "ONE" pos) (encQ 1) := by
  obtain ⟨v, hv, hd⟩ := R.one
  exact Ev.glob K hv hd hx
end
theorem bz0 : Bq 1 0 := ⟨by decide, by decide⟩
theorem bz1 : Bq 1 1 := ⟨by decide, by decide⟩
noncomputable def idM : Mx := fun i j => if j = i then 1 else 0
theorem Fx.Is.bui {F : Fx} {r : DefRec} {x : Str} {v : Value} (S : F.Is r) (h1 : r.scope.names.lookup x = some .globalImplicit) (h2 : F.W.mg x = none) (h3 : bootBuiltins x = some v) (h4 : x ≠ "__name__") (h5 : (x == ("__debug__" : Str)) = false) : Bui F x v := ⟨S.glo h1, h2, h3, h4, h5⟩

theorem identity_run {W : Wd} (R : Recs W) (n : Nat) (hn : n ≤ 64) : Fn W "identity_rows" 1 [.int n] (mx n n idM) := by
  refine Fn.intro h_identity_rows R.identity_rows rfl fun env A s₀ O₀ S => ?_
  dsimp only [ini, List.map_cons, List.map_nil, List.cons_append, List.nil_append] at S ⊢
  have K := S.toGood
  have br : Bui ⟨W, env, A, ["size", "rows", "place", "row"], 0⟩ "range" (.type "range") := S.bui (by decide +kernel) R.b_range (by decide +kernel) (by decide +kernel) (by decide +kernel)
  refine Tr.cons (Ts.assignN (pl := true) (ds := []) (σ' := [.fz (.int n), .ow true [], .un, .un]) K (EvN.list EvL.nil) ?_ (fun s' J => ?_) rfl)
  · k_memK
  refine Tr.cons (Ts.forRange K br (n := n) (by repeat' kqd_in) (by omega) (fun i => [.fz (.int n), .ow true (rng i fun i => rw_ n (idM i)), .un, .un]) (fun i => [.fz (.int n), .ow true (rng i fun i => rw_ n (idM i)), .fz (.int (i : Nat)), .un]) (.same rfl (.same (by rfl) .refl)) (fun i hi => ?_) (fun Z' i hi => ?_) fun s' J => ?_) s' J
  · exact Ta.name K (by k_memK)
  · refine Tr.cons (Ts.assignN (pl := true) (ds := rng n fun _ => encQ 0) (σ' := [.fz (.int n), .ow true (rng i fun i => rw_ n (idM i)), .fz (.int (i : Nat)), .ow true (rng n fun _ => encQ 0)]) K ?_ ?_ (fun s' J => ?_) rfl)
    · rw [← rng_const]
      exact EvN.mulL (EvN.list (EvL.cons (Ev.zero R K.toOk (S.glo (by decide +kernel))) EvL.nil)) (Ev.var (by k_memK)) (by omega)
    · k_memK
    refine Tr.cons (Ts.setitem (d := encQ 1) (j := (i : Nat)) (ds := rng n fun _ => encQ 0) (pl := true) K (by k_memK) (Ev.one R K.toOk (S.glo (by decide +kernel))) (Ev.var (by k_memK)) (by omega) (by rw [rng_len]; omega) (by rw [rng_len]; omega) (by k_memK) (fun s' J => ?_) rfl) s' J
    refine Tr.weak K (σ' := [.fz (.int n), .ow true (rng i fun i => rw_ n (idM i)), .fz (.int (i : Nat)), .fz (rw_ n (idM i))]) (.same rfl (.same rfl (.same rfl (.fr ?_ .nil)))) ?_ s' J
    · rw [rng_set]
      unfold rowD
      refine rng_congr fun k hk => ?_
      unfold idM
      simp only [Int.toNat_natCast]
      split <;> rfl
    refine Tr.cons (Ts.append (d := rw_ n (idM i)) K (by k_memK) (Ev.var (by k_memK)) (by k_memK) (by rw [rng_len]; omega) (fun s' J => ?_) ⟨rfl, trivial⟩ (hi := S.inter))
    refine Tr.lp (.same rfl (.same (congrArg (LV.ow true) rng_snoc) (.un (.un .nil)))) K s' J
  · refine Tr.weak K (σ' := [.fz (.int n), .fz (mx n n idM), .un, .un]) (.same rfl (.fr rfl .refl)) ?_ s' J
    refine Tr.cons (Ts.ret K (Ev.var (by k_memK)) fun v h' tk k d => ?_)
    exact ⟨h', tk, rfl, k, d⟩

end Mine
end
section
open PySem PySem.W PyProof.Rows PySem.Calls PySem.Spec
set_option Elab.async false
set_option maxRecDepth 100000
set_option linter.unusedVariables false
namespace Mine
local macro_rules | `(tactic| k_memK) => `(tactic| first | exact At.hd (by with_reducible rfl) | exact Put.hd (by with_reducible rfl) | (refine At.tail ?_; k_memK) | (apply Put.tail; k_memK))
local macro_rules | `(tactic| kqd_in) => `(tactic| first
  | assumption
  | k_memK
  | exact Ev.int
  | exact Ev.noneC
  | exact Ev.boolC
  | refine Ev.var ?_
  | exact EvL.nil
  | refine EvL.cons ?_ ?_
  | refine Ev.num ?_
  | refine Ev.den ?_
  | apply Ev.qIsNone
  | apply EvT.qIsNone
  | refine Ev.add ?_ ?_
  | refine Ev.sub ?_ ?_
  | refine Ev.mul ?_ ?_ ?_
  | refine Ev.mod ?_ ?_ ?_
  | refine Ev.fdiv ?_ ?_ ?_ ?_
  | refine Ev.tuple ?_
  | refine EvT.cEq ?_ ?_
  | refine EvT.cNe ?_ ?_
  | refine EvT.cLt ?_ ?_
  | refine EvT.cLe ?_ ?_
  | refine EvT.cGt ?_ ?_
  | refine EvT.cGe ?_ ?_
  | refine Ev.cEq ?_ ?_
  | refine Ev.cNe ?_ ?_
  | refine Ev.cLt ?_ ?_
  | refine Ev.isNoneT ?_
  | refine EvT.not ?_
  | refine Ev.not ?_
  | refine Ev.neg ?_
  | refine EvT.op ?_
  | exact EvA.andNil
  | exact EvA.orNil
  | exact Fx.Is.glo (by assumption) (by decide +kernel))

section
variable {F : Fx} {σ : List LV}
theorem mxD_get {h w : Nat} {M : Mx} {k : Nat} (hk : k < h) : (mxD h w M)[k]? = some (rw_ w (M k)) := rng_get hk
theorem mxD_len {h w : Nat} {M : Mx} : (mxD h w M).length = h := rng_len
theorem rowD_len {w : Nat} {f : Vc} : (rowD w f).length = w := rng_len
theorem rowD_get {w : Nat} {f : Vc} {k : Nat} (hk : k < w) : (rowD w f)[k]? = some (encQ (f k)) := rng_get hk
theorem Ev.mxI {l i : Expr} {h w k : Nat} {M : Mx} {pos : Pos} (hl : Ev F σ l (mx h w M)) (hi : Ev F σ i (.int (k : Nat))) (hk : k < h) (hh : h ≤ 64) (hs : Idx i := by intro _ _; with_unfolding_all rfl) : Ev F σ (.Subscript l i pos) (rw_ w (M k)) :=
  Ev.idx hl hi (by omega) (by omega) (by rw [Int.toNat_natCast]; exact mxD_get hk) hs
theorem Ev.mxO {x : Str} {p : Pos} {i : Expr} {pl : Bool} {h w k : Nat} {M : Mx} {pos : Pos} (hl : At F.ns σ x (.ow pl (mxD h w M))) (hi : Ev F σ i (.int (k : Nat))) (hk : k < h) (hh : h ≤ 64) (hs : Idx i := by intro _ _; with_unfolding_all rfl) : Ev F σ (.Subscript (.Name x p) i pos) (rw_ w (M k)) :=
  Ev.idxO hl hi (by omega) (by omega) (by rw [Int.toNat_natCast]; exact mxD_get hk) hs
theorem Ev.rwI {l i : Expr} {w k : Nat} {f : Vc} {pos : Pos} (hl : Ev F σ l (rw_ w f)) (hi : Ev F σ i (.int (k : Nat))) (hk : k < w) (hh : w ≤ 64) (hs : Idx i := by intro _ _; with_unfolding_all rfl) : Ev F σ (.Subscript l i pos) (encQ (f k)) :=
  Ev.idx hl hi (by omega) (by omega) (by rw [Int.toNat_natCast]; exact rowD_get hk) hs
theorem Ev.lenM {e : Expr} {h w : Nat} {M : Mx} {p pos : Pos} (K : F.Ok) (b : Bui F "len" (.builtin "len")) (hl : Ev F σ e (mx h w M)) (hh : h ≤ 64) (hs : NoStar F.env [e] := by exact ⟨rfl, trivial⟩) : Ev F σ (.Call (.Name "len" p) [e] [] pos) (.int (h : Nat)) := by
  have := Ev.len (p := p) (pos := pos) K b hl (by rw [mxD_len]; omega) hs
  rwa [mxD_len] at this
theorem Ev.lenR {e : Expr} {w : Nat} {f : Vc} {p pos : Pos} (K : F.Ok) (b : Bui F "len" (.builtin "len")) (hl : Ev F σ e (rw_ w f)) (hh : w ≤ 64) (hs : NoStar F.env [e] := by exact ⟨rfl, trivial⟩) : Ev F σ (.Call (.Name "len" p) [e] [] pos) (.int (w : Nat)) := by
  have := Ev.len (p := p) (pos := pos) K b hl (by rw [rowD_len]; omega) hs
  rwa [rowD_len] at this
end
theorem size64 {n : Nat} (h : n ≤ 64) : n ≤ sizeLine := Nat.le_trans h (by exact Nat.le_of_ble_eq_true rfl)

theorem copied_run {W : Wd} (R : Recs W) (h w : Nat) (M : Mx) (hh : h ≤ 64) (hw : w ≤ 64) : FnN W "copied" 1 [mx h w M] true (mxD h w M) := by
  refine FnN.intro h_copied R.copied rfl fun env A s₀ O₀ S => ?_
  dsimp only [ini, List.map_cons, List.map_nil, List.cons_append, List.nil_append] at S ⊢
  have K := S.toGood
  refine Tr.cons (Ts.retN (pl := true) (ds := mxD h w M) K ?_ fun a vs h' tk k n l d => ?_)
  · refine EvN.compI (tgs := ["row"]) (frs := []) S rfl (by dsimp only; decide +kernel) fun M1 => ?_
    refine EvC.list (frs := []) (fl := []) (xs := List.range h) (a := fun i => rw_ w (M i)) (b := fun i => rw_ w (M i)) K.toOk M1 (Ev.var (by k_memK)) (by simpa using size64 hh) (fun x l a => by cases a) fun C y hy => ?_
    refine EvN.ev (pl := true) (EvN.listOf (K.toOk.comp M1 C) (comp_bui (by decide +kernel) R.b_list (by decide +kernel) (by decide +kernel) (by decide +kernel)) (Ev.var (by k_memK)) (by rw [rowD_len]; exact size64 hw))
  · exact ⟨h', tk, rfl, k, a, vs, rfl, n, l, d⟩

theorem transposed_run {W : Wd} (R : Recs W) (h w : Nat) (M : Mx) {w' : Nat} (hw' : w ≤ w') (hh : h ≤ 64) (hw : w' ≤ 64) : Fn W "transposed" 1 [mx h w' M, .int (w : Nat)] (mx w h fun i j => M j i) := by
  refine Fn.intro h_transposed R.transposed rfl fun env A s₀ O₀ S => ?_
  dsimp only [ini, List.map_cons, List.map_nil, List.cons_append, List.nil_append] at S ⊢
  have K := S.toGood
  refine Tr.cons (Ts.assignN (pl := true) (ds := []) (σ' := [.fz (mx h w' M), .fz (.int (w : Nat)), .ow true [], .un]) K (EvN.list EvL.nil) (by k_memK) (fun s' J => ?_) rfl)
  refine Tr.cons (Ts.forRange K (S.bui (by decide +kernel) R.b_range (by decide +kernel) (by decide +kernel) (by decide +kernel)) (n := w) (by repeat' kqd_in) (by omega) (fun i => [.fz (mx h w' M), .fz (.int (w : Nat)), .ow true (rng i fun i => rw_ h fun j => M j i), .un]) (fun i => [.fz (mx h w' M), .fz (.int (w : Nat)), .ow true (rng i fun i => rw_ h fun j => M j i), .fz (.int (i : Nat))]) (.same rfl (.same rfl (.same (by rfl) .refl))) (fun i hi => ?_) (fun Z' i hi => ?_) fun s' J => ?_) s' J
  · exact Ta.name K (by k_memK)
  · skip
    refine Tr.cons (Ts.append (d := rw_ h fun j => M j i) K (by k_memK) ?_ (by k_memK) (by rw [rng_len]; omega) (fun s' J => ?_) ⟨rfl, trivial⟩ (hi := S.inter))
    · refine EvN.ev (pl := true) (EvN.compI (tgs := ["row"]) (frs := ["place"]) S rfl (by dsimp only; decide +kernel) fun M1 => ?_)
      refine EvC.list (frs := ["place"]) (fl := [.fz (.int (i : Nat))]) (xs := List.range h) (a := fun j => rw_ w' (M j)) (b := fun j => encQ (M j i)) K.toOk M1 (Ev.var (by k_memK)) (by simpa using size64 hh) (fun x l a => ?_) fun C y hy => ?_
      · cases a with
        | head => k_memK
        | tail a => cases a
      · exact Ev.rwI (Ev.var (by k_memK)) (Ev.var (by k_memK)) (by omega) hw
    · exact Tr.lp (.same rfl (.same rfl (.same (congrArg (LV.ow true) rng_snoc) (.un .nil)))) K s' J
  · refine Tr.weak K (σ' := [.un, .un, .fz (mx w h fun i j => M j i), .un]) (.un (.un (.fr rfl .refl))) ?_ s' J
    refine Tr.cons (Ts.ret K (Ev.var (by k_memK)) fun v h' tk k d => ?_)
    exact ⟨h', tk, rfl, k, d⟩

/-! sums -/
noncomputable def sumN : Nat → (Nat → Rat) → Rat
  | 0, _ => 0
  | n + 1, f => sumN n f + f n
theorem Bq.sumN {B C n : Nat} {f : Nat → Rat} (h : ∀ k, k < n → Bq B (f k)) (hC : 1 + n * (B + 1) ≤ C) : Bq C (sumN n f) := by
  induction n generalizing C with
  | zero => exact bz0.mono (by omega)
  | succ n ih =>
    have := ih (fun k hk => h k (by omega)) (Nat.le_refl _)
    exact (this.add (h n (by omega))).mono (by rw [Nat.succ_mul] at hC; omega)

theorem dot_run {W : Wd} (R : Recs W) (n : Nat) (u v : Vc) (B C D : Nat) (hn : n ≤ 64) (hu : ∀ k, k < n → Bq B (u k)) (hv : ∀ k, k < n → Bq C (v k)) (hD : 1 + n * (B + C + 1) ≤ D) (hb : D + B + C ≤ 2 ^ 26) {n' : Nat} (hn' : n ≤ n') (hn64 : n' ≤ 64) : Fn W "dot" 4 [rw_ n u, rw_ n' v] (encQ (sumN n fun k => u k * v k)) := by
  refine Fn.intro h_dot R.dot rfl fun env A s₀ O₀ S => ?_
  dsimp only [ini, List.map_cons, List.map_nil, List.cons_append, List.nil_append] at S ⊢
  have K := S.toGood
  refine Tr.cons (Ts.assign (d := encQ 0) (σ' := [.fz (rw_ n u), .fz (rw_ n' v), .fz (encQ 0), .un]) K (Ev.zero R K.toOk (S.glo (by decide +kernel))) (by k_memK) (fun s' J => ?_) rfl)
  refine Tr.cons (Ts.forRange K (S.bui (by decide +kernel) R.b_range (by decide +kernel) (by decide +kernel) (by decide +kernel)) (n := n) (Ev.lenR K.toOk (S.bui (by decide +kernel) R.b_len (by decide +kernel) (by decide +kernel) (by decide +kernel)) (Ev.var (by k_memK)) hn) (by omega) (fun i => [.fz (rw_ n u), .fz (rw_ n' v), .fz (encQ (sumN i fun k => u k * v k)), .un]) (fun i => [.fz (rw_ n u), .fz (rw_ n' v), .fz (encQ (sumN i fun k => u k * v k)), .fz (.int (i : Nat))]) .refl (fun i hi => ?_) (fun Z' i hi => ?_) fun s' J => ?_) s' J
  · exact Ta.name K (by k_memK)
  · have hs : Bq D (sumN i fun k => u k * v k) := Bq.sumN (B := B + C) (fun k hk => (hu k (by omega)).mul (hv k (by omega))) (Nat.le_trans (by have := Nat.mul_le_mul_right (B + C + 1) (Nat.le_of_lt hi); omega) hD)
    refine Tr.cons (Ts.assign (d := encQ (sumN (i + 1) fun k => u k * v k)) K ?_ (by k_memK) (fun s' J => ?_) rfl)
    · refine Ev.call (n := 3) (ds := [encQ (sumN i fun k => u k * v k), encQ (u i * v i)]) K.toOk ?_ (add_run R hs ((hu i hi).mul (hv i hi)) (by omega)) (Nat.le_of_ble_eq_true rfl) (S.glo (by decide +kernel))
      refine EvL.cons (Ev.var (by k_memK)) (EvL.cons ?_ EvL.nil)
      refine Ev.call (n := 3) (ds := [encQ (u i), encQ (v i)]) K.toOk ?_ (mul_run R (hu i hi) (hv i hi) (by omega)) (Nat.le_of_ble_eq_true rfl) (S.glo (by decide +kernel))
      exact EvL.cons (Ev.rwI (Ev.var (by k_memK)) (Ev.var (by k_memK)) hi hn) (EvL.cons (Ev.rwI (Ev.var (by k_memK)) (Ev.var (by k_memK)) (by omega) hn64) EvL.nil)
    · exact Tr.lp (.same rfl (.same rfl (.same rfl (.un .nil)))) K s' J
  · refine Tr.cons (Ts.ret K (Ev.var (by k_memK)) fun v h' tk k d => ?_) s' J
    exact ⟨h', tk, rfl, k, d⟩
noncomputable def mulM (m : Nat) (A B : Mx) : Mx := fun i j => sumN m fun k => A i k * B k j
theorem times_run {W : Wd} (R : Recs W) (h m w : Nat) (P Q : Mx) (B C D : Nat) (hh : h ≤ 64) (hm : m ≤ 64) {w' : Nat} (hw : w ≤ w') (hw' : w' ≤ 64) (hu : ∀ i k, i < h → k < m → Bq B (P i k)) (hv : ∀ k j, k < m → j < w → Bq C (Q k j)) (hD : 1 + m * (B + C + 1) ≤ D) (hb : D + B + C ≤ 2 ^ 26) :
    Fn W "times" 5 [mx h m P, mx m w' Q, .int (w : Nat)] (mx h w (mulM m P Q)) := by
  refine Fn.intro h_times R.times rfl fun env A s₀ O₀ S => ?_
  dsimp only [ini, List.map_cons, List.map_nil, List.cons_append, List.nil_append] at S ⊢
  have K := S.toGood
  refine Tr.cons (Ts.assign (d := mx w m fun i j => Q j i) (σ' := [.fz (mx h m P), .fz (mx m w' Q), .fz (.int (w : Nat)), .fz (mx w m fun i j => Q j i), .un, .un]) K ?_ (by k_memK) (fun s' J => ?_) (swp S fun _ _ _ _ _ _ _ _ => rfl))
  · refine Ev.call (n := 1) (ds := [mx m w' Q, .int (w : Nat)]) K.toOk ?_ (transposed_run R m w Q hw hm hw') (Nat.le_of_ble_eq_true rfl) (S.glo (by decide +kernel))
    repeat' kqd_in
  · refine Tr.cons (Ts.assignN (pl := true) (ds := []) (σ' := [.fz (mx h m P), .fz (mx m w' Q), .fz (.int (w : Nat)), .fz (mx w m fun i j => Q j i), .ow true [], .un]) K (EvN.list EvL.nil) (by k_memK) (fun s' J => ?_) rfl) s' J
    refine Tr.cons (Ts.forList (ds := mxD h m P) K (Ev.var (by k_memK)) (fun i => [.fz (mx h m P), .fz (mx m w' Q), .fz (.int (w : Nat)), .fz (mx w m fun i j => Q j i), .ow true (mxD i w (mulM m P Q)), .un]) (fun i => [.fz (mx h m P), .fz (mx m w' Q), .fz (.int (w : Nat)), .fz (mx w m fun i j => Q j i), .ow true (mxD i w (mulM m P Q)), .fz (rw_ m (P i))]) (.same rfl (.same rfl (.same rfl (.same rfl (.same (by rfl) .refl))))) (fun i hi => ?_) (fun Z' i hi => ?_) (fun s' J => ?_) (.inl fun _ _ => rfl)) s' J
    · rw [mxD_len] at hi
      refine Ta.name K ?_
      rw [List.getD_eq_getElem?_getD, mxD_get hi]
      exact .tail (.tail (.tail (.tail (.tail .head))))
    · rw [mxD_len] at hi
      refine Tr.cons (Ts.append (d := rw_ w (mulM m P Q i)) K (by k_memK) ?_ (by k_memK) (by rw [mxD_len]; omega) (fun s' J => ?_) ⟨rfl, trivial⟩ (hi := S.inter))
      · refine EvN.ev (pl := true) (EvN.compI (tgs := ["column"]) (frs := ["row"]) S rfl (by dsimp only; decide +kernel) fun M1 => ?_)
        refine EvC.list (frs := ["row"]) (fl := [.fz (rw_ m (P i))]) (xs := List.range w) (a := fun j => rw_ m fun k => Q k j) (b := fun j => encQ (mulM m P Q i j)) K.toOk M1 (Ev.var (by k_memK)) (by simp; exact size64 (Nat.le_trans hw hw')) (fun x l a => ?_) fun C y hy => ?_
        · cases a with
          | head => k_memK
          | tail a => cases a
        · have hy' : y < w := List.mem_range.mp hy
          refine Ev.call (n := 4) (ds := [rw_ m (P i), rw_ m fun k => Q k y]) (K.toOk.comp M1 C) ?_ (dot_run R m _ _ B _ D hm (fun k hk => hu i k hi hk) (fun k hk => hv k y hk hy') hD hb (Nat.le_refl _) hm) (Nat.le_of_ble_eq_true rfl) (comp_glo (by decide +kernel))
          repeat' kqd_in
      · exact Tr.lp (.same rfl (.same rfl (.same rfl (.same rfl (.same (congrArg (LV.ow true) rng_snoc) (.un .nil)))))) K s' J
    · rw [mxD_len] at J
      refine Tr.weak K (σ' := [.un, .un, .un, .un, .fz (mx h w (mulM m P Q)), .un]) (.un (.un (.un (.un (.fr rfl .refl))))) ?_ s' J
      refine Tr.cons (Ts.ret K (Ev.var (by k_memK)) fun v h' tk k d => ?_)
      exact ⟨h', tk, rfl, k, d⟩

end Mine
end
section
open PySem PySem.W PyProof.Rows PySem.Calls PySem.Spec
set_option Elab.async false
set_option maxRecDepth 100000
set_option linter.unusedVariables false
namespace Mine
local macro_rules | `(tactic| k_memK) => `(tactic| first | exact At.hd (by with_reducible rfl) | exact Put.hd (by with_reducible rfl) | (refine At.tail ?_; k_memK) | (apply Put.tail; k_memK))
local macro_rules | `(tactic| kqd_in) => `(tactic| first
  | assumption
  | k_memK
  | exact Ev.int
  | exact Ev.noneC
  | exact Ev.boolC
  | refine Ev.var ?_
  | exact EvL.nil
  | refine EvL.cons ?_ ?_
  | refine Ev.num ?_
  | refine Ev.den ?_
  | apply Ev.qIsNone
  | apply EvT.qIsNone
  | refine Ev.add ?_ ?_
  | refine Ev.sub ?_ ?_
  | refine Ev.mul ?_ ?_ ?_
  | refine Ev.mod ?_ ?_ ?_
  | refine Ev.fdiv ?_ ?_ ?_ ?_
  | refine Ev.tuple ?_
  | refine EvT.cEq ?_ ?_
  | refine EvT.cNe ?_ ?_
  | refine EvT.cLt ?_ ?_
  | refine EvT.cLe ?_ ?_
  | refine EvT.cGt ?_ ?_
  | refine EvT.cGe ?_ ?_
  | refine Ev.cEq ?_ ?_
  | refine Ev.cNe ?_ ?_
  | refine Ev.cLt ?_ ?_
  | refine Ev.isNoneT ?_
  | refine EvT.not ?_
  | refine Ev.not ?_
  | refine Ev.neg ?_
  | refine EvT.op ?_
  | exact EvA.andNil
  | exact EvA.orNil
  | exact Fx.Is.glo (by assumption) (by decide +kernel))

theorem scaled_run {W : Wd} (R : Recs W) (w : Nat) (f : Vc) (q : Rat) (B C : Nat) (hw : w ≤ 64) (hf : ∀ j, j < w → Bq B (f j)) (hq : Bq C q) (hb : B + C ≤ 2 ^ 26) : Fn W "scaled" 4 [rw_ w f, encQ q] (rw_ w fun j => f j * q) := by
  refine Fn.intro h_scaled R.scaled rfl fun env A s₀ O₀ S => ?_
  dsimp only [ini, List.map_cons, List.map_nil, List.cons_append, List.nil_append] at S ⊢
  have K := S.toGood
  refine Tr.cons (Ts.ret (d := rw_ w fun j => f j * q) K ?_ fun v h' tk k d => ?_)
  · refine EvN.ev (pl := true) (EvN.compI (tgs := ["item"]) (frs := ["factor"]) S rfl (by dsimp only; decide +kernel) fun M1 => ?_)
    refine EvC.list (frs := ["factor"]) (fl := [.fz (encQ q)]) (xs := List.range w) (a := fun j => encQ (f j)) (b := fun j => encQ (f j * q)) K.toOk M1 (Ev.var (by k_memK)) (by simpa using size64 hw) (fun x l a => ?_) fun C' y hy => ?_
    · cases a with
      | head => k_memK
      | tail a => cases a
    · refine Ev.call (n := 3) (ds := [encQ (f y), encQ q]) (K.toOk.comp M1 C') ?_ (mul_run R (hf y (List.mem_range.mp hy)) hq hb) (Nat.le_of_ble_eq_true rfl) (comp_glo (by decide +kernel))
      repeat' kqd_in
  · exact ⟨h', tk, rfl, k, d⟩
theorem ok_encQ (q : Rat) : okE 1 (encQ q) = true := by simp [encQ, okE, okEs]
theorem eq_encQ {a b : Rat} : decide (a = b) = true ↔ encQ a = encQ b := by
  rw [decide_eq_true_iff]
  exact ⟨fun h => h ▸ rfl, encQ_inj⟩
theorem less_multiple_run {W : Wd} (R : Recs W) (w : Nat) (f g : Vc) (q : Rat) (B C D : Nat) (hw : w ≤ 64) (hf : ∀ j, j < w → Bq B (f j)) (hg : ∀ j, j < w → Bq C (g j)) (hq : Bq D q) (hb : B + C + D ≤ 2 ^ 26) :
    Fn W "less_multiple" 5 [rw_ w f, rw_ w g, encQ q] (rw_ w fun j => f j - q * g j) := by
  refine Fn.intro h_less_multiple R.less_multiple rfl fun env A s₀ O₀ S => ?_
  dsimp only [ini, List.map_cons, List.map_nil, List.cons_append, List.nil_append] at S ⊢
  have K := S.toGood
  refine Tr.cons (Ts.ite (b := decide (q = 0)) K (EvT.eq (a := encQ q) (b := encQ 0) K.toOk (Ev.var (by k_memK)) (Ev.zero R K.toOk (S.glo (by decide +kernel))) (ok_encQ _) (ok_encQ _) (by omega) (by omega) eq_encQ) (fun h => ?_) (fun h => Tr.next ?_))
  · have hq0 : q = 0 := by simpa using h
    refine Tr.cons (Ts.ret (d := rw_ w fun j => f j - q * g j) K (Ev.conv (Ev.var (d := rw_ w f) (by k_memK)) ?_) fun v h' tk k d => ?_)
    · refine rw_congr fun j _ => ?_
      rw [hq0, Rat.zero_mul, Rat.sub_eq_add_neg, Rat.neg_zero, Rat.add_zero]
    · exact ⟨h', tk, rfl, k, d⟩
  · refine Tr.cons (Ts.assignN (pl := true) (ds := []) (σ' := [.fz (rw_ w f), .fz (rw_ w g), .fz (encQ q), .ow true [], .un]) K (EvN.list EvL.nil) (by k_memK) (fun s' J => ?_) rfl)
    refine Tr.cons (Ts.forRange K (S.bui (by decide +kernel) R.b_range (by decide +kernel) (by decide +kernel) (by decide +kernel)) (n := w) (Ev.lenR K.toOk (S.bui (by decide +kernel) R.b_len (by decide +kernel) (by decide +kernel) (by decide +kernel)) (Ev.var (by k_memK)) hw) (by omega) (fun i => [.fz (rw_ w f), .fz (rw_ w g), .fz (encQ q), .ow true (rowD i fun j => f j - q * g j), .un]) (fun i => [.fz (rw_ w f), .fz (rw_ w g), .fz (encQ q), .ow true (rowD i fun j => f j - q * g j), .fz (.int (i : Nat))]) .refl (fun i hi => ?_) (fun Z' i hi => ?_) fun s' J => ?_) s' J
    · exact Ta.name K (by k_memK)
    · refine Tr.cons (Ts.append (d := encQ (f i - q * g i)) K (by k_memK) ?_ (by k_memK) (by rw [rowD_len]; omega) (fun s' J => ?_) ⟨rfl, trivial⟩ (hi := S.inter))
      · refine Ev.call (n := 4) (ds := [encQ (f i), encQ (q * g i)]) K.toOk ?_ (sub_run R (hf i hi) (hq.mul (hg i hi)) (by omega)) (Nat.le_of_ble_eq_true rfl) (S.glo (by decide +kernel))
        refine EvL.cons (Ev.rwI (Ev.var (by k_memK)) (Ev.var (by k_memK)) hi hw) (EvL.cons ?_ EvL.nil)
        refine Ev.call (n := 3) (ds := [encQ q, encQ (g i)]) K.toOk ?_ (mul_run R hq (hg i hi) (by omega)) (Nat.le_of_ble_eq_true rfl) (S.glo (by decide +kernel))
        exact EvL.cons (Ev.var (by k_memK)) (EvL.cons (Ev.rwI (Ev.var (by k_memK)) (Ev.var (by k_memK)) hi hw) EvL.nil)
      · exact Tr.lp (.same rfl (.same rfl (.same rfl (.same (congrArg (LV.ow true) rng_snoc) (.un .nil))))) K s' J
    · refine Tr.weak K (σ' := [.un, .un, .un, .fz (rw_ w fun j => f j - q * g j), .un]) (.un (.un (.un (.fr rfl .refl)))) ?_ s' J
      refine Tr.cons (Ts.ret K (Ev.var (by k_memK)) fun v h' tk k d => ?_)
      exact ⟨h', tk, rfl, k, d⟩
theorem first_filled_run {W : Wd} (R : Recs W) (h w : Nat) (M : Mx) (a c : Nat) (r : Int) (hh : h ≤ 64) (hw : w ≤ 64) (ha : a ≤ h) (hc : c < w) (hr : (∃ p : Nat, a ≤ p ∧ p < h ∧ M p c ≠ 0 ∧ (∀ i, a ≤ i → i < p → M i c = 0) ∧ r = p) ∨ ((∀ i, a ≤ i → i < h → M i c = 0) ∧ r = -1)) :
    Fn W "first_filled" 1 [mx h w M, .int (a : Nat), .int (c : Nat)] (.int r) := by
  refine Fn.intro h_first_filled R.first_filled rfl fun env A s₀ O₀ S => ?_
  dsimp only [ini, List.map_cons, List.map_nil, List.cons_append, List.nil_append] at S ⊢
  have K := S.toGood
  have br : Bui ⟨W, env, A, ["rows", "start", "column", "place"], 0⟩ "range" (.type "range") := S.bui (by decide +kernel) R.b_range (by decide +kernel) (by decide +kernel) (by decide +kernel)
  have bl : Bui ⟨W, env, A, ["rows", "start", "column", "place"], 0⟩ "len" (.builtin "len") := S.bui (by decide +kernel) R.b_len (by decide +kernel) (by decide +kernel) (by decide +kernel)
  have tst : ∀ k, k < h → ∀ p1 p2 p3 p4 p5 p6 p7, EvT ⟨W, env, A, ["rows", "start", "column", "place"], 0⟩ [.fz (mx h w M), .fz (.int (a : Nat)), .fz (.int (c : Nat)), .fz (.int (k : Nat))]
      (.Compare (.Subscript (.Subscript (.Name "rows" p1) (.Name "place" p2) p3) (.Name "column" p4) p5) [.NotEq] [.Name "ZERO" p6] p7) (!decide (M k c = 0)) := by
    intro k hk p1 p2 p3 p4 p5 p6 p7
    exact EvT.ne (a := encQ (M k c)) (b := encQ 0) K.toOk (Ev.rwI (Ev.mxI (Ev.var (by k_memK)) (Ev.var (by k_memK)) hk hh) (Ev.var (by k_memK)) hc hw) (Ev.zero R K.toOk (S.glo (by decide +kernel))) (ok_encQ _) (ok_encQ _) (by omega) (by omega) eq_encQ
  rcases hr with ⟨p, h1, h2, h3, h4, rfl⟩ | ⟨h1, rfl⟩
  · refine Tr.cons (Ts.forRange2R (R := fun i => a + i ≤ p) h1 K br (a := a) (n := h) (Ev.var (by k_memK)) (Ev.lenM K.toOk bl (Ev.var (by k_memK)) hh) ha (by omega) (fun i => [.fz (mx h w M), .fz (.int (a : Nat)), .fz (.int (c : Nat)), .un]) (fun i => [.fz (mx h w M), .fz (.int (a : Nat)), .fz (.int (c : Nat)), .fz (.int ((a + i : Nat)))]) .refl (fun i hi => ?_) (fun Z' i hi hR => ?_) fun hR s' J => ?_)
    · exact Ta.name K (by k_memK)
    · by_cases e : a + i = p
      · refine .inr (Tr.cons (Ts.ite (b := !decide (M (a + i) c = 0)) K (tst (a + i) (by omega) _ _ _ _ _ _ _) (fun _ => ?_) fun q => ?_))
        · refine Tr.cons (Ts.ret (d := .int (p : Nat)) K (by rw [e]; exact Ev.var (by k_memK)) fun v h' tk k d => ?_)
          exact ⟨h', tk, rfl, k, d⟩
        · rw [e] at q; simp [h3] at q
      · refine .inl ⟨by omega, Tr.cons (Ts.ite (b := !decide (M (a + i) c = 0)) K (tst (a + i) (by omega) _ _ _ _ _ _ _) (fun q => ?_) fun _ => Tr.next ?_)⟩
        · rw [h4 (a + i) (by omega) (by omega)] at q; simp at q
        · exact Tr.lp (.same rfl (.same rfl (.same rfl (.un .nil)))) K
    · omega
  · refine Tr.cons (Ts.forRange2 K br (a := a) (n := h) (Ev.var (by k_memK)) (Ev.lenM K.toOk bl (Ev.var (by k_memK)) hh) ha (by omega) (fun i => [.fz (mx h w M), .fz (.int (a : Nat)), .fz (.int (c : Nat)), .un]) (fun i => [.fz (mx h w M), .fz (.int (a : Nat)), .fz (.int (c : Nat)), .fz (.int ((a + i : Nat)))]) .refl (fun i hi => ?_) (fun Z' i hi => ?_) fun s' J => ?_)
    · exact Ta.name K (by k_memK)
    · refine Tr.cons (Ts.ite (b := !decide (M (a + i) c = 0)) K (tst (a + i) (by omega) _ _ _ _ _ _ _) (fun q => ?_) fun _ => Tr.next ?_)
      · rw [h1 (a + i) (by omega) (by omega)] at q; simp at q
      · exact Tr.lp (.same rfl (.same rfl (.same rfl (.un .nil)))) K
    · refine Tr.cons (Ts.ret (d := .int (-1)) K (Ev.neg Ev.int) fun v h' tk k d => ?_) s' J
      exact ⟨h', tk, rfl, k, d⟩
noncomputable def intsD (l : List Nat) : List Dt := l.map fun k => .int (k : Nat)
theorem intsD_len {l : List Nat} : (intsD l).length = l.length := by simp [intsD]
theorem intsD_get {l : List Nat} {i k : Nat} (h : l[i]? = some k) : (intsD l)[i]? = some (.int (k : Nat)) := by simp [intsD, h]
theorem first_dependent_run {W : Wd} (R : Recs W) (l : List Nat) (n : Nat) (r : Int) (hl : l.length ≤ 64) (hn : n ≤ 64) (hr : (∃ p : Nat, p < n ∧ (∀ i, i < p → l[i]? = some i) ∧ l[p]? ≠ some p ∧ r = p + 1) ∨ ((∀ i, i < n → l[i]? = some i) ∧ r = 0)) :
    Fn W "first_dependent" 1 [.lst (intsD l), .int (n : Nat)] (.int r) := by
  refine Fn.intro h_first_dependent R.first_dependent rfl fun env A s₀ O₀ S => ?_
  dsimp only [ini, List.map_cons, List.map_nil, List.cons_append, List.nil_append] at S ⊢
  have K := S.toGood
  have br : Bui ⟨W, env, A, ["pivots", "size", "column"], 0⟩ "range" (.type "range") := S.bui (by decide +kernel) R.b_range (by decide +kernel) (by decide +kernel) (by decide +kernel)
  have bl : Bui ⟨W, env, A, ["pivots", "size", "column"], 0⟩ "len" (.builtin "len") := S.bui (by decide +kernel) R.b_len (by decide +kernel) (by decide +kernel) (by decide +kernel)
  have tst : ∀ k : Nat, k < n → ∀ p1 p2 p3 p4 p5 p6 p7 p8 p9 p10 p11, EvT ⟨W, env, A, ["pivots", "size", "column"], 0⟩ [.fz (.lst (intsD l)), .fz (.int (n : Nat)), .fz (.int (k : Nat))]
      (.BoolOp .Or [.Compare (.Name "column" p1) [.GtE] [.Call (.Name "len" p2) [.Name "pivots" p3] [] p4] p5, .Compare (.Subscript (.Name "pivots" p6) (.Name "column" p7) p8) [.NotEq] [.Name "column" p9] p10] p11) (!decide (l[k]? = some k)) := by
    intro k hk p1 p2 p3 p4 p5 p6 p7 p8 p9 p10 p11
    have e1 : Ev ⟨W, env, A, ["pivots", "size", "column"], 0⟩ [.fz (.lst (intsD l)), .fz (.int (n : Nat)), .fz (.int (k : Nat))] (.Call (.Name "len" p2) [.Name "pivots" p3] [] p4) (.int ((intsD l).length : Nat)) := Ev.len K.toOk bl (Ev.var (by k_memK)) (by rw [intsD_len]; omega)
    rw [intsD_len] at e1
    refine EvT.conv (EvT.op (EvA.or (a := decide ((k : Int) ≥ (l.length : Nat))) (b := (!decide (l[k]? = some k)) || false) (EvT.cGe (Ev.var (by k_memK)) e1) fun q => EvA.or (EvT.conv (b := (((l.getD k 0 : Nat) : Int) != (k : Nat))) (EvT.cNe (Ev.idx (ds := intsD l) (Ev.var (by k_memK)) (Ev.var (by k_memK)) (by omega) (by omega) ?_) (Ev.var (by k_memK))) ?_) fun _ => EvA.orNil)) ?_
    · have q' : k < l.length := by simpa using q
      rw [Int.toNat_natCast]
      refine intsD_get ?_
      rw [List.getD_eq_getElem?_getD, List.getElem?_eq_getElem q']; rfl
    · have q' : k < l.length := by simpa using q
      rw [List.getD_eq_getElem?_getD, List.getElem?_eq_getElem q']
      simp only [Option.getD_some, Option.some.injEq]
      by_cases e : l[k] = k
      · simp [e]
      · simp [e]; omega
    · by_cases q : k < l.length
      · simp; intro z; omega
      · simp [List.getElem?_eq_none (Nat.not_lt.mp q)]
  rcases hr with ⟨p, h1, h2, h3, rfl⟩ | ⟨h1, rfl⟩
  · refine Tr.cons (Ts.forRangeR (R := fun i => i ≤ p) (Nat.zero_le _) K br (n := n) (Ev.var (by k_memK)) (by omega) (fun i => [.fz (.lst (intsD l)), .fz (.int (n : Nat)), .un]) (fun i => [.fz (.lst (intsD l)), .fz (.int (n : Nat)), .fz (.int (i : Nat))]) .refl (fun i hi => ?_) (fun Z' i hi hR => ?_) fun hR s' J => ?_)
    · exact Ta.name K (by k_memK)
    · by_cases e : i = p
      · subst e
        refine .inr (Tr.cons (Ts.ite (b := !decide (l[i]? = some i)) K (tst i hi _ _ _ _ _ _ _ _ _ _ _) (fun _ => ?_) fun q => ?_))
        · refine Tr.cons (Ts.ret (d := .int ((i : Nat) + 1)) K (Ev.add (Ev.var (by k_memK)) Ev.int) fun v h' tk k d => ?_)
          exact ⟨h', tk, rfl, k, d⟩
        · simp [h3] at q
      · refine .inl ⟨by omega, Tr.cons (Ts.ite (b := !decide (l[i]? = some i)) K (tst i hi _ _ _ _ _ _ _ _ _ _ _) (fun q => ?_) fun _ => Tr.next ?_)⟩
        · rw [h2 i (by omega)] at q; simp at q
        · exact Tr.lp (.same rfl (.same rfl (.un .nil))) K
    · omega
  · refine Tr.cons (Ts.forRange K br (n := n) (Ev.var (by k_memK)) (by omega) (fun i => [.fz (.lst (intsD l)), .fz (.int (n : Nat)), .un]) (fun i => [.fz (.lst (intsD l)), .fz (.int (n : Nat)), .fz (.int (i : Nat))]) .refl (fun i hi => ?_) (fun Z' i hi => ?_) fun s' J => ?_)
    · exact Ta.name K (by k_memK)
    · refine Tr.cons (Ts.ite (b := !decide (l[i]? = some i)) K (tst i hi _ _ _ _ _ _ _ _ _ _ _) (fun q => ?_) fun _ => Tr.next ?_)
      · rw [h1 i (by omega)] at q; simp at q
      · exact Tr.lp (.same rfl (.same rfl (.un .nil))) K
    · refine Tr.cons (Ts.ret (d := .int 0) K Ev.int fun v h' tk k d => ?_) s' J
      exact ⟨h', tk, rfl, k, d⟩

end Mine
end
section
open PySem PySem.W PyProof.Rows PySem.Calls PySem.Spec
set_option Elab.async false
set_option maxRecDepth 100000
set_option linter.unusedVariables false
namespace Mine
section
variable {F : Fx} {s₀ s : Shared} {O₀ : Addr → Prop} {Z : Ex} {σ σ' σ₁ : List LV} {c : Str → Value} {m cm : Str → Option Value} {Φ : Flow → Shared → Prop} {E : Value → Shared → Prop} {rest : List Stmt} {P : (Str → Value) → Prop}

theorem InvC.storeT {h₁ : Heap} {tk : Nat} {x : Str} {lv : LV} {v : Value} {Q : Unit → Shared → Prop} {E : Value → Shared → Prop} (K : F.Ok) (N : F.Names) (I : InvC F s₀ O₀ Z σ c m cm s) (k : Sub s.heap h₁) (hp : Put F.ns σ x lv σ') (hv : New s.heap h₁ (Om F O₀ Z σ c) lv v)
    (q : ∀ m' cm' s', InvC F s₀ O₀ Z σ' (fun y => if y = x then v else c y) m' cm' s' → Q () s') : wpAny F.M F.A (storeName F.env x v) Q E { s with heap := h₁, toks := tk } := by
  have J := I.frame.kept (tk := tk) k
  rcases N.kinds x hp.mem with e | ⟨e, b, hb⟩
  · refine wpAny_storeName_local e J.toInCall.ns (fun h' hn' hs' => ?_) (by rw [K.kind]; rfl)
    refine q _ _ { s with heap := h', toks := tk + 1 } (InvC.change (s := s) (m' := fun y => if y = x then some v else m y) (cm' := cm) K I k hp hv (.inr (.inl rfl)) (fun y pl ds a e => (I.own y pl ds _ a e).2.1 rfl) (fun p hp => (I.led p hp).2.2.1) hs' ?_ ?_ ?_)
    · refine ⟨⟨?_, hn', fun b o e => ?_, J.toInCall.fresh⟩, fun k c hc => ?_, J.apart, J.above⟩
      · obtain ⟨h₁, tk, e⟩ := I.frame.toInCall.same
        exact ⟨h', _, by rw [e]⟩
      · exact hs'.extBut b o (Nat.ne_of_lt (Nat.lt_of_lt_of_le (Heap.lt_size e) J.toInCall.fresh)) (J.toInCall.keep b o e)
      · exact (J.cell k c hc).sameBut hs' (Nat.ne_of_gt (J.above k c (mem_of_lookup hc)))
    · unfold slotV; rw [e]; simp
    · intro y ny
      unfold slotV
      split <;> simp [ny]
  · refine wpAny_storeName_cell K.kind e hb (J.cell x b hb) fun h' hc' hs' => ?_
    have hLc := J.above x b (mem_of_lookup hb)
    refine q _ _ { s with heap := h', toks := tk } (InvC.change (s := s) (m' := m) (cm' := fun y => if y = x then some v else cm y) K I k hp hv (.inr (.inr (.inl ⟨x, hb⟩))) (fun y pl ds a e => (I.own y pl ds _ a e).2.2 x b hb rfl) (fun p hp => (I.led p hp).2.2.2.1 x b hb) hs' ?_ ?_ ?_)
    · refine ⟨⟨?_, J.toInCall.ns.sameBut hs' (Nat.ne_of_lt hLc), fun b' o e => ?_, J.toInCall.fresh⟩, fun k' c' hk' => ?_, J.apart, J.above⟩
      · obtain ⟨h₁, tk, e⟩ := I.frame.toInCall.same
        exact ⟨h', _, by rw [e]⟩
      · exact hs'.extBut b' o (Nat.ne_of_lt (Nat.lt_trans (Nat.lt_of_lt_of_le (Heap.lt_size e) J.toInCall.fresh) hLc)) (J.toInCall.keep b' o e)
      · by_cases hkn : k' = x
        · subst hkn
          rw [hb] at hk'; cases hk'
          simpa using hc'
        · rw [if_neg hkn]
          exact (J.cell k' c' hk').sameBut hs' fun e => hkn (name_of_addr J.apart (mem_of_lookup hk') (e ▸ mem_of_lookup hb))
    · unfold slotV; rw [e]; simp
    · intro y ny
      unfold slotV
      split <;> simp [ny]

/-- the invariant, with a word on the values -/
noncomputable def InvP (P : (Str → Value) → Prop) (F : Fx) (s₀ : Shared) (O₀ : Addr → Prop) (Z : Ex) (σ : List LV) (s : Shared) : Prop := ∃ c m cm, P c ∧ InvC F s₀ O₀ Z σ c m cm s
noncomputable def TrP (P : (Str → Value) → Prop) (F : Fx) (s₀ : Shared) (O₀ : Addr → Prop) (Z : Ex) (σ : List LV) (ss : List Stmt) (Φ : Flow → Shared → Prop) : Prop :=
  ∀ s, InvP P F s₀ O₀ Z σ s → wpAny F.M F.A (execs ss F.env) Φ (fun _ _ => False) s
noncomputable def LpP (P : (Str → Value) → Prop) (F : Fx) (s₀ : Shared) (O₀ : Addr → Prop) (Z : Ex) (σ : List LV) : Flow → Shared → Prop := fun f s' => match f with
  | .next => InvP P F s₀ O₀ Z σ s'
  | _ => False

theorem rangeP {x : Str} {px : Pos} {e : Expr} {body : List Stmt} {p p' pos : Pos} {n : Nat} (K : F.Good) (b : Bui F "range" (.type "range")) (he : Ev F σ e (.int n)) (hn : (n : Int) < 2 ^ 62) (σf : Nat → List LV) (hσ : σ = σf 0)
    (hP : ∀ c v, P c → P fun y => if y = x then v else c y) (hx : ∀ i, i < n → ∃ σ', Put F.ns (σf i) x (.fz (.int (i : Nat))) σ' ∧ ∀ Z', TrP P F s₀ O₀ Z' σ' body (LpP P F s₀ O₀ Z' (σf (i + 1)))) (hq : ∀ s', InvP P F s₀ O₀ Z (σf n) s' → Φ .next s')
    (I : InvP P F s₀ O₀ Z σ s) (hs : NoStar F.env [e] := by exact ⟨rfl, trivial⟩) : wpAny F.M F.A (exec (.For (.Name x px) (.Call (.Name "range" p) [e] [] p') body [] pos) F.env) Φ E s := by
  obtain ⟨c, m, cm, hPc, I⟩ := I
  refine wpAny_For (call_any (rd_bui K.toOk b I.gd.sub _ s p _ _ Sub.rfl (callT hs (wpAny_items_cons (wp_no (he _ c s _ I.gd (I.vs K.toOk K.toNames) fun v h₁ t₁ k₁ d₁ => wpAny_items_nil ?_)) hs.1)))) fun _ => rfl
  cases d₁
  rename_i u
  refine call_range_1 (s := { s with heap := h₁, toks := t₁ }) ?_
  generalize hH : h₁.push { cls := .type "range", data := .fields #[.int 0 t₁, .int (n : Int) u, .int 1 (t₁ + 1)] } = H
  have hr : IsRange H h₁.objs.size ((0 : Nat) : Int) n 1 t₁ u (t₁ + 1) := hH ▸ Heap.get?_push_size _ rfl
  have k : Sub s.heap H := k₁.trans (hH ▸ Sub.push _ _)
  refine wpAny_pyIter_range hr (small_one (by omega) (by omega) (by omega) hn) ?_
  have hsz : Builtin.Range.rangeSize ((0 : Nat) : Int) n 1 = (n : Int) := by
    rw [rangeSize_one]
    split <;> omega
  have nn : s.heap.get? H.objs.size = none := size_fresh k
  have I' := I.alloc (tk := t₁ + 2) (h' := H.push { cls := .type "range_iterator", data := .fields #[rawInt ((0 : Nat) : Int), rawInt (Builtin.Range.rangeSize ((0 : Nat) : Int) n 1), rawInt 1] }) (k.trans (Sub.push _ _)) nn (Heap.get?_push_size _ rfl)
  have hI := led_ne I nn
  subst hσ
  have T : Iter F s₀ O₀ (.Name x px) H.objs.size n (fun i o => o = riObj (((0 : Nat) : Int) + (i : Nat) * 1) ((n : Int) - (i : Nat))) [] (fun i => .int (((0 : Nat) : Int) + (i : Nat) * 1)) := iter_range K fun _ _ => rfl
  refine codeAny_forLoop_any (fun k s' => ∃ i o, i ≤ n ∧ k = n - i ∧ o = riObj (((0 : Nat) : Int) + (i : Nat) * 1) ((n : Int) - (i : Nat)) ∧ InvP P F s₀ O₀ { led := (H.objs.size, o) :: Z.led, tmp := Z.tmp } (σf i) s') ?_ n ⟨0, _, Nat.zero_le _, rfl, ?_, c, m, cm, hPc, I'⟩
  · rintro k s ⟨i, o, hi, rfl, hPo, c, m, cm, hPc, I⟩
    by_cases hlt : i < n
    · obtain ⟨σ', hput, hbody⟩ := hx i hlt
      refine wp_no (T.item i o Z _ c m cm s _ hlt hPo hI I fun v o' h' tk hP' k' e' dv go => ?_)
      have J := I.turn (Z := { led := (H.objs.size, o) :: Z.led, tmp := Z.tmp }) (tk := tk) hI k' e'
      refine wp_no (go _ (wpAny_assign_Name (InvC.storeT (s := { s with heap := h', toks := tk }) (tk := tk) K.toOk K.toNames J Sub.rfl hput ?_ fun m' cm' s' I' => ?_)))
      · cases dv
        have : (((0 : Nat) : Int) + (i : Nat) * 1) = (i : Nat) := by omega
        rw [this]
        exact .int _ _
      refine wp_no (wpAny_mono (hbody _ s' ⟨_, m', cm', hP c v hPc, I'⟩) (fun f s₃ q => ?_) fun _ _ e => e)
      cases f with
      | next => exact ⟨n - (i + 1), by omega, i + 1, o', by omega, rfl, hP', q⟩
      | cont => exact q.elim
      | brk => exact q.elim
      | ret v => exact q.elim
    · have hin : i = n := by omega
      subst hin
      refine wp_no (T.done o Z _ c m cm s _ hPo hI I fun h' tk k' => ?_)
      refine wpAny_execs_nil (hq _ ?_)
      exact ⟨c, m, cm, hPc, I.leave (Z := { led := (H.objs.size, o) :: Z.led, tmp := Z.tmp }) (tk := tk) hI k'⟩
  · rw [hsz]
    unfold riObj
    simp
end
end Mine
end
section
open PySem PySem.W PyProof.Rows PySem.Calls PySem.Spec
set_option Elab.async false
set_option maxRecDepth 100000
set_option linter.unusedVariables false
namespace Mine
section
variable {F : Fx} {s₀ s : Shared} {O₀ : Addr → Prop} {Z : Ex} {σ σ' σ₁ : List LV} {c : Str → Value} {m cm : Str → Option Value} {Φ : Flow → Shared → Prop} {E : Value → Shared → Prop} {rest : List Stmt} {P : (Str → Value) → Prop}
theorem TrP.ite {t : Expr} {b : Bool} {body : List Stmt} {pos : Pos} (K : F.Good) (ht : EvT F σ t b) (h1 : b = true → TrP P F s₀ O₀ Z σ body (LpP P F s₀ O₀ Z σ')) (h2 : b = false → ∀ s, InvP P F s₀ O₀ Z σ s → InvP P F s₀ O₀ Z σ' s) :
    TrP P F s₀ O₀ Z σ [.If t body [] pos] (LpP P F s₀ O₀ Z σ') := by
  rintro s ⟨c, m, cm, hP, I⟩
  refine wpAny_execs_cons (wpAny_mono (Q := LpP P F s₀ O₀ Z σ') (wpAny_If (wp_no (ht _ c s _ I.gd (I.vs K.toOk K.toNames) fun h' tk k => ?_))) (fun f s' q => ?_) fun _ _ e => e)
  · have J := I.keep (tk := tk) k
    cases b with
    | true => exact h1 rfl _ ⟨c, m, cm, hP, J⟩
    | false => exact wpAny_execs_nil (h2 rfl _ ⟨c, m, cm, hP, J⟩)
  · cases f with
    | next => exact wpAny_execs_nil q
    | cont => exact q
    | brk => exact q
    | ret v => exact q
theorem TrP.setitem {x : Str} {px ip pos : Pos} {i e : Expr} {pl : Bool} {ds : List Dt} {d : Dt} {j : Int} (K : F.Good) (hx : At F.ns σ x (.ow pl ds)) (he : Ev F σ e d) (hi : Ev F σ i (.int j)) (h0 : 0 ≤ j) (hj : j.toNat < ds.length) (hn : ds.length < 2 ^ 20) (hp : Put F.ns σ x (.ow false (ds.set j.toNat d)) σ')
    (hs : swapsWith e (some (.Subscript (.Name x px) i ip)) pos.line F.env = pure false := by rfl) :
    TrP P F s₀ O₀ Z σ [.Assign [.Subscript (.Name x px) i ip] e pos] (LpP P F s₀ O₀ Z σ') := by
  rintro s ⟨c, m, cm, hP, I⟩
  refine wpAny_execs_cons (wpAny_mono (Q := LpP P F s₀ O₀ Z σ') (wpAny_Assign_Subscript (wp_no (he _ c s _ I.gd (I.vs K.toOk K.toNames) fun v h₁ t₁ k₁ d₁ => ?_)) hs) (fun f s' q => ?_) fun _ _ e => e)
  · have I₁ := I.keep (tk := t₁) k₁
    obtain ⟨rd, hh⟩ := I₁.vs K.toOk K.toNames x _ hx (fun e => by cases e)
    refine rd _ _ px _ _ Sub.rfl (wp_no (hi _ c _ _ I₁.gd (I₁.vs K.toOk K.toNames) fun u h₂ t₂ k₂ d₂ => ?_))
    obtain ⟨a, vs, ea, la, r⟩ := hh.isList
    cases d₂
    rw [ea]
    have hlen := r.length
    have hn' : ds.length < 1048576 := hn
    refine wpAny_setItem_list (s := { s with heap := h₂, toks := t₂ }) (isList_sub la fun o e => k₂ _ _ e) h0 (by omega) (by simp; omega) fun h₃ l₃ s₃ => ?_
    refine ⟨c, m, cm, hP, InvC.mutate (s := s) (h₁ := h₂) (tk := t₂) (vs' := vs.set j.toNat v) K.toOk I (k₁.trans k₂) hx ea hp s₃.extBut ?_ ((r.mono k₂).set (d₁.mono k₂) _)⟩
    simpa using l₃
  · cases f with
    | next => exact wpAny_execs_nil q
    | cont => exact q
    | brk => exact q
    | ret v => exact q
end

/-- a call that changes the list at its first argument's place -/
noncomputable def FnM (W : Wd) (f : Str) (n : Nat) (ds es ds' : List Dt) : Prop := ∃ fa, FnAt W f fa ∧
  ∀ (A : Around) (s : Shared) (O : Addr → Prop) (a : Addr) (vs ws : List Value) (Q : Value → Shared → Prop), Rm A n → Gd W s.heap O → O a → s.heap.IsList a vs.toArray → DenAll s.heap O vs ds → DenAll s.heap O ws es →
    (∀ h' tk vs', (∀ b o, b ≠ a → s.heap.get? b = some o → h'.get? b = some o) → h'.IsList a vs'.toArray → DenAll h' O vs' ds' → Q .none { s with heap := h', toks := tk }) →
    wpAny (model W.prog W.w) A (call (.ref fa) (.ref a :: ws)) Q (fun _ _ => False) s

theorem FnM.intro {W : Wd} {r : DefRec} {p : Str} {ps rest : List Str} {n : Nat} {ds es ds' : List Dt} {σ' : Fx → List LV} (H : Hd r (p :: ps) rest) (hr : r ∈ recsOf W.p) (hl : ps.length = es.length) (hσ' : ∀ F : Fx, F.ns = p :: ps ++ rest → At F.ns (σ' F) p (.ow false ds'))
    (body : ∀ env A s₀ O₀ a, Fx.Is ⟨W, env, A, p :: ps ++ rest, n⟩ r → ∀ s, InvP (fun c => c p = .ref a) ⟨W, env, A, p :: ps ++ rest, n⟩ s₀ O₀ {} (.ow false ds :: ini es rest) s →
      wpAny (model W.prog W.w) A (execs r.body env) (fun fl s' => fl = .next ∧ InvP (fun c => c p = .ref a) ⟨W, env, A, p :: ps ++ rest, n⟩ s₀ O₀ {} (σ' ⟨W, env, A, p :: ps ++ rest, n⟩) s') (fun _ _ => False) s) : FnM W r.name (n + 1) ds es ds' := by
  obtain ⟨f, o, pm, code, doc, hm, ho, hd, hc⟩ := W.top.fn r hr
  refine ⟨f, ⟨o, _, hm, ho, hd⟩, fun A s O a vs ws Q rm g hOa hlist dv dw q => wpAny_call ?_⟩
  have hwl : (Value.ref a :: ws).length = (p :: ps).length := by rw [List.length_cons, List.length_cons, dw.length, hl]
  have kin : ∀ x ∈ p :: ps ++ rest, r.scope.names.lookup x = some .local ∨ (r.scope.names.lookup x = some .cell ∧ ∀ k, ((cellsFrom k r.scope.names []).lookup x).isSome = true) := by
    intro x hx
    have := List.all_eq_true.mp H.kinds x hx
    rcases Bool.or_eq_true_iff.mp this with q | q
    · exact .inl (by simpa using q)
    · have q' : r.scope.names.lookup x = some .cell := by simpa using q
      exact .inr ⟨q', fun k => cellsFrom_some _ _ _ (.inl q')⟩
  have inps : ∀ y ∈ (p :: ps).zip (.ref a :: ws), y.1 ∈ p :: ps ++ rest := fun y hy => List.mem_append.mpr (.inl (List.of_mem_zip hy).1)
  have ndAll : (p :: ps).Nodup := (List.nodup_append.mp H.nodup).1
  have nd1 : (((p :: ps).zip (Value.ref a :: ws)).map (·.1)).Nodup := by
    rw [List.map_fst_zip (by omega)]
    exact ndAll
  have nd2 : ((ps.zip ws).map (·.1)).Nodup := by
    have := nd1
    rw [List.zip_cons_cons, List.map_cons, List.nodup_cons] at this
    exact this.2
  refine codeAny_call_cells (fd := docDef r.name r.params r.body r.scope pm code doc) (body := r.body) (binds := (p :: ps).zip (.ref a :: ws)) (by have := rm.depth; omega) (g.sub _ _ ho) hd (W.top.nolimit.keeps g.sub) (hc.keeps g.sub) rfl (H.bind pm code doc _ hwl) rfl
    (fun y hy => (kin y.1 (inps y hy)).imp id fun q => ⟨q.1, q.2 _⟩) (fun s₁ x => ?_) H.cor H.gen H.kind
  have hk : (callEnvC (docDef r.name r.params r.body r.scope pm code doc) s.heap.objs.size f).scope.kind = .function := H.kind
  obtain ⟨oa, hoa, hoa2⟩ := id hlist
  have alt : a < s.heap.objs.size := Heap.lt_size hoa
  generalize hEnv : callEnvC (docDef r.name r.params r.body r.scope pm code doc) s.heap.objs.size f = env at *
  have IsF : Fx.Is ⟨W, env, A.deeper env, p :: ps ++ rest, n⟩ r := by
    subst hEnv
    refine ⟨⟨⟨hk, rfl, rfl, rm.deeper _, ?_, H.nodup⟩, ⟨fun y hy => ?_, fun y hy => ?_⟩⟩, rfl, rfl, ?_⟩
    · obtain ⟨l, e⟩ := rm.frames
      exact ⟨l, _, Around.frames_deeper e, H.gen, H.cor, rfl, rfl⟩
    · rcases kin y hy with e | ⟨e, q⟩
      · exact .inl e
      · exact .inr ⟨e, Option.isSome_iff_exists.mp (q _)⟩
    · have := List.all_eq_true.mp H.nodbg y hy
      simpa using this
    · have e : r.scope.kind = .function := H.kind
      show ((r.scope.kind == .module) && _) = false
      rw [e]; rfl
  have sb := x.toInCall.keep
  have hk0 : ∀ b o, b ≠ a → s.heap.get? b = some o → (s.heap.hide a).get? b = some o := fun b o nb e => (Heap.hide_ne _ nb).trans e
  have g₀ : Gd W (s.heap.hide a) fun b => O b ∧ b ≠ a := ⟨fun b o e => hk0 b o (fun q => by rw [q, g.off a hOa] at e; cases e) (g.sub b o e), fun b q => g.off b q.1, fun b q => let ⟨o, e⟩ := g.live b q.1; ⟨o, hk0 b o q.2 e⟩⟩
  have fr : s.heap.objs.size ≤ env.locals := x.toInCall.fresh
  have ab : ∀ y b, env.cells.lookup y = some b → env.locals < b := fun y b h => x.above _ _ (mem_of_lookup h)
  have kOf : ∀ y, env.kindOf y = r.scope.names.lookup y := fun y => IsF.kindOf y
  have slot : ∀ y v, (y, v) ∈ (p :: ps).zip (.ref a :: ws) → slotV ⟨W, env, A.deeper env, p :: ps ++ rest, n⟩ (bindL env.kindOf ((p :: ps).zip (.ref a :: ws)) fun _ => none) (bindC env.kindOf ((p :: ps).zip (.ref a :: ws)) fun _ => none) y = some v := by
    intro y v hm
    unfold slotV
    rcases kin y (inps _ hm) with e | ⟨e, _⟩
    · have e' : env.kindOf y = some .local := (kOf y).trans e
      show (match env.kindOf y with | some .local => _ | some .cell => _ | _ => none) = _
      rw [e']
      exact bindL_mem e' nd1 hm
    · have e' : env.kindOf y = some .cell := (kOf y).trans e
      show (match env.kindOf y with | some .local => _ | some .cell => _ | _ => none) = _
      rw [e']
      exact bindC_mem e' nd1 hm
  have pn : ∀ y l, At (ps ++ rest) (ini es rest) y l → l ≠ .un → y ≠ p := by
    intro y l a nl q
    obtain ⟨v, d, rfl, hm, _⟩ := ini_at hl dw a nl
    exact (List.nodup_cons.mp ndAll).1 (q ▸ (List.of_mem_zip hm).1)
  have ow0 : ∀ y pl ds2, At (p :: ps ++ rest) (.ow false ds :: ini es rest) y (.ow pl ds2) → y = p := by
    intro y pl ds2 q
    cases q with
    | head => rfl
    | tail q => exact (ini_ow hl q).elim
  have I : InvC ⟨W, env, A.deeper env, p :: ps ++ rest, n⟩ { s with heap := s.heap.hide a } (fun b => O b ∧ b ≠ a) {} (.ow false ds :: ini es rest) (fun y => (((p :: ps).zip (Value.ref a :: ws)).lookup y).getD .none) (bindL env.kindOf ((p :: ps).zip (.ref a :: ws)) fun _ => none) (bindC env.kindOf ((p :: ps).zip (.ref a :: ws)) fun _ => none) s₁ := by
    have cp : (((p :: ps).zip (Value.ref a :: ws)).lookup p).getD .none = .ref a := by rw [List.zip_cons_cons, List.lookup_cons]; simp
    have omO : ∀ b, s.heap.get? b ≠ none → Om ⟨W, env, A.deeper env, p :: ps ++ rest, n⟩ (fun b => O b ∧ b ≠ a) {} (.ow false ds :: ini es rest) (fun y => (((p :: ps).zip (Value.ref a :: ws)).lookup y).getD .none) b → O b := by
      intro b hb q
      rcases q with q | q | ⟨y', q⟩ | ⟨u, pl, es', q, e⟩ | ⟨o, q⟩
      · exact q.1
      · exact absurd (ge_none (by rw [q]; exact fr)) hb
      · exact absurd (ge_none (Nat.le_trans fr (Nat.le_of_lt (ab _ _ q)))) hb
      · obtain rfl := ow0 _ _ _ q
        replace e := cp.symm.trans e; cases e
        exact hOa
      · cases q
    have mvA : ∀ {us : List Value} {xs : List Dt}, DenAll s.heap O us xs → DenAll s₁.heap (Om ⟨W, env, A.deeper env, p :: ps ++ rest, n⟩ (fun b => O b ∧ b ≠ a) {} (.ow false ds :: ini es rest) (fun y => (((p :: ps).zip (Value.ref a :: ws)).lookup y).getD .none)) us xs :=
      fun z => z.move fun b o nb e => ⟨sb _ _ e, fun q => nb (omO b (by rw [e]; exact fun q => by cases q) q)⟩
    have mv : ∀ {us : Value} {xs : Dt}, Den s.heap O us xs → Den s₁.heap (Om ⟨W, env, A.deeper env, p :: ps ++ rest, n⟩ (fun b => O b ∧ b ≠ a) {} (.ow false ds :: ini es rest) (fun y => (((p :: ps).zip (Value.ref a :: ws)).lookup y).getD .none)) us xs :=
      fun z => z.move fun b o nb e => ⟨sb _ _ e, fun q => nb (omO b (by rw [e]; exact fun q => by cases q) q)⟩
    refine ⟨⟨⟨?_, x.toInCall.ns, fun b o e => sb b o (Heap.of_hide e), by show (s.heap.hide a).objs.size ≤ _; rw [Heap.hide_size]; exact fr⟩, x.cell, x.apart, x.above⟩, g₀, fun y l q nl => ?_, fun y l q nl => ?_, fun y pl ds2 b q e => ?_, fun y z pl ds2 pl' ds3 q q' e => ?_, fun p hp => (nomatch hp), fun p hp => (nomatch hp)⟩
    · obtain ⟨h₁, tk, e⟩ := x.toInCall.same
      exact ⟨h₁, tk, by rw [e]⟩
    · cases q with
      | head =>
        show _ = some ((((p :: ps).zip (Value.ref a :: ws)).lookup p).getD .none)
        rw [cp]
        exact slot p _ (by rw [List.zip_cons_cons]; exact .head _)
      | tail q =>
        obtain ⟨v, d, rfl, hm, hd'⟩ := ini_at hl dw q nl
        have ny := pn y _ q nl
        have hlk : ((p :: ps).zip (Value.ref a :: ws)).lookup y = some v := lookup_mem nd1 (by rw [List.zip_cons_cons]; exact .tail _ hm)
        show _ = some ((((p :: ps).zip (Value.ref a :: ws)).lookup y).getD .none)
        rw [hlk]
        exact slot y v (by rw [List.zip_cons_cons]; exact .tail _ hm)
    · cases q with
      | head => exact ⟨a, vs, cp, isList_sub hlist fun o e => sb _ _ e, mvA dv⟩
      | tail q =>
        obtain ⟨v, d, rfl, hm, hd'⟩ := ini_at hl dw q nl
        have hlk : ((p :: ps).zip (Value.ref a :: ws)).lookup y = some v := lookup_mem nd1 (by rw [List.zip_cons_cons]; exact .tail _ hm)
        show Den _ _ ((((p :: ps).zip (Value.ref a :: ws)).lookup y).getD .none) d
        rw [hlk]
        exact mv hd'
    · obtain rfl := ow0 _ _ _ q
      replace e := cp.symm.trans e; cases e
      refine ⟨Heap.hide_self _ _, fun z => ?_, fun u b' hb z => ?_⟩
      · have z' : @Eq Nat a env.locals := z
        have fr' : @LE.le Nat _ s.heap.objs.size env.locals := fr
        have alt' : @LT.lt Nat _ a s.heap.objs.size := alt
        omega
      · have z' : @Eq Nat a b' := z
        have fr' : @LE.le Nat _ s.heap.objs.size env.locals := fr
        have alt' : @LT.lt Nat _ a s.heap.objs.size := alt
        have ab' : @LT.lt Nat _ env.locals b' := ab u b' hb
        omega
    · rw [ow0 _ _ _ q, ow0 _ _ _ q']
  refine wpAny_mono (body env _ { s with heap := s.heap.hide a } (fun b => O b ∧ b ≠ a) a IsF s₁ ⟨_, _, _, ?_, I⟩) (fun fl s' z => ?_) fun _ _ z => z.elim
  · show (((p :: ps).zip (Value.ref a :: ws)).lookup p).getD .none = .ref a
    rw [List.zip_cons_cons, List.lookup_cons]; simp
  · obtain ⟨rfl, c, m, cm, hP, J⟩ := z
    obtain ⟨h', tk, e⟩ := J.frame.toInCall.same
    have hat := hσ' ⟨W, env, A.deeper env, p :: ps ++ rest, n⟩ rfl
    obtain ⟨b, us, eb, lb, du⟩ := J.has p _ hat (fun e => by cases e)
    have hP' : c p = .ref a := hP
    rw [hP'] at eb; cases eb
    subst e
    refine q h' tk us (fun b o nb e => J.sub b o (hk0 b o nb e)) lb (du.move fun b o nb e => ⟨e, fun z => nb ?_⟩)
    by_cases hb : b = a
    · exact .inr (.inr (.inr (.inl ⟨p, false, ds', hat, by rw [hb]; exact hP'⟩)))
    · exact .inl ⟨z, hb⟩

section
variable {F : Fx} {s₀ s : Shared} {O₀ : Addr → Prop} {Z : Ex} {σ σ' σ₁ : List LV} {Φ : Flow → Shared → Prop} {E : Value → Shared → Prop} {rest : List Stmt}
theorem Ts.callM {f x : Str} {p px pos pos' : Pos} {n : Nat} {pl : Bool} {es : List Expr} {ds es' ds' : List Dt} (K : F.Good) (hx : At F.ns σ x (.ow pl ds)) (he : EvL F σ es es') (h : FnM F.W f n ds es' ds') (hp : Put F.ns σ x (.ow false ds') σ') (hn : n ≤ F.n) (hk : ∀ s', Inv F s₀ O₀ Z σ' s' → Φ .next s')
    (hxf : F.env.kindOf f = some .globalImplicit) (hi : interactive F.env = false) (hs : NoStar F.env (.Name x px :: es)) (hdb : (f == ("__debug__" : Str)) = false := by decide) :
    Ts F s₀ O₀ Z σ (.Expr (.Call (.Name f p) (.Name x px :: es) [] pos) pos') Φ E := by
  rintro s ⟨c, m, cm, I⟩
  obtain ⟨fa, ⟨o, fd, hm, ho, hf⟩, h⟩ := h
  obtain ⟨rd, hh⟩ := I.vs K.toOk K.toNames x _ hx (fun e => by cases e)
  obtain ⟨a, vs, ea, la, r⟩ := hh.isList
  have g := I.gd
  have key : ∀ (Q : Value → Shared → Prop), (∀ s', Inv F s₀ O₀ Z σ' s' → Q .none s') → ∀ ws h₁ t₁, Sub s.heap h₁ → DenAll h₁ (Om F O₀ Z σ c) ws es' → wpAny F.M F.A (call (.ref fa) (.ref a :: ws)) Q E { s with heap := h₁, toks := t₁ } := by
    intro Q hQ ws h₁ t₁ k₁ dw
    refine wp_no (h F.A { s with heap := h₁, toks := t₁ } (Om F O₀ Z σ c) a vs ws _ (K.room.le hn) (g.mono k₁) (.inr (.inr (.inr (.inl ⟨x, pl, ds, hx, ea⟩)))) (isList_sub la fun o e => k₁ _ _ e) (r.mono k₁) dw fun h₂ t₂ vs' k₂ l₂ d₂ => ?_)
    obtain ⟨oa, hoa, hoa2⟩ := id la
    obtain ⟨oa', hoa', _⟩ := id l₂
    have hself : (h₂.update a fun _ => oa).get? a = some oa := Heap.get?_update_self _ hoa' (Heap.get?_some_iff.mp hoa).2
    refine hQ _ ⟨c, m, cm, InvC.mutate (s := s) (h₁ := h₂.update a fun _ => oa) (tk := t₂) (vs' := vs') K.toOk I (fun b o e => ?_) hx ea hp (fun b o nb e => ?_) l₂ (d₂.move fun b o nb e => ⟨?_, nb⟩)⟩
    · by_cases hb : b = a
      · subst hb; rw [hoa] at e; cases e; exact hself
      · rw [Heap.get?_update_other _ _ (Ne.symm hb)]; exact k₂ b o hb (k₁ b o e)
    · rw [Heap.get?_update_other _ _ (Ne.symm nb)] at e; exact e
    · have hb : b ≠ a := fun q => nb (q ▸ .inr (.inr (.inr (.inl ⟨x, pl, ds, hx, ea⟩))))
      rw [Heap.get?_update_other _ _ (Ne.symm hb)]; exact e
  refine wpAny_Expr (call_any (rd_glob K.toOk hxf hm hdb g.sub _ s p _ _ Sub.rfl ?_)) hi rfl
  refine PySem.Calls.callWith_function (o := o) (fd := fd) ?_
  have h' : ∀ (Q : Value → Shared → Prop), (∀ s', Inv F s₀ O₀ Z σ' s' → Q .none s') → wpAny F.M F.A (spliced (backTo pos (starEach (.Name x px :: es) F.env))) (fun vs s₁ => (s₁.heap.get? fa = some o ∧ o.data = .func fd) ∧ wpAny F.M F.A (call (.ref fa) vs) Q E s₁) E s := by
    intro Q hQ
    rw [hs.1]
    refine spliced_cons (rd _ s px _ _ Sub.rfl (wp_no (he pos _ c s _ g (I.vs K.toOk K.toNames) fun ws h₁ t₁ k₁ d₁ => ?_)))
    rw [ea]
    exact ⟨⟨k₁ _ _ (g.sub _ _ ho), hf⟩, key Q hQ ws h₁ t₁ k₁ d₁⟩
  rw [hs.1] at h' ⊢
  exact evalArgs_plain (h' _ fun s' J => hk s' J)
end
end Mine
end
section
open PySem PySem.W PyProof.Rows PySem.Calls PySem.Spec
set_option Elab.async false
set_option maxRecDepth 100000
set_option linter.unusedVariables false
namespace Mine
local macro_rules | `(tactic| k_memK) => `(tactic| first | exact At.hd (by with_reducible rfl) | exact Put.hd (by with_reducible rfl) | (refine At.tail ?_; k_memK) | (apply Put.tail; k_memK))
local macro_rules | `(tactic| kqd_in) => `(tactic| first
  | assumption
  | k_memK
  | exact Ev.int
  | exact Ev.noneC
  | exact Ev.boolC
  | refine Ev.var ?_
  | exact EvL.nil
  | refine EvL.cons ?_ ?_
  | refine Ev.num ?_
  | refine Ev.den ?_
  | apply Ev.qIsNone
  | apply EvT.qIsNone
  | refine Ev.add ?_ ?_
  | refine Ev.sub ?_ ?_
  | refine Ev.mul ?_ ?_ ?_
  | refine Ev.mod ?_ ?_ ?_
  | refine Ev.fdiv ?_ ?_ ?_ ?_
  | refine Ev.tuple ?_
  | refine EvT.cEq ?_ ?_
  | refine EvT.cNe ?_ ?_
  | refine EvT.cLt ?_ ?_
  | refine EvT.cLe ?_ ?_
  | refine EvT.cGt ?_ ?_
  | refine EvT.cGe ?_ ?_
  | refine Ev.cEq ?_ ?_
  | refine Ev.cNe ?_ ?_
  | refine Ev.cLt ?_ ?_
  | refine Ev.isNoneT ?_
  | refine EvT.not ?_
  | refine Ev.not ?_
  | refine Ev.neg ?_
  | refine EvT.op ?_
  | exact EvA.andNil
  | exact EvA.orNil
  | exact Fx.Is.glo (by assumption) (by decide +kernel))

theorem TrP.weak {F : Fx} {s₀ : Shared} {O₀ : Addr → Prop} {Z : Ex} {σ σ₁ σ₂ : List LV} {P : (Str → Value) → Prop} {ss : List Stmt} (K : F.Good) (h : TrP P F s₀ O₀ Z σ ss (LpP P F s₀ O₀ Z σ₁)) (w : Wk σ₁ σ₂) : TrP P F s₀ O₀ Z σ ss (LpP P F s₀ O₀ Z σ₂) := fun s I =>
  wpAny_mono (h s I) (fun f s' q => by
    cases f with
    | next => obtain ⟨c, m, cm, hP, J⟩ := q; exact ⟨c, m, cm, hP, J.weak K.toOk w⟩
    | cont => exact q
    | brk => exact q
    | ret v => exact q) fun _ _ e => e
noncomputable def clr (M : Mx) (t c i : Nat) : Mx := fun r j => if r < i ∧ r ≠ t then M r j - M r c * M t j else M r j
theorem clr_zero {M : Mx} {t c : Nat} : clr M t c 0 = M := by funext r j; simp [clr]
theorem clear_run {W : Wd} (R : Recs W) (h w : Nat) (M : Mx) (t c B : Nat) (hh : h ≤ 64) (hw : w ≤ 64) (ht : t < h) (hc : c < w) (hM : ∀ r j, r < h → j < w → Bq B (M r j)) (hb : B + B + B ≤ 2 ^ 26) :
    FnM W "clear_column" 6 (mxD h w M) [.int (t : Nat), .int (c : Nat)] (mxD h w (clr M t c h)) := by
  refine FnM.intro (σ' := fun _ => [.ow false (mxD h w (clr M t c h)), .fz (.int (t : Nat)), .fz (.int (c : Nat)), .un]) h_clear_column R.clear_column rfl (fun F hF => by rw [hF]; exact .head) fun env A s₀ O₀ a S s I => ?_
  dsimp only [ini, List.map_cons, List.map_nil, List.cons_append, List.nil_append] at S I ⊢
  have K := S.toGood
  have br : Bui ⟨W, env, A, ["rows", "pivot", "column", "place"], 5⟩ "range" (.type "range") := S.bui (by decide +kernel) R.b_range (by decide +kernel) (by decide +kernel) (by decide +kernel)
  have bl : Bui ⟨W, env, A, ["rows", "pivot", "column", "place"], 5⟩ "len" (.builtin "len") := S.bui (by decide +kernel) R.b_len (by decide +kernel) (by decide +kernel) (by decide +kernel)
  have el : ∀ p1 p2 p3, Ev ⟨W, env, A, ["rows", "pivot", "column", "place"], 5⟩ [.ow false (mxD h w M), .fz (.int (t : Nat)), .fz (.int (c : Nat)), .un] (.Call (.Name "len" p1) [.Name "rows" p2] [] p3) (.int (h : Nat)) := by
    intro p1 p2 p3
    have := Ev.lenO (F := ⟨W, env, A, ["rows", "pivot", "column", "place"], 5⟩) (σ := [.ow false (mxD h w M), .fz (.int (t : Nat)), .fz (.int (c : Nat)), .un]) (x := "rows") (px := p2) (p := p1) (pos := p3) K.toOk bl (ds := mxD h w M) (pl := false) (by k_memK) (by rw [mxD_len]; omega)
    rwa [mxD_len] at this
  have I' : InvP (fun c => c "rows" = .ref a) ⟨W, env, A, ["rows", "pivot", "column", "place"], 5⟩ s₀ O₀ {} [.ow false (mxD h w M), .fz (.int (t : Nat)), .fz (.int (c : Nat)), .un] s := I
  refine wpAny_execs_cons (wpAny_mono (Q := fun f s' => f = .next ∧ InvP (fun c => c "rows" = .ref a) ⟨W, env, A, ["rows", "pivot", "column", "place"], 5⟩ s₀ O₀ {} [.ow false (mxD h w (clr M t c h)), .fz (.int (t : Nat)), .fz (.int (c : Nat)), .un] s')
    (rangeP (F := ⟨W, env, A, ["rows", "pivot", "column", "place"], 5⟩) (P := fun c => c "rows" = .ref a) (Z := {}) (s₀ := s₀) (O₀ := O₀) K br (n := h) (el _ _ _) (by omega) (fun i => [.ow false (mxD h w (clr M t c i)), .fz (.int (t : Nat)), .fz (.int (c : Nat)), .un]) (by rw [clr_zero]) (fun c v hP => ?_) (fun i hi => ⟨[.ow false (mxD h w (clr M t c i)), .fz (.int (t : Nat)), .fz (.int (c : Nat)), .fz (.int (i : Nat))], by k_memK, fun Z' => ?_⟩) (fun s' J => ⟨rfl, J⟩) I') (fun f s' q => ?_) fun _ _ e => e)
  · exact hP
  · refine TrP.weak K (σ₁ := [.ow false (mxD h w (clr M t c (i + 1))), .fz (.int (t : Nat)), .fz (.int (c : Nat)), .fz (.int (i : Nat))]) ?_ (.same rfl (.same rfl (.same rfl (.un .nil))))
    refine TrP.ite (b := ((i : Nat) : Int) != (t : Nat)) K ?_ (fun q => ?_) (fun q s' J => ?_)
    · repeat' kqd_in
    · have hit : i ≠ t := by intro e; subst e; simp at q
      have e1 : ∀ j, clr M t c i i j = M i j := fun j => by simp [clr]
      have e2 : ∀ j, clr M t c i t j = M t j := fun j => by simp [clr]
      refine TrP.weak K (TrP.setitem (d := rw_ w fun j => M i j - M i c * M t j) (j := (i : Nat)) (ds := mxD h w (clr M t c i)) (pl := false) K (by k_memK) ?_ (Ev.var (by k_memK)) (by omega) (by rw [mxD_len]; omega) (by rw [mxD_len]; omega) (by k_memK) rfl) (.same ?_ .refl)
      · refine Ev.call (n := 5) (ds := [rw_ w (clr M t c i i), rw_ w (clr M t c i t), encQ (clr M t c i i c)]) K.toOk ?_ ?_ (Nat.le_of_ble_eq_true rfl) (S.glo (by decide +kernel))
        · exact EvL.cons (Ev.mxO (by k_memK) (Ev.var (by k_memK)) hi hh) (EvL.cons (Ev.mxO (by k_memK) (Ev.var (by k_memK)) ht hh) (EvL.cons (Ev.rwI (Ev.mxO (by k_memK) (Ev.var (by k_memK)) hi hh) (Ev.var (by k_memK)) hc hw) EvL.nil))
        · have := less_multiple_run R w (M i) (M t) (M i c) B B B hw (fun j hj => hM i j hi hj) (fun j hj => hM t j ht hj) (hM i c hi hc) hb
          rw [show clr M t c i i = M i from funext e1, show clr M t c i t = M t from funext e2]
          exact this
      · congr 1
        unfold mxD
        rw [rng_set]
        refine rng_congr fun k hk => ?_
        simp only [Int.toNat_natCast]
        by_cases hki : k = i
        · subst hki
          rw [if_pos rfl]
          refine rw_congr fun j hj => ?_
          simp [clr, hit]
        · rw [if_neg hki]
          refine rw_congr fun j hj => ?_
          unfold clr
          by_cases h1 : k < i
          · simp [h1, show k < i + 1 by omega]
          · simp [h1, show ¬ k < i + 1 by omega]
    · have hit : i = t := by
        have z : ((i : Nat) : Int) = (t : Nat) := by simpa using q
        omega
      obtain ⟨c', m, cm, hP, J⟩ := J
      refine ⟨c', m, cm, hP, ?_⟩
      have e : clr M t c (i + 1) = clr M t c i := by
        funext r j
        unfold clr
        by_cases h1 : r = t
        · simp [h1]
        · have : (r < i + 1) ↔ (r < i) := by omega
          simp [this]
      rw [e]; exact J
  · obtain ⟨rfl, J⟩ := q
    exact wpAny_execs_nil ⟨rfl, J⟩

end Mine
end
section
open PySem PySem.W PyProof.Rows PySem.Calls PySem.Spec
set_option Elab.async false
set_option maxRecDepth 100000
set_option linter.unusedVariables false
namespace Mine
local macro_rules | `(tactic| k_memK) => `(tactic| first | exact At.hd (by with_reducible rfl) | exact Put.hd (by with_reducible rfl) | (refine At.tail ?_; k_memK) | (apply Put.tail; k_memK))
local macro_rules | `(tactic| kqd_in) => `(tactic| first
  | assumption
  | k_memK
  | exact Ev.int
  | exact Ev.noneC
  | exact Ev.boolC
  | refine Ev.var ?_
  | exact EvL.nil
  | refine EvL.cons ?_ ?_
  | refine Ev.num ?_
  | refine Ev.den ?_
  | apply Ev.qIsNone
  | apply EvT.qIsNone
  | refine Ev.add ?_ ?_
  | refine Ev.sub ?_ ?_
  | refine Ev.mul ?_ ?_ ?_
  | refine Ev.mod ?_ ?_ ?_
  | refine Ev.fdiv ?_ ?_ ?_ ?_
  | refine Ev.tuple ?_
  | refine EvT.cEq ?_ ?_
  | refine EvT.cNe ?_ ?_
  | refine EvT.cLt ?_ ?_
  | refine EvT.cLe ?_ ?_
  | refine EvT.cGt ?_ ?_
  | refine EvT.cGe ?_ ?_
  | refine Ev.cEq ?_ ?_
  | refine Ev.cNe ?_ ?_
  | refine Ev.cLt ?_ ?_
  | refine Ev.isNoneT ?_
  | refine EvT.not ?_
  | refine Ev.not ?_
  | refine Ev.neg ?_
  | refine EvT.op ?_
  | exact EvA.andNil
  | exact EvA.orNil
  | exact Fx.Is.glo (by assumption) (by decide +kernel))

theorem swpW {F : Fx} {r : DefRec} {b : Option (List Str)} {ts : List Expr} {e : Expr} (S : F.Is r) (h : ∀ L gl cl q fu co fr bu, swappedStores ts e ⟨r.scope, L, gl, cl, q, fu, co, fr, bu⟩ = pure b) : swappedStores ts e F.env = pure b := by
  have e := S.scope
  obtain ⟨W, env, A, ns, n⟩ := F
  obtain ⟨sc, L, gl, cl, q, fu, co, fr, bu⟩ := env
  simp only at e
  subst e
  exact h _ _ _ _ _ _ _ _
/-! the echelon form, in plain Lean -/
noncomputable def ffind (M : Mx) (c : Nat) : Nat → Nat → Option Nat
  | 0, _ => none
  | n + 1, a => if M a c = 0 then ffind M c n (a + 1) else some a
theorem ffind_some {M : Mx} {c : Nat} : ∀ {n a p : Nat}, ffind M c n a = some p → a ≤ p ∧ p < a + n ∧ M p c ≠ 0 ∧ ∀ i, a ≤ i → i < p → M i c = 0
  | 0, _, _, h => by simp [ffind] at h
  | n + 1, a, p, h => by
    unfold ffind at h
    split at h
    · rename_i h0
      obtain ⟨h1, h2, h3, h4⟩ := ffind_some h
      refine ⟨by omega, by omega, h3, fun i hi hp => ?_⟩
      by_cases e : i = a
      · rw [e]; exact h0
      · exact h4 i (by omega) hp
    · rename_i h0
      cases h
      exact ⟨Nat.le_refl _, by omega, h0, fun i hi hp => absurd hi (by omega)⟩
theorem ffind_none {M : Mx} {c : Nat} : ∀ {n a : Nat}, ffind M c n a = none → ∀ i, a ≤ i → i < a + n → M i c = 0
  | 0, _, _, i, h1, h2 => absurd h1 (by omega)
  | n + 1, a, h, i, h1, h2 => by
    unfold ffind at h
    split at h
    · rename_i h0
      by_cases e : i = a
      · rw [e]; exact h0
      · exact ffind_none h i (by omega) (by omega)
    · cases h
noncomputable def swapM (M : Mx) (a b : Nat) : Mx := fun r => if r = b then M a else if r = a then M b else M r
noncomputable def sclM (M : Mx) (t : Nat) (q : Rat) : Mx := fun r j => if r = t then M r j * q else M r j
/-- the row operations at a pivot -/
noncomputable def pivM (h : Nat) (M : Mx) (t f c : Nat) : Mx := clr (sclM (swapM M t f) t (1 / swapM M t f t c)) t c h
noncomputable def stepE (h : Nat) (S : Mx × List Nat) (c : Nat) : Mx × List Nat := match ffind S.1 c (h - S.2.length) S.2.length with
  | none => S
  | some f => (pivM h S.1 S.2.length f c, S.2 ++ [c])
noncomputable def ech (h : Nat) (M : Mx) : Nat → Mx × List Nat
  | 0 => (M, [])
  | c + 1 => stepE h (ech h M c) c
theorem stepE_none {h : Nat} {S : Mx × List Nat} {c : Nat} (e : ffind S.1 c (h - S.2.length) S.2.length = none) : stepE h S c = S := by unfold stepE; rw [e]
theorem stepE_some {h : Nat} {S : Mx × List Nat} {c f : Nat} (e : ffind S.1 c (h - S.2.length) S.2.length = some f) : stepE h S c = (pivM h S.1 S.2.length f c, S.2 ++ [c]) := by unfold stepE; rw [e]
theorem swap_top {M : Mx} {t f : Nat} : swapM M t f t = M f := by
  unfold swapM
  by_cases h : t = f
  · simp [h]
  · simp [h]
noncomputable def bnd (B : Nat) : Nat → Nat
  | 0 => B
  | p + 1 => 6 * bnd B p + 4
theorem bnd_mono {B : Nat} : ∀ {p q : Nat}, p ≤ q → bnd B p ≤ bnd B q
  | p, 0, h => by obtain rfl : p = 0 := by omega
                  exact Nat.le_refl _
  | p, q + 1, h => by
    by_cases e : p = q + 1
    · rw [e]; exact Nat.le_refl _
    · have := bnd_mono (B := B) (p := p) (q := q) (by omega)
      show _ ≤ 6 * bnd B q + 4
      omega
theorem swap_bd {M : Mx} {h w t f b : Nat} (ht : t < h) (hf : f < h) (hM : ∀ r j, r < h → j < w → Bq b (M r j)) : ∀ r j, r < h → j < w → Bq b (swapM M t f r j) := by
  intro r j hr hj
  unfold swapM
  split
  · exact hM _ _ ht hj
  · split
    · exact hM _ _ hf hj
    · exact hM _ _ hr hj
theorem scl_bd {M : Mx} {h w t c b : Nat} (ht : t < h) (hc : c < w) (h0 : M t c ≠ 0) (hM : ∀ r j, r < h → j < w → Bq b (M r j)) : ∀ r j, r < h → j < w → Bq (2 * b + 1) (sclM M t (1 / M t c) r j) := by
  intro r j hr hj
  unfold sclM
  split
  · exact ((hM r j hr hj).mul (bz1.div (hM t c ht hc) h0)).mono (by omega)
  · exact (hM r j hr hj).mono (by omega)
theorem clr_bd {M : Mx} {h w t c b i : Nat} (ht : t < h) (hc : c < w) (hM : ∀ r j, r < h → j < w → Bq b (M r j)) : ∀ r j, r < h → j < w → Bq (3 * b + 1) (clr M t c i r j) := by
  intro r j hr hj
  unfold clr
  split
  · exact ((hM r j hr hj).sub ((hM r c hr hc).mul (hM t j ht hj))).mono (by omega)
  · exact (hM r j hr hj).mono (by omega)
theorem ech_bd {h w B : Nat} {M : Mx} (hM : ∀ r j, r < h → j < w → Bq B (M r j)) : ∀ c, c ≤ w → (ech h M c).2.length ≤ h ∧ (ech h M c).2.length ≤ c ∧ ∀ r j, r < h → j < w → Bq (bnd B (ech h M c).2.length) ((ech h M c).1 r j)
  | 0, _ => ⟨Nat.zero_le _, Nat.zero_le _, hM⟩
  | c + 1, hc => by
    obtain ⟨h1, h2, h3⟩ := ech_bd hM c (by omega)
    show (stepE h (ech h M c) c).2.length ≤ h ∧ (stepE h (ech h M c) c).2.length ≤ c + 1 ∧ ∀ r j, r < h → j < w → Bq (bnd B (stepE h (ech h M c) c).2.length) ((stepE h (ech h M c) c).1 r j)
    cases e : ffind (ech h M c).1 c (h - (ech h M c).2.length) (ech h M c).2.length with
    | none => rw [stepE_none e]; exact ⟨h1, by omega, h3⟩
    | some f =>
      rw [stepE_some e]
      obtain ⟨f1, f2, f3, f4⟩ := ffind_some e
      have hf : f < h := by omega
      have ht : (ech h M c).2.length < h := by omega
      refine ⟨by simp; omega, by simp; omega, ?_⟩
      have s1 := swap_bd ht hf h3
      have s2 := scl_bd (c := c) ht hc (by rw [swap_top]; exact f3) s1
      have s3 := clr_bd (i := h) (c := c) ht hc s2
      intro r j hr hj
      have := s3 r j hr hj
      refine this.mono ?_
      simp only [List.length_append, List.length_cons, List.length_nil]
      show _ ≤ 6 * bnd B (ech h M c).2.length + 4
      omega
noncomputable def ffI : Option Nat → Int
  | some p => (p : Nat)
  | none => -1
theorem ech_run {W : Wd} (R : Recs W) (h w : Nat) (M : Mx) (B : Nat) (hh : h ≤ 64) (hh0 : 0 < h) (hw : w ≤ 64) (hM : ∀ r j, r < h → j < w → Bq B (M r j)) (hb : 6 * bnd B h + 4 ≤ 2 ^ 26) :
    Fn W "row_echelon" 8 [mx h w M] (.tup [mx h w (ech h M w).1, .lst (intsD (ech h M w).2)]) := by
  refine Fn.intro h_row_echelon R.row_echelon rfl fun env A s₀ O₀ S => ?_
  dsimp only [ini, List.map_cons, List.map_nil, List.cons_append, List.nil_append] at S ⊢
  have K := S.toGood
  have br : Bui ⟨W, env, A, ["a", "rows", "pivots", "width", "column", "top", "found"], 7⟩ "range" (.type "range") := S.bui (by decide +kernel) R.b_range (by decide +kernel) (by decide +kernel) (by decide +kernel)
  have bl : Bui ⟨W, env, A, ["a", "rows", "pivots", "width", "column", "top", "found"], 7⟩ "len" (.builtin "len") := S.bui (by decide +kernel) R.b_len (by decide +kernel) (by decide +kernel) (by decide +kernel)
  refine Tr.cons (Ts.assignN (pl := true) (ds := mxD h w M) (σ' := [.fz (mx h w M), .ow true (mxD h w M), .un, .un, .un, .un, .un]) K ?_ (by k_memK) (fun s' J => ?_) rfl)
  · refine EvN.call (n := 1) (ds := [mx h w M]) K.toOk ?_ (copied_run R h w M hh hw) (Nat.le_of_ble_eq_true rfl) (S.glo (by decide +kernel))
    repeat' kqd_in
  refine Tr.cons (Ts.assignN (pl := true) (ds := []) (σ' := [.fz (mx h w M), .ow true (mxD h w M), .ow true [], .un, .un, .un, .un]) K (EvN.list EvL.nil) (by k_memK) (fun s' J => ?_) rfl) s' J
  refine Tr.cons (Ts.assign (d := .int (w : Nat)) (σ' := [.fz (mx h w M), .ow true (mxD h w M), .ow true [], .fz (.int (w : Nat)), .un, .un, .un]) K ?_ (by k_memK) (fun s' J => ?_) rfl) s' J
  · refine Ev.ifexp (b := decide (((mxD h w M).length : Int) > 0)) (EvT.cGt (Ev.lenO K.toOk bl (ds := mxD h w M) (pl := true) (by k_memK) (by rw [mxD_len]; omega)) Ev.int) (fun _ => ?_) fun q => ?_
    · exact Ev.lenR K.toOk bl (f := M 0) (Ev.mxO (pl := true) (M := M) (k := 0) (h := h) (by k_memK) Ev.int hh0 hh) hw
    · rw [mxD_len] at q; simp at q; omega
  refine Tr.cons (Ts.forRange K br (n := w) (Ev.var (by k_memK)) (by omega) (fun c => [.fz (mx h w M), .ow false (mxD h w (ech h M c).1), .ow true (intsD (ech h M c).2), .fz (.int (w : Nat)), .un, .un, .un]) (fun c => [.fz (mx h w M), .ow false (mxD h w (ech h M c).1), .ow true (intsD (ech h M c).2), .fz (.int (w : Nat)), .fz (.int (c : Nat)), .un, .un]) (.same rfl (.dn rfl (.same (by rfl) .refl))) (fun c hc => ?_) (fun Z' c hc => ?_) fun s' J => ?_) s' J
  · exact Ta.name K (by k_memK)
  · obtain ⟨b1, b2, b3⟩ := ech_bd hM c (by omega)
    have b4 : bnd B (ech h M c).2.length ≤ bnd B h := bnd_mono b1
    have estep : ech h M (c + 1) = stepE h (ech h M c) c := rfl
    rw [estep]
    generalize ech h M c = S0 at b1 b2 b3 b4 ⊢
    obtain ⟨N, l⟩ := S0
    simp only at b1 b2 b3 b4 ⊢
    generalize bnd B l.length = b at b3 b4
    generalize hbb : bnd B h = bb at hb b4
    refine Tr.cons (Ts.assign (d := .int (l.length : Nat)) (σ' := [.fz (mx h w M), .ow false (mxD h w N), .ow true (intsD l), .fz (.int (w : Nat)), .fz (.int (c : Nat)), .fz (.int (l.length : Nat)), .un]) K ?_ (by k_memK) (fun s' J => ?_) rfl)
    · refine Ev.conv (Ev.lenO K.toOk bl (ds := intsD l) (pl := true) (by k_memK) (by rw [intsD_len]; omega)) ?_
      rw [intsD_len]
    refine Tr.cons (Ts.assign (d := .int (ffI (ffind N c (h - l.length) l.length))) (σ' := [.fz (mx h w M), .ow false (mxD h w N), .ow true (intsD l), .fz (.int (w : Nat)), .fz (.int (c : Nat)), .fz (.int (l.length : Nat)), .fz (.int (ffI (ffind N c (h - l.length) l.length)))]) K ?_ (by k_memK) (fun s' J => ?_) rfl) s' J
    · refine Ev.look (σ' := [.fz (mx h w M), .fz (mx h w N), .ow true (intsD l), .fz (.int (w : Nat)), .fz (.int (c : Nat)), .fz (.int (l.length : Nat)), .un]) (x := "rows") (pl := false) (ds := mxD h w N) K.toOk (by k_memK) (by k_memK) ?_ flat_int
      refine Ev.call (n := 1) (ds := [mx h w N, .int (l.length : Nat), .int (c : Nat)]) K.toOk ?_ (first_filled_run R h w N l.length c _ hh hw b1 hc ?_) (Nat.le_of_ble_eq_true rfl) (S.glo (by decide +kernel))
      · repeat' kqd_in
      · cases e : ffind N c (h - l.length) l.length with
        | none => exact .inr ⟨fun i h1 h2 => ffind_none e i h1 (by omega), rfl⟩
        | some p =>
          obtain ⟨f1, f2, f3, f4⟩ := ffind_some e
          exact .inl ⟨p, f1, by omega, f3, f4, rfl⟩
    refine Tr.cons (Ts.ite (b := decide (ffI (ffind N c (h - l.length) l.length) < 0)) K ?_ (fun q => ?_) (fun q => Tr.next ?_)) s' J
    · repeat' kqd_in
    · cases e : ffind N c (h - l.length) l.length with
      | some p => rw [e] at q; exact absurd (of_decide_eq_true q) (by show ¬ ((p : Nat) : Int) < 0; omega)
      | none =>
        rw [stepE_none (S := (N, l)) e]
        refine Tr.weak K (σ' := [.fz (mx h w M), .ow false (mxD h w N), .ow true (intsD l), .fz (.int (w : Nat)), .un, .un, .un]) (.same rfl (.same rfl (.same rfl (.same rfl (.un (.un (.un .nil))))))) ?_
        exact Tr.cons (Ts.cont fun s' J => J)
    · cases e : ffind N c (h - l.length) l.length with
      | none => rw [e] at q; simp [ffI] at q
      | some f =>
        rw [stepE_some (S := (N, l)) e]
        simp only [ffI]
        obtain ⟨f1, f2, f3, f4⟩ := ffind_some e
        have hf : f < h := by omega
        have ht : l.length < h := by omega
        have s1 := swap_bd ht hf b3
        have s2 := scl_bd (c := c) ht hc (by rw [swap_top]; exact f3) s1
        refine Tr.cons (Ts.assignT (d := .tup [rw_ w (N f), rw_ w (N l.length)]) (σ' := [.fz (mx h w M), .ow false (((mxD h w N).set l.length (rw_ w (N f))).set f (rw_ w (N l.length))), .ow true (intsD l), .fz (.int (w : Nat)), .fz (.int (c : Nat)), .fz (.int (l.length : Nat)), .fz (.int (f : Nat))]) K ?_ ?_ (fun s' J => ?_) (swpS S fun _ _ _ _ _ _ _ _ => rfl) (swpW S fun _ _ _ _ _ _ _ _ => rfl))
        · exact Ev.tuple (EvL.cons (Ev.mxO (by k_memK) (Ev.var (by k_memK)) hf hh) (EvL.cons (Ev.mxO (by k_memK) (Ev.var (by k_memK)) ht hh) EvL.nil))
        · refine Ta.pair K (σ₁ := [.fz (mx h w M), .ow false ((mxD h w N).set l.length (rw_ w (N f))), .ow true (intsD l), .fz (.int (w : Nat)), .fz (.int (c : Nat)), .fz (.int (l.length : Nat)), .fz (.int (f : Nat))]) (Ta.item (pl := false) (ds := mxD h w N) (j := (l.length : Nat)) K (by k_memK) (Ev.var (by k_memK)) (by omega) (by rw [mxD_len]; omega) (by rw [mxD_len]; omega) (by k_memK)) (Ta.item (pl := false) (ds := (mxD h w N).set l.length (rw_ w (N f))) (j := (f : Nat)) K (by k_memK) (Ev.var (by k_memK)) (by omega) (by rw [List.length_set, mxD_len]; omega) (by rw [List.length_set, mxD_len]; omega) (by k_memK)) rfl
        have esw : ((mxD h w N).set l.length (rw_ w (N f))).set f (rw_ w (N l.length)) = mxD h w (swapM N l.length f) := by
          unfold mxD
          rw [rng_set, rng_set]
          refine rng_congr fun k hk => ?_
          unfold swapM
          by_cases h1 : k = f
          · simp [h1]
          · by_cases h2 : k = l.length
            · rw [if_neg h1, if_pos h2, if_neg h1, if_pos h2]
            · rw [if_neg h1, if_neg h2, if_neg h1, if_neg h2]
        rw [esw] at J
        refine Tr.cons (Ts.setitem (d := rw_ w fun j => swapM N l.length f l.length j * (1 / swapM N l.length f l.length c)) (j := (l.length : Nat)) (ds := mxD h w (swapM N l.length f)) (pl := false) K (by k_memK) ?_ (Ev.var (by k_memK)) (by omega) (by rw [mxD_len]; omega) (by rw [mxD_len]; omega) (by k_memK) (fun s' J => ?_) rfl) s' J
        · refine Ev.call (n := 4) (ds := [rw_ w (swapM N l.length f l.length), encQ (1 / swapM N l.length f l.length c)]) K.toOk ?_ (scaled_run R w _ _ b (1 + b) hw (fun j hj => s1 _ j ht hj) (bz1.div (s1 _ c ht hc) (by rw [swap_top]; exact f3)) (by omega)) (Nat.le_of_ble_eq_true rfl) (S.glo (by decide +kernel))
          refine EvL.cons (Ev.mxO (by k_memK) (Ev.var (by k_memK)) ht hh) (EvL.cons ?_ EvL.nil)
          refine Ev.call (n := 3) (ds := [encQ 1, encQ (swapM N l.length f l.length c)]) K.toOk ?_ (div_run R bz1 (s1 _ c ht hc) (by omega) (by rw [swap_top]; exact f3)) (Nat.le_of_ble_eq_true rfl) (S.glo (by decide +kernel))
          exact EvL.cons (Ev.one R K.toOk (S.glo (by decide +kernel))) (EvL.cons (Ev.rwI (Ev.mxO (by k_memK) (Ev.var (by k_memK)) ht hh) (Ev.var (by k_memK)) hc hw) EvL.nil)
        have esc : (mxD h w (swapM N l.length f)).set ((l.length : Nat) : Int).toNat (rw_ w fun j => swapM N l.length f l.length j * (1 / swapM N l.length f l.length c)) = mxD h w (sclM (swapM N l.length f) l.length (1 / swapM N l.length f l.length c)) := by
          rw [Int.toNat_natCast]
          unfold mxD
          rw [rng_set]
          refine rng_congr fun k hk => ?_
          by_cases h1 : k = l.length
          · subst h1
            rw [if_pos rfl]
            refine rw_congr fun j hj => ?_
            simp [sclM]
          · rw [if_neg h1]
            refine rw_congr fun j hj => ?_
            simp [sclM, h1]
        rw [esc] at J
        refine Tr.cons (Ts.callM (n := 6) (ds := mxD h w (sclM (swapM N l.length f) l.length (1 / swapM N l.length f l.length c))) (es' := [.int (l.length : Nat), .int (c : Nat)]) (pl := false) K (by k_memK) ?_ (clear_run R h w _ l.length c (2 * b + 1) hh hw ht hc s2 (by omega)) (by k_memK) (Nat.le_of_ble_eq_true rfl) (fun s' J => ?_) (S.glo (by decide +kernel)) S.inter (by exact ⟨rfl, rfl, rfl, trivial⟩)) s' J
        · repeat' kqd_in
        refine Tr.cons (Ts.append (d := .int (c : Nat)) (ds := intsD l) K (by k_memK) (Ev.var (by k_memK)) (by k_memK) (by rw [intsD_len]; omega) (fun s' J => ?_) ⟨rfl, trivial⟩ (hi := S.inter)) s' J
        refine Tr.lp (.same rfl (.same rfl (.same ?_ (.same rfl (.un (.un (.un .nil))))))) K s' J
        simp [intsD]
  · refine Tr.weak K (σ' := [.un, .fz (mx h w (ech h M w).1), .fz (.lst (intsD (ech h M w).2)), .un, .un, .un, .un]) (.un (.fr rfl (.fr rfl (.un (.un (.un (.un .nil))))))) ?_ s' J
    refine Tr.cons (Ts.ret (d := .tup [mx h w (ech h M w).1, .lst (intsD (ech h M w).2)]) K ?_ fun v h' tk k d => ?_)
    · repeat' kqd_in
    · exact ⟨h', tk, rfl, k, d⟩

end Mine
end
section
open PySem PySem.W PyProof.Rows PySem.Calls PySem.Spec
set_option Elab.async false
set_option maxRecDepth 100000
set_option linter.unusedVariables false
namespace Mine
local macro_rules | `(tactic| k_memK) => `(tactic| first | exact At.hd (by with_reducible rfl) | exact Put.hd (by with_reducible rfl) | (refine At.tail ?_; k_memK) | (apply Put.tail; k_memK))
local macro_rules | `(tactic| kqd_in) => `(tactic| first
  | assumption
  | k_memK
  | exact Ev.int
  | exact Ev.noneC
  | exact Ev.boolC
  | refine Ev.var ?_
  | exact EvL.nil
  | refine EvL.cons ?_ ?_
  | refine Ev.num ?_
  | refine Ev.den ?_
  | apply Ev.qIsNone
  | apply EvT.qIsNone
  | refine Ev.add ?_ ?_
  | refine Ev.sub ?_ ?_
  | refine Ev.mul ?_ ?_ ?_
  | refine Ev.mod ?_ ?_ ?_
  | refine Ev.fdiv ?_ ?_ ?_ ?_
  | refine Ev.tuple ?_
  | refine EvT.cEq ?_ ?_
  | refine EvT.cNe ?_ ?_
  | refine EvT.cLt ?_ ?_
  | refine EvT.cLe ?_ ?_
  | refine EvT.cGt ?_ ?_
  | refine EvT.cGe ?_ ?_
  | refine Ev.cEq ?_ ?_
  | refine Ev.cNe ?_ ?_
  | refine Ev.cLt ?_ ?_
  | refine Ev.isNoneT ?_
  | refine EvT.not ?_
  | refine Ev.not ?_
  | refine Ev.neg ?_
  | refine EvT.op ?_
  | exact EvA.andNil
  | exact EvA.orNil
  | exact Fx.Is.glo (by assumption) (by decide +kernel))

theorem ech_lt {h : Nat} {M : Mx} : ∀ c, ∀ p ∈ (ech h M c).2, p < c
  | 0, p, hp => by cases hp
  | c + 1, p, hp => by
    have hp' : p ∈ (stepE h (ech h M c) c).2 := hp
    cases e : ffind (ech h M c).1 c (h - (ech h M c).2.length) (ech h M c).2.length with
    | none => rw [stepE_none e] at hp'; have := ech_lt c p hp'; omega
    | some f =>
      rw [stepE_some e] at hp'
      rcases List.mem_append.mp hp' with q | q
      · have := ech_lt c p q; omega
      · have : p = c := by simpa using q
        omega
theorem ech_len {h : Nat} {M : Mx} : ∀ c, (ech h M c).2.length ≤ h ∧ (ech h M c).2.length ≤ c
  | 0 => ⟨Nat.zero_le _, Nat.zero_le _⟩
  | c + 1 => by
    obtain ⟨h1, h2⟩ := @ech_len h M c
    show (stepE h (ech h M c) c).2.length ≤ h ∧ (stepE h (ech h M c) c).2.length ≤ c + 1
    cases e : ffind (ech h M c).1 c (h - (ech h M c).2.length) (ech h M c).2.length with
    | none => rw [stepE_none e]; exact ⟨h1, by omega⟩
    | some f =>
      rw [stepE_some e]
      obtain ⟨f1, f2, f3, f4⟩ := ffind_some e
      exact ⟨by simp; omega, by simp; omega⟩
theorem rank_run {W : Wd} (R : Recs W) (h w : Nat) (M : Mx) (B : Nat) (hh : h ≤ 64) (hh0 : 0 < h) (hw : w ≤ 64) (hM : ∀ r j, r < h → j < w → Bq B (M r j)) (hb : 6 * bnd B h + 4 ≤ 2 ^ 26) :
    Fn W "rank_of" 9 [mx h w M] (.int ((ech h M w).2.length : Nat)) := by
  refine Fn.intro h_rank_of R.rank_of rfl fun env A s₀ O₀ S => ?_
  dsimp only [ini, List.map_cons, List.map_nil, List.cons_append, List.nil_append] at S ⊢
  have K := S.toGood
  have bl : Bui ⟨W, env, A, ["a"], 8⟩ "len" (.builtin "len") := S.bui (by decide +kernel) R.b_len (by decide +kernel) (by decide +kernel) (by decide +kernel)
  have hl := (@ech_len h M w).1
  refine Tr.cons (Ts.ret (d := .int ((intsD (ech h M w).2).length : Nat)) K ?_ fun v h' tk k d => ?_)
  · refine Ev.len K.toOk bl (Ev.idxT (ds := [mx h w (ech h M w).1, .lst (intsD (ech h M w).2)]) (k := 1) ?_ Ev.int (by decide) (by decide) rfl) (by rw [intsD_len]; omega)
    refine Ev.call (n := 8) (ds := [mx h w M]) K.toOk ?_ (ech_run R h w M B hh hh0 hw hM hb) (Nat.le_of_ble_eq_true rfl) (S.glo (by decide +kernel))
    repeat' kqd_in
  · rw [intsD_len] at d
    exact ⟨h', tk, rfl, k, d⟩
theorem ints_are {h : Heap} {O : Addr → Prop} : ∀ {vs : List Value} {xs : List Nat}, DenAll h O vs (intsD xs) → IntsAre vs (xs.map fun k => ((k : Nat) : Int))
  | [], [], _ => .nil
  | [], _ :: _, d => by cases d
  | _ :: _, [], d => by cases d
  | v :: vs, x :: xs, d => by
    cases d with
    | cons a r =>
      have r' := ints_are (xs := xs) r
      have a' : Den h O v (.int (x : Nat)) := a
      generalize hd : Dt.int ((x : Nat) : Int) = dd at a'
      cases a' with
      | int i t => cases hd; exact .cons _ _ r'
      | _ => cases hd
theorem EvT.inInts {F : Fx} {σ : List LV} {l r : Expr} {k : Nat} {xs : List Nat} {pos : Pos} (K : F.Ok) (hl : Ev F σ l (.int (k : Nat))) (hr : Ev F σ r (.lst (intsD xs))) (hm : behindInMarks .In r = false := by with_unfolding_all rfl) :
    EvT F σ (.Compare l [.In] [r] pos) (decide (k ∈ xs)) := by
  intro O c s Q g v q
  refine wpAny_isTrue_Compare1 (hl O c s _ g v fun x h₁ t₁ k₁ d₁ => hr O c _ _ (g.mono k₁) (v.mono k₁) fun y h₂ t₂ k₂ d₂ => ?_) hm
  obtain ⟨a, vs, rfl, la, _, r⟩ := d₂.lst_inv
  cases d₁
  refine in_list_ints (s := { s with heap := h₂, toks := t₂ }) la (ints_are r) (wpAny_truthy_bool ?_)
  have e : ((xs.map fun k => ((k : Nat) : Int)).any (· == (k : Nat))) = decide (k ∈ xs) := by
    by_cases hk : k ∈ xs
    · rw [decide_eq_true hk, List.any_eq_true]
      exact ⟨k, List.mem_map.mpr ⟨k, hk, rfl⟩, by simp⟩
    · rw [decide_eq_false hk, List.any_eq_false]
      intro z hz
      obtain ⟨y, hy, rfl⟩ := List.mem_map.mp hz
      have : y ≠ k := fun e => hk (e ▸ hy)
      simp; omega
  rw [e]
  exact q h₂ t₂ (k₁.trans k₂)
noncomputable def nvec (M : Mx) (l : List Nat) (c : Nat) : Nat → Vc
  | 0 => fun j => if j = c then 1 else 0
  | i + 1 => fun j => if j = l.getD i 0 then -(M i c) else nvec M l c i j
noncomputable def frees (l : List Nat) (w : Nat) : List Nat := (List.range w).filter fun c => !decide (c ∈ l)
theorem frees_in {l : List Nat} {i : Nat} (h : i ∈ l) : frees l (i + 1) = frees l i := by simp [frees, List.range_succ, List.filter_append, h]
theorem frees_out {l : List Nat} {i : Nat} (h : i ∉ l) : frees l (i + 1) = frees l i ++ [i] := by simp [frees, List.range_succ, List.filter_append, h]
theorem frees_len {l : List Nat} {i : Nat} : (frees l i).length ≤ i := Nat.le_trans (List.length_filter_le _ _) (by simp)
theorem null_run {W : Wd} (R : Recs W) (h w : Nat) (M : Mx) (B : Nat) (hh : h ≤ 64) (hh0 : 0 < h) (hw : w ≤ 64) (hM : ∀ r j, r < h → j < w → Bq B (M r j)) (hb : 6 * bnd B h + 4 ≤ 2 ^ 26) :
    Fn W "null_space" 9 [mx h w M, .int (w : Nat)] (.lst ((frees (ech h M w).2 w).map fun c => rw_ w (nvec (ech h M w).1 (ech h M w).2 c (ech h M w).2.length))) := by
  refine Fn.intro h_null_space R.null_space rfl fun env A s₀ O₀ S => ?_
  dsimp only [ini, List.map_cons, List.map_nil, List.cons_append, List.nil_append] at S ⊢
  have K := S.toGood
  have br : Bui ⟨W, env, A, ["a", "width", "rows", "pivots", "found", "column", "vector", "place"], 8⟩ "range" (.type "range") := S.bui (by decide +kernel) R.b_range (by decide +kernel) (by decide +kernel) (by decide +kernel)
  have bl : Bui ⟨W, env, A, ["a", "width", "rows", "pivots", "found", "column", "vector", "place"], 8⟩ "len" (.builtin "len") := S.bui (by decide +kernel) R.b_len (by decide +kernel) (by decide +kernel) (by decide +kernel)
  have hl := (@ech_len h M w).1
  have hlt := @ech_lt h M w
  have hrun := ech_run R h w M B hh hh0 hw hM hb
  generalize (ech h M w).1 = N at hrun ⊢
  generalize (ech h M w).2 = l at hl hlt hrun ⊢
  refine Tr.cons (Ts.assignT (d := .tup [mx h w N, .lst (intsD l)]) (σ' := [.fz (mx h w M), .fz (.int (w : Nat)), .fz (mx h w N), .fz (.lst (intsD l)), .un, .un, .un, .un]) K ?_ ?_ (fun s' J => ?_) (swpS S fun _ _ _ _ _ _ _ _ => rfl) rfl)
  · refine Ev.call (n := 8) (ds := [mx h w M]) K.toOk ?_ hrun (Nat.le_of_ble_eq_true rfl) (S.glo (by decide +kernel))
    repeat' kqd_in
  · exact Ta.pair K (σ₁ := [.fz (mx h w M), .fz (.int (w : Nat)), .fz (mx h w N), .un, .un, .un, .un, .un]) (Ta.name K (by k_memK)) (Ta.name K (by k_memK)) rfl
  refine Tr.cons (Ts.assignN (pl := true) (ds := []) (σ' := [.fz (mx h w M), .fz (.int (w : Nat)), .fz (mx h w N), .fz (.lst (intsD l)), .ow true [], .un, .un, .un]) K (EvN.list EvL.nil) (by k_memK) (fun s' J => ?_) rfl) s' J
  refine Tr.cons (Ts.forRange K br (n := w) (Ev.var (by k_memK)) (by omega) (fun c => [.fz (mx h w M), .fz (.int (w : Nat)), .fz (mx h w N), .fz (.lst (intsD l)), .ow true ((frees l c).map fun c => rw_ w (nvec N l c l.length)), .un, .un, .un]) (fun c => [.fz (mx h w M), .fz (.int (w : Nat)), .fz (mx h w N), .fz (.lst (intsD l)), .ow true ((frees l c).map fun c => rw_ w (nvec N l c l.length)), .fz (.int (c : Nat)), .un, .un]) .refl (fun c hc => ?_) (fun Z' c hc => ?_) fun s' J => ?_) s' J
  · exact Ta.name K (by k_memK)
  · refine Tr.cons (Ts.ite (b := decide (c ∈ l)) K (EvT.inInts K.toOk (Ev.var (by k_memK)) (Ev.var (by k_memK))) (fun q => ?_) (fun q => Tr.next ?_))
    · rw [frees_in (of_decide_eq_true q)]
      refine Tr.weak K (σ' := [.fz (mx h w M), .fz (.int (w : Nat)), .fz (mx h w N), .fz (.lst (intsD l)), .ow true ((frees l c).map fun c => rw_ w (nvec N l c l.length)), .un, .un, .un]) (.same rfl (.same rfl (.same rfl (.same rfl (.same rfl (.un .refl)))))) ?_
      exact Tr.cons (Ts.cont fun s' J => J)
    · have hq : c ∉ l := of_decide_eq_false q
      rw [frees_out hq]
      refine Tr.cons (Ts.assignN (pl := true) (ds := rng w fun _ => encQ 0) (σ' := [.fz (mx h w M), .fz (.int (w : Nat)), .fz (mx h w N), .fz (.lst (intsD l)), .ow true ((frees l c).map fun c => rw_ w (nvec N l c l.length)), .fz (.int (c : Nat)), .ow true (rng w fun _ => encQ 0), .un]) K ?_ (by k_memK) (fun s' J => ?_) rfl)
      · rw [← rng_const]
        exact EvN.mulL (EvN.list (EvL.cons (Ev.zero R K.toOk (S.glo (by decide +kernel))) EvL.nil)) (Ev.var (by k_memK)) (by omega)
      refine Tr.cons (Ts.setitem (d := encQ 1) (j := (c : Nat)) (ds := rng w fun _ => encQ 0) (pl := true) K (by k_memK) (Ev.one R K.toOk (S.glo (by decide +kernel))) (Ev.var (by k_memK)) (by omega) (by rw [rng_len]; omega) (by rw [rng_len]; omega) (by k_memK) (fun s' J => ?_) rfl) s' J
      refine Tr.cons (Ts.forRange K br (n := l.length) (Ev.conv (Ev.len K.toOk bl (Ev.var (by k_memK)) (by rw [intsD_len]; omega)) (by rw [intsD_len])) (by omega) (fun i => [.fz (mx h w M), .fz (.int (w : Nat)), .fz (mx h w N), .fz (.lst (intsD l)), .ow true ((frees l c).map fun c => rw_ w (nvec N l c l.length)), .fz (.int (c : Nat)), .ow false (rowD w (nvec N l c i)), .un]) (fun i => [.fz (mx h w M), .fz (.int (w : Nat)), .fz (mx h w N), .fz (.lst (intsD l)), .ow true ((frees l c).map fun c => rw_ w (nvec N l c l.length)), .fz (.int (c : Nat)), .ow false (rowD w (nvec N l c i)), .fz (.int (i : Nat))]) (.same rfl (.same rfl (.same rfl (.same rfl (.same rfl (.same rfl (.same ?_ .refl))))))) (fun i hi => ?_) (fun Z' i hi => ?_) fun s' J => ?_) s' J
      · congr 1
        rw [rng_set]
        refine rng_congr fun k hk => ?_
        simp only [Int.toNat_natCast, nvec]
        split <;> rfl
      · exact Ta.name K (by k_memK)
      · have hi' : l[i]? = some l[i] := List.getElem?_eq_getElem hi
        have hg : l.getD i 0 = l[i] := by rw [List.getD_eq_getElem?_getD, hi']; rfl
        have hlw : l[i] < w := hlt _ (List.getElem_mem hi)
        refine Tr.cons (Ts.setitem (d := encQ (-(N i c))) (j := (l[i] : Nat)) (ds := rowD w (nvec N l c i)) (pl := false) K (by k_memK) ?_ (Ev.idx (ds := intsD l) (Ev.var (by k_memK)) (Ev.var (by k_memK)) (by omega) (by omega) (by rw [Int.toNat_natCast]; exact intsD_get hi')) (by omega) (by rw [rowD_len]; omega) (by rw [rowD_len]; omega) (by k_memK) (fun s' J => ?_) rfl)
        · refine Ev.call (n := 1) (ds := [encQ (N i c)]) K.toOk ?_ (neg_run R _) (Nat.le_of_ble_eq_true rfl) (S.glo (by decide +kernel))
          exact EvL.cons (Ev.rwI (Ev.mxI (Ev.var (by k_memK)) (Ev.var (by k_memK)) (by omega) hh) (Ev.var (by k_memK)) hc hw) EvL.nil
        · refine Tr.lp (.same rfl (.same rfl (.same rfl (.same rfl (.same rfl (.same rfl (.same ?_ (.un .nil)))))))) K s' J
          congr 1
          unfold rowD
          rw [rng_set]
          refine rng_congr fun k hk => ?_
          simp only [Int.toNat_natCast, nvec, hg]
          split <;> rfl
      · refine Tr.weak K (σ' := [.fz (mx h w M), .fz (.int (w : Nat)), .fz (mx h w N), .fz (.lst (intsD l)), .ow true ((frees l c).map fun c => rw_ w (nvec N l c l.length)), .un, .fz (rw_ w (nvec N l c l.length)), .un]) (.same rfl (.same rfl (.same rfl (.same rfl (.same rfl (.un (.fr rfl .refl))))))) ?_ s' J
        refine Tr.cons (Ts.append (d := rw_ w (nvec N l c l.length)) K (by k_memK) (Ev.var (by k_memK)) (by k_memK) (by rw [List.length_map]; have := @frees_len l c; omega) (fun s' J => ?_) ⟨rfl, trivial⟩ (hi := S.inter))
        refine Tr.lp (.same rfl (.same rfl (.same rfl (.same rfl (.same ?_ (.un (.un .refl))))))) K s' J
        simp
  · refine Tr.weak K (σ' := [.un, .un, .un, .un, .fz (.lst ((frees l w).map fun c => rw_ w (nvec N l c l.length))), .un, .un, .un]) (.un (.un (.un (.un (.fr rfl .refl))))) ?_ s' J
    refine Tr.cons (Ts.ret K (Ev.var (by k_memK)) fun v h' tk k d => ?_)
    exact ⟨h', tk, rfl, k, d⟩

end Mine
end
section
open PySem PySem.W PyProof.Rows PySem.Calls PySem.Spec
set_option Elab.async false
set_option maxRecDepth 100000
set_option linter.unusedVariables false
namespace Mine
local macro_rules | `(tactic| k_memK) => `(tactic| first | exact At.hd (by with_reducible rfl) | exact Put.hd (by with_reducible rfl) | (refine At.tail ?_; k_memK) | (apply Put.tail; k_memK))
local macro_rules | `(tactic| kqd_in) => `(tactic| first
  | assumption
  | k_memK
  | exact Ev.int
  | exact Ev.noneC
  | exact Ev.boolC
  | refine Ev.var ?_
  | exact EvL.nil
  | refine EvL.cons ?_ ?_
  | refine Ev.num ?_
  | refine Ev.den ?_
  | apply Ev.qIsNone
  | apply EvT.qIsNone
  | refine Ev.add ?_ ?_
  | refine Ev.sub ?_ ?_
  | refine Ev.mul ?_ ?_ ?_
  | refine Ev.mod ?_ ?_ ?_
  | refine Ev.fdiv ?_ ?_ ?_ ?_
  | refine Ev.tuple ?_
  | refine EvT.cEq ?_ ?_
  | refine EvT.cNe ?_ ?_
  | refine EvT.cLt ?_ ?_
  | refine EvT.cLe ?_ ?_
  | refine EvT.cGt ?_ ?_
  | refine EvT.cGe ?_ ?_
  | refine Ev.cEq ?_ ?_
  | refine Ev.cNe ?_ ?_
  | refine Ev.cLt ?_ ?_
  | refine Ev.isNoneT ?_
  | refine EvT.not ?_
  | refine Ev.not ?_
  | refine Ev.neg ?_
  | refine EvT.op ?_
  | exact EvA.andNil
  | exact EvA.orNil
  | exact Fx.Is.glo (by assumption) (by decide +kernel))

noncomputable def join (n : Nat) (A B : Mx) : Mx := fun r j => if j < n then A r j else B r (j - n)
theorem solve_pre {W : Wd} (R : Recs W) (n m : Nat) (P Q : Mx) (B : Nat) (r : Int) (hn0 : 0 < n) (hnm : n + m ≤ 64) (hP : ∀ r j, r < n → j < n → Bq B (P r j)) (hQ : ∀ r j, r < n → j < m → Bq B (Q r j)) (hb : 6 * bnd B n + 4 ≤ 2 ^ 26)
    (hr : (∃ p : Nat, p < n ∧ (∀ i, i < p → (ech n (join n P Q) (n + m)).2[i]? = some i) ∧ (ech n (join n P Q) (n + m)).2[p]? ≠ some p ∧ r = p + 1) ∨ ((∀ i, i < n → (ech n (join n P Q) (n + m)).2[i]? = some i) ∧ r = 0))
    {env : Env} {A : Around} {s₀ : Shared} {O₀ : Addr → Prop} {Φ : Flow → Shared → Prop} {E : Value → Shared → Prop} (S : Fx.Is ⟨W, env, A, ["a", "b", "size", "joined", "rows", "pivots", "column"], 8⟩ r_solve_rows)
    (h : Tr ⟨W, env, A, ["a", "b", "size", "joined", "rows", "pivots", "column"], 8⟩ s₀ O₀ {} [.fz (mx n n P), .fz (mx n m Q), .fz (.int (n : Nat)), .fz (mx n (n + m) (join n P Q)), .fz (mx n (n + m) (ech n (join n P Q) (n + m)).1), .fz (.lst (intsD (ech n (join n P Q) (n + m)).2)), .fz (.int r)] (r_solve_rows.body.drop 4) Φ E) :
    Tr ⟨W, env, A, ["a", "b", "size", "joined", "rows", "pivots", "column"], 8⟩ s₀ O₀ {} [.fz (mx n n P), .fz (mx n m Q), .un, .un, .un, .un, .un] r_solve_rows.body Φ E := by
  have K := S.toGood
  have hl := (@ech_len n (join n P Q) (n + m)).1
  have hJ : ∀ r j, r < n → j < n + m → Bq B (join n P Q r j) := by
    intro r j h1 h2
    unfold join
    split
    · exact hP _ _ h1 (by omega)
    · exact hQ _ _ h1 (by omega)
  have hrun := ech_run R n (n + m) (join n P Q) B (by omega) hn0 hnm hJ hb
  generalize (ech n (join n P Q) (n + m)).1 = N at hrun h
  generalize (ech n (join n P Q) (n + m)).2 = l at hl hr hrun h
  have br : Bui ⟨W, env, A, ["a", "b", "size", "joined", "rows", "pivots", "column"], 8⟩ "range" (.type "range") := S.bui (by decide +kernel) R.b_range (by decide +kernel) (by decide +kernel) (by decide +kernel)
  have bl : Bui ⟨W, env, A, ["a", "b", "size", "joined", "rows", "pivots", "column"], 8⟩ "len" (.builtin "len") := S.bui (by decide +kernel) R.b_len (by decide +kernel) (by decide +kernel) (by decide +kernel)
  refine Tr.cons (Ts.assign (d := .int (n : Nat)) (σ' := [.fz (mx n n P), .fz (mx n m Q), .fz (.int (n : Nat)), .un, .un, .un, .un]) K ?_ (by k_memK) (fun s' J => ?_) (swp S fun _ _ _ _ _ _ _ _ => rfl))
  · exact Ev.lenM K.toOk bl (Ev.var (by k_memK)) (by omega)
  refine Tr.cons (Ts.assignCI (tgs := ["place"]) (frs := ["a", "b"]) (es := mxD n (n + m) (join n P Q)) (σ' := [.fz (mx n n P), .fz (mx n m Q), .fz (.int (n : Nat)), .fz (mx n (n + m) (join n P Q)), .un, .un, .un]) S rfl (by dsimp only; decide +kernel) (fun M1 => ?_) (by k_memK) (fun s' J => ?_) (swp S fun _ _ _ _ _ _ _ _ => rfl)) s' J
  · refine EvC.range (frs := ["a", "b"]) (fl := [.fz (mx n n P), .fz (mx n m Q)]) (n := n) (b := fun i => rw_ (n + m) (join n P Q i)) K.toOk M1 br (Ev.var (by k_memK)) (by omega) (fun x l a => ?_) fun C i hi => ?_
    · cases a with
      | head => k_memK
      | tail a =>
        cases a with
        | head => k_memK
        | tail a => cases a
    · refine Ev.conv (d := .lst (rowD n (P i) ++ rowD m (Q i))) (EvN.ev (pl := true) (EvN.addL (Ev.mxI (M := P) (w := n) (h := n) (k := i) (Ev.var (by k_memK)) (Ev.var (by k_memK)) hi (by omega)) (Ev.mxI (M := Q) (w := m) (h := n) (k := i) (Ev.var (by k_memK)) (Ev.var (by k_memK)) hi (by omega)) (by rw [rowD_len, rowD_len]; exact size64 hnm))) ?_
      unfold rw_
      congr 1
      unfold rowD
      rw [rng_add]
      refine rng_congr fun k hk => ?_
      unfold join
      split <;> rfl
  refine Tr.cons (Ts.assignT (d := .tup [mx n (n + m) N, .lst (intsD l)]) (σ' := [.fz (mx n n P), .fz (mx n m Q), .fz (.int (n : Nat)), .fz (mx n (n + m) (join n P Q)), .fz (mx n (n + m) N), .fz (.lst (intsD l)), .un]) K ?_ ?_ (fun s' J => ?_) (swpS S fun _ _ _ _ _ _ _ _ => rfl) rfl) s' J
  · refine Ev.call (n := 8) (ds := [mx n (n + m) (join n P Q)]) K.toOk ?_ hrun (Nat.le_of_ble_eq_true rfl) (S.glo (by decide +kernel))
    repeat' kqd_in
  · exact Ta.pair K (σ₁ := [.fz (mx n n P), .fz (mx n m Q), .fz (.int (n : Nat)), .fz (mx n (n + m) (join n P Q)), .fz (mx n (n + m) N), .un, .un]) (Ta.name K (by k_memK)) (Ta.name K (by k_memK)) rfl
  refine Tr.cons (Ts.assign (d := .int r) (σ' := [.fz (mx n n P), .fz (mx n m Q), .fz (.int (n : Nat)), .fz (mx n (n + m) (join n P Q)), .fz (mx n (n + m) N), .fz (.lst (intsD l)), .fz (.int r)]) K ?_ (by k_memK) (fun s' J => ?_) (swp S fun _ _ _ _ _ _ _ _ => rfl)) s' J
  · refine Ev.call (n := 1) (ds := [.lst (intsD l), .int (n : Nat)]) K.toOk ?_ (first_dependent_run R l n r (by omega) (by omega) hr) (Nat.le_of_ble_eq_true rfl) (S.glo (by decide +kernel))
    repeat' kqd_in
  exact h s' J
theorem solve_run {W : Wd} (R : Recs W) (n m : Nat) (P Q : Mx) (B : Nat) (hn0 : 0 < n) (hnm : n + m ≤ 64) (hP : ∀ r j, r < n → j < n → Bq B (P r j)) (hQ : ∀ r j, r < n → j < m → Bq B (Q r j)) (hb : 6 * bnd B n + 4 ≤ 2 ^ 26)
    (hr : ∀ i, i < n → (ech n (join n P Q) (n + m)).2[i]? = some i) : Fn W "solve_rows" 9 [mx n n P, mx n m Q] (mx n m fun r j => (ech n (join n P Q) (n + m)).1 r (n + j)) := by
  refine Fn.intro h_solve_rows R.solve_rows rfl fun env A s₀ O₀ S => ?_
  dsimp only [ini, List.map_cons, List.map_nil, List.cons_append, List.nil_append] at S ⊢
  have K := S.toGood
  refine solve_pre R n m P Q B 0 hn0 hnm hP hQ hb (.inr ⟨hr, rfl⟩) S ?_
  generalize (ech n (join n P Q) (n + m)).1 = N
  refine Tr.cons (Ts.ite (b := decide ((0 : Int) > 0)) K ?_ (fun q => by simp at q) (fun q => Tr.next ?_))
  · repeat' kqd_in
  refine Tr.cons (Ts.ret (d := mx n m fun r j => N r (n + j)) K ?_ fun v h' tk k d => ?_)
  · refine EvN.ev (pl := true) (EvN.compI (tgs := ["row"]) (frs := ["size"]) S rfl (by dsimp only; decide +kernel) fun M1 => ?_)
    refine EvC.list (frs := ["size"]) (fl := [.fz (.int (n : Nat))]) (xs := List.range n) (a := fun i => rw_ (n + m) (N i)) (b := fun i => rw_ m fun j => N i (n + j)) K.toOk M1 (Ev.var (by k_memK)) (by simpa using size64 (by omega)) (fun x l a => ?_) fun C y hy => ?_
    · cases a with
      | head => k_memK
      | tail a => cases a
    · refine Ev.conv (d := .lst (((rowD (n + m) (N y)).take ((none : Option Nat).getD (rowD (n + m) (N y)).length)).drop ((some n).getD 0))) (EvN.ev (pl := true) (EvN.slice (lo := some n) (hi := none) (Ev.var (by k_memK)) (show EvP _ _ (some _) (some n) from Ev.var (by k_memK)) (upper := none) trivial (by simp [rowD_len]) (by simp [rowD_len]) (by rw [rowD_len]; exact size64 hnm))) ?_
      unfold rw_
      congr 1
      simp only [Option.getD_none, Option.getD_some, rowD_len]
      rw [List.take_of_length_le (by rw [rowD_len]; omega)]
      unfold rowD
      exact rng_drop
  · exact ⟨h', tk, rfl, k, d⟩

end Mine
end
section
open PySem PySem.W PyProof.Rows PySem.Calls PySem.Spec
set_option Elab.async false
set_option maxRecDepth 100000
set_option linter.unusedVariables false
namespace Mine
local macro_rules | `(tactic| k_memK) => `(tactic| first | exact At.hd (by with_reducible rfl) | exact Put.hd (by with_reducible rfl) | (refine At.tail ?_; k_memK) | (apply Put.tail; k_memK))
local macro_rules | `(tactic| kqd_in) => `(tactic| first
  | assumption
  | k_memK
  | exact Ev.int
  | exact Ev.noneC
  | exact Ev.boolC
  | refine Ev.var ?_
  | exact EvL.nil
  | refine EvL.cons ?_ ?_
  | refine Ev.num ?_
  | refine Ev.den ?_
  | apply Ev.qIsNone
  | apply EvT.qIsNone
  | refine Ev.add ?_ ?_
  | refine Ev.sub ?_ ?_
  | refine Ev.mul ?_ ?_ ?_
  | refine Ev.mod ?_ ?_ ?_
  | refine Ev.fdiv ?_ ?_ ?_ ?_
  | refine Ev.tuple ?_
  | refine EvT.cEq ?_ ?_
  | refine EvT.cNe ?_ ?_
  | refine EvT.cLt ?_ ?_
  | refine EvT.cLe ?_ ?_
  | refine EvT.cGt ?_ ?_
  | refine EvT.cGe ?_ ?_
  | refine Ev.cEq ?_ ?_
  | refine Ev.cNe ?_ ?_
  | refine Ev.cLt ?_ ?_
  | refine Ev.isNoneT ?_
  | refine EvT.not ?_
  | refine Ev.not ?_
  | refine Ev.neg ?_
  | refine EvT.op ?_
  | exact EvA.andNil
  | exact EvA.orNil
  | exact Fx.Is.glo (by assumption) (by decide +kernel))

noncomputable def intsI (l : List Int) : List Dt := l.map .int
theorem intsI_len {l : List Int} : (intsI l).length = l.length := by simp [intsI]
theorem intsI_get {l : List Int} {i : Nat} {k : Int} (h : l[i]? = some k) : (intsI l)[i]? = some (.int k) := by simp [intsI, h]
theorem EvN.upto {F : Fx} {σ : List LV} {e u : Expr} {b : Nat} {ds : List Dt} {p pos : Pos} (h : Ev F σ e (.lst ds)) (hu : Ev F σ u (.int (b : Nat))) (hz : ds.length ≤ sizeLine) :
    EvN F σ (.Subscript e (.Slice none (some u) none p) pos) true (ds.take b) := by
  intro O c s Q g v q
  refine Subscript_ (h O c s _ g v fun x h₁ t₁ k₁ d₁ => wpAny_Slice (wpAny_evalPart_none (wpAny_evalPart_some (hu O c _ _ (g.mono k₁) (v.mono k₁) fun y h₂ t₂ k₂ d₂ => wpAny_evalPart_none ?_))))
  obtain ⟨a, vs, rfl, l, _, r⟩ := (d₁.mono k₂).lst_inv
  have hlen := r.length
  cases d₂
  rename_i u
  have kk : Sub s.heap h₂ := k₁.trans k₂
  dsimp only
  have l' : (h₂.push { cls := .type "slice", data := .fields #[.none, .int (b : Int) u, .none] }).IsList a vs.toArray := isList_sub l fun o e => Heap.get?_push_of_some _ e
  refine tail_any (s := { s with heap := h₂.push { cls := .type "slice", data := .fields #[.none, .int (b : Int) u, .none] }, toks := t₂ }) l'.typeIs slot_list_getitem.lookup (wpAny_getItem_list_slice l' (Heap.IsSliceOf.new ..) .none (.int (b : Int) u) .none (by simp) ?_ (by simpa [hlen] using hz)) rfl
  rw [slicePick_upto']
  refine q _ (vs.take b) _ t₂ ((kk.trans (Sub.push _ _)).trans (Sub.push _ _)) (size_fresh (kk.trans (Sub.push _ _))) ⟨0, Heap.get?_push_size _ rfl⟩ (DenAll.pushed (DenAll.take (r.mono (Sub.push _ _)) _))

/-! the script's numbers -/
noncomputable def drw (ys : List Int) : Nat → List Int × Int
  | 0 => ([], 3)
  | k + 1 =>
    let t := if k < ys.length then (ys.getD k 0).fmod 4099 else ((drw ys k).2 * 1029 + 6173 + (k : Nat)).fmod 4099
    ((drw ys k).1 ++ [t], t)
theorem drw_bd (ys : List Int) : ∀ k, (drw ys k).1.length = k ∧ 0 ≤ (drw ys k).2 ∧ (drw ys k).2 < 4099 ∧ ∀ x ∈ (drw ys k).1, 0 ≤ x ∧ x < 4099
  | 0 => ⟨rfl, show (0 : Int) ≤ 3 by decide, show (3 : Int) < 4099 by decide, fun x hx => nomatch hx⟩
  | k + 1 => by
    obtain ⟨h1, h2, h3, h4⟩ := drw_bd ys k
    have hf : ∀ x : Int, 0 ≤ x.fmod 4099 ∧ x.fmod 4099 < 4099 := fun x => ⟨Int.fmod_nonneg_of_pos x (by decide), Int.fmod_lt_of_pos x (by decide)⟩
    have ht : 0 ≤ (drw ys (k + 1)).2 ∧ (drw ys (k + 1)).2 < 4099 := by
      show 0 ≤ (if k < ys.length then (ys.getD k 0).fmod 4099 else ((drw ys k).2 * 1029 + 6173 + (k : Nat)).fmod 4099) ∧ _ < _
      split
      · rename_i hk
        show _ ∧ (if k < ys.length then (ys.getD k 0).fmod 4099 else ((drw ys k).2 * 1029 + 6173 + (k : Nat)).fmod 4099) < 4099
        rw [if_pos hk]; exact hf _
      · rename_i hk
        show _ ∧ (if k < ys.length then (ys.getD k 0).fmod 4099 else ((drw ys k).2 * 1029 + 6173 + (k : Nat)).fmod 4099) < 4099
        rw [if_neg hk]; exact hf _
    refine ⟨?_, ht.1, ht.2, fun x hx => ?_⟩
    · show ((drw ys k).1 ++ [(drw ys (k + 1)).2]).length = k + 1
      simp [h1]
    · have hx' : x ∈ (drw ys k).1 ++ [(drw ys (k + 1)).2] := hx
      rcases List.mem_append.mp hx' with q | q
      · exact h4 x q
      · have : x = (drw ys (k + 1)).2 := by simpa using q
        rw [this]; exact ht
theorem drawn_run {W : Wd} (R : Recs W) (xs : List Int) (hx : xs.length ≤ 64) : Fn W "_law_drawn" 1 [.lst (intsI xs)] (.lst (intsI (drw (xs.take 60) 60).1)) := by
  refine Fn.intro h__law_drawn R.law_drawn rfl fun env A s₀ O₀ S => ?_
  dsimp only [ini, List.map_cons, List.map_nil, List.cons_append, List.nil_append] at S ⊢
  have K := S.toGood
  have br : Bui ⟨W, env, A, ["script", "seeds", "found", "turn_of", "step"], 0⟩ "range" (.type "range") := S.bui (by decide +kernel) R.b_range (by decide +kernel) (by decide +kernel) (by decide +kernel)
  have bl : Bui ⟨W, env, A, ["script", "seeds", "found", "turn_of", "step"], 0⟩ "len" (.builtin "len") := S.bui (by decide +kernel) R.b_len (by decide +kernel) (by decide +kernel) (by decide +kernel)
  have hy : (xs.take 60).length ≤ 60 := by rw [List.length_take]; omega
  refine Tr.cons (Ts.assignCI (tgs := ["cell"]) (frs := []) (es := intsI (xs.take 60)) (σ' := [.fz (.lst (intsI xs)), .fz (.lst (intsI (xs.take 60))), .un, .un, .un]) S rfl (by dsimp only; decide +kernel) (fun M1 => ?_) (by k_memK) (fun s' J => ?_) (swp S fun _ _ _ _ _ _ _ _ => rfl))
  · refine EvC.list (frs := []) (fl := []) (xs := xs.take 60) (a := .int) (b := .int) K.toOk M1 (Ev.conv (EvN.ev (EvN.upto (b := 60) (ds := intsI xs) (Ev.var (by k_memK)) Ev.int (by rw [intsI_len]; exact size64 hx))) (by simp [intsI])) (size64 (by omega)) (fun x l a => by cases a) fun C y hy => ?_
    exact Ev.toInt (K.toOk.comp M1 C) (comp_bui (by decide +kernel) R.b_int (by decide +kernel) (by decide +kernel) (by decide +kernel)) (Ev.var (by k_memK))
  generalize xs.take 60 = ys at hy J ⊢
  refine Tr.cons (Ts.assignN (pl := true) (ds := []) (σ' := [.fz (.lst (intsI xs)), .fz (.lst (intsI ys)), .ow true [], .un, .un]) K (EvN.list EvL.nil) (by k_memK) (fun s' J => ?_) rfl) s' J
  refine Tr.cons (Ts.assign (d := .int 3) (σ' := [.fz (.lst (intsI xs)), .fz (.lst (intsI ys)), .ow true [], .fz (.int 3), .un]) K Ev.int (by k_memK) (fun s' J => ?_) rfl) s' J
  refine Tr.cons (Ts.forRange K br (n := 60) Ev.int (by omega) (fun i => [.fz (.lst (intsI xs)), .fz (.lst (intsI ys)), .ow true (intsI (drw ys i).1), .fz (.int (drw ys i).2), .un]) (fun i => [.fz (.lst (intsI xs)), .fz (.lst (intsI ys)), .ow true (intsI (drw ys i).1), .fz (.int (drw ys i).2), .fz (.int (i : Nat))]) .refl (fun i hi => ?_) (fun Z' i hi => ?_) fun s' J => ?_) s' J
  · exact Ta.name K (by k_memK)
  · obtain ⟨b1, b2, b3, b4⟩ := drw_bd ys i
    refine Tr.mid (σ' := [.fz (.lst (intsI xs)), .fz (.lst (intsI ys)), .ow true (intsI (drw ys i).1), .fz (.int (drw ys (i + 1)).2), .fz (.int (i : Nat))]) (Ts.ite (b := decide (((i : Nat) : Int) < ((intsI ys).length : Nat))) K ?_ (fun q => ?_) (fun q => ?_)) ?_
    · exact EvT.cLt (Ev.var (by k_memK)) (Ev.len K.toOk bl (Ev.var (by k_memK)) (by rw [intsI_len]; omega))
    · have hi' : i < ys.length := by rw [intsI_len] at q; simpa using q
      have e : (drw ys (i + 1)).2 = (ys.getD i 0).fmod 4099 := by
        show (if i < ys.length then (ys.getD i 0).fmod 4099 else _) = _
        rw [if_pos hi']
      rw [e]
      refine Tr.cons (Ts.assign (d := .int ((ys.getD i 0).fmod 4099)) K (Ev.mod (Ev.idx (ds := intsI ys) (Ev.var (by k_memK)) (Ev.var (by k_memK)) (by omega) (by omega) ?_) Ev.int (by decide)) (by k_memK) (fun s' J => ?_) rfl)
      · rw [Int.toNat_natCast]
        refine intsI_get ?_
        rw [List.getD_eq_getElem?_getD, List.getElem?_eq_getElem hi']; rfl
      · exact Tr.nx .refl K s' J
    · have hi' : ¬ i < ys.length := by rw [intsI_len] at q; simpa using q
      have e : (drw ys (i + 1)).2 = ((drw ys i).2 * 1029 + 6173 + (i : Nat)).fmod 4099 := by
        show (if i < ys.length then _ else ((drw ys i).2 * 1029 + 6173 + (i : Nat)).fmod 4099) = _
        rw [if_neg hi']
      rw [e]
      refine Tr.cons (Ts.assign (d := .int (((drw ys i).2 * 1029 + 6173 + (i : Nat)).fmod 4099)) K (Ev.mod (Ev.add (Ev.add (Ev.mul (Ev.var (by k_memK)) Ev.int ?_) Ev.int) (Ev.var (by k_memK))) Ev.int (by decide)) (by k_memK) (fun s' J => ?_) rfl)
      · exact mulOk (B := 13) (C := 11) (by omega) (by decide) (by decide)
      · exact Tr.nx .refl K s' J
    · refine Tr.cons (Ts.append (d := .int (drw ys (i + 1)).2) (ds := intsI (drw ys i).1) K (by k_memK) (Ev.var (by k_memK)) (by k_memK) (by rw [intsI_len, b1]; omega) (fun s' J => ?_) ⟨rfl, trivial⟩ (hi := S.inter))
      refine Tr.lp (.same rfl (.same rfl (.same ?_ (.same rfl (.un .nil))))) K s' J
      show _ = LV.ow true (intsI ((drw ys i).1 ++ [(drw ys (i + 1)).2]))
      simp [intsI]
  · refine Tr.weak K (σ' := [.un, .un, .fz (.lst (intsI (drw ys 60).1)), .un, .un]) (.un (.un (.fr rfl (.un (.un .nil))))) ?_ s' J
    refine Tr.cons (Ts.ret K (Ev.var (by k_memK)) fun v h' tk k d => ?_)
    exact ⟨h', tk, rfl, k, d⟩

end Mine
end
section
open PySem PySem.W PyProof.Rows PySem.Calls PySem.Spec
set_option Elab.async false
set_option maxRecDepth 100000
set_option linter.unusedVariables false
namespace Mine
local macro_rules | `(tactic| k_memK) => `(tactic| first | exact At.hd (by with_reducible rfl) | exact Put.hd (by with_reducible rfl) | (refine At.tail ?_; k_memK) | (apply Put.tail; k_memK))
local macro_rules | `(tactic| kqd_in) => `(tactic| first
  | assumption
  | k_memK
  | exact Ev.int
  | exact Ev.noneC
  | exact Ev.boolC
  | refine Ev.var ?_
  | exact EvL.nil
  | refine EvL.cons ?_ ?_
  | refine Ev.num ?_
  | refine Ev.den ?_
  | apply Ev.qIsNone
  | apply EvT.qIsNone
  | refine Ev.add ?_ ?_
  | refine Ev.sub ?_ ?_
  | refine Ev.mul ?_ ?_ ?_
  | refine Ev.mod ?_ ?_ ?_
  | refine Ev.fdiv ?_ ?_ ?_ ?_
  | refine Ev.tuple ?_
  | refine EvT.cEq ?_ ?_
  | refine EvT.cNe ?_ ?_
  | refine EvT.cLt ?_ ?_
  | refine EvT.cLe ?_ ?_
  | refine EvT.cGt ?_ ?_
  | refine EvT.cGe ?_ ?_
  | refine Ev.cEq ?_ ?_
  | refine Ev.cNe ?_ ?_
  | refine Ev.cLt ?_ ?_
  | refine Ev.isNoneT ?_
  | refine EvT.not ?_
  | refine Ev.not ?_
  | refine Ev.neg ?_
  | refine EvT.op ?_
  | exact EvA.andNil
  | exact EvA.orNil
  | exact Fx.Is.glo (by assumption) (by decide +kernel))

/-! grids of halves -/
noncomputable def halfM (H : Nat → Nat → Int) : Mx := fun i j => Rat.divInt (H i j) 2
noncomputable def gridH (fs : List Int) (w : Nat) : Nat → Nat → Int := fun i j => (fs.getD (i * w + j) 0).fmod 11 - 5
theorem gridH_bd (fs : List Int) (w i j : Nat) : -5 ≤ gridH fs w i j ∧ gridH fs w i j ≤ 5 := by
  have h1 := Int.fmod_nonneg_of_pos (fs.getD (i * w + j) 0) (b := 11) (by decide)
  have h2 := Int.fmod_lt_of_pos (fs.getD (i * w + j) 0) (b := 11) (by decide)
  unfold gridH
  omega
theorem half_bd {H : Nat → Nat → Int} {i j : Nat} (h : -5 ≤ H i j ∧ H i j ≤ 5) : Bq 3 (halfM H i j) := divInt_bd (by decide) (by omega) (by decide)
theorem enc_half (x : Int) : encQ (Rat.divInt x 2) = if (x.fmod 2 == 0) = true then .tup [.int (x.fdiv 2), .int 1] else .tup [.int x, .int 2] := by
  rw [enc_divInt (by decide)]
  have e2 : x.fmod 2 = x % 2 := Int.fmod_eq_emod_of_nonneg _ (by decide)
  rw [e2]
  by_cases h : x % 2 = 0
  · have hg : Nat.gcd x.natAbs (Int.natAbs 2) = 2 := by
      have : 2 ∣ x.natAbs := by omega
      exact Nat.gcd_eq_right this
    rw [hg, if_pos (by simp [h])]
    rfl
  · have hg : Nat.gcd x.natAbs (Int.natAbs 2) = 1 := by
      show Nat.gcd x.natAbs 2 = 1
      rw [Nat.gcd_comm, Nat.gcd_rec]
      have : x.natAbs % 2 = 1 := by omega
      rw [this]; rfl
    rw [hg, if_neg (by simp [h])]
    have a1 : x.fdiv ((1 : Nat) : Int) = x := by rw [Int.fdiv_eq_ediv_of_nonneg _ (by decide)]; simp
    rw [a1]
    rfl
theorem grid_run {W : Wd} (R : Recs W) (fs : List Int) (h w : Nat) (hh : h ≤ 8) (hw : w ≤ 8) (hf : h * w ≤ fs.length) (hfl : fs.length ≤ 64) : FnN W "_law_grid" 1 [.lst (intsI fs), .int (h : Nat), .int (w : Nat)] true (mxD h w (halfM (gridH fs w))) := by
  refine FnN.intro h__law_grid R.law_grid rfl fun env A s₀ O₀ S => ?_
  dsimp only [ini, List.map_cons, List.map_nil, List.cons_append, List.nil_append] at S ⊢
  have K := S.toGood
  have br : Bui ⟨W, env, A, ["found", "high", "wide", "grid", "spot", "_", "line", "half"], 0⟩ "range" (.type "range") := S.bui (by decide +kernel) R.b_range (by decide +kernel) (by decide +kernel) (by decide +kernel)
  refine Tr.cons (Ts.assignN (pl := true) (ds := []) (σ' := [.fz (.lst (intsI fs)), .fz (.int (h : Nat)), .fz (.int (w : Nat)), .ow true [], .un, .un, .un, .un]) K (EvN.list EvL.nil) (by k_memK) (fun s' J => ?_) rfl)
  refine Tr.cons (Ts.assign (d := .int 0) (σ' := [.fz (.lst (intsI fs)), .fz (.int (h : Nat)), .fz (.int (w : Nat)), .ow true [], .fz (.int 0), .un, .un, .un]) K Ev.int (by k_memK) (fun s' J => ?_) rfl) s' J
  refine Tr.cons (Ts.forRange K br (n := h) (Ev.var (by k_memK)) (by omega) (fun i => [.fz (.lst (intsI fs)), .fz (.int (h : Nat)), .fz (.int (w : Nat)), .ow true (mxD i w (halfM (gridH fs w))), .fz (.int ((i * w : Nat) : Int)), .un, .un, .un]) (fun i => [.fz (.lst (intsI fs)), .fz (.int (h : Nat)), .fz (.int (w : Nat)), .ow true (mxD i w (halfM (gridH fs w))), .fz (.int ((i * w : Nat) : Int)), .fz (.int (i : Nat)), .un, .un]) (.same rfl (.same rfl (.same rfl (.same (by rfl) (.same (by simp) .refl))))) (fun i hi => ?_) (fun Z' i hi => ?_) fun s' J => ?_) s' J
  · exact Ta.name K (by k_memK)
  · refine Tr.cons (Ts.assignN (pl := true) (ds := []) (σ' := [.fz (.lst (intsI fs)), .fz (.int (h : Nat)), .fz (.int (w : Nat)), .ow true (mxD i w (halfM (gridH fs w))), .fz (.int ((i * w : Nat) : Int)), .fz (.int (i : Nat)), .ow true [], .un]) K (EvN.list EvL.nil) (by k_memK) (fun s' J => ?_) rfl)
    refine Tr.cons (Ts.forRange K br (n := w) (Ev.var (by k_memK)) (by omega) (fun j => [.fz (.lst (intsI fs)), .fz (.int (h : Nat)), .fz (.int (w : Nat)), .ow true (mxD i w (halfM (gridH fs w))), .fz (.int ((i * w + j : Nat) : Int)), .un, .ow true (rowD j (halfM (gridH fs w) i)), .un]) (fun j => [.fz (.lst (intsI fs)), .fz (.int (h : Nat)), .fz (.int (w : Nat)), .ow true (mxD i w (halfM (gridH fs w))), .fz (.int ((i * w + j : Nat) : Int)), .fz (.int (j : Nat)), .ow true (rowD j (halfM (gridH fs w) i)), .un]) (.same rfl (.same rfl (.same rfl (.same rfl (.same rfl (.un (.same (by rfl) .refl))))))) (fun j hj => ?_) (fun Z' j hj => ?_) fun s' J => ?_) s' J
    · exact Ta.name K (by k_memK)
    · have hlt : i * w + j < fs.length := by
        have : i * w + w ≤ h * w := by rw [← Nat.succ_mul]; exact Nat.mul_le_mul_right _ hi
        omega
      refine Tr.cons (Ts.assign (d := .int (gridH fs w i j)) (σ' := [.fz (.lst (intsI fs)), .fz (.int (h : Nat)), .fz (.int (w : Nat)), .ow true (mxD i w (halfM (gridH fs w))), .fz (.int ((i * w + j : Nat) : Int)), .fz (.int (j : Nat)), .ow true (rowD j (halfM (gridH fs w) i)), .fz (.int (gridH fs w i j))]) K (Ev.sub (Ev.mod (Ev.idx (ds := intsI fs) (Ev.var (by k_memK)) (Ev.var (by k_memK)) (by omega) (by omega) ?_) Ev.int (by decide)) Ev.int) (by k_memK) (fun s' J => ?_) rfl)
      · rw [Int.toNat_natCast]
        refine intsI_get ?_
        rw [List.getD_eq_getElem?_getD, List.getElem?_eq_getElem hlt]; rfl
      refine Tr.cons (Ts.append (d := encQ (halfM (gridH fs w) i j)) (ds := rowD j (halfM (gridH fs w) i)) K (by k_memK) ?_ (by k_memK) (by rw [rowD_len]; omega) (fun s' J => ?_) ⟨rfl, trivial⟩ (hi := S.inter)) s' J
      · show Ev _ _ _ (encQ (Rat.divInt (gridH fs w i j) 2))
        rw [enc_half]
        refine Ev.ifexp (b := ((gridH fs w i j).fmod 2 == 0)) (EvT.cEq (Ev.mod (Ev.var (by k_memK)) Ev.int (by decide)) Ev.int) (fun q => ?_) fun q => ?_
        · rw [if_pos q]
          exact Ev.tuple (EvL.cons (Ev.fdiv K.toOk (Ev.var (by k_memK)) Ev.int (by decide)) (EvL.cons Ev.int EvL.nil))
        · rw [if_neg (by rw [q]; decide)]
          exact Ev.tuple (EvL.cons (Ev.var (by k_memK)) (EvL.cons Ev.int EvL.nil))
      refine Tr.cons (Ts.aug (a := ((i * w + j : Nat) : Int)) (b := 1) K (by k_memK) Ev.int (by k_memK) (fun s' J => ?_)) s' J
      exact Tr.lp (.same rfl (.same rfl (.same rfl (.same rfl (.same (by congr 2) (.un (.same (congrArg (LV.ow true) rng_snoc) (.un .nil)))))))) K s' J
    · refine Tr.weak K (σ' := [.fz (.lst (intsI fs)), .fz (.int (h : Nat)), .fz (.int (w : Nat)), .ow true (mxD i w (halfM (gridH fs w))), .fz (.int ((i * w + w : Nat) : Int)), .un, .fz (rw_ w (halfM (gridH fs w) i)), .un]) (.same rfl (.same rfl (.same rfl (.same rfl (.same rfl (.un (.fr rfl .refl))))))) ?_ s' J
      refine Tr.cons (Ts.append (d := rw_ w (halfM (gridH fs w) i)) (ds := mxD i w (halfM (gridH fs w))) K (by k_memK) (Ev.var (by k_memK)) (by k_memK) (by rw [mxD_len]; omega) (fun s' J => ?_) ⟨rfl, trivial⟩ (hi := S.inter))
      exact Tr.lp (.same rfl (.same rfl (.same rfl (.same (congrArg (LV.ow true) rng_snoc) (.same (by rw [Nat.succ_mul]) (.un (.un (.un .nil)))))))) K s' J
  · refine Tr.cons (Ts.retO (pl := true) (ds := mxD h w (halfM (gridH fs w))) K (by k_memK) fun a vs h' tk k n l d => ?_) s' J
    exact ⟨h', tk, rfl, k, a, vs, rfl, n, l, d⟩

end Mine
end
section
open PySem PySem.W PyProof.Rows PySem.Calls PySem.Spec
set_option Elab.async false
set_option maxRecDepth 100000
set_option linter.unusedVariables false
namespace Mine
local macro_rules | `(tactic| k_memK) => `(tactic| first | exact At.hd (by with_reducible rfl) | exact Put.hd (by with_reducible rfl) | (refine At.tail ?_; k_memK) | (apply Put.tail; k_memK))
local macro_rules | `(tactic| kqd_in) => `(tactic| first
  | assumption
  | k_memK
  | exact Ev.int
  | exact Ev.noneC
  | exact Ev.boolC
  | refine Ev.var ?_
  | exact EvL.nil
  | refine EvL.cons ?_ ?_
  | refine Ev.num ?_
  | refine Ev.den ?_
  | apply Ev.qIsNone
  | apply EvT.qIsNone
  | refine Ev.add ?_ ?_
  | refine Ev.sub ?_ ?_
  | refine Ev.mul ?_ ?_ ?_
  | refine Ev.mod ?_ ?_ ?_
  | refine Ev.fdiv ?_ ?_ ?_ ?_
  | refine Ev.tuple ?_
  | refine EvT.cEq ?_ ?_
  | refine EvT.cNe ?_ ?_
  | refine EvT.cLt ?_ ?_
  | refine EvT.cLe ?_ ?_
  | refine EvT.cGt ?_ ?_
  | refine EvT.cGe ?_ ?_
  | refine Ev.cEq ?_ ?_
  | refine Ev.cNe ?_ ?_
  | refine Ev.cLt ?_ ?_
  | refine Ev.isNoneT ?_
  | refine EvT.not ?_
  | refine Ev.not ?_
  | refine Ev.neg ?_
  | refine EvT.op ?_
  | exact EvA.andNil
  | exact EvA.orNil
  | exact Fx.Is.glo (by assumption) (by decide +kernel))

noncomputable def imx (h w : Nat) (H : Nat → Nat → Int) : Dt := .lst (rng h fun i => .lst (rng w fun j => .int (H i j)))
theorem Ev.imx {F : Fx} {σ : List LV} {l i j : Expr} {h w a b : Nat} {H : Nat → Nat → Int} {p q : Pos} (hl : Ev F σ l (imx h w H)) (hi : Ev F σ i (.int (a : Nat))) (hj : Ev F σ j (.int (b : Nat))) (ha : a < h) (hb : b < w) (hh : h ≤ 64) (hw : w ≤ 64)
    (h1 : Idx i := by intro _ _; with_unfolding_all rfl) (h2 : Idx j := by intro _ _; with_unfolding_all rfl) : Ev F σ (.Subscript (.Subscript l i p) j q) (.int (H a b)) :=
  Ev.idx (Ev.idx hl hi (by omega) (by omega) (by rw [Int.toNat_natCast]; exact rng_get ha) h1) hj (by omega) (by omega) (by rw [Int.toNat_natCast]; exact rng_get hb) h2
noncomputable def detT (H : Nat → Nat → Int) (s : Nat) : Int := H 0 s * (H 1 ((s + 1) % 3) * H 2 ((s + 2) % 3) - H 1 ((s + 2) % 3) * H 2 ((s + 1) % 3))
noncomputable def detS (H : Nat → Nat → Int) : Nat → Int
  | 0 => 0
  | k + 1 => detS H k + detT H k
noncomputable def sing (n : Nat) (H : Nat → Nat → Int) : Bool := if n = 1 then H 0 0 == 0 else if n = 2 then H 0 0 * H 1 1 == H 0 1 * H 1 0 else detS H 3 == 0
theorem fdiv_half (x : Int) : (2 * (Rat.divInt x 2).num).fdiv ((Rat.divInt x 2).den : Int) = x := by
  have hd : ((Rat.divInt x 2).den : Int) ≠ 0 := den0 _
  have e : (Rat.divInt x 2).num * 2 = x * (Rat.divInt x 2).den := by
    have := Rat.num_divInt_den (Rat.divInt x 2)
    exact (Rat.divInt_eq_divInt_iff hd (by decide)).mp this
  rw [Int.mul_comm, e, Int.mul_comm]
  exact Int.mul_fdiv_cancel_left _ hd
theorem half_zero (x : Int) : ((Rat.divInt x 2).num == 0) = (x == 0) := by
  have hd : ((Rat.divInt x 2).den : Int) ≠ 0 := den0 _
  have e : (Rat.divInt x 2).num * 2 = x * (Rat.divInt x 2).den := by
    have := Rat.num_divInt_den (Rat.divInt x 2)
    exact (Rat.divInt_eq_divInt_iff hd (by decide)).mp this
  by_cases h : x = 0
  · subst h; rfl
  · have : (Rat.divInt x 2).num ≠ 0 := by
      intro z
      rw [z, Int.zero_mul] at e
      rcases Int.mul_eq_zero.mp e.symm with q | q
      · exact h q
      · exact hd q
    rw [beq_eq_false_iff_ne.mpr this, beq_eq_false_iff_ne.mpr h]
theorem singular_run {W : Wd} (R : Recs W) (n : Nat) (H : Nat → Nat → Int) (h0 : 0 < n) (hn : n ≤ 3) (hH : ∀ i j, i < n → j < n → -5 ≤ H i j ∧ H i j ≤ 5) : Fn W "_law_singular" 1 [mx n n (halfM H)] (.bool (sing n H)) := by
  refine Fn.intro h__law_singular R.law_singular rfl fun env A s₀ O₀ S => ?_
  dsimp only [ini, List.map_cons, List.map_nil, List.cons_append, List.nil_append] at S ⊢
  have K := S.toGood
  have br : Bui ⟨W, env, A, ["grid", "doubled", "total", "spot", "after", "behind"], 0⟩ "range" (.type "range") := S.bui (by decide +kernel) R.b_range (by decide +kernel) (by decide +kernel) (by decide +kernel)
  have bl : Bui ⟨W, env, A, ["grid", "doubled", "total", "spot", "after", "behind"], 0⟩ "len" (.builtin "len") := S.bui (by decide +kernel) R.b_len (by decide +kernel) (by decide +kernel) (by decide +kernel)
  have mul5 : ∀ {a b : Int}, (-5 ≤ a ∧ a ≤ 5) → (-60 ≤ b ∧ b ≤ 60) → IntMulOk a b := fun ha hb => mulOk (B := 3) (C := 6) (by omega) (by omega) (by decide)
  refine Tr.cons (Ts.ite (b := (((n : Nat) : Int) == 1)) K (EvT.cEq (Ev.lenM K.toOk bl (Ev.var (by k_memK)) (by omega)) Ev.int) (fun q => ?_) (fun q => Tr.next ?_))
  · have hn1 : n = 1 := by have z : ((n : Nat) : Int) = 1 := by simpa using q
                           omega
    subst hn1
    refine Tr.cons (Ts.ret (d := .bool ((halfM H 0 0).num == 0)) K (Ev.cEq (Ev.num (Ev.rwI (k := 0) (w := 1) (f := halfM H 0) (Ev.mxI (k := 0) (h := 1) (M := halfM H) (Ev.var (by k_memK)) Ev.int (by decide) (by decide)) Ev.int (by decide) (by decide))) Ev.int) fun v h' tk k d => ?_)
    have e : ((halfM H 0 0).num == 0) = sing 1 H := half_zero _
    rw [e] at d
    exact ⟨h', tk, rfl, k, d⟩
  have hn1 : n ≠ 1 := by intro e; subst e; simp at q
  refine Tr.cons (Ts.assignCI (tgs := ["line"]) (frs := []) (es := rng n fun i => .lst (rng n fun j => .int (H i j))) (σ' := [.fz (mx n n (halfM H)), .fz (imx n n H), .un, .un, .un, .un]) S rfl (by dsimp only; decide +kernel) (fun M1 => ?_) (by k_memK) (fun s' J => ?_) (swp S fun _ _ _ _ _ _ _ _ => rfl))
  · refine EvC.list (frs := []) (fl := []) (xs := List.range n) (a := fun i => rw_ n (halfM H i)) (b := fun i => .lst (rng n fun j => .int (H i j))) K.toOk M1 (Ev.var (by k_memK)) (by simpa using size64 (by omega)) (fun x l a => by cases a) fun C y hy => ?_
    refine EvN.ev (pl := true) (EvN.comp (Cmp.plain (tgs := ["over", "under"]) rfl (by decide +kernel)) ?_)
    refine EvC.pair (frs := []) (fl := []) (xs := List.range n) (a₁ := fun j => .int (halfM H y j).num) (a₂ := fun j => .int ((halfM H y j).den : Nat)) (b := fun j => .int (H y j)) (K.toOk.comp M1 C) (Cmp.plain (tgs := ["over", "under"]) rfl (by decide +kernel)) (Ev.var (by k_memK)) (by simpa using size64 (by omega)) (fun x l a => by cases a) fun C' z hz => ?_
    have hy' := hH y z (List.mem_range.mp hy) (List.mem_range.mp hz)
    have hb := (half_bd hy').n
    refine Ev.conv (Ev.fdiv ((K.toOk.comp M1 C).comp (Cmp.plain (F := Fx.comp _ _ _ C _) (tgs := ["over", "under"]) rfl (by decide +kernel)) C') (Ev.mul (a := 2) (b := (halfM H y z).num) Ev.int (Ev.var (by k_memK)) ?_) (Ev.var (by k_memK)) (den0 _)) ?_
    · exact mulOk (B := 2) (C := 3) (by decide) hb (by decide)
    · exact congrArg Dt.int (fdiv_half (H y z))
  refine Tr.cons (Ts.ite (b := (((n : Nat) : Int) == 2)) K (EvT.cEq (Ev.lenM K.toOk bl (Ev.var (by k_memK)) (by omega)) Ev.int) (fun q => ?_) (fun q => Tr.next ?_)) s' J
  · have hn2 : n = 2 := by have z : ((n : Nat) : Int) = 2 := by simpa using q
                           omega
    subst hn2
    have b5 : ∀ i j, i < 2 → j < 2 → -60 ≤ H i j ∧ H i j ≤ 60 := fun i j hi hj => by have := hH i j hi hj; omega
    refine Tr.cons (Ts.ret (d := .bool (H 0 0 * H 1 1 == H 0 1 * H 1 0)) K (Ev.cEq (Ev.mul (Ev.imx (a := 0) (b := 0) (h := 2) (w := 2) (H := H) (Ev.var (by k_memK)) Ev.int Ev.int (by decide) (by decide) (by decide) (by decide)) (Ev.imx (a := 1) (b := 1) (h := 2) (w := 2) (H := H) (Ev.var (by k_memK)) Ev.int Ev.int (by decide) (by decide) (by decide) (by decide)) (mul5 (hH 0 0 (by decide) (by decide)) (b5 1 1 (by decide) (by decide))))
      (Ev.mul (Ev.imx (a := 0) (b := 1) (h := 2) (w := 2) (H := H) (Ev.var (by k_memK)) Ev.int Ev.int (by decide) (by decide) (by decide) (by decide)) (Ev.imx (a := 1) (b := 0) (h := 2) (w := 2) (H := H) (Ev.var (by k_memK)) Ev.int Ev.int (by decide) (by decide) (by decide) (by decide)) (mul5 (hH 0 1 (by decide) (by decide)) (b5 1 0 (by decide) (by decide))))) fun v h' tk k d => ?_)
    exact ⟨h', tk, rfl, k, d⟩
  have hn3 : n = 3 := by
    have : n ≠ 2 := by intro e; subst e; simp at q
    omega
  subst hn3
  refine Tr.cons (Ts.assign (d := .int 0) (σ' := [.fz (mx 3 3 (halfM H)), .fz (imx 3 3 H), .fz (.int 0), .un, .un, .un]) K Ev.int (by k_memK) (fun s' J => ?_) rfl)
  refine Tr.cons (Ts.forRange K br (n := 3) Ev.int (by omega) (fun k => [.fz (mx 3 3 (halfM H)), .fz (imx 3 3 H), .fz (.int (detS H k)), .un, .un, .un]) (fun k => [.fz (mx 3 3 (halfM H)), .fz (imx 3 3 H), .fz (.int (detS H k)), .fz (.int (k : Nat)), .un, .un]) .refl (fun i hi => ?_) (fun Z' k hk => ?_) fun s' J => ?_) s' J
  · exact Ta.name K (by k_memK)
  · have m1 : (k + 1) % 3 < 3 := Nat.mod_lt _ (by decide)
    have m2 : (k + 2) % 3 < 3 := Nat.mod_lt _ (by decide)
    refine Tr.cons (Ts.assign (d := .int (((k + 1) % 3 : Nat) : Int)) (σ' := [.fz (mx 3 3 (halfM H)), .fz (imx 3 3 H), .fz (.int (detS H k)), .fz (.int (k : Nat)), .fz (.int (((k + 1) % 3 : Nat) : Int)), .un]) K (Ev.conv (Ev.mod (Ev.add (Ev.var (by k_memK)) Ev.int) Ev.int (by decide)) ?_) (by k_memK) (fun s' J => ?_) rfl)
    · congr 1
    refine Tr.cons (Ts.assign (d := .int (((k + 2) % 3 : Nat) : Int)) (σ' := [.fz (mx 3 3 (halfM H)), .fz (imx 3 3 H), .fz (.int (detS H k)), .fz (.int (k : Nat)), .fz (.int (((k + 1) % 3 : Nat) : Int)), .fz (.int (((k + 2) % 3 : Nat) : Int))]) K (Ev.conv (Ev.mod (Ev.add (Ev.var (by k_memK)) Ev.int) Ev.int (by decide)) ?_) (by k_memK) (fun s' J => ?_) rfl) s' J
    · congr 1
    have x1 := hH 1 ((k + 1) % 3) (by decide) m1
    have x2 := hH 2 ((k + 2) % 3) (by decide) m2
    have x3 := hH 1 ((k + 2) % 3) (by decide) m2
    have x4 := hH 2 ((k + 1) % 3) (by decide) m1
    have p25 : ∀ {a b : Int}, (-5 ≤ a ∧ a ≤ 5) → (-5 ≤ b ∧ b ≤ 5) → -25 ≤ a * b ∧ a * b ≤ 25 := by
      intro a b ha hb
      have h1 : (a * b).natAbs ≤ 25 := by
        rw [Int.natAbs_mul]
        exact Nat.mul_le_mul (show a.natAbs ≤ 5 by omega) (show b.natAbs ≤ 5 by omega)
      omega
    have y1 := p25 x1 x2
    have y2 := p25 x3 x4
    refine Tr.cons (Ts.aug (a := detS H k) (b := detT H k) K (by k_memK) ?_ (by k_memK) (fun s' J => ?_)) s' J
    · refine Ev.mul (Ev.imx (a := 0) (b := k) (h := 3) (w := 3) (H := H) (Ev.var (by k_memK)) Ev.int (Ev.var (by k_memK)) (by decide) hk (by decide) (by decide)) (Ev.sub (Ev.mul (Ev.imx (a := 1) (b := (k + 1) % 3) (h := 3) (w := 3) (H := H) (Ev.var (by k_memK)) Ev.int (Ev.var (by k_memK)) (by decide) m1 (by decide) (by decide)) (Ev.imx (a := 2) (b := (k + 2) % 3) (h := 3) (w := 3) (H := H) (Ev.var (by k_memK)) Ev.int (Ev.var (by k_memK)) (by decide) m2 (by decide) (by decide)) ?_) (Ev.mul (Ev.imx (a := 1) (b := (k + 2) % 3) (h := 3) (w := 3) (H := H) (Ev.var (by k_memK)) Ev.int (Ev.var (by k_memK)) (by decide) m2 (by decide) (by decide)) (Ev.imx (a := 2) (b := (k + 1) % 3) (h := 3) (w := 3) (H := H) (Ev.var (by k_memK)) Ev.int (Ev.var (by k_memK)) (by decide) m1 (by decide) (by decide)) ?_)) ?_
      · exact mul5 x1 (by omega)
      · exact mul5 x3 (by omega)
      · exact mul5 (hH 0 k (by decide) hk) (by omega)
    · exact Tr.lp (.same rfl (.same rfl (.same rfl (.un (.un (.un .nil)))))) K s' J
  · refine Tr.cons (Ts.ret (d := .bool (detS H 3 == 0)) K (Ev.cEq (Ev.var (by k_memK)) Ev.int) fun v h' tk k d => ?_) s' J
    exact ⟨h', tk, rfl, k, d⟩

end Mine
end
section
open PySem PySem.W PyProof.Rows PySem.Calls PySem.Spec
open Builtin Builtin.ObjectAttr
set_option Elab.async false
set_option maxRecDepth 100000
set_option linter.unusedVariables false
namespace Mine
/-! the text's own exception class -/
noncomputable abbrev bmE : List Value := [.type "Exception", .type "BaseException", .type "object"]
noncomputable def ownNames : List Str := ["__init__", "__setattr__", "message", "__getattribute__", "__getattr__"]
noncomputable def pickC (k : Nat) : DefRec := match PySem.Challenge.pw_ov0056_01.main.body[k]? with
  | some (.ClassDef _ _ _ (st :: _) _ _ _ _ _ _ _) => pickS st
  | _ => noRec
noncomputable def r_init : DefRec := pickC 2
theorem r_init_body : ∃ p1 p2 p3 p4, r_init.body = [.Assign [.Attribute (.Name "self" p1) "message" p2] (.Name "message" p3) p4] := ⟨_, _, _, _, rfl⟩
structure RC (C CE N fI : Addr) (h : Heap) : Prop where
  cls : ∃ nm q bs sn sub ab col dd k0 k1 k2 k3 k5, h.get? C = some (excClassObj nm q C N bs (.ref CE :: bmE) true sn sub ab col dd k0 k1 k2 k3 k5 "Exception.__new__")
  ns : ∃ mN, h.Ns N mN ∧ mN "__init__" = some (.ref fI) ∧ ∀ n ∈ ownNames.tail, mN n = none
  up : ∃ c0 dd cd sl mE, h.get? CE = some { cls := c0, dict := dd, data := .cls cd, slots := sl } ∧ h.Ns cd.ns mE ∧ ∀ n ∈ ownNames, mE n = none
  fn : ∃ o doc pm an cd ct, h.get? fI = some o ∧ o.cls = .type "function" ∧ o.data = .func (fnOf "__init__" "Refusal.__init__" r_init.params r_init.body r_init.scope .none .none doc pm an cd ct) ∧ h.CodeRec cd "Refusal.__init__"
theorem RC.keeps {C CE N fI : Addr} {h h' : Heap} (X : RC C CE N fI h) (k : Sub h h') : RC C CE N fI h' := by
  obtain ⟨⟨nm, q, bs, sn, sub, ab, col, dd, k0, k1, k2, k3, k5, hC⟩, ⟨mN, hN, hi, hn⟩, ⟨c0, dd2, cd, sl, mE, hE, hNE, hne⟩, ⟨o, doc, pm, an, cd2, ct, hf, hc, hd, hcd⟩⟩ := X
  exact ⟨⟨nm, q, bs, sn, sub, ab, col, dd, k0, k1, k2, k3, k5, k _ _ hC⟩, ⟨mN, hN.keeps k, hi, hn⟩, ⟨c0, dd2, cd, sl, mE, k _ _ hE, hNE.keeps k, hne⟩, ⟨o, doc, pm, an, cd2, ct, k _ _ hf, hc, hd, hcd.keeps k⟩⟩

section
variable {prog : Program} {w : World} {M : Model} {A : Around} {E : Value → Shared → Prop} {h : Heap} {g : Array GenState} {d : Drawn} {t : Nat} {os : OsState} {C CE N fI e : Addr}
theorem tl_none {n : Str} {y : Option Value} {Q : Option Value → Shared → Prop} (X : RC C CE N fI h) (hn : n ∈ ownNames.tail) (hB : typeLookup (.type "Exception") n = pure y) (hq : Q y ⟨h, g, d, t, os⟩) : wpAny M A (typeLookup (.ref C) n) Q E ⟨h, g, d, t, os⟩ := by
  obtain ⟨⟨nm, q, bs, sn, sub, ab, col, dd, k0, k1, k2, k3, k5, hC⟩, ⟨mN, hN, hi, hnn⟩, ⟨c0, dd2, cd, sl, mE, hE, hNE, hne⟩, _⟩ := X
  have hrest : lookupAlong bmE n = pure y := by rw [typeLookup_eq, PySem.F.excBase_Exception.mroIs] at hB; exact hB
  rw [typeLookup_eq]
  refine wpAny_bind (wpAny_mroOf_exc hC ?_)
  rw [lookupAlong_cons]
  refine wpAny_bind (wpAny_classOwn_exc hC hN ?_)
  rw [hnn n hn]
  show wpAny M A (lookupAlong (.ref CE :: bmE) n) _ _ _
  rw [lookupAlong_cons]
  refine wpAny_bind (wpAny_classOwn_cls hE hNE ?_)
  rw [hne n (List.mem_of_mem_tail hn)]
  show wpAny M A (lookupAlong bmE n) _ _ _
  rw [hrest]
  exact wpAny_pure hq
theorem tl_init {Q : Option Value → Shared → Prop} (X : RC C CE N fI h) (hq : Q (some (.ref fI)) ⟨h, g, d, t, os⟩) : wpAny M A (typeLookup (.ref C) "__init__") Q E ⟨h, g, d, t, os⟩ := by
  obtain ⟨⟨nm, q, bs, sn, sub, ab, col, dd, k0, k1, k2, k3, k5, hC⟩, ⟨mN, hN, hi, hnn⟩, _, _⟩ := X
  rw [typeLookup_eq]
  refine wpAny_bind (wpAny_mroOf_exc hC ?_)
  rw [lookupAlong_cons]
  refine wpAny_bind (wpAny_classOwn_exc hC hN ?_)
  rw [hi]
  exact wpAny_pure hq
theorem X_tail (X : RC C CE N fI h) : OwnTail h bmE (.ref CE :: bmE) := by
  obtain ⟨_, _, ⟨c0, dd2, cd, sl, mE, hE, hNE, hne⟩, _⟩ := X
  exact .own hE hNE (hne _ (.head _)) .base

theorem type_call_R {rest : List Value} {Q : Fin → Shared → Prop} (X : RC C CE N fI h)
    (hq : ∀ h' e, Heap.MadeExcOf h h' e (.ref C) rest → wpAny (model prog w) A (call (.ref fI) (.ref e :: rest)) (fun r s' => r = .none ∧ Q (.done (.ret (.ref e))) s') E ⟨h', g, d, t, os⟩) (hrest : rest.length ≤ sizeLine) :
    wpAny (model prog w) A (Builtin.«type.__call__» ⟨.ref C :: rest, []⟩) Q E ⟨h, g, d, t, os⟩ := by
  have T := X_tail X
  obtain ⟨nm, q, bs, sn, sub, ab, col, dd, k0, k1, k2, k3, k5, hC⟩ := X.cls
  repeat (first | with_reducible refine wpAny_loadPart_at hC ?_ | with_reducible refine wpAny_madeBy_exc hC ?_ | wp_step)
  refine codeAny_call_builtin_code (Code.quiet_builtin _ PySem.F.excBase_Exception.quiet) (wpAny_check_new_subT PySem.F.excBase_Exception T hC ?_)
  refine codeAny_exc_new_subT PySem.F.excBase_Exception T hC ?_ hrest
  show wpAny _ _ _ _ _ _
  have kk : Sub h ((h.push { cls := .type "tuple", data := .seq rest.toArray }).push { cls := .ref C, data := .fields #[.ref h.objs.size, .none, .none, .none, .bool false, .none] }) := (Sub.push _ _).trans (Sub.push _ _)
  have hC₁ := kk _ _ hC
  have X₁ := X.keeps kk
  obtain ⟨oI, doc, pm, an, cdI, ct, hfI, hfc, hfd, hcd⟩ := X₁.fn
  have hget : ((h.push { cls := .type "tuple", data := .seq rest.toArray }).push
      { cls := .ref C, data := .fields #[.ref h.objs.size, .none, .none, .none, .bool false, .none] }).get? (h.objs.size + 1) = some
      { cls := .ref C, data := .fields #[.ref h.objs.size, .none, .none, .none, .bool false, .none] } := by heap_get
  have hcC : (Value.ref C :: Value.ref CE :: bmE).contains (.ref C) = true := by simp
  unfold isInstance
  repeat (first | with_reducible refine wpAny_loadPart_at hget ?_ | (with_reducible refine wpAny_isSubtype_exc hC₁ ?_; rw [hcC]) | wp_step)
  show wpAny _ _ (typeLookup (.ref C) _) _ _ _
  refine tl_init X₁ ?_
  refine wpAny_holding (wpAny_bind ?_)
  unfold bindSpecial
  refine wpAny_bind (wpAny_typeOf (T := "function") ⟨_, hfI, hfc⟩ ?_)
  rw [if_pos (by decide)]
  refine wpAny_pure (wpAny_bind (wpAny_mono (hq _ (h.objs.size + 1) ⟨fun b o hb => Heap.get?_push_of_some _ (Heap.get?_push_of_some _ hb), Heap.get?_none_of_le (Nat.le_succ _), h.objs.size, hget, Heap.get?_none_of_le (Nat.le_refl _), ?_⟩) (fun r s' hr => ?_) fun _ _ x => x))
  · exact Heap.get?_push_of_some _ (Heap.get?_push_at rfl rfl)
  · obtain ⟨rfl, hQ⟩ := hr
    wp_walk
    exact hQ
theorem call_R {rest : List Value} {Q : Value → Shared → Prop} (X : RC C CE N fI h)
    (hq : ∀ h' e, Heap.MadeExcOf h h' e (.ref C) rest → wpAny (model prog w) (A.under (.builtin "type.__call__" ⟨.ref C :: rest, []⟩)) (call (.ref fI) (.ref e :: rest)) (fun r s' => r = .none ∧ Q (.ref e) s') E ⟨h', g, d, t, os⟩) (hrest : rest.length ≤ sizeLine) :
    wpAny (model prog w) A (call (.ref C) rest) Q E ⟨h, g, d, t, os⟩ := by
  obtain ⟨nm, q, bs, sn, sub, ab, col, dd, k0, k1, k2, k3, k5, hC⟩ := X.cls
  have f1 := tc_lookup
  have f2 := tc_bind (.ref C)
  have hT : (⟨h, g, d, t, os⟩ : Shared).TypeIs (.ref C) "type" := ⟨_, hC, rfl⟩
  refine wpAny_call (codeAny_of_tree ?_)
  show wpAny _ _ (callAny (.ref C) _) _ _ _
  repeat (any_goals (first | assumption | with_reducible refine wpAny_loadPart_at hC ?_ | wp_step))
  refine ⟨rfl, ?_⟩
  refine codeAny_call_builtin_at (Code.quiet_builtin _ (by decide +kernel)) entry_typeCall (wpAny_check_type_call_sub hC (type_call_R (hrest := hrest) X fun h' e hm => ?_))
  exact hq h' e hm

/-! its attribute -/
theorem store_entry_R {tk : Tok} {v : Value} {o : Obj} {vs : Array Value} {Q : Fin → Shared → Prop} (X : RC C CE N fI h) (hx : h.get? e = some o) (hc : o.cls = .ref C) (hdn : o.dict = none) (hdt : o.data = .fields vs)
    (hB : typeLookup (.type "Exception") "message" = pure none)
    (hq : ∀ h' tk' D, h.get? D = none → D ≠ e → h'.get? e = some { o with dict := some D } → h'.Ns D (fun y => if y = "message" then some v else none) → (∀ b o, b ≠ e → h.get? b = some o → h'.get? b = some o) → Q (.done (.ret .none)) ⟨h', g, d, tk', os⟩) :
    wpAny (model prog w) A (Builtin.«object.__setattr__» ⟨[.ref e, .str "message" tk, v], []⟩) Q E ⟨h, g, d, t, os⟩ := by
  obtain ⟨nm, q, bs, sn, sub, ab, col, dd, k0, k1, k2, k3, k5, hC⟩ := X.cls
  have hpass := PySem.F.store_Exception.passes (.ref e)
  unfold Builtin.«object.__setattr__»
  repeat (first | rw [refuse_eq] | (rw [refuseLoop_ref, refuseLoop_ref, hpass]) | (with_reducible refine wpAny_loadPart_at hx ?_; rw [hc]) | with_reducible refine wpAny_mroOf_exc hC ?_ | with_reducible refine tl_none X (by decide +kernel) hB ?_ | wp_step)
  rw [hdn, if_neg (by simp [typeHasDict])]
  split
  · rename_i hcd
    cases hcd
  split
  · rename_i c hcd
    rw [hdt] at hcd; cases hcd
  · have hx₁ : (h.push { cls := .type "dict", data := .dict #[] }).get? e = some o := Heap.get?_push_of_some _ hx
    have hxs : e ≠ h.objs.size := Nat.ne_of_lt (Heap.lt_size hx)
    refine wpAny_bind (wpAny_alloc' ?_)
    refine wpAny_bind (wpAny_update' hx₁ ?_)
    refine wpAny_pure ?_
    have hgd : ((h.push { cls := .type "dict", data := .dict #[] }).update e fun o => { cls := o.cls, dict := some h.objs.size, data := o.data, slots := o.slots }).get? h.objs.size
        = some { cls := .type "dict", data := .dict #[] } :=
      (Heap.get?_update_ne _ _ _ _ hxs.symm).trans (Heap.get?_push_at rfl rfl)
    have hnd : ((h.push { cls := .type "dict", data := .dict #[] }).update e fun o => { cls := o.cls, dict := some h.objs.size, data := o.data, slots := o.slots }).Ns h.objs.size (fun _ => none) :=
      ⟨_, #[], _, hgd, rfl, fun e he => absurd he (by simp), fun _ => rfl⟩
    show wpAny _ _ (storeInDict h.objs.size (.str "message" tk) "message" v) _ _ _
    unfold storeInDict newKeyGuard
    refine wpAny_bind (wpAny_pure (wpAny_bind (wpAny_nsSet1 (Heap.Ns1.of_empty hnd) fun h' hn' hs => ?_)))
    obtain ⟨oD, esD, epD, hoD, hdD, hcD⟩ := hn'.count (Within.cons "message" v Within.nil)
    refine wpAny_bind (wpAny_lookBehind hoD (by rw [hdD]; exact pastItsLine_dict (Nat.le_trans hcD (by rw [List.length_cons, List.length_nil, sizeLine_eq]; omega))) ?_)
    wp_walk
    refine hq h' _ h.objs.size (get_size_none h) hxs.symm ((hs.2 e hxs).trans (Heap.get?_update_self _ hx₁ ?_)) hn'.ns fun b ob hb e' => ?_
    · have hfr := (Heap.get?_some_iff.mp hx).2
      obtain ⟨oc, od, odt, osl⟩ := o
      simp only at hdt
      subst hdt
      rfl
    · exact (hs.2 b (Nat.ne_of_lt (Heap.lt_size e'))).trans ((Heap.get?_update_ne _ _ _ _ hb).trans (Heap.get?_push_of_some _ e'))
theorem check_sa_R {M : Model} {o : Obj} {nameV v : Value} {Q : Unit → Shared → Prop} (X : RC C CE N fI h) (hx : h.get? e = some o) (hc : o.cls = .ref C) (hq : Q () ⟨h, g, d, t, os⟩) :
    wpAny M A (checkBuiltinCall "object.__setattr__" ⟨[.ref e, nameV, v], []⟩) Q E ⟨h, g, d, t, os⟩ := by
  obtain ⟨nm, q, bs, sn, sub, ab, col, dd, k0, k1, k2, k3, k5, hC⟩ := X.cls
  have SF := PySem.F.store_Exception
  have hcB : (Value.ref C :: Value.ref CE :: bmE).contains (.type "object") = true := by rw [List.contains_cons, (X_tail X).hasType SF.hasOwner, Bool.or_true]
  have ha := SF.args (.ref e) nameV v
  simp only [checkBuiltinCall, SF.kind, SF.split]
  refine wpAny_bind ?_
  · unfold isInstance
    repeat (first | (with_reducible refine wpAny_loadPart_at hx ?_; rw [hc]) | (with_reducible refine wpAny_isSubtype_exc hC ?_; rw [hcB]) | wp_step)
    exact hq
theorem lk_msg : typeLookup (.type "Exception") "message" = pure none := by rw [typeLookup_type, builtinLookup_eq_fast]; kernel_rfl
theorem store_attr_R {v : Value} {o : Obj} {vs : Array Value} {Q : Unit → Shared → Prop} (X : RC C CE N fI h) (hx : h.get? e = some o) (hc : o.cls = .ref C) (hdn : o.dict = none) (hdt : o.data = .fields vs)
    (hq : ∀ h' tk' D, h.get? D = none → D ≠ e → h'.get? e = some { o with dict := some D } → h'.Ns D (fun y => if y = "message" then some v else none) → (∀ b o, b ≠ e → h.get? b = some o → h'.get? b = some o) → Q () ⟨h', g, d, tk', os⟩) :
    wpAny (model prog w) A (setAttr (.ref e) "message" v) Q E ⟨h, g, d, t, os⟩ := by
  have SF := PySem.F.store_Exception
  have f3 := SF.slot.bind (.ref e)
  unfold setAttr callSpecial? specialOf
  repeat (any_goals (first | assumption | (with_reducible refine wpAny_loadPart_at hx ?_; rw [hc]) | with_reducible refine tl_none X (by decide +kernel) SF.slot.lookup ?_ | wp_step))
  refine codeAny_call_builtin SF.slot.plain SF.entry (check_sa_R X hx hc (store_entry_R X hx hc hdn hdt lk_msg fun h' tk' D h1 h2 h3 h4 h5 => ?_))
  repeat (any_goals (first | assumption | wp_step))
  exact hq h' tk' D h1 h2 h3 h4 h5
end
end Mine
end
section
open PySem PySem.W PyProof.Rows PySem.Calls PySem.Spec
open Builtin Builtin.ObjectAttr
set_option Elab.async false
set_option maxRecDepth 100000
set_option linter.unusedVariables false
namespace Mine
section
variable {prog : Program} {w : World} {M : Model} {A : Around} {E : Value → Shared → Prop} {h : Heap} {g : Array GenState} {d : Drawn} {t : Nat} {os : OsState} {C CE N fI e D : Addr}
theorem get_entry_R {tk tm : Tok} {o : Obj} {vs : Array Value} {x : Str} {m : Str → Option Value} {Q : Fin → Shared → Prop} (X : RC C CE N fI h) (hx : h.get? e = some o) (hc : o.cls = .ref C) (hdd : o.dict = some D) (hdt : o.data = .fields vs)
    (hD : h.Ns D m) (hm : m "message" = some (.str x tm)) (hq : Q (.done (.ret (.str x tm))) ⟨h, g, d, t, os⟩) :
    wpAny (model prog w) A (Builtin.«object.__getattribute__» ⟨[.ref e, .str "message" tk], []⟩) Q E ⟨h, g, d, t, os⟩ := by
  obtain ⟨nm, q, bs, sn, sub, ab, col, dd, k0, k1, k2, k3, k5, hC⟩ := X.cls
  unfold Builtin.«object.__getattribute__»
  repeat (first | (with_reducible refine wpAny_loadPart_at hx ?_; rw [hc]) | with_reducible refine tl_none X (by decide +kernel) lk_msg ?_ | wp_step)
  rw [hdt]
  unfold instanceDict
  repeat (first | (with_reducible refine wpAny_loadPart_at hx ?_; rw [hc]) | with_reducible refine wpAny_loadPart_at hC ?_ | wp_step)
  rw [hdd]
  repeat (first | (with_reducible refine wpAny_nsGet hD ?_; rw [hm]) | wp_step)
  exact hq
theorem check_ga_R {o : Obj} {nameV : Value} {Q : Unit → Shared → Prop} (X : RC C CE N fI h) (hx : h.get? e = some o) (hc : o.cls = .ref C) (hq : Q () ⟨h, g, d, t, os⟩) : wpAny M A (checkBuiltinCall "BaseException.__getattribute__" ⟨[.ref e, nameV], []⟩) Q E ⟨h, g, d, t, os⟩ := by
  obtain ⟨nm, q, bs, sn, sub, ab, col, dd, k0, k1, k2, k3, k5, hC⟩ := X.cls
  have hk : builtinKind "BaseException.__getattribute__" = some .slot := by decide +kernel
  have hsplit : splitId "BaseException.__getattribute__" = some ("BaseException", "__getattribute__") := by decide +kernel
  have hcB : (Value.ref C :: Value.ref CE :: bmE).contains (.type "BaseException") = true := by rw [List.contains_cons, (X_tail X).hasType PySem.F.excBase_Exception.hasBase, Bool.or_true]
  have ha := PySem.F.args_bexc_ga (.ref e) nameV
  simp only [checkBuiltinCall, hk, hsplit]
  refine wpAny_bind ?_
  · unfold isInstance
    repeat (first | (with_reducible refine wpAny_loadPart_at hx ?_; rw [hc]) | (with_reducible refine wpAny_isSubtype_exc hC ?_; rw [hcB]) | wp_step)
    exact hq
theorem get_by_R {tk tm : Tok} {o : Obj} {vs : Array Value} {x : Str} {m : Str → Option Value} {fill expr : Bool} {Q : Value → Shared → Prop} (X : RC C CE N fI h) (hx : h.get? e = some o) (hc : o.cls = .ref C) (hdd : o.dict = some D) (hdt : o.data = .fields vs)
    (hD : h.Ns D m) (hm : m "message" = some (.str x tm)) (hq : Q (.str x tm) ⟨h, g, d, t, os⟩) :
    wpAny (model prog w) A (getAttrBy (.ref e) (.str "message" tk) fill expr) Q E ⟨h, g, d, t, os⟩ := by
  have FB := PySem.F.attrBase_Exception
  have f3 := FB.ga.bind (.ref e)
  have hx0 : (expr && onTheHeap (Value.builtin "BaseException.__getattribute__")) = false := by cases expr <;> rfl
  have hx2 : (Value.builtin "BaseException.__getattribute__" == Value.builtin "object.__getattribute__") = false := by decide +kernel
  have hx1 : (onTheHeap (Value.ref C) && Value.builtin "BaseException.__getattribute__" == Value.builtin "object.__getattribute__") = false := by rw [hx2]; rfl
  repeat (any_goals (first | assumption | (with_reducible refine wpAny_loadPart_at hx ?_; rw [hc]) | with_reducible refine tl_none X (by decide +kernel) FB.ga.lookup ?_ | with_reducible refine tl_none X (by decide +kernel) FB.noGetattr ?_ | wp_step))
  refine codeAny_call_builtin FB.ga.plain PySem.F.entry_bexc_ga (check_ga_R X hx hc (get_entry_R X hx hc hdd hdt hD hm ?_))
  repeat (any_goals (first | assumption | wp_step))
theorem get_attr_R {tm : Tok} {o : Obj} {vs : Array Value} {x : Str} {m : Str → Option Value} {expr : Bool} {Q : Value → Shared → Prop} (X : RC C CE N fI h) (hx : h.get? e = some o) (hc : o.cls = .ref C) (hdd : o.dict = some D) (hdt : o.data = .fields vs)
    (hD : h.Ns D m) (hm : m "message" = some (.str x tm)) (hq : Q (.str x tm) ⟨h, g, d, t + 1, os⟩) :
    wpAny (model prog w) A (getAttr (.ref e) "message" expr) Q E ⟨h, g, d, t, os⟩ := by
  unfold getAttr
  repeat (any_goals (first | assumption | with_reducible apply get_by_R X hx hc hdd hdt hD hm | wp_step))
end
end Mine
end
section
open PySem PySem.W PyProof.Rows PySem.Calls PySem.Spec
set_option Elab.async false
set_option maxRecDepth 100000
set_option linter.unusedVariables false
namespace Mine
section
variable {prog : Program} {w : World} {M : Model} {A : Around} {E : Value → Shared → Prop} {s : Shared} {C CE N fI e D : Addr}
theorem init_run {v : Value} {vs : Array Value} {Q : Value → Shared → Prop} (X : RC C CE N fI s.heap) (hlim : s.heap.NoLimit) (hdep : A.depth < recursionLimit) (he : s.heap.get? e = some { cls := .ref C, data := .fields vs })
    (hq : ∀ h' tk D, s.heap.get? D = none → h'.get? e = some { cls := .ref C, dict := some D, data := .fields vs } → h'.Ns D (fun y => if y = "message" then some v else none) → (∀ b o, b ≠ e → s.heap.get? b = some o → h'.get? b = some o) → Q .none { s with heap := h', toks := tk }) :
    wpAny (model prog w) A (call (.ref fI) [.ref e, v]) Q E s := by
  obtain ⟨oI, doc, pm, an, cdI, ct, hfI, hfc, hfd, hcd⟩ := X.fn
  obtain ⟨p1, p2, p3, p4, hb⟩ := r_init_body
  refine wpAny_call (codeAny_call_cells (fd := fnOf "__init__" "Refusal.__init__" r_init.params r_init.body r_init.scope .none .none doc pm an cdI ct) (body := r_init.body) (binds := [("self", .ref e), ("message", v)]) hdep hfI hfd hlim hcd rfl rfl rfl (fun y hy => ?_) (fun s₁ x => ?_) (by rfl) (by rfl) (by rfl))
  · left
    rcases List.mem_cons.mp hy with rfl | hy
    · show r_init.scope.names.lookup (Str.ofString "self") = some NameKind.local
      decide +kernel
    · rcases List.mem_cons.mp hy with rfl | hy
      · show r_init.scope.names.lookup (Str.ofString "message") = some NameKind.local
        decide +kernel
      · cases hy
  · generalize hEnv : callEnvC (fnOf "__init__" "Refusal.__init__" r_init.params r_init.body r_init.scope .none .none doc pm an cdI ct) s.heap.objs.size fI = env at *
    have hsc : env.scope = r_init.scope := by rw [← hEnv]; rfl
    have hk : env.scope.kind = .function := by rw [hsc]; rfl
    have hl1 : env.kindOf "self" = some .local := by unfold Env.kindOf; rw [hsc]; decide +kernel
    have hl2 : env.kindOf "message" = some .local := by unfold Env.kindOf; rw [hsc]; decide +kernel
    have hm1 : bindL env.kindOf [("self", .ref e), ("message", v)] (fun _ => none) "self" = some (.ref e) := bindL_mem hl1 (by show (["self", "message"] : List Str).Nodup; decide +kernel) (.head _)
    have hm2 : bindL env.kindOf [("self", .ref e), ("message", v)] (fun _ => none) "message" = some v := bindL_mem hl2 (by show (["self", "message"] : List Str).Nodup; decide +kernel) (.tail _ (.head _))
    have kp := x.toInCall.keep
    obtain ⟨h₁, t₁, e₁⟩ := x.toInCall.same
    rw [hb]
    refine wpAny_execs_cons (plainObj_wpAny_Assign_Attribute (NameLC x hk hl2 hm2 (NameLC x hk hl1 hm1 ?_ (by decide)) (by decide)) (by rfl))
    subst e₁
    refine store_attr_R (h := h₁) (X.keeps kp) (kp _ _ he) rfl rfl rfl fun h' tk' D h1 h2 h3 h4 h5 => ?_
    refine wpAny_execs_nil (hq h' tk' D ?_ h3 h4 fun b o nb e => h5 b o nb (kp b o e))
    cases q : s.heap.get? D with
    | none => rfl
    | some o => have := kp _ _ q; rw [h1] at this; cases this
end
end Mine
end
section
open PySem PySem.W PyProof.Rows PySem.Calls PySem.Spec
set_option Elab.async false
set_option maxRecDepth 100000
set_option linter.unusedVariables false
namespace Mine
section
variable {prog : Program} {w : World} {A : Around} {E : Value → Shared → Prop} {s : Shared} {env : Env} {C CE N fI : Addr}
theorem raiseStmt_R {M : Model} {x : Sem Value} {Q : Flow → Shared → Prop} (hh : A.handled = none)
    (h : wpAny M A x (fun v s₁ => ∃ e t D, v = .ref e ∧ RC C CE N fI s₁.heap ∧ s₁.heap.get? e = some { cls := .ref C, dict := some D, data := .fields #[.ref t, .none, .none, .none, .bool false, .none] } ∧ E (.ref e) s₁) E s) :
    wpAny M A (raiseStmt env (some x) none) Q E s := by
  unfold raiseStmt
  refine wpAny_bind (wpAny_mono h (fun v s₁ h₁ => ?_) fun _ _ x => x)
  obtain ⟨e, t, D, rfl, X, he, hE⟩ := h₁
  obtain ⟨nm, q, bs, sn, sub, ab, col, dd, k0, k1, k2, k3, k5, hC⟩ := X.cls
  have hcB : (Value.ref C :: Value.ref CE :: bmE).contains (.type "BaseException") = true := by rw [List.contains_cons, (X_tail X).hasType PySem.F.excBase_Exception.hasBase, Bool.or_true]
  obtain ⟨hp, g, d, tk, os⟩ := s₁
  repeat (first | with_reducible refine wpAny_loadPart_at he ?_ | with_reducible refine wpAny_loadPart_at hC ?_ | (with_reducible refine wpAny_isSubtype_exc hC ?_; rw [hcB]) | wp_step)
  exact wpAny_raiseNew_none hh hE

theorem raise_R {x : Str} {np cpos pos : Pos} {arg : Expr} {Q : Flow → Shared → Prop} (hh : A.handled = none) (hdep : A.depth + 10 < recursionLimit)
    (hst : ∀ env, starEach (arg :: []) env = (false, eval arg env) :: starEach [] env)
    (h : wpAny (model prog w) A (eval (.Name x np) env) (fun f s₁ => f = .ref C ∧ wpAny (model prog w) A (eval arg env) (fun v s₂ => RC C CE N fI s₂.heap ∧ s₂.heap.NoLimit ∧
        ∀ h' tk e t D, (∀ b o, s₂.heap.get? b = some o → h'.get? b = some o) → s₂.heap.get? e = none → s₂.heap.get? D = none → s₂.heap.get? t = none → h'.get? e = some { cls := .ref C, dict := some D, data := .fields #[.ref t, .none, .none, .none, .bool false, .none] } →
          h'.Ns D (fun y => if y = "message" then some v else none) → E (.ref e) { s₂ with heap := h', toks := tk }) E s₁) E s) :
    wpAny (model prog w) A (exec (.Raise (some (.Call (.Name x np) [arg] [] cpos)) none pos) env) Q E s := by
  have hplain : (backTo cpos (starEach [arg] env)).any (·.1) = false := by rw [hst]; rfl
  rw [arm_exec_Raise]
  first
    | refine wpAny_bind (wpAny_standAt (raiseStmt_R (C := C) (CE := CE) (N := N) (fI := fI) hh (wpAny_bind (wpAny_mono (wpAny_Call_ofName (wpAny_mono h (fun f s₁ h₁ => ?_) fun _ _ x => x)) (fun v s₃ h₃ => wpAny_bind (wpAny_standAt (wpAny_pure h₃))) fun _ _ x => x))))
    | (simp only [evalOpt, Option.map]; refine wpAny_bind (wpAny_standAt (raiseStmt_R (C := C) (CE := CE) (N := N) (fI := fI) hh (wpAny_bind (wpAny_mono (wpAny_Call_ofName (wpAny_mono h (fun f s₁ h₁ => ?_) fun _ _ x => x)) (fun v s₃ h₃ => wpAny_bind (wpAny_standAt (wpAny_pure h₃))) fun _ _ x => x)))))
    | (refine wpAny_bind (wpAny_standAt (raiseStmt_R (C := C) (CE := CE) (N := N) (fI := fI) hh ?_)); refine wpAny_bind (wpAny_mono (wpAny_Call_ofName (wpAny_mono h (fun f s₁ h₁ => ?_) fun _ _ x => x)) (fun v s₃ h₃ => wpAny_bind (wpAny_standAt (wpAny_pure h₃))) fun _ _ x => x))
  obtain ⟨rfl, h₁⟩ := h₁
  unfold callWith
  have h₂ : wpAny (model prog w) A (evalArgs (.ref C) true (backTo cpos (starEach [arg] env)) []) (fun a s₂ => ∃ v, a = ⟨[v], []⟩ ∧ RC C CE N fI s₂.heap ∧ s₂.heap.NoLimit ∧
        ∀ h' tk e t D, (∀ b o, s₂.heap.get? b = some o → h'.get? b = some o) → s₂.heap.get? e = none → s₂.heap.get? D = none → s₂.heap.get? t = none → h'.get? e = some { cls := .ref C, dict := some D, data := .fields #[.ref t, .none, .none, .none, .bool false, .none] } →
          h'.Ns D (fun y => if y = "message" then some v else none) → E (.ref e) { s₂ with heap := h', toks := tk }) E s₁ := by
    rw [hst]
    exact evalArgs_plain (spliced_cons (wpAny_mono h₁ (fun v s₂ h₂ => spliced_nil ⟨v, rfl, h₂⟩) fun _ _ x => x))
  refine wpAny_bind (wpAny_holding (wpAny_mono h₂ (fun a s₂ h₂ => wpAny_bind (wpAny_standAt ?_)) fun _ _ x => x))
  obtain ⟨v, rfl, X, hlim, hE⟩ := h₂
  obtain ⟨nm, q, bs, sn, sub, ab, col, dd, k0, k1, k2, k3, k5, hC⟩ := X.cls
  obtain ⟨hp, g, d, tk, os⟩ := s₂
  simp only [hplain]
  refine wpAny_bind (wpAny_keeperOf_exc hC ?_)
  refine wpAny_bind (call_R X (fun h' e hm => ?_) (by exact Nat.le_of_ble_eq_true rfl))
  obtain ⟨t, he, ht, ht'⟩ := hm.there
  refine init_run (s := ⟨h', g, d, tk, os⟩) (X.keeps hm.keeps) (hlim.keeps hm.keeps) (by rw [depth_under_make]; omega) he fun h₃ tk₃ D h1 h2 h3 h4 => ⟨rfl, wpAny_bind (wpAny_holding (wpAny_point (wpAny_pure ?_)))⟩
  have kk : ∀ b o, hp.get? b = some o → h₃.get? b = some o := fun b o e' => h4 b o (fun q => by rw [q, hm.new] at e'; cases e') (hm.keeps b o e')
  refine ⟨e, t, D, rfl, X.keeps kk, h2, hE h₃ tk₃ e t D kk hm.new ?_ ht h2 h3⟩
  cases q : hp.get? D with
  | none => rfl
  | some o => have := hm.keeps _ _ q; rw [h1] at this; cases this
end
end Mine
end
section
open PySem PySem.W PyProof.Rows PySem.Calls PySem.Spec
set_option Elab.async false
set_option maxRecDepth 100000
set_option linter.unusedVariables false
namespace Mine
theorem dict_mapFields (f : Array Value → Array Value) (o : Obj) : (Obj.mapFields f o).dict = o.dict := by
  obtain ⟨c, d, dt, sl⟩ := o
  cases dt <;> rfl
/-- the exception under way: its class, its dict, its newest entry -/
noncomputable def TrD (B : Heap) (e C D : Addr) (fl : Value) (h : Heap) : Prop :=
  ∃ oe vs T oT ts, h.get? e = some oe ∧ oe.cls = .ref C ∧ oe.dict = some D ∧ oe.data = .fields vs ∧ vs[1]? = some (.ref T) ∧ B.get? T = none ∧ T ≠ e ∧ h.get? T = some oT ∧ oT.data = .fields ts ∧ ts[3]? = some fl
structure FlyD (B : Heap) (l : List Env) (e C D : Addr) (fl : Value) (h : Heap) : Prop where
  stays : B.StaysIn h
  new : B.get? e = none
  frames : h.FunFrames B l
  tr : TrD B e C D fl h
section
variable {M : Model} {A : Around} {E : Value → Shared → Prop} {s : Shared} {B : Heap} {e C D L : Addr} {env : Env} {outer l : List Env}
theorem entryD {oe : Obj} {vs : Array Value} {head : Value} {hadNext : Bool} {Q : Unit → Shared → Prop}
    (hfr : A.frames = some (env :: outer)) (hl : s.heap.FunFrames B (env :: outer)) (hf : env.frame = some L)
    (he : s.heap.get? e = some oe) (hc : oe.cls = .ref C) (hdd : oe.dict = some D) (hkb : B.StaysIn s.heap) (hen : B.get? e = none) (hd : oe.data = .fields vs) (hsz : 1 < vs.size)
    (h : ∀ h', FlyD B (env :: outer) e C D (rawInt L) h' → s.heap.UpToSlots h' → Q () { s with heap := h' }) :
    wpAny M A (do let a ← frameOf env; let pl ← entryPlaceOf L hadNext; let b ← EntryCells.newEntry head a .none (rawInt L) .none pl; setField (.ref e) 1 b) Q E s := by
  have hene : e ∉ (env :: outer).filterMap (·.frame) := fun hm => by
    obtain ⟨_, o, ho, hnf⟩ := hl.mem hm
    rw [he] at ho; injection ho with ho; subst ho; exact hnf vs hd
  refine wpAny_bind (wpAny_frameOf_fun hfr hl hf fun h₁ hs₁ => ?_)
  refine wpAny_bind (wpAny_entryPlaceOf fun pl hpl => ?_)
  unfold EntryCells.newEntry newFields
  refine wpAny_bind (wpAny_newObj_type ?_ (hpl.sizeOk5 _ _ _ _ _))
  have he₁ : h₁.get? e = some oe := (hs₁.2.1 e hene).trans he
  have kb₁ : B.StaysIn h₁ := fun b o hbo => (hs₁.2.1 b fun hm => by rw [(hl.mem hm).1] at hbo; cases hbo).trans (hkb b o hbo)
  have he₂ := Heap.get?_push_of_some (h := h₁) { cls := .type "traceback", dict := none, data := .fields ([head, .ref L, .none, rawInt L, .none] ++ (if pl.isEmpty then List.replicate 6 Value.none else pl)).toArray } he₁
  refine wpAny_setField he₂ hd hsz (h _ ?_ ?_)
  all_goals
    have hTe : h₁.objs.size ≠ e := Nat.ne_of_gt (Heap.lt_size he₁)
    have hd₃ := Obj.data_mapFields hd (·.setIfInBounds 1 (Value.ref h₁.objs.size))
    have he₃ := Heap.get?_update_self (Obj.mapFields (·.setIfInBounds 1 (Value.ref h₁.objs.size))) he₂ (Obj.isFreed_of_fields hd₃)
    have hT₃ := (Heap.get?_update_other (h₁.push { cls := .type "traceback", dict := none, data := .fields ([head, .ref L, .none, rawInt L, .none] ++ (if pl.isEmpty then List.replicate 6 Value.none else pl)).toArray })
      (Obj.mapFields (·.setIfInBounds 1 (Value.ref h₁.objs.size))) (Ne.symm hTe)).trans (Heap.get?_push_size h₁ rfl)
    have keep : ∀ b o, b ≠ e → h₁.get? b = some o →
        ((h₁.push { cls := .type "traceback", dict := none, data := .fields ([head, .ref L, .none, rawInt L, .none] ++ (if pl.isEmpty then List.replicate 6 Value.none else pl)).toArray }).update e (Obj.mapFields (·.setIfInBounds 1 (Value.ref h₁.objs.size)))).get? b = some o :=
      fun b o hbe hb => by
        rw [Heap.get?_update_other _ _ (Ne.symm hbe)]
        exact Heap.get?_push_of_some _ hb
    have noRecord : ∀ b o, s.heap.get? b = some o → (∀ vs, o.data ≠ .fields vs) → b ≠ e := fun b o hb hnf q => by
      rw [q, he] at hb; injection hb with hb; subst hb; exact hnf vs hd
  · refine ⟨fun b o hbo => keep b o (fun q => by rw [q, hen] at hbo; cases hbo) (kb₁ b o hbo), hen, hl.of_keeps fun b o hb hnf => ?_, ?_⟩
    · obtain ⟨sl, hs⟩ := hs₁.2.2 b o hb
      exact ⟨_, keep b _ (noRecord b o hb hnf) hs, rfl⟩
    · exact ⟨_, _, h₁.objs.size, _, _, he₃, (Obj.cls_mapFields _ _).trans hc, (dict_mapFields _ _).trans hdd, hd₃, by simp [hsz], kb₁.fresh, hTe, hT₃, rfl, by first | (simp; done) | (rcases hpl with rfl | ⟨_, _, _, _, _, _, _, rfl⟩ <;> simp)⟩
  · intro b o hb hnf
    obtain ⟨sl, hs⟩ := hs₁.2.2 b o hb
    exact ⟨sl, keep b _ (noRecord b o hb hnf) hs⟩
/-- the first frame that it leaves -/
theorem note_first {oe : Obj} {vs : Array Value} {Q : Unit → Shared → Prop} (hfr : A.frames = some (env :: outer)) (hl : s.heap.FunFrames B (env :: outer)) (hf : env.frame = some L)
    (he : s.heap.get? e = some oe) (hc : oe.cls = .ref C) (hdd : oe.dict = some D) (hkb : B.StaysIn s.heap) (hen : B.get? e = none) (hd : oe.data = .fields vs) (h1 : vs[1]? = some .none)
    (h : ∀ h', FlyD B (env :: outer) e C D (rawInt L) h' → s.heap.UpToSlots h' → Q () { s with heap := h' }) : wpAny M A (noteFrame (.ref e) env) Q E s := by
  unfold noteFrame
  simp only [hf]
  refine wpAny_bind (wpAny_field he hd h1 ?_)
  rw [if_neg (by decide)]
  exact entryD hfr hl hf he hc hdd hkb hen hd (Array.getElem?_eq_some_iff.mp h1).1 h
theorem note_on {Q : Unit → Shared → Prop} (hfr : A.frames = some (env :: outer)) (hf : env.frame = some L) (F : FlyD B (env :: outer) e C D .none s.heap)
    (h : ∀ h', FlyD B (env :: outer) e C D (rawInt L) h' → s.heap.UpToSlots h' → Q () { s with heap := h' }) : wpAny M A (noteFrame (.ref e) env) Q E s := by
  obtain ⟨hkb, hen, hl, oe, vs, T, oT, ts, he, hc, hdd, hd, h1, hnT, hTe, hT, hdT, h3⟩ := F
  unfold noteFrame
  simp only [hf]
  refine wpAny_bind (wpAny_field he hd h1 ?_)
  rw [if_pos (show (Value.ref T != Value.none) = true from by simp)]
  refine wpAny_bind (wpAny_field hT hdT h3 ?_)
  rw [if_neg (show ¬ ((Value.none == rawInt L) = true) from by simp [rawInt])]
  refine wpAny_bind (wpAny_setField hT hdT (Array.getElem?_eq_some_iff.mp h3).1 ?_)
  have other : ∀ b, b ≠ T → (s.heap.update T (Obj.mapFields (·.setIfInBounds 3 Value.none))).get? b = s.heap.get? b := fun b hb => Heap.get?_update_other _ _ (Ne.symm hb)
  have noRecord : ∀ b o, s.heap.get? b = some o → (∀ vs, o.data ≠ .fields vs) → b ≠ T := fun b o hb hnf q => by
    rw [q, hT] at hb; injection hb with hb; subst hb; exact hnf ts hdT
  refine entryD (s := { s with heap := s.heap.update T (Obj.mapFields (·.setIfInBounds 3 Value.none)) }) hfr (hl.of_keeps fun b o hb hnf => ⟨o, (other b (noRecord b o hb hnf)).trans hb, rfl⟩) hf ((other e (Ne.symm hTe)).trans he) hc hdd
    (fun b o hbo => (other b fun q => by rw [q, hnT] at hbo; cases hbo).trans (hkb b o hbo)) hen hd (Array.getElem?_eq_some_iff.mp h1).1
    fun h' x y => h h' x fun b o hb hnf => y b o ((other b (noRecord b o hb hnf)).trans hb) hnf
theorem note_again {Q : Unit → Shared → Prop} (hf : env.frame = some L) (F : FlyD B l e C D (rawInt L) s.heap) (h : Q () s) : wpAny M A (noteFrame (.ref e) env) Q E s := by
  obtain ⟨hkb, hen, hl, oe, vs, T, oT, ts, he, hc, hdd, hd, h1, hnT, hTe, hT, hdT, h3⟩ := F
  unfold noteFrame
  simp only [hf]
  refine wpAny_bind (wpAny_field he hd h1 ?_)
  rw [if_pos (show (Value.ref T != Value.none) = true from by simp)]
  refine wpAny_bind (wpAny_field hT hdT h3 ?_)
  rw [if_pos (show (rawInt L == rawInt L) = true from by simp)]
  exact wpAny_pure h
theorem flight_off {fl : Value} {Q : Unit → Shared → Prop} (F : FlyD B l e C D fl s.heap) (h : ∀ h', FlyD B l e C D .none h' → s.heap.UpToSlots h' → Q () { s with heap := h' }) : wpAny M A (setFlight (.ref e) none) Q E s := by
  obtain ⟨hkb, hen, hl, oe, vs, T, oT, ts, he, hc, hdd, hd, h1, hnT, hTe, hT, hdT, h3⟩ := F
  have hsz3 : 3 < ts.size := (Array.getElem?_eq_some_iff.mp h3).1
  have other : ∀ b, b ≠ T → (s.heap.update T (Obj.mapFields (·.setIfInBounds 3 ((none : Option Addr).elim Value.none fun f => rawInt f)))).get? b = s.heap.get? b :=
    fun b hb => Heap.get?_update_other _ _ (Ne.symm hb)
  have noRecord : ∀ b o, s.heap.get? b = some o → (∀ vs, o.data ≠ .fields vs) → b ≠ T := fun b o hb hnf q => by
    rw [q, hT] at hb; injection hb with hb; subst hb; exact hnf ts hdT
  unfold setFlight
  refine wpAny_bind (wpAny_field he hd h1 ?_)
  rw [if_pos (show (Value.ref T != Value.none) = true from by simp)]
  refine wpAny_setField hT hdT hsz3 (h _ ⟨fun b o hbo => (other b fun q => by rw [q, hnT] at hbo; cases hbo).trans (hkb b o hbo), hen,
    hl.of_keeps fun b o hb hnf => ⟨o, (other b (noRecord b o hb hnf)).trans hb, rfl⟩, ?_⟩ fun b o hb hnf => ⟨o.slots, (other b (noRecord b o hb hnf)).trans hb⟩)
  exact ⟨oe, vs, T, _, _, (other e (Ne.symm hTe)).trans he, hc, hdd, hd, h1, hnT, hTe, Heap.get?_update_self _ hT (Obj.isFreed_of_fields (Obj.data_mapFields hdT _)), Obj.data_mapFields hdT _, by simp [hsz3]⟩
theorem FlyD.out {fl : Value} {h : Heap} (F : FlyD B (env :: outer) e C D fl h) : FlyD B outer e C D fl h := ⟨F.stays, F.new, F.frames.2.2, F.tr⟩
/-- it leaves the frame where it was raised -/
theorem leave_first {oe : Obj} {vs : Array Value} {Q : Unit → Shared → Prop} (hfr : A.frames = some (env :: outer)) (hl : s.heap.FunFrames B (env :: outer)) (hf : env.frame = some L)
    (he : s.heap.get? e = some oe) (hc : oe.cls = .ref C) (hdd : oe.dict = some D) (hkb : B.StaysIn s.heap) (hen : B.get? e = none) (hd : oe.data = .fields vs) (h1 : vs[1]? = some .none)
    (h : ∀ h', FlyD B outer e C D .none h' → s.heap.UpToSlots h' → Q () { s with heap := h' }) : wpAny M A (leaving env (.ref e)) Q E s := by
  unfold leaving
  refine wpAny_bind (note_first hfr hl hf he hc hdd hkb hen hd h1 fun h₁ F₁ u₁ => ?_)
  exact flight_off (s := { s with heap := h₁ }) F₁ fun h₂ F₂ u₂ => h h₂ F₂.out (u₁.trans u₂)
theorem leave_next {Q : Unit → Shared → Prop} (hfr : A.frames = some (env :: outer)) (hf : env.frame = some L) (F : FlyD B (env :: outer) e C D .none s.heap)
    (h : ∀ h', FlyD B outer e C D .none h' → s.heap.UpToSlots h' → Q () { s with heap := h' }) : wpAny M A (leaving env (.ref e)) Q E s := by
  unfold leaving
  refine wpAny_bind (note_on hfr hf F fun h₁ F₁ u₁ => ?_)
  exact flight_off (s := { s with heap := h₁ }) F₁ fun h₂ F₂ u₂ => h h₂ F₂.out (u₁.trans u₂)
end
end Mine
end
section
open PySem PySem.W PyProof.Rows PySem.Calls PySem.Spec
set_option Elab.async false
set_option maxRecDepth 100000
set_option linter.unusedVariables false
namespace Mine
noncomputable abbrev H0 : Heap := ⟨#[], {}⟩
theorem ff_base {h B : Heap} : ∀ {l : List Env}, h.FunFrames H0 l → (∀ L ∈ l.filterMap (·.frame), B.get? L = none) → h.FunFrames B l
  | [], _, _ => trivial
  | env :: r, ⟨hk, ⟨L, o, hf, _, ho, hd⟩, hr⟩, hB => by
    rw [List.filterMap_cons, hf] at hB
    exact ⟨hk, ⟨L, o, hf, hB L (.head _), ho, hd⟩, ff_base hr fun L' hL => hB L' (.tail _ hL)⟩
theorem ff_H0 {h B : Heap} : ∀ {l : List Env}, h.FunFrames B l → h.FunFrames H0 l
  | [], _ => trivial
  | env :: r, ⟨hk, ⟨L, o, hf, _, ho, hd⟩, hr⟩ => ⟨hk, ⟨L, o, hf, rfl, ho, hd⟩, ff_H0 hr⟩
theorem ff_live {h B : Heap} : ∀ {l : List Env}, h.FunFrames B l → ∀ L ∈ l.filterMap (·.frame), ∃ o, h.get? L = some o ∧ ∀ vs, o.data ≠ .fields vs
  | [], _, L, hL => by cases hL
  | env :: r, ⟨hk, ⟨L, o, hf, _, ho, hd⟩, hr⟩, L', hL' => by
    rw [List.filterMap_cons, hf] at hL'
    rcases List.mem_cons.mp hL' with rfl | q
    · exact ⟨o, ho, hd⟩
    · exact ff_live hr L' q
noncomputable def msgNs (msg : Str) (t : Tok) : Str → Option Value := fun y => if y = "message" then some (.str msg t) else none
/-- the text's exception has left the frames down to `outer` -/
noncomputable def Thrown (h : Heap) (outer : List Env) (C : Addr) (msg : Str) (e : Addr) (h' : Heap) : Prop :=
  ∃ B D t, (∀ b o, h.get? b = some o → b ∉ outer.filterMap (·.frame) → B.get? b = some o) ∧ FlyD B outer e C D .none h' ∧ h.UpToSlots h' ∧ B.get? D = none ∧ h'.Ns D (msgNs msg t)
section
variable {M : Model} {A : Around} {E : Value → Shared → Prop} {s : Shared} {C e D L : Addr} {env : Env} {outer : List Env} {h h₂ : Heap} {msg : Str} {t : Tok}
theorem throw_first {o : Obj} {vs : Array Value} {oL : Obj} {Q : Unit → Shared → Prop} (hfr : A.frames = some (env :: outer)) (hf : env.frame = some L) (hk : env.scope.kind ≠ .module) (ff : h.FunFrames H0 outer) (k : Sub h h₂) (hL : h.get? L = none) (hL₂ : h₂.get? L = some oL) (hLd : ∀ vs, oL.data ≠ .fields vs)
    (k₂ : Sub h₂ s.heap) (hen : h₂.get? e = none) (hDn : h₂.get? D = none) (he : s.heap.get? e = some o) (hc : o.cls = .ref C) (hdd : o.dict = some D) (hd : o.data = .fields vs) (h1 : vs[1]? = some .none) (hD : s.heap.Ns D (msgNs msg t))
    (hQ : ∀ h', Thrown h outer C msg e h' → Q () { s with heap := h' }) : wpAny M A (leaving env (.ref e)) Q E s := by
  have fs : (env :: outer).filterMap (·.frame) = L :: outer.filterMap (·.frame) := by rw [List.filterMap_cons, hf]
  have nn : ∀ b, h₂.get? b = none → (hideAll h₂ (L :: outer.filterMap (·.frame))).get? b = none := fun b hb => by
    cases q : (hideAll h₂ (L :: outer.filterMap (·.frame))).get? b with
    | none => rfl
    | some o => rw [of_hideAll _ q] at hb; cases hb
  refine leave_first (B := hideAll h₂ (L :: outer.filterMap (·.frame))) (C := C) (D := D) hfr ?_ hf he hc hdd (fun b o q => k₂ b o (of_hideAll _ q)) (nn e hen) hd h1 fun h' F u => hQ h' ⟨_, D, t, fun b o q nb => ?_, F, ?_, nn D hDn, u.ns hD⟩
  · refine ⟨hk, ⟨L, oL, hf, hideAll_none _ (.head _), k₂ _ _ hL₂, hLd⟩, ff_base (ff.of_keeps fun b o ho _ => ⟨o, k₂ _ _ (k _ _ ho), rfl⟩) fun L' hL' => hideAll_none _ (.tail _ hL')⟩
  · refine hideAll_get _ (k b o q) fun hm => ?_
    rcases List.mem_cons.mp hm with z | z
    · rw [z, hL] at q; cases q
    · exact nb z
  · exact (Heap.UpToSlots.of_keeps fun b o q => k₂ _ _ (k b o q)).trans u
theorem throw_next {h₁ : Heap} {Q : Unit → Shared → Prop} (hfr : A.frames = some (env :: outer)) (hf : env.frame = some L) (k : Sub h h₁) (hL : h.get? L = none) (T : Thrown h₁ (env :: outer) C msg e s.heap)
    (hQ : ∀ h', Thrown h outer C msg e h' → Q () { s with heap := h' }) : wpAny M A (leaving env (.ref e)) Q E s := by
  obtain ⟨B, D, t, hB, F, u, hDn, hD⟩ := T
  refine leave_next hfr hf F fun h' F' u' => hQ h' ⟨B, D, t, fun b o q nb => hB b o (k b o q) fun hm => ?_, F', ?_, hDn, u'.ns hD⟩
  · rw [List.filterMap_cons, hf] at hm
    rcases List.mem_cons.mp hm with z | z
    · rw [z, hL] at q; cases q
    · exact nb z
  · exact ((Heap.UpToSlots.of_keeps k).trans u).trans u'
end
/-- a call that raises the text's exception -/
noncomputable def FnX (W : Wd) (f : Str) (n : Nat) (ds : List Dt) (C : Addr) (msg : Str) : Prop := ∃ a, FnAt W f a ∧
  ∀ (A : Around) (s : Shared) (O : Addr → Prop) (vs : List Value) (Q : Value → Shared → Prop) (E : Value → Shared → Prop) (outer : List Env), Rm A n → Gd W s.heap O → DenAll s.heap O vs ds → A.frames = some outer → s.heap.FunFrames H0 outer →
    (∀ h' tk e, Thrown s.heap outer C msg e h' → E (.ref e) { s with heap := h', toks := tk }) → wpAny (model W.prog W.w) A (call (.ref a) vs) Q E s
/-- the class stands in the world -/
structure RefW (W : Wd) (C CE N fI : Addr) : Prop where
  name : W.mg "Refusal" = some (.ref C)
  rc : RC C CE N fI W.hb

noncomputable def jparts : List Expr := match (r_solve_rows.body[4]? : Option Stmt) with
  | some (.If _ [.Raise (some (.Call _ [.JoinedStr ps _] _ _)) _ _] _ _) => ps
  | _ => []
noncomputable def litAt (k : Nat) : Str := match (jparts[k]? : Option Expr) with
  | some (.Constant (.str x) _ _) => x
  | _ => Str.empty
noncomputable def msgOf (r : Int) : Str := ((((Str.empty ++ litAt 0) ++ Str.ofString (toString r)) ++ litAt 2) ++ Str.ofString (toString r)) ++ litAt 4
theorem msg_len1 : ∀ r : Int, r = 1 ∨ r = 2 ∨ r = 3 → (Str.empty ++ litAt 0).length ≤ sizeLine ∧ ((Str.empty ++ litAt 0) ++ Str.ofString (toString r)).length ≤ sizeLine ∧ (((Str.empty ++ litAt 0) ++ Str.ofString (toString r)) ++ litAt 2).length ≤ sizeLine ∧
    ((((Str.empty ++ litAt 0) ++ Str.ofString (toString r)) ++ litAt 2) ++ Str.ofString (toString r)).length ≤ sizeLine ∧ (msgOf r).length ≤ sizeLine := by
  intro r h
  rcases h with rfl | rfl | rfl <;> refine ⟨?_, ?_, ?_, ?_, ?_⟩ <;> decide +kernel
end Mine
end
section
open PySem PySem.W PyProof.Rows PySem.Calls PySem.Spec
set_option Elab.async false
set_option maxRecDepth 100000
set_option linter.unusedVariables false
namespace Mine
local macro_rules | `(tactic| k_memK) => `(tactic| first | exact At.hd (by with_reducible rfl) | exact Put.hd (by with_reducible rfl) | (refine At.tail ?_; k_memK) | (apply Put.tail; k_memK))
local macro_rules | `(tactic| kqd_in) => `(tactic| first
  | assumption
  | k_memK
  | exact Ev.int
  | exact Ev.noneC
  | exact Ev.boolC
  | refine Ev.var ?_
  | exact EvL.nil
  | refine EvL.cons ?_ ?_
  | refine Ev.num ?_
  | refine Ev.den ?_
  | apply Ev.qIsNone
  | apply EvT.qIsNone
  | refine Ev.add ?_ ?_
  | refine Ev.sub ?_ ?_
  | refine Ev.mul ?_ ?_ ?_
  | refine Ev.mod ?_ ?_ ?_
  | refine Ev.fdiv ?_ ?_ ?_ ?_
  | refine Ev.tuple ?_
  | refine EvT.cEq ?_ ?_
  | refine EvT.cNe ?_ ?_
  | refine EvT.cLt ?_ ?_
  | refine EvT.cLe ?_ ?_
  | refine EvT.cGt ?_ ?_
  | refine EvT.cGe ?_ ?_
  | refine Ev.cEq ?_ ?_
  | refine Ev.cNe ?_ ?_
  | refine Ev.cLt ?_ ?_
  | refine Ev.isNoneT ?_
  | refine EvT.not ?_
  | refine Ev.not ?_
  | refine Ev.neg ?_
  | refine EvT.op ?_
  | exact EvA.andNil
  | exact EvA.orNil
  | exact Fx.Is.glo (by assumption) (by decide +kernel))

theorem Ev.at {F : Fx} {σ : List LV} {e : Expr} {d : Dt} (h : Ev F σ e d) {O : Addr → Prop} {c : Str → Value} {s : Shared} {Q : Value → Shared → Prop} {E : Value → Shared → Prop} (g : Gd F.W s.heap O) (v : Vs F O σ c s.heap)
    (q : ∀ x h' tk, Sub s.heap h' → Den h' O x d → Q x { s with heap := h', toks := tk }) : wpAny F.M F.A (eval e F.env) Q E s := wp_no (h O c s Q g v q)
theorem jparts_eq : ∃ p1 p2 p3 p4 p5 p6 p7, jparts = [.Constant (.str (litAt 0)) 0 p1, .FormattedValue (.Name "column" p2) (-1) none p3, .Constant (.str (litAt 2)) 0 p4, .FormattedValue (.Name "column" p5) (-1) none p6, .Constant (.str (litAt 4)) 0 p7] := ⟨_, _, _, _, _, _, _, rfl⟩
theorem raise_eq : ∃ p1 p2 p3 p4 p5 p6 p7 p8, r_solve_rows.body.drop 4 = [.If (.Compare (.Name "column" p1) [.Gt] [.Constant (.int 0) 0 p2] p3) [.Raise (some (.Call (.Name "Refusal" p4) [.JoinedStr jparts p5] [] p6)) none p7] [] p8] ++ r_solve_rows.body.drop 5 := ⟨_, _, _, _, _, _, _, _, rfl⟩
theorem solve_raise {W : Wd} (R : Recs W) {C CE N fI : Addr} (X : RefW W C CE N fI) (n m : Nat) (P Q : Mx) (B : Nat) (p : Nat) (hn0 : 0 < n) (hn3 : n ≤ 3) (hnm : n + m ≤ 64) (hP : ∀ r j, r < n → j < n → Bq B (P r j)) (hQ : ∀ r j, r < n → j < m → Bq B (Q r j)) (hb : 6 * bnd B n + 4 ≤ 2 ^ 26)
    (hp : p < n) (hr1 : ∀ i, i < p → (ech n (join n P Q) (n + m)).2[i]? = some i) (hr2 : (ech n (join n P Q) (n + m)).2[p]? ≠ some p) : FnX W "solve_rows" 9 [mx n n P, mx n m Q] C (msgOf (p + 1)) := by
  obtain ⟨f, o, pm, code, doc, hm, ho, hd, hc⟩ := W.top.fn r_solve_rows R.solve_rows
  refine ⟨f, ⟨o, _, hm, ho, hd⟩, fun A s O vs Q' E outer rm g dv hfr hff q => wpAny_call (entryF h_solve_rows rfl ho hd hc rm g dv fun env S hfe s₁ I => ?_)⟩
  dsimp only [ini, List.map_cons, List.map_nil, List.cons_append, List.nil_append] at S I ⊢
  have K := S.toGood
  have hr123 : ((p : Int) + 1) = 1 ∨ ((p : Int) + 1) = 2 ∨ ((p : Int) + 1) = 3 := by omega
  refine solve_pre R n m P Q B ((p : Int) + 1) hn0 hnm hP hQ hb (.inl ⟨p, hp, hr1, hr2, rfl⟩) S ?_ s₁ I
  generalize (ech n (join n P Q) (n + m)).1 = N'
  generalize (ech n (join n P Q) (n + m)).2 = l
  obtain ⟨p1, p2, p3, p4, p5, p6, p7, p8, hbody⟩ := raise_eq
  rw [hbody]
  refine Tr.cons (Ts.ite (b := decide (((p : Int) + 1) > 0)) K ?_ (fun _ => ?_) (fun q' => ?_))
  · repeat' kqd_in
  · rintro s₂ ⟨c, m', cm, I₂⟩
    have hdep := K.room.depth
    refine wpAny_execs_cons (raise_R (C := C) (CE := CE) (N := N) (fI := fI) K.room.hand (by show _ + 10 < _; have : (A.deeper env).depth + 8 + 100 < recursionLimit := hdep; omega) (fun _ => rfl) ?_)
    refine rd_glob K.toOk (S.glo (by decide +kernel)) X.name (by decide) I₂.gd.sub _ s₂ p4 _ _ Sub.rfl ⟨rfl, ?_⟩
    obtain ⟨q1, q2, q3, q4, q5, q6, q7, hj⟩ := jparts_eq
    obtain ⟨l1, l2, l3, l4, l5⟩ := msg_len1 ((p : Int) + 1) hr123
    have hlog : ((p : Int) + 1).natAbs.log2 < 1920 := by
      rcases hr123 with e | e | e <;> rw [e] <;> decide
    have hat : At (["a", "b", "size", "joined", "rows", "pivots", "column"] : List Str) [.fz (mx n n P), .fz (mx n m Q), .fz (.int (n : Nat)), .fz (mx n (n + m) (join n P Q)), .fz (mx n (n + m) N'), .fz (.lst (intsD l)), .fz (.int ((p : Int) + 1))] "column" (.fz (.int ((p : Int) + 1))) := by k_memK
    obtain ⟨rd, hh⟩ := I₂.vs K.toOk K.toNames _ _ hat (fun e => by cases e)
    have hh' : Den s₂.heap _ (c "column") (.int ((p : Int) + 1)) := hh
    generalize c "column" = cv at rd hh'
    cases hh'
    rename_i tc
    rw [hj]
    refine JoinedStr_many (joinParts_cons (wpAny_Constant_str ⟨l1, joinParts_cons (FormattedValue_plain (rd _ _ q2 _ _ Sub.rfl (formatField_int_small hlog ⟨l2, ?_⟩)))⟩))
    refine joinParts_cons (wpAny_Constant_str ⟨l3, joinParts_cons (FormattedValue_plain (rd _ _ q5 _ _ Sub.rfl (formatField_int_small hlog ⟨l4, ?_⟩)))⟩)
    refine joinParts_cons (wpAny_Constant_str ⟨?_, joinParts_nil ?_ ?_⟩)
    · unfold msgOf at l5; exact l5
    rotate_left
    · unfold msgOf at l5; exact l5
    refine ⟨X.rc.keeps I₂.gd.sub, W.top.nolimit.keeps I₂.gd.sub, fun h' tk e t D k2 h1 h2 h3 h4 h5 => ?_⟩
    obtain ⟨oL, es, ep, hL, hLd, _⟩ := I₂.frame.toInCall.ns
    obtain ⟨h₀, t₀, e₀⟩ := I₂.frame.toInCall.same
    refine throw_first (C := C) (D := D) (h := s.heap) (h₂ := s₂.heap) (L := env.locals) (Around.frames_deeper hfr) hfe (by rw [K.kind]; decide) hff I₂.sub (ge_none I₂.frame.toInCall.fresh) hL (fun vs q => by rw [hLd] at q; cases q) k2 h1 h2 h4 rfl rfl rfl rfl h5 fun h'' T => ?_
    have := q h'' tk e T
    rw [e₀]
    exact this
  · exfalso
    have := of_decide_eq_false q'
    omega
theorem callFX {F : Fx} {σ : List LV} {O : Addr → Prop} {c : Str → Value} {s : Shared} {pos : Pos} {a : Addr} {e : Expr} {es : List Expr} {ds : List Dt} {f : Str} {Q : Value → Shared → Prop} {E : Value → Shared → Prop} (fa : FnAt F.W f a) (hs : NoStar F.env (e :: es)) (hd : EvL F σ (e :: es) ds) (g : Gd F.W s.heap O) (v : Vs F O σ c s.heap)
    (h : ∀ vs h' tk, Sub s.heap h' → DenAll h' O vs ds → wpAny F.M F.A (call (.ref a) vs) Q E { s with heap := h', toks := tk }) : wpAny F.M F.A (callWith pos (.ref a) [] (backTo pos (starEach (e :: es) F.env)) []) Q E s := by
  obtain ⟨o, fd, hm, ho, hf⟩ := fa
  refine PySem.Calls.callWith_function (o := o) (fd := fd) ?_
  have h' : wpAny F.M F.A (spliced (backTo pos (starEach (e :: es) F.env))) (fun vs s₁ => (s₁.heap.get? a = some o ∧ o.data = .func fd) ∧ wpAny F.M F.A (call (.ref a) vs) Q E s₁) E s :=
    wp_no (hd pos O c s _ g v fun vs h₁ t₁ k₁ d₁ => ⟨⟨k₁ _ _ (g.sub _ _ ho), hf⟩, h vs h₁ t₁ k₁ d₁⟩)
  rw [hs.1] at h' ⊢
  exact evalArgs_plain h'
/-- an expression that calls a def which raises -/
theorem call_throws {F : Fx} {σ : List LV} {O : Addr → Prop} {c : Str → Value} {s : Shared} {f : Str} {n : Nat} {e : Expr} {es : List Expr} {ds : List Dt} {C : Addr} {msg : Str} {p pos : Pos} {Q : Value → Shared → Prop} {E : Value → Shared → Prop} {outer : List Env} (K : F.Ok) (hd : EvL F σ (e :: es) ds) (h : FnX F.W f n ds C msg) (hn : n ≤ F.n)
    (g : Gd F.W s.heap O) (v : Vs F O σ c s.heap) (hfr : F.A.frames = some outer) (hff : s.heap.FunFrames H0 outer) (q : ∀ h₁ h' tk e, Sub s.heap h₁ → Thrown h₁ outer C msg e h' → E (.ref e) { s with heap := h', toks := tk }) (hx : F.env.kindOf f = some .globalImplicit)
    (hs : NoStar F.env (e :: es)) (hdb : (f == ("__debug__" : Str)) = false := by decide) : wpAny F.M F.A (eval (.Call (.Name f p) (e :: es) [] pos) F.env) Q E s := by
  obtain ⟨a, fa, h⟩ := h
  refine call_any (rd_glob K hx fa.choose_spec.choose_spec.1 hdb g.sub _ s p _ _ Sub.rfl (callFX fa hs hd g v fun vs h₁ t₁ k₁ d₁ => ?_))
  exact h F.A { s with heap := h₁, toks := t₁ } O vs _ _ outer (K.room.le hn) (g.mono k₁) d₁ hfr (hff.of_keeps fun b o e _ => ⟨o, k₁ b o e, rfl⟩) fun h' tk e T => q h₁ h' tk e k₁ T
theorem inverse_run {W : Wd} (R : Recs W) (n : Nat) (P : Mx) (B : Nat) (hB : 1 ≤ B) (hn0 : 0 < n) (hn : n + n ≤ 64) (hP : ∀ r j, r < n → j < n → Bq B (P r j)) (hb : 6 * bnd B n + 4 ≤ 2 ^ 26)
    (hr : ∀ i, i < n → (ech n (join n P idM) (n + n)).2[i]? = some i) : Fn W "inverse" 10 [mx n n P] (mx n n fun r j => (ech n (join n P idM) (n + n)).1 r (n + j)) := by
  refine Fn.intro h_inverse R.inverse rfl fun env A s₀ O₀ S => ?_
  dsimp only [ini, List.map_cons, List.map_nil, List.cons_append, List.nil_append] at S ⊢
  have K := S.toGood
  have bl : Bui ⟨W, env, A, ["a"], 9⟩ "len" (.builtin "len") := S.bui (by decide +kernel) R.b_len (by decide +kernel) (by decide +kernel) (by decide +kernel)
  have hI : ∀ r j, r < n → j < n → Bq B (idM r j) := fun r j _ _ => by
    unfold idM
    split
    · exact bz1.mono hB
    · exact bz0.mono hB
  refine Tr.cons (Ts.ret (d := mx n n fun r j => (ech n (join n P idM) (n + n)).1 r (n + j)) K ?_ fun v h' tk k d => ?_)
  · refine Ev.call (n := 9) (ds := [mx n n P, mx n n idM]) K.toOk ?_ (solve_run R n n P idM B hn0 hn hP hI hb hr) (Nat.le_of_ble_eq_true rfl) (S.glo (by decide +kernel))
    refine EvL.cons (Ev.var (by k_memK)) (EvL.cons ?_ EvL.nil)
    refine Ev.call (n := 1) (ds := [.int (n : Nat)]) K.toOk ?_ (identity_run R n (by omega)) (Nat.le_of_ble_eq_true rfl) (S.glo (by decide +kernel))
    exact EvL.cons (Ev.lenM K.toOk bl (Ev.var (by k_memK)) (by omega)) EvL.nil
  · exact ⟨h', tk, rfl, k, d⟩
theorem inverse_raise {W : Wd} (R : Recs W) {C : Addr} {msg : Str} (n : Nat) (P : Mx) (hn : n + n ≤ 64) (hX : FnX W "solve_rows" 9 [mx n n P, mx n n idM] C msg) : FnX W "inverse" 10 [mx n n P] C msg := by
  obtain ⟨f, o, pm, code, doc, hm, ho, hd, hc⟩ := W.top.fn r_inverse R.inverse
  refine ⟨f, ⟨o, _, hm, ho, hd⟩, fun A s O vs Q' E outer rm g dv hfr hff q => wpAny_call (entryF h_inverse rfl ho hd hc rm g dv fun env S hfe s₁ I => ?_)⟩
  dsimp only [ini, List.map_cons, List.map_nil, List.cons_append, List.nil_append] at S I ⊢
  have K := S.toGood
  have bl : Bui ⟨W, env, A.deeper env, ["a"], 9⟩ "len" (.builtin "len") := S.bui (by decide +kernel) R.b_len (by decide +kernel) (by decide +kernel) (by decide +kernel)
  obtain ⟨c, m', cm, I⟩ := I
  obtain ⟨oL, es, ep, hL, hLd, _⟩ := I.frame.toInCall.ns
  obtain ⟨h₀, t₀, e₀⟩ := I.frame.toInCall.same
  refine wpAny_execs_cons (wpAny_Return_some ?_)
  refine call_throws (F := ⟨W, env, A.deeper env, ["a"], 9⟩) (σ := [.fz (mx n n P)]) (n := 9) (ds := [mx n n P, mx n n idM]) (outer := env :: outer) K.toOk ?_ hX (Nat.le_of_ble_eq_true rfl) I.gd (I.vs K.toOk K.toNames) (Around.frames_deeper hfr) ?_ (fun h₁ h' tk e k₁ T => ?_) (S.glo (by decide +kernel)) (by exact ⟨rfl, rfl, trivial⟩)
  · refine EvL.cons (Ev.var (by k_memK)) (EvL.cons ?_ EvL.nil)
    refine Ev.call (n := 1) (ds := [.int (n : Nat)]) K.toOk ?_ (identity_run R n (by omega)) (Nat.le_of_ble_eq_true rfl) (S.glo (by decide +kernel))
    exact EvL.cons (Ev.lenM K.toOk bl (Ev.var (by k_memK)) (by omega)) EvL.nil
  · exact ⟨by rw [K.kind]; decide, ⟨env.locals, oL, hfe, rfl, hL, fun vs q => by rw [hLd] at q; cases q⟩, hff.of_keeps fun b o e _ => ⟨o, I.sub b o e, rfl⟩⟩
  · refine throw_next (C := C) (h := s.heap) (h₁ := h₁) (L := env.locals) (Around.frames_deeper hfr) hfe (I.sub.trans k₁) (ge_none I.frame.toInCall.fresh) T fun h'' T' => ?_
    have := q h'' tk e T'
    rw [e₀]
    exact this

end Mine
end
section
open PySem PySem.W PyProof.Rows PySem.Calls PySem.Spec
set_option Elab.async false
set_option maxRecDepth 100000
set_option linter.unusedVariables false
namespace Mine
mutual
theorem Den.slots {h h' : Heap} {O O' : Addr → Prop} (u : h.UpToSlots h') (k : ∀ b, ¬ O b → ¬ O' b) : ∀ {v : Value} {d : Dt}, Den h O v d → Den h' O' v d
  | _, _, .none => .none
  | _, _, .bool b => .bool b
  | _, _, .int i t => .int i t
  | _, _, .str x t => .str x t
  | _, _, .tup x n r => by
    obtain ⟨o, e, c, q, hd⟩ := x
    obtain ⟨sl, e'⟩ := u _ o e fun vs z => by rw [hd] at z; cases z
    exact .tup ⟨_, e', c, q, hd⟩ (k _ n) (DenAll.slots u k r)
  | _, _, .lst x n r => by
    obtain ⟨o, e, c, q, hd⟩ := x
    obtain ⟨sl, e'⟩ := u _ o e fun vs z => by rw [hd] at z; cases z
    exact .lst ⟨_, e', c, q, hd⟩ (k _ n) (DenAll.slots u k r)
theorem DenAll.slots {h h' : Heap} {O O' : Addr → Prop} (u : h.UpToSlots h') (k : ∀ b, ¬ O b → ¬ O' b) : ∀ {vs : List Value} {ds : List Dt}, DenAll h O vs ds → DenAll h' O' vs ds
  | _, _, .nil => .nil
  | _, _, .cons a r => .cons (Den.slots u k a) (DenAll.slots u k r)
end
section
variable {F : Fx} {s₀ s : Shared} {O₀ : Addr → Prop} {Z : Ex} {σ σ' σ₁ : List LV} {c : Str → Value} {m cm : Str → Option Value} {Φ : Flow → Shared → Prop} {E : Value → Shared → Prop}
/-- a name of which nothing is known changes -/
theorem InvC.forget {m' : Str → Option Value} {h' : Heap} {tk : Nat} {x : Str} (K : F.Ok) (N : F.Names) (I : InvC F s₀ O₀ Z σ c m cm s) (hx : At F.ns σ x .un) (hs : Heap.SameBut F.env.locals s.heap h') (hn : h'.Ns F.env.locals m') (hm : ∀ y, y ≠ x → m' y = m y) :
    InvC F s₀ O₀ Z σ c m' cm { s with heap := h', toks := tk } := by
  have same : ∀ b o, b ≠ F.env.locals → s.heap.get? b = some o → h'.get? b = some o := fun b o nb e => (hs.2 b nb).trans e
  have J := I.frame
  have mv : ∀ {w d}, Den s.heap (Om F O₀ Z σ c) w d → Den h' (Om F O₀ Z σ c) w d := fun z => z.move fun b o nb e => ⟨same b o (fun q => nb (.inr (.inl q))) e, nb⟩
  have mvA : ∀ {w d}, DenAll s.heap (Om F O₀ Z σ c) w d → DenAll h' (Om F O₀ Z σ c) w d := fun z => z.move fun b o nb e => ⟨same b o (fun q => nb (.inr (.inl q))) e, nb⟩
  refine ⟨⟨⟨?_, hn, fun b o e => same b o (Nat.ne_of_lt (Nat.lt_of_lt_of_le (Heap.lt_size e) J.toInCall.fresh)) (J.toInCall.keep b o e), J.toInCall.fresh⟩, fun y b hb => ?_, J.apart, J.above⟩, I.base, fun y l a nl => ?_, fun y l a nl => ?_, I.own, I.apart, fun p hp => ?_, fun p hp => mv (I.tmp p hp)⟩
  · obtain ⟨h₁, t, e⟩ := J.toInCall.same
    exact ⟨h', tk, by rw [e]⟩
  · exact (J.cell y b hb).sameBut hs (Nat.ne_of_gt (J.above y b (mem_of_lookup hb)))
  · have ny : y ≠ x := fun q => by subst q; exact nl (At.uniq K.nodup a hx)
    rw [← I.val y l a nl]
    unfold slotV
    split
    · rw [hm y ny]
    · rfl
    · rfl
  · have h := I.has y l a nl
    cases l with
    | un => exact trivial
    | fz d => exact mv h
    | ow pl ds =>
      obtain ⟨b, vs, eb, lb, r⟩ := h
      have nb : b ≠ F.env.locals := (I.own y pl ds b a eb).2.1
      refine ⟨b, vs, eb, ?_, mvA r⟩
      cases pl with
      | true => exact Heap.PlainList.at lb fun o e => same _ _ nb e
      | false => exact isList_sub lb fun o e => same _ _ nb e
  · obtain ⟨l1, l2, l3, l4, l5⟩ := I.led p hp
    exact ⟨same _ _ l3 l1, l2, l3, l4, l5⟩
/-- the frames' own slots change -/
theorem InvC.slots {B h₁ h₂ : Heap} {tk : Nat} {Lo : Addr} {oo : Obj} (I : InvC F s₀ O₀ { led := [(Lo, oo)] } σ c m cm s) (k : Sub s.heap h₁) (hB : ∀ b o, h₁.get? b = some o → b ≠ F.env.locals → b ≠ Lo → B.get? b = some o) (hst : B.StaysIn h₂) (u : h₁.UpToSlots h₂) (hoo : ∀ vs, oo.data ≠ .fields vs) :
    ∃ sl, InvC F s₀ O₀ { led := [(Lo, { oo with slots := sl })] } σ c m cm { s with heap := h₂, toks := tk } := by
  have us : s.heap.UpToSlots h₂ := (Heap.UpToSlots.of_keeps k).trans u
  obtain ⟨l1, l2, l3, l4, l5⟩ := I.led _ (.head _)
  obtain ⟨sl, hsl⟩ := us _ _ l1 hoo
  refine ⟨sl, ?_⟩
  have same : ∀ b o, b ≠ F.env.locals → b ≠ Lo → s.heap.get? b = some o → h₂.get? b = some o := fun b o n1 n2 e => hst b o (hB b o (k b o e) n1 n2)
  have J := I.frame
  have le : ∀ b, Om F O₀ { led := [(Lo, { oo with slots := sl })] } σ c b → Om F O₀ { led := [(Lo, oo)] } σ c b := by
    intro b q
    rcases q with q | q | q | q | ⟨w, q⟩
    · exact .inl q
    · exact .inr (.inl q)
    · exact .inr (.inr (.inl q))
    · exact .inr (.inr (.inr (.inl q)))
    · rcases List.mem_cons.mp q with q | q
      · cases q; exact .inr (.inr (.inr (.inr ⟨oo, .head _⟩)))
      · cases q
  have mv : ∀ {w d}, Den s.heap (Om F O₀ { led := [(Lo, oo)] } σ c) w d → Den h₂ (Om F O₀ { led := [(Lo, { oo with slots := sl })] } σ c) w d := fun z => z.slots us fun b nb q => nb (le b q)
  have mvA : ∀ {w d}, DenAll s.heap (Om F O₀ { led := [(Lo, oo)] } σ c) w d → DenAll h₂ (Om F O₀ { led := [(Lo, { oo with slots := sl })] } σ c) w d := fun z => z.slots us fun b nb q => nb (le b q)
  refine ⟨⟨⟨?_, us.ns J.toInCall.ns, fun b o e => same b o (Nat.ne_of_lt (Nat.lt_of_lt_of_le (Heap.lt_size e) J.toInCall.fresh)) (fun q => by rw [q, l2] at e; cases e) (J.toInCall.keep b o e), J.toInCall.fresh⟩, fun y b hb => ?_, J.apart, J.above⟩, I.base, I.val, fun y l a nl => ?_, I.own, I.apart, fun p hp => ?_, fun p hp => nomatch hp⟩
  · obtain ⟨h', t, e⟩ := J.toInCall.same
    exact ⟨h₂, tk, by rw [e]⟩
  · obtain ⟨o, e, hd⟩ := J.cell y b hb
    obtain ⟨sl', e'⟩ := us b o e fun vs q => by rw [hd] at q; cases q
    exact ⟨_, e', hd⟩
  · have h := I.has y l a nl
    cases l with
    | un => exact trivial
    | fz d => exact mv h
    | ow pl ds =>
      obtain ⟨b, vs, eb, lb, r⟩ := h
      have n1 : b ≠ F.env.locals := (I.own y pl ds b a eb).2.1
      have n2 : b ≠ Lo := fun q => l5 y pl ds a (by rw [eb, q])
      refine ⟨b, vs, eb, ?_, mvA r⟩
      cases pl with
      | true => exact Heap.PlainList.at lb fun o e => same _ _ n1 n2 e
      | false => exact isList_sub lb fun o e => same _ _ n1 n2 e
  · rcases List.mem_cons.mp hp with rfl | hp
    · exact ⟨hsl, l2, l3, l4, l5⟩
    · cases hp
/-- the caller's frame is set aside -/
theorem InvC.aside {Lo : Addr} {oo : Obj} (I : InvC F s O₀ {} σ c m cm s') (hLo : s.heap.get? Lo = some oo) (hO : O₀ Lo) : InvC F { s with heap := s.heap.hide Lo } (fun b => O₀ b ∧ b ≠ Lo) { led := [(Lo, oo)] } σ c m cm s' := by
  have hk0 : ∀ b o, b ≠ Lo → s.heap.get? b = some o → (s.heap.hide Lo).get? b = some o := fun b o nb e => (Heap.hide_ne _ nb).trans e
  have J := I.frame
  have le : ∀ b, Om F (fun b => O₀ b ∧ b ≠ Lo) { led := [(Lo, oo)] } σ c b → Om F O₀ {} σ c b := by
    intro b q
    rcases q with q | q | q | q | ⟨w, q⟩
    · exact .inl q.1
    · exact .inr (.inl q)
    · exact .inr (.inr (.inl q))
    · exact .inr (.inr (.inr (.inl q)))
    · rcases List.mem_cons.mp q with q | q
      · cases q; exact .inl hO
      · cases q
  have mv : ∀ {w d}, Den s'.heap (Om F O₀ {} σ c) w d → Den s'.heap (Om F (fun b => O₀ b ∧ b ≠ Lo) { led := [(Lo, oo)] } σ c) w d := fun z => z.move fun b o nb e => ⟨e, fun q => nb (le b q)⟩
  have mvA : ∀ {w d}, DenAll s'.heap (Om F O₀ {} σ c) w d → DenAll s'.heap (Om F (fun b => O₀ b ∧ b ≠ Lo) { led := [(Lo, oo)] } σ c) w d := fun z => z.move fun b o nb e => ⟨e, fun q => nb (le b q)⟩
  have lt : @LT.lt Nat _ Lo s.heap.objs.size := Heap.lt_size hLo
  have fr : @LE.le Nat _ s.heap.objs.size F.env.locals := J.toInCall.fresh
  refine ⟨⟨⟨?_, J.toInCall.ns, fun b o e => J.toInCall.keep b o (Heap.of_hide e), by show (s.heap.hide Lo).objs.size ≤ _; rw [Heap.hide_size]; exact J.toInCall.fresh⟩, J.cell, J.apart, J.above⟩,
    ⟨fun b o e => hk0 b o (fun q => by rw [q, I.base.off Lo hO] at e; cases e) (I.base.sub b o e), fun b q => I.base.off b q.1, fun b q => let ⟨o, e⟩ := I.base.live b q.1; ⟨o, hk0 b o q.2 e⟩⟩, I.val, fun y l a nl => ?_, fun y pl ds a q e => ?_, I.apart, fun p hp => ?_, fun p hp => nomatch hp⟩
  · obtain ⟨h₁, tk, e⟩ := J.toInCall.same
    exact ⟨h₁, tk, by rw [e]⟩
  · have h := I.has y l a nl
    cases l with
    | un => exact trivial
    | fz d => exact mv h
    | ow pl ds =>
      obtain ⟨b, vs, eb, lb, r⟩ := h
      exact ⟨b, vs, eb, lb, mvA r⟩
  · obtain ⟨h1, h2, h3⟩ := I.own y pl ds a q e
    refine ⟨?_, h2, h3⟩
    cases z : (s.heap.hide Lo).get? a with
    | none => rfl
    | some o => rw [Heap.of_hide z] at h1; cases h1
  · rcases List.mem_cons.mp hp with rfl | hp
    · refine ⟨J.toInCall.keep _ _ hLo, Heap.hide_self _ _, fun z => ?_, fun y b hb z => ?_, fun x pl ds q e => ?_⟩
      · have z' : @Eq Nat Lo F.env.locals := z
        omega
      · have z' : @Eq Nat Lo b := z
        have ab : @LT.lt Nat _ F.env.locals b := J.above y b (mem_of_lookup hb)
        omega
      · have := (I.own x pl ds Lo q e).1
        rw [hLo] at this; cases this
    · cases hp
end
end Mine
end
section
open PySem PySem.W PyProof.Rows PySem.Calls PySem.Spec
set_option Elab.async false
set_option maxRecDepth 100000
set_option linter.unusedVariables false
namespace Mine
theorem handleBy_R {prog : Program} {w : World} {A : Around} {E : Value → Shared → Prop} {s : Shared} {env : Env} {C CE N fI e : Addr} {t : Expr} {n : Str} {b₀ : Stmt} {suite : List Stmt} {pos : Pos} {rest : List ExceptHandler} {Q : Flow → Shared → Prop}
    (h : wpAny (model prog w) (A.mark (some (.ref e))) (eval t env) (fun c s₁ => c = .ref C ∧ RC C CE N fI s₁.heap ∧ (∃ oe, s₁.heap.get? e = some oe ∧ oe.cls = .ref C) ∧
      wpAny (model prog w) (A.mark (some (.ref e))) (setFlight (.ref e) none) (fun _ s₂ =>
          wpAny (model prog w) (A.mark (some (.ref e))) (storeName env n (.ref e)) (fun _ s₃ =>
            wpAny (model prog w) (A.mark (some (.ref e))) (execs (b₀ :: suite) env)
              (fun f s₄ => wpAny (model prog w) A (do bindName env n .none; unbindBehindTheSuite env n pos) (fun _ s₅ => Q f s₅) E s₄)
              (AsSuiteRaised (model prog w) (A.mark (some (.ref e))) env n pos (notedBy (model prog w) (A.mark (some (.ref e))) env (cameBackBy (model prog w) A env E))) s₃) (notedBy (model prog w) (A.mark (some (.ref e))) env (cameBackBy (model prog w) A env E)) s₂) (notedBy (model prog w) (A.mark (some (.ref e))) env (cameBackBy (model prog w) A env E)) s₁) (notedBy (model prog w) (A.mark (some (.ref e))) env (cameBackBy (model prog w) A env E)) s) :
    wpAny (model prog w) A (handleBy (.ref e) env (.ExceptHandler (some t) (some n) (b₀ :: suite) pos :: rest)) Q E s := by
  refine wpAny_handleBy_cons (codeAny_handlers_test (wpAny_mono h (fun c s₁ h₁ => ?_) fun _ _ y => y)) (by intro q; cases q)
  obtain ⟨rfl, X, ⟨oe, he, hcls⟩, hk⟩ := h₁
  obtain ⟨nm, q, bs, sn, sub, ab, col, dd, k0, k1, k2, k3, k5, hC⟩ := X.cls
  obtain ⟨hh, g, d, tk, os⟩ := s₁
  exact wpAny_excMatches_sub_self hC he hcls ((X_tail X).hasType PySem.F.excBase_Exception.hasBase) (codeAny_handlers_suite_as hk)

section
variable {F : Fx} {s₀ s : Shared} {O₀ : Addr → Prop} {σ σ' : List LV} {c : Str → Value} {m cm : Str → Option Value} {Φ : Flow → Shared → Prop} {E : Value → Shared → Prop}
theorem try_R {C CE N fI Lo : Addr} {oo : Obj} {envO : Env} {f : Str} {nf : Nat} {e : Expr} {es : List Expr} {ds rs : List Dt} {msg : Str} {pf pc pe p1 p2 p3 p4 p5 p6 p7 p8 p9 : Pos} {pl : Sem Bool} (K : F.Good) (X : RefW F.W C CE N fI)
    (hfr : F.A.frames = some [F.env, envO]) (hfe : F.env.frame = some F.env.locals) (hfo : envO.frame = some Lo) (hko : envO.scope.kind ≠ .module) (hoo : ∀ vs, oo.data ≠ .fields vs)
    (hd : EvL F σ (e :: es) ds) (h : FnX F.W f nf ds C msg) (hn : nf ≤ F.n) (hx : At F.ns σ "refused" (.ow true rs)) (hp : Put F.ns σ "refused" (.ow true (rs ++ [.str msg])) σ') (hu : At F.ns σ "error" .un) (hu' : At F.ns σ' "error" .un) (hrs : rs.length < 2 ^ 20)
    (hxf : F.env.kindOf f = some .globalImplicit) (hxR : F.env.kindOf "Refusal" = some .globalImplicit) (hlo : F.env.kindOf "error" = some .local) (hlr : F.env.kindOf "refused" = some .local) (hs : NoStar F.env (e :: es)) (hi : interactive F.env = false) (hdb : (f == ("__debug__" : Str)) = false)
    (hm : ∀ (M : Model) (A : Around), eval (.Call (.Attribute (.Name "refused" p2) "append" p3) [.Attribute (.Name "error" p4) "message" p5] [] p6) F.env = (do
      let ov ← eval (.Name "refused" p2) F.env
      standAt p3.atName
      let (f, first) ← holding [ov] (getMethod ov "append" pl)
      callWith p6 f first (backTo p6 (starEach [.Attribute (.Name "error" p4) "message" p5] F.env)) []))
    (hsw : swapsWith (.Call (.Name f pf) (e :: es) [] pc) none pe.line F.env = pure false) (hsw2 : swapsWith (.Call (.Attribute (.Name "refused" p2) "append" p3) [.Attribute (.Name "error" p4) "message" p5] [] p6) none p7.line F.env = pure false)
    (hI : Inv F s₀ O₀ { led := [(Lo, oo)] } σ s) (k : ∀ s' sl, Inv F s₀ O₀ { led := [(Lo, { oo with slots := sl })] } σ' s' → Φ .next s') :
    wpAny F.M F.A (exec (.Try [.Expr (.Call (.Name f pf) (e :: es) [] pc) pe] [.ExceptHandler (some (.Name "Refusal" p1)) (some "error") [.Expr (.Call (.Attribute (.Name "refused" p2) "append" p3) [.Attribute (.Name "error" p4) "message" p5] [] p6) p7] p8] [] [] p9) F.env) Φ E s := by
  obtain ⟨c, m, cm, I⟩ := hI
  obtain ⟨oL, esL, epL, hL, hLd, _⟩ := I.frame.toInCall.ns
  obtain ⟨l1, l2, l3, l4, l5⟩ := I.led _ (.head _)
  have ff : s.heap.FunFrames H0 [F.env, envO] := ⟨by rw [K.kind]; decide, ⟨F.env.locals, oL, hfe, rfl, hL, fun vs q => by rw [hLd] at q; cases q⟩, hko, ⟨Lo, oo, hfo, rfl, l1, hoo⟩, trivial⟩
  refine wpAny_Try_except (wpAny_execs_cons (wpAny_Expr (call_throws (outer := [F.env, envO]) K.toOk hd h hn I.gd (I.vs K.toOk K.toNames) hfr ff (fun h₁ h' tk e k₁ T => ?_) hxf hs hdb) hi hsw))
  obtain ⟨B, D, t, hB, FD, u, hDn, hD⟩ := T
  have hB' : ∀ b o, h₁.get? b = some o → b ≠ F.env.locals → b ≠ Lo → B.get? b = some o := fun b o q n1 n2 => hB b o q fun hm => by
    rw [List.filterMap_cons, hfe, List.filterMap_cons, hfo, List.filterMap_nil] at hm
    rcases List.mem_cons.mp hm with z | z
    · exact n1 z
    · rcases List.mem_cons.mp z with z | z
      · exact n2 z
      · cases z
  have hbB : Sub F.W.hb B := fun b o q => hB' b o (k₁ b o (I.gd.sub b o q)) (fun z => by
      have := I.gd.off b (.inr (.inl z)); rw [q] at this; cases this) fun z => by
      have := I.gd.off b (.inr (.inr (.inr (.inr ⟨oo, by rw [z]; exact .head _⟩)))); rw [q] at this; cases this
  refine note_on (s := { s with heap := h', toks := tk }) hfr hfe FD fun h₃ FD₃ u₃ => ?_
  refine flight_off (s := { s with heap := h₃, toks := tk }) FD₃ fun h₄ FD₄ u₄ => ?_
  refine handleBy_R (C := C) (CE := CE) (N := N) (fI := fI) ?_
  refine rd_glob (h := h₄) K.toOk hxR X.name (by decide) (hbB.trans FD₄.stays) _ { s with heap := h₄, toks := tk } p1 _ _ Sub.rfl ⟨rfl, X.rc.keeps (hbB.trans FD₄.stays), ?_, ?_⟩
  · obtain ⟨oe, vs, T, oT, ts, he, hc, _⟩ := FD₄.tr
    exact ⟨oe, he, hc⟩
  refine flight_off (s := { s with heap := h₄, toks := tk }) FD₄ fun h₅ FD₅ u₅ => ?_
  have uu : h₁.UpToSlots h₅ := ((u.trans u₃).trans u₄).trans u₅
  obtain ⟨sl, I₅⟩ := I.slots (tk := tk) (h₂ := h₅) k₁ hB' FD₅.stays uu hoo
  have hD₅ : h₅.Ns D (msgNs msg t) := ((u₃.trans u₄).trans u₅).ns hD
  obtain ⟨oe, vs, T, oT, ts, he, hc, hdd, hdt, _⟩ := FD₅.tr
  have eL : e ≠ F.env.locals := fun q => by
    obtain ⟨_, _, _, hL₅, hLd₅, _⟩ := I₅.frame.toInCall.ns
    rw [← q] at hL₅
    have hL₅' : h₅.get? e = _ := hL₅
    rw [he] at hL₅'
    cases hL₅'
    rw [hdt] at hLd₅
    cases hLd₅
  have DL : D ≠ F.env.locals := fun q => by
    obtain ⟨o1, es1, ep1, g1, d1, s1, f1⟩ := hD₅
    obtain ⟨o2, es2, ep2, g2, d2, s2, f2⟩ := I₅.frame.toInCall.ns
    have g2' : h₅.get? F.env.locals = some o2 := g2
    rw [q, g2'] at g1
    cases g1
    rw [d1] at d2
    cases d2
    have v := I₅.val _ _ hx (fun e => by cases e)
    unfold slotV at v
    rw [hlr] at v
    have z1 := f1 "refused"
    have z2 := f2 "refused"
    rw [z1] at z2
    have v' : _ = some (c "refused") := z2.trans v
    have e0 : msgNs msg t "refused" = none := if_neg (by decide)
    rw [e0] at v'
    cases v'
  refine wpAny_storeName_local hlo I₅.frame.toInCall.ns (fun h₆ hn₆ hs₆ => ?_) (by rw [K.kind]; rfl)
  have I₆ := I₅.forget (tk := tk + 1) (x := "error") K.toOk K.toNames hu hs₆ hn₆ (fun y ny => by simp [ny])
  have he₆ : h₆.get? e = some oe := (hs₆.2 e eL).trans he
  have hD₆ : h₆.Ns D (msgNs msg t) := hD₅.sameBut hs₆ DL
  have X₆ := X.rc.keeps I₆.gd.sub
  obtain ⟨rd, hh⟩ := I₆.vs K.toOk K.toNames _ _ hx (fun e => by cases e)
  obtain ⟨a, ws, ea, ⟨nn, la⟩, r⟩ := hh
  refine wpAny_execs_cons (wpAny_mono (Q := fun f s₄ => f = .next ∧ Inv F s₀ O₀ { led := [(Lo, { oo with slots := sl })] } σ' s₄) (wpAny_Expr (MethodCall_ (rd _ { s with heap := h₆, toks := tk + 1 } p2 _ _ Sub.rfl ?_) (hm F.M F.A)) hi hsw2) (fun f s₄ q => ?_) fun _ _ y => y)
  · rw [ea]
    refine getMethod_list_append la rfl rfl ?_
    dsimp only
    refine callWith_builtin rfl ?_
    show wpAny _ _ (evalArgs _ true [(false, eval (.Attribute (.Name "error" p4) "message" p5) F.env)] []) _ _ _
    refine evalArgs_plain (spliced_cons (Attribute_name ?_))
    refine wpAny_Name (wpAny_loadName_local K.kind hlo hn₆ (if_pos rfl) ?_) (by decide)
    refine get_attr_R (h := h₆) X₆ he₆ hc hdd hdt hD₆ (if_pos rfl) (spliced_nil ?_)
    refine wpAny_list_append_plain (s := { s with heap := h₆, toks := tk + 1 + 1 }) ⟨nn, la⟩ (fun h₇ l₇ s₇ => ?_) (by
      have := r.length; have h1 : rs.length < 1048576 := hrs; show ws.toArray.size ≤ 16777216; simp; omega)
    refine ⟨rfl, c, _, cm, InvC.mutate (s := { s with heap := h₆, toks := tk + 1 }) (tk := tk + 1 + 1) (vs' := ws ++ [.str msg t]) K.toOk I₆ Sub.rfl hx ea hp s₇.extBut ?_ (r.append (.one (.str _ _)))⟩
    simpa using l₇
  · obtain ⟨rfl, c', m', cm', I₇⟩ := q
    refine wpAny_execs_nil (wpAny_nameGoes_keeps hlo I₇.frame.toInCall.ns (by rw [K.kind]; rfl) fun h₈ v hn₈ hs₈ => ?_)
    exact k _ sl ⟨c', _, cm', I₇.forget (x := "error") K.toOk K.toNames hu' hs₈ hn₈ fun y ny => by simp [ny]⟩
end
end Mine
end
section
open PySem PySem.W PyProof.Rows PySem.Calls PySem.Spec
set_option Elab.async false
set_option maxRecDepth 100000
set_option linter.unusedVariables false
namespace Mine
local macro_rules | `(tactic| k_memK) => `(tactic| first | exact At.hd (by with_reducible rfl) | exact Put.hd (by with_reducible rfl) | (refine At.tail ?_; k_memK) | (apply Put.tail; k_memK))
local macro_rules | `(tactic| kqd_in) => `(tactic| first
  | assumption
  | k_memK
  | exact Ev.int
  | exact Ev.noneC
  | exact Ev.boolC
  | refine Ev.var ?_
  | exact EvL.nil
  | refine EvL.cons ?_ ?_
  | refine Ev.num ?_
  | refine Ev.den ?_
  | apply Ev.qIsNone
  | apply EvT.qIsNone
  | refine Ev.add ?_ ?_
  | refine Ev.sub ?_ ?_
  | refine Ev.mul ?_ ?_ ?_
  | refine Ev.mod ?_ ?_ ?_
  | refine Ev.fdiv ?_ ?_ ?_ ?_
  | refine Ev.tuple ?_
  | refine EvT.cEq ?_ ?_
  | refine EvT.cNe ?_ ?_
  | refine EvT.cLt ?_ ?_
  | refine EvT.cLe ?_ ?_
  | refine EvT.cGt ?_ ?_
  | refine EvT.cGe ?_ ?_
  | refine Ev.cEq ?_ ?_
  | refine Ev.cNe ?_ ?_
  | refine Ev.cLt ?_ ?_
  | refine Ev.isNoneT ?_
  | refine EvT.not ?_
  | refine Ev.not ?_
  | refine Ev.neg ?_
  | refine EvT.op ?_
  | exact EvA.andNil
  | exact EvA.orNil
  | exact Fx.Is.glo (by assumption) (by decide +kernel))

/-- a call below one frame, whose own slots may change -/
noncomputable def FnR (W : Wd) (f : Str) (n : Nat) (ds : List Dt) (d : Dt) : Prop := ∃ a, FnAt W f a ∧
  ∀ (A : Around) (s : Shared) (O : Addr → Prop) (vs : List Value) (Q : Value → Shared → Prop) (envO : Env) (Lo : Addr) (oo : Obj), Rm A n → Gd W s.heap O → DenAll s.heap O vs ds → A.frames = some [envO] → envO.frame = some Lo → envO.scope.kind ≠ .module → s.heap.get? Lo = some oo → (∀ vs, oo.data ≠ .fields vs) → O Lo →
    (∀ v h' tk sl, (∀ b o, b ≠ Lo → s.heap.get? b = some o → h'.get? b = some o) → h'.get? Lo = some { oo with slots := sl } → Den h' O v d → Q v { s with heap := h', toks := tk }) → wpAny (model W.prog W.w) A (call (.ref a) vs) Q (fun _ _ => False) s
theorem refuses_run {W : Wd} (R : Recs W) {C CE N fI : Addr} (X : RefW W C CE N fI) (n m : Nat) (P Q : Mx) (msg : Str) (hmsg : PyData.strOk msg = true) (hinv : FnX W "inverse" 10 [mx n n P] C msg) (hsol : FnX W "solve_rows" 9 [mx n n P, mx n m Q] C msg) :
    FnR W "_law_refuses" 11 [mx n n P, mx n m Q] (.bool true) := by
  obtain ⟨f, o, pm, code, doc, hm, ho, hd, hc⟩ := W.top.fn r__law_refuses R.law_refuses
  refine ⟨f, ⟨o, _, hm, ho, hd⟩, fun A s O vs Q' envO Lo oo rm g dv hfr hfo hko hLo hoo hOL q => wpAny_call (entryF h__law_refuses rfl ho hd hc rm g dv fun env S hfe s₁ I => ?_)⟩
  dsimp only [ini, List.map_cons, List.map_nil, List.cons_append, List.nil_append] at S I ⊢
  have K := S.toGood
  have hfr' : (A.deeper env).frames = some [env, envO] := Around.frames_deeper hfr
  have bl : Bui ⟨W, env, A.deeper env, ["grid", "right", "refused", "error"], 10⟩ "len" (.builtin "len") := S.bui (by decide +kernel) R.b_len (by decide +kernel) (by decide +kernel) (by decide +kernel)
  obtain ⟨c, m', cm, I⟩ := I
  have I' := I.aside hLo hOL
  refine wp_no ((Tr.cons (Ts.assignN (F := ⟨W, env, A.deeper env, ["grid", "right", "refused", "error"], 10⟩) (pl := true) (ds := []) (σ' := [.fz (mx n n P), .fz (mx n m Q), .ow true [], .un]) K (EvN.list EvL.nil) (by k_memK) (fun s' J => ?_) rfl) : Tr ⟨W, env, A.deeper env, ["grid", "right", "refused", "error"], 10⟩ _ _ _ _ r__law_refuses.body _ (fun _ _ => False)) s₁ ⟨c, m', cm, I'⟩)
  refine wpAny_execs_cons (try_R (σ := [.fz (mx n n P), .fz (mx n m Q), .ow true [], .un]) (σ' := [.fz (mx n n P), .fz (mx n m Q), .ow true [.str msg], .un]) (rs := []) K X hfr' hfe hfo hko hoo (EvL.cons (Ev.var (d := mx n n P) (by k_memK)) EvL.nil) hinv (Nat.le_of_ble_eq_true rfl) (by k_memK) (by k_memK) (by k_memK) (by k_memK) (by decide) (S.glo (by decide +kernel)) (S.glo (by decide +kernel)) (S.glo (by decide +kernel)) (S.glo (by decide +kernel)) (by exact ⟨rfl, trivial⟩) S.inter (by decide +kernel) (fun _ _ => rfl) rfl rfl J fun s' sl J => ?_)
  refine wpAny_execs_cons (try_R (σ := [.fz (mx n n P), .fz (mx n m Q), .ow true [.str msg], .un]) (σ' := [.fz (mx n n P), .fz (mx n m Q), .ow true [.str msg, .str msg], .un]) (rs := [.str msg]) (oo := { oo with slots := sl }) K X hfr' hfe hfo hko (fun vs => hoo vs) (EvL.cons (Ev.var (d := mx n n P) (by k_memK)) (EvL.cons (Ev.var (d := mx n m Q) (by k_memK)) EvL.nil)) hsol (Nat.le_of_ble_eq_true rfl) (by k_memK) (by k_memK) (by k_memK) (by k_memK) (by simp) (S.glo (by decide +kernel)) (S.glo (by decide +kernel)) (S.glo (by decide +kernel)) (S.glo (by decide +kernel)) (by exact ⟨rfl, rfl, trivial⟩) S.inter (by decide +kernel) (fun _ _ => rfl) rfl rfl J fun s' sl' J => ?_)
  obtain ⟨c, m', cm, I₂⟩ := J
  have he : ∀ p1 p2 p3 p4 p5 p6 p7 p8 p9 p10 p11 p12 p13, Ev ⟨W, env, A.deeper env, ["grid", "right", "refused", "error"], 10⟩ [.fz (mx n n P), .fz (mx n m Q), .ow true [.str msg, .str msg], .un] (.BoolOp .And [.Compare (.Call (.Name "len" p1) [.Name "refused" p2] [] p3) [.Eq] [.Constant (.int 2) 0 p4] p5, .Compare (.Subscript (.Name "refused" p6) (.Constant (.int 0) 0 p7) p8) [.Eq] [.Subscript (.Name "refused" p9) (.Constant (.int 1) 0 p10) p11] p12] p13) (.bool true) := by
    intro p1 p2 p3 p4 p5 p6 p7 p8 p9 p10 p11 p12 p13
    refine Ev.and2 (a := true) (b := true) (Ev.conv (Ev.cEq (Ev.lenO (ds := [.str msg, .str msg]) (pl := true) K.toOk bl (by k_memK) (by simp)) Ev.int) (by simp)) fun _ => ?_
    exact Ev.eq (a := .str msg) (b := .str msg) (n := 0) (k := 0) K.toOk (Ev.idxO (ds := [.str msg, .str msg]) (pl := true) (by k_memK) Ev.int (by decide) (by decide) rfl) (Ev.idxO (ds := [.str msg, .str msg]) (pl := true) (by k_memK) Ev.int (by decide) (by decide) rfl) (by simpa [okE] using hmsg) (by simpa [okE] using hmsg) (by omega) (by omega) (by simp)
  refine wpAny_execs_cons (wpAny_Return_some (he _ _ _ _ _ _ _ _ _ _ _ _ _ _ c s' _ I₂.gd (I₂.vs K.toOk K.toNames) fun v h' tk k d => ?_))
  obtain ⟨h₁, t₁, e₁⟩ := I₂.frame.toInCall.same
  obtain ⟨l1, _⟩ := I₂.led _ (.head _)
  have sb := I₂.sub
  subst e₁
  refine q v h' tk sl' (fun b o nb e => k b o (sb b o ((Heap.hide_ne _ nb).trans e))) (k _ _ l1) ?_
  cases d
  exact .bool _

end Mine
end
section
set_option Elab.async false
set_option maxRecDepth 100000
set_option linter.unusedVariables false
namespace Mine
/-! sums -/
theorem sumN_congr {n : Nat} {f g : Nat → Rat} (h : ∀ k, k < n → f k = g k) : sumN n f = sumN n g := by
  induction n with
  | zero => rfl
  | succ n ih => simp only [sumN]; rw [ih fun k hk => h k (by omega), h n (by omega)]
theorem sumN_zero {n : Nat} {f : Nat → Rat} (h : ∀ k, k < n → f k = 0) : sumN n f = 0 := by
  induction n with
  | zero => rfl
  | succ n ih => simp only [sumN]; rw [ih fun k hk => h k (by omega), h n (by omega)]; grind
theorem sumN_add {n : Nat} {f g : Nat → Rat} : sumN n (fun k => f k + g k) = sumN n f + sumN n g := by
  induction n with
  | zero => simp only [sumN]; grind
  | succ n ih => simp only [sumN]; rw [ih]; grind
theorem sumN_mulL {n : Nat} {a : Rat} {f : Nat → Rat} : sumN n (fun k => a * f k) = a * sumN n f := by
  induction n with
  | zero => simp only [sumN]; grind
  | succ n ih => simp only [sumN]; rw [ih]; grind
theorem sumN_mulR {n : Nat} {a : Rat} {f : Nat → Rat} : sumN n (fun k => f k * a) = sumN n f * a := by
  induction n with
  | zero => simp only [sumN]; grind
  | succ n ih => simp only [sumN]; rw [ih]; grind
theorem sumN_comm {n m : Nat} {f : Nat → Nat → Rat} : sumN n (fun i => sumN m fun j => f i j) = sumN m (fun j => sumN n fun i => f i j) := by
  induction n with
  | zero => simp only [sumN]; exact (sumN_zero fun _ _ => rfl).symm
  | succ n ih => simp only [sumN]; rw [ih, ← sumN_add]
theorem sumN_delta {n k : Nat} {f : Nat → Rat} (hk : k < n) : sumN n (fun i => if i = k then f i else 0) = f k := by
  induction n with
  | zero => omega
  | succ n ih =>
    simp only [sumN]
    by_cases h : k = n
    · subst h
      rw [sumN_zero fun i hi => if_neg (by omega), if_pos rfl]; grind
    · rw [ih (by omega), if_neg (by omega)]; grind
theorem mulM_assoc {m k : Nat} {A B C : Mx} : mulM m (mulM k A B) C = mulM k A (mulM m B C) := by
  funext i j
  unfold mulM
  have e1 : sumN m (fun q => sumN k (fun p => A i p * B p q) * C q j) = sumN m fun q => sumN k fun p => A i p * B p q * C q j := sumN_congr fun q _ => sumN_mulR.symm
  have e2 : sumN k (fun p => A i p * sumN m fun q => B p q * C q j) = sumN k fun p => sumN m fun q => A i p * B p q * C q j := sumN_congr fun p _ => by
    rw [← sumN_mulL]; exact sumN_congr fun q _ => by grind
  rw [e1, e2, sumN_comm]
noncomputable def EqM (h w : Nat) (A B : Mx) : Prop := ∀ i j, i < h → j < w → A i j = B i j
theorem EqM.rfl {h w : Nat} {A : Mx} : EqM h w A A := fun _ _ _ _ => Eq.refl _
theorem EqM.symm {h w : Nat} {A B : Mx} (x : EqM h w A B) : EqM h w B A := fun i j a b => (x i j a b).symm
theorem EqM.trans {h w : Nat} {A B C : Mx} (x : EqM h w A B) (y : EqM h w B C) : EqM h w A C := fun i j a b => (x i j a b).trans (y i j a b)
theorem mulM_cong {h m w : Nat} {A A' B B' : Mx} (x : EqM h m A A') (y : EqM m w B B') : EqM h w (mulM m A B) (mulM m A' B') := fun i j a b => sumN_congr fun k hk => by rw [x i k a hk, y k j hk b]
theorem mulM_idL {n w : Nat} {A : Mx} : EqM n w (mulM n idM A) A := fun i j hi _ => by
  unfold mulM idM
  rw [sumN_congr (g := fun k => if k = i then A k j else 0) fun k _ => by split <;> grind]
  exact sumN_delta hi
theorem mulM_idR {h n : Nat} {A : Mx} : EqM h n (mulM n A idM) A := fun i j _ hj => by
  unfold mulM idM
  rw [sumN_congr (g := fun k => if k = j then A i k else 0) fun k _ => by
    by_cases e : j = k
    · rw [if_pos e, if_pos e.symm]; grind
    · rw [if_neg e, if_neg (Ne.symm e)]; grind]
  exact sumN_delta hj

/-! row operations -/
structure Lin (h : Nat) (T : Vc → Vc) : Prop where
  cong : ∀ u v : Vc, (∀ k, k < h → u k = v k) → ∀ i, i < h → T u i = T v i
  add : ∀ (u v : Vc) i, i < h → T (fun k => u k + v k) i = T u i + T v i
  smul : ∀ (a : Rat) (u : Vc) i, i < h → T (fun k => a * u k) i = a * T u i
theorem Lin.zero {h : Nat} {T : Vc → Vc} (L : Lin h T) {u : Vc} (hu : ∀ k, k < h → u k = 0) {i : Nat} (hi : i < h) : T u i = 0 := by
  rw [L.cong u (fun k => 0 * u k) (fun k hk => by rw [hu k hk]; grind) i hi, L.smul 0 u i hi]
  grind
theorem Lin.sum {h n : Nat} {T : Vc → Vc} (L : Lin h T) (a : Nat → Rat) (V : Nat → Vc) {i : Nat} (hi : i < h) : T (fun k => sumN n fun t => a t * V t k) i = sumN n fun t => a t * T (V t) i := by
  induction n generalizing i with
  | zero => exact L.zero (fun k hk => Eq.refl _) hi
  | succ n ih =>
    simp only [sumN]
    rw [L.add (fun k => sumN n fun t => a t * V t k) (fun k => a n * V n k) i hi, ih hi, L.smul _ _ i hi]
theorem Lin.comp {h : Nat} {S T : Vc → Vc} (L : Lin h S) (K : Lin h T) : Lin h fun v => S (T v) where
  cong := fun u v e i hi => L.cong _ _ (fun k hk => K.cong u v e k hk) i hi
  add := fun u v i hi => by rw [L.cong _ (fun k => T u k + T v k) (fun k hk => K.add u v k hk) i hi, L.add _ _ i hi]
  smul := fun a u i hi => by rw [L.cong _ (fun k => a * T u k) (fun k hk => K.smul a u k hk) i hi, L.smul _ _ i hi]
/-- the rows of B are those of A, undoably combined -/
noncomputable def REq (h : Nat) (A B : Mx) : Prop := ∃ T T' : Vc → Vc, Lin h T ∧ Lin h T' ∧ (∀ v i, i < h → T (T' v) i = v i) ∧ (∀ v i, i < h → T' (T v) i = v i) ∧ ∀ j i, i < h → B i j = T (fun k => A k j) i
theorem REq.rfl {h : Nat} {A : Mx} : REq h A A := ⟨id, id, ⟨fun u v e i hi => e i hi, fun _ _ _ _ => Eq.refl _, fun _ _ _ _ => Eq.refl _⟩, ⟨fun u v e i hi => e i hi, fun _ _ _ _ => Eq.refl _, fun _ _ _ _ => Eq.refl _⟩, fun _ _ _ => Eq.refl _, fun _ _ _ => Eq.refl _, fun _ _ _ => Eq.refl _⟩
theorem REq.trans {h : Nat} {A B C : Mx} (x : REq h A B) (y : REq h B C) : REq h A C := by
  obtain ⟨T, T', L, L', i1, i2, e⟩ := x
  obtain ⟨S, S', K, K', j1, j2, d⟩ := y
  refine ⟨fun v => S (T v), fun v => T' (S' v), K.comp L, L'.comp K', fun v i hi => ?_, fun v i hi => ?_, fun j i hi => ?_⟩
  · show S (T (T' (S' v))) i = v i
    rw [K.cong (T (T' (S' v))) (S' v) (fun k hk => i1 _ k hk) i hi, j1 v i hi]
  · show T' (S' (S (T v))) i = v i
    rw [L'.cong (S' (S (T v))) (T v) (fun k hk => j2 _ k hk) i hi, i2 v i hi]
  · show C i j = S (T fun k => A k j) i
    rw [d j i hi, K.cong _ (T fun k => A k j) (fun k hk => e j k hk) i hi]
theorem req_swap {h : Nat} {M : Mx} {t f : Nat} (ht : t < h) (hf : f < h) : REq h M (swapM M t f) := by
  have L : Lin h fun v i => if i = f then v t else if i = t then v f else v i := by
    refine ⟨fun u v e i hi => ?_, fun u v i hi => ?_, fun a u i hi => ?_⟩
    · show (if i = f then u t else if i = t then u f else u i) = if i = f then v t else if i = t then v f else v i
      rw [e t ht, e f hf, e i hi]
    · show (if i = f then u t + v t else if i = t then u f + v f else u i + v i) = _
      split
      · rfl
      · split <;> rfl
    · show (if i = f then a * u t else if i = t then a * u f else a * u i) = _
      split
      · rfl
      · split <;> rfl
  have inv : ∀ (v : Vc) i, i < h → (if i = f then (if t = f then v t else if t = t then v f else v t) else if i = t then (if f = f then v t else if f = t then v f else v f) else (if i = f then v t else if i = t then v f else v i)) = v i := by
    intro v i _
    grind
  refine ⟨_, _, L, L, inv, inv, fun j i hi => ?_⟩
  unfold swapM
  show (if i = f then M t else if i = t then M f else M i) j = _
  split
  · rfl
  · split <;> rfl
theorem req_scl {h : Nat} {M : Mx} {t : Nat} {q : Rat} (hq : q ≠ 0) : REq h M (sclM M t q) := by
  have L : ∀ q : Rat, Lin h fun v i => if i = t then v i * q else v i := fun q => by
    refine ⟨fun u v e i hi => ?_, fun u v i hi => ?_, fun a u i hi => ?_⟩
    · show (if i = t then u i * q else u i) = if i = t then v i * q else v i
      rw [e i hi]
    · show (if i = t then (u i + v i) * q else u i + v i) = _
      split <;> grind
    · show (if i = t then (a * u i) * q else a * u i) = _
      split <;> grind
  refine ⟨_, _, L q, L q⁻¹, fun v i hi => ?_, fun v i hi => ?_, fun j i hi => rfl⟩
  · show (if i = t then (if i = t then v i * q⁻¹ else v i) * q else (if i = t then v i * q⁻¹ else v i)) = v i
    split <;> grind
  · show (if i = t then (if i = t then v i * q else v i) * q⁻¹ else (if i = t then v i * q else v i)) = v i
    split <;> grind
theorem req_clr {h : Nat} {M : Mx} {t c : Nat} (ht : t < h) : REq h M (clr M t c h) := by
  have L : ∀ s : Rat, Lin h fun v i => if i < h ∧ i ≠ t then v i + s * (M i c * v t) else v i := fun s => by
    refine ⟨fun u v e i hi => ?_, fun u v i hi => ?_, fun a u i hi => ?_⟩
    · show (if i < h ∧ i ≠ t then u i + s * (M i c * u t) else u i) = if i < h ∧ i ≠ t then v i + s * (M i c * v t) else v i
      rw [e i hi, e t ht]
    · show (if i < h ∧ i ≠ t then (u i + v i) + s * (M i c * (u t + v t)) else u i + v i) = _
      split <;> grind
    · show (if i < h ∧ i ≠ t then (a * u i) + s * (M i c * (a * u t)) else a * u i) = _
      split <;> grind
  refine ⟨_, _, L (-1), L 1, fun v i hi => ?_, fun v i hi => ?_, fun j i hi => ?_⟩
  · show (if i < h ∧ i ≠ t then (if i < h ∧ i ≠ t then v i + 1 * (M i c * v t) else v i) + -1 * (M i c * (if t < h ∧ t ≠ t then v t + 1 * (M t c * v t) else v t)) else (if i < h ∧ i ≠ t then v i + 1 * (M i c * v t) else v i)) = v i
    grind
  · show (if i < h ∧ i ≠ t then (if i < h ∧ i ≠ t then v i + -1 * (M i c * v t) else v i) + 1 * (M i c * (if t < h ∧ t ≠ t then v t + -1 * (M t c * v t) else v t)) else (if i < h ∧ i ≠ t then v i + -1 * (M i c * v t) else v i)) = v i
    grind
  · show clr M t c h i j = if i < h ∧ i ≠ t then M i j + -1 * (M i c * M t j) else M i j
    unfold clr
    split <;> grind
theorem req_piv {h : Nat} {M : Mx} {t f c : Nat} (ht : t < h) (hf : f < h) (h0 : M f c ≠ 0) : REq h M (pivM h M t f c) := by
  refine (req_swap ht hf).trans ((req_scl (t := t) (q := 1 / swapM M t f t c) ?_).trans (req_clr ht))
  rw [swap_top]
  grind
end Mine
end
section
set_option Elab.async false
set_option maxRecDepth 100000
set_option linter.unusedVariables false
namespace Mine
/-- what holds of the echelon form when c columns are done -/
structure EInv (h : Nat) (M : Mx) (c : Nat) (S : Mx × List Nat) : Prop where
  req : REq h M S.1
  piv : ∀ t k : Nat, S.2[t]? = some k → k < c ∧ ∀ i, i < h → S.1 i k = if i = t then 1 else 0
  low : ∀ i j : Nat, S.2.length ≤ i → i < h → j < c → S.1 i j = 0
  inc : ∀ t t' k k' : Nat, t < t' → S.2[t]? = some k → S.2[t']? = some k' → k < k'
theorem pivM_col {h : Nat} {M : Mx} {t f c : Nat} (ht : t < h) (hf : f < h) (h0 : M f c ≠ 0) : ∀ i, i < h → pivM h M t f c i c = if i = t then 1 else 0 := by
  intro i hi
  unfold pivM clr sclM
  rw [swap_top]
  by_cases e : i = t
  · subst e
    rw [swap_top]
    grind
  · rw [if_pos ⟨hi, e⟩, if_neg e, if_pos rfl, if_neg e]
    grind
theorem pivM_old {h : Nat} {M : Mx} {t f c j : Nat} (h1 : M t j = 0) (h2 : M f j = 0) (i : Nat) : pivM h M t f c i j = M i j := by
  have hs : ∀ i, swapM M t f i j = M i j := by
    intro i
    unfold swapM
    split
    · rename_i e; rw [e, h1, h2]
    · split
      · rename_i e; rw [e, h1, h2]
      · rfl
  unfold pivM clr sclM
  rw [hs, hs, h1]
  by_cases e : i = t
  · subst e; rw [h1]; grind
  · simp only [if_neg e, if_true]
    grind
theorem einv {h : Nat} {M : Mx} : ∀ c, EInv h M c (ech h M c)
  | 0 => ⟨REq.rfl, fun t k e => by simp [ech] at e, fun i j _ _ hj => by omega, fun t t' k k' _ e => by simp [ech] at e⟩
  | c + 1 => by
    obtain ⟨req, piv, low, inc⟩ := @einv h M c
    have ln := (@ech_len h M c).1
    show EInv h M (c + 1) (stepE h (ech h M c) c)
    cases e : ffind (ech h M c).1 c (h - (ech h M c).2.length) (ech h M c).2.length with
    | none =>
      rw [stepE_none e]
      have z := ffind_none e
      refine ⟨req, fun t k ek => ⟨by have := (piv t k ek).1; omega, (piv t k ek).2⟩, fun i j h1 h2 h3 => ?_, inc⟩
      by_cases hj : j = c
      · rw [hj]; exact z i h1 (by omega)
      · exact low i j h1 h2 (by omega)
    | some f =>
      rw [stepE_some e]
      obtain ⟨f1, f2, f3, f4⟩ := ffind_some e
      generalize ech h M c = S at req piv low inc ln f1 f2 f3 f4
      obtain ⟨R, l⟩ := S
      simp only at req piv low inc ln f1 f2 f3 f4 ⊢
      have hf : f < h := by omega
      have ht : l.length < h := by omega
      have old : ∀ i j, j < c → pivM h R l.length f c i j = R i j := fun i j hj => pivM_old (low _ j (Nat.le_refl _) ht hj) (low _ j f1 hf hj) i
      have new := pivM_col ht hf f3
      have at_ : ∀ t k, (l ++ [c])[t]? = some k → (t < l.length ∧ l[t]? = some k) ∨ (t = l.length ∧ k = c) := by
        intro t k ek
        by_cases h1 : t < l.length
        · rw [List.getElem?_append_left h1] at ek; exact .inl ⟨h1, ek⟩
        · rw [List.getElem?_append_right (by omega)] at ek
          by_cases h2 : t = l.length
          · subst h2; simp at ek; exact .inr ⟨rfl, ek.symm⟩
          · have : t - l.length ≠ 0 := by omega
            obtain ⟨q, hq⟩ := Nat.exists_eq_succ_of_ne_zero this
            rw [hq] at ek; simp at ek
      refine ⟨req.trans (req_piv ht hf f3), fun t k ek => ?_, fun i j h1 h2 h3 => ?_, fun t t' k k' htt e1 e2 => ?_⟩
      · rcases at_ t k ek with ⟨h1, h2⟩ | ⟨rfl, rfl⟩
        · obtain ⟨p1, p2⟩ := piv t k h2
          exact ⟨by omega, fun i hi => by show pivM h R l.length f c i k = _; rw [old i k p1, p2 i hi]⟩
        · exact ⟨by omega, new⟩
      · have h1' : l.length + 1 ≤ i := by simpa using h1
        show pivM h R l.length f c i j = 0
        by_cases hj : j = c
        · rw [hj, new i h2, if_neg (by omega)]
        · rw [old i j (by omega)]
          exact low i j (by omega) h2 (by omega)
      · rcases at_ t k e1 with ⟨h1, h2⟩ | ⟨rfl, rfl⟩
        · rcases at_ t' k' e2 with ⟨h3, h4⟩ | ⟨rfl, rfl⟩
          · exact inc t t' k k' htt h2 h4
          · exact (piv t k h2).1
        · rcases at_ t' k' e2 with ⟨h3, h4⟩ | ⟨h3, h4⟩
          · omega
          · omega

/-! rank -/
noncomputable def rk (h w : Nat) (M : Mx) : Nat := (ech h M w).2.length
noncomputable def unitV (t : Nat) : Vc := fun k => if k = t then 1 else 0
/-- the unit matrix of p rows is no product over fewer than p -/
theorem dim {p r : Nat} {X Y : Mx} (e : EqM p p (mulM r X Y) idM) : p ≤ r := by
  refine Nat.le_of_not_lt fun hlt => ?_
  obtain ⟨req, piv, low, inc⟩ := @einv p X r
  obtain ⟨T, T', L, L', i1, i2, eq⟩ := req
  have hlen : (ech p X r).2.length ≤ r := (@ech_len p X r).2
  have hp : p - 1 < p := by omega
  have z : ∀ j, j < r → T (fun k => X k j) (p - 1) = 0 := fun j hj => by
    rw [← eq j (p - 1) hp]
    exact low (p - 1) j (by omega) hp hj
  have zu : ∀ t, t < p → T (unitV t) (p - 1) = 0 := fun t ht => by
    rw [L.cong (unitV t) (fun k => sumN r fun q => Y q t * X k q) (fun k hk => ?_) (p - 1) hp, L.sum _ (fun q k => X k q) hp]
    · exact sumN_zero fun q hq => by rw [z q hq]; grind
    · have := e k t hk ht
      unfold mulM idM at this
      unfold unitV
      have e2 : (sumN r fun q => Y q t * X k q) = sumN r fun q => X k q * Y q t := sumN_congr fun q _ => by grind
      rw [e2, this]
      by_cases hkt : k = t
      · rw [if_pos hkt, if_pos hkt.symm]
      · rw [if_neg hkt, if_neg (Ne.symm hkt)]
  have all : ∀ v : Vc, T v (p - 1) = 0 := fun v => by
    rw [L.cong v (fun k => sumN p fun t => v t * unitV t k) (fun k hk => ?_) (p - 1) hp, L.sum _ unitV hp]
    · exact sumN_zero fun t ht => by rw [zu t ht]; grind
    · unfold unitV
      rw [sumN_congr (g := fun t => if t = k then v t else 0) fun t _ => by
        by_cases hkt : k = t
        · rw [if_pos hkt, if_pos hkt.symm]; grind
        · rw [if_neg hkt, if_neg (Ne.symm hkt)]; grind]
      exact (sumN_delta hk).symm
  have one := i1 (unitV (p - 1)) (p - 1) hp
  rw [all] at one
  unfold unitV at one
  rw [if_pos rfl] at one
  grind
theorem rk_le_h {h w : Nat} {M : Mx} : rk h w M ≤ h := (@ech_len h M w).1
/-- a matrix is a product over its rank -/
theorem rk_fac (h w : Nat) (M : Mx) : ∃ X Y : Mx, EqM h w M (mulM (rk h w M) X Y) := by
  obtain ⟨req, piv, low, inc⟩ := @einv h M w
  obtain ⟨T, T', L, L', i1, i2, eq⟩ := req
  have hlen := (@ech_len h M w).1
  refine ⟨fun i t => M i ((ech h M w).2.getD t 0), fun t j => (ech h M w).1 t j, fun i j hi hj => ?_⟩
  unfold mulM rk
  have key : ∀ k, k < h → T (fun i => M i j) k = T (fun i => sumN (ech h M w).2.length fun t => (ech h M w).1 t j * M i ((ech h M w).2.getD t 0)) k := fun k hk => by
    rw [L.sum _ (fun t i => M i ((ech h M w).2.getD t 0)) hk, ← eq j k hk]
    rw [sumN_congr (g := fun t => if t = k then (ech h M w).1 t j else 0) fun t ht => ?_]
    · by_cases hkl : k < (ech h M w).2.length
      · rw [sumN_delta hkl]
      · rw [sumN_zero fun t ht => if_neg (by omega)]
        exact low k j (by omega) hk hj
    · have hg : (ech h M w).2[t]? = some ((ech h M w).2.getD t 0) := by rw [List.getD_eq_getElem?_getD, List.getElem?_eq_getElem ht]; rfl
      obtain ⟨p1, p2⟩ := piv t _ hg
      rw [← eq _ k hk, p2 k hk]
      by_cases hkt : k = t
      · rw [if_pos hkt, if_pos hkt.symm]; grind
      · rw [if_neg hkt, if_neg (Ne.symm hkt)]; grind
  have back : M i j = sumN (ech h M w).2.length fun t => (ech h M w).1 t j * M i ((ech h M w).2.getD t 0) := by
    rw [← i2 (fun i => M i j) i hi, L'.cong _ _ key i hi, i2 _ i hi]
  rw [back]
  exact sumN_congr fun t _ => by grind
/-- and over no less -/
theorem rk_min {h w r : Nat} {M X Y : Mx} (e : EqM h w M (mulM r X Y)) : rk h w M ≤ r := by
  obtain ⟨req, piv, low, inc⟩ := @einv h M w
  obtain ⟨T, T', L, L', i1, i2, eq⟩ := req
  have hlen := (@ech_len h M w).1
  unfold rk
  refine dim (X := fun i q => T (fun k => X k q) i) (Y := fun q t => Y q ((ech h M w).2.getD t 0)) fun i t hi ht => ?_
  have hg : (ech h M w).2[t]? = some ((ech h M w).2.getD t 0) := by rw [List.getD_eq_getElem?_getD, List.getElem?_eq_getElem ht]; rfl
  obtain ⟨p1, p2⟩ := piv t _ hg
  have hi' : i < h := by omega
  have := p2 i hi'
  rw [eq _ i hi', L.cong _ (fun k => sumN r fun q => Y q ((ech h M w).2.getD t 0) * X k q) (fun k hk => ?_) i hi', L.sum _ (fun q k => X k q) hi'] at this
  · unfold mulM idM
    have e2 : (sumN r fun q => T (fun k => X k q) i * Y q ((ech h M w).2.getD t 0)) = sumN r fun q => Y q ((ech h M w).2.getD t 0) * T (fun k => X k q) i := sumN_congr fun q _ => by grind
    rw [e2, this]
    by_cases hkt : i = t
    · rw [if_pos hkt, if_pos hkt.symm]
    · rw [if_neg hkt, if_neg (Ne.symm hkt)]
  · rw [e k _ hk p1]
    exact sumN_congr fun q _ => by grind
theorem rk_mulL {h m w : Nat} {A B : Mx} : rk h w (mulM m A B) ≤ rk h m A := by
  obtain ⟨X, Y, e⟩ := rk_fac h m A
  refine rk_min (X := X) (Y := mulM m Y B) ?_
  rw [← mulM_assoc]
  exact mulM_cong e EqM.rfl
theorem rk_mulR {h m w : Nat} {A B : Mx} : rk h w (mulM m A B) ≤ rk m w B := by
  obtain ⟨X, Y, e⟩ := rk_fac m w B
  refine rk_min (X := mulM m A X) (Y := Y) ?_
  rw [mulM_assoc]
  exact mulM_cong EqM.rfl e
theorem rk_congr {h w : Nat} {A B : Mx} (e : EqM h w A B) : rk h w A = rk h w B := by
  have key : ∀ {A B : Mx}, EqM h w A B → rk h w A ≤ rk h w B := fun {A B} e => by
    obtain ⟨X, Y, d⟩ := rk_fac h w B
    exact rk_min (e.trans d)
  exact Nat.le_antisymm (key e) (key e.symm)
theorem rk_tr_le {h w : Nat} {A : Mx} : rk w h (fun i j => A j i) ≤ rk h w A := by
  obtain ⟨X, Y, e⟩ := rk_fac h w A
  refine rk_min (X := fun i t => Y t i) (Y := fun t j => X j t) fun i j hi hj => ?_
  rw [e j i hj hi]
  exact sumN_congr fun q _ => by grind
theorem rk_tr {h w : Nat} {A : Mx} : rk w h (fun i j => A j i) = rk h w A := Nat.le_antisymm rk_tr_le (rk_tr_le (A := fun i j => A j i))
theorem rk_invR {h n : Nat} {A Z B : Mx} (e : EqM n n (mulM n B Z) idM) : rk h n (mulM n A B) = rk h n A := by
  refine Nat.le_antisymm rk_mulL ?_
  have : EqM h n A (mulM n (mulM n A B) Z) := by
    rw [mulM_assoc]
    exact (mulM_idR.symm).trans (mulM_cong EqM.rfl e.symm)
  rw [rk_congr this]
  exact rk_mulL
theorem rk_invL {n w : Nat} {A Z B : Mx} (e : EqM n n (mulM n Z B) idM) : rk n w (mulM n B A) = rk n w A := by
  refine Nat.le_antisymm rk_mulR ?_
  have : EqM n w A (mulM n Z (mulM n B A)) := by
    rw [← mulM_assoc]
    exact (mulM_idL.symm).trans (mulM_cong e.symm EqM.rfl)
  rw [rk_congr this]
  exact rk_mulR
theorem rk_one {n : Nat} {A Z : Mx} (e : EqM n n (mulM n A Z) idM) : rk n n A = n := by
  refine Nat.le_antisymm rk_le_h ?_
  obtain ⟨X, Y, d⟩ := rk_fac n n A
  refine dim (X := X) (Y := mulM n Y Z) ?_
  rw [← mulM_assoc]
  exact (mulM_cong d.symm EqM.rfl).trans e
theorem frees_rk {h : Nat} {M : Mx} : ∀ c, (frees (ech h M c).2 c).length + (ech h M c).2.length = c
  | 0 => rfl
  | c + 1 => by
    have ih := @frees_rk h M c
    have lt := @ech_lt h M c
    show (frees (stepE h (ech h M c) c).2 (c + 1)).length + (stepE h (ech h M c) c).2.length = c + 1
    cases e : ffind (ech h M c).1 c (h - (ech h M c).2.length) (ech h M c).2.length with
    | none =>
      rw [stepE_none e, frees_out fun hm => Nat.lt_irrefl _ (lt c hm)]
      simp; omega
    | some f =>
      rw [stepE_some e]
      simp only
      rw [frees_in (by simp)]
      have : frees ((ech h M c).2 ++ [c]) c = frees (ech h M c).2 c := by
        unfold frees
        refine List.filter_congr fun x hx => ?_
        have hx' : x ≠ c := by have := List.mem_range.mp hx; omega
        simp [hx']
      rw [this]
      simp; omega
end Mine
end
section
set_option Elab.async false
set_option maxRecDepth 100000
set_option linter.unusedVariables false
namespace Mine
theorem ech_pre {h : Nat} {M : Mx} {c : Nat} : ∀ d, ∃ ex : List Nat, (ech h M (c + d)).2 = (ech h M c).2 ++ ex ∧ ∀ x ∈ ex, c ≤ x
  | 0 => ⟨[], by simp, fun x hx => by cases hx⟩
  | d + 1 => by
    obtain ⟨ex, e, hx⟩ := @ech_pre h M c d
    show ∃ ex : List Nat, (stepE h (ech h M (c + d)) (c + d)).2 = (ech h M c).2 ++ ex ∧ ∀ x ∈ ex, c ≤ x
    cases q : ffind (ech h M (c + d)).1 (c + d) (h - (ech h M (c + d)).2.length) (ech h M (c + d)).2.length with
    | none => rw [stepE_none q]; exact ⟨ex, e, hx⟩
    | some f =>
      rw [stepE_some q]
      refine ⟨ex ++ [c + d], by simp only [e, List.append_assoc], fun x hm => ?_⟩
      rcases List.mem_append.mp hm with z | z
      · exact hx x z
      · have : x = c + d := by simpa using z
        omega
theorem ffind_congr {M N : Mx} {c : Nat} : ∀ {n a : Nat}, (∀ i, a ≤ i → i < a + n → M i c = N i c) → ffind M c n a = ffind N c n a
  | 0, _, _ => rfl
  | n + 1, a, h => by
    unfold ffind
    rw [h a (Nat.le_refl _) (by omega), ffind_congr fun i h1 h2 => h i (by omega) (by omega)]
theorem pivM_congr {h w : Nat} {M N : Mx} {t f c : Nat} (ht : t < h) (hf : f < h) (hc : c < w) (e : EqM h w M N) : EqM h w (pivM h M t f c) (pivM h N t f c) := by
  have s1 : EqM h w (swapM M t f) (swapM N t f) := fun i j hi hj => by
    unfold swapM
    split
    · exact e _ _ ht hj
    · split
      · exact e _ _ hf hj
      · exact e _ _ hi hj
  have s2 : EqM h w (sclM (swapM M t f) t (1 / swapM M t f t c)) (sclM (swapM N t f) t (1 / swapM N t f t c)) := fun i j hi hj => by
    unfold sclM
    rw [s1 i j hi hj, s1 t c ht hc]
  intro i j hi hj
  unfold pivM clr
  rw [s2 i j hi hj, s2 i c hi hc, s2 t j ht hj]
theorem ech_congr {h w : Nat} {M N : Mx} (e : EqM h w M N) : ∀ c, c ≤ w → (ech h M c).2 = (ech h N c).2 ∧ EqM h w (ech h M c).1 (ech h N c).1
  | 0, _ => ⟨rfl, e⟩
  | c + 1, hc => by
    obtain ⟨h1, h2⟩ := ech_congr e c (by omega)
    have ln := (@ech_len h N c).1
    show (stepE h (ech h M c) c).2 = (stepE h (ech h N c) c).2 ∧ EqM h w (stepE h (ech h M c) c).1 (stepE h (ech h N c) c).1
    have ef : ffind (ech h M c).1 c (h - (ech h M c).2.length) (ech h M c).2.length = ffind (ech h N c).1 c (h - (ech h N c).2.length) (ech h N c).2.length := by
      rw [h1]
      exact ffind_congr fun i _ hi => h2 i c (by omega) (by omega)
    cases q : ffind (ech h N c).1 c (h - (ech h N c).2.length) (ech h N c).2.length with
    | none => rw [stepE_none q, stepE_none (ef.trans q)]; exact ⟨h1, h2⟩
    | some f =>
      obtain ⟨f1, f2, _⟩ := ffind_some q
      rw [stepE_some q, stepE_some (ef.trans q), h1]
      exact ⟨rfl, pivM_congr (by omega) (by omega) (by omega) h2⟩
theorem all_id {n : Nat} {f : Nat → Nat} (lt : ∀ i, i < n → f i < n) (inc : ∀ i j, i < j → j < n → f i < f j) : ∀ i, i < n → f i = i := by
  have lo : ∀ i, i < n → i ≤ f i := by
    intro i
    induction i with
    | zero => intro _; omega
    | succ i ih => intro hi; have := ih (by omega); have := inc i (i + 1) (by omega) hi; omega
  have hi_ : ∀ d, d < n → f (n - 1 - d) ≤ n - 1 - d := by
    intro d
    induction d with
    | zero => intro hd; have := lt (n - 1) (by omega); simp; omega
    | succ d ih =>
      intro hd
      have h1 := ih (by omega)
      have h2 := inc (n - 1 - (d + 1)) (n - 1 - d) (by omega) (by omega)
      omega
  intro i hi
  have h1 := lo i hi
  have h2 := hi_ (n - 1 - i) (by omega)
  have : n - 1 - (n - 1 - i) = i := by omega
  rw [this] at h2
  omega
theorem join_eq {n : Nat} {A B : Mx} : EqM n n (join n A B) A := fun i j _ hj => by unfold join; rw [if_pos hj]
/-- not singular: all columns of the left part are pivots -/
theorem solve_at {n m : Nat} {A B : Mx} (h : rk n n A = n) : ∀ i, i < n → (ech n (join n A B) (n + m)).2[i]? = some i := by
  intro i hi
  obtain ⟨ex, e, _⟩ := @ech_pre n (join n A B) n m
  obtain ⟨e1, _⟩ := ech_congr (@join_eq n A B) n (Nat.le_refl _)
  obtain ⟨_, piv, _, inc⟩ := @einv n A n
  have hl : (ech n A n).2.length = n := h
  rw [e, e1, List.getElem?_append_left (by omega)]
  have get : ∀ j, j < n → (ech n A n).2[j]? = some ((ech n A n).2.getD j 0) := fun j hj => by rw [List.getD_eq_getElem?_getD, List.getElem?_eq_getElem (by omega)]; rfl
  have := all_id (n := n) (f := fun j => (ech n A n).2.getD j 0) (fun j hj => (piv j _ (get j hj)).1) (fun j k hjk hk => inc j k _ _ hjk (get j (by omega)) (get k hk)) i hi
  rw [get i hi]
  exact congrArg some this
/-- singular: the first column that is none -/
theorem refuse_at {n : Nat} {A : Mx} (h : rk n n A < n) : ∃ p : Nat, p < n ∧ ∀ (m : Nat) (B : Mx), (∀ i : Nat, i < p → (ech n (join n A B) (n + m)).2[i]? = some i) ∧ (ech n (join n A B) (n + m)).2[p]? ≠ some p := by
  have hl : (ech n A n).2.length < n := h
  have ex0 : ∀ q : Nat, (∃ p : Nat, p ≤ q ∧ (ech n A n).2[p]? ≠ some p ∧ ∀ i : Nat, i < p → (ech n A n).2[i]? = some i) ∨ ∀ i : Nat, i ≤ q → (ech n A n).2[i]? = some i := by
    intro q
    induction q with
    | zero =>
      by_cases z : (ech n A n).2[0]? = some 0
      · exact .inr fun i hi => by obtain rfl : i = 0 := by omega
                                  exact z
      · exact .inl ⟨0, Nat.le_refl _, z, fun i hi => by omega⟩
    | succ q ih =>
      rcases ih with ⟨p, h1, h2, h3⟩ | ih
      · exact .inl ⟨p, by omega, h2, h3⟩
      · by_cases z : (ech n A n).2[q + 1]? = some (q + 1)
        · exact .inr fun i hi => by
            by_cases e : i = q + 1
            · rw [e]; exact z
            · exact ih i (by omega)
        · exact .inl ⟨q + 1, Nat.le_refl _, z, fun i hi => ih i (by omega)⟩
  obtain ⟨p, h1, h2, h3⟩ : ∃ p : Nat, p ≤ (ech n A n).2.length ∧ (ech n A n).2[p]? ≠ some p ∧ ∀ i, i < p → (ech n A n).2[i]? = some i := by
    rcases ex0 (ech n A n).2.length with q | q
    · exact q
    · have := q _ (Nat.le_refl _)
      rw [List.getElem?_eq_none (Nat.le_refl _)] at this
      cases this
  refine ⟨p, by omega, fun m B => ?_⟩
  obtain ⟨ex, e, hx⟩ := @ech_pre n (join n A B) n m
  obtain ⟨e1, _⟩ := ech_congr (@join_eq n A B) n (Nat.le_refl _)
  rw [e, e1]
  refine ⟨fun i hi => ?_, fun z => ?_⟩
  · rw [List.getElem?_append_left (by omega)]; exact h3 i hi
  · by_cases q : p < (ech n A n).2.length
    · rw [List.getElem?_append_left q] at z; exact h2 z
    · rw [List.getElem?_append_right (by omega)] at z
      have := hx p (List.mem_of_getElem? z)
      omega
/-- what solve_rows gives -/
noncomputable def solM (n m : Nat) (A B : Mx) : Mx := fun r j => (ech n (join n A B) (n + m)).1 r (n + j)
theorem sol_ok {n m : Nat} {A B : Mx} (h : rk n n A = n) : EqM n m (mulM n A (solM n m A B)) B := by
  have hp := solve_at (m := m) (B := B) h
  obtain ⟨req, piv, _, _⟩ := @einv n (join n A B) (n + m)
  obtain ⟨T, T', L, L', i1, i2, eq⟩ := req
  intro i j hi hj
  have tA : ∀ k, k < n → ∀ i, i < n → T (fun i => A i k) i = if i = k then 1 else 0 := fun k hk i hi => by
    rw [← (piv k k (hp k hk)).2 i hi, eq k i hi]
    exact L.cong _ _ (fun q hq => by unfold join; rw [if_pos hk]) i hi
  have tB : ∀ i, i < n → T (fun i => B i j) i = solM n m A B i j := fun i hi => by
    unfold solM
    rw [eq (n + j) i hi]
    exact L.cong _ _ (fun q hq => by unfold join; rw [if_neg (by omega), show n + j - n = j by omega]) i hi
  have key : ∀ i, i < n → T (fun i => mulM n A (solM n m A B) i j) i = T (fun i => B i j) i := fun i hi => by
    have e1 := L.cong (fun i => mulM n A (solM n m A B) i j) (fun i => sumN n fun k => solM n m A B k j * A i k) (fun q hq => sumN_congr fun k _ => by grind) i hi
    rw [tB i hi, e1, L.sum _ (fun k i => A i k) hi]
    rw [sumN_congr (g := fun k => if k = i then solM n m A B k j else 0) fun k hk => ?_]
    · exact sumN_delta hi
    · rw [tA k hk i hi]
      by_cases e : i = k
      · rw [if_pos e, if_pos e.symm]; grind
      · rw [if_neg e, if_neg (Ne.symm e)]; grind
  have := L'.cong _ _ key i hi
  rw [i2 (fun i => mulM n A (solM n m A B) i j) i hi, i2 _ i hi] at this
  exact this
/-- an inverse on both sides -/
structure Inv2 (n : Nat) (A Z : Mx) : Prop where
  r : EqM n n (mulM n A Z) idM
  l : EqM n n (mulM n Z A) idM
theorem Inv2.symm {n : Nat} {A Z : Mx} (x : Inv2 n A Z) : Inv2 n Z A := ⟨x.l, x.r⟩
theorem Inv2.rk {n : Nat} {A Z : Mx} (x : Inv2 n A Z) : rk n n A = n := rk_one x.r
theorem inv_of_rk {n : Nat} {A : Mx} (h : rk n n A = n) : Inv2 n A (solM n n A idM) := by
  have r := sol_ok (m := n) (B := idM) h
  have hz : rk n n (solM n n A idM) = n := by
    refine Nat.le_antisymm rk_le_h ?_
    have h1 : rk n n (mulM n A (solM n n A idM)) ≤ rk n n (solM n n A idM) := rk_mulR
    rw [rk_congr r, rk_one (A := idM) (Z := idM) mulM_idL] at h1
    exact h1
  have r2 := sol_ok (m := n) (B := idM) hz
  refine ⟨r, ?_⟩
  have eA : EqM n n A (solM n n (solM n n A idM) idM) := by
    have e1 : EqM n n A (mulM n A (mulM n (solM n n A idM) (solM n n (solM n n A idM) idM))) := (mulM_idR.symm).trans (mulM_cong EqM.rfl r2.symm)
    rw [← mulM_assoc] at e1
    exact e1.trans ((mulM_cong r EqM.rfl).trans mulM_idL)
  exact (mulM_cong EqM.rfl eA).trans r2
theorem Inv2.uniq {n m : Nat} {A Z X B : Mx} (x : Inv2 n A Z) (h : EqM n m (mulM n A X) B) : EqM n m X (mulM n Z B) := by
  have : EqM n m X (mulM n (mulM n Z A) X) := (mulM_idL.symm).trans (mulM_cong x.l.symm EqM.rfl)
  rw [mulM_assoc] at this
  exact this.trans (mulM_cong EqM.rfl h)
theorem Inv2.mul {n : Nat} {A Z B Y : Mx} (x : Inv2 n A Z) (y : Inv2 n B Y) : Inv2 n (mulM n A B) (mulM n Y Z) := by
  have key : ∀ {A Z B Y : Mx}, Inv2 n A Z → Inv2 n B Y → EqM n n (mulM n (mulM n A B) (mulM n Y Z)) idM := fun {A Z B Y} x y => by
    rw [mulM_assoc, ← mulM_assoc (A := B)]
    exact (mulM_cong EqM.rfl ((mulM_cong y.r EqM.rfl).trans mulM_idL)).trans x.r
  exact ⟨key x y, key y.symm x.symm⟩
theorem Inv2.sol {n m : Nat} {A Z B : Mx} (x : Inv2 n A Z) : EqM n m (solM n m A B) (mulM n Z B) := x.uniq (sol_ok x.rk)
theorem Inv2.inv {n : Nat} {A Z : Mx} (x : Inv2 n A Z) : EqM n n (solM n n A idM) Z := x.sol.trans mulM_idR
theorem Inv2.cong {n : Nat} {A Z A' Z' : Mx} (x : Inv2 n A Z) (e : EqM n n A A') (d : EqM n n Z Z') : Inv2 n A' Z' := ⟨(mulM_cong e.symm d.symm).trans x.r, (mulM_cong d.symm e.symm).trans x.l⟩
theorem rk_mul_lt {n : Nat} {A B : Mx} (h : rk n n A < n ∨ rk n n B < n) : rk n n (mulM n A B) < n := by
  rcases h with h | h
  · exact Nat.lt_of_le_of_lt rk_mulL h
  · exact Nat.lt_of_le_of_lt rk_mulR h
end Mine
end
section
set_option Elab.async false
set_option maxRecDepth 100000
set_option linter.unusedVariables false
namespace Mine
theorem det_mul3 (a b c d e f g h i A B C D E F G H I : Rat) :
    (a * (e * i - f * h) - b * (d * i - f * g) + c * (d * h - e * g)) * (A * (E * I - F * H) - B * (D * I - F * G) + C * (D * H - E * G)) =
    ((a*A+b*D+c*G) * ((d*B+e*E+f*H) * (g*C+h*F+i*I) - (d*C+e*F+f*I) * (g*B+h*E+i*H)) - (a*B+b*E+c*H) * ((d*A+e*D+f*G) * (g*C+h*F+i*I) - (d*C+e*F+f*I) * (g*A+h*D+i*G)) + (a*C+b*F+c*I) * ((d*A+e*D+f*G) * (g*B+h*E+i*H) - (d*B+e*E+f*H) * (g*A+h*D+i*G))) := by grind
noncomputable def det3 (A : Mx) : Rat := A 0 0 * (A 1 1 * A 2 2 - A 1 2 * A 2 1) - A 0 1 * (A 1 0 * A 2 2 - A 1 2 * A 2 0) + A 0 2 * (A 1 0 * A 2 1 - A 1 1 * A 2 0)
noncomputable def det2 (A : Mx) : Rat := A 0 0 * A 1 1 - A 0 1 * A 1 0
noncomputable def adj2 (A : Mx) (q : Rat) : Mx := fun i j => if i = 0 then (if j = 0 then A 1 1 * q else -(A 0 1) * q) else (if j = 0 then -(A 1 0) * q else A 0 0 * q)
noncomputable def adj3 (A : Mx) (q : Rat) : Mx := fun i j =>
  if i = 0 then (if j = 0 then (A 1 1 * A 2 2 - A 1 2 * A 2 1) * q else if j = 1 then (A 0 2 * A 2 1 - A 0 1 * A 2 2) * q else (A 0 1 * A 1 2 - A 0 2 * A 1 1) * q)
  else if i = 1 then (if j = 0 then (A 1 2 * A 2 0 - A 1 0 * A 2 2) * q else if j = 1 then (A 0 0 * A 2 2 - A 0 2 * A 2 0) * q else (A 0 2 * A 1 0 - A 0 0 * A 1 2) * q)
  else (if j = 0 then (A 1 0 * A 2 1 - A 1 1 * A 2 0) * q else if j = 1 then (A 0 1 * A 2 0 - A 0 0 * A 2 1) * q else (A 0 0 * A 1 1 - A 0 1 * A 1 0) * q)
theorem rk1 {A : Mx} : rk 1 1 A = 1 ↔ A 0 0 ≠ 0 := by
  constructor
  · intro h z
    have := (inv_of_rk h).r 0 0 (by omega) (by omega)
    simp only [mulM, sumN, idM, if_true] at this
    grind
  · intro h
    refine rk_one (Z := fun _ _ => 1 / A 0 0) fun i j hi hj => ?_
    obtain rfl : i = 0 := by omega
    obtain rfl : j = 0 := by omega
    simp only [mulM, sumN, idM, if_true]
    grind
theorem rk2 {A : Mx} : rk 2 2 A = 2 ↔ det2 A ≠ 0 := by
  constructor
  · intro h z
    have r := (inv_of_rk h).r
    generalize solM 2 2 A idM = Z at r
    have e00 := r 0 0 (by omega) (by omega)
    have e01 := r 0 1 (by omega) (by omega)
    have e10 := r 1 0 (by omega) (by omega)
    have e11 := r 1 1 (by omega) (by omega)
    simp [mulM, sumN, idM] at e00 e01 e10 e11
    unfold det2 at z
    have dm : (A 0 0 * A 1 1 - A 0 1 * A 1 0) * (Z 0 0 * Z 1 1 - Z 0 1 * Z 1 0) = (A 0 0 * Z 0 0 + A 0 1 * Z 1 0) * (A 1 0 * Z 0 1 + A 1 1 * Z 1 1) - (A 0 0 * Z 0 1 + A 0 1 * Z 1 1) * (A 1 0 * Z 0 0 + A 1 1 * Z 1 0) := by grind
    have c00 : A 0 0 * Z 0 0 + A 0 1 * Z 1 0 = 1 := by grind
    have c01 : A 0 0 * Z 0 1 + A 0 1 * Z 1 1 = 0 := by grind
    have c11 : A 1 0 * Z 0 1 + A 1 1 * Z 1 1 = 1 := by grind
    rw [z, c00, c01, c11] at dm
    grind
  · intro h
    have hq : det2 A * (1 / det2 A) = 1 := by grind
    generalize 1 / det2 A = q at hq
    unfold det2 at hq
    refine rk_one (Z := adj2 A q) fun i j hi hj => ?_
    have hi' : i = 0 ∨ i = 1 := by omega
    have hj' : j = 0 ∨ j = 1 := by omega
    rcases hi' with rfl | rfl <;> rcases hj' with rfl | rfl <;> simp [mulM, sumN, idM, adj2] <;> grind
theorem rk3 {A : Mx} : rk 3 3 A = 3 ↔ det3 A ≠ 0 := by
  constructor
  · intro h z
    have r := (inv_of_rk h).r
    generalize solM 3 3 A idM = Z at r
    have cc : ∀ i j, i < 3 → j < 3 → A i 0 * Z 0 j + A i 1 * Z 1 j + A i 2 * Z 2 j = if j = i then 1 else 0 := fun i j hi hj => by
      have := r i j hi hj
      simp only [mulM, sumN, idM] at this
      rw [← this]; grind
    have c00 := cc 0 0 (by omega) (by omega)
    have c01 := cc 0 1 (by omega) (by omega)
    have c02 := cc 0 2 (by omega) (by omega)
    have c10 := cc 1 0 (by omega) (by omega)
    have c11 := cc 1 1 (by omega) (by omega)
    have c12 := cc 1 2 (by omega) (by omega)
    have c20 := cc 2 0 (by omega) (by omega)
    have c21 := cc 2 1 (by omega) (by omega)
    have c22 := cc 2 2 (by omega) (by omega)
    unfold det3 at z
    have dm := det_mul3 (A 0 0) (A 0 1) (A 0 2) (A 1 0) (A 1 1) (A 1 2) (A 2 0) (A 2 1) (A 2 2) (Z 0 0) (Z 0 1) (Z 0 2) (Z 1 0) (Z 1 1) (Z 1 2) (Z 2 0) (Z 2 1) (Z 2 2)
    rw [z, c00, c01, c02, c10, c11, c12, c20, c21, c22] at dm
    simp at dm
    revert dm
    grind
  · intro h
    have hq : det3 A * (1 / det3 A) = 1 := by grind
    generalize 1 / det3 A = q at hq
    unfold det3 at hq
    refine rk_one (Z := adj3 A q) fun i j hi hj => ?_
    have hi' : i = 0 ∨ i = 1 ∨ i = 2 := by omega
    have hj' : j = 0 ∨ j = 1 ∨ j = 2 := by omega
    rcases hi' with rfl | rfl | rfl <;> rcases hj' with rfl | rfl | rfl <;> simp [mulM, sumN, idM, adj3] <;> grind
theorem half2 (x : Int) : Rat.divInt x 2 * 2 = (x : Rat) := by
  have h := mul_eq (Rat.divInt x 2) 2
  have e : (Rat.divInt x 2).num * 2 = x * (Rat.divInt x 2).den := by
    have := Rat.num_divInt_den (Rat.divInt x 2)
    exact (Rat.divInt_eq_divInt_iff (den0 _) (by decide)).mp this
  rw [h]
  show Rat.divInt ((Rat.divInt x 2).num * 2) ((Rat.divInt x 2).den * 1) = _
  rw [e, Int.mul_one]
  have : x * ((Rat.divInt x 2).den : Int) = x * ((Rat.divInt x 2).den : Int) := rfl
  have d0 := den0 (Rat.divInt x 2)
  rw [show (x : Rat) = Rat.divInt x 1 from Rat.ext (by simp [Rat.num_divInt]) (by simp [Rat.den_divInt])]
  rw [Rat.divInt_eq_divInt_iff d0 (by decide)]
  simp
theorem sing_iff {n : Nat} {H : Nat → Nat → Int} (h0 : 0 < n) (hn : n ≤ 3) : sing n H = true ↔ rk n n (halfM H) < n := by
  have le := @rk_le_h n n (halfM H)
  have h2 : ∀ i j, halfM H i j * 2 = (H i j : Rat) := fun i j => half2 _
  have hc : n = 1 ∨ n = 2 ∨ n = 3 := by omega
  have lt : rk n n (halfM H) < n ↔ ¬ rk n n (halfM H) = n := by omega
  rw [lt]
  rcases hc with rfl | rfl | rfl
  · rw [rk1]
    unfold sing
    rw [if_pos rfl, beq_iff_eq, Decidable.not_not]
    have := h2 0 0
    constructor
    · intro z
      rw [z] at this
      have e : ((0 : Int) : Rat) = 0 := rfl
      grind
    · intro z
      rw [z] at this
      have e : ((H 0 0 : Int) : Rat) = ((0 : Int) : Rat) := by
        have e : ((0 : Int) : Rat) = 0 := rfl
        grind
      exact Rat.intCast_inj.mp e
  · rw [rk2]
    unfold sing det2
    rw [if_neg (by decide), if_pos rfl, beq_iff_eq, Decidable.not_not]
    have e00 := h2 0 0
    have e01 := h2 0 1
    have e10 := h2 1 0
    have e11 := h2 1 1
    have ci : H 0 0 * H 1 1 = H 0 1 * H 1 0 ↔ (H 0 0 : Rat) * H 1 1 = (H 0 1 : Rat) * H 1 0 := by
      rw [← Rat.intCast_mul, ← Rat.intCast_mul, Rat.intCast_inj]
    rw [ci, ← e00, ← e01, ← e10, ← e11]
    constructor <;> intro z <;> grind
  · rw [rk3]
    unfold sing det3
    rw [if_neg (by decide), if_neg (by decide), beq_iff_eq, Decidable.not_not]
    have ci : detS H 3 = 0 ↔ (H 0 0 : Rat) * (H 1 1 * H 2 2 - H 1 2 * H 2 1) + H 0 1 * (H 1 2 * H 2 0 - H 1 0 * H 2 2) + H 0 2 * (H 1 0 * H 2 1 - H 1 1 * H 2 0) = 0 := by
      rw [← Rat.intCast_inj]
      simp only [detS, detT]
      simp [Rat.intCast_mul, Rat.intCast_add, Rat.intCast_sub]
    rw [ci]
    simp only [← h2]
    constructor <;> intro z <;> grind
end Mine
end
section
open PySem PySem.W PyProof.Rows PySem.Calls PySem.Spec
set_option Elab.async false
set_option maxRecDepth 100000
set_option linter.unusedVariables false
namespace Mine
local macro_rules | `(tactic| k_memK) => `(tactic| first | exact At.hd (by with_reducible rfl) | exact Put.hd (by with_reducible rfl) | (refine At.tail ?_; k_memK) | (apply Put.tail; k_memK))
local macro_rules | `(tactic| kqd_in) => `(tactic| first
  | assumption
  | k_memK
  | exact Ev.int
  | exact Ev.noneC
  | exact Ev.boolC
  | refine Ev.var ?_
  | exact EvL.nil
  | refine EvL.cons ?_ ?_
  | refine Ev.num ?_
  | refine Ev.den ?_
  | apply Ev.qIsNone
  | apply EvT.qIsNone
  | refine Ev.add ?_ ?_
  | refine Ev.sub ?_ ?_
  | refine Ev.mul ?_ ?_ ?_
  | refine Ev.mod ?_ ?_ ?_
  | refine Ev.fdiv ?_ ?_ ?_ ?_
  | refine Ev.tuple ?_
  | refine EvT.cEq ?_ ?_
  | refine EvT.cNe ?_ ?_
  | refine EvT.cLt ?_ ?_
  | refine EvT.cLe ?_ ?_
  | refine EvT.cGt ?_ ?_
  | refine EvT.cGe ?_ ?_
  | refine Ev.cEq ?_ ?_
  | refine Ev.cNe ?_ ?_
  | refine Ev.cLt ?_ ?_
  | refine Ev.isNoneT ?_
  | refine EvT.not ?_
  | refine Ev.not ?_
  | refine Ev.neg ?_
  | refine EvT.op ?_
  | exact EvA.andNil
  | exact EvA.orNil
  | exact Fx.Is.glo (by assumption) (by decide +kernel))

theorem okEs_all {n : Nat} : ∀ {ds : List Dt}, (∀ d ∈ ds, okE n d = true) → okEs n ds = true
  | [], _ => by cases n <;> rfl
  | d :: ds, h => by
    have h1 := h d (.head _)
    have h2 := okEs_all (n := n) (ds := ds) fun x hx => h x (.tail _ hx)
    cases n <;> simp [okEs, h1, h2]
theorem ok_row {w : Nat} {f : Vc} : okE 2 (rw_ w f) = true := by
  unfold rw_
  show okEs 1 _ = true
  refine okEs_all fun d hd => ?_
  obtain ⟨k, _, rfl⟩ := List.mem_map.mp hd
  exact ok_encQ _
theorem ok_mx {h w : Nat} {M : Mx} : okE 3 (mx h w M) = true := by
  unfold mx
  show okEs 2 _ = true
  refine okEs_all fun d hd => ?_
  obtain ⟨k, _, rfl⟩ := List.mem_map.mp hd
  exact ok_row
theorem EqM.mx {h w : Nat} {A B : Mx} (e : EqM h w A B) : Mine.mx h w A = Mine.mx h w B := mx_congr e
section
variable {F : Fx} {σ σ' : List LV} {s₀ s : Shared} {O₀ : Addr → Prop} {Z : Ex} {Φ : Flow → Shared → Prop} {E : Value → Shared → Prop} {c : Str → Value} {m cm : Str → Option Value}
/-- != of two equal matrices -/
theorem EvT.neM {l r : Expr} {h w : Nat} {A B : Mx} {pos : Pos} (K : F.Ok) (hl : Ev F σ l (mx h w A)) (hr : Ev F σ r (mx h w B)) (e : EqM h w A B) (hm : behindInMarks .NotEq r = false := by with_unfolding_all rfl) : EvT F σ (.Compare l [.NotEq] [r] pos) false :=
  EvT.ne (x := true) K hl hr ok_mx ok_mx (by omega) (by omega) (by simp [e.mx]) hm
theorem EvT.or3 {e1 e2 e3 : Expr} {pos : Pos} (h1 : EvT F σ e1 false) (h2 : EvT F σ e2 false) (h3 : EvT F σ e3 false) : EvT F σ (.BoolOp .Or [e1, e2, e3] pos) false :=
  EvT.op (EvA.or h1 fun _ => EvA.or h2 fun _ => EvA.or h3 fun _ => EvA.orNil)
theorem InvC.touch {h' : Heap} {tk : Nat} (I : InvC F s₀ O₀ Z σ c m cm s) (same : ∀ b o, b ≠ F.env.locals → s.heap.get? b = some o → h'.get? b = some o) (hn : h'.Ns F.env.locals m) : InvC F s₀ O₀ Z σ c m cm { s with heap := h', toks := tk } := by
  have J := I.frame
  have mv : ∀ {w d}, Den s.heap (Om F O₀ Z σ c) w d → Den h' (Om F O₀ Z σ c) w d := fun z => z.move fun b o nb e => ⟨same b o (fun q => nb (.inr (.inl q))) e, nb⟩
  have mvA : ∀ {w d}, DenAll s.heap (Om F O₀ Z σ c) w d → DenAll h' (Om F O₀ Z σ c) w d := fun z => z.move fun b o nb e => ⟨same b o (fun q => nb (.inr (.inl q))) e, nb⟩
  refine ⟨⟨⟨?_, hn, fun b o e => same b o (Nat.ne_of_lt (Nat.lt_of_lt_of_le (Heap.lt_size e) J.toInCall.fresh)) (J.toInCall.keep b o e), J.toInCall.fresh⟩, fun y b hb => ?_, J.apart, J.above⟩, I.base, I.val, fun y l a nl => ?_, I.own, I.apart, fun p hp => ?_, fun p hp => mv (I.tmp p hp)⟩
  · obtain ⟨h₁, t, e⟩ := J.toInCall.same
    exact ⟨h', tk, by rw [e]⟩
  · obtain ⟨o, e, hd⟩ := J.cell y b hb
    exact ⟨o, same b o (Nat.ne_of_gt (J.above y b (mem_of_lookup hb))) e, hd⟩
  · have h := I.has y l a nl
    cases l with
    | un => exact trivial
    | fz d => exact mv h
    | ow pl ds =>
      obtain ⟨b, vs, eb, lb, r⟩ := h
      have nb : b ≠ F.env.locals := (I.own y pl ds b a eb).2.1
      refine ⟨b, vs, eb, ?_, mvA r⟩
      cases pl with
      | true => exact Heap.PlainList.at lb fun o e => same _ _ nb e
      | false => exact isList_sub lb fun o e => same _ _ nb e
  · obtain ⟨l1, l2, l3, l4, l5⟩ := I.led p hp
    exact ⟨same _ _ l3 l1, l2, l3, l4, l5⟩
theorem Ts.iteRef {f : Str} {nf : Nat} {e e3 : Expr} {es : List Expr} {ds : List Dt} {pf pc pn pb pos : Pos} {body orelse : List Stmt} (K : F.Good) (hfr : F.A.frames = some [F.env]) (hfe : F.env.frame = some F.env.locals) (hd : EvL F σ (e :: es) ds) (h : FnR F.W f nf ds (.bool true)) (hn : nf ≤ F.n) (h3 : EvT F σ e3 false)
    (hk : Tr F s₀ O₀ Z σ orelse Φ E) (hx : F.env.kindOf f = some .globalImplicit) (hs : NoStar F.env (e :: es)) (hdb : (f == ("__debug__" : Str)) = false) :
    Ts F s₀ O₀ Z σ (.If (.BoolOp .Or [.UnaryOp .Not (.Call (.Name f pf) (e :: es) [] pc) pn, e3] pb) body orelse pos) Φ E := by
  rintro s ⟨c, m, cm, I⟩
  obtain ⟨a, fa, h⟩ := h
  refine wpAny_If (wpAny_isTrue_BoolOp (wpAny_allTrue_Or_cons (wpAny_isTrue_Not (wpAny_isTrue_value (call_any (rd_glob K.toOk hx fa.choose_spec.choose_spec.1 hdb I.gd.sub _ s pf _ _ Sub.rfl (callFX fa hs hd I.gd (I.vs K.toOk K.toNames) fun vs h₁ t₁ k₁ d₁ => ?_))) (by rfl)))))
  have I₁ := I.keep (tk := t₁) k₁
  obtain ⟨oL, es', ep, hL, hLd, hns⟩ := I₁.frame.toInCall.ns
  refine wp_no (h F.A { s with heap := h₁, toks := t₁ } _ vs _ F.env F.env.locals oL (K.room.le hn) I₁.gd d₁ hfr hfe (by rw [K.kind]; decide) hL (fun vs q => by rw [hLd] at q; cases q) (.inr (.inl rfl)) fun v h₂ t₂ sl same hL₂ dv => ?_)
  have I₂ : InvC F s₀ O₀ Z σ c m cm { s with heap := h₂, toks := t₂ } := I₁.touch (tk := t₂) same ⟨_, es', ep, hL₂, hLd, hns⟩
  cases dv
  refine wpAny_truthy_bool ?_
  refine wpAny_allTrue_Or_cons (wp_no (h3 _ c _ _ I₂.gd (I₂.vs K.toOk K.toNames) fun h₃ t₃ k₃ => ?_))
  refine wpAny_allTrue_Or_nil ?_
  exact hk _ ⟨c, m, cm, I₂.keep k₃⟩
end
noncomputable def nOf (x k : Int) : Nat := (x.fmod k).toNat + 1
theorem nOf_bd (x : Int) {k : Nat} (hk : 0 < k) : 1 ≤ nOf x k ∧ nOf x k ≤ k := by
  have h1 := Int.fmod_nonneg_of_pos x (b := (k : Int)) (by omega)
  have h2 := Int.fmod_lt_of_pos x (b := (k : Int)) (by omega)
  unfold nOf
  omega
theorem nOf_eq (x k : Int) (hk : 0 < k) : 1 + x.fmod k = ((nOf x k : Nat) : Int) := by
  have h1 := Int.fmod_nonneg_of_pos x hk
  unfold nOf
  omega

end Mine
end
section
open PySem PySem.W PyProof.Rows PySem.Calls PySem.Spec
set_option Elab.async false
set_option maxRecDepth 100000
set_option linter.unusedVariables false
namespace Mine
local macro_rules | `(tactic| k_memK) => `(tactic| first | exact At.hd (by with_reducible rfl) | exact Put.hd (by with_reducible rfl) | (refine At.tail ?_; k_memK) | (apply Put.tail; k_memK))
local macro_rules | `(tactic| kqd_in) => `(tactic| first
  | assumption
  | k_memK
  | exact Ev.int
  | exact Ev.noneC
  | exact Ev.boolC
  | refine Ev.var ?_
  | exact EvL.nil
  | refine EvL.cons ?_ ?_
  | refine Ev.num ?_
  | refine Ev.den ?_
  | apply Ev.qIsNone
  | apply EvT.qIsNone
  | refine Ev.add ?_ ?_
  | refine Ev.sub ?_ ?_
  | refine Ev.mul ?_ ?_ ?_
  | refine Ev.mod ?_ ?_ ?_
  | refine Ev.fdiv ?_ ?_ ?_ ?_
  | refine Ev.tuple ?_
  | refine EvT.cEq ?_ ?_
  | refine EvT.cNe ?_ ?_
  | refine EvT.cLt ?_ ?_
  | refine EvT.cLe ?_ ?_
  | refine EvT.cGt ?_ ?_
  | refine EvT.cGe ?_ ?_
  | refine Ev.cEq ?_ ?_
  | refine Ev.cNe ?_ ?_
  | refine Ev.cLt ?_ ?_
  | refine Ev.isNoneT ?_
  | refine EvT.not ?_
  | refine Ev.not ?_
  | refine Ev.neg ?_
  | refine EvT.op ?_
  | exact EvA.andNil
  | exact EvA.orNil
  | exact Fx.Is.glo (by assumption) (by decide +kernel))

noncomputable def turnB : List Stmt := match (r_law.body[10]? : Option Stmt) with
  | some (.For _ _ b _ _) => b
  | _ => []
theorem solB {n m B : Nat} {P Q : Mx} (hP : ∀ r j, r < n → j < n → Bq B (P r j)) (hQ : ∀ r j, r < n → j < m → Bq B (Q r j)) : ∀ r j, r < n → j < m → Bq (bnd B n) (solM n m P Q r j) := by
  intro r j hr hj
  have hJ : ∀ r j, r < n → j < n + m → Bq B (join n P Q r j) := by
    intro r j h1 h2
    unfold join
    split
    · exact hP _ _ h1 (by omega)
    · exact hQ _ _ h1 (by omega)
  obtain ⟨h1, h2, h3⟩ := ech_bd hJ (n + m) (Nat.le_refl _)
  exact (h3 r (n + j) hr (by omega)).mono (bnd_mono h1)
theorem bnd22 {n : Nat} (h : n ≤ 3) : bnd 22 n ≤ 4924 := Nat.le_trans (bnd_mono h) (by decide)
theorem bnd4924 {n : Nat} (h : n ≤ 3) : 6 * bnd 4924 n + 4 ≤ 2 ^ 26 := Nat.le_trans (Nat.add_le_add_right (Nat.mul_le_mul_left 6 (bnd_mono h)) 4) (by decide)
theorem bnd22' {n : Nat} (h : n ≤ 3) : 6 * bnd 22 n + 4 ≤ 2 ^ 26 := by have := bnd22 h; omega
theorem idB {n : Nat} : ∀ r j, r < n → j < n → Bq 22 (idM r j) := fun r j _ _ => by
  unfold idM
  split
  · exact bz1.mono (by decide)
  · exact bz0.mono (by decide)

theorem law_turn {W : Wd} (R : Recs W) {C CE N fI : Addr} (X : RefW W C CE N fI) {env : Env} {A : Around} {s₀ : Shared} {O₀ : Addr → Prop} {Z : Ex} {Φ : Flow → Shared → Prop} {l0 l1 l3 l4 l8 l9 : LV} (n m : Nat) (Q M : Mx) (b : Bool) (S : Fx.Is ⟨W, env, A, ["script", "found", "side", "one", "two", "right", "wide", "unit", "joint", "sound", "grid", "bad", "back", "answer", "high", "middle", "width_of", "left", "far", "most", "breadth"], 12⟩ r_law) (hfr : A.frames = some [env]) (hfe : env.frame = some env.locals)
    (hn0 : 0 < n) (hn : n ≤ 3) (hm0 : 0 < m) (hm : m ≤ 2) (hM : ∀ r j, r < n → j < n → Bq 22 (M r j)) (hQ : ∀ r j, r < n → j < m → Bq 22 (Q r j)) (hb : b = true → rk n n M < n) (hb' : b = false → rk n n M = n) (hmsg : ∀ p : Nat, p < 3 → PyData.strOk (msgOf (p + 1)) = true) :
    Tr ⟨W, env, A, ["script", "found", "side", "one", "two", "right", "wide", "unit", "joint", "sound", "grid", "bad", "back", "answer", "high", "middle", "width_of", "left", "far", "most", "breadth"], 12⟩ s₀ O₀ Z [l0, l1, .fz (.int (n : Nat)), l3, l4, .fz (mx n m Q), .fz (.int (m : Nat)), .fz (mx n n idM), l8, l9, .fz (mx n n M), .fz (.bool b), .un, .un, .un, .un, .un, .un, .un, .un, .un] turnB (Lp ⟨W, env, A, ["script", "found", "side", "one", "two", "right", "wide", "unit", "joint", "sound", "grid", "bad", "back", "answer", "high", "middle", "width_of", "left", "far", "most", "breadth"], 12⟩ s₀ O₀ Z [l0, l1, .fz (.int (n : Nat)), l3, l4, .fz (mx n m Q), .fz (.int (m : Nat)), .fz (mx n n idM), l8, l9, .un, .un, .un, .un, .un, .un, .un, .un, .un, .un, .un] Φ) (fun _ _ => False) := by
  have K := S.toGood
  have b1 := bnd22 hn
  have b2 := bnd22' hn
  have b3 := bnd4924 hn
  refine Tr.cons (Ts.ite (b := b) K (EvT.val (Ev.var (by k_memK))) (fun q => ?_) (fun q => Tr.next ?_))
  · have hr := hb q
    obtain ⟨p, hp, hpp⟩ := refuse_at hr
    have hsol := solve_raise R X n m M Q 22 p hn0 hn (by omega) hM hQ b2 hp (hpp m Q).1 (hpp m Q).2
    have hinv := inverse_raise R n M (by omega) (solve_raise R X n n M idM 22 p hn0 hn (by omega) hM idB b2 hp (hpp n idM).1 (hpp n idM).2)
    refine Tr.cons (Ts.iteRef (ds := [mx n n M, mx n m Q]) K hfr hfe ?_ (refuses_run R X n m M Q _ (hmsg p (by omega)) hinv hsol) (Nat.le_of_ble_eq_true rfl) ?_ (Tr.next ?_) (S.glo (by decide +kernel)) (by exact ⟨rfl, rfl, trivial⟩) (by decide +kernel))
    · repeat' kqd_in
    · refine EvT.conv (EvT.cGe (Ev.call (n := 9) (ds := [mx n n M]) K.toOk (EvL.cons (Ev.var (by k_memK)) EvL.nil) (rank_run R n n M 22 (by omega) hn0 (by omega) hM b2) (Nat.le_of_ble_eq_true rfl) (S.glo (by decide +kernel))) (Ev.var (by k_memK))) ?_
      have : ¬ (((rk n n M : Nat) : Int) ≥ (n : Nat)) := by omega
      exact decide_eq_false this
    · refine Tr.weak K (σ' := [l0, l1, .fz (.int (n : Nat)), l3, l4, .fz (mx n m Q), .fz (.int (m : Nat)), .fz (mx n n idM), l8, l9, .un, .un, .un, .un, .un, .un, .un, .un, .un, .un, .un]) (.same rfl (.same rfl (.same rfl (.same rfl (.same rfl (.same rfl (.same rfl (.same rfl (.same rfl (.same rfl (.un (.un (.same rfl (.same rfl (.same rfl (.same rfl (.same rfl (.same rfl (.same rfl (.same rfl (.same rfl .nil))))))))))))))))))))) ?_
      exact Tr.cons (Ts.cont fun s' J => J)
  · have hr := hb' q
    have I2 := inv_of_rk hr
    have hZ := fun r j h1 h2 => (solB hM (@idB n) r j h1 h2).mono b1
    have hX := fun r j h1 h2 => (solB hM hQ r j h1 h2).mono b1
    refine Tr.cons (Ts.assign (d := mx n n (solM n n M idM)) (σ' := [l0, l1, .fz (.int (n : Nat)), l3, l4, .fz (mx n m Q), .fz (.int (m : Nat)), .fz (mx n n idM), l8, l9, .fz (mx n n M), .fz (.bool b), .fz (mx n n (solM n n M idM)), .un, .un, .un, .un, .un, .un, .un, .un]) K ?_ (by k_memK) (fun s' J => ?_) (swp S fun _ _ _ _ _ _ _ _ => rfl))
    · refine Ev.call (n := 10) (ds := [mx n n M]) K.toOk ?_ (inverse_run R n M 22 (by decide) hn0 (by omega) hM b2 (solve_at hr)) (Nat.le_of_ble_eq_true rfl) (S.glo (by decide +kernel))
      repeat' kqd_in
    refine Tr.cons (Ts.ite (b := false) K (EvT.or3 ?_ ?_ ?_) (fun q => by cases q) (fun q => Tr.next ?_)) s' J
    · refine EvT.neM (h := n) (w := n) (A := mulM n M (solM n n M idM)) (B := idM) K.toOk ?_ (Ev.var (by k_memK)) I2.r
      refine Ev.call (n := 5) (ds := [mx n n M, mx n n (solM n n M idM), .int (n : Nat)]) K.toOk ?_ (times_run R n n n M _ 22 4924 14842 (by omega) (by omega) (Nat.le_refl _) (by omega) hM hZ (by have := Nat.mul_le_mul_right (22 + 4924 + 1) hn; omega) (by decide)) (Nat.le_of_ble_eq_true rfl) (S.glo (by decide +kernel))
      repeat' kqd_in
    · refine EvT.neM (h := n) (w := n) (A := mulM n (solM n n M idM) M) (B := idM) K.toOk ?_ (Ev.var (by k_memK)) I2.l
      refine Ev.call (n := 5) (ds := [mx n n (solM n n M idM), mx n n M, .int (n : Nat)]) K.toOk ?_ (times_run R n n n _ M 4924 22 14842 (by omega) (by omega) (Nat.le_refl _) (by omega) hZ hM (by have := Nat.mul_le_mul_right (4924 + 22 + 1) hn; omega) (by decide)) (Nat.le_of_ble_eq_true rfl) (S.glo (by decide +kernel))
      repeat' kqd_in
    · refine EvT.neM (h := n) (w := n) (A := solM n n (solM n n M idM) idM) (B := M) K.toOk ?_ (Ev.var (by k_memK)) I2.symm.inv
      refine Ev.call (n := 10) (ds := [mx n n (solM n n M idM)]) K.toOk ?_ (inverse_run R n _ 4924 (by decide) hn0 (by omega) hZ b3 (solve_at I2.symm.rk)) (Nat.le_of_ble_eq_true rfl) (S.glo (by decide +kernel))
      repeat' kqd_in
    refine Tr.cons (Ts.assign (d := mx n m (solM n m M Q)) (σ' := [l0, l1, .fz (.int (n : Nat)), l3, l4, .fz (mx n m Q), .fz (.int (m : Nat)), .fz (mx n n idM), l8, l9, .fz (mx n n M), .fz (.bool b), .fz (mx n n (solM n n M idM)), .fz (mx n m (solM n m M Q)), .un, .un, .un, .un, .un, .un, .un]) K ?_ (by k_memK) (fun s' J => ?_) (swp S fun _ _ _ _ _ _ _ _ => rfl))
    · refine Ev.call (n := 9) (ds := [mx n n M, mx n m Q]) K.toOk ?_ (solve_run R n m M Q 22 hn0 (by omega) hM hQ b2 (solve_at hr)) (Nat.le_of_ble_eq_true rfl) (S.glo (by decide +kernel))
      repeat' kqd_in
    refine Tr.cons (Ts.ite (b := false) K (EvT.or3 ?_ ?_ ?_) (fun q => by cases q) (fun q => Tr.next ?_)) s' J
    · refine EvT.neM (h := n) (w := m) (A := solM n m M Q) (B := mulM n (solM n n M idM) Q) K.toOk (Ev.var (by k_memK)) ?_ I2.sol
      refine Ev.call (n := 5) (ds := [mx n n (solM n n M idM), mx n m Q, .int (m : Nat)]) K.toOk ?_ (times_run R n n m _ Q 4924 22 14842 (by omega) (by omega) (Nat.le_refl _) (by omega) hZ hQ (by have := Nat.mul_le_mul_right (4924 + 22 + 1) hn; omega) (by decide)) (Nat.le_of_ble_eq_true rfl) (S.glo (by decide +kernel))
      repeat' kqd_in
    · refine EvT.neM (h := n) (w := m) (A := mulM n M (solM n m M Q)) (B := Q) K.toOk ?_ (Ev.var (by k_memK)) (sol_ok hr)
      refine Ev.call (n := 5) (ds := [mx n n M, mx n m (solM n m M Q), .int (m : Nat)]) K.toOk ?_ (times_run R n n m M _ 22 4924 14842 (by omega) (by omega) (Nat.le_refl _) (by omega) hM hX (by have := Nat.mul_le_mul_right (22 + 4924 + 1) hn; omega) (by decide)) (Nat.le_of_ble_eq_true rfl) (S.glo (by decide +kernel))
      repeat' kqd_in
    · refine EvT.conv (EvT.cNe (Ev.call (n := 9) (ds := [mx n n M]) K.toOk (EvL.cons (Ev.var (by k_memK)) EvL.nil) (rank_run R n n M 22 (by omega) hn0 (by omega) hM b2) (Nat.le_of_ble_eq_true rfl) (S.glo (by decide +kernel))) (Ev.var (by k_memK))) ?_
      have : ((rk n n M : Nat) : Int) = (n : Nat) := by omega
      show (((rk n n M : Nat) : Int) != (n : Nat)) = false
      rw [this]; simp
    exact Tr.lp (.same rfl (.same rfl (.same rfl (.same rfl (.same rfl (.same rfl (.same rfl (.same rfl (.same rfl (.same rfl (.un (.un (.un (.un (.same rfl (.same rfl (.same rfl (.same rfl (.same rfl (.same rfl (.same rfl .nil))))))))))))))))))))) K

end Mine
end
section
open PySem PySem.W PyProof.Rows PySem.Calls PySem.Spec
set_option Elab.async false
set_option maxRecDepth 100000
set_option linter.unusedVariables false
namespace Mine
local macro_rules | `(tactic| k_memK) => `(tactic| first | exact At.hd (by with_reducible rfl) | exact Put.hd (by with_reducible rfl) | (refine At.tail ?_; k_memK) | (apply Put.tail; k_memK))
local macro_rules | `(tactic| kqd_in) => `(tactic| first
  | assumption
  | k_memK
  | exact Ev.int
  | exact Ev.noneC
  | exact Ev.boolC
  | refine Ev.var ?_
  | exact EvL.nil
  | refine EvL.cons ?_ ?_
  | refine Ev.num ?_
  | refine Ev.den ?_
  | apply Ev.qIsNone
  | apply EvT.qIsNone
  | refine Ev.add ?_ ?_
  | refine Ev.sub ?_ ?_
  | refine Ev.mul ?_ ?_ ?_
  | refine Ev.mod ?_ ?_ ?_
  | refine Ev.fdiv ?_ ?_ ?_ ?_
  | refine Ev.tuple ?_
  | refine EvT.cEq ?_ ?_
  | refine EvT.cNe ?_ ?_
  | refine EvT.cLt ?_ ?_
  | refine EvT.cLe ?_ ?_
  | refine EvT.cGt ?_ ?_
  | refine EvT.cGe ?_ ?_
  | refine Ev.cEq ?_ ?_
  | refine Ev.cNe ?_ ?_
  | refine Ev.cLt ?_ ?_
  | refine Ev.isNoneT ?_
  | refine EvT.not ?_
  | refine Ev.not ?_
  | refine Ev.neg ?_
  | refine EvT.op ?_
  | exact EvA.andNil
  | exact EvA.orNil
  | exact Fx.Is.glo (by assumption) (by decide +kernel))

noncomputable def turnB2 : List Stmt := match (r_law.body[21]? : Option Stmt) with
  | some (.For _ _ b _ _) => b
  | _ => []
theorem law_turn2 {W : Wd} (R : Recs W) {env : Env} {A : Around} {s₀ : Shared} {O₀ : Addr → Prop} {Z : Ex} {Φ : Flow → Shared → Prop} {l0 l1 l2 l3 l4 l5 l6 l7 l8 l9 l11 l12 l13 l14 l15 l16 l17 l18 l19 : LV} (h w : Nat) (M : Mx) (S : Fx.Is ⟨W, env, A, ["script", "found", "side", "one", "two", "right", "wide", "unit", "joint", "sound", "grid", "bad", "back", "answer", "high", "middle", "width_of", "left", "far", "most", "breadth"], 12⟩ r_law)
    (hh0 : 0 < h) (hh : h ≤ 3) (hw0 : 0 < w) (hw : w ≤ 3) (hM : ∀ r j, r < h → j < w → Bq 22 (M r j)) :
    Tr ⟨W, env, A, ["script", "found", "side", "one", "two", "right", "wide", "unit", "joint", "sound", "grid", "bad", "back", "answer", "high", "middle", "width_of", "left", "far", "most", "breadth"], 12⟩ s₀ O₀ Z [l0, l1, l2, l3, l4, l5, l6, l7, l8, l9, .fz (mx h w M), l11, l12, l13, l14, l15, l16, l17, l18, l19, .fz (.int (w : Nat))] turnB2 (Lp ⟨W, env, A, ["script", "found", "side", "one", "two", "right", "wide", "unit", "joint", "sound", "grid", "bad", "back", "answer", "high", "middle", "width_of", "left", "far", "most", "breadth"], 12⟩ s₀ O₀ Z [l0, l1, l2, l3, l4, l5, l6, l7, l8, l9, .un, l11, l12, l13, l14, l15, l16, l17, l18, l19, .un] Φ) (fun _ _ => False) := by
  have K := S.toGood
  have bl : Bui ⟨W, env, A, ["script", "found", "side", "one", "two", "right", "wide", "unit", "joint", "sound", "grid", "bad", "back", "answer", "high", "middle", "width_of", "left", "far", "most", "breadth"], 12⟩ "len" (.builtin "len") := S.bui (by decide +kernel) R.b_len (by decide +kernel) (by decide +kernel) (by decide +kernel)
  have rM := rank_run R h w M 22 (by omega) hh0 (by omega) hM (bnd22' hh)
  have rT := rank_run R w h (fun i j => M j i) 22 (by omega) hw0 (by omega) (fun r j h1 h2 => hM j r h2 h1) (bnd22' hw)
  refine Tr.cons (Ts.ite (b := false) K ?_ (fun q => by cases q) (fun q => Tr.next ?_))
  · refine EvT.conv (EvT.cNe (Ev.call (n := 9) (ds := [mx w h fun i j => M j i]) K.toOk (EvL.cons (Ev.call (n := 1) (ds := [mx h w M, .int (w : Nat)]) K.toOk (EvL.cons (Ev.var (by k_memK)) (EvL.cons (Ev.var (by k_memK)) EvL.nil)) (transposed_run R h w M (Nat.le_refl _) (by omega) (by omega)) (Nat.le_of_ble_eq_true rfl) (S.glo (by decide +kernel))) EvL.nil) rT (Nat.le_of_ble_eq_true rfl) (S.glo (by decide +kernel))) (Ev.call (n := 9) (ds := [mx h w M]) K.toOk (EvL.cons (Ev.var (by k_memK)) EvL.nil) rM (Nat.le_of_ble_eq_true rfl) (S.glo (by decide +kernel)))) ?_
    have : rk w h (fun i j => M j i) = rk h w M := rk_tr
    show (((rk w h fun i j => M j i : Nat) : Int) != ((rk h w M : Nat) : Int)) = false
    rw [this]; simp
  refine Tr.cons (Ts.ite (b := false) K ?_ (fun q => by cases q) (fun q => Tr.next ?_))
  · refine EvT.conv (EvT.cNe (Ev.add (Ev.call (n := 9) (ds := [mx h w M]) K.toOk (EvL.cons (Ev.var (by k_memK)) EvL.nil) rM (Nat.le_of_ble_eq_true rfl) (S.glo (by decide +kernel))) (Ev.len K.toOk bl (Ev.call (n := 9) (ds := [mx h w M, .int (w : Nat)]) K.toOk (EvL.cons (Ev.var (by k_memK)) (EvL.cons (Ev.var (by k_memK)) EvL.nil)) (null_run R h w M 22 (by omega) hh0 (by omega) hM (bnd22' hh)) (Nat.le_of_ble_eq_true rfl) (S.glo (by decide +kernel))) ?_)) (Ev.var (by k_memK))) ?_
    · rw [List.length_map]; have := @frees_len (ech h M w).2 w; omega
    · rw [List.length_map]
      have := @frees_rk h M w
      have e : ((((ech h M w).2.length : Nat) : Int) + (((frees (ech h M w).2 w).length : Nat) : Int)) = ((w : Nat) : Int) := by omega
      rw [e]; simp
  exact Tr.lp (.same rfl (.same rfl (.same rfl (.same rfl (.same rfl (.same rfl (.same rfl (.same rfl (.same rfl (.same rfl (.un (.same rfl (.same rfl (.same rfl (.same rfl (.same rfl (.same rfl (.same rfl (.same rfl (.same rfl (.un .nil))))))))))))))))))))) K
noncomputable def pick3 {α : Type} (a b c : α) : Nat → α
  | 0 => a
  | 1 => b
  | _ => c
theorem pick3_all {α : Type} {P : α → Prop} {a b c : α} (h1 : P a) (h2 : P b) (h3 : P c) : ∀ i, P (pick3 a b c i)
  | 0 => h1
  | 1 => h2
  | _ + 2 => h3
theorem Ev.fi {F : Fx} {σ : List LV} {l i : Expr} {fs : List Int} {k : Nat} {pos : Pos} (hl : Ev F σ l (.lst (intsI fs))) (hi : Ev F σ i (.int (k : Nat))) (hk : k < fs.length) (hf : fs.length ≤ 64) (hs : Idx i := by intro _ _; with_unfolding_all rfl) : Ev F σ (.Subscript l i pos) (.int (fs.getD k 0)) :=
  Ev.idx hl hi (by omega) (by omega) (by rw [Int.toNat_natCast]; refine intsI_get ?_; rw [List.getD_eq_getElem?_getD, List.getElem?_eq_getElem hk]; rfl) hs
noncomputable def cut (fs : List Int) (a b : Nat) : List Int := (fs.take b).drop a
theorem cut_len {fs : List Int} {a b : Nat} (h : b ≤ fs.length) : (cut fs a b).length = b - a := by
  unfold cut
  rw [List.length_drop, List.length_take]; omega
theorem Ev.cutI {F : Fx} {σ : List LV} {l x y : Expr} {fs : List Int} {a b : Nat} {p pos : Pos} (hl : Ev F σ l (.lst (intsI fs))) (ha : Ev F σ x (.int (a : Nat))) (hb : Ev F σ y (.int (b : Nat))) (hab : a ≤ b) (hk : b ≤ fs.length) (hf : fs.length ≤ 64) : Ev F σ (.Subscript l (.Slice (some x) (some y) none p) pos) (.lst (intsI (cut fs a b))) := by
  have e := EvN.ev (EvN.slice (lo := some a) (hi := some b) (p := p) (pos := pos) hl (show EvP F σ (some x) (some a) from ha) (show EvP F σ (some y) (some b) from hb) (by simpa [intsI_len] using hk) (by simpa using hab) (by rw [intsI_len]; exact size64 hf))
  refine Ev.conv e ?_
  simp [intsI, cut, List.map_take, List.map_drop]
noncomputable def rowDup (c : Bool) (n : Nat) (H : Nat → Nat → Int) : Nat → Nat → Int := fun i j => if c = true ∧ i = 0 then H (n - 1) j else H i j
noncomputable def rowAll (c : Bool) (H : Nat → Nat → Int) : Nat → Nat → Int := fun i j => if c = true then H 0 j else H i j

theorem law_body1 {W : Wd} (R : Recs W) {C CE N fI : Addr} (X : RefW W C CE N fI) {env : Env} {A : Around} {s₀ : Shared} {O₀ : Addr → Prop} {Φ : Flow → Shared → Prop} (xs : List Int) (hx : xs.length ≤ 64) (S : Fx.Is ⟨W, env, A, ["script", "found", "side", "one", "two", "right", "wide", "unit", "joint", "sound", "grid", "bad", "back", "answer", "high", "middle", "width_of", "left", "far", "most", "breadth"], 12⟩ r_law) (hfr : A.frames = some [env]) (hfe : env.frame = some env.locals) (hmsg : ∀ p : Nat, p < 3 → PyData.strOk (msgOf (p + 1)) = true)
    (rest : ∀ (fs : List Int), fs.length = 60 → ∀ n : Nat, n = nOf (fs.getD 0 0) 3 → ∀ HA, HA = gridH (cut fs 1 10) n → Tr ⟨W, env, A, ["script", "found", "side", "one", "two", "right", "wide", "unit", "joint", "sound", "grid", "bad", "back", "answer", "high", "middle", "width_of", "left", "far", "most", "breadth"], 12⟩ s₀ O₀ {} [.un, .fz (.lst (intsI fs)), .fz (.int (n : Nat)), .fz (mx n n (halfM HA)), .un, .un, .un, .un, .un, .un, .un, .un, .un, .un, .un, .un, .un, .un, .un, .un, .un] (r_law.body.drop 12) Φ (fun _ _ => False)) :
    Tr ⟨W, env, A, ["script", "found", "side", "one", "two", "right", "wide", "unit", "joint", "sound", "grid", "bad", "back", "answer", "high", "middle", "width_of", "left", "far", "most", "breadth"], 12⟩ s₀ O₀ {} [.fz (.lst (intsI xs)), .un, .un, .un, .un, .un, .un, .un, .un, .un, .un, .un, .un, .un, .un, .un, .un, .un, .un, .un, .un] r_law.body Φ (fun _ _ => False) := by
  have K := S.toGood
  have bl : Bui ⟨W, env, A, ["script", "found", "side", "one", "two", "right", "wide", "unit", "joint", "sound", "grid", "bad", "back", "answer", "high", "middle", "width_of", "left", "far", "most", "breadth"], 12⟩ "len" (.builtin "len") := S.bui (by decide +kernel) R.b_len (by decide +kernel) (by decide +kernel) (by decide +kernel)
  have bli : Bui ⟨W, env, A, ["script", "found", "side", "one", "two", "right", "wide", "unit", "joint", "sound", "grid", "bad", "back", "answer", "high", "middle", "width_of", "left", "far", "most", "breadth"], 12⟩ "list" (.type "list") := S.bui (by decide +kernel) R.b_list (by decide +kernel) (by decide +kernel) (by decide +kernel)
  have hd := drawn_run R xs hx
  have hfl := (drw_bd (xs.take 60) 60).1
  generalize (drw (xs.take 60) 60).1 = fs at hd hfl
  have rest := rest fs hfl _ rfl _ rfl
  have hf64 : fs.length ≤ 64 := by omega
  refine Tr.cons (Ts.assign (d := .lst (intsI fs)) (σ' := [.fz (.lst (intsI xs)), .fz (.lst (intsI fs)), .un, .un, .un, .un, .un, .un, .un, .un, .un, .un, .un, .un, .un, .un, .un, .un, .un, .un, .un]) K (Ev.call (n := 1) (ds := [.lst (intsI xs)]) K.toOk (EvL.cons (Ev.var (by k_memK)) EvL.nil) hd (Nat.le_of_ble_eq_true rfl) (S.glo (by decide +kernel))) (by k_memK) (fun s' J => ?_) (swp S fun _ _ _ _ _ _ _ _ => rfl))
  obtain ⟨hn1, hn3⟩ := nOf_bd (fs.getD 0 0) (k := 3) (by decide)
  have en := nOf_eq (fs.getD 0 0) 3 (by decide)
  have hn1' : 1 ≤ nOf (fs.getD 0 0) 3 := hn1
  have hn3' : nOf (fs.getD 0 0) 3 ≤ 3 := hn3
  clear hn1 hn3
  generalize nOf (fs.getD 0 0) 3 = n at rest en hn1' hn3'
  have hnn : n * n ≤ 9 := Nat.mul_le_mul hn3' hn3'
  refine Tr.cons (Ts.assign (d := .int (n : Nat)) (σ' := [.fz (.lst (intsI xs)), .fz (.lst (intsI fs)), .fz (.int (n : Nat)), .un, .un, .un, .un, .un, .un, .un, .un, .un, .un, .un, .un, .un, .un, .un, .un, .un, .un]) K (Ev.conv (Ev.add Ev.int (Ev.mod (Ev.fi (k := 0) (Ev.var (by k_memK)) Ev.int (by omega) hf64) Ev.int (by decide))) (congrArg Dt.int en)) (by k_memK) (fun s' J => ?_) (swp S fun _ _ _ _ _ _ _ _ => rfl)) s' J
  have gA := grid_run R (cut fs 1 10) n n (by omega) (by omega) (by rw [cut_len (by omega)]; omega) (by rw [cut_len (by omega)]; omega)
  have bA := gridH_bd (cut fs 1 10) n
  generalize gridH (cut fs 1 10) n = HA at rest gA bA
  refine Tr.cons (Ts.assign (d := mx n n (halfM HA)) (σ' := [.fz (.lst (intsI xs)), .fz (.lst (intsI fs)), .fz (.int (n : Nat)), .fz (mx n n (halfM HA)), .un, .un, .un, .un, .un, .un, .un, .un, .un, .un, .un, .un, .un, .un, .un, .un, .un]) K (Ev.call (n := 1) (ds := [.lst (intsI (cut fs 1 10)), .int (n : Nat), .int (n : Nat)]) K.toOk (EvL.cons (Ev.cutI (a := 1) (b := 10) (Ev.var (by k_memK)) Ev.int Ev.int (by decide) (by omega) hf64) (EvL.cons (Ev.var (by k_memK)) (EvL.cons (Ev.var (by k_memK)) EvL.nil))) gA.fn (Nat.le_of_ble_eq_true rfl) (S.glo (by decide +kernel))) (by k_memK) (fun s' J => ?_) (swp S fun _ _ _ _ _ _ _ _ => rfl)) s' J
  have gB := grid_run R (cut fs 10 19) n n (by omega) (by omega) (by rw [cut_len (by omega)]; omega) (by rw [cut_len (by omega)]; omega)
  have bB0 := gridH_bd (cut fs 10 19) n
  generalize gridH (cut fs 10 19) n = HB0 at gB bB0
  refine Tr.cons (Ts.assignN (pl := true) (ds := mxD n n (halfM HB0)) (σ' := [.fz (.lst (intsI xs)), .fz (.lst (intsI fs)), .fz (.int (n : Nat)), .fz (mx n n (halfM HA)), .ow true (mxD n n (halfM HB0)), .un, .un, .un, .un, .un, .un, .un, .un, .un, .un, .un, .un, .un, .un, .un, .un]) K (EvN.call (n := 1) (ds := [.lst (intsI (cut fs 10 19)), .int (n : Nat), .int (n : Nat)]) K.toOk (EvL.cons (Ev.cutI (a := 10) (b := 19) (Ev.var (by k_memK)) Ev.int Ev.int (by decide) (by omega) hf64) (EvL.cons (Ev.var (by k_memK)) (EvL.cons (Ev.var (by k_memK)) EvL.nil))) gB (Nat.le_of_ble_eq_true rfl) (S.glo (by decide +kernel))) (by k_memK) (fun s' J => ?_) (swp S fun _ _ _ _ _ _ _ _ => rfl)) s' J
  obtain ⟨cd, hcd⟩ : ∃ cd : Bool, (decide (((n : Nat) : Int) > 1) && ((((fs.getD 19 0).fmod 6) == 0) && true)) = cd := ⟨_, rfl⟩
  refine Tr.mid (σ' := [.fz (.lst (intsI xs)), .fz (.lst (intsI fs)), .fz (.int (n : Nat)), .fz (mx n n (halfM HA)), .fz (mx n n (halfM (rowDup cd n HB0))), .un, .un, .un, .un, .un, .un, .un, .un, .un, .un, .un, .un, .un, .un, .un, .un]) (Ts.ite (b := cd) K ?_ (fun q => ?_) (fun q => ?_)) ?_ s' J
  · rw [← hcd]
    exact EvT.op (EvA.and (EvT.cGt (Ev.var (by k_memK)) Ev.int) fun _ => EvA.and (EvT.cEq (Ev.mod (Ev.fi (k := 19) (Ev.var (by k_memK)) Ev.int (by omega) hf64) Ev.int (by decide)) Ev.int) fun _ => EvA.andNil)
  · have hn2 : 1 < n := by
      rw [q] at hcd
      simp only [Bool.and_eq_true] at hcd
      have := of_decide_eq_true hcd.1
      omega
    refine Tr.cons (Ts.setitem (d := rw_ n (halfM HB0 (n - 1))) (j := 0) (ds := mxD n n (halfM HB0)) (pl := true) (σ' := [.fz (.lst (intsI xs)), .fz (.lst (intsI fs)), .fz (.int (n : Nat)), .fz (mx n n (halfM HA)), .ow false ((mxD n n (halfM HB0)).set ((0 : Int)).toNat (rw_ n (halfM HB0 (n - 1)))), .un, .un, .un, .un, .un, .un, .un, .un, .un, .un, .un, .un, .un, .un, .un, .un]) K (by k_memK) ?_ Ev.int (by decide) (by rw [mxD_len]; show 0 < n; omega) (by rw [mxD_len]; omega) (by k_memK) (fun s' J => ?_) (swp S fun _ _ _ _ _ _ _ _ => rfl))
    · refine EvN.ev (pl := true) (EvN.listOf K.toOk bli (ds := rowD n (halfM HB0 (n - 1))) (Ev.mxO (k := n - 1) (by k_memK) (Ev.conv (Ev.sub (Ev.var (by k_memK)) Ev.int) (congrArg Dt.int (by omega))) (by omega) (by omega)) (by rw [rowD_len]; exact size64 (by omega)))
    · have e : (mxD n n (halfM HB0)).set ((0 : Int)).toNat (rw_ n (halfM HB0 (n - 1))) = mxD n n (halfM (rowDup cd n HB0)) := by
        show (mxD n n (halfM HB0)).set 0 _ = _
        unfold mxD
        rw [rng_set]
        refine rng_congr fun k hk => ?_
        by_cases hk0 : k = 0
        · rw [if_pos hk0]
          refine rw_congr fun j hj => ?_
          unfold halfM rowDup
          rw [if_pos ⟨q, hk0⟩]
        · rw [if_neg hk0]
          refine rw_congr fun j hj => ?_
          unfold halfM rowDup
          rw [if_neg fun z => hk0 z.2]
      rw [e] at J
      exact Tr.nx (.same rfl (.same rfl (.same rfl (.same rfl (.fr rfl (.same rfl (.same rfl (.same rfl (.same rfl (.same rfl (.same rfl (.same rfl (.same rfl (.same rfl (.same rfl (.same rfl (.same rfl (.same rfl (.same rfl (.same rfl (.same rfl .nil))))))))))))))))))))) K s' J
  · have e : rowDup cd n HB0 = HB0 := by
      funext i j
      unfold rowDup
      rw [if_neg fun z => by rw [q] at z; exact Bool.false_ne_true z.1]
    rw [e]
    exact Tr.nx (.same rfl (.same rfl (.same rfl (.same rfl (.fr rfl (.same rfl (.same rfl (.same rfl (.same rfl (.same rfl (.same rfl (.same rfl (.same rfl (.same rfl (.same rfl (.same rfl (.same rfl (.same rfl (.same rfl (.same rfl (.same rfl .nil))))))))))))))))))))) K
  have bB : ∀ i j, -5 ≤ rowDup cd n HB0 i j ∧ rowDup cd n HB0 i j ≤ 5 := fun i j => by
    unfold rowDup
    split
    · exact bB0 _ _
    · exact bB0 _ _
  generalize rowDup cd n HB0 = HB at bB ⊢
  clear s' J
  obtain ⟨hm1, hm2⟩ := nOf_bd (fs.getD 26 0) (k := 2) (by decide)
  have em := nOf_eq (fs.getD 26 0) 2 (by decide)
  have hm1' : 1 ≤ nOf (fs.getD 26 0) 2 := hm1
  have hm2' : nOf (fs.getD 26 0) 2 ≤ 2 := hm2
  clear hm1 hm2
  generalize nOf (fs.getD 26 0) 2 = m at em hm1' hm2'
  have hnm : n * m ≤ 6 := Nat.mul_le_mul hn3' hm2'
  have gQ := grid_run R (cut fs 20 26) n m (by omega) (by omega) (by rw [cut_len (by omega)]; omega) (by rw [cut_len (by omega)]; omega)
  have bQ := gridH_bd (cut fs 20 26) m
  generalize gridH (cut fs 20 26) m = HQ at gQ bQ

  refine Tr.cons (Ts.assign (d := mx n m (halfM HQ)) (σ' := [.fz (.lst (intsI xs)), .fz (.lst (intsI fs)), .fz (.int (n : Nat)), .fz (mx n n (halfM HA)), .fz (mx n n (halfM HB)), .fz (mx n m (halfM HQ)), .un, .un, .un, .un, .un, .un, .un, .un, .un, .un, .un, .un, .un, .un, .un]) K (Ev.call (n := 1) (ds := [.lst (intsI (cut fs 20 26)), .int (n : Nat), .int (m : Nat)]) K.toOk (EvL.cons (Ev.cutI (a := 20) (b := 26) (Ev.var (by k_memK)) Ev.int Ev.int (by decide) (by omega) hf64) (EvL.cons (Ev.var (by k_memK)) (EvL.cons (Ev.conv (Ev.add Ev.int (Ev.mod (Ev.fi (k := 26) (Ev.var (by k_memK)) Ev.int (by omega) hf64) Ev.int (by decide))) (congrArg Dt.int em)) EvL.nil))) gQ.fn (Nat.le_of_ble_eq_true rfl) (S.glo (by decide +kernel))) (by k_memK) (fun s' J => ?_) (swp S fun _ _ _ _ _ _ _ _ => rfl))
  refine Tr.cons (Ts.assign (d := .int (m : Nat)) (σ' := [.fz (.lst (intsI xs)), .fz (.lst (intsI fs)), .fz (.int (n : Nat)), .fz (mx n n (halfM HA)), .fz (mx n n (halfM HB)), .fz (mx n m (halfM HQ)), .fz (.int (m : Nat)), .un, .un, .un, .un, .un, .un, .un, .un, .un, .un, .un, .un, .un, .un]) K (Ev.lenR K.toOk bl (f := halfM HQ 0) (Ev.mxI (k := 0) (h := n) (M := halfM HQ) (Ev.var (by k_memK)) Ev.int (by omega) (by omega)) (by omega)) (by k_memK) (fun s' J => ?_) (swp S fun _ _ _ _ _ _ _ _ => rfl)) s' J
  refine Tr.cons (Ts.assign (d := mx n n idM) (σ' := [.fz (.lst (intsI xs)), .fz (.lst (intsI fs)), .fz (.int (n : Nat)), .fz (mx n n (halfM HA)), .fz (mx n n (halfM HB)), .fz (mx n m (halfM HQ)), .fz (.int (m : Nat)), .fz (mx n n idM), .un, .un, .un, .un, .un, .un, .un, .un, .un, .un, .un, .un, .un]) K (Ev.call (n := 1) (ds := [.int (n : Nat)]) K.toOk (EvL.cons (Ev.var (by k_memK)) EvL.nil) (identity_run R n (by omega)) (Nat.le_of_ble_eq_true rfl) (S.glo (by decide +kernel))) (by k_memK) (fun s' J => ?_) (swp S fun _ _ _ _ _ _ _ _ => rfl)) s' J
  have qA : ∀ r j, r < n → j < n → Bq 3 (halfM HA r j) := fun r j _ _ => half_bd (bA r j)
  have qB : ∀ r j, r < n → j < n → Bq 3 (halfM HB r j) := fun r j _ _ => half_bd (bB r j)
  have qQ : ∀ r j, r < n → j < m → Bq 22 (halfM HQ r j) := fun r j _ _ => (half_bd (bQ r j)).mono (by decide)
  have qJ : ∀ r j, r < n → j < n → Bq 22 (mulM n (halfM HA) (halfM HB) r j) := fun r j hr hj => Bq.sumN (B := 6) (fun k hk => (qA r k hr hk).mul (qB k j hk hj)) (by omega)
  have qA' : ∀ r j, r < n → j < n → Bq 22 (halfM HA r j) := fun r j h1 h2 => (qA r j h1 h2).mono (by decide)
  have qB' : ∀ r j, r < n → j < n → Bq 22 (halfM HB r j) := fun r j h1 h2 => (qB r j h1 h2).mono (by decide)
  refine Tr.cons (Ts.assign (d := mx n n (mulM n (halfM HA) (halfM HB))) (σ' := [.fz (.lst (intsI xs)), .fz (.lst (intsI fs)), .fz (.int (n : Nat)), .fz (mx n n (halfM HA)), .fz (mx n n (halfM HB)), .fz (mx n m (halfM HQ)), .fz (.int (m : Nat)), .fz (mx n n idM), .fz (mx n n (mulM n (halfM HA) (halfM HB))), .un, .un, .un, .un, .un, .un, .un, .un, .un, .un, .un, .un]) K (Ev.call (n := 5) (ds := [mx n n (halfM HA), mx n n (halfM HB), .int (n : Nat)]) K.toOk (EvL.cons (Ev.var (by k_memK)) (EvL.cons (Ev.var (by k_memK)) (EvL.cons (Ev.var (by k_memK)) EvL.nil))) (times_run R n n n _ _ 3 3 22 (by omega) (by omega) (Nat.le_refl _) (by omega) qA qB (by omega) (by decide)) (Nat.le_of_ble_eq_true rfl) (S.glo (by decide +kernel))) (by k_memK) (fun s' J => ?_) (swp S fun _ _ _ _ _ _ _ _ => rfl)) s' J
  have gsA := singular_run R n HA (by omega) (by omega) fun i j _ _ => bA i j
  have gsB := singular_run R n HB (by omega) (by omega) fun i j _ _ => bB i j
  have iA := sing_iff (H := HA) (n := n) (by omega) (by omega)
  have iB := sing_iff (H := HB) (n := n) (by omega) (by omega)
  generalize sing n HA = sA at gsA iA
  generalize sing n HB = sB at gsB iB
  obtain ⟨Jm, hJ⟩ : ∃ J, mulM n (halfM HA) (halfM HB) = J := ⟨_, rfl⟩
  rw [hJ] at qJ J
  refine Tr.cons (Ts.assign (d := .bool (!sA && !sB)) (σ' := [.fz (.lst (intsI xs)), .fz (.lst (intsI fs)), .fz (.int (n : Nat)), .fz (mx n n (halfM HA)), .fz (mx n n (halfM HB)), .fz (mx n m (halfM HQ)), .fz (.int (m : Nat)), .fz (mx n n idM), .fz (mx n n Jm), .fz (.bool (!sA && !sB)), .un, .un, .un, .un, .un, .un, .un, .un, .un, .un, .un]) K (Ev.and2 (Ev.not (Ev.call (n := 1) (ds := [mx n n (halfM HA)]) K.toOk (EvL.cons (Ev.var (by k_memK)) EvL.nil) gsA (Nat.le_of_ble_eq_true rfl) (S.glo (by decide +kernel)))) fun _ => Ev.not (Ev.call (n := 1) (ds := [mx n n (halfM HB)]) K.toOk (EvL.cons (Ev.var (by k_memK)) EvL.nil) gsB (Nat.le_of_ble_eq_true rfl) (S.glo (by decide +kernel)))) (by k_memK) (fun s' J => ?_) (swp S fun _ _ _ _ _ _ _ _ => rfl)) s' J
  have leA := @rk_le_h n n (halfM HA)
  have leB := @rk_le_h n n (halfM HB)
  have leJ := @rk_le_h n n Jm
  have rA1 : sA = true → rk n n (halfM HA) < n := iA.mp
  have rA0 : sA = false → rk n n (halfM HA) = n := fun z => by
    have : ¬ rk n n (halfM HA) < n := fun y => by have := iA.mpr y; rw [z] at this; cases this
    omega
  have rB1 : sB = true → rk n n (halfM HB) < n := iB.mp
  have rB0 : sB = false → rk n n (halfM HB) = n := fun z => by
    have : ¬ rk n n (halfM HB) < n := fun y => by have := iB.mpr y; rw [z] at this; cases this
    omega
  have rJ1 : (!(!sA && !sB)) = true → rk n n Jm < n := fun z => by
    rw [← hJ]
    refine rk_mul_lt ?_
    cases hA : sA
    · cases hB : sB
      · rw [hA, hB] at z; cases z
      · exact .inr (rB1 hB)
    · exact .inl (rA1 hA)
  have invJ : (!sA && !sB) = true → Inv2 n Jm (mulM n (solM n n (halfM HB) idM) (solM n n (halfM HA) idM)) ∧ sA = false ∧ sB = false := fun z => by
    have hA : sA = false := by cases h : sA <;> rw [h] at z <;> first | rfl | cases z
    have hB : sB = false := by cases h : sB <;> rw [h, hA] at z <;> first | rfl | cases z
    rw [← hJ]
    exact ⟨(inv_of_rk (rA0 hA)).mul (inv_of_rk (rB0 hB)), hA, hB⟩
  have rJ0 : (!(!sA && !sB)) = false → rk n n Jm = n := fun z => by
    have z' : (!sA && !sB) = true := by cases h : (!sA && !sB) <;> rw [h] at z <;> first | rfl | cases z
    exact (invJ z').1.rk
  generalize (!sA && !sB) = sd at J rJ1 invJ rJ0

  refine Tr.cons (Ts.forList (ds := [.tup [mx n n (halfM HA), .bool sA], .tup [mx n n (halfM HB), .bool sB], .tup [mx n n Jm, .bool (!sd)]]) K ?_ (fun _ => [.fz (.lst (intsI xs)), .fz (.lst (intsI fs)), .fz (.int (n : Nat)), .fz (mx n n (halfM HA)), .fz (mx n n (halfM HB)), .fz (mx n m (halfM HQ)), .fz (.int (m : Nat)), .fz (mx n n idM), .fz (mx n n Jm), .fz (.bool sd), .un, .un, .un, .un, .un, .un, .un, .un, .un, .un, .un]) (fun i => [.fz (.lst (intsI xs)), .fz (.lst (intsI fs)), .fz (.int (n : Nat)), .fz (mx n n (halfM HA)), .fz (mx n n (halfM HB)), .fz (mx n m (halfM HQ)), .fz (.int (m : Nat)), .fz (mx n n idM), .fz (mx n n Jm), .fz (.bool sd), .fz (mx n n (pick3 (halfM HA) (halfM HB) Jm i)), .fz (.bool (pick3 sA sB (!sd) i)), .un, .un, .un, .un, .un, .un, .un, .un, .un]) .refl (fun i hi => ?_) (fun Z' i hi => ?_) (fun s' J => ?_) (.inr ⟨⟨_, _, _, rfl⟩, fun d hd => ?_⟩) (by intro _; rfl)) s' J
  · refine EvN.ev (pl := true) (EvN.list (EvL.cons (Ev.tuple (EvL.cons (Ev.var (by k_memK)) (EvL.cons (Ev.call (n := 1) (ds := [mx n n (halfM HA)]) K.toOk (EvL.cons (Ev.var (by k_memK)) EvL.nil) gsA (Nat.le_of_ble_eq_true rfl) (S.glo (by decide +kernel))) EvL.nil))) (EvL.cons (Ev.tuple (EvL.cons (Ev.var (by k_memK)) (EvL.cons (Ev.call (n := 1) (ds := [mx n n (halfM HB)]) K.toOk (EvL.cons (Ev.var (by k_memK)) EvL.nil) gsB (Nat.le_of_ble_eq_true rfl) (S.glo (by decide +kernel))) EvL.nil))) (EvL.cons (Ev.tuple (EvL.cons (Ev.var (by k_memK)) (EvL.cons (Ev.not (Ev.var (by k_memK))) EvL.nil))) EvL.nil))))
  · have hi' : i = 0 ∨ i = 1 ∨ i = 2 := by have : i < 3 := hi; omega
    rcases hi' with rfl | rfl | rfl
    · exact Ta.pair K (σ₁ := [.fz (.lst (intsI xs)), .fz (.lst (intsI fs)), .fz (.int (n : Nat)), .fz (mx n n (halfM HA)), .fz (mx n n (halfM HB)), .fz (mx n m (halfM HQ)), .fz (.int (m : Nat)), .fz (mx n n idM), .fz (mx n n Jm), .fz (.bool sd), .fz (mx n n (pick3 (halfM HA) (halfM HB) Jm 0)), .un, .un, .un, .un, .un, .un, .un, .un, .un, .un]) (Ta.name K (by k_memK)) (Ta.name K (by k_memK)) rfl
    · exact Ta.pair K (σ₁ := [.fz (.lst (intsI xs)), .fz (.lst (intsI fs)), .fz (.int (n : Nat)), .fz (mx n n (halfM HA)), .fz (mx n n (halfM HB)), .fz (mx n m (halfM HQ)), .fz (.int (m : Nat)), .fz (mx n n idM), .fz (mx n n Jm), .fz (.bool sd), .fz (mx n n (pick3 (halfM HA) (halfM HB) Jm 1)), .un, .un, .un, .un, .un, .un, .un, .un, .un, .un]) (Ta.name K (by k_memK)) (Ta.name K (by k_memK)) rfl
    · exact Ta.pair K (σ₁ := [.fz (.lst (intsI xs)), .fz (.lst (intsI fs)), .fz (.int (n : Nat)), .fz (mx n n (halfM HA)), .fz (mx n n (halfM HB)), .fz (mx n m (halfM HQ)), .fz (.int (m : Nat)), .fz (mx n n idM), .fz (mx n n Jm), .fz (.bool sd), .fz (mx n n (pick3 (halfM HA) (halfM HB) Jm 2)), .un, .un, .un, .un, .un, .un, .un, .un, .un, .un]) (Ta.name K (by k_memK)) (Ta.name K (by k_memK)) rfl
  · have hi' : i = 0 ∨ i = 1 ∨ i = 2 := by have : i < 3 := hi; omega
    refine law_turn R X n m (halfM HQ) (pick3 (halfM HA) (halfM HB) Jm i) (pick3 sA sB (!sd) i) S hfr hfe (by omega) (by omega) (by omega) (by omega) ?_ qQ ?_ ?_ hmsg
    · rcases hi' with rfl | rfl | rfl
      · exact qA'
      · exact qB'
      · exact qJ
    · rcases hi' with rfl | rfl | rfl
      · exact rA1
      · exact rB1
      · exact rJ1
    · rcases hi' with rfl | rfl | rfl
      · exact rA0
      · exact rB0
      · exact rJ0
  · have b1 := bnd22 hn3'
    have b2 := bnd22' hn3'
    have b3 := bnd4924 hn3'
    refine Tr.mid (σ' := [.fz (.lst (intsI xs)), .fz (.lst (intsI fs)), .fz (.int (n : Nat)), .fz (mx n n (halfM HA)), .fz (mx n n (halfM HB)), .fz (mx n m (halfM HQ)), .fz (.int (m : Nat)), .fz (mx n n idM), .fz (mx n n Jm), .fz (.bool sd), .un, .un, .un, .un, .un, .un, .un, .un, .un, .un, .un]) (Ts.ite (b := sd) K (EvT.val (Ev.var (by k_memK))) (fun q => ?_) (fun q => Tr.nx .refl K)) (Tr.weak K (.un (.same rfl (.same rfl (.same rfl (.un (.un (.un (.un (.un (.un (.same rfl (.same rfl (.same rfl (.same rfl (.same rfl (.same rfl (.same rfl (.same rfl (.same rfl (.same rfl (.same rfl .nil))))))))))))))))))))) rest) s' J
    obtain ⟨iJ, hA, hB⟩ := invJ q
    have rA := rA0 hA
    have rB := rB0 hB
    have rJ := iJ.rk
    have zA := fun r j h1 h2 => (solB qA' (@idB n) r j h1 h2).mono b1
    have zB := fun r j h1 h2 => (solB qB' (@idB n) r j h1 h2).mono b1
    have xA := fun r j h1 h2 => (solB qA' qQ r j h1 h2).mono b1
    refine Tr.cons (Ts.ite (b := false) K (EvT.neM (h := n) (w := n) (A := solM n n Jm idM) (B := mulM n (solM n n (halfM HB) idM) (solM n n (halfM HA) idM)) K.toOk ?_ ?_ iJ.inv) (fun q => by cases q) (fun q => Tr.next ?_))
    · exact Ev.call (n := 10) (ds := [mx n n Jm]) K.toOk (EvL.cons (Ev.var (by k_memK)) EvL.nil) (inverse_run R n Jm 22 (by decide) (by omega) (by omega) qJ b2 (solve_at rJ)) (Nat.le_of_ble_eq_true rfl) (S.glo (by decide +kernel))
    · refine Ev.call (n := 5) (ds := [mx n n (solM n n (halfM HB) idM), mx n n (solM n n (halfM HA) idM), .int (n : Nat)]) K.toOk (EvL.cons ?_ (EvL.cons ?_ (EvL.cons (Ev.var (by k_memK)) EvL.nil))) (times_run R n n n _ _ 4924 4924 29548 (by omega) (by omega) (Nat.le_refl _) (by omega) zB zA (by have := Nat.mul_le_mul_right (4924 + 4924 + 1) hn3'; omega) (by decide)) (Nat.le_of_ble_eq_true rfl) (S.glo (by decide +kernel))
      · exact Ev.call (n := 10) (ds := [mx n n (halfM HB)]) K.toOk (EvL.cons (Ev.var (by k_memK)) EvL.nil) (inverse_run R n _ 22 (by decide) (by omega) (by omega) qB' b2 (solve_at rB)) (Nat.le_of_ble_eq_true rfl) (S.glo (by decide +kernel))
      · exact Ev.call (n := 10) (ds := [mx n n (halfM HA)]) K.toOk (EvL.cons (Ev.var (by k_memK)) EvL.nil) (inverse_run R n _ 22 (by decide) (by omega) (by omega) qA' b2 (solve_at rA)) (Nat.le_of_ble_eq_true rfl) (S.glo (by decide +kernel))
    refine Tr.cons (Ts.ite (b := false) K (EvT.neM (h := n) (w := m) (A := solM n m (halfM HB) (solM n m (halfM HA) (halfM HQ))) (B := solM n m Jm (halfM HQ)) K.toOk ?_ ?_ ?_) (fun q => by cases q) (fun q => Tr.next (Tr.nx .refl K)))
    · refine Ev.call (n := 9) (ds := [mx n n (halfM HB), mx n m (solM n m (halfM HA) (halfM HQ))]) K.toOk (EvL.cons (Ev.var (by k_memK)) (EvL.cons ?_ EvL.nil)) (solve_run R n m _ _ 4924 (by omega) (by omega) (fun r j h1 h2 => (qB r j h1 h2).mono (by decide)) xA b3 (solve_at rB)) (Nat.le_of_ble_eq_true rfl) (S.glo (by decide +kernel))
      exact Ev.call (n := 9) (ds := [mx n n (halfM HA), mx n m (halfM HQ)]) K.toOk (EvL.cons (Ev.var (by k_memK)) (EvL.cons (Ev.var (by k_memK)) EvL.nil)) (solve_run R n m _ _ 22 (by omega) (by omega) qA' qQ b2 (solve_at rA)) (Nat.le_of_ble_eq_true rfl) (S.glo (by decide +kernel))
    · exact Ev.call (n := 9) (ds := [mx n n Jm, mx n m (halfM HQ)]) K.toOk (EvL.cons (Ev.var (by k_memK)) (EvL.cons (Ev.var (by k_memK)) EvL.nil)) (solve_run R n m _ _ 22 (by omega) (by omega) qJ qQ b2 (solve_at rJ)) (Nat.le_of_ble_eq_true rfl) (S.glo (by decide +kernel))
    · have e1 : EqM n m (solM n m (halfM HB) (solM n m (halfM HA) (halfM HQ))) (mulM n (solM n n (halfM HB) idM) (mulM n (solM n n (halfM HA) idM) (halfM HQ))) := (inv_of_rk rB).sol.trans (mulM_cong EqM.rfl (inv_of_rk rA).sol)
      rw [← mulM_assoc] at e1
      exact e1.trans iJ.sol.symm
  · rcases List.mem_cons.mp hd with rfl | hd
    · exact ⟨_, rfl⟩
    · rcases List.mem_cons.mp hd with rfl | hd
      · exact ⟨_, rfl⟩
      · rcases List.mem_cons.mp hd with rfl | hd
        · exact ⟨_, rfl⟩
        · cases hd

end Mine
end
section
open PySem PySem.W PyProof.Rows PySem.Calls PySem.Spec
set_option Elab.async false
set_option maxRecDepth 100000
set_option linter.unusedVariables false
namespace Mine
local macro_rules | `(tactic| k_memK) => `(tactic| first | exact At.hd (by with_reducible rfl) | exact Put.hd (by with_reducible rfl) | (refine At.tail ?_; k_memK) | (apply Put.tail; k_memK))
local macro_rules | `(tactic| kqd_in) => `(tactic| first
  | assumption
  | k_memK
  | exact Ev.int
  | exact Ev.noneC
  | exact Ev.boolC
  | refine Ev.var ?_
  | exact EvL.nil
  | refine EvL.cons ?_ ?_
  | refine Ev.num ?_
  | refine Ev.den ?_
  | apply Ev.qIsNone
  | apply EvT.qIsNone
  | refine Ev.add ?_ ?_
  | refine Ev.sub ?_ ?_
  | refine Ev.mul ?_ ?_ ?_
  | refine Ev.mod ?_ ?_ ?_
  | refine Ev.fdiv ?_ ?_ ?_ ?_
  | refine Ev.tuple ?_
  | refine EvT.cEq ?_ ?_
  | refine EvT.cNe ?_ ?_
  | refine EvT.cLt ?_ ?_
  | refine EvT.cLe ?_ ?_
  | refine EvT.cGt ?_ ?_
  | refine EvT.cGe ?_ ?_
  | refine Ev.cEq ?_ ?_
  | refine Ev.cNe ?_ ?_
  | refine Ev.cLt ?_ ?_
  | refine Ev.isNoneT ?_
  | refine EvT.not ?_
  | refine Ev.not ?_
  | refine Ev.neg ?_
  | refine EvT.op ?_
  | exact EvA.andNil
  | exact EvA.orNil
  | exact Fx.Is.glo (by assumption) (by decide +kernel))

theorem law_body2 {W : Wd} (R : Recs W) {env : Env} {A : Around} {s₀ : Shared} {O₀ : Addr → Prop} (fs : List Int) (hfl : fs.length = 60) (n : Nat) (hn : n = nOf (fs.getD 0 0) 3) (HA : Nat → Nat → Int) (hHA : HA = gridH (cut fs 1 10) n) (S : Fx.Is ⟨W, env, A, ["script", "found", "side", "one", "two", "right", "wide", "unit", "joint", "sound", "grid", "bad", "back", "answer", "high", "middle", "width_of", "left", "far", "most", "breadth"], 12⟩ r_law) :
    Tr ⟨W, env, A, ["script", "found", "side", "one", "two", "right", "wide", "unit", "joint", "sound", "grid", "bad", "back", "answer", "high", "middle", "width_of", "left", "far", "most", "breadth"], 12⟩ s₀ O₀ {} [.un, .fz (.lst (intsI fs)), .fz (.int (n : Nat)), .fz (mx n n (halfM HA)), .un, .un, .un, .un, .un, .un, .un, .un, .un, .un, .un, .un, .un, .un, .un, .un, .un] (r_law.body.drop 12) (RetD s₀ fun v h => Den h O₀ v (.bool true)) (fun _ _ => False) := by
  have K := S.toGood
  have bmi : Bui ⟨W, env, A, ["script", "found", "side", "one", "two", "right", "wide", "unit", "joint", "sound", "grid", "bad", "back", "answer", "high", "middle", "width_of", "left", "far", "most", "breadth"], 12⟩ "min" (.builtin "min") := S.bui (by decide +kernel) R.b_min (by decide +kernel) (by decide +kernel) (by decide +kernel)
  have hf64 : fs.length ≤ 64 := by omega
  obtain ⟨hn1, hn3⟩ := nOf_bd (fs.getD 0 0) (k := 3) (by decide)
  have hn1' : 1 ≤ nOf (fs.getD 0 0) 3 := hn1
  have hn3' : nOf (fs.getD 0 0) 3 ≤ 3 := hn3
  clear hn1 hn3
  rw [← hn] at hn1' hn3'
  clear hn
  have bA := gridH_bd (cut fs 1 10) n
  rw [← hHA] at bA
  clear hHA
  obtain ⟨hh1, hh2⟩ := nOf_bd (fs.getD 27 0) (k := 3) (by decide)
  have eh := nOf_eq (fs.getD 27 0) 3 (by decide)
  have hh1' : 1 ≤ nOf (fs.getD 27 0) 3 := hh1
  have hh2' : nOf (fs.getD 27 0) 3 ≤ 3 := hh2
  clear hh1 hh2
  generalize nOf (fs.getD 27 0) 3 = h at eh hh1' hh2'
  refine Tr.cons (Ts.assign (d := .int (h : Nat)) (σ' := [.un, .fz (.lst (intsI fs)), .fz (.int (n : Nat)), .fz (mx n n (halfM HA)), .un, .un, .un, .un, .un, .un, .un, .un, .un, .un, .fz (.int (h : Nat)), .un, .un, .un, .un, .un, .un]) K (Ev.conv (Ev.add Ev.int (Ev.mod (Ev.fi (k := 27) (Ev.var (by k_memK)) Ev.int (by omega) hf64) Ev.int (by decide))) (congrArg Dt.int eh)) (by k_memK) (fun s' J => ?_) (swp S fun _ _ _ _ _ _ _ _ => rfl))
  obtain ⟨hk1, hk2⟩ := nOf_bd (fs.getD 28 0) (k := 3) (by decide)
  have ek := nOf_eq (fs.getD 28 0) 3 (by decide)
  have hk1' : 1 ≤ nOf (fs.getD 28 0) 3 := hk1
  have hk2' : nOf (fs.getD 28 0) 3 ≤ 3 := hk2
  clear hk1 hk2
  generalize nOf (fs.getD 28 0) 3 = k at ek hk1' hk2'
  refine Tr.cons (Ts.assign (d := .int (k : Nat)) (σ' := [.un, .fz (.lst (intsI fs)), .fz (.int (n : Nat)), .fz (mx n n (halfM HA)), .un, .un, .un, .un, .un, .un, .un, .un, .un, .un, .fz (.int (h : Nat)), .fz (.int (k : Nat)), .un, .un, .un, .un, .un]) K (Ev.conv (Ev.add Ev.int (Ev.mod (Ev.fi (k := 28) (Ev.var (by k_memK)) Ev.int (by omega) hf64) Ev.int (by decide))) (congrArg Dt.int ek)) (by k_memK) (fun s' J => ?_) (swp S fun _ _ _ _ _ _ _ _ => rfl)) s' J
  obtain ⟨hv1, hv2⟩ := nOf_bd (fs.getD 29 0) (k := 3) (by decide)
  have ev := nOf_eq (fs.getD 29 0) 3 (by decide)
  have hv1' : 1 ≤ nOf (fs.getD 29 0) 3 := hv1
  have hv2' : nOf (fs.getD 29 0) 3 ≤ 3 := hv2
  clear hv1 hv2
  generalize nOf (fs.getD 29 0) 3 = v at ev hv1' hv2'
  refine Tr.cons (Ts.assign (d := .int (v : Nat)) (σ' := [.un, .fz (.lst (intsI fs)), .fz (.int (n : Nat)), .fz (mx n n (halfM HA)), .un, .un, .un, .un, .un, .un, .un, .un, .un, .un, .fz (.int (h : Nat)), .fz (.int (k : Nat)), .fz (.int (v : Nat)), .un, .un, .un, .un]) K (Ev.conv (Ev.add Ev.int (Ev.mod (Ev.fi (k := 29) (Ev.var (by k_memK)) Ev.int (by omega) hf64) Ev.int (by decide))) (congrArg Dt.int ev)) (by k_memK) (fun s' J => ?_) (swp S fun _ _ _ _ _ _ _ _ => rfl)) s' J
  have hhk : h * k ≤ 9 := Nat.mul_le_mul hh2' hk2'
  have hkv : k * v ≤ 9 := Nat.mul_le_mul hk2' hv2'
  have gL := grid_run R (cut fs 30 39) h k (by omega) (by omega) (by rw [cut_len (by omega)]; omega) (by rw [cut_len (by omega)]; omega)
  have bL0 := gridH_bd (cut fs 30 39) k
  generalize gridH (cut fs 30 39) k = HL0 at gL bL0
  refine Tr.cons (Ts.assign (d := mx h k (halfM HL0)) (σ' := [.un, .fz (.lst (intsI fs)), .fz (.int (n : Nat)), .fz (mx n n (halfM HA)), .un, .un, .un, .un, .un, .un, .un, .un, .un, .un, .fz (.int (h : Nat)), .fz (.int (k : Nat)), .fz (.int (v : Nat)), .fz (mx h k (halfM HL0)), .un, .un, .un]) K (Ev.call (n := 1) (ds := [.lst (intsI (cut fs 30 39)), .int (h : Nat), .int (k : Nat)]) K.toOk (EvL.cons (Ev.cutI (a := 30) (b := 39) (Ev.var (by k_memK)) Ev.int Ev.int (by decide) (by omega) hf64) (EvL.cons (Ev.var (by k_memK)) (EvL.cons (Ev.var (by k_memK)) EvL.nil))) gL.fn (Nat.le_of_ble_eq_true rfl) (S.glo (by decide +kernel))) (by k_memK) (fun s' J => ?_) (swp S fun _ _ _ _ _ _ _ _ => rfl)) s' J
  have gF := grid_run R (cut fs 39 48) k v (by omega) (by omega) (by rw [cut_len (by omega)]; omega) (by rw [cut_len (by omega)]; omega)
  have bF0 := gridH_bd (cut fs 39 48) v
  generalize gridH (cut fs 39 48) v = HF0 at gF bF0
  refine Tr.cons (Ts.assign (d := mx k v (halfM HF0)) (σ' := [.un, .fz (.lst (intsI fs)), .fz (.int (n : Nat)), .fz (mx n n (halfM HA)), .un, .un, .un, .un, .un, .un, .un, .un, .un, .un, .fz (.int (h : Nat)), .fz (.int (k : Nat)), .fz (.int (v : Nat)), .fz (mx h k (halfM HL0)), .fz (mx k v (halfM HF0)), .un, .un]) K (Ev.call (n := 1) (ds := [.lst (intsI (cut fs 39 48)), .int (k : Nat), .int (v : Nat)]) K.toOk (EvL.cons (Ev.cutI (a := 39) (b := 48) (Ev.var (by k_memK)) Ev.int Ev.int (by decide) (by omega) hf64) (EvL.cons (Ev.var (by k_memK)) (EvL.cons (Ev.var (by k_memK)) EvL.nil))) gF.fn (Nat.le_of_ble_eq_true rfl) (S.glo (by decide +kernel))) (by k_memK) (fun s' J => ?_) (swp S fun _ _ _ _ _ _ _ _ => rfl)) s' J

  obtain ⟨cl, hcl⟩ : ∃ c : Bool, (((fs.getD 48 0).fmod 3) == 0) = c := ⟨_, rfl⟩
  refine Tr.mid (σ' := [.un, .fz (.lst (intsI fs)), .fz (.int (n : Nat)), .fz (mx n n (halfM HA)), .un, .un, .un, .un, .un, .un, .un, .un, .un, .un, .fz (.int (h : Nat)), .fz (.int (k : Nat)), .fz (.int (v : Nat)), .fz (mx h k (halfM (rowAll cl HL0))), .fz (mx k v (halfM HF0)), .un, .un]) (Ts.ite (b := cl) K ?_ (fun q => ?_) (fun q => ?_)) ?_ s' J
  · rw [← hcl]
    exact EvT.cEq (Ev.mod (Ev.fi (k := 48) (Ev.var (by k_memK)) Ev.int (by omega) hf64) Ev.int (by decide)) Ev.int
  · refine Tr.cons (Ts.assign (d := mx h k (halfM (rowAll cl HL0))) (σ' := [.un, .fz (.lst (intsI fs)), .fz (.int (n : Nat)), .fz (mx n n (halfM HA)), .un, .un, .un, .un, .un, .un, .un, .un, .un, .un, .fz (.int (h : Nat)), .fz (.int (k : Nat)), .fz (.int (v : Nat)), .fz (mx h k (halfM (rowAll cl HL0))), .fz (mx k v (halfM HF0)), .un, .un]) K (EvN.ev (pl := true) (EvN.compI (tgs := ["_"]) (frs := ["left"]) (es := mxD h k (halfM (rowAll cl HL0))) S rfl (by dsimp only; decide +kernel) fun M1 => ?_)) (by k_memK) (fun s' J => Tr.nx .refl K s' J) (swp S fun _ _ _ _ _ _ _ _ => rfl))
    refine EvC.list (frs := ["left"]) (fl := [.fz (mx h k (halfM HL0))]) (xs := List.range h) (a := fun i => rw_ k (halfM HL0 i)) (b := fun i => rw_ k (halfM (rowAll cl HL0) i)) K.toOk M1 (Ev.var (by k_memK)) (by simpa using size64 (by omega)) (fun x l a => ?_) fun C y hy => ?_
    · cases a with
      | head => k_memK
      | tail a => cases a
    · have e : rw_ k (halfM (rowAll cl HL0) y) = rw_ k (halfM HL0 0) := rw_congr fun j hj => by
        unfold halfM rowAll
        rw [if_pos q]
      rw [e]
      refine EvN.ev (pl := true) (EvN.listOf (K.toOk.comp M1 C) (comp_bui (by decide +kernel) R.b_list (by decide +kernel) (by decide +kernel) (by decide +kernel)) (ds := rowD k (halfM HL0 0)) (Ev.mxI (k := 0) (h := h) (M := halfM HL0) (Ev.var (by k_memK)) Ev.int (by omega) (by omega)) (by rw [rowD_len]; exact size64 (by omega)))
  · have e : rowAll cl HL0 = HL0 := by
      funext i j
      unfold rowAll
      rw [if_neg fun z => by rw [q] at z; exact Bool.false_ne_true z]
    rw [e]
    exact Tr.nx .refl K
  have bL : ∀ i j, -5 ≤ rowAll cl HL0 i j ∧ rowAll cl HL0 i j ≤ 5 := fun i j => by
    unfold rowAll
    split
    · exact bL0 _ _
    · exact bL0 _ _
  clear s' J
  generalize rowAll cl HL0 = HL at bL ⊢

  intro s' J
  obtain ⟨cf, hcf⟩ : ∃ c : Bool, (((fs.getD 49 0).fmod 3) == 0) = c := ⟨_, rfl⟩
  refine Tr.mid (σ' := [.un, .fz (.lst (intsI fs)), .fz (.int (n : Nat)), .fz (mx n n (halfM HA)), .un, .un, .un, .un, .un, .un, .un, .un, .un, .un, .fz (.int (h : Nat)), .fz (.int (k : Nat)), .fz (.int (v : Nat)), .fz (mx h k (halfM HL)), .fz (mx k v (halfM (rowAll cf HF0))), .un, .un]) (Ts.ite (b := cf) K ?_ (fun q => ?_) (fun q => ?_)) ?_ s' J
  · rw [← hcf]
    exact EvT.cEq (Ev.mod (Ev.fi (k := 49) (Ev.var (by k_memK)) Ev.int (by omega) hf64) Ev.int (by decide)) Ev.int
  · refine Tr.cons (Ts.assign (d := mx k v (halfM (rowAll cf HF0))) (σ' := [.un, .fz (.lst (intsI fs)), .fz (.int (n : Nat)), .fz (mx n n (halfM HA)), .un, .un, .un, .un, .un, .un, .un, .un, .un, .un, .fz (.int (h : Nat)), .fz (.int (k : Nat)), .fz (.int (v : Nat)), .fz (mx h k (halfM HL)), .fz (mx k v (halfM (rowAll cf HF0))), .un, .un]) K (EvN.ev (pl := true) (EvN.compI (tgs := ["_"]) (frs := ["far"]) (es := mxD k v (halfM (rowAll cf HF0))) S rfl (by dsimp only; decide +kernel) fun M1 => ?_)) (by k_memK) (fun s' J => Tr.nx .refl K s' J) (swp S fun _ _ _ _ _ _ _ _ => rfl))
    refine EvC.list (frs := ["far"]) (fl := [.fz (mx k v (halfM HF0))]) (xs := List.range k) (a := fun i => rw_ v (halfM HF0 i)) (b := fun i => rw_ v (halfM (rowAll cf HF0) i)) K.toOk M1 (Ev.var (by k_memK)) (by simpa using size64 (by omega)) (fun x l a => ?_) fun C y hy => ?_
    · cases a with
      | head => k_memK
      | tail a => cases a
    · have e : rw_ v (halfM (rowAll cf HF0) y) = rw_ v (halfM HF0 0) := rw_congr fun j hj => by
        unfold halfM rowAll
        rw [if_pos q]
      rw [e]
      refine EvN.ev (pl := true) (EvN.listOf (K.toOk.comp M1 C) (comp_bui (by decide +kernel) R.b_list (by decide +kernel) (by decide +kernel) (by decide +kernel)) (ds := rowD v (halfM HF0 0)) (Ev.mxI (k := 0) (h := k) (M := halfM HF0) (Ev.var (by k_memK)) Ev.int (by omega) (by omega)) (by rw [rowD_len]; exact size64 (by omega)))
  · have e : rowAll cf HF0 = HF0 := by
      funext i j
      unfold rowAll
      rw [if_neg fun z => by rw [q] at z; exact Bool.false_ne_true z]
    rw [e]
    exact Tr.nx .refl K
  have bF : ∀ i j, -5 ≤ rowAll cf HF0 i j ∧ rowAll cf HF0 i j ≤ 5 := fun i j => by
    unfold rowAll
    split
    · exact bF0 _ _
    · exact bF0 _ _
  clear s' J
  generalize rowAll cf HF0 = HF at bF ⊢

  have qL3 : ∀ r j, r < h → j < k → Bq 3 (halfM HL r j) := fun r j _ _ => half_bd (bL r j)
  have qF3 : ∀ r j, r < k → j < v → Bq 3 (halfM HF r j) := fun r j _ _ => half_bd (bF r j)
  have qA3 : ∀ r j, r < n → j < n → Bq 3 (halfM HA r j) := fun r j _ _ => half_bd (bA r j)
  have qL : ∀ r j, r < h → j < k → Bq 22 (halfM HL r j) := fun r j h1 h2 => (qL3 r j h1 h2).mono (by decide)
  have qF : ∀ r j, r < k → j < v → Bq 22 (halfM HF r j) := fun r j h1 h2 => (qF3 r j h1 h2).mono (by decide)
  have qLF : ∀ r j, r < h → j < v → Bq 22 (mulM k (halfM HL) (halfM HF) r j) := fun r j hr hj => Bq.sumN (B := 6) (fun i hi => (qL3 r i hr hi).mul (qF3 i j hi hj)) (by omega)
  intro s' J
  refine Tr.cons (Ts.assign (d := .int (min ((rk h k (halfM HL) : Nat) : Int) ((rk k v (halfM HF) : Nat) : Int))) (σ' := [.un, .fz (.lst (intsI fs)), .fz (.int (n : Nat)), .fz (mx n n (halfM HA)), .un, .un, .un, .un, .un, .un, .un, .un, .un, .un, .fz (.int (h : Nat)), .fz (.int (k : Nat)), .fz (.int (v : Nat)), .fz (mx h k (halfM HL)), .fz (mx k v (halfM HF)), .fz (.int (min ((rk h k (halfM HL) : Nat) : Int) ((rk k v (halfM HF) : Nat) : Int))), .un]) K (Ev.min2 K.toOk bmi (Ev.call (n := 9) (ds := [mx h k (halfM HL)]) K.toOk (EvL.cons (Ev.var (by k_memK)) EvL.nil) (rank_run R h k (halfM HL) 22 (by omega) (by omega) (by omega) qL (bnd22' (by omega))) (Nat.le_of_ble_eq_true rfl) (S.glo (by decide +kernel))) (Ev.call (n := 9) (ds := [mx k v (halfM HF)]) K.toOk (EvL.cons (Ev.var (by k_memK)) EvL.nil) (rank_run R k v (halfM HF) 22 (by omega) (by omega) (by omega) qF (bnd22' (by omega))) (Nat.le_of_ble_eq_true rfl) (S.glo (by decide +kernel)))) (by k_memK) (fun s' J => ?_) (swp S fun _ _ _ _ _ _ _ _ => rfl)) s' J
  refine Tr.cons (Ts.ite (b := false) K (EvT.conv (EvT.cGt (Ev.call (n := 9) (ds := [mx h v (mulM k (halfM HL) (halfM HF))]) K.toOk (EvL.cons (Ev.call (n := 5) (ds := [mx h k (halfM HL), mx k v (halfM HF), .int (v : Nat)]) K.toOk (EvL.cons (Ev.var (by k_memK)) (EvL.cons (Ev.var (by k_memK)) (EvL.cons (Ev.var (by k_memK)) EvL.nil))) (times_run R h k v _ _ 3 3 22 (by omega) (by omega) (Nat.le_refl _) (by omega) qL3 qF3 (by omega) (by decide)) (Nat.le_of_ble_eq_true rfl) (S.glo (by decide +kernel))) EvL.nil) (rank_run R h v _ 22 (by omega) (by omega) (by omega) qLF (bnd22' (by omega))) (Nat.le_of_ble_eq_true rfl) (S.glo (by decide +kernel))) (Ev.var (by k_memK))) ?_) (fun q => by cases q) (fun q => Tr.next ?_)) s' J
  · have h1 : rk h v (mulM k (halfM HL) (halfM HF)) ≤ rk h k (halfM HL) := rk_mulL
    have h2 : rk h v (mulM k (halfM HL) (halfM HF)) ≤ rk k v (halfM HF) := rk_mulR
    have h3 : ¬ (((rk h v (mulM k (halfM HL) (halfM HF)) : Nat) : Int) > min ((rk h k (halfM HL) : Nat) : Int) ((rk k v (halfM HF) : Nat) : Int)) := by omega
    exact decide_eq_false h3
  refine Tr.cons (Ts.forList (ds := [.tup [mx h k (halfM HL), .int (k : Nat)], .tup [mx k v (halfM HF), .int (v : Nat)]]) K ?_ (fun _ => [.un, .fz (.lst (intsI fs)), .fz (.int (n : Nat)), .fz (mx n n (halfM HA)), .un, .un, .un, .un, .un, .un, .un, .un, .un, .un, .fz (.int (h : Nat)), .fz (.int (k : Nat)), .fz (.int (v : Nat)), .fz (mx h k (halfM HL)), .fz (mx k v (halfM HF)), .fz (.int (min ((rk h k (halfM HL) : Nat) : Int) ((rk k v (halfM HF) : Nat) : Int))), .un]) (fun i => [.un, .fz (.lst (intsI fs)), .fz (.int (n : Nat)), .fz (mx n n (halfM HA)), .un, .un, .un, .un, .un, .un, .fz (mx (pick3 h k 0 i) (pick3 k v 0 i) (pick3 (halfM HL) (halfM HF) (halfM HF) i)), .un, .un, .un, .fz (.int (h : Nat)), .fz (.int (k : Nat)), .fz (.int (v : Nat)), .fz (mx h k (halfM HL)), .fz (mx k v (halfM HF)), .fz (.int (min ((rk h k (halfM HL) : Nat) : Int) ((rk k v (halfM HF) : Nat) : Int))), .fz (.int ((pick3 k v 0 i : Nat) : Int))]) .refl (fun i hi => ?_) (fun Z' i hi => ?_) (fun s' J => ?_) (.inr ⟨⟨_, _, _, rfl⟩, fun d hd => ?_⟩) (by intro _; rfl))
  · refine EvN.ev (pl := true) (EvN.list (EvL.cons (Ev.tuple (EvL.cons (Ev.var (by k_memK)) (EvL.cons (Ev.var (by k_memK)) EvL.nil))) (EvL.cons (Ev.tuple (EvL.cons (Ev.var (by k_memK)) (EvL.cons (Ev.var (by k_memK)) EvL.nil))) EvL.nil)))
  · have hi' : i = 0 ∨ i = 1 := by have : i < 2 := hi; omega
    rcases hi' with rfl | rfl
    · exact Ta.pair K (σ₁ := [.un, .fz (.lst (intsI fs)), .fz (.int (n : Nat)), .fz (mx n n (halfM HA)), .un, .un, .un, .un, .un, .un, .fz (mx (pick3 h k 0 0) (pick3 k v 0 0) (pick3 (halfM HL) (halfM HF) (halfM HF) 0)), .un, .un, .un, .fz (.int (h : Nat)), .fz (.int (k : Nat)), .fz (.int (v : Nat)), .fz (mx h k (halfM HL)), .fz (mx k v (halfM HF)), .fz (.int (min ((rk h k (halfM HL) : Nat) : Int) ((rk k v (halfM HF) : Nat) : Int))), .un]) (Ta.name K (by k_memK)) (Ta.name K (by k_memK)) rfl
    · exact Ta.pair K (σ₁ := [.un, .fz (.lst (intsI fs)), .fz (.int (n : Nat)), .fz (mx n n (halfM HA)), .un, .un, .un, .un, .un, .un, .fz (mx (pick3 h k 0 1) (pick3 k v 0 1) (pick3 (halfM HL) (halfM HF) (halfM HF) 1)), .un, .un, .un, .fz (.int (h : Nat)), .fz (.int (k : Nat)), .fz (.int (v : Nat)), .fz (mx h k (halfM HL)), .fz (mx k v (halfM HF)), .fz (.int (min ((rk h k (halfM HL) : Nat) : Int) ((rk k v (halfM HF) : Nat) : Int))), .un]) (Ta.name K (by k_memK)) (Ta.name K (by k_memK)) rfl
  · have hi' : i = 0 ∨ i = 1 := by have : i < 2 := hi; omega
    rcases hi' with rfl | rfl
    · exact law_turn2 R h k (halfM HL) S (by omega) (by omega) (by omega) (by omega) qL
    · exact law_turn2 R k v (halfM HF) S (by omega) (by omega) (by omega) (by omega) qF
  · have gsA := singular_run R n HA (by omega) (by omega) fun i j _ _ => bA i j
    have iA := sing_iff (H := HA) (n := n) (by omega) (by omega)
    generalize sing n HA = sA at gsA iA
    have leA := @rk_le_h n n (halfM HA)
    have rA0 : (!sA) = true → rk n n (halfM HA) = n := fun z => by
      have z' : sA = false := by cases h : sA <;> rw [h] at z <;> first | rfl | cases z
      have : ¬ rk n n (halfM HA) < n := fun y => by have := iA.mpr y; rw [z'] at this; cases this
      omega
    have tst : ∀ {e : Expr} {p1 p2 p3 p4 p5 p6 p7 : Pos}, (k = n → rk n n (halfM HA) = n → EvT ⟨W, env, A, ["script", "found", "side", "one", "two", "right", "wide", "unit", "joint", "sound", "grid", "bad", "back", "answer", "high", "middle", "width_of", "left", "far", "most", "breadth"], 12⟩ [.un, .fz (.lst (intsI fs)), .fz (.int (n : Nat)), .fz (mx n n (halfM HA)), .un, .un, .un, .un, .un, .un, .un, .un, .un, .un, .fz (.int (h : Nat)), .fz (.int (k : Nat)), .fz (.int (v : Nat)), .fz (mx h k (halfM HL)), .fz (mx k v (halfM HF)), .fz (.int (min ((rk h k (halfM HL) : Nat) : Int) ((rk k v (halfM HF) : Nat) : Int))), .un] e false) → EvT ⟨W, env, A, ["script", "found", "side", "one", "two", "right", "wide", "unit", "joint", "sound", "grid", "bad", "back", "answer", "high", "middle", "width_of", "left", "far", "most", "breadth"], 12⟩ [.un, .fz (.lst (intsI fs)), .fz (.int (n : Nat)), .fz (mx n n (halfM HA)), .un, .un, .un, .un, .un, .un, .un, .un, .un, .un, .fz (.int (h : Nat)), .fz (.int (k : Nat)), .fz (.int (v : Nat)), .fz (mx h k (halfM HL)), .fz (mx k v (halfM HF)), .fz (.int (min ((rk h k (halfM HL) : Nat) : Int) ((rk k v (halfM HF) : Nat) : Int))), .un] (.BoolOp .And [.Compare (.Name "middle" p1) [.Eq] [.Name "side" p2] p3, .UnaryOp .Not (.Call (.Name "_law_singular" p4) [.Name "one" p5] [] p6) p7, e] ⟨0, 0, 0, 0⟩) false := by
      intro e p1 p2 p3 p4 p5 p6 p7 he
      refine EvT.conv (EvT.op (EvA.and (a := ((k : Nat) : Int) == (n : Nat)) (b := !sA && (false && true)) (EvT.cEq (Ev.var (by k_memK)) (Ev.var (by k_memK))) fun q1 => EvA.and (a := !sA) (b := false && true) (EvT.not (EvT.val (Ev.call (n := 1) (ds := [mx n n (halfM HA)]) K.toOk (EvL.cons (Ev.var (by k_memK)) EvL.nil) gsA (Nat.le_of_ble_eq_true rfl) (S.glo (by decide +kernel))))) fun q2 => EvA.and (a := false) (b := true) (he ?_ (rA0 q2)) fun _ => EvA.andNil)) (by simp)
      have : ((k : Nat) : Int) = (n : Nat) := by simpa using q1
      omega
    have tst' : ∀ {e : Expr} {p1 p2 p3 p4 p5 p6 p7 p8 : Pos}, (k = n → rk n n (halfM HA) = n → EvT ⟨W, env, A, ["script", "found", "side", "one", "two", "right", "wide", "unit", "joint", "sound", "grid", "bad", "back", "answer", "high", "middle", "width_of", "left", "far", "most", "breadth"], 12⟩ [.un, .fz (.lst (intsI fs)), .fz (.int (n : Nat)), .fz (mx n n (halfM HA)), .un, .un, .un, .un, .un, .un, .un, .un, .un, .un, .fz (.int (h : Nat)), .fz (.int (k : Nat)), .fz (.int (v : Nat)), .fz (mx h k (halfM HL)), .fz (mx k v (halfM HF)), .fz (.int (min ((rk h k (halfM HL) : Nat) : Int) ((rk k v (halfM HF) : Nat) : Int))), .un] e false) → EvT ⟨W, env, A, ["script", "found", "side", "one", "two", "right", "wide", "unit", "joint", "sound", "grid", "bad", "back", "answer", "high", "middle", "width_of", "left", "far", "most", "breadth"], 12⟩ [.un, .fz (.lst (intsI fs)), .fz (.int (n : Nat)), .fz (mx n n (halfM HA)), .un, .un, .un, .un, .un, .un, .un, .un, .un, .un, .fz (.int (h : Nat)), .fz (.int (k : Nat)), .fz (.int (v : Nat)), .fz (mx h k (halfM HL)), .fz (mx k v (halfM HF)), .fz (.int (min ((rk h k (halfM HL) : Nat) : Int) ((rk k v (halfM HF) : Nat) : Int))), .un] (.BoolOp .And [.Compare (.Name "middle" p1) [.Eq] [.Name "side" p2] p3, .UnaryOp .Not (.Call (.Name "_law_singular" p4) [.Name "one" p5] [] p6) p7, e] p8) false := by
      intro e p1 p2 p3 p4 p5 p6 p7 p8 he
      refine EvT.conv (EvT.op (EvA.and (a := ((k : Nat) : Int) == (n : Nat)) (b := !sA && (false && true)) (EvT.cEq (Ev.var (by k_memK)) (Ev.var (by k_memK))) fun q1 => EvA.and (a := !sA) (b := false && true) (EvT.not (EvT.val (Ev.call (n := 1) (ds := [mx n n (halfM HA)]) K.toOk (EvL.cons (Ev.var (by k_memK)) EvL.nil) gsA (Nat.le_of_ble_eq_true rfl) (S.glo (by decide +kernel))))) fun q2 => EvA.and (a := false) (b := true) (he ?_ (rA0 q2)) fun _ => EvA.andNil)) (by simp)
      have : ((k : Nat) : Int) = (n : Nat) := by simpa using q1
      omega
    refine Tr.cons (Ts.ite (b := false) K (tst' fun hkn hr => ?_) (fun q => by cases q) (fun q => Tr.next ?_)) s' J
    · subst hkn
      have I2 := inv_of_rk hr
      have qLA : ∀ r j, r < h → j < k → Bq 22 (mulM k (halfM HL) (halfM HA) r j) := fun r j hr hj => Bq.sumN (B := 6) (fun i hi => (qL3 r i hr hi).mul (qA3 i j hi hj)) (by omega)
      refine EvT.conv (EvT.cNe (Ev.call (n := 9) (ds := [mx h k (mulM k (halfM HL) (halfM HA))]) K.toOk (EvL.cons (Ev.call (n := 5) (ds := [mx h k (halfM HL), mx k k (halfM HA), .int (k : Nat)]) K.toOk (EvL.cons (Ev.var (by k_memK)) (EvL.cons (Ev.var (by k_memK)) (EvL.cons (Ev.var (by k_memK)) EvL.nil))) (times_run R h k k _ _ 3 3 22 (by omega) (by omega) (Nat.le_refl _) (by omega) qL3 qA3 (by omega) (by decide)) (Nat.le_of_ble_eq_true rfl) (S.glo (by decide +kernel))) EvL.nil) (rank_run R h k _ 22 (by omega) (by omega) (by omega) qLA (bnd22' (by omega))) (Nat.le_of_ble_eq_true rfl) (S.glo (by decide +kernel))) (Ev.call (n := 9) (ds := [mx h k (halfM HL)]) K.toOk (EvL.cons (Ev.var (by k_memK)) EvL.nil) (rank_run R h k (halfM HL) 22 (by omega) (by omega) (by omega) qL (bnd22' (by omega))) (Nat.le_of_ble_eq_true rfl) (S.glo (by decide +kernel)))) ?_
      have e : rk h k (mulM k (halfM HL) (halfM HA)) = rk h k (halfM HL) := rk_invR I2.r
      show (((rk h k (mulM k (halfM HL) (halfM HA)) : Nat) : Int) != ((rk h k (halfM HL) : Nat) : Int)) = false
      rw [e]; simp
    refine Tr.cons (Ts.ite (b := false) K (tst' fun hkn hr => ?_) (fun q => by cases q) (fun q => Tr.next ?_))
    · subst hkn
      have I2 := inv_of_rk hr
      have qAF : ∀ r j, r < k → j < v → Bq 22 (mulM k (halfM HA) (halfM HF) r j) := fun r j hr hj => Bq.sumN (B := 6) (fun i hi => (qA3 r i hr hi).mul (qF3 i j hi hj)) (by omega)
      refine EvT.conv (EvT.cNe (Ev.call (n := 9) (ds := [mx k v (mulM k (halfM HA) (halfM HF))]) K.toOk (EvL.cons (Ev.call (n := 5) (ds := [mx k k (halfM HA), mx k v (halfM HF), .int (v : Nat)]) K.toOk (EvL.cons (Ev.var (by k_memK)) (EvL.cons (Ev.var (by k_memK)) (EvL.cons (Ev.var (by k_memK)) EvL.nil))) (times_run R k k v _ _ 3 3 22 (by omega) (by omega) (Nat.le_refl _) (by omega) qA3 qF3 (by omega) (by decide)) (Nat.le_of_ble_eq_true rfl) (S.glo (by decide +kernel))) EvL.nil) (rank_run R k v _ 22 (by omega) (by omega) (by omega) qAF (bnd22' (by omega))) (Nat.le_of_ble_eq_true rfl) (S.glo (by decide +kernel))) (Ev.call (n := 9) (ds := [mx k v (halfM HF)]) K.toOk (EvL.cons (Ev.var (by k_memK)) EvL.nil) (rank_run R k v (halfM HF) 22 (by omega) (by omega) (by omega) qF (bnd22' (by omega))) (Nat.le_of_ble_eq_true rfl) (S.glo (by decide +kernel)))) ?_
      have e : rk k v (mulM k (halfM HA) (halfM HF)) = rk k v (halfM HF) := rk_invL I2.l
      show (((rk k v (mulM k (halfM HA) (halfM HF)) : Nat) : Int) != ((rk k v (halfM HF) : Nat) : Int)) = false
      rw [e]; simp
    refine Tr.cons (Ts.ret (d := .bool true) K Ev.boolC fun v h' tk k d => ?_)
    exact ⟨h', tk, rfl, k, d⟩
  · rcases List.mem_cons.mp hd with rfl | hd
    · exact ⟨_, rfl⟩
    · rcases List.mem_cons.mp hd with rfl | hd
      · exact ⟨_, rfl⟩
      · cases hd

end Mine
end
section
open PySem PySem.W PyProof.Rows PySem.Calls PySem.Spec
set_option Elab.async false
set_option maxRecDepth 100000
set_option linter.unusedVariables false
namespace Mine
local macro_rules | `(tactic| k_memK) => `(tactic| first | exact At.hd (by with_reducible rfl) | exact Put.hd (by with_reducible rfl) | (refine At.tail ?_; k_memK) | (apply Put.tail; k_memK))
local macro_rules | `(tactic| kqd_in) => `(tactic| first
  | assumption
  | k_memK
  | exact Ev.int
  | exact Ev.noneC
  | exact Ev.boolC
  | refine Ev.var ?_
  | exact EvL.nil
  | refine EvL.cons ?_ ?_
  | refine Ev.num ?_
  | refine Ev.den ?_
  | apply Ev.qIsNone
  | apply EvT.qIsNone
  | refine Ev.add ?_ ?_
  | refine Ev.sub ?_ ?_
  | refine Ev.mul ?_ ?_ ?_
  | refine Ev.mod ?_ ?_ ?_
  | refine Ev.fdiv ?_ ?_ ?_ ?_
  | refine Ev.tuple ?_
  | refine EvT.cEq ?_ ?_
  | refine EvT.cNe ?_ ?_
  | refine EvT.cLt ?_ ?_
  | refine EvT.cLe ?_ ?_
  | refine EvT.cGt ?_ ?_
  | refine EvT.cGe ?_ ?_
  | refine Ev.cEq ?_ ?_
  | refine Ev.cNe ?_ ?_
  | refine Ev.cLt ?_ ?_
  | refine Ev.isNoneT ?_
  | refine EvT.not ?_
  | refine Ev.not ?_
  | refine Ev.neg ?_
  | refine EvT.op ?_
  | exact EvA.andNil
  | exact EvA.orNil
  | exact Fx.Is.glo (by assumption) (by decide +kernel))

theorem msg_ok : ∀ p : Nat, p < 3 → PyData.strOk (msgOf (p + 1)) = true := by
  intro p hp
  have h : p = 0 ∨ p = 1 ∨ p = 2 := by omega
  rcases h with rfl | rfl | rfl <;> decide +kernel
theorem law_top {W : Wd} (R : Recs W) {C CE N fI : Addr} (X : RefW W C CE N fI) (xs : List Int) (hx : xs.length ≤ 64) : ∃ a, FnAt W "law" a ∧
    ∀ (A : Around) (s : Shared) (O : Addr → Prop) (vs : List Value) (Q : Value → Shared → Prop), Rm A 13 → A.frames = some [] → Gd W s.heap O → DenAll s.heap O vs [.lst (intsI xs)] → (∀ v h' tk, Sub s.heap h' → Den h' O v (.bool true) → Q v { s with heap := h', toks := tk }) →
      wpAny (model W.prog W.w) A (call (.ref a) vs) Q (fun _ _ => False) s := by
  obtain ⟨f, o, pm, code, doc, hm, ho, hd, hc⟩ := W.top.fn r_law R.law
  refine ⟨f, ⟨o, _, hm, ho, hd⟩, fun A s O vs Q rm hfr g dv q => wpAny_call (entryF h_law rfl ho hd hc rm g dv fun env S hfe s₁ I => ?_)⟩
  dsimp only [ini, List.map_cons, List.map_nil, List.cons_append, List.nil_append] at S I ⊢
  have key := law_body1 (Φ := RetD s fun v h => Den h O v (.bool true)) R X xs hx S (Around.frames_deeper hfr) hfe msg_ok (fun fs hfl n hn HA hHA => law_body2 R fs hfl n hn HA hHA S)
  refine wpAny_mono (key s₁ I) (fun fl s' z => ?_) fun _ _ z => z.elim
  obtain ⟨h, tk, rfl, k, z⟩ := z
  exact q _ h tk k z

end Mine
end
section
open PySem PySem.W PyProof.Rows PySem.Calls PySem.Spec
set_option Elab.async false
set_option maxRecDepth 100000
set_option maxHeartbeats 8000000
set_option linter.unusedVariables false
namespace Mine
noncomputable def de (P : Params) (x : Str) (t : Tok) (v : Value) : DictEntry := { hash := PyData.keyHash P x, key := .str x t, val := v }
noncomputable def fo2 (P : Params) : Obj := { cls := .none, data := .dict #[de P "type.__subclasses__.Exception.0" 205 (.int 24 0), de P "type.__subclasses__.Exception.n" 206 (.int 1 0)] 2 }
noncomputable def fo3 (P : Params) : Obj := { cls := .type "dict", data := .dict #[de P "__name__" 165 (.str "law_ov0056_01" 449), de P "__doc__" 166 (.none), de P "__package__" 167 (.none), de P "__loader__" 168 (.builtin "__main__.__loader__#opaque"), de P "__spec__" 169 (.none), de P "__annotations__" 170 (.ref 6), de P "__builtins__" 171 (.ref 4), de P "__file__" 173 (.str "/claim/cut.py" 172), de P "__cached__" 174 (.none), de P "CoveError" 208 (.ref 24), de P "Refusal" 233 (.ref 44), de P "NAN" 238 (.ref 47), de P "gcd" 246 (.ref 54), de P "make" 255 (.ref 61), de P "is_na" 262 (.ref 68), de P "marked" 270 (.ref 75), de P "neg" 277 (.ref 82), de P "add" 285 (.ref 89), de P "sub" 293 (.ref 96), de P "mul" 301 (.ref 103), de P "div" 309 (.ref 110), de P "ZERO" 314 (.ref 111), de P "ONE" 317 (.ref 112), de P "identity_rows" 327 (.ref 119), de P "copied" 333 (.ref 124), de P "transposed" 339 (.ref 129), de P "dot" 349 (.ref 136), de P "times" 355 (.ref 141), de P "scaled" 361 (.ref 146), de P "less_multiple" 372 (.ref 153), de P "first_filled" 382 (.ref 160), de P "clear_column" 392 (.ref 167), de P "row_echelon" 405 (.ref 174), de P "rank_of" 412 (.ref 181), de P "null_space" 426 (.ref 188), de P "first_dependent" 435 (.ref 195), de P "solve_rows" 441 (.ref 200), de P "inverse" 448 (.ref 207), de P "_law_drawn" 456 (.ref 212), de P "_law_grid" 470 (.ref 219), de P "_law_singular" 476 (.ref 224), de P "_law_refuses" 486 (.ref 231), de P "law" 492 (.ref 236)] 43 }
noncomputable def fo11 (P : Params) : Obj := { cls := .type "tuple", data := .seq #[] }
noncomputable def fo12 (P : Params) : Obj := { cls := .none, data := .fields #[.int 2 0, .int 0 0, .ref 20, .int 4 0, .int 0 0, .ref 33, .int 10 0, .int 0 0, .ref 53, .int 14 0, .int 0 0, .ref 60, .int 24 0, .int 0 0, .ref 67, .int 26 0, .int 0 0, .ref 74, .int 30 0, .int 0 0, .ref 81, .int 34 0, .int 0 0, .ref 88, .int 44 0, .int 0 0, .ref 95, .int 46 0, .int 0 0, .ref 102, .int 50 0, .int 0 0, .ref 109, .int 61 0, .int 0 0, .ref 118, .int 68 0, .int 0 0, .ref 123, .int 70 0, .int 0 0, .ref 128, .int 75 0, .int 0 0, .ref 135, .int 80 0, .int 0 0, .ref 140, .int 86 0, .int 0 0, .ref 145, .int 88 0, .int 0 0, .ref 152, .int 95 0, .int 0 0, .ref 159, .int 100 0, .int 0 0, .ref 166, .int 104 0, .int 0 0, .ref 173, .int 118 0, .int 0 0, .ref 180, .int 120 0, .int 0 0, .ref 187, .int 132 0, .int 0 0, .ref 194, .int 137 0, .int 0 0, .ref 199, .int 145 0, .int 0 0, .ref 206, .int 148 0, .int 0 0, .ref 211, .int 159 0, .int 0 0, .ref 218, .int 170 0, .int 0 0, .ref 223, .int 182 0, .int 0 0, .ref 230, .int 193 0, .int 0 0, .ref 235] }
noncomputable def fo13 (P : Params) : Obj := { cls := .type "code", data := .fields #[.str "<module>" 182, .str "<module>" 183, .str "/claim/cut.py" 184, .int 1 0, .int 0 0, .int 0 0, .int 0 0, .int 0 0, .ref 11, .bool false, .int 181 0, .ref 12, .none, .none, .none, .none, .int 185 0, .int 1 0, .str "/claim/cut.py" 186] }
noncomputable def fo14 (P : Params) : Obj := { cls := .type "frame", slots := #[some (.ref 13), some (.ref 3), some (.ref 3), none, some (.str "__main__" 164), none, some (.ref 0)] }
noncomputable def fo15 (P : Params) : Obj := { cls := .type "tuple", data := .seq #[.type "Exception"] }
noncomputable def fo16 (P : Params) : Obj := { cls := .type "builtin_function_or_method", data := .fields #[.builtin "type.__prepare__", .type "type"] }
noncomputable def fo17 (P : Params) : Obj := { cls := .type "dict", data := .dict #[de P "__module__" 196 (.str "vectorcove.errors" 187), de P "__qualname__" 198 (.str "CoveError" 197), de P "__firstlineno__" 200 (.int 2 199), de P "__static_attributes__" 201 (.ref 22)] 4 }
noncomputable def fo18 (P : Params) : Obj := { cls := .type "tuple", data := .seq #[] }
noncomputable def fo19 (P : Params) : Obj := { cls := .none, data := .fields #[] }
noncomputable def fo20 (P : Params) : Obj := { cls := .type "code", data := .fields #[.str "CoveError" 191, .str "CoveError" 192, .str "/claim/cut.py" 193, .int 2 0, .int 0 0, .int 0 0, .int 0 0, .int 0 0, .ref 18, .bool false, .int 181 0, .ref 19, .none, .none, .none, .none, .int 194 0, .int 2 0, .str "/claim/cut.py" 195] }
noncomputable def fo21 (P : Params) : Obj := { cls := .type "frame", slots := #[some (.ref 20), some (.ref 3), some (.ref 17), none, some (.str "vectorcove.errors" 187), none, some (.ref 0)] }
noncomputable def fo22 (P : Params) : Obj := { cls := .type "tuple", data := .seq #[] }
noncomputable def fo23 (P : Params) : Obj := { cls := .type "dict", data := .dict #[de P "__module__" 196 (.str "vectorcove.errors" 187), de P "__firstlineno__" 200 (.int 2 199), de P "__static_attributes__" 201 (.ref 22), de P "__weakref__" 203 (.ref 25), de P "__doc__" 204 (.none)] 3 }
noncomputable def fo24 (P : Params) : Obj := { cls := .type "type", data := .cls { name := "CoveError", bases := [.type "Exception"], mro := [.ref 24, .type "Exception", .type "BaseException", .type "object"], ns := 23, qualname := "CoveError", subclasses := [.ref 44] }, slots := #[some (.ref 15), none, some (.str "CoveError" 189), some (.str "CoveError" 197), some (.builtin "Exception.__new__"), some (.bool true)] }
noncomputable def fo25 (P : Params) : Obj := { cls := .type "getset_descriptor", data := .fields #[.str "__weakref__" 202, .ref 24, .builtin "ExceptionGroup.__weakref__", .none] }
noncomputable def fo26 (P : Params) : Obj := { cls := .type "super", data := .fields #[.ref 24, .ref 24, .ref 24] }
noncomputable def fo27 (P : Params) : Obj := { cls := .type "builtin_function_or_method", data := .fields #[.builtin "object.__init_subclass__", .ref 24] }
noncomputable def fo28 (P : Params) : Obj := { cls := .type "tuple", data := .seq #[.ref 24] }
noncomputable def fo29 (P : Params) : Obj := { cls := .type "builtin_function_or_method", data := .fields #[.builtin "type.__prepare__", .type "type"] }
noncomputable def fo30 (P : Params) : Obj := { cls := .type "dict", data := .dict #[de P "__module__" 216 (.str "vectorcove.errors" 187), de P "__qualname__" 218 (.str "Refusal" 217), de P "__firstlineno__" 220 (.int 4 219), de P "__init__" 228 (.ref 41), de P "__static_attributes__" 230 (.ref 42)] 5 }
noncomputable def fo31 (P : Params) : Obj := { cls := .type "tuple", data := .seq #[] }
noncomputable def fo32 (P : Params) : Obj := { cls := .none, data := .fields #[.int 6 0, .int 4 0, .ref 40] }
noncomputable def fo33 (P : Params) : Obj := { cls := .type "code", data := .fields #[.str "Refusal" 211, .str "Refusal" 212, .str "/claim/cut.py" 213, .int 4 0, .int 0 0, .int 0 0, .int 0 0, .int 0 0, .ref 31, .bool false, .int 181 0, .ref 32, .none, .none, .none, .none, .int 214 0, .int 4 0, .str "/claim/cut.py" 215] }
noncomputable def fo34 (P : Params) : Obj := { cls := .type "frame", slots := #[some (.ref 33), some (.ref 3), some (.ref 30), none, some (.str "vectorcove.errors" 187), none, some (.ref 0)] }
noncomputable def fo35 (P : Params) : Obj := { cls := .type "tuple", data := .seq #[] }
noncomputable def fo36 (P : Params) : Obj := { cls := .none, data := .fields #[] }
noncomputable def fo37 (P : Params) : Obj := { cls := .type "tuple", data := .seq #[.str "self" 224, .str "message" 225] }
noncomputable def fo38 (P : Params) : Obj := { cls := .type "tuple", data := .seq #[] }
noncomputable def fo39 (P : Params) : Obj := { cls := .none, data := .func { name := "__init__", qualname := "Refusal.__init__", params := r_init.params, body := FuncBody.stmts r_init.body, scope := r_init.scope, globals := 0, closure := [], defaults := .none, kwdefaults := .none } }
noncomputable def fo40 (P : Params) : Obj := { cls := .type "code", data := .fields #[.str "__init__" 221, .str "Refusal.__init__" 222, .str "/claim/cut.py" 223, .int 6 0, .int 2 0, .int 0 0, .int 0 0, .int 3 0, .ref 35, .bool true, .int 181 0, .ref 36, .none, .ref 37, .ref 38, .ref 39, .int 226 0, .int 6 0, .str "/claim/cut.py" 227] }
noncomputable def fo41 (P : Params) : Obj := { cls := .type "function", data := .func { name := "__init__", qualname := "Refusal.__init__", params := r_init.params, body := FuncBody.stmts r_init.body, scope := r_init.scope, globals := 3, closure := [], defaults := .none, kwdefaults := .none, pyModule := .str "vectorcove.errors" 187, code := .ref 40 } }
noncomputable def fo42 (P : Params) : Obj := { cls := .type "tuple", data := .seq #[.str "message" 229] }
noncomputable def fo43 (P : Params) : Obj := { cls := .type "dict", data := .dict #[de P "__module__" 216 (.str "vectorcove.errors" 187), de P "__firstlineno__" 220 (.int 4 219), de P "__init__" 228 (.ref 41), de P "__static_attributes__" 230 (.ref 42), de P "__doc__" 231 (.none)] 2 }
noncomputable def fo44 (P : Params) : Obj := { cls := .type "type", data := .cls { name := "Refusal", bases := [.ref 24], mro := [.ref 44, .ref 24, .type "Exception", .type "BaseException", .type "object"], ns := 43, qualname := "Refusal" }, slots := #[some (.ref 28), none, some (.str "Refusal" 209), some (.str "Refusal" 217), some (.builtin "Exception.__new__"), some (.bool true)] }
noncomputable def fo45 (P : Params) : Obj := { cls := .type "super", data := .fields #[.ref 44, .ref 44, .ref 44] }
noncomputable def fo46 (P : Params) : Obj := { cls := .type "builtin_function_or_method", data := .fields #[.builtin "object.__init_subclass__", .ref 44] }
noncomputable def fo47 (P : Params) : Obj := { cls := .type "tuple", data := .seq #[.int 0 236, .int 0 237] }
noncomputable def fo48 (P : Params) : Obj := { cls := .type "tuple", data := .seq #[] }
noncomputable def fo49 (P : Params) : Obj := { cls := .none, data := .fields #[] }
noncomputable def fo50 (P : Params) : Obj := { cls := .type "tuple", data := .seq #[.str "a" 242, .str "b" 243] }
noncomputable def fo51 (P : Params) : Obj := { cls := .type "tuple", data := .seq #[] }
noncomputable def fo52 (P : Params) : Obj := { cls := .none, data := .func { name := "gcd", qualname := "gcd", params := r_gcd.params, body := FuncBody.stmts r_gcd.body, scope := r_gcd.scope, globals := 0, closure := [], defaults := .none, kwdefaults := .none } }
noncomputable def fo53 (P : Params) : Obj := { cls := .type "code", data := .fields #[.str "gcd" 239, .str "gcd" 240, .str "/claim/cut.py" 241, .int 10 0, .int 2 0, .int 0 0, .int 0 0, .int 3 0, .ref 48, .bool true, .int 181 0, .ref 49, .none, .ref 50, .ref 51, .ref 52, .int 244 0, .int 10 0, .str "/claim/cut.py" 245] }
noncomputable def fo54 (P : Params) : Obj := { cls := .type "function", data := .func { name := "gcd", qualname := "gcd", params := r_gcd.params, body := FuncBody.stmts r_gcd.body, scope := r_gcd.scope, globals := 3, closure := [], defaults := .none, kwdefaults := .none, pyModule := .str "vectorcove.rational" 234, code := .ref 53 } }
noncomputable def fo55 (P : Params) : Obj := { cls := .type "tuple", data := .seq #[] }
noncomputable def fo56 (P : Params) : Obj := { cls := .none, data := .fields #[] }
noncomputable def fo57 (P : Params) : Obj := { cls := .type "tuple", data := .seq #[.str "n" 250, .str "d" 251, .str "common" 252] }
noncomputable def fo58 (P : Params) : Obj := { cls := .type "tuple", data := .seq #[] }
noncomputable def fo59 (P : Params) : Obj := { cls := .none, data := .func { name := "make", qualname := "make", params := r_make.params, body := FuncBody.stmts r_make.body, scope := r_make.scope, globals := 0, closure := [], defaults := .none, kwdefaults := .none } }
noncomputable def fo60 (P : Params) : Obj := { cls := .type "code", data := .fields #[.str "make" 247, .str "make" 248, .str "/claim/cut.py" 249, .int 14 0, .int 2 0, .int 0 0, .int 0 0, .int 3 0, .ref 55, .bool true, .int 181 0, .ref 56, .none, .ref 57, .ref 58, .ref 59, .int 253 0, .int 14 0, .str "/claim/cut.py" 254] }
noncomputable def fo61 (P : Params) : Obj := { cls := .type "function", data := .func { name := "make", qualname := "make", params := r_make.params, body := FuncBody.stmts r_make.body, scope := r_make.scope, globals := 3, closure := [], defaults := .none, kwdefaults := .none, pyModule := .str "vectorcove.rational" 234, code := .ref 60 } }
noncomputable def fo62 (P : Params) : Obj := { cls := .type "tuple", data := .seq #[] }
noncomputable def fo63 (P : Params) : Obj := { cls := .none, data := .fields #[] }
noncomputable def fo64 (P : Params) : Obj := { cls := .type "tuple", data := .seq #[.str "x" 259] }
noncomputable def fo65 (P : Params) : Obj := { cls := .type "tuple", data := .seq #[] }
noncomputable def fo66 (P : Params) : Obj := { cls := .none, data := .func { name := "is_na", qualname := "is_na", params := r_is_na.params, body := FuncBody.stmts r_is_na.body, scope := r_is_na.scope, globals := 0, closure := [], defaults := .none, kwdefaults := .none } }
noncomputable def fo67 (P : Params) : Obj := { cls := .type "code", data := .fields #[.str "is_na" 256, .str "is_na" 257, .str "/claim/cut.py" 258, .int 24 0, .int 1 0, .int 0 0, .int 0 0, .int 3 0, .ref 62, .bool true, .int 181 0, .ref 63, .none, .ref 64, .ref 65, .ref 66, .int 260 0, .int 24 0, .str "/claim/cut.py" 261] }
noncomputable def fo68 (P : Params) : Obj := { cls := .type "function", data := .func { name := "is_na", qualname := "is_na", params := r_is_na.params, body := FuncBody.stmts r_is_na.body, scope := r_is_na.scope, globals := 3, closure := [], defaults := .none, kwdefaults := .none, pyModule := .str "vectorcove.rational" 234, code := .ref 67 } }
noncomputable def fo69 (P : Params) : Obj := { cls := .type "tuple", data := .seq #[] }
noncomputable def fo70 (P : Params) : Obj := { cls := .none, data := .fields #[] }
noncomputable def fo71 (P : Params) : Obj := { cls := .type "tuple", data := .seq #[.str "x" 266, .str "y" 267] }
noncomputable def fo72 (P : Params) : Obj := { cls := .type "tuple", data := .seq #[] }
noncomputable def fo73 (P : Params) : Obj := { cls := .none, data := .func { name := "marked", qualname := "marked", params := r_marked.params, body := FuncBody.stmts r_marked.body, scope := r_marked.scope, globals := 0, closure := [], defaults := .none, kwdefaults := .none } }
noncomputable def fo74 (P : Params) : Obj := { cls := .type "code", data := .fields #[.str "marked" 263, .str "marked" 264, .str "/claim/cut.py" 265, .int 26 0, .int 2 0, .int 0 0, .int 0 0, .int 3 0, .ref 69, .bool true, .int 181 0, .ref 70, .none, .ref 71, .ref 72, .ref 73, .int 268 0, .int 26 0, .str "/claim/cut.py" 269] }
noncomputable def fo75 (P : Params) : Obj := { cls := .type "function", data := .func { name := "marked", qualname := "marked", params := r_marked.params, body := FuncBody.stmts r_marked.body, scope := r_marked.scope, globals := 3, closure := [], defaults := .none, kwdefaults := .none, pyModule := .str "vectorcove.rational" 234, code := .ref 74 } }
noncomputable def fo76 (P : Params) : Obj := { cls := .type "tuple", data := .seq #[] }
noncomputable def fo77 (P : Params) : Obj := { cls := .none, data := .fields #[] }
noncomputable def fo78 (P : Params) : Obj := { cls := .type "tuple", data := .seq #[.str "x" 274] }
noncomputable def fo79 (P : Params) : Obj := { cls := .type "tuple", data := .seq #[] }
noncomputable def fo80 (P : Params) : Obj := { cls := .none, data := .func { name := "neg", qualname := "neg", params := r_neg.params, body := FuncBody.stmts r_neg.body, scope := r_neg.scope, globals := 0, closure := [], defaults := .none, kwdefaults := .none } }
noncomputable def fo81 (P : Params) : Obj := { cls := .type "code", data := .fields #[.str "neg" 271, .str "neg" 272, .str "/claim/cut.py" 273, .int 30 0, .int 1 0, .int 0 0, .int 0 0, .int 3 0, .ref 76, .bool true, .int 181 0, .ref 77, .none, .ref 78, .ref 79, .ref 80, .int 275 0, .int 30 0, .str "/claim/cut.py" 276] }
noncomputable def fo82 (P : Params) : Obj := { cls := .type "function", data := .func { name := "neg", qualname := "neg", params := r_neg.params, body := FuncBody.stmts r_neg.body, scope := r_neg.scope, globals := 3, closure := [], defaults := .none, kwdefaults := .none, pyModule := .str "vectorcove.rational" 234, code := .ref 81 } }
noncomputable def fo83 (P : Params) : Obj := { cls := .type "tuple", data := .seq #[] }
noncomputable def fo84 (P : Params) : Obj := { cls := .none, data := .fields #[] }
noncomputable def fo85 (P : Params) : Obj := { cls := .type "tuple", data := .seq #[.str "x" 281, .str "y" 282] }
noncomputable def fo86 (P : Params) : Obj := { cls := .type "tuple", data := .seq #[] }
noncomputable def fo87 (P : Params) : Obj := { cls := .none, data := .func { name := "add", qualname := "add", params := r_add.params, body := FuncBody.stmts r_add.body, scope := r_add.scope, globals := 0, closure := [], defaults := .none, kwdefaults := .none } }
noncomputable def fo88 (P : Params) : Obj := { cls := .type "code", data := .fields #[.str "add" 278, .str "add" 279, .str "/claim/cut.py" 280, .int 34 0, .int 2 0, .int 0 0, .int 0 0, .int 3 0, .ref 83, .bool true, .int 181 0, .ref 84, .none, .ref 85, .ref 86, .ref 87, .int 283 0, .int 34 0, .str "/claim/cut.py" 284] }
noncomputable def fo89 (P : Params) : Obj := { cls := .type "function", data := .func { name := "add", qualname := "add", params := r_add.params, body := FuncBody.stmts r_add.body, scope := r_add.scope, globals := 3, closure := [], defaults := .none, kwdefaults := .none, pyModule := .str "vectorcove.rational" 234, code := .ref 88 } }
noncomputable def fo90 (P : Params) : Obj := { cls := .type "tuple", data := .seq #[] }
noncomputable def fo91 (P : Params) : Obj := { cls := .none, data := .fields #[] }
noncomputable def fo92 (P : Params) : Obj := { cls := .type "tuple", data := .seq #[.str "x" 289, .str "y" 290] }
noncomputable def fo93 (P : Params) : Obj := { cls := .type "tuple", data := .seq #[] }
noncomputable def fo94 (P : Params) : Obj := { cls := .none, data := .func { name := "sub", qualname := "sub", params := r_sub.params, body := FuncBody.stmts r_sub.body, scope := r_sub.scope, globals := 0, closure := [], defaults := .none, kwdefaults := .none } }
noncomputable def fo95 (P : Params) : Obj := { cls := .type "code", data := .fields #[.str "sub" 286, .str "sub" 287, .str "/claim/cut.py" 288, .int 44 0, .int 2 0, .int 0 0, .int 0 0, .int 3 0, .ref 90, .bool true, .int 181 0, .ref 91, .none, .ref 92, .ref 93, .ref 94, .int 291 0, .int 44 0, .str "/claim/cut.py" 292] }
noncomputable def fo96 (P : Params) : Obj := { cls := .type "function", data := .func { name := "sub", qualname := "sub", params := r_sub.params, body := FuncBody.stmts r_sub.body, scope := r_sub.scope, globals := 3, closure := [], defaults := .none, kwdefaults := .none, pyModule := .str "vectorcove.rational" 234, code := .ref 95 } }
noncomputable def fo97 (P : Params) : Obj := { cls := .type "tuple", data := .seq #[] }
noncomputable def fo98 (P : Params) : Obj := { cls := .none, data := .fields #[] }
noncomputable def fo99 (P : Params) : Obj := { cls := .type "tuple", data := .seq #[.str "x" 297, .str "y" 298] }
noncomputable def fo100 (P : Params) : Obj := { cls := .type "tuple", data := .seq #[] }
noncomputable def fo101 (P : Params) : Obj := { cls := .none, data := .func { name := "mul", qualname := "mul", params := r_mul.params, body := FuncBody.stmts r_mul.body, scope := r_mul.scope, globals := 0, closure := [], defaults := .none, kwdefaults := .none } }
noncomputable def fo102 (P : Params) : Obj := { cls := .type "code", data := .fields #[.str "mul" 294, .str "mul" 295, .str "/claim/cut.py" 296, .int 46 0, .int 2 0, .int 0 0, .int 0 0, .int 3 0, .ref 97, .bool true, .int 181 0, .ref 98, .none, .ref 99, .ref 100, .ref 101, .int 299 0, .int 46 0, .str "/claim/cut.py" 300] }
noncomputable def fo103 (P : Params) : Obj := { cls := .type "function", data := .func { name := "mul", qualname := "mul", params := r_mul.params, body := FuncBody.stmts r_mul.body, scope := r_mul.scope, globals := 3, closure := [], defaults := .none, kwdefaults := .none, pyModule := .str "vectorcove.rational" 234, code := .ref 102 } }
noncomputable def fo104 (P : Params) : Obj := { cls := .type "tuple", data := .seq #[] }
noncomputable def fo105 (P : Params) : Obj := { cls := .none, data := .fields #[] }
noncomputable def fo106 (P : Params) : Obj := { cls := .type "tuple", data := .seq #[.str "x" 305, .str "y" 306] }
noncomputable def fo107 (P : Params) : Obj := { cls := .type "tuple", data := .seq #[] }
noncomputable def fo108 (P : Params) : Obj := { cls := .none, data := .func { name := "div", qualname := "div", params := r_div.params, body := FuncBody.stmts r_div.body, scope := r_div.scope, globals := 0, closure := [], defaults := .none, kwdefaults := .none } }
noncomputable def fo109 (P : Params) : Obj := { cls := .type "code", data := .fields #[.str "div" 302, .str "div" 303, .str "/claim/cut.py" 304, .int 50 0, .int 2 0, .int 0 0, .int 0 0, .int 3 0, .ref 104, .bool true, .int 181 0, .ref 105, .none, .ref 106, .ref 107, .ref 108, .int 307 0, .int 50 0, .str "/claim/cut.py" 308] }
noncomputable def fo110 (P : Params) : Obj := { cls := .type "function", data := .func { name := "div", qualname := "div", params := r_div.params, body := FuncBody.stmts r_div.body, scope := r_div.scope, globals := 3, closure := [], defaults := .none, kwdefaults := .none, pyModule := .str "vectorcove.rational" 234, code := .ref 109 } }
noncomputable def fo111 (P : Params) : Obj := { cls := .type "tuple", data := .seq #[.int 0 312, .int 1 313] }
noncomputable def fo112 (P : Params) : Obj := { cls := .type "tuple", data := .seq #[.int 1 315, .int 1 316] }
noncomputable def fo113 (P : Params) : Obj := { cls := .type "tuple", data := .seq #[] }
noncomputable def fo114 (P : Params) : Obj := { cls := .none, data := .fields #[] }
noncomputable def fo115 (P : Params) : Obj := { cls := .type "tuple", data := .seq #[.str "size" 321, .str "rows" 322, .str "place" 323, .str "row" 324] }
noncomputable def fo116 (P : Params) : Obj := { cls := .type "tuple", data := .seq #[] }
noncomputable def fo117 (P : Params) : Obj := { cls := .none, data := .func { name := "identity_rows", qualname := "identity_rows", params := r_identity_rows.params, body := FuncBody.stmts r_identity_rows.body, scope := r_identity_rows.scope, globals := 0, closure := [], defaults := .none, kwdefaults := .none } }
noncomputable def fo118 (P : Params) : Obj := { cls := .type "code", data := .fields #[.str "identity_rows" 318, .str "identity_rows" 319, .str "/claim/cut.py" 320, .int 61 0, .int 1 0, .int 0 0, .int 0 0, .int 3 0, .ref 113, .bool true, .int 181 0, .ref 114, .none, .ref 115, .ref 116, .ref 117, .int 325 0, .int 61 0, .str "/claim/cut.py" 326] }
noncomputable def fo119 (P : Params) : Obj := { cls := .type "function", data := .func { name := "identity_rows", qualname := "identity_rows", params := r_identity_rows.params, body := FuncBody.stmts r_identity_rows.body, scope := r_identity_rows.scope, globals := 3, closure := [], defaults := .none, kwdefaults := .none, pyModule := .str "vectorcove.linear" 310, code := .ref 118 } }
noncomputable def fo120 (P : Params) : Obj := { cls := .type "tuple", data := .seq #[] }
noncomputable def fo121 (P : Params) : Obj := { cls := .none, data := .fields #[] }
noncomputable def fo122 (P : Params) : Obj := { cls := .none, data := .func { name := "copied", qualname := "copied", params := r_copied.params, body := FuncBody.stmts r_copied.body, scope := r_copied.scope, globals := 0, closure := [], defaults := .none, kwdefaults := .none } }
noncomputable def fo123 (P : Params) : Obj := { cls := .type "code", data := .fields #[.str "copied" 328, .str "copied" 329, .str "/claim/cut.py" 330, .int 68 0, .int 1 0, .int 0 0, .int 0 0, .int 3 0, .ref 120, .bool true, .int 181 0, .ref 121, .none, .none, .none, .ref 122, .int 331 0, .int 68 0, .str "/claim/cut.py" 332] }
noncomputable def fo124 (P : Params) : Obj := { cls := .type "function", data := .func { name := "copied", qualname := "copied", params := r_copied.params, body := FuncBody.stmts r_copied.body, scope := r_copied.scope, globals := 3, closure := [], defaults := .none, kwdefaults := .none, pyModule := .str "vectorcove.linear" 310, code := .ref 123 } }
noncomputable def fo125 (P : Params) : Obj := { cls := .type "tuple", data := .seq #[] }
noncomputable def fo126 (P : Params) : Obj := { cls := .none, data := .fields #[] }
noncomputable def fo127 (P : Params) : Obj := { cls := .none, data := .func { name := "transposed", qualname := "transposed", params := r_transposed.params, body := FuncBody.stmts r_transposed.body, scope := r_transposed.scope, globals := 0, closure := [], defaults := .none, kwdefaults := .none } }
noncomputable def fo128 (P : Params) : Obj := { cls := .type "code", data := .fields #[.str "transposed" 334, .str "transposed" 335, .str "/claim/cut.py" 336, .int 70 0, .int 2 0, .int 0 0, .int 0 0, .int 3 0, .ref 125, .bool true, .int 181 0, .ref 126, .none, .none, .none, .ref 127, .int 337 0, .int 70 0, .str "/claim/cut.py" 338] }
noncomputable def fo129 (P : Params) : Obj := { cls := .type "function", data := .func { name := "transposed", qualname := "transposed", params := r_transposed.params, body := FuncBody.stmts r_transposed.body, scope := r_transposed.scope, globals := 3, closure := [], defaults := .none, kwdefaults := .none, pyModule := .str "vectorcove.linear" 310, code := .ref 128 } }
noncomputable def fo130 (P : Params) : Obj := { cls := .type "tuple", data := .seq #[] }
noncomputable def fo131 (P : Params) : Obj := { cls := .none, data := .fields #[] }
noncomputable def fo132 (P : Params) : Obj := { cls := .type "tuple", data := .seq #[.str "u" 343, .str "v" 344, .str "total" 345, .str "place" 346] }
noncomputable def fo133 (P : Params) : Obj := { cls := .type "tuple", data := .seq #[] }
noncomputable def fo134 (P : Params) : Obj := { cls := .none, data := .func { name := "dot", qualname := "dot", params := r_dot.params, body := FuncBody.stmts r_dot.body, scope := r_dot.scope, globals := 0, closure := [], defaults := .none, kwdefaults := .none } }
noncomputable def fo135 (P : Params) : Obj := { cls := .type "code", data := .fields #[.str "dot" 340, .str "dot" 341, .str "/claim/cut.py" 342, .int 75 0, .int 2 0, .int 0 0, .int 0 0, .int 3 0, .ref 130, .bool true, .int 181 0, .ref 131, .none, .ref 132, .ref 133, .ref 134, .int 347 0, .int 75 0, .str "/claim/cut.py" 348] }
noncomputable def fo136 (P : Params) : Obj := { cls := .type "function", data := .func { name := "dot", qualname := "dot", params := r_dot.params, body := FuncBody.stmts r_dot.body, scope := r_dot.scope, globals := 3, closure := [], defaults := .none, kwdefaults := .none, pyModule := .str "vectorcove.linear" 310, code := .ref 135 } }
noncomputable def fo137 (P : Params) : Obj := { cls := .type "tuple", data := .seq #[] }
noncomputable def fo138 (P : Params) : Obj := { cls := .none, data := .fields #[] }
noncomputable def fo139 (P : Params) : Obj := { cls := .none, data := .func { name := "times", qualname := "times", params := r_times.params, body := FuncBody.stmts r_times.body, scope := r_times.scope, globals := 0, closure := [], defaults := .none, kwdefaults := .none } }
noncomputable def fo140 (P : Params) : Obj := { cls := .type "code", data := .fields #[.str "times" 350, .str "times" 351, .str "/claim/cut.py" 352, .int 80 0, .int 3 0, .int 0 0, .int 0 0, .int 3 0, .ref 137, .bool true, .int 181 0, .ref 138, .none, .none, .none, .ref 139, .int 353 0, .int 80 0, .str "/claim/cut.py" 354] }
noncomputable def fo141 (P : Params) : Obj := { cls := .type "function", data := .func { name := "times", qualname := "times", params := r_times.params, body := FuncBody.stmts r_times.body, scope := r_times.scope, globals := 3, closure := [], defaults := .none, kwdefaults := .none, pyModule := .str "vectorcove.linear" 310, code := .ref 140 } }
noncomputable def fo142 (P : Params) : Obj := { cls := .type "tuple", data := .seq #[] }
noncomputable def fo143 (P : Params) : Obj := { cls := .none, data := .fields #[] }
noncomputable def fo144 (P : Params) : Obj := { cls := .none, data := .func { name := "scaled", qualname := "scaled", params := r_scaled.params, body := FuncBody.stmts r_scaled.body, scope := r_scaled.scope, globals := 0, closure := [], defaults := .none, kwdefaults := .none } }
noncomputable def fo145 (P : Params) : Obj := { cls := .type "code", data := .fields #[.str "scaled" 356, .str "scaled" 357, .str "/claim/cut.py" 358, .int 86 0, .int 2 0, .int 0 0, .int 0 0, .int 3 0, .ref 142, .bool true, .int 181 0, .ref 143, .none, .none, .none, .ref 144, .int 359 0, .int 86 0, .str "/claim/cut.py" 360] }
noncomputable def fo146 (P : Params) : Obj := { cls := .type "function", data := .func { name := "scaled", qualname := "scaled", params := r_scaled.params, body := FuncBody.stmts r_scaled.body, scope := r_scaled.scope, globals := 3, closure := [], defaults := .none, kwdefaults := .none, pyModule := .str "vectorcove.linear" 310, code := .ref 145 } }
noncomputable def fo147 (P : Params) : Obj := { cls := .type "tuple", data := .seq #[] }
noncomputable def fo148 (P : Params) : Obj := { cls := .none, data := .fields #[] }
noncomputable def fo149 (P : Params) : Obj := { cls := .type "tuple", data := .seq #[.str "row" 365, .str "other" 366, .str "factor" 367, .str "result" 368, .str "place" 369] }
noncomputable def fo150 (P : Params) : Obj := { cls := .type "tuple", data := .seq #[] }
noncomputable def fo151 (P : Params) : Obj := { cls := .none, data := .func { name := "less_multiple", qualname := "less_multiple", params := r_less_multiple.params, body := FuncBody.stmts r_less_multiple.body, scope := r_less_multiple.scope, globals := 0, closure := [], defaults := .none, kwdefaults := .none } }
noncomputable def fo152 (P : Params) : Obj := { cls := .type "code", data := .fields #[.str "less_multiple" 362, .str "less_multiple" 363, .str "/claim/cut.py" 364, .int 88 0, .int 3 0, .int 0 0, .int 0 0, .int 3 0, .ref 147, .bool true, .int 181 0, .ref 148, .none, .ref 149, .ref 150, .ref 151, .int 370 0, .int 88 0, .str "/claim/cut.py" 371] }
noncomputable def fo153 (P : Params) : Obj := { cls := .type "function", data := .func { name := "less_multiple", qualname := "less_multiple", params := r_less_multiple.params, body := FuncBody.stmts r_less_multiple.body, scope := r_less_multiple.scope, globals := 3, closure := [], defaults := .none, kwdefaults := .none, pyModule := .str "vectorcove.linear" 310, code := .ref 152 } }
noncomputable def fo154 (P : Params) : Obj := { cls := .type "tuple", data := .seq #[] }
noncomputable def fo155 (P : Params) : Obj := { cls := .none, data := .fields #[] }
noncomputable def fo156 (P : Params) : Obj := { cls := .type "tuple", data := .seq #[.str "rows" 376, .str "start" 377, .str "column" 378, .str "place" 379] }
noncomputable def fo157 (P : Params) : Obj := { cls := .type "tuple", data := .seq #[] }
noncomputable def fo158 (P : Params) : Obj := { cls := .none, data := .func { name := "first_filled", qualname := "first_filled", params := r_first_filled.params, body := FuncBody.stmts r_first_filled.body, scope := r_first_filled.scope, globals := 0, closure := [], defaults := .none, kwdefaults := .none } }
noncomputable def fo159 (P : Params) : Obj := { cls := .type "code", data := .fields #[.str "first_filled" 373, .str "first_filled" 374, .str "/claim/cut.py" 375, .int 95 0, .int 3 0, .int 0 0, .int 0 0, .int 3 0, .ref 154, .bool true, .int 181 0, .ref 155, .none, .ref 156, .ref 157, .ref 158, .int 380 0, .int 95 0, .str "/claim/cut.py" 381] }
noncomputable def fo160 (P : Params) : Obj := { cls := .type "function", data := .func { name := "first_filled", qualname := "first_filled", params := r_first_filled.params, body := FuncBody.stmts r_first_filled.body, scope := r_first_filled.scope, globals := 3, closure := [], defaults := .none, kwdefaults := .none, pyModule := .str "vectorcove.linear" 310, code := .ref 159 } }
noncomputable def fo161 (P : Params) : Obj := { cls := .type "tuple", data := .seq #[] }
noncomputable def fo162 (P : Params) : Obj := { cls := .none, data := .fields #[] }
noncomputable def fo163 (P : Params) : Obj := { cls := .type "tuple", data := .seq #[.str "rows" 386, .str "pivot" 387, .str "column" 388, .str "place" 389] }
noncomputable def fo164 (P : Params) : Obj := { cls := .type "tuple", data := .seq #[] }
noncomputable def fo165 (P : Params) : Obj := { cls := .none, data := .func { name := "clear_column", qualname := "clear_column", params := r_clear_column.params, body := FuncBody.stmts r_clear_column.body, scope := r_clear_column.scope, globals := 0, closure := [], defaults := .none, kwdefaults := .none } }
noncomputable def fo166 (P : Params) : Obj := { cls := .type "code", data := .fields #[.str "clear_column" 383, .str "clear_column" 384, .str "/claim/cut.py" 385, .int 100 0, .int 3 0, .int 0 0, .int 0 0, .int 3 0, .ref 161, .bool true, .int 181 0, .ref 162, .none, .ref 163, .ref 164, .ref 165, .int 390 0, .int 100 0, .str "/claim/cut.py" 391] }
noncomputable def fo167 (P : Params) : Obj := { cls := .type "function", data := .func { name := "clear_column", qualname := "clear_column", params := r_clear_column.params, body := FuncBody.stmts r_clear_column.body, scope := r_clear_column.scope, globals := 3, closure := [], defaults := .none, kwdefaults := .none, pyModule := .str "vectorcove.linear" 310, code := .ref 166 } }
noncomputable def fo168 (P : Params) : Obj := { cls := .type "tuple", data := .seq #[] }
noncomputable def fo169 (P : Params) : Obj := { cls := .none, data := .fields #[] }
noncomputable def fo170 (P : Params) : Obj := { cls := .type "tuple", data := .seq #[.str "a" 396, .str "rows" 397, .str "pivots" 398, .str "width" 399, .str "column" 400, .str "top" 401, .str "found" 402] }
noncomputable def fo171 (P : Params) : Obj := { cls := .type "tuple", data := .seq #[] }
noncomputable def fo172 (P : Params) : Obj := { cls := .none, data := .func { name := "row_echelon", qualname := "row_echelon", params := r_row_echelon.params, body := FuncBody.stmts r_row_echelon.body, scope := r_row_echelon.scope, globals := 0, closure := [], defaults := .none, kwdefaults := .none } }
noncomputable def fo173 (P : Params) : Obj := { cls := .type "code", data := .fields #[.str "row_echelon" 393, .str "row_echelon" 394, .str "/claim/cut.py" 395, .int 104 0, .int 1 0, .int 0 0, .int 0 0, .int 3 0, .ref 168, .bool true, .int 181 0, .ref 169, .none, .ref 170, .ref 171, .ref 172, .int 403 0, .int 104 0, .str "/claim/cut.py" 404] }
noncomputable def fo174 (P : Params) : Obj := { cls := .type "function", data := .func { name := "row_echelon", qualname := "row_echelon", params := r_row_echelon.params, body := FuncBody.stmts r_row_echelon.body, scope := r_row_echelon.scope, globals := 3, closure := [], defaults := .none, kwdefaults := .none, pyModule := .str "vectorcove.linear" 310, code := .ref 173 } }
noncomputable def fo175 (P : Params) : Obj := { cls := .type "tuple", data := .seq #[] }
noncomputable def fo176 (P : Params) : Obj := { cls := .none, data := .fields #[] }
noncomputable def fo177 (P : Params) : Obj := { cls := .type "tuple", data := .seq #[.str "a" 409] }
noncomputable def fo178 (P : Params) : Obj := { cls := .type "tuple", data := .seq #[] }
noncomputable def fo179 (P : Params) : Obj := { cls := .none, data := .func { name := "rank_of", qualname := "rank_of", params := r_rank_of.params, body := FuncBody.stmts r_rank_of.body, scope := r_rank_of.scope, globals := 0, closure := [], defaults := .none, kwdefaults := .none } }
noncomputable def fo180 (P : Params) : Obj := { cls := .type "code", data := .fields #[.str "rank_of" 406, .str "rank_of" 407, .str "/claim/cut.py" 408, .int 118 0, .int 1 0, .int 0 0, .int 0 0, .int 3 0, .ref 175, .bool true, .int 181 0, .ref 176, .none, .ref 177, .ref 178, .ref 179, .int 410 0, .int 118 0, .str "/claim/cut.py" 411] }
noncomputable def fo181 (P : Params) : Obj := { cls := .type "function", data := .func { name := "rank_of", qualname := "rank_of", params := r_rank_of.params, body := FuncBody.stmts r_rank_of.body, scope := r_rank_of.scope, globals := 3, closure := [], defaults := .none, kwdefaults := .none, pyModule := .str "vectorcove.linear" 310, code := .ref 180 } }
noncomputable def fo182 (P : Params) : Obj := { cls := .type "tuple", data := .seq #[] }
noncomputable def fo183 (P : Params) : Obj := { cls := .none, data := .fields #[] }
noncomputable def fo184 (P : Params) : Obj := { cls := .type "tuple", data := .seq #[.str "a" 416, .str "width" 417, .str "rows" 418, .str "pivots" 419, .str "found" 420, .str "column" 421, .str "vector" 422, .str "place" 423] }
noncomputable def fo185 (P : Params) : Obj := { cls := .type "tuple", data := .seq #[] }
noncomputable def fo186 (P : Params) : Obj := { cls := .none, data := .func { name := "null_space", qualname := "null_space", params := r_null_space.params, body := FuncBody.stmts r_null_space.body, scope := r_null_space.scope, globals := 0, closure := [], defaults := .none, kwdefaults := .none } }
noncomputable def fo187 (P : Params) : Obj := { cls := .type "code", data := .fields #[.str "null_space" 413, .str "null_space" 414, .str "/claim/cut.py" 415, .int 120 0, .int 2 0, .int 0 0, .int 0 0, .int 3 0, .ref 182, .bool true, .int 181 0, .ref 183, .none, .ref 184, .ref 185, .ref 186, .int 424 0, .int 120 0, .str "/claim/cut.py" 425] }
noncomputable def fo188 (P : Params) : Obj := { cls := .type "function", data := .func { name := "null_space", qualname := "null_space", params := r_null_space.params, body := FuncBody.stmts r_null_space.body, scope := r_null_space.scope, globals := 3, closure := [], defaults := .none, kwdefaults := .none, pyModule := .str "vectorcove.linear" 310, code := .ref 187 } }
noncomputable def fo189 (P : Params) : Obj := { cls := .type "tuple", data := .seq #[] }
noncomputable def fo190 (P : Params) : Obj := { cls := .none, data := .fields #[] }
noncomputable def fo191 (P : Params) : Obj := { cls := .type "tuple", data := .seq #[.str "pivots" 430, .str "size" 431, .str "column" 432] }
noncomputable def fo192 (P : Params) : Obj := { cls := .type "tuple", data := .seq #[] }
noncomputable def fo193 (P : Params) : Obj := { cls := .none, data := .func { name := "first_dependent", qualname := "first_dependent", params := r_first_dependent.params, body := FuncBody.stmts r_first_dependent.body, scope := r_first_dependent.scope, globals := 0, closure := [], defaults := .none, kwdefaults := .none } }
noncomputable def fo194 (P : Params) : Obj := { cls := .type "code", data := .fields #[.str "first_dependent" 427, .str "first_dependent" 428, .str "/claim/cut.py" 429, .int 132 0, .int 2 0, .int 0 0, .int 0 0, .int 3 0, .ref 189, .bool true, .int 181 0, .ref 190, .none, .ref 191, .ref 192, .ref 193, .int 433 0, .int 132 0, .str "/claim/cut.py" 434] }
noncomputable def fo195 (P : Params) : Obj := { cls := .type "function", data := .func { name := "first_dependent", qualname := "first_dependent", params := r_first_dependent.params, body := FuncBody.stmts r_first_dependent.body, scope := r_first_dependent.scope, globals := 3, closure := [], defaults := .none, kwdefaults := .none, pyModule := .str "vectorcove.linear" 310, code := .ref 194 } }
noncomputable def fo196 (P : Params) : Obj := { cls := .type "tuple", data := .seq #[] }
noncomputable def fo197 (P : Params) : Obj := { cls := .none, data := .fields #[] }
noncomputable def fo198 (P : Params) : Obj := { cls := .none, data := .func { name := "solve_rows", qualname := "solve_rows", params := r_solve_rows.params, body := FuncBody.stmts r_solve_rows.body, scope := r_solve_rows.scope, globals := 0, closure := [], defaults := .none, kwdefaults := .none } }
noncomputable def fo199 (P : Params) : Obj := { cls := .type "code", data := .fields #[.str "solve_rows" 436, .str "solve_rows" 437, .str "/claim/cut.py" 438, .int 137 0, .int 2 0, .int 0 0, .int 0 0, .int 3 0, .ref 196, .bool true, .int 181 0, .ref 197, .none, .none, .none, .ref 198, .int 439 0, .int 137 0, .str "/claim/cut.py" 440] }
noncomputable def fo200 (P : Params) : Obj := { cls := .type "function", data := .func { name := "solve_rows", qualname := "solve_rows", params := r_solve_rows.params, body := FuncBody.stmts r_solve_rows.body, scope := r_solve_rows.scope, globals := 3, closure := [], defaults := .none, kwdefaults := .none, pyModule := .str "vectorcove.linear" 310, code := .ref 199 } }
noncomputable def fo201 (P : Params) : Obj := { cls := .type "tuple", data := .seq #[] }
noncomputable def fo202 (P : Params) : Obj := { cls := .none, data := .fields #[] }
noncomputable def fo203 (P : Params) : Obj := { cls := .type "tuple", data := .seq #[.str "a" 445] }
noncomputable def fo204 (P : Params) : Obj := { cls := .type "tuple", data := .seq #[] }
noncomputable def fo205 (P : Params) : Obj := { cls := .none, data := .func { name := "inverse", qualname := "inverse", params := r_inverse.params, body := FuncBody.stmts r_inverse.body, scope := r_inverse.scope, globals := 0, closure := [], defaults := .none, kwdefaults := .none } }
noncomputable def fo206 (P : Params) : Obj := { cls := .type "code", data := .fields #[.str "inverse" 442, .str "inverse" 443, .str "/claim/cut.py" 444, .int 145 0, .int 1 0, .int 0 0, .int 0 0, .int 3 0, .ref 201, .bool true, .int 181 0, .ref 202, .none, .ref 203, .ref 204, .ref 205, .int 446 0, .int 145 0, .str "/claim/cut.py" 447] }
noncomputable def fo207 (P : Params) : Obj := { cls := .type "function", data := .func { name := "inverse", qualname := "inverse", params := r_inverse.params, body := FuncBody.stmts r_inverse.body, scope := r_inverse.scope, globals := 3, closure := [], defaults := .none, kwdefaults := .none, pyModule := .str "vectorcove.linear" 310, code := .ref 206 } }
noncomputable def fo208 (P : Params) : Obj := { cls := .type "tuple", data := .seq #[] }
noncomputable def fo209 (P : Params) : Obj := { cls := .none, data := .fields #[] }
noncomputable def fo210 (P : Params) : Obj := { cls := .none, data := .func { name := "_law_drawn", qualname := "_law_drawn", params := r__law_drawn.params, body := FuncBody.stmts r__law_drawn.body, scope := r__law_drawn.scope, globals := 0, closure := [], defaults := .none, kwdefaults := .none } }
noncomputable def fo211 (P : Params) : Obj := { cls := .type "code", data := .fields #[.str "_law_drawn" 451, .str "_law_drawn" 452, .str "/claim/cut.py" 453, .int 148 0, .int 1 0, .int 0 0, .int 0 0, .int 3 0, .ref 208, .bool true, .int 181 0, .ref 209, .none, .none, .none, .ref 210, .int 454 0, .int 148 0, .str "/claim/cut.py" 455] }
noncomputable def fo212 (P : Params) : Obj := { cls := .type "function", data := .func { name := "_law_drawn", qualname := "_law_drawn", params := r__law_drawn.params, body := FuncBody.stmts r__law_drawn.body, scope := r__law_drawn.scope, globals := 3, closure := [], defaults := .none, kwdefaults := .none, pyModule := .str "law_ov0056_01" 449, code := .ref 211 } }
noncomputable def fo213 (P : Params) : Obj := { cls := .type "tuple", data := .seq #[] }
noncomputable def fo214 (P : Params) : Obj := { cls := .none, data := .fields #[] }
noncomputable def fo215 (P : Params) : Obj := { cls := .type "tuple", data := .seq #[.str "found" 460, .str "high" 461, .str "wide" 462, .str "grid" 463, .str "spot" 464, .str "_" 465, .str "line" 466, .str "half" 467] }
noncomputable def fo216 (P : Params) : Obj := { cls := .type "tuple", data := .seq #[] }
noncomputable def fo217 (P : Params) : Obj := { cls := .none, data := .func { name := "_law_grid", qualname := "_law_grid", params := r__law_grid.params, body := FuncBody.stmts r__law_grid.body, scope := r__law_grid.scope, globals := 0, closure := [], defaults := .none, kwdefaults := .none } }
noncomputable def fo218 (P : Params) : Obj := { cls := .type "code", data := .fields #[.str "_law_grid" 457, .str "_law_grid" 458, .str "/claim/cut.py" 459, .int 159 0, .int 3 0, .int 0 0, .int 0 0, .int 3 0, .ref 213, .bool true, .int 181 0, .ref 214, .none, .ref 215, .ref 216, .ref 217, .int 468 0, .int 159 0, .str "/claim/cut.py" 469] }
noncomputable def fo219 (P : Params) : Obj := { cls := .type "function", data := .func { name := "_law_grid", qualname := "_law_grid", params := r__law_grid.params, body := FuncBody.stmts r__law_grid.body, scope := r__law_grid.scope, globals := 3, closure := [], defaults := .none, kwdefaults := .none, pyModule := .str "law_ov0056_01" 449, code := .ref 218 } }
noncomputable def fo220 (P : Params) : Obj := { cls := .type "tuple", data := .seq #[] }
noncomputable def fo221 (P : Params) : Obj := { cls := .none, data := .fields #[] }
noncomputable def fo222 (P : Params) : Obj := { cls := .none, data := .func { name := "_law_singular", qualname := "_law_singular", params := r__law_singular.params, body := FuncBody.stmts r__law_singular.body, scope := r__law_singular.scope, globals := 0, closure := [], defaults := .none, kwdefaults := .none } }
noncomputable def fo223 (P : Params) : Obj := { cls := .type "code", data := .fields #[.str "_law_singular" 471, .str "_law_singular" 472, .str "/claim/cut.py" 473, .int 170 0, .int 1 0, .int 0 0, .int 0 0, .int 3 0, .ref 220, .bool true, .int 181 0, .ref 221, .none, .none, .none, .ref 222, .int 474 0, .int 170 0, .str "/claim/cut.py" 475] }
noncomputable def fo224 (P : Params) : Obj := { cls := .type "function", data := .func { name := "_law_singular", qualname := "_law_singular", params := r__law_singular.params, body := FuncBody.stmts r__law_singular.body, scope := r__law_singular.scope, globals := 3, closure := [], defaults := .none, kwdefaults := .none, pyModule := .str "law_ov0056_01" 449, code := .ref 223 } }
noncomputable def fo225 (P : Params) : Obj := { cls := .type "tuple", data := .seq #[] }
noncomputable def fo226 (P : Params) : Obj := { cls := .none, data := .fields #[] }
noncomputable def fo227 (P : Params) : Obj := { cls := .type "tuple", data := .seq #[.str "grid" 480, .str "right" 481, .str "refused" 482, .str "error" 483] }
noncomputable def fo228 (P : Params) : Obj := { cls := .type "tuple", data := .seq #[] }
noncomputable def fo229 (P : Params) : Obj := { cls := .none, data := .func { name := "_law_refuses", qualname := "_law_refuses", params := r__law_refuses.params, body := FuncBody.stmts r__law_refuses.body, scope := r__law_refuses.scope, globals := 0, closure := [], defaults := .none, kwdefaults := .none } }
noncomputable def fo230 (P : Params) : Obj := { cls := .type "code", data := .fields #[.str "_law_refuses" 477, .str "_law_refuses" 478, .str "/claim/cut.py" 479, .int 182 0, .int 2 0, .int 0 0, .int 0 0, .int 3 0, .ref 225, .bool true, .int 181 0, .ref 226, .none, .ref 227, .ref 228, .ref 229, .int 484 0, .int 182 0, .str "/claim/cut.py" 485] }
noncomputable def fo231 (P : Params) : Obj := { cls := .type "function", data := .func { name := "_law_refuses", qualname := "_law_refuses", params := r__law_refuses.params, body := FuncBody.stmts r__law_refuses.body, scope := r__law_refuses.scope, globals := 3, closure := [], defaults := .none, kwdefaults := .none, pyModule := .str "law_ov0056_01" 449, code := .ref 230 } }
noncomputable def fo232 (P : Params) : Obj := { cls := .type "tuple", data := .seq #[] }
noncomputable def fo233 (P : Params) : Obj := { cls := .none, data := .fields #[] }
noncomputable def fo234 (P : Params) : Obj := { cls := .none, data := .func { name := "law", qualname := "law", params := r_law.params, body := FuncBody.stmts r_law.body, scope := r_law.scope, globals := 0, closure := [], defaults := .none, kwdefaults := .none } }
noncomputable def fo235 (P : Params) : Obj := { cls := .type "code", data := .fields #[.str "law" 487, .str "law" 488, .str "/claim/cut.py" 489, .int 193 0, .int 1 0, .int 0 0, .int 0 0, .int 3 0, .ref 232, .bool true, .int 181 0, .ref 233, .none, .none, .none, .ref 234, .int 490 0, .int 193 0, .str "/claim/cut.py" 491] }
noncomputable def fo236 (P : Params) : Obj := { cls := .type "function", data := .func { name := "law", qualname := "law", params := r_law.params, body := FuncBody.stmts r_law.body, scope := r_law.scope, globals := 3, closure := [], defaults := .none, kwdefaults := .none, pyModule := .str "law_ov0056_01" 449, code := .ref 235 } }
noncomputable def fh (P : Params) : Heap := ⟨#[boot_o_0 P, boot_o_1 P, fo2 P, fo3 P, boot_o_4 P, boot_o_5 P, boot_o_6 P, boot_o_7 P, boot_o_8 P, boot_o_9 P, boot_o_10 P, fo11 P, fo12 P, fo13 P, fo14 P, fo15 P, fo16 P, fo17 P, fo18 P, fo19 P, fo20 P, fo21 P, fo22 P, fo23 P, fo24 P, fo25 P, fo26 P, fo27 P, fo28 P, fo29 P, fo30 P, fo31 P, fo32 P, fo33 P, fo34 P, fo35 P, fo36 P, fo37 P, fo38 P, fo39 P, fo40 P, fo41 P, fo42 P, fo43 P, fo44 P, fo45 P, fo46 P, fo47 P, fo48 P, fo49 P, fo50 P, fo51 P, fo52 P, fo53 P, fo54 P, fo55 P, fo56 P, fo57 P, fo58 P, fo59 P, fo60 P, fo61 P, fo62 P, fo63 P, fo64 P, fo65 P, fo66 P, fo67 P, fo68 P, fo69 P, fo70 P, fo71 P, fo72 P, fo73 P, fo74 P, fo75 P, fo76 P, fo77 P, fo78 P, fo79 P, fo80 P, fo81 P, fo82 P, fo83 P, fo84 P, fo85 P, fo86 P, fo87 P, fo88 P, fo89 P, fo90 P, fo91 P, fo92 P, fo93 P, fo94 P, fo95 P, fo96 P, fo97 P, fo98 P, fo99 P, fo100 P, fo101 P, fo102 P, fo103 P, fo104 P, fo105 P, fo106 P, fo107 P, fo108 P, fo109 P, fo110 P, fo111 P, fo112 P, fo113 P, fo114 P, fo115 P, fo116 P, fo117 P, fo118 P, fo119 P, fo120 P, fo121 P, fo122 P, fo123 P, fo124 P, fo125 P, fo126 P, fo127 P, fo128 P, fo129 P, fo130 P, fo131 P, fo132 P, fo133 P, fo134 P, fo135 P, fo136 P, fo137 P, fo138 P, fo139 P, fo140 P, fo141 P, fo142 P, fo143 P, fo144 P, fo145 P, fo146 P, fo147 P, fo148 P, fo149 P, fo150 P, fo151 P, fo152 P, fo153 P, fo154 P, fo155 P, fo156 P, fo157 P, fo158 P, fo159 P, fo160 P, fo161 P, fo162 P, fo163 P, fo164 P, fo165 P, fo166 P, fo167 P, fo168 P, fo169 P, fo170 P, fo171 P, fo172 P, fo173 P, fo174 P, fo175 P, fo176 P, fo177 P, fo178 P, fo179 P, fo180 P, fo181 P, fo182 P, fo183 P, fo184 P, fo185 P, fo186 P, fo187 P, fo188 P, fo189 P, fo190 P, fo191 P, fo192 P, fo193 P, fo194 P, fo195 P, fo196 P, fo197 P, fo198 P, fo199 P, fo200 P, fo201 P, fo202 P, fo203 P, fo204 P, fo205 P, fo206 P, fo207 P, fo208 P, fo209 P, fo210 P, fo211 P, fo212 P, fo213 P, fo214 P, fo215 P, fo216 P, fo217 P, fo218 P, fo219 P, fo220 P, fo221 P, fo222 P, fo223 P, fo224 P, fo225 P, fo226 P, fo227 P, fo228 P, fo229 P, fo230 P, fo231 P, fo232 P, fo233 P, fo234 P, fo235 P, fo236 P], {}⟩
noncomputable def vw : Program := view PySem.Challenge.pw_ov0056_01 [1, 2, 4, 5, 6, 7, 8, 9, 10, 11, 12, 13, 15, 16, 17, 18, 19, 20, 21, 22, 23, 24, 25, 26, 27, 28, 29, 30, 31, 33, 34, 35, 36, 37]
theorem run_w (w : World) (os : OsState) : topRun treeTable PySem.Challenge.pw_ov0056_01 w 11 (some (.ref 6)) 2884 ⟨boot_heap w.params, #[], boot_drawn, boot_toks, os⟩ (topStub PySem.Challenge.pw_ov0056_01) = some ⟨fh w.params, #[], {}, 493, os⟩ := by
  first | rw [Fast.te14082659384304107361, Fast.te14364793385576792824] | skip
  kernel_rfl
noncomputable def kf (P : Params) : Frag := [(3, fo3 P), (23, fo23 P), (24, fo24 P), (40, fo40 P), (41, fo41 P), (43, fo43 P), (44, fo44 P), (111, fo111 P), (112, fo112 P)]
noncomputable abbrev hk : Hook := kHook kf [3, 23, 24, 40, 41, 43, 44, 111, 112] (fun _ => by kernel_rfl)
noncomputable abbrev xt (s : Shared) : Bool := xlAt vw [] s && recOk (RowW.records PySem.Challenge.rw_ov0056_01.row.toRowW) s
theorem size_w (w : World) : ((boot_heap w.params).isNs mainGlobals && (#[] : Array GenState).size == 0, (boot_heap w.params).objs.size, (boot_heap w.params).nsMap mainGlobals "__annotations__") = (true, 11, some (.ref 6)) := by
  kernel_rfl
theorem left_w : LeftO PySem.Challenge.pw_ov0056_01 vw [] xt hk.obs hk.val 2884 :=
  LeftO.of_pieces (boot_open (by kernel_rfl) rfl fun _ => by kernel_rfl) size_w run_w (by rfl) fun w => by kernel_rfl
end Mine
end
section
open PySem PySem.W PyProof.Rows PySem.Calls PySem.Spec
set_option Elab.async false
set_option maxRecDepth 100000
set_option maxHeartbeats 8000000
namespace Mine
noncomputable def keysOk (l : List DictEntry) : Bool := l.all fun e => match e.key with
  | .str _ _ => true
  | _ => false
theorem strKeys_of {l : List DictEntry} (h : keysOk l = true) : StrKeys l.toArray := by
  intro e he
  have h' := List.all_eq_true.mp h e (by simpa using he)
  split at h'
  · rename_i n t q; exact ⟨n, t, q⟩
  · cases h'
theorem ns_of {h : Heap} {a : Addr} {l : List DictEntry} {n : Nat} {c : Value} {d : Option Addr} {sl : Array (Option Value)} (e : h.get? a = some ⟨c, d, .dict l.toArray n, sl⟩) (k : keysOk l = true) : h.Ns a (nsFind l.toArray) := ⟨_, _, _, e, rfl, strKeys_of k, fun _ => rfl⟩
theorem mg_of {h : Heap} {mg : Str → Option Value} {l : List DictEntry} {n : Nat} {c : Value} {d : Option Addr} {sl : Array (Option Value)} (g : h.Ns mainGlobals mg) (e : h.get? mainGlobals = some ⟨c, d, .dict l.toArray n, sl⟩) (x : Str) : mg x = nsFind l.toArray x := by
  obtain ⟨o, es, ep, ho, hd, _, f⟩ := g
  rw [e] at ho
  cases ho
  cases hd
  exact (f x).symm
theorem rc_of {P : Params} {h : Heap} (K : (kf P).In h) : RC 44 24 43 41 h where
  cls := ⟨_, _, _, _, _, _, _, _, _, _, _, _, _, K 44 _ rfl⟩
  ns := ⟨_, ns_of (K 43 _ rfl) rfl, rfl, fun n hn => by
    rcases List.mem_cons.mp hn with rfl | hn
    · rfl
    · rcases List.mem_cons.mp hn with rfl | hn
      · rfl
      · rcases List.mem_cons.mp hn with rfl | hn
        · rfl
        · rcases List.mem_cons.mp hn with rfl | hn
          · rfl
          · cases hn⟩
  up := ⟨_, _, _, _, _, K 24 _ rfl, ns_of (K 23 _ rfl) rfl, fun n hn => by
    rcases List.mem_cons.mp hn with rfl | hn
    · rfl
    · rcases List.mem_cons.mp hn with rfl | hn
      · rfl
      · rcases List.mem_cons.mp hn with rfl | hn
        · rfl
        · rcases List.mem_cons.mp hn with rfl | hn
          · rfl
          · rcases List.mem_cons.mp hn with rfl | hn
            · rfl
            · cases hn⟩
  fn := ⟨_, _, _, _, _, _, K 41 _ rfl, rfl, rfl, codeRec_of K rfl⟩
noncomputable def six : List Str := ["abs", "len", "range", "int", "list", "min"]
theorem fr1 : ∀ x ∈ six, x ∉ startupNames := by decide +kernel
theorem fr2 : ∀ x ∈ six, x ∉ looseW vw [] := by decide +kernel
theorem fr3 : ∀ x ∈ six, x ∉ (recsOf vw).map (·.name) := by decide +kernel
theorem fr4 : ∀ x ∈ six, x ∉ (litsOf vw).map (·.1) := by decide +kernel
theorem fr5 : ∀ x ∈ six, x ∉ (clssOf vw (looseW vw [])).map (·.name) := by decide +kernel
theorem free_of {mean : ExcName → Option Value} {mg mb : Str → Option Value} {h : Heap} (T : Top vw (looseW vw []) mean mg mb h) {x : Str} (m : x ∈ six) : mg x = none :=
  T.free x (fr1 x m) (fr2 x m) (fr3 x m) (fr4 x m) (fr5 x m)
noncomputable def mkW (w : World) (mean : ExcName → Option Value) (mg mb : Str → Option Value) (h : Heap) (T : Top vw (looseW vw []) mean mg mb h) (ns : h.NoSeer) : Wd :=
  ⟨PySem.Challenge.pw_ov0056_01, w, vw, looseW vw [], mean, mg, mb, h, T, rfl, ns⟩
theorem recs_of {w : World} {mean : ExcName → Option Value} {mg mb : Str → Option Value} {h : Heap} (T : Top vw (looseW vw []) mean mg mb h) (ns : h.NoSeer) {P : Params} (K : (kf P).In h) : Recs (mkW w mean mg mb h T ns) where
  gcd := List.mem_of_getElem? (i := 0) rfl
  make := List.mem_of_getElem? (i := 1) rfl
  is_na := List.mem_of_getElem? (i := 2) rfl
  neg := List.mem_of_getElem? (i := 4) rfl
  add := List.mem_of_getElem? (i := 5) rfl
  sub := List.mem_of_getElem? (i := 6) rfl
  mul := List.mem_of_getElem? (i := 7) rfl
  div := List.mem_of_getElem? (i := 8) rfl
  identity_rows := List.mem_of_getElem? (i := 9) rfl
  copied := List.mem_of_getElem? (i := 10) rfl
  transposed := List.mem_of_getElem? (i := 11) rfl
  dot := List.mem_of_getElem? (i := 12) rfl
  times := List.mem_of_getElem? (i := 13) rfl
  scaled := List.mem_of_getElem? (i := 14) rfl
  less_multiple := List.mem_of_getElem? (i := 15) rfl
  first_filled := List.mem_of_getElem? (i := 16) rfl
  clear_column := List.mem_of_getElem? (i := 17) rfl
  row_echelon := List.mem_of_getElem? (i := 18) rfl
  rank_of := List.mem_of_getElem? (i := 19) rfl
  null_space := List.mem_of_getElem? (i := 20) rfl
  first_dependent := List.mem_of_getElem? (i := 21) rfl
  solve_rows := List.mem_of_getElem? (i := 22) rfl
  inverse := List.mem_of_getElem? (i := 23) rfl
  law_drawn := List.mem_of_getElem? (i := 24) rfl
  law_grid := List.mem_of_getElem? (i := 25) rfl
  law_singular := List.mem_of_getElem? (i := 26) rfl
  law_refuses := List.mem_of_getElem? (i := 27) rfl
  law := List.mem_of_getElem? (i := 28) rfl
  b_abs := free_of T (.head _)
  b_len := free_of T (.tail _ (.head _))
  b_range := free_of T (.tail _ (.tail _ (.head _)))
  b_int := free_of T (.tail _ (.tail _ (.tail _ (.head _))))
  b_list := free_of T (.tail _ (.tail _ (.tail _ (.tail _ (.head _)))))
  b_min := free_of T (.tail _ (.tail _ (.tail _ (.tail _ (.tail _ (.head _))))))
  zero := ⟨.ref _, (mg_of T.g (K 3 _ rfl) "ZERO").trans rfl, .tup (vs := [.int 0 _, .int 1 _]) ⟨_, K _ _ rfl, rfl, _, rfl⟩ id (.cons (.int _ _) (.cons (.int _ _) .nil))⟩
  one := ⟨.ref _, (mg_of T.g (K 3 _ rfl) "ONE").trans rfl, .tup (vs := [.int 1 _, .int 1 _]) ⟨_, K _ _ rfl, rfl, _, rfl⟩ id (.cons (.int _ _) (.cons (.int _ _) .nil))⟩
theorem den_ints {h : Heap} {O : Addr → Prop} : ∀ {vs : List Value} {xs : List Int}, IntsAre vs xs → DenAll h O vs (intsI xs)
  | _, _, .nil => .nil
  | _, _, .cons n t r => .cons (.int n t) (den_ints r)
end Mine
end
open PySem PySem.W PyProof.Rows PySem.Calls PySem.Spec
set_option Elab.async false
namespace Mine
set_option maxRecDepth 100000 in
set_option maxHeartbeats 8000000 in
theorem law_walk : WalkO vw [] (XL vw []) hk.says PySem.Challenge.rw_ov0056_01.row.toRowW r_law [] (fun f vs => call f vs) := by
  intro w s₀ s₁ mg mb G Y fa o pm cd doc dV kV ho hd' hcd hD hmg hg args vals as hpre hlay hrd hwl hlo
  have KX := kIn_of Y
  refine Ground.open G ?_
  intro T B D TE TW
  wrow_args hpre hlay hrd hwl hlo
  rename_i xs _ _ _ _ _ _ _ l vs _ hL _ _ _ hI _ hx _
  have ns : s₁.heap.NoSeer := T.seer (by decide +kernel)
  have hx' : xs.length ≤ 64 := by omega
  have R : Recs (mkW w (ExcName.means s₀.heap) mg mb s₁.heap T ns) := recs_of T ns KX
  have X : RefW (mkW w (ExcName.means s₀.heap) mg mb s₁.heap T ns) 44 24 43 41 := ⟨(mg_of T.g (KX 3 _ rfl) "Refusal").trans rfl, rc_of KX⟩
  obtain ⟨a', ⟨_, _, h1, _⟩, h3⟩ := law_top R X xs hx'
  have h4 : mg "law" = some (.ref fa) := hmg
  have h5 : mg "law" = some (.ref a') := h1
  obtain rfl : fa = a' := by
    rw [h4] at h5
    injection h5 with h5
    injection h5
  refine wpAny_mono (h3 callerA s₁ (fun _ => False) [.ref l] _ ⟨by decide, by decide, rfl, ⟨_, rfl⟩⟩ rfl ⟨Sub.rfl, fun _ z => z.elim, fun _ z => z.elim⟩ (.cons (.lst hL id (den_ints hI)) .nil) (fun v h' tk k d => ?_)) (fun _ _ z => z) fun _ _ z => z.elim
  cases d
  refine GoodW.toG ⟨.inl ⟨.bool true, .bool true, [], rfl, fun _ => rfl, ReadsW.bool .., ?_, fun _ => ⟨List.nodup_nil, fun a ha => (List.not_mem_nil ha).elim⟩⟩, k, rfl, hg⟩
  refine postW_of (X := true) ?_ ?_ rfl
  · rfl
  · exact w_eq_bool (k := true) (l := true) (by simp [WTm.value]) (by simp [WTm.value])
end Mine
set_option maxRecDepth 100000 in
set_option maxHeartbeats 8000000 in
theorem PySem.Challenge.cw_ov0056_01_holds : PySem.Challenge.rw_ov0056_01.Holds := by
  w_on
  o_law
  refine holds_open (q := Mine.vw) (loose := []) (Xt := Mine.xt) (XP := XL Mine.vw []) (Yf := Mine.hk.obs) (Ya := Mine.hk.val) (YP := Mine.hk.says) (d := Mine.r_law) (kwd := []) (N := 2884) Mine.left_w Mine.hk.of Mine.hk.keeps (fun s e => xl_of s (Bool.and_eq_true_iff.mp e).1) XL.keeps (by rfl) (by rfl) (by rfl) (fun s e => recFacts_of (Bool.and_eq_true_iff.mp e).2) (by rfl) (by first | assumption | decide +kernel) (by decide +kernel) ⟨rfl, rfl, rfl, rfl, rfl, by decide +kernel⟩ ?hw Mine.law_walk
  w_witness2
