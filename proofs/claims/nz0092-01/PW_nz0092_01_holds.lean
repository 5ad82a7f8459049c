import PyProof.Rows.All
import Wide.All
import OpenK.AllK
import Wide.FinOn
import PySem.Challenge.RW_nz0092_01
set_option Elab.async false
set_option maxRecDepth 100000
set_option autoImplicit false
set_option linter.all false
set_option maxHeartbeats 1000000
set_option compiler.extract_closed false
namespace Mine
open PySem PySem.W PySem.Calls PyProof.Rows
section
/-! the row is well said: each look its own check, the long one statement by statement -/
noncomputable abbrev bodyQ : List Stmt := PySem.Challenge.rw_nz0092_01.row.prog.main.body
noncomputable abbrev lkQ : Look := { strict := false, foot := none, bare := [] }
theorem nr_app {lk : Look} : ∀ {l : List Stmt} (n : Nat), noRoadLSs lk (l.take n) = true → noRoadLSs lk (l.drop n) = true → noRoadLSs lk l = true
  | [], n, _, _ => rfl
  | s :: l, 0, _, h => h
  | s :: l, n + 1, h, k => by
    have h1 : (noRoadLS lk s && noRoadLSs lk (l.take n)) = true := h
    rw [Bool.and_eq_true] at h1
    show (noRoadLS lk s && noRoadLSs lk l) = true
    rw [h1.1, nr_app n h1.2 k]
    rfl
theorem road1 : noRoadLSs lkQ (bodyQ.take 7) = true := by decide +kernel
theorem road2 : noRoadLSs lkQ ((bodyQ.drop 7).take 1) = true := by decide +kernel
theorem road3 : noRoadLSs lkQ ((bodyQ.drop 7).drop 1) = true := by decide +kernel
theorem strict0 : (!(importedModules PySem.Challenge.rw_nz0092_01.row.prog.main.body).all cThrough.contains) = false := by decide +kernel
theorem bare0 : (["vars", "dir", "locals"] : List Str).filter (readsOut PySem.Challenge.rw_nz0092_01.row.prog PySem.Challenge.rw_nz0092_01.row.prog.main.body) = [] := by decide +kernel
theorem road0 : noRoadLSs { strict := !(importedModules PySem.Challenge.rw_nz0092_01.row.prog.main.body).all cThrough.contains, foot := none, bare := (["vars", "dir", "locals"] : List Str).filter (readsOut PySem.Challenge.rw_nz0092_01.row.prog PySem.Challenge.rw_nz0092_01.row.prog.main.body) } PySem.Challenge.rw_nz0092_01.row.prog.main.body = true := by
  rw [strict0, bare0]
  exact nr_app 7 road1 (nr_app 1 road2 road3)
theorem resolve0 : namesResolve PySem.Challenge.rw_nz0092_01.row.prog = true := by
  unfold namesResolve
  rw [PySem.W.Fast.named_eq]
  decide +kernel
theorem said : PySem.Challenge.rw_nz0092_01.wellSaid = true := by
  unfold OpenLaw.wellSaid OpenRow.wellSaid OpenRow.partSaid looksOpen
  repeat' (with_reducible refine look_both ?_ ?_)
  all_goals first | (with_reducible exact road0) | (with_reducible exact resolve0) | decide +kernel
end
section
noncomputable def isStar : Expr → Bool
  | .Starred .. => true
  | _ => false
theorem star_cons {e : Expr} {es : List Expr} {env : Env} (h : isStar e = false) : starEach (e :: es) env = (false, eval e env) :: starEach es env := by
  cases e <;> first | (cases h; done) | rfl
theorem star_nil {env : Env} : starEach [] env = [] := rfl
theorem star_back {env : Env} : ∀ {es : List Expr}, es.any isStar = false → ∀ p, backTo p (starEach es env) = es.map fun e => (false, eval e env)
  | [], _, p => rfl
  | e :: es, h, p => by
    rw [List.any_cons, Bool.or_eq_false_iff] at h
    rw [star_cons h.1]
    show (false, if false = true then _ else _) :: backTo p (starEach es env) = _
    rw [star_back h.2]
    rfl
theorem star_any {env : Env} {es : List Expr} (h : es.any isStar = false) (p : Pos) : (backTo p (starEach es env)).any (·.1) = false := by
  rw [star_back h]
  induction es with
  | nil => rfl
  | cons e es ih => rw [List.any_cons, Bool.or_eq_false_iff] at h; rw [List.map_cons, List.any_cons, ih h.2]; rfl
theorem star_all {env : Env} {es : List Expr} (h : es.any isStar = false) (p : Pos) : (backTo p (starEach es env)).all (fun x => !x.1) = true := by
  rw [star_back h]
  induction es with
  | nil => rfl
  | cons e es ih => rw [List.any_cons, Bool.or_eq_false_iff] at h; rw [List.map_cons, List.all_cons, ih h.2]; rfl
theorem star_few {env : Env} {es : List Expr} {pos : Pos} (h : es.any isStar = false) (hl : es.length < 30) : ((backTo pos (starEach es env)).all (fun x => !x.1) && (backToKw pos (keywordEach [] env)).all (fun x => x.1.isSome)
      && decide (es.length + ([] : List Keyword).length + (if ([] : List Keyword).isEmpty then 0 else 1) < 30)) = true := by
  rw [star_all h]
  show (true && true && decide (es.length + 0 + 0 < 30)) = true
  simp; omega
theorem call_name (f : Str) (fp pos : Pos) (es : List Expr) (env : Env) : eval (.Call (.Name f fp) es [] pos) env = (do callWith pos (← eval (.Name f fp) env) [] (backTo pos (starEach es env)) (backToKw pos (keywordEach [] env))) := rfl
theorem assign_cons {e : Expr} {es : List Expr} {env : Env} (h : isStar e = false) : assignEach (e :: es) env = (false, assign e env) :: assignEach es env := by
  cases e <;> first | (cases h; done) | rfl
noncomputable def plainT : Expr → Bool
  | .Name .. | .Call .. | .Constant .. | .Subscript .. => true
  | _ => false
theorem true_plain {e : Expr} {env : Env} (h : plainT e = true) : isTrue e env (eval e env) = (do let v ← eval e env; standAt e.pos; holding [v] (truthy v)) := by
  cases e <;> first | (cases h; done) | rfl
noncomputable def plainB : Expr → Bool
  | .Call .. => false
  | _ => true
theorem base_plain {e : Expr} {n : Str} {env : Env} (h : plainB e = true) : attributeBase e n env (eval e env) = eval e env := by
  cases e <;> first | (cases h; done) | rfl
theorem assign_len {env : Env} : ∀ {es : List Expr}, es.any isStar = false → (assignEach es env).length = es.length
  | [], _ => rfl
  | e :: es, h => by
    rw [List.any_cons, Bool.or_eq_false_iff] at h
    rw [assign_cons h.1, List.length_cons, assign_len h.2, List.length_cons]
theorem assign_idx {env : Env} : ∀ {es : List Expr}, es.any isStar = false → (assignEach es env).findIdx? (·.1) = none
  | [], _ => rfl
  | e :: es, h => by
    rw [List.any_cons, Bool.or_eq_false_iff] at h
    rw [assign_cons h.1, List.findIdx?_cons, assign_idx h.2]
    rfl
end
section
noncomputable abbrev Stays (h h' : Heap) : Prop := ∀ b o, h.get? b = some o → h'.get? b = some o
noncomputable abbrev Led := List (Addr × Obj)
structure Cx where
  prog : Program
  w : World
  G : Heap → Prop
  mono : ∀ {h h' : Heap}, Stays h h' → G h → G h'
  lim : ∀ {h : Heap}, G h → h.NoLimit
  Kc : Led
noncomputable def Kn (h : Heap) (K : Led) : Prop := ∀ p ∈ K, h.get? p.1 = some p.2
theorem Kn.mono {h h' : Heap} {K : Led} (k : Kn h K) (s : Stays h h') : Kn h' K := fun p hp => s _ _ (k p hp)
theorem stays_refl (h : Heap) : Stays h h := fun _ _ e => e
theorem stays_trans {a b c : Heap} (x : Stays a b) (y : Stays b c) : Stays a c := fun _ _ e => y _ _ (x _ _ e)
theorem stays_none {a b : Heap} (x : Stays a b) {p : Addr} (e : b.get? p = none) : a.get? p = none := by
  cases q : a.get? p with
  | none => rfl
  | some o => rw [x _ _ q] at e; cases e
structure KExt (h : Heap) (K K' : Led) : Prop where
  sub : ∀ p ∈ K, p ∈ K'
  fresh : ∀ p ∈ K', p ∈ K ∨ h.get? p.1 = none
theorem KExt.refl (h : Heap) (K : Led) : KExt h K K := ⟨fun _ x => x, fun _ x => .inl x⟩
theorem KExt.trans {h h' : Heap} {K K' K'' : Led} (x : KExt h K K') (s : Stays h h') (y : KExt h' K' K'') : KExt h K K'' :=
  ⟨fun p hp => y.sub p (x.sub p hp), fun p hp => (y.fresh p hp).elim (x.fresh p) fun e => .inr (stays_none s e)⟩
noncomputable def Ret {α : Type} (K : Led) (s : Shared) (R : α → Led → Prop) (Q : α → Shared → Prop) : Prop :=
  ∀ v K' h' tk, R v K' → KExt s.heap K K' → Kn h' K' → Stays s.heap h' → Q v { s with heap := h', toks := tk }
theorem Ret.here {α : Type} {K : Led} {s : Shared} {R : α → Led → Prop} {Q : α → Shared → Prop} (r : Ret K s R Q) (kn : Kn s.heap K) {v : α} (hv : R v K) {tk : Nat} : Q v { s with toks := tk } :=
  r v K s.heap tk hv (.refl ..) kn (stays_refl _)
theorem Ret.here' {α : Type} {K : Led} {s : Shared} {R : α → Led → Prop} {Q : α → Shared → Prop} (r : Ret K s R Q) (kn : Kn s.heap K) {v : α} (hv : R v K) : Q v s :=
  r v K s.heap s.toks hv (.refl ..) kn (stays_refl _)
theorem Ret.step {α : Type} {K K₁ : Led} {s : Shared} {h₁ : Heap} {tk₁ : Nat} {R : α → Led → Prop} {Q : α → Shared → Prop} (r : Ret K s R Q)
    (x : KExt s.heap K K₁) (st : Stays s.heap h₁) : Ret K₁ { s with heap := h₁, toks := tk₁ } R Q :=
  fun v K' h' tk hv x' kn' st' => r v K' h' tk hv (x.trans st x') kn' (stays_trans st st')
structure Room (k : Nat) (A : Around) : Prop where
  hd : A.handled = none
  dp : A.depth + k < recursionLimit
  un : A.units + 20 * k + 200 < cLine
theorem Room.le {k k' : Nat} {A : Around} (r : Room k A) (h : k' ≤ k) : Room k' A := ⟨r.hd, by have := r.dp; omega, by have := r.un; omega⟩
theorem DatIn.ext {h : Heap} {K K' : Led} {v : Value} {d : Dat} (x : DatIn K v d) (e : KExt h K K') : DatIn K' v d := DatIn.mono e.sub x
theorem DatAll.ext {h : Heap} {K K' : Led} {vs : List Value} {ds : List Dat} (x : DatAll K vs ds) (e : KExt h K K') : DatAll K' vs ds := DatAll.mono e.sub x
inductive Own where
  | no
  | lst (x : Nat) (a : Addr) (l : List Dat)
  | dct (x : Nat) (a : Addr) (l : List (Str × Dat))
noncomputable def Own.key : Own → Option (Nat × Addr)
  | .no => none
  | .lst x a _ => some (x, a)
  | .dct x a _ => some (x, a)
noncomputable abbrev lstO (vs : List Value) (n : Nat) : Obj := { cls := .type "list", data := .seq vs.toArray n }
/-- a dict of str keys -/
noncomputable def DctAt (c : Cx) (h : Heap) (K : Led) (a : Addr) (l : List (Str × Dat)) : Prop :=
  ∃ (ob : Obj) (kvs : List (Str × Value)), h.get? a = some ob ∧ (ob.IsDictOf (strKind c.prog c.w) kvs ∧ kvs.map (·.1) = l.map (·.1) ∧ (a == sysModules) = false) ∧ DatAll K (kvs.map (·.2)) (l.map (·.2))
noncomputable def OwnOk (c : Cx) (h₀ h : Heap) (L : Addr) (K : Led) (m : Str → Option Value) (ns : List Str) : Own → Prop
  | .no => True
  | .lst i a l => (∃ x, ns[i]? = some x ∧ m x = some (.ref a)) ∧ (∃ vs n, h.get? a = some (lstO vs n) ∧ DatAll K vs l) ∧ a ≠ L ∧ h₀.get? a = none ∧ ∀ p ∈ K, p.1 ≠ a
  | .dct i a l => (∃ x, ns[i]? = some x ∧ m x = some (.ref a)) ∧ DctAt c h K a l ∧ a ≠ L ∧ h₀.get? a = none ∧ ∀ p ∈ K, p.1 ≠ a
noncomputable def LocOk (K : Led) (m : Str → Option Value) (ns : List Str) (ρ : List (Option Dat)) : Prop :=
  ∀ (i : Nat) (x : Str) (d : Dat), ns[i]? = some x → ρ[i]? = some (some d) → ∃ v, m x = some v ∧ DatIn K v d
structure St (c : Cx) (h₀ : Heap) (K₀ : Led) (env : Env) (ns : List Str) (ρ : List (Option Dat)) (o : Own) (K : Led) (h : Heap) : Prop where
  loc : ∃ m, h.Ns env.locals m ∧ LocOk K m ns ρ ∧ OwnOk c h₀ h env.locals K m ns o
  g0 : c.G h₀
  keep : Stays h₀ h
  fr : h₀.get? env.locals = none
  kn : Kn h K
  off : ∀ p ∈ K, p.1 ≠ env.locals
  ext : KExt h₀ K₀ K
  base : ∀ p ∈ c.Kc, p ∈ K
theorem St.g {c : Cx} {h₀ : Heap} {K₀ : Led} {env : Env} {ns : List Str} {ρ : List (Option Dat)} {o : Own} {K : Led} {h : Heap} (S : St c h₀ K₀ env ns ρ o K h) : c.G h := c.mono S.keep S.g0
theorem ns_some {h : Heap} {a : Addr} {m : Str → Option Value} (n : h.Ns a m) : ∃ o, h.get? a = some o := let ⟨o, _, _, e, _⟩ := n; ⟨o, e⟩
section
variable {c : Cx} {h₀ : Heap} {K₀ : Led} {env : Env} {ns : List Str} {ρ : List (Option Dat)} {o : Own} {K K' : Led} {h h' : Heap}
theorem St.step (S : St c h₀ K₀ env ns ρ o K h) (x : KExt h K K') (kn : Kn h' K') (st : Stays h h') : St c h₀ K₀ env ns ρ o K' h' := by
  obtain ⟨m, hn, hl, ho⟩ := S.loc
  refine ⟨⟨m, hn.keeps st, fun i y d e1 e2 => let ⟨v, e3, e4⟩ := hl i y d e1 e2; ⟨v, e3, DatIn.ext e4 x⟩, ?_⟩, S.g0, stays_trans S.keep st, S.fr, kn, fun p hp => ?_, S.ext.trans S.keep x, fun p hp => x.sub p (S.base p hp)⟩
  · cases o with
    | no => trivial
    | lst i a l =>
      obtain ⟨e1, ⟨vs, n, e3, e4⟩, e5, e6, e7⟩ := ho
      refine ⟨e1, ⟨vs, n, st _ _ e3, DatAll.ext e4 x⟩, e5, e6, fun p hp => (x.fresh p hp).elim (e7 p) fun e q => ?_⟩
      rw [q, e3] at e; cases e
    | dct i a l =>
      obtain ⟨e1, ⟨es, n, e3, e4, e8⟩, e5, e6, e7⟩ := ho
      refine ⟨e1, ⟨es, n, st _ _ e3, e4, DatAll.ext e8 x⟩, e5, e6, fun p hp => (x.fresh p hp).elim (e7 p) fun e q => ?_⟩
      rw [q, e3] at e; cases e
  · rcases x.fresh p hp with e | e
    · exact S.off p e
    · intro q
      obtain ⟨oL, eL⟩ := ns_some hn
      rw [q, eL] at e; cases e
end
/-- an expression gives d -/
noncomputable def EV (c : Cx) (k : Nat) (env : Env) (ns : List Str) (ρ : List (Option Dat)) (o : Own) (e : Expr) (d : Dat) : Prop :=
  ∀ h₀ K₀ K s A E Q, St c h₀ K₀ env ns ρ o K s.heap → Room k A → Ret K s (fun v K' => DatIn K' v d) Q → wpAny (model c.prog c.w) A (eval e env) Q E s
/-- a test gives b -/
noncomputable def TR (c : Cx) (k : Nat) (env : Env) (ns : List Str) (ρ : List (Option Dat)) (o : Own) (e : Expr) (b : Bool) : Prop :=
  ∀ h₀ K₀ K s A E Q, St c h₀ K₀ env ns ρ o K s.heap → Room k A → Ret K s (fun v _ => v = b) Q → wpAny (model c.prog c.w) A (isTrue e env (eval e env)) Q E s
noncomputable def EVs (c : Cx) (k : Nat) (env : Env) (ns : List Str) (ρ : List (Option Dat)) (o : Own) (es : List Expr) (ds : List Dat) : Prop :=
  ∀ h₀ K₀ K s A E Q pos, St c h₀ K₀ env ns ρ o K s.heap → Room k A → Ret K s (fun vs K' => DatAll K' vs ds) Q → wpAny (model c.prog c.w) A (spliced (backTo pos (starEach es env))) Q E s
/-- an operation on values -/
noncomputable def Op2 (c : Cx) (t : Value → Value → Sem Value) (a b d : Dat) : Prop :=
  ∀ K s A E Q v w, c.G s.heap → Kn s.heap K → Room 0 A → DatIn K v a → DatIn K w b → Ret K s (fun v K' => DatIn K' v d) Q → wpAny (model c.prog c.w) A (t v w) Q E s
noncomputable def Op1 (c : Cx) (t : Value → Sem Value) (a d : Dat) : Prop :=
  ∀ K s A E Q v, c.G s.heap → Kn s.heap K → Room 0 A → DatIn K v a → Ret K s (fun v K' => DatIn K' v d) Q → wpAny (model c.prog c.w) A (t v) Q E s
noncomputable def OpT (c : Cx) (a : Dat) (b : Bool) : Prop :=
  ∀ K s A E Q v, c.G s.heap → Kn s.heap K → Room 0 A → DatIn K v a → Ret K s (fun v _ => v = b) Q → wpAny (model c.prog c.w) A (truthy v) Q E s
noncomputable def OpC (c : Cx) (f : Value) (k : Nat) (ds : List Dat) (d : Dat) : Prop :=
  ∀ K s A E Q vs, c.G s.heap → Kn s.heap K → (∀ p ∈ c.Kc, p ∈ K) → Room k A → DatAll K vs ds → Ret K s (fun v K' => DatIn K' v d) Q → wpAny (model c.prog c.w) A (call f vs) Q E s
structure Sc (env : Env) (ns gs : List Str) : Prop where
  kind : env.scope.kind = .function
  loc : ∀ x ∈ ns, env.kindOf x = some .local
  glo : ∀ x ∈ gs, env.kindOf x = some .globalImplicit
  dbg : ∀ x ∈ ns ++ gs, (x == ("__debug__" : Str)) = false
  nodup : ns.Nodup
  gl : env.globals = mainGlobals
  bi : env.builtins = builtinsNs
  int : interactive env = false
noncomputable def Glob (c : Cx) (x : Str) (v : Value) : Prop := ∀ h, c.G h → ∃ mg mb, h.Ns mainGlobals mg ∧ h.Ns builtinsNs mb ∧ (mg x = some v ∨ (mg x = none ∧ mb x = some v))
section
variable {c : Cx} {k : Nat} {env : Env} {ns gs : List Str} {ρ : List (Option Dat)} {o : Own} {pos : Pos}
theorem EV.name {x : Str} {d : Dat} (S : Sc env ns gs) (i : Nat) (h1 : ns[i]? = some x) (h2 : ρ[i]? = some (some d)) : EV c k env ns ρ o (.Name x pos) d := by
  intro h₀ K₀ K s A E Q st rm r
  obtain ⟨m, hn, hl, _⟩ := st.loc
  obtain ⟨v, e1, e2⟩ := hl i x d h1 h2
  have hx := List.mem_of_getElem? h1
  exact wpAny_Name (wpAny_loadName_local S.kind (S.loc x hx) hn e1 (r.here' st.kn e2)) (S.dbg x (List.mem_append_left _ hx))
theorem EV.global {x : Str} {v : Value} {Q : Value → Shared → Prop} {A : Around} {E : Value → Shared → Prop} {s : Shared} {M : Model} (S : Sc env ns gs) (hx : x ∈ gs) (g : c.G s.heap) (G : Glob c x v) (h : Q v s) : wpAny M A (eval (.Name x pos) env) Q E s := by
  obtain ⟨mg, mb, n1, n2, e⟩ := G _ g
  rcases e with e | ⟨e1, e2⟩
  · exact Calls.Name_function_global S.kind (S.glo x hx) (Calls.loadGlobal_global (S.gl ▸ n1) e h) (S.dbg x (List.mem_append_right _ hx))
  · exact Calls.Name_function_global S.kind (S.glo x hx) (Calls.loadGlobal_builtin (S.gl ▸ n1) e1 (S.bi ▸ n2) e2 h) (S.dbg x (List.mem_append_right _ hx))
theorem EV.cInt {i : Int} {u : Nat} : EV c k env ns ρ o (.Constant (.int i) u pos) (.int i) := by
  intro h₀ K₀ K s A E Q st rm r
  exact wpAny_Constant_int (r.here st.kn (.int i s.toks))
theorem EV.cStr {x : Str} {u : Nat} : EV c k env ns ρ o (.Constant (.str x) u pos) (.str x) := by
  intro h₀ K₀ K s A E Q st rm r
  exact wpAny_Constant_str (r.here st.kn (.str x s.toks))
theorem EV.cNone {u : Nat} : EV c k env ns ρ o (.Constant .none u pos) .none := by
  intro h₀ K₀ K s A E Q st rm r
  exact wpAny_Constant_none (r.here' st.kn .none)
theorem EV.cBool {b : Bool} {u : Nat} : EV c k env ns ρ o (.Constant (.bool b) u pos) (.bool b) := by
  intro h₀ K₀ K s A E Q st rm r
  exact wpAny_Constant_bool (r.here' st.kn (.bool b))
theorem EV.bin {l rr : Expr} {op : Operator} {a b d : Dat} (ha : EV c k env ns ρ o l a) (hb : EV c k env ns ρ o rr b) (hop : Op2 c (binaryOp op) a b d) : EV c k env ns ρ o (.BinOp l op rr pos) d := by
  intro h₀ K₀ K s A E Q st rm r
  refine wpAny_BinOp (ha _ _ _ _ _ _ _ st rm fun v K1 h1 t1 dv x1 kn1 s1 => ?_)
  have st1 := st.step x1 kn1 s1
  refine hb _ _ _ _ _ _ _ st1 rm fun w K2 h2 t2 dw x2 kn2 s2 => ?_
  exact hop _ _ _ _ _ _ _ (c.mono s2 st1.g) kn2 (rm.le (Nat.zero_le _)) (DatIn.ext dv x2) dw ((r.step x1 s1).step x2 s2)
theorem EV.cmp {l rr : Expr} {op : CmpOp} {a b d : Dat} (ha : EV c k env ns ρ o l a) (hb : EV c k env ns ρ o rr b) (hop : Op2 c (compareOp op) a b d)
    (hm : behindInMarks op rr = false := by with_unfolding_all rfl) : EV c k env ns ρ o (.Compare l [op] [rr] pos) d := by
  intro h₀ K₀ K s A E Q st rm r
  refine wpAny_Compare1 (ha _ _ _ _ _ _ _ st rm fun v K1 h1 t1 dv x1 kn1 s1 => ?_) hm
  have st1 := st.step x1 kn1 s1
  refine hb _ _ _ _ _ _ _ st1 rm fun w K2 h2 t2 dw x2 kn2 s2 => ?_
  exact hop _ _ _ _ _ _ _ (c.mono s2 st1.g) kn2 (rm.le (Nat.zero_le _)) (DatIn.ext dv x2) dw ((r.step x1 s1).step x2 s2)
theorem TR.cmp {l rr : Expr} {op : CmpOp} {a b : Dat} {t : Bool} (ha : EV c k env ns ρ o l a) (hb : EV c k env ns ρ o rr b) (hop : Op2 c (compareOp op) a b (.bool t))
    (hm : behindInMarks op rr = false := by with_unfolding_all rfl) : TR c k env ns ρ o (.Compare l [op] [rr] pos) t := by
  intro h₀ K₀ K s A E Q st rm r
  refine wpAny_isTrue_Compare1 (ha _ _ _ _ _ _ _ st rm fun v K1 h1 t1 dv x1 kn1 s1 => ?_) hm
  have st1 := st.step x1 kn1 s1
  refine hb _ _ _ _ _ _ _ st1 rm fun w K2 h2 t2 dw x2 kn2 s2 => ?_
  refine hop _ _ _ _ _ _ _ (c.mono s2 st1.g) kn2 (rm.le (Nat.zero_le _)) (DatIn.ext dv x2) dw fun y K3 h3 t3 dy x3 kn3 s3 => ?_
  cases dy
  exact wpAny_truthy_bool (((r.step x1 s1).step x2 s2) _ K3 h3 t3 rfl x3 kn3 s3)
theorem TR.of {e : Expr} {d : Dat} {t : Bool} (he : EV c k env ns ρ o e d) (ht : OpT c d t)
    (hp : plainT e = true := by with_unfolding_all rfl) : TR c k env ns ρ o e t := by
  intro h₀ K₀ K s A E Q st rm r
  refine wpAny_isTrue_value (he _ _ _ _ _ _ _ st rm fun v K1 h1 t1 dv x1 kn1 s1 => ?_) (true_plain hp)
  have st1 := st.step x1 kn1 s1
  exact ht _ _ _ _ _ _ st1.g kn1 (rm.le (Nat.zero_le _)) dv (r.step x1 s1)
theorem OpT.bool {b : Bool} : OpT c (.bool b) b := by
  intro K s A E Q v g kn rm dv r
  cases dv
  exact wpAny_truthy_bool (r.here' kn rfl)
theorem TR.not {x : Expr} {t : Bool} (h : TR c k env ns ρ o x t) : TR c k env ns ρ o (.UnaryOp .Not x pos) (!t) := by
  intro h₀ K₀ K s A E Q st rm r
  exact wpAny_isTrue_Not (h _ _ _ _ _ _ _ st rm fun b K1 h1 t1 e x1 kn1 s1 => by subst e; exact r _ _ _ _ rfl x1 kn1 s1)
theorem TR.and2 {x y : Expr} {a b : Bool} (hx : TR c k env ns ρ o x a) (hy : a = true → TR c k env ns ρ o y b) : TR c k env ns ρ o (.BoolOp .And [x, y] pos) (a && b) := by
  intro h₀ K₀ K s A E Q st rm r
  refine isTrue_and (hx _ _ _ _ _ _ _ st rm fun t K1 h1 t1 e x1 kn1 s1 => ?_)
  cases t with
  | false => subst e; exact r _ _ _ _ rfl x1 kn1 s1
  | true =>
    subst e
    refine isTrue_and (hy rfl _ _ _ _ _ _ _ (st.step x1 kn1 s1) rm fun t K2 h2 t2 e x2 kn2 s2 => ?_)
    cases t with
    | false => subst e; exact (r.step x1 s1) _ _ _ _ rfl x2 kn2 s2
    | true => subst e; exact isTrue_and_nil ((r.step x1 s1) _ _ _ _ rfl x2 kn2 s2)
theorem TR.and3 {x y z : Expr} {a b d : Bool} (hx : TR c k env ns ρ o x a) (hy : a = true → TR c k env ns ρ o y b) (hz : a = true → b = true → TR c k env ns ρ o z d) : TR c k env ns ρ o (.BoolOp .And [x, y, z] pos) (a && (b && d)) := by
  intro h₀ K₀ K s A E Q st rm r
  refine isTrue_and (hx _ _ _ _ _ _ _ st rm fun t K1 h1 t1 e x1 kn1 s1 => ?_)
  cases t with
  | false => subst e; exact r _ _ _ _ rfl x1 kn1 s1
  | true =>
    subst e
    refine isTrue_and (hy rfl _ _ _ _ _ _ _ (st.step x1 kn1 s1) rm fun t K2 h2 t2 e x2 kn2 s2 => ?_)
    cases t with
    | false => subst e; exact (r.step x1 s1) _ _ _ _ rfl x2 kn2 s2
    | true =>
      subst e
      refine isTrue_and (hz rfl rfl _ _ _ _ _ _ _ ((st.step x1 kn1 s1).step x2 kn2 s2) rm fun t K3 h3 t3 e x3 kn3 s3 => ?_)
      cases t with
      | false => subst e; exact ((r.step x1 s1).step x2 s2) _ _ _ _ rfl x3 kn3 s3
      | true => subst e; exact isTrue_and_nil (((r.step x1 s1).step x2 s2) _ _ _ _ rfl x3 kn3 s3)
theorem TR.or2 {x y : Expr} {a b : Bool} (hx : TR c k env ns ρ o x a) (hy : a = false → TR c k env ns ρ o y b) : TR c k env ns ρ o (.BoolOp .Or [x, y] pos) (a || b) := by
  intro h₀ K₀ K s A E Q st rm r
  refine isTrue_or (hx _ _ _ _ _ _ _ st rm fun t K1 h1 t1 e x1 kn1 s1 => ?_)
  cases t with
  | true => subst e; exact r _ _ _ _ rfl x1 kn1 s1
  | false =>
    subst e
    refine isTrue_or (hy rfl _ _ _ _ _ _ _ (st.step x1 kn1 s1) rm fun t K2 h2 t2 e x2 kn2 s2 => ?_)
    cases t with
    | true => subst e; exact (r.step x1 s1) _ _ _ _ rfl x2 kn2 s2
    | false => subst e; exact isTrue_or_nil ((r.step x1 s1) _ _ _ _ rfl x2 kn2 s2)
theorem TR.or4 {x y z u : Expr} {a b d f : Bool} (hx : TR c k env ns ρ o x a) (hy : a = false → TR c k env ns ρ o y b) (hz : a = false → b = false → TR c k env ns ρ o z d)
    (hu : a = false → b = false → d = false → TR c k env ns ρ o u f) : TR c k env ns ρ o (.BoolOp .Or [x, y, z, u] pos) (a || (b || (d || f))) := by
  intro h₀ K₀ K s A E Q st rm r
  refine isTrue_or (hx _ _ _ _ _ _ _ st rm fun t K1 h1 t1 e x1 kn1 s1 => ?_)
  cases t with
  | true => subst e; exact r _ _ _ _ rfl x1 kn1 s1
  | false =>
    subst e
    refine isTrue_or (hy rfl _ _ _ _ _ _ _ (st.step x1 kn1 s1) rm fun t K2 h2 t2 e x2 kn2 s2 => ?_)
    cases t with
    | true => subst e; exact (r.step x1 s1) _ _ _ _ rfl x2 kn2 s2
    | false =>
      subst e
      refine isTrue_or (hz rfl rfl _ _ _ _ _ _ _ ((st.step x1 kn1 s1).step x2 kn2 s2) rm fun t K3 h3 t3 e x3 kn3 s3 => ?_)
      cases t with
      | true => subst e; exact ((r.step x1 s1).step x2 s2) _ _ _ _ rfl x3 kn3 s3
      | false =>
        subst e
        refine isTrue_or (hu rfl rfl rfl _ _ _ _ _ _ _ (((st.step x1 kn1 s1).step x2 kn2 s2).step x3 kn3 s3) rm fun t K4 h4 t4 e x4 kn4 s4 => ?_)
        cases t with
        | true => subst e; exact (((r.step x1 s1).step x2 s2).step x3 s3) _ _ _ _ rfl x4 kn4 s4
        | false => subst e; exact isTrue_or_nil ((((r.step x1 s1).step x2 s2).step x3 s3) _ _ _ _ rfl x4 kn4 s4)
theorem EV.ite {t x y : Expr} {b : Bool} {d : Dat} (ht : TR c k env ns ρ o t b) (hx : b = true → EV c k env ns ρ o x d) (hy : b = false → EV c k env ns ρ o y d) : EV c k env ns ρ o (.IfExp t x y pos) d := by
  intro h₀ K₀ K s A E Q st rm r
  refine wpAny_IfExp (ht _ _ _ _ _ _ _ st rm fun v K1 h1 t1 e x1 kn1 s1 => ?_)
  subst e
  cases v with
  | true => exact hx rfl _ _ _ _ _ _ _ (st.step x1 kn1 s1) rm (r.step x1 s1)
  | false => exact hy rfl _ _ _ _ _ _ _ (st.step x1 kn1 s1) rm (r.step x1 s1)
theorem EVs.nil : EVs c k env ns ρ o [] [] := by
  intro h₀ K₀ K s A E Q pos st rm r
  exact spliced_none (r.here' st.kn .nil)
theorem EVs.cons {e : Expr} {es : List Expr} {d : Dat} {ds : List Dat} (he : EV c k env ns ρ o e d) (hs : EVs c k env ns ρ o es ds)
    (hst : isStar e = false := by with_unfolding_all rfl) : EVs c k env ns ρ o (e :: es) (d :: ds) := by
  intro h₀ K₀ K s A E Q pos st rm r
  refine spliced_more (he _ _ _ _ _ _ _ st rm fun v K1 h1 t1 dv x1 kn1 s1 => ?_) (star_cons hst)
  exact hs _ _ _ _ _ _ _ _ (st.step x1 kn1 s1) rm fun vs K2 h2 t2 dvs x2 kn2 s2 => (r.step x1 s1) _ _ _ _ (.cons (DatIn.ext dv x2) dvs) x2 kn2 s2
end
end
section
noncomputable abbrev sS (l : List Nat) : Str := ⟨l.toArray⟩
noncomputable abbrev sD (l : List Nat) : Dat := .str ⟨l.toArray⟩
noncomputable abbrev bD (l : List UInt8) : Dat := .bytes l.toArray
theorem size_none (h : Heap) : h.get? h.objs.size = none := by
  cases q : h.get? h.objs.size with
  | none => rfl
  | some o => exact absurd (Heap.lt_size q) (Nat.lt_irrefl _)
theorem KExt.push (h : Heap) (K : Led) (o : Obj) : KExt h K ((h.objs.size, o) :: K) :=
  ⟨fun _ x => .tail _ x, fun p hp => by
    rcases List.mem_cons.mp hp with rfl | hp
    · exact .inr (size_none h)
    · exact .inl hp⟩
theorem stays_push (h : Heap) (o : Obj) : Stays h (h.push o) := fun _ _ e => Heap.get?_push_of_some _ e
theorem Kn.push {h : Heap} {K : Led} (k : Kn h K) (o : Obj) (hf : o.isFreed = false := by rfl) : Kn (h.push o) ((h.objs.size, o) :: K) := fun p hp => by
  rcases List.mem_cons.mp hp with rfl | hp
  · exact Heap.get?_push_size _ hf
  · exact stays_push h o _ _ (k p hp)
theorem Kn.push' {h : Heap} {K : Led} (k : Kn h K) (o : Obj) : Kn (h.push o) K := k.mono (stays_push h o)
theorem Ret.push {α : Type} {K : Led} {s : Shared} {R : α → Led → Prop} {Q : α → Shared → Prop} (r : Ret K s R Q) (kn : Kn s.heap K) {v : α} {o : Obj} (hv : R v ((s.heap.objs.size, o) :: K)) (hf : o.isFreed = false := by rfl) {tk : Nat} : Q v { s with heap := s.heap.push o, toks := tk } :=
  r v _ _ tk hv (.push ..) (kn.push o hf) (stays_push _ _)
theorem Ret.push' {α : Type} {K : Led} {s : Shared} {R : α → Led → Prop} {Q : α → Shared → Prop} (r : Ret K s R Q) (kn : Kn s.heap K) {v : α} {o : Obj} (hv : R v ((s.heap.objs.size, o) :: K)) (hf : o.isFreed = false := by rfl) : Q v { s with heap := s.heap.push o } :=
  r v _ _ s.toks hv (.push ..) (kn.push o hf) (stays_push _ _)
section
variable {c : Cx}
theorem addI {a b : Int} : Op2 c (binaryOp .Add) (.int a) (.int b) (.int (a + b)) := by
  intro K s A E Q v w g kn rm da db r
  cases da; cases db
  exact add_int (r.here kn (.int _ _))
theorem subI {a b : Int} : Op2 c (binaryOp .Sub) (.int a) (.int b) (.int (a - b)) := by
  intro K s A E Q v w g kn rm da db r
  cases da; cases db
  exact sub_int (r.here kn (.int _ _))
theorem mulI {a b : Int} (hm : IntMulOk a b) : Op2 c (binaryOp .Mult) (.int a) (.int b) (.int (a * b)) := by
  intro K s A E Q v w g kn rm da db r
  cases da; cases db
  exact mul_int (hm := hm) (r.here kn (.int _ _))
theorem fdivI {a b : Int} (hb : b ≠ 0) (hs : b.natAbs < 1073741824) : Op2 c (binaryOp .FloorDiv) (.int a) (.int b) (.int (a.fdiv b)) := by
  intro K s A E Q v w g kn rm da db r
  cases da; cases db
  exact floordiv_int hb (r.here kn (.int _ _)) (.inl (PyProof.noPylong_small hs))
theorem fmodI {a b : Int} (hb : b ≠ 0) : Op2 c (binaryOp .Mod) (.int a) (.int b) (.int (a.fmod b)) := by
  intro K s A E Q v w g kn rm da db r
  cases da; cases db
  exact mod_int hb (r.here kn (.int _ _))
theorem ltI {a b : Int} : Op2 c (compareOp .Lt) (.int a) (.int b) (.bool (decide (a < b))) := by
  intro K s A E Q v w g kn rm da db r
  cases da; cases db
  exact lt_int (r.here' kn (.bool _))
theorem leI {a b : Int} : Op2 c (compareOp .LtE) (.int a) (.int b) (.bool (decide (a ≤ b))) := by
  intro K s A E Q v w g kn rm da db r
  cases da; cases db
  exact le_int (r.here' kn (.bool _))
theorem gtI {a b : Int} : Op2 c (compareOp .Gt) (.int a) (.int b) (.bool (decide (b < a))) := by
  intro K s A E Q v w g kn rm da db r
  cases da; cases db
  exact gt_int (r.here' kn (.bool _))
theorem geI {a b : Int} : Op2 c (compareOp .GtE) (.int a) (.int b) (.bool (decide (b ≤ a))) := by
  intro K s A E Q v w g kn rm da db r
  cases da; cases db
  exact ge_int (r.here' kn (.bool _))
theorem eqI {a b : Int} : Op2 c (compareOp .Eq) (.int a) (.int b) (.bool (a == b)) := by
  intro K s A E Q v w g kn rm da db r
  cases da; cases db
  exact eq_int (r.here' kn (.bool _))
theorem neI {a b : Int} : Op2 c (compareOp .NotEq) (.int a) (.int b) (.bool (a != b)) := by
  intro K s A E Q v w g kn rm da db r
  cases da; cases db
  exact ne_int (r.here' kn (.bool _))
theorem sS_beq (a b : List Nat) : (sS a == sS b) = (a == b) := by
  rw [Bool.eq_iff_iff]; simp [sS]
theorem eqS {a b : List Nat} : Op2 c (compareOp .Eq) (sD a) (sD b) (.bool (a == b)) := by
  intro K s A E Q v w g kn rm da db r
  cases da; cases db
  refine eq_str (r.here' kn ?_)
  rw [sS_beq]; exact .bool _
theorem neS {a b : List Nat} : Op2 c (compareOp .NotEq) (sD a) (sD b) (.bool (a != b)) := by
  intro K s A E Q v w g kn rm da db r
  cases da; cases db
  refine ne_str (r.here' kn ?_)
  unfold bne; rw [sS_beq]; exact .bool _
theorem eqNS {b : List Nat} : Op2 c (compareOp .Eq) .none (sD b) (.bool false) := by
  intro K s A E Q v w g kn rm da db r
  cases da; cases db
  exact PySem.EqNone.eq_none_str (r.here' kn (.bool _))
theorem eqSN {b : List Nat} : Op2 c (compareOp .Eq) (sD b) .none (.bool false) := by
  intro K s A E Q v w g kn rm da db r
  cases da; cases db
  exact PySem.EqNone.eq_str_none (r.here' kn (.bool _))
theorem eqNN : Op2 c (compareOp .Eq) .none .none (.bool true) := by
  intro K s A E Q v w g kn rm da db r
  cases da; cases db
  exact PySem.EqNone.eq_none_none (r.here' kn (.bool _))
theorem leS {a b : List Nat} : Op2 c (compareOp .LtE) (sD a) (sD b) (.bool (!decide (b < a))) := by
  intro K s A E Q v w g kn rm da db r
  cases da; cases db
  exact PySem.P.le_str (r.here' kn (.bool _))
theorem eqB {a b : List UInt8} : Op2 c (compareOp .Eq) (bD a) (bD b) (.bool (a == b)) := by
  intro K s A E Q v w g kn rm da db r
  cases da; cases db
  exact PySem.W.eq_bytes (r.here' kn (.bool _))
theorem neB {a b : List UInt8} : Op2 c (compareOp .NotEq) (bD a) (bD b) (.bool (a != b)) := by
  intro K s A E Q v w g kn rm da db r
  cases da; cases db
  exact PySem.W.ne_bytes (r.here' kn (.bool _))
noncomputable def isN : Dat → Bool
  | .none => true
  | _ => false
theorem isNone {d : Dat} : Op2 c (compareOp .Is) d .none (.bool (isN d)) := by
  intro K s A E Q v w g kn rm da db r
  cases db
  cases da with
  | none => exact wpAny_is_self rfl (r.here' kn (.bool _))
  | _ => exact wpAny_is_other rfl (by intro x; cases x) (r.here' kn (.bool _))
theorem isNotNone {d : Dat} : Op2 c (compareOp .IsNot) d .none (.bool (!isN d)) := by
  intro K s A E Q v w g kn rm da db r
  cases db
  cases da with
  | none => exact wpAny_isNot_self rfl (r.here' kn (.bool _))
  | _ => exact wpAny_isNot_other rfl (by intro x; cases x) (r.here' kn (.bool _))
theorem addS {a b : List Nat} (hz : a.length + b.length ≤ 16777216) : Op2 c (binaryOp .Add) (sD a) (sD b) (sD (a ++ b)) := by
  intro K s A E Q v w g kn rm da db r
  cases da; cases db
  refine PyProof.Rows.add_str (fun t' tk => ?_) (by rw [sizeLine_eq]; simpa [Str.length] using hz)
  have e : sS a ++ sS b = sS (a ++ b) := by show Str.mk (a.toArray ++ b.toArray) = _; simp
  rw [e]; exact r.here kn (.str _ _)
theorem addB {a b : List UInt8} (hz : a.length + b.length ≤ 16777216) : Op2 c (binaryOp .Add) (bD a) (bD b) (bD (a ++ b)) := by
  intro K s A E Q v w g kn rm da db r
  cases da; cases db
  refine KBy.add_bytes (by simpa using hz) fun t' tk => ?_
  have e : a.toArray ++ b.toArray = (a ++ b).toArray := by simp
  rw [e]; exact r.here kn (.bytes _ _)
/-! in, not in, over flat data -/
noncomputable def deq : Dat → Dat → Bool
  | .none, .none => true
  | .int a, .int b => a == b
  | .str a, .str b => a == b
  | .bytes a, .bytes b => a.toList == b.toList
  | _, _ => false
noncomputable def dok : Dat → Dat → Bool
  | .none, .str _ => true
  | .str _, .none => true
  | .int _, .int _ => true
  | .str _, .str _ => true
  | .bytes _, .bytes _ => true
  | _, _ => false
noncomputable def veq : Value → Value → Bool
  | .int a _, .int b _ => a == b
  | .str a _, .str b _ => a == b
  | .bytes a _, .bytes b _ => a.toList == b.toList
  | _, _ => false
theorem eqAt_bytes {A : Around} {s : Shared} (a b : Array UInt8) (t u : Tok) : PySem.SeqAt.EqAt A s (.bytes a t) (.bytes b u) (a.toList == b.toList) := fun prog w E Q h => by
  unfold eqBool
  refine wpAny_holding ?_
  by_cases hab : (Value.bytes a t == Value.bytes b u) = true
  · refine wpAny_ite ?_
    rw [if_pos hab]
    have e : a = b := by have := eq_of_beq hab; injection this
    subst e
    refine wpAny_bind (wpAny_rule (wpAny_pure ?_))
    simpa using h
  · refine wpAny_ite ?_
    rw [if_neg hab]
    exact wpAny_bind (PySem.W.eq_bytes (wpAny_truthy_bool h))
theorem eqAt_of {A : Around} {s : Shared} {K : Led} {v w : Value} {a b : Dat} (ha : DatIn K v a) (hb : DatIn K w b) (hk : dok a b = true) : PySem.SeqAt.EqAt A s v w (veq v w) ∧ veq v w = deq a b := by
  cases ha with
  | none => cases hb with
    | str y u => exact ⟨PySem.SeqAt.EqAt.none_str _ _, rfl⟩
    | _ => cases hk
  | int x t => cases hb with
    | int y u => exact ⟨PySem.SeqAt.EqAt.int_int _ _ _ _, rfl⟩
    | _ => cases hk
  | str x t => cases hb with
    | none => exact ⟨PySem.SeqAt.EqAt.str_none _ _, rfl⟩
    | str y u => exact ⟨PySem.SeqAt.EqAt.str_str _ _ _ _, rfl⟩
    | _ => cases hk
  | bytes x t => cases hb with
    | bytes y u => exact ⟨eqAt_bytes _ _ _ _, rfl⟩
    | _ => cases hk
  | _ => cases hb <;> cases hk
theorem all_eqAt {A : Around} {s : Shared} {K : Led} {w : Value} {b : Dat} (hb : DatIn K w b) : ∀ {vs : List Value} {ds : List Dat}, DatAll K vs ds → (∀ d ∈ ds, dok d b = true) →
    (∀ y ∈ vs, PySem.SeqAt.EqAt A s y w (veq y w)) ∧ vs.any (fun y => veq y w) = ds.any (fun y => deq y b)
  | _, _, .nil, _ => ⟨fun _ h => (nomatch h), rfl⟩
  | _, _, .cons h r, hk => by
    obtain ⟨e1, e2⟩ := eqAt_of (A := A) (s := s) h hb (hk _ (.head _))
    obtain ⟨q1, q2⟩ := all_eqAt hb r fun d hd => hk d (.tail _ hd)
    refine ⟨fun y hy => ?_, by rw [List.any_cons, List.any_cons, e2, q2]⟩
    rcases List.mem_cons.mp hy with rfl | hy
    · exact e1
    · exact q1 y hy
theorem inTup {d : Dat} {ds : List Dat} (hk : ∀ y ∈ ds, dok y d = true) : Op2 c (compareOp .In) d (.tuple ds) (.bool (ds.any fun y => deq y d)) := by
  intro K s A E Q v w g kn rm da db r
  cases db with
  | tuple hm hal =>
    obtain ⟨q1, q2⟩ := all_eqAt (A := A.in1) (s := s) da hal hk
    refine PySem.SeqAt.in_tupleAt (fun y => veq y v) ⟨_, kn _ hm, rfl, _, rfl⟩ (fun y hy => q1 y (by simpa using hy)) (r.here' kn ?_)
    rw [List.any_toArray, q2]; exact .bool _
theorem notInTup {d : Dat} {ds : List Dat} (hk : ∀ y ∈ ds, dok y d = true) : Op2 c (compareOp .NotIn) d (.tuple ds) (.bool (!ds.any fun y => deq y d)) := by
  intro K s A E Q v w g kn rm da db r
  cases db with
  | tuple hm hal =>
    obtain ⟨q1, q2⟩ := all_eqAt (A := A.in1) (s := s) da hal hk
    refine PySem.SeqAt.notIn_tupleAt (fun y => veq y v) ⟨_, kn _ hm, rfl, _, rfl⟩ (fun y hy => q1 y (by simpa using hy)) (r.here' kn ?_)
    rw [List.any_toArray, q2]; exact .bool _
theorem inLst {d : Dat} {ds : List Dat} (hk : ∀ y ∈ ds, dok y d = true) : Op2 c (compareOp .In) d (.list ds) (.bool (ds.any fun y => deq y d)) := by
  intro K s A E Q v w g kn rm da db r
  cases db with
  | list hm hal =>
    obtain ⟨q1, q2⟩ := all_eqAt (A := A.in1) (s := s) da hal hk
    refine PySem.SeqAt.in_listAt (fun y => veq y v) ⟨_, kn _ hm, rfl, _, rfl⟩ (fun y hy => q1 y (by simpa using hy)) (r.here' kn ?_)
    rw [List.any_toArray, q2]; exact .bool _
end
end
section
theorem subd_eq (slice : Expr) (o i : Value) : ∃ ops, subscripted slice false o i = operate ops (getItem o i) := by
  unfold subscripted
  split
  · exact ⟨_, rfl⟩
  · contradiction
  · exact ⟨_, rfl⟩
theorem tail_item {prog : Program} {w : World} {A : Around} {E : Value → Shared → Prop} {s : Shared} {value slice : Expr} {o i : Value} {Q : Value → Shared → Prop} (h : ItemOn (model prog w) A E o i Q s) :
    wpAny (model prog w) A (subscriptTail value slice o i) Q E s := by
  obtain ⟨T, id, hl, hT, hg⟩ := h
  obtain ⟨ops, e⟩ := subd_eq slice o i
  exact tail_any hT hl hg e
noncomputable def ItemOp (c : Cx) (a b d : Dat) : Prop :=
  ∀ K s A E Q v w, c.G s.heap → Kn s.heap K → Room 0 A → DatIn K v a → DatIn K w b → Ret K s (fun v K' => DatIn K' v d) Q → ItemOn (model c.prog c.w) A E v w Q s
noncomputable def SliceOp (c : Cx) (a : Dat) (lo hi : Option Int) (d : Dat) : Prop :=
  ∀ K s A E Q v sl vl vu, c.G s.heap → Kn s.heap K → Room 0 A → DatIn K v a → s.heap.IsSliceOf sl vl vu .none → IsPart vl lo → IsPart vu hi →
    Ret K s (fun v K' => DatIn K' v d) Q → ItemOn (model c.prog c.w) A E v (.ref sl) Q s
noncomputable def EVp (c : Cx) (k : Nat) (env : Env) (ns : List Str) (ρ : List (Option Dat)) (o : Own) (e : Option Expr) (i : Option Int) : Prop :=
  ∀ h₀ K₀ K s A E Q, St c h₀ K₀ env ns ρ o K s.heap → Room k A → Ret K s (fun v _ => IsPart v i) Q → wpAny (model c.prog c.w) A (evalPart e env) Q E s
section
variable {c : Cx} {k : Nat} {env : Env} {ns gs : List Str} {ρ : List (Option Dat)} {o : Own} {pos p : Pos}
theorem EVp.no : EVp c k env ns ρ o none none := by
  intro h₀ K₀ K s A E Q st rm r
  rw [evalPart_none]
  exact wpAny_pure (r.here' st.kn .none)
theorem EVp.yes {e : Expr} {i : Int} (he : EV c k env ns ρ o e (.int i)) : EVp c k env ns ρ o (some e) (some i) := by
  intro h₀ K₀ K s A E Q st rm r
  rw [evalPart_some]
  refine he _ _ _ _ _ _ _ st rm fun v K1 h1 t1 dv x1 kn1 s1 => ?_
  cases dv
  exact r _ _ _ _ (.int _ _) x1 kn1 s1
theorem EV.sub {value slice : Expr} {a b d : Dat} (ha : EV c k env ns ρ o value a) (hb : EV c k env ns ρ o slice b) (hop : ItemOp c a b d) : EV c k env ns ρ o (.Subscript value slice pos) d := by
  intro h₀ K₀ K s A E Q st rm r
  refine Subscript_ (ha _ _ _ _ _ _ _ st rm fun v K1 h1 t1 dv x1 kn1 s1 => ?_)
  have st1 := st.step x1 kn1 s1
  refine hb _ _ _ _ _ _ _ st1 rm fun w K2 h2 t2 dw x2 kn2 s2 => ?_
  exact tail_item (hop _ _ _ _ _ _ _ (c.mono s2 st1.g) kn2 (rm.le (Nat.zero_le _)) (DatIn.ext dv x2) dw ((r.step x1 s1).step x2 s2))
theorem EV.slice {value : Expr} {lo hi : Option Expr} {a d : Dat} {i j : Option Int} (ha : EV c k env ns ρ o value a) (hl : EVp c k env ns ρ o lo i) (hh : EVp c k env ns ρ o hi j) (hop : SliceOp c a i j d) :
    EV c k env ns ρ o (.Subscript value (.Slice lo hi none p) pos) d := by
  intro h₀ K₀ K s A E Q st rm r
  refine Subscript_ (ha _ _ _ _ _ _ _ st rm fun v K1 h1 t1 dv x1 kn1 s1 => ?_)
  have st1 := st.step x1 kn1 s1
  refine wpAny_Slice (hl _ _ _ _ _ _ _ st1 rm fun vl K2 h2 t2 pl x2 kn2 s2 => ?_)
  have st2 := st1.step x2 kn2 s2
  refine hh _ _ _ _ _ _ _ st2 rm fun vu K3 h3 t3 pu x3 kn3 s3 => ?_
  have st3 := st2.step x3 kn3 s3
  rw [evalPart_none]
  refine wpAny_pure (tail_item (hop _ _ _ _ _ _ _ _ _ (c.mono (stays_push _ _) st3.g) (kn3.push' _) (rm.le (Nat.zero_le _)) (DatIn.ext (DatIn.ext dv x2) x3) (Heap.IsSliceOf.new _ _ _ _) pl pu ?_))
  exact (((r.step x1 s1).step x2 s2).step x3 s3).step (h₁ := h3.push _) (tk₁ := t3) (KExt.refl _ _) (stays_push _ _)
/-- an item of a str -/
theorem itemS {l : List Nat} {n : Nat} {x : Nat} (hx : l[n]? = some x) (hz : l.length ≤ 16777216) : ItemOp c (sD l) (.int n) (sD [x]) := by
  intro K s A E Q v w g kn rm da db r
  cases da; cases db
  have hn : n < l.length := (List.getElem?_eq_some_iff.mp hx).1
  refine ⟨"str", _, PyProof.Rows.slot_str_getitem.lookup, PySem.typeIs_str _ _ _, PyProof.Rows.getItem_str (c := x) ?_ ?_ (r.here kn (.str _ _))⟩
  · simp only [Bool.or_eq_false_iff, decide_eq_false_iff_not]; omega
  · have : seqIndex? (n : Int) (Str.length ⟨l.toArray⟩) = some n := by
      have h1 : ¬ ((n : Int) < 0) := by omega
      simp [seqIndex?, Str.length, h1, hn]
    rw [this]
    simpa using hx
theorem itemB {l : List UInt8} {n : Nat} {x : UInt8} (hx : l[n]? = some x) (hz : l.length ≤ 16777216) : ItemOp c (bD l) (.int n) (.int x.toNat) := by
  intro K s A E Q v w g kn rm da db r
  cases da; cases db
  have hn : n < l.length := (List.getElem?_eq_some_iff.mp hx).1
  refine ⟨"bytes", _, FB.slot_bytes_getitem.lookup, PySem.W.typeIs_bytes _ _ _, PySem.W.getItem_bytes (by omega) (by omega) (by omega) (r.here kn ?_)⟩
  have e : l.getD n 0 = x := by rw [List.getD_eq_getElem?_getD, hx]; rfl
  rw [show ((n : Int)).toNat = n by omega, e]
  exact .int _ _
theorem DatAll.get' {K : Led} {vs : List Value} {ds : List Dat} (h : DatAll K vs ds) {n : Nat} {d : Dat} (hd : ds[n]? = some d) : ∃ v, vs[n]? = some v ∧ DatIn K v d := by
  obtain ⟨h1, rfl⟩ := List.getElem?_eq_some_iff.mp hd
  exact DatAll.get h h1
theorem itemL {ds : List Dat} {n : Nat} {d : Dat} (hx : ds[n]? = some d) (hz : ds.length ≤ 16777216) : ItemOp c (.list ds) (.int n) d := by
  intro K s A E Q v w g kn rm da db r
  cases db
  cases da with
  | list hm hal =>
    have hn : n < ds.length := (List.getElem?_eq_some_iff.mp hx).1
    obtain ⟨v, hv, dv⟩ := DatAll.get' hal hx
    have hl : s.heap.IsList _ _ := ⟨_, kn _ hm, rfl, _, rfl⟩
    exact ⟨"list", _, PySem.list_getitem_lookup, hl.typeIs, wpAny_getItem_list hl (by omega) (by omega) (by simpa using hv) (r.here' kn dv)⟩
theorem itemT {ds : List Dat} {n : Nat} {d : Dat} (hx : ds[n]? = some d) (hz : ds.length ≤ 16777216) : ItemOp c (.tuple ds) (.int n) d := by
  intro K s A E Q v w g kn rm da db r
  cases db
  cases da with
  | tuple hm hal =>
    have hn : n < ds.length := (List.getElem?_eq_some_iff.mp hx).1
    obtain ⟨v, hv, dv⟩ := DatAll.get' hal hx
    have hln := DatAll.length hal
    have hl : PyProof.Rows.IsTup s.heap _ _ := ⟨_, kn _ hm, rfl, _, rfl⟩
    refine ⟨"tuple", _, PyProof.Rows.slot_tuple_getitem.lookup, hl.typeIs, PyProof.Rows.getItem_tuple (j := n) hl (by omega) (by omega) ?_ (by simpa using hv) (r.here' kn dv)⟩
    have h1 : ¬ ((n : Int) < 0) := by omega
    simp [seqIndex?, h1]
    omega
/-- slices with bounds not below nought -/
noncomputable def cutL {α : Type} (l : List α) (lo hi : Option Nat) : List α := (l.drop (lo.getD 0)).take (hi.getD l.length - lo.getD 0)
theorem clip_elim {α : Type} (l : List α) (lo : Option Nat) (hi : Option Nat) :
    (l.drop ((lo.map Int.ofNat).elim 0 (clipAt l.length))).take ((hi.map Int.ofNat).elim l.length (clipAt l.length) - (lo.map Int.ofNat).elim 0 (clipAt l.length)) = cutL l lo hi := by
  unfold cutL
  have cn : ∀ n : Nat, clipAt l.length (Int.ofNat n) = min n l.length := fun n => clipAt_nat l.length n
  cases lo with
  | none =>
    cases hi with
    | none => simp
    | some j => simp only [Option.map_none, Option.elim_none, Option.map_some, Option.elim_some, cn, Option.getD_none, Option.getD_some, List.drop_zero, Nat.sub_zero]
                rw [List.take_eq_take_iff]; omega
  | some i =>
    simp only [Option.map_some, Option.elim_some, cn, Option.getD_some]
    by_cases hi' : i ≤ l.length
    · rw [Nat.min_eq_left hi']
      cases hi with
      | none => simp
      | some j => simp only [Option.map_some, Option.elim_some, cn, Option.getD_some]
                  rw [List.take_eq_take_iff, List.length_drop]; omega
    · rw [Nat.min_eq_right (by omega), List.drop_length, List.drop_eq_nil_of_le (by omega)]; simp
theorem part_values {v : Value} {i : Option Int} (h : IsPart v i) : ∃ l : Option (Int × Tok), l.map (·.1) = i ∧ v = partValue l := by
  cases h with
  | none => exact ⟨none, rfl, rfl⟩
  | int i t => exact ⟨some (i, t), rfl, rfl⟩
theorem strIdx_eq (lo hi : Option Int) (n : Nat) : PySem.Builtin.Str.strSliceIndices lo hi 1 n = sliceRange (sliceBounds lo hi none n).1 (sliceBounds lo hi none n).2.1 1 := by
  cases lo <;> cases hi <;> rfl
theorem strPick (l : List Nat) (lo hi : Option Nat) :
    (PySem.Builtin.Str.strSliceIndices (lo.map Int.ofNat) (hi.map Int.ofNat) 1 l.length).filterMap (l.toArray[·]?) = cutL l lo hi := by
  rw [strIdx_eq, sliceBounds_plain]
  simp only [sliceRange_one, pick_run]
  exact clip_elim l lo hi
theorem cutL_len {α : Type} (l : List α) (lo hi : Option Nat) : (cutL l lo hi).length ≤ l.length := by
  unfold cutL; rw [List.length_take, List.length_drop]; omega
theorem cutS {l : List Nat} {lo hi : Option Nat} (hz : l.length ≤ 16777216) : SliceOp c (sD l) (lo.map Int.ofNat) (hi.map Int.ofNat) (sD (cutL l lo hi)) := by
  intro K s A E Q v sl vl vu g kn rm da hs pl pu r
  cases da with
  | str _ t =>
    obtain ⟨l', e1, rfl⟩ := part_values pl
    obtain ⟨u', e2, rfl⟩ := part_values pu
    refine ⟨"str", _, PySem.F.slot_str_getitem.lookup, PySem.typeIs_str _ _ _, PySem.wpAny_getItem_str_slice (l := l') (u := u') (st := none) hs rfl ?_⟩
    have e : slicePicked ⟨l.toArray⟩ l' u' none = PySem.Builtin.Str.strSliceIndices (lo.map Int.ofNat) (hi.map Int.ofNat) 1 l.length := by
      unfold slicePicked; rw [e1, e2]; simp [Str.length]
    have e4 := strPick l lo hi
    unfold sliceMade
    rw [e]
    by_cases hc : ((Option.map (fun x : Int × Tok => x.1) none).getD 1 == 1 && (PySem.Builtin.Str.strSliceIndices (lo.map Int.ofNat) (hi.map Int.ofNat) 1 l.length).length == Str.length ⟨l.toArray⟩) = true
    · rw [if_pos hc]
      have e5 : cutL l lo hi = l := by
        have hlen : (PySem.Builtin.Str.strSliceIndices (lo.map Int.ofNat) (hi.map Int.ofNat) 1 l.length).length = l.length := by
          have := (Bool.and_eq_true_iff.mp hc).2
          simpa [Str.length] using this
        rw [strIdx_eq, sliceBounds_plain] at hlen
        simp only [sliceRange_one, List.length_map, List.length_range] at hlen
        have hlo : (lo.map Int.ofNat).elim 0 (clipAt l.length) = 0 ∨ l.length = 0 := by
          have h2 : ∀ o : Option Nat, (o.map Int.ofNat).elim l.length (clipAt l.length) ≤ l.length := fun o => by
            cases o with
            | none => exact Nat.le_refl _
            | some j => show clipAt l.length (j : Int) ≤ _; rw [clipAt_nat]; exact Nat.min_le_right _ _
          have := h2 hi
          omega
        rw [← clip_elim l lo hi, hlen]
        rcases hlo with h | h
        · rw [h, List.drop_zero, List.take_length]
        · have : l = [] := List.eq_nil_of_length_eq_zero h
          subst this; simp
      rw [e5] at r
      exact r.here' kn (.str _ _)
    · rw [if_neg hc]
      refine ⟨?_, ?_⟩
      · rw [e4, sizeLine_eq]; simp only [Str.length, List.size_toArray]; have := cutL_len l lo hi; omega
      · rw [e4]; exact r.here kn (.str _ _)
theorem picked_cut (l : List UInt8) (lo hi : Option Nat) : KBy.picked l.toArray (lo.map Int.ofNat) (hi.map Int.ofNat) = (cutL l lo hi).toArray := by
  rw [KBc.picked_eq]
  simp only [List.size_toArray]
  rw [clip_elim]
theorem cutB {l : List UInt8} {lo hi : Option Nat} (hz : l.length ≤ 16777216) : SliceOp c (bD l) (lo.map Int.ofNat) (hi.map Int.ofNat) (bD (cutL l lo hi)) := by
  intro K s A E Q v sl vl vu g kn rm da hs pl pu r
  cases da with
  | bytes _ t =>
    refine ⟨"bytes", _, FB.slot_bytes_getitem.lookup, PySem.W.typeIs_bytes _ _ _, getItem_meets (PySem.W.typeIs_bytes _ _ _) (by decide) FB.slot_bytes_getitem FB.entry_bytes_getitem (FB.args_bytes_getitem_2 _ _) (KBc.meets_slice2 _ _ _ pl pu) ⟨hs, ?_, fun t' k => ?_⟩⟩
    · rw [picked_cut, sizeLine_eq]; simp only [List.size_toArray]; have := cutL_len l lo hi; omega
    · rw [picked_cut]; exact r.here kn (.bytes _ _)
theorem DatAll.drop {K : Led} : ∀ {vs : List Value} {ds : List Dat} (n : Nat), DatAll K vs ds → DatAll K (vs.drop n) (ds.drop n)
  | _, _, 0, h => h
  | _, _, _ + 1, .nil => .nil
  | _, _, n + 1, .cons _ r => DatAll.drop n r
theorem DatAll.take {K : Led} : ∀ {vs : List Value} {ds : List Dat} (n : Nat), DatAll K vs ds → DatAll K (vs.take n) (ds.take n)
  | _, _, 0, _ => .nil
  | _, _, _ + 1, .nil => .nil
  | _, _, n + 1, .cons h r => .cons h (DatAll.take n r)
theorem cutD {ds : List Dat} {lo hi : Option Nat} (hz : ds.length ≤ 16777216) : SliceOp c (.list ds) (lo.map Int.ofNat) (hi.map Int.ofNat) (.list (cutL ds lo hi)) := by
  intro K s A E Q v sl vl vu g kn rm da hs pl pu r
  cases da with
  | @list a vs n _ hm hal =>
    have hln := DatAll.length hal
    have hl : s.heap.IsList a vs.toArray := ⟨_, kn _ hm, rfl, _, rfl⟩
    refine ⟨"list", _, PySem.list_getitem_lookup, hl.typeIs, wpAny_getItem_list_slice hl hs pl pu .none (by simp) ?_ (by rw [sizeLine_eq]; simp; omega)⟩
    have e : slicePick vs.toArray (lo.map Int.ofNat) (hi.map Int.ofNat) none = (cutL vs lo hi).toArray := by
      unfold slicePick
      rw [sliceBounds_plain]
      simp only [sliceRange_one, pick_run, List.size_toArray]
      rw [clip_elim]
    rw [e]
    refine r.push' kn (.list (n := 0) (.head _) ?_)
    unfold cutL
    rw [hln]
    exact DatAll.ext (h := s.heap) (DatAll.take _ (DatAll.drop _ hal)) (KExt.push _ _ _)
end
end
section
section
variable {c : Cx} {k : Nat} {env : Env} {ns gs : List Str} {ρ : List (Option Dat)} {o : Own} {pos p : Pos}
theorem EV.tup {es : List Expr} {u : Nat} {ds : List Dat} (h : EVs c k env ns ρ o es ds) (hz : ds.length ≤ 16777216) : EV c k env ns ρ o (.Tuple es u pos) (.tuple ds) := by
  intro h₀ K₀ K s A E Q st rm r
  refine Tuple_ (h _ _ _ _ _ _ _ _ st rm fun vs K1 h1 t1 dv x1 kn1 s1 => ?_)
  have hl := DatAll.length dv
  refine wpAny_newObj_type ((r.step (h₁ := h1) (tk₁ := t1) x1 s1).push' kn1 (.tuple (n := 0) (.head _) (DatAll.ext (h := h1) dv (KExt.push _ _ _)))) ?_
  show vs.toArray.size ≤ sizeLine
  rw [List.size_toArray, sizeLine_eq]; omega
theorem EV.lst {es : List Expr} {ds : List Dat} (h : EVs c k env ns ρ o es ds) (hz : ds.length ≤ 16777216) : EV c k env ns ρ o (.List es pos) (.list ds) := by
  intro h₀ K₀ K s A E Q st rm r
  refine List_ (h _ _ _ _ _ _ _ _ st rm fun vs K1 h1 t1 dv x1 kn1 s1 => ?_)
  have hl := DatAll.length dv
  refine wpAny_newObj_type ((r.step (h₁ := h1) (tk₁ := t1) x1 s1).push' kn1 (.list (n := 0) (.head _) (DatAll.ext (h := h1) dv (KExt.push _ _ _)))) ?_
  show vs.toArray.size ≤ sizeLine
  rw [List.size_toArray, sizeLine_eq]; omega
theorem addT {a b : List Dat} (ha : a ≠ []) (hb : b ≠ []) (hz : a.length + b.length ≤ 16777216) : Op2 c (binaryOp .Add) (.tuple a) (.tuple b) (.tuple (a ++ b)) := by
  intro K s A E Q v w g kn rm da db r
  cases da with
  | @tuple ta va na _ ma Da =>
  cases db with
  | @tuple tb vb nb _ mb Db =>
    have la := DatAll.length Da
    have lb := DatAll.length Db
    have hva : ¬ va.toArray.isEmpty = true := fun e => ha (List.eq_nil_of_length_eq_zero (by rw [← la]; simpa using e))
    have hvb : ¬ vb.toArray.isEmpty = true := fun e => hb (List.eq_nil_of_length_eq_zero (by rw [← lb]; simpa using e))
    have e : va.toArray ++ vb.toArray = (va ++ vb).toArray := by simp
    refine concat_meets ⟨_, kn _ ma, rfl⟩ ⟨_, kn _ mb, rfl⟩ noFill_tuple_add seq_tuple_add PySem.F.slot_tuple_add PySem.F.entry_tuple_add (PySem.F.args_tuple_add_2 _ _)
      (tuple_addW2 ta tb va.toArray vb.toArray na nb none none #[] #[] hva hvb (by rw [List.size_toArray, List.size_toArray, sizeLine_eq]; omega)) ⟨kn _ ma, kn _ mb, ?_⟩
    rw [e]
    exact r.push' kn (.tuple (n := 0) (.head _) (DatAll.ext (h := s.heap) (DatAll.append Da Db) (KExt.push _ _ _)))
theorem addL {a b : List Dat} (hz : a.length + b.length ≤ 16777216) : Op2 c (binaryOp .Add) (.list a) (.list b) (.list (a ++ b)) := by
  intro K s A E Q v w g kn rm da db r
  cases da with
  | @list ta va na _ ma Da =>
  cases db with
  | @list tb vb nb _ mb Db =>
    have la := DatAll.length Da
    have lb := DatAll.length Db
    have e : va.toArray ++ vb.toArray = (va ++ vb).toArray := by simp
    refine concat_meets ⟨_, kn _ ma, rfl⟩ ⟨_, kn _ mb, rfl⟩ noFill_list_add seq_list_add PySem.F.slot_list_add PySem.F.entry_list_add (PySem.F.args_list_add_2 _ _)
      (list_addW ta tb va.toArray vb.toArray na nb none none #[] #[] (by rw [List.size_toArray, List.size_toArray, sizeLine_eq]; omega)) ⟨kn _ ma, kn _ mb, ?_⟩
    rw [e]
    exact r.push' kn (.list (n := 0) (.head _) (DatAll.ext (h := s.heap) (DatAll.append Da Db) (KExt.push _ _ _)))
/-! calls -/
theorem EV.callB {f : Str} {id : String} {e : Expr} {es : List Expr} {ds : List Dat} {d : Dat} {fp : Pos} (S : Sc env ns gs) (hf : f ∈ gs) (G : Glob c f (.builtin id)) (hs : EVs c k env ns ρ o (e :: es) ds)
    (hop : OpC c (.builtin id) 0 ds d)
    (hst : isStar e = false := by with_unfolding_all rfl) (hst2 : es.any isStar = false := by with_unfolding_all rfl) :
    EV c k env ns ρ o (.Call (.Name f fp) (e :: es) [] pos) d := by
  intro h₀ K₀ K s A E Q st rm r
  refine Call_ (EV.global S hf st.g G (PyProof.Rows.callWith_builtin1 (hs _ _ _ _ _ _ _ _ st rm fun vs K1 h1 t1 dv x1 kn1 s1 => ?_) (star_cons hst) (star_any hst2 _))) (call_name ..)
  exact hop _ _ _ _ _ _ (c.mono s1 st.g) kn1 (st.step x1 kn1 s1).base (rm.le (Nat.zero_le _)) dv (r.step x1 s1)
theorem EV.callTy {f : Str} {id : String} {e : Expr} {es : List Expr} {ds : List Dat} {d : Dat} {fp : Pos} (S : Sc env ns gs) (hf : f ∈ gs) (G : Glob c f (.type id)) (hs : EVs c k env ns ρ o (e :: es) ds)
    (hop : OpC c (.type id) 0 ds d)
    (hst : isStar e = false := by with_unfolding_all rfl) (hst2 : es.any isStar = false := by with_unfolding_all rfl) :
    EV c k env ns ρ o (.Call (.Name f fp) (e :: es) [] pos) d := by
  intro h₀ K₀ K s A E Q st rm r
  refine Call_ (EV.global S hf st.g G (PyProof.Rows.callWith_type1 (hs _ _ _ _ _ _ _ _ st rm fun vs K1 h1 t1 dv x1 kn1 s1 => ?_) (star_cons hst) (star_any hst2 _))) (call_name ..)
  exact hop _ _ _ _ _ _ (c.mono s1 st.g) kn1 (st.step x1 kn1 s1).base (rm.le (Nat.zero_le _)) dv (r.step x1 s1)
structure IsFn (c : Cx) (a : Addr) : Prop where
  at_ : ∀ h, c.G h → ∃ ob fd, h.get? a = some ob ∧ ob.data = .func fd
theorem EV.callF {f : Str} {a : Addr} {es : List Expr} {ds : List Dat} {d : Dat} {fp : Pos} (S : Sc env ns gs) (hf : f ∈ gs) (G : Glob c f (.ref a)) (hfn : IsFn c a) (hs : EVs c k env ns ρ o es ds)
    (hop : OpC c (.ref a) k ds d)
    (hst' : es.any isStar = false := by with_unfolding_all rfl) :
    EV c k env ns ρ o (.Call (.Name f fp) es [] pos) d := by
  intro h₀ K₀ K s A E Q st rm r
  refine Call_ (EV.global S hf st.g G ?_) (call_name ..)
  have hst : ∀ p, backTo p (starEach es env) = [] ∨ ∃ t rest, backTo p (starEach es env) = (false, t) :: rest := by
    intro p
    rw [star_back hst']
    cases es with
    | nil => exact .inl rfl
    | cons e es => exact .inr ⟨_, _, rfl⟩
  obtain ⟨ob, fd, e1, e2⟩ := hfn.at_ _ st.g
  refine callWith_function (o := ob) (fd := fd) ?_
  have key := hs _ _ _ _ A E (fun vs s₁ => (s₁.heap.get? a = some ob ∧ ob.data = .func fd) ∧ wpAny (model c.prog c.w) A (call (.ref a) ([] ++ vs) []) Q E s₁) pos st rm (fun vs K1 h1 t1 dv x1 kn1 s1 =>
    ⟨⟨s1 _ _ e1, e2⟩, hop _ _ _ _ _ _ (c.mono s1 st.g) kn1 (st.step x1 kn1 s1).base rm dv (r.step x1 s1)⟩)
  rcases hst pos with h | ⟨t, rest, h⟩
  · rw [h] at key ⊢
    refine evalArgs_nil3 ?_
    have : wpAny (model c.prog c.w) A (spliced []) (fun vs s₁ => (s₁.heap.get? a = some ob ∧ ob.data = .func fd) ∧ wpAny (model c.prog c.w) A (call (.ref a) ([] ++ vs) []) Q E s₁) E s := key
    exact ⟨⟨e1, e2⟩, fun Γ p hΓ => (this Γ p hΓ).2 Γ p hΓ⟩
  · rw [h] at key ⊢
    exact evalArgs_plain key
/-! built-in functions -/
theorem lenS {l : List Nat} (hz : l.length ≤ 16777216) : OpC c (.builtin "len") 0 [sD l] (.int l.length) := by
  intro K s A E Q vs g kn kb rm dv r
  cases dv with
  | cons h t => cases t; cases h; exact PyProof.Rows.len_str (by simp [Str.length]; omega) (by have := r.here kn (v := .int l.length (s.toks + 1)) (.int _ _) (tk := s.toks + 1 + 1); simpa [Str.length] using this)
theorem lenB {l : List UInt8} (hz : l.length ≤ 16777216) : OpC c (.builtin "len") 0 [bD l] (.int l.length) := by
  intro K s A E Q vs g kn kb rm dv r
  cases dv with
  | cons h t => cases t; cases h; exact PySem.W.len_bytes (by simp; omega) (by have := r.here kn (v := .int l.length (s.toks + 1)) (.int _ _) (tk := s.toks + 1 + 1); simpa using this)
theorem lenL {l : List Dat} (hz : l.length ≤ 16777216) : OpC c (.builtin "len") 0 [.list l] (.int l.length) := by
  intro K s A E Q vs g kn kb rm dv r
  cases dv with
  | cons h t =>
    cases t
    cases h with
    | @list a vs n _ hm hal =>
      have hl : s.heap.IsList a vs.toArray := ⟨_, kn _ hm, rfl, _, rfl⟩
      have e := DatAll.length hal
      refine Calls.call_len_list hl (by simp; omega) ?_
      have := r.here kn (v := .int l.length (s.toks + 1)) (.int _ _) (tk := s.toks + 1 + 1)
      rw [List.size_toArray, e]; exact this
theorem chrI {n : Nat} (hn : n ≤ 1114111) : OpC c (.builtin "chr") 0 [.int n] (sD [n]) := by
  intro K s A E Q vs g kn kb rm dv r
  cases dv with
  | cons h t => cases t; cases h; exact PyProof.Rows.chr_of_range (by omega) (by omega) (r.here kn (.str _ _))
theorem ordS {n : Nat} : OpC c (.builtin "ord") 0 [sD [n]] (.int n) := by
  intro K s A E Q vs g kn kb rm dv r
  cases dv with
  | cons h t => cases t; cases h; exact PySem.P.ord_of_char (r.here kn (.int _ _))
theorem maxI {a b : Int} : OpC c (.builtin "max") 0 [.int a, .int b] (.int (max a b)) := by
  intro K s A E Q vs g kn kb rm dv r
  cases dv with
  | cons h t =>
    cases t with
    | cons h' t => cases t; cases h; cases h'; exact max_two_ints rm.hd fun h' tk hk => by
                    split
                    · rename_i hc; rw [show max a b = b by omega] at r; exact r _ K h' tk (.int _ _) (.refl ..) (kn.mono hk) hk
                    · rename_i hc; rw [show max a b = a by omega] at r; exact r _ K h' tk (.int _ _) (.refl ..) (kn.mono hk) hk
theorem bytesL {l : List UInt8} (hz : l.length ≤ 16777216) : OpC c (.type "bytes") 0 [.list (l.map fun b => .int b.toNat)] (bD l) := by
  intro K s A E Q vs g kn kb rm dv r
  cases dv with
  | cons h t =>
    cases t
    cases h with
    | @list a vs n _ hm hal =>
      have hl : s.heap.IsList a vs.toArray := ⟨_, kn _ hm, rfl, _, rfl⟩
      have e := DatAll.length hal
      have hi : ∀ (l : List UInt8) (vs : List Value), DatAll K vs (l.map fun b => Dat.int b.toNat) → IntsAre vs (l.map fun b => (b.toNat : Int)) := by
        intro l
        induction l with
        | nil => intro vs h; cases h; exact .nil
        | cons b l ih => intro vs h; cases h with
                         | cons h t => cases h; exact .cons _ _ (ih _ t)
      refine PySem.call_bytes_ints hl (hi l vs hal) (fun n hn => ?_) (by rw [sizeLine_eq, e]; simpa using hz) rm.hd fun h' t k hk => ?_
      · obtain ⟨b, _, rfl⟩ := List.mem_map.mp hn
        have := b.toNat_lt
        omega
      · have eb : PySem.byteArr (l.map fun b => (b.toNat : Int)) = l.toArray := by
          unfold PySem.byteArr
          simp [List.map_map, Function.comp_def]
        rw [eb]
        exact r _ K h' k (.bytes _ _) (.refl ..) (kn.mono hk) hk
/-! methods of str -/
theorem EV.meth {e : Expr} {name : Str} {id : String} {apos : Pos} {es : List Expr} {l : List Nat} {ds : List Dat} {d : Dat} (he : EV c k env ns ρ o e (sD l)) (hs : EVs c k env ns ρ o es ds)
    (slot : Slot "str" name id) (hty : typeOf (.builtin id) = pure (.type "method_descriptor")) (hop : OpC c (.builtin id) 0 (sD l :: ds) d)
    (hst' : es.any isStar = false := by with_unfolding_all rfl) (hb : plainB e = true := by with_unfolding_all rfl) (hl : es.length < 30 := by decide)
    (hline : (apos.endLine == pos.line) = true := by with_unfolding_all rfl) : EV c k env ns ρ o (.Call (.Attribute e name apos) es [] pos) d := by
  intro h₀ K₀ K s A E Q st rm r
  have hst : ∀ p, backTo p (starEach es env) = [] ∨ (∃ t rest, backTo p (starEach es env) = (false, t) :: rest ∧ rest.any (·.1) = false) := by
    intro p
    have q := star_any (env := env) hst' p
    rw [star_back hst'] at q ⊢
    cases es with
    | nil => exact .inl rfl
    | cons e es => exact .inr ⟨_, _, rfl, by rw [List.map_cons, List.any_cons, Bool.or_eq_false_iff] at q; exact q.2⟩
  refine wpAny_Call_method_lateS (base_plain hb) (star_few hst' hl) hline (he _ _ _ _ _ _ _ st rm fun v K1 h1 t1 dv x1 kn1 s1 => ?_)
  cases dv with
  | str _ t =>
    refine ⟨"str", id, PySem.F.plainAttrs_str, slot, hty, PySem.typeIs_str _ _ _, fun _ e => (nomatch e), ?_⟩
    have st1 := st.step x1 kn1 s1
    have key := hs _ _ _ { s with heap := h1, toks := t1 } A E (fun vs s₁ => wpAny (model c.prog c.w) A (call (.builtin id) ([Value.str ⟨l.toArray⟩ t] ++ vs)) Q E s₁) pos st1 rm (fun vs K2 h2 t2 dvs x2 kn2 s2 =>
      hop _ _ _ _ _ _ (c.mono s2 st1.g) kn2 (st1.step x2 kn2 s2).base (rm.le (Nat.zero_le _)) (.cons (.str _ _) dvs) ((r.step x1 s1).step x2 s2))
    rcases hst pos with h | ⟨t, rest, h, hp⟩
    · rw [h] at key ⊢
      refine callWith_builtin (by rfl) (evalArgs_nil3 ?_)
      exact fun Γ p hΓ => (key Γ p hΓ) Γ p hΓ
    · rw [h] at key ⊢
      exact callWith_builtin (by simpa using hp) (evalArgs_plain key)
noncomputable def sDs (ls : List (List Nat)) : List Dat := ls.map sD
theorem strs_of {K : Led} : ∀ {ls : List (List Nat)} {vs : List Value}, DatAll K vs (sDs ls) → StrsAre vs (ls.map sS)
  | [], _, h => by cases h; exact .nil
  | l :: ls, _, h => by
    cases h with
    | cons h r => cases h; exact .cons _ _ (strs_of r)
theorem joinE_eq (ls : List (List Nat)) : Txt.join ⟨#[]⟩ (ls.map sS) = sS ls.flatten := by
  rw [eq_of_beq (PyProof.Rows.join_plain_closes _ _)]
  induction ls with
  | nil => rfl
  | cons a r ih =>
    rw [List.map_cons, PyProof.Rows.join_nil_cons, ih, List.flatten_cons]
    show Str.mk (a.toArray ++ r.flatten.toArray) = _
    simp
theorem sum_len (ls : List (List Nat)) : ((ls.map sS).map (·.length)).sum = ls.flatten.length := by
  induction ls with
  | nil => rfl
  | cons a r ih => rw [List.map_cons, List.map_cons, List.sum_cons, ih, List.flatten_cons, List.length_append]; simp [Str.length]
theorem joinL {ls : List (List Nat)} (hz : ls.flatten.length ≤ 16777216) : OpC c (.builtin "str.join") 0 [sD [], .list (sDs ls)] (sD ls.flatten) := by
  intro K s A E Q vs g kn kb rm dv r
  cases dv with
  | cons h t =>
    cases t with
    | cons h' t =>
      cases t
      cases h with
      | str _ t0 =>
      cases h' with
      | @list a vs n _ hm hal =>
        have hl : s.heap.IsList a vs.toArray := ⟨_, kn _ hm, rfl, _, rfl⟩
        refine PyProof.Rows.join_list (x := ⟨#[]⟩) (ys := ls.map sS) hl (strs_of hal) ?_ fun t' k => ?_
        · rw [sum_len]; show _ + _ * 0 ≤ _; omega
        · rw [joinE_eq]; exact r.here kn (.str _ _)
theorem upper_eq {l : List Nat} (ha : ∀ x ∈ l, x < 128) : Txt.upper (sS l) = sS (l.map PyProof.Rows.up1) := by
  rw [PyProof.Rows.upper_ascii (x := sS l) ha]
  show Str.mk (l.toArray.map PyProof.Rows.up1) = _
  simp
theorem upperS {l : List Nat} (ha : ∀ x ∈ l, x < 128) (hz : l.length ≤ 5000000) : OpC c (.builtin "str.upper") 0 [sD l] (sD (l.map PyProof.Rows.up1)) := by
  intro K s A E Q vs g kn kb rm dv r
  cases dv with
  | cons h t =>
    cases t
    cases h with
    | str _ t0 =>
    refine SC.upper (x := sS l) ?_ ?_
    · rw [upper_eq ha]
      show decide ((l.map PyProof.Rows.up1).toArray.size > sizeLine) = false
      rw [sizeLine_eq, List.size_toArray, List.length_map]
      exact decide_eq_false (by omega)
    · rw [upper_eq ha]; exact r.here kn (.str _ _)
theorem EV.join {e x : Expr} {apos : Pos} {ls : List (List Nat)} (he : EV c k env ns ρ o e (sD [])) (hx : EV c k env ns ρ o x (.list (sDs ls))) (hz : ls.flatten.length ≤ 16777216)
    (hs : isStar x = false := by with_unfolding_all rfl) (hb : plainB e = true := by with_unfolding_all rfl) (hline : (apos.endLine == pos.line) = true := by with_unfolding_all rfl) :
    EV c k env ns ρ o (.Call (.Attribute e (Str.ofString "join") apos) [x] [] pos) (sD ls.flatten) :=
  EV.meth (id := "str.join") he (EVs.cons hx EVs.nil hs) PySem.F.slot_str_join PySem.F.type_str_join (joinL hz) (by simp [hs]) hb (by simp) hline
theorem EV.upper {e : Expr} {apos : Pos} {l : List Nat} (he : EV c k env ns ρ o e (sD l)) (ha : ∀ x ∈ l, x < 128) (hz : l.length ≤ 5000000)
    (hb : plainB e = true := by with_unfolding_all rfl) (hline : (apos.endLine == pos.line) = true := by with_unfolding_all rfl) :
    EV c k env ns ρ o (.Call (.Attribute e (Str.ofString "upper") apos) [] [] pos) (sD (l.map PyProof.Rows.up1)) :=
  EV.meth (id := "str.upper") he EVs.nil PySem.F.slot_str_upper PySem.F.type_str_upper (upperS ha hz) rfl hb (by simp) hline
end
end
section
noncomputable abbrev Env' := List (Option Dat)
noncomputable def FlowOk (c : Cx) (h₀ : Heap) (K₀ : Led) (env : Env) (ns : List Str) (Qn : Env' → Own → Prop) (Qr : Dat → Prop) (Qc : Env' → Own → Prop) (fl : Flow) (h' : Heap) : Prop :=
  match fl with
  | .next => ∃ ρ o K, St c h₀ K₀ env ns ρ o K h' ∧ Qn ρ o
  | .cont => ∃ ρ o K, St c h₀ K₀ env ns ρ o K h' ∧ Qc ρ o
  | .ret v => ∃ d K, DatIn K v d ∧ Qr d ∧ Kn h' K ∧ Stays h₀ h' ∧ KExt h₀ K₀ K
  | .brk => False
noncomputable def EX (c : Cx) (k : Nat) (env : Env) (ns : List Str) (ρ : Env') (o : Own) (ss : List Stmt) (Qn : Env' → Own → Prop) (Qr : Dat → Prop) (Qc : Env' → Own → Prop) : Prop :=
  ∀ h₀ K₀ K s A E Q, St c h₀ K₀ env ns ρ o K s.heap → Room k A →
    (∀ fl h' tk, FlowOk c h₀ K₀ env ns Qn Qr Qc fl h' → Q fl { s with heap := h', toks := tk }) → wpAny (model c.prog c.w) A (execs ss env) Q E s
noncomputable def EX1 (c : Cx) (k : Nat) (env : Env) (ns : List Str) (ρ : Env') (o : Own) (ss : Stmt) (Qn : Env' → Own → Prop) (Qr : Dat → Prop) (Qc : Env' → Own → Prop) : Prop :=
  ∀ h₀ K₀ K s A E Q, St c h₀ K₀ env ns ρ o K s.heap → Room k A →
    (∀ fl h' tk, FlowOk c h₀ K₀ env ns Qn Qr Qc fl h' → Q fl { s with heap := h', toks := tk }) → wpAny (model c.prog c.w) A (exec ss env) Q E s
section
variable {c : Cx} {k : Nat} {env : Env} {ns gs : List Str} {ρ : Env'} {o : Own} {pos p : Pos} {Qn Qc : Env' → Own → Prop} {Qr : Dat → Prop}
theorem EX.nil (h : Qn ρ o) : EX c k env ns ρ o [] Qn Qr Qc := by
  intro h₀ K₀ K s A E Q st rm r
  exact wpAny_execs_nil (r .next s.heap s.toks ⟨ρ, o, K, st, h⟩)
theorem EX.cons {st : Stmt} {ss : List Stmt} (h : EX1 c k env ns ρ o st (fun ρ' o' => EX c k env ns ρ' o' ss Qn Qr Qc) Qr Qc) : EX c k env ns ρ o (st :: ss) Qn Qr Qc := by
  intro h₀ K₀ K s A E Q st' rm r
  refine wpAny_execs_cons (h _ _ _ _ _ _ _ st' rm fun fl h' tk f => ?_)
  cases fl with
  | next =>
    obtain ⟨ρ', o', K', s1, f⟩ := f
    exact f _ _ _ { s with heap := h', toks := tk } _ _ _ s1 rm fun fl h'' tk' f' => r fl h'' tk' f'
  | cont => exact r .cont _ _ f
  | ret v => exact r (.ret v) _ _ f
  | brk => exact f.elim
theorem EX1.ret {e : Expr} {d : Dat} (he : EV c k env ns ρ o e d) (h : Qr d) : EX1 c k env ns ρ o (.Return (some e) pos) Qn Qr Qc := by
  intro h₀ K₀ K s A E Q st rm r
  refine wpAny_Return_some (he _ _ _ _ _ _ _ st rm fun v K1 h1 t1 dv x1 kn1 s1 => ?_)
  have st1 := st.step x1 kn1 s1
  exact r (.ret v) h1 t1 ⟨d, K1, dv, h, kn1, st1.keep, st1.ext⟩
theorem EX1.cont (h : Qc ρ o) : EX1 c k env ns ρ o (.Continue pos) Qn Qr Qc := by
  intro h₀ K₀ K s A E Q st rm r
  exact wpAny_Continue (r .cont s.heap s.toks ⟨ρ, o, K, st, h⟩)
theorem EX1.if_ {t : Expr} {b : Bool} {x y : List Stmt} (ht : TR c k env ns ρ o t b) (hx : b = true → EX c k env ns ρ o x Qn Qr Qc) (hy : b = false → EX c k env ns ρ o y Qn Qr Qc) :
    EX1 c k env ns ρ o (.If t x y pos) Qn Qr Qc := by
  intro h₀ K₀ K s A E Q st rm r
  refine wpAny_If (ht _ _ _ _ _ _ _ st rm fun v K1 h1 t1 e x1 kn1 s1 => ?_)
  subst e
  have st1 := st.step x1 kn1 s1
  cases v with
  | true => exact hx rfl _ _ _ { s with heap := h1, toks := t1 } _ _ _ st1 rm fun fl h'' tk' f' => r fl h'' tk' f'
  | false => exact hy rfl _ _ _ { s with heap := h1, toks := t1 } _ _ _ st1 rm fun fl h'' tk' f' => r fl h'' tk' f'
/-! stores -/
noncomputable def OwnFree (o : Option (Nat × Addr)) (i : Nat) : Prop := ∀ p, o = some p → p.1 ≠ i
theorem St.store {h₀ : Heap} {K₀ K : Led} {h h' : Heap} (S : Sc env ns gs) (st : St c h₀ K₀ env ns ρ o K h) {i : Nat} {x : Str} {v : Value} {d : Dat} (hi : ns[i]? = some x) (hf : OwnFree o.key i) (dv : DatIn K v d)
    (hn : ∀ m, h.Ns env.locals m → h'.Ns env.locals (fun y => if y = x then some v else m y)) (hs : Heap.SameBut env.locals h h') : St c h₀ K₀ env ns (ρ.set i (some d)) o K h' := by
  obtain ⟨m, n1, l1, o1⟩ := st.loc
  have nd : ∀ j y, ns[j]? = some y → j ≠ i → y ≠ x := by
    intro j y hj hne e
    subst e
    exact hne ((List.getElem?_inj (List.getElem?_eq_some_iff.mp hj).1 S.nodup).mp (hj.trans hi.symm))
  have keepK : ∀ p ∈ K, h'.get? p.1 = some p.2 := fun p hp => (hs.2 p.1 (st.off p hp)).trans (st.kn p hp)
  have sub : ∀ b ob, h₀.get? b = some ob → h'.get? b = some ob := fun b ob e => (hs.2 b (fun q => by rw [q, st.fr] at e; cases e)).trans (st.keep b ob e)
  refine ⟨⟨_, hn m n1, fun j y d' e1 e2 => ?_, ?_⟩, st.g0, sub, st.fr, keepK, st.off, st.ext, st.base⟩
  · by_cases hji : j = i
    · subst hji
      rw [hi] at e1; cases e1
      rw [List.getElem?_set] at e2
      simp only [if_true] at e2
      split at e2
      · cases e2; exact ⟨v, by simp, dv⟩
      · cases e2
    · rw [List.getElem?_set] at e2
      rw [if_neg (fun q => hji q.symm)] at e2
      obtain ⟨v', e3, e4⟩ := l1 j y d' e1 e2
      exact ⟨v', by simp [nd j y e1 hji, e3], e4⟩
  · cases o with
    | no => trivial
    | lst j a l =>
      obtain ⟨⟨y, e1, e2⟩, ⟨vs, n, e3, e4⟩, e5, e6, e7⟩ := o1
      have hne : j ≠ i := hf (j, a) rfl
      exact ⟨⟨y, e1, by simp [nd j y e1 hne, e2]⟩, ⟨vs, n, (hs.2 a e5).trans e3, e4⟩, e5, e6, e7⟩
    | dct j a l =>
      obtain ⟨⟨y, e1, e2⟩, ⟨es, n, e3, e4, e8⟩, e5, e6, e7⟩ := o1
      have hne : j ≠ i := hf (j, a) rfl
      exact ⟨⟨y, e1, by simp [nd j y e1 hne, e2]⟩, ⟨es, n, (hs.2 a e5).trans e3, e4, e8⟩, e5, e6, e7⟩
theorem St.locals {h₀ : Heap} {K₀ K : Led} {h : Heap} (st : St c h₀ K₀ env ns ρ o K h) : ∃ m, h.Ns env.locals m := let ⟨m, n, _⟩ := st.loc; ⟨m, n⟩
theorem Sc.np (S : Sc env ns gs) : (env.scope.kind == .class || (env.scope.kind == .module && env.locals != env.globals)) = false := by rw [S.kind]; rfl
/-- a target takes d -/
noncomputable def TG (c : Cx) (env : Env) (ns : List Str) (key : Option (Nat × Addr)) (t : Expr) (d : Dat) (f : Env' → Env') : Prop :=
  ∀ h₀ K₀ K ρ o s A E Q v, o.key = key → St c h₀ K₀ env ns ρ o K s.heap → Room 0 A → DatIn K v d →
    (∀ h' tk, St c h₀ K₀ env ns (f ρ) o K h' → (∀ b ob, b ≠ env.locals → s.heap.get? b = some ob → h'.get? b = some ob) → Q () { s with heap := h', toks := tk }) →
    wpAny (model c.prog c.w) A (assign t env v) Q E s
theorem ns_det {h : Heap} {a : Addr} {m m' : Str → Option Value} (x : h.Ns a m) (y : h.Ns a m') : m = m' := by
  obtain ⟨o1, es1, ep1, e1, e2, _, e3⟩ := x
  obtain ⟨o2, es2, ep2, q1, q2, _, q3⟩ := y
  rw [e1] at q1; cases q1
  rw [e2] at q2; cases q2
  funext y
  rw [← e3, ← q3]
theorem TG.name {x : Str} {d : Dat} (S : Sc env ns gs) {key : Option (Nat × Addr)} (i : Nat) (hi : ns[i]? = some x) (hf : OwnFree key i) : TG c env ns key (.Name x p) d (fun ρ => ρ.set i (some d)) := by
  intro h₀ K₀ K ρ o s A E Q v hk st rm dv r
  obtain ⟨m, n1⟩ := st.locals
  refine wpAny_assign_Name (wpAny_storeName_local (S.loc x (List.mem_of_getElem? hi)) n1 (fun h' hn hs => ?_) S.np)
  refine r h' _ (st.store S hi (by rw [hk]; exact hf) dv (fun m' n' => by rw [ns_det n' n1]; exact hn) hs) fun b ob hb e => (hs.2 b hb).trans e
theorem EX1.assign {x : Str} {e : Expr} {d : Dat} (S : Sc env ns gs) (i : Nat) (hi : ns[i]? = some x) (hf : OwnFree o.key i) (he : EV c k env ns ρ o e d) (h : Qn (ρ.set i (some d)) o)
    (hs : swapsWith e (some (.Name x p)) pos.line env = pure false := by with_unfolding_all rfl) : EX1 c k env ns ρ o (.Assign [.Name x p] e pos) Qn Qr Qc := by
  intro h₀ K₀ K s A E Q st rm r
  refine wpAny_Assign_Name (he _ _ _ _ _ _ _ st rm fun v K1 h1 t1 dv x1 kn1 s1 => ?_) hs
  have st1 := st.step x1 kn1 s1
  obtain ⟨m, n1⟩ := st1.locals
  refine wpAny_storeName_local (S.loc x (List.mem_of_getElem? hi)) n1 (fun h' hn hs => ?_) S.np
  exact r .next h' _ ⟨_, _, _, st1.store S hi hf dv (fun m' n' => by rw [ns_det n' n1]; exact hn) hs, h⟩
theorem EX1.aug {x : Str} {e : Expr} {a b d : Dat} {op : Operator} (S : Sc env ns gs) (i : Nat) (hi : ns[i]? = some x) (ha : ρ[i]? = some (some a)) (hf : OwnFree o.key i) (he : EV c k env ns ρ o e b) (hop : Op2 c (inplaceOp op) a b d)
    (h : Qn (ρ.set i (some d)) o) : EX1 c k env ns ρ o (.AugAssign (.Name x p) op e pos) Qn Qr Qc := by
  intro h₀ K₀ K s A E Q st rm r
  obtain ⟨m, n1, l1, _⟩ := st.loc
  obtain ⟨v, e1, dv⟩ := l1 i x a hi ha
  have hx := List.mem_of_getElem? hi
  refine wpAny_AugAssign_Name (wpAny_loadName_local S.kind (S.loc x hx) n1 e1 (he _ _ _ _ _ _ _ st rm fun w K1 h1 t1 dw x1 kn1 s1 => ?_))
  have st1 := st.step x1 kn1 s1
  refine hop _ _ _ _ _ _ _ st1.g kn1 (rm.le (Nat.zero_le _)) (DatIn.ext dv x1) dw fun y K2 h2 t2 dy x2 kn2 s2 => ?_
  have st2 := st1.step x2 kn2 s2
  obtain ⟨m2, n2⟩ := st2.locals
  refine wpAny_storeName_local (S.loc x hx) n2 (fun h' hn hs => ?_) S.np
  exact r .next h' _ ⟨_, _, _, st2.store S hi hf dy (fun m' n' => by rw [ns_det n' n2]; exact hn) hs, h⟩
theorem iaddI {a b : Int} : Op2 c (inplaceOp .Add) (.int a) (.int b) (.int (a + b)) := by
  intro K s A E Q v w g kn rm da db r
  cases da; cases db
  exact PyProof.Rows.iadd_int (r.here kn (.int _ _))
theorem isubI {a b : Int} : Op2 c (inplaceOp .Sub) (.int a) (.int b) (.int (a - b)) := by
  intro K s A E Q v w g kn rm da db r
  cases da; cases db
  exact PyProof.Rows.isub_int (r.here kn (.int _ _))
end
end
section
section
variable {c : Cx} {k : Nat} {env : Env} {ns gs : List Str} {ρ : Env'} {o : Own} {pos p : Pos} {Qn Qc : Env' → Own → Prop} {Qr : Dat → Prop}
/-! the frame's own things hidden -/
noncomputable def ownA (L : Addr) (o : Own) : List Addr := match o.key with
  | none => [L]
  | some q => [L, q.2]
theorem St.rebase {h₀ : Heap} {K₀ K : Led} {h : Heap} (st : St c h₀ K₀ env ns ρ o K h) :
    ∃ h₁, St c h₁ K env ns ρ o K h ∧ Stays h₀ h₁ ∧ (∀ b ob, h.get? b = some ob → b ∉ ownA env.locals o → h₁.get? b = some ob) := by
  have nown : ∀ b ob, h₀.get? b = some ob → b ∉ ownA env.locals o := by
    intro b ob e hb
    obtain ⟨m, _, _, ho⟩ := st.loc
    cases o with
    | no => simp [ownA, Own.key] at hb; rw [hb, st.fr] at e; cases e
    | lst j a l =>
      simp [ownA, Own.key] at hb
      rcases hb with hb | hb
      · rw [hb, st.fr] at e; cases e
      · obtain ⟨_, _, _, e6, _⟩ := ho; rw [hb, e6] at e; cases e
    | dct j a l =>
      simp [ownA, Own.key] at hb
      rcases hb with hb | hb
      · rw [hb, st.fr] at e; cases e
      · obtain ⟨_, _, _, e6, _⟩ := ho; rw [hb, e6] at e; cases e
  have up : Stays h₀ (hideAll h (ownA env.locals o)) := fun b ob e => hideAll_get _ (st.keep b ob e) (nown b ob e)
  refine ⟨hideAll h (ownA env.locals o), ⟨?_, c.mono up st.g0, fun b ob e => of_hideAll _ e, hideAll_none _ ?_, st.kn, st.off, .refl .., st.base⟩, up, fun b ob e hb => hideAll_get _ e hb⟩
  · obtain ⟨m, n1, l1, ho⟩ := st.loc
    refine ⟨m, n1, l1, ?_⟩
    cases o with
    | no => trivial
    | lst j a l =>
      obtain ⟨e1, e3, e5, e6, e7⟩ := ho
      exact ⟨e1, e3, e5, hideAll_none _ (by simp [ownA, Own.key]), e7⟩
    | dct j a l =>
      obtain ⟨e1, e3, e5, e6, e7⟩ := ho
      exact ⟨e1, e3, e5, hideAll_none _ (by simp [ownA, Own.key]), e7⟩
  · unfold ownA; cases o.key <;> simp
theorem St.back {h₀ h₁ : Heap} {K₀ K K' : Led} {h h' : Heap} {ρ' : Env'} {o' : Own} (st : St c h₀ K₀ env ns ρ o K h) (up : Stays h₀ h₁) (s : St c h₁ K env ns ρ' o' K' h') : St c h₀ K₀ env ns ρ' o' K' h' := by
  refine ⟨?_, st.g0, stays_trans up s.keep, st.fr, s.kn, s.off, st.ext.trans up s.ext, s.base⟩
  obtain ⟨m, n1, l1, ho⟩ := s.loc
  refine ⟨m, n1, l1, ?_⟩
  cases o' with
  | no => trivial
  | lst j a l => exact ⟨ho.1, ho.2.1, ho.2.2.1, stays_none up ho.2.2.2.1, ho.2.2.2.2⟩
  | dct j a l => exact ⟨ho.1, ho.2.1, ho.2.2.1, stays_none up ho.2.2.2.1, ho.2.2.2.2⟩
/-! while -/
theorem EX1.while_ {t : Expr} {body : List Stmt} (Inv : Nat → Env' → Own → Prop) (n : Nat) (h0 : Inv n ρ o)
    (turn : ∀ n ρ' o', Inv n ρ' o' → ∃ b, TR c k env ns ρ' o' t b ∧ (b = true → EX c k env ns ρ' o' body (fun ρ'' o'' => ∃ m, m < n ∧ Inv m ρ'' o'') Qr (fun ρ'' o'' => ∃ m, m < n ∧ Inv m ρ'' o'')) ∧ (b = false → Qn ρ' o')) :
    EX1 c k env ns ρ o (.While t body [] pos) Qn Qr Qc := by
  intro h₀ K₀ K s A E Q st rm r
  refine wpAny_While (codeAny_whileLoop (fun n s' => ∃ h' tk ρ' o' K', s' = { s with heap := h', toks := tk } ∧ St c h₀ K₀ env ns ρ' o' K' h' ∧ Inv n ρ' o') ?_ n ⟨s.heap, s.toks, ρ, o, K, rfl, st, h0⟩)
  rintro n s' ⟨h', tk, ρ', o', K', rfl, st', hi⟩
  obtain ⟨b, ht, hb, hf⟩ := turn n ρ' o' hi
  refine ht _ _ _ { s with heap := h', toks := tk } _ _ _ st' rm fun v K1 h1 t1 e x1 kn1 s1 => ?_
  subst e
  have st1 := st'.step x1 kn1 s1
  cases v with
  | false =>
    rw [if_neg Bool.false_ne_true]
    exact wpAny_execs_nil (r .next h1 t1 ⟨_, _, _, st1, hf rfl⟩)
  | true =>
    rw [if_pos rfl]
    refine hb rfl _ _ _ { s with heap := h1, toks := t1 } _ _ _ st1 rm fun fl h2 t2 f => ?_
    cases fl with
    | next => obtain ⟨ρ2, o2, K2, st2, m, hm, hI⟩ := f; exact ⟨m, hm, h2, t2, ρ2, o2, K2, rfl, st2, hI⟩
    | cont => obtain ⟨ρ2, o2, K2, st2, m, hm, hI⟩ := f; exact ⟨m, hm, h2, t2, ρ2, o2, K2, rfl, st2, hI⟩
    | ret v => exact r (.ret v) h2 t2 f
    | brk => exact f.elim
/-! for -/
noncomputable def NoUnpack (ob : Obj) : Prop := ∃ n, ob.cls = .type n ∧ n ∉ ["enumerate", "zip", "dict_itemiterator", "dict_reverseitemiterator", "odict_iterator", "itertools.zip_longest", "itertools.pairwise"]
noncomputable def IterOk (c : Cx) (u : Bool) (d : Dat) (items : List Dat) : Prop :=
  ∀ K s A E Q v, c.G s.heap → Kn s.heap K → Room 0 A → DatIn K v d →
    (∀ I fp P (W : Nat → Heap → Prop) h' tk, (∀ A' : Around, A'.handled = none → Walks c.prog c.w A' I fp [I] items.length P W) → W 0 h' → Stays s.heap h' → s.heap.get? I = none → (∀ b ∈ fp, b = I ∨ ∃ p ∈ K, p.1 = b) →
      (∀ i v, i < items.length → P i v → ∃ d, items[i]? = some d ∧ DatIn K v d) → (∀ i h, W i h → ∃ ob, h.get? I = some ob ∧ (u = true → NoUnpack ob)) → Q (.ref I) { s with heap := h', toks := tk }) →
    wpAny (model c.prog c.w) A (pyIter v) Q E s
theorem letOwned_no {prog : Program} {w : World} {A : Around} {E : Value → Shared → Prop} {s : Shared} {t : Expr} {I : Addr} {v : Value} {ob : Obj} {Q : Unit → Shared → Prop} (hI : s.heap.get? I = some ob) (hn : NoUnpack ob) (h : Q () s) :
    wpAny (model prog w) A (letOwnedTupleGo t (.ref I) v) Q E s := by
  obtain ⟨n, e, hn⟩ := hn
  unfold letOwnedTupleGo
  split
  · split
    · rename_i r a he
      cases he
      refine wpAny_bind (wpAny_load hI ?_)
      rw [e]
      split
      · rename_i n' vs hd _
        cases hd
        rw [if_neg (by simp only [Bool.and_eq_true, List.contains_iff_mem, not_and]; exact fun q => absurd q hn)]
        exact wpAny_pure h
      · exact wpAny_pure h
    · exact wpAny_pure h
  · split
    · rename_i r a he
      cases he
      refine wpAny_bind (wpAny_load hI ?_)
      rw [e]
      split
      · rename_i n' vs hd _
        cases hd
        rw [if_neg (by simp only [Bool.and_eq_true, List.contains_iff_mem, not_and]; exact fun q => absurd q hn)]
        exact wpAny_pure h
      · exact wpAny_pure h
    · exact wpAny_pure h
  · exact wpAny_pure h
/-- a loop's source -/
noncomputable def SRC (c : Cx) (k : Nat) (env : Env) (ns : List Str) (ρ : Env') (o : Own) (u : Bool) (iter : Expr) (items : List Dat) : Prop :=
  ∀ h₀ K₀ K s A E Q, St c h₀ K₀ env ns ρ o K s.heap → Room k A →
    (∀ I fp P (W : Nat → Heap → Prop) K1 h' tk, (∀ A' : Around, A'.handled = none → Walks c.prog c.w A' I fp [I] items.length P W) → W 0 h' → KExt s.heap K K1 → Kn h' K1 → Stays s.heap h' →
      s.heap.get? I = none → (∀ p ∈ K1, p.1 ≠ I) → (∀ b ∈ fp, b = I ∨ ∃ p ∈ K1, p.1 = b) →
      (∀ i v, i < items.length → P i v → ∃ d, items[i]? = some d ∧ DatIn K1 v d) → (∀ i h, W i h → ∃ ob, h.get? I = some ob ∧ (u = true → NoUnpack ob)) → Q (.ref I) { s with heap := h', toks := tk }) →
    wpAny (model c.prog c.w) A (eval iter env) (fun xv s₁ => wpAny (model c.prog c.w) A (pyIter xv) Q E s₁) E s
theorem SRC.of {u : Bool} {iter : Expr} {di : Dat} {items : List Dat} (hi : EV c k env ns ρ o iter di) (hit : IterOk c u di items) : SRC c k env ns ρ o u iter items := by
  intro h₀ K₀ K s A E Q st rm r
  refine hi _ _ _ _ _ _ _ st rm fun v K1 h1 t1 dv x1 kn1 s1 => ?_
  have st1 := st.step x1 kn1 s1
  refine hit K1 { s with heap := h1, toks := t1 } _ _ _ _ st1.g kn1 (rm.le (Nat.zero_le _)) dv fun I fp P W h2 t2 hW w0 s2 hI hfp hP hob => ?_
  have hI' : h1.get? I = none := hI
  refine r I fp P W K1 h2 t2 hW w0 x1 (kn1.mono s2) (stays_trans s1 s2) (stays_none s1 hI') (fun p hp q => ?_) hfp hP hob
  have := kn1 p hp; rw [q, hI'] at this; cases this
theorem EX1.for_ {u : Bool} {target iter : Expr} {body : List Stmt} {items : List Dat} {f : Dat → Env' → Env'} (hi : SRC c k env ns ρ o u iter items) (ht : ∀ d ∈ items, TG c env ns o.key target d (f d))
    (Inv : Nat → Env' → Own → Prop) (h0 : Inv 0 ρ o) (hown : ∀ i ρ' o', Inv i ρ' o' → o'.key = o.key)
    (step : ∀ i d ρ' o', items[i]? = some d → Inv i ρ' o' → EX c k env ns (f d ρ') o' body (Inv (i + 1)) Qr (Inv (i + 1)))
    (fin : ∀ ρ' o', Inv items.length ρ' o' → Qn ρ' o')
    (hu : u = true ∨ ∀ it v, letOwnedTupleGo target it v = pure ())
    (hs : ∀ x, foldedSetIterable iter env x = pure x := by intro _; rfl) :
    EX1 c k env ns ρ o (.For target iter body [] pos) Qn Qr Qc := by
  intro h₀ K₀ K s A E Q st rm r
  refine wpAny_For (hi _ _ _ _ _ _ _ st rm fun I fp P W K1 h2 t2 hW w0 x1 kn2 s2 hI hKI hfp hP hob => ?_) hs
  have st2 : St c h₀ K₀ env ns ρ o K1 h2 := st.step x1 kn2 s2
  obtain ⟨mL, nL⟩ := st.locals
  obtain ⟨oL, eL⟩ := ns_some nL
  have hIL : I ≠ env.locals := fun q => by rw [q] at hI; rw [hI] at eL; cases eL
  -- own's place is not in the footprint
  have hownA : ∀ b ∈ fp, b ∉ ownA env.locals o := by
    intro b hb hm
    obtain ⟨m, _, _, ho⟩ := st2.loc
    obtain ⟨m0, _, _, ho0⟩ := st.loc
    have hbL : b ≠ env.locals := by
      rcases hfp b hb with rfl | ⟨p, hp, rfl⟩
      · exact hIL
      · exact st2.off p hp
    have ownNe : ∀ a, (∃ ob, s.heap.get? a = some ob) → (∀ p ∈ K1, p.1 ≠ a) → b ≠ a := by
      intro a ⟨ob, ea⟩ ha
      rcases hfp b hb with rfl | ⟨p, hp, rfl⟩
      · intro q; rw [q] at hI; rw [hI] at ea; cases ea
      · exact ha p hp
    cases o with
    | no => simp [ownA, Own.key] at hm; exact hbL hm
    | lst j a l =>
      simp [ownA, Own.key] at hm
      obtain ⟨_, ⟨vs, n, e3, _⟩, _⟩ := ho0
      exact hm.elim hbL (ownNe a ⟨_, e3⟩ ho.2.2.2.2)
    | dct j a l =>
      simp [ownA, Own.key] at hm
      obtain ⟨_, ⟨es, n, e3, _⟩, _⟩ := ho0
      exact hm.elim hbL (ownNe a ⟨_, e3⟩ ho.2.2.2.2)
  refine codeAny_forLoop_any (fun n s' => ∃ h' tk ρ' o' K' i, s' = { s with heap := h', toks := tk } ∧ St c h₀ K₀ env ns ρ' o' K' h' ∧ Inv i ρ' o' ∧ W i h' ∧ i ≤ items.length ∧ n = items.length - i ∧ (∀ p ∈ K1, p ∈ K') ∧ ∀ p ∈ K', p.1 ≠ I)
    ?_ items.length ⟨h2, t2, ρ, o, K1, 0, rfl, st2, h0, w0, Nat.zero_le _, rfl, fun _ x => x, hKI⟩
  rintro n s' ⟨h', tk, ρ', o', K', i, rfl, st', hI', hw, hle, rfl, hsub, hKI'⟩
  have hkey := hown i ρ' o' hI'
  have hA : ownA env.locals o' = ownA env.locals o := by unfold ownA; rw [hkey]
  have WA := hW A rm.hd
  by_cases hlt : i < items.length
  · refine WA.item i { s with heap := h', toks := tk } _ _ hlt hw fun v h3 t3 hPv hw3 hk3 => ?_
    obtain ⟨d, hd, dv'⟩ := hP i v hlt hPv
    -- after the iterator's turn
    have st3 : St c h₀ K₀ env ns ρ' o' K' h3 := by
      obtain ⟨m, n1, l1, ho⟩ := st'.loc
      have fr' : ∀ b ob, b ≠ I → h'.get? b = some ob → h3.get? b = some ob := fun b ob hb e => hk3 b ob (by simpa using hb) e
      have h0I : h₀.get? I = none := by
        cases q : h₀.get? I with
        | none => rfl
        | some ob => have := st.keep I ob q; rw [hI] at this; cases this
      refine ⟨⟨m, n1.at fun ob e => fr' _ _ (fun q => hIL q.symm) e, l1, ?_⟩, st'.g0, fun b ob e => fr' b ob (fun q => by rw [q, h0I] at e; cases e) (st'.keep b ob e), st'.fr, fun p hp => fr' _ _ (hKI' p hp) (st'.kn p hp), st'.off, st'.ext, st'.base⟩
      have hIo : I ∈ fp := WA.sub I (by simp)
      have hno := hownA I hIo
      rw [← hA] at hno
      cases o' with
      | no => trivial
      | lst j a l =>
        simp [ownA, Own.key] at hno
        obtain ⟨e1, ⟨vs, n, e3, e4⟩, e5, e6, e7⟩ := ho
        exact ⟨e1, ⟨vs, n, fr' _ _ (fun q => hno.2 q.symm) e3, e4⟩, e5, e6, e7⟩
      | dct j a l =>
        simp [ownA, Own.key] at hno
        obtain ⟨e1, ⟨es, n, e3, e4⟩, e5, e6, e7⟩ := ho
        exact ⟨e1, ⟨es, n, fr' _ _ (fun q => hno.2 q.symm) e3, e4⟩, e5, e6, e7⟩
    have go : ∀ Q : Unit → Shared → Prop, Q () { s with heap := h3, toks := t3 } → wpAny (model c.prog c.w) A (letOwnedTupleGo target (.ref I) v) Q (notedBy (model c.prog c.w) A env fun e s' => cameBackBy (model c.prog c.w) A env E e s') { s with heap := h3, toks := t3 } := by
      intro Q hQ
      rcases hu with hu | hu
      · obtain ⟨ob, eob, hnu⟩ := hob _ _ hw3
        exact letOwned_no (s := { s with heap := h3, toks := t3 }) eob (hnu hu) hQ
      · rw [hu]; exact wpAny_pure hQ
    refine go _ ?_
    have dv3 : DatIn K' v d := DatIn.mono hsub dv'
    refine ht d (List.mem_of_getElem? hd) _ _ _ _ _ { s with heap := h3, toks := t3 } _ _ _ _ hkey st3 (rm.le (Nat.zero_le _)) dv3 fun h4 t4 st4 hk4 => ?_
    obtain ⟨h₁, stR, up, hidden⟩ := st4.rebase
    refine step i d ρ' o' hd hI' _ _ _ { s with heap := h4, toks := t4 } _ _ _ stR rm fun fl h5 t5 f5 => ?_
    have again : ∀ {ρ5 : Env'} {o5 : Own} {K5 : Led}, St c h₁ K' env ns ρ5 o5 K5 h5 → Inv (i + 1) ρ5 o5 → ∃ m, m < items.length - i ∧ ∃ h' tk ρ' o' K' i, { s with heap := h5, toks := t5 } = { s with heap := h', toks := tk } ∧ St c h₀ K₀ env ns ρ' o' K' h' ∧ Inv i ρ' o' ∧ W i h' ∧ i ≤ items.length ∧ m = items.length - i ∧ (∀ p ∈ K1, p ∈ K') ∧ ∀ p ∈ K', p.1 ≠ I := by
      intro ρ5 o5 K5 st5 hI5
      have keepFp : ∀ b ∈ fp, ∀ ob, h3.get? b = some ob → h5.get? b = some ob := by
        intro b hb ob e
        have hno := hownA b hb
        have hbL : b ≠ env.locals := fun q => hno (by unfold ownA; cases o.key <;> simp [q])
        have e4 := hk4 b ob hbL e
        exact st5.keep b ob (hidden b ob e4 (by rw [hA]; exact hno))
      refine ⟨items.length - (i + 1), by omega, h5, t5, ρ5, o5, K5, i + 1, rfl, st4.back up st5, hI5, WA.frame _ _ _ hw3 keepFp, hlt, rfl, fun p hp => st5.ext.sub p (hsub p hp), fun p hp => ?_⟩
      rcases st5.ext.fresh p hp with q | q
      · exact hKI' p q
      · intro e
        have hIf : I ∈ fp := WA.sub I (by simp)
        have hno := hownA I hIf
        obtain ⟨ob, eob, _⟩ := hob _ _ hw3
        have e4 := hk4 I ob hIL eob
        rw [e, hidden I ob e4 (by rw [hA]; exact hno)] at q
        cases q
    cases fl with
    | next => obtain ⟨ρ5, o5, K5, st5, hI5⟩ := f5; exact again st5 hI5
    | cont => obtain ⟨ρ5, o5, K5, st5, hI5⟩ := f5; exact again st5 hI5
    | ret v => obtain ⟨d5, K5, q1, q2, q3, q4, q5⟩ := f5; exact r (.ret v) h5 t5 ⟨d5, K5, q1, q2, q3, stays_trans up q4, st4.ext.trans up q5⟩
    | brk => exact f5.elim
  · have hin : i = items.length := by omega
    subst hin
    refine WA.done { s with heap := h', toks := tk } _ _ hw fun h3 t3 hk3 => wpAny_execs_nil ?_
    have fr' : ∀ b ob, b ≠ I → h'.get? b = some ob → h3.get? b = some ob := fun b ob hb e => hk3 b ob (by simpa using hb) e
    have h0I : h₀.get? I = none := by
      cases q : h₀.get? I with
      | none => rfl
      | some ob => have := st.keep I ob q; rw [hI] at this; cases this
    obtain ⟨m, n1, l1, ho⟩ := st'.loc
    have hIo : I ∈ fp := WA.sub I (by simp)
    have hno := hownA I hIo
    rw [← hA] at hno
    refine r .next h3 t3 ⟨ρ', o', K', ⟨⟨m, n1.at fun ob e => fr' _ _ (fun q => hIL q.symm) e, l1, ?_⟩, st'.g0, fun b ob e => fr' b ob (fun q => by rw [q, h0I] at e; cases e) (st'.keep b ob e), st'.fr, fun p hp => fr' _ _ (hKI' p hp) (st'.kn p hp), st'.off, st'.ext, st'.base⟩, fin ρ' o' hI'⟩
    cases o' with
    | no => trivial
    | lst j a l =>
      simp [ownA, Own.key] at hno
      obtain ⟨e1, ⟨vs, n, e3, e4⟩, e5, e6, e7⟩ := ho
      exact ⟨e1, ⟨vs, n, fr' _ _ (fun q => hno.2 q.symm) e3, e4⟩, e5, e6, e7⟩
    | dct j a l =>
      simp [ownA, Own.key] at hno
      obtain ⟨e1, ⟨es, n, e3, e4⟩, e5, e6, e7⟩ := ho
      exact ⟨e1, ⟨es, n, fr' _ _ (fun q => hno.2 q.symm) e3, e4⟩, e5, e6, e7⟩
end
end
section
section
variable {c : Cx} {k : Nat} {env : Env} {ns gs : List Str} {ρ : Env'} {o : Own} {pos p : Pos} {Qn Qc : Env' → Own → Prop} {Qr : Dat → Prop}
noncomputable def chD (l : List Nat) : List Dat := l.map fun x => sD [x]
theorem iterS {l : List Nat} : IterOk c false (sD l) (chD l) := by
  intro K s A E Q v g kn rm dv r
  cases dv with
  | str _ t =>
    have hP : ∀ i v, i < (chD l).length → SignAt (sS l) i v → ∃ d, (chD l)[i]? = some d ∧ DatIn K v d := by
      rintro i v _ ⟨x, u, hx, rfl⟩
      have hx' : l[i]? = some x := by simpa using hx
      exact ⟨sD [x], by unfold chD; rw [List.getElem?_map, hx']; rfl, .str _ _⟩
    have hlen : (chD l).length = (sS l).cps.size := by simp [chD]
    cases ha : (sS l).cps.all (· < 128) with
    | true =>
      refine wpAny_pyIter_ascii ha (r s.heap.objs.size [s.heap.objs.size] (SignAt (sS l)) (fun i h => h.IsStrIter s.heap.objs.size "str_ascii_iterator" (sS l) t i) _ _ (fun A' hA => by rw [hlen]; exact Walks.strAscii hA _ _ _)
        ⟨_, Heap.get?_push_size _ rfl, rfl, rfl⟩ (stays_push _ _) (size_none _) (fun b hb => .inl (by simpa using hb)) hP fun i h hw => ?_)
      obtain ⟨ob, e, _⟩ := hw; exact ⟨ob, e, fun q => nomatch q⟩
    | false =>
      refine wpAny_pyIter_wide ha (r s.heap.objs.size [s.heap.objs.size] (SignAt (sS l)) (fun i h => h.IsStrIter s.heap.objs.size "str_iterator" (sS l) t i) _ _ (fun A' hA => by rw [hlen]; exact Walks.strWide hA _ _ _)
        ⟨_, Heap.get?_push_size _ rfl, rfl, rfl⟩ (stays_push _ _) (size_none _) (fun b hb => .inl (by simpa using hb)) hP fun i h hw => ?_)
      obtain ⟨ob, e, _⟩ := hw; exact ⟨ob, e, fun q => nomatch q⟩
noncomputable def biD (l : List UInt8) : List Dat := l.map fun b => .int b.toNat
theorem iterB {l : List UInt8} : IterOk c false (bD l) (biD l) := by
  intro K s A E Q v g kn rm dv r
  cases dv with
  | bytes _ t =>
    refine KBw.pyIter_bytes (r s.heap.objs.size [s.heap.objs.size] _ (fun i h => KBw.IsBytesIter h s.heap.objs.size l.toArray t i) _ _ (fun A' hA => by rw [show (biD l).length = l.toArray.size by simp [biD]]; exact KBw.walks hA _ _ _)
      ⟨_, Heap.get?_push_size _ rfl, rfl, rfl⟩ (stays_push _ _) (size_none _) (fun b hb => .inl (by simpa using hb)) ?_ fun i h hw => ?_)
    · rintro i v _ ⟨x, u, hx, rfl⟩
      have hx' : l[i]? = some x := by simpa using hx
      exact ⟨.int x.toNat, by unfold biD; rw [List.getElem?_map, hx']; rfl, .int _ _⟩
    · obtain ⟨ob, e, _⟩ := hw; exact ⟨ob, e, fun q => nomatch q⟩
theorem iterL {ds : List Dat} : IterOk c true (.list ds) ds := by
  intro K s A E Q v g kn rm dv r
  cases dv with
  | @list a vs n _ hm hal =>
    have hl : s.heap.IsList a vs.toArray := ⟨_, kn _ hm, rfl, _, rfl⟩
    have hne : a ≠ s.heap.objs.size := Nat.ne_of_lt (Heap.lt_size (kn _ hm))
    have hlen := DatAll.length hal
    refine wpAny_pyIter_list hl (r s.heap.objs.size [s.heap.objs.size, a] _ (fun i h => h.IsListIter s.heap.objs.size a i ∧ h.IsList a vs.toArray) _ _ (fun A' hA => by rw [show ds.length = vs.toArray.size by simp [hlen]]; exact Walks.list hA _ _ hne _)
      ⟨⟨_, Heap.get?_push_size _ rfl, rfl, rfl⟩, hl.at fun o e => stays_push _ _ _ _ e⟩ (stays_push _ _) (size_none _) ?_ ?_ fun i h hw => ?_)
    · intro b hb
      simp at hb
      exact hb.elim .inl fun e => .inr ⟨_, hm, e.symm⟩
    · intro i v _ hv
      have hv' : vs[i]? = some v := by simpa using hv
      have hi : i < ds.length := by rw [← hlen]; exact (List.getElem?_eq_some_iff.mp hv').1
      obtain ⟨v2, e1, e2⟩ := DatAll.get hal hi
      rw [hv'] at e1; cases e1
      exact ⟨_, List.getElem?_eq_getElem hi, e2⟩
    · obtain ⟨⟨ob, e, e2, _⟩, _⟩ := hw
      exact ⟨ob, e, fun _ => ⟨_, e2, by decide⟩⟩
theorem iterT {ds : List Dat} : IterOk c true (.tuple ds) ds := by
  intro K s A E Q v g kn rm dv r
  cases dv with
  | @tuple a vs n _ hm hal =>
    have hl : s.heap.IsTuple a vs.toArray := ⟨_, kn _ hm, rfl, _, rfl⟩
    have hne : a ≠ s.heap.objs.size := Nat.ne_of_lt (Heap.lt_size (kn _ hm))
    have hlen := DatAll.length hal
    refine wpAny_pyIter_tuple hl (r s.heap.objs.size [s.heap.objs.size, a] _ (fun i h => h.IsTupleIter s.heap.objs.size a i ∧ h.IsTuple a vs.toArray) _ _ (fun A' hA => by rw [show ds.length = vs.toArray.size by simp [hlen]]; exact Walks.tuple hA _ _ hne _)
      ⟨⟨_, Heap.get?_push_size _ rfl, rfl, rfl⟩, ⟨_, stays_push _ _ _ _ (kn _ hm), rfl, _, rfl⟩⟩ (stays_push _ _) (size_none _) ?_ ?_ fun i h hw => ?_)
    · intro b hb
      simp at hb
      exact hb.elim .inl fun e => .inr ⟨_, hm, e.symm⟩
    · intro i v _ hv
      have hv' : vs[i]? = some v := by simpa using hv
      have hi : i < ds.length := by rw [← hlen]; exact (List.getElem?_eq_some_iff.mp hv').1
      obtain ⟨v2, e1, e2⟩ := DatAll.get hal hi
      rw [hv'] at e1; cases e1
      exact ⟨_, List.getElem?_eq_getElem hi, e2⟩
    · obtain ⟨⟨ob, e, e2, _⟩, _⟩ := hw
      exact ⟨ob, e, fun _ => ⟨_, e2, by decide⟩⟩
noncomputable def rgD (n : Nat) : List Dat := (List.range n).map fun i => .int (i : Nat)
theorem SRC.range {f : Str} {e : Expr} {fp : Pos} {n : Nat} (S : Sc env ns gs) (hf : f ∈ gs) (G : Glob c f (.type "range")) (he : EV c k env ns ρ o e (.int n)) (hn : n < 2 ^ 60)
    (hst : isStar e = false := by with_unfolding_all rfl) :
    SRC c k env ns ρ o false (.Call (.Name f fp) [e] [] pos) (rgD n) := by
  intro h₀ K₀ K s A E Q st rm r
  refine Call_ (EV.global S hf st.g G (PyProof.Rows.callWith_type1 (EVs.cons he EVs.nil hst _ _ _ _ _ _ _ _ st rm fun vs K1 h1 t1 dv x1 kn1 s1 => ?_) (star_cons hst) rfl)) (call_name ..)
  cases dv with
  | cons h t =>
  cases t
  cases h with
  | int _ tn =>
  refine call_range_1 ?_
  have fl : ∀ i : Int, -(2 ^ 63) ≤ i → i < 2 ^ 63 → Builtin.Range.rangeFitsLong i = true := fun i h1 h2 => Bool.and_eq_true_iff.mpr ⟨decide_eq_true h1, decide_eq_true h2⟩
  have e : Builtin.Range.rangeSize 0 n 1 = n := by rw [rangeSize_one]; split <;> omega
  have hlim : Builtin.Range.small 0 n 1 = true := by
    unfold Builtin.Range.small
    rw [e, fl 0 (by omega) (by omega), fl n (by omega) (by omega), fl 1 (by omega) (by omega), if_pos (by decide), fl (n + (1 - 1)) (by omega) (by omega), Bool.or_true]
    rfl
  refine wpAny_pyIter_range (IsRange.new ..) hlim ?_
  have hsz : (h1.push { cls := .type "range", data := .fields #[.int 0 t1, .int n tn, .int 1 (t1 + 1)] }).objs.size = h1.objs.size + 1 := Heap.size_push ..
  show Q (Value.ref (h1.push { cls := .type "range", data := .fields #[.int 0 t1, .int n tn, .int 1 (t1 + 1)] }).objs.size) { s with heap := (h1.push { cls := .type "range", data := .fields #[.int 0 t1, .int n tn, .int 1 (t1 + 1)] }).push { cls := .type "range_iterator", data := .fields #[rawInt 0, rawInt (Builtin.Range.rangeSize 0 n 1), rawInt 1] }, toks := t1 + 1 + 1 }
  rw [hsz]
  refine r (h1.objs.size + 1) [h1.objs.size + 1] _ (fun i h => IsRangeIter h (h1.objs.size + 1) (0 + (i : Nat) * 1) ((n : Int) - (i : Nat)) 1) K1 _ _ (fun A' hA => by rw [show (rgD n).length = n by simp [rgD]]; exact Walks.range hA _ 0 1 n)
    ?_ x1 ((kn1.push' _).push' _) (stays_trans s1 (stays_trans (stays_push _ _) (stays_push _ _))) ?_ ?_ (fun b hb => .inl (by simpa using hb)) ?_ fun i h hw => ⟨_, hw, fun q => nomatch q⟩
  · have := Heap.get?_push_size (h1.push { cls := .type "range", data := .fields #[.int 0 t1, .int n tn, .int 1 (t1 + 1)] }) (o := { cls := .type "range_iterator", data := .fields #[rawInt 0, rawInt (Builtin.Range.rangeSize 0 n 1), rawInt 1] }) rfl
    rw [hsz, e] at this
    rw [e]
    show Heap.get? _ _ = some _
    simpa using this
  · cases q : s.heap.get? (h1.objs.size + 1) with
    | none => rfl
    | some o => exact absurd (Heap.lt_size (s1 _ _ q)) (Nat.not_lt.mpr (Nat.le_succ _))
  · intro p hp q
    have := Heap.lt_size (kn1 p hp)
    rw [q] at this
    exact absurd this (Nat.not_lt.mpr (Nat.le_succ _))
  · rintro i v hi ⟨t, rfl⟩
    have hi' : i < n := by simpa [rgD] using hi
    refine ⟨.int (i : Nat), by unfold rgD; rw [List.getElem?_map, List.getElem?_range hi']; rfl, ?_⟩
    rw [show (0 : Int) + (i : Nat) * 1 = (i : Nat) by omega]
    exact .int _ _
end
section
variable {c : Cx} {k : Nat} {env : Env} {ns gs : List Str} {ρ : Env'} {o : Own} {pos p : Pos} {Qn Qc : Env' → Own → Prop} {Qr : Dat → Prop}
/-! tuple targets -/
noncomputable def TGs (c : Cx) (env : Env) (ns : List Str) (key : Option (Nat × Addr)) (ts : List Expr) (ds : List Dat) (f : Env' → Env') : Prop :=
  ∀ h₀ K₀ K ρ o s A E Q vs, o.key = key → St c h₀ K₀ env ns ρ o K s.heap → Room 0 A → DatAll K vs ds →
    (∀ h' tk, St c h₀ K₀ env ns (f ρ) o K h' → (∀ b ob, b ≠ env.locals → s.heap.get? b = some ob → h'.get? b = some ob) → Q () { s with heap := h', toks := tk }) →
    wpAny (model c.prog c.w) A (assignInOrder ((assignEach ts env).map (·.2)) vs) Q E s
theorem TGs.nil {key : Option (Nat × Addr)} : TGs c env ns key [] [] id := by
  intro h₀ K₀ K ρ o s A E Q vs hk st rm dv r
  cases dv
  exact PyProof.Rows.assignInOrder_nil (r s.heap s.toks st fun _ _ _ e => e)
theorem TGs.cons {key : Option (Nat × Addr)} {t : Expr} {ts : List Expr} {d : Dat} {ds : List Dat} {f g : Env' → Env'} (ht : TG c env ns key t d f) (hs : TGs c env ns key ts ds g)
    (he : isStar t = false := by with_unfolding_all rfl) : TGs c env ns key (t :: ts) (d :: ds) (fun ρ => g (f ρ)) := by
  intro h₀ K₀ K ρ o s A E Q vs hk st rm dv r
  cases dv with
  | cons h1 h2 =>
    rw [assign_cons he, List.map_cons]
    refine PyProof.Rows.assignInOrder_cons (ht _ _ _ _ _ _ _ _ _ _ hk st rm h1 fun h' tk st' k' => ?_)
    exact hs _ _ _ _ _ { s with heap := h', toks := tk } _ _ _ _ hk st' rm h2 fun h'' tk'' st'' k'' => r h'' tk'' st'' fun b ob hb e => k'' b ob hb (k' b ob hb e)
theorem TG.tuple {key : Option (Nat × Addr)} {ts : List Expr} {u : Nat} {ds : List Dat} {f : Env' → Env'} (h : TGs c env ns key ts ds f)
    (hst : ts.any isStar = false := by with_unfolding_all rfl) (hn' : ts.length = ds.length := by with_unfolding_all rfl) : TG c env ns key (.Tuple ts u p) (.tuple ds) f := by
  intro h₀ K₀ K ρ o s A E Q v hk st rm dv r
  cases dv with
  | @tuple a vs n _ hm hal =>
    have hl : PyProof.Rows.IsTup s.heap a vs.toArray := ⟨_, st.kn _ hm, rfl, _, rfl⟩
    refine assign_Tuple_tuple rm.hd hl (by rw [assign_len hst, hn', ← DatAll.length hal]; simp) (assign_idx hst) fun h' he => ?_
    have sy : Stays s.heap h' := fun b ob e => he b ob (Nat.ne_of_lt (Heap.lt_size e)) e
    refine h _ _ _ _ _ { s with heap := h' } _ _ _ _ hk (st.step (.refl ..) (st.kn.mono sy) sy) rm hal fun h'' tk st'' k'' => r h'' tk st'' fun b ob hb e => k'' b ob hb (sy b ob e)
theorem EX1.assignT {ts : List Expr} {u : Nat} {value : Expr} {d : Dat} {f : Env' → Env'} (he : EV c k env ns ρ o value d) (ht : TG c env ns o.key (.Tuple ts u p) d f) (h : Qn (f ρ) o)
    (hs : swapsWithSole [.Tuple ts u p] value pos.line env = pure false := by with_unfolding_all rfl)
    (hw : swappedStores [.Tuple ts u p] value env = pure none := by with_unfolding_all rfl) : EX1 c k env ns ρ o (.Assign [.Tuple ts u p] value pos) Qn Qr Qc := by
  intro h₀ K₀ K s A E Q st rm r
  refine Assign_Tuple (he _ _ _ _ _ _ _ st rm fun v K1 h1 t1 dv x1 kn1 s1 => ?_) hs hw
  have st1 := st.step x1 kn1 s1
  exact ht _ _ _ _ _ { s with heap := h1, toks := t1 } _ _ _ _ rfl st1 (rm.le (Nat.zero_le _)) dv fun h' tk st' _ => r .next h' tk ⟨_, _, _, st', h⟩
/-! an own list -/
theorem St.storeOwn {h₀ : Heap} {K₀ K : Led} {h h' : Heap} (S : Sc env ns gs) (st : St c h₀ K₀ env ns ρ .no K h) {i : Nat} {x : Str} {a : Addr} {vs : List Value} {n : Nat} {l : List Dat} (hi : ns[i]? = some x) (hr : ρ[i]? = some none)
    (ha : h.get? a = some (lstO vs n)) (dl : DatAll K vs l) (haL : a ≠ env.locals) (h0 : h₀.get? a = none) (hK : ∀ p ∈ K, p.1 ≠ a)
    (hn : ∀ m, h.Ns env.locals m → h'.Ns env.locals (fun y => if y = x then some (.ref a) else m y)) (hs : Heap.SameBut env.locals h h') : St c h₀ K₀ env ns ρ (.lst i a l) K h' := by
  obtain ⟨m, n1, l1, o1⟩ := st.loc
  have nd : ∀ j y, ns[j]? = some y → j ≠ i → y ≠ x := by
    intro j y hj hne e
    subst e
    exact hne ((List.getElem?_inj (List.getElem?_eq_some_iff.mp hj).1 S.nodup).mp (hj.trans hi.symm))
  have keepK : ∀ p ∈ K, h'.get? p.1 = some p.2 := fun p hp => (hs.2 p.1 (st.off p hp)).trans (st.kn p hp)
  have sub : ∀ b ob, h₀.get? b = some ob → h'.get? b = some ob := fun b ob e => (hs.2 b (fun q => by rw [q, st.fr] at e; cases e)).trans (st.keep b ob e)
  refine ⟨⟨_, hn m n1, fun j y d' e1 e2 => ?_, ⟨⟨x, hi, by simp⟩, ⟨vs, n, (hs.2 a haL).trans ha, dl⟩, haL, h0, hK⟩⟩, st.g0, sub, st.fr, keepK, st.off, st.ext, st.base⟩
  by_cases hji : j = i
  · subst hji; rw [hr] at e2; cases e2
  · obtain ⟨v', e3, e4⟩ := l1 j y d' e1 e2
    exact ⟨v', by simp [nd j y e1 hji, e3], e4⟩
/-- x = [..] as an own list -/
theorem EX1.assignOwn {x : Str} {es : List Expr} {ds : List Dat} {lp : Pos} (S : Sc env ns gs) (i : Nat) (hi : ns[i]? = some x) (hr : ρ[i]? = some none) (he : EVs c k env ns ρ .no es ds) (hz : ds.length ≤ 16777216)
    (h : ∀ a, Qn ρ (.lst i a ds)) (hs : swapsWith (.List es lp) (some (.Name x p)) pos.line env = pure false := by with_unfolding_all rfl) : EX1 c k env ns ρ .no (.Assign [.Name x p] (.List es lp) pos) Qn Qr Qc := by
  intro h₀ K₀ K s A E Q st rm r
  refine wpAny_Assign_Name (List_ (he _ _ _ _ _ _ _ _ st rm fun vs K1 h1 t1 dv x1 kn1 s1 => ?_)) hs
  have hl := DatAll.length dv
  have st1 := st.step x1 kn1 s1
  refine wpAny_newObj_type ?_ (by show vs.toArray.size ≤ sizeLine; rw [List.size_toArray, sizeLine_eq]; omega)
  have st2 : St c h₀ K₀ env ns ρ .no K1 (h1.push (lstO vs 0)) := st1.step (.refl ..) (kn1.push' _) (stays_push _ _)
  obtain ⟨m, n1⟩ := st2.locals
  obtain ⟨m', n0⟩ := st1.locals
  obtain ⟨oL, eL⟩ := ns_some n0
  refine wpAny_storeName_local (S.loc x (List.mem_of_getElem? hi)) n1 (fun h' hn hs => ?_) S.np
  refine r .next h' _ ⟨_, _, _, st2.storeOwn S hi hr (Heap.get?_push_size _ rfl) dv (fun q => ?_) ?_ (fun p hp q => ?_) (fun m' n' => by rw [ns_det n' n1]; exact hn) hs, h _⟩
  · rw [← q, size_none] at eL; cases eL
  · exact stays_none st1.keep (size_none h1)
  · have := kn1 p hp
    rw [q, size_none] at this; cases this
/-- the own list seen as data -/
theorem St.frz {h₀ : Heap} {K₀ K : Led} {h : Heap} {i : Nat} {a : Addr} {l : List Dat} (S : Sc env ns gs) (st : St c h₀ K₀ env ns ρ (.lst i a l) K h) :
    ∃ K1, St c h₀ K₀ env ns (ρ.set i (some (.list l))) .no K1 h ∧ ∀ h' K2, KExt h K1 K2 → Stays h h' → Kn h' K := by
  obtain ⟨m, n1, l1, ⟨⟨x, e1, e2⟩, ⟨vs, n, e3, e4⟩, e5, e6, e7⟩⟩ := st.loc
  have sub : ∀ p ∈ K, p ∈ (a, lstO vs n) :: K := fun _ hp => .tail _ hp
  refine ⟨(a, lstO vs n) :: K, ⟨⟨m, n1, fun j y d h1 h2 => ?_, trivial⟩, st.g0, st.keep, st.fr, fun p hp => ?_, fun p hp => ?_, ⟨fun p hp => .tail _ (st.ext.sub p hp), fun p hp => ?_⟩, fun p hp => .tail _ (st.base p hp)⟩, fun h' K2 _ s => st.kn.mono s⟩
  · by_cases hji : j = i
    · subst hji
      rw [e1] at h1; cases h1
      rw [List.getElem?_set] at h2
      simp only [if_true] at h2
      split at h2
      · cases h2; exact ⟨_, e2, .list (.head _) (DatAll.mono sub e4)⟩
      · cases h2
    · rw [List.getElem?_set, if_neg (fun q => hji q.symm)] at h2
      obtain ⟨v, q1, q2⟩ := l1 j y d h1 h2
      exact ⟨v, q1, DatIn.mono sub q2⟩
  · rcases List.mem_cons.mp hp with rfl | hp
    · exact e3
    · exact st.kn p hp
  · rcases List.mem_cons.mp hp with rfl | hp
    · exact e5
    · exact st.off p hp
  · rcases List.mem_cons.mp hp with rfl | hp
    · exact .inr e6
    · exact st.ext.fresh p hp
noncomputable def flat : Dat → Bool
  | .tuple _ => false
  | .list _ => false
  | _ => true
theorem flat_any {K K' : Led} {v : Value} {d : Dat} (h : flat d = true) (x : DatIn K v d) : DatIn K' v d := by
  cases x <;> first | (cases h; done) | constructor
theorem EV.frz {i : Nat} {a : Addr} {l : List Dat} {e : Expr} {d : Dat} (S : Sc env ns gs) (hd : flat d = true) (he : EV c k env ns (ρ.set i (some (.list l))) .no e d) : EV c k env ns ρ (.lst i a l) e d := by
  intro h₀ K₀ K s A E Q st rm r
  obtain ⟨K1, st1, back⟩ := st.frz S
  exact he _ _ _ _ _ _ _ st1 rm fun v K2 h2 t2 dv x2 kn2 s2 => r v K h2 t2 (flat_any hd dv) (.refl ..) (back _ _ x2 s2) s2
theorem TR.frz {i : Nat} {a : Addr} {l : List Dat} {e : Expr} {b : Bool} (S : Sc env ns gs) (he : TR c k env ns (ρ.set i (some (.list l))) .no e b) : TR c k env ns ρ (.lst i a l) e b := by
  intro h₀ K₀ K s A E Q st rm r
  obtain ⟨K1, st1, back⟩ := st.frz S
  exact he _ _ _ _ _ _ _ st1 rm fun v K2 h2 t2 dv x2 kn2 s2 => r v K h2 t2 dv (.refl ..) (back _ _ x2 s2) s2
theorem EX1.append {x : Str} {e : Expr} {d : Dat} {i : Nat} {a : Addr} {l : List Dat} {np ap cp : Pos} (S : Sc env ns gs) (hi : ns[i]? = some x) (he : EV c k env ns ρ (.lst i a l) e d) (hz : l.length ≤ 16777215)
    (h : Qn ρ (.lst i a (l ++ [d])))
    (hst : isStar e = false := by with_unfolding_all rfl) (hline : (ap.endLine == cp.line) = true := by with_unfolding_all rfl)
    (hs : swapsWith (.Call (.Attribute (.Name x np) "append" ap) [e] [] cp) none pos.line env = pure false := by with_unfolding_all rfl) :
    EX1 c k env ns ρ (.lst i a l) (.Expr (.Call (.Attribute (.Name x np) "append" ap) [e] [] cp) pos) Qn Qr Qc := by
  intro h₀ K₀ K s A E Q st rm r
  obtain ⟨m, n1, l1, ⟨⟨x', e1, e2⟩, ⟨vs, n, e3, e4⟩, e5, e6, e7⟩⟩ := st.loc
  rw [hi] at e1; cases e1
  have hx := List.mem_of_getElem? hi
  refine wpAny_Expr (wpAny_Call_append (base_plain rfl) (star_few (by simp [hst]) (by simp)) hline (star_back (by simp [hst]) _) (wpAny_Name (wpAny_loadName_local S.kind (S.loc x hx) n1 e2 ⟨a, vs.toArray, rfl, ⟨_, n, e3, rfl, rfl, rfl⟩, ?_⟩) (S.dbg x (List.mem_append_left _ hx)))) S.int hs
  refine he _ _ _ _ _ _ _ st rm fun v K1 h1 t1 dv x1 kn1 s1 => ?_
  have st1 := st.step x1 kn1 s1
  obtain ⟨m', n1', l1', ⟨f1, ⟨vs', n', f3, f4⟩, f5, f6, f7⟩⟩ := st1.loc
  have e3' : h1.get? a = some (lstO vs n) := s1 _ _ e3
  rw [e3'] at f3
  have hvs : vs = vs' := by
    have := congrArg Obj.data (Option.some.inj f3)
    simp only [lstO, Data.seq.injEq] at this
    simpa using congrArg Array.toList this.1
  subst hvs
  have hlen := DatAll.length f4
  refine append_at (n := n) e3' (fun h' hs' ho' => ?_) (by rw [sizeLine_eq]; simp; omega)
  have hb : ∀ b ob, b ≠ a → h1.get? b = some ob → h'.get? b = some ob := fun b ob hb e => (hs'.2 b hb).trans e
  refine r .next h' t1 ⟨ρ, .lst i a (l ++ [d]), K1, ⟨⟨m', n1'.at fun ob e => hb _ _ (fun q => f5 q.symm) e, l1', ⟨f1, ⟨vs ++ [v], n + 1, by simpa using ho', DatAll.append f4 (DatAll.one dv)⟩, f5, f6, f7⟩⟩, st1.g0, fun b ob e => hb b ob (fun q => by rw [q, f6] at e; cases e) (st1.keep b ob e), st1.fr, fun p hp => hb _ _ (f7 p hp) (st1.kn p hp), st1.off, st1.ext, st1.base⟩, h⟩
end
end
section
theorem lookup_zip : ∀ {xs : List Str} {vs : List Value} {i : Nat} {x : Str} {v : Value}, xs.Nodup → xs[i]? = some x → vs[i]? = some v → xs.length = vs.length → ((xs.zip vs).reverse).lookup x = some v := by
  intro xs
  induction xs with
  | nil => intro vs i x v _ h; simp at h
  | cons y xs ih =>
    intro vs i x v nd h1 h2 hl
    cases vs with
    | nil => simp at h2
    | cons u vs =>
      obtain ⟨hy, nd'⟩ := List.nodup_cons.mp nd
      simp only [List.zip_cons_cons, List.reverse_cons, List.lookup_append]
      cases i with
      | zero =>
        simp at h1 h2
        subst h1 h2
        have : ((xs.zip vs).reverse).lookup y = none := by
          rw [List.lookup_eq_none_iff]
          intro p hp
          have hp' := List.mem_reverse.mp hp
          have : p.1 ∈ xs := (List.of_mem_zip hp').1
          simp only [bne_iff_ne, ne_eq]
          intro q; rw [q] at hy; exact hy this
        rw [this]; simp
      | succ i =>
        have := ih (i := i) nd' (by simpa using h1) (by simpa using h2) (by simpa using hl)
        rw [this]; rfl
structure FnAt (c : Cx) (a : Addr) (fd : FuncData) : Prop where
  at_ : ∀ h, c.G h → ∃ ob, h.get? a = some ob ∧ ob.data = .func fd ∧ h.CodeRec fd.code fd.qualname
theorem FnAt.isFn {c : Cx} {a : Addr} {fd : FuncData} (h : FnAt c a fd) : IsFn c a := ⟨fun hp g => let ⟨ob, e1, e2, _⟩ := h.at_ hp g; ⟨ob, fd, e1, e2⟩⟩
theorem OpC.def_ {c : Cx} {k : Nat} {a : Addr} {fd : FuncData} {body : List Stmt} {ps os : List Str} {ds eds : List Dat} {ex : List Value} {d : Dat} (hf : FnAt c a fd) (hbody : fd.body = .stmts body)
    (hex : ∀ K, DatAll K ex eds)
    (hb : ∀ s vs, c.G s.heap → vs.length = ds.length → BindsTo s fd ⟨vs, []⟩ (ps.zip (vs ++ ex)))
    (hlen : ds.length + eds.length = ps.length) (hnd : (ps ++ os).Nodup)
    (hloc : ∀ x ∈ ps, fd.scope.names.lookup x = some .local)
    (h : ∀ L, EX c k (callEnv fd L a) (ps ++ os) ((ds ++ eds).map some ++ os.map fun _ => none) .no body (fun _ _ => d = .none) (fun d' => d' = d) (fun _ _ => False))
    (hcell : ∀ x ∈ fd.scope.names, x.2 ≠ .cell := by decide)
    (hco : fd.scope.isCoroutine = false := by with_unfolding_all rfl) (hgen : fd.scope.isGenerator = false := by with_unfolding_all rfl) (hk : fd.scope.kind = .function := by with_unfolding_all rfl) : OpC c (.ref a) (k + 1) ds d := by
  intro K s A E Q vs g kn kb rm dv r
  obtain ⟨ob, e1, e2, e3⟩ := hf.at_ _ g
  have hvl := DatAll.length dv
  have hexl := DatAll.length (hex [])
  have hl2 : ps.length = (vs ++ ex).length := by rw [List.length_append]; omega
  refine wpAny_call (codeAny_call_def (binds := ps.zip (vs ++ ex)) (by have := rm.dp; omega) e1 e2 (c.lim g) e3 hbody (hb _ _ g hvl) hcell (fun x hx => hloc x.1 (List.of_mem_zip hx).1) (fun h₁ hn hk₁ => ?_) hco hgen hk)
  have st : St c s.heap K (callEnv fd s.heap.objs.size a) (ps ++ os) ((ds ++ eds).map some ++ os.map fun _ => none) .no K h₁ := by
    refine ⟨⟨_, hn, fun i x d h1 h2 => ?_, trivial⟩, g, hk₁, size_none _, fun p hp => hk₁ _ _ (kn p hp), fun p hp q => ?_, .refl .., kb⟩
    · have hi : i < (ds ++ eds).length := by
        by_cases hi : i < (ds ++ eds).length
        · exact hi
        · rw [List.getElem?_append_right (by simpa using hi)] at h2
          rw [List.getElem?_map] at h2
          cases q : os[i - ((ds ++ eds).map some).length]? with
          | none => rw [q] at h2; cases h2
          | some y => rw [q] at h2; cases h2
      rw [List.getElem?_append_left (by simpa using hi), List.getElem?_map] at h2
      have hip : i < ps.length := by rw [List.length_append] at hi; omega
      rw [List.getElem?_append_left hip] at h1
      cases q : (ds ++ eds)[i]? with
      | none => rw [q] at h2; cases h2
      | some d' =>
        rw [q] at h2
        cases h2
        obtain ⟨v, hv, dv'⟩ := DatAll.get' (DatAll.append dv (hex K)) q
        exact ⟨v, lookup_zip (List.nodup_append.mp hnd).1 h1 hv hl2, dv'⟩
    · have := kn p hp
      rw [show p.1 = s.heap.objs.size from q, size_none] at this; cases this
  refine wpAny_mono (h s.heap.objs.size _ _ _ { s with heap := h₁, toks := s.toks + (ps.zip (vs ++ ex)).length } (A.deeper (callEnv fd s.heap.objs.size a)) (fun _ _ => False) (fun fl s' => FlowOk c s.heap K (callEnv fd s.heap.objs.size a) (ps ++ os) (fun _ _ => d = .none) (fun d' => d' = d) (fun _ _ => False) fl s'.heap ∧ ∃ h' tk, s' = { s with heap := h', toks := tk })
    st ⟨rm.hd, by show A.depth + 1 + k < _; have := rm.dp; omega, by show A.units + 3 + 20 * k + 200 < _; have := rm.un; omega⟩ fun fl h' tk f => ⟨f, h', tk, rfl⟩) (fun fl s' hs => ?_) (fun _ _ f => f.elim)
  obtain ⟨f, h', tk, rfl⟩ := hs
  cases fl with
  | next =>
    obtain ⟨ρ', o', K', st', hd⟩ := f
    exact r .none K' h' tk (by rw [hd]; exact .none) st'.ext st'.kn st'.keep
  | cont => obtain ⟨_, _, _, _, f⟩ := f; exact f.elim
  | ret v =>
    obtain ⟨d', K', q1, q2, q3, q4, q5⟩ := f
    exact r v K' h' tk (by rw [← q2]; exact q1) q5 q3 q4
  | brk => exact f.elim
end
section
noncomputable def stmtAt (i : Nat) : Stmt := PySem.Challenge.pw_nz0092_01.main.body.getD i (.Pass ⟨0, 0, 0, 0⟩)
noncomputable def fnName : Stmt → Str
  | .FunctionDef n _ _ _ _ _ _ _ _ _ => n
  | _ => Str.empty
noncomputable def fnArgs : Stmt → Arguments
  | .FunctionDef _ a _ _ _ _ _ _ _ _ => a
  | _ => { posonlyargs := [], args := [], vararg := none, kwonlyargs := [], kw_defaults := [], kwarg := none, defaults := [] }
noncomputable def fnBody : Stmt → List Stmt
  | .FunctionDef _ _ b _ _ _ _ _ _ _ => b
  | _ => []
noncomputable def fnScope : Stmt → Scope
  | .FunctionDef _ _ _ _ _ _ s _ _ _ => s
  | _ => default
noncomputable def fdOf (i : Nat) (pm cd dV : Value) : FuncData :=
  { name := fnName (stmtAt i), qualname := fnName (stmtAt i), params := fnArgs (stmtAt i), body := .stmts (fnBody (stmtAt i)), scope := fnScope (stmtAt i), globals := mainGlobals, closure := [],
    defaults := dV, kwdefaults := .none, pyModule := pm, code := cd, builtins := builtinsNs }
noncomputable def scOk (sc : Scope) (ns gs : List Str) : Bool :=
  sc.kind == .function && (ns.all fun x => sc.names.lookup x == some .local) && (gs.all fun x => sc.names.lookup x == some .globalImplicit) && ((ns ++ gs).all fun x => !(x == ("__debug__" : Str))) && decide ns.Nodup
theorem sc_of {fd : FuncData} {L a : Addr} {ns gs : List Str} (h : scOk fd.scope ns gs = true) (hg : fd.globals = mainGlobals) (hb : fd.builtins = builtinsNs) : Sc (callEnv fd L a) ns gs := by
  unfold scOk at h
  simp only [Bool.and_eq_true, beq_iff_eq, List.all_eq_true, decide_eq_true_eq, Bool.not_eq_true'] at h
  obtain ⟨⟨⟨⟨h1, h2⟩, h3⟩, h4⟩, h5⟩ := h
  refine ⟨h1, h2, h3, h4, h5, hg, hb, ?_⟩
  unfold interactive
  show _ = false
  simp [callEnv, newEnv, h1]
/-- what the heap says of a def of the text -/
structure Fn (c : Cx) (i : Nat) (n : Str) (a : Addr) : Prop where
  at_ : ∃ pm cd, FnAt c a (fdOf i pm cd .none)
  gl : Glob c n (.ref a)
noncomputable def fnChk (i : Nat) (ns gs : List Str) : Bool :=
  scOk (fnScope (stmtAt i)) ns gs && ((fnScope (stmtAt i)).names.all fun x => !(x.2 == .cell)) && !(fnScope (stmtAt i)).isCoroutine && !(fnScope (stmtAt i)).isGenerator
theorem vs0 {α : Type} {P : List α → Prop} (h : P []) : ∀ vs : List α, vs.length = 0 → P vs
  | [], _ => h
theorem vs1 {α : Type} {P : List α → Prop} (h : ∀ a, P [a]) : ∀ vs : List α, vs.length = 1 → P vs
  | [a], _ => h a
theorem vs2 {α : Type} {P : List α → Prop} (h : ∀ a b, P [a, b]) : ∀ vs : List α, vs.length = 2 → P vs
  | [a, b], _ => h a b
theorem vs3 {α : Type} {P : List α → Prop} (h : ∀ a b c, P [a, b, c]) : ∀ vs : List α, vs.length = 3 → P vs
  | a :: vs, e => vs2 (P := fun vs => P (a :: vs)) (h a) vs (Nat.succ.inj e)
theorem vs5 {α : Type} {P : List α → Prop} (h : ∀ a b c d e, P [a, b, c, d, e]) : ∀ vs : List α, vs.length = 5 → P vs
  | a :: b :: vs, e => vs3 (P := fun vs => P (a :: b :: vs)) (h a b) vs (Nat.succ.inj (Nat.succ.inj e))
theorem vs6 {α : Type} {P : List α → Prop} (h : ∀ a b c d e f, P [a, b, c, d, e, f]) : ∀ vs : List α, vs.length = 6 → P vs
  | a :: vs, e => vs5 (P := fun vs => P (a :: vs)) (h a) vs (Nat.succ.inj e)
theorem Fn.ok {c : Cx} {k i : Nat} {a : Addr} {n : Str} {ps os gs : List Str} {ds : List Dat} {d : Dat} (F : Fn c i n a) (hchk : fnChk i (ps ++ os) gs = true)
    (hb : ∀ pm cd s vs, vs.length = ds.length → BindsTo s (fdOf i pm cd .none) ⟨vs, []⟩ (ps.zip vs)) (hlen : ds.length = ps.length)
    (h : ∀ env, Sc env (ps ++ os) gs → EX c k env (ps ++ os) (ds.map some ++ os.map fun _ => none) .no (fnBody (stmtAt i)) (fun _ _ => d = .none) (fun d' => d' = d) (fun _ _ => False)) :
    OpC c (.ref a) (k + 1) ds d := by
  obtain ⟨pm, cd, hf⟩ := F.at_
  unfold fnChk at hchk
  simp only [Bool.and_eq_true, List.all_eq_true, Bool.not_eq_true', beq_eq_false_iff_ne, ne_eq] at hchk
  obtain ⟨⟨⟨h1, h2⟩, h3⟩, h4⟩ := hchk
  have S : ∀ L, Sc (callEnv (fdOf i pm cd .none) L a) (ps ++ os) gs := fun L => sc_of h1 rfl rfl
  refine OpC.def_ (ps := ps) (os := os) (ex := []) (eds := []) hf rfl (fun _ => .nil) (fun s vs g hl => by rw [List.append_nil]; exact hb pm cd s vs hl) hlen (S 0).nodup (fun x hx => (S 0).loc x (List.mem_append_left _ hx)) (fun L => ?_) h2 h3 h4 (S 0).kind
  rw [List.append_nil]
  exact h _ (S L)
theorem OpC.le {c : Cx} {f : Value} {k k' : Nat} {ds : List Dat} {d : Dat} (h : OpC c f k ds d) (hk : k ≤ k') : OpC c f k' ds d :=
  fun K s A E Q vs g kn kb rm dv r => h K s A E Q vs g kn kb (rm.le hk) dv r
theorem EV.call {c : Cx} {k j i : Nat} {env : Env} {n : Str} {ns gs : List Str} {ρ : List (Option Dat)} {o : Own} {pos fp : Pos} {a : Addr} {es : List Expr} {ds : List Dat} {d : Dat} (S : Sc env ns gs) (F : Fn c i n a) (hf : n ∈ gs) (hs : EVs c k env ns ρ o es ds)
    (hop : OpC c (.ref a) j ds d) (hj : j ≤ k := by with_unfolding_all decide) (hst' : es.any isStar = false := by with_unfolding_all rfl) : EV c k env ns ρ o (.Call (.Name n fp) es [] pos) d :=
  let ⟨_, _, h⟩ := F.at_
  EV.callF S hf F.gl h.isFn hs (hop.le hj) hst'
/-- a def with defaults -/
structure FnD (c : Cx) (i : Nat) (n : Str) (a : Addr) (dvs : List Value) : Prop where
  at_ : ∃ pm cd dV, FnAt c a (fdOf i pm cd dV) ∧ ∀ h, c.G h → ∃ t ob n', dV = .ref t ∧ h.get? t = some ob ∧ ob.cls = .type "tuple" ∧ ob.data = .seq dvs.toArray n'
  gl : Glob c n (.ref a)
/-- what the proof asks of the heap behind the top -/
structure Pg (c : Cx) : Prop where
  bLen : Glob c "len" (.builtin "len")
  bChr : Glob c "chr" (.builtin "chr")
  bOrd : Glob c "ord" (.builtin "ord")
  bMax : Glob c "max" (.builtin "max")
  bRange : Glob c "range" (.type "range")
  bBytes : Glob c "bytes" (.type "bytes")
  is_space_ : Fn c 1 "is_space" 21
  is_upper_ : Fn c 2 "is_upper" 28
  is_letter_ : Fn c 3 "is_letter" 35
  lower_ : Fn c 4 "lower" 42
  lower_text_ : Fn c 5 "lower_text" 49
  label_rows_ : Fn c 7 "label_rows" 56
  skip_spaces_ : Fn c 8 "skip_spaces" 63
  encoding_of_ : Fn c 9 "encoding_of" 70
  bom_of_ : Fn c 10 "bom_of" 77
  gaps_ : Fn c 11 "gaps" 84
  skip_ : Fn c 12 "skip" 91
  seek_ : Fn c 13 "seek" 98
  folded_ : Fn c 14 "folded" 103
  get_attribute_ : Fn c 15 "get_attribute" 110
  told_charset_ : Fn c 16 "told_charset" 117
  content_charset_ : Fn c 17 "content_charset" 124
  tag_end_ : Fn c 18 "tag_end" 131
  read_meta_ : Fn c 19 "read_meta" 138
  pass_over_ : Fn c 20 "pass_over" 145
  skip_low_ : Fn c 21 "skip_low" 152
  xml_encoding_ : Fn c 22 "xml_encoding" 159
  l_digit_ : Fn c 26 "_law_digit" 182
  l_labels_ : Fn c 27 "_law_labels" 189
  l_cased_ : Fn c 28 "_law_cased" 194
  l_declaration_ : Fn c 29 "_law_declaration" 201
  l_prefix_ : Fn c 30 "_law_prefix" 208
  l_attribute_ : Fn c 31 "_law_attribute" 215
  l_meta_ : Fn c 32 "_law_meta" 222
  l_inert_ : Fn c 33 "_law_inert" 229
  l_piece_ : Fn c 34 "_law_piece" 236
  l_wish_ : Fn c 35 "_law_wish" 243
  l_found_ : Fn c 36 "_law_found" 250
  l_octets_ : Fn c 37 "_law_octets" 255
  prescan_ : ∃ t, FnD c 23 "prescan" 167 [.int 1024 t]
  sniff_ : ∃ t u, FnD c 24 "sniff" 175 [.none, .none, .int 1024 t, .str "windows-1252" u]
end
section
noncomputable def tx (s : String) : List Nat := cpsOfBytes 0 0 s.toByteArray.data.toList
noncomputable def nn (l : List UInt8) : List Nat := l.map UInt8.toNat
@[simp] theorem nn_len (l : List UInt8) : (nn l).length = l.length := by simp [nn]
theorem nn_inj {a b : List UInt8} (h : nn a = nn b) : a = b := by
  unfold nn at h
  exact List.map_inj_right (fun x y e => UInt8.toNat_inj.mp e) |>.mp h
theorem nn_beq (a b : List UInt8) : (a == b) = (nn a == nn b) := by
  rw [Bool.eq_iff_iff, beq_iff_eq, beq_iff_eq]
  exact ⟨fun h => by rw [h], nn_inj⟩
theorem nn_cut (l : List UInt8) (lo hi : Option Nat) : nn (cutL l lo hi) = cutL (nn l) lo hi := by
  unfold nn cutL; rw [List.map_take, List.map_drop, List.length_map]
theorem nn_lt (l : List UInt8) : ∀ x ∈ nn l, x < 256 := by
  intro x hx
  obtain ⟨b, _, rfl⟩ := List.mem_map.mp hx
  exact b.toNat_lt
theorem nn_getD (l : List UInt8) (n : Nat) : (nn l).getD n 0 = (l.getD n 0).toNat := by
  unfold nn
  simp only [List.getD_eq_getElem?_getD, List.getElem?_map]
  cases l[n]? <;> rfl
inductive At : List Str → Env' → Str → Dat → Prop
  | head {x : Str} {ns : List Str} {d : Dat} {ρ : Env'} : At (x :: ns) (some d :: ρ) x d
  | tail {x y : Str} {ns : List Str} {d : Dat} {r : Option Dat} {ρ : Env'} : At ns ρ x d → At (y :: ns) (r :: ρ) x d
theorem At.get {ns : List Str} {ρ : Env'} {x : Str} {d : Dat} (h : At ns ρ x d) : ∃ i : Nat, ns[i]? = some x ∧ ρ[i]? = some (some d) := by
  induction h with
  | head => exact ⟨0, rfl, rfl⟩
  | tail _ ih => obtain ⟨i, h1, h2⟩ := ih; exact ⟨i + 1, by simpa using h1, by simpa using h2⟩
/-- the environment behind a store -/
inductive Put : List Str → Env' → Str → Dat → Env' → Nat → Prop
  | head {x : Str} {ns : List Str} {d : Dat} {r : Option Dat} {ρ : Env'} : Put (x :: ns) (r :: ρ) x d (some d :: ρ) 0
  | tail {x y : Str} {ns : List Str} {d : Dat} {r : Option Dat} {ρ ρ' : Env'} {i : Nat} : Put ns ρ x d ρ' i → Put (y :: ns) (r :: ρ) x d (r :: ρ') (i + 1)
theorem Put.get {ns : List Str} {ρ ρ' : Env'} {x : Str} {d : Dat} {i : Nat} (h : Put ns ρ x d ρ' i) : ns[i]? = some x ∧ ρ' = ρ.set i (some d) := by
  induction h with
  | head => exact ⟨rfl, rfl⟩
  | tail _ ih => exact ⟨by simpa using ih.1, by rw [ih.2]; rfl⟩
section
variable {c : Cx} {k : Nat} {env : Env} {ns gs : List Str} {ρ ρ' : Env'} {o : Own} {pos p : Pos} {Qn Qc : Env' → Own → Prop} {Qr : Dat → Prop}
theorem EV.nm {x : Str} {d : Dat} (S : Sc env ns gs) (h : At ns ρ x d) : EV c k env ns ρ o (.Name x pos) d := let ⟨i, h1, h2⟩ := h.get; EV.name S i h1 h2
theorem EV.cS {s : String} {u : Nat} : EV c k env ns ρ o (.Constant (.str (Str.ofString s)) u pos) (sD (tx s)) := EV.cStr
theorem EV.cB {l : List UInt8} {u : Nat} : EV c k env ns ρ o (.Constant (.bytes l) u pos) (bD l) := by
  intro h₀ K₀ K s A E Q st rm r
  exact PySem.W.Constant_bytes (r.here st.kn (.bytes _ s.toks))
theorem EV.conv {e : Expr} {d d' : Dat} (h : EV c k env ns ρ o e d) (q : d = d') : EV c k env ns ρ o e d' := q ▸ h
theorem TR.conv {e : Expr} {d d' : Bool} (h : TR c k env ns ρ o e d) (q : d = d') : TR c k env ns ρ o e d' := q ▸ h
theorem OwnFree.no {i : Nat} : OwnFree (Own.no).key i := fun _ e => nomatch e
theorem OwnFree.ne {i j : Nat} {a : Addr} {l : List Dat} (h : j ≠ i) : OwnFree (Own.lst j a l).key i := fun q e => by cases e; exact h
theorem EX.set {x : Str} {e : Expr} {d : Dat} {i : Nat} {ss : List Stmt} (S : Sc env ns gs) (he : EV c k env ns ρ o e d) (hp : Put ns ρ x d ρ' i) (hf : OwnFree o.key i) (h : EX c k env ns ρ' o ss Qn Qr Qc)
    (hs : swapsWith e (some (.Name x p)) pos.line env = pure false := by with_unfolding_all rfl) : EX c k env ns ρ o (.Assign [.Name x p] e pos :: ss) Qn Qr Qc := by
  obtain ⟨h1, rfl⟩ := hp.get
  exact EX.cons (EX1.assign S i h1 hf he h hs)
theorem EX.aug {x : Str} {e : Expr} {a b d : Dat} {op : Operator} {i : Nat} {ss : List Stmt} (S : Sc env ns gs) (ha : At ns ρ x a) (he : EV c k env ns ρ o e b) (hop : Op2 c (inplaceOp op) a b d) (hp : Put ns ρ x d ρ' i) (hf : OwnFree o.key i)
    (h : EX c k env ns ρ' o ss Qn Qr Qc) : EX c k env ns ρ o (.AugAssign (.Name x p) op e pos :: ss) Qn Qr Qc := by
  obtain ⟨h1, rfl⟩ := hp.get
  obtain ⟨j, h2, h3⟩ := ha.get
  have hij : j = i := (List.getElem?_inj (List.getElem?_eq_some_iff.mp h2).1 S.nodup).mp (h2.trans h1.symm)
  subst hij
  exact EX.cons (EX1.aug S j h1 h3 hf he hop h)
theorem EX.iff {t : Expr} {b : Bool} {x y ss : List Stmt} (ht : TR c k env ns ρ o t b) (hx : b = true → EX c k env ns ρ o x (fun ρ' o' => EX c k env ns ρ' o' ss Qn Qr Qc) Qr Qc) (hy : b = false → EX c k env ns ρ o y (fun ρ' o' => EX c k env ns ρ' o' ss Qn Qr Qc) Qr Qc) :
    EX c k env ns ρ o (.If t x y pos :: ss) Qn Qr Qc := EX.cons (EX1.if_ ht hx hy)
theorem EX.ret {e : Expr} {d : Dat} {ss : List Stmt} (he : EV c k env ns ρ o e d) (h : Qr d) : EX c k env ns ρ o (.Return (some e) pos :: ss) Qn Qr Qc := EX.cons (EX1.ret he h)
theorem deq_s (a b : List Nat) : deq (sD a) (sD b) = (a == b) := sS_beq a b
theorem deq_b (a b : List UInt8) : deq (bD a) (bD b) = (a == b) := by simp [deq]
theorem deq_i (a b : Int) : deq (.int a) (.int b) = (a == b) := rfl
theorem itemB' {l : List UInt8} {n : Nat} (h : n < l.length) (hz : l.length ≤ 16777216) : ItemOp c (bD l) (.int n) (.int ((nn l).getD n 0 : Nat)) := by
  rw [nn_getD]
  have : l[n]? = some (l.getD n 0) := by rw [List.getD_eq_getElem?_getD, List.getElem?_eq_getElem h]; rfl
  exact itemB this hz
theorem itemS' {l : List Nat} {n : Nat} (h : n < l.length) (hz : l.length ≤ 16777216) : ItemOp c (sD l) (.int n) (sD [l.getD n 0]) := by
  have : l[n]? = some (l.getD n 0) := by rw [List.getD_eq_getElem?_getD, List.getElem?_eq_getElem h]; rfl
  exact itemS this hz
theorem cutB' {l : List UInt8} {i j : Nat} (hz : l.length ≤ 16777216) : SliceOp c (bD l) (some (i : Int)) (some (j : Int)) (bD (cutL l (some i) (some j))) := cutB (lo := some i) (hi := some j) hz
theorem cutS' {l : List Nat} {i j : Nat} (hz : l.length ≤ 16777216) : SliceOp c (sD l) (some (i : Int)) (some (j : Int)) (sD (cutL l (some i) (some j))) := cutS (lo := some i) (hi := some j) hz
end
section
variable {c : Cx} {k : Nat} {env : Env} {ns gs : List Str} {ρ ρ' : Env'} {o : Own} {pos p : Pos} {Qn Qc : Env' → Own → Prop} {Qr : Dat → Prop}
theorem EV.chain {l r₁ r₂ : Expr} {op₁ op₂ : CmpOp} {a b d : Dat} {t u : Bool} (hl : EV c k env ns ρ o l a) (h1 : EV c k env ns ρ o r₁ b) (o1 : Op2 c (compareOp op₁) a b (.bool t)) (h2 : t = true → EV c k env ns ρ o r₂ d) (o2 : Op2 c (compareOp op₂) b d (.bool u))
    (hm : lastMarks [op₁, op₂] [r₁, r₂] = false := by with_unfolding_all rfl) : EV c k env ns ρ o (.Compare l [op₁, op₂] [r₁, r₂] pos) (.bool (t && u)) := by
  intro h₀ K₀ K s A E Q st rm r
  refine Compare_chain (hl _ _ _ _ _ _ _ st rm fun v K1 h1' t1 dv x1 kn1 s1 => ?_) hm
  have st1 := st.step x1 kn1 s1
  refine chain_link (h1 _ _ _ _ _ _ _ st1 rm fun w K2 h2' t2 dw x2 kn2 s2 => ?_)
  have st2 := st1.step x2 kn2 s2
  refine o1 _ _ _ _ _ _ _ st2.g kn2 (rm.le (Nat.zero_le _)) (DatIn.ext dv x2) dw fun y K3 h3' t3 dy x3 kn3 s3 => ?_
  have st3 := st2.step x3 kn3 s3
  cases dy
  refine wpAny_truthy_bool ?_
  cases t with
  | false => exact (((r.step x1 s1).step x2 s2).step x3 s3).here' kn3 (.bool _)
  | true =>
    rw [if_pos rfl]
    refine chain_last (h2 rfl _ _ _ _ _ _ _ st3 rm fun z K4 h4' t4 dz x4 kn4 s4 => ?_)
    exact o2 _ _ _ _ _ _ _ (st3.step x4 kn4 s4).g kn4 (rm.le (Nat.zero_le _)) (DatIn.ext (DatIn.ext dw x3) x4) dz ((((r.step x1 s1).step x2 s2).step x3 s3).step x4 s4)
theorem TR.chain {l r₁ r₂ : Expr} {op₁ op₂ : CmpOp} {a b d : Dat} {t u : Bool} (hl : EV c k env ns ρ o l a) (h1 : EV c k env ns ρ o r₁ b) (o1 : Op2 c (compareOp op₁) a b (.bool t)) (h2 : t = true → EV c k env ns ρ o r₂ d) (o2 : Op2 c (compareOp op₂) b d (.bool u))
    (hm : lastMarks [op₁, op₂] [r₁, r₂] = false := by with_unfolding_all rfl) : TR c k env ns ρ o (.Compare l [op₁, op₂] [r₁, r₂] pos) (t && u) := by
  intro h₀ K₀ K s A E Q st rm r
  refine isTrue_chain (hl _ _ _ _ _ _ _ st rm fun v K1 h1' t1 dv x1 kn1 s1 => ?_) hm
  have st1 := st.step x1 kn1 s1
  refine test_link (h1 _ _ _ _ _ _ _ st1 rm fun w K2 h2' t2 dw x2 kn2 s2 => ?_)
  have st2 := st1.step x2 kn2 s2
  refine o1 _ _ _ _ _ _ _ st2.g kn2 (rm.le (Nat.zero_le _)) (DatIn.ext dv x2) dw fun y K3 h3' t3 dy x3 kn3 s3 => ?_
  have st3 := st2.step x3 kn3 s3
  cases dy
  refine wpAny_truthy_bool ?_
  cases t with
  | false => exact (((r.step x1 s1).step x2 s2).step x3 s3).here' kn3 rfl
  | true =>
    rw [if_pos rfl]
    refine test_last (h2 rfl _ _ _ _ _ _ _ st3 rm fun z K4 h4' t4 dz x4 kn4 s4 => ?_)
    refine o2 _ _ _ _ _ _ _ (st3.step x4 kn4 s4).g kn4 (rm.le (Nat.zero_le _)) (DatIn.ext (DatIn.ext dw x3) x4) dz fun y K5 h5 t5 dy x5 kn5 s5 => ?_
    cases dy
    exact wpAny_truthy_bool (((((r.step x1 s1).step x2 s2).step x3 s3).step x4 s4) _ _ _ _ rfl x5 kn5 s5)
theorem EV.or2 {x y : Expr} {a b : Bool} (hx : EV c k env ns ρ o x (.bool a)) (hy : a = false → EV c k env ns ρ o y (.bool b)) : EV c k env ns ρ o (.BoolOp .Or [x, y] pos) (.bool (a || b)) := by
  intro h₀ K₀ K s A E Q st rm r
  refine BoolOp_or (hx _ _ _ _ _ _ _ st rm fun v K1 h1' t1 dv x1 kn1 s1 => ?_)
  have st1 := st.step x1 kn1 s1
  cases dv
  refine wpAny_truthy_bool ?_
  cases a with
  | true => exact (r.step x1 s1).here' kn1 (.bool _)
  | false =>
    rw [if_neg Bool.false_ne_true]
    refine BoolOp_one (hy rfl _ _ _ _ _ _ _ st1 rm fun w K2 h2' t2 dw x2 kn2 s2 => ?_)
    exact (r.step x1 s1) _ _ _ _ dw x2 kn2 s2
end
end
-- MK
local macro_rules | `(tactic| walk_at "at") => `(tactic| with_reducible first
  | exact At.head
  | (refine' At.tail ?a1; case a1 => walk_at "at"))
local macro_rules | `(tactic| walk_at "put") => `(tactic| with_reducible first
  | exact Put.head
  | (refine' Put.tail ?p1; case p1 => walk_at "put"))
local macro_rules | `(tactic| walk_at "bd") => `(tactic| with_reducible first
  | assumption
  | exact Nat.le_refl _)
local macro_rules | `(tactic| walk_at "op") => `(tactic| with_reducible first
  | (refine' addS ?z; case z => walk_at "add")
  | exact addI
  | exact subI
  | exact ltI
  | exact leI
  | exact gtI
  | exact geI
  | exact eqI
  | exact neI
  | exact eqS
  | exact neS
  | exact eqB
  | exact neB
  | exact isNone
  | exact isNotNone
  | exact leS)
local macro_rules | `(tactic| walk_at "mem") => `(tactic| with_reducible first
  | exact List.mem_cons_self
  | (refine' List.mem_cons_of_mem _ ?m1; case m1 => walk_at "mem"))
local macro_rules | `(tactic| walk_at "sz") => `(tactic| with_unfolding_all first
  | assumption
  | omega
  | decide
  | exact Nat.le_trans (cutL_len _ _ _) (by omega)
  | (simp only [nn_len, List.length_cons, List.length_nil, List.length_map, List.length_append] at *; omega))
local macro_rules | `(tactic| walk_at "len") => `(tactic| with_reducible first
  | (refine' lenB ?z; case z => walk_at "sz")
  | (refine' lenS ?z; case z => walk_at "sz")
  | (refine' lenL ?z; case z => walk_at "sz"))
local macro_rules | `(tactic| walk_at "item") => `(tactic| with_reducible first
  | (refine' itemT ?h ?z; (case h => with_unfolding_all rfl); (case z => with_unfolding_all exact Nat.le_of_ble_eq_true rfl))
  | (refine' itemB' ?i ?z; (case i => walk_at "ix"); (case z => walk_at "sz"))
  | (refine' itemS' ?i ?z; (case i => walk_at "ix"); (case z => walk_at "sz")))
local macro_rules | `(tactic| walk_at "ix") => `(tactic| with_unfolding_all first
  | assumption
  | omega
  | (simp only [decide_eq_true_eq, decide_eq_false_iff_not, Bool.not_eq_true, Bool.not_eq_false, beq_iff_eq] at *; omega))
local macro_rules | `(tactic| walk_at "cut") => `(tactic| with_reducible first
  | (refine' cutB' ?z; case z => walk_at "sz")
  | (refine' cutS' ?z; case z => walk_at "sz"))
local macro_rules | `(tactic| walk_at "evs") => `(tactic| with_reducible first
  | exact EVs.nil
  | (refine' EVs.cons ?e1 ?e2; (case e1 => walk_at "ev"); (case e2 => walk_at "evs")))
local macro_rules | `(tactic| walk_at "evp") => `(tactic| with_reducible first
  | exact EVp.no
  | (refine' EVp.yes ?e1; case e1 => walk_at "ev"))
local macro_rules | `(tactic| walk_at "ev") => `(tactic| with_reducible first
  | assumption
  | exact EV.cInt
  | exact EV.cS
  | exact EV.cNone
  | exact EV.cBool
  | exact EV.cB
  | (refine' EV.nm (by assumption) ?a1; case a1 => walk_at "at")
  | (refine' EV.bin ?e1 ?e2 ?e3; (case e1 => walk_at "ev"); (case e2 => walk_at "ev"); (case e3 => walk_at "op"))
  | (refine' EV.cmp ?e1 ?e2 ?e3; (case e1 => walk_at "ev"); (case e2 => walk_at "ev"); (case e3 => walk_at "op"))
  | (refine' EV.chain ?e1 ?e2 ?e3 (fun _ => ?e4) ?e5; (case e1 => walk_at "ev"); (case e2 => walk_at "ev"); (case e3 => walk_at "op"); (case e4 => walk_at "ev"); (case e5 => walk_at "op"))
  | (refine' EV.callB (by assumption) ?m (Pg.bLen (by assumption)) ?es ?op; (case m => walk_at "mem"); (case es => walk_at "evs"); (case op => walk_at "len"))
  | (refine' EV.sub ?e1 ?e2 ?e3; (case e1 => walk_at "ev"); (case e2 => walk_at "ev"); (case e3 => walk_at "item"))
  | (refine' EV.slice ?e1 ?e2 ?e3 ?e4; (case e1 => walk_at "ev"); (case e2 => walk_at "evp"); (case e3 => walk_at "evp"); (case e4 => walk_at "cut"))
  | (refine' EV.call (hj := ?hj) (by assumption) ?f ?m ?es ?op; (case f => walk_at "fn"); (case m => walk_at "mem"); (case es => walk_at "evs"); (case op => walk_at "opc"); (case hj => with_unfolding_all decide))
  | (refine' EV.lst ?e1 ?e2; (case e1 => walk_at "evs"); (case e2 => with_unfolding_all exact Nat.le_of_ble_eq_true rfl))
  | (refine' EV.tup ?e1 ?e2; (case e1 => walk_at "evs"); (case e2 => with_unfolding_all exact Nat.le_of_ble_eq_true rfl)))
local macro_rules | `(tactic| walk_at "tr") => `(tactic| with_reducible first
  | (refine' TR.cmp ?e1 ?e2 ?e3; (case e1 => walk_at "ev"); (case e2 => walk_at "ev"); (case e3 => walk_at "op"))
  | (refine' TR.chain ?e1 ?e2 ?e3 (fun _ => ?e4) ?e5; (case e1 => walk_at "ev"); (case e2 => walk_at "ev"); (case e3 => walk_at "op"); (case e4 => walk_at "ev"); (case e5 => walk_at "op"))
  | (refine' TR.not ?e1; case e1 => walk_at "tr")
  | (refine' TR.and2 ?e1 (fun _ => ?e2); (case e1 => walk_at "tr"); (case e2 => walk_at "tr"))
  | (refine' TR.and3 ?e1 (fun _ => ?e2) (fun _ _ => ?e3); (case e1 => walk_at "tr"); (case e2 => walk_at "tr"); (case e3 => walk_at "tr"))
  | (refine' TR.or2 ?e1 (fun _ => ?e2); (case e1 => walk_at "tr"); (case e2 => walk_at "tr"))
  | (refine' TR.or4 ?e1 (fun _ => ?e2) (fun _ _ => ?e3) (fun _ _ _ => ?e4); (case e1 => walk_at "tr"); (case e2 => walk_at "tr"); (case e3 => walk_at "tr"); (case e4 => walk_at "tr"))
  | (refine' TR.of ?e1 OpT.bool; case e1 => walk_at "ev"))
local macro_rules | `(tactic| walk_at "fn") => `(tactic| with_reducible first
  | exact Pg.is_space_ (by assumption)
  | exact Pg.is_upper_ (by assumption)
  | exact Pg.is_letter_ (by assumption)
  | exact Pg.lower_ (by assumption)
  | exact Pg.lower_text_ (by assumption)
  | exact Pg.label_rows_ (by assumption)
  | exact Pg.skip_spaces_ (by assumption)
  | exact Pg.encoding_of_ (by assumption)
  | exact Pg.bom_of_ (by assumption)
  | exact Pg.gaps_ (by assumption)
  | exact Pg.skip_ (by assumption)
  | exact Pg.seek_ (by assumption)
  | exact Pg.folded_ (by assumption)
  | exact Pg.get_attribute_ (by assumption)
  | exact Pg.told_charset_ (by assumption)
  | exact Pg.content_charset_ (by assumption)
  | exact Pg.tag_end_ (by assumption)
  | exact Pg.read_meta_ (by assumption)
  | exact Pg.pass_over_ (by assumption)
  | exact Pg.skip_low_ (by assumption)
  | exact Pg.xml_encoding_ (by assumption)
  | exact Pg.l_digit_ (by assumption)
  | exact Pg.l_labels_ (by assumption)
  | exact Pg.l_cased_ (by assumption)
  | exact Pg.l_declaration_ (by assumption)
  | exact Pg.l_prefix_ (by assumption)
  | exact Pg.l_attribute_ (by assumption)
  | exact Pg.l_meta_ (by assumption)
  | exact Pg.l_inert_ (by assumption)
  | exact Pg.l_piece_ (by assumption)
  | exact Pg.l_wish_ (by assumption)
  | exact Pg.l_found_ (by assumption)
  | exact Pg.l_octets_ (by assumption))
local macro_rules | `(tactic| walk_at "opc") => `(tactic| with_reducible first
  | assumption)
local macro_rules | `(tactic| walk_at "own") => `(tactic| with_reducible first
  | exact OwnFree.no
  | exact OwnFree.ne (by with_unfolding_all decide))
local macro_rules | `(tactic| walk_at "set") => `(tactic| (refine' EX.set (by assumption) ?e1 ?e2 ?e3 ?e4; (case e1 => walk_at "ev"); (case e2 => walk_at "put"); (case e3 => walk_at "own")))
local macro_rules | `(tactic| walk_at "aug") => `(tactic| (refine' EX.aug (by assumption) ?e0 ?e1 ?e5 ?e2 ?e3 ?e4; (case e0 => walk_at "at"); (case e1 => walk_at "ev"); (case e5 => walk_at "op"); (case e2 => walk_at "put"); (case e3 => walk_at "own")))
local macro_rules | `(tactic| walk_at "ret") => `(tactic| (refine' EX.ret ?e1 ?e2; (case e1 => walk_at "ev")))
local macro_rules | `(tactic| walk_at "if") => `(tactic| first
  | (refine' EX.iff ?e1 ?e2 ?e3; (case e1 => walk_at "tr")))
local macro_rules | `(tactic| walk_at "bool") => `(tactic| simp only [Bool.and_eq_true, Bool.or_eq_true, Bool.not_eq_true', Bool.and_eq_false_iff, Bool.or_eq_false_iff, decide_eq_true_eq, decide_eq_false_iff_not, beq_iff_eq, beq_eq_false_iff_ne, bne_iff_ne, ne_eq] at *)
local macro_rules | `(tactic| walk_at "nils") => `(tactic| repeat ((with_reducible refine' EX.nil ?_); (try dsimp only)))
local macro_rules | `(tactic| walk_at "fn") => `(tactic| with_reducible first
  | exact Pg.is_space_ (by assumption) | exact Pg.is_upper_ (by assumption) | exact Pg.is_letter_ (by assumption) | exact Pg.lower_ (by assumption) | exact Pg.lower_text_ (by assumption)
  | exact Pg.skip_spaces_ (by assumption))
noncomputable def isSp (x : Nat) : Bool := [9, 10, 12, 13, 32].contains x
theorem is_space_ok {c : Cx} (P : Pg c) (x : Nat) : OpC c (.ref 21) 1 [sD [x]] (.bool (isSp x)) := by
  refine Fn.ok (ps := ["c"]) (os := []) (gs := []) P.is_space_ (by decide +kernel) (fun pm cd s => vs1 fun v => BindsTo.of_eq rfl) rfl (fun env S => ?_)
  dsimp only [List.cons_append, List.nil_append, List.map] at S ⊢
  refine' EX.ret ?e1 ?e2
  case e1 =>
    refine' EV.cmp ?a ?b (inTup ?k)
    case a => walk_at "ev"
    case b => walk_at "ev"
    case k => intro y hy; simp only [List.mem_cons, List.not_mem_nil, or_false] at hy; rcases hy with rfl | rfl | rfl | rfl | rfl <;> rfl
  case e2 =>
    simp only [List.any_cons, List.any_nil, deq_s, isSp]
    rw [show tx "\t" = [9] from by decide +kernel, show tx "\n" = [10] from by decide +kernel, show tx "\x0c" = [12] from by decide +kernel, show tx "\x0d" = [13] from by decide +kernel, show tx " " = [32] from by decide +kernel]
    simp [Bool.beq_eq_decide_eq, eq_comm]
theorem lex1 (a b : Nat) : (!decide (([b] : List Nat) < [a])) = decide (a ≤ b) := by
  rw [Bool.eq_iff_iff]; simp [List.cons_lt_cons_iff]
noncomputable def isUp (x : Nat) : Bool := decide (65 ≤ x) && decide (x ≤ 90)
theorem is_upper_ok {c : Cx} (P : Pg c) (x : Nat) : OpC c (.ref 28) 1 [sD [x]] (.bool (isUp x)) := by
  refine Fn.ok (ps := ["c"]) (os := []) (gs := []) P.is_upper_ (by decide +kernel) (fun pm cd s => vs1 fun v => BindsTo.of_eq rfl) rfl (fun env S => ?_)
  dsimp only [List.cons_append, List.nil_append, List.map] at S ⊢
  refine' EX.ret ?e1 ?e2
  case e1 => walk_at "ev"
  case e2 =>
    rw [show tx "A" = [65] from by decide +kernel, show tx "Z" = [90] from by decide +kernel, lex1, lex1]
    rfl
noncomputable def isLet (x : Nat) : Bool := (decide (97 ≤ x) && decide (x ≤ 122)) || (decide (65 ≤ x) && decide (x ≤ 90))
theorem is_letter_ok {c : Cx} (P : Pg c) (x : Nat) : OpC c (.ref 35) 1 [sD [x]] (.bool (isLet x)) := by
  refine Fn.ok (ps := ["c"]) (os := []) (gs := []) P.is_letter_ (by decide +kernel) (fun pm cd s => vs1 fun v => BindsTo.of_eq rfl) rfl (fun env S => ?_)
  dsimp only [List.cons_append, List.nil_append, List.map] at S ⊢
  refine' EX.ret ?e1 ?e2
  case e1 =>
    refine' EV.or2 ?a (fun _ => ?b)
    case a => walk_at "ev"
    case b => walk_at "ev"
  case e2 =>
    rw [show tx "A" = [65] from by decide +kernel, show tx "Z" = [90] from by decide +kernel, show tx "a" = [97] from by decide +kernel, show tx "z" = [122] from by decide +kernel, lex1, lex1, lex1, lex1]
    rfl
theorem lower_ok {c : Cx} (P : Pg c) (x : Nat) (hx : x < 1000000) : OpC c (.ref 42) 2 [sD [x]] (sD [lo1 x]) := by
  refine Fn.ok (ps := ["c"]) (os := []) (gs := ["is_upper", "chr", "ord"]) P.lower_ (by decide +kernel) (fun pm cd s => vs1 fun v => BindsTo.of_eq rfl) rfl (fun env S => ?_)
  dsimp only [List.cons_append, List.nil_append, List.map] at S ⊢
  refine' EX.iff (b := isUp x) ?t ?a ?b
  case t =>
    refine' TR.of (EV.call S P.is_upper_ ?m ?es (is_upper_ok P x)) OpT.bool
    case m => walk_at "mem"
    case es => walk_at "evs"
  case a =>
    intro h
    refine' EX.ret ?e1 ?e2
    case e1 =>
      refine' EV.callB S ?m P.bChr (EVs.cons (EV.conv (d' := .int ((x + 32 : Nat) : Int)) (EV.bin (EV.callB S ?m2 P.bOrd ?es ordS) ?e ?o) ?q) EVs.nil) (chrI ?r)
      case m => walk_at "mem"
      case m2 => walk_at "mem"
      case es => walk_at "evs"
      case e => walk_at "ev"
      case o => walk_at "op"
      case q => rfl
      case r => omega
    case e2 =>
      unfold isUp at h
      simp only [Bool.and_eq_true, decide_eq_true_eq] at h
      unfold lo1; rw [if_pos h]
  case b =>
    intro h
    refine' EX.nil ?_
    refine' EX.ret ?e1 ?e2
    case e1 => walk_at "ev"
    case e2 =>
      unfold isUp at h
      simp only [Bool.and_eq_false_iff, decide_eq_false_iff_not] at h
      unfold lo1; rw [if_neg (by omega)]
theorem lower_text_ok {c : Cx} (P : Pg c) (l : List Nat) (hx : ∀ x ∈ l, x < 1000000) (hz : l.length ≤ 16000000) : OpC c (.ref 49) 3 [sD l] (sD (l.map lo1)) := by
  refine Fn.ok (ps := ["text"]) (os := ["out", "c"]) (gs := ["lower"]) P.lower_text_ (by decide +kernel) (fun pm cd s => vs1 fun v => BindsTo.of_eq rfl) rfl (fun env S => ?_)
  dsimp only [List.cons_append, List.nil_append, List.map] at S ⊢
  refine' EX.cons (EX1.assignOwn S 1 rfl rfl EVs.nil (by decide) fun a => ?_)
  refine' EX.cons (EX1.for_ (items := chD l) (f := fun d ρ => ρ.set 2 (some d)) (SRC.of (u := false) ?ei iterS) (fun d _ => TG.name S 2 rfl (OwnFree.ne (by decide)))
    (fun i ρ o => (∃ r, ρ = [some (sD l), none, r]) ∧ o = .lst 1 a (sDs ((l.take i).map fun x => [lo1 x]))) ⟨⟨none, rfl⟩, rfl⟩ ?ow ?st ?fi (.inr fun _ _ => rfl))
  case ei => walk_at "ev"
  case ow => rintro i ρ o ⟨_, rfl⟩; rfl
  case st =>
    rintro i d ρ o hd ⟨⟨r, rfl⟩, rfl⟩
    unfold chD at hd
    rw [List.getElem?_map] at hd
    cases hl : l[i]? with
    | none => rw [hl] at hd; cases hd
    | some x =>
      rw [hl] at hd
      cases hd
      dsimp only [List.set]
      refine' EX.cons (EX1.append (d := sD [lo1 x]) S rfl ?e ?z ?q)
      case e =>
        refine' EV.call S P.lower_ ?m ?es (lower_ok P x (hx x (List.mem_of_getElem? hl)))
        case m => walk_at "mem"
        case es => walk_at "evs"
      case z => simp only [sDs, List.length_map, List.length_take]; omega
      case q =>
        refine' EX.nil ⟨⟨_, rfl⟩, ?_⟩
        rw [List.take_add_one, hl]
        simp [sDs]
  case fi =>
    rintro ρ o ⟨⟨r, rfl⟩, rfl⟩
    refine' EX.ret (EV.frz S rfl ?e) rfl
    case e =>
      dsimp only [List.set]
      have hl : (chD l).length = l.length := by simp [chD]
      rw [hl, List.take_length]
      have hf : (l.map fun x => [lo1 x]).flatten = l.map lo1 := by
        induction l with
        | nil => rfl
        | cons x l ih => simp [ih (fun y hy => hx y (.tail _ hy)) (by simp at hz; omega) (by simp [chD])]
      rw [← hf]
      refine' EV.join ?e1 ?e2 ?z
      case e1 => exact EV.conv EV.cS (by rw [show tx "" = [] from by decide +kernel])
      case e2 => walk_at "ev"
      case z => rw [hf, List.length_map]; omega
section
noncomputable abbrev nD (n : Nat) : Dat := .int ((n : Nat) : Int)
section
variable {c : Cx} {k : Nat} {env : Env} {ns gs : List Str} {ρ ρ' : Env'} {o : Own} {pos p : Pos}
theorem EV.cN {n u : Nat} : EV c k env ns ρ o (.Constant (.int (@OfNat.ofNat Int n instOfNat)) u pos) (nD (@OfNat.ofNat Nat n (instOfNatNat n))) := EV.cInt
theorem addN {a b : Nat} : Op2 c (binaryOp .Add) (nD a) (nD b) (nD (a + b)) := addI
theorem iaddN {a b : Nat} : Op2 c (inplaceOp .Add) (nD a) (nD b) (nD (a + b)) := iaddI
theorem subN {a b : Nat} (h : b ≤ a) : Op2 c (binaryOp .Sub) (nD a) (nD b) (nD (a - b)) := by
  have := subI (c := c) (a := a) (b := b)
  rw [← Int.ofNat_sub h] at this; exact this
theorem isubN {a b : Nat} (h : b ≤ a) : Op2 c (inplaceOp .Sub) (nD a) (nD b) (nD (a - b)) := by
  have := isubI (c := c) (a := a) (b := b)
  rw [← Int.ofNat_sub h] at this; exact this
theorem ltN {a b : Nat} : Op2 c (compareOp .Lt) (nD a) (nD b) (.bool (decide (a < b))) := by
  have := ltI (c := c) (a := a) (b := b)
  rw [decide_eq_decide.mpr (Int.ofNat_lt (n := a) (m := b))] at this; exact this
theorem leN {a b : Nat} : Op2 c (compareOp .LtE) (nD a) (nD b) (.bool (decide (a ≤ b))) := by
  have := leI (c := c) (a := a) (b := b)
  rw [decide_eq_decide.mpr (Int.ofNat_le (m := a) (n := b))] at this; exact this
theorem gtN {a b : Nat} : Op2 c (compareOp .Gt) (nD a) (nD b) (.bool (decide (b < a))) := by
  have := gtI (c := c) (a := a) (b := b)
  rw [decide_eq_decide.mpr (Int.ofNat_lt (n := b) (m := a))] at this; exact this
theorem geN {a b : Nat} : Op2 c (compareOp .GtE) (nD a) (nD b) (.bool (decide (b ≤ a))) := by
  have := geI (c := c) (a := a) (b := b)
  rw [decide_eq_decide.mpr (Int.ofNat_le (m := b) (n := a))] at this; exact this
theorem nbeq (a b : Nat) : ((a : Int) == (b : Int)) = (a == b) := by
  rw [Bool.eq_iff_iff, beq_iff_eq, beq_iff_eq]; exact Int.ofNat_inj
theorem eqN {a b : Nat} : Op2 c (compareOp .Eq) (nD a) (nD b) (.bool (a == b)) := by
  have := eqI (c := c) (a := a) (b := b)
  rw [nbeq] at this; exact this
theorem neN {a b : Nat} : Op2 c (compareOp .NotEq) (nD a) (nD b) (.bool (a != b)) := by
  have := neI (c := c) (a := a) (b := b)
  rw [show ((a : Int) != (b : Int)) = (a != b) from by unfold bne; rw [nbeq]] at this; exact this
noncomputable def nI (T : List Nat) : List Dat := T.map nD
theorem nI_ok (T : List Nat) (x : Nat) : ∀ y ∈ nI T, dok y (nD x) = true := by
  intro y hy; unfold nI at hy; rw [List.mem_map] at hy; obtain ⟨z, _, rfl⟩ := hy; rfl
theorem nI_any (T : List Nat) (x : Nat) : ((nI T).any fun y => deq y (nD x)) = T.contains x := by
  unfold nI
  rw [List.any_map, List.contains_eq_any_beq]
  congr 1; funext z
  show ((z : Int) == (x : Int)) = (x == z)
  rw [nbeq, Bool.eq_iff_iff, beq_iff_eq, beq_iff_eq]; exact eq_comm
theorem inN {x : Nat} {T : List Nat} : Op2 c (compareOp .In) (nD x) (.tuple (nI T)) (.bool (T.contains x)) := by
  have := inTup (c := c) (d := nD x) (ds := nI T) (nI_ok T x)
  rw [nI_any] at this; exact this
theorem notInN {x : Nat} {T : List Nat} : Op2 c (compareOp .NotIn) (nD x) (.tuple (nI T)) (.bool (!T.contains x)) := by
  have := notInTup (c := c) (d := nD x) (ds := nI T) (nI_ok T x)
  rw [nI_any] at this; exact this
theorem EX.if0 {Qn Qc : Env' → Own → Prop} {Qr : Dat → Prop} {t : Expr} {b : Bool} {x ss : List Stmt} (ht : TR c k env ns ρ o t b) (hx : b = true → EX c k env ns ρ o x (fun ρ' o' => EX c k env ns ρ' o' ss Qn Qr Qc) Qr Qc) (hy : b = false → EX c k env ns ρ o ss Qn Qr Qc) :
    EX c k env ns ρ o (.If t x [] pos :: ss) Qn Qr Qc := EX.iff ht hx fun h => EX.nil (hy h)
theorem EVs.consN {e : Expr} {es : List Expr} {n : Nat} {T : List Nat} (he : EV c k env ns ρ o e (nD n)) (hs : EVs c k env ns ρ o es (nI T)) (hst : isStar e = false := by with_unfolding_all rfl) : EVs c k env ns ρ o (e :: es) (nI (n :: T)) := EVs.cons he hs hst
theorem EVs.nilN : EVs c k env ns ρ o [] (nI []) := EVs.nil
theorem EV.tupN {es : List Expr} {u : Nat} {T : List Nat} (h : EVs c k env ns ρ o es (nI T)) (hz : T.length ≤ 16777216 := by with_unfolding_all decide) : EV c k env ns ρ o (.Tuple es u pos) (.tuple (nI T)) := EV.tup h (by simpa [nI] using hz)
theorem addTN {a b : List Nat} (ha : a ≠ [] := by with_unfolding_all decide) (hb : b ≠ [] := by with_unfolding_all decide) (hz : a.length + b.length ≤ 16777216 := by with_unfolding_all decide) : Op2 c (binaryOp .Add) (.tuple (nI a)) (.tuple (nI b)) (.tuple (nI (a ++ b))) := by
  have := addT (c := c) (a := nI a) (b := nI b) (by simpa [nI] using ha) (by simpa [nI] using hb) (by simpa [nI] using hz)
  rwa [show nI a ++ nI b = nI (a ++ b) from by simp [nI]] at this
end
noncomputable def run (p : Nat → Bool) (l : List Nat) (at_ : Nat) : Nat := at_ + ((l.drop at_).takeWhile p).length
theorem run_step {p : Nat → Bool} {l : List Nat} {a : Nat} (h : a < l.length) (hp : p (l.getD a 0) = true) : run p l (a + 1) = run p l a := by
  unfold run
  rw [List.drop_eq_getElem_cons h]
  rw [List.getD_eq_getElem?_getD, List.getElem?_eq_getElem h] at hp
  rw [List.takeWhile_cons, if_pos (by exact hp), List.length_cons]; omega
theorem run_stop {p : Nat → Bool} {l : List Nat} {a : Nat} (h : a < l.length → p (l.getD a 0) = false) : run p l a = a := by
  unfold run
  by_cases hl : a < l.length
  · have hp := h hl
    rw [List.drop_eq_getElem_cons hl]
    rw [List.getD_eq_getElem?_getD, List.getElem?_eq_getElem hl] at hp
    rw [List.takeWhile_cons, if_neg (by show ¬ p l[a] = true; simp only [Option.getD_some] at hp; simp [hp])]; rfl
  · rw [List.drop_eq_nil_of_le (by omega)]; rfl
theorem run_ge (p : Nat → Bool) (l : List Nat) (a : Nat) : a ≤ run p l a := by unfold run; omega
theorem run_le {p : Nat → Bool} {l : List Nat} {a : Nat} (h : a ≤ l.length) : run p l a ≤ l.length := by
  unfold run
  have := (List.takeWhile_sublist p (l := l.drop a)).length_le
  rw [List.length_drop] at this; omega
end
-- MN
local macro_rules | `(tactic| walk_at "op") => `(tactic| with_reducible first
  | exact addN
  | exact iaddN
  | exact ltN
  | exact leN
  | exact gtN
  | exact geN
  | exact eqN
  | exact neN
  | exact inN
  | exact notInN
  | exact addTN
  | (refine' subN ?z; case z => walk_at "ix")
  | (refine' isubN ?z; case z => walk_at "ix")
  | fail "no")
local macro_rules | `(tactic| walk_at "evsn") => `(tactic| with_reducible first
  | exact EVs.nilN
  | (refine' EVs.consN ?e1 ?e2; (case e1 => walk_at "ev"); (case e2 => walk_at "evsn")))
local macro_rules | `(tactic| walk_at "ev") => `(tactic| with_reducible first
  | exact EV.cN
  | (refine' EV.tupN (hz := ?hz) ?e1; (case e1 => walk_at "evsn"); (case hz => with_unfolding_all exact Nat.le_of_ble_eq_true rfl))
  | fail "no")
local macro_rules | `(tactic| walk_at "opc") => `(tactic| with_reducible first
  | exact is_space_ok (by assumption) _
  | exact is_upper_ok (by assumption) _
  | exact is_letter_ok (by assumption) _
  | fail "no")
local macro_rules | `(tactic| walk_at "if") => `(tactic| first
  | (refine' EX.if0 ?e1 ?e2 ?e3; (case e1 => walk_at "tr"))
  | (refine' EX.iff ?e1 ?e2 ?e3; (case e1 => walk_at "tr")))
theorem skip_spaces_ok {c : Cx} (P : Pg c) {l : List Nat} {n : Nat} (hz : l.length ≤ 16000000) : OpC c (.ref 63) 2 [sD l, nD n] (nD (run isSp l n)) := by
  refine Fn.ok (ps := ["text", "at"]) (os := []) (gs := ["len", "is_space"]) P.skip_spaces_ (by decide +kernel) (fun pm cd s => vs2 fun v w => BindsTo.of_eq rfl) rfl (fun env S => ?_)
  dsimp only [List.cons_append, List.nil_append, List.map] at S ⊢
  refine' EX.cons (EX1.while_ (fun m ρ o => ∃ a, ρ = [some (sD l), some (nD a)] ∧ o = .no ∧ m = l.length - a ∧ run isSp l a = run isSp l n) (l.length - n) ⟨n, rfl, rfl, rfl, rfl⟩ ?turn)
  rintro m ρ o ⟨a, rfl, rfl, rfl, hr⟩
  refine' ⟨decide (a < l.length) && isSp (l.getD a 0), by walk_at "tr", fun h => ?_, fun h => ?_⟩
  · simp only [Bool.and_eq_true, decide_eq_true_eq] at h
    walk_at "aug"
    exact EX.nil ⟨l.length - (a + 1), by omega, a + 1, rfl, rfl, rfl, (run_step h.1 h.2).trans hr⟩
  · simp only [Bool.and_eq_false_iff, decide_eq_false_iff_not] at h
    walk_at "ret"
    rw [← hr, run_stop (fun hl => h.resolve_left (fun q => q hl))]
theorem gaps_ok {c : Cx} (P : Pg c) : OpC c (.ref 84) 1 [] (.tuple (nI [9, 10, 12, 13, 32])) := by
  refine Fn.ok (ps := []) (os := []) (gs := []) P.gaps_ (by decide +kernel) (fun pm cd s => vs0 (BindsTo.of_eq rfl)) rfl (fun env S => ?_)
  dsimp only [List.cons_append, List.nil_append, List.map] at S ⊢
  walk_at "ret"
  rfl
theorem skip_ok {c : Cx} (P : Pg c) {l : List UInt8} {n : Nat} {T : List Nat} (hz : l.length ≤ 16000000) : OpC c (.ref 91) 1 [bD l, nD n, .tuple (nI T)] (nD (run (T.contains ·) (nn l) n)) := by
  refine Fn.ok (ps := ["octets", "at", "those"]) (os := []) (gs := ["len"]) P.skip_ (by decide +kernel) (fun pm cd s => vs3 fun v w x => BindsTo.of_eq rfl) rfl (fun env S => ?_)
  dsimp only [List.cons_append, List.nil_append, List.map] at S ⊢
  refine' EX.cons (EX1.while_ (fun m ρ o => ∃ a, ρ = [some (bD l), some (nD a), some (.tuple (nI T))] ∧ o = .no ∧ m = l.length - a ∧ run (T.contains ·) (nn l) a = run (T.contains ·) (nn l) n) (l.length - n) ⟨n, rfl, rfl, rfl, rfl⟩ ?turn)
  rintro m ρ o ⟨a, rfl, rfl, rfl, hr⟩
  refine' ⟨decide (a < l.length) && T.contains ((nn l).getD a 0), by walk_at "tr", fun h => ?_, fun h => ?_⟩
  · simp only [Bool.and_eq_true, decide_eq_true_eq] at h
    walk_at "aug"
    exact EX.nil ⟨l.length - (a + 1), by omega, a + 1, rfl, rfl, rfl, (run_step (by simpa using h.1) h.2).trans hr⟩
  · simp only [Bool.and_eq_false_iff, decide_eq_false_iff_not] at h
    walk_at "ret"
    rw [← hr, run_stop (fun hl => h.resolve_left (fun q => q (by simpa using hl)))]
theorem seek_ok {c : Cx} (P : Pg c) {l : List UInt8} {n : Nat} {T : List Nat} (hz : l.length ≤ 16000000) : OpC c (.ref 98) 1 [bD l, nD n, .tuple (nI T)] (nD (run (fun x => !T.contains x) (nn l) n)) := by
  refine Fn.ok (ps := ["octets", "at", "those"]) (os := []) (gs := ["len"]) P.seek_ (by decide +kernel) (fun pm cd s => vs3 fun v w x => BindsTo.of_eq rfl) rfl (fun env S => ?_)
  dsimp only [List.cons_append, List.nil_append, List.map] at S ⊢
  refine' EX.cons (EX1.while_ (fun m ρ o => ∃ a, ρ = [some (bD l), some (nD a), some (.tuple (nI T))] ∧ o = .no ∧ m = l.length - a ∧ run (fun x => !T.contains x) (nn l) a = run (fun x => !T.contains x) (nn l) n) (l.length - n) ⟨n, rfl, rfl, rfl, rfl⟩ ?turn)
  rintro m ρ o ⟨a, rfl, rfl, rfl, hr⟩
  refine' ⟨decide (a < l.length) && !T.contains ((nn l).getD a 0), by walk_at "tr", fun h => ?_, fun h => ?_⟩
  · simp only [Bool.and_eq_true, decide_eq_true_eq] at h
    walk_at "aug"
    exact EX.nil ⟨l.length - (a + 1), by omega, a + 1, rfl, rfl, rfl, (run_step (p := fun x => !T.contains x) (by simpa using h.1) h.2).trans hr⟩
  · simp only [Bool.and_eq_false_iff, decide_eq_false_iff_not] at h
    walk_at "ret"
    rw [← hr, run_stop (p := fun x => !T.contains x) (fun hl => h.resolve_left (fun q => q (by simpa using hl)))]
noncomputable def oD : Option (List Nat) → Dat
  | none => .none
  | some l => sD l
noncomputable def bomM (l : List UInt8) : Option (List Nat) :=
  if cutL l (some 0) (some 3) == [239, 187, 191] then some (tx "UTF-8") else if cutL l (some 0) (some 2) == [254, 255] then some (tx "UTF-16BE") else if cutL l (some 0) (some 2) == [255, 254] then some (tx "UTF-16LE") else none
theorem bom_of_ok {c : Cx} (P : Pg c) {l : List UInt8} (hz : l.length ≤ 16000000) : OpC c (.ref 77) 1 [bD l] (oD (bomM l)) := by
  refine Fn.ok (ps := ["octets"]) (os := []) (gs := []) P.bom_of_ (by decide +kernel) (fun pm cd s => vs1 fun v => BindsTo.of_eq rfl) rfl (fun env S => ?_)
  dsimp only [List.cons_append, List.nil_append, List.map] at S ⊢
  unfold bomM
  walk_at "if" <;> intro ht
  · walk_at "ret"
    rw [if_pos ht]; rfl
  simp only [ht, if_false, Bool.false_eq_true]
  walk_at "if" <;> intro ht
  · walk_at "ret"
    rw [if_pos ht]; rfl
  simp only [ht, if_false, Bool.false_eq_true]
  walk_at "if" <;> intro ht
  · walk_at "ret"
    rw [if_pos ht]; rfl
  simp only [ht, if_false, Bool.false_eq_true]
  walk_at "ret"
  rfl
section
section
variable {prog : Program} {w : World} {A : Around} {R : Result → Shared → Prop} {s : Shared}
theorem compLoop_own {elt target iter : Expr} {scope : Scope} {pos : Pos} {it acc : Value} {env : Env} (I : Nat → Shared → Prop)
    (turn : ∀ n s, I n s → wpAny (model prog w) A (pyNext it) (fun r s₁ => match r with
      | none => R (.ok .next) s₁
      | some v => wpAny (model prog w) A (letOwnedTupleGo target it v) (fun _ s₂ => wpAny (model prog w) A (assign target env v) (fun _ s₃ =>
          wpAny (model prog w) A (eval elt env) (fun x s₄ =>
              wpAny (model prog w) A (call (.builtin "list.append") [acc, x]) (fun _ s₅ => ∃ m, m < n ∧ I m s₅) (notedBy (model prog w) A env fun e s' => R (.error e) s') s₄) (notedBy (model prog w) A env fun e s' => R (.error e) s') s₃)
            (notedBy (model prog w) A env fun e s' => R (.error e) s') s₂) (notedBy (model prog w) A env fun e s' => R (.error e) s') s₁) (notedBy (model prog w) A env fun e s' => R (.error e) s') s)
    (n : Nat) (h : I n s) :
    codeAny (model prog w) A (.compLoop (.ListComp elt [⟨target, iter, [], 0⟩] scope pos) 0 it acc env) R s := by
  refine codeAny_loop rfl I (fun n s hI => ?_) n h
  show wpAny _ A ((compTurn (.ListComp elt [⟨target, iter, [], 0⟩] scope pos) 0 it acc env).onRaise (fun x => do noteFrame x env; theTreesLotGoes x)) _ _ s
  refine wpAny_noted ?_
  rw [compTurn_list]
  refine wpAny_bind (wpAny_standAt (wpAny_bind (wpAny_mono (turn n s hI) (fun r s₁ h₁ => ?_) fun _ _ h' => h')))
  cases r with
  | none => exact wpAny_pure h₁
  | some v =>
    refine wpAny_bind (wpAny_mono h₁ (fun _ s₂ h₂ => wpAny_bind (wpAny_mono h₂ (fun _ s₃ h₃ => wpAny_bind (wpAny_mono (wpAny_tests_nil (Q := fun ok s' => ok = true ∧ s' = s₃) ⟨rfl, rfl⟩) (fun ok s' h' => ?_) fun _ _ h' => h')) fun _ _ h' => h')) fun _ _ h' => h')
    obtain ⟨rfl, rfl⟩ := h'
    exact wpAny_bind (wpAny_bind (wpAny_mono h₃ (fun x s₄ h₄ => wpAny_bind (wpAny_mono h₄ (fun _ s₅ h₅ => wpAny_pure (wpAny_pure ⟨rfl, h₅⟩)) fun _ _ h' => h')) fun _ _ h' => h'))
end
section
variable {c : Cx} {k : Nat} {env : Env} {ns ns' gs : List Str} {ρ : Env'} {o : Own} {pos p : Pos} {Qn Qc : Env' → Own → Prop} {Qr : Dat → Prop}
noncomputable def noE (ns : List Str) : Env' := ns.map fun _ => none
theorem St.forget {h₀ : Heap} {K₀ K : Led} {h : Heap} (st : St c h₀ K₀ env ns ρ .no K h) : St c h₀ K₀ env ns (noE ns) .no K h := by
  obtain ⟨m, n, _, _⟩ := st.loc
  refine ⟨⟨m, n, fun i x d e1 e2 => ?_, trivial⟩, st.g0, st.keep, st.fr, st.kn, st.off, st.ext, st.base⟩
  unfold noE at e2; rw [List.getElem?_map, e1] at e2; cases e2
theorem comp_core {u : Bool} {elt target iter : Expr} {scope : Scope} {cl : List (Str × Addr)} {items : List Dat} {f : Dat → Env' → Env'} {g : Dat → Dat} (hi : SRC c k env ns ρ o u iter items)
    (hcell : ∀ y ∈ scope.names, y.2 ≠ .cell) (hkind : scope.kind = .function)
    (ht : ∀ d ∈ items, ∀ C, TG c (compEnvC scope cl C env) ns' none target d (f d))
    (he : ∀ d ∈ items, ∀ C, EV c k (compEnvC scope cl C env) ns' (f d (noE ns')) .no elt (g d))
    (hz : items.length ≤ 16777215) (hu : u = true ∨ ∀ it v, letOwnedTupleGo target it v = pure ())
    {h₀ : Heap} {K₀ K : Led} {s : Shared} {A : Around} {E : Value → Shared → Prop} (RR : Value → Addr → Result → Shared → Prop) (st : St c h₀ K₀ env ns ρ o K s.heap) (rm : Room k A)
    (hRR : ∀ D C h' tk K', DatIn K' (.ref D) (.list (items.map g)) → KExt s.heap K K' → Kn h' K' → (∀ p ∈ K', p.1 ≠ C) → (∃ m, h'.Ns C m) → s.heap.get? C = none → Stays s.heap h' → RR (.ref D) C (.ok .next) { s with heap := h', toks := tk }) :
    wpAny (model c.prog c.w) A (eval iter env) (fun xv s₁ => wpAny (model c.prog c.w) A (pyIter xv) (fun it s₂ => wpAny (model c.prog c.w) A (newList []) (fun acc s₃ => wpAny (model c.prog c.w) A (newFunctionEnv scope env.globals cl [] env.qual none .none (some env)) (fun cenv s₄ =>
      codeAny (model c.prog c.w) A (.compStart (.ListComp elt [⟨target, iter, [], 0⟩] scope pos) 0 it acc { cenv with scope := relabel scope env }) (RR acc cenv.locals) s₄) E s₃) E s₂) E s₁) E s := by
  refine hi _ _ _ _ _ _ _ st rm fun I fp P W K1 h2 t2 hW w0 x1 kn2 s2 hI hKI hfp hP hob => ?_
  have st2 : St c h₀ K₀ env ns ρ o K1 h2 := st.step x1 kn2 s2
  have WA := hW A rm.hd
  refine wpAny_newObj_type (wpAny_newFunctionEnv hcell (by intro y hy; simp at hy) (fun h₁ hns₁ hsb₁ => ?_) hkind)
  dsimp only at hns₁ hsb₁ ⊢
  generalize hD : h2.objs.size = D at *
  generalize hH : h2.push { cls := .type "list", dict := none, data := .seq ([] : List Value).toArray } = H2 at hns₁ hsb₁ ⊢
  generalize hCe : H2.objs.size = C at *
  have hC : C = D + 1 := by rw [← hCe, ← hH, Heap.size_push, hD]
  have hD2 : h2.get? D = none := by rw [← hD]; exact size_none h2
  have hC2 : h2.get? C = none := by
    cases e : h2.get? C with
    | none => rfl
    | some o' => exact absurd (Heap.lt_size e) (by rw [hD, hC]; exact Nat.not_lt.mpr (Nat.le_succ D))
  have hDC : D ≠ C := by rw [hC]; exact Nat.ne_of_lt (Nat.lt_succ_self D)
  have old : ∀ b ob, h2.get? b = some ob → h₁.get? b = some ob := fun b ob e => hsb₁.extBut b ob (fun q => by rw [q, hC2] at e; cases e) (Heap.get?_push_of_some _ (hH ▸ Heap.get?_push_of_some _ e))
  have hacc : h₁.get? D = some (lstO [] 0) := hsb₁.extBut _ _ hDC (Heap.get?_push_of_some _ (hH ▸ hD ▸ Heap.get?_push_size _ rfl))
  have hCI : C ≠ I := by
    intro q
    obtain ⟨ob, e, _⟩ := hob _ _ w0
    rw [← q, hC2] at e; cases e
  have hDI : D ≠ I := by
    intro q
    obtain ⟨ob, e, _⟩ := hob _ _ w0
    rw [← q, hD2] at e; cases e
  have fpOld : ∀ b ∈ fp, ∃ ob, h2.get? b = some ob := by
    intro b hb
    rcases hfp b hb with rfl | ⟨p, hp, rfl⟩
    · obtain ⟨ob, e, _⟩ := hob _ _ w0; exact ⟨ob, e⟩
    · exact ⟨_, kn2 p hp⟩
  have fpD : ∀ b ∈ fp, b ≠ D := fun b hb q => by obtain ⟨ob, e⟩ := fpOld b hb; rw [q, hD2] at e; cases e
  have fpC : ∀ b ∈ fp, b ≠ C := fun b hb q => by obtain ⟨ob, e⟩ := fpOld b hb; rw [q, hC2] at e; cases e
  have k1 : ∀ p ∈ K1, p.1 ≠ C ∧ p.1 ≠ D := fun p hp => ⟨fun q => (by have := kn2 p hp; rw [q, hC2] at this; cases this), fun q => (by have := kn2 p hp; rw [q, hD2] at this; cases this)⟩
  have h0none : ∀ b, h2.get? b = none → h₀.get? b = none := fun b e => stays_none st2.keep e
  have h0I : h₀.get? I = none := stays_none st.keep hI
  have loop : ∀ s₃ : Shared, s₃ = { s with heap := h₁, toks := t2 + ([] : List (Str × Value)).length } →
      codeAny (model c.prog c.w) A (.compLoop (.ListComp elt [⟨target, iter, [], 0⟩] scope pos) 0 (.ref I) (.ref D) (compEnvC scope cl C env)) (RR (.ref D) C) s₃ := by
    rintro s₃ rfl
    refine compLoop_own (fun n s' => ∃ h' tk K' vs i, s' = { s with heap := h', toks := tk } ∧ St c h₀ K₀ (compEnvC scope cl C env) ns' (noE ns') .no K' h' ∧ W i h' ∧ i ≤ items.length ∧ n = items.length + 1 - i ∧
      (∃ n', h'.get? D = some (lstO vs n')) ∧ DatAll K' vs ((items.take i).map g) ∧ (∀ p ∈ K', p.1 ≠ D ∧ p.1 ≠ I) ∧ KExt s.heap K K' ∧ (∀ p ∈ K1, p ∈ K') ∧ (∀ b ob, b ≠ I → h2.get? b = some ob → h'.get? b = some ob)) ?_ (items.length + 1) ?_
    · rintro n s' ⟨h', tk, K', vs, i, rfl, st', hw, hle, rfl, ⟨n', hDo⟩, hvs, hoff, xk, sub1, hkeep⟩
      by_cases hlt : i < items.length
      · refine WA.item i { s with heap := h', toks := tk } _ _ hlt hw fun v h3 t3 hPv hw3 hk3 => ?_
        obtain ⟨d, hd, dv'⟩ := hP i v hlt hPv
        have fr' : ∀ b ob, b ≠ I → h'.get? b = some ob → h3.get? b = some ob := fun b ob hb e => hk3 b ob (by simpa using hb) e
        have st3 : St c h₀ K₀ (compEnvC scope cl C env) ns' (noE ns') .no K' h3 := by
          obtain ⟨m, n1, l1, _⟩ := st'.loc
          exact ⟨⟨m, n1.at fun ob e => fr' _ _ hCI e, l1, trivial⟩, st'.g0, fun b ob e => fr' b ob (fun q => by rw [q, h0I] at e; cases e) (st'.keep b ob e), st'.fr, fun p hp => fr' _ _ (hoff p hp).2 (st'.kn p hp), st'.off, st'.ext, st'.base⟩
        have go : ∀ Q : Unit → Shared → Prop, Q () { s with heap := h3, toks := t3 } → wpAny (model c.prog c.w) A (letOwnedTupleGo target (.ref I) v) Q (notedBy (model c.prog c.w) A (compEnvC scope cl C env) fun e s' => RR (.ref D) C (.error e) s') { s with heap := h3, toks := t3 } := by
          intro Q hQ
          rcases hu with hu | hu
          · obtain ⟨ob, eob, hnu⟩ := hob _ _ hw3
            exact letOwned_no (s := { s with heap := h3, toks := t3 }) eob (hnu hu) hQ
          · rw [hu]; exact wpAny_pure hQ
        refine go _ ?_
        have hdm := List.mem_of_getElem? hd
        refine ht d hdm C _ _ _ _ _ { s with heap := h3, toks := t3 } _ _ _ _ rfl st3 (rm.le (Nat.zero_le _)) (DatIn.mono sub1 dv') fun h4 t4 st4 hk4 => ?_
        refine he d hdm C _ _ _ { s with heap := h4, toks := t4 } _ _ _ st4 rm fun y K5 h5 t5 dy x5 kn5 s5 => ?_
        have st5 := (st4.step x5 kn5 s5).forget
        have hD5 : h5.get? D = some (lstO vs n') := s5 _ _ (hk4 D _ hDC (fr' D _ hDI hDo))
        have hl := DatAll.length hvs
        refine append_at hD5 (fun h6 hs6 hD6 => ?_) (by rw [sizeLine_eq]; simp at hl ⊢; omega)
        have up6 : ∀ b ob, b ≠ D → h5.get? b = some ob → h6.get? b = some ob := fun b ob hb e => (hs6.2 b hb).trans e
        have hD4 : h4.get? D = some (lstO vs n') := hk4 D _ hDC (fr' D _ hDI hDo)
        have off5 : ∀ p ∈ K5, p.1 ≠ D ∧ p.1 ≠ I := by
          intro p hp
          rcases x5.fresh p hp with q | q
          · exact hoff p q
          · refine ⟨fun e => ?_, fun e => ?_⟩
            · rw [e] at q; rw [show ({ s with heap := h4, toks := t4 } : Shared).heap = h4 from rfl] at q; rw [hD4] at q; cases q
            · obtain ⟨ob, eob, _⟩ := hob _ _ hw3
              have := hk4 I ob (Ne.symm hCI) eob
              rw [e] at q; rw [show ({ s with heap := h4, toks := t4 } : Shared).heap = h4 from rfl] at q; rw [this] at q; cases q
        have stA : Stays s.heap h4 := by
          intro b ob e
          have e2 := s2 b ob e
          have hbI : b ≠ I := fun q => by rw [q, hI] at e; cases e
          have hbC : b ≠ C := fun q => by rw [q, hC2] at e2; cases e2
          exact hk4 b ob hbC (fr' b ob hbI (hkeep b ob hbI e2))
        refine ⟨items.length + 1 - (i + 1), by omega, h6, t5, K5, vs ++ [y], i + 1, rfl, ?_, ?_, hlt, rfl, ⟨n' + 1, by rw [hD6]; simp⟩, ?_, off5, xk.trans stA x5, fun p hp => x5.sub p (sub1 p hp), ?_⟩
        · obtain ⟨m, n1, l1, _⟩ := st5.loc
          have h0D : h₀.get? D = none := h0none D hD2
          exact ⟨⟨m, n1.at fun ob e => up6 _ _ (Ne.symm hDC) e, l1, trivial⟩, st5.g0, fun b ob e => up6 b ob (fun q => by rw [q, h0D] at e; cases e) (st5.keep b ob e), st5.fr, fun p hp => up6 _ _ (off5 p hp).1 (st5.kn p hp), st5.off, st5.ext, st5.base⟩
        · exact WA.frame _ _ _ hw3 fun b hb ob e => up6 b ob (fpD b hb) (s5 b ob (hk4 b ob (fpC b hb) e))
        · rw [List.take_add_one, hd, List.map_append]
          exact DatAll.append (DatAll.ext hvs x5) (DatAll.one dy)
        · intro b ob hb e
          exact up6 b ob (fun q => by rw [q, hD2] at e; cases e) (s5 b ob (hk4 b ob (fun q => by rw [show b = C from q, hC2] at e; cases e) (fr' b ob hb (hkeep b ob hb e))))
      · have hin : i = items.length := by omega
        subst hin
        refine WA.done { s with heap := h', toks := tk } _ _ hw fun h3 t3 hk3 => ?_
        have fr' : ∀ b ob, b ≠ I → h'.get? b = some ob → h3.get? b = some ob := fun b ob hb e => hk3 b ob (by simpa using hb) e
        obtain ⟨m, n1, l1, _⟩ := st'.loc
        rw [List.take_length] at hvs
        have stA : Stays s.heap h3 := by
          intro b ob e
          have hbI : b ≠ I := fun q => by rw [q, hI] at e; cases e
          exact fr' b ob hbI (hkeep b ob hbI (s2 b ob e))
        refine hRR D C h3 t3 ((D, lstO vs n') :: K') (.list (n := n') (.head _) (DatAll.mono (fun p hp => .tail _ hp) hvs)) ⟨fun p hp => .tail _ (xk.sub p hp), fun p hp => ?_⟩ (fun p hp => ?_) (fun p hp => ?_) ⟨m, n1.at fun ob e => fr' _ _ hCI e⟩ (stays_none s2 hC2) stA
        · rcases List.mem_cons.mp hp with rfl | hp
          · exact .inr (stays_none s2 hD2)
          · exact xk.fresh p hp
        · rcases List.mem_cons.mp hp with rfl | hp
          · exact fr' _ _ hDI hDo
          · exact fr' _ _ (hoff p hp).2 (st'.kn p hp)
        · rcases List.mem_cons.mp hp with rfl | hp
          · exact hDC
          · exact st'.off p hp
    · refine ⟨h₁, _, K1, [], 0, rfl, ⟨⟨_, hns₁, fun i x d e1 e2 => ?_, trivial⟩, st.g0, fun b ob e => old b ob (st2.keep b ob e), h0none C hC2, fun p hp => old _ _ (kn2 p hp), fun p hp => (k1 p hp).1, st2.ext, st2.base⟩, WA.frame _ _ _ w0 fun b _ ob e => old b ob e, Nat.zero_le _, rfl, ⟨0, hacc⟩, .nil, fun p hp => ⟨(k1 p hp).2, hKI p hp⟩, x1, fun _ x => x, fun b ob _ e => old b ob e⟩
      unfold noE at e2; rw [List.getElem?_map, e1] at e2; cases e2
  exact codeAny_compStart_list (loop _ rfl) (WA.self 0 _ _ _ (WA.frame _ _ _ w0 fun b _ ob e => old b ob e) (loop _ rfl))
theorem EV.comp {u : Bool} {elt target iter : Expr} {scope : Scope} {cl : List (Str × Addr)} {items : List Dat} {f : Dat → Env' → Env'} {g : Dat → Dat} (hi : SRC c k env ns ρ o u iter items)
    (ht : ∀ d ∈ items, ∀ C, TG c (compEnvC scope cl C env) ns' none target d (f d))
    (he : ∀ d ∈ items, ∀ C, EV c k (compEnvC scope cl C env) ns' (f d (noE ns')) .no elt (g d))
    (hz : items.length ≤ 16777215) (hu : u = true ∨ ∀ it v, letOwnedTupleGo target it v = pure ())
    (hclos : closureFor scope env = pure cl)
    (hcell : ∀ y ∈ scope.names, y.2 ≠ .cell := by with_unfolding_all decide) (hkind : scope.kind = .function := by with_unfolding_all rfl)
    (hnames : ∀ y ∈ scope.names, y.2 = .local → scope.names.lookup y.1 = some .local := by with_unfolding_all decide)
    (hs : ∀ x, foldedSetIterable iter env x = pure x := by intro _; with_unfolding_all rfl) :
    EV c k env ns ρ o (.ListComp elt [⟨target, iter, [], 0⟩] scope pos) (.list (items.map g)) := by
  intro h₀ K₀ K s A E Q st rm r
  rw [eval_ListComp]
  refine wpAny_comprehension_free (use := none) rfl hs hclos hkind hnames ?_
  refine comp_core hi hcell hkind ht he hz hu (fun acc C => compPost (model c.prog c.w) A E none Q acc C) st rm fun D C h' tk K' dv x kn hC hn hCn hst => ?_
  obtain ⟨m, hn⟩ := hn
  refine ⟨m, hn, fun h'' hs'' => ?_⟩
  exact r _ K' h'' tk dv x (fun p hp => hs''.extBut _ _ (hC p hp) (kn p hp)) fun b ob e => hs''.extBut _ _ (fun q => by rw [q, hCn] at e; cases e) (hst b ob e)
theorem EX1.assignComp {u : Bool} {x : Str} {elt target iter : Expr} {scope : Scope} {cl : List (Str × Addr)} {items : List Dat} {f : Dat → Env' → Env'} {g : Dat → Dat} {lp : Pos} (S : Sc env ns gs) (i : Nat) (hx : ns[i]? = some x) (hf : OwnFree o.key i) (hi : SRC c k env ns ρ o u iter items)
    (ht : ∀ d ∈ items, ∀ C, TG c (compEnvC scope cl C env) ns' none target d (f d))
    (he : ∀ d ∈ items, ∀ C, EV c k (compEnvC scope cl C env) ns' (f d (noE ns')) .no elt (g d))
    (hz : items.length ≤ 16777215) (hu : u = true ∨ ∀ it v, letOwnedTupleGo target it v = pure ())
    (hclos : closureFor scope env = pure cl) (h : Qn (ρ.set i (some (.list (items.map g)))) o)
    (hsw : swapsWith (.ListComp elt [⟨target, iter, [], 0⟩] scope pos) (some (.Name x lp)) p.line env = pure true := by with_unfolding_all rfl)
    (hcell : ∀ y ∈ scope.names, y.2 ≠ .cell := by with_unfolding_all decide) (hkind : scope.kind = .function := by with_unfolding_all rfl)
    (hnames : ∀ y ∈ scope.names, y.2 = .local → scope.names.lookup y.1 = some .local := by with_unfolding_all decide)
    (hs : ∀ x, foldedSetIterable iter env x = pure x := by intro _; with_unfolding_all rfl) :
    EX1 c k env ns ρ o (.Assign [.Name x lp] (.ListComp elt [⟨target, iter, [], 0⟩] scope pos) p) Qn Qr Qc := by
  intro h₀ K₀ K s A E Q st rm r
  rw [exec_Assign_Name_used _ _ _ _ hsw]
  refine wpAny_bind (wpAny_standAt (wpAny_bind ?_))
  show wpAny _ A (do let _ ← comprehension (.ListComp elt [⟨target, iter, [], 0⟩] scope pos) scope env _ (newList []) false (eval iter env) (some (PySem.assign (.Name x lp) env))) _ _ s
  refine wpAny_bind (wpAny_mono (wpAny_comprehension_free (use := some (PySem.assign (.Name x lp) env)) (Q := fun _ s' => Q .next s') rfl hs hclos hkind hnames ?_) (fun _ s' hq => wpAny_pure (wpAny_pure hq)) fun _ _ e => e)
  refine comp_core hi hcell hkind ht he hz hu (fun acc C => compPost (model c.prog c.w) A _ (some (PySem.assign (.Name x lp) env)) (fun _ s' => Q .next s') acc C) st rm fun D C h' tk K' dv xk kn hC hn hCn hst => ?_
  have st1 : St c h₀ K₀ env ns ρ o K' h' := st.step xk kn hst
  obtain ⟨m, hn⟩ := hn
  obtain ⟨mL, nL⟩ := st.locals
  obtain ⟨oL, eL⟩ := ns_some nL
  have hCL : C ≠ env.locals := fun q => by rw [q, eL] at hCn; cases hCn
  obtain ⟨m1, n1⟩ := st1.locals
  show wpAny _ A (PySem.assign (.Name x lp) env (.ref D)) _ _ _
  refine wpAny_assign_Name (wpAny_storeName_local (S.loc x (List.mem_of_getElem? hx)) n1 (fun h2 hn2 hs2 => ?_) S.np)
  have st2 : St c h₀ K₀ env ns (ρ.set i (some (.list (items.map g)))) o K' h2 := st1.store S hx hf dv (fun m' n' => by rw [ns_det n' n1]; exact hn2) hs2
  refine ⟨m, hn.at fun ob e => (hs2.2 _ hCL).trans e, fun h'' hs'' => ?_⟩
  have h0C : h₀.get? C = none := stays_none st.keep hCn
  have up : ∀ b ob, b ≠ C → h2.get? b = some ob → h''.get? b = some ob := fun b ob hb e => hs''.extBut _ _ hb e
  refine r .next h'' _ ⟨_, o, K', ⟨?_, st2.g0, fun b ob e => up b ob (fun q => by rw [q, h0C] at e; cases e) (st2.keep b ob e), st2.fr, fun p hp => up _ _ (hC p hp) (st2.kn p hp), st2.off, st2.ext, st2.base⟩, h⟩
  obtain ⟨m2, n2, l2, o2⟩ := st2.loc
  refine ⟨m2, n2.at fun ob e => up _ _ (Ne.symm hCL) e, l2, ?_⟩
  have ho := st.loc
  obtain ⟨m0, _, _, ho⟩ := ho
  cases o with
  | no => trivial
  | lst j a l =>
    obtain ⟨e1, ⟨vs, n, e3, e4⟩, e5, e6, e7⟩ := o2
    obtain ⟨_, ⟨vs', n', e3', _⟩, _⟩ := ho
    exact ⟨e1, ⟨vs, n, up _ _ (fun q => by rw [q, hCn] at e3'; cases e3') e3, e4⟩, e5, e6, e7⟩
  | dct j a l =>
    obtain ⟨e1, ⟨es, n, e3, e4, e8⟩, e5, e6, e7⟩ := o2
    obtain ⟨_, ⟨es', n', e3', _⟩, _⟩ := ho
    exact ⟨e1, ⟨es, n, up _ _ (fun q => by rw [q, hCn] at e3'; cases e3') e3, e4, e8⟩, e5, e6, e7⟩
end
end
-- MP
local macro_rules | `(tactic| walk_at "opc") => `(tactic| with_reducible first
  | exact gaps_ok (by assumption)
  | (refine' skip_spaces_ok (by assumption) ?hz; (case hz => walk_at "sz"))
  | (refine' skip_ok (by assumption) ?hz; (case hz => walk_at "sz"))
  | (refine' seek_ok (by assumption) ?hz; (case hz => walk_at "sz"))
  | (refine' bom_of_ok (by assumption) ?hz; (case hz => walk_at "sz"))
  | fail "no")
theorem relabel_lookup {env : Env} {kd : NameKind} (hk : kd ≠ .free) : ∀ {names : List (Str × NameKind)} {x : Str}, names.lookup x = some kd →
    (names.map fun (n, k) => if (k == NameKind.free && env.scope.kind == .function && env.kindOf n == some .cell) then (n, NameKind.cell) else (n, k)).lookup x = some kd
  | [], _, h => by simp at h
  | (n, k) :: r, x, h => by
    have ih := @relabel_lookup env kd hk r x
    show List.lookup x ((if (k == NameKind.free && env.scope.kind == .function && env.kindOf n == some .cell) = true then (n, NameKind.cell) else (n, k)) :: _) = _
    cases hx : x == n with
    | true =>
      simp only [List.lookup_cons, hx] at h
      cases h
      rw [if_neg (by cases kd <;> simp_all <;> exact fun q => nomatch q)]
      simp [List.lookup_cons, hx]
    | false =>
      simp only [List.lookup_cons, hx] at h
      by_cases hc : (k == NameKind.free && env.scope.kind == .function && env.kindOf n == some .cell) = true
      · rw [if_pos hc]; simp only [List.lookup_cons, hx]; exact ih h
      · rw [if_neg hc]; simp only [List.lookup_cons, hx]; exact ih h
theorem sc_comp {env : Env} {ns gs ns' gs' : List Str} {scope : Scope} {cl : List (Str × Addr)} {C : Addr} (S : Sc env ns gs) (h : scOk scope ns' gs' = true) : Sc (compEnvC scope cl C env) ns' gs' := by
  unfold scOk at h
  simp only [Bool.and_eq_true, beq_iff_eq, List.all_eq_true, decide_eq_true_eq, Bool.not_eq_true'] at h
  obtain ⟨⟨⟨⟨h1, h2⟩, h3⟩, h4⟩, h5⟩ := h
  refine ⟨h1, fun x hx => relabel_lookup (by simp) (h2 x hx), fun x hx => relabel_lookup (by simp) (h3 x hx), h4, h5, S.gl, S.bi, ?_⟩
  unfold interactive
  show _ = false
  have : (compEnvC scope cl C env).scope.kind = .function := h1
  simp [this]
noncomputable def toN : Dat → Nat
  | .int n => n.toNat
  | _ => 0
section
variable {c : Cx} {k : Nat} {env : Env} {ns gs : List Str} {ρ ρ' : Env'} {o : Own} {pos p : Pos}
theorem EV.join' {e x : Expr} {apos : Pos} {ls : List (List Nat)} {L l : List Nat} (he : EV c k env ns ρ o e (sD l)) (hl : l = []) (hx : EV c k env ns ρ o x (.list (sDs ls))) (hL : ls.flatten = L) (hz : L.length ≤ 16777216)
    (hs : isStar x = false := by with_unfolding_all rfl) (hb : plainB e = true := by with_unfolding_all rfl) (hline : (apos.endLine == pos.line) = true := by with_unfolding_all rfl) :
    EV c k env ns ρ o (.Call (.Attribute e (Str.ofString "join") apos) [x] [] pos) (sD L) := by
  subst hl hL
  exact EV.join he hx hz hs hb hline
end
theorem tx0 : tx "" = [] := by decide +kernel
theorem single_flat (l : List Nat) : (l.map ([·])).flatten = l := by
  induction l with
  | nil => rfl
  | cons x l ih => rw [List.map_cons, List.flatten_cons, ih]; rfl
theorem folded_ok {c : Cx} (P : Pg c) {l : List UInt8} (hz : l.length ≤ 16000000) : OpC c (.ref 103) 4 [bD l] (sD ((nn l).map lo1)) := by
  refine Fn.ok (ps := ["octets"]) (os := []) (gs := ["lower_text"]) P.folded_ (by decide +kernel) (fun pm cd s => vs1 fun v => BindsTo.of_eq rfl) rfl (fun env S => ?_)
  dsimp only [List.cons_append, List.nil_append, List.map] at S ⊢
  have hl : (nn l).length = l.length := by simp
  refine' EX.ret (EV.call S P.lower_text_ ?qm (EVs.cons ?qe EVs.nil) (lower_text_ok P (nn l) (fun x hx => by have := nn_lt l x hx; omega) (by omega))) rfl
  case qm => walk_at "mem"
  case qe =>
    refine' EV.join' EV.cS tx0 ?qj (single_flat (nn l)) ?qz
    case qz => omega
    case qj =>
      refine' EV.conv (EV.comp (ns' := ["octet"]) (f := fun d ρ => ρ.set 0 (some d)) (g := fun d => sD [toN d]) (cl := []) (SRC.of (u := false) ?qi iterB) (fun d hd C => TG.name (sc_comp S (gs' := ["chr"]) ?qs) 0 rfl OwnFree.no) (fun d hd C => ?qg) ?qz2 (.inr fun _ _ => rfl) ?qc) ?qx
      case qi => walk_at "ev"
      case qs => with_unfolding_all decide +kernel
      case qc => rfl
      case qz2 => simp [biD]; omega
      case qx => simp [biD, sDs, nn, toN]
      case qg =>
        unfold biD at hd
        rw [List.mem_map] at hd
        obtain ⟨b, hb, rfl⟩ := hd
        refine' EV.callB (sc_comp S (gs' := ["chr"]) ?qs2) ?qm2 P.bChr (EVs.cons (EV.nm (sc_comp S (gs' := []) ?qs3) ?qa) EVs.nil) (chrI (n := b.toNat) ?qo)
        case qs2 => with_unfolding_all decide +kernel
        case qs3 => with_unfolding_all decide +kernel
        case qa => exact At.head
        case qm2 => walk_at "mem"
        case qo => have := b.toNat_lt; omega
-- MQ
local macro_rules | `(tactic| walk_at "opc") => `(tactic| with_reducible first
  | (refine' folded_ok (by assumption) ?hz; (case hz => walk_at "sz"))
  | fail "no")
noncomputable def splitRow (a : List Nat) : List (List Nat) := (Txt.split (sS a) (sS [32])).map (·.cps.toList)
theorem dats_of {K : Led} : ∀ (l : List (Str × Tok)), DatAll K (strValues l) ((l.map (·.1)).map .str)
  | [] => .nil
  | p :: l => .cons (.str p.1 p.2) (dats_of l)
theorem sS_cps (x : Str) : sS x.cps.toList = x := by cases x; simp [sS]
open PySem.Builtin PySem.Builtin.Str in
theorem splitS {c : Cx} {a : List Nat} (hz : a.length + 2 ≤ 16777216) : OpC c (.builtin "str.split") 0 [sD a, sD [32]] (.list (sDs (splitRow a))) := by
  intro K s A E Q vs g kn kb rm dv r
  cases dv with
  | cons h t =>
  cases t with
  | cons h' t =>
  cases t
  cases h with
  | str _ t =>
  cases h' with
  | str _ u =>
  have hx : (sS a).length + 2 ≤ sizeLine := by rw [sizeLine_eq]; simpa [Str.length] using hz
  have hn : (partsBetween (sS a) (occurrences (sS a) (sS [32]) 0 (sS a).length ((sS a).length + 1)) (sS [32]).length).length ≤ sizeLine := by
    have e1 := StrLaws.occ_length_le (sS a) (sS [32]) 0 (sS a).length ((sS a).length + 1)
    rw [length_partsBetween]; omega
  have fin : ∀ (l : List (Str × Tok)) (k : Nat), l.map (·.1) = Txt.split (sS a) (sS [32]) → Q (.ref s.heap.objs.size) { s with heap := s.heap.push { cls := .type "list", data := .seq (strValues l).toArray }, toks := k } := by
    intro l k e
    refine r.push kn (.list (n := 0) (.head _) ?_)
    have hd := dats_of (K := (s.heap.objs.size, { cls := .type "list", data := .seq (strValues l).toArray }) :: K) l
    rw [e] at hd
    have : (Txt.split (sS a) (sS [32])).map Dat.str = sDs (splitRow a) := by
      unfold sDs splitRow
      rw [List.map_map]
      apply List.map_congr_left
      intro x _
      show Dat.str x = Dat.str (sS x.cps.toList)
      rw [sS_cps]
    rw [this] at hd
    exact hd
  cases h1 : (decide ((sS a).length < (sS [32]).length) || decide (strKind (sS a) < strKind (sS [32])))
  · cases hf : (occurrences (sS a) (sS [32]) 0 (sS a).length ((sS a).length + 1)).isEmpty
    · refine call_meets F.slot_str_split (typeIs_str _ _ _) F.entry_str_split (F.args_str_split_2 _ _) (meets_str_split_sep (sS a) (sS [32]) t u h1 rfl hf (by omega) hn) ?_
      show wants Q E _ { s with toks := _, heap := s.heap.push { cls := .type "list", data := .seq (strsFrom s.toks (partsBetween (sS a) (occurrences (sS a) (sS [32]) 0 (sS a).length ((sS a).length + 1)) (sS [32]).length)).toArray } }
      rw [strsFrom_eq]
      exact fin (numbered s.toks _) _ ((numbered_texts _ _).trans ((if_neg (ne_true_of_eq_false h1)).trans (if_neg (ne_true_of_eq_false hf))).symm)
    · exact call_meets F.slot_str_split (typeIs_str _ _ _) F.entry_str_split (F.args_str_split_2 _ _) (meets_str_split_not_found (sS a) (sS [32]) t u h1 rfl hf)
        (fin [(sS a, t)] s.toks ((if_neg (ne_true_of_eq_false h1)).trans (if_pos hf)).symm)
  · exact call_meets F.slot_str_split (typeIs_str _ _ _) F.entry_str_split (F.args_str_split_2 _ _) (meets_str_split_cannot_occur (sS a) (sS [32]) t u h1)
      (fin [(sS a, t)] s.toks (if_pos h1).symm)
section
open PySem.Builtin PySem.Builtin.Str
noncomputable def posS : List Nat → Nat → List Nat
  | [], _ => []
  | c :: r, k => if c = 32 then k :: posS r (k + 1) else posS r (k + 1)
noncomputable def splitL : List Nat → List (List Nat)
  | [] => [[]]
  | c :: r => if c = 32 then [] :: splitL r else match splitL r with
    | [] => [[c]]
    | w :: ws => (c :: w) :: ws
theorem splitL_ne (l : List Nat) : ∃ w ws, splitL l = w :: ws := by
  induction l with
  | nil => exact ⟨_, _, rfl⟩
  | cons c r ih =>
    obtain ⟨w, ws, e⟩ := ih
    unfold splitL
    split
    · exact ⟨_, _, rfl⟩
    · rw [e]; exact ⟨_, _, rfl⟩
theorem occ_pos (l : List Nat) : ∀ (m k : Nat) (arr : Array Nat) (free : Nat), k + m = l.length + 1 → arr.size ≤ k → free ≤ k →
    (forIn (List.range' k m) (arr, free) (StrLaws.occBody (sS l) (sS [32]) l.length (l.length + 1))).run.fst.toList = arr.toList ++ posS (l.drop k) k
  | 0, k, arr, free, hk, _, _ => by
    rw [List.drop_eq_nil_of_le (by omega)]
    show arr.toList = _
    simp [posS]
  | m + 1, k, arr, free, hk, ha, hf => by
    rw [List.range'_succ, List.forIn_cons]
    have hsub := StrLaws.subAt_one (sS l) 32 k
    have hl : (sS l).length = l.length := by simp [Str.length]
    have hsl : (sS [32]).length = 1 := rfl
    rw [hl] at hsub
    have hcp : (sS l).cps.toList = l := by simp [sS]
    rw [hcp] at hsub
    unfold StrLaws.occBody
    by_cases hc : l[k]? = some 32
    · have h2 := hsub.mpr hc
      rw [if_pos ⟨⟨⟨by show arr.size < _; omega, hf⟩, h2.1⟩, h2.2⟩]
      have hlt : k < l.length := (List.getElem?_eq_some_iff.mp hc).1
      have hd : l.drop k = 32 :: l.drop (k + 1) := by
        rw [List.drop_eq_getElem_cons hlt]
        rw [List.getElem?_eq_getElem hlt] at hc
        rw [Option.some.inj hc]
      have ih := occ_pos l m (k + 1) (arr.push k) (k + 1) (by omega) (by rw [Array.size_push]; omega) (Nat.le_refl _)
      show (forIn (List.range' (k + 1) m) (arr.push k, k + 1) (StrLaws.occBody (sS l) (sS [32]) l.length (l.length + 1))).run.fst.toList = _
      rw [ih, hd]
      simp [posS]
    · rw [if_neg (fun h => hc (hsub.mp ⟨h.1.2, h.2⟩))]
      have ih := occ_pos l m (k + 1) arr free (by omega) (by omega) (by omega)
      show (forIn (List.range' (k + 1) m) (arr, free) (StrLaws.occBody (sS l) (sS [32]) l.length (l.length + 1))).run.fst.toList = _
      rw [ih]
      congr 1
      by_cases hlt : k < l.length
      · rw [List.drop_eq_getElem_cons hlt (l := l)]
        rw [List.getElem?_eq_getElem hlt] at hc
        conv => rhs; unfold posS
        rw [if_neg (fun e => hc (by rw [e]))]
      · rw [List.drop_eq_nil_of_le (by omega), List.drop_eq_nil_of_le (by omega)]; rfl
theorem occ_posS (l : List Nat) : occurrences (sS l) (sS [32]) 0 (sS l).length ((sS l).length + 1) = posS l 0 := by
  have hl : (sS l).length = l.length := by simp [Str.length]
  rw [hl, StrLaws.occ_eq]
  have := occ_pos l (l.length + 1) 0 #[] 0 (by omega) (by simp) (by omega)
  simpa using this
noncomputable def partsL (l : List Nat) (s : Nat) (cuts : List Nat) : List (List Nat) := ((s :: cuts.map (· + 1)).zip (cuts ++ [l.length])).map fun p => (l.drop p.1).take (p.2 - p.1)
theorem parts_split (l : List Nat) : ∀ (r : List Nat) (s k : Nat), l.drop k = r → s ≤ k → k ≤ l.length →
    ∀ w ws, splitL r = w :: ws → partsL l s (posS r k) = ((l.drop s).take (k - s) ++ w) :: ws
  | [], s, k, hr, hs, hk, w, ws, e => by
    cases e
    have : l.length ≤ k := List.drop_eq_nil_iff.mp hr
    have : k = l.length := by omega
    subst this
    simp [partsL, posS]
  | c :: r, s, k, hr, hs, hk, w, ws, e => by
    have hlt : k < l.length := by
      rcases Nat.lt_or_ge k l.length with h | h
      · exact h
      · rw [List.drop_eq_nil_of_le h] at hr; cases hr
    rw [List.drop_eq_getElem_cons hlt] at hr
    have hc : l[k] = c := (List.cons.inj hr).1
    have hr' : l.drop (k + 1) = r := (List.cons.inj hr).2
    obtain ⟨w', ws', e'⟩ := splitL_ne r
    unfold splitL at e
    by_cases h32 : c = 32
    · rw [if_pos h32] at e
      cases e
      have ih := parts_split l r (k + 1) (k + 1) hr' (Nat.le_refl _) hlt w' ws' e'
      unfold posS
      rw [if_pos h32]
      unfold partsL at ih ⊢
      simp only [List.map_cons, List.cons_append, List.zip_cons_cons] at ih ⊢
      rw [ih, e']
      simp
    · rw [if_neg h32, e'] at e
      cases e
      have ih := parts_split l r s (k + 1) hr' (by omega) hlt w' ws e'
      unfold posS
      rw [if_neg h32, ih]
      congr 1
      rw [show k + 1 - s = (k - s) + 1 by omega, List.take_add_one]
      have : (l.drop s)[k - s]? = some c := by rw [List.getElem?_drop, show s + (k - s) = k by omega, List.getElem?_eq_getElem hlt, hc]
      rw [this]; simp
theorem kind_ge (x : Str) : 1 ≤ PySem.Builtin.Str.strKind x := by
  unfold PySem.Builtin.Str.strKind
  split
  · omega
  · split <;> omega
theorem splitRow_eq (l : List Nat) : splitRow l = splitL l := by
  obtain ⟨w, ws, e⟩ := splitL_ne l
  have h := parts_split l l 0 0 rfl (Nat.le_refl _) (Nat.zero_le _) w ws e
  simp only [Nat.sub_self, List.take_zero, List.nil_append] at h
  rw [← e] at h
  rw [← h]
  have hcp : (sS l).cps.toList = l := by simp [sS]
  have hl : (sS l).length = l.length := by simp [Str.length]
  have h32 : (sS [32]).length = 1 := rfl
  unfold splitRow Txt.split
  rw [occ_posS, hl, h32]
  have hk : PySem.Builtin.Str.strKind (sS [32]) = 1 := by decide +kernel
  rw [hk]
  have hone : partsL l 0 [] = [l] := by simp [partsL]
  by_cases h1 : (decide (l.length < 1) || decide (PySem.Builtin.Str.strKind (sS l) < 1)) = true
  · rw [if_pos h1]
    have := kind_ge (sS l)
    have : l = [] := by
      simp only [Bool.or_eq_true, decide_eq_true_eq] at h1
      exact List.eq_nil_of_length_eq_zero (by omega)
    subst this
    rfl
  · rw [if_neg h1]
    by_cases h2 : (posS l 0).isEmpty = true
    · rw [if_pos h2]
      have : posS l 0 = [] := by simpa using h2
      rw [this, hone]
      simp [hcp]
    · rw [if_neg h2]
      unfold partsBetween partsL
      rw [List.map_map, hl]
      apply List.map_congr_left
      intro p _
      show (strSub (sS l) p.1 p.2).cps.toList = _
      rw [StrLaws.strSub_toList, hcp]
noncomputable def constStr : Expr → Option Str
  | .Constant (.str s) _ _ => some s
  | _ => none
noncomputable def constStrs : List Expr → Option (List (List Nat))
  | [] => some []
  | e :: es => match constStr e, constStrs es with
    | some s, some l => some (s.cps.toList :: l)
    | _, _ => none
noncomputable def asTup : List Stmt → Option (List Expr × Nat × Pos × Pos)
  | [.Return (some (.Tuple es u p)) q] => some (es, u, p, q)
  | _ => none
theorem asTup_eq {ss : List Stmt} {es : List Expr} {u : Nat} {p q : Pos} (h : asTup ss = some (es, u, p, q)) : ss = [.Return (some (.Tuple es u p)) q] := by
  unfold asTup at h
  split at h
  · cases h; rfl
  · cases h
noncomputable def tupEls (ss : List Stmt) : List Expr := match asTup ss with
  | some t => t.1
  | none => []
theorem EVs.strs {c : Cx} {k : Nat} {env : Env} {ns : List Str} {ρ : Env'} {o : Own} : ∀ {es : List Expr} {ls : List (List Nat)}, constStrs es = some ls → EVs c k env ns ρ o es (sDs ls)
  | [], ls, h => by cases h; exact EVs.nil
  | e :: es, ls, h => by
    unfold constStrs at h
    cases h1 : constStr e with
    | none => rw [h1] at h; cases h
    | some s =>
      cases h2 : constStrs es with
      | none => rw [h1, h2] at h; cases h
      | some l =>
        rw [h1, h2] at h
        cases h
        unfold constStr at h1
        split at h1
        · cases h1
          refine EVs.cons (d := sD s.cps.toList) (EV.conv EV.cStr ?_) (EVs.strs h2) rfl
          show Dat.str s = Dat.str (sS s.cps.toList)
          rw [sS_cps]
        · cases h1
noncomputable def rowsM : List (List Nat) := (constStrs (tupEls (fnBody (stmtAt 7)))).getD []
theorem rows_ok : ∃ es u p q, fnBody (stmtAt 7) = [.Return (some (.Tuple es u p)) q] ∧ constStrs es = some rowsM := by
  have h1 : (asTup (fnBody (stmtAt 7))).isSome = true := by decide +kernel
  have h2 : (constStrs (tupEls (fnBody (stmtAt 7)))).isSome = true := by decide +kernel
  obtain ⟨⟨es, u, p, q⟩, h⟩ := Option.isSome_iff_exists.mp h1
  obtain ⟨l, hl⟩ := Option.isSome_iff_exists.mp h2
  refine ⟨es, u, p, q, asTup_eq h, ?_⟩
  unfold rowsM
  rw [hl]
  unfold tupEls at hl
  rw [h] at hl
  exact hl
theorem rows_len : rowsM.length ≤ 100 := by decide +kernel
theorem label_rows_ok {c : Cx} (P : Pg c) : OpC c (.ref 56) 1 [] (.tuple (sDs rowsM)) := by
  refine Fn.ok (ps := []) (os := []) (gs := []) P.label_rows_ (by decide +kernel) (fun pm cd s => vs0 (BindsTo.of_eq rfl)) rfl (fun env S => ?_)
  obtain ⟨es, u, p, q, e, h⟩ := rows_ok
  rw [e]
  refine EX.ret (EV.tup (EVs.strs h) ?_) rfl
  unfold sDs
  rw [List.length_map]
  exact Nat.le_trans rows_len (by decide)
end
-- MR
theorem tx32 : tx " " = [32] := by decide +kernel
section
variable {c : Cx} {k : Nat} {env : Env} {ns gs : List Str} {ρ ρ' : Env'} {o : Own} {pos p : Pos}
theorem EV.split {e x : Expr} {apos : Pos} {a l : List Nat} (he : EV c k env ns ρ o e (sD a)) (hx : EV c k env ns ρ o x (sD l)) (hl : l = [32]) (hz : a.length + 2 ≤ 16777216)
    (hs : isStar x = false := by with_unfolding_all rfl) (hb : plainB e = true := by with_unfolding_all rfl) (hline : (apos.endLine == pos.line) = true := by with_unfolding_all rfl) :
    EV c k env ns ρ o (.Call (.Attribute e (Str.ofString "split") apos) [x] [] pos) (.list (sDs (splitL a))) := by
  subst hl
  rw [← splitRow_eq]
  exact EV.meth (id := "str.split") he (EVs.cons hx EVs.nil hs) PySem.F.slot_str_split PySem.F.type_str_split (splitS hz) (by simp [hs]) hb (by simp) hline
theorem cutDs {ls : List (List Nat)} {i : Nat} (hz : ls.length ≤ 16777216) : SliceOp c (.list (sDs ls)) (some (i : Int)) none (.list (sDs (ls.drop i))) := by
  have := cutD (c := c) (ds := sDs ls) (lo := some i) (hi := none) (by simpa [sDs] using hz)
  have e : cutL (sDs ls) (some i) none = sDs (ls.drop i) := by
    unfold cutL sDs
    simp only [List.map_drop, List.length_map, Option.getD_none, Option.getD_some]
    rw [List.take_of_length_le]
    simp
  rw [e] at this
  exact this
theorem any_s (ls : List (List Nat)) (w : List Nat) : ((sDs ls).any fun y => deq y (sD w)) = ls.contains w := by
  unfold sDs
  rw [List.any_map, List.contains_eq_any_beq]
  congr 1; funext z
  show deq (sD z) (sD w) = (w == z)
  rw [deq_s, Bool.eq_iff_iff, beq_iff_eq, beq_iff_eq]; exact eq_comm
theorem oks (ls : List (List Nat)) (w : List Nat) : ∀ y ∈ sDs ls, dok y (sD w) = true := by
  intro y hy; unfold sDs at hy; rw [List.mem_map] at hy; obtain ⟨z, _, rfl⟩ := hy; rfl
theorem inLstS {ls : List (List Nat)} {w : List Nat} : Op2 c (compareOp .In) (sD w) (.list (sDs ls)) (.bool (ls.contains w)) := by
  have := inLst (c := c) (d := sD w) (ds := sDs ls) (oks ls w)
  rw [any_s] at this; exact this
theorem inTupS {ls : List (List Nat)} {w : List Nat} : Op2 c (compareOp .In) (sD w) (.tuple (sDs ls)) (.bool (ls.contains w)) := by
  have := inTup (c := c) (d := sD w) (ds := sDs ls) (oks ls w)
  rw [any_s] at this; exact this
theorem itemDs {ls : List (List Nat)} {n : Nat} (hn : n < ls.length) (hz : ls.length ≤ 16777216) : ItemOp c (.list (sDs ls)) (nD n) (sD (ls.getD n [])) := by
  refine itemL ?_ (by simpa [sDs] using hz)
  unfold sDs
  rw [List.getElem?_map, List.getD_eq_getElem?_getD, List.getElem?_eq_getElem hn]; rfl
end
local macro_rules | `(tactic| walk_at "op") => `(tactic| with_reducible first
  | exact inLstS
  | exact inTupS
  | fail "no")
local macro_rules | `(tactic| walk_at "item") => `(tactic| with_reducible first
  | (refine' itemDs ?i ?z; (case i => walk_at "ix"); (case z => walk_at "sz"))
  | fail "no")
local macro_rules | `(tactic| walk_at "cut") => `(tactic| with_reducible first
  | (refine' cutDs ?z; case z => walk_at "sz")
  | fail "no")
local macro_rules | `(tactic| walk_at "ev") => `(tactic| with_reducible first
  | (refine' EV.split ?e1 ?e2 tx32 ?z; (case e1 => walk_at "ev"); (case e2 => walk_at "ev"); (case z => walk_at "sz"))
  | fail "no")
local macro_rules | `(tactic| walk_at "opc") => `(tactic| with_reducible first
  | exact label_rows_ok (by assumption)
  | fail "no")
noncomputable def endM (l : List Nat) (b : Nat) : Nat → Nat
  | 0 => 0
  | e + 1 => if decide (b < e + 1) && isSp (l.getD e 0) then endM l b e else e + 1
theorem endM_le (l : List Nat) (b e : Nat) : endM l b e ≤ e := by
  induction e with
  | zero => exact Nat.le_refl _
  | succ e ih =>
    unfold endM
    split
    · omega
    · omega
noncomputable def encR (w : List Nat) : List (List Nat) → Option (List Nat)
  | [] => none
  | r :: rs => if ((splitL r).drop 1).contains w then some ((splitL r).getD 0 []) else encR w rs
theorem encR_cons (w r : List Nat) (rs : List (List Nat)) : encR w (r :: rs) = if ((splitL r).drop 1).contains w then some ((splitL r).getD 0 []) else encR w rs := rfl
noncomputable def encodingM (l : List Nat) : Option (List Nat) :=
  encR ((cutL l (some (run isSp l 0)) (some (endM l (run isSp l 0) l.length))).map lo1) rowsM
theorem rows_sz : ∀ r ∈ rowsM, r.length ≤ 1000 ∧ 0 < (splitL r).length ∧ (splitL r).length ≤ 1000 := by decide +kernel
theorem cutL_mem {α : Type} {l : List α} {i j : Option Nat} {x : α} (h : x ∈ cutL l i j) : x ∈ l := by
  unfold cutL at h
  exact List.mem_of_mem_drop (List.mem_of_mem_take h)
theorem encoding_of_ok {c : Cx} (P : Pg c) {l : List Nat} (hx : ∀ x ∈ l, x < 1000000) (hz : l.length ≤ 16000000) : OpC c (.ref 70) 4 [sD l] (oD (encodingM l)) := by
  refine Fn.ok (ps := ["label"]) (os := ["begin", "end", "wanted", "row", "words"]) (gs := ["skip_spaces", "len", "is_space", "lower_text", "label_rows"]) P.encoding_of_ (by decide +kernel) (fun pm cd s => vs1 fun v => BindsTo.of_eq rfl) rfl (fun env S => ?_)
  dsimp only [List.cons_append, List.nil_append, List.map] at S ⊢
  unfold encodingM
  walk_at "set"
  walk_at "set"
  generalize run isSp l 0 = b
  refine' EX.cons (EX1.while_ (fun m ρ o => ∃ e, ρ = [some (sD l), some (nD b), some (nD e), none, none, none] ∧ o = .no ∧ m = e ∧ endM l b e = endM l b l.length ∧ e ≤ l.length) l.length ⟨l.length, rfl, rfl, rfl, rfl, Nat.le_refl _⟩ ?turn)
  rintro e ρ o ⟨_, rfl, rfl, rfl, hr, hle⟩
  refine' ⟨decide (b < e) && isSp (l.getD (e - 1) 0), by walk_at "tr", fun h => ?_, fun h => ?_⟩
  · simp only [Bool.and_eq_true, decide_eq_true_eq] at h
    walk_at "aug"
    obtain ⟨e', rfl⟩ : ∃ e', e = e' + 1 := ⟨e - 1, by omega⟩
    refine EX.nil ⟨e', by omega, e', rfl, rfl, rfl, ?_, by omega⟩
    rw [← hr]
    conv => rhs; unfold endM
    rw [if_pos (by simp only [Bool.and_eq_true, decide_eq_true_eq]; exact h)]
  · have he : endM l b l.length = e := by
      rw [← hr]
      cases e with
      | zero => rfl
      | succ e => unfold endM; rw [if_neg]; simpa using h
    rw [he]
    have hw : ((cutL l (some b) (some e))).length ≤ l.length := cutL_len _ _ _
    have hlow := lower_text_ok P (cutL l (some b) (some e)) (fun x h => hx x (cutL_mem h)) (by omega)
    walk_at "set"
    generalize (cutL l (some b) (some e)).map lo1 = wt
    refine' EX.cons (EX1.for_ (items := sDs rowsM) (f := fun d ρ => ρ.set 4 (some d)) (SRC.of (u := true) ?qi iterT) (fun d _ => TG.name S 4 rfl OwnFree.no)
      (fun i ρ o => (∃ r w, ρ = [some (sD l), some (nD b), some (nD e), some (sD wt), r, w]) ∧ o = .no ∧ encR wt rowsM = encR wt (rowsM.drop i)) ⟨⟨none, none, rfl⟩, rfl, rfl⟩ ?ow ?st ?fi (.inl rfl))
    case qi => walk_at "ev"
    case ow => rintro i ρ o ⟨_, rfl, _⟩; rfl
    case st =>
      rintro i d ρ o hd ⟨⟨r, w, rfl⟩, rfl, hr⟩
      unfold sDs at hd
      rw [List.getElem?_map] at hd
      cases hl : rowsM[i]? with
      | none => rw [hl] at hd; cases hd
      | some row =>
        rw [hl] at hd
        cases hd
        dsimp only [List.set]
        have hlt := (List.getElem?_eq_some_iff.mp hl).1
        have hrow : rowsM[i] = row := (List.getElem?_eq_some_iff.mp hl).2
        rw [List.drop_eq_getElem_cons hlt, hrow] at hr
        rw [encR_cons] at hr
        obtain ⟨hs1, hs2, hs3⟩ := rows_sz row (List.mem_of_getElem? hl)
        have hs4 : ((splitL row).drop 1).length ≤ 1000 := by rw [List.length_drop]; omega
        walk_at "set"
        walk_at "if" <;> intro ht
        · walk_at "ret"
          rw [hr, if_pos ht]; rfl
        · rw [if_neg (by rw [ht]; exact Bool.false_ne_true)] at hr
          exact EX.nil ⟨⟨_, _, rfl⟩, rfl, hr⟩
    case fi =>
      rintro ρ o ⟨⟨r, w, rfl⟩, rfl, hr⟩
      walk_at "ret"
      rw [hr, List.drop_eq_nil_of_le (by simp [sDs])]
      rfl
-- MT
local macro_rules | `(tactic| walk_at "opc") => `(tactic| with_reducible first
  | (refine' encoding_of_ok (by assumption) ?hx ?hz; (case hx => walk_at "sz"); (case hz => walk_at "sz"))
  | fail "no")
noncomputable abbrev gapT : List Nat := [9, 10, 12, 13, 32]
noncomputable def attD : Option (List Nat × List Nat × Nat) → Dat
  | none => .none
  | some (n, v, a) => .tuple [sD n, sD v, nD a]
noncomputable def getA (l : List Nat) (i : Nat) : Option (List Nat × List Nat × Nat) :=
  if (decide (l.length ≤ run ((gapT ++ [47]).contains ·) l i) || l.getD (run ((gapT ++ [47]).contains ·) l i) 0 == 62) = true then none else
  let a := run ((gapT ++ [47]).contains ·) l i
  let a2 := run (fun x => !(gapT ++ [47, 61, 62]).contains x) l (a + 1)
  let name := (cutL l (some a) (some a2)).map lo1
  let a3 := run (gapT.contains ·) l a2
  if decide (l.length ≤ a3) = true then none else
  if (l.getD a3 0 != 61) = true then some (name, [], a3) else
  let a4 := run (gapT.contains ·) l (a3 + 1)
  if decide (l.length ≤ a4) = true then none else
  if [34, 39].contains (l.getD a4 0) = true then
    let e := run (fun x => ![l.getD a4 0].contains x) l (a4 + 1)
    if decide (l.length ≤ e) = true then none else some (name, (cutL l (some (a4 + 1)) (some e)).map lo1, e + 1)
  else
    let e := run (fun x => !(gapT ++ [62]).contains x) l a4
    if decide (l.length ≤ e) = true then none else some (name, (cutL l (some a4) (some e)).map lo1, e)
theorem get_attribute_ok {c : Cx} (P : Pg c) {l : List UInt8} {i : Nat} (hz : l.length ≤ 16000000) : OpC c (.ref 110) 5 [bD l, nD i] (attD (getA (nn l) i)) := by
  refine Fn.ok (ps := ["octets", "at"]) (os := ["begin", "name", "end"]) (gs := ["skip", "gaps", "len", "seek", "folded"]) P.get_attribute_ (by decide +kernel) (fun pm cd s => vs2 fun v w => BindsTo.of_eq rfl) rfl (fun env S => ?_)
  dsimp only [List.cons_append, List.nil_append, List.map] at S ⊢
  unfold getA
  simp only [nn_len]
  walk_at "set"
  generalize run ((gapT ++ [47]).contains ·) (nn l) i = a
  walk_at "if" <;> intro ht
  · walk_at "ret"
    rw [if_pos ht]; rfl
  rw [if_neg (by rw [ht]; exact Bool.false_ne_true)]
  clear ht
  walk_at "set"
  walk_at "set"
  generalize run (fun x => !(gapT ++ [47, 61, 62]).contains x) (nn l) (a + 1) = a2
  walk_at "set"
  rw [nn_cut]
  generalize (cutL (nn l) (some a) (some a2)).map lo1 = name
  walk_at "set"
  generalize run (gapT.contains ·) (nn l) a2 = a3
  walk_at "if" <;> intro ht
  · walk_at "ret"
    rw [if_pos ht]; rfl
  rw [if_neg (by rw [ht]; exact Bool.false_ne_true)]
  walk_at "if" <;> intro ht2
  · walk_at "ret"
    rw [if_pos ht2, tx0]; rfl
  rw [if_neg (by rw [ht2]; exact Bool.false_ne_true)]
  walk_at "set"
  generalize run (gapT.contains ·) (nn l) (a3 + 1) = a4
  clear ht ht2
  walk_at "if" <;> intro ht
  · walk_at "ret"
    rw [if_pos ht]; rfl
  rw [if_neg (by rw [ht]; exact Bool.false_ne_true)]
  walk_at "if" <;> intro ht2
  · rw [if_pos ht2]
    walk_at "set"
    generalize run (fun x => ![(nn l).getD a4 0].contains x) (nn l) (a4 + 1) = e
    walk_at "if" <;> intro ht3
    · walk_at "ret"
      rw [if_pos ht3]; rfl
    rw [if_neg (by rw [ht3]; exact Bool.false_ne_true)]
    walk_at "ret"
    rw [nn_cut]; rfl
  · rw [if_neg (by rw [ht2]; exact Bool.false_ne_true)]
    walk_at "set"
    generalize run (fun x => !(gapT ++ [62]).contains x) (nn l) a4 = e
    walk_at "if" <;> intro ht3
    · walk_at "ret"
      rw [if_pos ht3]; rfl
    rw [if_neg (by rw [ht3]; exact Bool.false_ne_true)]
    walk_at "ret"
    rw [nn_cut]; rfl
section
section
variable {c : Cx} {k : Nat} {env : Env} {ns gs : List Str} {ρ ρ' : Env'} {o : Own} {pos p : Pos} {Qn Qc : Env' → Own → Prop} {Qr : Dat → Prop}
theorem EVs.consS {e : Expr} {es : List Expr} {n : List Nat} {T : List (List Nat)} (he : EV c k env ns ρ o e (sD n)) (hs : EVs c k env ns ρ o es (sDs T)) (hst : isStar e = false := by with_unfolding_all rfl) : EVs c k env ns ρ o (e :: es) (sDs (n :: T)) := EVs.cons he hs hst
theorem EVs.nilS : EVs c k env ns ρ o [] (sDs []) := EVs.nil
theorem EV.tupS {es : List Expr} {u : Nat} {T : List (List Nat)} (h : EVs c k env ns ρ o es (sDs T)) (hz : T.length ≤ 16777216) : EV c k env ns ρ o (.Tuple es u pos) (.tuple (sDs T)) := EV.tup h (by simpa [sDs] using hz)
theorem EV.lstS {es : List Expr} {T : List (List Nat)} (h : EVs c k env ns ρ o es (sDs T)) (hz : T.length ≤ 16777216) : EV c k env ns ρ o (.List es pos) (.list (sDs T)) := EV.lst h (by simpa [sDs] using hz)
noncomputable def bDs (T : List (List UInt8)) : List Dat := T.map bD
theorem EVs.consB {e : Expr} {es : List Expr} {n : List UInt8} {T : List (List UInt8)} (he : EV c k env ns ρ o e (bD n)) (hs : EVs c k env ns ρ o es (bDs T)) (hst : isStar e = false := by with_unfolding_all rfl) : EVs c k env ns ρ o (e :: es) (bDs (n :: T)) := EVs.cons he hs hst
theorem EVs.nilB : EVs c k env ns ρ o [] (bDs []) := EVs.nil
theorem EV.tupB {es : List Expr} {u : Nat} {T : List (List UInt8)} (h : EVs c k env ns ρ o es (bDs T)) (hz : T.length ≤ 16777216) : EV c k env ns ρ o (.Tuple es u pos) (.tuple (bDs T)) := EV.tup h (by simpa [bDs] using hz)
theorem oksB (ls : List (List UInt8)) (w : List UInt8) : ∀ y ∈ bDs ls, dok y (bD w) = true := by
  intro y hy; unfold bDs at hy; rw [List.mem_map] at hy; obtain ⟨z, _, rfl⟩ := hy; rfl
theorem any_b (ls : List (List UInt8)) (w : List UInt8) : ((bDs ls).any fun y => deq y (bD w)) = ls.contains w := by
  unfold bDs
  rw [List.any_map, List.contains_eq_any_beq]
  congr 1; funext z
  show deq (bD z) (bD w) = (w == z)
  rw [deq_b, Bool.eq_iff_iff, beq_iff_eq, beq_iff_eq]; exact eq_comm
theorem inTupB {ls : List (List UInt8)} {w : List UInt8} : Op2 c (compareOp .In) (bD w) (.tuple (bDs ls)) (.bool (ls.contains w)) := by
  have := inTup (c := c) (d := bD w) (ds := bDs ls) (oksB ls w)
  rw [any_b] at this; exact this
theorem notInTupB {ls : List (List UInt8)} {w : List UInt8} : Op2 c (compareOp .NotIn) (bD w) (.tuple (bDs ls)) (.bool (!ls.contains w)) := by
  have := notInTup (c := c) (d := bD w) (ds := bDs ls) (oksB ls w)
  rw [any_b] at this; exact this
theorem notInLst {d : Dat} {ds : List Dat} (hk : ∀ y ∈ ds, dok y d = true) : Op2 c (compareOp .NotIn) d (.list ds) (.bool (!ds.any fun y => deq y d)) := by
  intro K s A E Q v w g kn rm da db r
  cases db with
  | list hm hal =>
    obtain ⟨q1, q2⟩ := all_eqAt (A := A.in1) (s := s) da hal hk
    refine PySem.SeqAt.notIn_listAt (fun y => veq y v) ⟨_, kn _ hm, rfl, _, rfl⟩ (fun y hy => q1 y (by simpa using hy)) (r.here' kn ?_)
    rw [List.any_toArray, q2]; exact .bool _
theorem notInLstS {ls : List (List Nat)} {w : List Nat} : Op2 c (compareOp .NotIn) (sD w) (.list (sDs ls)) (.bool (!ls.contains w)) := by
  have := notInLst (c := c) (d := sD w) (ds := sDs ls) (oks ls w)
  rw [any_s] at this; exact this
theorem oksO (ls : List (List Nat)) (w : Option (List Nat)) : ∀ y ∈ sDs ls, dok y (oD w) = true := by
  intro y hy; unfold sDs at hy; rw [List.mem_map] at hy; obtain ⟨z, _, rfl⟩ := hy; cases w <;> rfl
theorem any_o (ls : List (List Nat)) (w : Option (List Nat)) : ((sDs ls).any fun y => deq y (oD w)) = (ls.map some).contains w := by
  cases w with
  | none =>
    unfold sDs
    rw [List.any_map]
    induction ls with
    | nil => rfl
    | cons a l ih => rw [List.any_cons, ih]; simp [deq, oD]
  | some w =>
    show ((sDs ls).any fun y => deq y (sD w)) = _
    rw [any_s]
    induction ls with
    | nil => rfl
    | cons a l ih => rw [List.map_cons, List.contains_cons, List.contains_cons, ih]; rfl
theorem inTupO {ls : List (List Nat)} {w : Option (List Nat)} : Op2 c (compareOp .In) (oD w) (.tuple (sDs ls)) (.bool ((ls.map some).contains w)) := by
  have := inTup (c := c) (d := oD w) (ds := sDs ls) (oksO ls w)
  rw [any_o] at this; exact this
theorem eqO {w : Option (List Nat)} {b : List Nat} : Op2 c (compareOp .Eq) (oD w) (sD b) (.bool (w == some b)) := by
  cases w with
  | none => exact eqNS
  | some a => exact eqS
noncomputable def obD : Option Bool → Dat
  | none => .none
  | some b => .bool b
theorem isN_o (w : Option (List Nat)) : isN (oD w) = w.isNone := by cases w <;> rfl
theorem isN_ob (w : Option Bool) : isN (obD w) = w.isNone := by cases w <;> rfl
theorem isNoneO {w : Option (List Nat)} : Op2 c (compareOp .Is) (oD w) .none (.bool w.isNone) := by
  have := isNone (c := c) (d := oD w); rw [isN_o] at this; exact this
theorem isNotNoneO {w : Option (List Nat)} : Op2 c (compareOp .IsNot) (oD w) .none (.bool (!w.isNone)) := by
  have := isNotNone (c := c) (d := oD w); rw [isN_o] at this; exact this
theorem isNoneB {w : Option Bool} : Op2 c (compareOp .Is) (obD w) .none (.bool w.isNone) := by
  have := isNone (c := c) (d := obD w); rw [isN_ob] at this; exact this
theorem isNotNoneA {w : Option (List Nat × List Nat × Nat)} : Op2 c (compareOp .IsNot) (attD w) .none (.bool (!w.isNone)) := by
  have := isNotNone (c := c) (d := attD w)
  cases w <;> exact this
theorem EX1.assignOwnT {x : Str} {es ts : List Expr} {u u' : Nat} {ds : List Dat} {lp p1 vp : Pos} {f : Env' → Env'} (S : Sc env ns gs) (i : Nat) (hi : ns[i]? = some x) (hr : ρ[i]? = some none) (he : EVs c k env ns ρ .no es ds) (hz : ds.length ≤ 1000)
    (hts : ∀ a, TGs c env ns (some (i, a)) ts ds f) (h : ∀ a, Qn (f ρ) (.lst i a []))
    (hst : ts.any isStar = false := by with_unfolding_all rfl) (hn' : ts.length = ds.length := by with_unfolding_all rfl)
    (hs : swapsWithSole [.Tuple (.Name x p1 :: ts) u p] (.Tuple (.List [] lp :: es) u' vp) pos.line env = pure false := by with_unfolding_all rfl)
    (hw : swappedStores [.Tuple (.Name x p1 :: ts) u p] (.Tuple (.List [] lp :: es) u' vp) env = pure none := by with_unfolding_all rfl) :
    EX1 c k env ns ρ .no (.Assign [.Tuple (.Name x p1 :: ts) u p] (.Tuple (.List [] lp :: es) u' vp) pos) Qn Qr Qc := by
  intro h₀ K₀ K s A E Q st rm r
  refine Assign_Tuple (Tuple_ (spliced_more (List_ (spliced_none ?_)) (star_cons rfl))) hs hw
  refine wpAny_newObj_type ?_ (by show ([] : List Value).toArray.size ≤ sizeLine; exact Nat.zero_le _)
  generalize ha : s.heap.objs.size = a
  generalize hH : s.heap.push ({ cls := .type "list", dict := none, data := .seq ([] : List Value).toArray } : Obj) = H
  have st1 : St c h₀ K₀ env ns ρ .no K H := hH ▸ st.step (.refl ..) (st.kn.push' _) (stays_push _ _)
  have haH : H.get? a = some (lstO [] 0) := by rw [← hH, ← ha]; exact Heap.get?_push_size _ rfl
  have hsn : s.heap.get? a = none := by rw [← ha]; exact size_none _
  refine he _ _ _ { s with heap := H } _ _ _ _ st1 rm fun vs K1 h1 t1 dv x1 kn1 s1 => ?_
  have hl := DatAll.length dv
  have st2 := st1.step x1 kn1 s1
  refine wpAny_newObj_type ?_ (by show (Value.ref a :: vs).toArray.size ≤ sizeLine; rw [List.size_toArray, sizeLine_eq, List.length_cons]; omega)
  dsimp only
  generalize hH2 : h1.push ({ cls := .type "tuple", dict := none, data := .seq (Value.ref a :: vs).toArray } : Obj) = H2
  have st3 : St c h₀ K₀ env ns ρ .no K1 H2 := hH2 ▸ st2.step (.refl ..) (kn1.push' _) (stays_push _ _)
  have hT : PyProof.Rows.IsTup H2 h1.objs.size (Value.ref a :: vs).toArray := ⟨_, hH2 ▸ Heap.get?_push_size _ rfl, rfl, _, rfl⟩
  have haH2 : H2.get? a = some (lstO [] 0) := hH2 ▸ Heap.get?_push_of_some _ (s1 _ _ haH)
  refine assign_Tuple_tuple (s := { s with heap := H2, toks := t1 }) rm.hd hT (by rw [assign_len (by simp [hst]; rfl), List.length_cons, hn', ← hl]; simp) (assign_idx (by simp [hst]; rfl)) fun h' he' => ?_
  have sy : Stays H2 h' := fun b ob e => he' b ob (Nat.ne_of_lt (Heap.lt_size e)) e
  have st4 : St c h₀ K₀ env ns ρ .no K1 h' := st3.step (.refl ..) (st3.kn.mono sy) sy
  have hae := sy _ _ haH2
  rw [assign_cons rfl, List.map_cons]
  obtain ⟨m, n1⟩ := st4.locals
  obtain ⟨m0, n0⟩ := st.locals
  obtain ⟨oL, eL⟩ := ns_some n0
  refine PyProof.Rows.assignInOrder_cons (wpAny_assign_Name (wpAny_storeName_local (S.loc x (List.mem_of_getElem? hi)) n1 (fun h2 hn2 hs2 => ?_) S.np))
  have st5 : St c h₀ K₀ env ns ρ (.lst i a []) K1 h2 := st4.storeOwn S hi hr hae .nil (fun q => by rw [q, eL] at hsn; cases hsn) (stays_none st.keep hsn) (fun q hq e => ?_) (fun m' n' => by rw [ns_det n' n1]; exact hn2) hs2
  · exact hts a _ _ _ _ _ { s with heap := h2, toks := _ } _ _ _ _ rfl st5 (rm.le (Nat.zero_le _)) dv fun h3 t3 st6 _ => r .next h3 t3 ⟨_, _, _, st6, h a⟩
  · rcases x1.fresh q hq with z | z
    · have := st.kn q z; rw [e, hsn] at this; cases this
    · rw [e] at z; rw [show ({ s with heap := H } : Shared).heap = H from rfl, haH] at z; cases z
end
end
-- MV
local macro_rules | `(tactic| walk_at "op") => `(tactic| with_reducible first
  | exact notInLstS
  | exact inTupB
  | exact notInTupB
  | exact inTupO
  | exact eqO
  | exact isNoneO
  | exact isNotNoneO
  | exact isNoneB
  | exact isNotNoneA
  | fail "no")
local macro_rules | `(tactic| walk_at "evss") => `(tactic| with_reducible first
  | exact EVs.nilS
  | (refine' EVs.consS ?e1 ?e2; (case e1 => walk_at "ev"); (case e2 => walk_at "evss")))
local macro_rules | `(tactic| walk_at "evsb") => `(tactic| with_reducible first
  | exact EVs.nilB
  | (refine' EVs.consB ?e1 ?e2; (case e1 => walk_at "ev"); (case e2 => walk_at "evsb")))
local macro_rules | `(tactic| walk_at "ev") => `(tactic| with_reducible first
  | (refine' EV.tupS ?e1 ?e2; (case e1 => walk_at "evss"); (case e2 => with_unfolding_all exact Nat.le_of_ble_eq_true rfl))
  | (refine' EV.lstS ?e1 ?e2; (case e1 => walk_at "evss"); (case e2 => with_unfolding_all exact Nat.le_of_ble_eq_true rfl))
  | (refine' EV.tupB ?e1 ?e2; (case e1 => walk_at "evsb"); (case e2 => with_unfolding_all exact Nat.le_of_ble_eq_true rfl))
  | fail "no")
local macro_rules | `(tactic| walk_at "opc") => `(tactic| with_reducible first
  | (refine' get_attribute_ok (by assumption) ?hz; (case hz => walk_at "sz"))
  | fail "no")
noncomputable def toldM (l : List Nat) (i : Nat) : Option (List Nat) :=
  if (decide (i < l.length) && [tx "\"", tx "'"].contains [l.getD i 0]) = true then
    let e := run (fun x => [x] != [l.getD i 0]) l (i + 1)
    if decide (l.length ≤ e) = true then none else encodingM (cutL l (some (i + 1)) (some e))
  else
    let e := run (fun x => [x] != tx ";" && !isSp x) l i
    encodingM (cutL l (some i) (some e))
theorem told_charset_ok {c : Cx} (P : Pg c) {l : List Nat} {i : Nat} (hx : ∀ x ∈ l, x < 1000000) (hz : l.length ≤ 16000000) : OpC c (.ref 117) 5 [sD l, nD i] (oD (toldM l i)) := by
  refine Fn.ok (ps := ["text", "at"]) (os := ["end"]) (gs := ["len", "encoding_of", "is_space"]) P.told_charset_ (by decide +kernel) (fun pm cd s => vs2 fun v w => BindsTo.of_eq rfl) rfl (fun env S => ?_)
  dsimp only [List.cons_append, List.nil_append, List.map] at S ⊢
  unfold toldM
  walk_at "set"
  walk_at "if" <;> intro ht
  · rw [if_pos ht]
    simp only [Bool.and_eq_true, decide_eq_true_eq] at ht
    have hi := ht.1
    clear ht
    walk_at "set"
    refine' EX.cons (EX1.while_ (fun m ρ o => ∃ a, ρ = [some (sD l), some (nD i), some (nD a)] ∧ o = .no ∧ m = l.length - a ∧ run (fun x => [x] != [l.getD i 0]) l a = run (fun x => [x] != [l.getD i 0]) l (i + 1)) (l.length - (i + 1)) ⟨i + 1, rfl, rfl, rfl, rfl⟩ ?turn)
    rintro m ρ o ⟨a, rfl, rfl, rfl, hr⟩
    refine' ⟨decide (a < l.length) && [l.getD a 0] != [l.getD i 0], by walk_at "tr", fun h => ?_, fun h => ?_⟩
    · simp only [Bool.and_eq_true, decide_eq_true_eq] at h
      walk_at "aug"
      exact EX.nil ⟨l.length - (a + 1), by omega, a + 1, rfl, rfl, rfl, (run_step (p := fun x => [x] != [l.getD i 0]) h.1 h.2).trans hr⟩
    · simp only [Bool.and_eq_false_iff, decide_eq_false_iff_not] at h
      have he : run (fun x => [x] != [l.getD i 0]) l (i + 1) = a := by
        rw [← hr, run_stop (p := fun x => [x] != [l.getD i 0]) (fun hl => h.resolve_left (fun q => q hl))]
      rw [he]
      walk_at "if" <;> intro ht3
      · walk_at "ret"
        rw [if_pos ht3]; rfl
      rw [if_neg (by rw [ht3]; exact Bool.false_ne_true)]
      have henc := encoding_of_ok P (l := cutL l (some (i + 1)) (some a)) (fun x h => hx x (cutL_mem h)) (Nat.le_trans (cutL_len _ _ _) hz)
      walk_at "ret"
      rfl
  · rw [if_neg (by rw [ht]; exact Bool.false_ne_true)]
    refine' EX.cons (EX1.while_ (fun m ρ o => ∃ a, ρ = [some (sD l), some (nD i), some (nD a)] ∧ o = .no ∧ m = l.length - a ∧ run (fun x => [x] != tx ";" && !isSp x) l a = run (fun x => [x] != tx ";" && !isSp x) l i) (l.length - i) ⟨i, rfl, rfl, rfl, rfl⟩ ?turn2)
    rintro m ρ o ⟨a, rfl, rfl, rfl, hr⟩
    refine' ⟨decide (a < l.length) && ([l.getD a 0] != tx ";" && !isSp (l.getD a 0)), by walk_at "tr", fun h => ?_, fun h => ?_⟩
    · rw [Bool.and_eq_true, decide_eq_true_eq] at h
      walk_at "aug"
      exact EX.nil ⟨l.length - (a + 1), by omega, a + 1, rfl, rfl, rfl, (run_step (p := fun x => [x] != tx ";" && !isSp x) h.1 h.2).trans hr⟩
    · rw [Bool.and_eq_false_iff, decide_eq_false_iff_not] at h
      have he : run (fun x => [x] != tx ";" && !isSp x) l i = a := by
        rw [← hr, run_stop (p := fun x => [x] != tx ";" && !isSp x) (fun hl => h.resolve_left (fun q => q hl))]
      rw [he]
      have henc := encoding_of_ok P (l := cutL l (some i) (some a)) (fun x h => hx x (cutL_mem h)) (Nat.le_trans (cutL_len _ _ _) hz)
      walk_at "ret"
      rfl
local macro_rules | `(tactic| walk_at "opc") => `(tactic| with_reducible first
  | (refine' told_charset_ok (by assumption) ?hx ?hz; (case hx => walk_at "sz"); (case hz => walk_at "sz"))
  | fail "no")
noncomputable def contentR (l : List Nat) : Nat → Nat → Option (List Nat)
  | 0, _ => none
  | f + 1, a => if decide (a + 7 ≤ l.length) = true then
      if (cutL l (some a) (some (a + 7)) != tx "charset") = true then contentR l f (a + 1) else
      if (cutL l (some (run isSp l (a + 7))) (some (run isSp l (a + 7) + 1)) == tx "=") = true then toldM l (run isSp l (run isSp l (a + 7) + 1)) else contentR l f (run isSp l (a + 7))
    else none
theorem contentR_succ (l : List Nat) (f a : Nat) : contentR l (f + 1) a = if decide (a + 7 ≤ l.length) = true then
      if (cutL l (some a) (some (a + 7)) != tx "charset") = true then contentR l f (a + 1) else
      if (cutL l (some (run isSp l (a + 7))) (some (run isSp l (a + 7) + 1)) == tx "=") = true then toldM l (run isSp l (run isSp l (a + 7) + 1)) else contentR l f (run isSp l (a + 7))
    else none := rfl
noncomputable def contentM (t : List Nat) : Option (List Nat) := contentR (t.map lo1) ((t.map lo1).length + 1) 0
theorem lo1_lt {x : Nat} (h : x < 900000) : lo1 x < 1000000 := by unfold lo1; split <;> omega
theorem content_charset_ok {c : Cx} (P : Pg c) {l : List Nat} (hx : ∀ x ∈ l, x < 900000) (hz : l.length ≤ 16000000) : OpC c (.ref 124) 6 [sD l] (oD (contentM l)) := by
  refine Fn.ok (ps := ["text"]) (os := ["low", "at"]) (gs := ["lower_text", "len", "skip_spaces", "told_charset"]) P.content_charset_ (by decide +kernel) (fun pm cd s => vs1 fun v => BindsTo.of_eq rfl) rfl (fun env S => ?_)
  dsimp only [List.cons_append, List.nil_append, List.map] at S ⊢
  unfold contentM
  have hlow := lower_text_ok P l (fun x h => by have := hx x h; omega) (by omega)
  walk_at "set"
  have hwx : ∀ x ∈ l.map lo1, x < 1000000 := by
    intro x h
    rw [List.mem_map] at h
    obtain ⟨y, hy, rfl⟩ := h
    exact lo1_lt (hx y hy)
  have hwz : (l.map lo1).length ≤ 16000000 := by rw [List.length_map]; exact hz
  generalize l.map lo1 = w at hwx hwz
  clear hlow
  walk_at "set"
  generalize hR : contentR w (w.length + 1) 0 = R
  refine' EX.cons (EX1.while_ (fun m ρ o => ∃ a, ρ = [some (sD l), some (sD w), some (nD a)] ∧ o = .no ∧ w.length < m + a ∧ contentR w m a = R) (w.length + 1) ⟨0, rfl, rfl, by omega, hR⟩ ?turn)
  clear hR
  rintro m ρ o ⟨a, rfl, rfl, hm, hr⟩
  subst hr
  refine' ⟨decide (a + 7 ≤ w.length), by walk_at "tr", fun h => ?_, fun h => ?_⟩
  · obtain ⟨f, rfl⟩ : ∃ f, m = f + 1 := by
      cases m with
      | zero => rw [decide_eq_true_eq] at h; omega
      | succ f => exact ⟨f, rfl⟩
    rw [contentR_succ, if_pos h]
    walk_at "if" <;> intro ht
    · rw [if_pos ht]
      walk_at "aug"
      exact EX.cons (EX1.cont ⟨f, by omega, a + 1, rfl, rfl, by omega, rfl⟩)
    · rw [if_neg (by rw [ht]; exact Bool.false_ne_true)]
      walk_at "set"
      have hge := run_ge isSp w (a + 7)
      generalize run isSp w (a + 7) = a2 at hge
      walk_at "if" <;> intro ht2
      · rw [if_pos ht2]
        walk_at "ret"
        rfl
      · rw [if_neg (by rw [ht2]; exact Bool.false_ne_true)]
        exact EX.nil ⟨f, by omega, a2, rfl, rfl, by omega, rfl⟩
  · walk_at "ret"
    cases m with
    | zero => rfl
    | succ f => rw [contentR_succ, if_neg (by rw [h]; exact Bool.false_ne_true)]; rfl
-- MW
section
variable {c : Cx} {k : Nat} {env : Env} {ns gs : List Str} {ρ ρ' : Env'} {o : Own} {pos p : Pos} {Qn Qc : Env' → Own → Prop} {Qr : Dat → Prop}
theorem OpT.ob {w : Option Bool} : OpT c (obD w) (w == some true) := by
  intro K s A E Q v g kn rm dv r
  cases w with
  | none =>
    cases dv
    exact PyProof.Rows.truthy_none (r.here' kn rfl)
  | some b =>
    cases dv
    refine wpAny_truthy_bool (r.here' kn ?_)
    cases b <;> rfl
theorem EX1.mono {st : Stmt} {Qn' : Env' → Own → Prop} (h : EX1 c k env ns ρ o st Qn Qr Qc) (hq : ∀ ρ' o', Qn ρ' o' → Qn' ρ' o') : EX1 c k env ns ρ o st Qn' Qr Qc := by
  intro h₀ K₀ K s A E Q st rm r
  refine h _ _ _ _ _ _ _ st rm fun fl h' tk f => r fl h' tk ?_
  cases fl with
  | next => obtain ⟨ρ1, o1, K1, s1, q⟩ := f; exact ⟨ρ1, o1, K1, s1, hq _ _ q⟩
  | cont => exact f
  | ret v => exact f
  | brk => exact f
theorem EX.mid {st : Stmt} {ss : List Stmt} (Mid : Env' → Own → Prop) (h : EX1 c k env ns ρ o st Mid Qr Qc) (t : ∀ ρ' o', Mid ρ' o' → EX c k env ns ρ' o' ss Qn Qr Qc) : EX c k env ns ρ o (st :: ss) Qn Qr Qc :=
  EX.cons (h.mono t)
end
local macro_rules | `(tactic| walk_at "tr") => `(tactic| with_reducible first
  | (refine' TR.cmp ?e1 ?e2 ?e3; (case e1 => walk_at "ev"); (case e2 => walk_at "ev"); (case e3 => walk_at "op"))
  | (refine' TR.chain ?e1 ?e2 ?e3 (fun _ => ?e4) ?e5; (case e1 => walk_at "ev"); (case e2 => walk_at "ev"); (case e3 => walk_at "op"); (case e4 => walk_at "ev"); (case e5 => walk_at "op"))
  | (refine' TR.not ?e1; case e1 => walk_at "tr")
  | (refine' TR.and2 ?e1 (fun _ => ?e2); (case e1 => walk_at "tr"); (case e2 => walk_at "tr"))
  | (refine' TR.and3 ?e1 (fun _ => ?e2) (fun _ _ => ?e3); (case e1 => walk_at "tr"); (case e2 => walk_at "tr"); (case e3 => walk_at "tr"))
  | (refine' TR.or2 ?e1 (fun _ => ?e2); (case e1 => walk_at "tr"); (case e2 => walk_at "tr"))
  | (refine' TR.or4 ?e1 (fun _ => ?e2) (fun _ _ => ?e3) (fun _ _ _ => ?e4); (case e1 => walk_at "tr"); (case e2 => walk_at "tr"); (case e3 => walk_at "tr"); (case e4 => walk_at "tr"))
  | (refine' TR.of ?e1 OpT.bool; case e1 => walk_at "ev")
  | (refine' TR.of ?e1 OpT.ob; case e1 => walk_at "ev"))
local macro_rules | `(tactic| walk_at "opc") => `(tactic| with_reducible first
  | (refine' content_charset_ok (by assumption) ?hx ?hz; (case hx => walk_at "sz"); (case hz => walk_at "sz"))
  | fail "no")
noncomputable def tagE (l : List Nat) (i : Nat) : Nat := if (decide (run ((gapT ++ [47]).contains ·) l i < l.length) && l.getD (run ((gapT ++ [47]).contains ·) l i) 0 == 62) = true then run ((gapT ++ [47]).contains ·) l i else l.length
theorem tag_end_ok {c : Cx} (P : Pg c) {l : List UInt8} {i : Nat} (hz : l.length ≤ 16000000) : OpC c (.ref 131) 2 [bD l, nD i] (nD (tagE (nn l) i)) := by
  refine Fn.ok (ps := ["octets", "at"]) (os := []) (gs := ["skip", "gaps", "len"]) P.tag_end_ (by decide +kernel) (fun pm cd s => vs2 fun v w => BindsTo.of_eq rfl) rfl (fun env S => ?_)
  dsimp only [List.cons_append, List.nil_append, List.map] at S ⊢
  unfold tagE
  simp only [nn_len]
  walk_at "set"
  generalize run ((gapT ++ [47]).contains ·) (nn l) i = a
  walk_at "if" <;> intro ht
  · rw [if_pos ht]
    walk_at "ret"
    rfl
  rw [if_neg (by rw [ht]; exact Bool.false_ne_true)]
  walk_at "ret"
  rfl
local macro_rules | `(tactic| walk_at "opc") => `(tactic| with_reducible first
  | (refine' tag_end_ok (by assumption) ?hz; (case hz => walk_at "sz"))
  | fail "no")
structure MS where
  seen : List (List Nat)
  hp : Bool
  np : Option Bool
  cs : Option (List Nat)
noncomputable def metaStep (s : MS) (n v : List Nat) : MS :=
  if (!s.seen.contains n) = true then
    if (n == tx "http-equiv") = true then ⟨s.seen ++ [n], v == tx "content-type", s.np, s.cs⟩ else
    if (n == tx "content" && s.cs.isNone) = true then ⟨s.seen ++ [n], s.hp, if (!(contentM v).isNone) = true then some true else s.np, contentM v⟩ else
    if (n == tx "charset") = true then ⟨s.seen ++ [n], s.hp, some false, some ((encodingM v).getD [])⟩ else ⟨s.seen ++ [n], s.hp, s.np, s.cs⟩
  else s
noncomputable def metaR (l : List Nat) : Nat → MS → Nat → MS × Nat
  | 0, s, i => (s, i)
  | f + 1, s, i => match getA l i with
    | none => (s, i)
    | some (n, v, a) => metaR l f (metaStep s n v) a
noncomputable def metaCs (s : MS) : Option (List Nat) :=
  let c1 := if ([tx "UTF-16BE", tx "UTF-16LE"].map some).contains s.cs = true then some (tx "UTF-8") else s.cs
  if (c1 == some (tx "x-user-defined")) = true then some (tx "windows-1252") else c1
noncomputable def metaFin (l : List Nat) (s : MS) (i : Nat) : Option (List Nat) × Nat :=
  if (tagE l i == l.length || (s.np.isNone || (s.cs == some (tx "") || (s.np == some true && !s.hp)))) = true then (none, tagE l i) else (metaCs s, tagE l i)
noncomputable def readM (l : List Nat) (i : Nat) : Option (List Nat) × Nat :=
  metaFin l (metaR l l.length ⟨[], false, none, none⟩ i).1 (metaR l l.length ⟨[], false, none, none⟩ i).2
theorem getA_spec {l : List Nat} {i : Nat} {n v : List Nat} {a : Nat} (hl : ∀ x ∈ l, x < 256) (h : getA l i = some (n, v, a)) :
    i < l.length ∧ i < a ∧ (∀ x ∈ v, x < 900000) ∧ v.length ≤ l.length ∧ (∀ x ∈ n, x < 900000) ∧ n.length ≤ l.length := by
  have hc : ∀ (p q : Option Nat), ∀ x ∈ (cutL l p q).map lo1, x < 900000 := by
    intro p q x hx
    rw [List.mem_map] at hx
    obtain ⟨y, hy, rfl⟩ := hx
    have := hl y (cutL_mem hy)
    unfold lo1; split <;> omega
  have hn : ∀ (p q : Option Nat), ((cutL l p q).map lo1).length ≤ l.length := by
    intro p q; rw [List.length_map]; exact cutL_len _ _ _
  unfold getA at h
  have h1 := run_ge ((gapT ++ [47]).contains ·) l i
  generalize run ((gapT ++ [47]).contains ·) l i = b at h h1
  split at h
  · cases h
  rename_i h2
  simp only [Bool.or_eq_true, decide_eq_true_eq, not_or] at h2
  dsimp only at h
  have h3 := run_ge (fun x => !(gapT ++ [47, 61, 62]).contains x) l (b + 1)
  generalize run (fun x => !(gapT ++ [47, 61, 62]).contains x) l (b + 1) = a2 at h h3
  have h4 := run_ge (gapT.contains ·) l a2
  generalize run (gapT.contains ·) l a2 = a3 at h h4
  split at h
  · cases h
  split at h
  · cases h
    exact ⟨by omega, by omega, by simp, by simp, hc _ _, hn _ _⟩
  have h5 := run_ge (gapT.contains ·) l (a3 + 1)
  generalize run (gapT.contains ·) l (a3 + 1) = a4 at h h5
  split at h
  · cases h
  split at h
  · have h6 := run_ge (fun x => ![l.getD a4 0].contains x) l (a4 + 1)
    generalize run (fun x => ![l.getD a4 0].contains x) l (a4 + 1) = e at h h6
    split at h
    · cases h
    cases h
    exact ⟨by omega, by omega, hc _ _, hn _ _, hc _ _, hn _ _⟩
  · have h6 := run_ge (fun x => !(gapT ++ [62]).contains x) l a4
    generalize run (fun x => !(gapT ++ [62]).contains x) l a4 = e at h h6
    split at h
    · cases h
    cases h
    exact ⟨by omega, by omega, hc _ _, hn _ _, hc _ _, hn _ _⟩
theorem metaR_some {l : List Nat} {f i : Nat} {s : MS} {n v : List Nat} {a : Nat} (h : getA l i = some (n, v, a)) : metaR l (f + 1) s i = metaR l f (metaStep s n v) a := by
  show (match getA l i with | none => (s, i) | some (n, v, a) => metaR l f (metaStep s n v) a) = _
  rw [h]
theorem metaR_none {l : List Nat} {f i : Nat} {s : MS} (h : getA l i = none) : metaR l f s i = (s, i) := by
  cases f with
  | zero => rfl
  | succ f =>
    show (match getA l i with | none => (s, i) | some (n, v, a) => metaR l f (metaStep s n v) a) = _
    rw [h]
theorem read_meta_ok {c : Cx} (P : Pg c) {l : List UInt8} {i : Nat} (hz : l.length ≤ 16000000) : OpC c (.ref 138) 7 [bD l, nD i] (.tuple [oD (readM (nn l) i).1, nD (readM (nn l) i).2]) := by
  refine Fn.ok (ps := ["octets", "at"]) (os := ["seen", "has_pragma", "needs_pragma", "charset", "found", "name", "value", "end"]) (gs := ["get_attribute", "content_charset", "encoding_of", "tag_end", "len"]) P.read_meta_ (by decide +kernel) (fun pm cd s => vs2 fun v w => BindsTo.of_eq rfl) rfl (fun env S => ?_)
  dsimp only [List.cons_append, List.nil_append, List.map] at S ⊢
  unfold readM
  simp only [nn_len]
  refine' EX.cons (EX1.assignOwnT (ds := [.bool false, .none, .none]) (f := fun ρ => ((ρ.set 3 (some (.bool false))).set 4 (some .none)).set 5 (some .none)) S 2 rfl rfl ?qe (by decide) (fun a => TGs.cons (d := .bool false) (ds := [.none, .none]) (TG.name S 3 rfl (OwnFree.ne (l := []) (by decide))) (TGs.cons (d := .none) (ds := [.none]) (TG.name S 4 rfl (OwnFree.ne (l := []) (by decide))) (TGs.cons (d := .none) (ds := []) (TG.name S 5 rfl (OwnFree.ne (l := []) (by decide))) TGs.nil))) fun a => ?qr)
  case qe => walk_at "evs"
  case qr =>
  dsimp only [List.set]
  walk_at "set"
  generalize hR : metaR (nn l) l.length ⟨[], false, none, none⟩ i = R
  refine' EX.mid (fun ρ o => ∃ x y f, ρ = [some (bD l), some (nD R.2), none, some (.bool R.1.hp), some (obD R.1.np), some (oD R.1.cs), f, x, y, none] ∧ o = .lst 2 a (sDs R.1.seen))
    (EX1.while_ (fun m ρ o => ∃ (s : MS) (j : Nat) (x y : Option Dat), ρ = [some (bD l), some (nD j), none, some (.bool s.hp), some (obD s.np), some (oD s.cs), some (attD (getA (nn l) j)), x, y, none] ∧ o = .lst 2 a (sDs s.seen) ∧ l.length ≤ m + j ∧ s.seen.length + m ≤ l.length ∧ metaR (nn l) m s j = R)
      l.length ⟨⟨[], false, none, none⟩, i, none, none, rfl, rfl, by omega, Nat.le_of_eq (Nat.zero_add _), hR⟩ ?turn) ?tail
  case turn =>
    rintro m ρ o ⟨s, j, x, y, rfl, rfl, hm, hs, hr⟩
    refine' ⟨!(getA (nn l) j).isNone, by walk_at "tr", fun h => ?_, fun h => ?_⟩
    · cases hg : getA (nn l) j with
      | none => rw [hg] at h; cases h
      | some t =>
        obtain ⟨n, v, a'⟩ := t
        obtain ⟨h1, h2, h3, h4, h5, h6⟩ := getA_spec (nn_lt l) hg
        rw [nn_len] at h1 h4 h6
        obtain ⟨f, rfl⟩ : ∃ f, m = f + 1 := ⟨m - 1, by omega⟩
        rw [metaR_some hg] at hr
        dsimp only [attD]
        refine' EX.cons (EX1.assignT (f := fun ρ => ((ρ.set 7 (some (sD n))).set 8 (some (sD v))).set 1 (some (nD a'))) (d := .tuple [sD n, sD v, nD a']) ?qv (TG.tuple (TGs.cons (TG.name S 7 rfl (OwnFree.ne (by decide))) (TGs.cons (TG.name S 8 rfl (OwnFree.ne (by decide))) (TGs.cons (TG.name S 1 rfl (OwnFree.ne (by decide))) TGs.nil)))) ?qn)
        case qv => walk_at "ev"
        case qn =>
        dsimp only [List.set]
        refine' EX.mid (fun ρ o => ∃ f, ρ = [some (bD l), some (nD a'), none, some (.bool (metaStep s n v).hp), some (obD (metaStep s n v).np), some (oD (metaStep s n v).cs), f, some (sD n), some (sD v), none] ∧ o = .lst 2 a (sDs (metaStep s n v).seen)) ?qif ?qtail
        case qtail =>
          rintro ρ o ⟨fd, rfl, rfl⟩
          have hlen : (metaStep s n v).seen.length ≤ s.seen.length + 1 := by
            unfold metaStep
            split
            · split
              · simp
              · split
                · simp
                · split <;> simp
            · omega
          walk_at "set"
          exact EX.nil ⟨f, by omega, metaStep s n v, a', _, _, rfl, rfl, by omega, by omega, hr⟩
        case qif =>
          unfold metaStep
          refine' EX1.if_ (TR.frz S ?qt) (fun ht => ?qa) (fun ht => ?qb)
          case qt =>
            dsimp only [List.set]
            walk_at "tr"
          case qb =>
            simp only [ht]
            exact EX.nil ⟨_, rfl, rfl⟩
          case qa =>
            simp only [ht, if_true]
            refine' EX.cons (EX1.append (d := sD n) S rfl ?qd ?qz ?qk)
            case qd => walk_at "ev"
            case qz => simp [sDs]; omega
            case qk =>
            rw [show sDs s.seen ++ [sD n] = sDs (s.seen ++ [n]) by simp [sDs]]
            walk_at "if" <;> intro ht1
            · rw [if_pos ht1]
              walk_at "set"
              exact EX.nil (EX.nil ⟨_, rfl, rfl⟩)
            rw [if_neg (by rw [ht1]; exact Bool.false_ne_true)]
            walk_at "if" <;> intro ht2
            · rw [if_pos ht2]
              have hcc := content_charset_ok P (l := v) h3 (by omega)
              walk_at "set"
              walk_at "if" <;> intro ht3
              · walk_at "set"
                rw [if_pos ht3]
                walk_at "nils"
                exact ⟨_, rfl, rfl⟩
              · rw [if_neg (by rw [ht3]; exact Bool.false_ne_true)]
                walk_at "nils"
                exact ⟨_, rfl, rfl⟩
            rw [if_neg (by rw [ht2]; exact Bool.false_ne_true)]
            walk_at "if" <;> intro ht3
            · rw [if_pos ht3]
              have henc := encoding_of_ok P (l := v) (fun x hx => by have := h3 x hx; omega) (by omega)
              walk_at "set"
              walk_at "if" <;> intro ht4
              · walk_at "set"
                walk_at "nils"
                walk_at "set"
                walk_at "nils"
                have he : encodingM v = none := by cases he : encodingM v with
                  | none => rfl
                  | some x => rw [he] at ht4; cases ht4
                rw [he, tx0]
                exact ⟨_, rfl, rfl⟩
              · walk_at "set"
                walk_at "nils"
                obtain ⟨z, he⟩ : ∃ z, encodingM v = some z := by cases he : encodingM v with
                  | none => rw [he] at ht4; cases ht4
                  | some x => exact ⟨x, rfl⟩
                rw [he]
                exact ⟨_, rfl, rfl⟩
            · rw [if_neg (by rw [ht3]; exact Bool.false_ne_true)]
              walk_at "nils"
              exact ⟨_, rfl, rfl⟩
    · have hg : getA (nn l) j = none := by
        cases hg : getA (nn l) j with
        | none => rfl
        | some t => rw [hg] at h; cases h
      rw [metaR_none hg] at hr
      subst hr
      exact ⟨_, _, _, rfl, rfl⟩
  case tail =>
    rintro ρ o ⟨x, y, f, rfl, rfl⟩
    obtain ⟨⟨seen, hp, np, cs⟩, j⟩ := R
    dsimp only
    unfold metaFin
    simp only [nn_len]
    walk_at "set"
    generalize tagE (nn l) j = e
    walk_at "if" <;> intro ht
    · rw [if_pos ht]
      walk_at "ret"
      rfl
    rw [if_neg (by rw [ht]; exact Bool.false_ne_true)]
    unfold metaCs
    dsimp only
    walk_at "if" <;> intro ht2
    · rw [if_pos ht2]
      walk_at "set"
      walk_at "nils"
      walk_at "if" <;> intro ht3
      · have : (some (tx "UTF-8") == some (tx "x-user-defined")) = false := by decide +kernel
        exfalso
        have h2 : (tx "UTF-8" == tx "x-user-defined") = true := ht3
        rw [show (tx "UTF-8" == tx "x-user-defined") = false by decide +kernel] at h2
        cases h2
      · have h2 : (some (tx "UTF-8") == some (tx "x-user-defined")) = false := by decide +kernel
        rw [if_neg (by rw [h2]; exact Bool.false_ne_true)]
        walk_at "ret"
        rfl
    · have hc1 : (if (([tx "UTF-16BE", tx "UTF-16LE"].map some).contains cs) = true then some (tx "UTF-8") else cs) = cs := if_neg (by rw [ht2]; exact Bool.false_ne_true)
      rw [hc1]
      walk_at "if" <;> intro ht3
      · rw [if_pos ht3]
        walk_at "set"
        walk_at "nils"
        walk_at "ret"
        rfl
      · rw [if_neg (by rw [ht3]; exact Bool.false_ne_true)]
        walk_at "ret"
        rfl
-- MX
theorem nn_getD_lt (l : List UInt8) (i : Nat) : (nn l).getD i 0 < 256 := by
  rw [nn_getD]; exact UInt8.toNat_lt _
theorem chrN {c : Cx} {l : List UInt8} {i : Nat} : OpC c (.builtin "chr") 0 [nD ((nn l).getD i 0)] (sD [(nn l).getD i 0]) := chrI (by have := nn_getD_lt l i; omega)
local macro_rules | `(tactic| walk_at "ev") => `(tactic| with_reducible first
  | (refine' EV.callB (by assumption) ?m (Pg.bChr (by assumption)) ?es chrN; (case m => walk_at "mem"); (case es => walk_at "evs"))
  | fail "no")
local macro_rules | `(tactic| walk_at "opc") => `(tactic| with_reducible first
  | (refine' read_meta_ok (by assumption) ?hz; (case hz => walk_at "sz"))
  | fail "no")
noncomputable def comE (l : List Nat) : Nat → Nat → Nat
  | 0, a => a
  | f + 1, a => if (decide (a < l.length) && cutL l (some (a - 2)) (some (a + 1)) != [45, 45, 62]) = true then comE l f (a + 1) else a
theorem comE_succ (l : List Nat) (f a : Nat) : comE l (f + 1) a = if (decide (a < l.length) && cutL l (some (a - 2)) (some (a + 1)) != [45, 45, 62]) = true then comE l f (a + 1) else a := rfl
noncomputable def passR (l : List Nat) : Nat → Nat → Nat
  | 0, i => i
  | f + 1, i => match getA l i with
    | none => i
    | some t => passR l f t.2.2
theorem passR_some {l : List Nat} {f i : Nat} {n v : List Nat} {a : Nat} (h : getA l i = some (n, v, a)) : passR l (f + 1) i = passR l f a := by
  show (match getA l i with | none => i | some t => passR l f t.2.2) = _
  rw [h]
theorem passR_none {l : List Nat} {f i : Nat} (h : getA l i = none) : passR l f i = i := by
  cases f with
  | zero => rfl
  | succ f =>
    show (match getA l i with | none => i | some t => passR l f t.2.2) = _
    rw [h]
noncomputable def passM (l : List Nat) (i : Nat) : Nat :=
  if (cutL l (some i) (some (i + 4)) == [60, 33, 45, 45]) = true then comE l l.length (i + 4) else
  let b := if (cutL l (some (i + 1)) (some (i + 1 + 1)) == [47]) = true then i + 1 + 1 else i + 1
  if (decide (b < l.length) && isLet (l.getD b 0)) = true then
    tagE l (passR l l.length (run (fun x => !(gapT ++ [62]).contains x) l b))
  else if ([[33], [47], [63]].contains (cutL l (some (i + 1)) (some (i + 2)))) = true then run (fun x => !([62] : List Nat).contains x) l (i + 1) else i
theorem nn_cB (l : List UInt8) (i j : Option Nat) (r : List UInt8) : (cutL l i j == r) = (cutL (nn l) i j == nn r) := by rw [nn_beq, nn_cut]
theorem nn_cN (l : List UInt8) (i j : Option Nat) (r : List UInt8) : (cutL l i j != r) = (cutL (nn l) i j != nn r) := by unfold bne; rw [nn_cB]
theorem nn_cI (l : List UInt8) (i j : Option Nat) (rs : List (List UInt8)) : rs.contains (cutL l i j) = (rs.map nn).contains (cutL (nn l) i j) := by
  rw [List.contains_eq_any_beq, List.contains_eq_any_beq, List.any_map]
  congr 1; funext z
  exact nn_cB l i j z
theorem pass_over_ok {c : Cx} (P : Pg c) {l : List UInt8} {i : Nat} (hz : l.length ≤ 16000000) : OpC c (.ref 145) 6 [bD l, nD i] (nD (passM (nn l) i)) := by
  refine Fn.ok (ps := ["octets", "at"]) (os := ["end", "begin", "found"]) (gs := ["len", "is_letter", "chr", "seek", "gaps", "get_attribute", "tag_end"]) P.pass_over_ (by decide +kernel) (fun pm cd s => vs2 fun v w => BindsTo.of_eq rfl) rfl (fun env S => ?_)
  dsimp only [List.cons_append, List.nil_append, List.map] at S ⊢
  unfold passM
  simp only [nn_len]
  walk_at "if" <;> intro ht
  · rw [nn_cB] at ht
    have ht' : (cutL (nn l) (some i) (some (i + 4)) == [60, 33, 45, 45]) = true := ht
    rw [if_pos ht']
    clear ht ht'
    walk_at "set"
    generalize hR : comE (nn l) l.length (i + 4) = R
    refine' EX.cons (EX1.while_ (fun m ρ o => ∃ a, ρ = [some (bD l), some (nD i), some (nD a), none, none] ∧ o = .no ∧ i + 4 ≤ a ∧ l.length ≤ m + a ∧ comE (nn l) m a = R) l.length ⟨i + 4, rfl, rfl, Nat.le_refl _, by omega, hR⟩ ?turn)
    clear hR
    rintro m ρ o ⟨a, rfl, rfl, h4, hm, hr⟩
    refine' ⟨decide (a < l.length) && cutL l (some (a - 2)) (some (a + 1)) != [45, 45, 62], by walk_at "tr", fun h => ?_, fun h => ?_⟩
    · obtain ⟨f, rfl⟩ : ∃ f, m = f + 1 := by
        simp only [Bool.and_eq_true, decide_eq_true_eq] at h
        exact ⟨m - 1, by omega⟩
      rw [nn_cN] at h
      have h' : (decide (a < (nn l).length) && cutL (nn l) (some (a - 2)) (some (a + 1)) != [45, 45, 62]) = true := by rw [nn_len]; exact h
      rw [comE_succ, if_pos h'] at hr
      walk_at "aug"
      exact EX.nil ⟨f, by omega, a + 1, rfl, rfl, by omega, by omega, hr⟩
    · rw [nn_cN] at h
      have h' : (decide (a < (nn l).length) && cutL (nn l) (some (a - 2)) (some (a + 1)) != [45, 45, 62]) = false := by rw [nn_len]; exact h
      walk_at "ret"
      rw [← hr]
      cases m with
      | zero => rfl
      | succ f => rw [comE_succ, if_neg (by rw [h']; exact Bool.false_ne_true)]
  have ht' : (cutL (nn l) (some i) (some (i + 4)) == [60, 33, 45, 45]) = false := by rw [nn_cB] at ht; exact ht
  rw [if_neg (by rw [ht']; exact Bool.false_ne_true)]
  clear ht ht'
  walk_at "set"
  refine' EX.mid (fun ρ o => ρ = [some (bD l), some (nD i), none, some (nD (if (cutL (nn l) (some (i + 1)) (some (i + 1 + 1)) == [47]) = true then i + 1 + 1 else i + 1)), none] ∧ o = .no) (EX1.if_ (b := cutL l (some (i + 1)) (some (i + 1 + 1)) == [47]) ?qt (fun ht => ?qa) (fun ht => ?qb)) ?qtail
  case qt => walk_at "tr"
  case qa =>
    rw [nn_cB] at ht
    have ht' : (cutL (nn l) (some (i + 1)) (some (i + 1 + 1)) == [47]) = true := ht
    rw [if_pos ht']
    walk_at "aug"
    exact EX.nil ⟨rfl, rfl⟩
  case qb =>
    rw [nn_cB] at ht
    have ht' : (cutL (nn l) (some (i + 1)) (some (i + 1 + 1)) == [47]) = false := ht
    rw [if_neg (by rw [ht']; exact Bool.false_ne_true)]
    exact EX.nil ⟨rfl, rfl⟩
  case qtail =>
    rintro ρ o ⟨rfl, rfl⟩
    generalize (if (cutL (nn l) (some (i + 1)) (some (i + 1 + 1)) == [47]) = true then i + 1 + 1 else i + 1) = b
    walk_at "if" <;> intro ht
    · rw [if_pos ht]
      clear ht
      walk_at "set"
      generalize run (fun x => !(gapT ++ [62]).contains x) (nn l) b = a
      walk_at "set"
      generalize hR : passR (nn l) l.length a = R
      refine' EX.cons (EX1.while_ (fun m ρ o => ∃ j, ρ = [some (bD l), some (nD j), none, some (nD b), some (attD (getA (nn l) j))] ∧ o = .no ∧ l.length ≤ m + j ∧ passR (nn l) m j = R) l.length ⟨a, rfl, rfl, by omega, hR⟩ ?turn2)
      clear hR
      rintro m ρ o ⟨j, rfl, rfl, hm, hr⟩
      refine' ⟨!(getA (nn l) j).isNone, by walk_at "tr", fun h => ?_, fun h => ?_⟩
      · cases hg : getA (nn l) j with
        | none => rw [hg] at h; cases h
        | some t =>
          obtain ⟨n, v, a'⟩ := t
          obtain ⟨h1, h2, -⟩ := getA_spec (nn_lt l) hg
          rw [nn_len] at h1
          obtain ⟨f, rfl⟩ : ∃ f, m = f + 1 := ⟨m - 1, by omega⟩
          rw [passR_some hg] at hr
          dsimp only [attD]
          walk_at "set"
          walk_at "set"
          exact EX.nil ⟨f, by omega, a', rfl, rfl, by omega, hr⟩
      · have hg : getA (nn l) j = none := by
          cases hg : getA (nn l) j with
          | none => rfl
          | some t => rw [hg] at h; cases h
        rw [passR_none hg] at hr
        subst hr
        walk_at "ret"
        rfl
    rw [if_neg (by rw [ht]; exact Bool.false_ne_true)]
    walk_at "if" <;> intro ht2
    · rw [nn_cI] at ht2
      have ht' : ([[33], [47], [63]].contains (cutL (nn l) (some (i + 1)) (some (i + 2)))) = true := ht2
      rw [if_pos ht']
      walk_at "ret"
      rfl
    · rw [nn_cI] at ht2
      have ht' : ([[33], [47], [63]].contains (cutL (nn l) (some (i + 1)) (some (i + 2)))) = false := ht2
      rw [if_neg (by rw [ht']; exact Bool.false_ne_true)]
      walk_at "ret"
      rfl
theorem skip_low_ok {c : Cx} (P : Pg c) {l : List UInt8} {n : Nat} (hz : l.length ≤ 16000000) : OpC c (.ref 152) 1 [bD l, nD n] (nD (run (fun x => decide (x ≤ 32)) (nn l) n)) := by
  refine Fn.ok (ps := ["octets", "at"]) (os := []) (gs := ["len"]) P.skip_low_ (by decide +kernel) (fun pm cd s => vs2 fun v w => BindsTo.of_eq rfl) rfl (fun env S => ?_)
  dsimp only [List.cons_append, List.nil_append, List.map] at S ⊢
  refine' EX.cons (EX1.while_ (fun m ρ o => ∃ a, ρ = [some (bD l), some (nD a)] ∧ o = .no ∧ m = l.length - a ∧ run (fun x => decide (x ≤ 32)) (nn l) a = run (fun x => decide (x ≤ 32)) (nn l) n) (l.length - n) ⟨n, rfl, rfl, rfl, rfl⟩ ?turn)
  rintro m ρ o ⟨a, rfl, rfl, rfl, hr⟩
  refine' ⟨decide (a < l.length) && decide ((nn l).getD a 0 ≤ 32), by walk_at "tr", fun h => ?_, fun h => ?_⟩
  · rw [Bool.and_eq_true, decide_eq_true_eq] at h
    walk_at "aug"
    exact EX.nil ⟨l.length - (a + 1), by omega, a + 1, rfl, rfl, rfl, (run_step (p := fun x => decide (x ≤ 32)) (by simpa using h.1) h.2).trans hr⟩
  · rw [Bool.and_eq_false_iff, decide_eq_false_iff_not] at h
    walk_at "ret"
    rw [← hr, run_stop (p := fun x => decide (x ≤ 32)) (fun hl => h.resolve_left (fun q => q (by simpa using hl)))]
-- MY
local macro_rules | `(tactic| walk_at "opc") => `(tactic| with_reducible first
  | (refine' pass_over_ok (by assumption) ?hz; (case hz => walk_at "sz"))
  | (refine' skip_low_ok (by assumption) ?hz; (case hz => walk_at "sz"))
  | fail "no")
noncomputable def encE (l : List Nat) : Nat → Nat → Nat
  | 0, a => a
  | f + 1, a => if (decide (a < l.length) && cutL l (some a) (some (a + 8)) != [101, 110, 99, 111, 100, 105, 110, 103]) = true then encE l f (a + 1) else a
theorem encE_succ (l : List Nat) (f a : Nat) : encE l (f + 1) a = if (decide (a < l.length) && cutL l (some a) (some (a + 8)) != [101, 110, 99, 111, 100, 105, 110, 103]) = true then encE l f (a + 1) else a := rfl
noncomputable def low32 : Nat → Bool := fun x => decide (x ≤ 32)
noncomputable def xmlH (h : List Nat) : Option (List Nat) :=
  let a2 := run low32 h (encE h h.length 5 + 8)
  if (cutL h (some a2) (some (a2 + 1)) != [61]) = true then none else
  let a3 := run low32 h (a2 + 1)
  if (!([[34], [39]] : List (List Nat)).contains (cutL h (some a3) (some (a3 + 1)))) = true then none else
  let e2 := run (fun x => ![h.getD a3 0].contains x) h (a3 + 1)
  if decide (h.length ≤ e2) = true then none else
  let w := cutL h (some (a3 + 1)) (some e2)
  if w.any low32 = true then none else
  if ([tx "UTF-16BE", tx "UTF-16LE"].map some).contains (encodingM (w.map lo1)) = true then some (tx "UTF-8") else encodingM (w.map lo1)
noncomputable def xmlM (l : List Nat) : Option (List Nat) :=
  let e := run (fun x => !([62] : List Nat).contains x) l 5
  if (cutL l (some 0) (some 5) != [60, 63, 120, 109, 108] || decide (l.length ≤ e)) = true then none else xmlH (cutL l (some 0) (some e))
theorem cut1_lt {l : List Nat} {a : Nat} {ls : List (List Nat)} (h : ls.contains (cutL l (some a) (some (a + 1))) = true) (h0 : ls.contains [] = false) : a < l.length := by
  rcases Nat.lt_or_ge a l.length with q | q
  · exact q
  · have : cutL l (some a) (some (a + 1)) = [] := by
      unfold cutL
      simp only [Option.getD_some]
      rw [List.drop_eq_nil_of_le (by omega), List.take_nil]
    rw [this, h0] at h; cases h
theorem xml_encoding_ok {c : Cx} (P : Pg c) {l : List UInt8} (hz : l.length ≤ 16000000) : OpC c (.ref 159) 5 [bD l] (oD (xmlM (nn l))) := by
  refine Fn.ok (ps := ["octets"]) (os := ["end", "head", "at", "word", "octet", "found"]) (gs := ["seek", "len", "skip_low", "encoding_of", "folded"]) P.xml_encoding_ (by decide +kernel) (fun pm cd s => vs1 fun v => BindsTo.of_eq rfl) rfl (fun env S => ?_)
  dsimp only [List.cons_append, List.nil_append, List.map] at S ⊢
  unfold xmlM
  simp only [nn_len]
  walk_at "set"
  generalize run (fun x => !([62] : List Nat).contains x) (nn l) 5 = e
  walk_at "if" <;> intro ht
  · rw [nn_cN] at ht
    have ht' : (cutL (nn l) (some 0) (some 5) != [60, 63, 120, 109, 108] || decide (l.length ≤ e)) = true := ht
    rw [if_pos ht']
    walk_at "ret"
    rfl
  rw [nn_cN] at ht
  have ht' : (cutL (nn l) (some 0) (some 5) != [60, 63, 120, 109, 108] || decide (l.length ≤ e)) = false := ht
  rw [if_neg (by rw [ht']; exact Bool.false_ne_true)]
  clear ht ht'
  walk_at "set"
  have hz2 : (cutL l (some 0) (some e)).length ≤ 16000000 := Nat.le_trans (cutL_len _ _ _) hz
  rw [← nn_cut]
  generalize cutL l (some 0) (some e) = h at hz2
  walk_at "set"
  unfold xmlH
  simp only [nn_len]
  generalize hR : encE (nn h) h.length 5 = R
  refine' EX.mid (fun ρ o => ρ = [some (bD l), some (nD e), some (bD h), some (nD R), none, none, none] ∧ o = .no) (EX1.while_ (fun m ρ o => ∃ a, ρ = [some (bD l), some (nD e), some (bD h), some (nD a), none, none, none] ∧ o = .no ∧ h.length ≤ m + a ∧ encE (nn h) m a = R) h.length ⟨5, rfl, rfl, by omega, hR⟩ ?turn) ?tail
  case turn =>
    clear hR
    rintro m ρ o ⟨a, rfl, rfl, hm, hr⟩
    refine' ⟨decide (a < h.length) && cutL h (some a) (some (a + 8)) != [101, 110, 99, 111, 100, 105, 110, 103], by walk_at "tr", fun q => ?_, fun q => ?_⟩
    · obtain ⟨f, rfl⟩ : ∃ f, m = f + 1 := by
        simp only [Bool.and_eq_true, decide_eq_true_eq] at q
        exact ⟨m - 1, by omega⟩
      rw [nn_cN] at q
      have q' : (decide (a < (nn h).length) && cutL (nn h) (some a) (some (a + 8)) != [101, 110, 99, 111, 100, 105, 110, 103]) = true := by rw [nn_len]; exact q
      rw [encE_succ, if_pos q'] at hr
      walk_at "aug"
      exact EX.nil ⟨f, by omega, a + 1, rfl, rfl, by omega, hr⟩
    · rw [nn_cN] at q
      have q' : (decide (a < (nn h).length) && cutL (nn h) (some a) (some (a + 8)) != [101, 110, 99, 111, 100, 105, 110, 103]) = false := by rw [nn_len]; exact q
      have : R = a := by
        rw [← hr]
        cases m with
        | zero => rfl
        | succ f => rw [encE_succ, if_neg (by rw [q']; exact Bool.false_ne_true)]
      subst this
      exact ⟨rfl, rfl⟩
  case tail =>
    clear hR
    rintro ρ o ⟨rfl, rfl⟩
    walk_at "set"
    change EX _ _ _ _ [_, _, _, some (nD (run low32 (nn h) (R + 8))), _, _, _] _ _ _ _ _
    generalize run low32 (nn h) (R + 8) = a2
    walk_at "if" <;> intro ht
    · rw [nn_cN] at ht
      have ht' : (cutL (nn h) (some a2) (some (a2 + 1)) != [61]) = true := ht
      rw [if_pos ht']
      walk_at "ret"
      rfl
    rw [nn_cN] at ht
    have ht' : (cutL (nn h) (some a2) (some (a2 + 1)) != [61]) = false := ht
    rw [if_neg (by rw [ht']; exact Bool.false_ne_true)]
    clear ht ht'
    walk_at "set"
    change EX _ _ _ _ [_, _, _, some (nD (run low32 (nn h) (a2 + 1))), _, _, _] _ _ _ _ _
    generalize run low32 (nn h) (a2 + 1) = a3
    walk_at "if" <;> intro ht
    · rw [nn_cI] at ht
      have ht' : (!([[34], [39]] : List (List Nat)).contains (cutL (nn h) (some a3) (some (a3 + 1)))) = true := ht
      rw [if_pos ht']
      walk_at "ret"
      rfl
    rw [nn_cI] at ht
    have ht' : (!([[34], [39]] : List (List Nat)).contains (cutL (nn h) (some a3) (some (a3 + 1)))) = false := ht
    rw [if_neg (by rw [ht']; exact Bool.false_ne_true)]
    have ha3 : a3 < h.length := by
      rw [Bool.not_eq_false'] at ht'
      have := cut1_lt ht' (by decide)
      rwa [nn_len] at this
    clear ht ht'
    walk_at "set"
    generalize run (fun x => ![(nn h).getD a3 0].contains x) (nn h) (a3 + 1) = e2
    walk_at "if" <;> intro ht
    · rw [if_pos ht]
      walk_at "ret"
      rfl
    rw [if_neg (by rw [ht]; exact Bool.false_ne_true)]
    clear ht
    walk_at "set"
    have hz3 : (cutL h (some (a3 + 1)) (some e2)).length ≤ 16000000 := Nat.le_trans (cutL_len _ _ _) hz2
    rw [← nn_cut]
    generalize cutL h (some (a3 + 1)) (some e2) = w at hz3
    refine' EX.mid (fun ρ o => (∃ x, ρ = [some (bD l), some (nD e2), some (bD h), some (nD a3), some (bD w), x, none]) ∧ o = .no ∧ (nn w).any low32 = false) (EX1.for_ (items := biD w) (f := fun d ρ => ρ.set 5 (some d)) (SRC.of (u := false) ?qi iterB) (fun d _ => TG.name S 5 rfl OwnFree.no)
      (fun i ρ o => (∃ x, ρ = [some (bD l), some (nD e2), some (bD h), some (nD a3), some (bD w), x, none]) ∧ o = .no ∧ ((nn w).take i).any low32 = false) ⟨⟨none, rfl⟩, rfl, rfl⟩ ?ow ?st ?fi (.inr fun _ _ => rfl)) ?tail2
    case qi => walk_at "ev"
    case ow => rintro i ρ o ⟨_, rfl, _⟩; rfl
    case fi =>
      rintro ρ o ⟨hx, rfl, hr⟩
      refine ⟨hx, rfl, ?_⟩
      rw [show (biD w).length = (nn w).length by simp [biD], List.take_length] at hr
      exact hr
    case st =>
      rintro i d ρ o hd ⟨⟨x, rfl⟩, rfl, hr⟩
      unfold biD at hd
      rw [List.getElem?_map] at hd
      cases hl : w[i]? with
      | none => rw [hl] at hd; cases hd
      | some b =>
        rw [hl] at hd
        cases hd
        dsimp only [List.set]
        have hnn : (nn w)[i]? = some b.toNat := by unfold nn; rw [List.getElem?_map, hl]; rfl
        walk_at "if" <;> intro ht
        · have hany : (nn w).any low32 = true := List.any_eq_true.mpr ⟨b.toNat, List.mem_of_getElem? hnn, ht⟩
          rw [if_pos hany]
          walk_at "ret"
          rfl
        · walk_at "nils"
          refine ⟨⟨_, rfl⟩, rfl, ?_⟩
          rw [List.take_add_one, hnn, List.any_append, hr]
          have : low32 b.toNat = false := ht
          simp [this]
    case tail2 =>
      rintro ρ o ⟨⟨x, rfl⟩, rfl, hr⟩
      rw [if_neg (by rw [hr]; exact Bool.false_ne_true)]
      have henc := encoding_of_ok P (l := (nn w).map lo1) (fun x hx => by
        rw [List.mem_map] at hx
        obtain ⟨y, hy, rfl⟩ := hx
        have := nn_lt w y hy
        exact lo1_lt (by omega)) (by rw [List.length_map, nn_len]; exact hz3)
      walk_at "set"
      walk_at "if" <;> intro ht
      · rw [if_pos ht]
        walk_at "ret"
        rfl
      · rw [if_neg (by rw [ht]; exact Bool.false_ne_true)]
        walk_at "ret"
        rfl
-- MZ
theorem FnD.ok {c : Cx} {k i : Nat} {a : Addr} {n : Str} {ps os gs : List Str} {ds eds : List Dat} {dvs ex : List Value} {d : Dat} (F : FnD c i n a dvs) (hchk : fnChk i (ps ++ os) gs = true)
    (hb : ∀ pm cd t s ob n' vs, vs.length = ds.length → s.heap.get? t = some ob → ob.data = .seq dvs.toArray n' → BindsTo s (fdOf i pm cd (.ref t)) ⟨vs, []⟩ (ps.zip (vs ++ ex))) (hex : ∀ K, DatAll K ex eds) (hlen : ds.length + eds.length = ps.length)
    (h : ∀ env, Sc env (ps ++ os) gs → EX c k env (ps ++ os) ((ds ++ eds).map some ++ os.map fun _ => none) .no (fnBody (stmtAt i)) (fun _ _ => d = .none) (fun d' => d' = d) (fun _ _ => False)) :
    OpC c (.ref a) (k + 1) ds d := by
  obtain ⟨pm, cd, dV, hf, hd⟩ := F.at_
  unfold fnChk at hchk
  simp only [Bool.and_eq_true, List.all_eq_true, Bool.not_eq_true', beq_eq_false_iff_ne, ne_eq] at hchk
  obtain ⟨⟨⟨h1, h2⟩, h3⟩, h4⟩ := hchk
  have S : ∀ L, Sc (callEnv (fdOf i pm cd dV) L a) (ps ++ os) gs := fun L => sc_of h1 rfl rfl
  refine OpC.def_ (ps := ps) (os := os) (ex := ex) (eds := eds) hf rfl hex (fun s vs g hl => ?_) hlen (S 0).nodup (fun x hx => (S 0).loc x (List.mem_append_left _ hx)) (fun L => h _ (S L)) h2 h3 h4 (S 0).kind
  obtain ⟨t, ob, n', rfl, e1, _, e2⟩ := hd _ g
  exact hb pm cd t s ob n' vs hl e1 e2
theorem EV.callD {c : Cx} {k j i : Nat} {env : Env} {n : Str} {ns gs : List Str} {ρ : List (Option Dat)} {o : Own} {pos fp : Pos} {a : Addr} {es : List Expr} {ds : List Dat} {d : Dat} {dvs : List Value} (S : Sc env ns gs) (F : FnD c i n a dvs) (hf : n ∈ gs) (hs : EVs c k env ns ρ o es ds)
    (hop : OpC c (.ref a) j ds d) (hj : j ≤ k := by with_unfolding_all decide) (hst' : es.any isStar = false := by with_unfolding_all rfl) : EV c k env ns ρ o (.Call (.Name n fp) es [] pos) d :=
  let ⟨_, _, _, h, _⟩ := F.at_
  EV.callF S hf F.gl h.isFn hs (hop.le hj) hst'
theorem cutB0 {c : Cx} {l : List UInt8} {j : Nat} (hz : l.length ≤ 16777216) : SliceOp c (bD l) none (some (j : Int)) (bD (cutL l none (some j))) := cutB (lo := none) (hi := some j) hz
local macro_rules | `(tactic| walk_at "opc") => `(tactic| with_reducible first
  | (refine' xml_encoding_ok (by assumption) ?hz; (case hz => walk_at "sz"))
  | fail "no")
theorem tagE_ge (l : List Nat) (i : Nat) : i ≤ tagE l i ∨ tagE l i = l.length := by
  unfold tagE
  split
  · exact .inl (run_ge _ _ _)
  · exact .inr rfl
theorem metaR_ge {l : List Nat} (hl : ∀ x ∈ l, x < 256) : ∀ (f : Nat) (s : MS) (i : Nat), i ≤ (metaR l f s i).2
  | 0, s, i => Nat.le_refl _
  | f + 1, s, i => by
    cases hg : getA l i with
    | none => rw [metaR_none hg]; exact Nat.le_refl _
    | some t =>
      obtain ⟨n, v, a⟩ := t
      rw [metaR_some hg]
      have := getA_spec hl hg
      exact Nat.le_trans (by omega) (metaR_ge hl f _ a)
theorem readM_ge {l : List Nat} (hl : ∀ x ∈ l, x < 256) (i : Nat) : i ≤ (readM l i).2 ∨ (readM l i).2 = l.length := by
  have h1 := metaR_ge hl l.length ⟨[], false, none, none⟩ i
  have h2 := tagE_ge l (metaR l l.length ⟨[], false, none, none⟩ i).2
  have : (readM l i).2 = tagE l (metaR l l.length ⟨[], false, none, none⟩ i).2 := by unfold readM metaFin; split <;> rfl
  rw [this]; omega
theorem comE_ge (l : List Nat) : ∀ (f a : Nat), a ≤ comE l f a
  | 0, a => Nat.le_refl _
  | f + 1, a => by
    rw [comE_succ]
    split
    · exact Nat.le_trans (Nat.le_succ a) (comE_ge l f (a + 1))
    · exact Nat.le_refl _
theorem passR_ge {l : List Nat} (hl : ∀ x ∈ l, x < 256) : ∀ (f i : Nat), i ≤ passR l f i
  | 0, i => Nat.le_refl _
  | f + 1, i => by
    cases hg : getA l i with
    | none => rw [passR_none hg]; exact Nat.le_refl _
    | some t =>
      obtain ⟨n, v, a⟩ := t
      rw [passR_some hg]
      have := getA_spec hl hg
      exact Nat.le_trans (by omega) (passR_ge hl f a)
theorem passM_ge {l : List Nat} (hl : ∀ x ∈ l, x < 256) (i : Nat) (hi : i < l.length) : i ≤ passM l i := by
  unfold passM
  split
  · have := comE_ge l l.length (i + 4); omega
  · dsimp only
    generalize hb : (if (cutL l (some (i + 1)) (some (i + 1 + 1)) == [47]) = true then i + 1 + 1 else i + 1) = b
    have : i + 1 ≤ b := by rw [← hb]; split <;> omega
    split
    · have h1 := run_ge (fun x => !(gapT ++ [62]).contains x) l b
      have h2 := passR_ge hl l.length (run (fun x => !(gapT ++ [62]).contains x) l b)
      have h3 := tagE_ge l (passR l l.length (run (fun x => !(gapT ++ [62]).contains x) l b))
      omega
    · split
      · have := run_ge (fun x => !([62] : List Nat).contains x) l (i + 1); omega
      · exact Nat.le_refl _
noncomputable def isMeta (l : List Nat) (a : Nat) : Bool :=
  (cutL l (some a) (some (a + 5))).map lo1 == tx "<meta" && ((cutL l (some (a + 5)) (some (a + 6))).length == 1 && (gapT ++ [47]).contains ((cutL l (some (a + 5)) (some (a + 6))).getD 0 0))
noncomputable def scanR (l : List Nat) : Nat → Nat → Option (List Nat)
  | 0, _ => xmlM l
  | f + 1, a =>
    if decide (a < l.length) = true then
      if (l.getD a 0 == 60) = true then
        if isMeta l a = true then
          if (!(readM l (a + 5)).1.isNone) = true then (readM l (a + 5)).1 else scanR l f ((readM l (a + 5)).2 + 1)
        else scanR l f (passM l a + 1)
      else scanR l f (a + 1)
    else xmlM l
theorem scanR_succ (l : List Nat) (f a : Nat) : scanR l (f + 1) a =
    if decide (a < l.length) = true then
      if (l.getD a 0 == 60) = true then
        if isMeta l a = true then
          if (!(readM l (a + 5)).1.isNone) = true then (readM l (a + 5)).1 else scanR l f ((readM l (a + 5)).2 + 1)
        else scanR l f (passM l a + 1)
      else scanR l f (a + 1)
    else xmlM l := rfl
noncomputable def preT (l : List Nat) : Option (List Nat) :=
  if (cutL l (some 0) (some 6) == [60, 0, 63, 0, 120, 0]) = true then some (tx "UTF-16LE") else
  if (cutL l (some 0) (some 6) == [0, 60, 0, 63, 0, 120]) = true then some (tx "UTF-16BE") else scanR l l.length 0
noncomputable def preM (l : List Nat) (lim : Nat) : Option (List Nat) := preT (cutL l (some 0) (some lim))
theorem prescan_body {c : Cx} (P : Pg c) {l : List UInt8} {lim : Nat} (hz : l.length ≤ 16000000) {env : Env} (S : Sc env ["octets", "limit", "at", "behind", "found"] ["len", "gaps", "folded", "read_meta", "pass_over", "xml_encoding"]) :
    EX c 7 env ["octets", "limit", "at", "behind", "found"] [some (bD l), some (nD lim), none, none, none] .no (fnBody (stmtAt 23)) (fun _ _ => oD (preM (nn l) lim) = .none) (fun d' => d' = oD (preM (nn l) lim)) (fun _ _ => False) := by
  unfold preM
  walk_at "set"
  have hz2 : (cutL l (some 0) (some lim)).length ≤ 16000000 := Nat.le_trans (cutL_len _ _ _) hz
  rw [← nn_cut]
  generalize cutL l (some 0) (some lim) = l at hz2
  unfold preT
  walk_at "if" <;> intro ht
  · rw [nn_cB] at ht
    have ht' : (cutL (nn l) (some 0) (some 6) == [60, 0, 63, 0, 120, 0]) = true := ht
    rw [if_pos ht']
    walk_at "ret"
    rfl
  rw [nn_cB] at ht
  have ht' : (cutL (nn l) (some 0) (some 6) == [60, 0, 63, 0, 120, 0]) = false := ht
  rw [if_neg (by rw [ht']; exact Bool.false_ne_true)]
  clear ht ht'
  walk_at "if" <;> intro ht
  · rw [nn_cB] at ht
    have ht' : (cutL (nn l) (some 0) (some 6) == [0, 60, 0, 63, 0, 120]) = true := ht
    rw [if_pos ht']
    walk_at "ret"
    rfl
  rw [nn_cB] at ht
  have ht' : (cutL (nn l) (some 0) (some 6) == [0, 60, 0, 63, 0, 120]) = false := ht
  rw [if_neg (by rw [ht']; exact Bool.false_ne_true)]
  clear ht ht'
  walk_at "set"
  simp only [nn_len]
  generalize hR : scanR (nn l) l.length 0 = R
  refine' EX.cons (EX1.while_ (fun m ρ o => ∃ a x y, ρ = [some (bD l), some (nD lim), some (nD a), x, y] ∧ o = .no ∧ l.length ≤ m + a ∧ scanR (nn l) m a = R) l.length ⟨0, none, none, rfl, rfl, by omega, hR⟩ ?turn)
  clear hR
  rintro m ρ o ⟨a, x, y, rfl, rfl, hm, hr⟩
  refine' ⟨decide (a < l.length), by walk_at "tr", fun q => ?_, fun q => ?_⟩
  · obtain ⟨f, rfl⟩ : ∃ f, m = f + 1 := by
      rw [decide_eq_true_eq] at q
      exact ⟨m - 1, by omega⟩
    have ha : a < l.length := of_decide_eq_true q
    rw [scanR_succ, nn_len, if_pos q] at hr
    clear q
    refine' EX.mid (fun ρ o => ∃ b x y, ρ = [some (bD l), some (nD lim), some (nD b), x, y] ∧ o = .no ∧ (a ≤ b) ∧ scanR (nn l) f (b + 1) = R) (EX1.if_ (b := (nn l).getD a 0 == 60) ?qt (fun ht => ?qa) (fun ht => ?qb)) ?qtail
    case qt => walk_at "tr"
    case qtail =>
      rintro ρ o ⟨b, x, y, rfl, rfl, hb, hr⟩
      walk_at "aug"
      exact EX.nil ⟨f, by omega, b + 1, _, _, rfl, rfl, by omega, hr⟩
    case qb =>
      rw [if_neg (by rw [ht]; exact Bool.false_ne_true)] at hr
      exact EX.nil ⟨a, _, _, rfl, rfl, Nat.le_refl _, hr⟩
    case qa =>
      rw [if_pos ht] at hr
      walk_at "set"
      have hnb : nn (cutL l (some (a + 5)) (some (a + 5 + 1))) = cutL (nn l) (some (a + 5)) (some (a + 6)) := nn_cut ..
      have hlb : (cutL l (some (a + 5)) (some (a + 5 + 1))).length ≤ 16000000 := Nat.le_trans (cutL_len _ _ _) hz2
      unfold isMeta at hr
      rw [← hnb] at hr
      have hna : nn (cutL l (some a) (some (a + 5))) = cutL (nn l) (some a) (some (a + 5)) := nn_cut ..
      rw [← hna, nn_len] at hr
      change EX _ _ _ _ [_, _, _, some (bD (cutL l (some (a + 5)) (some (a + 5 + 1)))), _] _ _ _ _ _
      generalize cutL l (some (a + 5)) (some (a + 5 + 1)) = bh at hr hlb
      walk_at "if" <;> intro ht2
      · rw [if_pos ht2] at hr
        refine' EX.cons (EX1.assignT (f := fun ρ => ((ρ.set 4 (some (oD (readM (nn l) (a + 5)).1))).set 2 (some (nD (readM (nn l) (a + 5)).2)))) (d := .tuple [oD (readM (nn l) (a + 5)).1, nD (readM (nn l) (a + 5)).2]) ?qv (TG.tuple (TGs.cons (TG.name S 4 rfl OwnFree.no) (TGs.cons (TG.name S 2 rfl OwnFree.no) TGs.nil))) ?qn)
        case qv => walk_at "ev"
        case qn =>
        dsimp only [List.set]
        have hge := readM_ge (nn_lt l) (a + 5)
        rw [nn_len] at hge
        generalize readM (nn l) (a + 5) = rm at hr hge
        obtain ⟨r1, r2⟩ := rm
        dsimp only at hr hge ⊢
        walk_at "if" <;> intro ht3
        · rw [if_pos ht3] at hr
          walk_at "ret"
          rw [hr]
        · rw [if_neg (by rw [ht3]; exact Bool.false_ne_true)] at hr
          walk_at "nils"
          exact ⟨r2, _, _, rfl, rfl, by omega, hr⟩
      · rw [if_neg (by rw [ht2]; exact Bool.false_ne_true)] at hr
        have hge := passM_ge (nn_lt l) a (by rw [nn_len]; exact ha)
        walk_at "set"
        walk_at "nils"
        exact ⟨_, _, _, rfl, rfl, hge, hr⟩
  · walk_at "ret"
    rw [← hr]
    cases m with
    | zero => rfl
    | succ f => rw [scanR_succ, nn_len, if_neg (by rw [q]; exact Bool.false_ne_true)]
theorem prescan_ok {c : Cx} (P : Pg c) {l : List UInt8} {lim : Nat} (hz : l.length ≤ 16000000) : OpC c (.ref 167) 8 [bD l, nD lim] (oD (preM (nn l) lim)) := by
  obtain ⟨t, F⟩ := P.prescan_
  exact FnD.ok (ps := ["octets", "limit"]) (os := ["at", "behind", "found"]) (gs := ["len", "gaps", "folded", "read_meta", "pass_over", "xml_encoding"]) (ex := []) (eds := []) F (by decide +kernel)
    (fun pm cd t s ob n' => vs2 fun v w e1 e2 => BindsTo.of_defaults rfl e1 e2 rfl rfl) (fun _ => .nil) rfl (fun env S => prescan_body P hz S)
theorem prescan1_ok {c : Cx} (P : Pg c) {l : List UInt8} (hz : l.length ≤ 16000000) : OpC c (.ref 167) 8 [bD l] (oD (preM (nn l) 1024)) := by
  obtain ⟨t, F⟩ := P.prescan_
  exact FnD.ok (ps := ["octets", "limit"]) (os := ["at", "behind", "found"]) (gs := ["len", "gaps", "folded", "read_meta", "pass_over", "xml_encoding"]) (ex := [.int 1024 t]) (eds := [nD 1024]) F (by decide +kernel)
    (fun pm cd t s ob n' => vs1 fun v e1 e2 => BindsTo.of_defaults rfl e1 e2 rfl rfl) (fun _ => .cons (.int _ _) .nil) rfl (fun env S => prescan_body P hz S)
-- NA
theorem isNotNoneO' {c : Cx} {w : Option (List Nat)} {b : Bool} (h : w.isSome = b) : Op2 c (compareOp .IsNot) (oD w) .none (.bool b) := by
  have := isNotNoneO (c := c) (w := w)
  rw [show (!w.isNone) = w.isSome by cases w <;> rfl, h] at this; exact this
noncomputable def okL (w : List Nat) : Prop := (∀ x ∈ w, x < 900000) ∧ w.length ≤ 1000000
noncomputable def okO : Option (List Nat) → Prop
  | none => True
  | some w => okL w
noncomputable def certM (l : List UInt8) (ov tr : Option (List Nat)) : Option (List Nat) :=
  let f := if ((bomM l).isNone && !ov.isNone) = true then encodingM (ov.getD []) else bomM l
  if (f.isNone && !tr.isNone) = true then encodingM (tr.getD []) else f
noncomputable def sniffM (l : List UInt8) (ov tr : Option (List Nat)) (lim : Nat) (fb : List Nat) : Dat :=
  if (!(certM l ov tr).isNone) = true then .tuple [oD (certM l ov tr), sD (tx "certain")] else
  if (!(preM (nn l) lim).isNone) = true then .tuple [oD (preM (nn l) lim), sD (tx "tentative")] else .tuple [sD fb, sD (tx "tentative")]
theorem sniff_body {c : Cx} (P : Pg c) {l : List UInt8} {ov tr : Option (List Nat)} {lim : Nat} {fb : List Nat} (hz : l.length ≤ 16000000) (hov : okO ov) (htr : okO tr) {env : Env} (S : Sc env ["octets", "override", "transport", "limit", "fallback", "found"] ["bom_of", "encoding_of", "prescan"]) :
    EX c 9 env ["octets", "override", "transport", "limit", "fallback", "found"] [some (bD l), some (oD ov), some (oD tr), some (nD lim), some (sD fb), none] .no (fnBody (stmtAt 24)) (fun _ _ => sniffM l ov tr lim fb = .none) (fun d' => d' = sniffM l ov tr lim fb) (fun _ _ => False) := by
  unfold sniffM
  walk_at "set"
  generalize hf : bomM l = f
  refine' EX.mid (fun ρ o => ρ = [some (bD l), some (oD ov), some (oD tr), some (nD lim), some (sD fb), some (oD (if (f.isNone && !ov.isNone) = true then encodingM (ov.getD []) else f))] ∧ o = .no) (EX1.if_ (b := f.isNone && !ov.isNone) ?qt (fun ht => ?qa) (fun ht => ?qb)) ?qtail
  case qt => walk_at "tr"
  case qa =>
    rw [if_pos ht]
    cases ov with
    | none => simp at ht
    | some w =>
      have henc := encoding_of_ok P (l := w) (fun x hx => by have := hov.1 x hx; omega) (by have := hov.2; omega)
      dsimp only [oD]
      walk_at "set"
      exact EX.nil ⟨rfl, rfl⟩
  case qb =>
    rw [if_neg (by rw [ht]; exact Bool.false_ne_true)]
    exact EX.nil ⟨rfl, rfl⟩
  case qtail =>
  rintro ρ o ⟨rfl, rfl⟩
  have hc : certM l ov tr = if ((if (f.isNone && !ov.isNone) = true then encodingM (ov.getD []) else f).isNone && !tr.isNone) = true then encodingM (tr.getD []) else (if (f.isNone && !ov.isNone) = true then encodingM (ov.getD []) else f) := by unfold certM; rw [hf]
  rw [hc]
  generalize (if (f.isNone && !ov.isNone) = true then encodingM (ov.getD []) else f) = g
  clear hc hf
  refine' EX.mid (fun ρ o => ρ = [some (bD l), some (oD ov), some (oD tr), some (nD lim), some (sD fb), some (oD (if (g.isNone && !tr.isNone) = true then encodingM (tr.getD []) else g))] ∧ o = .no) (EX1.if_ (b := g.isNone && !tr.isNone) ?qt (fun ht => ?qa) (fun ht => ?qb)) ?qtail
  case qt => walk_at "tr"
  case qa =>
    rw [if_pos ht]
    cases tr with
    | none => simp at ht
    | some w =>
      have henc := encoding_of_ok P (l := w) (fun x hx => by have := htr.1 x hx; omega) (by have := htr.2; omega)
      dsimp only [oD]
      walk_at "set"
      exact EX.nil ⟨rfl, rfl⟩
  case qb =>
    rw [if_neg (by rw [ht]; exact Bool.false_ne_true)]
    exact EX.nil ⟨rfl, rfl⟩
  case qtail =>
  rintro ρ o ⟨rfl, rfl⟩
  generalize (if (g.isNone && !tr.isNone) = true then encodingM (tr.getD []) else g) = r
  walk_at "if" <;> intro ht
  · rw [if_pos ht]
    walk_at "ret"
    rfl
  rw [if_neg (by rw [ht]; exact Bool.false_ne_true)]
  obtain ⟨t, F⟩ := P.prescan_
  have hpre := prescan_ok P (l := l) (lim := lim) hz
  refine' EX.set (d := oD (preM (nn l) lim)) S (EV.callD S F ?m ?es hpre) ?e2 ?e3 ?e4
  case m => walk_at "mem"
  case es => walk_at "evs"
  case e2 => walk_at "put"
  case e3 => walk_at "own"
  generalize preM (nn l) lim = r
  walk_at "if" <;> intro ht
  · rw [if_pos ht]
    walk_at "ret"
    rfl
  rw [if_neg (by rw [ht]; exact Bool.false_ne_true)]
  walk_at "ret"
  rfl
theorem sniff_ok {c : Cx} (P : Pg c) {l : List UInt8} {ov tr : Option (List Nat)} {lim : Nat} {fb : List Nat} (hz : l.length ≤ 16000000) (hov : okO ov) (htr : okO tr) : OpC c (.ref 175) 10 [bD l, oD ov, oD tr, nD lim, sD fb] (sniffM l ov tr lim fb) := by
  obtain ⟨t, u, F⟩ := P.sniff_
  exact FnD.ok (ps := ["octets", "override", "transport", "limit", "fallback"]) (os := ["found"]) (gs := ["bom_of", "encoding_of", "prescan"]) (ex := []) (eds := []) F (by decide +kernel)
    (fun pm cd t s ob n' => vs5 fun v w x y z e1 e2 => BindsTo.of_defaults rfl e1 e2 rfl rfl) (fun _ => .nil) rfl (fun env S => sniff_body P hz hov htr S)
theorem sniff3_ok {c : Cx} (P : Pg c) {l : List UInt8} {ov tr : Option (List Nat)} (hz : l.length ≤ 16000000) (hov : okO ov) (htr : okO tr) : OpC c (.ref 175) 10 [bD l, oD ov, oD tr] (sniffM l ov tr 1024 (tx "windows-1252")) := by
  obtain ⟨t, u, F⟩ := P.sniff_
  exact FnD.ok (ps := ["octets", "override", "transport", "limit", "fallback"]) (os := ["found"]) (gs := ["bom_of", "encoding_of", "prescan"]) (ex := [.int 1024 t, .str "windows-1252" u]) (eds := [nD 1024, sD (tx "windows-1252")]) F (by decide +kernel)
    (fun pm cd t s ob n' => vs3 fun v w x e1 e2 => BindsTo.of_defaults rfl e1 e2 rfl rfl) (fun _ => .cons (.int _ _) (.cons (.str _ _) .nil)) rfl (fun env S => sniff_body P hz hov htr S)
section
theorem OwnFree.neD {i j : Nat} {a : Addr} {l : List (Str × Dat)} (h : j ≠ i) : OwnFree (Own.dct j a l).key i := fun q e => by cases e; exact h
/-! own dicts of str keys and str values -/
noncomputable def kvD (l : List (List Nat × List Nat)) : List (Str × Dat) := l.map fun p => (sS p.1, sD p.2)
theorem kvD_any (l : List (List Nat × List Nat)) {kvs : List (Str × Value)} (h : kvs.map (·.1) = (kvD l).map (·.1)) (key : List Nat) : (valueAt kvs (sS key)).isSome = (l.map (·.1)).contains key := by
  rw [valueAt_isSome_eq_any]
  have e : (kvs.any fun kv => decide (kv.1 = sS key)) = (kvs.map (·.1)).any (fun x => decide (x = sS key)) := by rw [List.any_map]; rfl
  rw [e, h, List.contains_eq_any_beq]
  unfold kvD
  rw [List.map_map, List.any_map, List.any_map]
  congr 1; funext z
  show decide (sS z.1 = sS key) = (key == z.1)
  rw [Bool.eq_iff_iff, decide_eq_true_eq, beq_iff_eq]
  constructor
  · intro q; exact (by simpa [sS] using q : z.1 = key).symm
  · intro q; rw [q]
section
variable {c : Cx} {k : Nat} {env : Env} {ns gs : List Str} {ρ : Env'} {o : Own} {pos p : Pos} {Qn Qc : Env' → Own → Prop} {Qr : Dat → Prop}
theorem isStrK (x : List Nat) (t : Tok) : (strKind c.prog c.w).is (sS x) (.str ⟨x.toArray⟩ t) = true := by
  show ((sS x) == (sS x)) = true
  simp
theorem St.storeDct {h₀ : Heap} {K₀ K : Led} {h h' : Heap} (S : Sc env ns gs) (st : St c h₀ K₀ env ns ρ .no K h) {i : Nat} {x : Str} {a : Addr} {l : List (Str × Dat)} (hi : ns[i]? = some x) (hr : ρ[i]? = some none)
    (ha : DctAt c h K a l) (haL : a ≠ env.locals) (h0 : h₀.get? a = none) (hK : ∀ p ∈ K, p.1 ≠ a)
    (hn : ∀ m, h.Ns env.locals m → h'.Ns env.locals (fun y => if y = x then some (.ref a) else m y)) (hs : Heap.SameBut env.locals h h') : St c h₀ K₀ env ns ρ (.dct i a l) K h' := by
  obtain ⟨m, n1, l1, o1⟩ := st.loc
  have nd : ∀ j y, ns[j]? = some y → j ≠ i → y ≠ x := by
    intro j y hj hne e
    subst e
    exact hne ((List.getElem?_inj (List.getElem?_eq_some_iff.mp hj).1 S.nodup).mp (hj.trans hi.symm))
  have keepK : ∀ p ∈ K, h'.get? p.1 = some p.2 := fun p hp => (hs.2 p.1 (st.off p hp)).trans (st.kn p hp)
  have sub : ∀ b ob, h₀.get? b = some ob → h'.get? b = some ob := fun b ob e => (hs.2 b (fun q => by rw [q, st.fr] at e; cases e)).trans (st.keep b ob e)
  obtain ⟨ob, kvs, e1, e2, e3⟩ := ha
  refine ⟨⟨_, hn m n1, fun j y d' f1 f2 => ?_, ⟨⟨x, hi, by simp⟩, ⟨ob, kvs, (hs.2 a haL).trans e1, e2, e3⟩, haL, h0, hK⟩⟩, st.g0, sub, st.fr, keepK, st.off, st.ext, st.base⟩
  by_cases hji : j = i
  · subst hji; rw [hr] at f2; cases f2
  · obtain ⟨v', e3, e4⟩ := l1 j y d' f1 f2
    exact ⟨v', by simp [nd j y f1 hji, e3], e4⟩
theorem EX1.assignDct {x : Str} {lp : Pos} (S : Sc env ns gs) (i : Nat) (hi : ns[i]? = some x) (hr : ρ[i]? = some none)
    (h : ∀ a, Qn ρ (.dct i a (kvD []))) (hs : swapsWith (.Dict [] [] lp) (some (.Name x p)) pos.line env = pure false := by with_unfolding_all rfl) : EX1 c k env ns ρ .no (.Assign [.Name x p] (.Dict [] [] lp) pos) Qn Qr Qc := by
  intro h₀ K₀ K s A E Q st rm r
  refine wpAny_Assign_Name (wpAny_Dict_empty ?_) hs
  have st2 : St c h₀ K₀ env ns ρ .no K (s.heap.push { cls := .type "dict", data := .dict #[] }) := st.step (.refl ..) (st.kn.push' _) (stays_push _ _)
  obtain ⟨m, n1⟩ := st2.locals
  obtain ⟨m', n0⟩ := st.locals
  obtain ⟨oL, eL⟩ := ns_some n0
  refine wpAny_storeName_local (S.loc x (List.mem_of_getElem? hi)) n1 (fun h' hn hs => ?_) S.np
  refine r .next h' _ ⟨_, _, _, st2.storeDct S hi hr (l := kvD []) ?_ (fun q => ?_) ?_ (fun p hp q => ?_) (fun m' n' => by rw [ns_det n' n1]; exact hn) hs, h _⟩
  · obtain ⟨ob, ho, hd⟩ := Heap.dictOf_iff.mp (Heap.DictOf.new (knd := strKind c.prog c.w) s.heap)
    refine ⟨ob, [], ho, ⟨hd, rfl, ?_⟩, .nil⟩
    have := modules_low (c.lim st.g)
    exact beq_eq_false_iff_ne.mpr (Nat.ne_of_gt this)
  · rw [← q, size_none] at eL; cases eL
  · exact stays_none st.keep (size_none s.heap)
  · have := st.kn p hp
    rw [q, size_none] at this; cases this
theorem EX1.setDct {x : Str} {ek e : Expr} {key v : List Nat} {i : Nat} {a : Addr} {l : List (List Nat × List Nat)} {np sp : Pos} (S : Sc env ns gs) (hi : ns[i]? = some x)
    (he : EV c k env ns ρ (.dct i a (kvD l)) e (sD v)) (hk : EV c k env ns ρ (.dct i a (kvD l)) ek (sD key)) (hnew : (l.map (·.1)).contains key = false) (hz : l.length ≤ 1000) (h : Qn ρ (.dct i a (kvD (l ++ [(key, v)]))))
    (hs : swapsWith e (some (.Subscript (.Name x np) ek sp)) pos.line env = pure false := by with_unfolding_all rfl) :
    EX1 c k env ns ρ (.dct i a (kvD l)) (.Assign [.Subscript (.Name x np) ek sp] e pos) Qn Qr Qc := by
  intro h₀ K₀ K s A E Q st rm r
  refine wpAny_Assign_Subscript (he _ _ _ _ _ _ _ st rm fun v1 K1 h1 t1 dv x1 kn1 s1 => ?_) hs
  have st1 := st.step x1 kn1 s1
  have hx := List.mem_of_getElem? hi
  obtain ⟨m1, n1, l1, ⟨x', e1, e2⟩, _⟩ := st1.loc
  rw [hi] at e1; cases e1
  refine wpAny_Name (wpAny_loadName_local S.kind (S.loc x hx) n1 e2 ?_) (S.dbg x (List.mem_append_left _ hx))
  refine hk _ _ _ _ _ _ _ st1 rm fun k1 K2 h2 t2 dk x2 kn2 s2 => ?_
  have st2 := st1.step x2 kn2 s2
  obtain ⟨m2, n2, l2, f1, ⟨ob, kvs, f2, ⟨f3, f4, f5⟩, f6⟩, f7, f8, f9⟩ := st2.loc
  have hd : h2.DictOf (strKind c.prog c.w) a kvs := Heap.dictOf_iff.mpr ⟨ob, f2, f3⟩
  have hlen : kvs.length = l.length := by
    have := congrArg List.length f4
    simpa [kvD] using this
  cases dk with
  | str _ t =>
  have hab : valueAt kvs (sS key) = none := by
    have := kvD_any l f4 key
    rw [hnew] at this
    exact Option.not_isSome_iff_eq_none.mp (by rw [this]; exact Bool.false_ne_true)
  refine wpAny_setItem_pairs (kvs := kvs) (k := sS key) (isStrK key t) hd (fun h' hd' hs' => ?_) (by rw [sizeLine_eq]; omega)
  rw [stored_absent hab] at hd'
  have hb : ∀ b ob, b ≠ a → h2.get? b = some ob → h'.get? b = some ob := fun b ob hb e => (hs'.2 b hb).trans e
  obtain ⟨ob', g1, g2⟩ := Heap.dictOf_iff.mp hd'
  refine r .next h' _ ⟨ρ, .dct i a (kvD (l ++ [(key, v)])), K2, ⟨⟨m2, n2.at fun ob e => hb _ _ (fun q => f7 q.symm) e, l2, ⟨f1, ⟨ob', kvs ++ [(sS key, v1)], g1, ⟨g2, ?_, f5⟩, ?_⟩, f7, f8, f9⟩⟩, st2.g0, fun b ob e => hb b ob (fun q => by rw [q, f8] at e; cases e) (st2.keep b ob e), st2.fr, fun p hp => hb _ _ (f9 p hp) (st2.kn p hp), st2.off, st2.ext, st2.base⟩, h⟩
  · rw [List.map_append, f4]; unfold kvD; simp
  · rw [List.map_append]
    unfold kvD at f6 ⊢
    rw [List.map_append, List.map_append]
    exact DatAll.append f6 (DatAll.one (DatIn.ext dv x2))
theorem Dct.read {x : Str} {ek : Expr} {key : List Nat} {i : Nat} {a : Addr} {l : List (List Nat × List Nat)} (S : Sc env ns gs) (hi : ns[i]? = some x) {h₀ : Heap} {K₀ K : Led} {s : Shared} {A : Around} {E : Value → Shared → Prop} {Q : Value → Shared → Prop} {t : Value → Value → Sem Value}
    (st : St c h₀ K₀ env ns ρ (.dct i a (kvD l)) K s.heap)
    (h : ∀ kvs, s.heap.DictOf (strKind c.prog c.w) a kvs → (a == sysModules) = false → kvs.map (·.1) = (kvD l).map (·.1) → DatAll K (kvs.map (·.2)) ((kvD l).map (·.2)) → Q (.ref a) s) :
    wpAny (model c.prog c.w) A (eval (.Name x p) env) Q E s := by
  have hx := List.mem_of_getElem? hi
  obtain ⟨m1, n1, l1, ⟨x', e1, e2⟩, ⟨ob, kvs, f2, ⟨f3, f4, f5⟩, f6⟩, _⟩ := st.loc
  rw [hi] at e1; cases e1
  exact wpAny_Name (wpAny_loadName_local S.kind (S.loc x hx) n1 e2 (h kvs (Heap.dictOf_iff.mpr ⟨ob, f2, f3⟩) f5 f4 f6)) (S.dbg x (List.mem_append_left _ hx))
theorem TR.notInDct {x : Str} {ek : Expr} {key : List Nat} {i : Nat} {a : Addr} {l : List (List Nat × List Nat)} (S : Sc env ns gs) (hi : ns[i]? = some x) (hk : EV c k env ns ρ (.dct i a (kvD l)) ek (sD key))
    (hm : behindInMarks .NotIn (.Name x p) = false := by with_unfolding_all rfl) : TR c k env ns ρ (.dct i a (kvD l)) (.Compare ek [.NotIn] [.Name x p] pos) (!(l.map (·.1)).contains key) := by
  intro h₀ K₀ K s A E Q st rm r
  refine wpAny_isTrue_Compare1 (hk _ _ _ _ _ _ _ st rm fun k1 K1 h1 t1 dk x1 kn1 s1 => ?_) hm
  have st1 := st.step x1 kn1 s1
  refine Dct.read (t := fun _ _ => pure .none) (key := key) (ek := ek) S hi st1 fun kvs q1 q2 q3 q4 => ?_
  cases dk with
  | str _ t =>
  refine wpAny_notIn_of (k := sS key) (isStrK key t) q2 q1.mapOf ?_
  refine wpAny_truthy_bool ?_
  rw [kvD_any l q3 key]
  exact (r.step x1 s1).here kn1 rfl
theorem TR.inDct {x : Str} {ek : Expr} {key : List Nat} {i : Nat} {a : Addr} {l : List (List Nat × List Nat)} (S : Sc env ns gs) (hi : ns[i]? = some x) (hk : EV c k env ns ρ (.dct i a (kvD l)) ek (sD key))
    (hm : behindInMarks .In (.Name x p) = false := by with_unfolding_all rfl) : TR c k env ns ρ (.dct i a (kvD l)) (.Compare ek [.In] [.Name x p] pos) ((l.map (·.1)).contains key) := by
  intro h₀ K₀ K s A E Q st rm r
  refine wpAny_isTrue_Compare1 (hk _ _ _ _ _ _ _ st rm fun k1 K1 h1 t1 dk x1 kn1 s1 => ?_) hm
  have st1 := st.step x1 kn1 s1
  refine Dct.read (t := fun _ _ => pure .none) (key := key) (ek := ek) S hi st1 fun kvs q1 q2 q3 q4 => ?_
  cases dk with
  | str _ t =>
  refine wpAny_in_of (k := sS key) (isStrK key t) q2 q1.mapOf ?_
  refine wpAny_truthy_bool ?_
  rw [kvD_any l q3 key]
  exact (r.step x1 s1).here kn1 rfl
theorem EV.itemDct {x : Str} {ek : Expr} {key v : List Nat} {i j : Nat} {a : Addr} {l : List (List Nat × List Nat)} (S : Sc env ns gs) (hi : ns[i]? = some x) (hk : EV c k env ns ρ (.dct i a (kvD l)) ek (sD key)) (hj : l[j]? = some (key, v)) :
    EV c k env ns ρ (.dct i a (kvD l)) (.Subscript (.Name x p) ek pos) (sD v) := by
  intro h₀ K₀ K s A E Q st rm r
  refine Subscript_ (Dct.read (t := fun _ _ => pure .none) (key := key) (ek := ek) S hi st fun kvs q1 q2 q3 q4 => ?_)
  refine hk _ _ _ _ _ _ _ st rm fun k1 K1 h1 t1 dk x1 kn1 s1 => ?_
  have st1 := st.step x1 kn1 s1
  cases dk with
  | str _ t =>
  have q1' : h1.DictOf (strKind c.prog c.w) a kvs := q1.keep s1
  have hjd : ((kvD l).map (·.2))[j]? = some (sD v) := by unfold kvD; simp [hj]
  obtain ⟨v1, g1, g2⟩ := DatAll.get' q4 hjd
  have hk1 : kvs[j]? = some (sS key, v1) := by
    rw [List.getElem?_map] at g1
    have := congrArg (fun z => z[j]?) q3
    simp only [List.getElem?_map] at this
    cases hq : kvs[j]? with
    | none => rw [hq] at g1; cases g1
    | some z =>
      rw [hq] at g1 this
      unfold kvD at this
      rw [List.getElem?_map, hj] at this
      obtain ⟨z1, z2⟩ := z
      cases this; cases g1; rfl
  have hnd : (kvs.map (·.1)).Nodup := let ⟨_, _, _, _, _, _, _, _, nd⟩ := q1; nd
  obtain ⟨ops, e⟩ := subd_eq ek (.ref a) (.str ⟨key.toArray⟩ t)
  exact tail_any q1'.mapOf.typeIs slot_dict_getitem.lookup (wpAny_getItem_of (k := sS key) (isStrK key t) q1'.mapOf (valueAt_of_get hnd hk1) ((r.step x1 s1).here kn1 (DatIn.ext g2 x1))) e
/-- the own list becomes data for the rest -/
theorem EX.frz {ss : List Stmt} {i : Nat} {a : Addr} {l : List Dat} (S : Sc env ns gs) (h : EX c k env ns (ρ.set i (some (.list l))) .no ss Qn Qr Qc) : EX c k env ns ρ (.lst i a l) ss Qn Qr Qc := by
  intro h₀ K₀ K s A E Q st rm r
  obtain ⟨K1, st1, back⟩ := st.frz S
  exact h _ _ _ _ _ _ _ st1 rm r
end
end
section
noncomputable def md (a : Int) (b : Nat) : Nat := (a % (b : Int)).toNat
noncomputable def dv (a : Int) (b : Nat) : Int := a / (b : Int)
theorem md_lt (a : Int) {b : Nat} (h : 0 < b) : md a b < b := by
  unfold md
  have := Int.emod_lt_of_pos a (show (0 : Int) < b by omega)
  have := Int.emod_nonneg a (show (b : Int) ≠ 0 by omega)
  omega
theorem md_nat (a b : Nat) : md (a : Int) b = a % b := by unfold md; omega
noncomputable def zD (l : List Int) : List Dat := l.map .int
noncomputable def pD (p : List Nat × List Nat) : Dat := .tuple [sD p.1, sD p.2]
noncomputable def pDs (l : List (List Nat × List Nat)) : List Dat := l.map pD
section
variable {c : Cx} {k : Nat} {env : Env} {ns gs : List Str} {ρ ρ' ρ₁ : Env'} {o : Own} {pos p : Pos} {Qn Qc : Env' → Own → Prop} {Qr : Dat → Prop}
theorem modI {a : Int} {b : Nat} (hb : 0 < b) : Op2 c (binaryOp .Mod) (.int a) (nD b) (nD (md a b)) := by
  have := fmodI (c := c) (a := a) (b := (b : Int)) (by omega)
  rw [Int.fmod_eq_emod_of_nonneg _ (by omega)] at this
  have e : a % (b : Int) = ((md a b : Nat) : Int) := by
    unfold md; rw [Int.toNat_of_nonneg (Int.emod_nonneg _ (by omega))]
  rw [e] at this; exact this
theorem divI {a : Int} {b : Nat} (hb : 0 < b) (hs : b < 1073741824) : Op2 c (binaryOp .FloorDiv) (.int a) (nD b) (.int (dv a b)) := by
  have := fdivI (c := c) (a := a) (b := (b : Int)) (by omega) (by omega)
  rw [Int.fdiv_eq_ediv_of_nonneg _ (by omega)] at this; exact this
theorem modN {a b : Nat} (hb : 0 < b) : Op2 c (binaryOp .Mod) (nD a) (nD b) (nD (a % b)) := by
  have := modI (c := c) (a := (a : Int)) hb
  rw [md_nat] at this; exact this
theorem divN {a b : Nat} (hb : 0 < b) (hs : b < 1073741824) : Op2 c (binaryOp .FloorDiv) (nD a) (nD b) (nD (a / b)) := by
  have := divI (c := c) (a := (a : Int)) hb hs
  unfold dv at this
  rw [← Int.natCast_ediv] at this
  exact this
theorem itemZ {l : List Int} {n : Nat} (hn : n < l.length) (hz : l.length ≤ 16777216) : ItemOp c (.list (zD l)) (nD n) (.int (l.getD n 0)) := by
  refine itemL ?_ (by simpa [zD] using hz)
  unfold zD
  rw [List.getElem?_map, List.getD_eq_getElem?_getD, List.getElem?_eq_getElem hn]; rfl
theorem itemNI {l : List Nat} {n : Nat} (hn : n < l.length) (hz : l.length ≤ 16777216) : ItemOp c (.list (nI l)) (nD n) (nD (l.getD n 0)) := by
  refine itemL ?_ (by simpa [nI] using hz)
  unfold nI
  rw [List.getElem?_map, List.getD_eq_getElem?_getD, List.getElem?_eq_getElem hn]; rfl
theorem itemPs {l : List (List Nat × List Nat)} {n : Nat} (hn : n < l.length) (hz : l.length ≤ 16777216) : ItemOp c (.list (pDs l)) (nD n) (pD (l.getD n ([], []))) := by
  refine itemL ?_ (by simpa [pDs] using hz)
  unfold pDs
  rw [List.getElem?_map, List.getD_eq_getElem?_getD, List.getElem?_eq_getElem hn]; rfl
theorem itemLneg {ds : List Dat} {d : Dat} (hx : ds[ds.length - 1]? = some d) (h0 : 0 < ds.length) (hz : ds.length ≤ 16777216) : ItemOp c (.list ds) (.int (-1)) d := by
  intro K s A E Q v w g kn rm da db r
  cases db
  cases da with
  | list hm hal =>
    obtain ⟨v, hv, dv⟩ := DatAll.get' hal hx
    have hlen := DatAll.length hal
    have hl : s.heap.IsList _ _ := ⟨_, kn _ hm, rfl, _, rfl⟩
    refine ⟨"list", _, PySem.list_getitem_lookup, hl.typeIs, wpAny_getItem_list_neg hl (by omega) (by simp; omega) (by omega) ?_ (r.here' kn dv)⟩
    rw [List.size_toArray, hlen, List.getElem?_toArray, ← hv]
    congr 1
    omega
theorem addLS {a b : List (List Nat)} (hz : a.length + b.length ≤ 16777216) : Op2 c (binaryOp .Add) (.list (sDs a)) (.list (sDs b)) (.list (sDs (a ++ b))) := by
  have := addL (c := c) (a := sDs a) (b := sDs b) (by simpa [sDs] using hz)
  rwa [show sDs a ++ sDs b = sDs (a ++ b) from by simp [sDs]] at this
theorem EV.un {op : PySem.UnaryOp} {e : Expr} {a d : Dat} (he : EV c k env ns ρ o e a) (hop : Op1 c (unaryOp op) a d) : EV c k env ns ρ o (.UnaryOp op e pos) d := by
  intro h₀ K₀ K s A E Q st rm r
  refine wpAny_UnaryOp (he _ _ _ _ _ _ _ st rm fun v K1 h1 t1 dv x1 kn1 s1 => ?_)
  have st1 := st.step x1 kn1 s1
  exact hop _ _ _ _ _ _ st1.g kn1 (rm.le (Nat.zero_le _)) dv (r.step x1 s1)
theorem negI {a : Int} : Op1 c (unaryOp .USub) (.int a) (.int (-a)) := by
  intro K s A E Q v g kn rm da r
  cases da
  exact neg_int (r.here kn (.int _ _))
theorem foldl_dots (x : Nat) : ∀ (n : Nat) (acc : Array Nat), (List.replicate n #[x]).foldl (· ++ ·) acc = acc ++ (List.replicate n x).toArray
  | 0, acc => by simp
  | n + 1, acc => by
    rw [List.replicate_succ, List.foldl_cons, foldl_dots x n]
    apply Array.ext'
    simp [List.replicate_succ]
theorem mulDot {x : Nat} {n : Int} (h1 : n ≤ 100000) (h2 : -100000 ≤ n) : Op2 c (binaryOp .Mult) (sD [x]) (.int n) (sD (List.replicate n.toNat x)) := by
  intro K s A E Q v w g kn rm da db r
  cases da; cases db
  refine SB.mul (mulOk_of 16 1048576 (by show ([x] : List Nat).toArray.size ≤ 16; simp) (by omega) (by omega) (by decide) (by decide)) fun t' tk => ?_
  have e : Txt.mul (sS [x]) n = sS (List.replicate n.toNat x) := by
    unfold Txt.mul
    by_cases h : n < 1
    · rw [if_pos h, show n.toNat = 0 by omega]; rfl
    · rw [if_neg h]
      by_cases h' : n = 1
      · subst h'; rfl
      · rw [if_neg (by simp [h', Str.length])]
        show Str.mk ((List.replicate n.toNat #[x]).foldl (· ++ ·) #[]) = _
        rw [foldl_dots]; simp
  rw [e]; exact r.here kn (.str _ _)
theorem eqOO {a b : Option (List Nat)} : Op2 c (compareOp .Eq) (oD a) (oD b) (.bool (a == b)) := by
  cases b with
  | some b => exact eqO
  | none =>
    cases a with
    | none => exact eqNN
    | some a => exact eqSN
theorem neP {a b : List Nat × List Nat} : Op2 c (compareOp .NotEq) (pD a) (pD b) (.bool (a != b)) := by
  intro K s A E Q v w g kn rm da db r
  obtain ⟨a1, a2⟩ := a
  obtain ⟨b1, b2⟩ := b
  cases da with
  | @tuple ta va na _ ma Da =>
  cases db with
  | @tuple tb vb nb _ mb Db =>
  cases Da with
  | cons h t =>
  cases t with
  | cons h' t =>
  cases t
  cases h; cases h'
  cases Db with
  | cons h t =>
  cases t with
  | cons h' t =>
  cases t
  cases h; cases h'
  rename_i t1 t2 t3 t4
  refine PySem.SeqAt.RcNeAt.tuples (e := fun j => if j = 0 then a1 == b1 else a2 == b2) ⟨_, kn _ ma, rfl, _, rfl⟩ ⟨_, kn _ mb, rfl, _, rfl⟩ (by have := rm.un; omega) (fun j h1 h2 => ?_) _ _ _ _ ?_
  · have hj : j = 0 ∨ j = 1 := by simp at h1; omega
    rcases hj with rfl | rfl
    · have := PySem.SeqAt.EqAt.str_str (A := A.in1) (s := s) (sS a1) t1 (sS b1) t3
      rw [sS_beq] at this; exact this
    · have := PySem.SeqAt.EqAt.str_str (A := A.in1) (s := s) (sS a2) t2 (sS b2) t4
      rw [sS_beq] at this; exact this
  · refine r.here' kn ?_
    have e : (!((List.range (min 2 2)).all (fun j => if j = 0 then a1 == b1 else a2 == b2) && (2 == 2))) = ((a1, a2) != (b1, b2)) := by
      have : List.range (min 2 2) = [0, 1] := by decide
      rw [this]
      show (!(((a1 == b1) && ((a2 == b2) && true)) && true)) = !((a1 == b1) && (a2 == b2))
      simp
    exact e ▸ .bool _
theorem EX.set2 {x y : Str} {d1 d2 : Dat} {e : Expr} {i j u : Nat} {p1 p2 tp : Pos} {ss : List Stmt} (S : Sc env ns gs) (he : EV c k env ns ρ o e (.tuple [d1, d2])) (hp1 : Put ns ρ x d1 ρ₁ i) (hp2 : Put ns ρ₁ y d2 ρ' j) (hf1 : OwnFree o.key i) (hf2 : OwnFree o.key j)
    (h : EX c k env ns ρ' o ss Qn Qr Qc)
    (hs : swapsWithSole [.Tuple [.Name x p1, .Name y p2] u tp] e pos.line env = pure false := by with_unfolding_all rfl)
    (hw : swappedStores [.Tuple [.Name x p1, .Name y p2] u tp] e env = pure none := by with_unfolding_all rfl) :
    EX c k env ns ρ o (.Assign [.Tuple [.Name x p1, .Name y p2] u tp] e pos :: ss) Qn Qr Qc := by
  obtain ⟨h1, rfl⟩ := hp1.get
  obtain ⟨h2, rfl⟩ := hp2.get
  exact EX.cons (EX1.assignT (f := fun ρ => (ρ.set i (some d1)).set j (some d2)) he (TG.tuple (TGs.cons (TG.name S i h1 hf1) (TGs.cons (TG.name S j h2 hf2) TGs.nil))) h hs hw)
theorem EX.set2P {x y : Str} {q : List Nat × List Nat} {e : Expr} {i j u : Nat} {p1 p2 tp : Pos} {ss : List Stmt} (S : Sc env ns gs) (he : EV c k env ns ρ o e (pD q)) (hp1 : Put ns ρ x (sD q.1) ρ₁ i) (hp2 : Put ns ρ₁ y (sD q.2) ρ' j) (hf1 : OwnFree o.key i) (hf2 : OwnFree o.key j)
    (h : EX c k env ns ρ' o ss Qn Qr Qc)
    (hs : swapsWithSole [.Tuple [.Name x p1, .Name y p2] u tp] e pos.line env = pure false := by with_unfolding_all rfl)
    (hw : swappedStores [.Tuple [.Name x p1, .Name y p2] u tp] e env = pure none := by with_unfolding_all rfl) :
    EX c k env ns ρ o (.Assign [.Tuple [.Name x p1, .Name y p2] u tp] e pos :: ss) Qn Qr Qc := EX.set2 S he hp1 hp2 hf1 hf2 h hs hw
end
theorem mulN {c : Cx} {a b : Nat} (h : IntMulOk (a : Int) (b : Int)) : Op2 c (binaryOp .Mult) (nD a) (nD b) (nD (a * b)) := mulI h
end
section
noncomputable abbrev Cx.at (c : Cx) (K : Led) : Cx := { c with Kc := K }
/-- a captured name that holds d -/
structure CellV (c : Cx) (env : Env) (x : Str) (X : Addr) (d : Dat) : Prop where
  kind : env.kindOf x = some .cell
  fn : env.scope.kind = .function
  at_ : env.cells.lookup x = some X
  val : ∃ ob v, (X, ob) ∈ c.Kc ∧ ob.data = .cell (some v) ∧ DatIn c.Kc v d
section
variable {c : Cx} {k : Nat} {env : Env} {ns gs : List Str} {ρ : Env'} {o : Own} {pos : Pos}
theorem EV.cellv {x : Str} {X : Addr} {d : Dat} (h : CellV c env x X d) (hd : (x == ("__debug__" : Str)) = false := by decide) : EV c k env ns ρ o (.Name x pos) d := by
  intro h₀ K₀ K s A E Q st rm r
  obtain ⟨ob, v, h1, h2, h3⟩ := h.val
  exact wpAny_Name (wpAny_loadName_cell h.fn h.kind h.at_ ⟨ob, st.kn _ (st.base _ h1), h2⟩ (r.here' st.kn (DatIn.mono st.base h3))) hd
theorem CellV.comp {x : Str} {X C : Addr} {d : Dat} {scope : Scope} {cl : List (Str × Addr)} (h : CellV c env x X d) (hk : scope.kind = .function) (hn : scope.names.lookup x = some .free) (hl : cl.lookup x = some X) : CellV c (compEnvC scope cl C env) x X d := by
  refine ⟨?_, hk, hl, h.val⟩
  show (relabel scope env).names.lookup x = _
  unfold relabel
  dsimp only
  generalize scope.names = l at hn
  induction l with
  | nil => simp at hn
  | cons a r ih =>
    obtain ⟨n, kd⟩ := a
    rw [List.lookup_cons] at hn
    rw [List.map_cons]
    cases hx : x == n with
    | true =>
      rw [hx] at hn
      cases hn
      have e : x = n := eq_of_beq hx
      subst e
      have : (NameKind.free == NameKind.free && env.scope.kind == .function && env.kindOf x == some .cell) = true := by rw [h.fn, h.kind]; rfl
      simp only [this, if_true, List.lookup_cons, hx]
    | false =>
      rw [hx] at hn
      have ih' := ih hn
      split
      · rw [List.lookup_cons, hx]; exact ih'
      · rw [List.lookup_cons, hx]; exact ih'
end
noncomputable def fnChkC (i : Nat) (p0 : Str) (ns gs : List Str) : Bool :=
  scOk (fnScope (stmtAt i)) ns gs && ((fnScope (stmtAt i)).names.filter fun x => x.2 == .cell) == [(p0, .cell)] && !(fnScope (stmtAt i)).isCoroutine && !(fnScope (stmtAt i)).isGenerator && !ns.contains p0 && (fnScope (stmtAt i)).names.lookup p0 == some .cell
theorem cellsFrom_none : ∀ {l : List (Str × NameKind)} {n : Nat} {acc : List (Str × Addr)}, (l.filter fun x => x.2 == .cell) = [] → cellsFrom n l acc = acc
  | [], n, acc, h => rfl
  | (y, kd) :: r, n, acc, h => by
    unfold cellsFrom
    rw [List.filter_cons] at h
    cases hk : kd == NameKind.cell with
    | true => simp [hk] at h
    | false =>
      simp only [hk, Bool.false_eq_true, if_false] at h
      rw [if_neg (by simp)]
      exact cellsFrom_none h
theorem cellsFrom_one : ∀ {l : List (Str × NameKind)} {n : Nat} {p0 : Str}, (l.filter fun x => x.2 == .cell) = [(p0, .cell)] → cellsFrom n l [] = [(p0, n)]
  | [], n, p0, h => by simp at h
  | (y, kd) :: r, n, p0, h => by
    unfold cellsFrom
    rw [List.filter_cons] at h
    cases hk : kd == NameKind.cell with
    | true =>
      simp only [hk, if_true, List.cons.injEq, Prod.mk.injEq] at h
      rw [if_pos (by simp), cellsFrom_none h.2, h.1.1]
    | false =>
      simp only [hk, Bool.false_eq_true, if_false] at h
      rw [if_neg (by simp)]
      exact cellsFrom_one h
theorem bindL_nil {ko : Str → Option NameKind} : ∀ {l : List (Str × Value)} {m : Str → Option Value}, (∀ x ∈ l, ko x.1 = some .local) → bindL ko l m = fun y => ((l.reverse).lookup y).or (m y)
  | [], m, _ => by funext y; rfl
  | (n, v) :: r, m, h => by
    unfold bindL
    rw [if_pos (h (n, v) List.mem_cons_self), bindL_nil fun x hx => h x (List.mem_cons_of_mem _ hx)]
    funext y
    rw [List.reverse_cons, List.lookup_append]
    cases (r.reverse).lookup y with
    | some z => rfl
    | none =>
      show (if y = n then some v else m y) = ([(n, v)].lookup y).or (m y)
      rw [List.lookup_cons]
      by_cases e : y = n
      · subst e; simp
      · have : (y == n) = false := by simp [e]
        rw [this, if_neg e]; simp
theorem bindC_local {ko : Str → Option NameKind} : ∀ {l : List (Str × Value)} {m : Str → Option Value}, (∀ x ∈ l, ko x.1 = some .local) → bindC ko l m = m
  | [], m, _ => rfl
  | (n, v) :: r, m, h => by
    unfold bindC
    rw [if_pos (h (n, v) List.mem_cons_self)]
    exact bindC_local fun x hx => h x (List.mem_cons_of_mem _ hx)
theorem inter_C {fd : FuncData} {L a : Addr} (h : fd.scope.kind = .function) : interactive (callEnvC fd L a) = false := by
  unfold interactive
  show _ = false
  simp [callEnvC, newEnv, h]
theorem Fn.okC {c : Cx} {k i : Nat} {a : Addr} {n p0 : Str} {ps os gs : List Str} {d0 : Dat} {ds : List Dat} {d : Dat} (F : Fn c i n a) (hchk : fnChkC i p0 (ps ++ os) gs = true)
    (hb : ∀ pm cd v vs, vs.length = ds.length → bindArgs (fdOf i pm cd .none) ⟨v :: vs, []⟩ = pure ((p0, v) :: ps.zip vs)) (hlen : ds.length = ps.length)
    (h : ∀ env K X, Sc env (ps ++ os) gs → CellV (c.at K) env p0 X d0 → EX (c.at K) k env (ps ++ os) (ds.map some ++ os.map fun _ => none) .no (fnBody (stmtAt i)) (fun _ _ => d = .none) (fun d' => d' = d) (fun _ _ => False)) :
    OpC c (.ref a) (k + 1) (d0 :: ds) d := by
  obtain ⟨pm, cd, hf⟩ := F.at_
  unfold fnChkC at hchk
  simp only [Bool.and_eq_true, Bool.not_eq_true', beq_iff_eq] at hchk
  obtain ⟨⟨⟨⟨⟨h1, h2⟩, h3⟩, h4⟩, h5⟩, h6⟩ := hchk
  have hp0 : p0 ∉ ps ++ os := by intro q; rw [List.contains_iff_mem.mpr q] at h5; cases h5
  have h1' := h1
  unfold scOk at h1'
  simp only [Bool.and_eq_true, beq_iff_eq, List.all_eq_true, decide_eq_true_eq, Bool.not_eq_true'] at h1'
  obtain ⟨⟨⟨⟨g1, g2⟩, g3⟩, g4⟩, g5⟩ := h1'
  intro K s A E Q vs0 g kn kb rm dv r
  obtain ⟨ob, e1, e2, e3⟩ := hf.at_ _ g
  cases dv with
  | @cons v vs _ _ dv0 dv =>
  have hvl := DatAll.length dv
  have hcells : (callEnvC (fdOf i pm cd .none) s.heap.objs.size a).cells = [(p0, s.heap.objs.size + 1)] := cellsFrom_one h2
  have hkoL : ∀ x ∈ ps.zip vs, (callEnvC (fdOf i pm cd .none) s.heap.objs.size a).kindOf x.1 = some .local := fun ⟨x1, x2⟩ hx => g2 _ (List.mem_append_left _ (List.of_mem_zip hx).1)
  have hko0 : (callEnvC (fdOf i pm cd .none) s.heap.objs.size a).kindOf p0 = some .cell := h6
  have hnl : ¬ (callEnvC (fdOf i pm cd .none) s.heap.objs.size a).kindOf p0 = some .local := by rw [hko0]; decide
  refine wpAny_call (codeAny_call_cells (fd := fdOf i pm cd .none) (by have := rm.dp; omega) e1 e2 (c.lim g) e3 rfl (hb pm cd v vs (by omega)) rfl (fun x hx => ?_) (fun s₁ X => ?_) h3 h4 g1)
  · rcases List.mem_cons.mp hx with rfl | hx
    · refine .inr ⟨h6, ?_⟩
      have : cellsFrom (s.heap.objs.size + 1) (fdOf i pm cd .none).scope.names [] = [(p0, s.heap.objs.size + 1)] := cellsFrom_one h2
      rw [this]; simp
    · exact .inl (hkoL x hx)
  obtain ⟨h₁, tk, rfl, _⟩ := X.done
  have hn := X.toInCall.ns
  have hkeep := X.toInCall.keep
  obtain ⟨ob1, hc1, hc2⟩ := X.cell p0 (s.heap.objs.size + 1) (by rw [hcells]; simp)
  rw [bindC, if_neg hnl, bindC_local hkoL] at hc2
  simp only [if_true] at hc2
  rw [bindL, if_neg hnl, bindL_nil hkoL] at hn
  have hXn : s.heap.get? (s.heap.objs.size + 1) = none := by
    cases e : s.heap.get? (s.heap.objs.size + 1) with
    | none => rfl
    | some o' => exact absurd (Heap.lt_size e) (Nat.not_lt.mpr (Nat.le_succ _))
  have x1 : KExt s.heap K ((s.heap.objs.size + 1, ob1) :: K) := ⟨fun p hp => .tail _ hp, fun p hp => by
    rcases List.mem_cons.mp hp with rfl | hp
    · exact .inr hXn
    · exact .inl hp⟩
  have st : St (c.at ((s.heap.objs.size + 1, ob1) :: K)) s.heap K (callEnvC (fdOf i pm cd .none) s.heap.objs.size a) (ps ++ os) (ds.map some ++ os.map fun _ => none) .no ((s.heap.objs.size + 1, ob1) :: K) h₁ := by
    refine ⟨⟨_, hn, fun j x d q1 q2 => ?_, trivial⟩, g, hkeep, size_none _, fun p hp => ?_, fun p hp q => ?_, x1, fun p hp => hp⟩
    · have hi : j < ds.length := by
        by_cases hi : j < ds.length
        · exact hi
        · rw [List.getElem?_append_right (by simpa using hi)] at q2
          rw [List.getElem?_map] at q2
          cases q : os[j - (ds.map some).length]? with
          | none => rw [q] at q2; cases q2
          | some y => rw [q] at q2; cases q2
      rw [List.getElem?_append_left (by simpa using hi), List.getElem?_map] at q2
      have hip : j < ps.length := by omega
      rw [List.getElem?_append_left hip] at q1
      cases q : ds[j]? with
      | none => rw [q] at q2; cases q2
      | some d' =>
        rw [q] at q2
        cases q2
        obtain ⟨w, hv, dv'⟩ := DatAll.get' dv q
        refine ⟨w, ?_, DatIn.ext dv' x1⟩
        show (((ps.zip vs).reverse).lookup x).or none = _
        rw [lookup_zip (List.nodup_append.mp g5).1 q1 hv (by omega)]; rfl
    · rcases List.mem_cons.mp hp with rfl | hp
      · exact hc1
      · exact hkeep _ _ (kn p hp)
    · rcases List.mem_cons.mp hp with rfl | hp
      · exact absurd q (by show ¬ s.heap.objs.size + 1 = s.heap.objs.size; omega)
      · have := kn p hp
        rw [show p.1 = s.heap.objs.size from q, size_none] at this; cases this
  have SC : Sc (callEnvC (fdOf i pm cd .none) s.heap.objs.size a) (ps ++ os) gs := ⟨g1, g2, g3, g4, g5, rfl, rfl, inter_C g1⟩
  have CV : CellV (c.at ((s.heap.objs.size + 1, ob1) :: K)) (callEnvC (fdOf i pm cd .none) s.heap.objs.size a) p0 (s.heap.objs.size + 1) d0 := ⟨hko0, g1, by rw [hcells]; simp, ob1, v, .head _, hc2, DatIn.ext dv0 x1⟩
  refine wpAny_mono (h _ _ _ SC CV _ _ _ { s with heap := h₁, toks := tk } (A.deeper (callEnvC (fdOf i pm cd .none) s.heap.objs.size a)) (fun _ _ => False) (fun fl s' => FlowOk (c.at ((s.heap.objs.size + 1, ob1) :: K)) s.heap K (callEnvC (fdOf i pm cd .none) s.heap.objs.size a) (ps ++ os) (fun _ _ => d = .none) (fun d' => d' = d) (fun _ _ => False) fl s'.heap ∧ ∃ h' tk, s' = { s with heap := h', toks := tk })
    st ⟨rm.hd, by show A.depth + 1 + k < _; have := rm.dp; omega, by show A.units + 3 + 20 * k + 200 < _; have := rm.un; omega⟩ fun fl h' tk f => ⟨f, h', tk, rfl⟩) (fun fl s' hs => ?_) (fun _ _ f => f.elim)
  obtain ⟨f, h', tk, rfl⟩ := hs
  cases fl with
  | next =>
    obtain ⟨ρ', o', K', st', hd⟩ := f
    exact r .none K' h' tk (by rw [hd]; exact .none) st'.ext st'.kn st'.keep
  | cont => obtain ⟨_, _, _, _, f⟩ := f; exact f.elim
  | ret v =>
    obtain ⟨d', K', q1, q2, q3, q4, q5⟩ := f
    exact r v K' h' tk (by rw [← q2]; exact q1) q5 q3 q4
  | brk => exact f.elim
theorem FnAt.at {c : Cx} {K : Led} {a : Addr} {fd : FuncData} (h : FnAt c a fd) : FnAt (c.at K) a fd := ⟨h.at_⟩
theorem Fn.at {c : Cx} {K : Led} {i : Nat} {n : Str} {a : Addr} (F : Fn c i n a) : Fn (c.at K) i n a := ⟨let ⟨pm, cd, h⟩ := F.at_; ⟨pm, cd, h.at⟩, F.gl⟩
theorem FnD.at {c : Cx} {K : Led} {i : Nat} {n : Str} {a : Addr} {dvs : List Value} (F : FnD c i n a dvs) : FnD (c.at K) i n a dvs := ⟨let ⟨pm, cd, dV, h, r⟩ := F.at_; ⟨pm, cd, dV, h.at, r⟩, F.gl⟩
theorem Pg.at {c : Cx} (P : Pg c) (K : Led) : Pg (c.at K) where
  bLen := P.bLen
  bChr := P.bChr
  bOrd := P.bOrd
  bMax := P.bMax
  bRange := P.bRange
  bBytes := P.bBytes
  is_space_ := P.is_space_.at
  is_upper_ := P.is_upper_.at
  is_letter_ := P.is_letter_.at
  lower_ := P.lower_.at
  lower_text_ := P.lower_text_.at
  label_rows_ := P.label_rows_.at
  skip_spaces_ := P.skip_spaces_.at
  encoding_of_ := P.encoding_of_.at
  bom_of_ := P.bom_of_.at
  gaps_ := P.gaps_.at
  skip_ := P.skip_.at
  seek_ := P.seek_.at
  folded_ := P.folded_.at
  get_attribute_ := P.get_attribute_.at
  told_charset_ := P.told_charset_.at
  content_charset_ := P.content_charset_.at
  tag_end_ := P.tag_end_.at
  read_meta_ := P.read_meta_.at
  pass_over_ := P.pass_over_.at
  skip_low_ := P.skip_low_.at
  xml_encoding_ := P.xml_encoding_.at
  l_digit_ := P.l_digit_.at
  l_labels_ := P.l_labels_.at
  l_cased_ := P.l_cased_.at
  l_declaration_ := P.l_declaration_.at
  l_prefix_ := P.l_prefix_.at
  l_attribute_ := P.l_attribute_.at
  l_meta_ := P.l_meta_.at
  l_inert_ := P.l_inert_.at
  l_piece_ := P.l_piece_.at
  l_wish_ := P.l_wish_.at
  l_found_ := P.l_found_.at
  l_octets_ := P.l_octets_.at
  prescan_ := let ⟨t, h⟩ := P.prescan_; ⟨t, h.at⟩
  sniff_ := let ⟨t, u, h⟩ := P.sniff_; ⟨t, u, h.at⟩
end
-- NE
theorem bdApp {a b : List Nat} {m n : Nat} (h1 : a.length ≤ m) (h2 : b.length ≤ n) : (a ++ b).length ≤ m + n := by rw [List.length_append]; omega
theorem bdAdd {a b : List Nat} {m n : Nat} (h1 : a.length ≤ m) (h2 : b.length ≤ n) (h : m + n ≤ 16777216) : a.length + b.length ≤ 16777216 := by omega
section
variable {c : Cx} {k : Nat} {env : Env} {ns gs : List Str} {ρ : Env'} {o : Own} {pos : Pos}
theorem EV.tupP {a b : Expr} {u : Nat} {x y : List Nat} (ha : EV c k env ns ρ o a (sD x)) (hb : EV c k env ns ρ o b (sD y)) (h1 : isStar a = false := by with_unfolding_all rfl) (h2 : isStar b = false := by with_unfolding_all rfl) : EV c k env ns ρ o (.Tuple [a, b] u pos) (pD (x, y)) :=
  EV.tup (EVs.cons ha (EVs.cons hb EVs.nil h2) h1) (Nat.le_of_ble_eq_true rfl)
theorem EVs.nilP : EVs c k env ns ρ o [] (pDs []) := EVs.nil
theorem EVs.consP {e : Expr} {es : List Expr} {n : List Nat × List Nat} {T : List (List Nat × List Nat)} (he : EV c k env ns ρ o e (pD n)) (hs : EVs c k env ns ρ o es (pDs T)) (hst : isStar e = false := by with_unfolding_all rfl) : EVs c k env ns ρ o (e :: es) (pDs (n :: T)) := EVs.cons he hs hst
theorem EV.lstP {es : List Expr} {T : List (List Nat × List Nat)} (h : EVs c k env ns ρ o es (pDs T)) (hz : T.length ≤ 16777216) : EV c k env ns ρ o (.List es pos) (.list (pDs T)) := EV.lst h (by simpa [pDs] using hz)
end
local macro_rules | `(tactic| walk_at "bd") => `(tactic| with_reducible first
  | (refine' bdApp ?x ?y; (case x => walk_at "bd"); (case y => walk_at "bd"))
  | assumption
  | exact Nat.le_refl _)
local macro_rules | `(tactic| walk_at "add") => `(tactic| (refine' bdAdd ?x ?y ?n; (case x => walk_at "bd"); (case y => walk_at "bd"); (case n => decide +kernel)))
local macro_rules | `(tactic| walk_at "op") => `(tactic| with_reducible first
  | (refine' modN ?z; case z => walk_at "sz")
  | (refine' divN ?z ?y; (case z => walk_at "sz"); (case y => walk_at "sz"))
  | (refine' modI ?z; case z => walk_at "sz")
  | (refine' divI ?z ?y; (case z => walk_at "sz"); (case y => walk_at "sz"))
  | (refine' addLS ?z; case z => with_unfolding_all exact Nat.le_of_ble_eq_true rfl)
  | exact eqOO
  | exact neP
  | fail "no")
local macro_rules | `(tactic| walk_at "item") => `(tactic| with_reducible first
  | (refine' itemZ ?i ?z; (case i => walk_at "ix"); (case z => walk_at "sz"))
  | (refine' itemNI ?i ?z; (case i => walk_at "ix"); (case z => walk_at "sz"))
  | (refine' itemPs ?i ?z; (case i => walk_at "ix"); (case z => walk_at "sz"))
  | fail "no")
local macro_rules | `(tactic| walk_at "evsp") => `(tactic| with_reducible first
  | exact EVs.nilP
  | (refine' EVs.consP (EV.tupP ?e1 ?e3) ?e2; (case e1 => walk_at "ev"); (case e3 => walk_at "ev"); (case e2 => walk_at "evsp")))
local macro_rules | `(tactic| walk_at "ev") => `(tactic| with_reducible first
  | exact EV.cellv (by assumption)
  | (refine' EV.lstP ?e1 ?e2; (case e1 => walk_at "evsp"); (case e2 => with_unfolding_all exact Nat.le_of_ble_eq_true rfl))
  | fail "no")
local macro_rules | `(tactic| walk_at "own") => `(tactic| with_reducible first
  | exact OwnFree.no
  | exact OwnFree.ne (by with_unfolding_all decide)
  | exact OwnFree.neD (by with_unfolding_all decide))
local macro_rules | `(tactic| walk_at "set2") => `(tactic| first
  | (refine' EX.set2P (by assumption) ?e1 ?e2 ?e3 ?e4 ?e5 ?e6; (case e1 => walk_at "ev"); (case e2 => walk_at "put"); (case e3 => walk_at "put"); (case e4 => walk_at "own"); (case e5 => walk_at "own"))
  | (refine' EX.set2 (by assumption) ?e1 ?e2 ?e3 ?e4 ?e5 ?e6; (case e1 => walk_at "ev"); (case e2 => walk_at "put"); (case e3 => walk_at "put"); (case e4 => walk_at "own"); (case e5 => walk_at "own")))
local macro_rules | `(tactic| walk_at "fn") => `(tactic| with_reducible first
  | exact Pg.l_digit_ (by assumption) | exact Pg.l_labels_ (by assumption) | exact Pg.l_cased_ (by assumption))
theorem l_digit_ok {c : Cx} (P : Pg c) {l : List Int} {n : Nat} (hz : l.length ≤ 1000) : OpC c (.ref 182) 1 [.list (zD l), nD n] (.int (l.getD n 0)) := by
  refine Fn.ok (ps := ["script", "at"]) (os := []) (gs := ["len"]) P.l_digit_ (by decide +kernel) (fun pm cd s => vs2 fun v w => BindsTo.of_eq rfl) rfl (fun env S => ?_)
  dsimp only [List.cons_append, List.nil_append, List.map] at S ⊢
  have hlen : (zD l).length = l.length := by simp [zD]
  refine' EX.ret (EV.ite (b := decide (n < (zD l).length)) ?t (fun ht => ?x) (fun ht => ?y)) rfl
  case t => walk_at "tr"
  case x =>
    have hn : n < l.length := by rw [hlen] at ht; exact of_decide_eq_true ht
    walk_at "ev"
  case y =>
    have hn : ¬ n < l.length := by rw [hlen] at ht; exact of_decide_eq_false ht
    rw [show l.getD n 0 = 0 by rw [List.getD_eq_getElem?_getD, List.getElem?_eq_none (by omega)]; rfl]
    exact EV.cInt
noncomputable def labelsM : List (List Nat × List Nat) := [(tx "utf-8", tx "UTF-8"), (tx "koi8-r", tx "KOI8-R"), (tx "utf-16", tx "UTF-16LE"), (tx "latin1", tx "windows-1252"), (tx "x-user-defined", tx "x-user-defined"), (tx "nought", tx ""), (tx "sjis", tx "Shift_JIS"), (tx "utf-16be", tx "UTF-16BE"), (tx "iso-8859-9", tx "windows-1254"), (tx "big5", tx "Big5"), (tx "csisolatincyrillic", tx "ISO-8859-5")]
theorem l_labels_ok {c : Cx} (P : Pg c) : OpC c (.ref 189) 1 [] (.list (pDs labelsM)) := by
  refine Fn.ok (ps := []) (os := []) (gs := []) P.l_labels_ (by decide +kernel) (fun pm cd s => vs0 (BindsTo.of_eq rfl)) rfl (fun env S => ?_)
  dsimp only [List.cons_append, List.nil_append, List.map] at S ⊢
  walk_at "ret"
  rfl
noncomputable def altM (l : List Nat) : List Nat := (List.range l.length).map fun i => if (i % 2 == 0) = true then up1 (l.getD i 0) else l.getD i 0
noncomputable def casedM (l : List Nat) (w : Nat) : List Nat := if (w == 1) = true then l.map up1 else if (w == 2) = true then altM l else l
theorem altM_len (l : List Nat) : (altM l).length = l.length := by simp [altM]
theorem casedM_len (l : List Nat) (w : Nat) : (casedM l w).length = l.length := by
  unfold casedM; split
  · simp
  · split
    · exact altM_len l
    · rfl
theorem clos_one {scope : Scope} {env : Env} {x : Str} {X : Addr} (h : env.cells.lookup x = some X) : ∀ {l : List (Str × NameKind)}, scope.names = l → (l.filter fun y => y.2 == .free) = [(x, .free)] → closureFor scope env = pure [(x, X)] := by
  intro l hl hf
  have hc : cellOf env x = pure X := by unfold cellOf; rw [h]
  unfold closureFor
  rw [hl]
  clear hl
  have key : ∀ (l : List (Str × NameKind)) (acc : List (Str × Addr)), (l.filter fun y => y.2 == .free) = [] →
      (forIn l acc fun (y : Str × NameKind) (cs : List (Str × Addr)) => (match y with | (name, kind) => if (kind == .free) = true then (do let a ← cellOf env name; pure (ForInStep.yield ((name, a) :: cs))) else pure (ForInStep.yield cs) : Sem (ForInStep (List (Str × Addr))))) = (pure acc : Sem (List (Str × Addr))) := by
    intro l
    induction l with
    | nil => intro acc _; rfl
    | cons y r ih =>
      intro acc hf
      obtain ⟨n, kd⟩ := y
      rw [List.filter_cons] at hf
      cases hk : kd == NameKind.free with
      | true => simp [hk] at hf
      | false =>
        simp only [hk, Bool.false_eq_true, if_false] at hf
        rw [List.forIn_cons]
        simp only [hk, Bool.false_eq_true, if_false]
        exact ih acc hf
  have key2 : ∀ (l : List (Str × NameKind)), (l.filter fun y => y.2 == .free) = [(x, .free)] →
      (forIn l ([] : List (Str × Addr)) fun (y : Str × NameKind) (cs : List (Str × Addr)) => (match y with | (name, kind) => if (kind == .free) = true then (do let a ← cellOf env name; pure (ForInStep.yield ((name, a) :: cs))) else pure (ForInStep.yield cs) : Sem (ForInStep (List (Str × Addr))))) = (pure [(x, X)] : Sem (List (Str × Addr))) := by
    intro l
    induction l with
    | nil => intro hf; simp at hf
    | cons y r ih =>
      intro hf
      obtain ⟨n, kd⟩ := y
      rw [List.filter_cons] at hf
      rw [List.forIn_cons]
      cases hk : kd == NameKind.free with
      | true =>
        simp only [hk, if_true, List.cons.injEq, Prod.mk.injEq] at hf
        obtain ⟨⟨hxn, _⟩, hf2⟩ := hf
        subst hxn
        simp only [hk, if_true, hc]
        exact key r _ hf2
      | false =>
        simp only [hk, Bool.false_eq_true, if_false] at hf
        simp only [hk, Bool.false_eq_true, if_false]
        exact ih hf
  exact (congrArg (fun (z : Sem (List (Str × Addr))) => z >>= fun cs => pure cs) (key2 l hf)).trans rfl
theorem cased_elt {c : Cx} {k : Nat} {env : Env} {X : Addr} {l : List Nat} {i : Nat} {p1 p2 p3 p4 p5 p6 p7 p8 p9 p10 p11 p12 p13 p14 : Pos} {u1 u2 : Nat} (S : Sc env ["k"] []) (CV : CellV c env "text" X (sD l)) (ha : ∀ x ∈ l, x < 128) (hz : l.length ≤ 1000) (hil : i < l.length)
    (hline : (p9.endLine == p10.line) = true := by with_unfolding_all rfl) :
    EV c k env ["k"] [some (nD i)] .no (.IfExp (.Compare (.BinOp (.Name "k" p1) .Mod (.Constant (.int 2) u1 p2) p3) [.Eq] [.Constant (.int 0) u2 p4] p5) (.Call (.Attribute (.Subscript (.Name "text" p6) (.Name "k" p7) p8) "upper" p9) [] [] p10) (.Subscript (.Name "text" p11) (.Name "k" p12) p13) p14)
      (sD [if (i % 2 == 0) = true then up1 (l.getD i 0) else l.getD i 0]) := by
  have hkv : ∀ {pos : Pos}, EV c k env ["k"] [some (nD i)] .no (.Name "k" pos) (nD i) := EV.nm S At.head
  have hsub : ∀ {pos p1 p2 : Pos}, EV c k env ["k"] [some (nD i)] .no (.Subscript (.Name "text" p1) (.Name "k" p2) pos) (sD [l.getD i 0]) := EV.sub (EV.cellv CV) hkv (itemS' hil (by omega))
  refine' EV.ite (b := i % 2 == 0) (TR.cmp (EV.bin hkv EV.cN (modN (by decide))) EV.cN eqN) (fun ht => ?x) (fun ht => ?y)
  case x =>
    rw [if_pos ht]
    refine' EV.upper hsub ?q1 (by simp) rfl hline
    intro x hx
    rw [List.mem_singleton.mp hx, List.getD_eq_getElem?_getD, List.getElem?_eq_getElem hil]
    exact ha _ (List.getElem_mem hil)
  case y =>
    rw [if_neg (by rw [ht]; exact Bool.false_ne_true)]
    exact hsub
theorem l_cased_ok {c : Cx} (P : Pg c) {l : List Nat} {w : Nat} (ha : ∀ x ∈ l, x < 128) (hz : l.length ≤ 1000) : OpC c (.ref 194) 3 [sD l, nD w] (sD (casedM l w)) := by
  refine Fn.okC (p0 := "text") (ps := ["way"]) (os := []) (gs := ["range", "len"]) P.l_cased_ (by decide +kernel) (fun pm cd v => vs1 fun w => rfl) rfl (fun env K X S CV => ?_)
  dsimp only [List.cons_append, List.nil_append, List.map] at S ⊢
  have P := P.at K
  have ht : ∀ {ρ : Env'} {pos : Pos}, EV (c.at K) 2 env ["way"] ρ .no (.Name "text" pos) (sD l) := EV.cellv CV
  unfold casedM
  walk_at "if" <;> intro h1
  · rw [if_pos h1]
    exact EX.ret (EV.upper ht ha (by omega)) rfl
  rw [if_neg (by rw [h1]; exact Bool.false_ne_true)]
  walk_at "if" <;> intro h2
  · rw [if_pos h2]
    refine' EX.ret (EV.join' EV.cS tx0 ?qj (single_flat (altM l)) ?qz) rfl
    case qz => rw [altM_len]; omega
    case qj =>
      refine' EV.conv (EV.comp (ns' := ["k"]) (f := fun d ρ => ρ.set 0 (some d)) (g := fun d => sD [if (toN d % 2 == 0) = true then up1 (l.getD (toN d) 0) else l.getD (toN d) 0]) (cl := [("text", X)]) (SRC.range (n := l.length) S ?qm P.bRange ?qi (by omega)) (fun d hd C => TG.name (sc_comp S (gs' := []) ?qs) 0 rfl OwnFree.no) (fun d hd C => ?qg) ?qz2 (.inr fun _ _ => rfl) (clos_one CV.at_ rfl ?qc)) ?qx
      case qm => walk_at "mem"
      case qi =>
        refine' EV.callB S ?qm2 P.bLen (EVs.cons ht EVs.nil) (lenS (by omega))
        case qm2 => walk_at "mem"
      case qs => with_unfolding_all decide +kernel
      case qc => rfl
      case qz2 => simp [rgD]; omega
      case qx => simp [rgD, sDs, altM, toN]
      case qg =>
        unfold rgD at hd
        rw [List.mem_map] at hd
        obtain ⟨i, hi, rfl⟩ := hd
        have hil : i < l.length := List.mem_range.mp hi
        have e : toN (nD i) = i := by simp [toN]
        simp only [e]
        refine' cased_elt (sc_comp S ?qs2) (CV.comp ?qk ?qn ?ql) ha hz hil
        case qs2 => with_unfolding_all decide +kernel
        case qk => rfl
        case qn => with_unfolding_all decide +kernel
        case ql => rfl
  rw [if_neg (by rw [h2]; exact Bool.false_ne_true)]
  exact EX.ret ht rfl
-- NF
section
variable {c : Cx} {k : Nat} {env : Env} {ns gs : List Str} {ρ ρ' : Env'} {o : Own} {pos p p1 p2 p3 p4 : Pos} {Qn Qc : Env' → Own → Prop} {Qr : Dat → Prop}
theorem set_same {ρ : Env'} {i : Nat} {x : Option Dat} (h : ρ[i]? = some x) : ρ.set i x = ρ := by
  obtain ⟨h1, h2⟩ := List.getElem?_eq_some_iff.mp h
  subst h2
  exact List.set_getElem_self h1
theorem EX.setIf {x : Str} {t e : Expr} {b : Bool} {d0 d1 d : Dat} {i : Nat} {ss : List Stmt} (S : Sc env ns gs) (ht : TR c k env ns ρ o t b) (hx : At ns ρ x d0) (he : b = true → EV c k env ns ρ o e d1) (hd : d = if b = true then d1 else d0) (hp : Put ns ρ x d ρ' i) (hf : OwnFree o.key i)
    (h : EX c k env ns ρ' o ss Qn Qr Qc) (hs : swapsWith e (some (.Name x p)) p1.line env = pure false := by with_unfolding_all rfl) : EX c k env ns ρ o (.If t [.Assign [.Name x p] e p1] [] pos :: ss) Qn Qr Qc := by
  obtain ⟨h1, rfl⟩ := hp.get
  obtain ⟨j, h2, h3⟩ := hx.get
  have hij : j = i := (List.getElem?_inj (List.getElem?_eq_some_iff.mp h2).1 S.nodup).mp (h2.trans h1.symm)
  subst hij
  refine EX.mid (fun ρ1 o1 => ρ1 = ρ.set j (some d) ∧ o1 = o) (EX1.if_ ht (fun hb => ?_) (fun hb => ?_)) ?_
  · rw [if_pos hb] at hd; subst hd
    exact EX.cons (EX1.assign S j h1 hf (he hb) (EX.nil ⟨rfl, rfl⟩) hs)
  · rw [if_neg (by rw [hb]; exact Bool.false_ne_true)] at hd; subst hd
    exact EX.nil ⟨(set_same h3).symm, rfl⟩
  · rintro _ _ ⟨rfl, rfl⟩; exact h
theorem EX.setIfS {x : Str} {t e : Expr} {b : Bool} {u v : List Nat} {i : Nat} {ss : List Stmt} (S : Sc env ns gs) (ht : TR c k env ns ρ o t b) (hx : At ns ρ x (sD v)) (he : b = true → EV c k env ns ρ o e (sD u)) (hp : Put ns ρ x (sD (if b = true then u else v)) ρ' i) (hf : OwnFree o.key i)
    (h : EX c k env ns ρ' o ss Qn Qr Qc) (hs : swapsWith e (some (.Name x p)) p1.line env = pure false := by with_unfolding_all rfl) : EX c k env ns ρ o (.If t [.Assign [.Name x p] e p1] [] pos :: ss) Qn Qr Qc :=
  EX.setIf S ht hx he (by cases b <;> rfl) hp hf h hs
theorem EX.setIfN {x : Str} {t e : Expr} {b : Bool} {u v : Nat} {i : Nat} {ss : List Stmt} (S : Sc env ns gs) (ht : TR c k env ns ρ o t b) (hx : At ns ρ x (nD v)) (he : b = true → EV c k env ns ρ o e (nD u)) (hp : Put ns ρ x (nD (if b = true then u else v)) ρ' i) (hf : OwnFree o.key i)
    (h : EX c k env ns ρ' o ss Qn Qr Qc) (hs : swapsWith e (some (.Name x p)) p1.line env = pure false := by with_unfolding_all rfl) : EX c k env ns ρ o (.If t [.Assign [.Name x p] e p1] [] pos :: ss) Qn Qr Qc :=
  EX.setIf S ht hx he (by cases b <;> rfl) hp hf h hs
theorem EX.setIf2S {x : Str} {t t' e e' : Expr} {b b' : Bool} {u u' v : List Nat} {i : Nat} {ss : List Stmt} (S : Sc env ns gs) (ht : TR c k env ns ρ o t b) (ht' : b = false → TR c k env ns ρ o t' b') (hx : At ns ρ x (sD v)) (he : b = true → EV c k env ns ρ o e (sD u)) (he' : b = false → b' = true → EV c k env ns ρ o e' (sD u'))
    (hp : Put ns ρ x (sD (if b = true then u else if b' = true then u' else v)) ρ' i) (hf : OwnFree o.key i)
    (h : EX c k env ns ρ' o ss Qn Qr Qc) (hs : swapsWith e (some (.Name x p)) p1.line env = pure false := by with_unfolding_all rfl) (hs' : swapsWith e' (some (.Name x p2)) p3.line env = pure false := by with_unfolding_all rfl) :
    EX c k env ns ρ o (.If t [.Assign [.Name x p] e p1] [.If t' [.Assign [.Name x p2] e' p3] [] p4] pos :: ss) Qn Qr Qc := by
  obtain ⟨h1, rfl⟩ := hp.get
  obtain ⟨j, h2, h3⟩ := hx.get
  have hij : j = i := (List.getElem?_inj (List.getElem?_eq_some_iff.mp h2).1 S.nodup).mp (h2.trans h1.symm)
  subst hij
  refine EX.mid (fun ρ1 o1 => ρ1 = ρ.set j (some (sD (if b = true then u else if b' = true then u' else v))) ∧ o1 = o) (EX1.if_ ht (fun hb => ?_) (fun hb => ?_)) ?_
  · rw [if_pos hb]
    exact EX.cons (EX1.assign S j h1 hf (he hb) (EX.nil ⟨rfl, rfl⟩) hs)
  · rw [if_neg (by rw [hb]; exact Bool.false_ne_true)]
    refine EX.cons (EX1.if_ (ht' hb) (fun hb' => ?_) (fun hb' => ?_))
    · rw [if_pos hb']
      exact EX.cons (EX1.assign S j h1 hf (he' hb hb') (EX.nil (EX.nil ⟨rfl, rfl⟩)) hs')
    · rw [if_neg (by rw [hb']; exact Bool.false_ne_true)]
      exact EX.nil (EX.nil ⟨(set_same h3).symm, rfl⟩)
  · rintro _ _ ⟨rfl, rfl⟩; exact h
end
local macro_rules | `(tactic| walk_at "fn") => `(tactic| with_reducible first
  | exact Pg.l_digit_ (by assumption) | exact Pg.l_labels_ (by assumption) | exact Pg.l_cased_ (by assumption) | exact Pg.l_declaration_ (by assumption))
local macro_rules | `(tactic| walk_at "setS") => `(tactic| (refine' EX.setIfS (by assumption) ?e1 ?e2 (fun _ => ?e3) ?e4 ?e5 ?e6; (case e1 => walk_at "tr"); (case e2 => walk_at "at"); (case e3 => walk_at "ev"); (case e4 => walk_at "put"); (case e5 => walk_at "own")))
theorem lab_len : ∀ p ∈ labelsM, p.1.length ≤ 20 ∧ p.2.length ≤ 20 ∧ ∀ x ∈ p.1, x < 128 := by decide +kernel
theorem labN : labelsM.length = 11 := rfl
theorem getD_mem {α : Type} {l : List α} {n : Nat} {d : α} (h : n < l.length) : l.getD n d ∈ l := by
  rw [List.getD_eq_getElem?_getD, List.getElem?_eq_getElem h]; exact List.getElem_mem h
noncomputable def lab (n : Int) : List Nat × List Nat := labelsM.getD (md n 11) ([], [])
theorem lab_mem (n : Int) : lab n ∈ labelsM := getD_mem (by rw [labN]; exact md_lt _ (by decide))
noncomputable def to8 (n : List Nat) : List Nat := if ([tx "UTF-16LE", tx "UTF-16BE"].contains n) = true then tx "UTF-8" else n
noncomputable def declM (n : Int) : List Nat × List Nat :=
  let label := casedM (lab n).1 (md (dv n 77) 3)
  let name := to8 (lab n).2
  if (md (dv n 11) 7 == 0) = true then (tx "<?xml version=\"1.0\" encoding=\"" ++ label ++ tx "\"?>", name) else
  if (md (dv n 11) 7 == 1) = true then (tx "<?xml encoding \x01= \x02'" ++ label ++ tx "' x=''?>", name) else
  if (md (dv n 11) 7 == 2) = true then (tx "<?xml encoding=\"" ++ label ++ tx "'?>", tx "") else
  if (md (dv n 11) 7 == 3) = true then (tx "<?xml encoding=" ++ label ++ tx "?>", tx "") else
  if (md (dv n 11) 7 == 4) = true then (tx "<?xml Encoding=\"" ++ label ++ tx "\"?>", tx "") else
  if (md (dv n 11) 7 == 5) = true then (tx "<?xml encoding=\"" ++ label ++ tx " \"?>", tx "") else
  (tx "<?XML encoding=\"" ++ label ++ tx "\"?>", tx "")
theorem l_declaration_ok {c : Cx} (P : Pg c) {n : Int} : OpC c (.ref 201) 4 [.int n] (pD (declM n)) := by
  refine Fn.ok (ps := ["number"]) (os := ["label", "name", "way"]) (gs := ["_law_labels", "_law_cased"]) P.l_declaration_ (by decide +kernel) (fun pm cd s => vs1 fun v => BindsTo.of_eq rfl) rfl (fun env S => ?_)
  dsimp only [List.cons_append, List.nil_append, List.map] at S ⊢
  have hlab := l_labels_ok P
  have h11 := md_lt n (show 0 < 11 by decide)
  have h11' : md n 11 < labelsM.length := h11
  have hz11 : labelsM.length ≤ 16777216 := by decide
  unfold declM
  walk_at "set2"
  change EX _ _ _ _ [_, some (sD (lab n).1), some (sD (lab n).2), _] _ _ _ _ _
  obtain ⟨q1, q2, q3⟩ := lab_len _ (lab_mem n)
  generalize lab n = L at q1 q2 q3
  have hcas := l_cased_ok P (w := md (dv n 77) 3) q3 (by omega)
  walk_at "set"
  have hlen : (casedM L.1 (md (dv n 77) 3)).length ≤ 20 := by rw [casedM_len]; exact q1
  generalize casedM L.1 (md (dv n 77) 3) = lb at hlen
  walk_at "setS"
  change EX _ _ _ _ [_, _, some (sD (to8 L.2)), _] _ _ _ _ _
  generalize to8 L.2 = nm
  walk_at "set"
  generalize md (dv n 11) 7 = way
  walk_at "if" <;> intro h0
  · rw [if_pos h0]; walk_at "ret"; rfl
  rw [if_neg (by rw [h0]; exact Bool.false_ne_true)]
  walk_at "if" <;> intro h1
  · rw [if_pos h1]; walk_at "ret"; rfl
  rw [if_neg (by rw [h1]; exact Bool.false_ne_true)]
  walk_at "if" <;> intro h2
  · rw [if_pos h2]; walk_at "ret"; rfl
  rw [if_neg (by rw [h2]; exact Bool.false_ne_true)]
  walk_at "if" <;> intro h3
  · rw [if_pos h3]; walk_at "ret"; rfl
  rw [if_neg (by rw [h3]; exact Bool.false_ne_true)]
  walk_at "if" <;> intro h4
  · rw [if_pos h4]; walk_at "ret"; rfl
  rw [if_neg (by rw [h4]; exact Bool.false_ne_true)]
  walk_at "if" <;> intro h5
  · rw [if_pos h5]; walk_at "ret"; rfl
  rw [if_neg (by rw [h5]; exact Bool.false_ne_true)]
  walk_at "ret"
  rfl
theorem declM_len (n : Int) : (declM n).1.length ≤ 100 ∧ (declM n).2.length ≤ 20 := by
  obtain ⟨q1, q2, q3⟩ := lab_len _ (lab_mem n)
  have h1 : (casedM (lab n).1 (md (dv n 77) 3)).length ≤ 20 := by rw [casedM_len]; exact q1
  have h2 : (to8 (lab n).2).length ≤ 20 := by
    unfold to8; split
    · decide +kernel
    · exact q2
  unfold declM
  generalize casedM (lab n).1 (md (dv n 77) 3) = lb at h1
  generalize to8 (lab n).2 = nm at h2
  have e : (tx "").length ≤ 20 := by decide +kernel
  have k (s t : String) (h : (tx s).length + (tx t).length ≤ 80) : (tx s ++ lb ++ tx t).length ≤ 100 := by
    rw [List.length_append, List.length_append]; omega
  dsimp only
  repeat' split
  all_goals first | exact ⟨k _ _ (by decide +kernel), h2⟩ | exact ⟨k _ _ (by decide +kernel), e⟩
-- NG
theorem lenLS {c : Cx} {l : List (List Nat)} (hz : l.length ≤ 16777216) : OpC c (.builtin "len") 0 [.list (sDs l)] (nD l.length) := by
  have := lenL (c := c) (l := sDs l) (by simpa [sDs] using hz)
  rwa [show (sDs l).length = l.length by simp [sDs]] at this
theorem lenLP {c : Cx} {l : List (List Nat × List Nat)} (hz : l.length ≤ 16777216) : OpC c (.builtin "len") 0 [.list (pDs l)] (nD l.length) := by
  have := lenL (c := c) (l := pDs l) (by simpa [pDs] using hz)
  rwa [show (pDs l).length = l.length by simp [pDs]] at this
local macro_rules | `(tactic| walk_at "len") => `(tactic| with_reducible first | (refine' lenLS ?z; case z => walk_at "sz") | (refine' lenLP ?z; case z => walk_at "sz") | (refine' lenB ?z; case z => walk_at "sz") | (refine' lenS ?z; case z => walk_at "sz"))
local macro_rules | `(tactic| walk_at "fn") => `(tactic| with_reducible first
  | exact Pg.l_digit_ (by assumption) | exact Pg.l_labels_ (by assumption) | exact Pg.l_cased_ (by assumption) | exact Pg.l_declaration_ (by assumption))
noncomputable def marksM : List (List Nat) := [tx "ï»¿", tx "þÿ", tx "ÿþ", tx "ï»", tx "þ"]
noncomputable def markN : List (List Nat) := [tx "UTF-8", tx "UTF-16BE", tx "UTF-16LE", tx "", tx ""]
noncomputable def prefixM (n : Int) : List (List Nat) :=
  if (decide (6 ≤ md n 16) && decide (md n 16 ≤ 10)) = true then [marksM.getD (md n 16 - 6) [], markN.getD (md n 16 - 6) [], tx "", tx ""] else
  if (decide (11 ≤ md n 16) && decide (md n 16 ≤ 12)) = true then [(declM (dv n 16)).1, tx "", tx "", (declM (dv n 16)).2] else
  if (md n 16 == 13) = true then [tx "<\x00?\x00x\x00", tx "", tx "UTF-16LE", tx ""] else
  if (md n 16 == 14) = true then [tx "\x00<\x00?\x00x", tx "", tx "UTF-16BE", tx ""] else
  if (md n 16 == 15) = true then [tx " " ++ (declM (dv n 16)).1, tx "", tx "", tx ""] else [tx "", tx "", tx "", tx ""]
theorem l_prefix_ok {c : Cx} (P : Pg c) {n : Int} : OpC c (.ref 208) 5 [.int n] (.tuple (sDs (prefixM n))) := by
  refine Fn.ok (ps := ["number"]) (os := ["sort", "declaration", "name", "marks"]) (gs := ["_law_declaration"]) P.l_prefix_ (by decide +kernel) (fun pm cd s => vs1 fun v => BindsTo.of_eq rfl) rfl (fun env S => ?_)
  dsimp only [List.cons_append, List.nil_append, List.map] at S ⊢
  have hdec := l_declaration_ok P (n := dv n 16)
  have h16 := md_lt n (show 0 < 16 by decide)
  have hdl := (declM_len (dv n 16)).1
  unfold prefixM
  walk_at "set"
  walk_at "set2"
  generalize md n 16 = s at h16
  generalize declM (dv n 16) = D at hdl
  clear hdec
  walk_at "if" <;> intro h0
  · rw [if_pos h0]
    rw [Bool.and_eq_true, decide_eq_true_eq, decide_eq_true_eq] at h0
    obtain ⟨h0, h0'⟩ := h0
    walk_at "set"
    change EX _ _ _ _ [_, _, _, _, some (.list (sDs marksM))] _ _ _ _ _
    have hm : s - 6 < marksM.length := by show s - 6 < 5; omega
    have hz : marksM.length ≤ 16777216 := by decide
    refine' EX.ret (d := .tuple (sDs [marksM.getD (s - 6) [], markN.getD (s - 6) [], tx "", tx ""])) ?q rfl
    refine' EV.tupS (EVs.consS ?q1 (EVs.consS (EV.sub (EV.conv (d := .list (sDs markN)) (d' := .list (sDs markN)) ?q2 rfl) ?q3 ?q4) (EVs.consS EV.cS (EVs.consS EV.cS EVs.nilS)))) (Nat.le_of_ble_eq_true rfl)
    case q1 => walk_at "ev"
    case q2 =>
      unfold markN
      walk_at "ev"
    case q3 => walk_at "ev"
    case q4 =>
      exact itemDs (ls := markN) (by show s - 6 < 5; omega) (by decide)
  rw [if_neg (by rw [h0]; exact Bool.false_ne_true)]
  walk_at "if" <;> intro h1
  · rw [if_pos h1]; walk_at "ret"; rfl
  rw [if_neg (by rw [h1]; exact Bool.false_ne_true)]
  walk_at "if" <;> intro h2
  · rw [if_pos h2]; walk_at "ret"; rfl
  rw [if_neg (by rw [h2]; exact Bool.false_ne_true)]
  walk_at "if" <;> intro h3
  · rw [if_pos h3]; walk_at "ret"; rfl
  rw [if_neg (by rw [h3]; exact Bool.false_ne_true)]
  walk_at "if" <;> intro h4
  · rw [if_pos h4]; walk_at "ret"; rfl
  rw [if_neg (by rw [h4]; exact Bool.false_ne_true)]
  walk_at "ret"
  rfl
noncomputable def wishM (n : Int) : Option (List Nat) × List Nat :=
  let label := casedM (lab (dv n 8)).1 (md (dv n 88) 3)
  if decide (md n 8 < 6) = true then (none, tx "") else if (md n 8 == 6) = true then (some (tx "\t" ++ label ++ tx " \x0d\n\x0c"), (lab (dv n 8)).2) else (some label, (lab (dv n 8)).2)
theorem l_wish_ok {c : Cx} (P : Pg c) {n : Int} : OpC c (.ref 243) 4 [.int n] (.tuple [oD (wishM n).1, sD (wishM n).2]) := by
  refine Fn.ok (ps := ["number"]) (os := ["label", "name"]) (gs := ["_law_labels", "_law_cased"]) P.l_wish_ (by decide +kernel) (fun pm cd s => vs1 fun v => BindsTo.of_eq rfl) rfl (fun env S => ?_)
  dsimp only [List.cons_append, List.nil_append, List.map] at S ⊢
  have hlab := l_labels_ok P
  have h11 : md (dv n 8) 11 < labelsM.length := md_lt (dv n 8) (show 0 < 11 by decide)
  have hz11 : labelsM.length ≤ 16777216 := by decide
  unfold wishM
  walk_at "set2"
  change EX _ _ _ _ [_, some (sD (lab (dv n 8)).1), some (sD (lab (dv n 8)).2)] _ _ _ _ _
  obtain ⟨q1, q2, q3⟩ := lab_len _ (lab_mem (dv n 8))
  generalize lab (dv n 8) = L at q1 q2 q3
  have hcas := l_cased_ok P (w := md (dv n 88) 3) q3 (by omega)
  walk_at "set"
  have hlen : (casedM L.1 (md (dv n 88) 3)).length ≤ 20 := by rw [casedM_len]; exact q1
  generalize casedM L.1 (md (dv n 88) 3) = lb at hlen
  dsimp only
  walk_at "if" <;> intro h0
  · rw [if_pos h0]; walk_at "ret"; rfl
  rw [if_neg (by rw [h0]; exact Bool.false_ne_true)]
  walk_at "if" <;> intro h0
  · rw [if_pos h0]; walk_at "ret"; rfl
  rw [if_neg (by rw [h0]; exact Bool.false_ne_true)]
  walk_at "ret"
  rfl
noncomputable def hiddenM : List Nat := tx "<meta charset=gbk>"
noncomputable def inertW (s : Nat) : List (List Nat) :=
  if (s == 0) = true then [tx "<!--" ++ hiddenM ++ tx "-->", tx "<!-->", tx "<!--->", tx "<!---->", tx "<!--a->--!>" ++ hiddenM ++ tx "-- >-->"] else
  if (s == 1) = true then [tx "<a title=\"" ++ hiddenM ++ tx "\">", tx "</a title='" ++ hiddenM ++ tx "' >", tx "<metal charset=gbk>", tx "<meta>"] ++ [tx "<a title=" ++ hiddenM, tx "</meta charset=gbk>", tx "<A/b=\"" ++ hiddenM ++ tx "\">", tx "<a =\">", tx "<a b=>"] ++
    [tx "<a b=c\">", tx "<a b=\"'>\" c='\">'>", tx "<a / b / >", tx "<a b c=\"d\"e='f>'>"] else
  if (s == 2) = true then [tx "<!a \">", tx "<? " ++ hiddenM, tx "</ " ++ hiddenM, tx "</>", tx "<!>", tx "<!- " ++ hiddenM, tx "<?a '>", tx "</1 \">"] else
  [tx " a", tx " < meta charset=gbk>", tx " <1meta charset=gbk>", tx " \x00é<", tx " >", tx " \"<"] ++ [tx "&lt;meta charset=gbk>", tx " meta charset=gbk>"]
noncomputable def inertM (s : Nat) (n : Int) : List Nat := (inertW s).getD (md n (inertW s).length) []
theorem l_inert_ok {c : Cx} (P : Pg c) {s : Nat} {n : Int} : OpC c (.ref 229) 1 [nD s, .int n] (sD (inertM s n)) := by
  refine Fn.ok (ps := ["sort", "number"]) (os := ["hidden", "words"]) (gs := ["len"]) P.l_inert_ (by decide +kernel) (fun pm cd s => vs2 fun v w => BindsTo.of_eq rfl) rfl (fun env S => ?_)
  dsimp only [List.cons_append, List.nil_append, List.map] at S ⊢
  unfold inertM
  walk_at "set"
  change EX _ _ _ _ [_, _, some (sD hiddenM), _] _ _ _ _ _
  have hh : hiddenM.length ≤ 30 := by decide +kernel
  refine' EX.mid (fun ρ o => ρ = [some (nD s), some (.int n), some (sD hiddenM), some (.list (sDs (inertW s)))] ∧ o = .no) (EX1.if_ (b := s == 0) ?t0 (fun h0 => ?a0) (fun h0 => EX.cons (EX1.if_ (b := s == 1) ?t1 (fun h1 => ?a1) (fun h1 => EX.cons (EX1.if_ (b := s == 2) ?t2 (fun h2 => ?a2) (fun h2 => ?a3)))))) ?tail
  case t0 => walk_at "tr"
  case t1 => walk_at "tr"
  case t2 => walk_at "tr"
  case a0 =>
    unfold inertW; rw [if_pos h0]
    walk_at "set"
    exact EX.nil ⟨rfl, rfl⟩
  case a1 =>
    unfold inertW; rw [if_neg (by rw [h0]; exact Bool.false_ne_true), if_pos h1]
    walk_at "set"
    walk_at "set"
    walk_at "set"
    walk_at "nils"
    exact ⟨rfl, rfl⟩
  case a2 =>
    unfold inertW; rw [if_neg (by rw [h0]; exact Bool.false_ne_true), if_neg (by rw [h1]; exact Bool.false_ne_true), if_pos h2]
    walk_at "set"
    walk_at "nils"
    exact ⟨rfl, rfl⟩
  case a3 =>
    unfold inertW; rw [if_neg (by rw [h0]; exact Bool.false_ne_true), if_neg (by rw [h1]; exact Bool.false_ne_true), if_neg (by rw [h2]; exact Bool.false_ne_true)]
    walk_at "set"
    walk_at "set"
    walk_at "nils"
    exact ⟨rfl, rfl⟩
  case tail =>
    rintro ρ o ⟨rfl, rfl⟩
    have hl : 0 < (inertW s).length ∧ (inertW s).length ≤ 13 := by
      unfold inertW
      repeat' split
      all_goals decide
    obtain ⟨hl, hl2⟩ := hl
    generalize inertW s = W at hl hl2
    have := md_lt n hl
    walk_at "ret"
    rfl
noncomputable def foundR : List (List Nat × List Nat) → Nat → Nat → Option (List Nat)
  | [], _, _ => none
  | p :: r, place, lim => if (p.2 != tx "" && decide (place + p.1.length ≤ lim)) = true then some p.2 else foundR r (place + p.1.length) lim
noncomputable def foundM (first last : List Nat) (ps : List (List Nat × List Nat)) (place lim : Nat) (whole : Bool) : Option (List Nat) :=
  if (first != tx "" && whole) = true then some first else
  match foundR ps place lim with
  | some x => some x
  | none => if (last != tx "" && whole) = true then some last else none
noncomputable def tupI (d : Dat) (n : Nat) : Dat := match d with
  | .tuple ds => ds.getD n .none
  | _ => .none
theorem TG.pair {c : Cx} {env : Env} {ns gs : List Str} {x y : Str} {i j u : Nat} {p p1 p2 : Pos} {key : Option (Nat × Addr)} {q : List Nat × List Nat} (S : Sc env ns gs) (h1 : ns[i]? = some x) (h2 : ns[j]? = some y) (f1 : OwnFree key i) (f2 : OwnFree key j) :
    TG c env ns key (.Tuple [.Name x p1, .Name y p2] u p) (pD q) (fun ρ => (ρ.set i (some (tupI (pD q) 0))).set j (some (tupI (pD q) 1))) :=
  TG.tuple (ds := [sD q.1, sD q.2]) (f := fun ρ => (ρ.set i (some (sD q.1))).set j (some (sD q.2))) (TGs.cons (TG.name S i h1 f1) (TGs.cons (TG.name S j h2 f2) TGs.nil))
theorem pDs_get {l : List (List Nat × List Nat)} {i : Nat} {d : Dat} (h : (pDs l)[i]? = some d) : ∃ q, l[i]? = some q ∧ d = pD q := by
  unfold pDs at h
  rw [List.getElem?_map] at h
  cases e : l[i]? with
  | none => rw [e] at h; cases h
  | some q => rw [e] at h; cases h; exact ⟨q, rfl, rfl⟩
theorem l_found_ok {c : Cx} (P : Pg c) {first last : List Nat} {ps : List (List Nat × List Nat)} {place lim : Nat} {whole : Bool} (hz : ps.length ≤ 1000) (hz2 : ∀ p ∈ ps, p.1.length ≤ 100000) :
    OpC c (.ref 250) 1 [sD first, sD last, .list (pDs ps), nD place, nD lim, .bool whole] (oD (foundM first last ps place lim whole)) := by
  refine Fn.ok (ps := ["first", "last", "pieces", "place", "limit", "is_whole"]) (os := ["text", "told"]) (gs := ["len"]) P.l_found_ (by decide +kernel) (fun pm cd s => vs6 fun v1 v2 v3 v4 v5 v6 => BindsTo.of_eq rfl) rfl (fun env S => ?_)
  dsimp only [List.cons_append, List.nil_append, List.map] at S ⊢
  unfold foundM
  walk_at "if" <;> intro h0
  · rw [if_pos h0]; walk_at "ret"; rfl
  rw [if_neg (by rw [h0]; exact Bool.false_ne_true)]
  generalize hF : foundR ps place lim = F
  refine' EX.cons (EX1.for_ (items := pDs ps) (f := fun d ρ => (ρ.set 6 (some (tupI d 0))).set 7 (some (tupI d 1))) (SRC.of (u := true) ?qi iterL) (fun d hd => ?qt)
    (fun i ρ o => (∃ pl x y, ρ = [some (sD first), some (sD last), some (.list (pDs ps)), some (nD pl), some (nD lim), some (.bool whole), x, y] ∧ foundR (ps.drop i) pl lim = F) ∧ o = .no) ⟨⟨place, none, none, rfl, by rw [List.drop_zero]; exact hF⟩, rfl⟩ ?ow ?st ?fi (.inl rfl))
  case qi => walk_at "ev"
  case qt =>
    unfold pDs at hd
    obtain ⟨q, _, rfl⟩ := List.mem_map.mp hd
    exact TG.pair S rfl rfl OwnFree.no OwnFree.no
  case ow => rintro i ρ o ⟨_, rfl⟩; rfl
  case st =>
    rintro i d ρ o hd ⟨⟨pl, x, y, rfl, hr⟩, rfl⟩
    obtain ⟨q, hq, rfl⟩ := pDs_get hd
    have hlt := (List.getElem?_eq_some_iff.mp hq).1
    have hq' : ps[i] = q := (List.getElem?_eq_some_iff.mp hq).2
    rw [List.drop_eq_getElem_cons hlt, hq'] at hr
    have hql := hz2 q (List.mem_of_getElem? hq)
    change EX _ _ _ _ [_, _, _, _, _, _, some (sD q.1), some (sD q.2)] _ _ _ _ _
    rw [foundR] at hr
    walk_at "set"
    walk_at "if" <;> intro h1
    · rw [if_pos h1] at hr
      subst hr
      walk_at "ret"
      rfl
    · rw [if_neg (by rw [h1]; exact Bool.false_ne_true)] at hr
      exact EX.nil ⟨⟨_, _, _, rfl, hr⟩, rfl⟩
  case fi =>
    rintro ρ o ⟨⟨pl, x, y, rfl, hr⟩, rfl⟩
    rw [List.drop_eq_nil_of_le (by simp [pDs])] at hr
    subst hr
    refine' EX.ret (EV.ite (b := last != tx "" && whole) (d := oD (if (last != tx "" && whole) = true then some last else none)) ?t (fun ht => ?x) (fun ht => ?y)) rfl
    case t => walk_at "tr"
    case x => rw [if_pos ht]; exact EV.conv (d := sD last) (by walk_at "ev") rfl
    case y => rw [if_neg (by rw [ht]; exact Bool.false_ne_true)]; exact EV.conv (d := .none) (by walk_at "ev") rfl
-- NH
local macro_rules | `(tactic| walk_at "len") => `(tactic| with_reducible first | (refine' lenLS ?z; case z => walk_at "sz") | (refine' lenLP ?z; case z => walk_at "sz") | (refine' lenB ?z; case z => walk_at "sz") | (refine' lenS ?z; case z => walk_at "sz"))
local macro_rules | `(tactic| walk_at "setS") => `(tactic| (refine' EX.setIfS (by assumption) ?e1 ?e2 (fun _ => ?e3) ?e4 ?e5 ?e6; (case e1 => walk_at "tr"); (case e2 => walk_at "at"); (case e3 => walk_at "ev"); (case e4 => walk_at "put"); (case e5 => walk_at "own")))
local macro_rules | `(tactic| walk_at "fn") => `(tactic| with_reducible first
  | exact Pg.l_digit_ (by assumption) | exact Pg.l_labels_ (by assumption) | exact Pg.l_cased_ (by assumption) | exact Pg.l_attribute_ (by assumption) | exact Pg.l_meta_ (by assumption) | exact Pg.l_inert_ (by assumption) | exact Pg.l_piece_ (by assumption))
theorem l_octets_ok {c : Cx} (P : Pg c) {l : List Nat} (ha : ∀ x ∈ l, x < 256) (hz : l.length ≤ 16000000) : OpC c (.ref 255) 1 [sD l] (bD (l.map UInt8.ofNat)) := by
  refine Fn.ok (ps := ["text"]) (os := []) (gs := ["bytes"]) P.l_octets_ (by decide +kernel) (fun pm cd s => vs1 fun v => BindsTo.of_eq rfl) rfl (fun env S => ?_)
  dsimp only [List.cons_append, List.nil_append, List.map] at S ⊢
  refine' EX.ret (EV.callTy S ?qm P.bBytes (EVs.cons (EV.conv (EV.comp (ns' := ["sign"]) (f := fun d ρ => ρ.set 0 (some d)) (g := fun d => nD (match d with | .str s => s.cps.getD 0 0 | _ => 0)) (cl := []) (SRC.of (u := false) ?qi iterS) (fun d hd C => TG.name (sc_comp S (gs' := ["ord"]) ?qs) 0 rfl OwnFree.no) (fun d hd C => ?qg) ?qz (.inr fun _ _ => rfl) ?qc) ?qx) EVs.nil) (bytesL (by rw [List.length_map]; omega))) rfl
  case qm => walk_at "mem"
  case qi => walk_at "ev"
  case qs => with_unfolding_all decide +kernel
  case qc => rfl
  case qz => simp [chD]; omega
  case qx =>
    simp only [chD, List.map_map]
    congr 1
    apply List.map_congr_left
    intro x hx
    have := ha x hx
    show nD (([x] : List Nat).toArray.getD 0 0) = .int ((UInt8.ofNat x).toNat)
    rw [UInt8.toNat_ofNat_of_lt' (by simpa using this)]
    rfl
  case qg =>
    unfold chD at hd
    obtain ⟨x, hx, rfl⟩ := List.mem_map.mp hd
    refine' EV.callB (sc_comp S (gs' := ["ord"]) ?qs2) ?qm2 P.bOrd (EVs.cons (EV.nm (sc_comp S (gs' := []) ?qs3) ?qa) EVs.nil) (ordS (n := x))
    case qs2 => with_unfolding_all decide +kernel
    case qs3 => with_unfolding_all decide +kernel
    case qa => exact At.head
    case qm2 => walk_at "mem"
-- NI
local macro_rules | `(tactic| walk_at "len") => `(tactic| with_reducible first | (refine' lenLS ?z; case z => walk_at "sz") | (refine' lenLP ?z; case z => walk_at "sz") | (refine' lenB ?z; case z => walk_at "sz") | (refine' lenS ?z; case z => walk_at "sz"))
local macro_rules | `(tactic| walk_at "setS") => `(tactic| (refine' EX.setIfS (by assumption) ?e1 ?e2 (fun _ => ?e3) ?e4 ?e5 ?e6; (case e1 => walk_at "tr"); (case e2 => walk_at "at"); (case e3 => walk_at "ev"); (case e4 => walk_at "put"); (case e5 => walk_at "own")))
local macro_rules | `(tactic| walk_at "fn") => `(tactic| with_reducible first
  | exact Pg.l_digit_ (by assumption) | exact Pg.l_labels_ (by assumption) | exact Pg.l_cased_ (by assumption) | exact Pg.l_attribute_ (by assumption) | exact Pg.l_meta_ (by assumption) | exact Pg.l_inert_ (by assumption) | exact Pg.l_piece_ (by assumption))
noncomputable def keysM : List (List Nat) := [tx "http-equiv", tx "content", tx "charset", tx "name", tx "content", tx "http-equiv", tx "charset", tx "content"]
noncomputable def valsM (lb : List Nat) : List (List Nat) := [tx "content-type", tx "text/html;charset=" ++ lb, lb, tx "charset=" ++ lb, tx "text/html"] ++ [tx "refresh;charset=" ++ lb, tx "", tx "acharset; charset = " ++ lb ++ tx " ;x"]
noncomputable def worthM (nm : List Nat) : List (List Nat) := [tx "pragma", nm, nm, tx "", tx "", tx "", tx "", nm]
noncomputable def gapsM : List (List Nat) := [tx "", tx " ", tx "\x0d\n", tx "\t\x0c"]
noncomputable def sepsM : List (List Nat) := [tx " ", tx "\n", tx "\x0d / ", tx "\t", tx "\x0c//", tx ""]
noncomputable def quotM : List (List Nat) := [tx "", tx "\"", tx "'"]
noncomputable def sepM (sp : Nat) (nth : Nat) (b : Bool) : List Nat :=
  if (sepsM.getD sp [] == tx "" && nth == 0) = true then tx "/" else if (sepsM.getD sp [] == tx "" && !b) = true then tx " " else sepsM.getD sp []
noncomputable def attrT (kind way kc vc g sp nth : Nat) (b : Bool) (lb : List Nat) : List Nat :=
  let key := casedM (keysM.getD kind []) kc
  let value := casedM ((valsM lb).getD kind []) vc
  let gap := gapsM.getD g []
  let quote := quotM.getD way []
  let text := sepM sp nth b ++ key
  if (value != tx "" || quote != tx "") = true then text ++ gap ++ tx "=" ++ gap ++ quote ++ value ++ quote else text
noncomputable def wayM (n : Int) (kind : Nat) : Nat := if (kind == 7) = true then 1 + md (dv (dv n 8) 11) 3 % 2 else md (dv (dv n 8) 11) 3
structure AT where
  text : List Nat
  key : List Nat
  worth : List Nat
  bound : Bool
noncomputable def attrM (n : Int) (nth : Nat) (b : Bool) : AT :=
  let kind := md (n + (nth : Int)) 8
  let L := lab (dv n 8 + (nth : Int))
  let r := dv (dv (dv n 8) 11) 3
  ⟨attrT kind (wayM n kind) (md r 3) (md (dv r 3) 3) (md (dv r 9) 4) (md (dv (dv r 9) 4) 6) nth b L.1, keysM.getD kind [], (worthM L.2).getD kind [], quotM.getD (wayM n kind) [] != tx ""⟩
noncomputable def atD (a : AT) : Dat := .tuple [sD a.text, sD a.key, sD a.worth, .bool a.bound]
theorem keys_sz : ∀ k ∈ keysM, (∀ x ∈ k, x < 128) ∧ k.length ≤ 10 := by decide +kernel
theorem tx_ascii (s : String) (h : (tx s).all (· < 128) = true) : ∀ x ∈ tx s, x < 128 := by
  intro x hx; rw [List.all_eq_true] at h; exact of_decide_eq_true (h x hx)
theorem vals_sz {lb : List Nat} (h1 : lb.length ≤ 20) (h2 : ∀ x ∈ lb, x < 128) : ∀ v ∈ valsM lb, (∀ x ∈ v, x < 128) ∧ v.length ≤ 50 := by
  have a1 (s : String) (h : (tx s).all (· < 128) = true) (hl : (tx s).length ≤ 25) : (∀ x ∈ tx s ++ lb, x < 128) ∧ (tx s ++ lb).length ≤ 50 := by
    refine ⟨fun x hx => ?_, by rw [List.length_append]; omega⟩
    rcases List.mem_append.mp hx with q | q
    · exact tx_ascii s h x q
    · exact h2 x q
  have a2 (s : String) (h : (tx s).all (· < 128) = true) (hl : (tx s).length ≤ 25) : (∀ x ∈ tx s, x < 128) ∧ (tx s).length ≤ 50 := ⟨tx_ascii s h, by omega⟩
  intro v hv
  unfold valsM at hv
  simp only [List.cons_append, List.nil_append, List.mem_cons, List.not_mem_nil, or_false] at hv
  rcases hv with rfl | rfl | rfl | rfl | rfl | rfl | rfl | rfl
  · exact a2 _ (by decide +kernel) (by decide +kernel)
  · exact a1 _ (by decide +kernel) (by decide +kernel)
  · exact ⟨h2, by omega⟩
  · exact a1 _ (by decide +kernel) (by decide +kernel)
  · exact a2 _ (by decide +kernel) (by decide +kernel)
  · exact a1 _ (by decide +kernel) (by decide +kernel)
  · exact a2 _ (by decide +kernel) (by decide +kernel)
  · obtain ⟨b1, b2⟩ := a1 "acharset; charset = " (by decide +kernel) (by decide +kernel)
    have e : (tx " ;x").length = 3 := by decide +kernel
    have e2 : (tx "acharset; charset = ").length = 20 := by decide +kernel
    refine ⟨fun x hx => ?_, by rw [List.length_append, List.length_append]; omega⟩
    rcases List.mem_append.mp hx with q | q
    · exact b1 x q
    · exact tx_ascii _ (by decide +kernel) x q
theorem wayM_lt (n : Int) (kind : Nat) : wayM n kind < 3 := by
  unfold wayM
  have := md_lt (dv (dv n 8) 11) (show 0 < 3 by decide)
  split <;> omega
set_option maxHeartbeats 4000000 in
theorem l_attribute_ok {c : Cx} (P : Pg c) {n : Int} {nth : Nat} {b : Bool} : OpC c (.ref 215) 4 [.int n, nD nth, .bool b] (atD (attrM n nth b)) := by
  refine Fn.ok (ps := ["number", "nth", "is_bound"]) (os := ["kind", "rest", "label", "name", "keys", "values", "worth", "way", "key", "value", "gap", "text", "quote"]) (gs := ["_law_labels", "_law_cased"]) P.l_attribute_ (by decide +kernel) (fun pm cd s => vs3 fun v w x => BindsTo.of_eq rfl) rfl (fun env S => ?_)
  dsimp only [List.cons_append, List.nil_append, List.map] at S ⊢
  have hlab := l_labels_ok P
  have h11 : md (dv n 8 + (nth : Int)) 11 < labelsM.length := md_lt _ (show 0 < 11 by decide)
  have hz11 : labelsM.length ≤ 16777216 := by decide
  have hk8 : md (n + (nth : Int)) 8 < 8 := md_lt _ (by decide)
  unfold attrM atD
  dsimp only
  walk_at "set"
  generalize hkind : md (n + (nth : Int)) 8 = kind at hk8
  walk_at "set"
  walk_at "set2"
  change EX _ _ _ _ [_, _, _, _, _, some (sD (lab (dv n 8 + (nth : Int))).1), some (sD (lab (dv n 8 + (nth : Int))).2), _, _, _, _, _, _, _, _, _] _ _ _ _ _
  obtain ⟨q1, q2, q3⟩ := lab_len _ (lab_mem (dv n 8 + (nth : Int)))
  generalize lab (dv n 8 + (nth : Int)) = L at q1 q2 q3
  walk_at "set"
  walk_at "set"
  change EX _ _ _ _ [_, _, _, _, _, _, _, some (.list (sDs keysM)), _, _, _, _, _, _, _, _] _ _ _ _ _
  walk_at "set"
  walk_at "set"
  change EX _ _ _ _ [_, _, _, _, _, _, _, some (.list (sDs keysM)), some (.list (sDs (valsM L.1))), _, _, _, _, _, _, _] _ _ _ _ _
  have hkl : kind < keysM.length := hk8
  have hvl : kind < (valsM L.1).length := hk8
  have hzk : keysM.length ≤ 16777216 := by decide
  have hzv : (valsM L.1).length ≤ 16777216 := by show 8 ≤ 16777216; decide
  have hwl : kind < (worthM L.2).length := hk8
  obtain ⟨k1, k2⟩ := keys_sz _ (getD_mem (d := []) hkl)
  obtain ⟨v1, v2⟩ := vals_sz q1 q3 _ (getD_mem (d := []) hvl)
  refine' EX.set S (EV.sub (b := nD kind) (EV.conv (d := .list (sDs (worthM L.2))) ?q1 rfl) ?q2 (itemDs hwl (by show 8 ≤ 16777216; decide))) ?q3 OwnFree.no ?q4
  case q1 => unfold worthM; walk_at "ev"
  case q2 => walk_at "ev"
  case q3 => walk_at "put"
  case q4 =>
  have h3 := md_lt (dv (dv n 8) 11) (show 0 < 3 by decide)
  walk_at "set"
  refine' EX.setIfN S ?e1 ?e2 (fun _ => ?e3) ?e4 OwnFree.no ?e6
  case e1 => walk_at "tr"
  case e2 => walk_at "at"
  case e3 => walk_at "ev"
  case e4 => walk_at "put"
  case e6 =>
  change EX _ _ _ _ [_, _, _, _, _, _, _, _, _, _, some (nD (wayM n kind)), _, _, _, _, _] _ _ _ _ _
  have hw3 := wayM_lt n kind
  generalize wayM n kind = way at hw3
  walk_at "set"
  generalize dv (dv (dv n 8) 11) 3 = r
  have hc1 := l_cased_ok P (w := md r 3) k1 (by omega)
  have hc2 := l_cased_ok P (w := md (dv r 3) 3) v1 (by omega)
  walk_at "set"
  walk_at "set"
  walk_at "set"
  have hg4 : md (dv r 9) 4 < gapsM.length := md_lt _ (by decide)
  have hs6 : md (dv (dv r 9) 4) 6 < sepsM.length := md_lt _ (by decide)
  have hq3 : way < quotM.length := hw3
  refine' EX.set S (EV.sub (b := nD (md (dv r 9) 4)) (EV.conv (d := .list (sDs gapsM)) ?q1 rfl) ?q2 (itemDs hg4 (by decide))) ?q3 OwnFree.no ?q4
  case q1 => unfold gapsM; walk_at "ev"
  case q2 => walk_at "ev"
  case q3 => walk_at "put"
  case q4 =>
  refine' EX.set S (EV.sub (b := nD (md (dv (dv r 9) 4) 6)) (EV.conv (d := .list (sDs sepsM)) ?q1 rfl) ?q2 (itemDs hs6 (by decide))) ?q3 OwnFree.no ?q4
  case q1 => unfold sepsM; walk_at "ev"
  case q2 => walk_at "ev"
  case q3 => walk_at "put"
  case q4 =>
  refine' EX.setIf2S S ?e1 (fun _ => ?e2) ?e3 (fun _ => ?e4) (fun _ _ => ?e5) ?e6 OwnFree.no ?e7
  case e1 => walk_at "tr"
  case e2 => walk_at "tr"
  case e3 => walk_at "at"
  case e4 => walk_at "ev"
  case e5 => walk_at "ev"
  case e6 => walk_at "put"
  case e7 =>
  change EX _ _ _ _ [_, _, _, _, _, _, _, _, _, _, _, _, _, _, some (sD (sepM (md (dv (dv r 9) 4) 6) nth b)), _] _ _ _ _ _
  unfold attrT
  dsimp only
  have gl : (gapsM.getD (md (dv r 9) 4) []).length ≤ 2 := (by decide +kernel : ∀ g ∈ gapsM, g.length ≤ 2) _ (getD_mem hg4)
  have ql : (quotM.getD way []).length ≤ 1 := (by decide +kernel : ∀ g ∈ quotM, g.length ≤ 1) _ (getD_mem hq3)
  have sl : (sepM (md (dv (dv r 9) 4) 6) nth b).length ≤ 4 := by
    have : (sepsM.getD (md (dv (dv r 9) 4) 6) []).length ≤ 4 := (by decide +kernel : ∀ g ∈ sepsM, g.length ≤ 4) _ (getD_mem hs6)
    unfold sepM
    split
    · decide +kernel
    · split
      · decide +kernel
      · exact this
  have kl : (casedM (keysM.getD kind []) (md r 3)).length ≤ 10 := by rw [casedM_len]; exact k2
  have vl : (casedM ((valsM L.1).getD kind []) (md (dv r 3) 3)).length ≤ 50 := by rw [casedM_len]; exact v2
  generalize sepM (md (dv (dv r 9) 4) 6) nth b = sp at sl
  generalize gapsM.getD (md (dv r 9) 4) [] = gap at gl
  generalize casedM (keysM.getD kind []) (md r 3) = key at kl
  generalize casedM ((valsM L.1).getD kind []) (md (dv r 3) 3) = value at vl
  clear hc1 hc2
  walk_at "set"
  refine' EX.set S (EV.sub (b := nD way) (EV.conv (d := .list (sDs quotM)) ?q1 rfl) ?q2 (itemDs hq3 (by decide))) ?q3 OwnFree.no ?q4
  case q1 => unfold quotM; walk_at "ev"
  case q2 => walk_at "ev"
  case q3 => walk_at "put"
  case q4 =>
  generalize quotM.getD way [] = quote at ql
  refine' EX.setIfS S ?e1 ?e2 (fun _ => ?e3) ?e4 OwnFree.no ?e6
  case e1 => walk_at "tr"
  case e2 => walk_at "at"
  case e3 => walk_at "ev"
  case e4 => walk_at "put"
  case e6 =>
  walk_at "ret"
  rfl
-- NJ
local macro_rules | `(tactic| walk_at "len") => `(tactic| with_reducible first | (refine' lenLS ?z; case z => walk_at "sz") | (refine' lenLP ?z; case z => walk_at "sz") | (refine' lenB ?z; case z => walk_at "sz") | (refine' lenS ?z; case z => walk_at "sz"))
local macro_rules | `(tactic| walk_at "fn") => `(tactic| with_reducible first
  | exact Pg.l_digit_ (by assumption) | exact Pg.l_labels_ (by assumption) | exact Pg.l_cased_ (by assumption) | exact Pg.l_attribute_ (by assumption) | exact Pg.l_meta_ (by assumption) | exact Pg.l_inert_ (by assumption) | exact Pg.l_piece_ (by assumption))
theorem attrM_len (n : Int) (nth : Nat) (b : Bool) : (attrM n nth b).text.length ≤ 71 := by
  unfold attrM
  dsimp only
  have hk8 : md (n + (nth : Int)) 8 < 8 := md_lt _ (by decide)
  generalize md (n + (nth : Int)) 8 = kind at hk8
  obtain ⟨q1, q2, q3⟩ := lab_len _ (lab_mem (dv n 8 + (nth : Int)))
  generalize lab (dv n 8 + (nth : Int)) = L at q1 q2 q3
  have hw3 := wayM_lt n kind
  generalize wayM n kind = way at hw3
  generalize dv (dv (dv n 8) 11) 3 = r
  have hg4 : md (dv r 9) 4 < gapsM.length := md_lt _ (by decide)
  have hs6 : md (dv (dv r 9) 4) 6 < sepsM.length := md_lt _ (by decide)
  have hq3 : way < quotM.length := hw3
  have hkl : kind < keysM.length := hk8
  have hvl : kind < (valsM L.1).length := hk8
  obtain ⟨k1, k2⟩ := keys_sz _ (getD_mem (d := []) hkl)
  obtain ⟨v1, v2⟩ := vals_sz q1 q3 _ (getD_mem (d := []) hvl)
  unfold attrT
  dsimp only
  have gl : (gapsM.getD (md (dv r 9) 4) []).length ≤ 2 := (by decide +kernel : ∀ g ∈ gapsM, g.length ≤ 2) _ (getD_mem hg4)
  have ql : (quotM.getD way []).length ≤ 1 := (by decide +kernel : ∀ g ∈ quotM, g.length ≤ 1) _ (getD_mem hq3)
  have sl : (sepM (md (dv (dv r 9) 4) 6) nth b).length ≤ 4 := by
    have : (sepsM.getD (md (dv (dv r 9) 4) 6) []).length ≤ 4 := (by decide +kernel : ∀ g ∈ sepsM, g.length ≤ 4) _ (getD_mem hs6)
    unfold sepM
    split
    · decide +kernel
    · split
      · decide +kernel
      · exact this
  have kl : (casedM (keysM.getD kind []) (md r 3)).length ≤ 10 := by rw [casedM_len]; exact k2
  have vl : (casedM ((valsM L.1).getD kind []) (md (dv r 3) 3)).length ≤ 50 := by rw [casedM_len]; exact v2
  generalize sepM (md (dv (dv r 9) 4) 6) nth b = sp at sl
  generalize gapsM.getD (md (dv r 9) 4) [] = gap at gl
  generalize casedM (keysM.getD kind []) (md r 3) = key at kl
  generalize casedM ((valsM L.1).getD kind []) (md (dv r 3) 3) = value at vl
  generalize quotM.getD way [] = quote at ql
  have e1 : (tx "=").length = 1 := by decide +kernel
  split <;> simp only [List.length_append] <;> omega
structure ST where
  text : List Nat
  firsts : List (List Nat × List Nat)
  bound : Bool
noncomputable def mStep (ns : List Int) (at_ : Nat) (s : ST) (nth : Nat) : ST :=
  let a := attrM (ns.getD (at_ + nth) 0) nth s.bound
  ⟨s.text ++ a.text, if (!(s.firsts.map (·.1)).contains a.key) = true then s.firsts ++ [(a.key, a.worth)] else s.firsts, a.bound⟩
noncomputable def mRun (ns : List Int) (at_ : Nat) (t0 : List Nat) (m : Nat) : ST := (List.range m).foldl (mStep ns at_) ⟨t0, [], false⟩
noncomputable def getW (l : List (List Nat × List Nat)) (key : List Nat) : List Nat := ((l.find? fun p => p.1 == key).getD ([], [])).2
theorem getW_at {l : List (List Nat × List Nat)} {key : List Nat} (h : (l.map (·.1)).contains key = true) : ∃ j : Nat, l[j]? = some (key, getW l key) := by
  induction l with
  | nil => simp at h
  | cons p r ih =>
    by_cases hp : p.1 = key
    · refine ⟨0, ?_⟩
      unfold getW
      rw [List.find?_cons]
      have : (p.1 == key) = true := by simp [hp]
      rw [this]
      obtain ⟨a, b⟩ := p
      simp only at hp
      subst hp; rfl
    · have hp' : (p.1 == key) = false := by simp [hp]
      rw [List.map_cons, List.contains_cons, show (key == p.1) = false from by simp; exact fun q => hp q.symm, Bool.false_or] at h
      obtain ⟨j, hj⟩ := ih h
      refine ⟨j + 1, ?_⟩
      rw [List.getElem?_cons_succ, hj]
      unfold getW
      rw [List.find?_cons, hp']
noncomputable def tell0 (f : List (List Nat × List Nat)) : List Nat :=
  if (f.map (·.1)).contains (tx "charset") = true then getW f (tx "charset") else
  if ((f.map (·.1)).contains (tx "http-equiv") && (getW f (tx "http-equiv") == tx "pragma" && (f.map (·.1)).contains (tx "content"))) = true then getW f (tx "content") else tx ""
noncomputable def tellM (t : List Nat) : List Nat :=
  let t := if ([tx "UTF-16LE", tx "UTF-16BE"].contains t) = true then tx "UTF-8" else t
  if (t == tx "x-user-defined") = true then tx "windows-1252" else t
noncomputable def endsM : List (List Nat) := [tx ">", tx " >", tx " />"]
noncomputable def metaM (ns : List Int) (at_ : Nat) (n : Int) : List Nat × List Nat :=
  let r := mRun ns at_ (casedM (tx "<meta") (md (dv n 4) 3)) (3 - md n 4)
  (r.text ++ endsM.getD (md (dv n 12) 3) [], tellM (tell0 r.firsts))
theorem mRun_succ (ns : List Int) (at_ : Nat) (t0 : List Nat) (m : Nat) : mRun ns at_ t0 (m + 1) = mStep ns at_ (mRun ns at_ t0 m) m := by
  unfold mRun; rw [List.range_succ, List.foldl_append]; rfl
theorem mRun_len (ns : List Int) (at_ : Nat) (t0 : List Nat) (m : Nat) : (mRun ns at_ t0 m).text.length ≤ t0.length + 71 * m ∧ (mRun ns at_ t0 m).firsts.length ≤ m := by
  induction m with
  | zero => exact ⟨Nat.le_refl _, Nat.le_refl _⟩
  | succ m ih =>
    rw [mRun_succ]
    have := attrM_len (ns.getD (at_ + m) 0) m (mRun ns at_ t0 m).bound
    unfold mStep
    refine ⟨?_, ?_⟩
    · dsimp only
      rw [List.length_append]; omega
    · dsimp only
      split
      · rw [List.length_append]; show _ + 1 ≤ _; omega
      · omega
set_option maxHeartbeats 1000000 in
theorem l_meta_ok {c : Cx} (P : Pg c) {ns : List Int} {at_ : Nat} {n : Int} (hz : ns.length ≤ 1000) : OpC c (.ref 222) 5 [.list (zD ns), nD at_, .int n] (pD (metaM ns at_ n)) := by
  refine Fn.ok (ps := ["script", "at", "number"]) (os := ["text", "firsts", "is_bound", "nth", "more", "key", "worth", "told"]) (gs := ["_law_cased", "range", "_law_attribute", "_law_digit"]) P.l_meta_ (by decide +kernel) (fun pm cd s => vs3 fun v w x => BindsTo.of_eq rfl) rfl (fun env S => ?_)
  dsimp only [List.cons_append, List.nil_append, List.map] at S ⊢
  unfold metaM
  dsimp only
  have hm := l_cased_ok P (l := tx "<meta") (w := md (dv n 4) 3) (by decide +kernel) (by decide +kernel)
  walk_at "set"
  have ht0 : (casedM (tx "<meta") (md (dv n 4) 3)).length ≤ 5 := by rw [casedM_len]; decide +kernel
  generalize casedM (tx "<meta") (md (dv n 4) 3) = t0 at ht0
  clear hm
  refine' EX.cons (EX1.assignDct S 4 rfl rfl fun a => ?_)
  walk_at "set"
  have h4 := md_lt n (show 0 < 4 by decide)
  refine' EX.mid (fun ρ o => ∃ r1 r2 r3 r4, ρ = [some (.list (zD ns)), some (nD at_), some (.int n), some (sD (mRun ns at_ t0 (3 - md n 4)).text), none, some (.bool (mRun ns at_ t0 (3 - md n 4)).bound), r1, r2, r3, r4, none] ∧ o = .dct 4 a (kvD (mRun ns at_ t0 (3 - md n 4)).firsts))
    (EX1.for_ (items := rgD (3 - md n 4)) (f := fun d ρ => ρ.set 6 (some d)) (SRC.range (n := 3 - md n 4) S ?qm P.bRange ?qi (by omega)) (fun d _ => TG.name S 6 rfl (OwnFree.neD (by decide)))
      (fun i ρ o => ∃ r1 r2 r3 r4, ρ = [some (.list (zD ns)), some (nD at_), some (.int n), some (sD (mRun ns at_ t0 i).text), none, some (.bool (mRun ns at_ t0 i).bound), r1, r2, r3, r4, none] ∧ o = .dct 4 a (kvD (mRun ns at_ t0 i).firsts))
      ⟨none, none, none, none, rfl, rfl⟩ ?ow ?st ?fi (.inr fun _ _ => rfl)) ?tail
  case qm => walk_at "mem"
  case qi => walk_at "ev"
  case ow => rintro i ρ o ⟨_, _, _, _, _, rfl⟩; rfl
  case fi =>
    rintro ρ o ⟨r1, r2, r3, r4, rfl, rfl⟩
    rw [show (rgD (3 - md n 4)).length = 3 - md n 4 by simp [rgD]]
    exact ⟨r1, r2, r3, r4, rfl, rfl⟩
  case st =>
    rintro i d ρ o hd ⟨r1, r2, r3, r4, rfl, rfl⟩
    have hi : i < 3 - md n 4 := by
      have := (List.getElem?_eq_some_iff.mp hd).1
      simpa [rgD] using this
    have hdi : d = nD i := by
      unfold rgD at hd
      rw [List.getElem?_map, List.getElem?_range hi] at hd
      cases hd; rfl
    subst hdi
    obtain ⟨b1, b2⟩ := mRun_len ns at_ t0 i
    rw [mRun_succ]
    generalize mRun ns at_ t0 i = R at b1 b2
    unfold mStep
    dsimp only [List.set]
    have hdig := l_digit_ok P (l := ns) (n := at_ + i) hz
    have hatt := l_attribute_ok P (n := ns.getD (at_ + i) 0) (nth := i) (b := R.bound)
    have hal := attrM_len (ns.getD (at_ + i) 0) i R.bound
    generalize attrM (ns.getD (at_ + i) 0) i R.bound = AA at hatt hal
    refine' EX.cons (EX1.assignT (d := atD AA) (f := fun ρ => (((ρ.set 7 (some (sD AA.text))).set 8 (some (sD AA.key))).set 9 (some (sD AA.worth))).set 5 (some (.bool AA.bound))) ?qv (TG.tuple (TGs.cons (TG.name S 7 rfl (OwnFree.neD (by decide))) (TGs.cons (TG.name S 8 rfl (OwnFree.neD (by decide))) (TGs.cons (TG.name S 9 rfl (OwnFree.neD (by decide))) (TGs.cons (TG.name S 5 rfl (OwnFree.neD (by decide))) TGs.nil))))) ?qn)
    case qv => walk_at "ev"
    case qn =>
    dsimp only [List.set]
    have hbd : R.text.length ≤ 1000 := by omega
    refine' EX.set S (d := sD (R.text ++ AA.text)) ?e1 ?e2 ?eo ?e4
    case e1 => walk_at "ev"
    case e2 => walk_at "put"
    case eo => walk_at "own"
    case e4 =>
    refine' EX.cons (EX1.if_ (b := !(R.firsts.map (·.1)).contains AA.key) (TR.notInDct S rfl ?k1) (fun ht => ?ha) (fun ht => ?hb))
    case k1 => walk_at "ev"
    case ha =>
      rw [if_pos ht]
      refine' EX.cons (EX1.setDct S rfl ?k2 ?k3 (by simpa using ht) (by omega) (EX.nil (EX.nil ⟨_, _, _, _, rfl, rfl⟩)))
      case k2 => walk_at "ev"
      case k3 => walk_at "ev"
    case hb =>
      rw [if_neg (by rw [ht]; exact Bool.false_ne_true)]
      exact EX.nil (EX.nil ⟨_, _, _, _, rfl, rfl⟩)
  case tail =>
    rintro ρ o ⟨r1, r2, r3, r4, rfl, rfl⟩
    obtain ⟨b1, b2⟩ := mRun_len ns at_ t0 (3 - md n 4)
    generalize mRun ns at_ t0 (3 - md n 4) = R at b1 b2
    refine' EX.set S (d := sD (tx "")) ?e1 ?e2 ?eo ?e4
    case e1 => walk_at "ev"
    case e2 => walk_at "put"
    case eo => walk_at "own"
    case e4 =>
    refine' EX.mid (fun ρ o => ρ = [some (.list (zD ns)), some (nD at_), some (.int n), some (sD R.text), none, some (.bool R.bound), r1, r2, r3, r4, some (sD (tell0 R.firsts))] ∧ o = .dct 4 a (kvD R.firsts))
      (EX1.if_ (b := (R.firsts.map (·.1)).contains (tx "charset")) (TR.inDct S rfl EV.cS) (fun h1 => ?a1) (fun h1 => EX.cons (EX1.if_ (b := (R.firsts.map (·.1)).contains (tx "http-equiv") && (getW R.firsts (tx "http-equiv") == tx "pragma" && (R.firsts.map (·.1)).contains (tx "content"))) ?t2 (fun h2 => ?a2) (fun h2 => ?a3)))) ?tail2
    case a1 =>
      unfold tell0; rw [if_pos h1]
      obtain ⟨j, hj⟩ := getW_at h1
      refine' EX.set S (EV.itemDct S rfl EV.cS hj) ?e2 ?eo (EX.nil ⟨rfl, rfl⟩)
      case e2 => walk_at "put"
      case eo => walk_at "own"
    case t2 =>
      refine' TR.and3 (TR.inDct S rfl EV.cS) (fun h2 => ?f2) (fun _ _ => TR.inDct S rfl EV.cS)
      case f2 =>
        obtain ⟨j, hj⟩ := getW_at h2
        exact TR.cmp (EV.itemDct S rfl EV.cS hj) EV.cS eqS
    case a2 =>
      unfold tell0; rw [if_neg (by rw [h1]; exact Bool.false_ne_true), if_pos h2]
      rw [Bool.and_eq_true, Bool.and_eq_true] at h2
      obtain ⟨j, hj⟩ := getW_at h2.2.2
      refine' EX.set S (EV.itemDct S rfl EV.cS hj) ?e2 ?eo (EX.nil (EX.nil ⟨rfl, rfl⟩))
      case e2 => walk_at "put"
      case eo => walk_at "own"
    case a3 =>
      unfold tell0; rw [if_neg (by rw [h1]; exact Bool.false_ne_true), if_neg (by rw [h2]; exact Bool.false_ne_true)]
      exact EX.nil (EX.nil ⟨rfl, rfl⟩)
    case tail2 =>
    rintro ρ o ⟨rfl, rfl⟩
    unfold tellM
    dsimp only
    generalize tell0 R.firsts = T
    refine' EX.setIfS S ?e1 ?e2 (fun _ => EV.cS) ?e4 ?eo ?e6
    case e1 => walk_at "tr"
    case e2 => walk_at "at"
    case e4 => walk_at "put"
    case eo => walk_at "own"
    case e6 =>
    generalize (if ([tx "UTF-16LE", tx "UTF-16BE"].contains T) = true then tx "UTF-8" else T) = T
    refine' EX.setIfS S ?e1 ?e2 (fun _ => EV.cS) ?e4 ?eo ?e6
    case e1 => walk_at "tr"
    case e2 => walk_at "at"
    case e4 => walk_at "put"
    case eo => walk_at "own"
    case e6 =>
    have h3 : md (dv n 12) 3 < endsM.length := md_lt _ (by decide)
    have hel : (endsM.getD (md (dv n 12) 3) []).length ≤ 3 := (by decide +kernel : ∀ g ∈ endsM, g.length ≤ 3) _ (getD_mem h3)
    have hbd : R.text.length ≤ 1000 := by omega
    refine' EX.ret (EV.tupP (EV.bin ?g1 (EV.sub (b := nD (md (dv n 12) 3)) (EV.conv (d := .list (sDs endsM)) ?g2 rfl) ?g3 (itemDs h3 (by decide))) (addS ?g4)) ?g5) rfl
    case g1 => walk_at "ev"
    case g2 => unfold endsM; walk_at "ev"
    case g3 => walk_at "ev"
    case g4 => walk_at "add"
    case g5 => walk_at "ev"
theorem metaM_len (ns : List Int) (at_ : Nat) (n : Int) : (metaM ns at_ n).1.length ≤ 221 := by
  unfold metaM
  dsimp only
  rw [List.length_append]
  have h3 : md (dv n 12) 3 < endsM.length := md_lt _ (by decide)
  have hel : (endsM.getD (md (dv n 12) 3) []).length ≤ 3 := (by decide +kernel : ∀ g ∈ endsM, g.length ≤ 3) _ (getD_mem h3)
  have := (mRun_len ns at_ (casedM (tx "<meta") (md (dv n 4) 3)) (3 - md n 4)).1
  rw [casedM_len, show (tx "<meta").length = 5 by decide +kernel] at this
  omega
noncomputable def pieceM (ns : List Int) (at_ nth : Nat) : List Nat × List Nat :=
  let n := ns.getD at_ 0
  let s := md (n + (nth : Int)) 8
  if (s % 2 == 1) = true then metaM ns (at_ + 1) (dv n 8) else (inertM (s / 2) (dv n 8), tx "")
theorem l_piece_ok {c : Cx} (P : Pg c) {ns : List Int} {at_ nth : Nat} (hz : ns.length ≤ 1000) : OpC c (.ref 236) 6 [.list (zD ns), nD at_, nD nth] (pD (pieceM ns at_ nth)) := by
  refine Fn.ok (ps := ["script", "at", "nth"]) (os := ["number", "sort"]) (gs := ["_law_digit", "_law_meta", "_law_inert"]) P.l_piece_ (by decide +kernel) (fun pm cd s => vs3 fun v w x => BindsTo.of_eq rfl) rfl (fun env S => ?_)
  dsimp only [List.cons_append, List.nil_append, List.map] at S ⊢
  unfold pieceM
  dsimp only
  have hdig := l_digit_ok P (l := ns) (n := at_) hz
  walk_at "set"
  generalize ns.getD at_ 0 = n
  walk_at "set"
  generalize md (n + (nth : Int)) 8 = s
  have hmet := l_meta_ok P (at_ := at_ + 1) (n := dv n 8) hz
  have hin := l_inert_ok P (s := s / 2) (n := dv n 8)
  walk_at "if" <;> intro h0
  · rw [if_pos h0]; walk_at "ret"; rfl
  rw [if_neg (by rw [h0]; exact Bool.false_ne_true)]
  walk_at "ret"
  rfl
section
noncomputable def sniffP (l : List UInt8) (ov tr : Option (List Nat)) (lim : Nat) (fb : List Nat) : List Nat × List Nat :=
  match certM l ov tr with
  | some x => (x, tx "certain")
  | none => match preM (nn l) lim with
    | some x => (x, tx "tentative")
    | none => (fb, tx "tentative")
theorem sniffM_eq (l : List UInt8) (ov tr : Option (List Nat)) (lim : Nat) (fb : List Nat) : sniffM l ov tr lim fb = pD (sniffP l ov tr lim fb) := by
  unfold sniffM sniffP
  cases certM l ov tr with
  | some x => rfl
  | none =>
    cases preM (nn l) lim with
    | some x => rfl
    | none => rfl
noncomputable def px (n : Int) (i : Nat) : List Nat := (prefixM n).getD i []
theorem prefixM_four (n : Int) : prefixM n = [px n 0, px n 1, px n 2, px n 3] := by
  unfold px prefixM
  repeat' split
  all_goals rfl
theorem declM_asc (n : Int) : ∀ x ∈ (declM n).1, x < 256 := by
  obtain ⟨q1, q2, q3⟩ := lab_len _ (lab_mem n)
  have up : ∀ x, x < 128 → up1 x < 256 := by intro x h; unfold up1; split <;> omega
  have h1 : ∀ x ∈ casedM (lab n).1 (md (dv n 77) 3), x < 256 := by
    intro x hx
    unfold casedM at hx
    split at hx
    · obtain ⟨y, hy, rfl⟩ := List.mem_map.mp hx; exact up y (q3 y hy)
    · split at hx
      · unfold altM at hx
        obtain ⟨i, hi, rfl⟩ := List.mem_map.mp hx
        have hil := List.mem_range.mp hi
        have := q3 _ (getD_mem (d := 0) hil)
        split
        · exact up _ this
        · omega
      · have := q3 x hx; omega
  have k (s t : String) (h : ((tx s).all (· < 128) && (tx t).all (· < 128)) = true) : ∀ x ∈ tx s ++ casedM (lab n).1 (md (dv n 77) 3) ++ tx t, x < 256 := by
    intro x hx
    rw [Bool.and_eq_true] at h
    rcases List.mem_append.mp hx with q | q
    · rcases List.mem_append.mp q with q | q
      · have := tx_ascii s h.1 x q; omega
      · exact h1 x q
    · have := tx_ascii t h.2 x q; omega
  unfold declM
  dsimp only
  repeat' split
  all_goals exact k _ _ (by decide +kernel)
theorem px_asc (n : Int) : (∀ x ∈ px n 0, x < 256) ∧ (px n 0).length ≤ 101 := by
  have hd := declM_asc (dv n 16)
  have hl := (declM_len (dv n 16)).1
  have h16 := md_lt n (show 0 < 16 by decide)
  unfold px prefixM
  have e0 : (∀ x ∈ tx "", x < 256) ∧ (tx "").length ≤ 101 := by decide +kernel
  split
  · rename_i h
    rw [Bool.and_eq_true, decide_eq_true_eq, decide_eq_true_eq] at h
    have : md n 16 - 6 < marksM.length := by show _ < 5; omega
    exact (by decide +kernel : ∀ m ∈ marksM, (∀ x ∈ m, x < 256) ∧ m.length ≤ 101) _ (getD_mem this)
  split
  · exact ⟨hd, by show (declM (dv n 16)).1.length ≤ 101; omega⟩
  split
  · decide +kernel
  split
  · decide +kernel
  split
  · refine ⟨fun x hx => ?_, ?_⟩
    · rcases List.mem_append.mp hx with q | q
      · exact (by decide +kernel : ∀ x ∈ tx " ", x < 256) x q
      · exact hd x q
    · show (tx " " ++ (declM (dv n 16)).1).length ≤ 101
      rw [List.length_append, show (tx " ").length = 1 by decide +kernel]; omega
  · exact e0
theorem cased_asc {l : List Nat} (h : ∀ x ∈ l, x < 128) (w : Nat) : ∀ x ∈ casedM l w, x < 128 := by
  have up : ∀ x, x < 128 → up1 x < 128 := by intro x h; unfold up1; split <;> omega
  intro x hx
  unfold casedM at hx
  split at hx
  · obtain ⟨y, hy, rfl⟩ := List.mem_map.mp hx; exact up y (h y hy)
  · split at hx
    · unfold altM at hx
      obtain ⟨i, hi, rfl⟩ := List.mem_map.mp hx
      have hil := List.mem_range.mp hi
      have := h _ (getD_mem (d := 0) hil)
      split
      · exact up _ this
      · omega
    · exact h x hx
theorem app_asc {a b : List Nat} {N : Nat} (h1 : ∀ x ∈ a, x < N) (h2 : ∀ x ∈ b, x < N) : ∀ x ∈ a ++ b, x < N := fun x hx => (List.mem_append.mp hx).elim (h1 x) (h2 x)
theorem attrM_asc (n : Int) (nth : Nat) (b : Bool) : ∀ x ∈ (attrM n nth b).text, x < 128 := by
  unfold attrM
  dsimp only
  have hk8 : md (n + (nth : Int)) 8 < 8 := md_lt _ (by decide)
  generalize md (n + (nth : Int)) 8 = kind at hk8
  obtain ⟨q1, q2, q3⟩ := lab_len _ (lab_mem (dv n 8 + (nth : Int)))
  generalize lab (dv n 8 + (nth : Int)) = L at q1 q2 q3
  have hw3 := wayM_lt n kind
  generalize wayM n kind = way at hw3
  generalize dv (dv (dv n 8) 11) 3 = r
  have hg4 : md (dv r 9) 4 < gapsM.length := md_lt _ (by decide)
  have hs6 : md (dv (dv r 9) 4) 6 < sepsM.length := md_lt _ (by decide)
  have hq3 : way < quotM.length := hw3
  have hkl : kind < keysM.length := hk8
  have hvl : kind < (valsM L.1).length := hk8
  obtain ⟨k1, k2⟩ := keys_sz _ (getD_mem (d := []) hkl)
  obtain ⟨v1, v2⟩ := vals_sz q1 q3 _ (getD_mem (d := []) hvl)
  have gl := (by decide +kernel : ∀ g ∈ gapsM, ∀ x ∈ g, x < 128) _ (getD_mem (d := []) hg4)
  have ql := (by decide +kernel : ∀ g ∈ quotM, ∀ x ∈ g, x < 128) _ (getD_mem (d := []) hq3)
  have sl : ∀ x ∈ sepM (md (dv (dv r 9) 4) 6) nth b, x < 128 := by
    have := (by decide +kernel : ∀ g ∈ sepsM, ∀ x ∈ g, x < 128) _ (getD_mem (d := []) hs6)
    unfold sepM
    split
    · decide +kernel
    · split
      · decide +kernel
      · exact this
  have e1 : ∀ x ∈ tx "=", x < 128 := by decide +kernel
  have kl := cased_asc k1 (md r 3)
  have vl := cased_asc v1 (md (dv r 3) 3)
  unfold attrT
  dsimp only
  split
  · exact app_asc (app_asc (app_asc (app_asc (app_asc (app_asc (app_asc sl kl) gl) e1) gl) ql) vl) ql
  · exact app_asc sl kl
theorem mRun_asc (ns : List Int) (at_ : Nat) (t0 : List Nat) (h : ∀ x ∈ t0, x < 128) (m : Nat) : ∀ x ∈ (mRun ns at_ t0 m).text, x < 128 := by
  induction m with
  | zero => exact h
  | succ m ih =>
    rw [mRun_succ]
    unfold mStep
    exact app_asc ih (attrM_asc _ _ _)
theorem pieceM_asc (ns : List Int) (at_ nth : Nat) : (∀ x ∈ (pieceM ns at_ nth).1, x < 256) ∧ (pieceM ns at_ nth).1.length ≤ 221 := by
  unfold pieceM
  dsimp only
  split
  · refine ⟨fun x hx => ?_, metaM_len _ _ _⟩
    unfold metaM at hx
    dsimp only at hx
    have h3 : md (dv (dv (ns.getD at_ 0) 8) 12) 3 < endsM.length := md_lt _ (by decide)
    have := app_asc (mRun_asc ns (at_ + 1) _ (cased_asc (by decide +kernel : ∀ x ∈ tx "<meta", x < 128) _) _) ((by decide +kernel : ∀ g ∈ endsM, ∀ x ∈ g, x < 128) _ (getD_mem (d := []) h3)) x hx
    omega
  · unfold inertM
    generalize md (ns.getD at_ 0 + (nth : Int)) 8 / 2 = s
    have hl : 0 < (inertW s).length ∧ ∀ w ∈ inertW s, (∀ x ∈ w, x < 256) ∧ w.length ≤ 221 := by
      unfold inertW
      repeat' split
      all_goals decide +kernel
    exact hl.2 _ (getD_mem (md_lt _ hl.1))
noncomputable def psM (ns : List Int) : List (List Nat × List Nat) := [pieceM ns 5 0, pieceM ns 9 1, pieceM ns 13 2]
noncomputable def eAt (p0 : Nat) (ps : List (List Nat × List Nat)) (j : Nat) : Nat := p0 + ((ps.take j).map (·.1.length)).sum
noncomputable def endsL (p0 : Nat) (ps : List (List Nat × List Nat)) : List Nat := (List.range 4).map (eAt p0 ps)
noncomputable def edgeM (E : List Nat) (rest : Int) : Int := ((E.getD (md rest 4) 0 : Nat) : Int) - ((md (dv rest 4) 2 : Nat) : Int)
noncomputable def limM (E : List Nat) (rest : Int) (way : Nat) : Nat := [E.getD 3 0, md rest (E.getD 3 0 + 1), (edgeM E rest).toNat, 1024].getD way 0
noncomputable def padM (way : Nat) (edge : Int) : List Nat := if (way == 3) = true then tx "<!--" ++ List.replicate (1017 - edge).toNat 46 ++ tx "-->" else tx ""
noncomputable def fbsM : List (List Nat) := [tx "x-user-defined", tx "UTF-8", tx "KOI8-R", tx "windows-1252", tx "none"]
noncomputable def fbM (way : Nat) (d4 : Int) : List Nat := if ([1, 2].contains way) = true then fbsM.getD (md d4 5) [] else tx "windows-1252"
noncomputable def dueR (d0 : List Nat × List Nat) (names : List (List Nat)) : List Nat × List Nat := names.foldl (fun d n => if (n != tx "") = true then (n, tx "certain") else d) d0
noncomputable def behM : List (List Nat) := [hiddenM, tx "\">" ++ hiddenM, tx "-->" ++ hiddenM, tx "'>" ++ hiddenM, tx ">"]
noncomputable def octs (t : List Nat) : List UInt8 := t.map UInt8.ofNat
theorem octs_nn {t : List Nat} (h : ∀ x ∈ t, x < 256) : nn (octs t) = t := by
  unfold nn octs
  rw [List.map_map]
  conv => rhs; rw [← List.map_id t]
  apply List.map_congr_left
  intro x hx
  exact UInt8.toNat_ofNat_of_lt' (by simpa using h x hx)
end
-- NL
local macro_rules | `(tactic| walk_at "len") => `(tactic| with_reducible first | (refine' lenLS ?z; case z => walk_at "sz") | (refine' lenLP ?z; case z => walk_at "sz") | (refine' lenB ?z; case z => walk_at "sz") | (refine' lenS ?z; case z => walk_at "sz"))
local macro_rules | `(tactic| walk_at "fn") => `(tactic| with_reducible first
  | exact Pg.l_digit_ (by assumption) | exact Pg.l_prefix_ (by assumption) | exact Pg.l_piece_ (by assumption) | exact Pg.l_wish_ (by assumption) | exact Pg.l_found_ (by assumption) | exact Pg.l_octets_ (by assumption))
/-- what the law builds, and its answer -/
structure LW where
  pf : List Nat
  mark : List Nat
  fi : List Nat
  la : List Nat
  ps : List (List Nat × List Nat)
  rest : Int
  way : Nat
  w2 : Option (List Nat) × List Nat
  w3 : Option (List Nat) × List Nat
  d4 : Int
noncomputable def lwM (ns : List Int) : LW := ⟨px (ns.getD 0 0) 0, px (ns.getD 0 0) 1, px (ns.getD 0 0) 2, px (ns.getD 0 0) 3, psM ns, dv (ns.getD 1 0) 4, md (ns.getD 1 0) 4, wishM (ns.getD 2 0), wishM (ns.getD 3 0), ns.getD 4 0⟩
noncomputable def LW.E (w : LW) : List Nat := endsL w.pf.length w.ps
noncomputable def LW.lim (w : LW) : Nat := limM w.E w.rest w.way
noncomputable def LW.pad (w : LW) : List Nat := padM w.way (edgeM w.E w.rest)
noncomputable def LW.text (w : LW) : List Nat := w.pf ++ w.pad ++ (w.ps.map (·.1)).flatten
noncomputable def LW.found (w : LW) : Option (List Nat) := foundM w.fi w.la w.ps (w.pf.length + w.pad.length) w.lim (decide (w.pf.length ≤ w.lim))
noncomputable def LW.fb (w : LW) : List Nat := fbM w.way w.d4
noncomputable def LW.lim2 (w : LW) : Nat := if ([1, 2].contains w.way) = true then w.lim else 1024
noncomputable def LW.told (w : LW) : List Nat × List Nat := sniffP (octs w.text) w.w2.1 w.w3.1 w.lim2 w.fb
noncomputable def LW.due (w : LW) : List Nat × List Nat := dueR (w.found.getD w.fb, tx "tentative") [w.w3.2, w.w2.2, w.mark]
noncomputable def LW.beh (w : LW) : List Nat := behM.getD (md (dv w.d4 5) 5) []
noncomputable def LW.octets2 (w : LW) : List UInt8 := cutL (octs w.text) none (some w.lim) ++ octs w.beh
noncomputable def LW.lim3 (w : LW) : Nat := if (w.way == 3) = true then 1024 else w.lim
noncomputable def LW.ok (w : LW) : Bool := if (w.told != w.due) = true then false else preM (nn w.octets2) w.lim3 == w.found
noncomputable def lawM (ns : List Int) : Bool := (lwM ns).ok
theorem wish_ok (n : Int) : okO (wishM n).1 := by
  obtain ⟨q1, q2, q3⟩ := lab_len _ (lab_mem (dv n 8))
  have hc := cased_asc q3 (md (dv n 88) 3)
  have hl : (casedM (lab (dv n 8)).1 (md (dv n 88) 3)).length ≤ 20 := by rw [casedM_len]; exact q1
  unfold wishM
  dsimp only
  split
  · trivial
  · split
    · refine ⟨fun x hx => ?_, ?_⟩
      · have := app_asc (app_asc (by decide +kernel : ∀ x ∈ tx "\t", x < 128) hc) (by decide +kernel : ∀ x ∈ tx " \x0d\n\x0c", x < 128) x hx
        omega
      · rw [List.length_append, List.length_append, show (tx "\t").length = 1 by decide +kernel, show (tx " \x0d\n\x0c").length = 4 by decide +kernel]; omega
    · exact ⟨fun x hx => by have := hc x hx; omega, by omega⟩
theorem eAt_succ {p0 : Nat} {ps : List (List Nat × List Nat)} {j : Nat} {q : List Nat × List Nat} (h : ps[j]? = some q) : eAt p0 ps (j + 1) = eAt p0 ps j + q.1.length := by
  unfold eAt
  rw [List.take_add_one, h]
  simp [List.sum_append]; omega
theorem nI_app (a b : List Nat) : nI a ++ nI b = nI (a ++ b) := by simp [nI]
noncomputable abbrev lawNs : List Str := ["prefix", "mark", "first", "last", "pieces", "ends", "text", "told", "rest", "way", "edge", "limit", "pad", "octets", "found", "override", "over", "transport", "across", "fallback", "due", "name", "hidden", "behind"]
noncomputable abbrev lawGs : List Str := ["_law_prefix", "_law_digit", "range", "len", "max", "_law_octets", "_law_found", "_law_wish", "sniff", "prescan"]
structure LW.Good (w : LW) : Prop where
  pf : (∀ x ∈ w.pf, x < 256) ∧ w.pf.length ≤ 101
  ps : w.ps.length = 3 ∧ ∀ p ∈ w.ps, (∀ x ∈ p.1, x < 256) ∧ p.1.length ≤ 221
  way : w.way < 4
  w2 : okO w.w2.1
  w3 : okO w.w3.1
theorem lw_good (ns : List Int) : (lwM ns).Good := by
  refine ⟨px_asc _, ⟨rfl, ?_⟩, md_lt _ (by decide), wish_ok _, wish_ok _⟩
  intro p hp
  show _
  change p ∈ psM ns at hp
  unfold psM at hp
  simp only [List.mem_cons, List.not_mem_nil, or_false] at hp
  rcases hp with rfl | rfl | rfl <;> exact pieceM_asc _ _ _
theorem LW.Good.E {w : LW} (h : w.Good) : (∀ e ∈ w.E, e ≤ 764) ∧ w.E.length = 4 := by
  refine ⟨?_, by unfold LW.E endsL; simp⟩
  intro e he
  unfold LW.E endsL at he
  obtain ⟨j, hj, rfl⟩ := List.mem_map.mp he
  unfold eAt
  have hs : ∀ (l : List (List Nat × List Nat)), (∀ p ∈ l, p.1.length ≤ 221) → (l.map (·.1.length)).sum ≤ 221 * l.length := by
    intro l
    induction l with
    | nil => intro _; exact Nat.le_refl _
    | cons p r ih =>
      intro h
      have := ih fun q hq => h q (.tail _ hq)
      have := h p (.head _)
      simp only [List.map_cons, List.sum_cons, List.length_cons]; omega
  have := hs (w.ps.take j) fun p hp => (h.ps.2 p (List.mem_of_mem_take hp)).2
  have h2 : (w.ps.take j).length ≤ 3 := by rw [List.length_take, h.ps.1]; omega
  have := h.pf.2
  omega
theorem LW.Good.edge {w : LW} (h : w.Good) : -1 ≤ edgeM w.E w.rest ∧ edgeM w.E w.rest ≤ 764 := by
  obtain ⟨h1, h2⟩ := h.E
  have hm : md w.rest 4 < w.E.length := by rw [h2]; exact md_lt _ (by decide)
  have := h1 _ (getD_mem (d := 0) hm)
  have := md_lt (dv w.rest 4) (show 0 < 2 by decide)
  unfold edgeM
  omega
theorem LW.Good.pad {w : LW} (h : w.Good) : (∀ x ∈ w.pad, x < 256) ∧ w.pad.length ≤ 1025 := by
  have := h.edge
  unfold LW.pad padM
  split
  · refine ⟨app_asc (app_asc (by decide +kernel) fun x hx => ?_) (by decide +kernel), ?_⟩
    · rw [List.mem_replicate] at hx; omega
    · rw [List.length_append, List.length_append, List.length_replicate, show (tx "<!--").length = 4 by decide +kernel, show (tx "-->").length = 3 by decide +kernel]; omega
  · decide +kernel
theorem flat_len : ∀ (l : List (List Nat × List Nat)), (∀ p ∈ l, (∀ x ∈ p.1, x < 256) ∧ p.1.length ≤ 221) → (l.map (·.1)).flatten.length ≤ 221 * l.length ∧ ∀ x ∈ (l.map (·.1)).flatten, x < 256
  | [], _ => ⟨Nat.le_refl _, fun x hx => by simp at hx⟩
  | p :: r, h => by
    obtain ⟨i1, i2⟩ := flat_len r fun q hq => h q (.tail _ hq)
    obtain ⟨h1, h2⟩ := h p (.head _)
    rw [List.map_cons, List.flatten_cons]
    exact ⟨by rw [List.length_append, List.length_cons]; omega, app_asc h1 i2⟩
theorem LW.Good.text {w : LW} (h : w.Good) : (∀ x ∈ w.text, x < 256) ∧ w.text.length ≤ 2000 := by
  obtain ⟨h1, h2⟩ := h.pf
  obtain ⟨h3, h4⟩ := h.pad
  obtain ⟨h5, h6⟩ := flat_len w.ps h.ps.2
  unfold LW.text
  exact ⟨app_asc (app_asc h1 h3) h6, by rw [List.length_append, List.length_append]; have := h.ps.1; omega⟩
theorem LW.Good.beh {w : LW} : (∀ x ∈ w.beh, x < 256) ∧ w.beh.length ≤ 100 := by
  have : md (dv w.d4 5) 5 < behM.length := md_lt _ (by decide)
  exact (by decide +kernel : ∀ b ∈ behM, (∀ x ∈ b, x < 256) ∧ b.length ≤ 100) _ (getD_mem this)
noncomputable def tailE : Env' := [none, none, none, none]
set_option maxHeartbeats 4000000 in
theorem law_C {c : Cx} (P : Pg c) {env : Env} {w : LW} (H : w.Good) {X : Addr} {ns : List Int} (S : Sc env lawNs lawGs) (CV : CellV c env "script" X (.list (zD ns))) (hd4 : ns.getD 4 0 = w.d4) (hns : ns.length ≤ 1000)
    {r1 r2 r3 r4 r5 r6 r8 r10 r12 r15 r17 : Option Dat} :
    EX c 10 env lawNs [r1, some (sD w.mark), r2, r3, r4, r5, r6, some (pD w.told), r8, some (nD w.way), r10, some (nD w.lim), r12, some (bD (octs w.text)), some (oD w.found), r15, some (sD w.w2.2), r17, some (sD w.w3.2), some (sD w.fb), none, none, none, none] .no
      ((fnBody (stmtAt 38)).drop 16) (fun _ _ => Dat.bool w.ok = .none) (fun d' => d' = .bool w.ok) (fun _ _ => False) := by
  have htl := H.text.2
  have hol : (octs w.text).length ≤ 2000 := by unfold octs; rw [List.length_map]; exact htl
  refine' EX.set (d := pD (w.found.getD w.fb, tx "tentative")) S (EV.tupP (EV.ite (b := w.found.isNone) ?t (fun ht => ?q1) (fun ht => ?q2)) EV.cS) ?e2 ?e3 ?e4
  case t => walk_at "tr"
  case q1 =>
    have : w.found = none := Option.isNone_iff_eq_none.mp ht
    refine EV.conv (d := sD w.fb) ?_ (by rw [this]; rfl)
    walk_at "ev"
  case q2 =>
    cases hf : w.found with
    | none => rw [hf] at ht; cases ht
    | some x =>
      refine EV.conv (d := oD (some x)) ?_ rfl
      walk_at "ev"
  case e2 => walk_at "put"
  case e3 => walk_at "own"
  case e4 =>
  generalize hd0 : (w.found.getD w.fb, tx "tentative") = d0
  have hdue : w.due = dueR d0 [w.w3.2, w.w2.2, w.mark] := by unfold LW.due; rw [hd0]
  refine' EX.mid (fun ρ o => ∃ x, ρ = [r1, some (sD w.mark), r2, r3, r4, r5, r6, some (pD w.told), r8, some (nD w.way), r10, some (nD w.lim), r12, some (bD (octs w.text)), some (oD w.found), r15, some (sD w.w2.2), r17, some (sD w.w3.2), some (sD w.fb), some (pD w.due), x, none, none] ∧ o = .no)
    (EX1.for_ (items := sDs [w.w3.2, w.w2.2, w.mark]) (f := fun d ρ => ρ.set 21 (some d)) (SRC.of (u := true) ?qi iterL) (fun d _ => TG.name S 21 rfl OwnFree.no)
      (fun i ρ o => ∃ x, ρ = [r1, some (sD w.mark), r2, r3, r4, r5, r6, some (pD w.told), r8, some (nD w.way), r10, some (nD w.lim), r12, some (bD (octs w.text)), some (oD w.found), r15, some (sD w.w2.2), r17, some (sD w.w3.2), some (sD w.fb), some (pD (dueR d0 ([w.w3.2, w.w2.2, w.mark].take i))), x, none, none] ∧ o = .no)
      ⟨none, rfl, rfl⟩ ?ow ?st ?fi (.inl rfl)) ?tail
  case qi => walk_at "ev"
  case ow => rintro i ρ o ⟨_, _, rfl⟩; rfl
  case fi =>
    rintro ρ o ⟨x, rfl, rfl⟩
    exact ⟨x, by rw [hdue]; rfl, rfl⟩
  case st =>
    rintro i d ρ o hd ⟨x, rfl, rfl⟩
    unfold sDs at hd
    rw [List.getElem?_map] at hd
    cases hl : [w.w3.2, w.w2.2, w.mark][i]? with
    | none => rw [hl] at hd; cases hd
    | some n =>
      rw [hl] at hd
      cases hd
      rw [List.take_add_one, hl]
      have e : dueR d0 ([w.w3.2, w.w2.2, w.mark].take i ++ (some n).toList) = if (n != tx "") = true then (n, tx "certain") else dueR d0 ([w.w3.2, w.w2.2, w.mark].take i) := by
        unfold dueR; rw [List.foldl_append]; rfl
      rw [e]
      generalize dueR d0 ([w.w3.2, w.w2.2, w.mark].take i) = D
      dsimp only [List.set]
      walk_at "if" <;> intro h0
      · rw [if_pos h0]
        refine' EX.set (d := pD (n, tx "certain")) S (EV.tupP ?g1 EV.cS) ?g2 OwnFree.no (EX.nil (EX.nil ⟨_, rfl, rfl⟩))
        case g1 => walk_at "ev"
        case g2 => walk_at "put"
      · rw [if_neg (by rw [h0]; exact Bool.false_ne_true)]
        exact EX.nil ⟨_, rfl, rfl⟩
  case tail =>
  rintro ρ o ⟨x, rfl, rfl⟩
  unfold LW.ok
  walk_at "if" <;> intro h0
  · rw [if_pos h0]
    walk_at "ret"
    rfl
  rw [if_neg (by rw [h0]; exact Bool.false_ne_true)]
  walk_at "set"
  change EX _ _ _ _ [_, _, _, _, _, _, _, _, _, _, _, _, _, _, _, _, _, _, _, _, _, _, some (sD hiddenM), _] _ _ _ _ _
  have hh : hiddenM.length ≤ 30 := by decide +kernel
  have h5 : md (dv w.d4 5) 5 < behM.length := md_lt _ (by decide)
  have hdig := l_digit_ok P (l := ns) (n := 4) hns
  rw [hd4] at hdig
  refine' EX.set S (EV.sub (b := nD (md (dv w.d4 5) 5)) (EV.conv (d := .list (sDs behM)) ?g1 rfl) ?g2 (itemDs h5 (by decide))) ?g3 OwnFree.no ?g4
  case g1 => unfold behM; walk_at "ev"
  case g2 => walk_at "ev"
  case g3 => walk_at "put"
  case g4 =>
  change EX _ _ _ _ [_, _, _, _, _, _, _, _, _, _, _, _, _, _, _, _, _, _, _, _, _, _, _, some (sD w.beh)] _ _ _ _ _
  obtain ⟨hb1, hb2⟩ := LW.Good.beh (w := w)
  have hoct : OpC c (.ref 255) 1 [sD w.beh] (bD (octs w.beh)) := l_octets_ok P hb1 (by omega)
  have hbl : (octs w.beh).length ≤ 100 := by unfold octs; rw [List.length_map]; exact hb2
  have hcl : (cutL (octs w.text) none (some w.lim)).length ≤ 2000 := Nat.le_trans (cutL_len _ _ _) hol
  refine' EX.set (d := bD w.octets2) S (EV.bin (EV.slice ?g1 EVp.no (EVp.yes ?g2) (cutB0 (by omega))) ?g3 (addB (by omega))) ?g4 OwnFree.no ?g5
  case g1 => walk_at "ev"
  case g2 => walk_at "ev"
  case g3 => walk_at "ev"
  case g4 => walk_at "put"
  case g5 =>
  have h2l : w.octets2.length ≤ 2100 := by
    unfold LW.octets2; rw [List.length_append]; omega
  obtain ⟨t, F⟩ := P.prescan_
  have hp1 := prescan1_ok P (l := w.octets2) (by omega)
  have hp2 := prescan_ok P (l := w.octets2) (lim := w.lim) (by omega)
  unfold LW.lim3
  walk_at "if" <;> intro h3
  · rw [if_pos h3]
    refine' EX.ret (EV.cmp (EV.callD S F ?m ?es hp1) ?g2 eqOO) rfl
    case m => walk_at "mem"
    case es => walk_at "evs"
    case g2 => walk_at "ev"
  rw [if_neg (by rw [h3]; exact Bool.false_ne_true)]
  refine' EX.ret (EV.cmp (EV.callD S F ?m ?es hp2) ?g2 eqOO) rfl
  case m => walk_at "mem"
  case es => walk_at "evs"
  case g2 => walk_at "ev"
-- NM
local macro_rules | `(tactic| walk_at "len") => `(tactic| with_reducible first | (refine' lenLS ?z; case z => walk_at "sz") | (refine' lenLP ?z; case z => walk_at "sz") | (refine' lenB ?z; case z => walk_at "sz") | (refine' lenS ?z; case z => walk_at "sz"))
local macro_rules | `(tactic| walk_at "fn") => `(tactic| with_reducible first
  | exact Pg.l_digit_ (by assumption) | exact Pg.l_prefix_ (by assumption) | exact Pg.l_piece_ (by assumption) | exact Pg.l_wish_ (by assumption) | exact Pg.l_found_ (by assumption) | exact Pg.l_octets_ (by assumption))
theorem swaps_comp {env : Env} {ns gs : List Str} (S : Sc env ns gs) {x : Str} (hx : x ∈ ns) {elt : Expr} {gens : List Comprehension} {scope : Scope} {pos lp : Pos} {line : Nat} (hl : (lp.line == pos.line) = true)
    (hn : (scope.names.any fun (n, k) => n == x && (k == .local || k == .cell)) = false) : swapsWith (.ListComp elt gens scope pos) (some (.Name x lp)) line env = pure true := by
  have h1 : (env.blockKind == ScopeKind.function) = true := by unfold Env.blockKind; rw [S.kind]; rfl
  have h2 : (env.kindOf x == some NameKind.local) = true := by rw [S.loc x hx]; rfl
  show (pure (env.blockKind == .function && env.kindOf x == some .local && lp.line == pos.line && !(scope.names.any fun (n, k) => n == x && (k == .local || k == .cell))) : Sem Bool) = pure true
  rw [h1, h2, hl, hn]
  rfl
set_option maxHeartbeats 4000000 in
theorem law_B {c : Cx} (P : Pg c) {env : Env} {w : LW} (H : w.Good) {X : Addr} {ns : List Int} (S : Sc env lawNs lawGs) (CV : CellV c env "script" X (.list (zD ns))) (hd2 : wishM (ns.getD 2 0) = w.w2) (hd3 : wishM (ns.getD 3 0) = w.w3) (hd4 : ns.getD 4 0 = w.d4) (hns : ns.length ≤ 1000)
    {r5 r6 r7 r8 r10 : Option Dat} :
    EX c 10 env lawNs [some (sD w.pf), some (sD w.mark), some (sD w.fi), some (sD w.la), some (.list (pDs w.ps)), r5, r6, r7, r8, some (nD w.way), r10, some (nD w.lim), some (sD w.pad), none, none, none, none, none, none, none, none, none, none, none] .no
      ((fnBody (stmtAt 38)).drop 10) (fun _ _ => Dat.bool w.ok = .none) (fun d' => d' = .bool w.ok) (fun _ _ => False) := by
  have hpf := H.pf.2
  obtain ⟨hta, htl⟩ := H.text
  have hpl := H.pad.2
  have hoct : OpC c (.ref 255) 1 [sD w.text] (bD (octs w.text)) := l_octets_ok P hta (by omega)
  obtain ⟨hf1, -⟩ := flat_len w.ps H.ps.2
  rw [H.ps.1] at hf1
  refine' EX.set (d := bD (octs w.text)) S (EV.call S P.l_octets_ ?m (EVs.cons (EV.conv (EV.bin (EV.bin ?g1 ?g2 (addS ?z1)) (EV.join' (ls := w.ps.map (·.1)) (L := (w.ps.map (·.1)).flatten) EV.cS tx0 ?qj rfl ?z2) (addS ?z3)) ?qe) EVs.nil) hoct) ?e2 ?e3 ?e4
  case m => walk_at "mem"
  case g1 => walk_at "ev"
  case g2 => walk_at "ev"
  case z1 => omega
  case z2 => omega
  case z3 => rw [List.length_append]; omega
  case qe => rfl
  case e2 => walk_at "put"
  case e3 => walk_at "own"
  case qj =>
    refine' EV.conv (EV.comp (ns' := ["text", "told"]) (f := fun d ρ => (ρ.set 0 (some (tupI d 0))).set 1 (some (tupI d 1))) (g := fun d => tupI d 0) (cl := []) (SRC.of (u := true) ?qi iterL) (fun d hd C => ?qt) (fun d hd C => ?qg) ?qz (.inl rfl) ?qc) ?qx
    case qi => walk_at "ev"
    case qt =>
      unfold pDs at hd
      obtain ⟨q, _, rfl⟩ := List.mem_map.mp hd
      exact TG.pair (sc_comp S (gs' := []) (by with_unfolding_all decide +kernel)) rfl rfl OwnFree.no OwnFree.no
    case qg =>
      unfold pDs at hd
      obtain ⟨q, _, rfl⟩ := List.mem_map.mp hd
      exact EV.nm (sc_comp S (gs' := []) (by with_unfolding_all decide +kernel)) At.head
    case qz => simp [pDs, H.ps.1]
    case qc => rfl
    case qx => simp [pDs, sDs, tupI, pD]
  case e4 =>
  have hfnd := l_found_ok P (first := w.fi) (last := w.la) (ps := w.ps) (place := w.pf.length + w.pad.length) (lim := w.lim) (whole := decide (w.pf.length ≤ w.lim)) (by rw [H.ps.1]; decide) (fun p hp => by have := (H.ps.2 p hp).2; omega)
  change OpC c (.ref 250) 1 _ (oD w.found) at hfnd
  walk_at "set"
  have hdg2 := l_digit_ok P (l := ns) (n := 2) hns
  have hdg3 := l_digit_ok P (l := ns) (n := 3) hns
  have hdg4 := l_digit_ok P (l := ns) (n := 4) hns
  have hw2 := l_wish_ok P (n := ns.getD 2 0)
  have hw3 := l_wish_ok P (n := ns.getD 3 0)
  rw [hd2] at hw2
  rw [hd3] at hw3
  rw [hd4] at hdg4
  walk_at "set2"
  walk_at "set2"
  walk_at "set"
  have hol : (octs w.text).length ≤ 16000000 := by unfold octs; rw [List.length_map]; omega
  obtain ⟨t, u, F⟩ := P.sniff_
  refine' EX.mid (fun ρ o => ρ = [some (sD w.pf), some (sD w.mark), some (sD w.fi), some (sD w.la), some (.list (pDs w.ps)), r5, r6, some (pD w.told), r8, some (nD w.way), r10, some (nD w.lim), some (sD w.pad), some (bD (octs w.text)), some (oD w.found), some (oD w.w2.1), some (sD w.w2.2), some (oD w.w3.1), some (sD w.w3.2), some (sD w.fb), none, none, none, none] ∧ o = .no)
    (EX1.if_ (b := [1, 2].contains w.way) ?t (fun h0 => ?a1) (fun h0 => ?a2)) ?tail
  case t => walk_at "tr"
  case a1 =>
    have hfb : w.fb = fbsM.getD (md w.d4 5) [] := by unfold LW.fb fbM; rw [if_pos h0]
    have h5 : md w.d4 5 < fbsM.length := md_lt _ (by decide)
    refine' EX.set (d := sD w.fb) S (EV.conv (EV.sub (b := nD (md w.d4 5)) (EV.conv (d := .list (sDs fbsM)) ?g1 rfl) ?g2 (itemDs h5 (by decide))) (by rw [hfb])) ?g3 OwnFree.no ?g4
    case g1 => unfold fbsM; walk_at "ev"
    case g2 => walk_at "ev"
    case g3 => walk_at "put"
    case g4 =>
    have hsn := sniff_ok P (l := octs w.text) (ov := w.w2.1) (tr := w.w3.1) (lim := w.lim) (fb := w.fb) hol H.w2 H.w3
    have htold : sniffM (octs w.text) w.w2.1 w.w3.1 w.lim w.fb = pD w.told := by rw [sniffM_eq]; unfold LW.told LW.lim2; rw [if_pos h0]
    rw [htold] at hsn
    refine' EX.set (d := pD w.told) S (EV.callD S F ?m ?es hsn) ?k2 OwnFree.no (EX.nil ⟨rfl, rfl⟩)
    case m => walk_at "mem"
    case es => walk_at "evs"
    case k2 => walk_at "put"
  case a2 =>
    have hfb : w.fb = tx "windows-1252" := by unfold LW.fb fbM; rw [if_neg (by rw [h0]; exact Bool.false_ne_true)]
    have hsn := sniff3_ok P (l := octs w.text) (ov := w.w2.1) (tr := w.w3.1) hol H.w2 H.w3
    have htold : sniffM (octs w.text) w.w2.1 w.w3.1 1024 (tx "windows-1252") = pD w.told := by rw [sniffM_eq]; unfold LW.told LW.lim2; rw [hfb, if_neg (by rw [h0]; exact Bool.false_ne_true)]
    rw [htold] at hsn
    refine' EX.set (d := pD w.told) S (EV.callD S F ?m ?es hsn) ?k2 OwnFree.no (EX.nil ⟨by rw [hfb], rfl⟩)
    case m => walk_at "mem"
    case es => walk_at "evs"
    case k2 => walk_at "put"
  case tail =>
    rintro ρ o ⟨rfl, rfl⟩
    exact law_C P H S CV hd4 hns
set_option maxHeartbeats 4000000 in
theorem law_A {c : Cx} (P : Pg c) {env : Env} {X : Addr} {ns : List Int} (S : Sc env lawNs lawGs) (CV : CellV c env "script" X (.list (zD ns))) (hns : ns.length ≤ 1000) :
    EX c 10 env lawNs [none, none, none, none, none, none, none, none, none, none, none, none, none, none, none, none, none, none, none, none, none, none, none, none] .no
      (fnBody (stmtAt 38)) (fun _ _ => Dat.bool (lawM ns) = .none) (fun d' => d' = .bool (lawM ns)) (fun _ _ => False) := by
  unfold lawM
  have H := lw_good ns
  generalize hw : lwM ns = w at H
  have hd2 : wishM (ns.getD 2 0) = w.w2 := by rw [← hw]; rfl
  have hd3 : wishM (ns.getD 3 0) = w.w3 := by rw [← hw]; rfl
  have hd4 : ns.getD 4 0 = w.d4 := by rw [← hw]; rfl
  have hpx : prefixM (ns.getD 0 0) = [w.pf, w.mark, w.fi, w.la] := by rw [← hw]; exact prefixM_four _
  have hps : psM ns = w.ps := by rw [← hw]; rfl
  have hrest : dv (ns.getD 1 0) 4 = w.rest := by rw [← hw]; rfl
  have hway : md (ns.getD 1 0) 4 = w.way := by rw [← hw]; rfl
  clear hw
  have hdg0 := l_digit_ok P (l := ns) (n := 0) hns
  have hdg1 := l_digit_ok P (l := ns) (n := 1) hns
  have hpre := l_prefix_ok P (n := ns.getD 0 0)
  rw [hpx] at hpre
  obtain ⟨hpfa, hpf⟩ := H.pf
  obtain ⟨hpsl, hps2⟩ := H.ps
  refine' EX.cons (EX1.assignT (d := .tuple (sDs [w.pf, w.mark, w.fi, w.la])) (f := fun ρ => (((ρ.set 0 (some (sD w.pf))).set 1 (some (sD w.mark))).set 2 (some (sD w.fi))).set 3 (some (sD w.la))) ?qv (TG.tuple (TGs.cons (TG.name S 0 rfl OwnFree.no) (TGs.cons (TG.name S 1 rfl OwnFree.no) (TGs.cons (TG.name S 2 rfl OwnFree.no) (TGs.cons (TG.name S 3 rfl OwnFree.no) TGs.nil))))) ?qn)
  case qv => walk_at "ev"
  case qn =>
  dsimp only [List.set]
  refine' EX.cons (EX1.assignComp (ns' := ["k"]) (f := fun d ρ => ρ.set 0 (some d)) (g := fun d => pD (pieceM ns (5 + 4 * toN d) (toN d))) (cl := [("script", X)]) S 4 rfl OwnFree.no (SRC.range (n := 3) S ?qm P.bRange ?qi (by omega)) (fun d hd C => TG.name (sc_comp S (gs' := ["_law_piece"]) ?qs) 0 rfl OwnFree.no) (fun d hd C => ?qg) ?qz2 (.inr fun _ _ => rfl) (clos_one CV.at_ rfl ?qc) ?qx (swaps_comp S ?qw1 ?qw2 ?qw3))
  case qm => walk_at "mem"
  case qi => walk_at "ev"
  case qw1 => walk_at "mem"
  case qw2 => rfl
  case qw3 => with_unfolding_all decide +kernel
  case qs => with_unfolding_all decide +kernel
  case qz2 => decide
  case qc => rfl
  case qg =>
    unfold rgD at hd
    obtain ⟨i, hi, rfl⟩ := List.mem_map.mp hd
    have e : toN (nD i) = i := by simp [toN]
    simp only [e]
    have hp := l_piece_ok P (ns := ns) (at_ := 5 + 4 * i) (nth := i) hns
    refine' EV.call (sc_comp S (gs' := ["_law_piece"]) ?qs2) P.l_piece_ ?qm2 (EVs.cons (EV.cellv (CV.comp ?qk ?qn2 ?ql)) (EVs.cons (EV.bin EV.cN (EV.bin EV.cN (EV.nm (sc_comp S (gs' := []) ?qs3) ?qa) (mulN (IntMulOk.of_left (by decide)))) addN) (EVs.cons (EV.nm (sc_comp S (gs' := []) ?qs4) ?qa2) EVs.nil))) hp
    case qs2 => with_unfolding_all decide +kernel
    case qs3 => with_unfolding_all decide +kernel
    case qs4 => with_unfolding_all decide +kernel
    case qm2 => walk_at "mem"
    case qk => rfl
    case qn2 => with_unfolding_all decide +kernel
    case ql => rfl
    case qa => exact At.head
    case qa2 => exact At.head
  case qx =>
  have hpd : Dat.list ((rgD 3).map fun d => pD (pieceM ns (5 + 4 * toN d) (toN d))) = .list (pDs w.ps) := by rw [← hps]; rfl
  rw [hpd]
  dsimp only [List.set]
  refine' EX.cons (EX1.assignOwn (ds := nI [w.pf.length]) S 5 rfl rfl ?qe (Nat.le_of_ble_eq_true rfl) fun a => ?_)
  case qe => walk_at "evsn"
  refine' EX.mid (fun ρ o => ∃ x y, ρ = [some (sD w.pf), some (sD w.mark), some (sD w.fi), some (sD w.la), some (.list (pDs w.ps)), none, x, y, none, none, none, none, none, none, none, none, none, none, none, none, none, none, none, none] ∧ o = .lst 5 a (nI w.E))
    (EX1.for_ (items := pDs w.ps) (f := fun d ρ => (ρ.set 6 (some (tupI d 0))).set 7 (some (tupI d 1))) (SRC.of (u := true) ?qi iterL) (fun d hd => ?qt)
      (fun i ρ o => ∃ x y, ρ = [some (sD w.pf), some (sD w.mark), some (sD w.fi), some (sD w.la), some (.list (pDs w.ps)), none, x, y, none, none, none, none, none, none, none, none, none, none, none, none, none, none, none, none] ∧ o = .lst 5 a (nI ((List.range (i + 1)).map (eAt w.pf.length w.ps))))
      ⟨none, none, rfl, rfl⟩ ?ow ?st ?fi (.inl rfl)) ?tail
  case qi => walk_at "ev"
  case qt =>
    unfold pDs at hd
    obtain ⟨q, _, rfl⟩ := List.mem_map.mp hd
    exact TG.pair S rfl rfl (OwnFree.ne (by decide)) (OwnFree.ne (by decide))
  case ow => rintro i ρ o ⟨_, _, _, rfl⟩; rfl
  case fi =>
    rintro ρ o ⟨x, y, rfl, rfl⟩
    refine ⟨x, y, rfl, ?_⟩
    rw [show (pDs w.ps).length = 3 by simp [pDs, hpsl]]
    rfl
  case st =>
    rintro i d ρ o hd ⟨x, y, rfl, rfl⟩
    obtain ⟨q, hq, rfl⟩ := pDs_get hd
    have hql := (hps2 q (List.mem_of_getElem? hq)).2
    have hi : i < 3 := by rw [← hpsl]; exact (List.getElem?_eq_some_iff.mp hq).1
    change EX _ _ _ _ [_, _, _, _, _, _, some (sD q.1), some (sD q.2), _, _, _, _, _, _, _, _, _, _, _, _, _, _, _, _] _ _ _ _ _
    have hlen : (nI ((List.range (i + 1)).map (eAt w.pf.length w.ps))).length = i + 1 := by simp [nI]
    refine' EX.cons (EX1.append (d := nD (eAt w.pf.length w.ps (i + 1))) S rfl (EV.frz S rfl (EV.conv (EV.bin (a := nD (eAt w.pf.length w.ps i)) (EV.sub (b := .int (-1)) ?g1 (EV.conv (EV.un EV.cN negI) rfl) (itemLneg ?g2 ?g3 ?g4)) ?g5 addN) ?g6)) ?g7 (EX.nil ⟨_, _, rfl, ?g8⟩))
    case g1 => dsimp only [List.set]; walk_at "ev"
    case g2 => rw [hlen]; simp [nI]
    case g3 => omega
    case g4 => omega
    case g5 => dsimp only [List.set]; walk_at "ev"
    case g6 => rw [eAt_succ hq]
    case g7 => omega
    case g8 =>
      rw [show [nD (eAt w.pf.length w.ps (i + 1))] = nI [eAt w.pf.length w.ps (i + 1)] from rfl, nI_app, List.range_succ (n := i + 1), List.map_append]
      rfl
  case tail =>
  rintro ρ o ⟨x, y, rfl, rfl⟩
  refine' EX.frz S ?_
  dsimp only [List.set]
  obtain ⟨hE1, hE2⟩ := H.E
  have hwl := H.way
  obtain ⟨hed1, hed2⟩ := H.edge
  walk_at "set"
  walk_at "set"
  rw [hrest, hway]
  have hm4 : md w.rest 4 < w.E.length := by rw [hE2]; exact md_lt _ (by decide)
  have hz4 : w.E.length ≤ 16777216 := by omega
  have h3E : 3 < w.E.length := by omega
  refine' EX.set (d := .int (edgeM w.E w.rest)) S (EV.bin ?g1 ?g2 subI) ?g3 OwnFree.no ?g4
  case g1 => walk_at "ev"
  case g2 => walk_at "ev"
  case g3 => walk_at "put"
  case g4 =>
  refine' EX.set (d := nD w.lim) S (EV.sub (b := nD w.way) (EV.conv (EV.lst (EVs.cons ?g1 (EVs.cons ?g2 (EVs.cons (EV.callB S ?g3 P.bMax (EVs.cons ?g4 (EVs.cons EV.cInt EVs.nil)) maxI) (EVs.cons EV.cN EVs.nil)))) ?g5) ?g6) ?g7 (itemNI (l := [w.E.getD 3 0, md w.rest (w.E.getD 3 0 + 1), (edgeM w.E w.rest).toNat, 1024]) hwl (Nat.le_of_ble_eq_true rfl))) ?g8 OwnFree.no ?g9
  case g1 => walk_at "ev"
  case g2 => walk_at "ev"
  case g3 => walk_at "mem"
  case g4 => walk_at "ev"
  case g5 => exact Nat.le_of_ble_eq_true rfl
  case g6 =>
    have : max (edgeM w.E w.rest) 0 = ((edgeM w.E w.rest).toNat : Int) := by omega
    rw [this]
    rfl
  case g7 => walk_at "ev"
  case g8 => walk_at "put"
  case g9 =>
  walk_at "set"
  refine' EX.setIfS (u := tx "<!--" ++ List.replicate (1017 - edgeM w.E w.rest).toNat 46 ++ tx "-->") S ?e1 ?e2 (fun _ => EV.bin (EV.bin EV.cS (EV.bin (EV.conv EV.cS ?q1) (EV.bin EV.cN ?q2 subI) (mulDot ?q3 ?q4)) (addS ?q5)) EV.cS (addS ?q6)) ?e4 OwnFree.no ?e6
  case e1 => walk_at "tr"
  case e2 => walk_at "at"
  case q1 => rw [show tx "." = [46] by decide +kernel]
  case q2 => walk_at "ev"
  case q3 => show (1017 : Int) - _ ≤ _; omega
  case q4 => show _ ≤ (1017 : Int) - _; omega
  case q5 =>
    rw [List.length_replicate, show (tx "<!--").length = 4 by decide +kernel]
    show 4 + ((1017 : Int) - _).toNat ≤ _; omega
  case q6 =>
    rw [List.length_append, List.length_replicate, show (tx "<!--").length = 4 by decide +kernel, show (tx "-->").length = 3 by decide +kernel]
    show 4 + ((1017 : Int) - _).toNat + 3 ≤ _; omega
  case e4 => walk_at "put"
  case e6 =>
  exact law_B P H S CV hd2 hd3 hd4 hns
theorem law_ok {c : Cx} (P : Pg c) {fa : Addr} (F : Fn c 38 "law" fa) {ns : List Int} (hns : ns.length ≤ 1000) : OpC c (.ref fa) 11 [.list (zD ns)] (.bool (lawM ns)) := by
  refine Fn.okC (p0 := "script") (ps := []) (os := lawNs) (gs := lawGs) F (by decide +kernel) (fun pm cd v => vs0 (rfl)) rfl (fun env K X S CV => ?_)
  dsimp only [List.cons_append, List.nil_append, List.map] at S ⊢
  exact law_A (P.at K) S CV hns
section
/-! the scan, read off the rest of the text in place of positions -/
noncomputable abbrev gs : Nat → Bool := (gapT.contains ·)
noncomputable abbrev gsl : Nat → Bool := ((gapT ++ [47]).contains ·)
noncomputable abbrev nmS : Nat → Bool := fun x => !(gapT ++ [47, 61, 62]).contains x
noncomputable abbrev g62 : Nat → Bool := fun x => !(gapT ++ [62]).contains x
noncomputable abbrev n62 : Nat → Bool := fun x => !([62] : List Nat).contains x
structure Ps (l : List Nat) (a : Nat) (s : List Nat) : Prop where
  le : a ≤ l.length
  eq : l.drop a = s
theorem Ps.len {l s : List Nat} {a : Nat} (h : Ps l a s) : a + s.length = l.length := by
  rw [← h.eq, List.length_drop]; have := h.le; omega
theorem Ps.cons {l s : List Nat} {a c : Nat} (h : Ps l a (c :: s)) : a < l.length ∧ l.getD a 0 = c ∧ Ps l (a + 1) s := by
  have hl := h.len
  rw [List.length_cons] at hl
  have ha : a < l.length := by omega
  have e := h.eq
  rw [List.drop_eq_getElem_cons ha] at e
  injection e with e1 e2
  exact ⟨ha, by rw [List.getD_eq_getElem?_getD, List.getElem?_eq_getElem ha, e1]; rfl, ⟨by omega, e2⟩⟩
theorem Ps.nil {l : List Nat} {a : Nat} (h : Ps l a []) : a = l.length := by have := h.len; simpa using this
theorem Ps.at {l s : List Nat} {a : Nat} (h : Ps l a s) (n : Nat) (hn : n ≤ s.length) : Ps l (a + n) (s.drop n) := by
  have := h.len
  exact ⟨by omega, by rw [← h.eq, List.drop_drop]⟩
theorem drop_tw (p : Nat → Bool) : ∀ s : List Nat, s.drop (s.takeWhile p).length = s.dropWhile p
  | [] => rfl
  | c :: s => by
    rw [List.takeWhile_cons, List.dropWhile_cons]
    split
    · rw [List.length_cons, List.drop_succ_cons]; exact drop_tw p s
    · rfl
theorem take_tw (p : Nat → Bool) : ∀ s : List Nat, s.take (s.takeWhile p).length = s.takeWhile p
  | [] => rfl
  | c :: s => by
    rw [List.takeWhile_cons]
    split
    · rw [List.length_cons, List.take_succ_cons, take_tw p s]
    · rfl
theorem tw_le (p : Nat → Bool) (s : List Nat) : (s.takeWhile p).length ≤ s.length := (List.takeWhile_sublist p).length_le
theorem dw_le (p : Nat → Bool) (s : List Nat) : (s.dropWhile p).length ≤ s.length := (List.dropWhile_sublist p).length_le
theorem Ps.run {l s : List Nat} {a : Nat} (h : Ps l a s) (p : Nat → Bool) : Ps l (run p l a) (s.dropWhile p) := by
  unfold Mine.run
  rw [h.eq, ← drop_tw]
  exact h.at _ (tw_le p s)
theorem Ps.cut {l s : List Nat} {a b : Nat} (h : Ps l a s) : cutL l (some a) (some b) = s.take (b - a) := by
  unfold cutL
  simp only [Option.getD_some]
  rw [h.eq]
theorem Ps.cutw {l s : List Nat} {a : Nat} (h : Ps l a s) (p : Nat → Bool) : cutL l (some a) (some (Mine.run p l a)) = s.takeWhile p := by
  rw [h.cut]
  unfold Mine.run
  rw [h.eq, Nat.add_sub_cancel_left, take_tw]
noncomputable def attC (s : List Nat) : Option (List Nat × List Nat × List Nat) :=
  match s with
  | [] => none
  | c :: s2 => if c == 62 then none else
    match (s2.dropWhile nmS).dropWhile gs with
    | [] => none
    | e :: s5 => if e != 61 then some ((c :: s2.takeWhile nmS).map lo1, [], e :: s5) else
      match s5.dropWhile gs with
      | [] => none
      | q :: s7 => if [34, 39].contains q then
          (match s7.dropWhile (fun x => ![q].contains x) with
           | [] => none
           | _ :: s8 => some ((c :: s2.takeWhile nmS).map lo1, (s7.takeWhile (fun x => ![q].contains x)).map lo1, s8))
        else (match (q :: s7).dropWhile g62 with
           | [] => none
           | t :: s8 => some ((c :: s2.takeWhile nmS).map lo1, ((q :: s7).takeWhile g62).map lo1, t :: s8))
noncomputable def attS (s : List Nat) : Option (List Nat × List Nat × List Nat) := attC (s.dropWhile gsl)
theorem att_ps {l s : List Nat} {i : Nat} (h : Ps l i s) : match attS s with
    | none => getA l i = none
    | some (n, v, r) => ∃ a, getA l i = some (n, v, a) ∧ Ps l a r ∧ r.length < s.length := by
  unfold attS getA
  have h1 := h.run gsl
  have hs1 := dw_le gsl s
  generalize s.dropWhile gsl = s1 at h1 hs1
  generalize hA : Mine.run gsl l i = A at h1
  have hA' : Mine.run ((gapT ++ [47]).contains ·) l i = A := hA
  try rw [hA']
  cases s1 with
  | nil =>
    have := h1.nil
    show (if _ then _ else _) = none
    rw [if_pos (by rw [this]; simp)]
  | cons c s2 =>
    obtain ⟨k1, k2, k3⟩ := h1.cons
    rw [k2]
    unfold attC
    dsimp only
    have hd : decide (l.length ≤ A) = false := decide_eq_false (by omega)
    rw [hd, Bool.false_or]
    cases hc : (c == 62) with
    | true => rfl
    | false =>
    simp only [Bool.false_eq_true, if_false]
    have h3 := k3.run nmS
    have hcut := Ps.cut (b := Mine.run nmS l (A + 1)) h1
    have hnm : cutL l (some A) (some (Mine.run nmS l (A + 1))) = c :: s2.takeWhile nmS := by
      rw [hcut]
      unfold Mine.run
      rw [k3.eq, show A + 1 + (s2.takeWhile nmS).length - A = (s2.takeWhile nmS).length + 1 by omega, List.take_succ_cons, take_tw]
    have hnm' : cutL l (some A) (some (Mine.run (fun x => !(gapT ++ [47, 61, 62]).contains x) l (A + 1))) = c :: s2.takeWhile nmS := hnm
    rw [hnm']
    have h4 := h3.run gs
    have hs4 : ((s2.dropWhile nmS).dropWhile gs).length ≤ s2.length := Nat.le_trans (dw_le _ _) (dw_le _ _)
    generalize (s2.dropWhile nmS).dropWhile gs = s4 at h4 hs4
    generalize hB : Mine.run gs l (Mine.run nmS l (A + 1)) = B at h4
    have hB' : Mine.run (gapT.contains ·) l (Mine.run (fun x => !(gapT ++ [47, 61, 62]).contains x) l (A + 1)) = B := hB
    try rw [hB']
    cases s4 with
    | nil =>
      have := h4.nil
      dsimp only
      rw [if_pos (by rw [this]; simp)]
    | cons e s5 =>
      obtain ⟨m1, m2, m3⟩ := h4.cons
      rw [m2]
      dsimp only
      have hd2 : decide (l.length ≤ B) = false := decide_eq_false (by omega)
      rw [hd2]
      simp only [Bool.false_eq_true, if_false]
      cases he : (e != 61) with
      | true =>
        simp only [if_true]
        exact ⟨B, rfl, h4, by simp only [List.length_cons] at hs1 hs4 ⊢; omega⟩
      | false =>
      simp only [Bool.false_eq_true, if_false]
      have h6 := m3.run gs
      have hs6 : (s5.dropWhile gs).length ≤ s5.length := dw_le _ _
      generalize s5.dropWhile gs = s6 at h6 hs6
      generalize hC : Mine.run gs l (B + 1) = C at h6
      have hC' : Mine.run (gapT.contains ·) l (B + 1) = C := hC
      try rw [hC']
      cases s6 with
      | nil =>
        have := h6.nil
        dsimp only
        rw [if_pos (by rw [this]; simp)]
      | cons q s7 =>
        obtain ⟨n1, n2, n3⟩ := h6.cons
        rw [n2]
        dsimp only
        have hd3 : decide (l.length ≤ C) = false := decide_eq_false (by omega)
        rw [hd3]
        simp only [Bool.false_eq_true, if_false]
        cases hq : [34, 39].contains q with
        | true =>
          simp only [if_true]
          have h7 := n3.run (fun x => ![q].contains x)
          have hs8 : (s7.dropWhile (fun x => ![q].contains x)).length ≤ s7.length := dw_le _ _
          have hcv : cutL l (some (C + 1)) (some (Mine.run (fun x => ![q].contains x) l (C + 1))) = s7.takeWhile (fun x => ![q].contains x) := n3.cutw _
          rw [hcv]
          generalize s7.dropWhile (fun x => ![q].contains x) = s8 at h7 hs8
          generalize Mine.run (fun x => ![q].contains x) l (C + 1) = D at h7
          cases s8 with
          | nil =>
            have := h7.nil
            dsimp only
            rw [if_pos (by rw [this]; simp)]
          | cons z s8 =>
            obtain ⟨o1, o2, o3⟩ := h7.cons
            dsimp only
            have hd4 : decide (l.length ≤ D) = false := decide_eq_false (by omega)
            rw [hd4]
            simp only [Bool.false_eq_true, if_false]
            exact ⟨D + 1, rfl, o3, by simp only [List.length_cons] at hs1 hs4 hs6 hs8 ⊢; omega⟩
        | false =>
          simp only [Bool.false_eq_true, if_false]
          have h7 := h6.run g62
          have hs8 : ((q :: s7).dropWhile g62).length ≤ (q :: s7).length := dw_le _ _
          have hcv : cutL l (some C) (some (Mine.run (fun x => !(gapT ++ [62]).contains x) l C)) = (q :: s7).takeWhile g62 := h6.cutw _
          rw [hcv]
          generalize (q :: s7).dropWhile g62 = s8 at h7 hs8
          generalize hD : Mine.run g62 l C = D at h7
          have hD' : Mine.run (fun x => !(gapT ++ [62]).contains x) l C = D := hD
          try rw [hD']
          cases s8 with
          | nil =>
            have := h7.nil
            dsimp only
            rw [if_pos (by rw [this]; simp)]
          | cons z s8 =>
            obtain ⟨o1, o2, o3⟩ := h7.cons
            dsimp only
            have hd4 : decide (l.length ≤ D) = false := decide_eq_false (by omega)
            rw [hd4]
            simp only [Bool.false_eq_true, if_false]
            exact ⟨D, rfl, h7, by simp only [List.length_cons] at hs1 hs4 hs6 hs8 ⊢; omega⟩
theorem att_none {l s : List Nat} {i : Nat} (h : Ps l i s) (e : attS s = none) : getA l i = none := by
  have := att_ps h; rw [e] at this; exact this
theorem att_some {l s n v r : List Nat} {i : Nat} (h : Ps l i s) (e : attS s = some (n, v, r)) : ∃ a, getA l i = some (n, v, a) ∧ Ps l a r ∧ r.length < s.length := by
  have := att_ps h; rw [e] at this; exact this
theorem att_lt {s n v r : List Nat} (e : attS s = some (n, v, r)) : r.length < s.length :=
  let ⟨_, _, _, h⟩ := att_some (l := s) (i := 0) ⟨Nat.zero_le _, rfl⟩ e; h
noncomputable def tagT (s : List Nat) : List Nat := match s.dropWhile gsl with
  | [] => []
  | c :: r => if c == 62 then c :: r else []
theorem tag_ps {l s : List Nat} {i : Nat} (h : Ps l i s) : Ps l (tagE l i) (tagT s) := by
  unfold tagE tagT
  have h1 := h.run gsl
  generalize s.dropWhile gsl = s1 at h1
  generalize hA : Mine.run gsl l i = A at h1
  have hA' : Mine.run ((gapT ++ [47]).contains ·) l i = A := hA
  try rw [hA']
  have hend : Ps l l.length [] := ⟨Nat.le_refl _, List.drop_length ..⟩
  cases s1 with
  | nil =>
    have := h1.nil
    rw [if_neg (by rw [this]; simp)]
    exact hend
  | cons c r =>
    obtain ⟨k1, k2, k3⟩ := h1.cons
    rw [k2]
    have hd : decide (A < l.length) = true := decide_eq_true k1
    rw [hd, Bool.true_and]
    dsimp only
    cases hc : (c == 62) with
    | true => simp only [if_true]; exact h1
    | false => simp only [Bool.false_eq_true, if_false]; exact hend
theorem tagT_len (s : List Nat) : (tagT s).length ≤ s.length := by
  unfold tagT
  have := dw_le gsl s
  generalize s.dropWhile gsl = t at this
  cases t with
  | nil => exact Nat.zero_le _
  | cons c r =>
    dsimp only
    split
    · exact this
    · exact Nat.zero_le _
noncomputable def metaRS : Nat → MS → List Nat → MS × List Nat
  | 0, st, s => (st, s)
  | f + 1, st, s => match attS s with
    | none => (st, s)
    | some (n, v, r) => metaRS f (metaStep st n v) r
theorem metaRS_none {f : Nat} {st : MS} {s : List Nat} (h : attS s = none) : metaRS f st s = (st, s) := by
  cases f with
  | zero => rfl
  | succ f => unfold metaRS; rw [h]
theorem metaRS_some {f : Nat} {st : MS} {s n v r : List Nat} (h : attS s = some (n, v, r)) : metaRS (f + 1) st s = metaRS f (metaStep st n v) r := by
  rw [metaRS]; rw [h]
theorem metaR_ps {l : List Nat} : ∀ (f : Nat) (st : MS) (i : Nat) (s : List Nat), Ps l i s → (metaR l f st i).1 = (metaRS f st s).1 ∧ Ps l (metaR l f st i).2 (metaRS f st s).2
  | 0, st, i, s, h => ⟨rfl, h⟩
  | f + 1, st, i, s, h => by
    cases e : attS s with
    | none => rw [metaR_none (att_none h e), metaRS_none e]; exact ⟨rfl, h⟩
    | some t =>
      obtain ⟨n, v, r⟩ := t
      obtain ⟨a, e1, e2, _⟩ := att_some h e
      rw [metaR_some e1, metaRS_some e]
      exact metaR_ps f _ a r e2
theorem metaRS_fuel : ∀ (n : Nat) (st : MS) (s : List Nat) (f g : Nat), s.length ≤ n → s.length ≤ f → s.length ≤ g → metaRS f st s = metaRS g st s
  | 0, st, s, f, g, hn, _, _ => by
    have : s = [] := List.eq_nil_of_length_eq_zero (by omega)
    subst this
    rw [metaRS_none (by rfl), metaRS_none (by rfl)]
  | n + 1, st, s, f, g, hn, hf, hg => by
    cases e : attS s with
    | none => rw [metaRS_none e, metaRS_none e]
    | some t =>
      obtain ⟨m, v, r⟩ := t
      have hr := att_lt e
      obtain ⟨f, rfl⟩ : ∃ f', f = f' + 1 := ⟨f - 1, by omega⟩
      obtain ⟨g, rfl⟩ : ∃ g', g = g' + 1 := ⟨g - 1, by omega⟩
      rw [metaRS_some e, metaRS_some e]
      exact metaRS_fuel n _ r f g (by omega) (by omega) (by omega)
theorem metaRS_len : ∀ (f : Nat) (st : MS) (s : List Nat), (metaRS f st s).2.length ≤ s.length
  | 0, st, s => Nat.le_refl _
  | f + 1, st, s => by
    cases e : attS s with
    | none => rw [metaRS_none e]; exact Nat.le_refl _
    | some t =>
      obtain ⟨m, v, r⟩ := t
      have hr := att_lt e
      rw [metaRS_some e]
      exact Nat.le_trans (metaRS_len f _ r) (by omega)
noncomputable def st0 : MS := ⟨[], false, none, none⟩
noncomputable def finS (st : MS) (t : List Nat) : Option (List Nat) :=
  if (t.isEmpty || (st.np.isNone || (st.cs == some (tx "") || (st.np == some true && !st.hp)))) = true then none else metaCs st
noncomputable def readS (s : List Nat) : Option (List Nat) × List Nat := (finS (metaRS s.length st0 s).1 (tagT (metaRS s.length st0 s).2), tagT (metaRS s.length st0 s).2)
theorem read_ps {l s : List Nat} {i : Nat} (h : Ps l i s) : (readM l i).1 = (readS s).1 ∧ Ps l (readM l i).2 (readS s).2 := by
  have hl := h.len
  obtain ⟨h1, h2⟩ := metaR_ps l.length st0 i s h
  rw [metaRS_fuel s.length st0 s l.length s.length (Nat.le_refl _) (by omega) (Nat.le_refl _)] at h1 h2
  have h3 := tag_ps h2
  unfold readM readS metaFin finS
  change ((if _ then _ else _ : Option (List Nat) × Nat).1 = _ ∧ Ps l (if _ then _ else _ : Option (List Nat) × Nat).2 _)
  have e1 : (metaR l l.length ⟨[], false, none, none⟩ i).1 = (metaRS s.length st0 s).1 := h1
  rw [e1]
  change Ps l (tagE l (metaR l l.length ⟨[], false, none, none⟩ i).2) _ at h3
  generalize tagE l (metaR l l.length ⟨[], false, none, none⟩ i).2 = E at h3
  generalize tagT (metaRS s.length st0 s).2 = t at h3
  generalize (metaRS s.length st0 s).1 = st
  have e2 : (E == l.length) = t.isEmpty := by
    have := h3.len
    cases t with
    | nil => simp at this; simp [this]
    | cons c r =>
      rw [List.length_cons] at this
      have : ¬ E = l.length := by omega
      simp [this]
  rw [e2]
  split
  · exact ⟨rfl, h3⟩
  · exact ⟨rfl, h3⟩
end
section
noncomputable def comS : List Nat → List Nat
  | x :: y :: z :: r => if ([x, y, z] != [45, 45, 62]) = true then comS (y :: z :: r) else z :: r
  | _ => []
theorem comS_three (x y z : Nat) (r : List Nat) : comS (x :: y :: z :: r) = if ([x, y, z] != [45, 45, 62]) = true then comS (y :: z :: r) else z :: r := by rw [comS]
theorem com_ps {l : List Nat} : ∀ (f a : Nat) (t : List Nat), 2 ≤ a → a ≤ l.length → l.length ≤ f + a → Ps l (a - 2) t → Ps l (comE l f a) (comS t)
  | f, a, [], h2, hl, hf, h => by have := h.len; simp at this; omega
  | f, a, [x], h2, hl, hf, h => by have := h.len; simp at this; omega
  | f, a, [x, y], h2, hl, hf, h => by
    have := h.len
    simp only [List.length_cons, List.length_nil] at this
    have ha : a = l.length := by omega
    have e : comE l f a = a := by
      cases f with
      | zero => rfl
      | succ f => rw [comE_succ, if_neg (by rw [ha]; simp)]
    rw [e, ha]
    exact ⟨Nat.le_refl _, List.drop_length ..⟩
  | f, a, x :: y :: z :: r, h2, hl, hf, h => by
    have hlen := h.len
    simp only [List.length_cons] at hlen
    obtain ⟨f, rfl⟩ : ∃ f', f = f' + 1 := ⟨f - 1, by omega⟩
    have hcut : cutL l (some (a - 2)) (some (a + 1)) = [x, y, z] := by
      rw [h.cut, show a + 1 - (a - 2) = 3 by omega]; rfl
    rw [comE_succ, hcut, comS_three]
    have hd : decide (a < l.length) = true := decide_eq_true (by omega)
    rw [hd, Bool.true_and]
    have h1 := h.cons.2.2
    cases hc : ([x, y, z] != [45, 45, 62]) with
    | true =>
      simp only [if_true]
      refine com_ps f (a + 1) (y :: z :: r) (by omega) (by omega) (by omega) ?_
      rw [show a + 1 - 2 = a - 2 + 1 by omega]
      exact h1
    | false =>
      simp only [Bool.false_eq_true, if_false]
      have h3 := h1.cons.2.2
      rw [show a - 2 + 1 + 1 = a by omega] at h3
      exact h3
theorem comS_len : ∀ t : List Nat, (comS t).length ≤ t.length
  | [] => Nat.le_refl _
  | [_] => Nat.zero_le _
  | [_, _] => Nat.zero_le _
  | x :: y :: z :: r => by
    rw [comS_three]
    split
    · exact Nat.le_trans (comS_len (y :: z :: r)) (Nat.le_succ _)
    · simp only [List.length_cons]; omega
noncomputable def passRS : Nat → List Nat → List Nat
  | 0, s => s
  | f + 1, s => match attS s with
    | none => s
    | some t => passRS f t.2.2
theorem passRS_none {f : Nat} {s : List Nat} (h : attS s = none) : passRS f s = s := by
  cases f with
  | zero => rfl
  | succ f => unfold passRS; rw [h]
theorem passRS_some {f : Nat} {s n v r : List Nat} (h : attS s = some (n, v, r)) : passRS (f + 1) s = passRS f r := by
  rw [passRS]; rw [h]
theorem passR_ps {l : List Nat} : ∀ (f i : Nat) (s : List Nat), Ps l i s → Ps l (passR l f i) (passRS f s)
  | 0, i, s, h => h
  | f + 1, i, s, h => by
    cases e : attS s with
    | none => rw [passR_none (att_none h e), passRS_none e]; exact h
    | some t =>
      obtain ⟨n, v, r⟩ := t
      obtain ⟨a, e1, e2, _⟩ := att_some h e
      rw [passR_some e1, passRS_some e]
      exact passR_ps f a r e2
theorem passRS_fuel : ∀ (n : Nat) (s : List Nat) (f g : Nat), s.length ≤ n → s.length ≤ f → s.length ≤ g → passRS f s = passRS g s
  | 0, s, f, g, hn, _, _ => by
    have : s = [] := List.eq_nil_of_length_eq_zero (by omega)
    subst this
    rw [passRS_none (by rfl), passRS_none (by rfl)]
  | n + 1, s, f, g, hn, hf, hg => by
    cases e : attS s with
    | none => rw [passRS_none e, passRS_none e]
    | some t =>
      obtain ⟨m, v, r⟩ := t
      have hr := att_lt e
      obtain ⟨f, rfl⟩ : ∃ f', f = f' + 1 := ⟨f - 1, by omega⟩
      obtain ⟨g, rfl⟩ : ∃ g', g = g' + 1 := ⟨g - 1, by omega⟩
      rw [passRS_some e, passRS_some e]
      exact passRS_fuel n r f g (by omega) (by omega) (by omega)
theorem passRS_len : ∀ (f : Nat) (s : List Nat), (passRS f s).length ≤ s.length
  | 0, s => Nat.le_refl _
  | f + 1, s => by
    cases e : attS s with
    | none => rw [passRS_none e]; exact Nat.le_refl _
    | some t =>
      obtain ⟨m, v, r⟩ := t
      have hr := att_lt e
      rw [passRS_some e]
      exact Nat.le_trans (passRS_len f r) (by omega)
noncomputable def slashS (s1 : List Nat) : List Nat := if (s1.take 1 == [47]) = true then s1.drop 1 else s1
noncomputable def otherS (s : List Nat) : List Nat := if ([[33], [47], [63]].contains ((s.drop 1).take 1)) = true then (s.drop 1).dropWhile n62 else s
noncomputable def passS (s : List Nat) : List Nat :=
  if (s.take 4 == [60, 33, 45, 45]) = true then comS (s.drop 2) else
  match slashS (s.drop 1) with
  | c :: b => if isLet c = true then tagT (passRS (c :: b).length ((c :: b).dropWhile g62)) else otherS s
  | [] => otherS s
theorem pass_ps {l s : List Nat} {i : Nat} (h : Ps l i s) (hi : i < l.length) : Ps l (passM l i) (passS s) := by
  have hlen := h.len
  unfold passM passS
  rw [h.cut, show i + 4 - i = 4 by omega]
  cases h4 : (s.take 4 == [60, 33, 45, 45]) with
  | true =>
    simp only [if_true]
    have hs4 : 4 ≤ s.length := by
      have := congrArg List.length (eq_of_beq h4)
      rw [List.length_take] at this
      simp at this; omega
    exact com_ps l.length (i + 4) (s.drop 2) (by omega) (by omega) (by omega) (by rw [show i + 4 - 2 = i + 2 by omega]; exact h.at 2 (by omega))
  | false =>
  simp only [Bool.false_eq_true, if_false]
  have h1 : Ps l (i + 1) (s.drop 1) := h.at 1 (by omega)
  have hlen1 := h1.len
  have hcut1 : cutL l (some (i + 1)) (some (i + 1 + 1)) = (s.drop 1).take 1 := by rw [h1.cut, show i + 1 + 1 - (i + 1) = 1 by omega]
  have hcut2 : cutL l (some (i + 1)) (some (i + 2)) = (s.drop 1).take 1 := hcut1
  have hoth : Ps l (if ([[33], [47], [63]].contains (cutL l (some (i + 1)) (some (i + 2)))) = true then Mine.run (fun x => !([62] : List Nat).contains x) l (i + 1) else i) (otherS s) := by
    unfold otherS
    rw [hcut2]
    split
    · exact h1.run n62
    · exact h
  rw [hcut2] at hoth
  rw [hcut1]
  have hb : Ps l (if ((s.drop 1).take 1 == [47]) = true then i + 1 + 1 else i + 1) (slashS (s.drop 1)) := by
    unfold slashS
    cases h7 : ((s.drop 1).take 1 == [47]) with
    | true =>
      simp only [if_true]
      have hs : 1 ≤ (s.drop 1).length := by
        have := congrArg List.length (eq_of_beq h7)
        rw [List.length_take] at this
        simp at this; rw [List.length_drop]; omega
      exact h1.at 1 hs
    | false => simp only [Bool.false_eq_true, if_false]; exact h1
  generalize (if ((s.drop 1).take 1 == [47]) = true then i + 1 + 1 else i + 1) = B at hb
  generalize slashS (s.drop 1) = b at hb
  cases b with
  | nil =>
    have := hb.nil
    dsimp only
    rw [if_neg (by rw [this]; simp)]
    exact hoth
  | cons c b =>
    obtain ⟨k1, k2, k3⟩ := hb.cons
    dsimp only
    rw [k2]
    have hd : decide (B < l.length) = true := decide_eq_true k1
    rw [hd, Bool.true_and]
    cases hc : isLet c with
    | true =>
      simp only [if_true]
      have hr := hb.run g62
      have := passR_ps l.length _ _ hr
      have hle := hr.len
      have hdl := dw_le g62 (c :: b)
      rw [passRS_fuel _ _ l.length (c :: b).length (Nat.le_refl _) (by omega) hdl] at this
      exact tag_ps this
    | false =>
      simp only [Bool.false_eq_true, if_false]
      exact hoth
theorem passS_len (s : List Nat) : (passS s).length ≤ s.length := by
  have hd1 : (s.drop 1).length ≤ s.length := by rw [List.length_drop]; omega
  have hoth : (otherS s).length ≤ s.length := by
    unfold otherS
    split
    · exact Nat.le_trans (dw_le _ _) hd1
    · exact Nat.le_refl _
  have hsl : (slashS (s.drop 1)).length ≤ s.length := by
    unfold slashS
    split
    · rw [List.length_drop]; omega
    · exact hd1
  unfold passS
  split
  · exact Nat.le_trans (comS_len _) (by rw [List.length_drop]; omega)
  · generalize slashS (s.drop 1) = b at hsl
    cases b with
    | nil => exact hoth
    | cons c b =>
      dsimp only
      split
      · exact Nat.le_trans (tagT_len _) (Nat.le_trans (passRS_len _ _) (Nat.le_trans (dw_le _ _) hsl))
      · exact hoth
noncomputable def mT : List Nat := [60, 109, 101, 116, 97]
noncomputable def isMetaS (s : List Nat) : Bool := (s.take 5).map lo1 == mT && (match s.drop 5 with | c :: _ => gsl c | [] => false)
theorem isMeta_ps {l s : List Nat} {a : Nat} (h : l.drop a = s) : isMeta l a = isMetaS s := by
  unfold isMeta isMetaS
  have e1 : cutL l (some a) (some (a + 5)) = s.take 5 := by
    unfold cutL; simp only [Option.getD_some]; rw [h, Nat.add_sub_cancel_left]
  have e2 : cutL l (some (a + 5)) (some (a + 6)) = (s.drop 5).take 1 := by
    unfold cutL; simp only [Option.getD_some]; rw [← h, List.drop_drop, show a + 6 - (a + 5) = 1 by omega]
  rw [e1, e2, show tx "<meta" = mT by decide +kernel]
  congr 1
  cases s.drop 5 with
  | nil => rfl
  | cons c r => rfl
noncomputable def nextS (s : List Nat) : Option (List Nat) × List Nat := match s with
  | [] => (none, [])
  | c :: s1 => if (c == 60) = true then
      if isMetaS (c :: s1) = true then (match (readS (s1.drop 4)).1 with
        | some x => (some x, [])
        | none => (none, (readS (s1.drop 4)).2.drop 1))
      else (none, (passS (c :: s1)).drop 1)
    else (none, s1)
noncomputable def scanS : Nat → List Nat → Option (List Nat)
  | 0, _ => none
  | f + 1, s => match nextS s with
    | (some x, _) => some x
    | (none, r) => scanS f r
theorem scanS_nil : ∀ f, scanS f [] = none
  | 0 => rfl
  | f + 1 => scanS_nil f
theorem nextS_lt {s : List Nat} (h : s ≠ []) : (nextS s).2.length < s.length := by
  cases s with
  | nil => exact absurd rfl h
  | cons c s1 =>
    unfold nextS
    dsimp only
    split
    · split
      · have : (readS (s1.drop 4)).2.length ≤ (s1.drop 4).length := by
          unfold readS
          exact Nat.le_trans (tagT_len _) (metaRS_len _ _ _)
        rw [List.length_drop] at this
        split
        · simp
        · show ((readS (s1.drop 4)).2.drop 1).length < _
          rw [List.length_drop, List.length_cons]; omega
      · have := passS_len (c :: s1)
        show ((passS (c :: s1)).drop 1).length < _
        rw [List.length_drop]
        rw [List.length_cons] at this ⊢
        omega
    · show s1.length < _
      rw [List.length_cons]; omega
theorem scanS_fuel : ∀ (n : Nat) (s : List Nat) (f g : Nat), s.length ≤ n → s.length ≤ f → s.length ≤ g → scanS f s = scanS g s
  | 0, s, f, g, hn, _, _ => by
    have : s = [] := List.eq_nil_of_length_eq_zero (by omega)
    subst this
    rw [scanS_nil, scanS_nil]
  | n + 1, s, f, g, hn, hf, hg => by
    by_cases hs : s = []
    · subst hs; rw [scanS_nil, scanS_nil]
    have hlt := nextS_lt hs
    obtain ⟨f, rfl⟩ : ∃ f', f = f' + 1 := ⟨f - 1, by omega⟩
    obtain ⟨g, rfl⟩ : ∃ g', g = g' + 1 := ⟨g - 1, by omega⟩
    rw [scanS, scanS]
    generalize nextS s = t at hlt
    obtain ⟨o, r⟩ := t
    cases o with
    | some x => rfl
    | none =>
      dsimp only at hlt ⊢
      exact scanS_fuel n r f g (by omega) (by omega) (by omega)
noncomputable def SC (s : List Nat) : Option (List Nat) := scanS s.length s
theorem SC_nil : SC [] = none := rfl
theorem SC_step (s : List Nat) : SC s = match nextS s with
    | (some x, _) => some x
    | (none, r) => SC r := by
  by_cases hs : s = []
  · subst hs; rfl
  have hlt := nextS_lt hs
  unfold SC
  obtain ⟨n, hn⟩ : ∃ n, s.length = n + 1 := ⟨s.length - 1, by have : 0 < s.length := List.length_pos_iff.mpr hs; omega⟩
  rw [hn, scanS]
  generalize nextS s = t at hlt
  obtain ⟨o, r⟩ := t
  cases o with
  | some x => rfl
  | none =>
    dsimp only at hlt ⊢
    exact scanS_fuel _ r _ _ (Nat.le_refl _) (by omega) (Nat.le_refl _)
theorem scan_ps {l : List Nat} : ∀ (f a : Nat) (s : List Nat), l.drop a = s → l.length ≤ f + a → scanR l f a = match SC s with
    | some x => some x
    | none => xmlM l
  | 0, a, s, h, hf => by
    have : s = [] := by rw [← h]; exact List.drop_eq_nil_of_le (by omega)
    subst this
    rfl
  | f + 1, a, s, h, hf => by
    rw [scanR_succ]
    cases s with
    | nil =>
      have : ¬ a < l.length := by
        intro q
        have := congrArg List.length h
        rw [List.length_drop] at this
        simp at this; omega
      rw [if_neg (by rw [decide_eq_false this]; exact Bool.false_ne_true)]
      rfl
    | cons c s1 =>
      have hal : a < l.length := by
        have := congrArg List.length h
        rw [List.length_drop, List.length_cons] at this; omega
      have P : Ps l a (c :: s1) := ⟨by omega, h⟩
      obtain ⟨_, k2, k3⟩ := P.cons
      rw [if_pos (decide_eq_true hal), k2, SC_step]
      unfold nextS
      dsimp only
      cases hc : (c == 60) with
      | false =>
        simp only [Bool.false_eq_true, if_false]
        exact scan_ps f (a + 1) s1 k3.eq (by omega)
      | true =>
        simp only [if_true]
        rw [isMeta_ps h]
        cases hm : isMetaS (c :: s1) with
        | true =>
          simp only [if_true]
          have hs5 : 4 < s1.length := by
            unfold isMetaS at hm
            rw [Bool.and_eq_true] at hm
            have h2 := hm.2
            have e : (c :: s1).drop 5 = s1.drop 4 := rfl
            rw [e] at h2
            rcases Nat.lt_or_ge 4 s1.length with q | q
            · exact q
            · rw [List.drop_eq_nil_of_le q] at h2; cases h2
          have P5 : Ps l (a + 5) (s1.drop 4) := by
            have := P.at 5 (by rw [List.length_cons]; omega)
            exact this
          obtain ⟨r1, r2⟩ := read_ps P5
          rw [r1]
          cases hr : (readS (s1.drop 4)).1 with
          | some x => rfl
          | none =>
            have hlen := r2.len
            have hge : a + 5 ≤ (readM l (a + 5)).2 := by
              have := P5.len
              have hh : (readS (s1.drop 4)).2.length ≤ (s1.drop 4).length := by
                unfold readS
                exact Nat.le_trans (tagT_len _) (metaRS_len _ _ _)
              omega
            refine scan_ps f _ _ ?_ (by omega)
            rw [← List.drop_drop, r2.eq]
        | false =>
          simp only [Bool.false_eq_true, if_false]
          have P2 := pass_ps P hal
          have hlen := P2.len
          have hh := passS_len (c :: s1)
          have hlen1 := P.len
          refine scan_ps f _ _ ?_ (by omega)
          rw [← List.drop_drop, P2.eq]
end
section
noncomputable def hopS : Nat → List Nat → Option (List Nat)
  | 0, s => some s
  | n + 1, s => match nextS s with
    | (none, r) => hopS n r
    | (some _, _) => none
theorem hopS_SC : ∀ (n : Nat) (s r : List Nat), hopS n s = some r → SC s = SC r
  | 0, s, r, h => by cases h; rfl
  | n + 1, s, r, h => by
    rw [hopS] at h
    rw [SC_step]
    generalize nextS s = t at h
    obtain ⟨o, q⟩ := t
    cases o with
    | some x => cases h
    | none => exact hopS_SC n q r h
noncomputable def Nx (r : List Nat) : Prop := r = [] ∨ ∃ c t, r = c :: t ∧ (c = 60 ∨ c = 32 ∨ c = 38)
noncomputable def wordsL : List (List Nat) := [
  [60, 33, 45, 45, 60, 109, 101, 116, 97, 32, 99, 104, 97, 114, 115, 101, 116, 61, 103, 98, 107, 62, 45, 45, 62],
  [60, 33, 45, 45, 62],
  [60, 33, 45, 45, 45, 62],
  [60, 33, 45, 45, 45, 45, 62],
  [60, 33, 45, 45, 97, 45, 62, 45, 45, 33, 62, 60, 109, 101, 116, 97, 32, 99, 104, 97, 114, 115, 101, 116, 61, 103, 98, 107, 62, 45, 45, 32, 62, 45, 45, 62],
  [60, 97, 32, 116, 105, 116, 108, 101, 61, 34, 60, 109, 101, 116, 97, 32, 99, 104, 97, 114, 115, 101, 116, 61, 103, 98, 107, 62, 34, 62],
  [60, 47, 97, 32, 116, 105, 116, 108, 101, 61, 39, 60, 109, 101, 116, 97, 32, 99, 104, 97, 114, 115, 101, 116, 61, 103, 98, 107, 62, 39, 32, 62],
  [60, 109, 101, 116, 97, 108, 32, 99, 104, 97, 114, 115, 101, 116, 61, 103, 98, 107, 62],
  [60, 109, 101, 116, 97, 62],
  [60, 97, 32, 116, 105, 116, 108, 101, 61, 60, 109, 101, 116, 97, 32, 99, 104, 97, 114, 115, 101, 116, 61, 103, 98, 107, 62],
  [60, 47, 109, 101, 116, 97, 32, 99, 104, 97, 114, 115, 101, 116, 61, 103, 98, 107, 62],
  [60, 65, 47, 98, 61, 34, 60, 109, 101, 116, 97, 32, 99, 104, 97, 114, 115, 101, 116, 61, 103, 98, 107, 62, 34, 62],
  [60, 97, 32, 61, 34, 62],
  [60, 97, 32, 98, 61, 62],
  [60, 97, 32, 98, 61, 99, 34, 62],
  [60, 97, 32, 98, 61, 34, 39, 62, 34, 32, 99, 61, 39, 34, 62, 39, 62],
  [60, 97, 32, 47, 32, 98, 32, 47, 32, 62],
  [60, 97, 32, 98, 32, 99, 61, 34, 100, 34, 101, 61, 39, 102, 62, 39, 62],
  [60, 33, 97, 32, 34, 62],
  [60, 63, 32, 60, 109, 101, 116, 97, 32, 99, 104, 97, 114, 115, 101, 116, 61, 103, 98, 107, 62],
  [60, 47, 32, 60, 109, 101, 116, 97, 32, 99, 104, 97, 114, 115, 101, 116, 61, 103, 98, 107, 62],
  [60, 47, 62],
  [60, 33, 62],
  [60, 33, 45, 32, 60, 109, 101, 116, 97, 32, 99, 104, 97, 114, 115, 101, 116, 61, 103, 98, 107, 62],
  [60, 63, 97, 32, 39, 62],
  [60, 47, 49, 32, 34, 62],
  [32, 97],
  [32, 60, 32, 109, 101, 116, 97, 32, 99, 104, 97, 114, 115, 101, 116, 61, 103, 98, 107, 62],
  [32, 60, 49, 109, 101, 116, 97, 32, 99, 104, 97, 114, 115, 101, 116, 61, 103, 98, 107, 62],
  [32, 0, 233, 60],
  [32, 62],
  [32, 34, 60],
  [38, 108, 116, 59, 109, 101, 116, 97, 32, 99, 104, 97, 114, 115, 101, 116, 61, 103, 98, 107, 62],
  [32, 109, 101, 116, 97, 32, 99, 104, 97, 114, 115, 101, 116, 61, 103, 98, 107, 62]]
theorem fw_0 (r : List Nat) : hopS 1 ([60, 33, 45, 45, 60, 109, 101, 116, 97, 32, 99, 104, 97, 114, 115, 101, 116, 61, 103, 98, 107, 62, 45, 45, 62] ++ r) = some r := by kernel_rfl
theorem fw_1 (r : List Nat) : hopS 1 ([60, 33, 45, 45, 62] ++ r) = some r := by kernel_rfl
theorem fw_2 (r : List Nat) : hopS 1 ([60, 33, 45, 45, 45, 62] ++ r) = some r := by kernel_rfl
theorem fw_3 (r : List Nat) : hopS 1 ([60, 33, 45, 45, 45, 45, 62] ++ r) = some r := by kernel_rfl
theorem fw_4 (r : List Nat) : hopS 1 ([60, 33, 45, 45, 97, 45, 62, 45, 45, 33, 62, 60, 109, 101, 116, 97, 32, 99, 104, 97, 114, 115, 101, 116, 61, 103, 98, 107, 62, 45, 45, 32, 62, 45, 45, 62] ++ r) = some r := by kernel_rfl
theorem fw_5 (r : List Nat) : hopS 1 ([60, 97, 32, 116, 105, 116, 108, 101, 61, 34, 60, 109, 101, 116, 97, 32, 99, 104, 97, 114, 115, 101, 116, 61, 103, 98, 107, 62, 34, 62] ++ r) = some r := by kernel_rfl
theorem fw_6 (r : List Nat) : hopS 1 ([60, 47, 97, 32, 116, 105, 116, 108, 101, 61, 39, 60, 109, 101, 116, 97, 32, 99, 104, 97, 114, 115, 101, 116, 61, 103, 98, 107, 62, 39, 32, 62] ++ r) = some r := by kernel_rfl
theorem fw_7 (r : List Nat) : hopS 1 ([60, 109, 101, 116, 97, 108, 32, 99, 104, 97, 114, 115, 101, 116, 61, 103, 98, 107, 62] ++ r) = some r := by kernel_rfl
theorem fw_8 (r : List Nat) : hopS 1 ([60, 109, 101, 116, 97, 62] ++ r) = some r := by kernel_rfl
theorem fw_9 (r : List Nat) : hopS 1 ([60, 97, 32, 116, 105, 116, 108, 101, 61, 60, 109, 101, 116, 97, 32, 99, 104, 97, 114, 115, 101, 116, 61, 103, 98, 107, 62] ++ r) = some r := by kernel_rfl
theorem fw_10 (r : List Nat) : hopS 1 ([60, 47, 109, 101, 116, 97, 32, 99, 104, 97, 114, 115, 101, 116, 61, 103, 98, 107, 62] ++ r) = some r := by kernel_rfl
theorem fw_11 (r : List Nat) : hopS 3 ([60, 65, 47, 98, 61, 34, 60, 109, 101, 116, 97, 32, 99, 104, 97, 114, 115, 101, 116, 61, 103, 98, 107, 62, 34, 62] ++ r) = some r := by kernel_rfl
theorem fw_12 (r : List Nat) : hopS 1 ([60, 97, 32, 61, 34, 62] ++ r) = some r := by kernel_rfl
theorem fw_13 (r : List Nat) : hopS 1 ([60, 97, 32, 98, 61, 62] ++ r) = some r := by kernel_rfl
theorem fw_14 (r : List Nat) : hopS 1 ([60, 97, 32, 98, 61, 99, 34, 62] ++ r) = some r := by kernel_rfl
theorem fw_15 (r : List Nat) : hopS 1 ([60, 97, 32, 98, 61, 34, 39, 62, 34, 32, 99, 61, 39, 34, 62, 39, 62] ++ r) = some r := by kernel_rfl
theorem fw_16 (r : List Nat) : hopS 1 ([60, 97, 32, 47, 32, 98, 32, 47, 32, 62] ++ r) = some r := by kernel_rfl
theorem fw_17 (r : List Nat) : hopS 1 ([60, 97, 32, 98, 32, 99, 61, 34, 100, 34, 101, 61, 39, 102, 62, 39, 62] ++ r) = some r := by kernel_rfl
theorem fw_18 (r : List Nat) : hopS 1 ([60, 33, 97, 32, 34, 62] ++ r) = some r := by kernel_rfl
theorem fw_19 (r : List Nat) : hopS 1 ([60, 63, 32, 60, 109, 101, 116, 97, 32, 99, 104, 97, 114, 115, 101, 116, 61, 103, 98, 107, 62] ++ r) = some r := by kernel_rfl
theorem fw_20 (r : List Nat) : hopS 1 ([60, 47, 32, 60, 109, 101, 116, 97, 32, 99, 104, 97, 114, 115, 101, 116, 61, 103, 98, 107, 62] ++ r) = some r := by kernel_rfl
theorem fw_21 (r : List Nat) : hopS 1 ([60, 47, 62] ++ r) = some r := by kernel_rfl
theorem fw_22 (r : List Nat) : hopS 1 ([60, 33, 62] ++ r) = some r := by kernel_rfl
theorem fw_23 (r : List Nat) : hopS 1 ([60, 33, 45, 32, 60, 109, 101, 116, 97, 32, 99, 104, 97, 114, 115, 101, 116, 61, 103, 98, 107, 62] ++ r) = some r := by kernel_rfl
theorem fw_24 (r : List Nat) : hopS 1 ([60, 63, 97, 32, 39, 62] ++ r) = some r := by kernel_rfl
theorem fw_25 (r : List Nat) : hopS 1 ([60, 47, 49, 32, 34, 62] ++ r) = some r := by kernel_rfl
theorem fw_26 (r : List Nat) : hopS 2 ([32, 97] ++ r) = some r := by kernel_rfl
theorem fw_27 (r : List Nat) : hopS 20 ([32, 60, 32, 109, 101, 116, 97, 32, 99, 104, 97, 114, 115, 101, 116, 61, 103, 98, 107, 62] ++ r) = some r := by kernel_rfl
theorem fw_28 (r : List Nat) : hopS 20 ([32, 60, 49, 109, 101, 116, 97, 32, 99, 104, 97, 114, 115, 101, 116, 61, 103, 98, 107, 62] ++ r) = some r := by kernel_rfl
theorem fw_29 (r : List Nat) (h : Nx r) : hopS 4 ([32, 0, 233, 60] ++ r) = some r := by
  rcases h with rfl | ⟨c, t, rfl, rfl | rfl | rfl⟩ <;> kernel_rfl
theorem fw_30 (r : List Nat) : hopS 2 ([32, 62] ++ r) = some r := by kernel_rfl
theorem fw_31 (r : List Nat) (h : Nx r) : hopS 3 ([32, 34, 60] ++ r) = some r := by
  rcases h with rfl | ⟨c, t, rfl, rfl | rfl | rfl⟩ <;> kernel_rfl
theorem fw_32 (r : List Nat) : hopS 21 ([38, 108, 116, 59, 109, 101, 116, 97, 32, 99, 104, 97, 114, 115, 101, 116, 61, 103, 98, 107, 62] ++ r) = some r := by kernel_rfl
theorem fw_33 (r : List Nat) : hopS 18 ([32, 109, 101, 116, 97, 32, 99, 104, 97, 114, 115, 101, 116, 61, 103, 98, 107, 62] ++ r) = some r := by kernel_rfl
theorem words_full : ∀ w ∈ wordsL, ∀ r, Nx r → SC (w ++ r) = SC r := by
  intro w hw r h
  unfold wordsL at hw
  simp only [List.mem_cons, List.not_mem_nil, or_false] at hw
  rcases hw with rfl | rfl | rfl | rfl | rfl | rfl | rfl | rfl | rfl | rfl | rfl | rfl | rfl | rfl | rfl | rfl | rfl | rfl | rfl | rfl | rfl | rfl | rfl | rfl | rfl | rfl | rfl | rfl | rfl | rfl | rfl | rfl | rfl | rfl
  · exact hopS_SC _ _ _ (fw_0 r)
  · exact hopS_SC _ _ _ (fw_1 r)
  · exact hopS_SC _ _ _ (fw_2 r)
  · exact hopS_SC _ _ _ (fw_3 r)
  · exact hopS_SC _ _ _ (fw_4 r)
  · exact hopS_SC _ _ _ (fw_5 r)
  · exact hopS_SC _ _ _ (fw_6 r)
  · exact hopS_SC _ _ _ (fw_7 r)
  · exact hopS_SC _ _ _ (fw_8 r)
  · exact hopS_SC _ _ _ (fw_9 r)
  · exact hopS_SC _ _ _ (fw_10 r)
  · exact hopS_SC _ _ _ (fw_11 r)
  · exact hopS_SC _ _ _ (fw_12 r)
  · exact hopS_SC _ _ _ (fw_13 r)
  · exact hopS_SC _ _ _ (fw_14 r)
  · exact hopS_SC _ _ _ (fw_15 r)
  · exact hopS_SC _ _ _ (fw_16 r)
  · exact hopS_SC _ _ _ (fw_17 r)
  · exact hopS_SC _ _ _ (fw_18 r)
  · exact hopS_SC _ _ _ (fw_19 r)
  · exact hopS_SC _ _ _ (fw_20 r)
  · exact hopS_SC _ _ _ (fw_21 r)
  · exact hopS_SC _ _ _ (fw_22 r)
  · exact hopS_SC _ _ _ (fw_23 r)
  · exact hopS_SC _ _ _ (fw_24 r)
  · exact hopS_SC _ _ _ (fw_25 r)
  · exact hopS_SC _ _ _ (fw_26 r)
  · exact hopS_SC _ _ _ (fw_27 r)
  · exact hopS_SC _ _ _ (fw_28 r)
  · exact hopS_SC _ _ _ (fw_29 r h)
  · exact hopS_SC _ _ _ (fw_30 r)
  · exact hopS_SC _ _ _ (fw_31 r h)
  · exact hopS_SC _ _ _ (fw_32 r)
  · exact hopS_SC _ _ _ (fw_33 r)
theorem words_cut : (wordsL.all fun w => (List.range w.length).all fun k => SC (w.take k) == none) = true := by decide +kernel
theorem words_short {w : List Nat} (hw : w ∈ wordsL) {k : Nat} (hk : k < w.length) : SC (w.take k) = none := by
  have h1 := List.all_eq_true.mp words_cut w hw
  have h2 := List.all_eq_true.mp h1 k (List.mem_range.mpr hk)
  exact eq_of_beq h2
theorem inert_words (s : Nat) (n : Int) : inertM s n ∈ wordsL := by
  have hl : 0 < (inertW s).length ∧ ∀ w ∈ inertW s, w ∈ wordsL := by
    unfold inertW
    repeat' split
    all_goals decide +kernel
  exact hl.2 _ (getD_mem (md_lt _ hl.1))
end
section
noncomputable def rowsT : List (List (List Nat)) := [
  [[85,84,70,45,56], [117,110,105,99,111,100,101,45,49,45,49,45,117,116,102,45,56], [117,110,105,99,111,100,101,49,49,117,116,102,56], [117,110,105,99,111,100,101,50,48,117,116,102,56], [117,116,102,45,56], [117,116,102,56], [120,45,117,110,105,99,111,100,101,50,48,117,116,102,56]],
  [[73,66,77,56,54,54], [56,54,54], [99,112,56,54,54], [99,115,105,98,109,56,54,54], [105,98,109,56,54,54]],
  [[73,83,79,45,56,56,53,57,45,50], [99,115,105,115,111,108,97,116,105,110,50], [105,115,111,45,56,56,53,57,45,50], [105,115,111,45,105,114,45,49,48,49], [105,115,111,56,56,53,57,45,50], [105,115,111,56,56,53,57,50], [105,115,111,95,56,56,53,57,45,50], [105,115,111,95,56,56,53,57,45,50,58,49,57,56,55], [108,50], [108,97,116,105,110,50]],
  [[73,83,79,45,56,56,53,57,45,51], [99,115,105,115,111,108,97,116,105,110,51], [105,115,111,45,56,56,53,57,45,51], [105,115,111,45,105,114,45,49,48,57], [105,115,111,56,56,53,57,45,51], [105,115,111,56,56,53,57,51], [105,115,111,95,56,56,53,57,45,51], [105,115,111,95,56,56,53,57,45,51,58,49,57,56,56], [108,51], [108,97,116,105,110,51]],
  [[73,83,79,45,56,56,53,57,45,52], [99,115,105,115,111,108,97,116,105,110,52], [105,115,111,45,56,56,53,57,45,52], [105,115,111,45,105,114,45,49,49,48], [105,115,111,56,56,53,57,45,52], [105,115,111,56,56,53,57,52], [105,115,111,95,56,56,53,57,45,52], [105,115,111,95,56,56,53,57,45,52,58,49,57,56,56], [108,52], [108,97,116,105,110,52]],
  [[73,83,79,45,56,56,53,57,45,53], [99,115,105,115,111,108,97,116,105,110,99,121,114,105,108,108,105,99], [99,121,114,105,108,108,105,99], [105,115,111,45,56,56,53,57,45,53], [105,115,111,45,105,114,45,49,52,52], [105,115,111,56,56,53,57,45,53], [105,115,111,56,56,53,57,53], [105,115,111,95,56,56,53,57,45,53], [105,115,111,95,56,56,53,57,45,53,58,49,57,56,56]],
  [[73,83,79,45,56,56,53,57,45,54], [97,114,97,98,105,99], [97,115,109,111,45,55,48,56], [99,115,105,115,111,56,56,53,57,54,101], [99,115,105,115,111,56,56,53,57,54,105], [99,115,105,115,111,108,97,116,105,110,97,114,97,98,105,99], [101,99,109,97,45,49,49,52], [105,115,111,45,56,56,53,57,45,54], [105,115,111,45,56,56,53,57,45,54,45,101], [105,115,111,45,56,56,53,57,45,54,45,105], [105,115,111,45,105,114,45,49,50,55], [105,115,111,56,56,53,57,45,54], [105,115,111,56,56,53,57,54], [105,115,111,95,56,56,53,57,45,54], [105,115,111,95,56,56,53,57,45,54,58,49,57,56,55]],
  [[73,83,79,45,56,56,53,57,45,55], [99,115,105,115,111,108,97,116,105,110,103,114,101,101,107], [101,99,109,97,45,49,49,56], [101,108,111,116,95,57,50,56], [103,114,101,101,107], [103,114,101,101,107,56], [105,115,111,45,56,56,53,57,45,55], [105,115,111,45,105,114,45,49,50,54], [105,115,111,56,56,53,57,45,55], [105,115,111,56,56,53,57,55], [105,115,111,95,56,56,53,57,45,55], [105,115,111,95,56,56,53,57,45,55,58,49,57,56,55], [115,117,110,95,101,117,95,103,114,101,101,107]],
  [[73,83,79,45,56,56,53,57,45,56], [99,115,105,115,111,56,56,53,57,56,101], [99,115,105,115,111,108,97,116,105,110,104,101,98,114,101,119], [104,101,98,114,101,119], [105,115,111,45,56,56,53,57,45,56], [105,115,111,45,56,56,53,57,45,56,45,101], [105,115,111,45,105,114,45,49,51,56], [105,115,111,56,56,53,57,45,56], [105,115,111,56,56,53,57,56], [105,115,111,95,56,56,53,57,45,56], [105,115,111,95,56,56,53,57,45,56,58,49,57,56,56], [118,105,115,117,97,108]],
  [[73,83,79,45,56,56,53,57,45,56,45,73], [99,115,105,115,111,56,56,53,57,56,105], [105,115,111,45,56,56,53,57,45,56,45,105], [108,111,103,105,99,97,108]],
  [[73,83,79,45,56,56,53,57,45,49,48], [99,115,105,115,111,108,97,116,105,110,54], [105,115,111,45,56,56,53,57,45,49,48], [105,115,111,45,105,114,45,49,53,55], [105,115,111,56,56,53,57,45,49,48], [105,115,111,56,56,53,57,49,48], [108,54], [108,97,116,105,110,54]],
  [[73,83,79,45,56,56,53,57,45,49,51], [105,115,111,45,56,56,53,57,45,49,51], [105,115,111,56,56,53,57,45,49,51], [105,115,111,56,56,53,57,49,51]],
  [[73,83,79,45,56,56,53,57,45,49,52], [105,115,111,45,56,56,53,57,45,49,52], [105,115,111,56,56,53,57,45,49,52], [105,115,111,56,56,53,57,49,52]],
  [[73,83,79,45,56,56,53,57,45,49,53], [99,115,105,115,111,108,97,116,105,110,57], [105,115,111,45,56,56,53,57,45,49,53], [105,115,111,56,56,53,57,45,49,53], [105,115,111,56,56,53,57,49,53], [105,115,111,95,56,56,53,57,45,49,53], [108,57]],
  [[73,83,79,45,56,56,53,57,45,49,54], [105,115,111,45,56,56,53,57,45,49,54]],
  [[75,79,73,56,45,82], [99,115,107,111,105,56,114], [107,111,105], [107,111,105,56], [107,111,105,56,45,114], [107,111,105,56,95,114]],
  [[75,79,73,56,45,85], [107,111,105,56,45,114,117], [107,111,105,56,45,117]],
  [[109,97,99,105,110,116,111,115,104], [99,115,109,97,99,105,110,116,111,115,104], [109,97,99], [109,97,99,105,110,116,111,115,104], [120,45,109,97,99,45,114,111,109,97,110]],
  [[119,105,110,100,111,119,115,45,56,55,52], [100,111,115,45,56,55,52], [105,115,111,45,56,56,53,57,45,49,49], [105,115,111,56,56,53,57,45,49,49], [105,115,111,56,56,53,57,49,49], [116,105,115,45,54,50,48], [119,105,110,100,111,119,115,45,56,55,52]],
  [[119,105,110,100,111,119,115,45,49,50,53,48], [99,112,49,50,53,48], [119,105,110,100,111,119,115,45,49,50,53,48], [120,45,99,112,49,50,53,48]],
  [[119,105,110,100,111,119,115,45,49,50,53,49], [99,112,49,50,53,49], [119,105,110,100,111,119,115,45,49,50,53,49], [120,45,99,112,49,50,53,49]],
  [[119,105,110,100,111,119,115,45,49,50,53,50], [97,110,115,105,95,120,51,46,52,45,49,57,54,56], [97,115,99,105,105], [99,112,49,50,53,50], [99,112,56,49,57], [99,115,105,115,111,108,97,116,105,110,49], [105,98,109,56,49,57], [105,115,111,45,56,56,53,57,45,49], [105,115,111,45,105,114,45,49,48,48], [105,115,111,56,56,53,57,45,49], [105,115,111,56,56,53,57,49], [105,115,111,95,56,56,53,57,45,49], [105,115,111,95,56,56,53,57,45,49,58,49,57,56,55], [108,49], [108,97,116,105,110,49], [117,115,45,97,115,99,105,105], [119,105,110,100,111,119,115,45,49,50,53,50], [120,45,99,112,49,50,53,50]],
  [[119,105,110,100,111,119,115,45,49,50,53,51], [99,112,49,50,53,51], [119,105,110,100,111,119,115,45,49,50,53,51], [120,45,99,112,49,50,53,51]],
  [[119,105,110,100,111,119,115,45,49,50,53,52], [99,112,49,50,53,52], [99,115,105,115,111,108,97,116,105,110,53], [105,115,111,45,56,56,53,57,45,57], [105,115,111,45,105,114,45,49,52,56], [105,115,111,56,56,53,57,45,57], [105,115,111,56,56,53,57,57], [105,115,111,95,56,56,53,57,45,57], [105,115,111,95,56,56,53,57,45,57,58,49,57,56,57], [108,53], [108,97,116,105,110,53], [119,105,110,100,111,119,115,45,49,50,53,52], [120,45,99,112,49,50,53,52]],
  [[119,105,110,100,111,119,115,45,49,50,53,53], [99,112,49,50,53,53], [119,105,110,100,111,119,115,45,49,50,53,53], [120,45,99,112,49,50,53,53]],
  [[119,105,110,100,111,119,115,45,49,50,53,54], [99,112,49,50,53,54], [119,105,110,100,111,119,115,45,49,50,53,54], [120,45,99,112,49,50,53,54]],
  [[119,105,110,100,111,119,115,45,49,50,53,55], [99,112,49,50,53,55], [119,105,110,100,111,119,115,45,49,50,53,55], [120,45,99,112,49,50,53,55]],
  [[119,105,110,100,111,119,115,45,49,50,53,56], [99,112,49,50,53,56], [119,105,110,100,111,119,115,45,49,50,53,56], [120,45,99,112,49,50,53,56]],
  [[120,45,109,97,99,45,99,121,114,105,108,108,105,99], [120,45,109,97,99,45,99,121,114,105,108,108,105,99], [120,45,109,97,99,45,117,107,114,97,105,110,105,97,110]],
  [[71,66,75], [99,104,105,110,101,115,101], [99,115,103,98,50,51,49,50], [99,115,105,115,111,53,56,103,98,50,51,49,50,56,48], [103,98,50,51,49,50], [103,98,95,50,51,49,50], [103,98,95,50,51,49,50,45,56,48], [103,98,107], [105,115,111,45,105,114,45,53,56], [120,45,103,98,107]],
  [[103,98,49,56,48,51,48], [103,98,49,56,48,51,48]],
  [[66,105,103,53], [98,105,103,53], [98,105,103,53,45,104,107,115,99,115], [99,110,45,98,105,103,53], [99,115,98,105,103,53], [120,45,120,45,98,105,103,53]],
  [[69,85,67,45,74,80], [99,115,101,117,99,112,107,100,102,109,116,106,97,112,97,110,101,115,101], [101,117,99,45,106,112], [120,45,101,117,99,45,106,112]],
  [[73,83,79,45,50,48,50,50,45,74,80], [99,115,105,115,111,50,48,50,50,106,112], [105,115,111,45,50,48,50,50,45,106,112]],
  [[83,104,105,102,116,95,74,73,83], [99,115,115,104,105,102,116,106,105,115], [109,115,57,51,50], [109,115,95,107,97,110,106,105], [115,104,105,102,116,45,106,105,115], [115,104,105,102,116,95,106,105,115], [115,106,105,115], [119,105,110,100,111,119,115,45,51,49,106], [120,45,115,106,105,115]],
  [[69,85,67,45,75,82], [99,115,101,117,99,107,114], [99,115,107,115,99,53,54,48,49,49,57,56,55], [101,117,99,45,107,114], [105,115,111,45,105,114,45,49,52,57], [107,111,114,101,97,110], [107,115,95,99,95,53,54,48,49,45,49,57,56,55], [107,115,95,99,95,53,54,48,49,45,49,57,56,57], [107,115,99,53,54,48,49], [107,115,99,95,53,54,48,49], [119,105,110,100,111,119,115,45,57,52,57]],
  [[114,101,112,108,97,99,101,109,101,110,116], [99,115,105,115,111,50,48,50,50,107,114], [104,122,45,103,98,45,50,51,49,50], [105,115,111,45,50,48,50,50,45,99,110], [105,115,111,45,50,48,50,50,45,99,110,45,101,120,116], [105,115,111,45,50,48,50,50,45,107,114], [114,101,112,108,97,99,101,109,101,110,116]],
  [[85,84,70,45,49,54,66,69], [117,110,105,99,111,100,101,102,102,102,101], [117,116,102,45,49,54,98,101]],
  [[85,84,70,45,49,54,76,69], [99,115,117,110,105,99,111,100,101], [105,115,111,45,49,48,54,52,54,45,117,99,115,45,50], [117,99,115,45,50], [117,110,105,99,111,100,101], [117,110,105,99,111,100,101,102,101,102,102], [117,116,102,45,49,54], [117,116,102,45,49,54,108,101]],
  [[120,45,117,115,101,114,45,100,101,102,105,110,101,100], [120,45,117,115,101,114,45,100,101,102,105,110,101,100]]]
theorem rowsT_eq : rowsM.map splitL = rowsT := by decide +kernel
noncomputable def encT (w : List Nat) : List (List (List Nat)) → Option (List Nat)
  | [] => none
  | r :: rs => if (r.drop 1).contains w then some (r.getD 0 []) else encT w rs
theorem encT_eq (w : List Nat) : ∀ rs : List (List Nat), encR w rs = encT w (rs.map splitL)
  | [] => rfl
  | r :: rs => by rw [encR_cons, List.map_cons, encT, encT_eq w rs]
noncomputable def trimM (l : List Nat) : List Nat := (cutL l (some (run isSp l 0)) (some (endM l (run isSp l 0) l.length))).map lo1
theorem enc_eq (l : List Nat) : encodingM l = encT (trimM l) rowsT := by
  unfold encodingM trimM
  rw [encT_eq, rowsT_eq]
noncomputable def orN (n : List Nat) : Option (List Nat) := if (n == []) = true then none else some n
noncomputable def labL : List (List Nat × List Nat) := [([117, 116, 102, 45, 56], [85, 84, 70, 45, 56]), ([107, 111, 105, 56, 45, 114], [75, 79, 73, 56, 45, 82]), ([117, 116, 102, 45, 49, 54], [85, 84, 70, 45, 49, 54, 76, 69]), ([108, 97, 116, 105, 110, 49], [119, 105, 110, 100, 111, 119, 115, 45, 49, 50, 53, 50]), ([120, 45, 117, 115, 101, 114, 45, 100, 101, 102, 105, 110, 101, 100], [120, 45, 117, 115, 101, 114, 45, 100, 101, 102, 105, 110, 101, 100]), ([110, 111, 117, 103, 104, 116], []), ([115, 106, 105, 115], [83, 104, 105, 102, 116, 95, 74, 73, 83]), ([117, 116, 102, 45, 49, 54, 98, 101], [85, 84, 70, 45, 49, 54, 66, 69]), ([105, 115, 111, 45, 56, 56, 53, 57, 45, 57], [119, 105, 110, 100, 111, 119, 115, 45, 49, 50, 53, 52]), ([98, 105, 103, 53], [66, 105, 103, 53]), ([99, 115, 105, 115, 111, 108, 97, 116, 105, 110, 99, 121, 114, 105, 108, 108, 105, 99], [73, 83, 79, 45, 56, 56, 53, 57, 45, 53])]
theorem labL_eq : labelsM = labL := by decide +kernel
theorem enc_lab : ∀ p ∈ labelsM, encodingM p.1 = orN p.2 := by
  rw [labL_eq]
  simp only [enc_eq]
  decide +kernel
theorem enc_wish : ∀ p ∈ labelsM, ∀ w ∈ [0, 1, 2], encodingM (casedM p.1 w) = orN p.2 ∧ encodingM ([9] ++ casedM p.1 w ++ [32, 13, 10, 12]) = orN p.2 := by
  rw [labL_eq]
  simp only [enc_eq]
  decide +kernel
theorem enc_nil : encodingM [] = none := by rw [enc_eq]; decide +kernel
end
section
theorem tx_html : tx "text/html;charset=" = [116, 101, 120, 116, 47, 104, 116, 109, 108, 59, 99, 104, 97, 114, 115, 101, 116, 61] := by decide +kernel
theorem tx_acs : tx "acharset; charset = " = [97, 99, 104, 97, 114, 115, 101, 116, 59, 32, 99, 104, 97, 114, 115, 101, 116, 32, 61, 32] := by decide +kernel
theorem tx_sx : tx " ;x" = [32, 59, 120] := by decide +kernel
theorem tx_ct : tx "content-type" = [99, 111, 110, 116, 101, 110, 116, 45, 116, 121, 112, 101] := by decide +kernel
theorem tx_chs : tx "charset=" = [99, 104, 97, 114, 115, 101, 116, 61] := by decide +kernel
theorem tx_html0 : tx "text/html" = [116, 101, 120, 116, 47, 104, 116, 109, 108] := by decide +kernel
theorem tx_ref : tx "refresh;charset=" = [114, 101, 102, 114, 101, 115, 104, 59, 99, 104, 97, 114, 115, 101, 116, 61] := by decide +kernel
theorem tx_he : tx "http-equiv" = [104, 116, 116, 112, 45, 101, 113, 117, 105, 118] := by decide +kernel
theorem tx_con : tx "content" = [99, 111, 110, 116, 101, 110, 116] := by decide +kernel
theorem tx_cha : tx "charset" = [99, 104, 97, 114, 115, 101, 116] := by decide +kernel
theorem tx_nam : tx "name" = [110, 97, 109, 101] := by decide +kernel
theorem tx_prag : tx "pragma" = [112, 114, 97, 103, 109, 97] := by decide +kernel
theorem tx_nil : tx "" = [] := by decide +kernel
theorem tx_u8 : tx "UTF-8" = [85, 84, 70, 45, 56] := by decide +kernel
theorem tx_u16l : tx "UTF-16LE" = [85, 84, 70, 45, 49, 54, 76, 69] := by decide +kernel
theorem tx_u16b : tx "UTF-16BE" = [85, 84, 70, 45, 49, 54, 66, 69] := by decide +kernel
theorem tx_xud : tx "x-user-defined" = [120, 45, 117, 115, 101, 114, 45, 100, 101, 102, 105, 110, 101, 100] := by decide +kernel
theorem tx_w12 : tx "windows-1252" = [119, 105, 110, 100, 111, 119, 115, 45, 49, 50, 53, 50] := by decide +kernel
theorem tx_meta : tx "<meta" = [60, 109, 101, 116, 97] := by decide +kernel
theorem tx_eq : tx "=" = [61] := by decide +kernel
noncomputable def toldT (l : List Nat) (i : Nat) : Option (List Nat) :=
  if (decide (i < l.length) && [[34], [39]].contains [l.getD i 0]) = true then
    let e := run (fun x => [x] != [l.getD i 0]) l (i + 1)
    if decide (l.length ≤ e) = true then none else encT (trimM (cutL l (some (i + 1)) (some e))) rowsT
  else
    let e := run (fun x => [x] != [59] && !isSp x) l i
    encT (trimM (cutL l (some i) (some e))) rowsT
theorem told_eq (l : List Nat) (i : Nat) : toldM l i = toldT l i := by
  unfold toldM toldT
  rw [show tx "\"" = [34] by decide +kernel, show tx "'" = [39] by decide +kernel, show tx ";" = [59] by decide +kernel]
  simp only [enc_eq]
noncomputable def contT (l : List Nat) : Nat → Nat → Option (List Nat)
  | 0, _ => none
  | f + 1, a => if decide (a + 7 ≤ l.length) = true then
      if (cutL l (some a) (some (a + 7)) != [99, 104, 97, 114, 115, 101, 116]) = true then contT l f (a + 1) else
      if (cutL l (some (run isSp l (a + 7))) (some (run isSp l (a + 7) + 1)) == [61]) = true then toldT l (run isSp l (run isSp l (a + 7) + 1)) else contT l f (run isSp l (a + 7))
    else none
theorem cont_eq (l : List Nat) : ∀ f a, contentR l f a = contT l f a
  | 0, _ => rfl
  | f + 1, a => by
    rw [contentR_succ, contT, tx_cha, tx_eq, cont_eq l f, cont_eq l f, told_eq]
theorem contM_eq (t : List Nat) : contentM t = contT (t.map lo1) ((t.map lo1).length + 1) 0 := cont_eq _ _ _
theorem cont_lab : ∀ p ∈ labelsM, contentM ([116, 101, 120, 116, 47, 104, 116, 109, 108, 59, 99, 104, 97, 114, 115, 101, 116, 61] ++ p.1) = orN p.2 ∧ contentM ([97, 99, 104, 97, 114, 115, 101, 116, 59, 32, 99, 104, 97, 114, 115, 101, 116, 32, 61, 32] ++ p.1 ++ [32, 59, 120]) = orN p.2 := by
  rw [labL_eq]
  simp only [contM_eq]
  decide +kernel
theorem cont_html : contentM [116, 101, 120, 116, 47, 104, 116, 109, 108] = none := by rw [contM_eq]; decide +kernel
end
section
theorem cased_mem {l : List Nat} {w : Nat} {y : Nat} (h : y ∈ casedM l w) : ∃ x ∈ l, y = x ∨ y = up1 x := by
  unfold casedM at h
  split at h
  · obtain ⟨x, hx, rfl⟩ := List.mem_map.mp h; exact ⟨x, hx, .inr rfl⟩
  · split at h
    · unfold altM at h
      obtain ⟨i, hi, rfl⟩ := List.mem_map.mp h
      have hil := List.mem_range.mp hi
      refine ⟨_, getD_mem (d := 0) hil, ?_⟩
      split
      · exact .inr rfl
      · exact .inl rfl
    · exact ⟨y, h, .inl rfl⟩
theorem cased_all {l : List Nat} (w : Nat) (P : Nat → Bool) (h : (l.all fun x => P x && P (up1 x)) = true) : ∀ y ∈ casedM l w, P y = true := by
  intro y hy
  obtain ⟨x, hx, e⟩ := cased_mem hy
  have := List.all_eq_true.mp h x hx
  rw [Bool.and_eq_true] at this
  rcases e with rfl | rfl
  · exact this.1
  · exact this.2
noncomputable def lowOk (l : List Nat) : Bool := l.all fun x => lo1 x == x && lo1 (up1 x) == x
theorem cased_lo {l : List Nat} (w : Nat) (h : lowOk l = true) : (casedM l w).map lo1 = l := by
  have hl : ∀ x ∈ l, lo1 x = x ∧ lo1 (up1 x) = x := by
    intro x hx
    have := List.all_eq_true.mp h x hx
    rw [Bool.and_eq_true, beq_iff_eq, beq_iff_eq] at this
    exact this
  unfold casedM
  split
  · rw [List.map_map]
    conv => rhs; rw [← List.map_id l]
    exact List.map_congr_left fun x hx => (hl x hx).2
  · split
    · unfold altM
      rw [List.map_map]
      apply List.ext_getElem
      · simp
      · intro i h1 h2
        rw [List.getElem_map, List.getElem_range]
        have e : l.getD i 0 = l[i] := by rw [List.getD_eq_getElem?_getD, List.getElem?_eq_getElem h2]; rfl
        have := hl _ (List.getElem_mem h2)
        show lo1 (if (i % 2 == 0) = true then up1 (l.getD i 0) else l.getD i 0) = l[i]
        rw [e]
        split
        · exact this.2
        · exact this.1
    · conv => rhs; rw [← List.map_id l]
      exact List.map_congr_left fun x hx => (hl x hx).1
theorem dw_app {p : Nat → Bool} : ∀ {a : List Nat}, (∀ x ∈ a, p x = true) → ∀ b, (a ++ b).dropWhile p = b.dropWhile p
  | [], _, b => rfl
  | c :: a, h, b => by
    rw [List.cons_append, List.dropWhile_cons, if_pos (h c (.head _))]
    exact dw_app (fun x hx => h x (.tail _ hx)) b
theorem tw_app {p : Nat → Bool} : ∀ {a : List Nat}, (∀ x ∈ a, p x = true) → ∀ b, (a ++ b).takeWhile p = a ++ b.takeWhile p
  | [], _, b => rfl
  | c :: a, h, b => by
    rw [List.cons_append, List.takeWhile_cons, if_pos (h c (.head _)), tw_app (fun x hx => h x (.tail _ hx)) b]
    rfl
theorem dw_stop {p : Nat → Bool} {c : Nat} {s : List Nat} (h : p c = false) : (c :: s).dropWhile p = c :: s := by
  rw [List.dropWhile_cons, if_neg (by rw [h]; exact Bool.false_ne_true)]
theorem tw_stop {p : Nat → Bool} {c : Nat} {s : List Nat} (h : p c = false) : (c :: s).takeWhile p = [] := by
  rw [List.takeWhile_cons, if_neg (by rw [h]; exact Bool.false_ne_true)]
/-- where a bare name or value may end -/
noncomputable def Stop (R : List Nat) : Prop := (∃ c t, R = c :: t ∧ g62 c = false) ∧ ∃ e t, R.dropWhile gs = e :: t ∧ (e == 61) = false
theorem g62_nm {c : Nat} (h : g62 c = false) : nmS c = false := by
  simp [nmS, g62] at h ⊢; omega
noncomputable def keyOk (k : List Nat) : Bool := !k.isEmpty && lowOk k && k.all fun x => nmS x && nmS (up1 x)
noncomputable def q34 : Nat → Bool := fun x => x != 34 && x != 39
noncomputable def valOk (v : List Nat) : Bool := lowOk v && v.all fun x => q34 x && q34 (up1 x)
noncomputable def bareOk (v : List Nat) : Bool := v.all fun x => g62 x && g62 (up1 x)
theorem keys_ok : (keysM.all keyOk) = true := by decide +kernel
theorem vals_ok : (labL.all fun p => (List.range 8).all fun k => valOk ((valsM p.1).getD k []) && (k == 7 || bareOk ((valsM p.1).getD k [])) && (k == 6 || !((valsM p.1).getD k []).isEmpty)) = true := by decide +kernel
theorem nm_gsl {c : Nat} (h : nmS c = true) : gsl c = false := by
  simp [nmS, gsl] at h ⊢; omega
theorem nm_62 {c : Nat} (h : nmS c = true) : (c == 62) = false := by
  simp [nmS] at h ⊢; omega
theorem sep_gsl (sp nth : Nat) (b : Bool) (h : sp < 6) : ∀ x ∈ sepM sp nth b, gsl x = true := by
  have h1 := (by decide +kernel : ∀ g ∈ sepsM, ∀ x ∈ g, gsl x = true) _ (getD_mem (l := sepsM) (d := []) (n := sp) h)
  unfold sepM
  split
  · decide +kernel
  · split
    · decide +kernel
    · exact h1
theorem att_bare {K R : List Nat} {c : Nat} (hc : nmS c = true) (hK : ∀ x ∈ K, nmS x = true) (hR : Stop R) : ∃ R', attC (c :: K ++ R) = some ((c :: K).map lo1, [], R') ∧ R'.dropWhile gsl = R.dropWhile gsl := by
  obtain ⟨⟨z, t, rfl, hz⟩, ⟨e, t2, he, he2⟩⟩ := hR
  refine ⟨e :: t2, ?_, ?_⟩
  · rw [List.cons_append]
    unfold attC
    dsimp only
    rw [nm_62 hc]
    simp only [Bool.false_eq_true, if_false]
    rw [dw_app hK, dw_stop (g62_nm hz), he, tw_app hK, tw_stop (g62_nm hz), List.append_nil]
    dsimp only
    have : (e != 61) = true := by rw [bne, he2]; rfl
    rw [if_pos this]
  · rw [← he]
    have : ∀ s : List Nat, (s.dropWhile gs).dropWhile gsl = s.dropWhile gsl := by
      intro s
      induction s with
      | nil => rfl
      | cons x s ih =>
        rw [List.dropWhile_cons]
        split
        · rename_i hx
          rw [ih]
          have : gsl x = true := by simp [gs, gsl] at hx ⊢; omega
          rw [List.dropWhile_cons (x := x) (p := gsl), if_pos this]
        · rfl
    exact this _
theorem att_eq {K G Z : List Nat} {c : Nat} (hc : nmS c = true) (hK : ∀ x ∈ K, nmS x = true) (hG : ∀ x ∈ G, gs x = true) :
    attC (c :: K ++ (G ++ 61 :: Z)) = match Z.dropWhile gs with
      | [] => none
      | q :: s7 => if [34, 39].contains q then
          (match s7.dropWhile (fun x => ![q].contains x) with
           | [] => none
           | _ :: s8 => some ((c :: K).map lo1, (s7.takeWhile (fun x => ![q].contains x)).map lo1, s8))
        else (match (q :: s7).dropWhile g62 with
           | [] => none
           | t :: s8 => some ((c :: K).map lo1, ((q :: s7).takeWhile g62).map lo1, t :: s8)) := by
  rw [List.cons_append]
  have hst : ∃ z t, G ++ 61 :: Z = z :: t ∧ nmS z = false := by
    cases G with
    | nil => exact ⟨61, Z, rfl, by decide⟩
    | cons g G =>
      refine ⟨g, _, rfl, ?_⟩
      have := hG g (.head _)
      simp [gs, nmS] at this ⊢; omega
  obtain ⟨z, t, hz, hz2⟩ := hst
  have hd : (K ++ (G ++ 61 :: Z)).dropWhile nmS = G ++ 61 :: Z := by rw [dw_app hK, hz, dw_stop hz2]
  have ht : (K ++ (G ++ 61 :: Z)).takeWhile nmS = K := by rw [tw_app hK, hz, tw_stop hz2, List.append_nil]
  rw [attC]
  rw [nm_62 hc]
  simp only [Bool.false_eq_true, if_false]
  rw [hd, ht, dw_app hG, dw_stop (show gs 61 = false by decide)]
  dsimp only
  rw [if_neg (by decide)]
  all_goals rfl
theorem att_read {kind way kc vc g sp nth : Nat} {b : Bool} {lb : List Nat} {R : List Nat} (hk : kind < 8) (hw : way < 3) (hg : g < 4) (hs : sp < 6) (hl : ∃ nm, (lb, nm) ∈ labelsM) (h7 : kind = 7 → way ≠ 0) (hR : way = 0 → Stop R) :
    ∃ R', attS (attrT kind way kc vc g sp nth b lb ++ R) = some (keysM.getD kind [], (valsM lb).getD kind [], R') ∧ R'.dropWhile gsl = R.dropWhile gsl := by
  obtain ⟨nm, hl⟩ := hl
  rw [labL_eq] at hl
  have hv := List.all_eq_true.mp (List.all_eq_true.mp vals_ok _ hl) kind (List.mem_range.mpr hk)
  have hky := List.all_eq_true.mp keys_ok _ (getD_mem (l := keysM) (d := []) (n := kind) hk)
  have hsep := sep_gsl sp nth b hs
  have hgap := (by decide +kernel : ∀ g ∈ gapsM, ∀ x ∈ g, gs x = true) _ (getD_mem (l := gapsM) (d := []) (n := g) hg)
  unfold attrT
  dsimp only at hv ⊢
  generalize (valsM lb).getD kind [] = v at hv
  generalize keysM.getD kind [] = key at hky
  generalize sepM sp nth b = sep at hsep
  generalize gapsM.getD g [] = gap at hgap
  rw [Bool.and_eq_true, Bool.and_eq_true] at hv
  obtain ⟨⟨hv1, hv2⟩, hv3⟩ := hv
  unfold valOk at hv1
  rw [Bool.and_eq_true] at hv1
  unfold keyOk at hky
  rw [Bool.and_eq_true, Bool.and_eq_true] at hky
  obtain ⟨⟨hk1, hk2⟩, hk3⟩ := hky
  have hKl := cased_lo kc hk2
  have hKn := cased_all kc nmS hk3
  have hVl := cased_lo vc hv1.1
  have hVq := cased_all vc q34 hv1.2
  have hVn : casedM v vc = [] → v = [] := by
    intro e
    have := casedM_len v vc
    rw [e] at this
    exact List.eq_nil_of_length_eq_zero this.symm
  generalize hK : casedM key kc = K at hKl hKn
  generalize hV : casedM v vc = V at hVl hVq hVn
  have hK0 : ∃ c K', K = c :: K' := by
    cases K with
    | nil =>
      have := casedM_len key kc
      rw [hK] at this
      have e : key = [] := List.eq_nil_of_length_eq_zero this.symm
      rw [e] at hk1; cases hk1
    | cons c K' => exact ⟨c, K', rfl⟩
  obtain ⟨c, K', rfl⟩ := hK0
  have hc := hKn c (.head _)
  have hK' : ∀ x ∈ K', nmS x = true := fun x hx => hKn x (.tail _ hx)
  have hdrop : ∀ Y, attS (sep ++ (c :: K' ++ Y)) = attC (c :: K' ++ Y) := by
    intro Y
    unfold attS
    rw [dw_app hsep, List.cons_append, dw_stop (nm_gsl hc)]
  rw [tx_nil, tx_eq]
  by_cases hw0 : way = 0
  · subst hw0
    have hR := hR rfl
    have hq : quotM.getD 0 [] = [] := by decide +kernel
    rw [hq]
    by_cases hv0 : V = []
    · subst hv0
      rw [if_neg (by decide), List.append_assoc, hdrop]
      obtain ⟨R', e1, e2⟩ := att_bare hc hK' hR
      refine ⟨R', ?_, e2⟩
      rw [e1, hKl, hVn rfl]
    · obtain ⟨z, V', rfl⟩ := List.exists_cons_of_ne_nil hv0
      rw [if_pos (by simp)]
      have hk7 : ¬ kind = 7 := fun q => h7 q rfl
      have hb : bareOk v = true := by
        rw [Bool.or_eq_true] at hv2
        rcases hv2 with q | q
        · exact absurd (by simpa using q) hk7
        · exact q
      have hVb := cased_all vc g62 hb
      rw [hV] at hVb
      have hz := hVb z (.head _)
      have hzq := hVq z (.head _)
      have e : sep ++ (c :: K') ++ gap ++ [61] ++ gap ++ [] ++ (z :: V') ++ [] ++ R = sep ++ (c :: K' ++ (gap ++ 61 :: (gap ++ (z :: V' ++ R)))) := by simp
      rw [e, hdrop, att_eq hc hK' hgap]
      have hgz : gs z = false := by simp [g62, gs] at hz ⊢; omega
      rw [dw_app hgap, List.cons_append, dw_stop hgz]
      dsimp only
      have hn : [34, 39].contains z = false := by simp [q34] at hzq ⊢; omega
      rw [hn]
      simp only [Bool.false_eq_true, if_false]
      obtain ⟨⟨y, t, rfl, hy⟩, _⟩ := hR
      have e1 : (z :: (V' ++ y :: t)).dropWhile g62 = y :: t := by
        rw [← List.cons_append, dw_app hVb, dw_stop hy]
      have e2 : (z :: (V' ++ y :: t)).takeWhile g62 = z :: V' := by
        rw [← List.cons_append, tw_app hVb, tw_stop hy, List.append_nil]
      rw [e1, e2]
      refine ⟨y :: t, ?_, rfl⟩
      dsimp only
      rw [hKl, hVl]
  · have hq : ∃ q, quotM.getD way [] = [q] ∧ [34, 39].contains q = true ∧ gs q = false := by
      have : way = 1 ∨ way = 2 := by omega
      rcases this with rfl | rfl
      · exact ⟨34, by decide +kernel, by decide, by decide⟩
      · exact ⟨39, by decide +kernel, by decide, by decide⟩
    obtain ⟨q, hq1, hq2, hq3⟩ := hq
    rw [hq1, if_pos (by simp)]
    have e : sep ++ (c :: K') ++ gap ++ [61] ++ gap ++ [q] ++ V ++ [q] ++ R = sep ++ (c :: K' ++ (gap ++ 61 :: (gap ++ (q :: (V ++ q :: R))))) := by simp
    rw [e, hdrop, att_eq hc hK' hgap, dw_app hgap, dw_stop hq3]
    dsimp only
    rw [if_pos hq2]
    have hVq' : ∀ x ∈ V, (fun x => ![q].contains x) x = true := by
      intro x hx
      have := hVq x hx
      simp [q34] at this hq2 ⊢
      omega
    have hqq : (fun x => ![q].contains x) q = false := by simp
    rw [dw_app hVq', dw_stop hqq, tw_app hVq', tw_stop hqq, List.append_nil]
    refine ⟨R, ?_, rfl⟩
    dsimp only
    rw [hKl, hVl]
end
section
noncomputable def has (F : List (List Nat × List Nat)) (k : List Nat) : Bool := (F.map (·.1)).contains k
theorem has_app (F : List (List Nat × List Nat)) (k w k' : List Nat) : has (F ++ [(k, w)]) k' = (has F k' || k' == k) := by
  unfold has
  rw [List.map_append, List.contains_eq_any_beq, List.contains_eq_any_beq, List.any_append]
  simp
theorem getW_app (F : List (List Nat × List Nat)) (k w k' : List Nat) : getW (F ++ [(k, w)]) k' = if has F k' = true then getW F k' else if (k' == k) = true then w else [] := by
  induction F with
  | nil =>
    unfold getW has
    rw [List.nil_append, List.find?_cons]
    show ((match k == k' with | true => some (k, w) | false => [].find? _).getD ([], [])).2 = _
    cases h : k' == k with
    | true =>
      have e := eq_of_beq h
      subst e
      simp
    | false =>
      have : (k == k') = false := by
        rw [beq_eq_false_iff_ne] at h ⊢
        exact fun q => h q.symm
      rw [this]; rfl
  | cons p r ih =>
    unfold getW has at ih ⊢
    rw [List.cons_append, List.find?_cons]
    cases h : p.1 == k' with
    | true =>
      have e := eq_of_beq h
      rw [List.map_cons, List.contains_cons, e]
      simp only [beq_self_eq_true, Bool.true_or, if_true, List.find?_cons, h]
    | false =>
      have h2 : (k' == p.1) = false := by
        rw [beq_eq_false_iff_ne] at h ⊢
        exact fun q => h q.symm
      rw [List.map_cons, List.contains_cons, h2, Bool.false_or]
      simp only [List.find?_cons, h]
      exact ih
noncomputable abbrev kHe : List Nat := tx "http-equiv"
noncomputable abbrev kCo : List Nat := tx "content"
noncomputable abbrev kCh : List Nat := tx "charset"
noncomputable abbrev kNa : List Nat := tx "name"
noncomputable abbrev wPr : List Nat := tx "pragma"
noncomputable def hpF (F : List (List Nat × List Nat)) : Bool := has F kHe && getW F kHe == wPr
noncomputable def csF (F : List (List Nat × List Nat)) : Option (List Nat) := if has F kCh = true then some (getW F kCh) else if (has F kCo && getW F kCo != []) = true then some (getW F kCo) else none
noncomputable def npF (F : List (List Nat × List Nat)) : Option Bool := if has F kCh = true then some false else if (has F kCo && getW F kCo != []) = true then some true else none
noncomputable def stF (F : List (List Nat × List Nat)) : MS := ⟨F.map (·.1), hpF F, npF F, csF F⟩
theorem ne1 : (kHe == kCo) = false := by decide +kernel
theorem ne2 : (kHe == kCh) = false := by decide +kernel
theorem ne3 : (kCo == kCh) = false := by decide +kernel
theorem ne4 : (kNa == kHe) = false := by decide +kernel
theorem ne5 : (kNa == kCo) = false := by decide +kernel
theorem ne6 : (kNa == kCh) = false := by decide +kernel
theorem bsym {a b : List Nat} (h : (a == b) = false) : (b == a) = false := by
  rw [beq_eq_false_iff_ne] at h ⊢; exact fun q => h q.symm
theorem step_old {F : List (List Nat × List Nat)} {k v : List Nat} (h : has F k = true) : metaStep (stF F) k v = stF F := by
  unfold metaStep
  have : (!(stF F).seen.contains k) = false := by
    show (!(F.map (·.1)).contains k) = false
    unfold has at h; rw [h]; rfl
  rw [if_neg (by rw [this]; exact Bool.false_ne_true)]
theorem seen_new {F : List (List Nat × List Nat)} {k : List Nat} (h : has F k = false) : (!(stF F).seen.contains k) = true := by
  show (!(F.map (·.1)).contains k) = true
  unfold has at h; rw [h]; rfl
theorem stF_eq {F : List (List Nat × List Nat)} {k w : List Nat} {hp : Bool} {np : Option Bool} {cs : Option (List Nat)} (h1 : hp = hpF (F ++ [(k, w)])) (h2 : np = npF (F ++ [(k, w)])) (h3 : cs = csF (F ++ [(k, w)])) : (⟨(stF F).seen ++ [k], hp, np, cs⟩ : MS) = stF (F ++ [(k, w)]) := by
  subst h1 h2 h3
  unfold stF
  rw [List.map_append]
  rfl
theorem step_he {F : List (List Nat × List Nat)} {v w : List Nat} (h : has F kHe = false) (hv : (v == tx "content-type") = (w == wPr)) : metaStep (stF F) kHe v = stF (F ++ [(kHe, w)]) := by
  unfold metaStep
  rw [if_pos (seen_new h), if_pos (by decide +kernel)]
  refine stF_eq ?_ ?_ ?_
  · unfold hpF; rw [has_app, getW_app, h, hv]; simp
  · unfold stF npF; simp only [has_app, getW_app, bsym ne2, bsym ne1, Bool.or_false]
    cases has F kCh <;> cases has F kCo <;> simp
  · unfold stF csF; simp only [has_app, getW_app, bsym ne2, bsym ne1, Bool.or_false]
    cases has F kCh <;> cases has F kCo <;> simp
theorem step_na {F : List (List Nat × List Nat)} {v w : List Nat} (h : has F kNa = false) : metaStep (stF F) kNa v = stF (F ++ [(kNa, w)]) := by
  unfold metaStep
  rw [if_pos (seen_new h), if_neg (by rw [ne4]; exact Bool.false_ne_true), if_neg (by rw [ne5]; exact Bool.false_ne_true), if_neg (by rw [ne6]; exact Bool.false_ne_true)]
  refine stF_eq ?_ ?_ ?_
  · unfold stF hpF; rw [has_app, getW_app, bsym ne4]; cases has F kHe <;> simp
  · unfold stF npF; simp only [has_app, getW_app, bsym ne5, bsym ne6, Bool.or_false]
    cases has F kCh <;> cases has F kCo <;> simp
  · unfold stF csF; simp only [has_app, getW_app, bsym ne5, bsym ne6, Bool.or_false]
    cases has F kCh <;> cases has F kCo <;> simp
theorem step_ch {F : List (List Nat × List Nat)} {v w : List Nat} (h : has F kCh = false) (hv : (encodingM v).getD [] = w) : metaStep (stF F) kCh v = stF (F ++ [(kCh, w)]) := by
  unfold metaStep
  rw [if_pos (seen_new h), if_neg (by rw [bsym ne2]; exact Bool.false_ne_true), if_neg (by rw [bsym ne3]; exact Bool.false_ne_true), if_pos (by decide +kernel)]
  refine stF_eq ?_ ?_ ?_
  · unfold stF hpF; rw [has_app, getW_app, ne2]; cases has F kHe <;> simp
  · unfold npF; rw [has_app]; simp
  · unfold csF; rw [has_app, getW_app, h, hv]; simp
theorem step_co {F : List (List Nat × List Nat)} {v w : List Nat} (h : has F kCo = false) (hv : contentM v = orN w) : metaStep (stF F) kCo v = stF (F ++ [(kCo, w)]) := by
  unfold metaStep
  rw [if_pos (seen_new h), if_neg (by rw [bsym ne1]; exact Bool.false_ne_true)]
  have hcs : (stF F).cs.isNone = !has F kCh := by
    unfold stF csF
    dsimp only
    rw [h]
    cases has F kCh <;> rfl
  cases hc : has F kCh with
  | true =>
    rw [hcs, hc]
    rw [if_neg (by decide +kernel), if_neg (by rw [ne3]; exact Bool.false_ne_true)]
    refine stF_eq ?_ ?_ ?_
    · unfold stF hpF; rw [has_app, getW_app, ne1]; cases has F kHe <;> simp
    · unfold stF npF; simp only [has_app, hc, Bool.true_or, if_true]
    · unfold stF csF; simp only [has_app, getW_app, hc, Bool.true_or, if_true]
  | false =>
    rw [hcs, hc]
    rw [if_pos (by decide +kernel)]
    have hnp : (stF F).np = none := by
      unfold stF npF; dsimp only; rw [hc, h]; rfl
    refine stF_eq ?_ ?_ ?_
    · unfold stF hpF; rw [has_app, getW_app, ne1]; cases has F kHe <;> simp
    · rw [hv, hnp]
      unfold npF; simp only [has_app, getW_app, hc, h, bsym ne3, beq_self_eq_true, Bool.or_false, Bool.false_or, Bool.or_true, Bool.true_and, if_true, Bool.false_eq_true, if_false]
      unfold orN
      cases hw : w == [] <;> simp [bne, hw]
    · rw [hv]
      unfold csF; simp only [has_app, getW_app, hc, h, bsym ne3, beq_self_eq_true, Bool.or_false, Bool.false_or, Bool.or_true, Bool.true_and, if_true, Bool.false_eq_true, if_false]
      unfold orN
      cases hw : w == [] <;> simp [bne, hw]
noncomputable def addF (F : List (List Nat × List Nat)) (k w : List Nat) : List (List Nat × List Nat) := if (!has F k) = true then F ++ [(k, w)] else F
theorem step_kind {F : List (List Nat × List Nat)} {kind : Nat} (hk : kind < 8) {L : List Nat × List Nat} (hl : L ∈ labelsM) : metaStep (stF F) (keysM.getD kind []) ((valsM L.1).getD kind []) = stF (addF F (keysM.getD kind []) ((worthM L.2).getD kind [])) := by
  unfold addF
  cases hh : has F (keysM.getD kind []) with
  | true =>
    rw [if_neg (by decide)]
    exact step_old hh
  | false =>
  rw [if_pos (by decide)]
  obtain ⟨c1, c2⟩ := cont_lab L hl
  have c3 := enc_lab L hl
  have hkk : kind = 0 ∨ kind = 1 ∨ kind = 2 ∨ kind = 3 ∨ kind = 4 ∨ kind = 5 ∨ kind = 6 ∨ kind = 7 := by omega
  rcases hkk with rfl | rfl | rfl | rfl | rfl | rfl | rfl | rfl
  · exact step_he hh (show (tx "content-type" == tx "content-type") = (wPr == wPr) by decide +kernel)
  · refine step_co hh ?_
    show contentM (tx "text/html;charset=" ++ L.1) = orN L.2
    rw [tx_html]; exact c1
  · refine step_ch hh ?_
    show (encodingM L.1).getD [] = L.2
    rw [c3]
    unfold orN
    cases h : L.2 == [] with
    | true => rw [eq_of_beq h]; rfl
    | false => rfl
  · exact step_na hh
  · refine step_co hh ?_
    show contentM (tx "text/html") = orN (tx "")
    rw [tx_html0, cont_html, tx_nil]; rfl
  · refine step_he hh ?_
    show (tx "refresh;charset=" ++ L.1 == tx "content-type") = (tx "" == wPr)
    rw [tx_ref, tx_ct, show (tx "" == wPr) = false by decide +kernel]
    rfl
  · refine step_ch hh ?_
    show (encodingM (tx "")).getD [] = tx ""
    rw [tx_nil, enc_nil]; rfl
  · refine step_co hh ?_
    show contentM (tx "acharset; charset = " ++ L.1 ++ tx " ;x") = orN L.2
    rw [tx_acs, tx_sx]; exact c2
theorem fin_told (F : List (List Nat × List Nat)) (r : List Nat) : finS (stF F) (62 :: r) = orN (tellM (tell0 F)) := by
  have hcs : ∀ (c : List Nat) (st : MS), st.cs = some c → (c == []) = false → metaCs st = some (tellM c) ∧ (tellM c == []) = false := by
    intro c st h hc
    unfold metaCs tellM
    rw [h]
    have e1 : ([tx "UTF-16BE", tx "UTF-16LE"].map some).contains (some c) = [tx "UTF-16LE", tx "UTF-16BE"].contains c := by
      rw [List.contains_eq_any_beq, List.contains_eq_any_beq]
      show ((some c == some (tx "UTF-16BE")) || ((some c == some (tx "UTF-16LE")) || false)) = ((c == tx "UTF-16LE") || ((c == tx "UTF-16BE") || false))
      rw [show (some c == some (tx "UTF-16BE")) = (c == tx "UTF-16BE") from rfl, show (some c == some (tx "UTF-16LE")) = (c == tx "UTF-16LE") from rfl]
      cases (c == tx "UTF-16BE") <;> cases (c == tx "UTF-16LE") <;> rfl
    dsimp only
    rw [e1]
    cases hx : [tx "UTF-16LE", tx "UTF-16BE"].contains c with
    | true =>
      simp only [if_true]
      exact ⟨by decide +kernel, by decide +kernel⟩
    | false =>
      simp only [Bool.false_eq_true, if_false]
      rw [show (some c == some (tx "x-user-defined")) = (c == tx "x-user-defined") from rfl]
      cases hy : c == tx "x-user-defined" with
      | true =>
        simp only [if_true]
        exact ⟨trivial, by decide +kernel⟩
      | false => exact ⟨rfl, hc⟩
  have tn : tellM [] = [] := by decide +kernel
  unfold finS
  have t0 : tell0 F = if has F kCh = true then getW F kCh else if (has F kHe && (getW F kHe == wPr && has F kCo)) = true then getW F kCo else [] := by
    unfold tell0 has
    rw [tx_nil]
  rw [t0]
  cases hc : has F kCh with
  | true =>
    have e1 : (stF F).np = some false := by unfold stF npF; dsimp only; rw [hc]; rfl
    have e2 : (stF F).cs = some (getW F kCh) := by unfold stF csF; dsimp only; rw [hc]; rfl
    simp only [if_true]
    rw [e1, e2]
    cases hz : getW F kCh == [] with
    | true =>
      rw [eq_of_beq hz, tn, tx_nil]
      rfl
    | false =>
      obtain ⟨m1, m2⟩ := hcs _ _ e2 hz
      have : (some (getW F kCh) == some (tx "")) = false := by rw [tx_nil]; exact hz
      rw [this, m1]
      unfold orN
      rw [m2]
      rfl
  | false =>
  cases hd : (has F kCo && getW F kCo != []) with
  | true =>
    have e1 : (stF F).np = some true := by unfold stF npF; dsimp only; rw [hc, hd]; rfl
    have e2 : (stF F).cs = some (getW F kCo) := by unfold stF csF; dsimp only; rw [hc, hd]; rfl
    rw [Bool.and_eq_true] at hd
    have hz : (getW F kCo == []) = false := by
      have := hd.2
      unfold bne at this
      simpa using this
    simp only [Bool.false_eq_true, if_false]
    rw [e1, e2, hd.1, Bool.and_true]
    obtain ⟨m1, m2⟩ := hcs _ _ e2 hz
    have : (some (getW F kCo) == some (tx "")) = false := by rw [tx_nil]; exact hz
    rw [this, m1]
    show (if (false || (false || (false || (true && !hpF F)))) = true then none else some (tellM (getW F kCo))) = _
    unfold hpF
    cases hh : (has F kHe && getW F kHe == wPr) with
    | true =>
      simp only [if_true]
      unfold orN
      rw [m2]
      rfl
    | false =>
      simp only [Bool.false_eq_true, if_false]
      rw [tn]
      rfl
  | false =>
    have e1 : (stF F).np = none := by unfold stF npF; dsimp only; rw [hc, hd]; rfl
    simp only [Bool.false_eq_true, if_false]
    rw [e1]
    have : (if (has F kHe && (getW F kHe == wPr && has F kCo)) = true then getW F kCo else []) = [] := by
      split
      · rename_i h
        rw [Bool.and_eq_true, Bool.and_eq_true] at h
        rw [h.2.2, Bool.true_and] at hd
        unfold bne at hd
        have : (getW F kCo == []) = true := by simpa using hd
        exact eq_of_beq this
      · rfl
    rw [this, tn]
    rfl
end
section
noncomputable def RD (st : MS) (s : List Nat) : Option (List Nat) × List Nat := (finS (metaRS s.length st s).1 (tagT (metaRS s.length st s).2), tagT (metaRS s.length st s).2)
theorem RD_none {st : MS} {s : List Nat} (h : attS s = none) : RD st s = (finS st (tagT s), tagT s) := by
  unfold RD; rw [metaRS_none h]
theorem RD_some {st : MS} {s n v r : List Nat} (h : attS s = some (n, v, r)) : RD st s = RD (metaStep st n v) r := by
  have hr := att_lt h
  unfold RD
  obtain ⟨m, hm⟩ : ∃ m, s.length = m + 1 := ⟨s.length - 1, by omega⟩
  rw [hm, metaRS_some h, metaRS_fuel r.length _ r m r.length (Nat.le_refl _) (by omega) (Nat.le_refl _)]
theorem RD_cong {st : MS} {s s' : List Nat} (h : s.dropWhile gsl = s'.dropWhile gsl) : RD st s = RD st s' := by
  have ha : attS s = attS s' := by unfold attS; rw [h]
  cases e : attS s with
  | none =>
    have e' : attS s' = none := by rw [← ha]; exact e
    rw [RD_none e, RD_none e']
    have : tagT s = tagT s' := by unfold tagT; rw [h]
    rw [this]
  | some t =>
    obtain ⟨n, v, r⟩ := t
    have e' : attS s' = some (n, v, r) := by rw [← ha]; exact e
    rw [RD_some e, RD_some e']
theorem mRun_pre (ns : List Int) (at_ : Nat) (t0 : List Nat) (m : Nat) : (mRun ns at_ t0 m).text = t0 ++ (mRun ns at_ [] m).text ∧ (mRun ns at_ t0 m).firsts = (mRun ns at_ [] m).firsts ∧ (mRun ns at_ t0 m).bound = (mRun ns at_ [] m).bound := by
  induction m with
  | zero => exact ⟨(List.append_nil _).symm, rfl, rfl⟩
  | succ m ih =>
    obtain ⟨h1, h2, h3⟩ := ih
    rw [mRun_succ, mRun_succ]
    unfold mStep
    dsimp only
    rw [h1, h2, h3]
    exact ⟨List.append_assoc .., rfl, rfl⟩
theorem sep_first {sp nth : Nat} (hs : sp < 6) (hn : nth ≠ 0) : ∃ z t, sepM sp nth false = z :: t ∧ gs z = true := by
  have h0 : (nth == 0) = false := by simp [hn]
  unfold sepM
  rw [h0]
  simp only [Bool.and_false, Bool.false_eq_true, if_false]
  have : sp = 0 ∨ sp = 1 ∨ sp = 2 ∨ sp = 3 ∨ sp = 4 ∨ sp = 5 := by omega
  have key : ∀ l : List Nat, (match l with | z :: _ => gs z | [] => false) = true → ∃ z t, l = z :: t ∧ gs z = true := by
    intro l hl
    cases l with
    | nil => cases hl
    | cons z t => exact ⟨z, t, rfl, hl⟩
  apply key
  rcases this with rfl | rfl | rfl | rfl | rfl | rfl <;> decide +kernel
theorem sep_zero {sp : Nat} (b : Bool) (hs : sp < 6) : ∃ z t, sepM sp 0 b = z :: t ∧ gsl z = true := by
  have : sp = 0 ∨ sp = 1 ∨ sp = 2 ∨ sp = 3 ∨ sp = 4 ∨ sp = 5 := by omega
  have key : ∀ l : List Nat, (match l with | z :: _ => gsl z | [] => false) = true → ∃ z t, l = z :: t ∧ gsl z = true := by
    intro l hl
    cases l with
    | nil => cases hl
    | cons z t => exact ⟨z, t, rfl, hl⟩
  apply key
  rcases this with rfl | rfl | rfl | rfl | rfl | rfl <;> cases b <;> decide +kernel
theorem attrT_head {kind way kc vc g sp nth : Nat} {b : Bool} {lb R : List Nat} (hk : kind < 8) : ∃ c Y, attrT kind way kc vc g sp nth b lb ++ R = sepM sp nth b ++ c :: Y ∧ nmS c = true := by
  have hky := List.all_eq_true.mp keys_ok _ (getD_mem (l := keysM) (d := []) (n := kind) hk)
  unfold attrT
  dsimp only
  generalize keysM.getD kind [] = key at hky
  unfold keyOk at hky
  rw [Bool.and_eq_true, Bool.and_eq_true] at hky
  have hKn := cased_all kc nmS hky.2
  have hl := casedM_len key kc
  generalize casedM key kc = K at hKn hl
  cases K with
  | nil =>
    have e : key = [] := List.eq_nil_of_length_eq_zero hl.symm
    rw [e] at hky; exact absurd hky.1.1 (by decide)
  | cons c K =>
    have hc := hKn c (.head _)
    split
    · exact ⟨c, _, by simp only [List.append_assoc, List.cons_append]; rfl, hc⟩
    · exact ⟨c, _, by simp only [List.append_assoc, List.cons_append]; rfl, hc⟩
theorem stop_head {sep : List Nat} {c : Nat} {Y : List Nat} (hs : ∀ x ∈ sep, gsl x = true) (hc : nmS c = true) : ∃ e t, (sep ++ c :: Y).dropWhile gs = e :: t ∧ (e == 61) = false := by
  induction sep with
  | nil =>
    refine ⟨c, Y, dw_stop ?_, ?_⟩
    · simp [nmS, gs] at hc ⊢; omega
    · simp [nmS] at hc ⊢; omega
  | cons z sep ih =>
    rw [List.cons_append, List.dropWhile_cons]
    have hz := hs z (.head _)
    split
    · exact ih fun x hx => hs x (.tail _ hx)
    · rename_i h
      refine ⟨z, _, rfl, ?_⟩
      simp [gs, gsl] at hz h ⊢; omega
theorem attrM_stop {n : Int} {nth : Nat} {R : List Nat} (hn : nth ≠ 0) : Stop ((attrM n nth false).text ++ R) := by
  have hk8 : md (n + (nth : Int)) 8 < 8 := md_lt _ (by decide)
  have hs6 : md (dv (dv (dv (dv (dv n 8) 11) 3) 9) 4) 6 < 6 := md_lt _ (by decide)
  obtain ⟨c, Y, e, hc⟩ := attrT_head (way := wayM n (md (n + (nth : Int)) 8)) (kc := md (dv (dv (dv n 8) 11) 3) 3) (vc := md (dv (dv (dv (dv n 8) 11) 3) 3) 3) (g := md (dv (dv (dv (dv n 8) 11) 3) 9) 4) (sp := md (dv (dv (dv (dv (dv n 8) 11) 3) 9) 4) 6) (nth := nth) (b := false) (lb := (lab (dv n 8 + (nth : Int))).1) (R := R) hk8
  show Stop (attrT _ _ _ _ _ _ _ _ _ ++ R)
  rw [e]
  obtain ⟨z, t, hz, hz2⟩ := sep_first hs6 hn
  refine ⟨⟨z, t ++ c :: Y, by rw [hz]; rfl, ?_⟩, stop_head (sep_gsl _ _ _ hs6) hc⟩
  simp [gs, g62] at hz2 ⊢; omega
theorem run_read (ns : List Int) (at_ : Nat) : ∀ (m : Nat) (R : List Nat), (m ≠ 0 → (mRun ns at_ [] m).bound = false → Stop R) → RD (stF []) ((mRun ns at_ [] m).text ++ R) = RD (stF (mRun ns at_ [] m).firsts) R
  | 0, R, _ => rfl
  | m + 1, R, h => by
    rw [mRun_succ]
    rw [mRun_succ] at h
    have ih := run_read ns at_ m
    generalize mRun ns at_ [] m = S at ih h
    unfold mStep at h ⊢
    generalize hn : ns.getD (at_ + m) 0 = n at h ⊢
    dsimp only at h ⊢
    rw [List.append_assoc, ih]
    · have hk8 : md (n + (m : Int)) 8 < 8 := md_lt _ (by decide)
      have hw := wayM_lt n (md (n + (m : Int)) 8)
      have h7 : md (n + (m : Int)) 8 = 7 → wayM n (md (n + (m : Int)) 8) ≠ 0 := by
        intro e
        unfold wayM
        rw [e]
        simp
      have hst : wayM n (md (n + (m : Int)) 8) = 0 → Stop R := by
        intro e
        refine h (Nat.succ_ne_zero m) ?_
        show (quotM.getD (wayM n (md (n + (m : Int)) 8)) [] != tx "") = false
        rw [e]; decide +kernel
      obtain ⟨R', e1, e2⟩ := att_read (kind := md (n + (m : Int)) 8) (way := wayM n (md (n + (m : Int)) 8)) (kc := md (dv (dv (dv n 8) 11) 3) 3) (vc := md (dv (dv (dv (dv n 8) 11) 3) 3) 3) (g := md (dv (dv (dv (dv n 8) 11) 3) 9) 4) (sp := md (dv (dv (dv (dv (dv n 8) 11) 3) 9) 4) 6) (nth := m) (b := S.bound) (lb := (lab (dv n 8 + (m : Int))).1) (R := R)
        hk8 hw (md_lt _ (by decide)) (md_lt _ (by decide)) ⟨_, lab_mem _⟩ h7 hst
      show RD (stF S.firsts) (attrT _ _ _ _ _ _ _ _ _ ++ R) = _
      rw [RD_some e1, step_kind hk8 (lab_mem (dv n 8 + (m : Int))), RD_cong e2]
      rfl
    · intro hm hb
      rw [hb]
      exact attrM_stop hm
end
section
theorem head3 {w : Nat} (h : w < 3) : casedM (tx "<meta") w ∈ [[60, 109, 101, 116, 97], [60, 77, 69, 84, 65], [60, 109, 69, 116, 65]] := by
  have : w = 0 ∨ w = 1 ∨ w = 2 := by omega
  rcases this with rfl | rfl | rfl <;> decide +kernel
theorem ends3 {w : Nat} (h : w < 3) : endsM.getD w [] ∈ [[62], [32, 62], [32, 47, 62]] := by
  have : w = 0 ∨ w = 1 ∨ w = 2 := by omega
  rcases this with rfl | rfl | rfl <;> decide +kernel
theorem head_next {t0 : List Nat} (h : t0 ∈ [[60, 109, 101, 116, 97], [60, 77, 69, 84, 65], [60, 109, 69, 116, 65]]) {z : Nat} {s : List Nat} (hz : gsl z = true) :
    nextS (t0 ++ z :: s) = match (readS (z :: s)).1 with
      | some x => (some x, [])
      | none => (none, (readS (z :: s)).2.drop 1) := by
  have key : isMetaS (t0 ++ z :: s) = true ∧ ∃ u v w x, t0 = [60, u, v, w, x] := by
    simp only [List.mem_cons, List.not_mem_nil, or_false] at h
    rcases h with rfl | rfl | rfl
    · exact ⟨hz, _, _, _, _, rfl⟩
    · exact ⟨hz, _, _, _, _, rfl⟩
    · exact ⟨hz, _, _, _, _, rfl⟩
  obtain ⟨h1, u, v, w, x, rfl⟩ := key
  rw [List.cons_append] at h1 ⊢
  unfold nextS
  dsimp only
  rw [h1]
  rfl
theorem bare_m (r : List Nat) : hopS 1 ([60, 109, 101, 116, 97] ++ 62 :: r) = some r := by kernel_rfl
theorem bare_M (r : List Nat) : hopS 1 ([60, 77, 69, 84, 65] ++ 62 :: r) = some r := by kernel_rfl
theorem bare_x (r : List Nat) : hopS 1 ([60, 109, 69, 116, 65] ++ 62 :: r) = some r := by kernel_rfl
theorem ends_facts {E r : List Nat} (h : E ∈ [[62], [32, 62], [32, 47, 62]]) : Stop (E ++ r) ∧ (E ++ r).dropWhile gsl = 62 :: r := by
  simp only [List.mem_cons, List.not_mem_nil, or_false] at h
  rcases h with rfl | rfl | rfl
  · exact ⟨⟨⟨62, r, rfl, by decide⟩, 62, r, rfl, by decide⟩, rfl⟩
  · exact ⟨⟨⟨32, 62 :: r, rfl, by decide⟩, 62, r, rfl, by decide⟩, rfl⟩
  · exact ⟨⟨⟨32, 47 :: 62 :: r, rfl, by decide⟩, 47, 62 :: r, rfl, by decide⟩, rfl⟩
theorem run_head (ns : List Int) (at_ m : Nat) (R : List Nat) : ∃ z t, (mRun ns at_ [] (m + 1)).text ++ R = z :: t ∧ gsl z = true := by
  induction m generalizing R with
  | zero =>
    rw [mRun_succ]
    obtain ⟨z, t, hz, hz2⟩ := sep_zero (sp := md (dv (dv (dv (dv (dv (ns.getD (at_ + 0) 0) 8) 11) 3) 9) 4) 6) false (md_lt _ (by decide))
    obtain ⟨c, Y, e, _⟩ := attrT_head (way := wayM (ns.getD (at_ + 0) 0) (md (ns.getD (at_ + 0) 0 + ((0 : Nat) : Int)) 8)) (kc := md (dv (dv (dv (ns.getD (at_ + 0) 0) 8) 11) 3) 3) (vc := md (dv (dv (dv (dv (ns.getD (at_ + 0) 0) 8) 11) 3) 3) 3) (g := md (dv (dv (dv (dv (ns.getD (at_ + 0) 0) 8) 11) 3) 9) 4) (sp := md (dv (dv (dv (dv (dv (ns.getD (at_ + 0) 0) 8) 11) 3) 9) 4) 6) (nth := 0) (b := false) (lb := (lab (dv (ns.getD (at_ + 0) 0) 8 + ((0 : Nat) : Int))).1) (R := R) (kind := md (ns.getD (at_ + 0) 0 + ((0 : Nat) : Int)) 8) (md_lt _ (by decide))
    refine ⟨z, t ++ c :: Y, ?_, hz2⟩
    show ([] ++ attrT _ _ _ _ _ _ _ false _) ++ R = _
    rw [List.nil_append, e, hz]
    rfl
  | succ m ih =>
    rw [mRun_succ]
    show ∃ z t, (_ ++ _) ++ R = z :: t ∧ _
    rw [List.append_assoc]
    exact ih _
theorem meta_full (ns : List Int) (at_ : Nat) (n : Int) (r : List Nat) : SC ((metaM ns at_ n).1 ++ r) = match orN (metaM ns at_ n).2 with
    | some x => some x
    | none => SC r := by
  unfold metaM
  dsimp only
  have hh := head3 (w := md (dv n 4) 3) (md_lt _ (by decide))
  have hE := ends3 (w := md (dv n 12) 3) (md_lt _ (by decide))
  generalize casedM (tx "<meta") (md (dv n 4) 3) = t0 at hh
  generalize endsM.getD (md (dv n 12) 3) [] = E at hE
  obtain ⟨p1, p2, -⟩ := mRun_pre ns at_ t0 (3 - md n 4)
  rw [p1, p2]
  generalize 3 - md n 4 = j
  clear p1 p2
  obtain ⟨e1, e2⟩ := ends_facts (r := r) hE
  have hrd := run_read ns at_ j (E ++ r) (fun _ _ => e1)
  have hat : attS (E ++ r) = none := by unfold attS; rw [e2]; rfl
  have htg : tagT (E ++ r) = 62 :: r := by unfold tagT; rw [e2]; rfl
  rw [RD_none hat, htg, fin_told] at hrd
  have hst : stF [] = st0 := rfl
  have hgo : ∀ s, RD (stF []) s = readS s := by intro s; rw [hst]; rfl
  rw [hgo] at hrd
  have fin : ∀ z s, t0 ++ (mRun ns at_ [] j).text ++ E ++ r = t0 ++ z :: s → gsl z = true → z :: s = (mRun ns at_ [] j).text ++ (E ++ r) → SC (t0 ++ (mRun ns at_ [] j).text ++ E ++ r) = match orN (tellM (tell0 (mRun ns at_ [] j).firsts)) with
    | some x => some x
    | none => SC r := by
    intro z s h1 h2 h3
    rw [h1, SC_step, head_next hh h2, h3, hrd]
    dsimp only
    cases orN (tellM (tell0 (mRun ns at_ [] j).firsts)) with
    | some x => rfl
    | none => rfl
  cases j with
  | succ j =>
    obtain ⟨z, t, hz, hz2⟩ := run_head ns at_ j (E ++ r)
    exact fin z t (by rw [← hz]; simp only [List.append_assoc]) hz2 hz.symm
  | zero =>
    simp only [List.mem_cons, List.not_mem_nil, or_false] at hE
    rcases hE with rfl | rfl | rfl
    · have hn : orN (tellM (tell0 (mRun ns at_ [] 0).firsts)) = none := by
        show orN (tellM (tell0 [])) = none
        decide +kernel
      rw [hn]
      show SC (t0 ++ [] ++ [62] ++ r) = SC r
      have : t0 ++ [] ++ [62] ++ r = t0 ++ 62 :: r := by simp
      rw [this]
      simp only [List.mem_cons, List.not_mem_nil, or_false] at hh
      rcases hh with rfl | rfl | rfl
      · exact hopS_SC _ _ _ (bare_m r)
      · exact hopS_SC _ _ _ (bare_M r)
      · exact hopS_SC _ _ _ (bare_x r)
    · exact fin 32 (62 :: r) (by show t0 ++ [] ++ [32, 62] ++ r = _; simp) (by decide) rfl
    · exact fin 32 (47 :: 62 :: r) (by show t0 ++ [] ++ [32, 47, 62] ++ r = _; simp) (by decide) rfl
/-! cut short -/
theorem att_sub {s n v r : List Nat} (h : attS s = some (n, v, r)) : ∀ x ∈ r, x ∈ s := by
  obtain ⟨a, _, e, _⟩ := att_some (l := s) (i := 0) ⟨Nat.zero_le _, rfl⟩ h
  intro x hx
  rw [← e.eq] at hx
  exact List.mem_of_mem_drop hx
theorem metaRS_sub : ∀ (f : Nat) (st : MS) (s : List Nat), ∀ x ∈ (metaRS f st s).2, x ∈ s
  | 0, st, s, x, hx => hx
  | f + 1, st, s, x, hx => by
    cases e : attS s with
    | none => rw [metaRS_none e] at hx; exact hx
    | some t =>
      obtain ⟨n, v, r⟩ := t
      rw [metaRS_some e] at hx
      exact att_sub e x (metaRS_sub f _ r x hx)
theorem passRS_sub : ∀ (f : Nat) (s : List Nat), ∀ x ∈ passRS f s, x ∈ s
  | 0, s, x, hx => hx
  | f + 1, s, x, hx => by
    cases e : attS s with
    | none => rw [passRS_none e] at hx; exact hx
    | some t =>
      obtain ⟨n, v, r⟩ := t
      rw [passRS_some e] at hx
      exact att_sub e x (passRS_sub f r x hx)
theorem dw_sub {p : Nat → Bool} {s : List Nat} : ∀ x ∈ s.dropWhile p, x ∈ s := fun _ hx => (List.dropWhile_sublist p).subset hx
theorem tag_none {s : List Nat} (h : ∀ x ∈ s, x ≠ 62) : tagT s = [] := by
  unfold tagT
  have hs := dw_sub (p := gsl) (s := s)
  generalize s.dropWhile gsl = t at hs
  cases t with
  | nil => rfl
  | cons c r =>
    dsimp only
    rw [if_neg]
    have := h c (hs c (.head _))
    simpa using this
theorem noGt {s : List Nat} (h : ∀ x ∈ s, x ≠ 62) (hs : s = [] ∨ ∃ c t, s = c :: t ∧ isLet c = true) : SC (60 :: s) = none := by
  rw [SC_step]
  unfold nextS
  dsimp only
  rw [if_pos (by decide)]
  cases hm : isMetaS (60 :: s) with
  | true =>
    simp only [if_true]
    have h4 : ∀ x ∈ s.drop 4, x ≠ 62 := fun x hx => h x (List.mem_of_mem_drop hx)
    have ht : tagT (metaRS (s.drop 4).length st0 (s.drop 4)).2 = [] := tag_none fun x hx => h4 x (metaRS_sub _ _ _ x hx)
    have hr : readS (s.drop 4) = (none, []) := by
      unfold readS
      rw [ht]
      rfl
    rw [hr]
    rfl
  | false =>
    simp only [Bool.false_eq_true, if_false]
    have hp : passS (60 :: s) = [] ∨ passS (60 :: s) = [60] := by
      rcases hs with rfl | ⟨c, t, rfl, hc⟩
      · exact .inr (by decide)
      · left
        unfold passS
        have hc33 : c ≠ 33 := by intro q; subst q; revert hc; decide
        have hc47 : c ≠ 47 := by intro q; subst q; revert hc; decide
        have h1 : ((60 :: c :: t).take 4 == [60, 33, 45, 45]) = false := by
          rw [beq_eq_false_iff_ne]
          intro q
          have : (60 :: c :: t).take 4 = 60 :: c :: t.take 2 := rfl
          rw [this] at q
          injection q with _ q
          injection q with q _
          exact hc33 q
        rw [h1]
        simp only [Bool.false_eq_true, if_false]
        have h2 : slashS ((60 :: c :: t).drop 1) = c :: t := by
          show slashS (c :: t) = c :: t
          unfold slashS
          rw [if_neg]
          show ¬ ([c] == [47]) = true
          simpa using hc47
        rw [h2]
        dsimp only
        rw [if_pos hc]
        exact tag_none fun x hx => h x (dw_sub _ (passRS_sub _ _ x hx))
    rcases hp with e | e <;> rw [e] <;> rfl
theorem vals_n62 : (labL.all fun p => (List.range 8).all fun k => ((valsM p.1).getD k []).all fun x => (x != 62) && (up1 x != 62)) = true := by decide +kernel
theorem attrM_n62 (n : Int) (nth : Nat) (b : Bool) : ∀ x ∈ (attrM n nth b).text, (x != 62) = true := by
  unfold attrM
  dsimp only
  have hk8 : md (n + (nth : Int)) 8 < 8 := md_lt _ (by decide)
  generalize md (n + (nth : Int)) 8 = kind at hk8
  have hl := lab_mem (dv n 8 + (nth : Int))
  generalize lab (dv n 8 + (nth : Int)) = L at hl
  rw [labL_eq] at hl
  have hw3 := wayM_lt n kind
  generalize wayM n kind = way at hw3
  generalize dv (dv (dv n 8) 11) 3 = r
  have hg4 : md (dv r 9) 4 < gapsM.length := md_lt _ (by decide)
  have hs6 : md (dv (dv r 9) 4) 6 < sepsM.length := md_lt _ (by decide)
  have hq3 : way < quotM.length := hw3
  have hv := List.all_eq_true.mp (List.all_eq_true.mp vals_n62 _ hl) kind (List.mem_range.mpr hk8)
  have hk := (by decide +kernel : ∀ k ∈ keysM, (k.all fun x => (x != 62) && (up1 x != 62)) = true) _ (getD_mem (l := keysM) (d := []) (n := kind) hk8)
  have gl := (by decide +kernel : ∀ g ∈ gapsM, ∀ x ∈ g, (x != 62) = true) _ (getD_mem (d := []) hg4)
  have ql := (by decide +kernel : ∀ g ∈ quotM, ∀ x ∈ g, (x != 62) = true) _ (getD_mem (d := []) hq3)
  have sl : ∀ x ∈ sepM (md (dv (dv r 9) 4) 6) nth b, (x != 62) = true := by
    have := (by decide +kernel : ∀ g ∈ sepsM, ∀ x ∈ g, (x != 62) = true) _ (getD_mem (d := []) hs6)
    unfold sepM
    split
    · decide +kernel
    · split
      · decide +kernel
      · exact this
  have e1 : ∀ x ∈ tx "=", (x != 62) = true := by decide +kernel
  have kl := cased_all (md r 3) (fun x => x != 62) hk
  have vl := cased_all (md (dv r 3) 3) (fun x => x != 62) hv
  have app : ∀ {a b : List Nat}, (∀ x ∈ a, (x != 62) = true) → (∀ x ∈ b, (x != 62) = true) → ∀ x ∈ a ++ b, (x != 62) = true := fun h1 h2 x hx => (List.mem_append.mp hx).elim (h1 x) (h2 x)
  unfold attrT
  dsimp only
  split
  · exact app (app (app (app (app (app (app sl kl) gl) e1) gl) ql) vl) ql
  · exact app sl kl
theorem mRun_n62 (ns : List Int) (at_ m : Nat) : ∀ x ∈ (mRun ns at_ [] m).text, (x != 62) = true := by
  induction m with
  | zero => intro x hx; cases hx
  | succ m ih =>
    rw [mRun_succ]
    intro x hx
    exact (List.mem_append.mp hx).elim (ih x) (attrM_n62 _ _ _ x)
theorem meta_cut (ns : List Int) (at_ : Nat) (n : Int) {k : Nat} (hk : k < (metaM ns at_ n).1.length) : SC ((metaM ns at_ n).1.take k) = none := by
  unfold metaM at hk ⊢
  dsimp only at hk ⊢
  have hh := head3 (w := md (dv n 4) 3) (md_lt _ (by decide))
  have hE := ends3 (w := md (dv n 12) 3) (md_lt _ (by decide))
  generalize casedM (tx "<meta") (md (dv n 4) 3) = t0 at hh hk
  generalize endsM.getD (md (dv n 12) 3) [] = E at hE hk
  obtain ⟨p1, -, -⟩ := mRun_pre ns at_ t0 (3 - md n 4)
  rw [p1] at hk ⊢
  have hb := mRun_n62 ns at_ (3 - md n 4)
  generalize (mRun ns at_ [] (3 - md n 4)).text = B at hb hk
  have h0 : ∃ c u, t0 = 60 :: c :: u ∧ isLet c = true ∧ ∀ x ∈ c :: u, (x != 62) = true := by
    simp only [List.mem_cons, List.not_mem_nil, or_false] at hh
    rcases hh with rfl | rfl | rfl
    · exact ⟨109, [101, 116, 97], rfl, by decide, by decide⟩
    · exact ⟨77, [69, 84, 65], rfl, by decide, by decide⟩
    · exact ⟨109, [69, 116, 65], rfl, by decide, by decide⟩
  obtain ⟨c, u, rfl, hc, hu⟩ := h0
  have hE2 : ∃ E', E = E' ++ [62] ∧ ∀ x ∈ E', (x != 62) = true := by
    simp only [List.mem_cons, List.not_mem_nil, or_false] at hE
    rcases hE with rfl | rfl | rfl
    · exact ⟨[], rfl, by decide⟩
    · exact ⟨[32], rfl, by decide⟩
    · exact ⟨[32, 47], rfl, by decide⟩
  obtain ⟨E', rfl, hE'⟩ := hE2
  cases k with
  | zero => rfl
  | succ k =>
    have e : 60 :: c :: u ++ B ++ (E' ++ [62]) = 60 :: (c :: (u ++ B ++ E') ++ [62]) := by simp
    rw [e] at hk ⊢
    rw [List.take_succ_cons]
    have hk2 : k ≤ (c :: (u ++ B ++ E')).length := by
      rw [List.length_cons, List.length_append] at hk
      simp only [List.length_cons, List.length_nil] at hk ⊢
      omega
    rw [List.take_append_of_le_length hk2]
    refine noGt (fun x hx => ?_) ?_
    · have hx' := List.mem_of_mem_take hx
      have : (x != 62) = true := by
        rcases List.mem_cons.mp hx' with rfl | hx'
        · exact hu _ (.head _)
        · rcases List.mem_append.mp hx' with hx' | hx'
          · rcases List.mem_append.mp hx' with hx' | hx'
            · exact hu x (.tail _ hx')
            · exact hb x hx'
          · exact hE' x hx'
      simpa using this
    · cases k with
      | zero => exact .inl rfl
      | succ k => exact .inr ⟨c, _, List.take_succ_cons .., hc⟩
end
section
/-! declarations -/
noncomputable def dclT (p : List Nat × List Nat) (w way : Nat) : List Nat × List Nat :=
  let label := casedM p.1 w
  let name := to8 p.2
  if (way == 0) = true then (tx "<?xml version=\"1.0\" encoding=\"" ++ label ++ tx "\"?>", name) else
  if (way == 1) = true then (tx "<?xml encoding \x01= \x02'" ++ label ++ tx "' x=''?>", name) else
  if (way == 2) = true then (tx "<?xml encoding=\"" ++ label ++ tx "'?>", tx "") else
  if (way == 3) = true then (tx "<?xml encoding=" ++ label ++ tx "?>", tx "") else
  if (way == 4) = true then (tx "<?xml Encoding=\"" ++ label ++ tx "\"?>", tx "") else
  if (way == 5) = true then (tx "<?xml encoding=\"" ++ label ++ tx " \"?>", tx "") else
  (tx "<?XML encoding=\"" ++ label ++ tx "\"?>", tx "")
theorem declM_dcl (n : Int) : declM n = dclT (lab n) (md (dv n 77) 3) (md (dv n 11) 7) := rfl
noncomputable def xmlHT (h : List Nat) : Option (List Nat) :=
  let a2 := run low32 h (encE h h.length 5 + 8)
  if (cutL h (some a2) (some (a2 + 1)) != [61]) = true then none else
  let a3 := run low32 h (a2 + 1)
  if (!([[34], [39]] : List (List Nat)).contains (cutL h (some a3) (some (a3 + 1)))) = true then none else
  let e2 := run (fun x => ![h.getD a3 0].contains x) h (a3 + 1)
  if decide (h.length ≤ e2) = true then none else
  let w := cutL h (some (a3 + 1)) (some e2)
  if w.any low32 = true then none else
  if ([[85, 84, 70, 45, 49, 54, 66, 69], [85, 84, 70, 45, 49, 54, 76, 69]].map some).contains (encT (trimM (w.map lo1)) rowsT) = true then some [85, 84, 70, 45, 56] else encT (trimM (w.map lo1)) rowsT
theorem xmlH_eq (h : List Nat) : xmlH h = xmlHT h := by
  unfold xmlH xmlHT
  rw [tx_u16b, tx_u16l, tx_u8]
  simp only [enc_eq]
noncomputable def xmlT : List Nat := [60, 63, 120, 109, 108]
noncomputable def dclOk (d : List Nat × List Nat) : Bool :=
  d.1.take 2 == [60, 63] && d.1.getLastD 0 == 62 && (d.1.dropLast.all fun x => x != 62) && decide (6 ≤ d.1.length) && (if d.1.take 5 == xmlT then xmlHT d.1.dropLast == orN d.2 else d.2 == [])
theorem dcl_ok : (labL.all fun p => (List.range 3).all fun w => (List.range 7).all fun way => dclOk (dclT p w way)) = true := by decide +kernel
structure Dcl (D nm : List Nat) : Prop where
  sh : ∃ m, D = 60 :: 63 :: (m ++ [62]) ∧ (∀ x ∈ m, x ≠ 62)
  len : 6 ≤ D.length
  xml : (D.take 5 == xmlT) = true → xmlH D.dropLast = orN nm
  no : (D.take 5 == xmlT) = false → nm = []
theorem decl_dcl (n : Int) : Dcl (declM n).1 (declM n).2 := by
  rw [declM_dcl]
  have hl := lab_mem n
  rw [labL_eq] at hl
  have h := List.all_eq_true.mp (List.all_eq_true.mp (List.all_eq_true.mp dcl_ok _ hl) (md (dv n 77) 3) (List.mem_range.mpr (md_lt _ (by decide)))) (md (dv n 11) 7) (List.mem_range.mpr (md_lt _ (by decide)))
  generalize dclT (lab n) (md (dv n 77) 3) (md (dv n 11) 7) = d at h
  obtain ⟨D, nm⟩ := d
  unfold dclOk at h
  dsimp only at h ⊢
  simp only [Bool.and_eq_true, decide_eq_true_eq] at h
  obtain ⟨⟨⟨⟨h1, h2⟩, h3⟩, h4⟩, h5⟩ := h
  refine ⟨?_, h4, fun e => ?_, fun e => ?_⟩
  · have h1 := eq_of_beq h1
    have h2 := eq_of_beq h2
    match D, h1, h4 with
    | a :: b :: D2, h1, h4 =>
      injection h1 with q1 q2
      injection q2 with q2 q3
      have hne : D2 ≠ [] := by intro q; subst q; simp at h4
      refine ⟨D2.dropLast, ?_, fun x hx => ?_⟩
      · have hlast : D2.getLast hne = 62 := by
          have : (a :: b :: D2).getLastD 0 = D2.getLast hne := by
            rw [List.getLastD_cons, List.getLastD_cons, List.getLastD_eq_getLast?, List.getLast?_eq_some_getLast hne]; rfl
          rw [← this]; exact h2
        rw [q1, q2, ← hlast, List.dropLast_concat_getLast hne]
      · have : x ∈ (a :: b :: D2).dropLast := by
          rw [List.dropLast_cons_of_ne_nil (by simp), List.dropLast_cons_of_ne_nil hne]
          exact .tail _ (.tail _ hx)
        have := List.all_eq_true.mp h3 x this
        simpa using this
  · rw [if_pos e] at h5
    rw [xmlH_eq]; exact eq_of_beq h5
  · rw [if_neg (by rw [e]; exact Bool.false_ne_true)] at h5
    exact eq_of_beq h5
theorem n62_of {x : Nat} (h : x ≠ 62) : n62 x = true := by simp [n62]; exact h
theorem bang_next {m r : List Nat} (hm : ∀ x ∈ m, x ≠ 62) : nextS (60 :: 63 :: (m ++ r)) = (none, ((r).dropWhile n62).drop 1) := by
  unfold nextS
  dsimp only
  rw [if_pos (by decide)]
  have h1 : isMetaS (60 :: 63 :: (m ++ r)) = false := by
    unfold isMetaS
    rw [Bool.and_eq_false_iff]
    left
    rw [beq_eq_false_iff_ne]
    intro q
    have : ((60 :: 63 :: (m ++ r)).take 5).map lo1 = 60 :: 63 :: ((m ++ r).take 3).map lo1 := rfl
    rw [this] at q
    injection q with _ q
    injection q with q _
    revert q; decide
  rw [h1]
  simp only [Bool.false_eq_true, if_false]
  have h2 : passS (60 :: 63 :: (m ++ r)) = r.dropWhile n62 := by
    unfold passS
    rw [if_neg]
    · have : slashS ((60 :: 63 :: (m ++ r)).drop 1) = 63 :: (m ++ r) := rfl
      rw [this]
      dsimp only
      rw [if_neg (by decide)]
      unfold otherS
      have e1 : ((60 :: 63 :: (m ++ r)).drop 1) = 63 :: (m ++ r) := rfl
      have e2 : (63 :: (m ++ r)).take 1 = [63] := rfl
      rw [e1, e2, if_pos (by decide), List.dropWhile_cons, if_pos (by decide), dw_app fun x hx => n62_of (hm x hx)]
    · intro q
      have q := eq_of_beq q
      have : (60 :: 63 :: (m ++ r)).take 4 = 60 :: 63 :: (m ++ r).take 2 := rfl
      rw [this] at q
      injection q with _ q
      injection q with q _
      revert q; decide
  rw [h2]
/-- a text that the scan passes over -/
structure Skip (p : List Nat) : Prop where
  full : ∀ r, Nx r → SC (p ++ r) = SC r
  cut : ∀ k, k < p.length → SC (p.take k) = none
theorem Dcl.skip {D nm : List Nat} (h : Dcl D nm) : Skip D := by
  obtain ⟨m, rfl, hm⟩ := h.sh
  refine ⟨fun r _ => ?_, fun k hk => ?_⟩
  · have e : 60 :: 63 :: (m ++ [62]) ++ r = 60 :: 63 :: (m ++ 62 :: r) := by simp
    rw [e, SC_step, bang_next hm, dw_stop (by decide)]
    rfl
  · match k, hk with
    | 0, _ => rfl
    | 1, _ => rfl
    | k + 2, hk =>
      have hk' : k ≤ m.length := by
        simp only [List.length_cons, List.length_append, List.length_nil] at hk; omega
      have e : (60 :: 63 :: (m ++ [62])).take (k + 2) = 60 :: 63 :: (m.take k ++ []) := by
        rw [List.take_succ_cons, List.take_succ_cons, List.take_append_of_le_length hk', List.append_nil]
      rw [e, SC_step, bang_next fun x hx => hm x (List.mem_of_mem_take hx)]
      rfl
theorem skip_cons {c : Nat} (hc : (c == 60) = false) {p : List Nat} (h : Skip p) : Skip (c :: p) := by
  have hst : ∀ s, SC (c :: s) = SC s := by
    intro s
    rw [SC_step]
    unfold nextS
    dsimp only
    rw [if_neg (by rw [hc]; exact Bool.false_ne_true)]
  refine ⟨fun r hr => ?_, fun k hk => ?_⟩
  · rw [List.cons_append, hst]; exact h.full r hr
  · cases k with
    | zero => rfl
    | succ k => rw [List.take_succ_cons, hst]; exact h.cut k (by rw [List.length_cons] at hk; omega)
theorem skip_nil : Skip [] := ⟨fun _ _ => rfl, fun k hk => by simp at hk⟩
theorem sign1 : Skip [60, 0, 63, 0, 120, 0] := by
  refine ⟨fun r _ => hopS_SC 6 _ _ (by kernel_rfl), fun k hk => ?_⟩
  exact (by decide +kernel : ∀ k < 6, SC ([60, 0, 63, 0, 120, 0].take k) = none) k hk
theorem sign2 : Skip [0, 60, 0, 63, 0, 120] := by
  refine ⟨fun r _ => hopS_SC 6 _ _ (by kernel_rfl), fun k hk => ?_⟩
  exact (by decide +kernel : ∀ k < 6, SC ([0, 60, 0, 63, 0, 120].take k) = none) k hk
/-! the pad -/
theorem com_dots : ∀ (n : Nat) (x y : Nat) (r : List Nat), (y == 45) = false ∨ x = 45 ∧ y = 45 → comS (x :: y :: (List.replicate n 46 ++ [45, 45, 62] ++ r)) = 62 :: r
  | 0, x, y, r, h => by
    show comS (x :: y :: 45 :: 45 :: 62 :: r) = _
    rw [comS_three, if_pos, comS_three, if_pos, comS_three, if_neg]
    · decide
    · rcases h with h | ⟨rfl, rfl⟩
      · rw [bne, Bool.not_eq_true', beq_eq_false_iff_ne]
        intro q
        injection q with q _
        rw [q] at h; cases h
      · decide
    · rw [bne, Bool.not_eq_true', beq_eq_false_iff_ne]
      intro q
      injection q with _ q
      injection q with _ q
      injection q with q _
      revert q; decide
  | n + 1, x, y, r, h => by
    rw [List.replicate_succ]
    show comS (x :: y :: 46 :: (List.replicate n 46 ++ [45, 45, 62] ++ r)) = _
    rw [comS_three, if_pos, com_dots n y 46 r (.inl (by decide))]
    rw [bne, Bool.not_eq_true', beq_eq_false_iff_ne]
    intro q
    injection q with _ q
    injection q with _ q
    injection q with q _
    revert q; decide
theorem com_dots_cut : ∀ (n : Nat) (x y : Nat) (k : Nat), k ≤ n + 2 → (y == 45) = false ∨ x = 45 ∧ y = 45 → comS (x :: y :: (List.replicate n 46 ++ [45, 45, 62]).take k) = []
  | 0, x, y, k, hk, h => by
    match k, hk with
    | 0, _ => rfl
    | 1, _ =>
      show comS [x, y, 45] = []
      rw [comS_three, if_pos]
      · rfl
      · rw [bne, Bool.not_eq_true', beq_eq_false_iff_ne]
        intro q
        injection q with _ q
        injection q with _ q
        injection q with q _
        revert q; decide
    | 2, _ =>
      show comS [x, y, 45, 45] = []
      rw [comS_three, if_pos, comS_three, if_pos]
      · rfl
      · rw [bne, Bool.not_eq_true', beq_eq_false_iff_ne]
        intro q
        injection q with _ q
        injection q with _ q
        injection q with q _
        revert q; decide
      · rw [bne, Bool.not_eq_true', beq_eq_false_iff_ne]
        intro q
        injection q with _ q
        injection q with _ q
        injection q with q _
        revert q; decide
    | k + 3, hk => omega
  | n + 1, x, y, k, hk, h => by
    cases k with
    | zero => rfl
    | succ k =>
      rw [List.replicate_succ]
      show comS (x :: y :: 46 :: (List.replicate n 46 ++ [45, 45, 62]).take k) = _
      rw [comS_three, if_pos, com_dots_cut n y 46 k (by omega) (.inl (by decide))]
      rw [bne, Bool.not_eq_true', beq_eq_false_iff_ne]
      intro q
      injection q with _ q
      injection q with _ q
      injection q with q _
      revert q; decide
theorem com_next (s : List Nat) : nextS (60 :: 33 :: 45 :: 45 :: s) = (none, (comS (45 :: 45 :: s)).drop 1) := by
  unfold nextS
  dsimp only
  rw [if_pos (by decide)]
  have h1 : isMetaS (60 :: 33 :: 45 :: 45 :: s) = false := by
    unfold isMetaS
    rw [Bool.and_eq_false_iff]
    left
    rw [beq_eq_false_iff_ne]
    intro q
    have : ((60 :: 33 :: 45 :: 45 :: s).take 5).map lo1 = 60 :: 33 :: 45 :: 45 :: (s.take 1).map lo1 := rfl
    rw [this] at q
    injection q with _ q
    injection q with q _
    revert q; decide
  rw [h1]
  simp only [Bool.false_eq_true, if_false]
  have h2 : passS (60 :: 33 :: 45 :: 45 :: s) = comS (45 :: 45 :: s) := by
    unfold passS
    rw [if_pos (by rfl)]
    rfl
  rw [h2]
theorem pad_skip (n : Nat) : Skip ([60, 33, 45, 45] ++ List.replicate n 46 ++ [45, 45, 62]) := by
  refine ⟨fun r _ => ?_, fun k hk => ?_⟩
  · have e : [60, 33, 45, 45] ++ List.replicate n 46 ++ [45, 45, 62] ++ r = 60 :: 33 :: 45 :: 45 :: (List.replicate n 46 ++ [45, 45, 62] ++ r) := by simp
    rw [e, SC_step, com_next, com_dots n 45 45 r (.inr ⟨rfl, rfl⟩)]
    rfl
  · match k, hk with
    | 0, _ => rfl
    | 1, _ => rfl
    | 2, _ => exact (by decide +kernel : SC [60, 33] = none)
    | 3, _ => exact (by decide +kernel : SC [60, 33, 45] = none)
    | k + 4, hk =>
      have e : ([60, 33, 45, 45] ++ List.replicate n 46 ++ [45, 45, 62]).take (k + 4) = 60 :: 33 :: 45 :: 45 :: (List.replicate n 46 ++ [45, 45, 62]).take k := by
        rw [List.append_assoc]; rfl
      simp only [List.length_append, List.length_cons, List.length_nil, List.length_replicate] at hk
      rw [e, SC_step, com_next, com_dots_cut n 45 45 k (by omega) (.inr ⟨rfl, rfl⟩)]
      rfl
end
section
noncomputable def Front (R : List Nat) : Prop := ∃ c t, R = c :: t ∧ (c = 32 ∨ c = 38 ∨ (c = 60 ∧ ∃ c2 c3 u, t = c2 :: c3 :: u ∧ c2 ≠ 0 ∧ ¬ (c2 = 63 ∧ c3 = 120)))
theorem Front.app {a : List Nat} (h : Front a) (b : List Nat) : Front (a ++ b) := by
  obtain ⟨c, t, rfl, h⟩ := h
  refine ⟨c, t ++ b, rfl, ?_⟩
  rcases h with h | h | ⟨h, c2, c3, u, rfl, h2⟩
  · exact .inl h
  · exact .inr (.inl h)
  · exact .inr (.inr ⟨h, c2, c3, u ++ b, rfl, h2⟩)
theorem Front.nx {R : List Nat} (h : Front R) (m : Nat) : Nx (R.take m) := by
  obtain ⟨c, t, rfl, h⟩ := h
  cases m with
  | zero => exact .inl rfl
  | succ m =>
    refine .inr ⟨c, t.take m, List.take_succ_cons .., ?_⟩
    rcases h with h | h | ⟨h, _⟩ <;> omega
structure Seg (p : List Nat × List Nat) : Prop where
  full : ∀ r, Nx r → SC (p.1 ++ r) = match orN p.2 with
    | some x => some x
    | none => SC r
  cut : ∀ k, k < p.1.length → SC (p.1.take k) = none
  front : Front p.1
noncomputable def frontB : List Nat → Bool
  | c :: t => c == 32 || c == 38 || (c == 60 && (match t with
    | c2 :: c3 :: _ => c2 != 0 && !(c2 == 63 && c3 == 120)
    | _ => false))
  | [] => false
theorem front_of {l : List Nat} (h : frontB l = true) : Front l := by
  cases l with
  | nil => cases h
  | cons c t =>
    refine ⟨c, t, rfl, ?_⟩
    unfold frontB at h
    simp only [Bool.or_eq_true, Bool.and_eq_true, beq_iff_eq] at h
    rcases h with (h | h) | ⟨h, h2⟩
    · exact .inl h
    · exact .inr (.inl h)
    · refine .inr (.inr ⟨h, ?_⟩)
      match t, h2 with
      | c2 :: c3 :: u, h2 =>
        refine ⟨c2, c3, u, rfl, ?_⟩
        simp at h2
        exact ⟨h2.1, fun q => h2.2.elim (fun z => z q.1) (fun z => z q.2)⟩
theorem words_front : (wordsL.all frontB) = true := by decide +kernel
theorem piece_seg (ns : List Int) (at_ nth : Nat) : Seg (pieceM ns at_ nth) := by
  unfold pieceM
  dsimp only
  split
  · refine ⟨fun r _ => meta_full _ _ _ r, fun k hk => meta_cut _ _ _ hk, ?_⟩
    unfold metaM
    dsimp only
    have hh := head3 (w := md (dv (dv (ns.getD at_ 0) 8) 4) 3) (md_lt _ (by decide))
    rw [(mRun_pre ns (at_ + 1) _ _).1]
    refine (Front.app (Front.app (front_of ?_) _) _)
    exact (by decide : ∀ t ∈ [[60, 109, 101, 116, 97], [60, 77, 69, 84, 65], [60, 109, 69, 116, 65]], frontB t = true) _ hh
  · have hw := inert_words (md (ns.getD at_ 0 + (nth : Int)) 8 / 2) (dv (ns.getD at_ 0) 8)
    refine ⟨fun r hr => ?_, fun k hk => words_short hw hk, front_of (List.all_eq_true.mp words_front _ hw)⟩
    rw [tx_nil]
    exact words_full _ hw r hr
theorem foundR_shift : ∀ (ps : List (List Nat × List Nat)) (a b d : Nat), foundR ps (a + d) (b + d) = foundR ps a b
  | [], _, _, _ => rfl
  | p :: r, a, b, d => by
    rw [foundR, foundR, show a + d + p.1.length = a + p.1.length + d by omega, foundR_shift r]
    have : decide (a + p.1.length + d ≤ b + d) = decide (a + p.1.length ≤ b) := decide_eq_decide.mpr (by omega)
    rw [this]
theorem foundR_none : ∀ (ps : List (List Nat × List Nat)) (a b : Nat), b < a → foundR ps a b = none
  | [], _, _, _ => rfl
  | p :: r, a, b, h => by
    rw [foundR, decide_eq_false (by omega), Bool.and_false, if_neg (by decide)]
    exact foundR_none r _ _ (by omega)
theorem orN_if (t : List Nat) : (t != tx "") = (orN t).isSome := by
  rw [tx_nil]; unfold orN bne
  cases t == [] <;> rfl
theorem segs : ∀ (ps : List (List Nat × List Nat)), (∀ p ∈ ps, Seg p) → ∀ m, SC ((ps.map (·.1)).flatten.take m) = foundR ps 0 m
  | [], _, m => by
    rw [List.map_nil, List.flatten_nil, List.take_nil]; rfl
  | p :: r, h, m => by
    have hp := h p (.head _)
    rw [List.map_cons, List.flatten_cons, foundR]
    rcases Nat.lt_or_ge m p.1.length with hm | hm
    · rw [List.take_append_of_le_length (Nat.le_of_lt hm), hp.cut m hm, decide_eq_false (by omega), Bool.and_false, if_neg (by decide), foundR_none _ _ _ (by omega)]
    · have e : (p.1 ++ (r.map (·.1)).flatten).take m = p.1 ++ (r.map (·.1)).flatten.take (m - p.1.length) := by
        rw [List.take_append, List.take_of_length_le hm]
      have hnx : Nx ((r.map (·.1)).flatten.take (m - p.1.length)) := by
        cases r with
        | nil => rw [List.map_nil, List.flatten_nil, List.take_nil]; exact .inl rfl
        | cons q r =>
          rw [List.map_cons, List.flatten_cons]
          exact ((h q (.tail _ (.head _))).front.app _).nx _
      have ih := segs r (fun q hq => h q (.tail _ hq)) (m - p.1.length)
      rw [e, hp.full _ hnx, orN_if, decide_eq_true (by omega), Bool.and_true]
      cases ho : orN p.2 with
      | some x =>
        have hx : p.2 = x := by
          unfold orN at ho
          split at ho
          · cases ho
          · exact Option.some.inj ho
        rw [hx]; rfl
      | none =>
        show SC _ = foundR r (0 + p.1.length) m
        rw [ih]
        have := foundR_shift r 0 (m - p.1.length) p.1.length
        rw [Nat.sub_add_cancel hm] at this
        exact this.symm
inductive Pfx : List Nat → List Nat → List Nat → List Nat → Prop
  | b1 : Pfx [239, 187, 191] [85, 84, 70, 45, 56] [] []
  | b2 : Pfx [254, 255] [85, 84, 70, 45, 49, 54, 66, 69] [] []
  | b3 : Pfx [255, 254] [85, 84, 70, 45, 49, 54, 76, 69] [] []
  | b4 : Pfx [239, 187] [] [] []
  | b5 : Pfx [254] [] [] []
  | dcl {D nm : List Nat} : Dcl D nm → Pfx D [] [] nm
  | s1 : Pfx [60, 0, 63, 0, 120, 0] [] [85, 84, 70, 45, 49, 54, 76, 69] []
  | s2 : Pfx [0, 60, 0, 63, 0, 120] [] [85, 84, 70, 45, 49, 54, 66, 69] []
  | sp {D nm : List Nat} : Dcl D nm → Pfx (32 :: D) [] [] []
  | no : Pfx [] [] [] []
theorem marks_eq : marksM = [[239, 187, 191], [254, 255], [255, 254], [239, 187], [254]] := by decide +kernel
theorem markN_eq : markN = [[85, 84, 70, 45, 56], [85, 84, 70, 45, 49, 54, 66, 69], [85, 84, 70, 45, 49, 54, 76, 69], [], []] := by decide +kernel
theorem tx_s1 : tx "<\x00?\x00x\x00" = [60, 0, 63, 0, 120, 0] := by decide +kernel
theorem tx_s2 : tx "\x00<\x00?\x00x" = [0, 60, 0, 63, 0, 120] := by decide +kernel
theorem pfx (n : Int) : Pfx (px n 0) (px n 1) (px n 2) (px n 3) := by
  have hd := decl_dcl (dv n 16)
  unfold px prefixM
  rw [tx_nil, tx_s1, tx_s2, tx32, tx_u16l, tx_u16b, marks_eq, markN_eq]
  split
  · rename_i h
    rw [Bool.and_eq_true, decide_eq_true_eq, decide_eq_true_eq] at h
    have : md n 16 - 6 = 0 ∨ md n 16 - 6 = 1 ∨ md n 16 - 6 = 2 ∨ md n 16 - 6 = 3 ∨ md n 16 - 6 = 4 := by omega
    rcases this with e | e | e | e | e <;> rw [e]
    · exact .b1
    · exact .b2
    · exact .b3
    · exact .b4
    · exact .b5
  split
  · exact .dcl hd
  split
  · exact .s1
  split
  · exact .s2
  split
  · exact .sp hd
  · exact .no
theorem Pfx.skip {pf mk fi la : List Nat} (h : Pfx pf mk fi la) : Skip pf := by
  cases h with
  | b1 => exact skip_cons (by decide) (skip_cons (by decide) (skip_cons (by decide) skip_nil))
  | b2 => exact skip_cons (by decide) (skip_cons (by decide) skip_nil)
  | b3 => exact skip_cons (by decide) (skip_cons (by decide) skip_nil)
  | b4 => exact skip_cons (by decide) (skip_cons (by decide) skip_nil)
  | b5 => exact skip_cons (by decide) skip_nil
  | dcl h => exact h.skip
  | s1 => exact sign1
  | s2 => exact sign2
  | sp h => exact skip_cons (by decide) h.skip
  | no => exact skip_nil
theorem cut0 (l : List Nat) (k : Nat) : cutL l (some 0) (some k) = l.take k := by
  unfold cutL; simp
theorem two_of {T : List Nat} {lim n a b : Nat} {s : List Nat} (h : (T.take lim).take n = a :: b :: s) : ∃ t, T = a :: b :: t := by
  rw [List.take_take] at h
  match T, min n lim, h with
  | x :: y :: T, m + 2, h =>
    rw [List.take_succ_cons, List.take_succ_cons] at h
    injection h with h1 h2
    injection h2 with h2 _
    exact ⟨T, by rw [h1, h2]⟩
  | [], m, h => rw [List.take_nil] at h; cases h
  | x :: T, 0, h => cases h
  | [x], m + 1, h => rw [List.take_succ_cons, List.take_nil] at h; injection h with _ h; cases h
  | x :: y :: T, 1, h => rw [List.take_succ_cons] at h; injection h with _ h; cases h
theorem three_of {T : List Nat} {lim n a b c : Nat} {s : List Nat} (h : (T.take lim).take n = a :: b :: c :: s) : ∃ t, T = a :: b :: c :: t := by
  obtain ⟨t, rfl⟩ := two_of h
  rw [List.take_take] at h
  match min n lim, h with
  | 0, h => cases h
  | 1, h => rw [List.take_succ_cons] at h; injection h with _ h; cases h
  | m + 2, h =>
    rw [List.take_succ_cons, List.take_succ_cons] at h
    injection h with _ h
    injection h with _ h
    match t, m, h with
    | [], m, h => rw [List.take_nil] at h; cases h
    | x :: t, 0, h => cases h
    | x :: t, m + 1, h =>
      rw [List.take_succ_cons] at h
      injection h with h _
      exact ⟨t, by rw [h]⟩
theorem pre_scan {T : List Nat} {lim : Nat} (h1 : ∀ t, T ≠ 60 :: 0 :: t) (h2 : ∀ t, T ≠ 0 :: 60 :: t) : preT (T.take lim) = match SC (T.take lim) with
    | some x => some x
    | none => xmlM (T.take lim) := by
  unfold preT
  rw [cut0]
  rw [if_neg, if_neg]
  · exact scan_ps _ 0 _ rfl (Nat.le_refl _)
  · intro q
    obtain ⟨t, e⟩ := two_of (eq_of_beq q)
    exact h2 t e
  · intro q
    obtain ⟨t, e⟩ := two_of (eq_of_beq q)
    exact h1 t e
theorem xml_none {T : List Nat} {lim : Nat} (h : ∀ t, T ≠ 60 :: 63 :: 120 :: t) : xmlM (T.take lim) = none := by
  unfold xmlM
  dsimp only
  rw [cut0, if_pos]
  rw [Bool.or_eq_true]
  left
  rw [bne, Bool.not_eq_true', beq_eq_false_iff_ne]
  intro q
  obtain ⟨t, e⟩ := three_of q
  exact h t e
theorem front_signs {R : List Nat} (h : Front R) : (∀ t, R ≠ 60 :: 0 :: t) ∧ (∀ t, R ≠ 0 :: 60 :: t) ∧ (∀ t, R ≠ 60 :: 63 :: 120 :: t) := by
  obtain ⟨c, t, rfl, h⟩ := h
  refine ⟨fun s q => ?_, fun s q => ?_, fun s q => ?_⟩
  · injection q with q1 q2
    rcases h with h | h | ⟨_, c2, c3, u, rfl, h2, _⟩
    · omega
    · omega
    · injection q2 with q2 _; exact h2 q2
  · injection q with q1 q2
    rcases h with h | h | ⟨h, _⟩ <;> omega
  · injection q with q1 q2
    rcases h with h | h | ⟨_, c2, c3, u, rfl, _, h2⟩
    · omega
    · omega
    · injection q2 with q2 q3
      injection q3 with q3 _
      exact h2 ⟨q2, q3⟩
end
section
theorem Dcl.shape {D nm : List Nat} (h : Dcl D nm) : ∃ D', D = D' ++ [62] ∧ (∀ x ∈ D', n62 x = true) ∧ 5 ≤ D'.length ∧ D.dropLast = D' := by
  obtain ⟨m, rfl, hm⟩ := h.sh
  have hl := h.len
  refine ⟨60 :: 63 :: m, rfl, fun x hx => ?_, ?_, ?_⟩
  · rcases List.mem_cons.mp hx with rfl | hx
    · decide
    · rcases List.mem_cons.mp hx with rfl | hx
      · decide
      · exact n62_of (hm x hx)
  · simp only [List.length_cons, List.length_append, List.length_nil] at hl ⊢; omega
  · have : 60 :: 63 :: (m ++ [62]) = (60 :: 63 :: m) ++ [62] := rfl
    rw [this, List.dropLast_concat]
theorem Dcl.xml1 {D nm R : List Nat} (h : Dcl D nm) : xmlM (D ++ R) = orN nm := by
  have h6 := h.len
  have hx := h.xml
  have hno := h.no
  obtain ⟨D', rfl, hD, h5, hdl⟩ := h.shape
  rw [hdl] at hx
  unfold xmlM
  dsimp only
  have e5 : (D' ++ [62] ++ R).take 5 = (D' ++ [62]).take 5 := List.take_append_of_le_length (by omega)
  rw [cut0, e5]
  cases hc : ((D' ++ [62]).take 5 == xmlT) with
  | false =>
    have : ((D' ++ [62]).take 5 != [60, 63, 120, 109, 108]) = true := by unfold bne; unfold xmlT at hc; rw [hc]; rfl
    rw [this, Bool.true_or, if_pos rfl, hno hc]
    rfl
  | true =>
    have : ((D' ++ [62]).take 5 != [60, 63, 120, 109, 108]) = false := by unfold bne; unfold xmlT at hc; rw [hc]; rfl
    have hr : run n62 (D' ++ [62] ++ R) 5 = D'.length := by
      unfold Mine.run
      have e : (D' ++ [62] ++ R).drop 5 = D'.drop 5 ++ 62 :: R := by
        rw [List.append_assoc, List.drop_append_of_le_length h5]; rfl
      rw [e, tw_app fun x hx => hD x (List.mem_of_mem_drop hx), tw_stop (by decide), List.append_nil, List.length_drop]
      omega
    have hr' : run (fun x => !([62] : List Nat).contains x) (D' ++ [62] ++ R) 5 = D'.length := hr
    rw [this, Bool.false_or, hr', if_neg, cut0]
    · have : (D' ++ [62] ++ R).take D'.length = D' := by
        rw [List.append_assoc, List.take_left]
      rw [this]
      exact hx hc
    · simp
theorem Dcl.xml0 {D nm : List Nat} (h : Dcl D nm) {k : Nat} (hk : k < D.length) : xmlM (D.take k) = none := by
  obtain ⟨D', rfl, hD, h5, -⟩ := h.shape
  have hk' : k ≤ D'.length := by rw [List.length_append] at hk; simp at hk; omega
  rw [List.take_append_of_le_length hk']
  have hL : ∀ x ∈ D'.take k, n62 x = true := fun x hx => hD x (List.mem_of_mem_take hx)
  generalize D'.take k = L at hL
  unfold xmlM
  dsimp only
  rw [if_pos]
  rw [Bool.or_eq_true]
  right
  apply decide_eq_true
  show L.length ≤ run n62 L 5
  unfold Mine.run
  have : (L.drop 5).takeWhile n62 = L.drop 5 := by
    have := tw_app (p := n62) (a := L.drop 5) (fun x hx => hL x (List.mem_of_mem_drop hx)) []
    rw [List.append_nil] at this
    rw [this]; simp
  rw [this, List.length_drop]; omega
theorem take_both {a b : List Nat} {m : Nat} (h : a.length ≤ m) : (a ++ b).take m = a ++ b.take (m - a.length) := by
  rw [List.take_append, List.take_of_length_le h]
theorem Pfx.pre {pf mk fi la R : List Nat} (h : Pfx pf mk fi la) (hR : Front R) (lim : Nat) : preT ((pf ++ R).take lim) = if (fi != [] && decide (pf.length ≤ lim)) = true then some fi else match SC ((pf ++ R).take lim) with
    | some x => some x
    | none => if (la != [] && decide (pf.length ≤ lim)) = true then some la else none := by
  obtain ⟨f1, f2, f3⟩ := front_signs hR
  have gen : (∀ t, pf ++ R ≠ 60 :: 0 :: t) → (∀ t, pf ++ R ≠ 0 :: 60 :: t) → xmlM ((pf ++ R).take lim) = (if (la != [] && decide (pf.length ≤ lim)) = true then some la else none) → fi = [] → preT ((pf ++ R).take lim) = if (fi != [] && decide (pf.length ≤ lim)) = true then some fi else match SC ((pf ++ R).take lim) with
    | some x => some x
    | none => if (la != [] && decide (pf.length ≤ lim)) = true then some la else none := by
    intro h1 h2 h3 h4
    rw [pre_scan h1 h2, h3, h4]
    rfl
  have gen0 : (∀ t, pf ++ R ≠ 60 :: 0 :: t) → (∀ t, pf ++ R ≠ 0 :: 60 :: t) → (∀ t, pf ++ R ≠ 60 :: 63 :: 120 :: t) → la = [] → fi = [] → preT ((pf ++ R).take lim) = if (fi != [] && decide (pf.length ≤ lim)) = true then some fi else match SC ((pf ++ R).take lim) with
    | some x => some x
    | none => if (la != [] && decide (pf.length ≤ lim)) = true then some la else none := by
    intro h1 h2 h3 h4 h5
    refine gen h1 h2 ?_ h5
    rw [xml_none h3, h4]
    rfl
  cases h with
  | b1 => exact gen0 (fun t q => by injection q with q _; omega) (fun t q => by injection q with q _; omega) (fun t q => by injection q with q _; omega) rfl rfl
  | b2 => exact gen0 (fun t q => by injection q with q _; omega) (fun t q => by injection q with q _; omega) (fun t q => by injection q with q _; omega) rfl rfl
  | b3 => exact gen0 (fun t q => by injection q with q _; omega) (fun t q => by injection q with q _; omega) (fun t q => by injection q with q _; omega) rfl rfl
  | b4 => exact gen0 (fun t q => by injection q with q _; omega) (fun t q => by injection q with q _; omega) (fun t q => by injection q with q _; omega) rfl rfl
  | b5 => exact gen0 (fun t q => by injection q with q _; omega) (fun t q => by injection q with q _; omega) (fun t q => by injection q with q _; omega) rfl rfl
  | no => exact gen0 f1 f2 f3 rfl rfl
  | sp hd => exact gen0 (fun t q => by injection q with q _; omega) (fun t q => by injection q with q _; omega) (fun t q => by injection q with q _; omega) rfl rfl
  | dcl hd =>
    refine gen (fun t q => ?_) (fun t q => ?_) ?_ rfl
    · obtain ⟨m, rfl, _⟩ := hd.sh
      injection q with _ q
      injection q with q _
      omega
    · obtain ⟨m, rfl, _⟩ := hd.sh
      injection q with q _
      omega
    · rcases Nat.lt_or_ge lim pf.length with hl | hl
      · rw [List.take_append_of_le_length (Nat.le_of_lt hl), hd.xml0 hl, decide_eq_false (by omega), Bool.and_false]
        rfl
      · rw [take_both hl, hd.xml1, decide_eq_true hl, Bool.and_true]
        unfold orN bne
        cases la == [] <;> rfl
  | s1 =>
    rcases Nat.lt_or_ge lim 6 with hl | hl
    · have hl' : lim < ([60, 0, 63, 0, 120, 0] : List Nat).length := hl
      rw [List.take_append_of_le_length (Nat.le_of_lt hl'), sign1.cut lim hl', (by decide +kernel : ∀ k < 6, preT ([60, 0, 63, 0, 120, 0].take k) = none) lim hl]
      rw [decide_eq_false (by simp; omega), Bool.and_false, Bool.and_false]
      rfl
    · have hl' : ([60, 0, 63, 0, 120, 0] : List Nat).length ≤ lim := hl
      rw [take_both hl', decide_eq_true hl', Bool.and_true, if_pos (by decide)]
      unfold preT
      rw [cut0, if_pos (by rfl), tx_u16l]
  | s2 =>
    rcases Nat.lt_or_ge lim 6 with hl | hl
    · have hl' : lim < ([0, 60, 0, 63, 0, 120] : List Nat).length := hl
      rw [List.take_append_of_le_length (Nat.le_of_lt hl'), sign2.cut lim hl', (by decide +kernel : ∀ k < 6, preT ([0, 60, 0, 63, 0, 120].take k) = none) lim hl]
      rw [decide_eq_false (by simp; omega), Bool.and_false, Bool.and_false]
      rfl
    · have hl' : ([0, 60, 0, 63, 0, 120] : List Nat).length ≤ lim := hl
      rw [take_both hl', decide_eq_true hl', Bool.and_true, if_pos (by decide)]
      unfold preT
      rw [cut0, if_neg (by intro q; revert q; exact Bool.false_ne_true), if_pos (by rfl), tx_u16b]
theorem bom_octs {T : List Nat} (h : ∀ x ∈ T, x < 256) : bomM (octs T) = if (T.take 3 == [239, 187, 191]) = true then some [85, 84, 70, 45, 56] else if (T.take 2 == [254, 255]) = true then some [85, 84, 70, 45, 49, 54, 66, 69] else if (T.take 2 == [255, 254]) = true then some [85, 84, 70, 45, 49, 54, 76, 69] else none := by
  unfold bomM
  rw [nn_cB, nn_cB, nn_cB, octs_nn h, cut0, cut0, tx_u8, tx_u16b, tx_u16l]
  rfl
theorem Pfx.bom {pf mk fi la R : List Nat} (h : Pfx pf mk fi la) (hR : Front R) (hT : ∀ x ∈ pf ++ R, x < 256) : bomM (octs (pf ++ R)) = orN mk := by
  rw [bom_octs hT]
  obtain ⟨c, t, rfl, hc⟩ := hR
  have hc' : c = 32 ∨ c = 38 ∨ c = 60 := by rcases hc with q | q | ⟨q, _⟩ <;> omega
  clear hc hT
  cases h with
  | b1 => rfl
  | b2 => rfl
  | b3 => rfl
  | b4 => rcases hc' with rfl | rfl | rfl <;> rfl
  | b5 => rcases hc' with rfl | rfl | rfl <;> rfl
  | dcl hd => obtain ⟨m, rfl, _⟩ := hd.sh; rfl
  | s1 => rfl
  | s2 => rfl
  | sp hd => obtain ⟨m, rfl, _⟩ := hd.sh; rfl
  | no => rcases hc' with rfl | rfl | rfl <;> rfl
theorem wish_enc (n : Int) : (wishM n).1 = none ∧ (wishM n).2 = [] ∨ ∃ l, (wishM n).1 = some l ∧ encodingM l = orN (wishM n).2 := by
  have hw : md (dv n 88) 3 ∈ [0, 1, 2] := by
    have := md_lt (dv n 88) (show 0 < 3 by decide)
    simp only [List.mem_cons, List.not_mem_nil, or_false]; omega
  obtain ⟨e1, e2⟩ := enc_wish _ (lab_mem (dv n 8)) _ hw
  unfold wishM
  dsimp only
  split
  · exact .inl ⟨rfl, tx_nil⟩
  · split
    · refine .inr ⟨_, rfl, ?_⟩
      rw [show tx "\t" = [9] by decide +kernel, show tx " \x0d\n\x0c" = [32, 13, 10, 12] by decide +kernel]
      exact e2
    · exact .inr ⟨_, rfl, e1⟩
end
section
theorem lw_seg (ns : List Int) : ∀ p ∈ (lwM ns).ps, Seg p := by
  intro p hp
  change p ∈ psM ns at hp
  unfold psM at hp
  simp only [List.mem_cons, List.not_mem_nil, or_false] at hp
  rcases hp with rfl | rfl | rfl <;> exact piece_seg _ _ _
theorem lw_pfx (ns : List Int) : Pfx (lwM ns).pf (lwM ns).mark (lwM ns).fi (lwM ns).la := pfx _
theorem pad_eq (w : LW) : w.pad = [] ∨ w.way = 3 ∧ w.pad = [60, 33, 45, 45] ++ List.replicate (1017 - edgeM w.E w.rest).toNat 46 ++ [45, 45, 62] := by
  unfold LW.pad padM
  rw [tx_nil, show tx "<!--" = [60, 33, 45, 45] by decide +kernel, show tx "-->" = [45, 45, 62] by decide +kernel]
  cases h : w.way == 3 with
  | true => right; exact ⟨eq_of_beq h, by rw [if_pos rfl]⟩
  | false => left; rfl
theorem flat_sum : ∀ ps : List (List Nat × List Nat), (ps.map (·.1)).flatten.length = (ps.map (·.1.length)).sum
  | [] => rfl
  | p :: r => by rw [List.map_cons, List.flatten_cons, List.length_append, flat_sum r]; simp
theorem E_le {w : LW} (h : w.Good) : (∀ e ∈ w.E, e ≤ w.pf.length + (w.ps.map (·.1)).flatten.length) ∧ w.E.getD 3 0 = w.pf.length + (w.ps.map (·.1)).flatten.length := by
  rw [flat_sum]
  have e3 : w.E.getD 3 0 = w.pf.length + (w.ps.map (·.1.length)).sum := by
    show eAt w.pf.length w.ps 3 = _
    unfold eAt
    rw [List.take_of_length_le (by rw [h.ps.1]; exact Nat.le_refl _)]
  refine ⟨fun e he => ?_, e3⟩
  unfold LW.E endsL at he
  obtain ⟨j, _, rfl⟩ := List.mem_map.mp he
  unfold eAt
  have : ∀ (l : List (List Nat × List Nat)) (j : Nat), ((l.take j).map (·.1.length)).sum ≤ (l.map (·.1.length)).sum := by
    intro l
    induction l with
    | nil => intro j; simp
    | cons p r ih =>
      intro j
      cases j with
      | zero => simp
      | succ j => have := ih j; simp only [List.take_succ_cons, List.map_cons, List.sum_cons]; omega
  have := this w.ps j
  omega
theorem lim_facts {w : LW} (h : w.Good) : w.lim ≤ w.text.length ∧ w.text.take w.lim2 = w.text.take w.lim ∧ w.lim3 = w.lim := by
  obtain ⟨h1, h2⟩ := E_le h
  obtain ⟨hE1, hE2⟩ := h.E
  obtain ⟨hed1, hed2⟩ := h.edge
  have hm : md w.rest 4 < w.E.length := by rw [hE2]; exact md_lt _ (by decide)
  have hle := h1 _ (getD_mem (d := 0) hm)
  have hedge : edgeM w.E w.rest ≤ (w.pf.length + (w.ps.map (·.1)).flatten.length : Nat) := by unfold edgeM; omega
  have htl : w.text.length = w.pf.length + w.pad.length + (w.ps.map (·.1)).flatten.length := by
    unfold LW.text; rw [List.length_append, List.length_append]
  have hE3 : w.E.getD 3 0 ≤ 764 := hE1 _ (getD_mem (d := 0) (by omega))
  have hw := h.way
  have hw' : w.way = 0 ∨ w.way = 1 ∨ w.way = 2 ∨ w.way = 3 := by omega
  have hpad0 : w.way ≠ 3 → w.pad.length = 0 := by
    intro q
    rcases pad_eq w with e | ⟨e, _⟩
    · rw [e]; rfl
    · exact absurd e q
  rcases hw' with e | e | e | e
  · have hl : w.lim = w.E.getD 3 0 := by unfold LW.lim limM; rw [e]; rfl
    have hp := hpad0 (by omega)
    have hl2 : w.lim2 = 1024 := by unfold LW.lim2; rw [e]; rfl
    have hl3 : w.lim3 = w.lim := by unfold LW.lim3; rw [e]; rfl
    refine ⟨by omega, ?_, hl3⟩
    rw [hl2, List.take_of_length_le (by omega), List.take_of_length_le (by omega)]
  · have hl : w.lim = md w.rest (w.E.getD 3 0 + 1) := by unfold LW.lim limM; rw [e]; rfl
    have := md_lt w.rest (show 0 < w.E.getD 3 0 + 1 by omega)
    have hl2 : w.lim2 = w.lim := by unfold LW.lim2; rw [e]; rfl
    have hl3 : w.lim3 = w.lim := by unfold LW.lim3; rw [e]; rfl
    exact ⟨by omega, by rw [hl2], hl3⟩
  · have hl : w.lim = (edgeM w.E w.rest).toNat := by unfold LW.lim limM; rw [e]; rfl
    have hl2 : w.lim2 = w.lim := by unfold LW.lim2; rw [e]; rfl
    have hl3 : w.lim3 = w.lim := by unfold LW.lim3; rw [e]; rfl
    exact ⟨by omega, by rw [hl2], hl3⟩
  · have hl : w.lim = 1024 := by unfold LW.lim limM; rw [e]; rfl
    have hl2 : w.lim2 = 1024 := by unfold LW.lim2; rw [e]; rfl
    have hl3 : w.lim3 = w.lim := by unfold LW.lim3; rw [hl, e]; rfl
    have hp : w.pad.length = 7 + (1017 - edgeM w.E w.rest).toNat := by
      unfold LW.pad padM
      rw [e, if_pos (by decide), List.length_append, List.length_append, List.length_replicate, show (tx "<!--").length = 4 by decide +kernel, show (tx "-->").length = 3 by decide +kernel]
      omega
    exact ⟨by omega, by rw [hl2, hl], hl3⟩
theorem front_rest {w : LW} (hs : ∀ p ∈ w.ps, Seg p) (h3 : w.ps.length = 3) : Front (w.pad ++ (w.ps.map (·.1)).flatten) ∧ Front ((w.ps.map (·.1)).flatten) := by
  have hf : Front ((w.ps.map (·.1)).flatten) := by
    cases hps : w.ps with
    | nil => rw [hps] at h3; cases h3
    | cons p r =>
      rw [List.map_cons, List.flatten_cons]
      exact (hs p (by rw [hps]; exact .head _)).front.app _
  refine ⟨?_, hf⟩
  rcases pad_eq w with e | ⟨_, e⟩
  · rw [e]; exact hf
  · rw [e]
    refine Front.app (Front.app (Front.app (front_of (by decide)) _) _) _
theorem scan_found (ns : List Int) : SC ((lwM ns).text.take (lwM ns).lim) = foundR (lwM ns).ps ((lwM ns).pf.length + (lwM ns).pad.length) (lwM ns).lim := by
  have hs := lw_seg ns
  have hp := (lw_pfx ns).skip
  have hg := lw_good ns
  generalize lwM ns = w at hs hp hg
  obtain ⟨hf1, hf2⟩ := front_rest hs hg.ps.1
  have hT : w.text = w.pf ++ (w.pad ++ (w.ps.map (·.1)).flatten) := by unfold LW.text; rw [List.append_assoc]
  rw [hT]
  rcases Nat.lt_or_ge w.lim w.pf.length with hl | hl
  · rw [List.take_append_of_le_length (Nat.le_of_lt hl), hp.cut _ hl, foundR_none _ _ _ (by omega)]
  rw [take_both hl, hp.full _ (hf1.nx _)]
  rcases pad_eq w with e | ⟨_, e⟩
  · rw [e, List.nil_append, segs _ hs]
    have := foundR_shift w.ps 0 (w.lim - w.pf.length) w.pf.length
    rw [Nat.sub_add_cancel hl, Nat.zero_add] at this
    exact this.symm
  · have hk := pad_skip (1017 - edgeM w.E w.rest).toNat
    rw [← e] at hk
    rcases Nat.lt_or_ge (w.lim - w.pf.length) w.pad.length with hm | hm
    · rw [List.take_append_of_le_length (Nat.le_of_lt hm), hk.cut _ hm, foundR_none _ _ _ (by omega)]
    · rw [take_both hm, hk.full _ (hf2.nx _), segs _ hs]
      have := foundR_shift w.ps 0 (w.lim - w.pf.length - w.pad.length) (w.pf.length + w.pad.length)
      rw [show w.lim - w.pf.length - w.pad.length + (w.pf.length + w.pad.length) = w.lim by omega, Nat.zero_add] at this
      exact this.symm
theorem pre_found (ns : List Int) : preT ((lwM ns).text.take (lwM ns).lim) = (lwM ns).found := by
  have hs := lw_seg ns
  have hp := lw_pfx ns
  have hg := lw_good ns
  have hsc := scan_found ns
  generalize lwM ns = w at hs hp hg hsc
  obtain ⟨hf1, -⟩ := front_rest hs hg.ps.1
  have hT : w.text = w.pf ++ (w.pad ++ (w.ps.map (·.1)).flatten) := by unfold LW.text; rw [List.append_assoc]
  rw [hT] at hsc ⊢
  rw [hp.pre hf1, hsc]
  unfold LW.found foundM
  rw [tx_nil]
  all_goals rfl
theorem due_eq (d0 : List Nat × List Nat) (a b c : List Nat) : dueR d0 [a, b, c] = match orN c with
    | some x => (x, tx "certain")
    | none => match orN b with
      | some x => (x, tx "certain")
      | none => match orN a with
        | some x => (x, tx "certain")
        | none => d0 := by
  have key : ∀ (n : List Nat) (d : List Nat × List Nat), (if (n != tx "") = true then (n, tx "certain") else d) = match orN n with
      | some x => (x, tx "certain")
      | none => d := by
    intro n d
    rw [tx_nil]
    unfold orN bne
    cases n == [] <;> rfl
  unfold dueR
  simp only [List.foldl_cons, List.foldl_nil, key]
theorem told_due (ns : List Int) : (lwM ns).told = (lwM ns).due := by
  have hs := lw_seg ns
  have hp := lw_pfx ns
  have hg := lw_good ns
  have hpf := pre_found ns
  have hw2 : (lwM ns).w2.1 = none ∧ (lwM ns).w2.2 = [] ∨ ∃ l, (lwM ns).w2.1 = some l ∧ encodingM l = orN (lwM ns).w2.2 := wish_enc _
  have hw3 : (lwM ns).w3.1 = none ∧ (lwM ns).w3.2 = [] ∨ ∃ l, (lwM ns).w3.1 = some l ∧ encodingM l = orN (lwM ns).w3.2 := wish_enc _
  generalize lwM ns = w at hs hp hg hpf hw2 hw3
  obtain ⟨hf1, -⟩ := front_rest hs hg.ps.1
  obtain ⟨hta, -⟩ := hg.text
  have hT : w.text = w.pf ++ (w.pad ++ (w.ps.map (·.1)).flatten) := by unfold LW.text; rw [List.append_assoc]
  have hb : bomM (octs w.text) = orN w.mark := by
    have hta' := hta
    rw [hT] at hta' ⊢
    exact hp.bom hf1 hta'
  have hpre : preM (nn (octs w.text)) w.lim2 = w.found := by
    unfold preM
    rw [octs_nn hta, cut0, (lim_facts hg).2.1, hpf]
  have hcert : certM (octs w.text) w.w2.1 w.w3.1 = match orN w.mark with
      | some x => some x
      | none => match orN w.w2.2 with
        | some x => some x
        | none => orN w.w3.2 := by
    unfold certM
    rw [hb]
    cases hm : orN w.mark with
    | some x => rfl
    | none =>
      rcases hw2 with ⟨e1, e2⟩ | ⟨l, e1, e2⟩
      · rw [e1, e2]
        rcases hw3 with ⟨f1, f2⟩ | ⟨l', f1, f2⟩
        · rw [f1, f2]; rfl
        · rw [f1]; exact f2
      · rw [e1]
        show (let f := encodingM l; if (f.isNone && !w.w3.1.isNone) = true then encodingM (w.w3.1.getD []) else f) = _
        rw [e2]
        cases hx : orN w.w2.2 with
        | some x => rfl
        | none =>
          rcases hw3 with ⟨f1, f2⟩ | ⟨l', f1, f2⟩
          · rw [f1, f2]; rfl
          · rw [f1]; exact f2
  unfold LW.told LW.due sniffP
  rw [hcert, hpre, due_eq]
  cases orN w.mark with
  | some x => rfl
  | none =>
    cases orN w.w2.2 with
    | some x => rfl
    | none =>
      cases orN w.w3.2 with
      | some x => rfl
      | none =>
        cases w.found with
        | some x => rfl
        | none => rfl
theorem plain (ns : List Int) : lawM ns = true := by
  unfold lawM LW.ok
  have hg := lw_good ns
  have htd := told_due ns
  have hpf := pre_found ns
  have hbeh := (LW.Good.beh (w := lwM ns)).1
  generalize lwM ns = w at hg htd hpf hbeh
  obtain ⟨h1, -, h3⟩ := lim_facts hg
  obtain ⟨hta, -⟩ := hg.text
  rw [if_neg (by rw [htd]; simp)]
  have : preM (nn w.octets2) w.lim3 = w.found := by
    rw [h3]
    unfold preM LW.octets2
    have e : nn (cutL (octs w.text) none (some w.lim) ++ octs w.beh) = w.text.take w.lim ++ w.beh := by
      have e1 : nn (cutL (octs w.text) none (some w.lim)) = w.text.take w.lim := by
        rw [nn_cut, octs_nn hta]
        unfold cutL; simp
      have e2 : nn (octs w.beh) = w.beh := octs_nn hbeh
      unfold nn at e1 e2 ⊢
      rw [List.map_append, e1, e2]
    rw [e, cut0, List.take_append_of_le_length (by rw [List.length_take]; omega), List.take_take, Nat.min_self, hpf]
  rw [this]
  simp
end
section
/-! the head by hand: the run of the top, looked at once -/
noncomputable def viewQ : Program := { PySem.Challenge.pw_nz0092_01 with main := { PySem.Challenge.pw_nz0092_01.main with body := [1, 2, 3, 4, 5, 7, 8, 9, 10, 11, 12, 13, 14, 15, 16, 17, 18, 19, 20, 21, 22, 26, 27, 28, 29, 30, 31, 32, 33, 34, 35, 36, 37, 38].filterMap fun i => PySem.Challenge.pw_nz0092_01.main.body[i]? } }
noncomputable abbrev looseL : List Str := ["prescan", "sniff"]
noncomputable def fdN (h : Heap) : Option Value → Option FuncData
  | some (.ref a) => (match h.get? a with
    | some o => (match o.data with | .func fd => some { fd with pyModule := .none, code := .none, defaults := .none } | _ => none)
    | none => none)
  | _ => none
noncomputable def cdB (h : Heap) (q : Str) : Option Value → Bool
  | some (.ref a) => (match h.get? a with
    | some o => (match o.data with
      | .func fd => (match fd.code with
        | .ref c => (match h.get? c with
          | some oc => (match oc.data with
            | .fields vs => (match vs.toList with | _ :: .str n _ :: _ => n == q | _ => false)
            | _ => false)
          | none => false)
        | _ => false)
      | _ => false)
    | none => false)
  | _ => false
noncomputable def untok : Value → Value
  | .int i _ => .int i 0
  | .str x _ => .str x 0
  | v => v
noncomputable def dfN (h : Heap) : Option Value → Option (Value × List Value) × Bool
  | some (.ref a) => (match h.get? a with
    | some o => (match o.data with
      | .func fd => (match fd.defaults with
        | .ref t => (match h.get? t with
          | some ot => (match ot.data with | .seq vs _ => (some (ot.cls, vs.toList.map untok), true) | _ => (none, false))
          | none => (none, false))
        | .none => (none, true)
        | _ => (none, false))
      | _ => (none, false))
    | none => (none, false))
  | _ => (none, false)
noncomputable abbrev RowT := Option Value × Option FuncData × Bool × Option (Value × List Value) × Bool
noncomputable def rowOf (h : Heap) (x : Str) : RowT := (h.nsMap mainGlobals x, fdN h (h.nsMap mainGlobals x), cdB h x (h.nsMap mainGlobals x), dfN h (h.nsMap mainGlobals x))
noncomputable def rowIs (i : Nat) (a : Addr) (d : Option (Value × List Value)) : RowT := (some (.ref a), some (fdOf i .none .none .none), true, d, true)
noncomputable def namesI : List Str := [Str.ofString "is_space", Str.ofString "is_upper", Str.ofString "is_letter", Str.ofString "lower", Str.ofString "lower_text", Str.ofString "label_rows", Str.ofString "skip_spaces", Str.ofString "encoding_of", Str.ofString "bom_of", Str.ofString "gaps", Str.ofString "skip", Str.ofString "seek", Str.ofString "folded", Str.ofString "get_attribute", Str.ofString "told_charset", Str.ofString "content_charset", Str.ofString "tag_end", Str.ofString "read_meta", Str.ofString "pass_over", Str.ofString "skip_low", Str.ofString "xml_encoding", Str.ofString "_law_digit", Str.ofString "_law_labels", Str.ofString "_law_cased", Str.ofString "_law_declaration", Str.ofString "_law_prefix", Str.ofString "_law_attribute", Str.ofString "_law_meta", Str.ofString "_law_inert", Str.ofString "_law_piece", Str.ofString "_law_wish", Str.ofString "_law_found", Str.ofString "_law_octets", Str.ofString "prescan", Str.ofString "sniff", Str.ofString "law"]
noncomputable def namesB : List Str := [Str.ofString "len", Str.ofString "chr", Str.ofString "ord", Str.ofString "max", Str.ofString "range", Str.ofString "bytes"]
noncomputable def goodI : List RowT := [
  rowIs 1 21 none,
  rowIs 2 28 none,
  rowIs 3 35 none,
  rowIs 4 42 none,
  rowIs 5 49 none,
  rowIs 7 56 none,
  rowIs 8 63 none,
  rowIs 9 70 none,
  rowIs 10 77 none,
  rowIs 11 84 none,
  rowIs 12 91 none,
  rowIs 13 98 none,
  rowIs 14 103 none,
  rowIs 15 110 none,
  rowIs 16 117 none,
  rowIs 17 124 none,
  rowIs 18 131 none,
  rowIs 19 138 none,
  rowIs 20 145 none,
  rowIs 21 152 none,
  rowIs 22 159 none,
  rowIs 26 182 none,
  rowIs 27 189 none,
  rowIs 28 194 none,
  rowIs 29 201 none,
  rowIs 30 208 none,
  rowIs 31 215 none,
  rowIs 32 222 none,
  rowIs 33 229 none,
  rowIs 34 236 none,
  rowIs 35 243 none,
  rowIs 36 250 none,
  rowIs 37 255 none,
  rowIs 23 167 (some (.type "tuple", [.int 1024 0])),
  rowIs 24 175 (some (.type "tuple", [.none, .none, .int 1024 0, .str "windows-1252" 0])),
  rowIs 38 260 none]
noncomputable def obsOf (h : Heap) : List RowT × List (Option Value) := (namesI.map (rowOf h), namesB.map (h.nsMap mainGlobals))
noncomputable def goodO : List RowT × List (Option Value) := (goodI, namesB.map fun _ => none)
noncomputable def myHook : Hook where
  α := List RowT × List (Option Value)
  obs := fun s => obsOf s.heap
  val := fun _ => goodO
  says := fun _ h => ∃ h₀, obsOf h₀ = goodO ∧ Stays h₀ h
  of := fun _ s e => ⟨s.heap, e, stays_refl _⟩
  keeps := fun _ _ _ ⟨h₀, e, st⟩ k => ⟨h₀, e, stays_trans st k⟩
theorem seen0 : LeftO PySem.Challenge.rw_nz0092_01.row.prog viewQ looseL (fun s => xlAt viewQ [] s && recOk (RowW.records PySem.Challenge.rw_nz0092_01.row.toRowW) s) Hook.none.obs Hook.none.val 2446 := fun w => by kernel_rfl
theorem obs0 : ∀ w : World, (openEnds treeTable PySem.Challenge.rw_nz0092_01.row.prog w 2446).map myHook.obs = some goodO := fun w => by kernel_rfl
/-- the run's two looks, each its own check (together they want twice the memory) -/
theorem left_pair {p q : Program} {loose : List Str} {Xt : Shared → Bool} {α β : Type} {Yf : Shared → α} {Ya : World → α} {Zf : Shared → β} {Za : World → β} {N : Nat} (h1 : LeftO p q loose Xt Yf Ya N)
    (h2 : ∀ w : World, (openEnds treeTable p w N).map Zf = some (Za w)) : LeftO p q loose Xt Zf Za N := fun w => by
  have a := h1 w
  have b := h2 w
  generalize openEnds treeTable p w N = z at a b ⊢
  cases z with
  | none => cases b
  | some s =>
    have a' := congrArg Prod.fst (Option.some.inj ((Option.map_some ..).symm.trans a))
    have b' := Option.some.inj ((Option.map_some ..).symm.trans b)
    exact (Option.map_some ..).trans (congrArg some (Prod.ext a' b'))
theorem left0 : LeftO PySem.Challenge.rw_nz0092_01.row.prog viewQ looseL (fun s => xlAt viewQ [] s && recOk (RowW.records PySem.Challenge.rw_nz0092_01.row.toRowW) s) myHook.obs myHook.val 2446 := left_pair seen0 obs0
/-! what was looked at, read off -/
theorem map_at {α β : Type} {f : α → β} : ∀ {xs : List α} {ys : List β}, xs.map f = ys → ∀ (i : Nat) (x : α) (y : β), xs[i]? = some x → ys[i]? = some y → f x = y := by
  rintro xs _ rfl i x y h1 h2
  rw [List.getElem?_map, h1] at h2
  exact Option.some.inj h2
theorem fdN_of {h : Heap} {a : Addr} {fd : FuncData} (e : fdN h (some (.ref a)) = some fd) : ∃ ob fd', h.get? a = some ob ∧ ob.data = .func fd' ∧ { fd' with pyModule := .none, code := .none, defaults := .none } = fd := by
  unfold fdN at e
  dsimp only at e
  split at e
  · rename_i o q
    split at e
    · rename_i fd' hd
      cases e
      exact ⟨o, fd', q, hd, rfl⟩
    · cases e
  · cases e
theorem cdB_of {h : Heap} {a : Addr} {q : Str} {ob : Obj} {fd : FuncData} (e1 : h.get? a = some ob) (e2 : ob.data = .func fd) (e : cdB h q (some (.ref a)) = true) : h.CodeRec fd.code q := by
  unfold cdB at e
  dsimp only at e
  rw [e1] at e
  dsimp only at e
  rw [e2] at e
  dsimp only at e
  split at e
  · rename_i c hc
    split at e
    · rename_i oc qo
      split at e
      · rename_i vs hd
        split at e
        · rename_i x t r hv
          refine ⟨c, oc, vs, t, hc, qo, hd, ?_⟩
          rw [← Array.getElem?_toList, hv, eq_of_beq e]
          rfl
        · cases e
      · cases e
    · cases e
  · cases e
theorem dfN_none {h : Heap} {a : Addr} {ob : Obj} {fd : FuncData} (e1 : h.get? a = some ob) (e2 : ob.data = .func fd) (e : dfN h (some (.ref a)) = (none, true)) : fd.defaults = .none := by
  unfold dfN at e
  dsimp only at e
  rw [e1] at e
  dsimp only at e
  rw [e2] at e
  dsimp only at e
  split at e
  · split at e
    · split at e
      · cases e
      · cases e
    · cases e
  · assumption
  · cases e
theorem dfN_some {h : Heap} {a : Addr} {ob : Obj} {fd : FuncData} {cl : Value} {ds : List Value} (e1 : h.get? a = some ob) (e2 : ob.data = .func fd) (e : dfN h (some (.ref a)) = (some (cl, ds), true)) :
    ∃ t ot vs n, fd.defaults = .ref t ∧ h.get? t = some ot ∧ ot.cls = cl ∧ ot.data = .seq vs n ∧ vs.toList.map untok = ds := by
  unfold dfN at e
  dsimp only at e
  rw [e1] at e
  dsimp only at e
  rw [e2] at e
  dsimp only at e
  split at e
  · rename_i t ht
    split at e
    · rename_i ot qo
      split at e
      · rename_i vs n hd
        injection e with e _
        injection e with e
        injection e with e3 e4
        exact ⟨t, ot, vs, n, ht, qo, e3, hd, e4⟩
      · cases e
    · cases e
  · cases e
  · cases e
theorem untok_int {v : Value} {i : Int} (h : untok v = .int i 0) : ∃ t, v = .int i t := by
  unfold untok at h
  split at h
  · rename_i j t; injection h with h _; exact ⟨t, by rw [h]⟩
  · cases h
  · rename_i h1 _; exact ⟨0, h⟩
theorem untok_str {v : Value} {x : Str} (h : untok v = .str x 0) : ∃ t, v = .str x t := by
  unfold untok at h
  split at h
  · cases h
  · rename_i j t; injection h with h _; exact ⟨t, by rw [h]⟩
  · exact ⟨0, h⟩
theorem untok_none {v : Value} (h : untok v = .none) : v = .none := by
  unfold untok at h
  split at h
  · cases h
  · cases h
  · exact h
theorem map_one {vs : List Value} {a : Value} (h : vs.map untok = [a]) : ∃ v, vs = [v] ∧ untok v = a := by
  cases vs with
  | nil => cases h
  | cons v r =>
    injection h with h1 h2
    cases r with
    | nil => exact ⟨v, rfl, h1⟩
    | cons _ _ => cases h2
theorem map_four {vs : List Value} {a b c d : Value} (h : vs.map untok = [a, b, c, d]) : ∃ v w x y, vs = [v, w, x, y] ∧ untok v = a ∧ untok w = b ∧ untok x = c ∧ untok y = d := by
  cases vs with
  | nil => cases h
  | cons v r =>
    injection h with h1 h
    cases r with
    | nil => cases h
    | cons w r =>
      injection h with h2 h
      cases r with
      | nil => cases h
      | cons x r =>
        injection h with h3 h
        obtain ⟨y, rfl, h4⟩ := map_one h
        exact ⟨v, w, x, y, rfl, h1, h2, h3, h4⟩
noncomputable def topC (w : World) (h₁ : Heap) (nl : h₁.NoLimit) : Cx where
  prog := PySem.Challenge.rw_nz0092_01.row.prog
  w := w
  G := fun h => Stays h₁ h
  mono := fun s g => stays_trans g s
  lim := fun g => nl.keeps g
  Kc := []
section
variable {w : World} {h₀ h₁ : Heap} {nl : h₁.NoLimit} {mg mb : Str → Option Value}
theorem mg_eq (st : Stays h₀ h₁) (ng : h₁.Ns mainGlobals mg) {x0 : Str} {v0 : Value} (hx : h₀.nsMap mainGlobals x0 = some v0) (x : Str) : h₀.nsMap mainGlobals x = mg x := by
  obtain ⟨o, es, ep, ho, hd, _, hf⟩ := ng
  unfold Heap.nsMap at hx ⊢
  cases e : h₀.get? mainGlobals with
  | none => rw [e] at hx; cases hx
  | some o' =>
    have := st _ _ e
    rw [ho] at this
    cases this
    dsimp only
    rw [hd]
    exact hf x
theorem fn_row (st : Stays h₀ h₁) (ng : h₁.Ns mainGlobals mg) (nb : h₁.Ns builtinsNs mb) {i : Nat} {x : Str} {a : Addr} (e : rowOf h₀ x = rowIs i a none) (hn : fnName (stmtAt i) = x) : Fn (topC w h₁ nl) i x a := by
  unfold rowOf rowIs at e
  injection e with e1 e
  injection e with e2 e
  injection e with e3 e4
  rw [e1] at e2 e3 e4
  obtain ⟨ob, fd, f1, f2, f3⟩ := fdN_of e2
  have hdn := dfN_none f1 f2 e4
  have hc := cdB_of f1 f2 e3
  have hfd : fd = fdOf i fd.pyModule fd.code .none := by
    have : fd = { (fdOf i .none .none .none) with pyModule := fd.pyModule, code := fd.code } := by
      rw [← f3, ← hdn]
    exact this
  refine ⟨⟨fd.pyModule, fd.code, ⟨fun _ g => ⟨ob, g _ _ (st _ _ f1), by rw [f2]; exact congrArg _ hfd, ?_⟩⟩⟩, fun _ g => ⟨mg, mb, ng.keeps g, nb.keeps g, .inl ((mg_eq st ng e1 x).symm.trans e1)⟩⟩
  show Heap.CodeRec _ _ (fnName (stmtAt i))
  rw [hn]
  exact (hc.keeps st).keeps g
theorem fnD_row (st : Stays h₀ h₁) (ng : h₁.Ns mainGlobals mg) (nb : h₁.Ns builtinsNs mb) {i : Nat} {x : Str} {a : Addr} {ds : List Value} (e : rowOf h₀ x = rowIs i a (some (.type "tuple", ds))) (hn : fnName (stmtAt i) = x) : ∃ dvs : List Value, dvs.map untok = ds ∧ FnD (topC w h₁ nl) i x a dvs := by
  unfold rowOf rowIs at e
  injection e with e1 e
  injection e with e2 e
  injection e with e3 e4
  rw [e1] at e2 e3 e4
  obtain ⟨ob, fd, f1, f2, f3⟩ := fdN_of e2
  obtain ⟨t, ot, vs, n, g1, g2, g3, g4, g5⟩ := dfN_some f1 f2 e4
  have hc := cdB_of f1 f2 e3
  have hfd : fd = fdOf i fd.pyModule fd.code (.ref t) := by
    have : fd = { (fdOf i .none .none .none) with pyModule := fd.pyModule, code := fd.code, defaults := .ref t } := by
      rw [← f3, ← g1]
    exact this
  refine ⟨vs.toList, g5, ⟨⟨fd.pyModule, fd.code, .ref t, ⟨fun _ g => ⟨ob, g _ _ (st _ _ f1), by rw [f2]; exact congrArg _ hfd, ?_⟩⟩, fun _ g => ⟨t, ot, n, rfl, g _ _ (st _ _ g2), g3, by rw [g4]⟩⟩, fun _ g => ⟨mg, mb, ng.keeps g, nb.keeps g, .inl ((mg_eq st ng e1 x).symm.trans e1)⟩⟩⟩
  show Heap.CodeRec _ _ (fnName (stmtAt i))
  rw [hn]
  exact (hc.keeps st).keeps g
theorem bi_row (st : Stays h₀ h₁) (ng : h₁.Ns mainGlobals mg) (nb : h₁.Ns builtinsNs mb) (hb : ∀ x : Str, x ≠ "__name__" → mb x = bootBuiltins x) {x0 : Str} {v0 : Value} (hx : h₀.nsMap mainGlobals x0 = some v0) {x : Str} {v : Value} (e : h₀.nsMap mainGlobals x = none) (hv : bootBuiltins x = some v) (hne : x ≠ "__name__") : Glob (topC w h₁ nl) x v :=
  fun _ g => ⟨mg, mb, ng.keeps g, nb.keeps g, .inr ⟨(mg_eq st ng hx x).symm.trans e, (hb x hne).trans hv⟩⟩
theorem pg_row (he : obsOf h₀ = goodO) (st : Stays h₀ h₁) (ng : h₁.Ns mainGlobals mg) (nb : h₁.Ns builtinsNs mb) (hb : ∀ x : Str, x ≠ "__name__" → mb x = bootBuiltins x) : Pg (topC w h₁ nl) ∧ Fn (topC w h₁ nl) 38 "law" 260 ∧ mg "law" = some (.ref 260) := by
  unfold obsOf goodO at he
  injection he with hI hB
  have h0 : h₀.nsMap mainGlobals "is_space" = some (.ref 21) := congrArg Prod.fst (map_at hI 0 _ _ rfl rfl)
  have ris_space_ : Fn (topC w h₁ nl) 1 "is_space" 21 := fn_row st ng nb (map_at hI 0 _ _ rfl rfl) (by decide +kernel)
  have ris_upper_ : Fn (topC w h₁ nl) 2 "is_upper" 28 := fn_row st ng nb (map_at hI 1 _ _ rfl rfl) (by decide +kernel)
  have ris_letter_ : Fn (topC w h₁ nl) 3 "is_letter" 35 := fn_row st ng nb (map_at hI 2 _ _ rfl rfl) (by decide +kernel)
  have rlower_ : Fn (topC w h₁ nl) 4 "lower" 42 := fn_row st ng nb (map_at hI 3 _ _ rfl rfl) (by decide +kernel)
  have rlower_text_ : Fn (topC w h₁ nl) 5 "lower_text" 49 := fn_row st ng nb (map_at hI 4 _ _ rfl rfl) (by decide +kernel)
  have rlabel_rows_ : Fn (topC w h₁ nl) 7 "label_rows" 56 := fn_row st ng nb (map_at hI 5 _ _ rfl rfl) (by decide +kernel)
  have rskip_spaces_ : Fn (topC w h₁ nl) 8 "skip_spaces" 63 := fn_row st ng nb (map_at hI 6 _ _ rfl rfl) (by decide +kernel)
  have rencoding_of_ : Fn (topC w h₁ nl) 9 "encoding_of" 70 := fn_row st ng nb (map_at hI 7 _ _ rfl rfl) (by decide +kernel)
  have rbom_of_ : Fn (topC w h₁ nl) 10 "bom_of" 77 := fn_row st ng nb (map_at hI 8 _ _ rfl rfl) (by decide +kernel)
  have rgaps_ : Fn (topC w h₁ nl) 11 "gaps" 84 := fn_row st ng nb (map_at hI 9 _ _ rfl rfl) (by decide +kernel)
  have rskip_ : Fn (topC w h₁ nl) 12 "skip" 91 := fn_row st ng nb (map_at hI 10 _ _ rfl rfl) (by decide +kernel)
  have rseek_ : Fn (topC w h₁ nl) 13 "seek" 98 := fn_row st ng nb (map_at hI 11 _ _ rfl rfl) (by decide +kernel)
  have rfolded_ : Fn (topC w h₁ nl) 14 "folded" 103 := fn_row st ng nb (map_at hI 12 _ _ rfl rfl) (by decide +kernel)
  have rget_attribute_ : Fn (topC w h₁ nl) 15 "get_attribute" 110 := fn_row st ng nb (map_at hI 13 _ _ rfl rfl) (by decide +kernel)
  have rtold_charset_ : Fn (topC w h₁ nl) 16 "told_charset" 117 := fn_row st ng nb (map_at hI 14 _ _ rfl rfl) (by decide +kernel)
  have rcontent_charset_ : Fn (topC w h₁ nl) 17 "content_charset" 124 := fn_row st ng nb (map_at hI 15 _ _ rfl rfl) (by decide +kernel)
  have rtag_end_ : Fn (topC w h₁ nl) 18 "tag_end" 131 := fn_row st ng nb (map_at hI 16 _ _ rfl rfl) (by decide +kernel)
  have rread_meta_ : Fn (topC w h₁ nl) 19 "read_meta" 138 := fn_row st ng nb (map_at hI 17 _ _ rfl rfl) (by decide +kernel)
  have rpass_over_ : Fn (topC w h₁ nl) 20 "pass_over" 145 := fn_row st ng nb (map_at hI 18 _ _ rfl rfl) (by decide +kernel)
  have rskip_low_ : Fn (topC w h₁ nl) 21 "skip_low" 152 := fn_row st ng nb (map_at hI 19 _ _ rfl rfl) (by decide +kernel)
  have rxml_encoding_ : Fn (topC w h₁ nl) 22 "xml_encoding" 159 := fn_row st ng nb (map_at hI 20 _ _ rfl rfl) (by decide +kernel)
  have rl_digit_ : Fn (topC w h₁ nl) 26 "_law_digit" 182 := fn_row st ng nb (map_at hI 21 _ _ rfl rfl) (by decide +kernel)
  have rl_labels_ : Fn (topC w h₁ nl) 27 "_law_labels" 189 := fn_row st ng nb (map_at hI 22 _ _ rfl rfl) (by decide +kernel)
  have rl_cased_ : Fn (topC w h₁ nl) 28 "_law_cased" 194 := fn_row st ng nb (map_at hI 23 _ _ rfl rfl) (by decide +kernel)
  have rl_declaration_ : Fn (topC w h₁ nl) 29 "_law_declaration" 201 := fn_row st ng nb (map_at hI 24 _ _ rfl rfl) (by decide +kernel)
  have rl_prefix_ : Fn (topC w h₁ nl) 30 "_law_prefix" 208 := fn_row st ng nb (map_at hI 25 _ _ rfl rfl) (by decide +kernel)
  have rl_attribute_ : Fn (topC w h₁ nl) 31 "_law_attribute" 215 := fn_row st ng nb (map_at hI 26 _ _ rfl rfl) (by decide +kernel)
  have rl_meta_ : Fn (topC w h₁ nl) 32 "_law_meta" 222 := fn_row st ng nb (map_at hI 27 _ _ rfl rfl) (by decide +kernel)
  have rl_inert_ : Fn (topC w h₁ nl) 33 "_law_inert" 229 := fn_row st ng nb (map_at hI 28 _ _ rfl rfl) (by decide +kernel)
  have rl_piece_ : Fn (topC w h₁ nl) 34 "_law_piece" 236 := fn_row st ng nb (map_at hI 29 _ _ rfl rfl) (by decide +kernel)
  have rl_wish_ : Fn (topC w h₁ nl) 35 "_law_wish" 243 := fn_row st ng nb (map_at hI 30 _ _ rfl rfl) (by decide +kernel)
  have rl_found_ : Fn (topC w h₁ nl) 36 "_law_found" 250 := fn_row st ng nb (map_at hI 31 _ _ rfl rfl) (by decide +kernel)
  have rl_octets_ : Fn (topC w h₁ nl) 37 "_law_octets" 255 := fn_row st ng nb (map_at hI 32 _ _ rfl rfl) (by decide +kernel)
  obtain ⟨dprescan_, eprescan_, rprescan_⟩ := fnD_row (w := w) (nl := nl) (i := 23) (x := "prescan") (a := 167) st ng nb (map_at hI 33 _ _ rfl rfl) (by decide +kernel)
  obtain ⟨dsniff_, esniff_, rsniff_⟩ := fnD_row (w := w) (nl := nl) (i := 24) (x := "sniff") (a := 175) st ng nb (map_at hI 34 _ _ rfl rfl) (by decide +kernel)
  have rlaw_ : Fn (topC w h₁ nl) 38 "law" 260 := fn_row st ng nb (map_at hI 35 _ _ rfl rfl) (by decide +kernel)
  have pre : ∃ t, FnD (topC w h₁ nl) 23 "prescan" 167 [.int 1024 t] := by
    obtain ⟨v, rfl, e⟩ := map_one eprescan_
    obtain ⟨t, rfl⟩ := untok_int e
    exact ⟨t, rprescan_⟩
  have sni : ∃ t u, FnD (topC w h₁ nl) 24 "sniff" 175 [.none, .none, .int 1024 t, .str "windows-1252" u] := by
    obtain ⟨a, b, c, d, rfl, e1, e2, e3, e4⟩ := map_four esniff_
    obtain ⟨t, rfl⟩ := untok_int e3
    obtain ⟨u, rfl⟩ := untok_str e4
    rw [untok_none e1, untok_none e2] at rsniff_
    exact ⟨t, u, rsniff_⟩
  refine ⟨?_, rlaw_, (mg_eq st ng h0 "law").symm.trans (congrArg Prod.fst (map_at hI 35 _ _ rfl rfl))⟩
  exact { is_space_ := ris_space_, is_upper_ := ris_upper_, is_letter_ := ris_letter_, lower_ := rlower_, lower_text_ := rlower_text_, label_rows_ := rlabel_rows_, skip_spaces_ := rskip_spaces_, encoding_of_ := rencoding_of_, bom_of_ := rbom_of_, gaps_ := rgaps_, skip_ := rskip_, seek_ := rseek_, folded_ := rfolded_, get_attribute_ := rget_attribute_, told_charset_ := rtold_charset_, content_charset_ := rcontent_charset_, tag_end_ := rtag_end_, read_meta_ := rread_meta_, pass_over_ := rpass_over_, skip_low_ := rskip_low_, xml_encoding_ := rxml_encoding_, l_digit_ := rl_digit_, l_labels_ := rl_labels_, l_cased_ := rl_cased_, l_declaration_ := rl_declaration_, l_prefix_ := rl_prefix_, l_attribute_ := rl_attribute_, l_meta_ := rl_meta_, l_inert_ := rl_inert_, l_piece_ := rl_piece_, l_wish_ := rl_wish_, l_found_ := rl_found_, l_octets_ := rl_octets_, bLen := bi_row st ng nb hb h0 (map_at hB 0 _ _ rfl rfl) (by decide +kernel) (by decide +kernel), bChr := bi_row st ng nb hb h0 (map_at hB 1 _ _ rfl rfl) (by decide +kernel) (by decide +kernel), bOrd := bi_row st ng nb hb h0 (map_at hB 2 _ _ rfl rfl) (by decide +kernel) (by decide +kernel), bMax := bi_row st ng nb hb h0 (map_at hB 3 _ _ rfl rfl) (by decide +kernel) (by decide +kernel), bRange := bi_row st ng nb hb h0 (map_at hB 4 _ _ rfl rfl) (by decide +kernel) (by decide +kernel), bBytes := bi_row st ng nb hb h0 (map_at hB 5 _ _ rfl rfl) (by decide +kernel) (by decide +kernel), prescan_ := pre, sniff_ := sni }
theorem ints_of {P : Params} {h : Heap} {K : Led} : ∀ {vs : List Value} {ns : List Int}, WellAll P h vs (ofPys (ns.map PyData.int)) → DatAll K vs (zD ns)
  | _, [], .nil => .nil
  | _, n :: ns, .cons h r => by
    cases h
    exact .cons (.int _ _) (ints_of r)
theorem walk_core (plain : ∀ ns, lawM ns = true) {w : World} {h₀ : Heap} {s₁ : Shared} {mg mb : Str → Option Value} (he : obsOf h₀ = goodO) (st : Stays h₀ s₁.heap) (ng : s₁.heap.Ns mainGlobals mg) (nb : s₁.heap.Ns builtinsNs mb) (nl : s₁.heap.NoLimit) (hb : ∀ x : Str, x ≠ "__name__" → mb x = bootBuiltins x)
    {fa a : Addr} {ns : List Int} (hm : mg "law" = some (.ref fa)) (hw : Well w.params s₁.heap (.ref a) (ofPy (.list (ns.map PyData.int)))) (hn : ns.length ≤ 63) {Q E : Value → Shared → Prop}
    (hQ : ∀ h' tk, Stays s₁.heap h' → Q (.bool true) { s₁ with heap := h', toks := tk }) :
    wpAny (model PySem.Challenge.rw_nz0092_01.row.prog w) callerA (call (.ref fa) [.ref a]) Q E s₁ := by
  obtain ⟨P, F, hl⟩ := pg_row (w := w) (nl := nl) he st ng nb hb
  have hfa : fa = 260 := by
    rw [hm] at hl
    injection hl with q
    injection q
  subst hfa
  have hlaw := law_ok P F (ns := ns) (by omega)
  rw [plain ns] at hlaw
  have hw' : Well w.params s₁.heap (.ref a) (.list (ofPys (ns.map PyData.int))) := hw
  cases hw' with
  | @list _ vs _ e1 e2 =>
  refine hlaw [(a, lstO vs 0)] s₁ callerA E Q [.ref a] (stays_refl _) (fun p hp => ?_) (fun p hp => nomatch hp) ⟨rfl, ?_, ?_⟩ (.cons (.list (n := 0) (.head _) (ints_of e2)) .nil) fun v K' h' tk dv x kn st => ?_
  · rcases List.mem_singleton.mp hp with rfl
    exact e1
  · decide
  · decide
  · cases dv
    exact hQ h' tk st
noncomputable def lawDef : DefRec := ⟨"law", fnArgs (stmtAt 38), fnBody (stmtAt 38), fnScope (stmtAt 38), match stmtAt 38 with
  | .FunctionDef _ _ _ _ _ _ _ _ _ p => p
  | _ => ⟨0, 0, 0, 0⟩⟩
theorem hdef0 : defOf viewQ PySem.Challenge.rw_nz0092_01.row.name = some (lawDef, []) := by kernel_rfl
theorem hthe0 : PySem.Challenge.rw_nz0092_01.row.prog.theDef PySem.Challenge.rw_nz0092_01.row.name = some (lawDef.params, lawDef.body, lawDef.scope) := by kernel_rfl
theorem chains0 : (chainsOk viewQ && opensWell PySem.Challenge.rw_nz0092_01.row.prog && (frees PySem.Challenge.rw_nz0092_01.row.toRowW && PySem.Challenge.rw_nz0092_01.row.within.isEmpty)) = true := by kernel_rfl
theorem final (plain : ∀ ns, lawM ns = true) : PySem.Challenge.rw_nz0092_01.Holds := by
  refine holds_law said fun wsaid => ?_
  refine holds_open (q := viewQ) (loose := looseL) (Xt := fun s => xlAt viewQ [] s && recOk (RowW.records PySem.Challenge.rw_nz0092_01.row.toRowW) s) (XP := XL viewQ []) (Yf := myHook.obs) (Ya := myHook.val) (YP := myHook.says) (d := lawDef) (kwd := []) (N := 2446) left0 myHook.of myHook.keeps
    (fun s e => xl_of s (Bool.and_eq_true_iff.mp e).1) XL.keeps hdef0 hthe0 (by rfl) (fun s e => recFacts_of (Bool.and_eq_true_iff.mp e).2) (by rfl) wsaid chains0 ⟨rfl, rfl, rfl, rfl, rfl, by decide +kernel⟩ ?hw ?hc
  case hw => w_witness2
  case hc =>
    intro w s₀ s₁ mg mb G Y fa o pm cd doc dV kV ho hdd hcd hD hmg hg args vals as hpre hlay hrd hwl hlo
    obtain ⟨h₀, he, st⟩ := Y
    have T := G.T
    wrow_args hpre hlay hrd hwl hlo
    rename_i ns _ _ _ _ _ _ _ _ _ _ _ hW _ _ _ hL _
    refine walk_core plain he st T.g T.b T.nolimit T.builtins hmg hW (by omega) fun h' tk st => ?_
    exact ⟨.inl ⟨_, .bool true, [], rfl, fun _ => rfl, .bool true, by with_unfolding_all rfl, fun _ => ⟨List.nodup_nil, fun _ h => nomatch h⟩⟩, .of_keep st, rfl, .of_eq hg⟩
end
end
end Mine
theorem PySem.Challenge.cw_nz0092_01_holds : PySem.Challenge.rw_nz0092_01.Holds :=
  Mine.final Mine.plain
