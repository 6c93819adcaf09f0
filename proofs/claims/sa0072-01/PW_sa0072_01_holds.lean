import PyProof.Rows.All
import Wide.All
import OpenK.AllK
import Wide.FinOn
import PySem.Challenge.RW_sa0072_01

set_option Elab.async false

set_option linter.unusedVariables false

namespace Mine
open PySem PySem.W PyProof.Rows
set_option maxRecDepth 100000 in
set_option maxHeartbeats 8000000 in
open_top hd for PySem.Challenge.rw_sa0072_01
end Mine

namespace Mine
open PySem PySem.W PyProof.Rows PySem.Calls PySem.Spec

/-- the heap only grows, but for the addresses in Mut -/
def Up (Mut : Addr → Prop) (h h' : Heap) : Prop := ∀ a o, ¬ Mut a → h.get? a = some o → h'.get? a = some o
def NoMut : Addr → Prop := fun _ => False
theorem Up.refl {Mut : Addr → Prop} {h : Heap} : Up Mut h h := fun _ _ _ e => e
theorem Up.trans {Mut : Addr → Prop} {h h' h'' : Heap} (x : Up Mut h h') (y : Up Mut h' h'') : Up Mut h h'' := fun a o n e => y a o n (x a o n e)
theorem Up.all {h h' : Heap} (x : Up NoMut h h') : ∀ a o, h.get? a = some o → h'.get? a = some o := fun a o e => x a o (fun f => f) e
theorem Up.of {Mut : Addr → Prop} {h h' : Heap} (x : ∀ a o, h.get? a = some o → h'.get? a = some o) : Up Mut h h' := fun a o _ e => x a o e
theorem Up.push {Mut : Addr → Prop} {h : Heap} (o : Obj) : Up Mut h (h.push o) := fun _ _ _ e => Heap.get?_push_of_some _ e

/-- a state that comes of another by heap and tokens alone -/
def KB (Mut : Addr → Prop) (s s' : Shared) : Prop := ∃ h' tk', s' = { s with heap := h', toks := tk' } ∧ Up Mut s.heap h'
theorem KB.refl {Mut : Addr → Prop} {s : Shared} : KB Mut s s := ⟨s.heap, s.toks, rfl, Up.refl⟩
theorem KB.trans {Mut : Addr → Prop} {s s' s'' : Shared} (x : KB Mut s s') (y : KB Mut s' s'') : KB Mut s s'' := by
  obtain ⟨h', tk', rfl, u⟩ := x
  obtain ⟨h'', tk'', rfl, v⟩ := y
  exact ⟨h'', tk'', rfl, u.trans v⟩
theorem KB.up {Mut : Addr → Prop} {s s' : Shared} (x : KB Mut s s') : Up Mut s.heap s'.heap := by
  obtain ⟨h', tk', rfl, u⟩ := x; exact u
theorem KB.mk' {Mut : Addr → Prop} {s : Shared} {h' : Heap} {tk' : Nat} (u : Up Mut s.heap h') : KB Mut s { s with heap := h', toks := tk' } := ⟨h', tk', rfl, u⟩

/-- a variable's value -/
inductive VarIs (h : Heap) (env : Env) (x : Str) (v : Value) : Prop
  | loc (m : Str → Option Value) : env.kindOf x = some .local → h.Ns env.locals m → m x = some v → VarIs h env x v
  | cell (c : Addr) : env.kindOf x = some .cell ∨ env.kindOf x = some .free → env.cells.lookup x = some c → h.IsCell c (some v) → VarIs h env x v
theorem VarIs.keeps {h h' : Heap} {env : Env} {x : Str} {v : Value} (V : VarIs h env x v) (hk : ∀ a o, h.get? a = some o → h'.get? a = some o) : VarIs h' env x v := by
  cases V with
  | loc m a b c => exact .loc m a (b.keeps hk) c
  | cell c a b d => exact .cell c a b (d.keeps hk)

section
variable {M : Model} {prog : Program} {w : World} {A : Around} {E : Value → Shared → Prop} {s : Shared} {env : Env} {mg mb : Str → Option Value} {loose : List Str} {H : Heap}
theorem nm_var {x : Str} {pos : Pos} {v : Value} {Q : Value → Shared → Prop} (V : VarIs s.heap env x v) (h : Q v s)
    (hf : env.scope.kind = .function := by rfl) (hd : (x == ("__debug__" : Str)) = false := by decide) (hn : (x == ("__classdict__" : Str)) = false := by decide) :
    wpAny M A (eval (.Name x pos) env) Q E s := by
  refine wpAny_Name ?_ hd
  cases V with
  | loc m a b c => exact wpAny_loadName_local hf a b c h
  | cell c a b d =>
    rcases a with a | a
    · exact wpAny_loadName_cell hf a b d h
    · exact wpAny_loadName_free hf a b d h hn

/-- what stands at the top -/
structure GT (w : World) (mg mb : Str → Option Value) (loose : List Str) (H : Heap) : Prop where
  X : (hd.heap_39 w.params).In H
  T : TopRead hd.view_39 loose mg mb H
theorem GT.keeps {H' : Heap} (G : GT w mg mb loose H) (hk : ∀ a o, H.get? a = some o → H'.get? a = some o) : GT w mg mb loose H' := ⟨G.X.keeps hk, G.T.keeps hk⟩

theorem nm_def {x : Str} {pos : Pos} {v : Value} {Q : Value → Shared → Prop} (G : GT w mg mb loose s.heap) (e : nsIn (hd.heap_39 w.params) mainGlobals x = some (some v)) (h : Q v s)
    (hf : env.scope.kind = .function := by rfl) (hx : env.kindOf x = some .globalImplicit := by rfl) (hg : env.globals = mainGlobals := by rfl) (hd : (x == ("__debug__" : Str)) = false := by decide) :
    wpAny M A (eval (.Name x pos) env) Q E s :=
  Name_function_global hf hx (loadGlobal_global (env := env) (show s.heap.Ns env.globals mg from hg ▸ G.T.g) (mg_of G.X G.T.g e) h) hd
theorem nm_blt {x : Str} {pos : Pos} {v : Value} {Q : Value → Shared → Prop} (G : GT w mg mb loose s.heap) (e : nsIn (hd.heap_39 w.params) mainGlobals x = some none) (hv : bootBuiltins x = some v) (h : Q v s)
    (hn : x ≠ "__name__" := by decide)
    (hf : env.scope.kind = .function := by rfl) (hx : env.kindOf x = some .globalImplicit := by rfl) (hg : env.globals = mainGlobals := by rfl) (hb : env.builtins = builtinsNs := by rfl) (hd : (x == ("__debug__" : Str)) = false := by decide) :
    wpAny M A (eval (.Name x pos) env) Q E s :=
  Name_function_global hf hx (loadGlobal_builtin (env := env) (show s.heap.Ns env.globals mg from hg ▸ G.T.g) (mg_none_of G.X G.T.g e) (show s.heap.Ns env.builtins mb from hb ▸ G.T.b) ((G.T.builtins x hn).trans hv) h) hd
end

theorem kf : (fun (_ : Params → Frag) (_ : OpenLaw) => True) Mine.hd.heap_39 PySem.Challenge.rw_sa0072_01 := by
  k_fill
  trivial

section
variable {w : World}
theorem n_len : nsIn (hd.heap_39 w.params) mainGlobals (Str.ofString "len") = some none := by k_is
theorem n_range : nsIn (hd.heap_39 w.params) mainGlobals (Str.ofString "range") = some none := by k_is
theorem n_list : nsIn (hd.heap_39 w.params) mainGlobals (Str.ofString "list") = some none := by k_is
theorem n_int : nsIn (hd.heap_39 w.params) mainGlobals (Str.ofString "int") = some none := by k_is
theorem n_sum : nsIn (hd.heap_39 w.params) mainGlobals (Str.ofString "sum") = some none := by k_is
theorem n_enumerate : nsIn (hd.heap_39 w.params) mainGlobals (Str.ofString "enumerate") = some none := by k_is
theorem n_pivot : nsIn (hd.heap_39 w.params) mainGlobals (Str.ofString "pivot_row") = some (some (.ref 41)) := by k_is
theorem n_step : nsIn (hd.heap_39 w.params) mainGlobals (Str.ofString "bareiss_step") = some (some (.ref 48)) := by k_is
theorem n_det : nsIn (hd.heap_39 w.params) mainGlobals (Str.ofString "determinant") = some (some (.ref 53)) := by k_is
theorem n_take : nsIn (hd.heap_39 w.params) mainGlobals (Str.ofString "_law_take") = some (some (.ref 60)) := by k_is
theorem n_lots : nsIn (hd.heap_39 w.params) mainGlobals (Str.ofString "_law_lots") = some (some (.ref 65)) := by k_is
theorem n_times : nsIn (hd.heap_39 w.params) mainGlobals (Str.ofString "_law_times") = some (some (.ref 70)) := by k_is
theorem n_more : nsIn (hd.heap_39 w.params) mainGlobals (Str.ofString "_law_more") = some (some (.ref 75)) := by k_is
theorem lkx {K : Frag} {f : Addr} {fo : Obj} {fd : FuncData} (h1 : K.lookup f = some fo) (h2 : Obj.data fo = .func fd) : ∃ fo fd, K.lookup f = some fo ∧ Obj.data fo = .func fd := ⟨fo, fd, h1, h2⟩
theorem lk41 : ∃ fo fd, (hd.heap_39 w.params).lookup 41 = some fo ∧ Obj.data fo = .func fd := by
  refine' lkx ?h1 ?h2
  case h1 => k_is
  case h2 => exact rfl
theorem lk48 : ∃ fo fd, (hd.heap_39 w.params).lookup 48 = some fo ∧ Obj.data fo = .func fd := by
  refine' lkx ?h1 ?h2
  case h1 => k_is
  case h2 => exact rfl
theorem lk53 : ∃ fo fd, (hd.heap_39 w.params).lookup 53 = some fo ∧ Obj.data fo = .func fd := by
  refine' lkx ?h1 ?h2
  case h1 => k_is
  case h2 => exact rfl
theorem lk60 : ∃ fo fd, (hd.heap_39 w.params).lookup 60 = some fo ∧ Obj.data fo = .func fd := by
  refine' lkx ?h1 ?h2
  case h1 => k_is
  case h2 => exact rfl
theorem lk65 : ∃ fo fd, (hd.heap_39 w.params).lookup 65 = some fo ∧ Obj.data fo = .func fd := by
  refine' lkx ?h1 ?h2
  case h1 => k_is
  case h2 => exact rfl
theorem lk70 : ∃ fo fd, (hd.heap_39 w.params).lookup 70 = some fo ∧ Obj.data fo = .func fd := by
  refine' lkx ?h1 ?h2
  case h1 => k_is
  case h2 => exact rfl
theorem lk75 : ∃ fo fd, (hd.heap_39 w.params).lookup 75 = some fo ∧ Obj.data fo = .func fd := by
  refine' lkx ?h1 ?h2
  case h1 => k_is
  case h2 => exact rfl
theorem b_len : bootBuiltins (Str.ofString "len") = some (.builtin "len") := by decide +kernel
theorem b_range : bootBuiltins (Str.ofString "range") = some (.type "range") := by decide +kernel
theorem b_list : bootBuiltins (Str.ofString "list") = some (.type "list") := by decide +kernel
theorem b_int : bootBuiltins (Str.ofString "int") = some (.type "int") := by decide +kernel
theorem b_sum : bootBuiltins (Str.ofString "sum") = some (.builtin "sum") := by decide +kernel
theorem b_enumerate : bootBuiltins (Str.ofString "enumerate") = some (.type "enumerate") := by decide +kernel
end
end Mine

namespace Mine
open PySem PySem.W PyProof.Rows PySem.Calls PySem.Spec

abbrev lst (ys : List Value) : Obj := { cls := .type "list", data := .seq ys.toArray ys.length }
theorem lst_snoc (ys : List Value) (y : Value) : ({ cls := .type "list", data := .seq (ys.toArray.push y) (ys.length + 1) } : Obj) = lst (ys ++ [y]) := LCg.lst_snoc ys y

/-- names stored one behind the other -/
def StoreW (M : Model) (A : Around) (env : Env) (Q : Shared → Prop) (E : Value → Shared → Prop) : List Str → List Value → Shared → Prop
  | [], _, s => Q s
  | x :: xs, v :: vs, s => wpAny M A (storeName env x v) (fun _ s' => StoreW M A env Q E xs vs s') E s
  | _ :: _, [], _ => False

/-- what stands behind a drawing: nothing more, or a value -/
def onNext (r : Option Value) (N : Prop) (K : Value → Prop) : Prop := match r with
  | none => N
  | some v => K v

/-- an iterator, as a for's target takes from it -/
structure IterOn (prog : Program) (w : World) (A : Around) (target : Expr) (names : List Str) (I : Addr) (fp wr : List Addr) (n : Nat) (P : Nat → List Value → Prop) (St : Nat → Heap → Prop) : Prop where
  sub : ∀ a ∈ wr, a ∈ fp
  frame : ∀ i h h', St i h → (∀ a ∈ fp, ∀ o, h.get? a = some o → h'.get? a = some o) → St i h'
  alive : ∀ i h, St i h → ∀ a ∈ fp, ∃ o, h.get? a = some o
  item : ∀ i (s : Shared) (env : Env) (N Q : Shared → Prop) (E : Value → Shared → Prop), i < n → St i s.heap →
    (∀ vs h' tk', P i vs → vs.length = names.length → St (i + 1) h' → (∀ a o, a ∉ wr → s.heap.get? a = some o → h'.get? a = some o) → StoreW (model prog w) A env Q E names vs { s with heap := h', toks := tk' }) →
    wpAny (model prog w) A (pyNext (.ref I)) (fun r s₂ => onNext r (N s₂) fun v => wpAny (model prog w) A (letOwnedTupleGo target (.ref I) v) (fun _ s₃ => wpAny (model prog w) A (assign target env v) (fun _ => Q) E s₃) E s₂) E s
  done : ∀ (s : Shared) (Q : Option Value → Shared → Prop) (E : Value → Shared → Prop), St n s.heap →
    (∀ h' tk', (∀ a o, a ∉ wr → s.heap.get? a = some o → h'.get? a = some o) → Q none { s with heap := h', toks := tk' }) → wpAny (model prog w) A (pyNext (.ref I)) Q E s
  self : ∀ i (s : Shared) (Q : Value → Shared → Prop) (E : Value → Shared → Prop), St i s.heap → Q (.ref I) s → wpAny (model prog w) A (pyIter (.ref I)) Q E s

section
variable {prog : Program} {w : World} {A : Around}
theorem IterOn.name {x : Str} {p : Pos} {I : Addr} {fp wr : List Addr} {n : Nat} {P : Nat → Value → Prop} {St : Nat → Heap → Prop} (W : Walks prog w A I fp wr n P St) (halive : ∀ i h, St i h → ∀ a ∈ fp, ∃ o, h.get? a = some o) :
    IterOn prog w A (.Name x p) [x] I fp wr n (fun i vs => ∃ v, vs = [v] ∧ P i v) St where
  sub := W.sub
  frame := W.frame
  alive := halive
  done := W.done
  self := W.self
  item := fun i s env N Q E hi st h => by
    refine W.item i s _ E hi st fun v h' tk hP st' hk => ?_
    exact wpAny_pure (wpAny_assign_Name (h [v] h' tk ⟨v, rfl, hP⟩ rfl st' hk))

theorem assign_pair {x y : Str} {px py pt : Pos} {k : Nat} {env : Env} {s : Shared} {T : Addr} {a b : Value} {Q : Shared → Prop} {E : Value → Shared → Prop} (hh : A.handled = none) (hT : s.heap.IsTuple T #[a, b])
    (h : ∀ h', (∀ a o, s.heap.get? a = some o → h'.get? a = some o) → StoreW (model prog w) A env Q E [x, y] [a, b] { s with heap := h' }) :
    wpAny (model prog w) A (assign (.Tuple [.Name x px, .Name y py] k pt) env (.ref T)) (fun _ => Q) E s := by
  refine wpAny_assign_Tuple hh hT rfl rfl fun h' hx => ?_
  show wpAny _ _ (assignInOrder [fun v => assign (.Name x px) env v, fun v => assign (.Name y py) env v] [a, b]) _ _ _
  have hk : ∀ a o, s.heap.get? a = some o → h'.get? a = some o := fun a o e => hx a o (Nat.ne_of_lt (Heap.lt_size e)) e
  exact wpAny_assignInOrder_more (wpAny_assign_Name (wpAny_mono (h h' hk) (fun _ s₁ h₁ => wpAny_assignInOrder_more (wpAny_assign_Name (wpAny_mono h₁ (fun _ s₂ h₂ => wpAny_assignInOrder_none h₂) fun _ _ e => e))) fun _ _ e => e))

theorem IterOn.pair {x y : Str} {px py pt : Pos} {k : Nat} {I : Addr} {fp wr : List Addr} {n : Nat} {Pt : Nat → Array Value → Prop} {St : Nat → Heap → Prop} {Mid : Nat → Addr → Heap → Prop} (hh : A.handled = none)
    (W : WalksT prog w A I fp wr n Pt St Mid) (halive : ∀ i h, St i h → ∀ a ∈ fp, ∃ o, h.get? a = some o) (P : Nat → Value → Value → Prop) (hP : ∀ i vals, Pt i vals → ∃ a b, vals = #[a, b] ∧ P i a b)
    (hT : ∀ i T h, Mid i T h → T ∉ wr) :
    IterOn prog w A (.Tuple [.Name x px, .Name y py] k pt) [x, y] I fp wr n (fun i vs => ∃ a b, vs = [a, b] ∧ P i a b) St where
  sub := W.sub
  frame := W.frame
  alive := halive
  done := W.done
  self := W.self
  item := fun i s env N Q E hi st h => by
    refine W.item i s _ E hi st fun T vals h' tk hp hs hTu hm hk => ?_
    obtain ⟨a, b, rfl, hab⟩ := hP i vals hp
    refine W.go _ _ _ i T _ _ _ hm fun h'' st' hk' => ?_
    have hTn := hT i T h' hm
    have hTu' : h''.IsTuple T #[a, b] := by
      obtain ⟨o, ho, r⟩ := hTu
      exact ⟨o, hk' T o hTn ho, r⟩
    refine assign_pair hh hTu' fun h₃ hk₃ => ?_
    refine h [a, b] h₃ tk ⟨a, b, rfl, hab⟩ rfl (W.frame _ _ _ st' fun a _ o e => hk₃ a o e) fun c o hc e => hk₃ c o (hk' c o hc (hk c o hc e))
end

theorem iter_list {prog : Program} {w : World} {A : Around} (hh : A.handled = none) {x : Str} {p : Pos} (I l : Addr) (hne : l ≠ I) (items : Array Value) :
    IterOn prog w A (.Name x p) [x] I [I, l] [I] items.size (fun i vs => ∃ v, vs = [v] ∧ items[i]? = some v) (fun i h => h.IsListIter I l i ∧ h.IsList l items) :=
  IterOn.name (Walks.list hh I l hne items) fun i h st a ha => by
    rcases List.mem_cons.mp ha with rfl | ha
    · obtain ⟨o, e, _⟩ := st.1; exact ⟨o, e⟩
    · obtain rfl := List.mem_singleton.mp ha
      obtain ⟨o, e, _⟩ := st.2; exact ⟨o, e⟩
theorem iter_range {prog : Program} {w : World} {A : Around} (hh : A.handled = none) {x : Str} {p : Pos} (I : Addr) (a : Int) (n : Nat) :
    IterOn prog w A (.Name x p) [x] I [I] [I] n (fun i vs => ∃ v, vs = [v] ∧ ∃ t, v = .int (a + (i : Int) * 1) t) (fun i h => IsRangeIter h I (a + (i : Nat) * 1) ((n : Int) - (i : Nat)) 1) :=
  IterOn.name (Walks.range hh I a 1 n) fun i h st b hb => by
    obtain rfl := List.mem_singleton.mp hb
    exact ⟨_, st⟩
theorem iter_enum {prog : Program} {w : World} {A : Around} (hh : A.handled = none) {x y : Str} {px py pt : Pos} {k : Nat} (e it l : Addr) (hei : e ≠ it) (hle : l ≠ e) (hli : l ≠ it) (items : Array Value) :
    IterOn prog w A (.Tuple [.Name x px, .Name y py] k pt) [x, y] e [e, it, l] [e, it] items.size (fun i vs => ∃ a b, vs = [a, b] ∧ (∃ t, a = .int i t) ∧ items[i]? = some b)
      (fun i h => (∃ old, IsEnum h e it i old) ∧ h.IsListIter it l i ∧ h.IsList l items) :=
  IterOn.pair hh (WalksT.enumerate hh e it l hei hle hli items) (fun i h st a ha => by
      rcases List.mem_cons.mp ha with rfl | ha
      · obtain ⟨old, e⟩ := st.1; exact ⟨_, e⟩
      · rcases List.mem_cons.mp ha with rfl | ha
        · obtain ⟨o, e, _⟩ := st.2.1; exact ⟨o, e⟩
        · obtain rfl := List.mem_singleton.mp ha
          obtain ⟨o, e, _⟩ := st.2.2; exact ⟨o, e⟩)
    _ (fun i vals hp => by obtain ⟨t, b, hb, rfl⟩ := hp; exact ⟨_, b, rfl, ⟨t, rfl⟩, hb⟩)
    (fun i T h hm => (WalksT.enumerate (prog := prog) (w := w) hh e it l hei hle hli items).apart i T h hm)
end Mine

namespace Mine
open PySem PySem.W PyProof.Rows PySem.Calls PySem.Spec

theorem iter_tup {prog : Program} {w : World} {A : Around} (hh : A.handled = none) {x : Str} {p : Pos} (I l : Addr) (hne : l ≠ I) (items : Array Value) :
    IterOn prog w A (.Name x p) [x] I [I, l] [I] items.size (fun i vs => ∃ v, vs = [v] ∧ items[i]? = some v) (fun i h => h.IsTupleIter I l i ∧ h.IsTuple l items) :=
  IterOn.name (Walks.tuple hh I l hne items) fun i h st a ha => by
    rcases List.mem_cons.mp ha with rfl | ha
    · obtain ⟨o, e, _⟩ := st.1; exact ⟨o, e⟩
    · obtain rfl := List.mem_singleton.mp ha
      obtain ⟨o, e, _⟩ := st.2; exact ⟨o, e⟩

theorem pushCells_cells : ∀ (names : List (Str × NameKind)) (h : Heap), h.objs.size ≤ (pushCells h names).objs.size ∧ ∀ c, h.objs.size ≤ c → c < (pushCells h names).objs.size → (pushCells h names).IsCell c none
  | [], h => ⟨Nat.le_refl _, fun c a b => absurd (Nat.lt_of_le_of_lt a b) (Nat.lt_irrefl _)⟩
  | (x, k) :: r, h => by
    unfold pushCells
    split
    · have ih := pushCells_cells r (h.push { cls := .type "cell", data := .cell none })
      rw [Heap.size_push] at ih
      refine ⟨Nat.le_of_succ_le ih.1, fun c a b => ?_⟩
      rcases Nat.lt_or_eq_of_le a with a | rfl
      · exact ih.2 c a b
      · exact ⟨_, pushCells_keeps r _ _ _ (Heap.get?_push_size _ rfl), rfl⟩
    · exact pushCells_cells r h

section
variable {M : Model} {A : Around} {E : Value → Shared → Prop} {s : Shared}
theorem newCompEnv {scope : Scope} {env : Env} {cl : List (Str × Addr)} {Q : Env → Shared → Prop}
    (h : Q { scope, locals := s.heap.objs.size, globals := env.globals, cells := cellsFrom (s.heap.objs.size + 1) scope.names cl, qual := env.qual, func := none, code := env.code, frame := env.frame, builtins := env.builtins }
      { s with heap := pushCells (s.heap.push { cls := .type "dict", data := .dict #[] }) scope.names }) :
    wpAny M A (newFunctionEnv scope env.globals cl [] env.qual none .none (some env)) Q E s := by
  simp only [newFunctionEnv, Option.isSome_some, if_true]
  refine wpAny_bind (wpAny_alloc ?_)
  refine wpAny_bind (wpAny_layCells _ (fun name kind cells => by cases hkc : kind == NameKind.cell <;> simp) _ _ _ _ ?_)
  rw [show ({ s with heap := s.heap.push { cls := .type "dict", data := .dict #[] } } : Shared).heap.objs.size = s.heap.objs.size + 1 from Heap.size_push ..]
  simp only [List.forIn_nil]
  exact wpAny_bind (wpAny_pure (wpAny_pure h))
end

/-- the block's own names can be stored: the dict at C, cells behind it below Top -/
structure CompVars (C Top : Addr) (h : Heap) : Prop where
  lt : C < Top
  ns : ∃ m, h.Ns C m
  cells : ∀ c, C < c → c < Top → ∃ v, h.IsCell c v

section
variable {prog : Program} {w : World} {A : Around} {E : Value → Shared → Prop} {s : Shared} {env : Env}
/-- where a name is stored -/
inductive Place (env : Env) (Top : Addr) (x : Str) : Prop
  | loc : env.kindOf x = some .local → Place env Top x
  | cell (c : Addr) : env.kindOf x = some .cell → env.cells.lookup x = some c → env.locals < c → c < Top → Place env Top x

theorem store_place {Top : Addr} {x : Str} {v : Value} {Q : Unit → Shared → Prop} (V : CompVars env.locals Top s.heap) (hk : env.scope.kind = .function) (P : Place env Top x)
    (h : ∀ h' tk', CompVars env.locals Top h' → VarIs h' env x v → (∀ a o, (a < env.locals ∨ Top ≤ a) → s.heap.get? a = some o → h'.get? a = some o) → (∀ y u, y ≠ x → env.kindOf y = some .local → VarIs s.heap env y u → VarIs h' env y u) →
      (env.kindOf x = some .local → ∀ y u, y ≠ x → (∀ c, env.cells.lookup y = some c → c ≠ env.locals) → VarIs s.heap env y u → VarIs h' env y u) →
      Q () { s with heap := h', toks := tk' }) :
    wpAny (model prog w) A (storeName env x v) Q E s := by
  cases P with
  | loc hl =>
    obtain ⟨m, hn⟩ := V.ns
    refine wpAny_storeName_local hl hn (fun h' hn' hs' => ?_) (by rw [hk]; rfl)
    have locs : ∀ y u, y ≠ x → env.kindOf y = some .local → VarIs s.heap env y u → VarIs h' env y u := fun y u hy hl' Vy => by
        cases Vy with
        | loc m' a b c =>
          refine .loc _ a hn' ?_
          rw [if_neg hy]
          obtain ⟨o, es, ep, e1, e2, e3, e4⟩ := hn
          obtain ⟨o', es', ep', f1, f2, f3, f4⟩ := b
          rw [e1] at f1; cases f1; rw [e2] at f2; cases f2
          rw [← e4, f4]; exact c
        | cell c a _ _ => rw [hl'] at a; rcases a with a | a <;> cases a
    refine h h' _ ⟨V.lt, ⟨_, hn'⟩, fun c a b => ?_⟩ (.loc _ hl hn' (by simp)) (fun a o ha e => hs'.extBut a o (fun q => ?_) e) locs ?_
    · obtain ⟨v, hv⟩ := V.cells c a b
      exact ⟨v, hv.sameBut hs' (fun q => by have q' : c = env.locals := q; rw [q'] at a; exact Nat.lt_irrefl _ a)⟩
    · have q' : a = env.locals := q
      rcases ha with ha | ha
      · rw [q'] at ha; exact Nat.lt_irrefl _ ha
      · rw [q'] at ha; exact Nat.lt_irrefl _ (Nat.lt_of_lt_of_le V.lt ha)
    · intro _ y u hy hc Vy
      cases Vy with
      | loc m' a b c => exact locs y u hy a (.loc m' a b c)
      | cell c a b d => exact .cell c a b (d.sameBut hs' (hc c b))
  | cell c hl hc hL hT =>
    obtain ⟨v₀, hv⟩ := V.cells c hL hT
    obtain ⟨m, hn⟩ := V.ns
    refine wpAny_storeName_cell hk hl hc hv fun h' hv' hs' => h h' s.toks ⟨V.lt, ⟨m, hn.sameBut hs' (Nat.ne_of_lt hL)⟩, fun c' a b => ?_⟩ (.cell c (.inl hl) hc hv') (fun a o ha e => hs'.extBut a o (fun q => ?_) e) (fun y u hy hl' Vy => ?_) ?_
    · by_cases q : c' = c
      · exact ⟨some v, q ▸ hv'⟩
      · obtain ⟨v, hv⟩ := V.cells c' a b
        exact ⟨v, hv.sameBut hs' q⟩
    · have q' : a = c := q
      rcases ha with ha | ha
      · rw [q'] at ha; exact Nat.lt_irrefl _ (Nat.lt_trans hL ha)
      · rw [q'] at ha; exact Nat.lt_irrefl _ (Nat.lt_of_lt_of_le hT ha)
    · cases Vy with
      | loc m' a b e => exact .loc m' a (b.sameBut hs' (Nat.ne_of_lt hL)) e
      | cell c a _ _ => rw [hl'] at a; rcases a with a | a <;> cases a
    · intro e; rw [hl] at e; cases e

/-- the targets' names: one name; two, the second a local -/
inductive Places (env : Env) (Top : Addr) : List Str → Prop
  | one {x : Str} : Place env Top x → Places env Top [x]
  | two {x y : Str} : Place env Top x → env.kindOf y = some .local → y ≠ x → (env.kindOf x = some .local ∨ ∀ c, env.cells.lookup x = some c → c ≠ env.locals) → Places env Top [x, y]

theorem store_places {Top : Addr} {names : List Str} {vs : List Value} {Q : Shared → Prop} (V : CompVars env.locals Top s.heap) (hk : env.scope.kind = .function) (P : Places env Top names) (hlen : vs.length = names.length)
    (h : ∀ h' tk', CompVars env.locals Top h' → (∀ p ∈ names.zip vs, VarIs h' env p.1 p.2) → (∀ a o, (a < env.locals ∨ Top ≤ a) → s.heap.get? a = some o → h'.get? a = some o) → Q { s with heap := h', toks := tk' }) :
    StoreW (model prog w) A env Q E names vs s := by
  cases P with
  | one p =>
    obtain ⟨v, rfl⟩ : ∃ v, vs = [v] := by
      match vs, hlen with
      | [v], _ => exact ⟨v, rfl⟩
    refine store_place V hk p fun h' tk' V' Vx hk' _ _ => ?_
    exact h h' tk' V' (fun q hq => by obtain rfl := List.mem_singleton.mp hq; exact Vx) hk'
  | two px hy hyx hc =>
    obtain ⟨v, u, rfl⟩ : ∃ v u, vs = [v, u] := by
      match vs, hlen with
      | [v, u], _ => exact ⟨v, u, rfl⟩
    refine store_place V hk px fun h' tk' V' Vx hk' _ _ => ?_
    refine store_place V' hk (.loc hy) fun h'' tk'' V'' Vy hk'' hl hc'' => ?_
    refine h h'' tk'' V'' (fun q hq => ?_) (fun a o ha e => hk'' a o ha (hk' a o ha e))
    rcases List.mem_cons.mp hq with rfl | hq
    · rcases hc with hc | hc
      · exact hl _ _ (Ne.symm hyx) hc Vx
      · exact hc'' hy _ _ (Ne.symm hyx) hc Vx
    · obtain rfl := List.mem_singleton.mp hq
      exact Vy
end


/-- a block's tests -/
def tests (ifs : List Expr) (env : Env) : Sem Bool := forIn ifs true fun c r => if r = true then do let ok ← isTrue c env (eval c env); pure (ForInStep.yield ok) else pure (ForInStep.yield r)

theorem compLoop_any {prog : Program} {w : World} {A : Around} {R : Result → Shared → Prop} {s : Shared} {elt target iter : Expr} {ifs : List Expr} {scope : Scope} {pos : Pos} {it acc : Value} {env : Env} (I : Nat → Shared → Prop)
    (turn : ∀ n s, I n s → wpAny (model prog w) A (pyNext it) (fun r s₁ => onNext r (R (.ok .next) s₁) fun v => wpAny (model prog w) A (letOwnedTupleGo target it v) (fun _ s₁' => wpAny (model prog w) A (assign target env v) (fun _ s₂ =>
          wpAny (model prog w) A (tests ifs env) (fun ok s₃ =>
            if ok = true then wpAny (model prog w) A (eval elt env) (fun x s₄ =>
              wpAny (model prog w) A (call (.builtin "list.append") [acc, x]) (fun _ s₅ => ∃ m, m < n ∧ I m s₅) (notedBy (model prog w) A env fun e s' => R (.error e) s') s₄) (notedBy (model prog w) A env fun e s' => R (.error e) s') s₃
            else ∃ m, m < n ∧ I m s₃) (notedBy (model prog w) A env fun e s' => R (.error e) s') s₂) (notedBy (model prog w) A env fun e s' => R (.error e) s') s₁') (notedBy (model prog w) A env fun e s' => R (.error e) s') s₁) (notedBy (model prog w) A env fun e s' => R (.error e) s') s)
    (n : Nat) (h : I n s) :
    codeAny (model prog w) A (.compLoop (.ListComp elt [⟨target, iter, ifs, 0⟩] scope pos) 0 it acc env) R s := by
  refine codeAny_loop rfl I (fun n s hI => ?_) n h
  show wpAny _ A ((compTurn (.ListComp elt [⟨target, iter, ifs, 0⟩] scope pos) 0 it acc env).onRaise (fun x => do noteFrame x env; theTreesLotGoes x)) _ _ s
  refine wpAny_noted ?_
  rw [compTurn_list]
  refine wpAny_bind (wpAny_standAt (wpAny_bind (wpAny_mono (turn n s hI) (fun r s₁ h₁ => ?_) fun _ _ h' => h')))
  cases r with
  | none => exact wpAny_pure h₁
  | some v =>
    refine wpAny_bind (wpAny_mono h₁ (fun _ s₁' h₁' => ?_) fun _ _ h' => h')
    refine wpAny_bind (wpAny_mono h₁' (fun _ s₂ h₂ => wpAny_bind (wpAny_mono h₂ (fun ok s₃ h₃ => ?_) fun _ _ h' => h')) fun _ _ h' => h')
    cases ok with
    | false => exact wpAny_pure ⟨rfl, h₃⟩
    | true =>
      exact wpAny_bind (wpAny_bind (wpAny_mono h₃ (fun x s₄ h₄ => wpAny_bind (wpAny_mono h₄ (fun _ s₅ h₅ => wpAny_pure (wpAny_pure ⟨rfl, h₅⟩)) fun _ _ h' => h')) fun _ _ h' => h'))

/-- what an element of the block is said to be -/
def EltAt (Y : Nat → Value → Option Obj → Prop) (h₀ h : Heap) (i : Nat) (y : Value) : Prop := ∃ oo, Y i y oo ∧ ∀ o, oo = some o → ∃ T, y = .ref T ∧ h₀.get? T = none ∧ h.get? T = some o

theorem comp_block {prog : Program} {w : World} {A : Around} {E : Value → Shared → Prop} {env : Env} {elt target iter : Expr} {ifs : List Expr} {scope : Scope} {cl : List (Str × Addr)} {pos : Pos}
    {s₂ : Shared} {I : Addr} {fp wr : List Addr} {n : Nat} {P : Nat → List Value → Prop} {St : Nat → Heap → Prop} {names : List Str}
    (W : IterOn prog w A target names I fp wr n P St) (b : Bool) (Mut : Addr → Prop) (S : Heap → Prop) (Y : Nat → Value → Option Obj → Prop) {RR : Value → Addr → Result → Shared → Prop}
    (hIfp : ∀ a ∈ fp, ¬ Mut a) (hSm : ∀ h, S h → ∀ a, Mut a → ∃ o, h.get? a = some o)
    (hS : ∀ h h', S h → (∀ a o, Mut a → h.get? a = some o → h'.get? a = some o) → S h')
    (hst : St 0 s₂.heap) (hS0 : S s₂.heap) (hsz : n ≤ sizeLine) (hkind : scope.kind = .function)
    (places : ∀ C Top, Top = (pushCells ((s₂.heap.push (lst [])).push { cls := .type "dict", data := .dict #[] }) scope.names).objs.size → C = s₂.heap.objs.size + 1 →
      Places (compEnvC scope (cellsFrom (C + 1) scope.names cl) C env) Top names)
    (turn : ∀ C i vs s₃ E', C = s₂.heap.objs.size + 1 → i < n → P i vs → vs.length = names.length → (∀ p ∈ names.zip vs, VarIs s₃.heap (compEnvC scope (cellsFrom (C + 1) scope.names cl) C env) p.1 p.2) →
      (∀ a o, ¬ Mut a → a ∉ wr → s₂.heap.get? a = some o → s₃.heap.get? a = some o) → S s₃.heap →
      wpAny (model prog w) A (tests ifs (compEnvC scope (cellsFrom (C + 1) scope.names cl) C env))
        (fun ok s₄ => ok = b ∧ KB Mut s₃ s₄ ∧ S s₄.heap ∧ (b = true → wpAny (model prog w) A (eval elt (compEnvC scope (cellsFrom (C + 1) scope.names cl) C env))
          (fun y s₅ => KB Mut s₄ s₅ ∧ S s₅.heap ∧ EltAt Y s₄.heap s₅.heap i y) E' s₄)) E' s₃)
    (hRR : ∀ D C h' tk' ys, ((∀ j y oo, Y j y oo → ∃ o, oo = some o) → ys.Nodup) → s₂.heap.get? D = none → s₂.heap.get? C = none → D ≠ C → (∃ m, h'.Ns C m) → h'.get? D = some (lst ys) → ys.length = (if b = true then n else 0) →
      (∀ j y, ys[j]? = some y → ∃ oo, Y j y oo ∧ ∀ o, oo = some o → ∃ T, y = .ref T ∧ T ≠ C ∧ T ≠ D ∧ s₂.heap.get? T = none ∧ h'.get? T = some o) → S h' →
      (∀ a o, ¬ Mut a → a ∉ wr → s₂.heap.get? a = some o → h'.get? a = some o) → RR (.ref D) C (.ok .next) { s₂ with heap := h', toks := tk' }) :
    wpAny (model prog w) A (newList []) (fun acc s₃ => wpAny (model prog w) A (newFunctionEnv scope env.globals cl [] env.qual none .none (some env)) (fun cenv s₄ =>
      codeAny (model prog w) A (.compStart (.ListComp elt [⟨target, iter, ifs, 0⟩] scope pos) 0 (.ref I) acc { cenv with scope := relabel scope env }) (RR acc cenv.locals) s₄) E s₃) E s₂ := by
  refine wpAny_newObj_type (newCompEnv ?_)
  have z1 : (s₂.heap.push { cls := .type "list", dict := none, data := .seq ([] : List Value).toArray }).objs.size = s₂.heap.objs.size + 1 := Heap.size_push ..
  dsimp only
  rw [z1]
  obtain ⟨C, hC⟩ : ∃ C, C = s₂.heap.objs.size + 1 := ⟨_, rfl⟩
  obtain ⟨D, hD⟩ : ∃ D, D = s₂.heap.objs.size := ⟨_, rfl⟩
  rw [← hC, ← hD]
  generalize hh1 : pushCells _ scope.names = h₁
  obtain ⟨Top, hTop⟩ : ∃ Top, Top = h₁.objs.size := ⟨_, rfl⟩
  have pl := places C Top (by rw [hTop, ← hh1]; rfl) hC
  have hDC : D < C := by rw [hC, hD]; exact Nat.lt_succ_self _
  have hDC' : D ≠ C := Nat.ne_of_lt hDC
  have z2 : ((s₂.heap.push (lst [])).push { cls := .type "dict", data := .dict #[] }).objs.size = C + 1 := by rw [Heap.size_push, Heap.size_push, hC]
  have pc := pushCells_cells scope.names ((s₂.heap.push (lst [])).push { cls := .type "dict", data := .dict #[] })
  rw [z2] at pc
  have hh1' : pushCells ((s₂.heap.push (lst [])).push { cls := .type "dict", data := .dict #[] }) scope.names = h₁ := hh1
  rw [hh1', ← hTop] at pc
  have hCT : C < Top := pc.1
  have keep1 : ∀ a o, ((s₂.heap.push (lst [])).push { cls := .type "dict", data := .dict #[] }).get? a = some o → h₁.get? a = some o := fun a o e => hh1' ▸ pushCells_keeps _ _ _ _ e
  have old : ∀ a o, s₂.heap.get? a = some o → h₁.get? a = some o := fun a o e => keep1 a o (Heap.get?_push_of_some _ (Heap.get?_push_of_some _ e))
  have hlt : ∀ a o, s₂.heap.get? a = some o → a < D := fun a o e => hD ▸ Heap.lt_size e
  have hDs : h₁.get? D = some (lst []) := keep1 D _ (Heap.get?_push_of_some _ (hD ▸ Heap.get?_push_size _ rfl))
  have hns₁ : ∃ m, h₁.Ns C m := by
    refine ⟨fun _ => none, Heap.Ns.keeps ?_ keep1⟩
    have := Heap.Ns.new (s₂.heap.push (lst [])) (.type "dict")
    rw [Heap.size_push, ← hC] at this
    exact this
  have cv₁ : CompVars C Top h₁ := ⟨hCT, hns₁, fun c a b => ⟨none, pc.2 c a b⟩⟩
  have hfpD : ∀ a ∈ fp, a < D := fun a ha => by obtain ⟨o, e⟩ := W.alive 0 _ hst a ha; exact hlt a o e
  have hMD : ∀ a, Mut a → a < D := fun a ha => by obtain ⟨o, e⟩ := hSm _ hS0 a ha; exact hlt a o e
  have st₁ : St 0 h₁ := W.frame 0 _ _ hst fun a _ o e => old a o e
  have S₁ : S h₁ := hS _ _ hS0 fun a o _ e => old a o e
  have hfree : ∀ a, D ≤ a → s₂.heap.get? a = none := fun a ha => by
    cases e : s₂.heap.get? a with
    | none => rfl
    | some o => exact absurd (hlt a o e) (Nat.not_lt.mpr ha)
  have loop : ∀ s₃ : Shared, s₃ = { s₂ with heap := h₁ } →
      codeAny (model prog w) A (.compLoop (.ListComp elt [⟨target, iter, ifs, 0⟩] scope pos) 0 (.ref I) (.ref D) (compEnvC scope (cellsFrom (C + 1) scope.names cl) C env)) (RR (.ref D) C) s₃ := by
    rintro s₃ rfl
    refine compLoop_any
      (fun k s' => ∃ i ys h' tk', s' = { s₂ with heap := h', toks := tk' } ∧ i ≤ n ∧ k = n + 1 - i ∧ St i h' ∧ CompVars C Top h' ∧ h'.get? D = some (lst ys) ∧ ys.length = (if b = true then i else 0) ∧ ((∀ j y oo, Y j y oo → ∃ o, oo = some o) → ys.Nodup) ∧
        (∀ j y, ys[j]? = some y → ∃ oo, Y j y oo ∧ ∀ o, oo = some o → ∃ T, y = .ref T ∧ T ∉ wr ∧ (T < D ∨ Top ≤ T) ∧ s₂.heap.get? T = none ∧ ¬ Mut T ∧ h'.get? T = some o) ∧ S h' ∧
        (∀ a o, ¬ Mut a → a ∉ wr → s₂.heap.get? a = some o → h'.get? a = some o)) ?_ (n + 1)
      ⟨0, [], h₁, s₂.toks, rfl, Nat.zero_le _, rfl, st₁, cv₁, hDs, by simp, fun _ => List.nodup_nil, fun j y e => by simp at e, S₁, fun a o _ _ e => old a o e⟩
    rintro k s' ⟨i, ys, h', tk', rfl, hi, rfl, st', cv', hD', hyl, hnd, hY, S', base'⟩
    by_cases hin : i < n
    · refine W.item i _ _ _ _ _ hin st' fun vs h₂ tk₂ hP hvl st₂ hk₂ => ?_
      have nwr : ∀ a, D ≤ a → a ∉ wr := fun a ha q => absurd (hfpD a (W.sub a q)) (Nat.not_lt.mpr ha)
      have cv₂ : CompVars C Top h₂ := by
        obtain ⟨m, hn⟩ := cv'.ns
        refine ⟨hCT, ⟨m, hn.at' fun o e => hk₂ C o (nwr C (Nat.le_of_lt hDC)) e⟩, fun c a b => ?_⟩
        obtain ⟨v, o, e, d⟩ := cv'.cells c a b
        exact ⟨v, o, hk₂ c o (nwr c (Nat.le_of_lt (Nat.lt_trans hDC a))) e, d⟩
      have S₂ : S h₂ := hS _ _ S' fun a o ha e => hk₂ a o (fun q => hIfp a (W.sub a q) ha) e
      refine store_places (env := compEnvC scope (cellsFrom (C + 1) scope.names cl) C env) cv₂ hkind pl hvl fun h₃ tk₃ cv₃ vars hk₃ => ?_
      have out : ∀ a, a < D → ∀ o, h₂.get? a = some o → h₃.get? a = some o := fun a ha o e => hk₃ a o (.inl (Nat.lt_trans ha hDC)) e
      have st₃ : St (i + 1) h₃ := W.frame _ _ _ st₂ fun a ha o e => out a (hfpD a ha) o e
      have S₃ : S h₃ := hS _ _ S₂ fun a o ha e => out a (hMD a ha) o e
      refine wpAny_mono (turn C i vs _ _ hC hin hP hvl vars (fun a o h1 h2 e => out a (hlt a o e) o (hk₂ a o h2 (base' a o h1 h2 e))) S₃) (fun ok s₄ h₄ => ?_) fun _ _ e => e
      obtain ⟨rfl, k₄, S₄, helt⟩ := h₄
      have hD₃ : h₃.get? D = some (lst ys) := hk₃ D _ (.inl hDC) (hk₂ D _ (nwr D (Nat.le_refl _)) hD')
      have nM : ∀ a, D ≤ a → ¬ Mut a := fun a ha q => absurd (hMD a q) (Nat.not_lt.mpr ha)
      have hY₃ : ∀ j y, ys[j]? = some y → ∃ oo, Y j y oo ∧ ∀ o, oo = some o → ∃ T, y = .ref T ∧ T ∉ wr ∧ (T < D ∨ Top ≤ T) ∧ s₂.heap.get? T = none ∧ ¬ Mut T ∧ h₃.get? T = some o := fun j y e => by
        obtain ⟨oo, hy, hT⟩ := hY j y e
        refine ⟨oo, hy, fun o ho => ?_⟩
        obtain ⟨T, e1, e2, e3, e4, e6, e5⟩ := hT o ho
        exact ⟨T, e1, e2, e3, e4, e6, hk₃ T o (e3.imp (fun q => Nat.lt_trans q hDC) id) (hk₂ T o e2 e5)⟩
      have base₃ : ∀ a o, ¬ Mut a → a ∉ wr → s₂.heap.get? a = some o → h₃.get? a = some o := fun a o h1 h2 e => out a (hlt a o e) o (hk₂ a o h2 (base' a o h1 h2 e))
      have grow : ∀ s₅ : Shared, KB Mut { s₂ with heap := h₃, toks := tk₃ } s₅ → ∃ h₅ tk₅, s₅ = { s₂ with heap := h₅, toks := tk₅ } ∧ St (i + 1) h₅ ∧ CompVars C Top h₅ ∧ h₅.get? D = some (lst ys) ∧
          (∀ j y, ys[j]? = some y → ∃ oo, Y j y oo ∧ ∀ o, oo = some o → ∃ T, y = .ref T ∧ T ∉ wr ∧ (T < D ∨ Top ≤ T) ∧ s₂.heap.get? T = none ∧ ¬ Mut T ∧ h₅.get? T = some o) ∧
          (∀ a o, ¬ Mut a → a ∉ wr → s₂.heap.get? a = some o → h₅.get? a = some o) := by
        rintro s₅ ⟨h₅, tk₅, rfl, u⟩
        refine ⟨h₅, tk₅, rfl, W.frame _ _ _ st₃ fun a ha o e => u a o (hIfp a ha) e, ?_, u D _ (nM D (Nat.le_refl _)) hD₃, fun j y e => ?_, fun a o h1 h2 e => u a o h1 (base₃ a o h1 h2 e)⟩
        · obtain ⟨m, hn⟩ := cv₃.ns
          refine ⟨hCT, ⟨m, hn.at' fun o e => u C o (nM C (Nat.le_of_lt hDC)) e⟩, fun c a b => ?_⟩
          obtain ⟨v, o, e, d⟩ := cv₃.cells c a b
          exact ⟨v, o, u c o (nM c (Nat.le_of_lt (Nat.lt_trans hDC a))) e, d⟩
        · obtain ⟨oo, hy, hT⟩ := hY₃ j y e
          refine ⟨oo, hy, fun o ho => ?_⟩
          obtain ⟨T, e1, e2, e3, e4, e6, e5⟩ := hT o ho
          exact ⟨T, e1, e2, e3, e4, e6, u T o e6 e5⟩
      cases hb : ok with
      | false =>
        rw [hb] at hyl
        rw [if_neg Bool.false_ne_true]
        obtain ⟨h₅, tk₅, e, q1, q2, q3, q4, q5⟩ := grow s₄ k₄
        subst e
        exact ⟨n + 1 - (i + 1), by omega, i + 1, ys, h₅, tk₅, rfl, hin, rfl, q1, q2, q3, by simpa using hyl, hnd, q4, S₄, q5⟩
      | true =>
        rw [hb] at hyl
        rw [if_pos rfl]
        refine wpAny_mono (helt hb) (fun y s₅ h₅ => ?_) fun _ _ e => e
        obtain ⟨k₅, S₅, oo, hYi, hT⟩ := h₅
        obtain ⟨h₄, tk₄, e, p1, p2, p3, p4, p5⟩ := grow s₄ k₄
        obtain ⟨h₅, tk₅, e', q1, q2, q3, q4, q5⟩ := grow s₅ (k₄.trans k₅)
        subst e e'
        have hyl' : ys.length = i := by simpa using hyl
        refine append_at (hsz := by show ys.toArray.size ≤ sizeLine; rw [List.size_toArray, hyl']; exact Nat.le_trans hi hsz) q3 fun h₆ hs₆ hD₆ => ?_
        have keep₆ : ∀ a o, a ≠ D → h₅.get? a = some o → h₆.get? a = some o := fun a o ha e => hs₆.extBut a o ha e
        refine ⟨n + 1 - (i + 1), by omega, i + 1, ys ++ [y], h₆, tk₅, rfl, hin, rfl, W.frame _ _ _ q1 fun a ha o e => keep₆ a o (Nat.ne_of_lt (hfpD a ha)) e, ?_, hD₆.trans (congrArg some (lst_snoc ys y)),
          by rw [List.length_append, List.length_singleton, hyl']; rfl, fun hall => ?_, fun j y' e => ?_, hS _ _ S₅ fun a o ha e => keep₆ a o (Nat.ne_of_lt (hMD a ha)) e, fun a o h1 h2 e => keep₆ a o (Nat.ne_of_lt (hlt a o e)) (q5 a o h1 h2 e)⟩
        · obtain ⟨m, hn⟩ := q2.ns
          refine ⟨hCT, ⟨m, hn.sameBut hs₆ (Ne.symm hDC')⟩, fun c a b => ?_⟩
          obtain ⟨v, hv⟩ := q2.cells c a b
          exact ⟨v, hv.sameBut hs₆ (Nat.ne_of_gt (Nat.lt_trans hDC a))⟩
        · refine List.nodup_append.mpr ⟨hnd hall, List.nodup_cons.mpr ⟨List.not_mem_nil, List.nodup_nil⟩, fun a ha b hb' => ?_⟩
          rw [List.mem_singleton.mp hb']
          rintro rfl
          obtain ⟨j, hj, ej⟩ := List.getElem_of_mem ha
          obtain ⟨oo', hy', hT'⟩ := p4 j a (by rw [List.getElem?_eq_getElem hj, ej])
          obtain ⟨o', ho'⟩ := hall _ _ _ hy'
          obtain ⟨T', e1, _, _, _, _, e5⟩ := hT' o' ho'
          obtain ⟨o, ho⟩ := hall _ _ _ hYi
          obtain ⟨T, f1, f2, _⟩ := hT o ho
          rw [e1] at f1
          cases f1
          have f2' : h₄.get? T' = none := f2
          rw [f2'] at e5; cases e5
        · rcases Nat.lt_trichotomy j ys.length with hj | hj | hj
          · rw [List.getElem?_append_left hj] at e
            obtain ⟨oo', hy, hT'⟩ := q4 j y' e
            refine ⟨oo', hy, fun o ho => ?_⟩
            obtain ⟨T, e1, e2, e3, e4, e6, e5⟩ := hT' o ho
            refine ⟨T, e1, e2, e3, e4, e6, keep₆ T o (fun q => ?_) e5⟩
            rw [q] at e3; rcases e3 with e3 | e3
            · exact Nat.lt_irrefl _ e3
            · exact absurd (Nat.lt_trans hDC hCT) (Nat.not_lt.mpr e3)
          · have hji : j = i := by rw [hj, hyl']
            rw [hj] at e
            have ey : y' = y := by simpa using e.symm
            subst ey
            rw [hji]
            refine ⟨oo, hYi, fun o ho => ?_⟩
            obtain ⟨T, e1, e2, e3⟩ := hT o ho
            have nalive : ∀ o', h₄.get? T ≠ some o' := fun o' e => by have e2' : h₄.get? T = none := e2; rw [e2'] at e; cases e
            have hTwr : T ∉ wr := fun q => by obtain ⟨o', e⟩ := W.alive _ _ p1 T (W.sub T q); exact nalive o' e
            have hTM : ¬ Mut T := fun q => by obtain ⟨o', e⟩ := hSm _ S₄ T q; exact nalive o' e
            have hTD : T ≠ D := fun q => nalive _ (q ▸ p3)
            have hTr : T < D ∨ Top ≤ T := by
              rcases Nat.lt_or_ge T D with q | q
              · exact .inl q
              · refine .inr (Nat.not_lt.mp fun q2 => ?_)
                rcases Nat.lt_trichotomy T C with r | r | r
                · exact hTD (Nat.le_antisymm (by rw [hC] at r; rw [hD]; exact Nat.le_of_lt_succ r) q)
                · obtain ⟨m, o', _, _, e, _⟩ := p2.ns
                  exact nalive o' (r ▸ e)
                · obtain ⟨v, o', e, _⟩ := p2.cells T r q2
                  exact nalive o' e
            refine ⟨T, e1, hTwr, hTr, ?_, hTM, keep₆ T o hTD e3⟩
            cases e : s₂.heap.get? T with
            | none => rfl
            | some o' => exact absurd (p5 T o' hTM hTwr e) (nalive o')
          · have : (ys ++ [y])[j]? = none := List.getElem?_eq_none (by rw [List.length_append, List.length_singleton]; omega)
            rw [this] at e; cases e
    · obtain rfl : i = n := Nat.le_antisymm hi (Nat.not_lt.mp hin)
      refine W.done _ _ _ st' fun h₂ tk₂ hk₂ => ?_
      have nwr : ∀ a, D ≤ a → a ∉ wr := fun a ha q => absurd (hfpD a (W.sub a q)) (Nat.not_lt.mpr ha)
      refine hRR D C h₂ tk₂ ys hnd (hfree D (Nat.le_refl _)) (hfree C (Nat.le_of_lt hDC)) hDC' ?_ (hk₂ D _ (nwr D (Nat.le_refl _)) hD') hyl (fun j y e => ?_) (hS _ _ S' fun a o ha e => hk₂ a o (fun q => hIfp a (W.sub a q) ha) e) fun a o h1 h2 e => hk₂ a o h2 (base' a o h1 h2 e)
      · obtain ⟨m, hn⟩ := cv'.ns
        exact ⟨m, hn.at' fun o e => hk₂ C o (nwr C (Nat.le_of_lt hDC)) e⟩
      · obtain ⟨oo, hy, hT⟩ := hY j y e
        refine ⟨oo, hy, fun o ho => ?_⟩
        obtain ⟨T, e1, e2, e3, e4, _, e5⟩ := hT o ho
        refine ⟨T, e1, fun q => ?_, fun q => ?_, e4, hk₂ T o e2 e5⟩
        · rw [q] at e3; rcases e3 with e3 | e3
          · exact absurd hDC (Nat.not_lt.mpr (Nat.le_of_lt e3))
          · exact absurd hCT (Nat.not_lt.mpr e3)
        · rw [q] at e3; rcases e3 with e3 | e3
          · exact Nat.lt_irrefl _ e3
          · exact absurd (Nat.lt_trans hDC hCT) (Nat.not_lt.mpr e3)
  exact codeAny_compStart_list (loop _ rfl) (W.self 0 _ _ _ st₁ (loop _ rfl))
end Mine

namespace Mine
open PySem PySem.W PyProof.Rows PySem.Calls PySem.Spec

/-- what a comprehension's list is known by: at D the list ys, each element as Y says -/
structure Made (Y : Nat → Value → Option Obj → Prop) (h₀ : Heap) (D : Addr) (ys : List Value) (h : Heap) : Prop where
  fresh : h₀.get? D = none
  at_ : h.get? D = some (lst ys)
  nodup : (∀ j y oo, Y j y oo → ∃ o, oo = some o) → ys.Nodup
  elt : ∀ j y, ys[j]? = some y → ∃ oo, Y j y oo ∧ ∀ o, oo = some o → ∃ T : Addr, y = Value.ref T ∧ T ≠ D ∧ h₀.get? T = none ∧ h.get? T = some o

inductive CompAt (prog : Program) (w : World) (A : Around) (env : Env) (elt target : Expr) (ifs : List Expr) (scope : Scope) (cl : List (Str × Addr)) (b : Bool) (Mut : Addr → Prop) (S : Heap → Prop) (Y : Nat → Value → Option Obj → Prop) (h₀ : Heap)
    (Fin : Addr → List Value → Heap → Nat → Prop) : Value → Shared → Prop
  | mk {I : Addr} {fp wr : List Addr} {n : Nat} {P : Nat → List Value → Prop} {St : Nat → Heap → Prop} {names : List Str} {s₂ : Shared}
    (W : IterOn prog w A target names I fp wr n P St) (hst : St 0 s₂.heap) (hbase : ∀ a o, h₀.get? a = some o → s₂.heap.get? a = some o ∧ a ∉ wr)
    (hIfp : ∀ a ∈ fp, ¬ Mut a) (hS0 : S s₂.heap) (hsz : n ≤ sizeLine)
    (places : ∀ C Top, C < Top → (pushCells ((s₂.heap.push (lst [])).push { cls := .type "dict", data := .dict #[] }) scope.names).objs.size = Top → C = s₂.heap.objs.size + 1 →
      Places (compEnvC scope (cellsFrom (C + 1) scope.names cl) C env) Top names)
    (turn : ∀ C i vs s₃ E', i < n → P i vs → vs.length = names.length → (∀ p ∈ names.zip vs, VarIs s₃.heap (compEnvC scope (cellsFrom (C + 1) scope.names cl) C env) p.1 p.2) →
      (∀ a o, ¬ Mut a → h₀.get? a = some o → s₃.heap.get? a = some o) → S s₃.heap →
      wpAny (model prog w) A (tests ifs (compEnvC scope (cellsFrom (C + 1) scope.names cl) C env))
        (fun ok s₄ => ok = b ∧ KB Mut s₃ s₄ ∧ S s₄.heap ∧ (b = true → wpAny (model prog w) A (eval elt (compEnvC scope (cellsFrom (C + 1) scope.names cl) C env))
          (fun y s₅ => KB Mut s₄ s₅ ∧ S s₅.heap ∧ EltAt Y s₄.heap s₅.heap i y) E' s₄)) E' s₃)
    (fin : ∀ D h' tk' ys, ys.length = (if b = true then n else 0) → Made Y h₀ D ys h' → S h' → (∀ a o, ¬ Mut a → h₀.get? a = some o → h'.get? a = some o) → Fin D ys h' tk') :
    CompAt prog w A env elt target ifs scope cl b Mut S Y h₀ Fin (.ref I) s₂

section
variable {prog : Program} {w : World} {A : Around} {E : Value → Shared → Prop} {s : Shared} {env : Env}

theorem comp_core {elt target iter : Expr} {ifs : List Expr} {scope : Scope} {cl : List (Str × Addr)} {pos : Pos} {b : Bool} {Mut : Addr → Prop} {S : Heap → Prop} {Y : Nat → Value → Option Obj → Prop} {h₀ : Heap} {Fin : Addr → List Value → Heap → Nat → Prop} {it : Value} {s₂ : Shared}
    (hkind : scope.kind = .function) (hSm : ∀ h, S h → ∀ a, Mut a → ∃ o, h.get? a = some o) (hS : ∀ h h', S h → (∀ a o, Mut a → h.get? a = some o → h'.get? a = some o) → S h')
    (H : CompAt prog w A env elt target ifs scope cl b Mut S Y h₀ Fin it s₂) {RR : Value → Addr → Result → Shared → Prop}
    (hRR : ∀ D C h' tk' ys, h₀.get? C = none → h₀.get? D = none → C ≠ D → (∃ m, h'.Ns C m) → (∀ h'', Heap.ExtBut C h' h'' → Fin D ys h'' tk') → s₂.heap.get? C = none → s₂.heap.get? D = none → (∀ a o, ¬ Mut a → h₀.get? a = some o → h'.get? a = some o) → (∀ a, Mut a → ∃ o, s₂.heap.get? a = some o) →
      (∀ L h'', L ≠ D → h₀.get? L ≠ none → ¬ Mut L → Heap.SameBut L h' h'' → ∀ h₃, Heap.ExtBut C h'' h₃ → ∃ ys', Made Y h₀ D ys' h₃ ∧ ys' = ys ∧ S h₃) →
      RR (.ref D) C (.ok .next) { s₂ with heap := h', toks := tk' }) :
    wpAny (model prog w) A (newList []) (fun acc s₃ => wpAny (model prog w) A (newFunctionEnv scope env.globals cl [] env.qual none .none (some env)) (fun cenv s₄ =>
      codeAny (model prog w) A (.compStart (.ListComp elt [⟨target, iter, ifs, 0⟩] scope pos) 0 it acc { cenv with scope := relabel scope env }) (RR acc cenv.locals) s₄) E s₃) E s₂ := by
  cases H with
  | mk W hst hbase hIfp hS0 hsz places turn fin =>
    have hn : ∀ a, s₂.heap.get? a = none → h₀.get? a = none := fun a e => by
      cases q : h₀.get? a with
      | none => rfl
      | some o => have := (hbase a o q).1; rw [e] at this; cases this
    refine comp_block W b Mut S Y hIfp hSm hS hst hS0 hsz hkind (fun C Top e1 e2 => places C Top ?_ e1.symm e2) (fun C i vs s₃ E' hC hi hP hl hv hk hS₃ => turn C i vs s₃ E' hi hP hl hv (fun a o h1 e => hk a o h1 (hbase a o e).2 (hbase a o e).1) hS₃) ?_
    · have pc := (pushCells_cells scope.names ((s₂.heap.push (lst [])).push { cls := .type "dict", data := .dict #[] })).1
      rw [← e1, Heap.size_push, Heap.size_push, ← e2] at pc
      exact pc
    · intro D C h' tk' ys hnd hD hC hDC hns hDs hyl hY hS' hk
      have hMs : ∀ a, Mut a → ∃ o, s₂.heap.get? a = some o := hSm _ hS0
      have hMC : ∀ a, Mut a → a ≠ C := fun a ha q => by obtain ⟨o, e⟩ := hMs a ha; rw [q, hC] at e; cases e
      have hb : ∀ a o, ¬ Mut a → h₀.get? a = some o → h'.get? a = some o := fun a o h1 e => hk a o h1 (hbase a o e).2 (hbase a o e).1
      have mk : ∀ h'', Heap.ExtBut C h' h'' → Made Y h₀ D ys h'' := fun h'' hx => ⟨hn D hD, hx D _ hDC hDs, hnd, fun j y e => by
        obtain ⟨oo, q, hT⟩ := hY j y e
        refine ⟨oo, q, fun o ho => ?_⟩
        obtain ⟨T, e1, e2, e3, e4, e5⟩ := hT o ho
        exact ⟨T, e1, e3, hn T e4, hx T o e2 e5⟩⟩
      refine hRR D C h' tk' ys (hn C hC) (hn D hD) (Ne.symm hDC) hns (fun h'' hx => ?_) hC hD hb hMs (fun L h'' hLD hL hLM hs h₃ hx => ?_)
      · exact fin D h'' tk' ys hyl (mk h'' hx) (hS _ _ hS' fun a o ha e => hx a o (hMC a ha) e) fun a o h1 e => hx a o (fun q => by rw [show a = C from q, hn C hC] at e; cases e) (hb a o h1 e)
      · refine ⟨ys, ⟨hn D hD, hx D _ hDC (hs.extBut D _ (Ne.symm hLD) hDs), hnd, fun j y e => ?_⟩, rfl, hS _ _ hS' fun a o ha e => hx a o (hMC a ha) (hs.extBut a o (fun q => hLM (by rw [← show a = L from q]; exact ha)) e)⟩
        obtain ⟨oo, q, hT⟩ := hY j y e
        refine ⟨oo, q, fun o ho => ?_⟩
        obtain ⟨T, e1, e2, e3, e4, e5⟩ := hT o ho
        exact ⟨T, e1, e3, hn T e4, hx T o e2 (hs.extBut T o (fun q => hL (by rw [← show T = L from q]; exact hn T e4)) e5)⟩

theorem listComp {elt target iter : Expr} {ifs : List Expr} {scope : Scope} {cl : List (Str × Addr)} {pos : Pos} {Q : Value → Shared → Prop} (b : Bool) (Mut : Addr → Prop) (S : Heap → Prop) (Y : Nat → Value → Option Obj → Prop)
    (hclos : closureFor scope env = pure cl) (hkind : scope.kind = .function) (hnames : ∀ y ∈ scope.names, y.2 = .local → scope.names.lookup y.1 = some .local)
    (hSm : ∀ h, S h → ∀ a, Mut a → ∃ o, h.get? a = some o) (hS : ∀ h h', S h → (∀ a o, Mut a → h.get? a = some o → h'.get? a = some o) → S h')
    (h : wpAny (model prog w) A (eval iter env) (fun xv s₁ => wpAny (model prog w) A (pyIter xv) (fun it s₂ => (∃ h tk, s₂ = { s with heap := h, toks := tk }) ∧ CompAt prog w A env elt target ifs scope cl b Mut S Y s.heap
      (fun D ys h' tk' => Q (.ref D) { s with heap := h', toks := tk' }) it s₂) E s₁) E s)
    (hs : ∀ x, foldedSetIterable iter env x = pure x := by intro _; rfl) :
    wpAny (model prog w) A (eval (.ListComp elt [⟨target, iter, ifs, 0⟩] scope pos) env) Q E s := by
  rw [eval_ListComp]
  refine wpAny_comprehension_free (use := none) rfl hs hclos hkind hnames (wpAny_mono h (fun xv s₁ h₁ => wpAny_mono h₁ (fun it s₂ h₂ => ?_) fun _ _ e => e) fun _ _ e => e)
  obtain ⟨⟨hx, tkx, rfl⟩, h₂⟩ := h₂
  refine comp_core (RR := fun acc C => compPost (model prog w) A E none Q acc C) hkind hSm hS h₂ ?_
  intro D C h' tk' ys _ _ _ hns fin _ _ _ _ _
  obtain ⟨m, hn⟩ := hns
  exact ⟨m, hn, fun h'' hs'' => fin h'' hs''.extBut⟩

theorem listComp_assign {elt target iter : Expr} {ifs : List Expr} {scope : Scope} {cl : List (Str × Addr)} {pos py spos : Pos} {y : Str} {m : Str → Option Value} {Q : Flow → Shared → Prop} (b : Bool) (Mut : Addr → Prop) (S : Heap → Prop) (Y : Nat → Value → Option Obj → Prop)
    (hclos : closureFor scope env = pure cl) (hkind : scope.kind = .function) (hnames : ∀ y ∈ scope.names, y.2 = .local → scope.names.lookup y.1 = some .local)
    (hSm : ∀ h, S h → ∀ a, Mut a → ∃ o, h.get? a = some o) (hS : ∀ h h', S h → (∀ a o, Mut a → h.get? a = some o → h'.get? a = some o) → S h')
    (hsw : swapsWith (.ListComp elt [⟨target, iter, ifs, 0⟩] scope pos) (some (.Name y py)) spos.line env = pure true)
    (hy : env.kindOf y = some .local) (hp : (env.scope.kind == .class || (env.scope.kind == .module && env.locals != env.globals)) = false)
    (hn₀ : s.heap.Ns env.locals m) (hLM : ¬ Mut env.locals)
    (h : wpAny (model prog w) A (eval iter env) (fun xv s₁ => wpAny (model prog w) A (pyIter xv) (fun it s₂ => (∃ h tk, s₂ = { s with heap := h, toks := tk }) ∧ CompAt prog w A env elt target ifs scope cl b Mut S Y s.heap
      (fun D ys h' tk' => ∀ h'' tk'', h''.Ns env.locals (fun z => if z = y then some (.ref D) else m z) → Made Y s.heap D ys h'' → S h'' → (∀ a o, ¬ Mut a → a ≠ env.locals → s.heap.get? a = some o → h''.get? a = some o) → Q .next { s with heap := h'', toks := tk'' }) it s₂) E s₁) E s)
    (hs : ∀ x, foldedSetIterable iter env x = pure x := by intro _; rfl) :
    wpAny (model prog w) A (exec (.Assign [.Name y py] (.ListComp elt [⟨target, iter, ifs, 0⟩] scope pos) spos) env) Q E s := by
  rw [exec_Assign_Name_used _ _ _ _ hsw]
  refine wpAny_bind (wpAny_standAt (wpAny_bind ?_))
  show wpAny _ A (do let _ ← comprehension (.ListComp elt [⟨target, iter, ifs, 0⟩] scope pos) scope env _ (newList []) false (eval iter env) (some (assign (.Name y py) env))) _ _ s
  refine wpAny_bind (wpAny_mono (wpAny_comprehension_free (use := some (assign (.Name y py) env)) (Q := fun _ s' => Q .next s') rfl hs hclos hkind hnames
    (wpAny_mono h (fun xv s₁ h₁ => wpAny_mono h₁ (fun it s₂ h₂ => ?_) fun _ _ e => e) fun _ _ e => e)) (fun _ s' hq => wpAny_pure (wpAny_pure hq)) fun _ _ e => e)
  obtain ⟨⟨hx, tkx, rfl⟩, h₂⟩ := h₂
  refine comp_core (RR := fun acc C => compPost (model prog w) A E (some (assign (.Name y py) env)) (fun _ s' => Q .next s') acc C) hkind hSm hS h₂ ?_
  intro D C h' tk' ys hC hD hCD hns fin hC2 hD2 hb hMs hmade
  obtain ⟨mC, hnC⟩ := hns
  obtain ⟨oL, _, _, eL, _⟩ := id hn₀
  have hLC : env.locals ≠ C := fun q => by rw [q, hC] at eL; cases eL
  have hLD : env.locals ≠ D := fun q => by rw [q, hD] at eL; cases eL
  show wpAny _ A (assign (.Name y py) env (.ref D)) _ _ _
  have hnL : h'.Ns env.locals m := hn₀.at' fun o e => hb _ o hLM e
  refine wpAny_assign_Name (wpAny_storeName_local hy hnL (fun h₂ hn₂ hs₂ => ?_) hp)
  refine ⟨mC, hnC.sameBut hs₂ (Ne.symm hLC), fun h₃ hs₃ => ?_⟩
  obtain ⟨ys', mk, rfl, hS₃⟩ := hmade env.locals h₂ hLD (by rw [eL]; simp) hLM hs₂ h₃ hs₃.extBut
  exact fin h' (fun _ _ _ e => e) h₃ _ (hn₂.sameBut hs₃ hLC) mk hS₃ fun a o h1 h2 e => hs₃.extBut a o (fun q => by rw [show a = C from q, hC] at e; cases e) (hs₂.extBut a o h2 (hb a o h1 e))
end
end Mine

namespace Mine
open PySem PySem.W PyProof.Rows PySem.Calls PySem.Spec

abbrev upd (m : Str → Option Value) (x : Str) (v : Value) : Str → Option Value := fun y => if y = x then some v else m y

/-- a def's frame: its locals m, its own cells cm, all of h₀ as it was -/
structure FR (h₀ : Heap) (env : Env) (m cm : Str → Option Value) (h : Heap) : Prop where
  ns : h.Ns env.locals m
  cell : ∀ n c, env.cells.lookup n = some c → h.IsCell c (cm n)
  keep : ∀ a o, h₀.get? a = some o → h.get? a = some o
  freshL : h₀.get? env.locals = none
  freshC : ∀ n c, env.cells.lookup n = some c → h₀.get? c = none ∧ c ≠ env.locals
  apart : ∀ n n' c, env.cells.lookup n = some c → env.cells.lookup n' = some c → n = n'

section
variable {h₀ h h' : Heap} {env : Env} {m cm : Str → Option Value}
theorem FR.up (F : FR h₀ env m cm h) {Mut : Addr → Prop} (u : Up Mut h h') (hL : ¬ Mut env.locals) (hC : ∀ n c, env.cells.lookup n = some c → ¬ Mut c) (hM : ∀ a o, h₀.get? a = some o → ¬ Mut a) : FR h₀ env m cm h' :=
  ⟨F.ns.at' fun o e => u _ o hL e, fun n c e => let ⟨o, e', d⟩ := F.cell n c e; ⟨o, u c o (hC n c e) e', d⟩, fun a o e => u a o (hM a o e) (F.keep a o e), F.freshL, F.freshC, F.apart⟩
theorem FR.keeps (F : FR h₀ env m cm h) (u : ∀ a o, h.get? a = some o → h'.get? a = some o) : FR h₀ env m cm h' :=
  F.up (Mut := NoMut) (Up.of u) (fun f => f) (fun _ _ _ f => f) (fun _ _ _ f => f)
theorem FR.loc (F : FR h₀ env m cm h) {x : Str} {v : Value} (hk : env.kindOf x = some .local) (hm : m x = some v) : VarIs h env x v := .loc m hk F.ns hm
theorem FR.cel (F : FR h₀ env m cm h) {x : Str} {v : Value} {c : Addr} (hk : env.kindOf x = some .cell) (hc : env.cells.lookup x = some c) (hm : cm x = some v) : VarIs h env x v := .cell c (.inl hk) hc (hm ▸ F.cell x c hc)
theorem FR.base {h₁ : Heap} (F : FR h₀ env m cm h) (k : ∀ a o, h₁.get? a = some o → h₀.get? a = some o) : FR h₁ env m cm h :=
  have nn : ∀ a, h₀.get? a = none → h₁.get? a = none := fun a e => by
    cases q : h₁.get? a with
    | none => rfl
    | some o => have := k _ _ q; rw [e] at this; cases this
  ⟨F.ns, F.cell, fun a o e => F.keep a o (k a o e), nn _ F.freshL, fun n c e => ⟨nn _ (F.freshC n c e).1, (F.freshC n c e).2⟩, F.apart⟩
end

section
variable {M : Model} {A : Around} {E : Value → Shared → Prop} {s : Shared} {h₀ : Heap} {env : Env} {m cm : Str → Option Value}
theorem st_loc {x : Str} {v : Value} {Q : Unit → Shared → Prop} (F : FR h₀ env m cm s.heap) (hx : env.kindOf x = some .local) (hk : env.scope.kind = .function)
    (h : ∀ h', FR h₀ env (upd m x v) cm h' → Heap.SameBut env.locals s.heap h' → Q () { s with heap := h', toks := s.toks + 1 }) :
    wpAny M A (storeName env x v) Q E s :=
  wpAny_storeName_local hx F.ns (fun h' hn hs => h h' ⟨hn, fun n c e => (F.cell n c e).sameBut hs (F.freshC n c e).2, fun a o e => hs.extBut a o (fun q => by have q' : a = env.locals := q; rw [q', F.freshL] at e; cases e) (F.keep a o e), F.freshL, F.freshC, F.apart⟩ hs) (by rw [hk]; rfl)
theorem st_cell {x : Str} {v : Value} {c : Addr} {Q : Unit → Shared → Prop} (F : FR h₀ env m cm s.heap) (hx : env.kindOf x = some .cell) (hc : env.cells.lookup x = some c) (hk : env.scope.kind = .function)
    (h : ∀ h', FR h₀ env m (upd cm x v) h' → Heap.SameBut c s.heap h' → Q () { s with heap := h' }) :
    wpAny M A (storeName env x v) Q E s :=
  wpAny_storeName_cell hk hx hc (F.cell x c hc) fun h' hv hs => h h' ⟨F.ns.sameBut hs (Ne.symm (F.freshC x c hc).2), fun n c' e => by
    by_cases q : n = x
    · subst q; rw [hc] at e; cases e
      show h'.IsCell c (if n = n then some v else cm n)
      rw [if_pos rfl]; exact hv
    · show h'.IsCell c' (if n = x then some v else cm n)
      rw [if_neg q]
      exact (F.cell n c' e).sameBut hs fun r => q (F.apart n x c' e (r ▸ hc)),
    fun a o e => hs.extBut a o (fun q => by have q' : a = c := q; rw [q', (F.freshC x c hc).1] at e; cases e) (F.keep a o e), F.freshL, F.freshC, F.apart⟩ hs
end

section
variable {prog : Program} {w : World} {A : Around} {E : Value → Shared → Prop} {s : Shared} {mg mb : Str → Option Value} {loose : List Str}

theorem lookup_apart : ∀ {cs : List (Str × Addr)}, (cs.Pairwise fun x y => x.2 ≠ y.2) → ∀ {n n' : Str} {c : Addr}, cs.lookup n = some c → cs.lookup n' = some c → n = n' :=
  fun hp _ _ _ h h' => name_of_addr hp (mem_of_lookup h) (mem_of_lookup h')

theorem enter {R : Result → Shared → Prop} {name qual : Str} {params : Arguments} {body : List Stmt} {scope : Scope} {dV kV doc pm cdv ct oc : Value} {an od : Option Addr} {osl : Array (Option Value)} {f : Addr} {vals : List Value} (binds : List (Str × Value)) (m cm : Str → Option Value)
    (G : GT w mg mb loose s.heap) (ho : (hd.heap_39 w.params).lookup f = some ⟨oc, od, .func (fnOf name qual params body scope dV kV doc pm an cdv ct), osl⟩) (hcd : codeIn (hd.heap_39 w.params) cdv qual = true) (hroom : A.depth < recursionLimit)
    (hbind : bindArgs (fnOf name qual params body scope dV kV doc pm an cdv ct) ⟨vals, []⟩ = pure binds)
    (hkind : ∀ n, ∀ x ∈ binds, scope.names.lookup x.1 = some .local ∨ (scope.names.lookup x.1 = some .cell ∧ ((cellsFrom n scope.names []).lookup x.1).isSome = true))
    (hm : ∀ L, bindL (envOfC qual scope L f cdv).kindOf binds (fun _ => none) = m) (hcm : ∀ L, bindC (envOfC qual scope L f cdv).kindOf binds (fun _ => none) = cm)
    (h : ∀ L h₁ tk₁ E', s.heap.objs.size ≤ L → FR s.heap (envOfC qual scope L f cdv) m cm h₁ →
      wpAny (model prog w) (A.deeper (envOfC qual scope L f cdv)) (execs body (envOfC qual scope L f cdv))
        (fun fl s' => R (.ok (.ret (match fl with | .ret v => v | _ => .none))) s') E' { s with heap := h₁, toks := tk₁ })
    (hco : scope.isCoroutine = false) (hgen : scope.isGenerator = false) (hk : scope.kind = .function) :
    codeAny (model prog w) A (.call (.ref f) ⟨vals, []⟩) R s := by
  refine codeAny_call_cells (fd := fnOf name qual params body scope dV kV doc pm an cdv ct) (body := body) (binds := binds) hroom (G.X _ _ ho) rfl G.T.nolimit (codeRec_of G.X hcd) rfl hbind rfl (hkind _) (fun s₁ x => ?_) hco hgen hk
  obtain ⟨h₁, tk, rfl⟩ := x.toInCall.same
  have fr : ∀ a, s.heap.objs.size ≤ a → s.heap.get? a = none := fun a ha => by
    cases q : s.heap.get? a with
    | none => rfl
    | some o => exact absurd (Heap.lt_size q) (Nat.not_lt.mpr ha)
  have F : FR s.heap (envOfC qual scope s.heap.objs.size f cdv) (bindL (envOfC qual scope s.heap.objs.size f cdv).kindOf binds (fun _ => none)) (bindC (envOfC qual scope s.heap.objs.size f cdv).kindOf binds (fun _ => none)) h₁ :=
    ⟨x.toInCall.ns, x.cell, x.toInCall.keep, fr _ x.toInCall.fresh,
    fun n c e => ⟨fr c (Nat.le_of_lt (Nat.lt_of_le_of_lt x.toInCall.fresh (x.above n c (mem_of_lookup e)))), Nat.ne_of_gt (x.above n c (mem_of_lookup e))⟩, fun n n' c e e' => lookup_apart x.apart e e'⟩
  rw [hm, hcm] at F
  exact h _ h₁ tk _ (Nat.le_refl _) F

/-- a call f(args) of a def at the top -/
theorem call_def {id : Str} {p pos : Pos} {e : Expr} {rest : List Expr} {env : Env} {f : Addr} {Q : Value → Shared → Prop}
    (G : GT w mg mb loose s.heap) (hn : nsIn (hd.heap_39 w.params) mainGlobals id = some (some (.ref f))) (hlk : ∃ fo fd, (hd.heap_39 w.params).lookup f = some fo ∧ Obj.data fo = .func fd)
    (h : wpAny (model prog w) A (spliced (backTo pos (starEach (e :: rest) env))) (fun vs s₁ => GT w mg mb loose s₁.heap ∧ codeAny (model prog w) A (.call (.ref f) ⟨vs, []⟩) (fun r s' => match r with | .ok (.ret v) => Q v s' | _ => False) s₁) E s)
    (he : starEach (e :: rest) env = (false, eval e env) :: starEach rest env := by rfl)
    (hf : env.scope.kind = .function := by rfl) (hx : env.kindOf id = some .globalImplicit := by rfl) (hg : env.globals = mainGlobals := by rfl) (hd' : (id == ("__debug__" : Str)) = false := by decide) :
    wpAny (model prog w) A (eval (.Call (.Name id p) (e :: rest) [] pos) env) Q E s := by
  refine wpAny_Call_NameR (nm_def G hn ?_ hf hx hg hd')
  obtain ⟨fo, fd, hl, hfd⟩ := hlk
  refine callWith_function (fd := fd) (o := fo) ?_
  rw [he] at h ⊢
  refine evalArgs_plain (wpAny_mono h (fun vs s₂ hx => ?_) fun _ _ e => e)
  refine ⟨⟨hx.1.X _ _ hl, hfd⟩, wpAny_call (codeAny_mono (A := A) hx.2 fun r s' hr => ?_)⟩
  cases r with
  | error e => exact hr.elim
  | ok fl => cases fl <;> first | exact hr | exact hr.elim

theorem call_blt {id : Str} {bid : String} {p pos : Pos} {e : Expr} {rest : List Expr} {env : Env} {Q : Value → Shared → Prop}
    (G : GT w mg mb loose s.heap) (hn : nsIn (hd.heap_39 w.params) mainGlobals id = some none) (hv : bootBuiltins id = some (.builtin bid))
    (h : wpAny (model prog w) A (spliced (backTo pos (starEach (e :: rest) env))) (fun vs s₁ => wpAny (model prog w) A (call (.builtin bid) vs) Q E s₁) E s)
    (hne : id ≠ "__name__" := by decide)
    (he : starEach (e :: rest) env = (false, eval e env) :: starEach rest env := by rfl) (hplain : (backTo pos (starEach rest env)).any (·.1) = false := by rfl)
    (hf : env.scope.kind = .function := by rfl) (hx : env.kindOf id = some .globalImplicit := by rfl) (hg : env.globals = mainGlobals := by rfl) (hb : env.builtins = builtinsNs := by rfl) (hd' : (id == ("__debug__" : Str)) = false := by decide) :
    wpAny (model prog w) A (eval (.Call (.Name id p) (e :: rest) [] pos) env) Q E s := by
  refine wpAny_Call_NameR (nm_blt G hn hv ?_ hne hf hx hg hb hd')
  rw [he] at h ⊢
  exact callWith_builtin (by show (false || (backTo pos (starEach rest env)).any (·.1)) = false; rw [hplain]; rfl) (evalArgs_plain h)
theorem call_type {id : Str} {bid : String} {p pos : Pos} {e : Expr} {rest : List Expr} {env : Env} {Q : Value → Shared → Prop}
    (G : GT w mg mb loose s.heap) (hn : nsIn (hd.heap_39 w.params) mainGlobals id = some none) (hv : bootBuiltins id = some (.type bid))
    (h : wpAny (model prog w) A (spliced (backTo pos (starEach (e :: rest) env))) (fun vs s₁ => wpAny (model prog w) A (call (.type bid) vs) Q E s₁) E s)
    (hne : id ≠ "__name__" := by decide)
    (he : starEach (e :: rest) env = (false, eval e env) :: starEach rest env := by rfl) (hplain : (backTo pos (starEach rest env)).any (·.1) = false := by rfl)
    (hf : env.scope.kind = .function := by rfl) (hx : env.kindOf id = some .globalImplicit := by rfl) (hg : env.globals = mainGlobals := by rfl) (hb : env.builtins = builtinsNs := by rfl) (hd' : (id == ("__debug__" : Str)) = false := by decide) :
    wpAny (model prog w) A (eval (.Call (.Name id p) (e :: rest) [] pos) env) Q E s := by
  refine wpAny_Call_NameR (nm_blt G hn hv ?_ hne hf hx hg hb hd')
  rw [he] at h ⊢
  exact PyProof.Rows.callWith_type (by show (false || (backTo pos (starEach rest env)).any (·.1)) = false; rw [hplain]; rfl) (evalArgs_plain h)

/-- xs[k] -/
theorem sub_at {value slice : Expr} {pos : Pos} {env : Env} {Q : Value → Shared → Prop}
    (h : wpAny (model prog w) A (eval value env) (fun o s₁ => wpAny (model prog w) A (eval slice env) (fun i s₂ => ∃ (l : Addr) (items : Array Value) (k : Int) (t : Tok) (v : Value), o = .ref l ∧ i = .int k t ∧ s₂.heap.IsList l items ∧ 0 ≤ k ∧ k < 2 ^ 63 ∧ items[k.toNat]? = some v ∧ Q v s₂) E s₁) E s)
    (hs : ∀ (l : Addr) (k : Int) (u : Tok), subscripted slice false (.ref l) (.int k u) = operate [.ref l, .int k u] (getItem (.ref l) (.int k u)) := by intro _ _ _; with_unfolding_all rfl) :
    wpAny (model prog w) A (eval (.Subscript value slice pos) env) Q E s := by
  refine Subscript_ (wpAny_mono h (fun o s₁ h₁ => wpAny_mono h₁ (fun i s₂ h₂ => ?_) fun _ _ e => e) fun _ _ e => e)
  obtain ⟨l, items, k, t, v, rfl, rfl, hl, h0, h1, hv, hq⟩ := h₂
  exact tail_any hl.typeIs slot_list_getitem.lookup (wpAny_getItem_list hl h0 h1 hv hq) (hs l k t)
end
end Mine

namespace Mine
open PySem PySem.W PyProof.Rows PySem.Calls PySem.Spec

/-- at T a list of n ints, g 0 .. g (n - 1) -/
def RowF (h : Heap) (T : Addr) (n : Nat) (g : Nat → Int) : Prop := ∃ vs k, h.get? T = some (PySem.W.listOf (List.toArray vs) k) ∧ vs.length = n ∧ ∀ j, j < n → ∃ t, vs[j]? = some (Value.int (g j) t)
/-- v is a list of r such rows -/
def MatF (h : Heap) (v : Value) (r c : Nat) (f : Nat → Nat → Int) : Prop := ∃ A rs k, v = Value.ref A ∧ h.get? A = some (PySem.W.listOf (List.toArray rs) k) ∧ rs.length = r ∧ ∀ i, i < r → ∃ T, rs[i]? = some (Value.ref T) ∧ RowF h T c (f i)
theorem RowF.keeps {h h' : Heap} {T : Addr} {n : Nat} {g : Nat → Int} (x : RowF h T n g) (k : ∀ a o, h.get? a = some o → h'.get? a = some o) : RowF h' T n g := by
  obtain ⟨vs, e, h1, r⟩ := x
  exact ⟨vs, e, k _ _ h1, r⟩
theorem MatF.keeps {h h' : Heap} {v : Value} {r c : Nat} {f : Nat → Nat → Int} (x : MatF h v r c f) (k : ∀ a o, h.get? a = some o → h'.get? a = some o) : MatF h' v r c f := by
  obtain ⟨A, rs, e, h1, h2, h3, h4⟩ := x
  refine ⟨A, rs, e, h1, k _ _ h2, h3, fun i hi => ?_⟩
  obtain ⟨T, q, R⟩ := h4 i hi
  exact ⟨T, q, R.keeps k⟩
theorem MatF.congr {h : Heap} {v : Value} {r c : Nat} {f g : Nat → Nat → Int} (x : MatF h v r c f) (e : ∀ i j, i < r → j < c → f i j = g i j) : MatF h v r c g := by
  obtain ⟨A, rs, k, h1, h2, h3, h4⟩ := x
  refine ⟨A, rs, k, h1, h2, h3, fun i hi => ?_⟩
  obtain ⟨T, q, vs, k', r1, r2, r3⟩ := h4 i hi
  exact ⟨T, q, vs, k', r1, r2, fun j hj => e i j hi hj ▸ r3 j hj⟩
theorem isList_of {h : Heap} {T : Addr} {vs : List Value} {k : Nat} (e : h.get? T = some (PySem.W.listOf (List.toArray vs) k)) : h.IsList T vs.toArray := ⟨_, e, rfl, k, rfl⟩

section
variable {prog : Program} {w : World} {A : Around} {E : Value → Shared → Prop} {s : Shared} {env : Env}

theorem forLoop_any {R : Result → Shared → Prop} {target : Expr} {it : Value} {body orelse : List Stmt} (I : Nat → Shared → Prop)
    (turn : ∀ n s, I n s → wpAny (model prog w) A (pyNext it) (fun r s₁ => onNext r (wpAny (model prog w) A (execs orelse env) (fun f s₃ => R (.ok f) s₃) (notedBy (model prog w) A env fun e s' => R (.error e) s') s₁)
      fun v => wpAny (model prog w) A (letOwnedTupleGo target it v) (fun _ s₁' =>
          wpAny (model prog w) A (assign target env v) (fun _ s₂ => wpAny (model prog w) A (execs body env) (fun f s₃ => match f with
            | .next | .cont => ∃ m, m < n ∧ I m s₃
            | .brk => R (.ok .next) s₃
            | .ret v => R (.ok (.ret v)) s₃) (notedBy (model prog w) A env fun e s' => R (.error e) s') s₂) (notedBy (model prog w) A env fun e s' => R (.error e) s') s₁') (notedBy (model prog w) A env fun e s' => R (.error e) s') s₁) (notedBy (model prog w) A env fun e s' => R (.error e) s') s)
    (n : Nat) (h : I n s) : codeAny (model prog w) A (.forLoop target it body orelse env) R s :=
  codeAny_forLoop_any I (fun n s hI => wpAny_mono (turn n s hI) (fun r s₁ h => by cases r <;> exact h) fun _ _ e => e) n h

/-- a loop: J before each turn -/
inductive ForAt (prog : Program) (w : World) (A : Around) (env : Env) (target : Expr) (body : List Stmt) (Q : Flow → Shared → Prop) : Value → Shared → Prop
  | mk {I : Addr} {fp wr : List Addr} {n : Nat} {P : Nat → List Value → Prop} {St : Nat → Heap → Prop} {names : List Str} {s₂ : Shared} (J : Nat → Shared → Prop)
    (W : IterOn prog w A target names I fp wr n P St) (hst : St 0 s₂.heap) (hJ : J 0 s₂)
    (stable : ∀ i s₁ h' tk', J i s₁ → (∀ a o, a ∉ wr → s₁.heap.get? a = some o → h'.get? a = some o) → J i { s₁ with heap := h', toks := tk' })
    (turn : ∀ i vs s₃ E', i < n → P i vs → vs.length = names.length → J i s₃ → (∀ a ∈ fp, ∃ o, s₃.heap.get? a = some o) → StoreW (model prog w) A env (fun s₄ => wpAny (model prog w) A (execs body env) (fun f s₅ => match f with
        | .next | .cont => (∀ a ∈ fp, ∀ o, s₃.heap.get? a = some o → s₅.heap.get? a = some o) ∧ J (i + 1) s₅
        | .brk => Q .next s₅
        | .ret v => Q (.ret v) s₅) E' s₄) E' names vs s₃)
    (done : ∀ s₃, J n s₃ → Q .next s₃) :
    ForAt prog w A env target body Q (.ref I) s₂

theorem for_at {target iter : Expr} {body : List Stmt} {pos : Pos} {Q : Flow → Shared → Prop}
    (h : wpAny (model prog w) A (eval iter env) (fun xv s₁ => wpAny (model prog w) A (pyIter xv) (fun it s₂ => ForAt prog w A env target body Q it s₂) E s₁) E s)
    (hs : ∀ x, foldedSetIterable iter env x = pure x := by intro _; rfl) :
    wpAny (model prog w) A (exec (.For target iter body [] pos) env) Q E s := by
  refine wpAny_For (wpAny_mono h (fun xv s₁ h₁ => wpAny_mono h₁ (fun it s₂ h₂ => ?_) fun _ _ e => e) fun _ _ e => e) hs
  cases h₂ with
  | mk J W hst hJ stable turn done =>
    rename_i I fp wr n P St names
    refine forLoop_any (fun k s' => ∃ i, i ≤ n ∧ k = n + 1 - i ∧ St i s'.heap ∧ J i s') ?_ (n + 1) ⟨0, Nat.zero_le _, rfl, hst, hJ⟩
    rintro k s' ⟨i, hi, rfl, st', hJ'⟩
    by_cases hin : i < n
    · refine W.item i _ _ _ _ _ hin st' fun vs h' tk' hP hl st₁ hk => ?_
      have := turn i vs _ (notedBy (model prog w) A env fun e s' => (match (Except.error e : Result) with | .ok f => Q f s' | .error e => cameBackBy (model prog w) A env E e s')) hin hP hl (stable i _ h' tk' hJ' hk) (W.alive _ _ st₁)
      have key : ∀ (names : List Str) (vs : List Value) (s₀ : Shared) (Q₁ Q₂ : Shared → Prop) (E₁ : Value → Shared → Prop), (∀ s, Q₁ s → Q₂ s) → StoreW (model prog w) A env Q₁ E₁ names vs s₀ → StoreW (model prog w) A env Q₂ E₁ names vs s₀ := by
        intro names
        induction names with
        | nil => intro vs s₀ Q₁ Q₂ E₁ hQ h; exact hQ _ h
        | cons x xs ih =>
          intro vs s₀ Q₁ Q₂ E₁ hQ h
          cases vs with
          | nil => exact h
          | cons v vs => exact wpAny_mono h (fun _ s h => ih _ _ _ _ _ hQ h) fun _ _ e => e
      refine key _ _ _ _ _ _ (fun s₄ h₄ => wpAny_mono h₄ (fun f s₅ h₅ => ?_) fun _ _ e => e) this
      cases f with
      | next => exact ⟨n + 1 - (i + 1), by omega, i + 1, hin, rfl, W.frame _ _ _ st₁ h₅.1, h₅.2⟩
      | cont => exact ⟨n + 1 - (i + 1), by omega, i + 1, hin, rfl, W.frame _ _ _ st₁ h₅.1, h₅.2⟩
      | brk => exact h₅
      | ret v => exact h₅
    · obtain rfl : i = n := Nat.le_antisymm hi (Nat.not_lt.mp hin)
      refine W.done _ _ _ st' fun h' tk' hk => ?_
      exact wpAny_execs_nil (done _ (stable _ _ _ _ hJ' hk))

/-- I is none of the frame's own addresses -/
structure Off (h₀ : Heap) (env : Env) (I : Addr) : Prop where
  L : env.locals ≠ I
  C : ∀ n c, env.cells.lookup n = some c → c ≠ I
  H : h₀.get? I = none
theorem FR.off {h₀ h : Heap} {m cm : Str → Option Value} (F : FR h₀ env m cm h) {I : Addr} (hI : h.get? I = none) : Off h₀ env I := by
  refine ⟨fun q => ?_, fun n c e q => ?_, ?_⟩
  · obtain ⟨o, _, _, e, _⟩ := F.ns
    rw [q, hI] at e; cases e
  · obtain ⟨o, e', _⟩ := F.cell n c e
    rw [q, hI] at e'; cases e'
  · cases q : h₀.get? I with
    | none => rfl
    | some o => have := F.keep I o q; rw [hI] at this; cases this
theorem FR.but {h₀ h h' : Heap} {m cm : Str → Option Value} (F : FR h₀ env m cm h) {I : Addr} (O : Off h₀ env I) (u : ∀ a o, a ∉ [I] → h.get? a = some o → h'.get? a = some o) : FR h₀ env m cm h' :=
  F.up (Mut := fun a => a ∈ [I]) u (fun q => O.L (List.mem_singleton.mp q)) (fun n c e q => O.C n c e (List.mem_singleton.mp q)) (fun a o e q => by rw [List.mem_singleton.mp q, O.H] at e; cases e)

theorem range_iter2 {a b n : Nat} {t u : Tok} {Q : Value → Shared → Prop} (hn : n = b - a) (ha : a ≤ 1000) (hb : b ≤ 1000)
    (h : ∀ I h' tk', (∀ a o, s.heap.get? a = some o → h'.get? a = some o) → s.heap.get? I = none → IsRangeIter h' I ((a : Int) + (0 : Nat) * 1) ((n : Int) - (0 : Nat)) 1 → Q (.ref I) { s with heap := h', toks := tk' }) :
    wpAny (model prog w) A (call (.type "range") [.int (a : Int) t, .int (b : Int) u]) (fun xv s₁ => wpAny (model prog w) A (pyIter xv) Q E s₁) E s := by
  refine call_range_2 (wpAny_pyIter_range (a := a) (b := b) (c := 1) (Heap.get?_push_size _ rfl) (small_one (by omega) (by omega) (by omega) (by omega)) ?_)
  refine h _ _ _ (fun a o e => Heap.get?_push_of_some _ (Heap.get?_push_of_some _ e)) ?_ ?_
  · cases q : s.heap.get? (s.heap.push { cls := .type "range", data := .fields #[.int (a : Int) t, .int (b : Int) u, .int 1 s.toks] }).objs.size with
    | none => rfl
    | some o => exact absurd (Heap.lt_size q) (by rw [Heap.size_push]; exact Nat.not_lt.mpr (Nat.le_succ _))
  · have e : Builtin.Range.rangeSize (a : Int) (b : Int) 1 = (n : Int) := by rw [rangeSize_nat]; omega
    have e1 : (a : Int) + ((0 : Nat) : Int) * 1 = (a : Int) := by omega
    have e2 : (n : Int) - ((0 : Nat) : Int) = (n : Int) := by omega
    rw [e, e1, e2]
    unfold IsRangeIter
    exact Heap.get?_push_size _ rfl
theorem range_iter1 {n : Nat} {t : Tok} {Q : Value → Shared → Prop} (hb : n ≤ 1000)
    (h : ∀ I h' tk', (∀ a o, s.heap.get? a = some o → h'.get? a = some o) → s.heap.get? I = none → IsRangeIter h' I (0 + (0 : Nat) * 1) ((n : Int) - (0 : Nat)) 1 → Q (.ref I) { s with heap := h', toks := tk' }) :
    wpAny (model prog w) A (call (.type "range") [.int (n : Int) t]) (fun xv s₁ => wpAny (model prog w) A (pyIter xv) Q E s₁) E s := by
  refine call_range_1 (wpAny_pyIter_range (a := 0) (b := n) (c := 1) (Heap.get?_push_size _ rfl) (small_one (by omega) (by omega) (by omega) (by omega)) ?_)
  refine h _ _ _ (fun a o e => Heap.get?_push_of_some _ (Heap.get?_push_of_some _ e)) ?_ ?_
  · cases q : s.heap.get? (s.heap.push { cls := .type "range", data := .fields #[.int 0 s.toks, .int (n : Int) t, .int 1 (s.toks + 1)] }).objs.size with
    | none => rfl
    | some o => exact absurd (Heap.lt_size q) (by rw [Heap.size_push]; exact Nat.not_lt.mpr (Nat.le_succ _))
  · have e : Builtin.Range.rangeSize 0 (n : Int) 1 = (n : Int) := by rw [rangeSize_nat]; omega
    have e1 : (0 : Int) + ((0 : Nat) : Int) * 1 = (0 : Int) := by omega
    have e2 : (n : Int) - ((0 : Nat) : Int) = (n : Int) := by omega
    rw [e, e1, e2]
    unfold IsRangeIter
    exact Heap.get?_push_size _ rfl

/-- x[i][j] -/
theorem cell_at {x y z : Str} {px py pz p1 p2 : Pos} {v : Value} {i j r c : Nat} {t u : Tok} {f : Nat → Nat → Int} {Q : Value → Shared → Prop}
    (Vx : VarIs s.heap env x v) (Vy : VarIs s.heap env y (.int (i : Int) t)) (Vz : VarIs s.heap env z (.int (j : Int) u)) (M : MatF s.heap v r c f) (hi : i < r) (hj : j < c) (hr : r ≤ 100) (hc : c ≤ 100)
    (h : ∀ t, Q (.int (f i j) t) s) (hf : env.scope.kind = .function := by rfl)
    (hdx : (x == ("__debug__" : Str)) = false := by decide) (hdy : (y == ("__debug__" : Str)) = false := by decide) (hdz : (z == ("__debug__" : Str)) = false := by decide)
    (hcx : (x == ("__classdict__" : Str)) = false := by decide) (hcy : (y == ("__classdict__" : Str)) = false := by decide) (hcz : (z == ("__classdict__" : Str)) = false := by decide) :
    wpAny (model prog w) A (eval (.Subscript (.Subscript (.Name x px) (.Name y py) p1) (.Name z pz) p2) env) Q E s := by
  obtain ⟨A', rs, k, rfl, h2, h3, h4⟩ := M
  obtain ⟨T, q, vs, k', r1, r2, r3⟩ := h4 i hi
  obtain ⟨t', e⟩ := r3 j hj
  refine sub_at (sub_at (nm_var Vx (nm_var Vy ?_ hf hdy hcy) hf hdx hcx))
  refine ⟨A', _, _, t, _, rfl, rfl, isList_of h2, Int.natCast_nonneg _, by omega, by simpa using q, ?_⟩
  refine nm_var Vz ?_ hf hdz hcz
  exact ⟨T, _, _, u, _, rfl, rfl, isList_of r1, Int.natCast_nonneg _, by omega, by simpa using e, h _⟩
end
end Mine

namespace Mine
open PySem PySem.W PyProof.Rows PySem.Calls PySem.Spec
theorem kf_piv : (fun (_ : Params → Frag) (_ : OpenLaw) => True) Mine.hd.heap_39 PySem.Challenge.rw_sa0072_01 := by
  k_fill
  trivial
section
variable {prog : Program} {w : World} {A : Around} {s : Shared} {mg mb : Str → Option Value} {loose : List Str}
set_option maxRecDepth 100000 in
theorem pivot_spec {R : Result → Shared → Prop} {v : Value} {n step : Nat} {t : Tok} {f : Nat → Nat → Int} (G : GT w mg mb loose s.heap) (hA : A.handled = none) (hroom : A.depth < recursionLimit)
    (M : MatF s.heap v n n f) (hs : step < n) (hn : n ≤ 100)
    (h1 : ∀ (row : Nat) t h' tk', step ≤ row → row < n → f row step ≠ 0 → (∀ i, step ≤ i → i < row → f i step = 0) → (∀ a o, s.heap.get? a = some o → h'.get? a = some o) → R (.ok (.ret (.int (row : Int) t))) { s with heap := h', toks := tk' })
    (h2 : ∀ h' tk', (∀ i, step ≤ i → i < n → f i step = 0) → (∀ a o, s.heap.get? a = some o → h'.get? a = some o) → R (.ok (.ret .none)) { s with heap := h', toks := tk' }) :
    codeAny (model prog w) A (.call (.ref 41) ⟨[v, .int (step : Int) t], []⟩) R s := by
  refine' enter [(Str.ofString "a", v), (Str.ofString "step", .int (step : Int) t)] (upd (upd (fun _ => none) (Str.ofString "a") v) (Str.ofString "step") (.int (step : Int) t)) (fun _ => none) G ?ho ?hcd hroom ?hb ?hk ?hm ?hcm ?_ ?c1 ?c2 ?c3
  case ho => k_is
  case hcd => k_is
  case hb => exact rfl
  case hk => exact kindsX rfl
  case hm => exact fun _ => rfl
  case hcm => exact fun _ => rfl
  case c1 => exact rfl
  case c2 => exact rfl
  case c3 => exact rfl
  intro L h₁ tk₁ E' hL F
  have Va := F.loc (x := Str.ofString "a") (v := v) rfl rfl
  have Vs := F.loc (x := Str.ofString "step") rfl rfl
  have G₁ := G.keeps F.keep
  have M₁ := M.keeps F.keep
  refine wpAny_execs_cons (for_at ?_)
  refine call_type G₁ n_range b_range (spliced_more (nm_var Vs (spliced_more (call_blt G₁ n_len b_len (spliced_more (nm_var Va (spliced_none ?_)))))))
  obtain ⟨Aa, rs, k, hv, e2, e3, e4⟩ := id M₁
  rw [hv]
  refine len_list (isList_of e2) (by simp; omega) ?_
  rw [List.size_toArray, e3]
  refine spliced_none (range_iter2 (n := n - step) rfl (by omega) (by omega) fun I h₂ tk₂ k₂ hI st₂ => ?_)
  have O := F.off hI
  refine ForAt.mk (fun i s' => ∃ h' tk' m, s' = { s with heap := h', toks := tk' } ∧ FR s.heap _ m (fun _ => none) h' ∧ m (Str.ofString "a") = some v ∧ m (Str.ofString "step") = some (.int (step : Int) t) ∧ ∀ j, step ≤ j → j < step + i → f j step = 0) (iter_range (by exact hA) I step (n - step)) st₂
    ⟨h₂, _, _, rfl, F.keeps k₂, rfl, rfl, fun j h1 h2 => absurd h2 (Nat.not_lt.mpr h1)⟩ ?_ ?_ ?_
  · rintro i s₁ h' tk' ⟨h₁', tk₁', m, rfl, F', ma, ms, hz⟩ u
    exact ⟨h', tk', m, rfl, F'.but O u, ma, ms, hz⟩
  · rintro i vs s₃ E'' hi ⟨x, rfl, t', rfl⟩ _ ⟨h₃, tk₃, m, rfl, F₃, ma, ms, hz⟩ al
    refine st_loc F₃ rfl rfl fun h₄ F₄ hs₄ => ?_
    have hrow : ((step : Int) + (i : Int) * 1) = ((step + i : Nat) : Int) := by omega
    rw [hrow] at F₄
    have Va := F₄.loc (x := Str.ofString "a") (v := v) rfl ma
    have Vs := F₄.loc (x := Str.ofString "step") rfl ms
    have Vr := F₄.loc (x := Str.ofString "row") (v := .int ((step + i : Nat) : Int) t') rfl rfl
    have M₄ := M.keeps F₄.keep
    refine wpAny_execs_cons (wpAny_If (wpAny_isTrue_Compare1 (cell_at Va Vr Vs M₄ (by omega) hs hn hn fun t'' => wpAny_Constant_int (ne_int (wpAny_truthy_bool ?_)))))
    by_cases hz' : f (step + i) step = 0
    · rw [if_neg (by simp [hz'])]
      refine wpAny_execs_nil (wpAny_execs_nil ⟨fun a ha o e => ?_, h₄, _, _, rfl, F₄, ma, ms, fun j h1 h2 => ?_⟩)
      · obtain rfl := List.mem_singleton.mp ha
        exact hs₄.extBut _ o (Ne.symm O.L) e
      · by_cases q : j = step + i
        · rw [q]; exact hz'
        · exact hz j h1 (by omega)
    · rw [if_pos (by simp [hz'])]
      refine wpAny_execs_cons (wpAny_Return_some (nm_var Vr ?_))
      exact h1 (step + i) t' h₄ _ (by omega) (by omega) hz' (fun j h1 h2 => hz j h1 h2) F₄.keep
  · rintro s₃ ⟨h₃, tk₃, m, rfl, F₃, ma, ms, hz⟩
    refine wpAny_execs_cons (wpAny_Return_some ?_)
    exact wpAny_pure (h2 h₃ tk₃ (fun i h1 h2 => hz i h1 (by omega)) F₃.keep)
end
end Mine

namespace Mine
open PySem PySem.W PyProof.Rows PySem.Calls PySem.Spec
theorem kf_step : (fun (_ : Params → Frag) (_ : OpenLaw) => True) Mine.hd.heap_39 PySem.Challenge.rw_sa0072_01 := by
  k_fill
  trivial

/-- a square matrix of one's own: the list at Fa, its rows at Ts -/
structure MutM (h : Heap) (Fa : Addr) (Ts : List Addr) (n : Nat) (f : Nat → Nat → Int) : Prop where
  top : ∃ k, h.get? Fa = some (PySem.W.listOf (List.toArray (Ts.map Value.ref)) k)
  len : Ts.length = n
  nodup : Ts.Nodup
  out : Fa ∉ Ts
  row : ∀ i, i < n → ∀ T, Ts[i]? = some T → RowF h T n (f i)
theorem MutM.mat {h : Heap} {Fa : Addr} {Ts : List Addr} {n : Nat} {f : Nat → Nat → Int} (M : MutM h Fa Ts n f) : MatF h (.ref Fa) n n f := by
  obtain ⟨k, e⟩ := M.top
  refine ⟨Fa, _, k, rfl, e, by rw [List.length_map, M.len], fun i hi => ?_⟩
  have hi' : i < Ts.length := by rw [M.len]; exact hi
  exact ⟨Ts[i], by simp [hi'], M.row i hi _ (by simp [hi'])⟩
theorem MutM.congr {h : Heap} {Fa : Addr} {Ts : List Addr} {n : Nat} {f g : Nat → Nat → Int} (M : MutM h Fa Ts n f) (e : ∀ i j, i < n → j < n → f i j = g i j) : MutM h Fa Ts n g :=
  ⟨M.top, M.len, M.nodup, M.out, fun i hi T hT => by
    obtain ⟨vs, k, r1, r2, r3⟩ := M.row i hi T hT
    exact ⟨vs, k, r1, r2, fun j hj => e i j hi hj ▸ r3 j hj⟩⟩
theorem MutM.keeps {h h' : Heap} {Fa : Addr} {Ts : List Addr} {n : Nat} {f : Nat → Nat → Int} (M : MutM h Fa Ts n f) (k : ∀ a, (a = Fa ∨ a ∈ Ts) → ∀ o, h.get? a = some o → h'.get? a = some o) : MutM h' Fa Ts n f :=
  ⟨let ⟨q, e⟩ := M.top; ⟨q, k _ (.inl rfl) _ e⟩, M.len, M.nodup, M.out, fun i hi T hT => by
    obtain ⟨vs, q, r1, r⟩ := M.row i hi T hT
    exact ⟨vs, q, k T (.inr (List.mem_of_getElem? hT)) _ r1, r⟩⟩

theorem nodup_inj {l : List Addr} (h : l.Nodup) {i j : Nat} (hi : i < l.length) (hj : j < l.length) (e : l[i] = l[j]) : i = j := by
  have hp := List.pairwise_iff_getElem.mp h
  rcases Nat.lt_trichotomy i j with q | q | q
  · exact absurd e (hp i j hi hj q)
  · exact q
  · exact absurd e.symm (hp j i hj hi q)

abbrev upd2 (f : Nat → Nat → Int) (i j : Nat) (x : Int) : Nat → Nat → Int := fun a b => if a = i ∧ b = j then x else f a b

section
variable {prog : Program} {w : World} {A : Around} {E : Value → Shared → Prop} {s : Shared} {env : Env} {mg mb : Str → Option Value} {loose : List Str}
theorem set_cell {Fa T : Addr} {Ts : List Addr} {n i j : Nat} {f : Nat → Nat → Int} {x : Int} {t u : Tok} {Q : Unit → Shared → Prop} (M : MutM s.heap Fa Ts n f) (hi : i < n) (hT : Ts[i]? = some T) (hj : j < n) (hn : n ≤ 100)
    (h : ∀ h', MutM h' Fa Ts n (upd2 f i j x) → Heap.SameBut T s.heap h' → Q () { s with heap := h' }) :
    wpAny (model prog w) A (setItem (.ref T) (.int (j : Int) t) (.int x u)) Q E s := by
  obtain ⟨vs, k, r1, r2, r3⟩ := M.row i hi T hT
  refine ki_setAt r1 (Int.natCast_nonneg _) (by omega) (by rw [List.size_toArray, r2]; omega) ?_
  have hs := Heap.SameBut.update s.heap T (Obj.mapSeq fun x_1 => x_1.setIfInBounds (j : Int).toNat (.int x u))
  refine h _ ⟨?_, M.len, M.nodup, M.out, fun i' hi' T' hT' => ?_⟩ hs
  · obtain ⟨q, e⟩ := M.top
    exact ⟨q, (hs.2 Fa (fun q => M.out (by have q' : Fa = T := q; rw [q']; exact List.mem_of_getElem? hT))).trans e⟩
  · by_cases q : i' = i
    · subst q
      rw [hT] at hT'; cases hT'
      refine ⟨vs.set j (.int x u), k, ?_, by rw [List.length_set, r2], fun j' hj' => ?_⟩
      · have q := PySem.IsL.update r1 fun x_1 => x_1.setIfInBounds (j : Int).toNat (Value.int x u)
        have e : vs.toArray.setIfInBounds (j : Int).toNat (Value.int x u) = (vs.set j (Value.int x u)).toArray := by
          apply Array.toList_inj.mp
          simp
        rw [e, if_pos (by simp)] at q
        exact q
      · by_cases q' : j' = j
        · subst q'
          refine ⟨u, ?_⟩
          rw [List.getElem?_set_self (by rw [r2]; exact hj)]
          simp [upd2]
        · obtain ⟨t', e⟩ := r3 j' hj'
          refine ⟨t', ?_⟩
          rw [List.getElem?_set_ne (Ne.symm q'), e]
          simp [upd2, q']
    · obtain ⟨vs', k', e1, e2, e3⟩ := M.row i' hi' T' hT'
      refine ⟨vs', k', (hs.2 T' (fun r => q ?_)).trans e1, e2, fun j' hj' => ?_⟩
      · have r' : T' = T := r
        rw [r'] at hT'
        have hl := List.getElem?_eq_some_iff.mp hT
        have hl' := List.getElem?_eq_some_iff.mp hT'
        obtain ⟨p1, p2⟩ := hl
        obtain ⟨p1', p2'⟩ := hl'
        exact nodup_inj M.nodup p1' p1 (p2'.trans p2.symm)
      · obtain ⟨t', e⟩ := e3 j' hj'
        exact ⟨t', by simp [upd2, q, e]⟩

theorem mulOk {a b : Int} (h1 : -(2 ^ 62) ≤ a) (h2 : a ≤ 2 ^ 62) : IntMulOk a b := .of_left (intBits_le_64 (by omega) (by omega))
theorem pylong_ok {x y : Int} (h1 : -(2 ^ 62) ≤ y) (h2 : y ≤ 2 ^ 62) : Builtin.divisionGoesByPylong x y = false := by
  refine PyProof.noPylong_of_log2 ?_
  by_cases q : y.natAbs = 0
  · rw [q]; decide
  · have h : y.natAbs < 2 ^ 63 := by omega
    have := (Nat.log2_lt q).mpr h
    omega

/-- what one step makes -/
def elim (f : Nat → Nat → Int) (st : Nat) (ahead : Int) : Nat → Nat → Int := fun i j => if i ≤ st then f i j else if j < st then f i j else if j = st then 0 else (f i j * f st st - f i st * f st j).fdiv ahead

theorem FR.offAt {h₀ h : Heap} {m cm : Str → Option Value} (F : FR h₀ env m cm h) {I : Addr} (hL : env.locals ≠ I) (hc : ∀ n c, env.cells.lookup n = some c → c ≠ I) (h0 : h₀.get? I = none) : Off h₀ env I := ⟨hL, hc, h0⟩

set_option maxRecDepth 100000 in
theorem step_spec {R : Result → Shared → Prop} {B : Heap} {Fa : Addr} {Ts : List Addr} {n st : Nat} {t u : Tok} {f : Nat → Nat → Int} {ahead : Int} (G : GT w mg mb loose B) (hA : A.handled = none) (hroom : A.depth < recursionLimit)
    (hB : ∀ a o, B.get? a = some o → s.heap.get? a = some o ∧ a ∉ Ts) (M : MutM s.heap Fa Ts n f) (hst : st < n) (hn : n ≤ 100) (hah : ahead ≠ 0) (ha1 : -(2 ^ 62) ≤ ahead) (ha2 : ahead ≤ 2 ^ 62)
    (hb : ∀ i j, i < n → j < n → -(2 ^ 62) ≤ f i j ∧ f i j ≤ 2 ^ 62)
    (h : ∀ h' tk', MutM h' Fa Ts n (elim f st ahead) → (∀ a o, a ∉ Ts → s.heap.get? a = some o → h'.get? a = some o) → R (.ok (.ret .none)) { s with heap := h', toks := tk' }) :
    codeAny (model prog w) A (.call (.ref 48) ⟨[.ref Fa, .int (st : Int) t, .int ahead u], []⟩) R s := by
  have G₀ : GT w mg mb loose s.heap := G.keeps fun a o e => (hB a o e).1
  refine' enter [(Str.ofString "a", .ref Fa), (Str.ofString "step", .int (st : Int) t), (Str.ofString "ahead", .int ahead u)] (upd (upd (upd (fun _ => none) (Str.ofString "a") (.ref Fa)) (Str.ofString "step") (.int (st : Int) t)) (Str.ofString "ahead") (.int ahead u)) (fun _ => none) G₀ ?ho ?hcd hroom ?hb ?hk ?hm ?hcm ?_ ?c1 ?c2 ?c3
  case ho => k_is
  case hcd => k_is
  case hb => exact rfl
  case hk => exact kindsX rfl
  case hm => exact fun _ => rfl
  case hcm => exact fun _ => rfl
  case c1 => exact rfl
  case c2 => exact rfl
  case c3 => exact rfl
  intro L h₁ tk₁ E' hL F₀
  have hTa : ∀ a, (a = Fa ∨ a ∈ Ts) → ∃ o, s.heap.get? a = some o := by
    rintro a (rfl | ha)
    · obtain ⟨k, e⟩ := M.top; exact ⟨_, e⟩
    · obtain ⟨i, hi, rfl⟩ := List.getElem_of_mem ha
      obtain ⟨vs, k, e, _⟩ := M.row i (by rw [← M.len]; exact hi) _ (List.getElem?_eq_getElem hi)
      exact ⟨_, e⟩
  have neL : ∀ a, (a = Fa ∨ a ∈ Ts) → a ≠ L := fun a ha q => by
    obtain ⟨o, e⟩ := hTa a ha
    have hf : s.heap.get? L = none := F₀.freshL
    rw [← q, e] at hf; cases hf
  have F := F₀.base fun a o e => (hB a o e).1
  have M₁ := M.keeps fun a _ o e => F₀.keep a o e
  have Va := F.loc (x := Str.ofString "a") (v := .ref Fa) rfl rfl
  have Vs := F.loc (x := Str.ofString "step") (v := .int (st : Int) t) rfl rfl
  refine wpAny_execs_cons (wpAny_Assign_Name (cell_at Va Vs Vs M₁.mat hst hst hn hn fun t' => st_loc F rfl rfl fun h₂ F₂ hs₂ => ?_))
  have hLs : ∀ a o, s.heap.get? a = some o → a ≠ L := fun a o e q => by
    have hf : s.heap.get? L = none := F₀.freshL
    rw [← q, e] at hf; cases hf
  have K₂ : ∀ a o, s.heap.get? a = some o → h₂.get? a = some o := fun a o e => hs₂.extBut a o (hLs a o e) (F₀.keep a o e)
  have M₂ := M.keeps fun a _ o e => K₂ a o e
  have nBT : ∀ T ∈ Ts, B.get? T = none := fun T hT => by
    cases q : B.get? T with
    | none => rfl
    | some o => exact absurd hT (hB T o q).2
  have offT := fun (T : Addr) (hT : T ∈ Ts) => F₂.offAt (I := T) (fun q => neL T (.inr hT) q.symm) (fun n c e => by cases e) (nBT T hT)
  have G₂ := G.keeps F₂.keep
  have Va := F₂.loc (x := Str.ofString "a") (v := .ref Fa) rfl rfl
  have Vs := F₂.loc (x := Str.ofString "step") (v := .int (st : Int) t) rfl rfl
  refine wpAny_execs_cons (for_at ?_)
  refine call_type G₂ n_range b_range (spliced_more (wpAny_BinOp (nm_var Vs (wpAny_Constant_int (add_int (spliced_more (call_blt G₂ n_len b_len (spliced_more (nm_var Va (spliced_none ?_))))))))))
  obtain ⟨ka, ea⟩ := M₂.top
  refine len_list (isList_of ea) (by rw [List.size_toArray, List.length_map, M.len]; omega) ?_
  rw [List.size_toArray, List.length_map, M.len, show ((st : Int) + 1) = ((st + 1 : Nat) : Int) by omega]
  refine spliced_none (range_iter2 (n := n - (st + 1)) rfl (by omega) (by omega) fun I h₃ tk₃ k₃ hI st₃ => ?_)
  have O := F₂.off hI
  have hIs : ∀ a o, s.heap.get? a = some o → a ∉ [I] := fun a o e q => by
    rw [List.mem_singleton.mp q] at e
    have hI' : h₂.get? I = none := hI
    rw [K₂ _ _ e] at hI'; cases hI'
  let prog : Nat → Nat → Nat → Int := fun i a b => if a ≤ st + i then elim f st ahead a b else f a b
  refine ForAt.mk (fun i s' => ∃ h' tk' m, s' = { s with heap := h', toks := tk' } ∧ FR B _ m (fun _ => none) h' ∧ m (Str.ofString "a") = some (.ref Fa) ∧ m (Str.ofString "step") = some (.int (st : Int) t) ∧ m (Str.ofString "ahead") = some (.int ahead u) ∧ (∃ t', m (Str.ofString "lead") = some (.int (f st st) t')) ∧
      MutM h' Fa Ts n (prog i) ∧ (∀ a o, a ∉ Ts → s.heap.get? a = some o → h'.get? a = some o)) (iter_range (by exact hA) I ((st + 1 : Nat) : Int) (n - (st + 1))) st₃
    ⟨h₃, _, _, rfl, F₂.keeps k₃, rfl, rfl, rfl, ⟨_, rfl⟩, (M₂.keeps fun a _ o e => k₃ a o e).congr fun i j hi hj => ?_, fun a o _ e => k₃ a o (K₂ a o e)⟩ ?_ ?_ ?_
  · show f i j = if i ≤ st then elim f st ahead i j else f i j
    by_cases q : i ≤ st
    · rw [if_pos q]; unfold elim; rw [if_pos q]
    · rw [if_neg q]
  · rintro i s₁ h' tk' ⟨h₁', tk₁', m, rfl, F', ma, ms, mh, ml, M', K'⟩ v
    refine ⟨h', tk', m, rfl, F'.but O v, ma, ms, mh, ml, M'.keeps fun a ha o e => v a o ?_ e, fun a o ha e => v a o (hIs a o e) (K' a o ha e)⟩
    obtain ⟨o', e'⟩ := hTa a ha
    exact hIs a o' e'
  · rintro i vs s₃ E'' hi ⟨x, rfl, t', rfl⟩ _ ⟨h₄, tk₄, m, rfl, F₄, ma, ms, mh, ⟨tl, ml⟩, M₄, K₄⟩ al
    have hρ : st + 1 + i < n := by omega
    refine st_loc F₄ rfl rfl fun h₅ F₅ hs₅ => ?_
    have hrow : (((st + 1 : Nat) : Int) + (i : Int) * 1) = ((st + 1 + i : Nat) : Int) := by omega
    rw [hrow] at F₅
    have M₅ := M₄.keeps fun a ha o e => hs₅.extBut a o (neL a ha) e
    have Va := F₅.loc (x := Str.ofString "a") (v := .ref Fa) rfl ma
    have Vs := F₅.loc (x := Str.ofString "step") (v := .int (st : Int) t) rfl ms
    have Vr := F₅.loc (x := Str.ofString "row") (v := .int ((st + 1 + i : Nat) : Int) t') rfl rfl
    have pr : ∀ b, prog i (st + 1 + i) b = f (st + 1 + i) b := fun b => if_neg (by omega)
    have pst : ∀ b, prog i st b = f st b := fun b => by
      show (if st ≤ st + i then elim f st ahead st b else f st b) = f st b
      rw [if_pos (by omega)]; unfold elim; rw [if_pos (Nat.le_refl _)]
    refine wpAny_execs_cons (wpAny_Assign_Name (cell_at Va Vr Vs M₅.mat hρ hst hn hn fun t6 => st_loc F₅ rfl rfl fun h₆ F₆ hs₆ => ?_))
    rw [pr] at F₆
    have M₆ := M₅.keeps fun a ha o e => hs₆.extBut a o (neL a ha) e
    have G₆ := G.keeps F₆.keep
    have Va := F₆.loc (x := Str.ofString "a") (v := .ref Fa) rfl ma
    have Vs := F₆.loc (x := Str.ofString "step") (v := .int (st : Int) t) rfl ms
    refine wpAny_execs_cons (for_at ?_)
    refine call_type G₆ n_range b_range (spliced_more (wpAny_BinOp (nm_var Vs (wpAny_Constant_int (add_int (spliced_more (call_blt G₆ n_len b_len (spliced_more (nm_var Va (spliced_none ?_))))))))))
    obtain ⟨ka, ea⟩ := M₆.top
    refine len_list (isList_of ea) (by rw [List.size_toArray, List.length_map, M.len]; omega) ?_
    rw [List.size_toArray, List.length_map, M.len, show ((st : Int) + 1) = ((st + 1 : Nat) : Int) by omega]
    refine spliced_none (range_iter2 (n := n - (st + 1)) rfl (by omega) (by omega) fun I2 h₇ tk₇ k₇ hI2 st₇ => ?_)
    have O2 := F₆.off hI2
    have hI2s : ∀ a o, h₄.get? a = some o → a ≠ L → a ∉ [I2] := fun a o e hL q => by
      rw [List.mem_singleton.mp q] at e hL
      have hI' : h₆.get? I2 = none := hI2
      rw [hs₆.extBut I2 o hL (hs₅.extBut I2 o hL e)] at hI'; cases hI'
    let progI : Nat → Nat → Nat → Int := fun c a b => if a = st + 1 + i ∧ st < b ∧ b < st + 1 + c then elim f st ahead a b else prog i a b
    refine ForAt.mk (fun c s' => ∃ h' tk' m, s' = { s with heap := h', toks := tk' } ∧ FR B _ m (fun _ => none) h' ∧ m (Str.ofString "a") = some (.ref Fa) ∧ m (Str.ofString "step") = some (.int (st : Int) t) ∧ m (Str.ofString "ahead") = some (.int ahead u) ∧ m (Str.ofString "lead") = some (.int (f st st) tl) ∧
        m (Str.ofString "row") = some (.int ((st + 1 + i : Nat) : Int) t') ∧ m (Str.ofString "first") = some (.int (f (st + 1 + i) st) t6) ∧
        MutM h' Fa Ts n (progI c) ∧ (∀ a o, a ∉ Ts → a ≠ L → h₄.get? a = some o → h'.get? a = some o)) (iter_range (by exact hA) I2 ((st + 1 : Nat) : Int) (n - (st + 1))) st₇
      ⟨h₇, _, _, rfl, F₆.keeps k₇, ma, ms, mh, ml, rfl, rfl, (M₆.keeps fun a _ o e => k₇ a o e).congr fun a b ha hb => ?_, fun a o _ hL e => k₇ a o (hs₆.extBut a o hL (hs₅.extBut a o hL e))⟩ ?_ ?_ ?_
    · show prog i a b = if a = st + 1 + i ∧ st < b ∧ b < st + 1 + 0 then elim f st ahead a b else prog i a b
      rw [if_neg (by omega)]
    · rintro c s₁ h' tk' ⟨h₁', tk₁', m, rfl, F', ma, ms, mh, ml, mr, mf, M', K'⟩ v
      refine ⟨h', tk', m, rfl, F'.but O2 v, ma, ms, mh, ml, mr, mf, M'.keeps fun a ha o e => v a o ?_ e, fun a o ha hL e => v a o (hI2s a o e hL) (K' a o ha hL e)⟩
      have : ∃ o', h₄.get? a = some o' := by
        rcases ha with rfl | ha
        · obtain ⟨k, e⟩ := M₄.top; exact ⟨_, e⟩
        · obtain ⟨j, hj, rfl⟩ := List.getElem_of_mem ha
          obtain ⟨vs, k, e, _⟩ := M₄.row j (by rw [← M.len]; exact hj) _ (List.getElem?_eq_getElem hj)
          exact ⟨_, e⟩
      obtain ⟨o', e'⟩ := this
      exact hI2s a o' e' (neL a ha)
    · rintro c vs s₃ E3 hc ⟨x, rfl, t8, rfl⟩ _ ⟨h₈, tk₈, m, rfl, F₈, ma, ms, mh, ml, mr, mf, M₈, K₈⟩ al2
      have hγ : st + 1 + c < n := by omega
      refine st_loc F₈ rfl rfl fun h₉ F₉ hs₉ => ?_
      have hcol : (((st + 1 : Nat) : Int) + (c : Int) * 1) = ((st + 1 + c : Nat) : Int) := by omega
      rw [hcol] at F₉
      have M₉ := M₈.keeps fun a ha o e => hs₉.extBut a o (neL a ha) e
      have Va := F₉.loc (x := Str.ofString "a") (v := .ref Fa) rfl ma
      have Vs := F₉.loc (x := Str.ofString "step") (v := .int (st : Int) t) rfl ms
      have Vh := F₉.loc (x := Str.ofString "ahead") (v := .int ahead u) rfl mh
      have Vl := F₉.loc (x := Str.ofString "lead") (v := .int (f st st) tl) rfl ml
      have Vr := F₉.loc (x := Str.ofString "row") (v := .int ((st + 1 + i : Nat) : Int) t') rfl mr
      have Vf := F₉.loc (x := Str.ofString "first") (v := .int (f (st + 1 + i) st) t6) rfl mf
      have Vc := F₉.loc (x := Str.ofString "column") (v := .int ((st + 1 + c : Nat) : Int) t8) rfl rfl
      have p1 : progI c (st + 1 + i) (st + 1 + c) = f (st + 1 + i) (st + 1 + c) := by
        show (if st + 1 + i = st + 1 + i ∧ st < st + 1 + c ∧ st + 1 + c < st + 1 + c then _ else prog i _ _) = _
        rw [if_neg (by omega)]; exact pr _
      have p2 : progI c st (st + 1 + c) = f st (st + 1 + c) := by
        show (if st = st + 1 + i ∧ st < st + 1 + c ∧ st + 1 + c < st + 1 + c then _ else prog i _ _) = _
        rw [if_neg (by omega)]; exact pst _
      obtain ⟨T, hT⟩ : ∃ T, Ts[st + 1 + i]? = some T := ⟨_, List.getElem?_eq_getElem (by rw [M.len]; exact hρ)⟩
      have hTm : T ∈ Ts := List.mem_of_getElem? hT
      obtain ⟨ka9, ea9⟩ := M₉.top
      refine wpAny_execs_cons (wpAny_Assign_Subscript (wpAny_BinOp (wpAny_BinOp (wpAny_BinOp ?_))))
      refine cell_at Va Vr Vc M₉.mat hρ hγ hn hn fun t9 => ?_
      refine nm_var Vl (mul_int ?_ (mulOk (by rw [p1]; exact (hb _ _ hρ hγ).1) (by rw [p1]; exact (hb _ _ hρ hγ).2)))
      refine wpAny_BinOp (nm_var Vf ?_)
      refine cell_at Va Vs Vc M₉.mat hst hγ hn hn fun t10 => ?_
      refine mul_int ?_ (mulOk (hb _ _ hρ hst).1 (hb _ _ hρ hst).2)
      refine sub_int (nm_var Vh (floordiv_int hah ?_ (.inl (pylong_ok ha1 ha2))))
      refine sub_at (nm_var Va (nm_var Vr ⟨Fa, _, _, t', .ref T, rfl, rfl, isList_of ea9, Int.natCast_nonneg _, by omega, by simp only [Int.toNat_natCast, List.getElem?_toArray, List.getElem?_map, hT, Option.map_some], ?_⟩))
      refine nm_var Vc ?_
      refine set_cell M₉ hρ hT hγ hn fun h10 M10 hs10 => ?_
      have F10 := F₉.but (offT T hTm) fun a o ha e => hs10.extBut a o (fun q => ha (List.mem_singleton.mpr q)) e
      refine wpAny_execs_nil ⟨fun a ha o e => ?_, h10, _, _, rfl, F10, ma, ms, mh, ml, mr, mf, M10.congr fun a b ha hb' => ?_, fun a o ha hL e => hs10.extBut a o (fun q => ha (by rw [show a = T from q]; exact hTm)) (hs₉.extBut a o hL (K₈ a o ha hL e))⟩
      · obtain rfl := List.mem_singleton.mp ha
        refine hs10.extBut _ o (fun q => ?_) (hs₉.extBut _ o (fun q => O2.L q.symm) e)
        obtain ⟨o', e'⟩ := hTa T (.inr hTm)
        have hT6 : ∃ o, h₆.get? T = some o := by
          obtain ⟨vs, k, e, _⟩ := M₆.row _ hρ T hT
          exact ⟨_, e⟩
        obtain ⟨o6, e6⟩ := hT6
        have hI' : h₆.get? a = none := hI2
        rw [show a = T from q, e6] at hI'; cases hI'
      · show (if a = st + 1 + i ∧ b = st + 1 + c then _ else progI c a b) = progI (c + 1) a b
        rw [p1, p2]
        by_cases q : a = st + 1 + i ∧ b = st + 1 + c
        · obtain ⟨rfl, rfl⟩ := q
          rw [if_pos ⟨rfl, rfl⟩]
          show _ = if st + 1 + i = st + 1 + i ∧ st < st + 1 + c ∧ st + 1 + c < st + 1 + (c + 1) then elim f st ahead (st + 1 + i) (st + 1 + c) else _
          rw [if_pos (by omega)]
          unfold elim
          rw [if_neg (by omega), if_neg (by omega), if_neg (by omega)]
        · rw [if_neg q]
          show (if a = st + 1 + i ∧ st < b ∧ b < st + 1 + c then elim f st ahead a b else prog i a b) = if a = st + 1 + i ∧ st < b ∧ b < st + 1 + (c + 1) then elim f st ahead a b else prog i a b
          by_cases q2 : a = st + 1 + i ∧ st < b ∧ b < st + 1 + c
          · rw [if_pos q2, if_pos (by omega)]
          · rw [if_neg q2, if_neg (by omega)]
    · rintro s₃ ⟨h₈, tk₈, m, rfl, F₈, ma, ms, mh, ml, mr, mf, M₈, K₈⟩
      have Va := F₈.loc (x := Str.ofString "a") (v := .ref Fa) rfl ma
      have Vs := F₈.loc (x := Str.ofString "step") (v := .int (st : Int) t) rfl ms
      have Vr := F₈.loc (x := Str.ofString "row") (v := .int ((st + 1 + i : Nat) : Int) t') rfl mr
      obtain ⟨T, hT⟩ : ∃ T, Ts[st + 1 + i]? = some T := ⟨_, List.getElem?_eq_getElem (by rw [M.len]; exact hρ)⟩
      have hTm : T ∈ Ts := List.mem_of_getElem? hT
      obtain ⟨ka9, ea9⟩ := M₈.top
      refine wpAny_execs_cons (wpAny_Assign_Subscript (wpAny_Constant_int ?_))
      refine sub_at (nm_var Va (nm_var Vr ⟨Fa, _, _, t', .ref T, rfl, rfl, isList_of ea9, Int.natCast_nonneg _, by omega, by simp only [Int.toNat_natCast, List.getElem?_toArray, List.getElem?_map, hT, Option.map_some], ?_⟩))
      refine nm_var Vs ?_
      refine set_cell M₈ hρ hT hst hn fun h10 M10 hs10 => ?_
      have F10 := F₈.but (offT T hTm) fun a o ha e => hs10.extBut a o (fun q => ha (List.mem_singleton.mpr q)) e
      refine wpAny_execs_nil ⟨fun a ha o e => ?_, h10, _, _, rfl, F10, ma, ms, mh, ⟨tl, ml⟩, M10.congr fun a b ha hb' => ?_, fun a o ha e => hs10.extBut a o (fun q => ha (by rw [show a = T from q]; exact hTm)) (K₈ a o ha (hLs a o e) (K₄ a o ha e))⟩
      · obtain rfl := List.mem_singleton.mp ha
        have hIT : a ∉ Ts := fun q => by
          obtain ⟨o', e'⟩ := hTa a (.inr q)
          exact hIs a o' e' (List.mem_singleton.mpr rfl)
        exact hs10.extBut _ o (fun q => hIT (by rw [show a = T from q]; exact hTm)) (K₈ a o hIT (fun q => O.L q.symm) e)
      · show (if a = st + 1 + i ∧ b = st then 0 else if a = st + 1 + i ∧ st < b ∧ b < st + 1 + (n - (st + 1)) then elim f st ahead a b else if a ≤ st + i then elim f st ahead a b else f a b) = if a ≤ st + (i + 1) then elim f st ahead a b else f a b
        by_cases q : a = st + 1 + i
        · subst q
          rw [if_pos (show st + 1 + i ≤ st + (i + 1) by omega)]
          by_cases q2 : b = st
          · subst q2
            rw [if_pos ⟨rfl, rfl⟩]
            unfold elim
            rw [if_neg (by omega), if_neg (by omega), if_pos rfl]
          · rw [if_neg (by omega)]
            by_cases q3 : st < b
            · rw [if_pos (by omega)]
            · rw [if_neg (by omega), if_neg (by omega)]
              unfold elim
              rw [if_neg (by omega), if_pos (by omega)]
        · rw [if_neg (by omega), if_neg (by omega)]
          by_cases q2 : a ≤ st + i
          · rw [if_pos q2, if_pos (by omega)]
          · rw [if_neg q2, if_neg (by omega)]
  · rintro s₃ ⟨h₄, tk₄, m, rfl, F₄, ma, ms, mh, _, M₄, K₄⟩
    refine wpAny_execs_nil (h h₄ tk₄ (M₄.congr fun a b ha hb' => ?_) K₄)
    show (if a ≤ st + (n - (st + 1)) then elim f st ahead a b else f a b) = elim f st ahead a b
    rw [if_pos (by omega)]
end
end Mine

namespace Mine
open PySem PySem.W PyProof.Rows PySem.Calls PySem.Spec
section
variable {prog : Program} {w : World} {A : Around} {E : Value → Shared → Prop} {s₀ s₁ : Shared} {env : Env} {elt : Expr} {ifs : List Expr} {scope : Scope} {cl : List (Str × Addr)} {b : Bool} {Mut : Addr → Prop} {S : Heap → Prop} {Y : Nat → Value → Option Obj → Prop} {h₀ : Heap}
  {Fin : Addr → List Value → Heap → Nat → Prop}

abbrev cenvOf (scope : Scope) (cl : List (Str × Addr)) (env : Env) (C : Addr) : Env := compEnvC scope (cellsFrom (C + 1) scope.names cl) C env

/-- one turn of a block: the tests say b; the element, if they say so -/
def TurnOk (prog : Program) (w : World) (A : Around) (cenv : Env) (elt : Expr) (ifs : List Expr) (b : Bool) (Mut : Addr → Prop) (S : Heap → Prop) (Y : Nat → Value → Option Obj → Prop) (i : Nat) (E' : Value → Shared → Prop) (s₃ : Shared) : Prop :=
  wpAny (model prog w) A (tests ifs cenv) (fun ok s₄ => ok = b ∧ KB Mut s₃ s₄ ∧ S s₄.heap ∧ (b = true → wpAny (model prog w) A (eval elt cenv) (fun y s₅ => KB Mut s₄ s₅ ∧ S s₅.heap ∧ EltAt Y s₄.heap s₅.heap i y) E' s₄)) E' s₃

theorem TurnOk.plain {cenv : Env} {i : Nat} {E' : Value → Shared → Prop} {s₃ : Shared} (hS : S s₃.heap) (h : wpAny (model prog w) A (eval elt cenv) (fun y s₅ => KB Mut s₃ s₅ ∧ S s₅.heap ∧ EltAt Y s₃.heap s₅.heap i y) E' s₃) :
    TurnOk prog w A cenv elt [] true Mut S Y i E' s₃ := wpAny_tests_nil ⟨rfl, KB.refl, hS, fun _ => h⟩

theorem comp_list {x : Str} {p : Pos} {l : Addr} {items : Array Value} (hA : A.handled = none) (same : ∃ h tk, s₁ = { s₀ with heap := h, toks := tk }) (hl : s₁.heap.IsList l items) (base : ∀ a o, h₀.get? a = some o → s₁.heap.get? a = some o) (hlM : ¬ Mut l) (hMs : ∀ a, Mut a → ∃ o, s₁.heap.get? a = some o)
    (hS : ∀ h h', S h → (∀ a o, Mut a → h.get? a = some o → h'.get? a = some o) → S h') (hS0 : S s₁.heap) (hsz : items.size ≤ sizeLine)
    (places : ∀ (H : Heap) C Top, C < Top → (pushCells ((H.push (lst [])).push { cls := .type "dict", data := .dict #[] }) scope.names).objs.size = Top → C = H.objs.size + 1 → Places (cenvOf scope cl env C) Top [x])
    (turn : ∀ C i v s₃ E', items[i]? = some v → VarIs s₃.heap (cenvOf scope cl env C) x v → (∀ a o, ¬ Mut a → h₀.get? a = some o → s₃.heap.get? a = some o) → S s₃.heap → TurnOk prog w A (cenvOf scope cl env C) elt ifs b Mut S Y i E' s₃)
    (fin : ∀ D h' tk' ys, ys.length = (if b = true then items.size else 0) → Made Y h₀ D ys h' → S h' → (∀ a o, ¬ Mut a → h₀.get? a = some o → h'.get? a = some o) → Fin D ys h' tk') :
    wpAny (model prog w) A (pyIter (.ref l)) (fun it s₂ => (∃ h tk, s₂ = { s₀ with heap := h, toks := tk }) ∧ CompAt prog w A env elt (.Name x p) ifs scope cl b Mut S Y h₀ (fun D ys h' tk' => Fin D ys h' tk') it s₂) E s₁ := by
  refine wpAny_pyIter_list hl ?_
  obtain ⟨ol, el, _⟩ := id hl
  have hlt : l < s₁.heap.objs.size := Heap.lt_size el
  refine ⟨by obtain ⟨hx, tkx, rfl⟩ := same; exact ⟨_, _, rfl⟩, ?_⟩
  refine CompAt.mk (iter_list hA s₁.heap.objs.size l (Nat.ne_of_lt hlt) items) ⟨⟨_, Heap.get?_push_size _ rfl, rfl, rfl⟩, hl.push _⟩ (fun a o e => ⟨Heap.get?_push_of_some _ (base a o e), fun q => ?_⟩) (fun a ha q => ?_) (hS _ _ hS0 fun a o _ e => Heap.get?_push_of_some _ e) hsz (fun C Top h1 h2 h3 => places _ C Top h1 h2 h3) ?_ fin
  · rw [List.mem_singleton.mp q] at e
    exact absurd (Heap.lt_size (base _ o e)) (Nat.lt_irrefl _)
  · rcases List.mem_cons.mp ha with rfl | ha
    · obtain ⟨o, e⟩ := hMs _ q
      exact absurd (Heap.lt_size e) (Nat.lt_irrefl _)
    · exact hlM (List.mem_singleton.mp ha ▸ q)
  · rintro C i vs s₃ E' hi ⟨v, rfl, hv⟩ _ vars hk hS₃
    exact turn C i v s₃ E' hv (vars (x, v) (List.mem_singleton.mpr rfl)) hk hS₃

theorem comp_tup {x : Str} {p : Pos} {l : Addr} {items : Array Value} (hA : A.handled = none) (same : ∃ h tk, s₁ = { s₀ with heap := h, toks := tk }) (hl : s₁.heap.IsTuple l items) (base : ∀ a o, h₀.get? a = some o → s₁.heap.get? a = some o) (hlM : ¬ Mut l) (hMs : ∀ a, Mut a → ∃ o, s₁.heap.get? a = some o)
    (hS : ∀ h h', S h → (∀ a o, Mut a → h.get? a = some o → h'.get? a = some o) → S h') (hS0 : S s₁.heap) (hsz : items.size ≤ sizeLine)
    (places : ∀ (H : Heap) C Top, C < Top → (pushCells ((H.push (lst [])).push { cls := .type "dict", data := .dict #[] }) scope.names).objs.size = Top → C = H.objs.size + 1 → Places (cenvOf scope cl env C) Top [x])
    (turn : ∀ C i v s₃ E', items[i]? = some v → VarIs s₃.heap (cenvOf scope cl env C) x v → (∀ a o, ¬ Mut a → h₀.get? a = some o → s₃.heap.get? a = some o) → S s₃.heap → TurnOk prog w A (cenvOf scope cl env C) elt ifs b Mut S Y i E' s₃)
    (fin : ∀ D h' tk' ys, ys.length = (if b = true then items.size else 0) → Made Y h₀ D ys h' → S h' → (∀ a o, ¬ Mut a → h₀.get? a = some o → h'.get? a = some o) → Fin D ys h' tk') :
    wpAny (model prog w) A (pyIter (.ref l)) (fun it s₂ => (∃ h tk, s₂ = { s₀ with heap := h, toks := tk }) ∧ CompAt prog w A env elt (.Name x p) ifs scope cl b Mut S Y h₀ (fun D ys h' tk' => Fin D ys h' tk') it s₂) E s₁ := by
  refine wpAny_pyIter_tuple hl ?_
  obtain ⟨ol, el, _⟩ := id hl
  have hlt : l < s₁.heap.objs.size := Heap.lt_size el
  refine ⟨by obtain ⟨hx, tkx, rfl⟩ := same; exact ⟨_, _, rfl⟩, ?_⟩
  refine CompAt.mk (iter_tup hA s₁.heap.objs.size l (Nat.ne_of_lt hlt) items) ⟨⟨_, Heap.get?_push_size _ rfl, rfl, rfl⟩, hl.push _⟩ (fun a o e => ⟨Heap.get?_push_of_some _ (base a o e), fun q => ?_⟩) (fun a ha q => ?_) (hS _ _ hS0 fun a o _ e => Heap.get?_push_of_some _ e) hsz (fun C Top h1 h2 h3 => places _ C Top h1 h2 h3) ?_ fin
  · rw [List.mem_singleton.mp q] at e
    exact absurd (Heap.lt_size (base _ o e)) (Nat.lt_irrefl _)
  · rcases List.mem_cons.mp ha with rfl | ha
    · obtain ⟨o, e⟩ := hMs _ q
      exact absurd (Heap.lt_size e) (Nat.lt_irrefl _)
    · exact hlM (List.mem_singleton.mp ha ▸ q)
  · rintro C i vs s₃ E' hi ⟨v, rfl, hv⟩ _ vars hk hS₃
    exact turn C i v s₃ E' hv (vars (x, v) (List.mem_singleton.mpr rfl)) hk hS₃

theorem comp_range {x : Str} {p : Pos} {I : Addr} {a n : Nat} (hA : A.handled = none) (same : ∃ h tk, s₁ = { s₀ with heap := h, toks := tk }) (st : IsRangeIter s₁.heap I ((a : Int) + (0 : Nat) * 1) ((n : Int) - (0 : Nat)) 1) (base : ∀ a o, h₀.get? a = some o → s₁.heap.get? a = some o ∧ a ≠ I) (hlM : ¬ Mut I)
    (hS0 : S s₁.heap) (hsz : n ≤ sizeLine)
    (places : ∀ (H : Heap) C Top, C < Top → (pushCells ((H.push (lst [])).push { cls := .type "dict", data := .dict #[] }) scope.names).objs.size = Top → C = H.objs.size + 1 → Places (cenvOf scope cl env C) Top [x])
    (turn : ∀ C i t s₃ E', i < n → VarIs s₃.heap (cenvOf scope cl env C) x (.int ((a + i : Nat) : Int) t) → (∀ a o, ¬ Mut a → h₀.get? a = some o → s₃.heap.get? a = some o) → S s₃.heap → TurnOk prog w A (cenvOf scope cl env C) elt ifs b Mut S Y i E' s₃)
    (fin : ∀ D h' tk' ys, ys.length = (if b = true then n else 0) → Made Y h₀ D ys h' → S h' → (∀ a o, ¬ Mut a → h₀.get? a = some o → h'.get? a = some o) → Fin D ys h' tk') :
    (∃ h tk, s₁ = { s₀ with heap := h, toks := tk }) ∧ CompAt prog w A env elt (.Name x p) ifs scope cl b Mut S Y h₀ (fun D ys h' tk' => Fin D ys h' tk') (.ref I) s₁ := by
  refine ⟨same, ?_⟩
  refine CompAt.mk (iter_range hA I a n) st (fun b o e => ⟨(base b o e).1, fun q => (base b o e).2 (List.mem_singleton.mp q)⟩) (fun b hb q => hlM (List.mem_singleton.mp hb ▸ q)) hS0 hsz (fun C Top h1 h2 h3 => places _ C Top h1 h2 h3) ?_ fin
  rintro C i vs s₃ E' hi ⟨v, rfl, t, rfl⟩ _ vars hk hS₃
  have e : ((a : Int) + (i : Int) * 1) = ((a + i : Nat) : Int) := by omega
  have := vars (x, .int ((a : Int) + (i : Int) * 1) t) (List.mem_singleton.mpr rfl)
  rw [e] at this
  exact turn C i t s₃ E' hi this hk hS₃

theorem comp_enum {x y : Str} {px py pt : Pos} {k : Nat} {e it l : Addr} {items : Array Value} {old : Value} (hA : A.handled = none) (same : ∃ h tk, s₁ = { s₀ with heap := h, toks := tk }) (he : IsEnum s₁.heap e it 0 old) (hit : s₁.heap.IsListIter it l 0) (hl : s₁.heap.IsList l items) (hei : e ≠ it) (hle : l ≠ e) (hli : l ≠ it)
    (base : ∀ a o, h₀.get? a = some o → s₁.heap.get? a = some o ∧ a ≠ e ∧ a ≠ it) (hlM : ¬ Mut l ∧ ¬ Mut e ∧ ¬ Mut it) (hS0 : S s₁.heap) (hsz : items.size ≤ sizeLine)
    (places : ∀ (H : Heap) C Top, C < Top → (pushCells ((H.push (lst [])).push { cls := .type "dict", data := .dict #[] }) scope.names).objs.size = Top → C = H.objs.size + 1 → Places (cenvOf scope cl env C) Top [x, y])
    (turn : ∀ C (i : Nat) t v s₃ E', items[i]? = some v → VarIs s₃.heap (cenvOf scope cl env C) x (.int (i : Int) t) → VarIs s₃.heap (cenvOf scope cl env C) y v → (∀ a o, ¬ Mut a → h₀.get? a = some o → s₃.heap.get? a = some o) → S s₃.heap → TurnOk prog w A (cenvOf scope cl env C) elt ifs b Mut S Y i E' s₃)
    (fin : ∀ D h' tk' ys, ys.length = (if b = true then items.size else 0) → Made Y h₀ D ys h' → S h' → (∀ a o, ¬ Mut a → h₀.get? a = some o → h'.get? a = some o) → Fin D ys h' tk') :
    wpAny (model prog w) A (pyIter (.ref e)) (fun it s₂ => (∃ h tk, s₂ = { s₀ with heap := h, toks := tk }) ∧ CompAt prog w A env elt (.Tuple [.Name x px, .Name y py] k pt) ifs scope cl b Mut S Y h₀ (fun D ys h' tk' => Fin D ys h' tk') it s₂) E s₁ := by
  refine wpAny_pyIter_enum he ?_
  refine ⟨same, ?_⟩
  refine CompAt.mk (iter_enum hA e it l hei hle hli items) ⟨⟨old, he⟩, hit, hl⟩ (fun b o e => ⟨(base b o e).1, fun q => ?_⟩) (fun b hb q => ?_) hS0 hsz (fun C Top h1 h2 h3 => places _ C Top h1 h2 h3) ?_ fin
  · rcases List.mem_cons.mp q with q | q
    · exact (base b o e).2.1 q
    · exact (base b o e).2.2 (List.mem_singleton.mp q)
  · rcases List.mem_cons.mp hb with rfl | hb
    · exact hlM.2.1 q
    · rcases List.mem_cons.mp hb with rfl | hb
      · exact hlM.2.2 q
      · exact hlM.1 (List.mem_singleton.mp hb ▸ q)
  · rintro C i vs s₃ E' hi ⟨a, v, rfl, ⟨t, rfl⟩, hv⟩ _ vars hk hS₃
    exact turn C i t v s₃ E' hv (vars (x, _) (List.mem_cons_self ..)) (vars (y, v) (List.mem_cons_of_mem _ (List.mem_cons_self ..))) hk hS₃

theorem noM {h h' : Heap} : (fun _ : Heap => True) h → (∀ a o, NoMut a → h.get? a = some o → h'.get? a = some o) → (fun _ : Heap => True) h' := fun _ _ => trivial
end
end Mine

namespace Mine
open PySem PySem.W PyProof.Rows PySem.Calls PySem.Spec

/-- elements that are rows made anew; elements that are ints -/
def YRow (c : Nat) (f : Nat → Nat → Int) : Nat → Value → Option Obj → Prop := fun i y oo => ∃ T vs k, y = Value.ref T ∧ oo = some (PySem.W.listOf (List.toArray vs) k) ∧ vs.length = c ∧ ∀ j, j < c → ∃ t, vs[j]? = some (Value.int (f i j) t)
def YInt (g : Nat → Int) : Nat → Value → Option Obj → Prop := fun i y oo => oo = none ∧ ∃ t, y = Value.int (g i) t

theorem made_ints {g : Nat → Int} {h₀ h : Heap} {D : Addr} {ys : List Value} {n : Nat} (m : Made (YInt g) h₀ D ys h) (hn : ys.length = n) : RowF h D n g :=
  ⟨ys, ys.length, m.at_, hn, fun j hj => by
    obtain ⟨oo, ⟨_, t, e⟩, _⟩ := m.elt j ys[j] (List.getElem?_eq_getElem (by rw [hn]; exact hj))
    exact ⟨t, by rw [List.getElem?_eq_getElem (by rw [hn]; exact hj), e]⟩⟩
theorem made_rows {f : Nat → Nat → Int} {h₀ h : Heap} {D : Addr} {ys : List Value} {r c : Nat} (m : Made (YRow c f) h₀ D ys h) (hn : ys.length = r) : MatF h (.ref D) r c f :=
  ⟨D, ys, ys.length, rfl, m.at_, hn, fun i hi => by
    have hi' : i < ys.length := by rw [hn]; exact hi
    obtain ⟨oo, ⟨T, vs, k, e1, e2, e3, e4⟩, hT⟩ := m.elt i ys[i] (List.getElem?_eq_getElem hi')
    obtain ⟨T', q1, _, _, q4⟩ := hT _ e2
    rw [e1] at q1; cases q1
    exact ⟨T, by rw [List.getElem?_eq_getElem hi', e1], vs, k, q4, e3, e4⟩⟩
theorem refs_of : ∀ {ys : List Value}, (∀ (j : Nat) (y : Value), ys[j]? = some y → ∃ T : Addr, y = Value.ref T) → ∃ Ts : List Addr, ys = Ts.map Value.ref
  | [], _ => ⟨[], rfl⟩
  | y :: r, h => by
    obtain ⟨T, rfl⟩ := h 0 y rfl
    obtain ⟨Ts, e⟩ := refs_of (ys := r) fun j z hz => h (j + 1) z hz
    exact ⟨T :: Ts, by rw [e]; rfl⟩
theorem made_mut {f : Nat → Nat → Int} {h₀ h : Heap} {D : Addr} {ys : List Value} {n : Nat} (m : Made (YRow n f) h₀ D ys h) (hn : ys.length = n) : ∃ Ts, MutM h D Ts n f ∧ ∀ T ∈ Ts, h₀.get? T = none := by
  have hr : ∀ j y, ys[j]? = some y → ∃ T, y = Value.ref T ∧ T ≠ D ∧ h₀.get? T = none ∧ RowF h T n (f j) := fun j y e => by
    obtain ⟨oo, ⟨T, vs, k, e1, e2, e3, e4⟩, hT⟩ := m.elt j y e
    obtain ⟨T', q1, q2, q3, q4⟩ := hT _ e2
    rw [e1] at q1; cases q1
    exact ⟨T, e1, q2, q3, vs, k, q4, e3, e4⟩
  obtain ⟨Ts, rfl⟩ := refs_of fun j y e => let ⟨T, q, _⟩ := hr j y e; ⟨T, q⟩
  have at_ : ∀ j T, Ts[j]? = some T → T ≠ D ∧ h₀.get? T = none ∧ RowF h T n (f j) := fun j T e => by
    obtain ⟨T', q, r⟩ := hr j (.ref T) (by rw [List.getElem?_map, e]; rfl)
    cases q; exact r
  refine ⟨Ts, ⟨⟨_, m.at_⟩, by rw [← hn, List.length_map], ?_, fun hm => ?_, fun i _ T hT => (at_ i T hT).2.2⟩, fun T hT => ?_⟩
  · have := m.nodup fun j y oo q => by obtain ⟨T, vs, k, _, e, _⟩ := q; exact ⟨_, e⟩
    exact (List.pairwise_map.mp this).imp fun q r => q (by rw [r])
  · obtain ⟨j, hj, e⟩ := List.getElem_of_mem hm
    exact (at_ j D (by rw [List.getElem?_eq_getElem hj, e])).1 rfl
  · obtain ⟨j, hj, e⟩ := List.getElem_of_mem hT
    exact (at_ j T (by rw [List.getElem?_eq_getElem hj, e])).2.1

/-- two rows changed about -/
def swapR (f : Nat → Nat → Int) (a b : Nat) : Nat → Nat → Int := fun i j => if i = a then f b j else if i = b then f a j else f i j
theorem swapR_self (f : Nat → Nat → Int) (a : Nat) : swapR f a a = f := by
  funext i j
  unfold swapR
  by_cases q : i = a
  · rw [if_pos q, q]
  · rw [if_neg q, if_neg q]

theorem VarIs.offList {h h' : Heap} {env : Env} {x : Str} {v : Value} {Fa : Addr} {its : Array Value} {k : Nat} (V : VarIs h env x v) (e : h.get? Fa = some (PySem.W.listOf its k)) (u : ∀ a o, a ≠ Fa → h.get? a = some o → h'.get? a = some o) : VarIs h' env x v := by
  cases V with
  | loc m a b c => exact .loc m a (b.at' fun o e' => u _ o (fun q => by
      obtain ⟨o', es, ep, e1, e2, _⟩ := b
      rw [q, e] at e1; cases e1; cases e2) e') c
  | cell c a b d =>
    obtain ⟨o, e1, e2⟩ := d
    exact .cell c a b ⟨o, u c o (fun q => by rw [q, e] at e1; cases e1; cases e2) e1, e2⟩

theorem nodup_of {l : List Addr} (h : ∀ i j (hi : i < l.length) (hj : j < l.length), l[i] = l[j] → i = j) : l.Nodup :=
  List.pairwise_iff_getElem.mpr fun i j hi hj hij e => absurd (h i j hi hj e) (Nat.ne_of_lt hij)

theorem MutM.swap {h h' : Heap} {Fa : Addr} {Ts : List Addr} {n a b k : Nat} {f : Nat → Nat → Int} (M : MutM h Fa Ts n f) (ha : a < n) (hb : b < n) (Ta Tb : Addr) (hTa : Ts[a]? = some Ta) (hTb : Ts[b]? = some Tb)
    (e : h'.get? Fa = some (PySem.W.listOf (List.toArray (((Ts.map Value.ref).set a (.ref Tb)).set b (.ref Ta))) k)) (u : ∀ c o, c ≠ Fa → h.get? c = some o → h'.get? c = some o) :
    MutM h' Fa ((Ts.set a Tb).set b Ta) n (swapR f a b) := by
  have hl := M.len
  have key : ∀ i, i < n → ((Ts.set a Tb).set b Ta)[i]? = Ts[if i = a then b else if i = b then a else i]? := fun i hi => by
    by_cases q : i = b
    · subst q
      rw [List.getElem?_set_self (by rw [List.length_set, hl]; exact hi)]
      by_cases r : i = a
      · subst r; rw [if_pos rfl, hTb]; rw [hTa] at hTb; exact hTb
      · rw [if_neg r, if_pos rfl, hTa]
    · rw [List.getElem?_set_ne (Ne.symm q)]
      by_cases r : i = a
      · subst r; rw [List.getElem?_set_self (by rw [hl]; exact hi), if_pos rfl, hTb]
      · rw [List.getElem?_set_ne (Ne.symm r), if_neg r, if_neg q]
  refine ⟨⟨k, ?_⟩, by rw [List.length_set, List.length_set, hl], ?_, fun hm => ?_, fun i hi T hT => ?_⟩
  · rw [e, List.map_set, List.map_set]
  · refine nodup_of fun i j hi hj q => ?_
    have hi' : i < n := by rw [List.length_set, List.length_set, hl] at hi; exact hi
    have hj' : j < n := by rw [List.length_set, List.length_set, hl] at hj; exact hj
    have h1 := key i hi'
    have h2 := key j hj'
    rw [List.getElem?_eq_getElem hi] at h1
    rw [List.getElem?_eq_getElem hj, ← q, h1] at h2
    have b1 : (if i = a then b else if i = b then a else i) < Ts.length := by rw [hl]; split; exact hb; split; exact ha; exact hi'
    have b2 : (if j = a then b else if j = b then a else j) < Ts.length := by rw [hl]; split; exact hb; split; exact ha; exact hj'
    rw [List.getElem?_eq_getElem b1, List.getElem?_eq_getElem b2] at h2
    have := nodup_inj M.nodup b1 b2 (Option.some.inj h2)
    split at this <;> split at this <;> (try split at this) <;> (try split at this) <;> omega
  · obtain ⟨i, hi, q⟩ := List.getElem_of_mem hm
    have hi' : i < n := by rw [List.length_set, List.length_set, hl] at hi; exact hi
    have h1 := key i hi'
    rw [List.getElem?_eq_getElem hi, q] at h1
    exact M.out (List.mem_of_getElem? h1.symm)
  · rw [key i hi] at hT
    have b1 : (if i = a then b else if i = b then a else i) < n := by split; exact hb; split; exact ha; exact hi
    obtain ⟨vs, k', r1, r2, r3⟩ := M.row _ b1 T hT
    have hTF : T ≠ Fa := fun q => M.out (q ▸ List.mem_of_getElem? hT)
    refine ⟨vs, k', u T _ hTF r1, r2, fun j hj => ?_⟩
    obtain ⟨t, et⟩ := r3 j hj
    refine ⟨t, et.trans ?_⟩
    unfold swapR
    split
    · rfl
    · split <;> rfl

section
variable {prog : Program} {w : World} {A : Around} {E : Value → Shared → Prop} {s : Shared} {env : Env}

theorem swap_rows {x y z : Str} {q1 q2 q3 q4 q5 q6 q7 q8 p1 p2 p3 p4 tp tp2 pos : Pos} {k k2 : Nat} {Fa : Addr} {Ts : List Addr} {n a b : Nat} {f : Nat → Nat → Int} {t u : Tok} {Q : Flow → Shared → Prop} (hA : A.handled = none)
    (Vx : VarIs s.heap env x (.ref Fa)) (Vy : VarIs s.heap env y (.int (a : Int) t)) (Vz : VarIs s.heap env z (.int (b : Int) u)) (M : MutM s.heap Fa Ts n f) (ha : a < n) (hb : b < n) (hn : n ≤ 100)
    (h : ∀ h' tk' Ts', MutM h' Fa Ts' n (swapR f a b) → (∀ T ∈ Ts', T ∈ Ts) → (∀ c o, c ≠ Fa → s.heap.get? c = some o → h'.get? c = some o) → Q .next { s with heap := h', toks := tk' })
    (hf : env.scope.kind = .function)
    (hdx : (x == ("__debug__" : Str)) = false) (hdy : (y == ("__debug__" : Str)) = false) (hdz : (z == ("__debug__" : Str)) = false)
    (hcx : (x == ("__classdict__" : Str)) = false) (hcy : (y == ("__classdict__" : Str)) = false) (hcz : (z == ("__classdict__" : Str)) = false)
    (hs : swapsWithSole [.Tuple [.Subscript (.Name x q1) (.Name y q2) p1, .Subscript (.Name x q3) (.Name z q4) p2] k tp] (.Tuple [.Subscript (.Name x q5) (.Name z q6) p3, .Subscript (.Name x q7) (.Name y q8) p4] k2 tp2) pos.line env = pure false)
    (hw : swappedStores [.Tuple [.Subscript (.Name x q1) (.Name y q2) p1, .Subscript (.Name x q3) (.Name z q4) p2] k tp] (.Tuple [.Subscript (.Name x q5) (.Name z q6) p3, .Subscript (.Name x q7) (.Name y q8) p4] k2 tp2) env = pure none) :
    wpAny (model prog w) A (exec (.Assign [.Tuple [.Subscript (.Name x q1) (.Name y q2) p1, .Subscript (.Name x q3) (.Name z q4) p2] k tp] (.Tuple [.Subscript (.Name x q5) (.Name z q6) p3, .Subscript (.Name x q7) (.Name y q8) p4] k2 tp2) pos) env) Q E s := by
  have hl := M.len
  obtain ⟨Ta, hTa⟩ : ∃ T, Ts[a]? = some T := ⟨_, List.getElem?_eq_getElem (by rw [hl]; exact ha)⟩
  obtain ⟨Tb, hTb⟩ : ∃ T, Ts[b]? = some T := ⟨_, List.getElem?_eq_getElem (by rw [hl]; exact hb)⟩
  obtain ⟨kk, e⟩ := M.top
  refine Assign_Tuple (Tuple_ (spliced_more (sub_at (nm_var Vx (nm_var Vz ⟨Fa, _, _, u, .ref Tb, rfl, rfl, isList_of e, Int.natCast_nonneg _, by omega, by simp only [Int.toNat_natCast, List.getElem?_toArray, List.getElem?_map, hTb, Option.map_some], ?_⟩ hf hdz hcz) hf hdx hcx)))) hs hw
  refine spliced_more (sub_at (nm_var Vx (nm_var Vy ⟨Fa, _, _, t, .ref Ta, rfl, rfl, isList_of e, Int.natCast_nonneg _, by omega, by simp only [Int.toNat_natCast, List.getElem?_toArray, List.getElem?_map, hTa, Option.map_some], ?_⟩ hf hdy hcy) hf hdx hcx))
  refine spliced_none (wpAny_newObj_type ?_ (by show (2 : Nat) ≤ sizeLine; rw [PySem.sizeLine_eq]; decide))
  generalize hH : s.heap.push { cls := Value.type "tuple", dict := none, data := Data.seq [Value.ref Tb, Value.ref Ta].toArray } = H
  have u₁ : ∀ c o, s.heap.get? c = some o → H.get? c = some o := fun c o e => hH ▸ Heap.get?_push_of_some _ e
  refine wpAny_assign_Tuple (t := s.heap.objs.size) (items := #[.ref Tb, .ref Ta]) hA ⟨_, by rw [← hH]; exact Heap.get?_push_size _ rfl, rfl, _, rfl⟩ rfl rfl fun h₂ hx₂ => ?_
  have u₂ : ∀ c o, s.heap.get? c = some o → h₂.get? c = some o := fun c o e => hx₂ c o (Nat.ne_of_lt (Heap.lt_size (u₁ c o e))) (u₁ c o e)
  have e₂ := u₂ _ _ e
  show wpAny _ _ (assignInOrder [fun v => assign (.Subscript (.Name x q1) (.Name y q2) p1) env v, fun v => assign (.Subscript (.Name x q3) (.Name z q4) p2) env v] [.ref Tb, .ref Ta]) _ _ _
  refine wpAny_assignInOrder_more (kas_sub (nm_var (Vx.keeps u₂) (nm_var (Vy.keeps u₂) ?_ hf hdy hcy) hf hdx hcx))
  refine ki_setAt e₂ (Int.natCast_nonneg _) (by omega) (by rw [List.size_toArray, List.length_map, hl]; omega) ?_
  have s₃ := Heap.SameBut.update h₂ Fa (Obj.mapSeq fun x_1 => x_1.setIfInBounds (a : Int).toNat (Value.ref Tb))
  have e₃ := PySem.IsL.update e₂ fun x_1 => x_1.setIfInBounds (a : Int).toNat (Value.ref Tb)
  have r₃ : (List.map Value.ref Ts).toArray.setIfInBounds (a : Int).toNat (Value.ref Tb) = ((List.map Value.ref Ts).set a (Value.ref Tb)).toArray := by
    apply Array.toList_inj.mp; simp
  rw [r₃, if_pos (by simp)] at e₃
  generalize h₂.update Fa (Obj.mapSeq fun x_1 => x_1.setIfInBounds (a : Int).toNat (Value.ref Tb)) = h₃ at s₃ e₃ ⊢
  refine wpAny_assignInOrder_more (kas_sub (nm_var ((Vx.keeps u₂).offList e₂ s₃.extBut) (nm_var ((Vz.keeps u₂).offList e₂ s₃.extBut) ?_ hf hdz hcz) hf hdx hcx))
  refine ki_setAt e₃ (Int.natCast_nonneg _) (by omega) (by rw [List.size_toArray, List.length_set, List.length_map, hl]; omega) ?_
  have s₄ := Heap.SameBut.update h₃ Fa (Obj.mapSeq fun x_1 => x_1.setIfInBounds (b : Int).toNat (Value.ref Ta))
  have e₄ := PySem.IsL.update e₃ fun x_1 => x_1.setIfInBounds (b : Int).toNat (Value.ref Ta)
  have r₄ : ((List.map Value.ref Ts).set a (Value.ref Tb)).toArray.setIfInBounds (b : Int).toNat (Value.ref Ta) = (((List.map Value.ref Ts).set a (Value.ref Tb)).set b (Value.ref Ta)).toArray := by
    apply Array.toList_inj.mp; simp
  rw [r₄, if_pos (by simp)] at e₄
  refine wpAny_assignInOrder_none ?_
  have u₄ : ∀ c o, c ≠ Fa → s.heap.get? c = some o → (h₃.update Fa (Obj.mapSeq fun x_1 => x_1.setIfInBounds (b : Int).toNat (Value.ref Ta))).get? c = some o := fun c o hc e => s₄.extBut c o hc (s₃.extBut c o hc (u₂ c o e))
  refine h _ _ _ (M.swap ha hb Ta Tb hTa hTb e₄ u₄) (fun T hT => ?_) u₄
  rcases List.mem_or_eq_of_mem_set hT with hT | rfl
  · rcases List.mem_or_eq_of_mem_set hT with hT | rfl
    · exact hT
    · exact List.mem_of_getElem? hTb
  · exact List.mem_of_getElem? hTa
end
end Mine

namespace Mine
open PySem PySem.W PyProof.Rows PySem.Calls PySem.Spec
theorem kf_det : (fun (_ : Params → Frag) (_ : OpenLaw) => True) Mine.hd.heap_39 PySem.Challenge.rw_sa0072_01 := by
  k_fill
  trivial


/-- the same frame elsewhere -/
abbrev FR.like {h₀ h : Heap} {env : Env} {m cm : Str → Option Value} (_ : FR h₀ env m cm h) (m' : Str → Option Value) (h' : Heap) : Prop := FR h₀ env m' cm h'
theorem if_join {M : Model} {A : Around} {E : Value → Shared → Prop} {s : Shared} {env : Env} {b : Bool} {body : List Stmt} {Q : Flow → Shared → Prop} (P : Shared → Prop) (h1 : b = true → wpAny M A (execs body env) (fun f s' => f = .next ∧ P s') E s) (h2 : b = false → P s) (h : ∀ s', P s' → Q .next s') :
    if b = true then wpAny M A (execs body env) Q E s else wpAny M A (execs [] env) Q E s := by
  cases hb : b with
  | true => rw [if_pos rfl]; exact wpAny_mono (h1 hb) (fun f s' hf => by rw [hf.1]; exact h s' hf.2) fun _ _ e => e
  | false => rw [if_neg Bool.false_ne_true]; exact wpAny_execs_nil (h s (h2 hb))

section
variable {prog : Program} {w : World} {A : Around} {s : Shared} {mg mb : Str → Option Value} {loose : List Str}
set_option maxHeartbeats 8000000 in
set_option maxRecDepth 100000 in
theorem det_spec {R : Result → Shared → Prop} {v : Value} {n : Nat} {f : Nat → Nat → Int} {D : Int} (Inv : Nat → (Nat → Nat → Int) → Int → Int → Prop) (G : GT w mg mb loose s.heap) (hA : A.handled = none) (hroom : A.depth + 2 < recursionLimit) (hun : A.units + 100 < cLine)
    (M : MatF s.heap v n n f) (hn : n ≤ 100)
    (h0 : Inv 0 f 1 1) (hz : ∀ st g sg ah, st < n → Inv st g sg ah → (∀ i, st ≤ i → i < n → g i st = 0) → D = 0)
    (hstep : ∀ st g sg ah row, st < n → Inv st g sg ah → st ≤ row → row < n → g row st ≠ 0 → Inv (st + 1) (elim (swapR g row st) st ah) (if row = st then sg else -sg) (g row st))
    (hbd : ∀ st g sg ah, st ≤ n → Inv st g sg ah → ah ≠ 0 ∧ -(2 ^ 62) ≤ ah ∧ ah ≤ 2 ^ 62 ∧ (sg = 1 ∨ sg = -1) ∧ ∀ i j, i < n → j < n → -(2 ^ 62) ≤ g i j ∧ g i j ≤ 2 ^ 62)
    (hfin : ∀ g sg ah, Inv n g sg ah → sg * ah = D)
    (h : ∀ t h' tk', (∀ a o, s.heap.get? a = some o → h'.get? a = some o) → R (.ok (.ret (.int D t))) { s with heap := h', toks := tk' }) :
    codeAny (model prog w) A (.call (.ref 53) ⟨[v], []⟩) R s := by
  refine' enter [(Str.ofString "a", v)] (fun _ => none) (upd (fun _ => none) (Str.ofString "a") v) G ?ho ?hcd (by omega) ?hb ?hk ?hm ?hcm ?_ ?c1 ?c2 ?c3
  case ho => k_is
  case hcd => k_is
  case hb => exact rfl
  case hk => exact kindsX rfl
  case hm => exact fun _ => rfl
  case hcm => exact fun _ => rfl
  case c1 => exact rfl
  case c2 => exact rfl
  case c3 => exact rfl
  intro L h₁ tk₁ E' hL F
  have Va := F.cel (x := Str.ofString "a") (v := v) (c := L + 1) rfl rfl rfl
  have M₁ := M.keeps F.keep
  have G₁ := G.keeps F.keep
  refine wpAny_execs_cons (wpAny_If (wpAny_isTrue_Compare1 ?_))
  refine listComp (cl := [(Str.ofString "a", L + 1)]) false NoMut (fun _ => True) (fun _ _ oo => oo = none) rfl rfl (by decide) (fun _ _ _ q => q.elim) (fun _ _ _ _ => trivial) ?_
  refine nm_var Va ?_
  obtain ⟨Aa, rs, k, hv, e2, e3, e4⟩ := id M₁
  subst hv
  refine comp_list (by exact hA) ⟨_, _, rfl⟩ (isList_of e2) (fun _ _ e => e) (fun q => q) (fun _ q => q.elim) (fun _ _ _ _ => trivial) trivial (by rw [List.size_toArray, e3, PySem.sizeLine_eq]; omega) (fun H C Top _ _ _ => .one (.loc rfl)) ?_ ?_
  · intro C i y s₃ E'' hi Vr hk _
    have G₃ := G₁.keeps fun a o e => hk a o (fun q => q) e
    have ca := (F.cell (Str.ofString "a") (L + 1) rfl).keeps fun a o e => hk a o (fun q => q) e
    obtain ⟨T, hT, vs, k', r1, r2, r3⟩ := e4 i (by rw [← e3]; exact (Array.getElem?_eq_some_iff.mp hi).1)
    have hy : y = .ref T := by rw [List.getElem?_toArray] at hi; rw [hi] at hT; exact Option.some.inj hT
    subst hy
    refine wpAny_tests_one (wpAny_isTrue_Compare1 (call_blt G₃ n_len b_len (spliced_more (nm_var Vr (spliced_none ?_)))))
    refine len_list (isList_of (hk _ _ (fun q => q) r1)) (by rw [List.size_toArray, r2]; omega) ?_
    rw [List.size_toArray, r2]
    refine call_blt G₃ n_len b_len (spliced_more (nm_var (.cell (L + 1) (by exact .inl rfl) (by rfl) ca) (spliced_none ?_)))
    refine len_list (isList_of (hk _ _ (fun q => q) e2)) (by rw [List.size_toArray, e3]; omega) ?_
    rw [List.size_toArray, e3]
    refine ne_int (wpAny_truthy_bool ⟨by simp, ⟨_, _, rfl, Up.refl⟩, trivial, fun q => by cases q⟩)
  · intro D₀ h₂ tk₂ ys hys mk₂ _ k₂
    have hys' : ys = [] := by
      rw [if_neg Bool.false_ne_true] at hys
      exact List.length_eq_zero_iff.mp hys
    subst hys'
    have u₂ : ∀ a o, h₁.get? a = some o → h₂.get? a = some o := fun a o e => k₂ a o (fun q => q) e
    refine List_ (spliced_none (wpAny_newList ?_))
    generalize hH : h₂.push { cls := Value.type "list", dict := none, data := Data.seq ([] : List Value).toArray } = H
    have u₃ : ∀ a o, h₂.get? a = some o → H.get? a = some o := fun a o e => hH ▸ Heap.get?_push_of_some _ e
    refine ne_intsK (ns := []) (ms := []) (vs := []) (us := []) ⟨_, u₃ _ _ mk₂.at_, rfl, _, rfl⟩ .nil ⟨_, by rw [← hH]; exact Heap.get?_push_size _ rfl, rfl, _, rfl⟩ .nil (by show A.units + 3 + 64 < cLine; omega) ?_
    refine wpAny_truthy_bool ?_
    rw [if_neg (by simp)]
    refine wpAny_execs_nil ?_
    have F₃ := F.keeps fun a o e => u₃ a o (u₂ a o e)
    have M₃ := M₁.keeps fun a o e => u₃ a o (u₂ a o e)
    have G₃ := G.keeps F₃.keep
    have Va₃ := F₃.cel (x := Str.ofString "a") (v := .ref Aa) (c := L + 1) rfl rfl rfl
    clear Va hL
    clear F M₁ G₁ e2 e3 e4 mk₂ k₂ u₂ u₃ hH
    obtain ⟨rs, k, e2, e3, e4⟩ : ∃ rs k, H.get? Aa = some (PySem.W.listOf (List.toArray rs) k) ∧ rs.length = n ∧ ∀ i, i < n → ∃ T, rs[i]? = some (Value.ref T) ∧ RowF H T n (f i) := by
      obtain ⟨A', rs, k, hv, e2, e3, e4⟩ := M₃
      cases hv; exact ⟨rs, k, e2, e3, e4⟩
    -- found, sign, ahead = [list(row) for row in a], 1, 1
    refine wpAny_execs_cons (Assign_Tuple_swapped (names := [Str.ofString "found", Str.ofString "sign", Str.ofString "ahead"]) ?_)
    refine Tuple_ (spliced_more ?_)
    refine listComp (cl := []) true NoMut (fun _ => True) (YRow n f) rfl rfl (by decide) (fun _ _ _ q => q.elim) (fun _ _ _ _ => trivial) ?_
    refine nm_var Va₃ ?_
    refine comp_list (by exact hA) ⟨_, _, rfl⟩ (isList_of e2) (fun _ _ e => e) (fun q => q) (fun _ q => q.elim) (fun _ _ _ _ => trivial) trivial (by rw [List.size_toArray, e3, PySem.sizeLine_eq]; omega) (fun H C Top _ _ _ => .one (.loc rfl)) ?_ ?_
    · intro C i y s₃ E'' hi Vr hk _
      have G₄ := G₃.keeps fun a o e => hk a o (fun q => q) e
      obtain ⟨T, hT, vs, k', r1, r2, r3⟩ := e4 i (by rw [← e3]; exact (Array.getElem?_eq_some_iff.mp hi).1)
      have hy : y = .ref T := by rw [List.getElem?_toArray] at hi; rw [hi] at hT; exact Option.some.inj hT
      subst hy
      refine TurnOk.plain trivial ?_
      refine call_type G₄ n_list b_list (spliced_more (nm_var Vr (spliced_none ?_)))
      refine call_list_seq T (.inl rfl) (hk _ _ (fun q => q) r1) rfl rfl (fun h' c' hk' hD => ?_) (by rw [List.size_toArray, r2, PySem.sizeLine_eq]; omega)
      refine ⟨⟨h', s₃.toks, rfl, Up.of hk'⟩, trivial, some (PySem.W.listOf (List.toArray vs) c'), ⟨_, vs, c', rfl, rfl, r2, r3⟩, fun o ho => ⟨_, rfl, ?_, by cases ho; exact hD⟩⟩
      cases q : s₃.heap.get? s₃.heap.objs.size with
      | none => rfl
      | some o => exact absurd (Heap.lt_size q) (Nat.lt_irrefl _)
    · intro D₁ h₄ tk₄ ys hys mk₄ _ k₄
      rw [if_pos rfl, List.size_toArray, e3] at hys
      have u₄ : ∀ a o, H.get? a = some o → h₄.get? a = some o := fun a o e => k₄ a o (fun q => q) e
      obtain ⟨Ts, MM, hTs⟩ := made_mut mk₄ hys
      have hD₁ := mk₄.fresh
      refine spliced_more (wpAny_Constant_int (spliced_more (wpAny_Constant_int (spliced_none ?_))))
      refine wpAny_newObj_type ?_ (by show (3 : Nat) ≤ sizeLine; rw [PySem.sizeLine_eq]; decide)
      refine wpAny_unpackItems_tuple (items := #[.ref D₁, .int 1 _, .int 1 _]) (by exact hA) ⟨_, Heap.get?_push_size _ rfl, rfl, _, rfl⟩ fun h₅ hx₅ => ?_
      have u₅ : ∀ a o, h₄.get? a = some o → h₅.get? a = some o := fun a o e => hx₅ a o (Nat.ne_of_lt (Heap.lt_size (Heap.get?_push_of_some _ e))) (Heap.get?_push_of_some _ e)
      have F₅ := F₃.keeps fun a o e => u₅ a o (u₄ a o e)
      have MM₅ := MM.keeps fun a _ o e => u₅ a o e
      refine wpAny_assignInOrder_more (wpAny_bindName (st_loc F₅ rfl rfl fun h₆ F₆ hs₆ => ?_))
      refine wpAny_assignInOrder_more (wpAny_bindName (st_loc F₆ rfl rfl fun h₇ F₇ hs₇ => ?_))
      refine wpAny_assignInOrder_more (wpAny_bindName (st_loc F₇ rfl rfl fun h₈ F₈ hs₈ => ?_))
      refine wpAny_assignInOrder_none ?_
      have aliveL : ∃ o, H.get? L = some o := by obtain ⟨o, _, _, e, _⟩ := F₃.ns; exact ⟨o, e⟩
      have aliveC : ∃ o, H.get? (L + 1) = some o := by obtain ⟨o, e, _⟩ := F₃.cell (Str.ofString "a") (L + 1) rfl; exact ⟨o, e⟩
      have own : ∀ a, (a = D₁ ∨ a ∈ Ts) → H.get? a = none := fun a ha => ha.elim (fun q => q ▸ hD₁) (hTs a)
      have ownL : ∀ a, (a = D₁ ∨ a ∈ Ts) → a ≠ L := fun a ha q => by obtain ⟨o, e⟩ := aliveL; rw [← q, own a ha] at e; cases e
      have ownC : ∀ a, (a = D₁ ∨ a ∈ Ts) → a ≠ L + 1 := fun a ha q => by obtain ⟨o, e⟩ := aliveC; rw [← q, own a ha] at e; cases e
      have ownS : ∀ a o, s.heap.get? a = some o → ¬ (a = D₁ ∨ a ∈ Ts) := fun a o e ha => by have := F₃.keep a o e; rw [own a ha] at this; cases this
      have cellsL : ∀ n c, List.lookup n (cellsFrom (L + 1) [(Str.ofString "a", NameKind.cell)] []) = some c → c = L + 1 := fun n c e => by
        have e' : List.lookup n [(Str.ofString "a", L + 1)] = some c := e
        rw [List.lookup_cons] at e'
        split at e'
        · exact (Option.some.inj e').symm
        · cases e'
      have MM₈ := MM₅.keeps fun a ha o e => hs₈.extBut a o (ownL a ha) (hs₇.extBut a o (ownL a ha) (hs₆.extBut a o (ownL a ha) e))
      have G₈ := G.keeps F₈.keep
      have Va₈ := F₈.cel (x := Str.ofString "a") (v := .ref Aa) (c := L + 1) rfl rfl rfl
      clear Va₃
      refine wpAny_execs_cons (for_at ?_)
      refine call_type G₈ n_range b_range (spliced_more (call_blt G₈ n_len b_len (spliced_more (nm_var Va₈ (spliced_none ?_)))))
      have e2₈ : h₈.get? Aa = some (PySem.W.listOf (List.toArray rs) k) := by
        have q : ∀ a o, a ≠ L → H.get? a = some o → h₈.get? a = some o := fun a o hL e => hs₈.extBut a o hL (hs₇.extBut a o hL (hs₆.extBut a o hL (u₅ a o (u₄ a o e))))
        refine q Aa _ (fun r => ?_) e2
        obtain ⟨o, es, ep, eL, dL, _⟩ := F₃.ns
        have eL' : H.get? L = some o := eL
        rw [← r, e2] at eL'; cases eL'; cases dL
      refine len_list (isList_of e2₈) (by rw [List.size_toArray, e3]; omega) ?_
      rw [List.size_toArray, e3]
      refine spliced_none (range_iter1 (by omega) fun I h₉ tk₉ k₉ hI st₉ => ?_)
      have O := F₈.off hI
      have ownI : ∀ a, (a = D₁ ∨ a ∈ Ts) → a ∉ [I] := fun a ha q => by
        have hI' : h₈.get? I = none := hI
        have al : ∃ o, h₈.get? a = some o := by
          rcases ha with rfl | ha
          · obtain ⟨k, e⟩ := MM₈.top; exact ⟨_, e⟩
          · obtain ⟨j, hj, rfl⟩ := List.getElem_of_mem ha
            obtain ⟨vs, k, e, _⟩ := MM₈.row j (by rw [← MM.len]; exact hj) _ (List.getElem?_eq_getElem hj)
            exact ⟨_, e⟩
        obtain ⟨o, e⟩ := al
        rw [List.mem_singleton.mp q, hI'] at e; cases e
      refine ForAt.mk (fun i s' => ∃ h' tk' m g sg ah tg th Ts', s' = { s with heap := h', toks := tk' } ∧ F₈.like m h' ∧ m (Str.ofString "found") = some (.ref D₁) ∧ m (Str.ofString "sign") = some (.int sg tg) ∧ m (Str.ofString "ahead") = some (.int ah th) ∧
          MutM h' D₁ Ts' n g ∧ (∀ T ∈ Ts', T ∈ Ts) ∧ Inv i g sg ah) (iter_range (by exact hA) I 0 n) st₉
        ⟨h₉, _, _, f, 1, 1, _, _, Ts, rfl, F₈.keeps k₉, rfl, rfl, rfl, MM₈.keeps fun a _ o e => k₉ a o e, fun T hT => hT, h0⟩ ?_ ?_ ?_
      · rintro i s₁ h' tk' ⟨h₁', tk₁', m, g, sg, ah, tg, th, Ts', rfl, F', mf, ms, mh, M', sub, inv⟩ v
        exact ⟨h', tk', m, g, sg, ah, tg, th, Ts', rfl, F'.but O v, mf, ms, mh, M'.keeps fun a ha o e => v a o (ownI a (ha.imp id (sub a))) e, sub, inv⟩
      · rintro i vs s₃ E'' hi ⟨x, rfl, t', rfl⟩ _ ⟨h10, tk10, m, g, sg, ah, tg, th, Ts', rfl, F10, mf, ms, mh, M10, sub, inv⟩ al
        obtain ⟨hah, ha1, ha2, hsg, hgb⟩ := hbd i g sg ah (Nat.le_of_lt hi) inv
        refine st_loc F10 rfl rfl fun h11 F11 hs11 => ?_
        rw [show ((0 : Int) + (i : Int) * 1) = (i : Int) by omega] at F11
        have M11 := M10.keeps fun a ha o e => hs11.extBut a o (ownL a (ha.imp id (sub a))) e
        have G11 := G.keeps F11.keep
        have Vf := F11.loc (x := Str.ofString "found") (v := .ref D₁) rfl mf
        have Vst := F11.loc (x := Str.ofString "step") (v := .int (i : Int) t') rfl rfl
        refine wpAny_execs_cons (wpAny_Assign_Name (call_def G11 n_pivot lk41 (spliced_more (nm_var Vf (spliced_more (nm_var Vst (spliced_none ⟨G11, ?_⟩)))))))
        refine pivot_spec G11 (by exact hA) (by show A.depth + 1 < recursionLimit; omega) M11.mat hi hn (fun row tr h12 tk12 hr1 hr2 hne hzr k12 => ?_) (fun h12 tk12 hzr k12 => ?_)
        · refine st_loc (F11.keeps k12) rfl rfl fun h13 F13 hs13 => ?_
          have M13 := (M11.keeps fun a _ o e => k12 a o e).keeps fun a ha o e => hs13.extBut a o (ownL a (ha.imp id (sub a))) e
          have Vr := F13.loc (x := Str.ofString "row") (v := .int (row : Int) tr) rfl rfl
          have Vst := F13.loc (x := Str.ofString "step") (v := .int (i : Int) t') rfl rfl
          have Vf := F13.loc (x := Str.ofString "found") (v := .ref D₁) rfl mf
          have Vsg := F13.loc (x := Str.ofString "sign") rfl ms
          have hI3 : ∀ o, h10.get? I = some o → h13.get? I = some o := fun o e => hs13.extBut I o (Ne.symm O.L) (k12 I o (hs11.extBut I o (Ne.symm O.L) e))
          refine wpAny_execs_cons (wpAny_If (wpAny_isTrue_Compare1 (nm_var Vr (wpAny_pure (is_int_none (wpAny_truthy_bool ?_))))))
          rw [if_neg Bool.false_ne_true]
          refine wpAny_execs_nil ?_
          refine wpAny_execs_cons (wpAny_If (wpAny_isTrue_Compare1 (nm_var Vr (nm_var Vst (ne_int (wpAny_truthy_bool ?_))))))
          refine if_join (fun s' => ∃ h' tk' m' sg' tg' Ts'', s' = { s with heap := h', toks := tk' } ∧ F13.like m' h' ∧ m' (Str.ofString "found") = some (.ref D₁) ∧ m' (Str.ofString "sign") = some (.int sg' tg') ∧ m' (Str.ofString "ahead") = some (.int ah th) ∧ m' (Str.ofString "step") = some (.int (i : Int) t') ∧
            MutM h' D₁ Ts'' n (swapR g row i) ∧ (∀ T ∈ Ts'', T ∈ Ts) ∧ sg' = (if row = i then sg else -sg) ∧ ∀ o, h10.get? I = some o → h'.get? I = some o) (fun hb => ?_) (fun hb => ?_) ?_
          · have hri : row ≠ i := fun q => by rw [q] at hb; simp at hb
            refine wpAny_execs_cons (swap_rows (by exact hA) Vf Vr Vst M13 hr2 hi hn (fun h14 tk14 Ts14 M14 sub14 u14 => ?_) rfl (by decide) (by decide) (by decide) (by decide) (by decide) (by decide) rfl rfl)
            have F14 := F13.up (Mut := fun a => a = D₁) (fun a o hne e => u14 a o hne e) (fun q => ownL D₁ (.inl rfl) q.symm) (fun n c e q => ownC D₁ (.inl rfl) (q ▸ cellsL n c e)) (fun a o e q => ownS a o e (.inl q))
            have Vsg14 := F14.loc (x := Str.ofString "sign") rfl ms
            refine wpAny_execs_cons (wpAny_Assign_Name (UnaryOp_ (nm_var Vsg14 (neg_int (st_loc F14 rfl rfl fun h15 F15 hs15 => ?_)))))
            refine wpAny_execs_nil ⟨rfl, h15, _, _, _, _, Ts14, rfl, F15, mf, rfl, mh, rfl, M14.keeps fun a ha o e => hs15.extBut a o (ownL a (ha.imp id fun q => sub a (sub14 a q))) e, fun T hT => sub T (sub14 T hT), by rw [if_neg hri], fun o e => ?_⟩
            exact hs15.extBut I o (Ne.symm O.L) (u14 I o (fun q => ownI D₁ (.inl rfl) (List.mem_singleton.mpr q.symm)) (hI3 o e))
          · have hri : row = i := by
              have : (row : Int) = (i : Int) := by simpa using hb
              omega
            subst hri
            exact ⟨h13, _, _, _, _, Ts', rfl, F13, mf, ms, mh, rfl, M13.congr fun a b _ _ => by rw [swapR_self], sub, by rw [if_pos rfl], hI3⟩
          · rintro s' ⟨h14, tk14, m14, sg14, tg14, Ts14, rfl, F14, mf14, ms14, mh14, mst14, M14, sub14, hsg14, hI14⟩
            have G14 := G.keeps F14.keep
            have Vf := F14.loc (x := Str.ofString "found") rfl mf14
            have Vst := F14.loc (x := Str.ofString "step") rfl mst14
            have Vh := F14.loc (x := Str.ofString "ahead") rfl mh14
            have hgb' : ∀ a b, a < n → b < n → -(2 ^ 62) ≤ swapR g row i a b ∧ swapR g row i a b ≤ 2 ^ 62 := fun a b ha hb => by
              unfold swapR
              split
              · exact hgb _ _ hi hb
              · split
                · exact hgb _ _ hr2 hb
                · exact hgb _ _ ha hb
            refine wpAny_execs_cons (wpAny_Expr (call_def G14 n_step lk48 (spliced_more (nm_var Vf (spliced_more (nm_var Vst (spliced_more (nm_var Vh (spliced_none ⟨G14, ?_⟩)))))))))
            refine step_spec (B := s.heap) G (by exact hA) (by show A.depth + 1 < recursionLimit; omega) (fun a o e => ⟨F14.keep a o e, fun q => ownS a o e (.inr (sub14 a q))⟩) M14 hi hn hah ha1 ha2 hgb' fun h15 tk15 M15 u15 => ?_
            have F15 := F14.up (Mut := fun a => a ∈ Ts14) (fun a o hne e => u15 a o hne e) (fun q => ownL _ (.inr (sub14 _ q)) rfl) (fun n c e q => ownC c (.inr (sub14 c q)) (cellsL n c e)) (fun a o e q => ownS a o e (.inr (sub14 a q)))
            have Vf := F15.loc (x := Str.ofString "found") rfl mf14
            have Vst := F15.loc (x := Str.ofString "step") rfl mst14
            refine wpAny_execs_cons (wpAny_Assign_Name (cell_at Vf Vst Vst M15.mat hi hi hn hn fun t15 => st_loc F15 rfl rfl fun h16 F16 hs16 => ?_))
            have hel : elim (swapR g row i) i ah i i = g row i := by
              unfold elim swapR
              rw [if_pos (Nat.le_refl _)]
              by_cases q : i = row
              · rw [if_pos q]; rw [q]
              · rw [if_neg q, if_pos rfl]
            rw [hel] at F16
            refine wpAny_execs_nil ⟨fun a ha o e => ?_, h16, _, _, _, sg14, _, _, _, Ts14, rfl, F16, mf14, ms14, rfl, M15.keeps fun a ha o e => hs16.extBut a o (ownL a (ha.imp id (sub14 a))) e, sub14, ?_⟩
            · obtain rfl := List.mem_singleton.mp ha
              exact hs16.extBut _ o (Ne.symm O.L) (u15 _ o (fun q => ownI _ (.inr (sub14 _ q)) (List.mem_singleton.mpr rfl)) (hI14 o e))
            · rw [hsg14]
              exact hstep i g sg ah row hi inv hr1 hr2 hne
        · refine st_loc (F11.keeps k12) rfl rfl fun h13 F13 hs13 => ?_
          have Vr := F13.loc (x := Str.ofString "row") (v := .none) rfl rfl
          refine wpAny_execs_cons (wpAny_If (wpAny_isTrue_Compare1 (nm_var Vr (wpAny_pure (is_none_none (wpAny_truthy_bool ?_))))))
          rw [if_pos rfl]
          refine wpAny_execs_cons (wpAny_Return_some (wpAny_Constant_int ?_))
          have := h s.toks h13 (tk12 + 1 + 1) F13.keep
          rw [hz i g sg ah hi inv hzr] at h
          exact h _ h13 _ F13.keep
      · rintro s₃ ⟨h10, tk10, m, g, sg, ah, tg, th, Ts', rfl, F10, mf, ms, mh, M10, sub, inv⟩
        have Vs := F10.loc (x := Str.ofString "sign") rfl ms
        have Vh := F10.loc (x := Str.ofString "ahead") rfl mh
        obtain ⟨_, _, _, hsg, _⟩ := hbd n g sg ah (Nat.le_refl _) inv
        refine wpAny_execs_cons (wpAny_Return_some (wpAny_BinOp (nm_var Vs (nm_var Vh (mul_int ?_ (mulOk (by omega) (by omega)))))))
        rw [hfin g sg ah inv]
        exact h _ h10 _ F10.keep
end
end Mine

namespace Mine
open PySem PySem.W PyProof.Rows PySem.Calls PySem.Spec
theorem kf_times : (fun (_ : Params → Frag) (_ : OpenLaw) => True) Mine.hd.heap_39 PySem.Challenge.rw_sa0072_01 := by
  k_fill
  trivial

theorem pushCells_size : ∀ (names : List (Str × NameKind)) (h : Heap), (pushCells h names).objs.size = h.objs.size + (names.filter fun p => p.2 == .cell).length
  | [], h => rfl
  | (x, k) :: r, h => by
    unfold pushCells
    by_cases q : (k == .cell) = true
    · rw [if_pos q, pushCells_size r, Heap.size_push, List.filter_cons_of_pos (by exact q), List.length_cons]; omega
    · rw [if_neg q, pushCells_size r, List.filter_cons_of_neg (by exact q)]
theorem top_of {H : Heap} {C Top : Nat} {names : List (Str × NameKind)} (h2 : (pushCells ((H.push (lst [])).push { cls := .type "dict", data := .dict #[] }) names).objs.size = Top) (h3 : C = H.objs.size + 1) (hc : (names.filter fun p => p.2 == .cell).length = 1) : C + 1 < Top := by
  rw [← h2, pushCells_size, hc, Heap.size_push, Heap.size_push, h3]; exact Nat.lt_succ_self _

theorem VarIs.pass {h : Heap} {env env' : Env} {x : Str} {v : Value} {c : Addr} (V : VarIs h env x v) (hk : env.kindOf x = some .cell ∨ env.kindOf x = some .free) (hc : env.cells.lookup x = some c) (hk' : env'.kindOf x = some .cell ∨ env'.kindOf x = some .free) (hc' : env'.cells.lookup x = some c) : VarIs h env' x v := by
  cases V with
  | loc m a b d => rw [a] at hk; rcases hk with q | q <;> cases q
  | cell c' a b d => rw [hc] at b; cases b; exact .cell c hk' hc' d

/-- sum of the first n -/
def isum : Nat → (Nat → Int) → Int
  | 0, _ => 0
  | n + 1, g => isum n g + g n
theorem preSum_isum (g : Nat → Int) : ∀ n, preSum g n = isum n g := by
  intro n
  induction n with
  | zero => rfl
  | succ n ih => rw [isum, ← ih]; rfl

section
variable {prog : Program} {w : World} {A : Around} {E : Value → Shared → Prop} {s : Shared} {mg mb : Str → Option Value} {loose : List Str}

theorem sum_row {D : Addr} {n : Nat} {g : Nat → Int} {Q : Value → Shared → Prop} (hA : A.handled = none) (M : RowF s.heap D n g)
    (h : ∀ t h' tk', (∀ a o, s.heap.get? a = some o → h'.get? a = some o) → Q (.int (isum n g) t) { s with heap := h', toks := tk' }) :
    wpAny (model prog w) A (call (.builtin "sum") [.ref D]) Q E s := by
  obtain ⟨vs, k, e, hl, hv⟩ := M
  have hL := isList_of e
  have hlt := Heap.lt_size e
  refine call_sum_walkG (wpAny_pyIter_list hL ⟨s.heap.objs.size, _, _, _, _, _, g, rfl, Walks.list (by exact hA) _ D (Nat.ne_of_lt hlt) vs.toArray, ⟨⟨_, Heap.get?_push_size _ rfl, rfl, rfl⟩, hL.push _⟩, ?_, ?_, ?_⟩)
  · intro b hb
    show b < (s.heap.push _).objs.size
    rw [Heap.size_push]
    rcases List.mem_cons.mp hb with rfl | hb
    · exact Nat.lt_succ_self _
    · rw [List.mem_singleton.mp hb]; exact Nat.lt_succ_of_lt hlt
  · intro i v hi
    have hi' : vs[i]? = some v := by simpa using hi
    have hin : i < n := by rw [← hl]; exact (List.getElem?_eq_some_iff.mp hi').1
    obtain ⟨t, e'⟩ := hv i hin
    rw [hi'] at e'
    exact ⟨t, Option.some.inj e'⟩
  · intro h' tk t' hk
    rw [List.size_toArray, hl, preSum_isum]
    exact h t' h' tk fun a o e => hk a o (fun q => by rw [List.mem_singleton.mp q] at e; exact absurd (Heap.lt_size e) (Nat.lt_irrefl _)) (Heap.get?_push_of_some _ e)

set_option maxHeartbeats 8000000 in
set_option maxRecDepth 100000 in
theorem times_spec {R : Result → Shared → Prop} {va vb : Value} {r c d : Nat} {f g : Nat → Nat → Int} (G : GT w mg mb loose s.heap) (hA : A.handled = none) (hroom : A.depth < recursionLimit)
    (Ma : MatF s.heap va r c f) (Mb : MatF s.heap vb c d g) (hr : r ≤ 100) (hc : c ≤ 100) (hc1 : 1 ≤ c) (hd : d ≤ 100) (hb : ∀ i j, i < r → j < c → -(2 ^ 62) ≤ f i j ∧ f i j ≤ 2 ^ 62)
    (h : ∀ v h' tk', MatF h' v r d (fun i j => isum c fun k => f i k * g k j) → (∀ a o, s.heap.get? a = some o → h'.get? a = some o) → R (.ok (.ret v)) { s with heap := h', toks := tk' }) :
    codeAny (model prog w) A (.call (.ref 70) ⟨[va, vb], []⟩) R s := by
  refine' enter [(Str.ofString "a", va), (Str.ofString "b", vb)] (upd (fun _ => none) (Str.ofString "a") va) (upd (fun _ => none) (Str.ofString "b") vb) G ?ho ?hcd hroom ?hb ?hk ?hm ?hcm ?_ ?c1 ?c2 ?c3
  case ho => k_is
  case hcd => k_is
  case hb => exact rfl
  case hk => exact kindsX rfl
  case hm => exact fun _ => rfl
  case hcm => exact fun _ => rfl
  case c1 => exact rfl
  case c2 => exact rfl
  case c3 => exact rfl
  intro L h₁ tk₁ E' hL F
  have Va := F.loc (x := Str.ofString "a") (v := va) rfl rfl
  have cb := F.cell (Str.ofString "b") (L + 1) rfl
  refine wpAny_execs_cons (wpAny_Return_some ?_)
  refine listComp (cl := [(Str.ofString "b", L + 1)]) true NoMut (fun _ => True) (YRow d (fun i j => isum c fun k => f i k * g k j)) rfl rfl (by decide) (fun _ _ _ q => q.elim) (fun _ _ _ _ => trivial) ?_
  refine nm_var Va ?_
  obtain ⟨Aa, rs, k, hv, e2, e3, e4⟩ := Ma.keeps F.keep
  subst hv
  refine comp_list (by exact hA) ⟨_, _, rfl⟩ (isList_of e2) (fun _ _ e => e) (fun q => q) (fun _ q => q.elim) (fun _ _ _ _ => trivial) trivial (by rw [List.size_toArray, e3, PySem.sizeLine_eq]; omega)
    (fun H C Top _ h2 h3 => .one (.cell (C + 1) rfl rfl (Nat.lt_succ_self C) (top_of h2 h3 rfl))) ?_ ?_
  · intro C i y s₃ E'' hi Vr hk _
    have u₃ : ∀ a o, h₁.get? a = some o → s₃.heap.get? a = some o := fun a o e => hk a o (fun q => q) e
    have G₃ := G.keeps fun a o e => u₃ a o (F.keep a o e)
    have cb₃ := cb.keeps u₃
    have Mb₃ := Mb.keeps fun a o e => u₃ a o (F.keep a o e)
    have hir : i < r := by rw [← e3]; exact (Array.getElem?_eq_some_iff.mp hi).1
    obtain ⟨T, hT, R₁⟩ := e4 i hir
    have hy : y = .ref T := by rw [List.getElem?_toArray] at hi; rw [hi] at hT; exact Option.some.inj hT
    subst hy
    have R₃ := R₁.keeps u₃
    refine TurnOk.plain trivial ?_
    refine listComp (cl := _) true NoMut (fun _ => True) (YInt (fun j => isum c fun k => f i k * g k j)) rfl rfl (by decide) (fun _ _ _ q => q.elim) (fun _ _ _ _ => trivial) ?_
    refine call_type G₃ n_range b_range (spliced_more (call_blt G₃ n_len b_len (spliced_more (sub_at (nm_var (.cell (L + 1) (by exact .inl rfl) (by rfl) cb₃) (wpAny_Constant_int ?_))))))
    obtain ⟨Ab, rb, kb, hvb, f2, f3, f4⟩ := id Mb₃
    obtain ⟨T0, hT0, vs0, k0, q1, q2, q3⟩ := f4 0 hc1
    refine ⟨Ab, _, 0, _, .ref T0, hvb, rfl, isList_of f2, by omega, by omega, by simpa using hT0, ?_⟩
    refine spliced_none (len_list (isList_of q1) (by rw [List.size_toArray, q2]; omega) ?_)
    rw [List.size_toArray, q2]
    refine spliced_none (range_iter1 (by omega) fun I h₄ tk₄ k₄ hI st₄ => ?_)
    refine comp_range (a := 0) (by exact hA) ⟨_, _, rfl⟩ st₄ (fun a o e => ⟨k₄ a o e, fun q => by rw [q] at e; have hI' : s₃.heap.get? I = none := hI; rw [hI'] at e; cases e⟩) (fun q => q) trivial (by rw [PySem.sizeLine_eq]; omega)
      (fun H C Top _ h2 h3 => .one (.cell (C + 1) rfl rfl (Nat.lt_succ_self C) (top_of h2 h3 rfl))) ?_ ?_
    · intro C2 j t s₄ E3 hj Vc hk2 _
      have u₄ : ∀ a o, s₃.heap.get? a = some o → s₄.heap.get? a = some o := fun a o e => hk2 a o (fun q => q) e
      have G₄ := G₃.keeps u₄
      have cb₄ := cb₃.keeps u₄
      have R₄ := R₃.keeps u₄
      refine TurnOk.plain trivial ?_
      refine call_blt G₄ n_sum b_sum (spliced_more ?_)
      refine listComp (cl := _) true NoMut (fun _ => True) (YInt (fun k => f i k * g k j)) rfl rfl (by decide) (fun _ _ _ q => q.elim) (fun _ _ _ _ => trivial) ?_
      refine call_type G₄ n_enumerate b_enumerate (spliced_more (nm_var ((Vr.keeps u₄).pass (c := C + 1) (by exact .inl rfl) (by rfl) (by exact .inl rfl) (by rfl)) (spliced_none ?_)))
      obtain ⟨vs, kk, r1, r2, r3⟩ := R₄
      refine call_enumerate_list (isList_of r1) fun h₅ he hit hsz k₅ => ?_
      have ht := Heap.lt_size r1
      refine comp_enum (by exact hA) ⟨_, _, rfl⟩ he hit ((isList_of r1).at fun o e => k₅ _ o e) (Nat.succ_ne_self _) (Nat.ne_of_lt (Nat.lt_succ_of_lt ht)) (Nat.ne_of_lt ht)
        (fun a o e => ⟨k₅ a o e, Nat.ne_of_lt (Nat.lt_succ_of_lt (Heap.lt_size e)), Nat.ne_of_lt (Heap.lt_size e)⟩) ⟨fun q => q, fun q => q, fun q => q⟩ trivial (by rw [List.size_toArray, r2, PySem.sizeLine_eq]; omega)
        (fun H C Top _ h2 h3 => .two (.loc rfl) rfl (by decide) (.inl rfl)) ?_ ?_
      · intro C3 k t5 v5 s₅ E4 hi5 Vat Vone hk5 _
        have u₅ : ∀ a o, s₄.heap.get? a = some o → s₅.heap.get? a = some o := fun a o e => hk5 a o (fun q => q) e
        have hkc : k < c := by rw [← r2]; exact (Array.getElem?_eq_some_iff.mp hi5).1
        obtain ⟨tv, ev⟩ := r3 k hkc
        have hv5 : v5 = .int (f i k) tv := by rw [List.getElem?_toArray] at hi5; rw [hi5] at ev; exact Option.some.inj ev
        subst hv5
        refine TurnOk.plain trivial ?_
        refine wpAny_BinOp (nm_var Vone ?_)
        refine' cell_at (v := vb) (i := k) (j := j) (t := t5) (u := t) ?vb Vat ?vc (Mb₃.keeps fun a o e => u₅ a o (u₄ a o e)) hkc hj hc hd fun t6 => ?_
        case vb => exact .cell (L + 1) (.inl rfl) rfl (cb₄.keeps u₅)
        case vc =>
          have Vc' := Vc.keeps u₅
          rw [Nat.zero_add] at Vc'
          exact Vc'.pass (c := C2 + 1) (.inl rfl) rfl (.inl rfl) rfl
        exact mul_int ⟨⟨_, _, rfl, Up.refl⟩, trivial, none, ⟨rfl, _, rfl⟩, fun o ho => by cases ho⟩ (mulOk (hb i k hir hkc).1 (hb i k hir hkc).2)
      · intro D₂ h₆ tk₆ ys hys mk₆ _ k₆
        rw [if_pos rfl, List.size_toArray, r2] at hys
        refine spliced_none (sum_row (by exact hA) (made_ints mk₆ hys) fun t7 h₇ tk₇ k₇ => ?_)
        exact ⟨⟨h₇, tk₇, rfl, fun a o _ e => k₇ a o (k₆ a o (fun q => q) e)⟩, trivial, none, ⟨rfl, _, rfl⟩, fun o ho => by cases ho⟩
    · intro D₂ h₅ tk₅ ys hys mk₅ _ k₅
      rw [if_pos rfl] at hys
      obtain ⟨vs, q, z1, z2, z3⟩ := made_ints mk₅ hys
      exact ⟨⟨h₅, tk₅, rfl, k₅⟩, trivial, some (PySem.W.listOf (List.toArray vs) q), ⟨D₂, vs, q, rfl, rfl, z2, z3⟩, fun o ho => ⟨D₂, rfl, mk₅.fresh, by cases ho; exact z1⟩⟩
  · intro D₁ h₄ tk₄ ys hys mk₄ _ k₄
    rw [if_pos rfl, List.size_toArray, e3] at hys
    exact h _ h₄ tk₄ (made_rows mk₄ hys) fun a o e => k₄ a o (fun q => q) (F.keep a o e)
end
end Mine

namespace Mine
open PySem PySem.W PyProof.Rows PySem.Calls PySem.Spec
theorem kf_more : (fun (_ : Params → Frag) (_ : OpenLaw) => True) Mine.hd.heap_39 PySem.Challenge.rw_sa0072_01 := by
  k_fill
  trivial
section
variable {prog : Program} {w : World} {A : Around} {E : Value → Shared → Prop} {s : Shared} {mg mb : Str → Option Value} {loose : List Str}
set_option maxHeartbeats 8000000 in
set_option maxRecDepth 100000 in
theorem more_spec {R : Result → Shared → Prop} {va : Value} {r c : Nat} {f : Nat → Nat → Int} {num : Int} {tn : Tok} (G : GT w mg mb loose s.heap) (hA : A.handled = none) (hroom : A.depth < recursionLimit)
    (Ma : MatF s.heap va r c f) (hr : r ≤ 100) (hc : c ≤ 100)
    (h : ∀ v h' tk', MatF h' v r c (fun i j => f i j + if j = i then num else 0) → (∀ a o, s.heap.get? a = some o → h'.get? a = some o) → R (.ok (.ret v)) { s with heap := h', toks := tk' }) :
    codeAny (model prog w) A (.call (.ref 75) ⟨[va, .int num tn], []⟩) R s := by
  refine' enter [(Str.ofString "a", va), (Str.ofString "number", .int num tn)] (upd (fun _ => none) (Str.ofString "a") va) (upd (fun _ => none) (Str.ofString "number") (.int num tn)) G ?ho ?hcd hroom ?hb ?hk ?hm ?hcm ?_ ?c1 ?c2 ?c3
  case ho => k_is
  case hcd => k_is
  case hb => exact rfl
  case hk => exact kindsX rfl
  case hm => exact fun _ => rfl
  case hcm => exact fun _ => rfl
  case c1 => exact rfl
  case c2 => exact rfl
  case c3 => exact rfl
  intro L h₁ tk₁ E' hL F
  have Va := F.loc (x := Str.ofString "a") (v := va) rfl rfl
  have cb := F.cell (Str.ofString "number") (L + 1) rfl
  have G₁ := G.keeps F.keep
  refine wpAny_execs_cons (wpAny_Return_some ?_)
  refine listComp (cl := [(Str.ofString "number", L + 1)]) true NoMut (fun _ => True) (YRow c (fun i j => f i j + if j = i then num else 0)) rfl rfl (by decide) (fun _ _ _ q => q.elim) (fun _ _ _ _ => trivial) ?_
  refine call_type G₁ n_enumerate b_enumerate (spliced_more (nm_var Va (spliced_none ?_)))
  obtain ⟨Aa, rs, k, hv, e2, e3, e4⟩ := Ma.keeps F.keep
  subst hv
  refine call_enumerate_list (isList_of e2) fun h₂ he hit hsz k₂ => ?_
  have ht := Heap.lt_size e2
  refine comp_enum (by exact hA) ⟨_, _, rfl⟩ he hit ((isList_of e2).at fun o e => k₂ _ o e) (Nat.succ_ne_self _) (Nat.ne_of_lt (Nat.lt_succ_of_lt ht)) (Nat.ne_of_lt ht)
    (fun a o e => ⟨k₂ a o e, Nat.ne_of_lt (Nat.lt_succ_of_lt (Heap.lt_size e)), Nat.ne_of_lt (Heap.lt_size e)⟩) ⟨fun q => q, fun q => q, fun q => q⟩ trivial (by rw [List.size_toArray, e3, PySem.sizeLine_eq]; omega)
    (fun H C Top _ h2 h3 => .two (.cell (C + 1) rfl rfl (Nat.lt_succ_self C) (top_of h2 h3 rfl)) rfl (by decide) (.inr fun c e => ?_)) ?_ ?_
  · have e' : some (C + 1) = some c := e
    rw [← Option.some.inj e']; exact Nat.succ_ne_self C
  · intro C i t0 y s₃ E'' hi Vsp Vr hk _
    have u₃ : ∀ a o, h₁.get? a = some o → s₃.heap.get? a = some o := fun a o e => hk a o (fun q => q) e
    have G₃ := G₁.keeps u₃
    have hir : i < r := by rw [← e3]; exact (Array.getElem?_eq_some_iff.mp hi).1
    obtain ⟨T, hT, R₁⟩ := e4 i hir
    have hy : y = .ref T := by rw [List.getElem?_toArray] at hi; rw [hi] at hT; exact Option.some.inj hT
    subst hy
    have R₃ := R₁.keeps u₃
    refine TurnOk.plain trivial ?_
    refine listComp (cl := _) true NoMut (fun _ => True) (YInt (fun j => f i j + if j = i then num else 0)) rfl rfl (by decide) (fun _ _ _ q => q.elim) (fun _ _ _ _ => trivial) ?_
    refine call_type G₃ n_enumerate b_enumerate (spliced_more (nm_var Vr (spliced_none ?_)))
    obtain ⟨vs, kk, r1, r2, r3⟩ := R₃
    refine call_enumerate_list (isList_of r1) fun h₅ he5 hit5 hsz5 k₅ => ?_
    have ht5 := Heap.lt_size r1
    refine comp_enum (by exact hA) ⟨_, _, rfl⟩ he5 hit5 ((isList_of r1).at fun o e => k₅ _ o e) (Nat.succ_ne_self _) (Nat.ne_of_lt (Nat.lt_succ_of_lt ht5)) (Nat.ne_of_lt ht5)
      (fun a o e => ⟨k₅ a o e, Nat.ne_of_lt (Nat.lt_succ_of_lt (Heap.lt_size e)), Nat.ne_of_lt (Heap.lt_size e)⟩) ⟨fun q => q, fun q => q, fun q => q⟩ trivial (by rw [List.size_toArray, r2, PySem.sizeLine_eq]; omega)
      (fun H C Top _ h2 h3 => .two (.loc rfl) rfl (by decide) (.inl rfl)) ?_ ?_
    · intro C3 k t5 v5 s₅ E4 hi5 Vat Vone hk5 _
      have u₅ : ∀ a o, s₃.heap.get? a = some o → s₅.heap.get? a = some o := fun a o e => hk5 a o (fun q => q) e
      have hkc : k < c := by rw [← r2]; exact (Array.getElem?_eq_some_iff.mp hi5).1
      obtain ⟨tv, ev⟩ := r3 k hkc
      have hv5 : v5 = .int (f i k) tv := by rw [List.getElem?_toArray] at hi5; rw [hi5] at ev; exact Option.some.inj ev
      subst hv5
      refine TurnOk.plain trivial ?_
      refine wpAny_BinOp (nm_var Vone (IfExp_ (wpAny_isTrue_Compare1 (nm_var Vat (nm_var ((Vsp.keeps u₅).pass (c := C + 1) (by exact .inl rfl) (by rfl) (by exact .inl rfl) (by rfl)) (eq_int (wpAny_truthy_bool ?_)))))))
      by_cases q : k = i
      · subst q
        rw [if_pos (by simp)]
        refine nm_var (.cell (L + 1) (by exact .inl rfl) (by rfl) ((cb.keeps u₃).keeps u₅)) (add_int ?_)
        exact ⟨⟨_, _, rfl, Up.refl⟩, trivial, none, ⟨rfl, _, by dsimp only; rw [if_pos rfl]⟩, fun o ho => by cases ho⟩
      · rw [if_neg (by simp; omega)]
        refine wpAny_Constant_int (add_int ?_)
        exact ⟨⟨_, _, rfl, Up.refl⟩, trivial, none, ⟨rfl, _, by dsimp only; rw [if_neg q]⟩, fun o ho => by cases ho⟩
    · intro D₂ h₆ tk₆ ys hys mk₆ _ k₆
      rw [if_pos rfl, List.size_toArray, r2] at hys
      obtain ⟨vs, q, z1, z2, z3⟩ := made_ints mk₆ hys
      exact ⟨⟨h₆, tk₆, rfl, k₆⟩, trivial, some (PySem.W.listOf (List.toArray vs) q), ⟨D₂, vs, q, rfl, rfl, z2, z3⟩, fun o ho => ⟨D₂, rfl, mk₆.fresh, by cases ho; exact z1⟩⟩
  · intro D₁ h₄ tk₄ ys hys mk₄ _ k₄
    rw [if_pos rfl, List.size_toArray, e3] at hys
    exact h _ h₄ tk₄ (made_rows mk₄ hys) fun a o e => k₄ a o (fun q => q) (F.keep a o e)
end
end Mine

namespace Mine
open PySem PySem.W PyProof.Rows PySem.Calls PySem.Spec
theorem kf_take : (fun (_ : Params → Frag) (_ : OpenLaw) => True) Mine.hd.heap_39 PySem.Challenge.rw_sa0072_01 := by
  k_fill
  trivial

/-- the box: what is left of the script, and a count -/
structure BoxAt (bx scr : Addr) (h : Heap) : Prop where
  ne : bx ≠ scr
  box : ∃ k t e, h.get? bx = some (PySem.W.listOf (List.toArray [Value.ref scr, Value.int k t]) e)
  scr : ∃ vs ns e, h.get? scr = some (PySem.W.listOf (List.toArray vs) e) ∧ IntsAre vs ns ∧ vs.length ≤ 100

section
variable {prog : Program} {w : World} {A : Around} {E : Value → Shared → Prop} {s : Shared} {mg mb : Str → Option Value} {loose : List Str}
theorem pop0 {D : Addr} {y : Value} {rest : List Value} {n : Nat} {u : Tok} {Q : Value → Shared → Prop} (e : s.heap.get? D = some (PySem.W.listOf (List.toArray (y :: rest)) n)) (hz : (y :: rest).length ≤ 1000)
    (h : ∀ h', h'.get? D = some (PySem.W.listOf (List.toArray rest) (n + 1)) → Heap.SameBut D s.heap h' → Q y { s with heap := h' }) :
    wpAny (model prog w) A (call (.builtin "list.pop") [.ref D, .int 0 u]) Q E s := by
  have hk : seqIndex? 0 (List.toArray (y :: rest)).size = some 0 := by
    rw [List.size_toArray]; simp [seqIndex?]
  refine call_meets PySem.F.slot_list_pop ⟨_, e, rfl⟩ PySem.F.entry_list_pop (PySem.F.args_list_pop_2 _ _) (PySem.MeetsSeq.list_pop_at D _ n 0 u 0 y (by decide) hk (by simp) (by rw [List.size_toArray, PySem.sizeLine_eq]; omega)) ⟨e, h _ ?_ (Heap.SameBut.update ..)⟩
  refine (PySem.IsL.update e _).trans ?_
  have h1 : (List.toArray (y :: rest)).eraseIdxIfInBounds 0 = List.toArray rest := kl_erase [] rest y
  show some (PySem.W.listOf ((List.toArray (y :: rest)).eraseIdxIfInBounds 0) _) = _
  rw [h1, if_neg (by simp)]

theorem call_blt_with {bid : String} {p : Pos} {e : Expr} {rest : List Expr} {env : Env} {first : List Value} {Q : Value → Shared → Prop}
    (h : wpAny (model prog w) A (spliced (backTo p (starEach (e :: rest) env))) (fun vs s₁ => wpAny (model prog w) A (call (.builtin bid) (first ++ vs)) Q E s₁) E s)
    (he : starEach (e :: rest) env = (false, eval e env) :: starEach rest env := by rfl) (hplain : (backTo p (starEach rest env)).any (·.1) = false := by rfl) :
    wpAny (model prog w) A (callWith p (.builtin bid) first (backTo p (starEach (e :: rest) env)) []) Q E s := by
  rw [he] at h ⊢
  exact callWith_builtin (by show (false || (backTo p (starEach rest env)).any (·.1)) = false; rw [hplain]; rfl) (evalArgs_plain h)

theorem VarIs.offTwo {h h' : Heap} {env : Env} {x : Str} {v : Value} {P : Addr → Prop} (V : VarIs h env x v) (hP : ∀ a, P a → ∃ its k, h.get? a = some (PySem.W.listOf its k)) (u : ∀ a o, ¬ P a → h.get? a = some o → h'.get? a = some o) : VarIs h' env x v := by
  cases V with
  | loc m a b c => exact .loc m a (b.at' fun o e' => u _ o (fun q => by
      obtain ⟨its, k, e⟩ := hP _ q
      obtain ⟨o', es, ep, e1, e2, _⟩ := b
      rw [e] at e1; cases e1; cases e2) e') c
  | cell c a b d =>
    obtain ⟨o, e1, e2⟩ := d
    exact .cell c a b ⟨o, u c o (fun q => by
      obtain ⟨its, k, e⟩ := hP _ q
      rw [e] at e1; cases e1; cases e2) e1, e2⟩

theorem fmod_in {a b : Int} (hb : 0 < b) : 0 ≤ a.fmod b ∧ a.fmod b < b := by
  rw [Int.fmod_eq_emod_of_nonneg a (Int.le_of_lt hb)]
  exact ⟨Int.emod_nonneg _ (Int.ne_of_gt hb), Int.emod_lt_of_pos _ hb⟩

set_option maxHeartbeats 8000000 in
set_option maxRecDepth 100000 in
theorem take_spec {R : Result → Shared → Prop} {B : Heap} {bx scr : Addr} {many : Int} {tm : Tok} (G : GT w mg mb loose B) (hA : A.handled = none) (hroom : A.depth < recursionLimit) (hun : A.units + 100 < cLine)
    (hB : ∀ a o, B.get? a = some o → s.heap.get? a = some o ∧ a ≠ bx ∧ a ≠ scr) (X : BoxAt bx scr s.heap) (hm : 0 < many)
    (h : ∀ r t h' tk', 0 ≤ r → r < many → BoxAt bx scr h' → (∀ a o, a ≠ bx → a ≠ scr → s.heap.get? a = some o → h'.get? a = some o) → R (.ok (.ret (.int r t))) { s with heap := h', toks := tk' }) :
    codeAny (model prog w) A (.call (.ref 60) ⟨[.ref bx, .int many tm], []⟩) R s := by
  have G₀ : GT w mg mb loose s.heap := G.keeps fun a o e => (hB a o e).1
  refine' enter [(Str.ofString "box", .ref bx), (Str.ofString "many", .int many tm)] (upd (upd (fun _ => none) (Str.ofString "box") (.ref bx)) (Str.ofString "many") (.int many tm)) (fun _ => none) G₀ ?ho ?hcd hroom ?hb ?hk ?hm ?hcm ?_ ?c1 ?c2 ?c3
  case ho => k_is
  case hcd => k_is
  case hb => exact rfl
  case hk => exact kindsX rfl
  case hm => exact fun _ => rfl
  case hcm => exact fun _ => rfl
  case c1 => exact rfl
  case c2 => exact rfl
  case c3 => exact rfl
  intro L h₁ tk₁ E' hL F
  obtain ⟨hne, ⟨k, t, e, eb⟩, vs, ns, e2, es, hi, hvl⟩ := X
  have eb₁ := F.keep _ _ eb
  have es₁ := F.keep _ _ es
  have Vb := F.loc (x := Str.ofString "box") (v := .ref bx) rfl rfl
  have Vm := F.loc (x := Str.ofString "many") (v := .int many tm) rfl rfl
  refine wpAny_execs_cons (wpAny_Assign_Subscript (wpAny_BinOp (sub_at (nm_var Vb (wpAny_Constant_int ⟨bx, _, 1, _, .int k t, rfl, rfl, isList_of eb₁, by omega, by omega, rfl, wpAny_Constant_int (add_int ?_)⟩)))))
  refine nm_var Vb (wpAny_Constant_int ?_)
  refine ki_setAt eb₁ (by omega) (by omega) (by simp) ?_
  dsimp only
  have s₂ := Heap.SameBut.update h₁ bx (Obj.mapSeq fun x_1 => x_1.setIfInBounds (1 : Int).toNat (Value.int (k + 1) (tk₁ + 1 + 1)))
  have eb₂ := PySem.IsL.update eb₁ fun x_1 => x_1.setIfInBounds (1 : Int).toNat (Value.int (k + 1) (tk₁ + 1 + 1))
  generalize h₁.update bx (Obj.mapSeq fun x_1 => x_1.setIfInBounds (1 : Int).toNat (Value.int (k + 1) (tk₁ + 1 + 1))) = h₂ at s₂ eb₂ ⊢
  have r₂ : (List.toArray [Value.ref scr, Value.int k t]).setIfInBounds (1 : Int).toNat (Value.int (k + 1) (tk₁ + 1 + 1)) = List.toArray [Value.ref scr, Value.int (k + 1) (tk₁ + 1 + 1)] := rfl
  rw [r₂, if_pos (by rfl)] at eb₂
  have es₂ := s₂.extBut scr _ (Ne.symm hne) es₁
  have Vb₂ := Vb.offList eb₁ s₂.extBut
  have Vm₂ := Vm.offList eb₁ s₂.extBut
  have k₂ : ∀ a o, a ≠ bx → s.heap.get? a = some o → h₂.get? a = some o := fun a o ha e => s₂.extBut a o ha (F.keep a o e)
  refine wpAny_execs_cons (wpAny_If (wpAny_isTrue_Compare1 (sub_at (nm_var Vb₂ (wpAny_Constant_int ⟨bx, _, 0, _, .ref scr, rfl, rfl, isList_of eb₂, by omega, by omega, rfl, List_ (spliced_none (wpAny_newList ?_))⟩)))))
  dsimp only
  generalize hH : h₂.push { cls := Value.type "list", dict := none, data := Data.seq ([] : List Value).toArray } = H
  have u₃ : ∀ a o, h₂.get? a = some o → H.get? a = some o := fun a o e => hH ▸ Heap.get?_push_of_some _ e
  have eb₃ := u₃ _ _ eb₂
  have es₃ := u₃ _ _ es₂
  have Vb₃ := Vb₂.keeps u₃
  have Vm₃ := Vm₂.keeps u₃
  refine ne_intsK (vs := vs) (ns := ns) (us := []) (ms := []) (isList_of es₃) hi ⟨_, by rw [← hH]; exact Heap.get?_push_size _ rfl, rfl, _, rfl⟩ .nil (by show A.units + 3 + 64 < cLine; omega) ?_
  refine wpAny_truthy_bool ?_
  cases hi with
  | nil =>
    rw [if_neg (by simp)]
    refine wpAny_execs_nil ?_
    refine wpAny_execs_cons (wpAny_Return_some (wpAny_BinOp (wpAny_BinOp (wpAny_BinOp (wpAny_Constant_int ?_)))))
    refine sub_at (nm_var Vb₃ (wpAny_Constant_int ⟨bx, _, 1, _, .int (k + 1) _, rfl, rfl, isList_of eb₃, by omega, by omega, rfl, ?_⟩))
    refine mul_int (wpAny_BinOp ?_) (mulOk (by omega) (by omega))
    refine sub_at (nm_var Vb₃ (wpAny_Constant_int ⟨bx, _, 1, _, .int (k + 1) _, rfl, rfl, isList_of eb₃, by omega, by omega, rfl, ?_⟩))
    refine wpAny_Constant_int (floordiv_int (by decide) (add_int (nm_var Vm₃ (mod_int' (by omega) ?_))) (.inl (pylong_ok (by omega) (by omega))))
    exact h _ _ _ _ (fmod_in hm).1 (fmod_in hm).2 ⟨hne, ⟨_, _, _, eb₃⟩, [], [], e2, es₃, .nil, by simp⟩ fun a o ha _ e => u₃ a o (k₂ a o ha e)
  | cons n0 t0 hr =>
    rename_i vs' ns'
    rw [if_pos (by simp)]
    refine wpAny_execs_cons (wpAny_Return_some (wpAny_BinOp ?_))
    refine wpAny_Call_method rfl rfl rfl PySem.F.plainAttrs_list PySem.F.slot_list_pop PySem.F.type_list_pop ?_
    refine sub_at (nm_var Vb₃ (wpAny_Constant_int ⟨bx, _, 0, _, .ref scr, rfl, rfl, isList_of eb₃, by omega, by omega, rfl, ⟨_, es₃, rfl⟩, (fun a e => by cases e; exact ⟨_, es₃, rfl⟩), ?_⟩))
    refine call_blt_with (spliced_more (wpAny_Constant_int (spliced_none ?_)))
    refine pop0 es₃ (by omega) fun h₄ e₄ s₄ => ?_
    have Vm₄ := Vm₃.offList es₃ s₄.extBut
    refine nm_var Vm₄ (mod_int' (by omega) ?_)
    refine h _ _ _ _ (fmod_in hm).1 (fmod_in hm).2 ⟨hne, ⟨_, _, _, s₄.extBut bx _ hne eb₃⟩, vs', ns', _, e₄, hr, by simp at hvl; omega⟩ fun a o ha hb e => s₄.extBut a o hb (u₃ a o (k₂ a o ha e))
end
end Mine

namespace Mine
open PySem PySem.W PyProof.Rows PySem.Calls PySem.Spec
abbrev two (elt t0 i0 t1 i1 : Expr) (scope : Scope) (pos : Pos) : Expr := .ListComp elt [⟨t0, i0, [], 0⟩, ⟨t1, i1, [], 0⟩] scope pos

theorem compTurn_two0 (elt t0 i0 t1 i1 : Expr) (scope : Scope) (pos : Pos) (it acc : Value) (env : Env) :
    compTurn (two elt t0 i0 t1 i1 scope pos) 0 it acc env = (standAt i0.pos >>= fun _ => pyNext it >>= fun r => match r with
      | none => pure (.done .next)
      | some v => letOwnedTupleGo t0 it v >>= fun _ => assign t0 env v >>= fun _ =>
        eval i1 env >>= fun x => standAt i1.pos >>= fun _ => foldedSetIterable i1 env x >>= fun x => holding [x] (pyIter x) >>= fun it1 => runOwn (.compStart (two elt t0 i0 t1 i1 scope pos) 1 it1 acc env) env >>= fun _ =>
          again (.compLoop (two elt t0 i0 t1 i1 scope pos) 0 it acc env)) := by rfl
theorem compTurn_two1 (elt t0 i0 t1 i1 : Expr) (scope : Scope) (pos : Pos) (it acc : Value) (env : Env) :
    compTurn (two elt t0 i0 t1 i1 scope pos) 1 it acc env = (standAt i1.pos >>= fun _ => pyNext it >>= fun r => match r with
      | none => pure (.done .next)
      | some v => letOwnedTupleGo t1 it v >>= fun _ => assign t1 env v >>= fun _ =>
        (eval elt env >>= fun x => call (.builtin "list.append") [acc, x] >>= fun _ => pure ()) >>= fun _ =>
          again (.compLoop (two elt t0 i0 t1 i1 scope pos) 1 it acc env)) := by rfl

section
variable {prog : Program} {w : World} {A : Around} {E : Value → Shared → Prop} {R : Result → Shared → Prop} {s : Shared} {env : Env} {elt t0 i0 t1 i1 : Expr} {scope : Scope} {pos : Pos} {it acc : Value}
theorem loop_two1 (I : Nat → Shared → Prop)
    (turn : ∀ n s, I n s → wpAny (model prog w) A (pyNext it) (fun r s₁ => onNext r (R (.ok .next) s₁) fun v => wpAny (model prog w) A (letOwnedTupleGo t1 it v) (fun _ s₁' => wpAny (model prog w) A (assign t1 env v) (fun _ s₂ =>
          wpAny (model prog w) A (eval elt env) (fun x s₄ =>
              wpAny (model prog w) A (call (.builtin "list.append") [acc, x]) (fun _ s₅ => ∃ m, m < n ∧ I m s₅) (notedBy (model prog w) A env fun e s' => R (.error e) s') s₄) (notedBy (model prog w) A env fun e s' => R (.error e) s') s₂)
            (notedBy (model prog w) A env fun e s' => R (.error e) s') s₁') (notedBy (model prog w) A env fun e s' => R (.error e) s') s₁) (notedBy (model prog w) A env fun e s' => R (.error e) s') s)
    (n : Nat) (h : I n s) :
    codeAny (model prog w) A (.compLoop (two elt t0 i0 t1 i1 scope pos) 1 it acc env) R s := by
  refine codeAny_loop rfl I (fun n s hI => ?_) n h
  show wpAny _ A ((compTurn (two elt t0 i0 t1 i1 scope pos) 1 it acc env).onRaise (fun x => do noteFrame x env; theTreesLotGoes x)) _ _ s
  refine wpAny_noted ?_
  rw [compTurn_two1]
  refine wpAny_bind (wpAny_standAt (wpAny_bind (wpAny_mono (turn n s hI) (fun r s₁ h₁ => ?_) fun _ _ h' => h')))
  cases r with
  | none => exact wpAny_pure h₁
  | some v =>
    refine wpAny_bind (wpAny_mono h₁ (fun _ s₁' h₁' => ?_) fun _ _ h' => h')
    refine wpAny_bind (wpAny_mono h₁' (fun _ s₂ h₂ => ?_) fun _ _ h' => h')
    exact wpAny_bind (wpAny_bind (wpAny_mono h₂ (fun x s₄ h₄ => wpAny_bind (wpAny_mono h₄ (fun _ s₅ h₅ => wpAny_pure (wpAny_pure ⟨rfl, h₅⟩)) fun _ _ h' => h')) fun _ _ h' => h'))

theorem start_two1 (h0 : codeAny (model prog w) A (.compLoop (two elt t0 i0 t1 i1 scope pos) 1 it acc env) R s)
    (h : wpAny (model prog w) A (pyIter it) (fun it' s' => codeAny (model prog w) A (.compLoop (two elt t0 i0 t1 i1 scope pos) 1 it' acc env) R s')
      (notedBy (model prog w) A env fun x s' => R (.error x) s') s) :
    codeAny (model prog w) A (.compStart (two elt t0 i0 t1 i1 scope pos) 1 it acc env) R s := by
  refine codeAny_of_tree ?_
  show wpAny _ _ ((compStart (two elt t0 i0 t1 i1 scope pos) 1 it acc env).onRaise (fun x => do noteFrame x env; standAt theWindowsPlace)) _ _ s
  refine wpAny_notedAt ?_
  unfold compStart
  show wpAny _ _ (ask >>= _) _ _ s
  refine wpAny_bind (wpAny_askSetting (wpAny_ite ?_))
  split
  · first
      | exact wpAny_bind (wpAny_pure (wpAny_pure (And.intro rfl h0)))
      | exact wpAny_pure (And.intro rfl h0)
  · first
      | exact wpAny_bind (wpAny_rule (wpAny_bind (wpAny_standAt (wpAny_bind (wpAny_mono h (fun it' s' h' => wpAny_pure (And.intro rfl h')) fun _ _ x => x)))))
      | (refine wpAny_bind (wpAny_rule ?_); show wpAny _ _ (standAt i1.pos >>= _) _ _ s; exact wpAny_bind (wpAny_standAt (wpAny_bind (wpAny_mono h (fun it' s' h' => wpAny_pure (And.intro rfl h')) fun _ _ x => x))))

theorem loop_two0 (I : Nat → Shared → Prop)
    (turn : ∀ n s, I n s → wpAny (model prog w) A (pyNext it) (fun r s₁ => onNext r (R (.ok .next) s₁) fun v => wpAny (model prog w) A (letOwnedTupleGo t0 it v) (fun _ s₁' => wpAny (model prog w) A (assign t0 env v) (fun _ s₂ =>
          wpAny (model prog w) A (eval i1 env) (fun x s₃ => wpAny (model prog w) A (pyIter x) (fun it1 s₄ =>
            codeAny (model prog w) (A.mark none) (.compStart (two elt t0 i0 t1 i1 scope pos) 1 it1 acc env) (fun r s₅ => match r with | .ok _ => ∃ m, m < n ∧ I m s₅ | .error e => cameBackBy (model prog w) A env (notedBy (model prog w) A env fun e s' => R (.error e) s') e s₅) s₄)
             (notedBy (model prog w) A env fun e s' => R (.error e) s') s₃) (notedBy (model prog w) A env fun e s' => R (.error e) s') s₂)
            (notedBy (model prog w) A env fun e s' => R (.error e) s') s₁') (notedBy (model prog w) A env fun e s' => R (.error e) s') s₁) (notedBy (model prog w) A env fun e s' => R (.error e) s') s)
    (hs : ∀ x, foldedSetIterable i1 env x = pure x)
    (n : Nat) (h : I n s) :
    codeAny (model prog w) A (.compLoop (two elt t0 i0 t1 i1 scope pos) 0 it acc env) R s := by
  refine codeAny_loop rfl I (fun n s hI => ?_) n h
  show wpAny _ A ((compTurn (two elt t0 i0 t1 i1 scope pos) 0 it acc env).onRaise (fun x => do noteFrame x env; theTreesLotGoes x)) _ _ s
  refine wpAny_noted ?_
  rw [compTurn_two0]
  refine wpAny_bind (wpAny_standAt (wpAny_bind (wpAny_mono (turn n s hI) (fun r s₁ h₁ => ?_) fun _ _ h' => h')))
  cases r with
  | none => exact wpAny_pure h₁
  | some v =>
    refine wpAny_bind (wpAny_mono h₁ (fun _ s₁' h₁' => ?_) fun _ _ h' => h')
    refine wpAny_bind (wpAny_mono h₁' (fun _ s₂ h₂ => ?_) fun _ _ h' => h')
    refine wpAny_bind (wpAny_mono h₂ (fun x s₃ h₃ => wpAny_bind (wpAny_standAt (wpAny_bind (wpAny_of_eq (hs x) (wpAny_bind (wpAny_holding (wpAny_mono h₃ (fun it1 s₄ h₄ => wpAny_bind (wpAny_runOwn (codeAny_mono h₄ fun r s₅ h₅ => ?_))) fun _ _ h' => h'))))))) fun _ _ h' => h')
    cases r with
    | ok f => exact wpAny_pure ⟨rfl, h₅⟩
    | error e => exact h₅

theorem add_tup {t b : Addr} {vs ws : List Value} {Q : Value → Shared → Prop} (ht : IsTup s.heap t vs.toArray) (hb : IsTup s.heap b ws.toArray) (hw : ws ≠ [])
    (h0 : vs = [] → Q (.ref b) s)
    (h2 : ∀ h', (∀ a o, s.heap.get? a = some o → h'.get? a = some o) → IsTup h' s.heap.objs.size (vs ++ ws).toArray → Q (.ref s.heap.objs.size) { s with heap := h' })
    (hsz : vs.length + ws.length ≤ sizeLine) :
    wpAny (model prog w) A (binaryOp .Add (.ref t) (.ref b)) Q E s := by
  obtain ⟨⟨cls, dd, data, sl⟩, ho, hc, n, hd⟩ := id ht
  obtain ⟨⟨cls2, dd2, data2, sl2⟩, ho2, hc2, n2, hd2⟩ := id hb
  simp only at hc hd hc2 hd2
  subst hc hd hc2 hd2
  have e : vs.toArray ++ ws.toArray = (vs ++ ws).toArray := by simp
  by_cases hv : vs = []
  · exact concat_meets ⟨_, ho, rfl⟩ ⟨_, ho2, rfl⟩ noFill_tuple_add seq_tuple_add PySem.F.slot_tuple_add PySem.F.entry_tuple_add (PySem.F.args_tuple_add_2 _ _)
      (tuple_addW0 t b vs.toArray ws.toArray n n2 dd dd2 sl sl2 (by simp [hv])) ⟨ho, ho2, h0 hv⟩
  · refine concat_meets ⟨_, ho, rfl⟩ ⟨_, ho2, rfl⟩ noFill_tuple_add seq_tuple_add PySem.F.slot_tuple_add PySem.F.entry_tuple_add (PySem.F.args_tuple_add_2 _ _)
        (tuple_addW2 t b vs.toArray ws.toArray n n2 dd dd2 sl sl2 (by simpa using hv) (by simpa using hw) (by rw [List.size_toArray, List.size_toArray]; exact hsz)) ⟨ho, ho2, ?_⟩
    rw [e]
    exact h2 _ (fun a o e => Heap.get?_push_of_some _ e) ⟨_, Heap.get?_push_size _ rfl, rfl, _, rfl⟩
end
end Mine

namespace Mine
open PySem PySem.W PyProof.Rows PySem.Calls PySem.Spec

def outs (Lr : Nat → List (List Nat)) (a : Nat) : Nat → List (List Nat)
  | 0 => []
  | i + 1 => outs Lr a i ++ (Lr i).map fun ns => ns ++ [a + i]
def lots : Nat → Nat → List (List Nat)
  | 0, _ => [[]]
  | k + 1, many => outs (fun i => lots k (k + i)) k (many - k)

def LotR (h : Heap) (v : Value) (ns : List Nat) : Prop := ∃ (T : Addr) (vs : List Value), v = .ref T ∧ h.IsTuple T vs.toArray ∧ IntsAre vs (ns.map Int.ofNat)
def LotsAre (h : Heap) (ys : List Value) (L : List (List Nat)) : Prop := ys.length = L.length ∧ ∀ (j : Nat) (v : Value) (ns : List Nat), ys[j]? = some v → L[j]? = some ns → LotR h v ns

/-- what is no tuple -/
def NoTup (h : Heap) (a : Addr) : Prop := ∃ o, h.get? a = some o ∧ (o.cls = .type "tuple" → ∀ its n, o.data ≠ .seq its n)
theorem LotR.off {h h' : Heap} {v : Value} {ns : List Nat} {P : Addr → Prop} (x : LotR h v ns) (hP : ∀ a, P a → NoTup h a) (hk : ∀ a o, ¬ P a → h.get? a = some o → h'.get? a = some o) : LotR h' v ns := by
  obtain ⟨T, vs, rfl, ⟨o, e, c, n, d⟩, hi⟩ := x
  refine ⟨T, vs, rfl, ⟨o, hk T o (fun q => ?_) e, c, n, d⟩, hi⟩
  obtain ⟨o', e', hn⟩ := hP T q
  rw [e] at e'; cases e'
  exact hn c _ _ d
theorem LotR.keeps {h h' : Heap} {v : Value} {ns : List Nat} (x : LotR h v ns) (hk : ∀ a o, h.get? a = some o → h'.get? a = some o) : LotR h' v ns :=
  x.off (P := fun _ => False) (fun _ q => q.elim) fun a o _ e => hk a o e
theorem LotsAre.off {h h' : Heap} {ys : List Value} {L : List (List Nat)} {P : Addr → Prop} (x : LotsAre h ys L) (hP : ∀ a, P a → NoTup h a) (hk : ∀ a o, ¬ P a → h.get? a = some o → h'.get? a = some o) : LotsAre h' ys L :=
  ⟨x.1, fun j v ns a b => (x.2 j v ns a b).off hP hk⟩
theorem LotsAre.keeps {h h' : Heap} {ys : List Value} {L : List (List Nat)} (x : LotsAre h ys L) (hk : ∀ a o, h.get? a = some o → h'.get? a = some o) : LotsAre h' ys L :=
  x.off (P := fun _ => False) (fun _ q => q.elim) fun a o _ e => hk a o e
theorem LotsAre.snoc {h : Heap} {ys : List Value} {L : List (List Nat)} {v : Value} {ns : List Nat} (x : LotsAre h ys L) (y : LotR h v ns) : LotsAre h (ys ++ [v]) (L ++ [ns]) := by
  refine ⟨by rw [List.length_append, List.length_append, x.1]; rfl, fun j v' ns' a b => ?_⟩
  by_cases hj : j < ys.length
  · rw [List.getElem?_append_left hj] at a
    rw [List.getElem?_append_left (x.1 ▸ hj)] at b
    exact x.2 j v' ns' a b
  · rw [List.getElem?_append_right (Nat.not_lt.mp hj)] at a
    rw [List.getElem?_append_right (x.1 ▸ Nat.not_lt.mp hj)] at b
    obtain ⟨rfl, rfl⟩ : v = v' ∧ ns = ns' := by
      have h1 : j - ys.length = 0 := by
        rcases Nat.eq_zero_or_pos (j - ys.length) with q | q
        · exact q
        · rw [List.getElem?_eq_none (by simp; omega)] at a; cases a
      have h2 : j - L.length = 0 := by rw [← x.1]; exact h1
      rw [h1] at a; rw [h2] at b
      exact ⟨Option.some.inj a, Option.some.inj b⟩
    exact y
theorem noTup_list {h : Heap} {D : Addr} {its : Array Value} (x : h.IsList D its) : NoTup h D := by
  obtain ⟨o, e, c, _⟩ := x
  exact ⟨o, e, fun q => by rw [c] at q; injection q with q; exact absurd q (by decide)⟩
theorem noTup_ns {h : Heap} {D : Addr} {m : Str → Option Value} (x : h.Ns D m) : NoTup h D := by
  obtain ⟨o, es, ep, e1, e2, _⟩ := x
  exact ⟨o, e1, fun _ its n q => by rw [e2] at q; cases q⟩
theorem noTup_cell {h : Heap} {D : Addr} {v : Option Value} (x : h.IsCell D v) : NoTup h D := by
  obtain ⟨o, e1, e2⟩ := x
  exact ⟨o, e1, fun _ its n q => by rw [e2] at q; cases q⟩
theorem noTup_range {h : Heap} {I : Addr} {a b c : Int} (x : IsRangeIter h I a b c) : NoTup h I :=
  ⟨_, x, fun _ its n q => by cases q⟩
theorem noTup_listiter {h : Heap} {I l : Addr} {i : Nat} (x : h.IsListIter I l i) : NoTup h I := by
  obtain ⟨o, e, c, d⟩ := x
  exact ⟨o, e, fun _ its n q => by rw [d] at q; cases q⟩

section
variable {prog : Program} {w : World} {A : Around} {E : Value → Shared → Prop} {env : Env} {elt i0 i1 : Expr} {x y : Str} {p0 p1 : Pos} {scope : Scope} {cl : List (Str × Addr)} {pos : Pos} {s₂ : Shared} {I : Addr} {a n : Nat} {Lr : Nat → List (List Nat)}

set_option maxHeartbeats 2000000 in
theorem inner_loop {s₃ : Shared} {R : Result → Shared → Prop} {D D1 I1 : Addr} {ys1 ys : List Value} {L : List (List Nat)} {Ls : List (List Nat)} {cenv : Env} {xv : Value} {tail : List Nat → List Nat} (hA : A.handled = none)
    (hp : (cenv.scope.kind == .class || (cenv.scope.kind == .module && cenv.locals != cenv.globals)) = false) (hx : cenv.kindOf x = some .local) (hy : cenv.kindOf y = some .local) (hxy : x ≠ y)
    (hD : s₃.heap.get? D = some (lst ys)) (hL1 : s₃.heap.IsList D1 ys1.toArray) (hI1 : s₃.heap.IsListIter I1 D1 0) (hns : ∃ m, s₃.heap.Ns cenv.locals m ∧ m x = some xv)
    (hDI : D ≠ I1) (hDD1 : D ≠ D1) (hDC : D ≠ cenv.locals) (h1C : D1 ≠ cenv.locals) (hIC : I1 ≠ cenv.locals) (hne : D1 ≠ I1)
    (hys : LotsAre s₃.heap ys L) (hys1 : LotsAre s₃.heap ys1 Ls) (hsz : ys.length + ys1.length ≤ 1000)
    (el : ∀ v ns s₄ E', VarIs s₄.heap cenv x xv → VarIs s₄.heap cenv y v → LotR s₄.heap v ns → ns ∈ Ls →
      wpAny (model prog w) A (eval elt cenv) (fun v' s₅ => KB NoMut s₄ s₅ ∧ LotR s₅.heap v' (tail ns)) E' s₄)
    (fin : ∀ h' tk' ys', h'.get? D = some (lst ys') → (∃ m, h'.Ns cenv.locals m ∧ m x = some xv) → LotsAre h' ys' (L ++ Ls.map tail) → (∀ b o, b ≠ cenv.locals → b ≠ D → b ≠ I1 → s₃.heap.get? b = some o → h'.get? b = some o) → R (.ok .next) { s₃ with heap := h', toks := tk' }) :
    codeAny (model prog w) A (.compLoop (two elt (.Name x p0) i0 (.Name y p1) i1 scope pos) 1 (.ref I1) (.ref D) cenv) R s₃ := by
  have W := iter_list (prog := prog) (w := w) hA (x := y) (p := p1) I1 D1 hne ys1.toArray
  rw [List.size_toArray] at W
  refine loop_two1 (fun k s' => ∃ j zs h' tk', s' = { s₃ with heap := h', toks := tk' } ∧ j ≤ ys1.length ∧ k = ys1.length + 1 - j ∧ h'.IsListIter I1 D1 j ∧ h'.IsList D1 ys1.toArray ∧ (∃ m, h'.Ns cenv.locals m ∧ m x = some xv) ∧ h'.get? D = some (lst zs) ∧ zs.length = ys.length + j ∧
      LotsAre h' zs (L ++ (Ls.take j).map tail) ∧ LotsAre h' ys1 Ls ∧ (∀ b o, b ≠ cenv.locals → b ≠ D → b ≠ I1 → s₃.heap.get? b = some o → h'.get? b = some o)) ?_ (ys1.length + 1)
    ⟨0, ys, s₃.heap, s₃.toks, rfl, Nat.zero_le _, rfl, hI1, hL1, hns, hD, rfl, by simpa using hys, hys1, fun b o _ _ _ e => e⟩
  rintro k s' ⟨j, zs, h', tk', rfl, hj, rfl, it', li', ⟨m', hn', hmx⟩, hD', hzl, hz, hy1', base'⟩
  by_cases hjn : j < ys1.length
  · refine W.item j _ _ _ _ _ hjn ⟨it', li'⟩ ?_
    rintro vs h₂ tk₂ ⟨v, rfl, hv⟩ _ ⟨it₂, li₂⟩ hk₂
    have k₂ : ∀ b o, b ≠ I1 → h'.get? b = some o → h₂.get? b = some o := fun b o q e => hk₂ b o (fun r => q (List.mem_singleton.mp r)) e
    have hn₂ : h₂.Ns cenv.locals m' := hn'.at' fun o e => k₂ _ o (Ne.symm hIC) e
    refine wpAny_storeName_local hy hn₂ (fun h₃ hn₃ hs₃ => ?_) hp
    have k₃ : ∀ b o, b ≠ cenv.locals → h₂.get? b = some o → h₃.get? b = some o := fun b o hb e => hs₃.extBut b o hb e
    have off₂ : ∀ b, b = I1 → NoTup h' b := fun b q => q ▸ noTup_listiter it'
    have off₃ : ∀ b, b = cenv.locals → NoTup h₂ b := fun b q => q ▸ noTup_ns hn₂
    have hz₃ := (hz.off off₂ k₂).off off₃ k₃
    have hy₃ := (hy1'.off off₂ k₂).off off₃ k₃
    have it₃ : h₃.IsListIter I1 D1 (j + 1) := by
      obtain ⟨o, e, r⟩ := it₂; exact ⟨o, k₃ _ o hIC e, r⟩
    have li₃ : h₃.IsList D1 ys1.toArray := by
      obtain ⟨o, e, r⟩ := li₂; exact ⟨o, k₃ _ o h1C e, r⟩
    have hD₃ : h₃.get? D = some (lst zs) := k₃ D _ hDC (k₂ D _ hDI hD')
    obtain ⟨ns, hns'⟩ : ∃ ns, Ls[j]? = some ns := ⟨Ls[j]'(by rw [← hys1.1]; exact hjn), List.getElem?_eq_getElem _⟩
    have hv' : ys1[j]? = some v := by simpa using hv
    have R₃ := hy₃.2 j v ns hv' hns'
    refine wpAny_mono (el v ns _ _ (.loc _ hx hn₃ (by rw [if_neg hxy]; exact hmx)) (.loc _ hy hn₃ (by simp)) R₃ (List.mem_of_getElem? hns')) (fun y' s₅ h₅ => ?_) fun _ _ e => e
    obtain ⟨⟨h₅, tk₅, rfl, u₅⟩, R₅⟩ := h₅
    have k₅ := u₅.all
    have hD₅ : h₅.get? D = some (lst zs) := k₅ _ _ hD₃
    refine append_at (hsz := by show zs.toArray.size ≤ sizeLine; rw [List.size_toArray, hzl, PySem.sizeLine_eq]; omega) hD₅ fun h₆ hs₆ hD₆ => ?_
    have k₆ : ∀ b o, b ≠ D → h₅.get? b = some o → h₆.get? b = some o := fun b o hb e => hs₆.extBut b o hb e
    have off₆ : ∀ b, b = D → NoTup h₅ b := fun b q => q ▸ noTup_list (isList_of hD₅)
    refine ⟨ys1.length + 1 - (j + 1), by omega, j + 1, zs ++ [y'], h₆, tk₅, rfl, hjn, rfl, ?_, ?_, ⟨_, (hn₃.keeps k₅).sameBut hs₆ (Ne.symm hDC), by rw [if_neg hxy]; exact hmx⟩, hD₆.trans (congrArg some (lst_snoc zs y')), by rw [List.length_append, hzl]; rfl, ?_, (hy₃.keeps k₅).off off₆ k₆, fun b o q1 q2 q3 e => k₆ b o q2 (k₅ _ _ (k₃ b o q1 (k₂ b o q3 (base' b o q1 q2 q3 e))))⟩
    · obtain ⟨o, e, r⟩ := it₃; exact ⟨o, k₆ _ o (Ne.symm hDI) (k₅ _ _ e), r⟩
    · obtain ⟨o, e, r⟩ := li₃; exact ⟨o, k₆ _ o (Ne.symm hDD1) (k₅ _ _ e), r⟩
    · have := ((hz₃.keeps k₅).snoc R₅).off off₆ k₆
      rw [List.append_assoc] at this
      rw [List.take_add_one, hns', List.map_append]
      exact this
  · obtain rfl : j = ys1.length := Nat.le_antisymm hj (Nat.not_lt.mp hjn)
    refine W.done _ _ _ ⟨it', li'⟩ fun h₂ tk₂ hk₂ => ?_
    have k₂ : ∀ b o, b ≠ I1 → h'.get? b = some o → h₂.get? b = some o := fun b o q e => hk₂ b o (fun r => q (List.mem_singleton.mp r)) e
    have off₂ : ∀ b, b = I1 → NoTup h' b := fun b q => q ▸ noTup_listiter it'
    rw [List.take_of_length_le (Nat.le_of_eq hys1.1.symm)] at hz
    exact fin h₂ tk₂ zs (k₂ _ _ hDI hD') ⟨m', hn'.at' fun o e => k₂ _ o (Ne.symm hIC) e, hmx⟩ (hz.off off₂ k₂) fun b o q1 q2 q3 e => k₂ b o q3 (base' b o q1 q2 q3 e)
end
end Mine

namespace Mine
open PySem PySem.W PyProof.Rows PySem.Calls PySem.Spec

section
variable {prog : Program} {w : World} {A : Around} {E : Value → Shared → Prop} {env : Env} {elt i0 i1 : Expr} {x y : Str} {p0 p1 : Pos} {scope : Scope} {cl : List (Str × Addr)} {pos : Pos} {s₂ : Shared} {I : Addr} {a n : Nat} {Lr : Nat → List (List Nat)}

set_option maxHeartbeats 2000000 in
theorem two_block {RR : Value → Addr → Result → Shared → Prop} (hA : A.handled = none) (hst : IsRangeIter s₂.heap I ((a : Int) + (0 : Nat) * 1) ((n : Int) - (0 : Nat)) 1) (hkind : scope.kind = .function)
    (hnc : ∀ h : Heap, pushCells h scope.names = h) (hx : ∀ C, (cenvOf scope cl env C).kindOf x = some .local) (hy : ∀ C, (cenvOf scope cl env C).kindOf y = some .local) (hxy : x ≠ y) (hs1 : ∀ env v, foldedSetIterable i1 env v = pure v)
    (inner : ∀ C i t s₃ E', i < n → VarIs s₃.heap (cenvOf scope cl env C) x (.int ((a + i : Nat) : Int) t) → (∀ b o, b ≠ I → s₂.heap.get? b = some o → s₃.heap.get? b = some o) →
      wpAny (model prog w) A (eval i1 (cenvOf scope cl env C)) (fun v s₄ => ∃ D1 ys, v = .ref D1 ∧ KB NoMut s₃ s₄ ∧ s₃.heap.get? D1 = none ∧ s₄.heap.IsList D1 ys.toArray ∧ LotsAre s₄.heap ys (Lr i)) E' s₃)
    (el : ∀ C i t v ns s₃ E', i < n → VarIs s₃.heap (cenvOf scope cl env C) x (.int ((a + i : Nat) : Int) t) → VarIs s₃.heap (cenvOf scope cl env C) y v → LotR s₃.heap v ns → ns ∈ Lr i →
      wpAny (model prog w) A (eval elt (cenvOf scope cl env C)) (fun v' s₄ => KB NoMut s₃ s₄ ∧ LotR s₄.heap v' (ns ++ [a + i])) E' s₃)
    (hlen : ∀ i, i < n → (outs Lr a (i + 1)).length ≤ 1000)
    (hRR : ∀ D C h' tk' ys, s₂.heap.get? D = none → s₂.heap.get? C = none → D ≠ C → (∃ m, h'.Ns C m) → h'.IsList D ys.toArray → LotsAre h' ys (outs Lr a n) → (∀ b o, b ≠ I → s₂.heap.get? b = some o → h'.get? b = some o) → RR (.ref D) C (.ok .next) { s₂ with heap := h', toks := tk' }) :
    wpAny (model prog w) A (newList []) (fun acc s₃ => wpAny (model prog w) A (newFunctionEnv scope env.globals cl [] env.qual none .none (some env)) (fun cenv s₄ =>
      codeAny (model prog w) A (.compStart (two elt (.Name x p0) i0 (.Name y p1) i1 scope pos) 0 (.ref I) acc { cenv with scope := relabel scope env }) (RR acc cenv.locals) s₄) E s₃) E s₂ := by
  refine wpAny_newObj_type (newCompEnv ?_)
  have z1 : (s₂.heap.push { cls := .type "list", dict := none, data := .seq ([] : List Value).toArray }).objs.size = s₂.heap.objs.size + 1 := Heap.size_push ..
  dsimp only
  rw [z1, hnc]
  obtain ⟨C, hC⟩ : ∃ C, C = s₂.heap.objs.size + 1 := ⟨_, rfl⟩
  obtain ⟨D, hD⟩ : ∃ D, D = s₂.heap.objs.size := ⟨_, rfl⟩
  rw [← hC, ← hD]
  have hDC : D < C := by rw [hC, hD]; exact Nat.lt_succ_self _
  have hns₁ : ((s₂.heap.push (lst [])).push { cls := .type "dict", data := .dict #[] }).Ns C fun _ => none := by
    have := Heap.Ns.new (s₂.heap.push (lst [])) (.type "dict")
    rw [Heap.size_push, ← hC] at this
    exact this
  have hDs : ((s₂.heap.push (lst [])).push { cls := .type "dict", data := .dict #[] }).get? D = some (lst []) := Heap.get?_push_of_some _ (hD ▸ Heap.get?_push_size _ rfl)
  have old : ∀ b o, s₂.heap.get? b = some o → ((s₂.heap.push (lst [])).push { cls := .type "dict", data := .dict #[] }).get? b = some o := fun b o e => Heap.get?_push_of_some _ (Heap.get?_push_of_some _ e)
  generalize hh1 : (s₂.heap.push (lst [])).push { cls := .type "dict", data := .dict #[] } = h₁ at hns₁ hDs old
  have hlt : ∀ b o, s₂.heap.get? b = some o → b < D := fun b o e => hD ▸ Heap.lt_size e
  have hfree : ∀ b, D ≤ b → s₂.heap.get? b = none := fun b hb => by
    cases e : s₂.heap.get? b with
    | none => rfl
    | some o => exact absurd (hlt b o e) (Nat.not_lt.mpr hb)
  have hID : I < D := hlt I _ hst
  have hIC : I ≠ C := Nat.ne_of_lt (Nat.lt_trans hID hDC)
  have hp : ((cenvOf scope cl env C).scope.kind == .class || ((cenvOf scope cl env C).scope.kind == .module && (cenvOf scope cl env C).locals != (cenvOf scope cl env C).globals)) = false := by simp [cenvOf, compEnvC, relabel, hkind]
  have W := iter_range (prog := prog) (w := w) hA (x := x) (p := p0) I (a : Int) n
  have loop : ∀ s₃ : Shared, s₃ = { s₂ with heap := h₁ } →
      codeAny (model prog w) A (.compLoop (two elt (.Name x p0) i0 (.Name y p1) i1 scope pos) 0 (.ref I) (.ref D) (cenvOf scope cl env C)) (RR (.ref D) C) s₃ := by
    rintro s₃ rfl
    refine loop_two0 (fun k s' => ∃ i ys h' tk', s' = { s₂ with heap := h', toks := tk' } ∧ i ≤ n ∧ k = n + 1 - i ∧ IsRangeIter h' I ((a : Int) + (i : Nat) * 1) ((n : Int) - (i : Nat)) 1 ∧ (∃ m, h'.Ns C m) ∧ h'.get? D = some (lst ys) ∧ LotsAre h' ys (outs Lr a i) ∧
        (∀ b o, b ≠ I → s₂.heap.get? b = some o → h'.get? b = some o)) ?_ (fun v => hs1 _ v) (n + 1)
      ⟨0, [], h₁, s₂.toks, rfl, Nat.zero_le _, rfl, old _ _ hst, ⟨_, hns₁⟩, hDs, ⟨rfl, fun j v ns e => by simp at e⟩, fun b o _ e => old b o e⟩
    rintro k s' ⟨i, ys, h', tk', rfl, hi, rfl, st', ⟨m', hn'⟩, hD', hz, base'⟩
    by_cases hin : i < n
    · refine W.item i _ _ _ _ _ hin st' ?_
      rintro vs h₂ tk₂ ⟨v, rfl, t, rfl⟩ _ st₂ hk₂
      have k₂ : ∀ b o, b ≠ I → h'.get? b = some o → h₂.get? b = some o := fun b o q e => hk₂ b o (fun r => q (List.mem_singleton.mp r)) e
      have hn₂ : h₂.Ns C m' := hn'.at' fun o e => k₂ _ o (Ne.symm hIC) e
      have off₂ : ∀ b, b = I → NoTup h' b := fun b q => q ▸ noTup_range st'
      refine wpAny_storeName_local (env := cenvOf scope cl env C) (hx C) hn₂ (fun h₃ hn₃ hs₃ => ?_) hp
      have k₃ : ∀ b o, b ≠ C → h₂.get? b = some o → h₃.get? b = some o := fun b o hb e => hs₃.extBut b o hb e
      have off₃ : ∀ b, b = C → NoTup h₂ b := fun b q => q ▸ noTup_ns hn₂
      have hz₃ := (hz.off off₂ k₂).off off₃ k₃
      have base₃ : ∀ b o, b ≠ I → s₂.heap.get? b = some o → h₃.get? b = some o := fun b o q e => k₃ b o (Nat.ne_of_lt (Nat.lt_trans (hlt b o e) hDC)) (k₂ b o q (base' b o q e))
      have hD₃ : h₃.get? D = some (lst ys) := k₃ D _ (Nat.ne_of_lt hDC) (k₂ D _ (Nat.ne_of_gt hID) hD')
      have st₃ : IsRangeIter h₃ I ((a : Int) + (i + 1 : Nat) * 1) ((n : Int) - (i + 1 : Nat)) 1 := k₃ I _ hIC st₂
      have ev : ((a : Int) + (i : Int) * 1) = ((a + i : Nat) : Int) := by omega
      rw [ev] at hn₃
      have Vx : VarIs h₃ (cenvOf scope cl env C) x (.int ((a + i : Nat) : Int) t) := .loc _ (hx C) hn₃ (by simp)
      refine wpAny_mono (inner C i t _ _ hin Vx base₃) (fun v s₄ h₄ => ?_) fun _ _ e => e
      obtain ⟨D1, ys1, rfl, ⟨h₄, tk₄, rfl, u₄⟩, hf, hL1, hys1⟩ := h₄
      have k₄ := u₄.all
      have hf' : h₃.get? D1 = none := hf
      have nD1 : ∀ b o, h₃.get? b = some o → b ≠ D1 := fun b o e q => by rw [q, hf'] at e; cases e
      have hn₃' : ∃ o, h₃.get? C = some o := by obtain ⟨o, _, _, e, _⟩ := id hn₃; exact ⟨o, e⟩
      obtain ⟨oC, eC⟩ := hn₃'
      refine wpAny_pyIter_list hL1 ?_
      have up : ∀ b o, h₄.get? b = some o → (h₄.push { cls := .type "list_iterator", data := .fields #[.ref D1, .int 0 0] }).get? b = some o := fun b o e => Heap.get?_push_of_some _ e
      have nI1 : ∀ b o, h₄.get? b = some o → b ≠ h₄.objs.size := fun b o e => Nat.ne_of_lt (Heap.lt_size e)
      obtain ⟨oD1, eD1, _⟩ := id hL1
      have hout : (outs Lr a i).length + (Lr i).length ≤ 1000 := by
        have := hlen i hin
        rw [outs, List.length_append, List.length_map] at this
        exact this
      rw [Around.mark_none]
      have st1 : ∀ s₅ : Shared, s₅ = { s₂ with heap := h₄.push { cls := .type "list_iterator", data := .fields #[.ref D1, .int 0 0] }, toks := tk₄ } → ∀ R : Result → Shared → Prop,
          codeAny (model prog w) A (.compLoop (two elt (.Name x p0) i0 (.Name y p1) i1 scope pos) 1 (.ref h₄.objs.size) (.ref D) (cenvOf scope cl env C)) R s₅ → 
          codeAny (model prog w) A (.compStart (two elt (.Name x p0) i0 (.Name y p1) i1 scope pos) 1 (.ref h₄.objs.size) (.ref D) (cenvOf scope cl env C)) R s₅ := by
        rintro s₅ rfl R hh
        exact start_two1 hh (wpAny_pyIter_listiter ⟨_, Heap.get?_push_size _ rfl, rfl, rfl⟩ hh)
      refine st1 _ rfl _ ?_
      refine inner_loop (D := D) (D1 := D1) (ys1 := ys1) (ys := ys) (L := outs Lr a i) (Ls := Lr i) (xv := .int ((a + i : Nat) : Int) t) (tail := fun ns => ns ++ [a + i]) hA hp (hx C) (hy C) hxy (up _ _ (k₄ _ _ hD₃)) (hL1.push _) ⟨_, Heap.get?_push_size _ rfl, rfl, rfl⟩ ⟨_, (hn₃.keeps k₄).keeps up, by simp⟩
        (nI1 _ _ (k₄ _ _ hD₃)) (nD1 _ _ hD₃) (Nat.ne_of_lt hDC) (Ne.symm (nD1 _ _ eC)) (Ne.symm (nI1 _ _ (k₄ _ _ eC))) (nI1 _ _ eD1) ((hz₃.keeps k₄).keeps up) (hys1.keeps up) (by rw [hz.1, hys1.1]; exact hout)
        (fun v ns s₅ E' vx vy R hm => el C i t v ns s₅ E' hin vx vy R hm) ?_
      intro h₅ tk₅ ys' hD₅ hn₅ hz₅ k₅
      obtain ⟨m₅, hn₅, _⟩ := hn₅
      refine ⟨n + 1 - (i + 1), by omega, i + 1, ys', h₅, tk₅, rfl, hin, rfl, ?_, ⟨m₅, hn₅⟩, hD₅, hz₅, fun b o q e => ?_⟩
      · exact k₅ I _ hIC (Nat.ne_of_lt hID) (nI1 _ _ (k₄ _ _ st₃)) (up _ _ (k₄ _ _ st₃))
      · exact k₅ b o (Nat.ne_of_lt (Nat.lt_trans (hlt b o e) hDC)) (Nat.ne_of_lt (hlt b o e)) (nI1 _ _ (k₄ _ _ (base₃ b o q e))) (up _ _ (k₄ _ _ (base₃ b o q e)))
    · obtain rfl : i = n := Nat.le_antisymm hi (Nat.not_lt.mp hin)
      refine W.done _ _ _ st' fun h₂ tk₂ hk₂ => ?_
      have k₂ : ∀ b o, b ≠ I → h'.get? b = some o → h₂.get? b = some o := fun b o q e => hk₂ b o (fun r => q (List.mem_singleton.mp r)) e
      have off₂ : ∀ b, b = I → NoTup h' b := fun b q => q ▸ noTup_range st'
      exact hRR D C h₂ tk₂ ys (hfree D (Nat.le_refl _)) (hfree C (Nat.le_of_lt hDC)) (Nat.ne_of_lt hDC) ⟨m', hn'.at' fun o e => k₂ _ o (Ne.symm hIC) e⟩ (isList_of (k₂ D _ (Nat.ne_of_gt hID) hD')) (hz.off off₂ k₂) fun b o q e => k₂ b o q (base' b o q e)
  exact codeAny_compStart_list (loop _ rfl) (W.self 0 _ _ _ (old _ _ hst) (loop _ rfl))
end
end Mine

namespace Mine
open PySem PySem.W PyProof.Rows PySem.Calls PySem.Spec
theorem kf_lots : (fun (_ : Params → Frag) (_ : OpenLaw) => True) Mine.hd.heap_39 PySem.Challenge.rw_sa0072_01 := by
  k_fill
  trivial
section
variable {prog : Program} {w : World} {A : Around} {E : Value → Shared → Prop} {s : Shared} {mg mb : Str → Option Value} {loose : List Str}

theorem lots_len : ∀ k, k ≤ 3 → ∀ many, many ≤ 6 → (lots k many).length ≤ 1000 ∧ (∀ ns ∈ lots k many, ns.length = k) := by decide +kernel

set_option maxHeartbeats 8000000 in
set_option maxRecDepth 100000 in
theorem lots_spec (k : Nat) : ∀ {prog : Program} {w : World} {A : Around} {s : Shared} {mg mb : Str → Option Value} {loose : List Str} {R : Result → Shared → Prop} {many : Nat} {tm tk : Tok} (G : GT w mg mb loose s.heap) (hA : A.handled = none) (hroom : A.depth + k < recursionLimit) (hk : k ≤ 3) (hm : many ≤ 6)
    (h : ∀ D ys h' tk', s.heap.get? D = none → h'.IsList D ys.toArray → LotsAre h' ys (lots k many) → (∀ a o, s.heap.get? a = some o → h'.get? a = some o) → R (.ok (.ret (.ref D))) { s with heap := h', toks := tk' }),
    codeAny (model prog w) A (.call (.ref 65) ⟨[.int (many : Int) tm, .int (k : Int) tk], []⟩) R s := by
  induction k with
  | zero =>
    intro prog w A s mg mb loose R many tm tk G hA hroom hk hm h
    refine' enter [(Str.ofString "many", .int (many : Int) tm), (Str.ofString "size", .int ((0 : Nat) : Int) tk)] (upd (fun _ => none) (Str.ofString "many") (.int (many : Int) tm)) (upd (fun _ => none) (Str.ofString "size") (.int ((0 : Nat) : Int) tk)) G ?ho ?hcd (by omega) ?hb ?hk ?hm ?hcm ?_ ?c1 ?c2 ?c3
    case ho => k_is
    case hcd => k_is
    case hb => exact rfl
    case hk => exact kindsX rfl
    case hm => exact fun _ => rfl
    case hcm => exact fun _ => rfl
    case c1 => exact rfl
    case c2 => exact rfl
    case c3 => exact rfl
    intro L h₁ tk₁ E' hL F
    have cs := F.cell (Str.ofString "size") (L + 1) rfl
    refine wpAny_execs_cons (wpAny_If (wpAny_isTrue_Compare1 (nm_var (.cell (L + 1) (by exact .inl rfl) (by rfl) cs) (wpAny_Constant_int (eq_int (wpAny_truthy_bool ?_))))))
    rw [if_pos (by decide)]
    refine wpAny_execs_cons (wpAny_Return_some (List_ (spliced_more (Tuple_ (spliced_none (wpAny_newObj_type (spliced_none (wpAny_newObj_type ?_ ?_)) ?_))))))
    · have f : ∀ a, h₁.objs.size ≤ a → s.heap.get? a = none := fun a ha => by
        cases q : s.heap.get? a with
        | none => rfl
        | some o => exact absurd (Heap.lt_size (F.keep _ _ q)) (Nat.not_lt.mpr ha)
      refine h _ [.ref h₁.objs.size] _ _ (f _ (by show h₁.objs.size ≤ (h₁.push _).objs.size; rw [Heap.size_push]; exact Nat.le_succ _)) ⟨_, Heap.get?_push_size _ rfl, rfl, _, rfl⟩ ⟨rfl, fun j v ns e1 e2 => ?_⟩ fun a o e => Heap.get?_push_of_some _ (Heap.get?_push_of_some _ (F.keep a o e))
      cases j with
      | zero =>
        cases e1; cases e2
        exact ⟨_, [], rfl, ⟨_, Heap.get?_push_of_some _ (Heap.get?_push_size _ rfl), rfl, _, rfl⟩, .nil⟩
      | succ j => cases e1
    · show 1 ≤ sizeLine; rw [PySem.sizeLine_eq]; omega
    · exact Nat.zero_le _
  | succ k ih =>
    intro prog w A s mg mb loose R many tm tk G hA hroom hk hm h
    refine' enter [(Str.ofString "many", .int (many : Int) tm), (Str.ofString "size", .int ((k + 1 : Nat) : Int) tk)] (upd (fun _ => none) (Str.ofString "many") (.int (many : Int) tm)) (upd (fun _ => none) (Str.ofString "size") (.int ((k + 1 : Nat) : Int) tk)) G ?ho ?hcd (by omega) ?hb ?hk ?hm ?hcm ?_ ?c1 ?c2 ?c3
    case ho => k_is
    case hcd => k_is
    case hb => exact rfl
    case hk => exact kindsX rfl
    case hm => exact fun _ => rfl
    case hcm => exact fun _ => rfl
    case c1 => exact rfl
    case c2 => exact rfl
    case c3 => exact rfl
    intro L h₁ tk₁ E' hL F
    have Vm := F.loc (x := Str.ofString "many") (v := .int (many : Int) tm) rfl rfl
    have cs := F.cell (Str.ofString "size") (L + 1) rfl
    refine wpAny_execs_cons (wpAny_If (wpAny_isTrue_Compare1 (nm_var (.cell (L + 1) (by exact .inl rfl) (by rfl) cs) (wpAny_Constant_int (eq_int (wpAny_truthy_bool ?_))))))
    rw [if_neg (by have : ¬ ((k + 1 : Nat) : Int) = 0 := by omega
                   simpa using this)]
    refine wpAny_execs_nil ?_
    refine wpAny_execs_cons (wpAny_Return_some ?_)
    have G₁ := G.keeps F.keep
    rw [eval_ListComp]
    refine wpAny_comprehension_free (cl := [(Str.ofString "size", L + 1)]) (use := none) rfl (fun _ => rfl) rfl rfl (by decide) ?_
    refine call_type G₁ n_range b_range (spliced_more (wpAny_BinOp (nm_var (.cell (L + 1) (by exact .inl rfl) (by rfl) cs) (wpAny_Constant_int (sub_int (spliced_more (nm_var Vm (spliced_none ?_)))))))) 
    have e1 : ((k + 1 : Nat) : Int) - 1 = (k : Int) := by omega
    rw [e1]
    refine range_iter2 (n := many - k) rfl (by omega) (by omega) fun I h₂ tk₂ k₂ hI st₂ => ?_
    refine two_block (Lr := fun i => lots k (k + i)) (by exact hA) st₂ rfl (fun _ => rfl) (fun _ => rfl) (fun _ => rfl) (by decide) (fun _ _ => rfl) ?_ ?_ ?_ ?_
    · intro C i t s₃ E'' hi Vl hk₃
      have u₃ : ∀ a o, h₁.get? a = some o → s₃.heap.get? a = some o := fun a o e => hk₃ a o (fun q => by have hI' : h₁.get? I = none := hI; rw [q, hI'] at e; cases e) (k₂ a o e)
      have G₃ := G₁.keeps u₃
      refine call_def G₃ n_lots lk65 (spliced_more (nm_var Vl (spliced_more (wpAny_BinOp (nm_var (.cell (L + 1) (by exact .inl rfl) (by rfl) (cs.keeps u₃)) (wpAny_Constant_int (sub_int (spliced_none ⟨G₃, ?_⟩))))))))
      rw [e1]
      refine ih (s := { s₃ with toks := _ }) G₃ (by exact hA) (by show A.depth + 1 + k < recursionLimit; omega) (by omega) (by omega) fun D ys h' tk' hD hL hys hk' => ?_
      exact ⟨D, ys, rfl, ⟨h', tk', rfl, fun a o _ e => hk' a o e⟩, hD, hL, hys⟩
    · intro C i t v ns s₃ E'' hi Vl Vlot R hm
      obtain ⟨T, vs, rfl, hT, hI⟩ := R
      have hns : ns.length = k := (lots_len k (by omega) (k + i) (by omega)).2 ns hm
      have hvs : vs.length ≤ 3 := by
        have := hI.length
        rw [List.length_map] at this
        omega
      refine wpAny_BinOp (nm_var Vlot (Tuple_ (spliced_more (nm_var Vl (spliced_none (wpAny_newObj_type ?_ ?_))))))
      · have up : ∀ a o, s₃.heap.get? a = some o → (s₃.heap.push { cls := .type "tuple", data := .seq [Value.int ((k + i : Nat) : Int) t].toArray }).get? a = some o := fun a o e => Heap.get?_push_of_some _ e
        have hb : IsTup (s₃.heap.push { cls := .type "tuple", data := .seq [Value.int ((k + i : Nat) : Int) t].toArray }) s₃.heap.objs.size [Value.int ((k + i : Nat) : Int) t].toArray := ⟨_, Heap.get?_push_size _ rfl, rfl, _, rfl⟩
        have hT' : IsTup (s₃.heap.push { cls := .type "tuple", data := .seq [Value.int ((k + i : Nat) : Int) t].toArray }) T vs.toArray := IsTup.keeps hT up
        have hI1 : IntsAre [Value.int ((k + i : Nat) : Int) t] ([k + i].map Int.ofNat) := .cons _ _ .nil
        refine add_tup hT' hb (by simp) (fun e => ⟨⟨_, _, rfl, fun a o _ e => up a o e⟩, ?_⟩) (fun h' hk' hT2 => ⟨⟨_, _, rfl, fun a o _ e => hk' a o (up a o e)⟩, ?_⟩) (by rw [PySem.sizeLine_eq]; simp; omega)
        · subst e
          have : ns = [] := by cases ns with
            | nil => rfl
            | cons a b => cases hI
          subst this
          exact ⟨_, _, rfl, hb, hI1⟩
        · exact ⟨_, _, rfl, hT2, by rw [List.map_append]; exact hI.append hI1⟩
      · show 1 ≤ sizeLine; rw [PySem.sizeLine_eq]; omega
    · intro i hi
      have := (lots_len (k + 1) hk (k + i + 1) (by omega)).1
      rw [lots, show k + i + 1 - k = i + 1 by omega] at this
      exact this
    · intro D C h' tk' ys hD hC hDC hns hL hys hk'
      obtain ⟨m, hn⟩ := hns
      refine ⟨m, hn, fun h'' hs'' => ?_⟩
      have f : s.heap.get? D = none := by
        cases q : s.heap.get? D with
        | none => rfl
        | some o => have := k₂ _ _ (F.keep _ _ q); rw [show h₂.get? D = none from hD] at this; cases this
      have fC : ∀ a o, s.heap.get? a = some o → a ≠ C := fun a o e q => by
        have := k₂ _ _ (F.keep _ _ e)
        rw [q, show h₂.get? C = none from hC] at this; cases this
      have kk : ∀ a o, a ≠ C → h'.get? a = some o → h''.get? a = some o := fun a o ha e => hs''.extBut a o ha e
      refine h D ys h'' _ f ?_ (hys.off (P := fun a => a = C) (fun a q => q ▸ noTup_ns hn) kk) fun a o e => kk a o (fC a o e) (hk' a o (fun q => ?_) (k₂ a o (F.keep a o e)))
      · obtain ⟨o, e, r⟩ := hL; exact ⟨o, kk _ o hDC e, r⟩
      · have := F.keep a o e
        have hI' : h₁.get? I = none := hI
        rw [q, hI'] at this; cases this
end
end Mine

namespace Mine

def minorF (f : Nat → Nat → Int) (c : Nat) : Nat → Nat → Int := fun i j => f (i + 1) (if j < c then j else j + 1)
/-- the determinant, by the first row -/
def dt : Nat → (Nat → Nat → Int) → Int
  | 0, _ => 1
  | n + 1, f => isum (n + 1) fun c => (if c % 2 = 0 then 1 else -1) * f 0 c * dt n (minorF f c)

theorem isum_congr {n : Nat} {f g : Nat → Int} (h : ∀ i, i < n → f i = g i) : isum n f = isum n g := by
  induction n with
  | zero => rfl
  | succ n ih => rw [isum, isum, ih fun i hi => h i (Nat.lt_succ_of_lt hi), h n (Nat.lt_succ_self n)]
theorem dt_congr : ∀ (n : Nat) (f g : Nat → Nat → Int), (∀ i j, i < n → j < n → f i j = g i j) → dt n f = dt n g
  | 0, _, _, _ => rfl
  | n + 1, f, g, h => by
    rw [dt, dt]
    refine isum_congr fun c hc => ?_
    rw [h 0 c (Nat.succ_pos n) hc, dt_congr n (minorF f c) (minorF g c) fun i j hi hj => h _ _ (by omega) (by split <;> omega)]
theorem isum_bound {n : Nat} {f : Nat → Int} {B : Int} (h : ∀ i, i < n → -B ≤ f i ∧ f i ≤ B) : -(n * B) ≤ isum n f ∧ isum n f ≤ n * B := by
  induction n with
  | zero => simp [isum]
  | succ n ih =>
    have := ih fun i hi => h i (Nat.lt_succ_of_lt hi)
    have h2 := h n (Nat.lt_succ_self n)
    rw [isum]
    have e : ((n + 1 : Nat) : Int) * B = n * B + B := by rw [Int.natCast_add]; grind
    omega
def dtB (b : Int) : Nat → Int
  | 0 => 1
  | n + 1 => (n + 1 : Nat) * (b * dtB b n)
theorem mul_bound {a b B C : Int} (ha : -B ≤ a ∧ a ≤ B) (hb : -C ≤ b ∧ b ≤ C) : -(B * C) ≤ a * b ∧ a * b ≤ B * C := by
  have h1 : 0 ≤ (B - a) * (C - b) := Int.mul_nonneg (by omega) (by omega)
  have h2 : 0 ≤ (B + a) * (C + b) := Int.mul_nonneg (by omega) (by omega)
  have h3 : 0 ≤ (B - a) * (C + b) := Int.mul_nonneg (by omega) (by omega)
  have h4 : 0 ≤ (B + a) * (C - b) := Int.mul_nonneg (by omega) (by omega)
  constructor <;> grind
theorem dt_bound (b : Int) : ∀ (n : Nat) (f : Nat → Nat → Int), (∀ i j, i < n → j < n → -b ≤ f i j ∧ f i j ≤ b) → -(dtB b n) ≤ dt n f ∧ dt n f ≤ dtB b n
  | 0, _, _ => by simp [dt, dtB]
  | n + 1, f, h => by
    rw [dt, dtB]
    refine isum_bound fun c hc => ?_
    have h1 := h 0 c (Nat.succ_pos n) hc
    have h2 := dt_bound b n (minorF f c) fun i j hi hj => h _ _ (by omega) (by split <;> omega)
    refine mul_bound ?_ h2
    split <;> omega
theorem dt_zero : ∀ (n : Nat) (f : Nat → Nat → Int), (∀ i, i < n + 1 → f i 0 = 0) → dt (n + 1) f = 0
  | 0, f, h => by simp [dt, isum, h 0]
  | n + 1, f, h => by
    rw [dt]
    have : ∀ c, c < n + 1 + 1 → (if c % 2 = 0 then 1 else -1) * f 0 c * dt (n + 1) (minorF f c) = (fun _ => (0 : Int)) c := fun c hc => by
      cases c with
      | zero => rw [h 0 (Nat.succ_pos _)]; simp
      | succ c =>
        rw [dt_zero n (minorF f (c + 1)) fun i hi => by
          show f (i + 1) (if 0 < c + 1 then 0 else 0 + 1) = 0
          rw [if_pos (Nat.succ_pos c)]; exact h (i + 1) (by omega)]
        simp
    rw [isum_congr this]
    have z : ∀ n, isum n (fun _ => (0 : Int)) = 0 := fun n => by
      induction n with
      | zero => rfl
      | succ n ih => rw [isum, ih]; rfl
    exact z _
theorem isum_smul {n : Nat} {f : Nat → Int} {c : Int} : isum n (fun i => c * f i) = c * isum n f := by
  induction n with
  | zero => simp [isum]
  | succ n ih => rw [isum, isum, ih]; grind
theorem dt_smul (k : Int) : ∀ (n : Nat) (f : Nat → Nat → Int), dt n (fun i j => k * f i j) = k ^ n * dt n f
  | 0, _ => by simp [dt]
  | n + 1, f => by
    rw [dt, dt, ← isum_smul]
    refine isum_congr fun c hc => ?_
    have : dt n (minorF (fun i j => k * f i j) c) = k ^ n * dt n (minorF f c) := dt_smul k n (minorF f c)
    rw [this]; grind

set_option maxHeartbeats 4000000
set_option maxRecDepth 100000
def bord (p : Int) (y z : Nat → Int) (x : Nat → Nat → Int) : Nat → Nat → Int := fun i j => if i = 0 then (if j = 0 then p else z (j - 1)) else if j = 0 then y (i - 1) else x (i - 1) (j - 1)
def det3 (a b c d e f g h i : Int) : Int := a * (e * i - f * h) - b * (d * i - f * g) + c * (d * h - e * g)
theorem dt3e (f : Nat → Nat → Int) : dt 3 f = det3 (f 0 0) (f 0 1) (f 0 2) (f 1 0) (f 1 1) (f 1 2) (f 2 0) (f 2 1) (f 2 2) := by
  simp [dt, isum, minorF, det3]; grind
def det4 (a b c d e f g h i j k l m n o p : Int) : Int := a * det3 f g h j k l n o p - b * det3 e g h i k l m o p + c * det3 e f h i j l m n p - d * det3 e f g i j k m n o
theorem dt4e (f : Nat → Nat → Int) : dt 4 f = det4 (f 0 0) (f 0 1) (f 0 2) (f 0 3) (f 1 0) (f 1 1) (f 1 2) (f 1 3) (f 2 0) (f 2 1) (f 2 2) (f 2 3) (f 3 0) (f 3 1) (f 3 2) (f 3 3) := by
  have e : dt 4 f = 0 + 1 * f 0 0 * dt 3 (minorF f 0) + (-1) * f 0 1 * dt 3 (minorF f 1) + 1 * f 0 2 * dt 3 (minorF f 2) + (-1) * f 0 3 * dt 3 (minorF f 3) := rfl
  rw [e, dt3e, dt3e, dt3e, dt3e]
  show 0 + 1 * f 0 0 * det3 (f 1 1) (f 1 2) (f 1 3) (f 2 1) (f 2 2) (f 2 3) (f 3 1) (f 3 2) (f 3 3) + (-1) * f 0 1 * det3 (f 1 0) (f 1 2) (f 1 3) (f 2 0) (f 2 2) (f 2 3) (f 3 0) (f 3 2) (f 3 3)
    + 1 * f 0 2 * det3 (f 1 0) (f 1 1) (f 1 3) (f 2 0) (f 2 1) (f 2 3) (f 3 0) (f 3 1) (f 3 3) + (-1) * f 0 3 * det3 (f 1 0) (f 1 1) (f 1 2) (f 2 0) (f 2 1) (f 2 2) (f 3 0) (f 3 1) (f 3 2) = _
  unfold det4
  grind
theorem dt5e (f : Nat → Nat → Int) : dt 5 f =
    f 0 0 * det4 (f 1 1) (f 1 2) (f 1 3) (f 1 4) (f 2 1) (f 2 2) (f 2 3) (f 2 4) (f 3 1) (f 3 2) (f 3 3) (f 3 4) (f 4 1) (f 4 2) (f 4 3) (f 4 4)
    - f 0 1 * det4 (f 1 0) (f 1 2) (f 1 3) (f 1 4) (f 2 0) (f 2 2) (f 2 3) (f 2 4) (f 3 0) (f 3 2) (f 3 3) (f 3 4) (f 4 0) (f 4 2) (f 4 3) (f 4 4)
    + f 0 2 * det4 (f 1 0) (f 1 1) (f 1 3) (f 1 4) (f 2 0) (f 2 1) (f 2 3) (f 2 4) (f 3 0) (f 3 1) (f 3 3) (f 3 4) (f 4 0) (f 4 1) (f 4 3) (f 4 4)
    - f 0 3 * det4 (f 1 0) (f 1 1) (f 1 2) (f 1 4) (f 2 0) (f 2 1) (f 2 2) (f 2 4) (f 3 0) (f 3 1) (f 3 2) (f 3 4) (f 4 0) (f 4 1) (f 4 2) (f 4 4)
    + f 0 4 * det4 (f 1 0) (f 1 1) (f 1 2) (f 1 3) (f 2 0) (f 2 1) (f 2 2) (f 2 3) (f 3 0) (f 3 1) (f 3 2) (f 3 3) (f 4 0) (f 4 1) (f 4 2) (f 4 3) := by
  have e : dt 5 f = 0 + 1 * f 0 0 * dt 4 (minorF f 0) + (-1) * f 0 1 * dt 4 (minorF f 1) + 1 * f 0 2 * dt 4 (minorF f 2) + (-1) * f 0 3 * dt 4 (minorF f 3) + 1 * f 0 4 * dt 4 (minorF f 4) := rfl
  rw [e, dt4e, dt4e, dt4e, dt4e, dt4e]
  show 0 + 1 * f 0 0 * det4 (f 1 1) (f 1 2) (f 1 3) (f 1 4) (f 2 1) (f 2 2) (f 2 3) (f 2 4) (f 3 1) (f 3 2) (f 3 3) (f 3 4) (f 4 1) (f 4 2) (f 4 3) (f 4 4)
    + (-1) * f 0 1 * det4 (f 1 0) (f 1 2) (f 1 3) (f 1 4) (f 2 0) (f 2 2) (f 2 3) (f 2 4) (f 3 0) (f 3 2) (f 3 3) (f 3 4) (f 4 0) (f 4 2) (f 4 3) (f 4 4)
    + 1 * f 0 2 * det4 (f 1 0) (f 1 1) (f 1 3) (f 1 4) (f 2 0) (f 2 1) (f 2 3) (f 2 4) (f 3 0) (f 3 1) (f 3 3) (f 3 4) (f 4 0) (f 4 1) (f 4 3) (f 4 4)
    + (-1) * f 0 3 * det4 (f 1 0) (f 1 1) (f 1 2) (f 1 4) (f 2 0) (f 2 1) (f 2 2) (f 2 4) (f 3 0) (f 3 1) (f 3 2) (f 3 4) (f 4 0) (f 4 1) (f 4 2) (f 4 4)
    + 1 * f 0 4 * det4 (f 1 0) (f 1 1) (f 1 2) (f 1 3) (f 2 0) (f 2 1) (f 2 2) (f 2 3) (f 3 0) (f 3 1) (f 3 2) (f 3 3) (f 4 0) (f 4 1) (f 4 2) (f 4 3) = _
  grind
theorem chio (p : Int) (x : Nat → Nat → Int) (y z : Nat → Int) : ∀ r, r < 4 → dt (r + 1) (fun i j => p * x i j - y i * z j) = p ^ r * dt (r + 2) (bord p y z x) := by
  intro r hr
  have : r = 0 ∨ r = 1 ∨ r = 2 ∨ r = 3 := by omega
  rcases this with rfl | rfl | rfl | rfl
  · simp [dt, isum, minorF, bord]; grind
  · have e3 : dt 3 (bord p y z x) = det3 p (z 0) (z 1) (y 0) (x 0 0) (x 0 1) (y 1) (x 1 0) (x 1 1) := dt3e _
    show dt 2 _ = p ^ 1 * dt 3 _
    rw [e3]
    unfold det3
    simp [dt, isum, minorF]; grind
  · have e4 : dt 4 (bord p y z x) = det4 p (z 0) (z 1) (z 2) (y 0) (x 0 0) (x 0 1) (x 0 2) (y 1) (x 1 0) (x 1 1) (x 1 2) (y 2) (x 2 0) (x 2 1) (x 2 2) := dt4e _
    have e3 : dt 3 (fun i j => p * x i j - y i * z j) = det3 (p * x 0 0 - y 0 * z 0) (p * x 0 1 - y 0 * z 1) (p * x 0 2 - y 0 * z 2) (p * x 1 0 - y 1 * z 0) (p * x 1 1 - y 1 * z 1) (p * x 1 2 - y 1 * z 2) (p * x 2 0 - y 2 * z 0) (p * x 2 1 - y 2 * z 1) (p * x 2 2 - y 2 * z 2) := dt3e _
    show dt 3 _ = p ^ 2 * dt 4 _
    rw [e3, e4]
    unfold det4 det3
    grind
  · have e5 : dt 5 (bord p y z x) = p * det4 (x 0 0) (x 0 1) (x 0 2) (x 0 3) (x 1 0) (x 1 1) (x 1 2) (x 1 3) (x 2 0) (x 2 1) (x 2 2) (x 2 3) (x 3 0) (x 3 1) (x 3 2) (x 3 3) - (z 0) * det4 (y 0) (x 0 1) (x 0 2) (x 0 3) (y 1) (x 1 1) (x 1 2) (x 1 3) (y 2) (x 2 1) (x 2 2) (x 2 3) (y 3) (x 3 1) (x 3 2) (x 3 3) + (z 1) * det4 (y 0) (x 0 0) (x 0 2) (x 0 3) (y 1) (x 1 0) (x 1 2) (x 1 3) (y 2) (x 2 0) (x 2 2) (x 2 3) (y 3) (x 3 0) (x 3 2) (x 3 3) - (z 2) * det4 (y 0) (x 0 0) (x 0 1) (x 0 3) (y 1) (x 1 0) (x 1 1) (x 1 3) (y 2) (x 2 0) (x 2 1) (x 2 3) (y 3) (x 3 0) (x 3 1) (x 3 3) + (z 3) * det4 (y 0) (x 0 0) (x 0 1) (x 0 2) (y 1) (x 1 0) (x 1 1) (x 1 2) (y 2) (x 2 0) (x 2 1) (x 2 2) (y 3) (x 3 0) (x 3 1) (x 3 2) := dt5e _
    have e4 : dt 4 (fun i j => p * x i j - y i * z j) = det4 (p * x 0 0 - y 0 * z 0) (p * x 0 1 - y 0 * z 1) (p * x 0 2 - y 0 * z 2) (p * x 0 3 - y 0 * z 3) (p * x 1 0 - y 1 * z 0) (p * x 1 1 - y 1 * z 1) (p * x 1 2 - y 1 * z 2) (p * x 1 3 - y 1 * z 3) (p * x 2 0 - y 2 * z 0) (p * x 2 1 - y 2 * z 1) (p * x 2 2 - y 2 * z 2) (p * x 2 3 - y 2 * z 3) (p * x 3 0 - y 3 * z 0) (p * x 3 1 - y 3 * z 1) (p * x 3 2 - y 3 * z 2) (p * x 3 3 - y 3 * z 3) := dt4e _
    show dt 4 _ = p ^ 3 * dt 5 _
    rw [e4, e5]
    unfold det4 det3
    grind

theorem swap01 (f : Nat → Nat → Int) : ∀ n, n ≤ 3 → dt (n + 2) (swapR f 1 0) = - dt (n + 2) f := by
  intro n hn
  have h1 : n = 0 ∨ n = 1 ∨ n = 2 ∨ n = 3 := by omega
  have e : ∀ i j, swapR f 1 0 (i + 2) j = f (i + 2) j := fun i j => rfl
  have e0 : ∀ j, swapR f 1 0 0 j = f 1 j := fun j => rfl
  have e1 : ∀ j, swapR f 1 0 1 j = f 0 j := fun j => rfl
  have m : ∀ c d k, dt k (minorF (minorF (swapR f 1 0) c) d) = dt k (minorF (minorF f c) d) := fun c d k => rfl
  have sym : ∀ c d k, c ≤ d → dt k (minorF (minorF f (d + 1)) c) = dt k (minorF (minorF f c) d) := fun c d k h => dt_congr _ _ _ fun i j _ _ => by
    unfold minorF
    congr 1
    grind
  have two : ∀ (g : Nat → Nat → Int) k, dt (k + 2) g = isum (k + 2) fun c => isum (k + 1) fun d => ((if c % 2 = 0 then 1 else -1) * (if d % 2 = 0 then 1 else -1)) * (g 0 c * g 1 (if d < c then d else d + 1)) * dt k (minorF (minorF g c) d) := fun g k => by
    rw [dt]
    refine isum_congr fun c hc => ?_
    rw [dt, ← isum_smul]
    refine isum_congr fun d hd => ?_
    show _ * (_ * g 1 (if d < c then d else d + 1) * _) = _
    grind
  rw [two, two]
  simp only [m, e0, e1]
  rcases h1 with rfl | rfl | rfl | rfl
  · simp [isum]
    rw [sym 0 0 0 (by omega)]
    grind
  · simp [isum]
    rw [sym 0 0 1 (by omega), sym 0 1 1 (by omega), sym 1 1 1 (by omega)]
    grind
  · simp [isum]
    rw [sym 0 0 2 (by omega), sym 0 1 2 (by omega), sym 1 1 2 (by omega), sym 0 2 2 (by omega), sym 1 2 2 (by omega), sym 2 2 2 (by omega)]
    grind
  · simp [isum]
    rw [sym 0 0 3 (by omega), sym 0 1 3 (by omega), sym 1 1 3 (by omega), sym 0 2 3 (by omega), sym 1 2 3 (by omega), sym 2 2 3 (by omega), sym 0 3 3 (by omega), sym 1 3 3 (by omega), sym 2 3 3 (by omega), sym 3 3 3 (by omega)]
    grind
theorem isum_neg {n : Nat} {f : Nat → Int} : isum n (fun i => - f i) = - isum n f := by
  induction n with
  | zero => rfl
  | succ n ih => rw [isum, isum, ih]; omega
theorem swap_down (f : Nat → Nat → Int) (n a b : Nat) (h : ∀ g, dt n (swapR g a b) = - dt n g) : dt (n + 1) (swapR f (a + 1) (b + 1)) = - dt (n + 1) f := by
  rw [dt, dt, ← isum_neg]
  refine isum_congr fun c hc => ?_
  have e : minorF (swapR f (a + 1) (b + 1)) c = swapR (minorF f c) a b := by
    funext i j
    unfold minorF swapR
    by_cases h1 : i = a
    · rw [if_pos (by omega), if_pos h1]
    · rw [if_neg (by omega), if_neg h1]
      by_cases h2 : i = b
      · rw [if_pos (by omega), if_pos h2]
      · rw [if_neg (by omega), if_neg h2]
  rw [e, h, show swapR f (a + 1) (b + 1) 0 c = f 0 c from rfl]
  grind
theorem swap_sign : ∀ n, n ≤ 5 → ∀ a, a < n → ∀ b, b < a → ∀ f, dt n (swapR f a b) = - dt n f
  | 0, _, a, ha, _, _, _ => absurd ha (Nat.not_lt_zero a)
  | n + 1, hn, a, ha, b, hb, f => by
    have up : ∀ a b, a < n + 1 → b < a → 0 < b → ∀ f, dt (n + 1) (swapR f a b) = - dt (n + 1) f := fun a b h1 h2 h3 f => by
      cases a with
      | zero => omega
      | succ a =>
        cases b with
        | zero => omega
        | succ b => exact swap_down f n a b fun g => swap_sign n (by omega) a (by omega) b (by omega) g
    have base : ∀ f, dt (n + 1) (swapR f 1 0) = - dt (n + 1) f := fun f => by
      obtain ⟨k, rfl⟩ : ∃ k, n = k + 1 := ⟨n - 1, by omega⟩
      exact swap01 f k (by omega)
    by_cases h0 : 0 < b
    · exact up a b ha hb h0 f
    · have hb0 : b = 0 := by omega
      subst hb0
      by_cases h1 : a = 1
      · subst h1; exact base f
      · have e : swapR f a 0 = swapR (swapR (swapR f a 1) 1 0) a 1 := by
          funext i j
          unfold swapR
          have n0 : ¬ 0 = a := by omega
          have n1 : ¬ 1 = a := by omega
          by_cases q1 : i = a
          · simp [q1, n0]
          · by_cases q2 : i = 0
            · simp [q2, n0, n1]
            · by_cases q3 : i = 1
              · simp [q2, q3, n0, n1, h1, show ¬ a = 0 by omega]
              · simp [q1, q2, q3]
        rw [e, up a 1 ha (by omega) (by omega), base, up a 1 ha (by omega) (by omega)]
        omega
end Mine

namespace Mine

def sub (g : Nat → Nat → Int) (R C : Nat → Nat) : Nat → Nat → Int := fun i j => g (R i) (C j)
def ext (st : Nat) (R : Nat → Nat) : Nat → Nat := fun i => if i < st then i else R (i - st)
def consN (st : Nat) (R : Nat → Nat) : Nat → Nat := fun i => if i = 0 then st else R (i - 1)
def Bd (B : Int) (n : Nat) (f : Nat → Nat → Int) : Prop := ∀ i j, i < n → j < n → -B ≤ f i j ∧ f i j ≤ B
structure BInv (n : Nat) (f : Nat → Nat → Int) (A : Nat → Nat → Int) (st : Nat) (g : Nat → Nat → Int) (sg ah : Int) : Prop where
  hA : Bd 100 n A
  hs : sg * dt n A = dt n f
  hs1 : sg = 1 ∨ sg = -1
  h0 : ah ≠ 0
  hh : ah = dt st A
  hm : ∀ r R C, r + 1 ≤ n - st → (∀ i, i < r + 1 → st ≤ R i ∧ R i < n) → (∀ i, i < r + 1 → st ≤ C i ∧ C i < n) → dt (r + 1) (sub g R C) = dt (st + (r + 1)) (sub A (ext st R) (ext st C)) * ah ^ r
  hb : Bd (2 ^ 62) n g

theorem dtB5 : ∀ n, n ≤ 5 → dtB 100 n ≤ 2 ^ 62 ∧ 0 ≤ dtB 100 n := by decide
theorem minor_bd {n m : Nat} {A : Nat → Nat → Int} {R C : Nat → Nat} (hA : Bd 100 n A) (hm : m ≤ 5) (hR : ∀ i, i < m → R i < n) (hC : ∀ i, i < m → C i < n) : -(2 ^ 62) ≤ dt m (sub A R C) ∧ dt m (sub A R C) ≤ 2 ^ 62 := by
  have := dt_bound 100 m (sub A R C) fun i j hi hj => hA _ _ (hR i hi) (hC j hj)
  have h5 := (dtB5 m hm).1
  omega

theorem BInv.start {n : Nat} {f : Nat → Nat → Int} (hf : Bd 100 n f) : BInv n f f 0 f 1 1 where
  hA := hf
  hs := by simp
  hs1 := .inl rfl
  h0 := by decide
  hh := rfl
  hm := fun r R C hr hR hC => by
    rw [Int.one_pow, Int.mul_one, Nat.zero_add]
    rfl
  hb := fun i j hi hj => by have := hf i j hi hj; omega

theorem BInv.swap {n : Nat} {f A g : Nat → Nat → Int} {st row : Nat} {sg ah : Int} (I : BInv n f A st g sg ah) (hn : n ≤ 5) (hst : st ≤ row) (hrow : row < n) :
    BInv n f (swapR A row st) st (swapR g row st) (if row = st then sg else -sg) ah := by
  by_cases q : row = st
  · subst q
    rw [swapR_self, swapR_self, if_pos rfl]
    exact I
  · have sw : ∀ (h : Nat → Nat → Int) i j, swapR h row st i j = h (if i = row then st else if i = st then row else i) j := fun h i j => by
      unfold swapR; split
      · rfl
      · split <;> rfl
    rw [if_neg q]
    refine ⟨fun i j hi hj => ?_, ?_, ?_, I.h0, ?_, fun r R C hr hR hC => ?_, fun i j hi hj => ?_⟩
    · rw [sw]; exact I.hA _ _ (by split; omega; split <;> omega) hj
    · rw [swap_sign n hn row hrow st (by omega) A, ← I.hs]; grind
    · rcases I.hs1 with h | h <;> omega
    · rw [I.hh]
      exact dt_congr _ _ _ fun i j hi hj => by rw [sw, if_neg (by omega), if_neg (by omega)]
    · have e1 : dt (r + 1) (sub (swapR g row st) R C) = dt (r + 1) (sub g (fun i => if R i = row then st else if R i = st then row else R i) C) := dt_congr _ _ _ fun i j hi hj => sw _ _ _
      rw [e1, I.hm r _ C hr (fun i hi => by have := hR i hi; split; omega; split <;> omega) hC]
      congr 1
      refine dt_congr _ _ _ fun i j hi hj => ?_
      show A _ _ = swapR A row st _ _
      rw [sw]
      congr 1
      unfold ext
      by_cases h : i < st
      · rw [if_pos h, if_pos h, if_neg (by omega), if_neg (by omega)]
      · rw [if_neg h, if_neg h]
    · rw [sw]; exact I.hb _ _ (by split; omega; split <;> omega) hj

theorem sub_ext_cons {A : Nat → Nat → Int} {st r : Nat} {R C : Nat → Nat} : dt (st + (r + 1)) (sub A (ext st (consN st R)) (ext st (consN st C))) = dt (st + 1 + r) (sub A (ext (st + 1) R) (ext (st + 1) C)) := by
  rw [show st + (r + 1) = st + 1 + r by omega]
  have e : ∀ (R : Nat → Nat) i, ext st (consN st R) i = ext (st + 1) R i := fun R i => by
    unfold ext consN
    by_cases h : i < st
    · rw [if_pos h, if_pos (by omega)]
    · rw [if_neg h]
      by_cases h2 : i = st
      · rw [if_pos (by omega), if_pos (by omega), h2]
      · rw [if_neg (by omega), if_neg (by omega)]
        congr 1
  exact dt_congr _ _ _ fun i j _ _ => by show A _ _ = A _ _; rw [e, e]

theorem BInv.step {n : Nat} {f A g : Nat → Nat → Int} {st : Nat} {sg ah : Int} (I : BInv n f A st g sg ah) (hn : n ≤ 5) (hst : st < n) (hp : g st st ≠ 0) : BInv n f A (st + 1) (elim g st ah) sg (g st st) := by
  -- the minors that stand one up
  have up : ∀ r R C, r < n - st → (∀ i, i < r → st ≤ R i ∧ R i < n) → (∀ i, i < r → st ≤ C i ∧ C i < n) →
      dt (r + 1) (bord (g st st) (fun i => g (R i) st) (fun j => g st (C j)) (sub g R C)) = dt (st + 1 + r) (sub A (ext (st + 1) R) (ext (st + 1) C)) * ah ^ r := by
    intro r R C hr hR hC
    rw [← sub_ext_cons, ← I.hm r (consN st R) (consN st C) (by omega) (fun i hi => ?_) (fun i hi => ?_)]
    · refine dt_congr _ _ _ fun i j hi hj => ?_
      unfold bord sub consN
      by_cases h1 : i = 0 <;> by_cases h2 : j = 0 <;> simp [h1, h2]
    · unfold consN; split
      · omega
      · exact hR _ (by omega)
    · unfold consN; split
      · omega
      · exact hC _ (by omega)
  have piv : g st st = dt (st + 1) A := by
    have := up 0 (fun _ => 0) (fun _ => 0) (by omega) (fun i hi => by omega) (fun i hi => by omega)
    rw [Int.pow_zero, Int.mul_one] at this
    have e1 : dt (0 + 1) (bord (g st st) (fun i => g 0 st) (fun j => g st 0) (sub g (fun _ => 0) fun _ => 0)) = g st st := by simp [dt, isum, bord]
    rw [e1] at this
    rw [this]
    exact dt_congr _ _ _ fun i j hi hj => by unfold sub ext; rw [if_pos (by omega), if_pos (by omega)]
  have ex : ∀ i j, st < i → i < n → st < j → j < n → g i j * g st st - g i st * g st j = ah * dt (st + 1 + 1) (sub A (ext (st + 1) fun _ => i) (ext (st + 1) fun _ => j)) := by
    intro i j h1 h2 h3 h4
    have := up 1 (fun _ => i) (fun _ => j) (by omega) (fun _ _ => by omega) (fun _ _ => by omega)
    rw [Int.mul_comm ah, ← Int.pow_one ah, Int.pow_one ah] 
    have e1 : dt (1 + 1) (bord (g st st) (fun _ => g i st) (fun _ => g st j) (sub g (fun _ => i) fun _ => j)) = g i j * g st st - g i st * g st j := by simp [dt, isum, minorF, bord, sub]; grind
    rw [e1] at this
    rw [this]; grind
  have el : ∀ i j, st < i → i < n → st < j → j < n → elim g st ah i j = dt (st + 1 + 1) (sub A (ext (st + 1) fun _ => i) (ext (st + 1) fun _ => j)) := by
    intro i j h1 h2 h3 h4
    unfold elim
    rw [if_neg (by omega), if_neg (by omega), if_neg (by omega), ex i j h1 h2 h3 h4, Int.mul_fdiv_cancel_left _ I.h0]
  have el2 : ∀ i j, st < i → i < n → st < j → j < n → ah * elim g st ah i j = g st st * g i j - g i st * g st j := by
    intro i j h1 h2 h3 h4
    rw [el i j h1 h2 h3 h4, ← ex i j h1 h2 h3 h4]; grind
  refine ⟨I.hA, I.hs, I.hs1, hp, piv, fun r R C hr hR hC => ?_, fun i j hi hj => ?_⟩
  · have hR' : ∀ i, i < r + 1 → st ≤ R i ∧ R i < n := fun i hi => by have := hR i hi; omega
    have hC' : ∀ i, i < r + 1 → st ≤ C i ∧ C i < n := fun i hi => by have := hC i hi; omega
    have h1 : ah ^ (r + 1) * dt (r + 1) (sub (elim g st ah) R C) = (g st st) ^ r * (dt (st + 1 + (r + 1)) (sub A (ext (st + 1) R) (ext (st + 1) C)) * ah ^ (r + 1)) := by
      rw [← dt_smul, ← up (r + 1) R C (by omega) hR' hC', ← chio (g st st) (sub g R C) (fun i => g (R i) st) (fun j => g st (C j)) r (by omega)]
      exact dt_congr _ _ _ fun i j hi hj => el2 (R i) (C j) (by have := hR i hi; omega) (hR i hi).2 (by have := hC j hj; omega) (hC j hj).2
    have h2 : ah ^ (r + 1) ≠ 0 := Int.pow_ne_zero I.h0
    refine Int.eq_of_mul_eq_mul_left h2 ?_
    rw [h1]; grind
  · by_cases h1 : i ≤ st
    · unfold elim; rw [if_pos h1]; exact I.hb i j hi hj
    · by_cases h2 : j < st
      · unfold elim; rw [if_neg h1, if_pos h2]; exact I.hb i j hi hj
      · by_cases h3 : j = st
        · unfold elim; rw [if_neg h1, if_neg h2, if_pos h3]; decide
        · rw [el i j (by omega) hi (by omega) hj]
          refine minor_bd I.hA (by omega) (fun k hk => ?_) (fun k hk => ?_) <;> (unfold ext; split <;> omega)

theorem BInv.zero {n : Nat} {f A g : Nat → Nat → Int} {st : Nat} {sg ah : Int} (I : BInv n f A st g sg ah) (hst : st < n) (hz : ∀ i, st ≤ i → i < n → g i st = 0) : dt n f = 0 := by
  have := I.hm (n - st - 1) (fun i => st + i) (fun i => st + i) (by omega) (fun i hi => by omega) (fun i hi => by omega)
  rw [dt_zero _ _ fun i hi => hz (st + i) (by omega) (by omega)] at this
  have e : st + (n - st - 1 + 1) = n := by omega
  rw [e] at this
  have e2 : dt n (sub A (ext st fun i => st + i) (ext st fun i => st + i)) = dt n A := dt_congr _ _ _ fun i j _ _ => by
    have : ∀ i, ext st (fun i => st + i) i = i := fun i => by unfold ext; dsimp only; split <;> omega
    show A _ _ = A _ _
    rw [this, this]
  rw [e2] at this
  have hz : dt n A = 0 := by
    rcases Int.mul_eq_zero.mp this.symm with h | h
    · exact h
    · exact absurd h (Int.pow_ne_zero I.h0)
  rw [← I.hs, hz, Int.mul_zero]

/-- what the walk of determinant asks -/
theorem bareiss_ok {n : Nat} {f : Nat → Nat → Int} (hn : n ≤ 5) (hf : Bd 100 n f) : ∃ Inv : Nat → (Nat → Nat → Int) → Int → Int → Prop,
    Inv 0 f 1 1 ∧ (∀ st g sg ah, st < n → Inv st g sg ah → (∀ i, st ≤ i → i < n → g i st = 0) → dt n f = 0) ∧
    (∀ st g sg ah row, st < n → Inv st g sg ah → st ≤ row → row < n → g row st ≠ 0 → Inv (st + 1) (elim (swapR g row st) st ah) (if row = st then sg else -sg) (g row st)) ∧
    (∀ st g sg ah, st ≤ n → Inv st g sg ah → ah ≠ 0 ∧ -(2 ^ 62) ≤ ah ∧ ah ≤ 2 ^ 62 ∧ (sg = 1 ∨ sg = -1) ∧ ∀ i j, i < n → j < n → -(2 ^ 62) ≤ g i j ∧ g i j ≤ 2 ^ 62) ∧
    (∀ g sg ah, Inv n g sg ah → sg * ah = dt n f) := by
  refine ⟨fun st g sg ah => ∃ A, BInv n f A st g sg ah, ⟨f, .start hf⟩, fun st g sg ah hst ⟨A, I⟩ hz => I.zero hst hz, fun st g sg ah row hst ⟨A, I⟩ h1 h2 h3 => ?_, fun st g sg ah hst ⟨A, I⟩ => ?_, fun g sg ah ⟨A, I⟩ => by rw [I.hh]; exact I.hs⟩
  · have J := I.swap hn h1 h2
    have e : swapR g row st st st = g row st := by
      unfold swapR
      by_cases q : st = row
      · rw [if_pos q, q]
      · rw [if_neg q, if_pos rfl]
    have := J.step hn hst (by rw [e]; exact h3)
    rw [e] at this
    exact ⟨_, this⟩
  · have hb : -(2 ^ 62) ≤ ah ∧ ah ≤ 2 ^ 62 := by
      rw [I.hh]
      exact minor_bd (m := st) (R := id) (C := id) I.hA (by omega) (fun i hi => by show i < n; omega) (fun i hi => by show i < n; omega)
    exact ⟨I.h0, hb.1, hb.2, I.hs1, I.hb⟩
end Mine

namespace Mine

set_option maxHeartbeats 16000000
set_option maxRecDepth 100000
def lotT (k : Nat) (L : List (List Nat)) (f g : Nat → Nat → Int) (i : Nat) : Int := dt k (fun a b => f a ((L.getD i []).getD b 0)) * dt k (fun a b => g ((L.getD i []).getD a 0) b)
theorem isum3 (F : Nat → Int) : isum 3 F = F 0 + F 1 + F 2 := by simp [isum]
theorem cb2 (f g : Nat → Nat → Int) : ∀ w, 1 ≤ w → w ≤ 4 → isum (lots 2 w).length (lotT 2 (lots 2 w) f g) = dt 2 (fun i j => isum w fun q => f i q * g q j) := by
  intro w h1 h2
  have hw : w = 1 ∨ w = 2 ∨ w = 3 ∨ w = 4 := by omega
  rcases hw with rfl | rfl | rfl | rfl <;> (simp [lots, outs, lotT, dt, isum, minorF]; try grind)
theorem cb32 (f g : Nat → Nat → Int) : isum (lots 3 2).length (lotT 3 (lots 3 2) f g) = dt 3 (fun i j => isum 2 fun q => f i q * g q j) := by
  simp [lots, outs, lotT, dt, isum, minorF]; grind
theorem cb33 (f g : Nat → Nat → Int) : isum (lots 3 3).length (lotT 3 (lots 3 3) f g) = dt 3 (fun i j => isum 3 fun q => f i q * g q j) := by
  simp [lots, outs, lotT, dt, isum, minorF]; grind
theorem cb34 (f g : Nat → Nat → Int) : isum (lots 3 4).length (lotT 3 (lots 3 4) f g) = dt 3 (fun i j => isum 4 fun q => f i q * g q j) := by
  simp [lots, outs, lotT, dt, isum, minorF]; grind
def at3 (a b c : Nat) (i : Nat) : Nat := if i = 0 then a else if i = 1 then b else c
def at4 (a b c d : Nat) (i : Nat) : Nat := if i = 0 then a else if i = 1 then b else if i = 2 then c else d
theorem lotT3 (f g : Nat → Nat → Int) (L : List (List Nat)) (i a b c : Nat) (e : L.getD i [] = [a, b, c]) : lotT 3 L f g i = dt 3 (fun i j => f i (at3 a b c j)) * dt 3 (fun i j => g (at3 a b c i) j) := by
  unfold lotT
  rw [e]
  have h1 : dt 3 (fun a' b' => f a' ([a, b, c].getD b' 0)) = dt 3 (fun i j => f i (at3 a b c j)) := by
    refine dt_congr _ _ _ fun i j hi hj => ?_
    have : j = 0 ∨ j = 1 ∨ j = 2 := by omega
    rcases this with rfl | rfl | rfl <;> rfl
  have h2 : dt 3 (fun a' b' => g ([a, b, c].getD a' 0) b') = dt 3 (fun i j => g (at3 a b c i) j) := by
    refine dt_congr _ _ _ fun i j hi hj => ?_
    have : i = 0 ∨ i = 1 ∨ i = 2 := by omega
    rcases this with rfl | rfl | rfl <;> rfl
  rw [h1, h2]
/-- what a matrix of rank one adds -/
def q3 (X : Nat → Nat → Int) (u v : Nat → Int) : Int :=
  u 0 * v 0 * (X 1 1 * X 2 2 - X 1 2 * X 2 1) - u 0 * v 1 * (X 1 0 * X 2 2 - X 1 2 * X 2 0) + u 0 * v 2 * (X 1 0 * X 2 1 - X 1 1 * X 2 0)
  - u 1 * v 0 * (X 0 1 * X 2 2 - X 0 2 * X 2 1) + u 1 * v 1 * (X 0 0 * X 2 2 - X 0 2 * X 2 0) - u 1 * v 2 * (X 0 0 * X 2 1 - X 0 1 * X 2 0)
  + u 2 * v 0 * (X 0 1 * X 1 2 - X 0 2 * X 1 1) - u 2 * v 1 * (X 0 0 * X 1 2 - X 0 2 * X 1 0) + u 2 * v 2 * (X 0 0 * X 1 1 - X 0 1 * X 1 0)
theorem upd3 (X : Nat → Nat → Int) (u v : Nat → Int) : dt 3 (fun i j => X i j + u i * v j) = dt 3 X + q3 X u v := by
  simp [dt, isum, minorF, q3]; grind
def D2 (f g : Nat → Nat → Int) (a b c : Nat) : Int := dt 3 (fun i j => f i (at3 a b c j)) * dt 3 (fun i j => g (at3 a b c i) j)
theorem q34 (f g : Nat → Nat → Int) (u v : Nat → Int) : q3 (fun i j => isum 4 fun q => f i q * g q j) u v =
    D2 (fun i j => if j = 4 then u i else f i j) (fun i j => if i = 4 then v j else g i j) 0 1 4 + D2 (fun i j => if j = 4 then u i else f i j) (fun i j => if i = 4 then v j else g i j) 0 2 4 + D2 (fun i j => if j = 4 then u i else f i j) (fun i j => if i = 4 then v j else g i j) 1 2 4
    + D2 (fun i j => if j = 4 then u i else f i j) (fun i j => if i = 4 then v j else g i j) 0 3 4 + D2 (fun i j => if j = 4 then u i else f i j) (fun i j => if i = 4 then v j else g i j) 1 3 4 + D2 (fun i j => if j = 4 then u i else f i j) (fun i j => if i = 4 then v j else g i j) 2 3 4 := by
  simp [dt, isum, minorF, q3, D2, at3]; grind
theorem isum10 (F : Nat → Int) : isum 10 F = 0 + F 0 + F 1 + F 2 + F 3 + F 4 + F 5 + F 6 + F 7 + F 8 + F 9 := rfl
theorem isum4 (F : Nat → Int) : isum 4 F = 0 + F 0 + F 1 + F 2 + F 3 := rfl
theorem cb35D (f g : Nat → Nat → Int) : D2 f g 0 1 2 + D2 f g 0 1 3 + D2 f g 0 2 3 + D2 f g 1 2 3 + D2 f g 0 1 4 + D2 f g 0 2 4 + D2 f g 1 2 4 + D2 f g 0 3 4 + D2 f g 1 3 4 + D2 f g 2 3 4 = dt 3 (fun i j => isum 5 fun q => f i q * g q j) := by
  have h4 := cb34 f g
  have l34 : lots 3 4 = [[0, 1, 2], [0, 1, 3], [0, 2, 3], [1, 2, 3]] := by decide
  rw [l34] at h4
  have h4' : isum 4 (lotT 3 [[0, 1, 2], [0, 1, 3], [0, 2, 3], [1, 2, 3]] f g) = dt 3 (fun i j => isum 4 fun q => f i q * g q j) := h4
  rw [isum4, lotT3 f g _ 0 0 1 2 rfl, lotT3 f g _ 1 0 1 3 rfl, lotT3 f g _ 2 0 2 3 rfl, lotT3 f g _ 3 1 2 3 rfl] at h4'
  have hu : dt 3 (fun i j => isum 5 fun q => f i q * g q j) = dt 3 (fun i j => isum 4 fun q => f i q * g q j) + q3 (fun i j => isum 4 fun q => f i q * g q j) (fun i => f i 4) (fun j => g 4 j) := upd3 (fun i j => isum 4 fun q => f i q * g q j) (fun i => f i 4) (fun j => g 4 j)
  rw [hu, q34 f g (fun i => f i 4) (fun j => g 4 j), ← h4']
  have ef : (fun i j => if j = 4 then f i 4 else f i j) = f := by
    funext i j; split
    · rename_i h; rw [h]
    · rfl
  have eg : (fun i j => if i = 4 then g 4 j else g i j) = g := by
    funext i j; split
    · rename_i h; rw [h]
    · rfl
  rw [ef, eg]
  unfold D2
  omega
theorem cb35 (f g : Nat → Nat → Int) : isum (lots 3 5).length (lotT 3 (lots 3 5) f g) = dt 3 (fun i j => isum 5 fun q => f i q * g q j) := by
  have l35 : lots 3 5 = [[0, 1, 2], [0, 1, 3], [0, 2, 3], [1, 2, 3], [0, 1, 4], [0, 2, 4], [1, 2, 4], [0, 3, 4], [1, 3, 4], [2, 3, 4]] := by decide
  rw [l35, ← cb35D]
  show isum 10 _ = _
  rw [isum10, lotT3 f g _ 0 0 1 2 rfl, lotT3 f g _ 1 0 1 3 rfl, lotT3 f g _ 2 0 2 3 rfl, lotT3 f g _ 3 1 2 3 rfl, lotT3 f g _ 4 0 1 4 rfl, lotT3 f g _ 5 0 2 4 rfl, lotT3 f g _ 6 1 2 4 rfl, lotT3 f g _ 7 0 3 4 rfl, lotT3 f g _ 8 1 3 4 rfl, lotT3 f g _ 9 2 3 4 rfl]
  unfold D2
  omega
theorem cauchy_binet (f g : Nat → Nat → Int) : ∀ k w, (k = 2 ∨ k = 3) → k ≤ w + 1 → w ≤ k + 2 → isum (lots k w).length (lotT k (lots k w) f g) = dt k (fun i j => isum w fun q => f i q * g q j) := by
  intro k w hk h1 h2
  rcases hk with rfl | rfl
  · exact cb2 f g w (by omega) (by omega)
  · have hw : w = 2 ∨ w = 3 ∨ w = 4 ∨ w = 5 := by omega
    rcases hw with rfl | rfl | rfl | rfl
    · exact cb32 f g
    · exact cb33 f g
    · exact cb34 f g
    · exact cb35 f g
theorem vanish4 (u v : Nat → Nat → Int) : dt 4 (fun i j => isum 3 fun k => u i k * v k j) = 0 := by
  simp only [dt4e, isum3]
  unfold det4 det3
  grind
theorem mul3 (u v : Nat → Nat → Int) : dt 3 (fun i j => isum 3 fun k => u i k * v k j) = dt 3 u * dt 3 v := by
  simp [dt, isum, minorF]; grind
def m2 (X : Nat → Nat → Int) (a b : Nat) : Int := X a a * X b b - X a b * X b a
def m3 (X : Nat → Nat → Int) (a b c : Nat) : Int := dt 3 fun i j => X (at3 a b c i) (at3 a b c j)
def m4 (X : Nat → Nat → Int) (a b c d : Nat) : Int := dt 4 fun i j => X (at4 a b c d i) (at4 a b c d j)
theorem m3e (X : Nat → Nat → Int) (a b c : Nat) : m3 X a b c = det3 (X a a) (X a b) (X a c) (X b a) (X b b) (X b c) (X c a) (X c b) (X c c) := dt3e _
theorem m4e (X : Nat → Nat → Int) (a b c d : Nat) : m4 X a b c d = det4 (X a a) (X a b) (X a c) (X a d) (X b a) (X b b) (X b c) (X b d) (X c a) (X c b) (X c c) (X c d) (X d a) (X d b) (X d c) (X d d) := dt4e _
def addD (X : Nat → Nat → Int) (h : Int) : Nat → Nat → Int := fun i j => X i j + if j = i then h else 0
theorem addD_on (X : Nat → Nat → Int) (h : Int) (i : Nat) : addD X h i i = X i i + h := by unfold addD; rw [if_pos rfl]
theorem addD_off (X : Nat → Nat → Int) (h : Int) (i j : Nat) (e : (j == i) = false) : addD X h i j = X i j := by
  unfold addD
  rw [if_neg (by simpa using e)]; omega
theorem chr3 (X : Nat → Nat → Int) (h : Int) : dt 3 (fun i j => X i j + if j = i then h else 0) = h ^ 3 + h ^ 2 * (X 0 0 + X 1 1 + X 2 2) + h * (m2 X 0 1 + m2 X 0 2 + m2 X 1 2) + dt 3 X := by
  show dt 3 (addD X h) = _
  rw [dt3e, dt3e, addD_on, addD_on, addD_on, addD_off X h 0 1 rfl, addD_off X h 0 2 rfl, addD_off X h 1 0 rfl, addD_off X h 1 2 rfl, addD_off X h 2 0 rfl, addD_off X h 2 1 rfl]
  unfold det3 m2
  grind
theorem chr5 (X : Nat → Nat → Int) (h : Int) : dt 5 (fun i j => X i j + if j = i then h else 0) = h ^ 5 + h ^ 4 * (X 0 0 + X 1 1 + X 2 2 + X 3 3 + X 4 4)
    + h ^ 3 * (m2 X 0 1 + m2 X 0 2 + m2 X 0 3 + m2 X 0 4 + m2 X 1 2 + m2 X 1 3 + m2 X 1 4 + m2 X 2 3 + m2 X 2 4 + m2 X 3 4)
    + h ^ 2 * (m3 X 0 1 2 + m3 X 0 1 3 + m3 X 0 2 3 + m3 X 1 2 3 + m3 X 0 1 4 + m3 X 0 2 4 + m3 X 1 2 4 + m3 X 0 3 4 + m3 X 1 3 4 + m3 X 2 3 4)
    + h * (m4 X 0 1 2 3 + m4 X 0 1 2 4 + m4 X 0 1 3 4 + m4 X 0 2 3 4 + m4 X 1 2 3 4) + dt 5 X := by
  show dt 5 (addD X h) = _
  simp only [m3e, m4e]
  rw [dt5e, dt5e, addD_on, addD_on, addD_on, addD_on, addD_on, addD_off X h 0 1 rfl, addD_off X h 0 2 rfl, addD_off X h 0 3 rfl, addD_off X h 0 4 rfl, addD_off X h 1 0 rfl, addD_off X h 1 2 rfl, addD_off X h 1 3 rfl, addD_off X h 1 4 rfl,
    addD_off X h 2 0 rfl, addD_off X h 2 1 rfl, addD_off X h 2 3 rfl, addD_off X h 2 4 rfl, addD_off X h 3 0 rfl, addD_off X h 3 1 rfl, addD_off X h 3 2 rfl, addD_off X h 3 4 rfl, addD_off X h 4 0 rfl, addD_off X h 4 1 rfl, addD_off X h 4 2 rfl, addD_off X h 4 3 rfl]
  unfold det4 det3 m2
  grind
theorem syl35 (f g : Nat → Nat → Int) (h : Int) : dt 5 (fun i j => (isum 3 fun q => g i q * f q j) + if j = i then h else 0) = dt 3 (fun i j => (isum 5 fun q => f i q * g q j) + if j = i then h else 0) * h ^ 2 := by
  rw [chr5 (fun i j => isum 3 fun q => g i q * f q j) h, chr3 (fun i j => isum 5 fun q => f i q * g q j) h]
  have v4 : ∀ a b c d, m4 (fun i j => isum 3 fun q => g i q * f q j) a b c d = 0 := fun a b c d => vanish4 (fun i q => g (at4 a b c d i) q) (fun q j => f q (at4 a b c d j))
  have v5 : dt 5 (fun i j => isum 3 fun q => g i q * f q j) = 0 := by
    rw [dt]
    have : ∀ c, dt 4 (minorF (fun i j => isum 3 fun q => g i q * f q j) c) = 0 := fun c => vanish4 (fun i q => g (i + 1) q) (fun q j => f q (if j < c then j else j + 1))
    simp only [this, Int.mul_zero]
    rfl
  have e3 : ∀ a b c, m3 (fun i j => isum 3 fun q => g i q * f q j) a b c = dt 3 (fun i j => g (at3 a b c i) j) * dt 3 (fun i j => f i (at3 a b c j)) := fun a b c => mul3 (fun i q => g (at3 a b c i) q) (fun q j => f q (at3 a b c j))
  have t1 : (fun i j => isum 3 fun q => g i q * f q j) 0 0 + (fun i j => isum 3 fun q => g i q * f q j) 1 1 + (fun i j => isum 3 fun q => g i q * f q j) 2 2 + (fun i j => isum 3 fun q => g i q * f q j) 3 3 + (fun i j => isum 3 fun q => g i q * f q j) 4 4
      = (fun i j => isum 5 fun q => f i q * g q j) 0 0 + (fun i j => isum 5 fun q => f i q * g q j) 1 1 + (fun i j => isum 5 fun q => f i q * g q j) 2 2 := by
    simp [isum]; grind
  have t2 : ∀ X Y : Nat → Nat → Int, X = (fun i j => isum 3 fun q => g i q * f q j) → Y = (fun i j => isum 5 fun q => f i q * g q j) →
      m2 X 0 1 + m2 X 0 2 + m2 X 0 3 + m2 X 0 4 + m2 X 1 2 + m2 X 1 3 + m2 X 1 4 + m2 X 2 3 + m2 X 2 4 + m2 X 3 4 = m2 Y 0 1 + m2 Y 0 2 + m2 Y 1 2 := by
    rintro _ _ rfl rfl
    simp [isum, m2]; grind
  have cb' := cb35D f g
  unfold D2 at cb'
  rw [t2 _ _ rfl rfl, t1, v4, v4, v4, v4, v4, v5, e3, e3, e3, e3, e3, e3, e3, e3, e3, e3]
  grind
theorem syl3 (f g : Nat → Nat → Int) (h : Int) : dt 3 (fun i j => (isum 3 fun q => g i q * f q j) + if j = i then h else 0) = dt 3 (fun i j => (isum 3 fun q => f i q * g q j) + if j = i then h else 0) * h ^ 0 := by
  simp [dt, isum, minorF]; grind
theorem chr4 (X : Nat → Nat → Int) (h : Int) : dt 4 (fun i j => X i j + if j = i then h else 0) = h ^ 4 + h ^ 3 * (X 0 0 + X 1 1 + X 2 2 + X 3 3)
    + h ^ 2 * (m2 X 0 1 + m2 X 0 2 + m2 X 0 3 + m2 X 1 2 + m2 X 1 3 + m2 X 2 3)
    + h * (m3 X 0 1 2 + m3 X 0 1 3 + m3 X 0 2 3 + m3 X 1 2 3) + dt 4 X := by
  show dt 4 (addD X h) = _
  simp only [m3e]
  rw [dt4e, dt4e, addD_on, addD_on, addD_on, addD_on, addD_off X h 0 1 rfl, addD_off X h 0 2 rfl, addD_off X h 0 3 rfl, addD_off X h 1 0 rfl, addD_off X h 1 2 rfl, addD_off X h 1 3 rfl,
    addD_off X h 2 0 rfl, addD_off X h 2 1 rfl, addD_off X h 2 3 rfl, addD_off X h 3 0 rfl, addD_off X h 3 1 rfl, addD_off X h 3 2 rfl]
  unfold det4 det3 m2
  grind
theorem syl34 (f g : Nat → Nat → Int) (h : Int) : dt 4 (fun i j => (isum 3 fun q => g i q * f q j) + if j = i then h else 0) = dt 3 (fun i j => (isum 4 fun q => f i q * g q j) + if j = i then h else 0) * h ^ 1 := by
  rw [chr4 (fun i j => isum 3 fun q => g i q * f q j) h, chr3 (fun i j => isum 4 fun q => f i q * g q j) h]
  have v4 : dt 4 (fun i j => isum 3 fun q => g i q * f q j) = 0 := vanish4 g f
  have e3 : ∀ a b c, m3 (fun i j => isum 3 fun q => g i q * f q j) a b c = dt 3 (fun i j => g (at3 a b c i) j) * dt 3 (fun i j => f i (at3 a b c j)) := fun a b c => mul3 (fun i q => g (at3 a b c i) q) (fun q j => f q (at3 a b c j))
  have t1 : (fun i j => isum 3 fun q => g i q * f q j) 0 0 + (fun i j => isum 3 fun q => g i q * f q j) 1 1 + (fun i j => isum 3 fun q => g i q * f q j) 2 2 + (fun i j => isum 3 fun q => g i q * f q j) 3 3
      = (fun i j => isum 4 fun q => f i q * g q j) 0 0 + (fun i j => isum 4 fun q => f i q * g q j) 1 1 + (fun i j => isum 4 fun q => f i q * g q j) 2 2 := by
    simp [isum]; grind
  have t2 : ∀ X Y : Nat → Nat → Int, X = (fun i j => isum 3 fun q => g i q * f q j) → Y = (fun i j => isum 4 fun q => f i q * g q j) →
      m2 X 0 1 + m2 X 0 2 + m2 X 0 3 + m2 X 1 2 + m2 X 1 3 + m2 X 2 3 = m2 Y 0 1 + m2 Y 0 2 + m2 Y 1 2 := by
    rintro _ _ rfl rfl
    simp [isum, m2]; grind
  have h4 := cb34 f g
  have l34 : lots 3 4 = [[0, 1, 2], [0, 1, 3], [0, 2, 3], [1, 2, 3]] := by decide
  rw [l34] at h4
  have h4' : isum 4 (lotT 3 [[0, 1, 2], [0, 1, 3], [0, 2, 3], [1, 2, 3]] f g) = dt 3 (fun i j => isum 4 fun q => f i q * g q j) := h4
  rw [isum4, lotT3 f g _ 0 0 1 2 rfl, lotT3 f g _ 1 0 1 3 rfl, lotT3 f g _ 2 0 2 3 rfl, lotT3 f g _ 3 1 2 3 rfl] at h4'
  rw [t2 _ _ rfl rfl, t1, v4, e3, e3, e3, e3]
  grind
theorem syl2 (f g : Nat → Nat → Int) (h : Int) : ∀ w, 2 ≤ w → w ≤ 4 →
    dt w (fun i j => (isum 2 fun q => g i q * f q j) + if j = i then h else 0) = dt 2 (fun i j => (isum w fun q => f i q * g q j) + if j = i then h else 0) * h ^ (w - 2) := by
  intro w h1 h2
  have hw : w = 2 ∨ w = 3 ∨ w = 4 := by omega
  rcases hw with rfl | rfl | rfl <;> (simp [dt, isum, minorF]; grind)
/-- det (XY + h) and det (YX + h) -/
theorem syl (f g : Nat → Nat → Int) (h : Int) : ∀ k w, (k = 2 ∨ k = 3) → k ≤ w → w ≤ k + 2 →
    dt w (fun i j => (isum k fun q => g i q * f q j) + if j = i then h else 0) = dt k (fun i j => (isum w fun q => f i q * g q j) + if j = i then h else 0) * h ^ (w - k) := by
  intro k w hk h1 h2
  rcases hk with rfl | rfl
  · exact syl2 f g h w h1 h2
  · have hw : w = 3 ∨ w = 4 ∨ w = 5 := by omega
    rcases hw with rfl | rfl | rfl
    · exact syl3 f g h
    · exact syl34 f g h
    · exact syl35 f g h
theorem syl' (f g : Nat → Nat → Int) (h : Int) : ∀ k w, (k = 2 ∨ k = 3) → w + 1 = k →
    dt k (fun i j => (isum w fun q => f i q * g q j) + if j = i then h else 0) = dt w (fun i j => (isum k fun q => g i q * f q j) + if j = i then h else 0) * h ^ (k - w) := by
  intro k w hk h1
  have hw : w = 1 ∨ w = 2 := by omega
  rcases hk with rfl | rfl <;> rcases hw with rfl | rfl <;> (try omega) <;> (simp [dt, isum, minorF]; grind)
end Mine

namespace Mine
open PySem PySem.W PyProof.Rows PySem.Calls PySem.Spec

theorem cellsFrom_apart : ∀ (names : List (Str × NameKind)) (n : Nat) (acc : List (Str × Addr)), (∀ p ∈ acc, p.2 < n) → acc.Pairwise (fun x y => x.2 ≠ y.2) → (cellsFrom n names acc).Pairwise fun x y => x.2 ≠ y.2
  | [], n, acc, _, h => h
  | (x, k) :: r, n, acc, hlt, h => by
    unfold cellsFrom
    split
    · refine cellsFrom_apart r (n + 1) ((x, n) :: acc) (fun p hp => ?_) (List.pairwise_cons.mpr ⟨fun p hp => Nat.ne_of_gt (hlt p hp), h⟩)
      rcases List.mem_cons.mp hp with rfl | hp
      · exact Nat.lt_succ_self n
      · exact Nat.lt_succ_of_lt (hlt p hp)
    · exact cellsFrom_apart r n acc hlt h
theorem cells_at {cm : Str → Option Value} {h₀ h : Heap} {L : Addr} : ∀ {cs : List (Str × Addr)} {cells : List (Addr × Obj)}, CellsAre cm cs cells → News h₀ L h cells → ∀ n c, (n, c) ∈ cs → h.IsCell c (cm n) ∧ h₀.get? c = none ∧ c ≠ L
  | _, _, .nil, _, _, _, hm => by cases hm
  | _, _, .cons (n := n') (c := c') (o := o) e r, N, n, c, hm => by
    rcases List.mem_cons.mp hm with q | hm
    · cases q
      obtain ⟨a, b, d⟩ := N _ List.mem_cons_self
      exact ⟨⟨o, a, e⟩, d, b⟩
    · exact cells_at r (fun p hp => N p (List.mem_cons_of_mem _ hp)) n c hm
theorem FR.start {h₀ h : Heap} {env : Env} {m cm : Str → Option Value} {L b0 : Nat} {names : List (Str × NameKind)} {cells : List (Addr × Obj)} (F : Fr h₀ L h m) (N : News h₀ L h cells) (hc : env.cells = cellsFrom b0 names []) (X : CellsAre cm env.cells cells) (hL : env.locals = L) : FR h₀ env m cm h := by
  subst hL
  refine ⟨F.ns, fun n c e => (cells_at X N n c (mem_of_lookup e)).1, F.keep, ?_, fun n c e => (cells_at X N n c (mem_of_lookup e)).2, fun n n' c e e' => ?_⟩
  · cases q : h₀.get? env.locals with
    | none => rfl
    | some o => exact absurd (Heap.lt_size q) (Nat.not_lt.mpr F.above)
  · rw [hc] at e e'
    exact lookup_apart (cellsFrom_apart names b0 [] (fun p hp => by cases hp) List.Pairwise.nil) e e'

/-- the frame's own addresses -/
def Own (env : Env) (a : Addr) : Prop := a = env.locals ∨ ∃ n, env.cells.lookup n = some a
/-- what is no sequence -/
def NoSeq (h : Heap) (a : Addr) : Prop := ∃ o, h.get? a = some o ∧ ∀ its n, o.data ≠ .seq its n
theorem FR.noSeq {h₀ h : Heap} {env : Env} {m cm : Str → Option Value} (F : FR h₀ env m cm h) {a : Addr} (ha : Own env a) : NoSeq h a := by
  rcases ha with rfl | ⟨n, e⟩
  · obtain ⟨o, es, ep, e1, e2, _⟩ := F.ns
    exact ⟨o, e1, fun its n q => by rw [e2] at q; cases q⟩
  · obtain ⟨o, e1, e2⟩ := F.cell n a e
    exact ⟨o, e1, fun its n q => by rw [e2] at q; cases q⟩
theorem FR.notOwn {h₀ h : Heap} {env : Env} {m cm : Str → Option Value} (F : FR h₀ env m cm h) {a : Addr} (ha : h.get? a = none) : ¬ Own env a := fun q => by
  obtain ⟨o, e, _⟩ := F.noSeq q
  rw [ha] at e; cases e
theorem FR.notOwn' {h₀ h : Heap} {env : Env} {m cm : Str → Option Value} (F : FR h₀ env m cm h) {a : Addr} {o : Obj} (ha : h₀.get? a = some o) : ¬ Own env a := fun q => by
  rcases q with rfl | ⟨n, e⟩
  · rw [F.freshL] at ha; cases ha
  · rw [(F.freshC n a e).1] at ha; cases ha
/-- all but the frame's own stays -/
def KO (env : Env) (h h' : Heap) : Prop := ∀ a o, ¬ Own env a → h.get? a = some o → h'.get? a = some o
theorem KO.of {env : Env} {h h' : Heap} (u : ∀ a o, h.get? a = some o → h'.get? a = some o) : KO env h h' := fun a o _ e => u a o e
theorem KO.refl {env : Env} {h : Heap} : KO env h h := fun _ _ _ e => e
theorem KO.trans {env : Env} {h h' h'' : Heap} (x : KO env h h') (y : KO env h' h'') : KO env h h'' := fun a o n e => y a o n (x a o n e)
theorem KO.loc {env : Env} {h h' : Heap} (hs : Heap.SameBut env.locals h h') : KO env h h' := fun a o n e => hs.extBut a o (fun q => n (.inl q)) e
theorem KO.cel {env : Env} {h h' : Heap} {x : Str} {c : Addr} (hc : env.cells.lookup x = some c) (hs : Heap.SameBut c h h') : KO env h h' := fun a o n e => hs.extBut a o (fun q => n (.inr ⟨x, by rw [show a = c from q]; exact hc⟩)) e

theorem RowF.off {h h' : Heap} {T : Addr} {n : Nat} {g : Nat → Int} {P : Addr → Prop} (x : RowF h T n g) (hP : ∀ a, P a → NoSeq h a) (k : ∀ a o, ¬ P a → h.get? a = some o → h'.get? a = some o) : RowF h' T n g := by
  obtain ⟨vs, e, h1, r⟩ := x
  exact ⟨vs, e, k _ _ (fun q => by obtain ⟨o, e1, e2⟩ := hP _ q; rw [h1] at e1; cases e1; exact e2 _ _ rfl) h1, r⟩
theorem MatF.off {h h' : Heap} {v : Value} {r c : Nat} {f : Nat → Nat → Int} {P : Addr → Prop} (x : MatF h v r c f) (hP : ∀ a, P a → NoSeq h a) (k : ∀ a o, ¬ P a → h.get? a = some o → h'.get? a = some o) : MatF h' v r c f := by
  obtain ⟨A, rs, e, h1, h2, h3, h4⟩ := x
  refine ⟨A, rs, e, h1, k _ _ (fun q => by obtain ⟨o, e1, e2⟩ := hP _ q; rw [h2] at e1; cases e1; exact e2 _ _ rfl) h2, h3, fun i hi => ?_⟩
  obtain ⟨T, q, R⟩ := h4 i hi
  exact ⟨T, q, R.off hP k⟩
theorem MatF.own {h₀ h h' : Heap} {env : Env} {m cm : Str → Option Value} {v : Value} {r c : Nat} {f : Nat → Nat → Int} (x : MatF h v r c f) (F : FR h₀ env m cm h) (k : KO env h h') : MatF h' v r c f :=
  x.off (fun a => F.noSeq) k
theorem BoxAt.own {h₀ h h' : Heap} {env : Env} {m cm : Str → Option Value} {bx scr : Addr} (x : BoxAt bx scr h) (F : FR h₀ env m cm h) (k : KO env h h') : BoxAt bx scr h' := by
  obtain ⟨hne, ⟨k', t, e, eb⟩, vs, ns, e2, es, r⟩ := x
  have nb : ∀ a o, h.get? a = some o → (∃ its n, o.data = .seq its n) → ¬ Own env a := fun a o e ⟨its, n, d⟩ q => by
    obtain ⟨o', e1, e2⟩ := F.noSeq q
    rw [e] at e1; cases e1; exact e2 _ _ d
  exact ⟨hne, ⟨k', t, e, k _ _ (nb _ _ eb ⟨_, _, rfl⟩) eb⟩, vs, ns, e2, k _ _ (nb _ _ es ⟨_, _, rfl⟩) es, r⟩

/-- a matrix whose entries are only bounded -/
def YB (c : Nat) (B : Int) : Nat → Value → Option Obj → Prop := fun _ y oo => ∃ T vs k, y = Value.ref T ∧ oo = some (PySem.W.listOf (List.toArray vs) k) ∧ vs.length = c ∧ ∀ j, j < c → ∃ z t, vs[j]? = some (Value.int z t) ∧ -B ≤ z ∧ z ≤ B
def YN (B : Int) : Nat → Value → Option Obj → Prop := fun _ y oo => oo = none ∧ ∃ z t, y = Value.int z t ∧ -B ≤ z ∧ z ≤ B
theorem made_B {c : Nat} {B : Int} {h₀ h : Heap} {D : Addr} {ys : List Value} {r : Nat} (m : Made (YB c B) h₀ D ys h) (hn : ys.length = r) :
    ∃ f, (∀ h', (∀ a o, h₀.get? a = none → h.get? a = some o → h'.get? a = some o) → MatF h' (.ref D) r c f) ∧ ∀ i j, i < r → j < c → -B ≤ f i j ∧ f i j ≤ B := by
  have h1 : ∀ i, ∃ p : Addr × List Value × Nat, i < r → ys[i]? = some (Value.ref p.1) ∧ (h₀.get? p.1 = none ∧ h.get? p.1 = some (PySem.W.listOf (List.toArray p.2.1) p.2.2)) ∧ p.2.1.length = c ∧ ∀ j, j < c → ∃ z t, p.2.1[j]? = some (Value.int z t) ∧ -B ≤ z ∧ z ≤ B := fun i => by
    by_cases hi : i < r
    · have hi' : i < ys.length := by rw [hn]; exact hi
      obtain ⟨oo, ⟨T, vs, k, e1, e2, e3, e4⟩, hT⟩ := m.elt i ys[i] (List.getElem?_eq_getElem hi')
      obtain ⟨T', q1, _, q3, q4⟩ := hT _ e2
      rw [e1] at q1; cases q1
      exact ⟨(T, vs, k), fun _ => ⟨by rw [List.getElem?_eq_getElem hi', e1], ⟨q3, q4⟩, e3, e4⟩⟩
    · exact ⟨(D, [], 0), fun q => absurd q hi⟩
  obtain ⟨p, hp⟩ := Classical.axiomOfChoice h1
  have h2 : ∀ q : Nat × Nat, ∃ z : Int, q.1 < r → q.2 < c → (∃ t, (p q.1).2.1[q.2]? = some (Value.int z t)) ∧ -B ≤ z ∧ z ≤ B := fun q => by
    by_cases hi : q.1 < r
    · by_cases hj : q.2 < c
      · obtain ⟨z, t, e, b⟩ := (hp q.1 hi).2.2.2 q.2 hj
        exact ⟨z, fun _ _ => ⟨⟨t, e⟩, b⟩⟩
      · exact ⟨0, fun _ x => absurd x hj⟩
    · exact ⟨0, fun x => absurd x hi⟩
  obtain ⟨f, hf⟩ := Classical.axiomOfChoice h2
  refine ⟨fun i j => f (i, j), fun h' k => ⟨D, ys, ys.length, rfl, k _ _ m.fresh m.at_, hn, fun i hi => ?_⟩, fun i j hi hj => (hf (i, j) hi hj).2⟩
  obtain ⟨e1, e2, e3, _⟩ := hp i hi
  exact ⟨_, e1, _, _, k _ _ e2.1 e2.2, e3, fun j hj => (hf (i, j) hi hj).1⟩

section
variable {prog : Program} {w : World} {A : Around} {E : Value → Shared → Prop} {s : Shared} {mg mb : Str → Option Value} {loose : List Str}

/-- the call _law_take(box, many) -/
theorem take_call {B : Heap} {bx scr : Addr} {many : Int} {env : Env} {p p1 p2 pos : Pos} {kk : Nat} {Q : Value → Shared → Prop} (G : GT w mg mb loose B) (hA : A.handled = none) (hroom : A.depth < recursionLimit) (hun : A.units + 100 < cLine)
    (hB : ∀ a o, B.get? a = some o → s.heap.get? a = some o ∧ a ≠ bx ∧ a ≠ scr) (X : BoxAt bx scr s.heap) (hm : 0 < many) (Vb : VarIs s.heap env (Str.ofString "box") (.ref bx))
    (h : ∀ r t h' tk', 0 ≤ r → r < many → BoxAt bx scr h' → (∀ a o, a ≠ bx → a ≠ scr → s.heap.get? a = some o → h'.get? a = some o) → Q (.int r t) { s with heap := h', toks := tk' })
    (hf : env.scope.kind = .function := by rfl) (hx : env.kindOf (Str.ofString "_law_take") = some .globalImplicit := by rfl) (hg : env.globals = mainGlobals := by rfl) :
    wpAny (model prog w) A (eval (.Call (.Name (Str.ofString "_law_take") p) [.Name (Str.ofString "box") p1, .Constant (.int many) kk p2] [] pos) env) Q E s := by
  have G₀ : GT w mg mb loose s.heap := G.keeps fun a o e => (hB a o e).1
  refine call_def G₀ n_take lk60 (spliced_more (nm_var Vb (spliced_more (wpAny_Constant_int (spliced_none ⟨G₀, ?_⟩))) hf)) rfl hf hx hg
  exact take_spec (s := { s with toks := _ }) G hA hroom hun hB X hm fun r t h' tk' h1 h2 h3 h4 => h r t h' tk' h1 h2 h3 h4

/-- the call determinant(e) -/
theorem det_call {env : Env} {p pos : Pos} {e : Expr} {Q : Value → Shared → Prop} (hA : A.handled = none) (hroom : A.depth + 2 < recursionLimit) (hun : A.units + 100 < cLine) (G : GT w mg mb loose s.heap)
    (h : wpAny (model prog w) A (eval e env) (fun v s₁ => ∃ n f, GT w mg mb loose s₁.heap ∧ MatF s₁.heap v n n f ∧ n ≤ 5 ∧ Bd 100 n f ∧ ∀ t h' tk', (∀ a o, s₁.heap.get? a = some o → h'.get? a = some o) → Q (.int (dt n f) t) { s₁ with heap := h', toks := tk' }) E s)
    (he : starEach [e] env = (false, eval e env) :: starEach [] env := by rfl)
    (hf : env.scope.kind = .function := by rfl) (hx : env.kindOf (Str.ofString "determinant") = some .globalImplicit := by rfl) (hg : env.globals = mainGlobals := by rfl) :
    wpAny (model prog w) A (eval (.Call (.Name (Str.ofString "determinant") p) [e] [] pos) env) Q E s := by
  refine call_def G n_det lk53 (spliced_more (wpAny_mono h (fun v s₁ h₁ => ?_) fun _ _ x => x) he) he hf hx hg
  obtain ⟨n, f, G₁, M, hn, hb, hQ⟩ := h₁
  refine spliced_none ⟨G₁, ?_⟩
  obtain ⟨Inv, i1, i2, i3, i4, i5⟩ := bareiss_ok hn hb
  exact det_spec Inv G₁ hA hroom hun M (by omega) i1 i2 i3 i4 i5 fun t h' tk' hk => hQ t h' tk' hk
end
end Mine

namespace Mine
open PySem PySem.W PyProof.Rows PySem.Calls PySem.Spec
theorem IntsAre.get? : ∀ {vs : List Value} {ns : List Int}, IntsAre vs ns → ∀ {i : Nat} {v : Value}, vs[i]? = some v → ∃ n t, v = Value.int n t
  | _, _, .nil, _, _, e => by simp at e
  | _, _, .cons n t r, 0, _, e => ⟨n, t, by cases e; rfl⟩
  | _, _, .cons n t r, i + 1, _, e => IntsAre.get? r (i := i) e
theorem ints_of : ∀ (vs : List Value), (∀ (j : Nat) (v : Value), vs[j]? = some v → ∃ n t, v = Value.int n t) → ∃ ns, IntsAre vs ns
  | [], _ => ⟨[], .nil⟩
  | v :: r, h => by
    obtain ⟨n, t, rfl⟩ := h 0 v rfl
    obtain ⟨ns, x⟩ := ints_of r fun j y e => h (j + 1) y e
    exact ⟨n :: ns, .cons n t x⟩
theorem lots_lt : ∀ k, k ≤ 3 → ∀ many, many ≤ 6 → ∀ ns ∈ lots k many, ∀ x ∈ ns, x < many := by decide +kernel
theorem lot_at : ∀ {vs : List Value} {ns : List Nat}, IntsAre vs (ns.map Int.ofNat) → ∀ {j : Nat} {v : Value}, vs[j]? = some v → (∃ t, v = Value.int ((ns.getD j 0 : Nat) : Int) t) ∧ j < ns.length ∧ ns.getD j 0 ∈ ns
  | [], [], _, j, v, e => by simp at e
  | [], n :: r, x, j, v, e => by cases x
  | v' :: vs, [], x, j, v, e => by cases x
  | v' :: vs, n :: r, x, 0, v, e => by
    cases x with
    | cons _ t y =>
      cases e
      exact ⟨⟨t, rfl⟩, Nat.succ_pos _, List.mem_cons_self⟩
  | v' :: vs, n :: r, x, j + 1, v, e => by
    cases x with
    | cons _ t y =>
      obtain ⟨a, b, c⟩ := lot_at y (j := j) e
      exact ⟨a, Nat.succ_lt_succ b, List.mem_cons_of_mem _ c⟩
theorem tup_own {h₀ h h' : Heap} {env : Env} {m cm : Str → Option Value} {T : Addr} {its : Array Value} (x : h.IsTuple T its) (F : FR h₀ env m cm h) (k : KO env h h') : h'.IsTuple T its := by
  obtain ⟨o, e, c, n, d⟩ := x
  exact ⟨o, k _ _ (fun q => by obtain ⟨o', e1, e2⟩ := F.noSeq q; rw [e] at e1; cases e1; exact e2 _ _ d) e, c, n, d⟩
theorem bd3 {z : Int} (h : -3 ≤ z ∧ z ≤ 3) : -100 ≤ z ∧ z ≤ 100 := by omega
theorem dt_small {n : Nat} {f : Nat → Nat → Int} (hn : n ≤ 5) (hf : Bd 100 n f) : -(2 ^ 62) ≤ dt n f ∧ dt n f ≤ 2 ^ 62 := by
  have := dt_bound 100 n f hf
  have h5 := (dtB5 n hn).1
  omega
theorem bd362 {z : Int} (h : -3 ≤ z ∧ z ≤ 3) : -(2 ^ 62) ≤ z ∧ z ≤ 2 ^ 62 := by omega
theorem sum_bd {n : Nat} {u v : Nat → Int} (hn : n ≤ 5) (h : ∀ i, i < n → (-3 ≤ u i ∧ u i ≤ 3) ∧ (-3 ≤ v i ∧ v i ≤ 3)) : -98 ≤ (isum n fun i => u i * v i) ∧ (isum n fun i => u i * v i) ≤ 98 := by
  have := isum_bound (n := n) (f := fun i => u i * v i) (B := 9) fun i hi => mul_bound (h i hi).1 (h i hi).2
  omega
theorem bd98 {n : Nat} {f : Nat → Nat → Int} (h : Bd 98 n f) : Bd 100 n f := fun i j hi hj => by have := h i j hi hj; omega
theorem bdmore {n : Nat} {f : Nat → Nat → Int} {z : Int} (h : Bd 98 n f) (h1 : -2 ≤ z) (h2 : z ≤ 2) : Bd 100 n (fun i j => f i j + if j = i then z else 0) := fun i j hi hj => by
  have := h i j hi hj
  dsimp only
  split <;> omega
theorem isl_push2 (h : Heap) (o : Obj) (its : Array Value) : ((h.push o).push { cls := .type "list", data := .seq its }).IsList (h.objs.size + 1) its := by
  have := Heap.get?_push_size (h := h.push o) (o := { cls := .type "list", data := .seq its }) rfl
  rw [Heap.size_push] at this
  exact ⟨_, this, rfl, _, rfl⟩
theorem with_fr {M : Model} {A : Around} {E : Value → Shared → Prop} {s : Shared} {body : List Stmt} {Q : Flow → Shared → Prop} {h₀ h : Heap} {env : Env} {m cm m' cm' : Str → Option Value} {L b0 : Nat} {names : List (Str × NameKind)} {cs : List (Str × Addr)} {cells : List (Addr × Obj)}
    (F : Fr h₀ L h m) (N : News h₀ L h cells) (X : CellsAre cm cs cells) (hc : env.cells = cs) (hb : cs = cellsFrom b0 names []) (hL : env.locals = L) (hm : m = m') (hcm : cm = cm')
    (k : FR h₀ env m' cm' h → wpAny M A (execs body env) Q E s) : wpAny M A (execs body env) Q E s := by
  subst hm hcm hc
  exact k (FR.start F N hb X hL)

abbrev FR.like2 {h₀ h : Heap} {env : Env} {m cm : Str → Option Value} (_ : FR h₀ env m cm h) (m' cm' : Str → Option Value) (h' : Heap) : Prop := FR h₀ env m' cm' h'

/-- the law's frame with its box -/
structure LS (H0 : Heap) (env : Env) (bx scr : Addr) (m cm : Str → Option Value) (h : Heap) : Prop where
  F : FR H0 env m cm h
  X : BoxAt bx scr h
  nb : H0.get? bx = none
  ns : H0.get? scr = none
  ob : ¬ Own env bx
  os : ¬ Own env scr
/-- what a taking changes -/
def MutB (bx scr : Addr) (a : Addr) : Prop := a = bx ∨ a = scr
theorem BoxAt.alive {bx scr : Addr} {h : Heap} (X : BoxAt bx scr h) : ∀ a, MutB bx scr a → ∃ o, h.get? a = some o := by
  obtain ⟨_, ⟨k, t, e, eb⟩, vs, ns, e2, es, _⟩ := X
  rintro a (rfl | rfl)
  · exact ⟨_, eb⟩
  · exact ⟨_, es⟩
theorem BoxAt.same {bx scr : Addr} {h h' : Heap} (X : BoxAt bx scr h) (u : ∀ a o, MutB bx scr a → h.get? a = some o → h'.get? a = some o) : BoxAt bx scr h' := by
  obtain ⟨hne, ⟨k, t, e, eb⟩, vs, ns, e2, es, r⟩ := X
  exact ⟨hne, ⟨k, t, e, u _ _ (.inl rfl) eb⟩, vs, ns, e2, u _ _ (.inr rfl) es, r⟩
section
variable {H0 h h' : Heap} {env : Env} {bx scr : Addr} {m cm m' cm' : Str → Option Value}
theorem LS.base (S : LS H0 env bx scr m cm h) : ∀ a o, H0.get? a = some o → h.get? a = some o ∧ a ≠ bx ∧ a ≠ scr := fun a o e =>
  ⟨S.F.keep a o e, (fun q => by rw [q, S.nb] at e; cases e), (fun q => by rw [q, S.ns] at e; cases e)⟩
theorem LS.baseM (S : LS H0 env bx scr m cm h) : ∀ a o, H0.get? a = some o → h.get? a = some o ∧ ¬ MutB bx scr a := fun a o e =>
  ⟨(S.base a o e).1, fun q => q.elim (S.base a o e).2.1 (S.base a o e).2.2⟩
theorem LS.keep (S : LS H0 env bx scr m cm h) (X : BoxAt bx scr h') (u : ∀ a o, ¬ MutB bx scr a → h.get? a = some o → h'.get? a = some o) : LS H0 env bx scr m cm h' where
  F := S.F.up (Mut := MutB bx scr) (fun a o n e => u a o n e) (fun q => q.elim (fun q => S.ob (q ▸ .inl rfl)) fun q => S.os (q ▸ .inl rfl))
    (fun n c e q => q.elim (fun q => S.ob (.inr ⟨n, by rw [← show c = bx from q]; exact e⟩)) fun q => S.os (.inr ⟨n, by rw [← show c = scr from q]; exact e⟩))
    fun a o e => (S.baseM a o e).2
  X := X
  nb := S.nb
  ns := S.ns
  ob := S.ob
  os := S.os
theorem LS.keep' (S : LS H0 env bx scr m cm h) (X : BoxAt bx scr h') (u : ∀ a o, a ≠ bx → a ≠ scr → h.get? a = some o → h'.get? a = some o) : LS H0 env bx scr m cm h' :=
  S.keep X fun a o n e => u a o (fun q => n (.inl q)) (fun q => n (.inr q)) e
theorem LS.own (S : LS H0 env bx scr m cm h) (F : FR H0 env m' cm' h') (k : KO env h h') : LS H0 env bx scr m' cm' h' :=
  ⟨F, S.X.own S.F k, S.nb, S.ns, S.ob, S.os⟩
theorem LS.assigned (S : LS H0 env bx scr m cm h) (n : h'.Ns env.locals m') (X : BoxAt bx scr h') (k : ∀ a o, ¬ MutB bx scr a → a ≠ env.locals → h.get? a = some o → h'.get? a = some o) : LS H0 env bx scr m' cm h' := by
  refine ⟨⟨n, fun x c e => ?_, fun a o e => k a o (S.baseM a o e).2 (fun q => ?_) (S.F.keep a o e), S.F.freshL, S.F.freshC, S.F.apart⟩, X, S.nb, S.ns, S.ob, S.os⟩
  · obtain ⟨o, e1, e2⟩ := S.F.cell x c e
    refine ⟨o, k c o (fun q => q.elim (fun q => S.ob (.inr ⟨x, by rw [← show c = bx from q]; exact e⟩)) fun q => S.os (.inr ⟨x, by rw [← show c = scr from q]; exact e⟩)) (S.F.freshC x c e).2 e1, e2⟩
  · rw [q, S.F.freshL] at e; cases e
theorem LS.sees (S : LS H0 env bx scr m cm h) {a : Addr} (e : h.get? a = none) : ¬ MutB bx scr a ∧ ¬ Own env a := by
  refine ⟨fun q => ?_, S.F.notOwn e⟩
  obtain ⟨o, e'⟩ := S.X.alive a q
  rw [e] at e'; cases e'
abbrev LS.stays (_ : LS H0 env bx scr m cm h) (h₁ h₂ : Heap) : Prop := ∀ a o, ¬ MutB bx scr a → ¬ Own env a → h₁.get? a = some o → h₂.get? a = some o
theorem FR.koc (_ : FR H0 env m cm h) {x : Str} {c : Addr} {h₁ h₂ : Heap} (hc : env.cells.lookup x = some c) (s : Heap.SameBut c h₁ h₂) : KO env h₁ h₂ := KO.cel hc s
theorem FR.kol (_ : FR H0 env m cm h) {h₁ h₂ : Heap} (s : Heap.SameBut env.locals h₁ h₂) : KO env h₁ h₂ := KO.loc s
abbrev FR.ko (_ : FR H0 env m cm h) (h₁ h₂ : Heap) : Prop := KO env h₁ h₂
theorem cell_keep {c : Addr} {v : Option Value} (x : h.IsCell c v) (hc : ¬ MutB bx scr c) (u : ∀ a o, ¬ MutB bx scr a → h.get? a = some o → h'.get? a = some o) : h'.IsCell c v := by
  obtain ⟨o, e, d⟩ := x
  exact ⟨o, u c o hc e, d⟩
theorem LS.cellNot (S : LS H0 env bx scr m cm h) {n : Str} {c : Addr} (e : env.cells.lookup n = some c) : ¬ MutB bx scr c := fun q =>
  q.elim (fun q => S.ob (.inr ⟨n, by rw [← show c = bx from q]; exact e⟩)) fun q => S.os (.inr ⟨n, by rw [← show c = scr from q]; exact e⟩)
theorem LS.locNot (S : LS H0 env bx scr m cm h) : ¬ MutB bx scr env.locals := fun q => q.elim (fun q => S.ob (q ▸ .inl rfl)) fun q => S.os (q ▸ .inl rfl)
end
theorem made_N {c : Nat} {B : Int} {h₀ h : Heap} {D : Addr} {ys : List Value} (m : Made (YN B) h₀ D ys h) (hn : ys.length = c) : ∃ k, h.get? D = some (PySem.W.listOf (List.toArray ys) k) ∧ YB c B 0 (.ref D) (some (PySem.W.listOf (List.toArray ys) k)) :=
  ⟨ys.length, m.at_, D, ys, ys.length, rfl, rfl, hn, fun j hj => by
    obtain ⟨oo, ⟨_, z, t, e, b⟩, _⟩ := m.elt j ys[j] (List.getElem?_eq_getElem (by rw [hn]; exact hj))
    exact ⟨z, t, by rw [List.getElem?_eq_getElem (by rw [hn]; exact hj), e], b⟩⟩
end Mine

namespace Mine
open PySem PySem.W PyProof.Rows PySem.Calls PySem.Spec
set_option maxHeartbeats 8000000 in
set_option maxRecDepth 100000 in
theorem law_holds : PySem.Challenge.rw_sa0072_01.Holds := Mine.hd (by
  k_go0
  rename_i w s₀ s₁ mg mb G Y fa o pm doc ho hgens KX X V GL T B TE TW a14 a13 M cdv a11 hcd ns hs hlay0 hL1 hr1 hl2 a9 a8 scr0 vs a5 hL ra w1 r0 hI hr hcond' hcond K0 hD h₁ tk₁ F o4 o3 o2 o1 o0 l3 l2 l1 l0 r0' N0 X0
  clear G Y X V GL B TE TW M hcd hs hlay0 hL1 hr1 hl2 ra w1 r0 hr hD l3 l2 l1 l0 r0'
  have G₀ : GT w mg mb _ s₁.heap := ⟨KX, topRead_of T⟩
  refine with_fr (m' := upd (fun _ => none) (Str.ofString "script") (.ref scr0)) (cm' := fun _ => none) F N0 X0 rfl rfl rfl rfl rfl fun F' => ?_
  clear F N0 X0
  obtain ⟨L, hLs⟩ : ∃ L, L = s₁.heap.objs.size := ⟨_, rfl⟩
  rw [← hLs] at F' ⊢
  generalize hAe : callerA.deeper _ = A
  have hA : A.handled = none := by rw [← hAe]; rfl
  have hdep : A.depth + 20 < recursionLimit := by rw [← hAe]; show callerA.depth + 1 + 20 < recursionLimit; decide
  have hun : A.units + 200 < cLine := by rw [← hAe]; show callerA.units + 3 + 200 < cLine; decide
  clear hAe
  refine wpAny_mono (Q := fun f s' => f = .ret (.bool true) ∧ ∃ h tk m cm, s' = { s₁ with heap := h, toks := tk } ∧ F'.like2 m cm h) ?walk ?fin (fun _ _ e => e)
  case fin =>
    rintro _ _ ⟨rfl, h, tk, m, cm, rfl, F⟩
    refine goodW_bool (L := L) (m := m) ⟨F.ns, F.keep, Nat.le_of_eq hLs.symm⟩ hgens (fun _ => rfl) ?_
    first | wrow_post | kc_post
  case walk =>
    have Vscr := F'.loc (x := Str.ofString "script") (v := .ref scr0) rfl rfl
    have hvl : vs.length ≤ 63 := by have := hI.length; omega
    have hL₁ : h₁.IsList scr0 vs.toArray := by obtain ⟨o', e, r⟩ := hL; exact ⟨o', F'.keep _ _ e, r⟩
    have G₁ := G₀.keeps F'.keep
    refine wpAny_execs_cons (wpAny_Assign_Name (List_ (spliced_more ?_)))
    refine listComp (cl := []) true NoMut (fun _ => True) (fun _ y oo => oo = none ∧ ∃ n t, y = Value.int n t) rfl rfl (by decide) (fun _ _ _ q => q.elim) (fun _ _ _ _ => trivial) ?_
    refine wpAny_Subscript_list_slice (nm_var Vscr (evalPart_none_step (evalPart_some_step (wpAny_Constant_int ?_))))
    have hpk := slice_ints_uptoW hI (y := 40) (by decide)
    refine ⟨scr0, vs.toArray, none, some 40, rfl, hL₁, by rw [List.size_toArray, PySem.sizeLine_eq]; omega, .none, .int 40 _, ?_⟩
    have hil : (slicePick vs.toArray none (some 40) none).size ≤ 40 := by have := hpk.length; rw [List.length_take] at this; simp at this; omega
    refine comp_list (by exact hA) ⟨_, _, rfl⟩ (items := slicePick vs.toArray none (some 40) none) ?hl (fun a o e => Heap.get?_push_of_some _ (Heap.get?_push_of_some _ e)) (fun q => q) (fun _ q => q.elim) (fun _ _ _ _ => trivial) trivial (by rw [PySem.sizeLine_eq]; omega)
      (fun H C Top _ _ _ => .one (.loc rfl)) ?turn ?done
    case hl => exact isl_push2 _ _ _
    case turn =>
      intro C i y s₃ E'' hi Vone hk _
      have G₃ := G₁.keeps fun a o e => hk a o (fun q => q) e
      have hy : ∃ n t, y = Value.int n t := by
        have hi' : (slicePick vs.toArray none (some 40) none).toList[i]? = some y := by rw [Array.getElem?_toList]; exact hi
        exact IntsAre.get? hpk hi'
      obtain ⟨n, t, rfl⟩ := hy
      refine TurnOk.plain trivial ?_
      refine call_type G₃ n_int b_int (spliced_more (nm_var Vone (spliced_none (call_int_int ?_))))
      exact ⟨KB.refl, trivial, none, ⟨rfl, n, t, rfl⟩, fun o ho => by cases ho⟩
    case done =>
      intro D h₂ tk₂ ys hys mk₂ _ k₂
      rw [if_pos rfl] at hys
      have F₂ := F'.keeps fun a o e => k₂ a o (fun q => q) e
      refine spliced_more (wpAny_Constant_int (spliced_none (wpAny_newList ?_)))
      dsimp only
      obtain ⟨bx, hbx⟩ : ∃ bx, bx = h₂.objs.size := ⟨_, rfl⟩
      have hbn : h₂.get? bx = none := by
        rw [hbx]
        cases q : h₂.get? h₂.objs.size with
        | none => rfl
        | some o => exact absurd (Heap.lt_size q) (Nat.lt_irrefl _)
      rw [← hbx]
      have hbe : (h₂.push { cls := .type "list", data := .seq [Value.ref D, Value.int 0 tk₂].toArray }).get? bx = some (PySem.W.listOf (List.toArray [Value.ref D, Value.int 0 tk₂]) 0) := by rw [hbx]; exact Heap.get?_push_size _ rfl
      have u₃ : ∀ a o, h₂.get? a = some o → (h₂.push { cls := .type "list", data := .seq [Value.ref D, Value.int 0 tk₂].toArray }).get? a = some o := fun a o e => Heap.get?_push_of_some _ e
      generalize h₂.push { cls := .type "list", data := .seq [Value.ref D, Value.int 0 tk₂].toArray } = h₃ at hbe u₃ ⊢
      have F₃ := F₂.keeps u₃
      refine st_cell F₃ (c := L + 1) rfl rfl rfl fun h₄ F₄ s₄ => ?_
      have dNot : ¬ Own _ D := F'.notOwn mk₂.fresh
      have hD₀ : s₁.heap.get? D = none := by
        cases q : s₁.heap.get? D with
        | none => rfl
        | some o => have := F'.keep _ _ q; rw [mk₂.fresh] at this; cases this
      have bNot : ¬ Own _ bx := F₂.notOwn hbn
      have hb₀ : s₁.heap.get? bx = none := by
        cases q : s₁.heap.get? bx with
        | none => rfl
        | some o => have := F₂.keep _ _ q; rw [hbn] at this; cases this
      have hbD : bx ≠ D := fun q => by have := mk₂.at_; rw [← q, hbn] at this; cases this
      obtain ⟨zs, hzs⟩ := ints_of ys fun j v e => by
        obtain ⟨oo, ⟨_, q⟩, _⟩ := mk₂.elt j v e
        exact q
      have X₃ : BoxAt bx D h₃ := ⟨hbD, ⟨0, tk₂, 0, hbe⟩, ys, zs, _, u₃ _ _ mk₂.at_, hzs, by omega⟩
      have S₄ : LS s₁.heap _ bx D _ _ h₄ := LS.own (h := h₃) ⟨F₃, X₃, hb₀, hD₀, bNot, dNot⟩ F₄ (KO.cel (x := Str.ofString "box") rfl s₄)
      clear s₄ F₄ X₃ hbe u₃ F₃ F₂ k₂ mk₂ hbn hbx hzs hys
      dsimp only
      -- high
      refine wpAny_execs_cons (wpAny_Assign_Name (wpAny_BinOp (wpAny_Constant_int ?_)))
      refine take_call G₀ hA (by omega) (by omega) S₄.base S₄.X (by decide) (S₄.F.cel (c := L + 1) rfl rfl rfl) fun r t h₅ tk₅ r0 r1 X₅ k₅ => ?_
      have S₅ := S₄.keep' X₅ k₅
      refine sub_int ?_
      obtain ⟨high, hh, hhv⟩ : ∃ high : Nat, 3 - r = (high : Int) ∧ (high = 2 ∨ high = 3) := ⟨(3 - r).toNat, by omega, by omega⟩
      rw [hh]
      refine st_cell S₅.F (c := L + 2) rfl rfl rfl fun h₆ F₆ s₆ => ?_
      have S₆ := S₅.own F₆ (KO.cel (x := Str.ofString "high") rfl s₆)
      clear s₆ F₆ S₅ k₅ X₅ S₄
      -- wide
      refine wpAny_execs_cons (wpAny_Assign_Name (wpAny_BinOp (wpAny_BinOp ?_)))
      refine nm_var (S₆.F.cel (c := L + 2) rfl rfl rfl) (wpAny_Constant_int (sub_int ?_))
      refine take_call G₀ hA (by omega) (by omega) S₆.base S₆.X (by decide) (S₆.F.cel (c := L + 1) rfl rfl rfl) fun r' t' h₇ tk₇ r0' r1' X₇ k₇ => ?_
      have S₇ := S₆.keep' X₇ k₇
      refine add_int ?_
      obtain ⟨wide, hw, hw1, hw2⟩ : ∃ wide : Nat, (high : Int) - 1 + r' = (wide : Int) ∧ high ≤ wide + 1 ∧ wide ≤ high + 2 := ⟨((high : Int) - 1 + r').toNat, by omega, by omega, by omega⟩
      rw [hw]
      refine st_cell S₇.F (c := L + 3) rfl rfl rfl fun h₈ F₈ s₈ => ?_
      have S₈ := S₇.own F₈ (KO.cel (x := Str.ofString "wide") rfl s₈)
      clear s₈ F₈ S₇ k₇ X₇ S₆
      -- a
      have G₈ := G₀.keeps S₈.F.keep
      refine wpAny_execs_cons ?_
      refine listComp_assign (cl := _) true (MutB bx D) (BoxAt bx D) (YB wide 3) rfl rfl (by decide) (fun _ => BoxAt.alive) (fun _ _ => BoxAt.same) rfl rfl rfl S₈.F.ns S₈.locNot ?_
      refine call_type G₈ n_range b_range (spliced_more (nm_var (S₈.F.cel (c := L + 2) rfl rfl rfl) (spliced_none ?_)))
      refine range_iter1 (by omega) fun I h₉ tk₉ k₉ hI st₉ => ?_
      refine comp_range (a := 0) (by exact hA) ⟨_, _, rfl⟩ st₉ (fun a o e => ⟨k₉ a o e, fun q => by rw [q] at e; have hI' : h₈.get? I = none := hI; rw [hI'] at e; cases e⟩) (fun q => by
          obtain ⟨o, e⟩ := S₈.X.alive I q
          have hI' : h₈.get? I = none := hI
          rw [hI'] at e; cases e) (S₈.X.same fun a o _ e => k₉ a o e) (by rw [PySem.sizeLine_eq]; omega)
        (fun H C Top _ h2 h3 => .one (.loc rfl)) ?turnA ?doneA
      case turnA =>
        intro C i t₁ s₃ E'' hi Vrow hk hX₃
        have S₉ : LS s₁.heap _ bx D _ _ s₃.heap := S₈.keep hX₃ hk
        have G₉ := G₀.keeps S₉.F.keep
        refine TurnOk.plain hX₃ ?_
        refine listComp (cl := _) true (MutB bx D) (BoxAt bx D) (YN 3) rfl rfl (by decide) (fun _ => BoxAt.alive) (fun _ _ => BoxAt.same) ?_
        refine call_type G₉ n_range b_range (spliced_more (nm_var (.cell (L + 3) (by exact .inl rfl) (by rfl) (S₉.F.cell (Str.ofString "wide") (L + 3) rfl)) (spliced_none ?_)))
        refine range_iter1 (by omega) fun I₂ h₁₀ tk₁₀ k₁₀ hI₂ st₁₀ => ?_
        refine comp_range (a := 0) (by exact hA) ⟨_, _, rfl⟩ st₁₀ (fun a o e => ⟨k₁₀ a o e, fun q => by rw [q] at e; have hI' : s₃.heap.get? I₂ = none := hI₂; rw [hI'] at e; cases e⟩) (fun q => by
            obtain ⟨o, e⟩ := hX₃.alive I₂ q
            have hI' : s₃.heap.get? I₂ = none := hI₂
            rw [hI'] at e; cases e) (hX₃.same fun a o _ e => k₁₀ a o e) (by rw [PySem.sizeLine_eq]; omega)
          (fun H C Top _ h2 h3 => .one (.loc rfl)) ?turnB ?doneB
        case turnB =>
          intro C₂ j t₂ s₄ E₃ hj Vcol hk₂ hX₄
          have S₁₀ : LS s₁.heap _ bx D _ _ s₄.heap := S₉.keep hX₄ hk₂
          refine TurnOk.plain hX₄ ?_
          refine wpAny_BinOp ?_
          refine take_call G₀ hA (by omega) (by omega) S₁₀.base S₁₀.X (by decide) (.cell (L + 1) (by exact .inl rfl) (by rfl) (S₁₀.F.cell (Str.ofString "box") (L + 1) rfl)) fun r t₃ h₁₁ tk₁₁ r0 r1 X₁₁ k₁₁ => ?_
          refine wpAny_Constant_int (sub_int ?_)
          exact ⟨⟨h₁₁, _, rfl, fun a o n e => k₁₁ a o (fun q => n (.inl q)) (fun q => n (.inr q)) e⟩, X₁₁, none, ⟨rfl, _, _, rfl, by omega, by omega⟩, fun o ho => by cases ho⟩
        case doneB =>
          intro D₂ h₁₁ tk₁₁ ys hys mk X₁₁ k₁₁
          rw [if_pos rfl] at hys
          obtain ⟨kk, q1, q2⟩ := made_N mk hys
          exact ⟨⟨h₁₁, tk₁₁, rfl, k₁₁⟩, X₁₁, some _, q2, fun o ho => ⟨D₂, rfl, mk.fresh, by cases ho; exact q1⟩⟩
      case doneA =>
        intro Da _ _ ys hys _ _ _ h₉ tk₉ n₉ mk₉ X₉ k₉
        rw [if_pos rfl] at hys
        obtain ⟨f, hMa, hfb⟩ := made_B mk₉ hys
        have U₁ := S₈.assigned n₉ X₉ k₉
        have hMa' : ∀ h', (∀ a o, ¬ MutB bx D a → ¬ Own _ a → h₉.get? a = some o → h'.get? a = some o) → MatF h' (.ref Da) high wide f := fun h' k => hMa h' fun a o e1 e2 => k a o (S₈.sees e1).1 (S₈.sees e1).2 e2
        clear mk₉ k₉ X₉ hMa
        -- b
        have W₁ := G₀.keeps U₁.F.keep
        dsimp only
        refine wpAny_execs_cons (wpAny_Assign_Name ?_)
        refine listComp (cl := _) true (MutB bx D) (BoxAt bx D) (YB high 3) rfl rfl (by decide) (fun _ => BoxAt.alive) (fun _ _ => BoxAt.same) ?_
        refine call_type W₁ n_range b_range (spliced_more (nm_var (U₁.F.cel (c := L + 3) rfl rfl rfl) (spliced_none ?_)))
        refine range_iter1 (by omega) fun I g₂ tg₂ kg₂ hJ sg₂ => ?_
        refine comp_range (a := 0) (by exact hA) ⟨_, _, rfl⟩ sg₂ (fun a o e => ⟨kg₂ a o e, fun q => by rw [q] at e; have hJ' : h₉.get? I = none := hJ; rw [hJ'] at e; cases e⟩) (fun q => by
            obtain ⟨o, e⟩ := U₁.X.alive I q
            have hJ' : h₉.get? I = none := hJ
            rw [hJ'] at e; cases e) (U₁.X.same fun a o _ e => kg₂ a o e) (by rw [PySem.sizeLine_eq]; omega)
          (fun H C Top _ h2 h3 => .one (.loc rfl)) ?turnC ?doneC
        case turnC =>
          intro C i t₁ s₃ E'' hi Vrow hk hX₃
          have U₂ : LS s₁.heap _ bx D _ _ s₃.heap := U₁.keep hX₃ hk
          have W₂ := G₀.keeps U₂.F.keep
          refine TurnOk.plain hX₃ ?_
          refine listComp (cl := _) true (MutB bx D) (BoxAt bx D) (YN 3) rfl rfl (by decide) (fun _ => BoxAt.alive) (fun _ _ => BoxAt.same) ?_
          refine call_type W₂ n_range b_range (spliced_more (nm_var (.cell (L + 2) (by exact .inl rfl) (by rfl) (U₂.F.cell (Str.ofString "high") (L + 2) rfl)) (spliced_none ?_)))
          refine range_iter1 (by omega) fun I₂ g₃ tg₃ kg₃ hJ₂ sg₃ => ?_
          refine comp_range (a := 0) (by exact hA) ⟨_, _, rfl⟩ sg₃ (fun a o e => ⟨kg₃ a o e, fun q => by rw [q] at e; have hJ' : s₃.heap.get? I₂ = none := hJ₂; rw [hJ'] at e; cases e⟩) (fun q => by
              obtain ⟨o, e⟩ := hX₃.alive I₂ q
              have hJ' : s₃.heap.get? I₂ = none := hJ₂
              rw [hJ'] at e; cases e) (hX₃.same fun a o _ e => kg₃ a o e) (by rw [PySem.sizeLine_eq]; omega)
            (fun H C Top _ h2 h3 => .one (.loc rfl)) ?turnD ?doneD
          case turnD =>
            intro C₂ j t₂ s₄ E₃ hj Vcol hk₂ hX₄
            have U₃ : LS s₁.heap _ bx D _ _ s₄.heap := U₂.keep hX₄ hk₂
            refine TurnOk.plain hX₄ ?_
            refine wpAny_BinOp ?_
            refine take_call G₀ hA (by omega) (by omega) U₃.base U₃.X (by decide) (.cell (L + 1) (by exact .inl rfl) (by rfl) (U₃.F.cell (Str.ofString "box") (L + 1) rfl)) fun r t₃ g₄ tg₄ r0 r1 Z₄ kg₄ => ?_
            refine wpAny_Constant_int (sub_int ?_)
            exact ⟨⟨g₄, _, rfl, fun a o n e => kg₄ a o (fun q => n (.inl q)) (fun q => n (.inr q)) e⟩, Z₄, none, ⟨rfl, _, _, rfl, by omega, by omega⟩, fun o ho => by cases ho⟩
          case doneD =>
            intro D₂ g₄ tg₄ ys hys mk Z₄ kg₄
            rw [if_pos rfl] at hys
            obtain ⟨kk, q1, q2⟩ := made_N mk hys
            exact ⟨⟨g₄, tg₄, rfl, kg₄⟩, Z₄, some _, q2, fun o ho => ⟨D₂, rfl, mk.fresh, by cases ho; exact q1⟩⟩
        case doneC =>
          intro Db g₅ tg₅ yb hyb mk₅ X₅ k₅
          rw [if_pos rfl] at hyb
          obtain ⟨g, hMb, hgb⟩ := made_B mk₅ hyb
          have U₄ := U₁.keep X₅ k₅
          have hMb' : ∀ h', (∀ a o, ¬ MutB bx D a → ¬ Own _ a → g₅.get? a = some o → h'.get? a = some o) → MatF h' (.ref Db) wide high g := fun h' k => hMb h' fun a o e1 e2 => k a o (U₁.sees e1).1 (U₁.sees e1).2 e2
          have K₅ : U₁.stays h₉ g₅ := fun a o n1 _ e => k₅ a o n1 e
          refine st_cell U₄.F (c := L + 4) rfl rfl rfl fun h₆ F₆ s₆ => ?_
          have ko₆ := U₄.F.koc (x := Str.ofString "b") rfl s₆
          have S₆ := U₄.own F₆ ko₆
          clear X₅ mk₅ hMb F₆ s₆
          -- h
          refine wpAny_execs_cons (wpAny_Assign_Name (wpAny_BinOp ?_))
          refine take_call G₀ hA (by omega) (by omega) S₆.base S₆.X (by decide) (S₆.F.cel (c := L + 1) rfl rfl rfl) fun r₇ t₇ h₇ tk₇ r0₇ r1₇ X₇ k₇ => ?_
          have S₇ := S₆.keep' X₇ k₇
          refine wpAny_Constant_int (sub_int ?_)
          obtain ⟨hv, hhv1, hhv2, hhv3⟩ : ∃ hv : Int, r₇ - 2 = hv ∧ -2 ≤ hv ∧ hv ≤ 2 := ⟨_, rfl, by omega, by omega⟩
          rw [hhv1]
          refine st_loc S₇.F rfl rfl fun h₈' F₈ s₈ => ?_
          have ko₈ := S₇.F.kol s₈
          have Ma₈ : MatF h₈' (.ref Da) high wide f := hMa' h₈' fun a o n1 n2 e => ko₈ a o n2 (k₇ a o (fun q => n1 (.inl q)) (fun q => n1 (.inr q)) (ko₆ a o n2 (K₅ a o n1 n2 e)))
          have Mb₈ : MatF h₈' (.ref Db) wide high g := hMb' h₈' fun a o n1 n2 e => ko₈ a o n2 (k₇ a o (fun q => n1 (.inl q)) (fun q => n1 (.inr q)) (ko₆ a o n2 e))
          clear hMa' hMb' ko₈ s₈ S₇ k₇ X₇ S₆ ko₆ K₅ U₄ k₅ U₁
          dsimp only
          -- total
          refine wpAny_execs_cons (wpAny_Assign_Name (wpAny_Constant_int ?_))
          refine st_loc F₈ rfl rfl fun h₁₀ F₁₀ s₁₀ => ?_
          have ko₁₀ := F₈.kol s₁₀
          have Ma₁₀ := Ma₈.own F₈ ko₁₀
          have Mb₁₀ := Mb₈.own F₈ ko₁₀
          clear ko₁₀ s₁₀ Ma₈ Mb₈ F₈
          have G₁₀ := G₀.keeps F₁₀.keep
          dsimp only
          -- the lots
          refine wpAny_execs_cons (for_at ?_)
          refine call_def G₁₀ n_lots lk65 (spliced_more (nm_var (F₁₀.cel (c := L + 3) rfl rfl rfl) (spliced_more (nm_var (F₁₀.cel (c := L + 2) rfl rfl rfl) (spliced_none ⟨G₁₀, ?_⟩)))))
          refine lots_spec high G₁₀ hA (by omega) (by omega) (by omega) fun Dl ys h₁₁ tk₁₁ hDl hLl hys k₁₁ => ?_
          have F₁₁ := F₁₀.keeps k₁₁
          have Ma₁₁ := Ma₁₀.keeps k₁₁
          have Mb₁₁ := Mb₁₀.keeps k₁₁
          have nDl := F₁₀.notOwn hDl
          refine wpAny_pyIter_list hLl ?_
          dsimp only
          obtain ⟨Il, hIl⟩ : ∃ Il, Il = h₁₁.objs.size := ⟨_, rfl⟩
          have hIn : h₁₁.get? Il = none := by
            rw [hIl]
            cases q : h₁₁.get? h₁₁.objs.size with
            | none => rfl
            | some o => exact absurd (Heap.lt_size q) (Nat.lt_irrefl _)
          have nIl := F₁₁.notOwn hIn
          have oIl := F₁₁.off hIn
          have hDI : Dl ≠ Il := fun q => by obtain ⟨o, e, _⟩ := hLl; rw [q, hIn] at e; cases e
          rw [← hIl]
          have it₁₂ : (h₁₁.push { cls := .type "list_iterator", data := .fields #[.ref Dl, .int 0 0] }).IsListIter Il Dl 0 := ⟨_, by rw [hIl]; exact Heap.get?_push_size _ rfl, rfl, rfl⟩
          have u₁₂ : ∀ a o, h₁₁.get? a = some o → (h₁₁.push { cls := .type "list_iterator", data := .fields #[.ref Dl, .int 0 0] }).get? a = some o := fun a o e => Heap.get?_push_of_some _ e
          generalize h₁₁.push { cls := .type "list_iterator", data := .fields #[.ref Dl, .int 0 0] } = h₁₂ at it₁₂ u₁₂ ⊢
          refine ForAt.mk (fun i s' => ∃ h tk m cm tot t, s' = { s₁ with heap := h, toks := tk } ∧ F₁₁.like2 m cm h ∧ F₁₁.ko h₁₁ h ∧ m (Str.ofString "a") = some (.ref Da) ∧ (∃ th, m (Str.ofString "h") = some (.int hv th)) ∧ m (Str.ofString "total") = some (.int tot t) ∧
            tot = isum i (lotT high (lots high wide) f g) ∧ cm (Str.ofString "b") = some (.ref Db) ∧ (∃ t, cm (Str.ofString "wide") = some (.int (wide : Int) t)) ∧ (∃ t, cm (Str.ofString "high") = some (.int (high : Int) t)))
            (iter_list hA Il Dl hDI ys.toArray) ⟨it₁₂, by obtain ⟨o, e, r⟩ := hLl; exact ⟨o, u₁₂ _ _ e, r⟩⟩ ⟨h₁₂, _, _, _, _, _, rfl, F₁₁.keeps u₁₂, KO.of u₁₂, rfl, ⟨_, rfl⟩, rfl, rfl, rfl, ⟨_, rfl⟩, ⟨_, rfl⟩⟩ ?stable ?turn ?after
          case stable =>
            rintro i s' h' tk' ⟨h, tk, m, cm, tot, t, rfl, F, ko, e1, e2, e3, e4, e5, e6, e7⟩ hk
            refine ⟨h', tk', m, cm, tot, t, rfl, F.but oIl hk, fun a o n e => hk a o (fun q => ?_) (ko a o n e), e1, e2, e3, e4, e5, e6, e7⟩
            rw [List.mem_singleton.mp q, hIn] at e; cases e
          case turn =>
            rintro i _ s₃ E' hi ⟨v, rfl, hv'⟩ _ ⟨h, tk, m, cm, tot, t, rfl, F, ko, e1, ⟨th, e2⟩, e3, e4, e5, ⟨tw, e6⟩, ⟨thi, e7⟩⟩ alive
            have hi' : ys[i]? = some v := by rw [List.getElem?_toArray] at hv'; exact hv'
            have hil : i < (lots high wide).length := by rw [← hys.1]; exact (List.getElem?_eq_some_iff.mp hi').1
            obtain ⟨lo, hlo⟩ : ∃ lo, (lots high wide)[i]? = some lo := ⟨_, List.getElem?_eq_getElem hil⟩
            obtain ⟨T', vsT, rfl, hT, hTI⟩ := hys.2 i v lo hi' hlo
            have hget : (lots high wide).getD i [] = lo := by rw [List.getD_eq_getElem?_getD, hlo]; rfl
            have hlen : lo.length = high := (lots_len high (by omega) wide (by omega)).2 lo (List.mem_of_getElem? hlo)
            have hlt := lots_lt high (by omega) wide (by omega) lo (List.mem_of_getElem? hlo)
            have hvT : vsT.length = high := by have := hTI.length; rw [List.length_map] at this; omega
            refine st_cell F (c := L + 5) rfl rfl rfl fun h₁₃ F₁₃ s₁₃ => ?_
            have ko₁₃ := ko.trans (F.koc (x := Str.ofString "lot") rfl s₁₃)
            have Ma₁₃ := Ma₁₁.own F₁₁ ko₁₃
            have Mb₁₃ := Mb₁₁.own F₁₁ ko₁₃
            have hT₁₃ := tup_own hT F₁₁ ko₁₃
            have G₁₃ := G₀.keeps F₁₃.keep
            have clot := F₁₃.cell (Str.ofString "lot") (L + 5) rfl
            dsimp only
            refine wpAny_execs_cons (wpAny_Assign_Name (wpAny_BinOp (nm_var (F₁₃.loc rfl e3) (wpAny_BinOp ?_))))
            refine det_call hA (by omega) (by omega) G₁₃ ?_
            refine listComp (cl := _) true NoMut (fun _ => True) (YRow high (fun p q => f p (lo.getD q 0))) rfl rfl (by decide) (fun _ _ _ q => q.elim) (fun _ _ _ _ => trivial) ?_
            refine nm_var (F₁₃.loc rfl e1) ?_
            obtain ⟨Aa, rsa, ka, hva, ea2, ea3, ea4⟩ := id Ma₁₃
            cases hva
            refine comp_list (by exact hA) ⟨_, _, rfl⟩ (isList_of ea2) (fun _ _ e => e) (fun q => q) (fun _ q => q.elim) (fun _ _ _ _ => trivial) trivial (by rw [List.size_toArray, ea3, PySem.sizeLine_eq]; omega)
              (fun H C Top _ h2 h3 => .one (.cell (C + 1) rfl rfl (Nat.lt_succ_self C) (top_of h2 h3 rfl))) ?t1 ?d1
            case t1 =>
              intro C i₁ y s₄ E₄ hi₁ Vrow hk₄ _
              have u₄ : ∀ a o, h₁₃.get? a = some o → s₄.heap.get? a = some o := fun a o e => hk₄ a o (fun q => q) e
              have hir : i₁ < high := by rw [← ea3]; exact (Array.getElem?_eq_some_iff.mp hi₁).1
              obtain ⟨T1, hT1, R1⟩ := ea4 i₁ hir
              have hy1 : y = .ref T1 := by rw [List.getElem?_toArray] at hi₁; rw [hi₁] at hT1; exact Option.some.inj hT1
              subst hy1
              have R₄ := R1.keeps u₄
              refine TurnOk.plain trivial ?_
              refine listComp (cl := _) true NoMut (fun _ => True) (YInt (fun q => f i₁ (lo.getD q 0))) rfl rfl (by decide) (fun _ _ _ q => q.elim) (fun _ _ _ _ => trivial) ?_
              refine nm_var (.cell (L + 5) (by exact .inl rfl) (by rfl) (clot.keeps u₄)) ?_
              refine comp_tup (by exact hA) ⟨_, _, rfl⟩ (items := vsT.toArray) (IsTup.keeps hT₁₃ u₄) (fun _ _ e => e) (fun q => q) (fun _ q => q.elim) (fun _ _ _ _ => trivial) trivial (by rw [List.size_toArray, hvT, PySem.sizeLine_eq]; omega)
                (fun H C Top _ h2 h3 => .one (.loc rfl)) ?t2 ?d2
              case t2 =>
                intro C2 j va s₅ E₅ hj Vat hk₅ _
                have u₅ : ∀ a o, s₄.heap.get? a = some o → s₅.heap.get? a = some o := fun a o e => hk₅ a o (fun q => q) e
                rw [List.getElem?_toArray] at hj
                obtain ⟨⟨ta, rfl⟩, hj1, hj2⟩ := lot_at hTI hj
                have hjw := hlt _ hj2
                obtain ⟨vs1, k1, r1', r2', r3'⟩ := R₄.keeps u₅
                obtain ⟨tz, hz⟩ := r3' _ hjw
                refine TurnOk.plain trivial ?_
                refine sub_at (nm_var ((Vrow.keeps u₅).pass (c := C + 1) (by exact .inl rfl) (by rfl) (by exact .inl rfl) (by rfl)) (nm_var Vat ?_))
                refine ⟨T1, _, _, _, .int (f i₁ (lo.getD j 0)) tz, rfl, rfl, isList_of r1', by omega, by omega, by rw [Int.toNat_natCast]; simpa using hz, ?_⟩
                exact ⟨KB.refl, trivial, none, ⟨rfl, _, rfl⟩, fun o ho => by cases ho⟩
              case d2 =>
                intro D₂ h₆ tk₆ ys₂ hys₂ mk₆ _ k₆
                rw [if_pos rfl, List.size_toArray, hvT] at hys₂
                obtain ⟨vs6, q6, z1, z2, z3⟩ := made_ints mk₆ hys₂
                exact ⟨⟨h₆, tk₆, rfl, k₆⟩, trivial, some (PySem.W.listOf (List.toArray vs6) q6), ⟨D₂, vs6, q6, rfl, rfl, z2, z3⟩, fun o ho => ⟨D₂, rfl, mk₆.fresh, by cases ho; exact z1⟩⟩
            case d1 =>
              intro D₁ h₁₄ tk₁₄ ys₁ hys₁ mk₁₄ _ k₁₄
              rw [if_pos rfl, List.size_toArray, ea3] at hys₁
              have u₁₄ : ∀ a o, h₁₃.get? a = some o → h₁₄.get? a = some o := fun a o e => k₁₄ a o (fun q => q) e
              have hloj : ∀ j, j < high → lo.getD j 0 < wide := fun j hj => by
                refine hlt _ ?_
                rw [List.getD_eq_getElem?_getD, List.getElem?_eq_getElem (by omega)]
                exact List.getElem_mem _
              refine ⟨high, fun p q => f p (lo.getD q 0), G₁₃.keeps u₁₄, made_rows mk₁₄ hys₁, by omega, fun p q hp hq => bd3 (hfb p (lo.getD q 0) hp (hloj q hq)), fun t₁₅ h₁₅ tk₁₅ k₁₅ => ?_⟩
              have u₁₅ : ∀ a o, h₁₃.get? a = some o → h₁₅.get? a = some o := fun a o e => k₁₅ a o (u₁₄ a o e)
              have F₁₅ := F₁₃.keeps u₁₅
              have G₁₅ := G₁₃.keeps u₁₅
              have hT₁₅ := IsTup.keeps hT₁₃ u₁₅
              have d1b : Bd 100 high (fun p q => f p (lo.getD q 0)) := fun p q hp hq => bd3 (hfb p (lo.getD q 0) hp (hloj q hq))
              have d2b : Bd 100 high (fun p q => g (lo.getD p 0) q) := fun p q hp hq => bd3 (hgb (lo.getD p 0) q (hloj p hp) hq)
              refine det_call hA (by omega) (by omega) G₁₅ ?_
              obtain ⟨Ab, rsb, kb, hvb, eb2, eb3, eb4⟩ := Mb₁₃.keeps u₁₅
              cases hvb
              refine listComp (cl := _) true NoMut (fun _ => True) (fun j y oo => oo = none ∧ rsb[lo.getD j 0]? = some y) rfl rfl (by decide) (fun _ _ _ q => q.elim) (fun _ _ _ _ => trivial) ?_
              refine nm_var (F₁₅.cel (c := L + 5) rfl rfl rfl) ?_
              refine comp_tup (by exact hA) ⟨_, _, rfl⟩ (items := vsT.toArray) hT₁₅ (fun _ _ e => e) (fun q => q) (fun _ q => q.elim) (fun _ _ _ _ => trivial) trivial (by rw [List.size_toArray, hvT, PySem.sizeLine_eq]; omega)
                (fun H C Top _ h2 h3 => .one (.loc rfl)) ?t3 ?d3
              case t3 =>
                intro C2 j va s₅ E₅ hj Vat hk₅ _
                have u₅ : ∀ a o, h₁₅.get? a = some o → s₅.heap.get? a = some o := fun a o e => hk₅ a o (fun q => q) e
                rw [List.getElem?_toArray] at hj
                obtain ⟨⟨ta, rfl⟩, hj1, hj2⟩ := lot_at hTI hj
                have hjw := hlt _ hj2
                obtain ⟨Tz, hz, _⟩ := eb4 _ hjw
                refine TurnOk.plain trivial ?_
                have cb : s₅.heap.IsCell (L + 4) (cm (Str.ofString "b")) := (F₁₅.cell (Str.ofString "b") (L + 4) rfl).keeps u₅
                rw [e5] at cb
                refine sub_at (nm_var (.cell (L + 4) (by exact .inl rfl) (by rfl) cb) (nm_var Vat ?_))
                refine ⟨Db, _, _, _, .ref Tz, rfl, rfl, isList_of (u₅ _ _ eb2), by omega, by omega, by rw [Int.toNat_natCast]; simpa using hz, ?_⟩
                exact ⟨KB.refl, trivial, none, ⟨rfl, hz⟩, fun o ho => by cases ho⟩
              case d3 =>
                intro D₂ h₁₆ tk₁₆ ys₂ hys₂ mk₁₆ _ k₁₆
                rw [if_pos rfl, List.size_toArray, hvT] at hys₂
                have u₁₆ : ∀ a o, h₁₅.get? a = some o → h₁₆.get? a = some o := fun a o e => k₁₆ a o (fun q => q) e
                have M₁₆ : MatF h₁₆ (.ref D₂) high high (fun p q => g (lo.getD p 0) q) := ⟨D₂, ys₂, ys₂.length, rfl, mk₁₆.at_, hys₂, fun j hj => by
                  obtain ⟨oo, ⟨_, e⟩, _⟩ := mk₁₆.elt j ys₂[j] (List.getElem?_eq_getElem (by rw [hys₂]; exact hj))
                  obtain ⟨Tz, hz, R⟩ := eb4 _ (hloj j hj)
                  rw [e] at hz
                  exact ⟨Tz, by rw [List.getElem?_eq_getElem (by rw [hys₂]; exact hj)]; exact hz, R.keeps u₁₆⟩⟩
                refine ⟨high, fun p q => g (lo.getD p 0) q, G₁₅.keeps u₁₆, M₁₆, by omega, d2b, fun t₁₇ h₁₇ tk₁₇ k₁₇ => ?_⟩
                refine mul_int (add_int ?_) (mulOk (dt_small (by omega) d1b).1 (dt_small (by omega) d1b).2)
                have F₁₇ := (F₁₅.keeps u₁₆).keeps k₁₇
                refine st_loc F₁₇ rfl rfl fun h₁₈ F₁₈ s₁₈ => wpAny_execs_nil ?_
                have ko₁₈ : F₁₁.ko h₁₃ h₁₈ := fun a o n e => F₁₇.kol s₁₈ a o n (k₁₇ a o (u₁₆ a o (u₁₅ a o e)))
                refine ⟨fun a ha o e => ?_, h₁₈, _, _, _, _, _, rfl, F₁₈, ko₁₃.trans ko₁₈, ?_, ⟨th, ?_⟩, rfl, ?_, ?_, ⟨tw, ?_⟩, ⟨thi, ?_⟩⟩
                · rcases List.mem_cons.mp ha with q | q
                  · rw [q] at e ⊢
                    exact ko₁₈ _ o nIl (F.koc (x := Str.ofString "lot") rfl s₁₃ _ o nIl e)
                  · rw [List.mem_singleton.mp q] at e ⊢
                    exact ko₁₈ _ o nDl (F.koc (x := Str.ofString "lot") rfl s₁₃ _ o nDl e)
                · exact e1
                · exact e2
                · rw [isum, e4]
                  unfold lotT
                  rw [hget]
                · exact e5
                · exact e6
                · exact e7
          case after =>
            rintro s₃ ⟨h, tk, m, cm, tot, t, rfl, F, ko, e1, ⟨th, e2⟩, e3, e4, e5, ⟨tw, e6⟩, ⟨thi, e7⟩⟩
            have Ma₂₀ := Ma₁₁.own F₁₁ ko
            have Mb₂₀ := Mb₁₁.own F₁₁ ko
            have G₂₀ := G₀.keeps F.keep
            rw [List.size_toArray, hys.1, cauchy_binet f g high wide hhv hw1 hw2] at e4
            dsimp only
            -- small, great
            refine wpAny_execs_cons (Assign_Tuple_swapped (names := [Str.ofString "small", Str.ofString "great"]) ?_)
            refine Tuple_ (spliced_more ?_)
            refine call_def G₂₀ n_times lk70 (spliced_more (nm_var (F.loc rfl e1) (spliced_more (nm_var (F.cel (c := L + 4) rfl rfl e5) (spliced_none ⟨G₂₀, ?_⟩)))))
            refine times_spec G₂₀ hA (by omega) Ma₂₀ Mb₂₀ (by omega) (by omega) (by omega) (by omega) (fun p q hp hq => bd362 (hfb p q hp hq)) fun vS h₂₁ tk₂₁ MS k₂₁ => ?_
            have F₂₁ := F.keeps k₂₁
            have G₂₁ := G₂₀.keeps k₂₁
            refine spliced_more ?_
            refine call_def G₂₁ n_times lk70 (spliced_more (nm_var (F₂₁.cel (c := L + 4) rfl rfl e5) (spliced_more (nm_var (F₂₁.loc rfl e1) (spliced_none ⟨G₂₁, ?_⟩)))))
            refine times_spec G₂₁ hA (by omega) (Mb₂₀.keeps k₂₁) (Ma₂₀.keeps k₂₁) (by omega) (by omega) (by omega) (by omega) (fun p q hp hq => bd362 (hgb p q hp hq)) fun vG h₂₂ tk₂₂ MG k₂₂ => ?_
            have F₂₂ := F₂₁.keeps k₂₂
            have MS₂ := MS.keeps k₂₂
            refine spliced_none ?_
            refine wpAny_newObj_type ?_ (by show (2 : Nat) ≤ sizeLine; rw [PySem.sizeLine_eq]; decide)
            refine wpAny_unpackItems_tuple (items := #[vS, vG]) (by exact hA) ⟨_, Heap.get?_push_size _ rfl, rfl, _, rfl⟩ fun h₂₃ hx₂₃ => ?_
            have u₂₃ : ∀ a o, h₂₂.get? a = some o → h₂₃.get? a = some o := fun a o e => hx₂₃ a o (Nat.ne_of_lt (Heap.lt_size (Heap.get?_push_of_some _ e))) (Heap.get?_push_of_some _ e)
            have F₂₃ := F₂₂.keeps u₂₃
            have MS₃ := MS₂.keeps u₂₃
            have MG₃ := MG.keeps u₂₃
            refine wpAny_assignInOrder_more (wpAny_bindName (st_loc F₂₃ rfl rfl fun h₂₄ F₂₄ s₂₄ => ?_))
            refine wpAny_assignInOrder_more (wpAny_bindName (st_loc F₂₄ rfl rfl fun h₂₅ F₂₅ s₂₅ => ?_))
            refine wpAny_assignInOrder_none ?_
            have MS₅ := (MS₃.own F₂₃ (F₂₃.kol s₂₄)).own F₂₄ (F₂₄.kol s₂₅)
            have MG₅ := (MG₃.own F₂₃ (F₂₃.kol s₂₄)).own F₂₄ (F₂₄.kol s₂₅)
            have G₂₅ := G₀.keeps F₂₅.keep
            clear MS₃ MG₃ MS₂ MG MS s₂₄ s₂₅ hx₂₃ u₂₃ F₂₃ F₂₄ F₂₂ F₂₁ G₂₁ k₂₁ k₂₂ Ma₂₀ Mb₂₀ G₂₀
            dsimp only
            have bS : Bd 98 high (fun i j => isum wide fun k => f i k * g k j) := fun p q hp hq => sum_bd (by omega) fun k hk => ⟨hfb p k hp hk, hgb k q hk hq⟩
            have bG : Bd 98 wide (fun i j => isum high fun k => g i k * f k j) := fun p q hp hq => sum_bd (by omega) fun k hk => ⟨hgb p k hp hk, hfb k q hk hq⟩
            -- if determinant(small) != total
            refine wpAny_execs_cons (wpAny_If (wpAny_isTrue_Compare1 ?_))
            refine det_call hA (by omega) (by omega) G₂₅ ?_
            refine nm_var (F₂₅.loc rfl rfl) ?_
            refine ⟨high, _, G₂₅, MS₅, by omega, bd98 bS, fun t₂₆ h₂₆ tk₂₆ k₂₆ => ?_⟩
            have F₂₆ := F₂₅.keeps k₂₆
            refine nm_var (F₂₆.loc rfl e3) (ne_int (wpAny_truthy_bool ?_))
            rw [if_neg (by rw [e4]; simp)]
            refine wpAny_execs_nil ?_
            dsimp only
            have MS₆ := MS₅.keeps k₂₆
            have MG₆ := MG₅.keeps k₂₆
            have G₂₆ := G₀.keeps F₂₆.keep
            -- one, other
            refine wpAny_execs_cons (Assign_Tuple_swapped (names := [Str.ofString "one", Str.ofString "other"]) ?_)
            refine Tuple_ (spliced_more ?_)
            refine det_call hA (by omega) (by omega) G₂₆ ?_
            refine call_def G₂₆ n_more lk75 (spliced_more (nm_var (F₂₆.loc rfl rfl) (spliced_more (nm_var (F₂₆.loc rfl e2) (spliced_none ⟨G₂₆, ?_⟩)))))
            refine more_spec G₂₆ hA (by omega) MS₆ (by omega) (by omega) fun v₂₇ h₂₇ tk₂₇ M₂₇ k₂₇ => ?_
            refine ⟨high, _, G₂₆.keeps k₂₇, M₂₇, by omega, bdmore bS hhv2 hhv3, fun t₂₈ h₂₈ tk₂₈ k₂₈ => ?_⟩
            have F₂₈ := (F₂₆.keeps k₂₇).keeps k₂₈
            have G₂₈ := G₀.keeps F₂₈.keep
            have MG₈ := (MG₆.keeps k₂₇).keeps k₂₈
            refine spliced_more ?_
            refine det_call hA (by omega) (by omega) G₂₈ ?_
            refine call_def G₂₈ n_more lk75 (spliced_more (nm_var (F₂₈.loc rfl rfl) (spliced_more (nm_var (F₂₈.loc rfl e2) (spliced_none ⟨G₂₈, ?_⟩)))))
            refine more_spec G₂₈ hA (by omega) MG₈ (by omega) (by omega) fun v₂₉ h₂₉ tk₂₉ M₂₉ k₂₉ => ?_
            refine ⟨wide, _, G₂₈.keeps k₂₉, M₂₉, by omega, bdmore bG hhv2 hhv3, fun t₃₀ h₃₀ tk₃₀ k₃₀ => ?_⟩
            have F₃₀ := (F₂₈.keeps k₂₉).keeps k₃₀
            have b1 := dt_small (by omega) (bdmore bS hhv2 hhv3)
            have b2 := dt_small (by omega) (bdmore bG hhv2 hhv3)
            have sy1 := syl f g hv high wide hhv
            have sy2 := syl' f g hv high wide hhv
            generalize hone : dt high (fun i j => (isum wide fun k => f i k * g k j) + if j = i then hv else 0) = one at b1 sy1 sy2 ⊢
            generalize hother : dt wide (fun i j => (isum high fun k => g i k * f k j) + if j = i then hv else 0) = other at b2 sy1 sy2 ⊢
            refine spliced_none ?_
            refine wpAny_newObj_type ?_ (by show (2 : Nat) ≤ sizeLine; rw [PySem.sizeLine_eq]; decide)
            refine wpAny_unpackItems_tuple (items := #[.int one t₂₈, .int other t₃₀]) (by exact hA) ⟨_, Heap.get?_push_size _ rfl, rfl, _, rfl⟩ fun h₃₁ hx₃₁ => ?_
            have F₃₁ := F₃₀.keeps fun a o e => hx₃₁ a o (Nat.ne_of_lt (Heap.lt_size (Heap.get?_push_of_some _ e))) (Heap.get?_push_of_some _ e)
            refine wpAny_assignInOrder_more (wpAny_bindName (st_loc F₃₁ rfl rfl fun h₃₂ F₃₂ s₃₂ => ?_))
            refine wpAny_assignInOrder_more (wpAny_bindName (st_loc F₃₂ rfl rfl fun h₃₃ F₃₃ s₃₃ => ?_))
            refine wpAny_assignInOrder_none ?_
            dsimp only
            -- the answer
            refine wpAny_execs_cons (wpAny_Return_some (IfExp_ (wpAny_isTrue_Compare1 ?_)))
            refine nm_var (F₃₃.cel (c := L + 3) rfl rfl e6) (nm_var (F₃₃.cel (c := L + 2) rfl rfl e7) (ge_int (wpAny_truthy_bool ?_)))
            by_cases hge : high ≤ wide
            · rw [if_pos (by simpa using hge)]
              refine wpAny_Compare1 (nm_var (F₃₃.loc rfl rfl) (wpAny_BinOp (nm_var (F₃₃.loc rfl rfl) (wpAny_BinOp ?_))))
              refine nm_var (F₃₃.loc rfl e2) (wpAny_BinOp ?_)
              refine nm_var (F₃₃.cel (c := L + 3) rfl rfl e6) (nm_var (F₃₃.cel (c := L + 2) rfl rfl e7) (sub_int ?_))
              refine pow_int_small ?_ ?_ ?_ (mul_int (eq_int ?_) (mulOk b1.1 b1.2))
              · omega
              · omega
              · omega
              · have hn : ((wide : Int) - (high : Int)).toNat = wide - high := by omega
                rw [hn, sy1 hge hw2]
                rw [beq_self_eq_true]
                exact ⟨rfl, h₃₃, _, _, _, rfl, F₃₃⟩
            · rw [if_neg (by simpa using hge)]
              refine wpAny_Compare1 (nm_var (F₃₃.loc rfl rfl) (wpAny_BinOp (nm_var (F₃₃.loc rfl rfl) (wpAny_BinOp ?_))))
              refine nm_var (F₃₃.loc rfl e2) (wpAny_BinOp ?_)
              refine nm_var (F₃₃.cel (c := L + 2) rfl rfl e7) (nm_var (F₃₃.cel (c := L + 3) rfl rfl e6) (sub_int ?_))
              refine pow_int_small ?_ ?_ ?_ (mul_int (eq_int ?_) (mulOk b2.1 b2.2))
              · omega
              · omega
              · omega
              · have hn : ((high : Int) - (wide : Int)).toNat = high - wide := by omega
                rw [hn, sy2 (by omega)]
                rw [beq_self_eq_true]
                exact ⟨rfl, h₃₃, _, _, _, rfl, F₃₃⟩)
end Mine

theorem PySem.Challenge.cw_sa0072_01_holds : PySem.Challenge.rw_sa0072_01.Holds :=
  Mine.law_holds
