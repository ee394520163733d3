import PyProof.Rows.All
import Wide.All
import OpenK.AllK
import Wide.FinOn
import Lean
import PySem.Challenge.RW_no0241_01
open PySem PySem.Spec PySem.W PyProof.Rows
set_option Elab.async false
set_option linter.all false
set_option maxRecDepth 100000
set_option bootstrap.genMatcherCode false
namespace Mine
inductive Fn where
  | kind_at | is_op | need_op | need_name | need_int | close_at | priority_at | parse_expr | parse_binary | parse_first
  | parse_primary | constant_of | parse_bracket | part_end | is_complex | complex_part | parse_named | is_cut | parse_cut
  | parse_arguments | whole_expr
  | law_rank | law_ops | law_marks | law_names | law_operand | law_behind | law_row | law_mark | law_is_even | law_close
  | law_parted | law_part | law_cut | law_named | law_primary | law_read
theorem glq {P : Prop} (h : ∀ G : Prop, (P → G) → G) : P := h P id
mutual
inductive RD (h : Heap) : Value → PyData → Prop
  | none : RD h .none .none
  | bool (b) : RD h (.bool b) (.bool b)
  | int (i t) : RD h (.int i t) (.int i)
  | str (x t) : RD h (.str x t) (.str x)
  | list {a vs n ds} : IsL h a vs n → RDs h vs.toList ds → RD h (.ref a) (.list ds)
  | tuple {a vs n ds} : IsT h a vs n → RDs h vs.toList ds → RD h (.ref a) (.tuple ds)
inductive RDs (h : Heap) : List Value → List PyData → Prop
  | nil : RDs h [] []
  | cons {v vs d ds} : RD h v d → RDs h vs ds → RDs h (v :: vs) (d :: ds)
end
theorem RD.mono {h h' : Heap} (k : h.StaysIn h') {v : Value} {d : PyData} (x : RD h v d) : RD h' v d :=
  RD.rec (motive_1 := fun v d _ => RD h' v d) (motive_2 := fun v d _ => RDs h' v d) .none .bool .int .str (fun a _ q => .list (k _ _ a) q) (fun a _ q => .tuple (k _ _ a) q) .nil (fun _ _ p q => .cons p q) x
theorem RDs.mono {h h' : Heap} (k : h.StaysIn h') {v : List Value} {d : List PyData} (x : RDs h v d) : RDs h' v d :=
  RDs.rec (motive_1 := fun v d _ => RD h' v d) (motive_2 := fun v d _ => RDs h' v d) .none .bool .int .str (fun a _ q => .list (k _ _ a) q) (fun a _ q => .tuple (k _ _ a) q) .nil (fun _ _ p q => .cons p q) x
theorem RD.reads {h : Heap} {v : Value} {d : PyData} (x : RD h v d) : ∃ as, Reads h v d as :=
  RD.rec (motive_1 := fun v d _ => ∃ as, Reads h v d as) (motive_2 := fun v d _ => ∃ as, ReadsAll h v d as) ⟨_, .none⟩ (fun b => ⟨_, .bool b⟩) (fun i t => ⟨_, .int i t⟩) (fun x t => ⟨_, .str x t⟩) (fun a _ q => q.elim fun _ q => ⟨_, .list a rfl rfl q⟩) (fun a _ q => q.elim fun _ q => ⟨_, .tuple a rfl rfl q⟩) ⟨_, .nil⟩ (fun _ _ p q => p.elim fun _ p => q.elim fun _ q => ⟨_, .cons p q⟩) x
theorem RDs.ind {h : Heap} {P : List Value → List PyData → Prop} (n : P [] []) (c : ∀ {v vs d ds}, RD h v d → RDs h vs ds → P vs ds → P (v :: vs) (d :: ds)) {vs : List Value} {ds : List PyData} (x : RDs h vs ds) : P vs ds :=
  RDs.rec (motive_1 := fun _ _ _ => True) (motive_2 := fun v d _ => P v d) trivial (fun _ => trivial) (fun _ _ => trivial) (fun _ _ => trivial) (fun _ _ _ => trivial) (fun _ _ _ => trivial) n (fun a r _ q => c a r q) x
theorem RDs.length {h : Heap} {vs : List Value} {ds : List PyData} (x : RDs h vs ds) : vs.length = ds.length :=
  x.ind (P := fun vs ds => vs.length = ds.length) rfl fun _ _ q => congrArg (· + 1) q
theorem RDs.get {h : Heap} {vs : List Value} {ds : List PyData} (x : RDs h vs ds) : ∀ {k : Nat} {d}, ds[k]? = some d → ∃ v, vs[k]? = some v ∧ RD h v d :=
  x.ind (P := fun vs ds => ∀ {k : Nat} {d}, ds[k]? = some d → ∃ v, vs[k]? = some v ∧ RD h v d) (fun e => by cases e) fun {v vs d ds} a _ q {k d'} e => by
    cases k with
    | zero => cases e; exact ⟨_, rfl, a⟩
    | succ k => exact q (k := k) e
theorem RDs.append {h : Heap} {vs : List Value} {ds : List PyData} {ws : List Value} {es : List PyData} (x : RDs h vs ds) (y : RDs h ws es) : RDs h (vs ++ ws) (ds ++ es) :=
  x.ind (P := fun vs ds => RDs h (vs ++ ws) (ds ++ es)) y fun a _ q => .cons a q
theorem RDs.take {h : Heap} {vs : List Value} {ds : List PyData} (x : RDs h vs ds) : ∀ n, RDs h (vs.take n) (ds.take n) :=
  x.ind (P := fun vs ds => ∀ n, RDs h (vs.take n) (ds.take n)) (fun n => by simpa using RDs.nil) fun a _ q n => match n with | 0 => .nil | n + 1 => .cons a (q n)
inductive AV where
  | d (x : PyData)
  | loc (k : Nat)
  | tab (D : List (PyData × PyData))
noncomputable abbrev Sto := List (Option (List PyData))
noncomputable abbrev Rho := List (Option AV)
inductive Res (α : Type) where
  | ok (a : α) | exc | bad
noncomputable def Res.bind {α β : Type} : Res α → (α → Res β) → Res β
  | .ok a, f => f a
  | .exc, _ => .exc
  | .bad, _ => .bad
theorem Res.bind_ok {α β : Type} (a : α) (f : α → Res β) : (Res.ok a).bind f = f a := rfl
theorem Res.bind_exc {α β : Type} (f : α → Res β) : (Res.exc : Res α).bind f = .exc := rfl
theorem Res.bind_bad {α β : Type} (f : α → Res β) : (Res.bad : Res α).bind f = .bad := rfl
noncomputable def live : Sto → List Addr → List Addr
  | some _ :: σ, a :: la => a :: live σ la
  | none :: σ, _ :: la => live σ la
  | [], _ => []
  | _ :: _, [] => []
theorem mem_live {a : Addr} : ∀ {σ : Sto} {la : List Addr}, a ∈ live σ la ↔ ∃ (k : Nat) (ds : List PyData), σ[k]? = some (some ds) ∧ la[k]? = some a
  | [], la => by simp [live]
  | some ds :: σ, [] => by simp [live]
  | none :: σ, [] => by simp [live]
  | some ds :: σ, b :: la => by
    rw [live, List.mem_cons, mem_live (σ := σ) (la := la)]
    constructor
    · rintro (rfl | ⟨k, e, h1, h2⟩)
      · exact ⟨0, ds, rfl, rfl⟩
      · exact ⟨k + 1, e, h1, h2⟩
    · rintro ⟨k, e, h1, h2⟩
      cases k with
      | zero => left; simpa using h2.symm
      | succ k => exact .inr ⟨k, e, h1, h2⟩
  | none :: σ, b :: la => by
    rw [live, mem_live (σ := σ) (la := la)]
    constructor
    · rintro ⟨k, e, h1, h2⟩
      exact ⟨k + 1, e, h1, h2⟩
    · rintro ⟨k, e, h1, h2⟩
      cases k with
      | zero => simp at h1
      | succ k => exact ⟨k, e, h1, h2⟩
theorem seen_iff {h : Heap} {X : List Addr} {b : Addr} {o : Obj} : (hideAll h X).get? b = some o ↔ h.get? b = some o ∧ b ∉ X := by
  constructor
  · intro e
    refine ⟨of_hideAll _ e, fun hb => ?_⟩
    rw [hideAll_none _ hb] at e; cases e
  · rintro ⟨e, hb⟩
    exact hideAll_get _ e hb
theorem seen_mono {h h' : Heap} {X X' : List Addr} (k : ∀ b o, b ∉ X → h.get? b = some o → h'.get? b = some o ∧ b ∉ X') : (hideAll h X).StaysIn (hideAll h' X') := by
  intro b o e
  rw [seen_iff] at e ⊢
  exact k b o e.2 e.1
structure Locs (h : Heap) (frs : List Addr) (σ : Sto) (la : List Addr) : Prop where
  len : la.length = σ.length
  at' : ∀ (k : Nat) (ds : List PyData), σ[k]? = some (some ds) → ∃ a vs n, la[k]? = some a ∧ IsL h a vs n ∧ RDs (hideAll h (frs ++ live σ la)) vs.toList ds
  inj : ∀ (i j : Nat) (di dj : List PyData) (a : Addr), σ[i]? = some (some di) → σ[j]? = some (some dj) → la[i]? = some a → la[j]? = some a → i = j
  out : ∀ a ∈ live σ la, a ∉ frs
theorem Locs.keeps {h h' : Heap} {frs : List Addr} {σ : Sto} {la : List Addr} (x : Locs h frs σ la) (k : ∀ b o, h.get? b = some o → h'.get? b = some o) : Locs h' frs σ la :=
  ⟨x.len, fun i ds e => let ⟨a, vs, n, h1, h2, h3⟩ := x.at' i ds e; ⟨a, vs, n, h1, k _ _ h2, h3.mono (seen_mono fun b o hb e => ⟨k b o e, hb⟩)⟩, x.inj, x.out⟩
noncomputable abbrev P0 : Program := PySem.Challenge.pw_no0241_01
noncomputable abbrev DefOf (x : Str) := { d : Arguments × List Stmt × Scope // P0.theDef x = some d }
noncomputable def D_kind_at : DefOf (Str.ofString "kind_at") := ⟨_, rfl⟩
noncomputable def D_is_op : DefOf (Str.ofString "is_op") := ⟨_, rfl⟩
noncomputable def D_need_op : DefOf (Str.ofString "need_op") := ⟨_, rfl⟩
noncomputable def D_need_name : DefOf (Str.ofString "need_name") := ⟨_, rfl⟩
noncomputable def D_need_int : DefOf (Str.ofString "need_int") := ⟨_, rfl⟩
noncomputable def D_close_at : DefOf (Str.ofString "close_at") := ⟨_, rfl⟩
noncomputable def D_priority_at : DefOf (Str.ofString "priority_at") := ⟨_, rfl⟩
noncomputable def D_parse_expr : DefOf (Str.ofString "parse_expr") := ⟨_, rfl⟩
noncomputable def D_parse_binary : DefOf (Str.ofString "parse_binary") := ⟨_, rfl⟩
noncomputable def D_parse_first : DefOf (Str.ofString "parse_first") := ⟨_, rfl⟩
noncomputable def D_parse_primary : DefOf (Str.ofString "parse_primary") := ⟨_, rfl⟩
noncomputable def D_constant_of : DefOf (Str.ofString "constant_of") := ⟨_, rfl⟩
noncomputable def D_parse_bracket : DefOf (Str.ofString "parse_bracket") := ⟨_, rfl⟩
noncomputable def D_part_end : DefOf (Str.ofString "part_end") := ⟨_, rfl⟩
noncomputable def D_is_complex : DefOf (Str.ofString "is_complex") := ⟨_, rfl⟩
noncomputable def D_complex_part : DefOf (Str.ofString "complex_part") := ⟨_, rfl⟩
noncomputable def D_parse_named : DefOf (Str.ofString "parse_named") := ⟨_, rfl⟩
noncomputable def D_is_cut : DefOf (Str.ofString "is_cut") := ⟨_, rfl⟩
noncomputable def D_parse_cut : DefOf (Str.ofString "parse_cut") := ⟨_, rfl⟩
noncomputable def D_parse_arguments : DefOf (Str.ofString "parse_arguments") := ⟨_, rfl⟩
noncomputable def D_whole_expr : DefOf (Str.ofString "whole_expr") := ⟨_, rfl⟩
noncomputable def D_law_rank : DefOf (Str.ofString "_law_rank") := ⟨_, rfl⟩
noncomputable def D_law_ops : DefOf (Str.ofString "_law_ops") := ⟨_, rfl⟩
noncomputable def D_law_marks : DefOf (Str.ofString "_law_marks") := ⟨_, rfl⟩
noncomputable def D_law_names : DefOf (Str.ofString "_law_names") := ⟨_, rfl⟩
noncomputable def D_law_operand : DefOf (Str.ofString "_law_operand") := ⟨_, rfl⟩
noncomputable def D_law_behind : DefOf (Str.ofString "_law_behind") := ⟨_, rfl⟩
noncomputable def D_law_row : DefOf (Str.ofString "_law_row") := ⟨_, rfl⟩
noncomputable def D_law_mark : DefOf (Str.ofString "_law_mark") := ⟨_, rfl⟩
noncomputable def D_law_is_even : DefOf (Str.ofString "_law_is_even") := ⟨_, rfl⟩
noncomputable def D_law_close : DefOf (Str.ofString "_law_close") := ⟨_, rfl⟩
noncomputable def D_law_parted : DefOf (Str.ofString "_law_parted") := ⟨_, rfl⟩
noncomputable def D_law_part : DefOf (Str.ofString "_law_part") := ⟨_, rfl⟩
noncomputable def D_law_cut : DefOf (Str.ofString "_law_cut") := ⟨_, rfl⟩
noncomputable def D_law_named : DefOf (Str.ofString "_law_named") := ⟨_, rfl⟩
noncomputable def D_law_primary : DefOf (Str.ofString "_law_primary") := ⟨_, rfl⟩
noncomputable def D_law_read : DefOf (Str.ofString "_law_read") := ⟨_, rfl⟩
noncomputable def D_law : DefOf (Str.ofString "law") := ⟨_, rfl⟩
structure DefD where
  str : Str
  params : Arguments
  body : List Stmt
  scope : Scope
noncomputable def DefOf.dat {x : Str} (d : DefOf x) : DefD := ⟨x, d.1.1, d.1.2.1, d.1.2.2⟩
noncomputable def DF : Fn → DefD
  | .kind_at => D_kind_at.dat
  | .is_op => D_is_op.dat
  | .need_op => D_need_op.dat
  | .need_name => D_need_name.dat
  | .need_int => D_need_int.dat
  | .close_at => D_close_at.dat
  | .priority_at => D_priority_at.dat
  | .parse_expr => D_parse_expr.dat
  | .parse_binary => D_parse_binary.dat
  | .parse_first => D_parse_first.dat
  | .parse_primary => D_parse_primary.dat
  | .constant_of => D_constant_of.dat
  | .parse_bracket => D_parse_bracket.dat
  | .part_end => D_part_end.dat
  | .is_complex => D_is_complex.dat
  | .complex_part => D_complex_part.dat
  | .parse_named => D_parse_named.dat
  | .is_cut => D_is_cut.dat
  | .parse_cut => D_parse_cut.dat
  | .parse_arguments => D_parse_arguments.dat
  | .whole_expr => D_whole_expr.dat
  | .law_rank => D_law_rank.dat
  | .law_ops => D_law_ops.dat
  | .law_marks => D_law_marks.dat
  | .law_names => D_law_names.dat
  | .law_operand => D_law_operand.dat
  | .law_behind => D_law_behind.dat
  | .law_row => D_law_row.dat
  | .law_mark => D_law_mark.dat
  | .law_is_even => D_law_is_even.dat
  | .law_close => D_law_close.dat
  | .law_parted => D_law_parted.dat
  | .law_part => D_law_part.dat
  | .law_cut => D_law_cut.dat
  | .law_named => D_law_named.dat
  | .law_primary => D_law_primary.dat
  | .law_read => D_law_read.dat
noncomputable def mk1 (P : Params) (s : String) (t : Nat) (v : Value) : DictEntry := { hash := PyData.keyHash P (Str.ofString s), key := .str (Str.ofString s) t, val := v }
noncomputable def KH (P : Params) : Frag := [
  (27, { cls := .type "code", data := .fields #[.str (Str.ofString "__init__") 201, .str (Str.ofString "F77Error.__init__") 202, .str (Str.ofString "/claim/cut.py") 203, .int 4 0, .int 2 0, .int 0 0, .int 0 0, .int 3 0, .ref 22, .bool true, .int 181 0, .ref 23, .none, .ref 24, .ref 25, .ref 26, .int 206 0, .int 4 0, .str (Str.ofString "/claim/cut.py") 207] }),
  (28, { cls := .type "function", data := .func { name := Str.ofString "__init__", qualname := Str.ofString "F77Error.__init__", params := { posonlyargs := [], args := [{ arg := Str.ofString "self", annotation := none, pos := ⟨4, 17, 4, 21⟩ }, { arg := Str.ofString "text", annotation := none, pos := ⟨4, 23, 4, 27⟩ }], vararg := none, kwonlyargs := [], kw_defaults := [], kwarg := none, defaults := [] }, body := .stmts [.Expr (.Call (.Attribute (.Name (Str.ofString "Exception") ⟨5, 8, 5, 17⟩) (Str.ofString "__init__") ⟨5, 8, 5, 26⟩) [.Name (Str.ofString "self") ⟨5, 27, 5, 31⟩, .Name (Str.ofString "text") ⟨5, 33, 5, 37⟩] [] ⟨5, 8, 5, 38⟩) ⟨5, 8, 5, 38⟩, .Assign [.Attribute (.Name (Str.ofString "self") ⟨6, 8, 6, 12⟩) (Str.ofString "text") ⟨6, 8, 6, 17⟩] (.Name (Str.ofString "text") ⟨6, 20, 6, 24⟩) ⟨6, 8, 6, 24⟩], scope := { kind := .function, names := [(Str.ofString "self", .local), (Str.ofString "text", .local), (Str.ofString "Exception", .globalImplicit)], isGenerator := false, isCoroutine := false }, globals := 3, closure := [], defaults := .none, kwdefaults := .none, pyModule := .str (Str.ofString "f77.errors") 187, code := .ref 27 } }),
  (30, { cls := .type "dict", data := .dict #[mk1 P "__module__" 196 (.str (Str.ofString "f77.errors") 187), mk1 P "__firstlineno__" 200 (.int 2 199), mk1 P "__init__" 208 (.ref 28), mk1 P "__static_attributes__" 210 (.ref 29), mk1 P "__weakref__" 212 (.ref 32), mk1 P "__doc__" 213 .none] 3 }),
  (31, { cls := .type "type", data := .cls { name := Str.ofString "F77Error", bases := [.type "Exception"], mro := [.ref 31, .type "Exception", .type "BaseException", .type "object"], ns := 30, qualname := Str.ofString "F77Error", subclasses := [.ref 44] }, slots := #[some (.ref 15), none, some (.str (Str.ofString "F77Error") 189), some (.str (Str.ofString "F77Error") 197), some (.builtin "Exception.__new__"), some (.bool true)] }),
  (43, { cls := .type "dict", data := .dict #[mk1 P "__module__" 225 (.str (Str.ofString "f77.errors") 187), mk1 P "__firstlineno__" 229 (.int 7 228), mk1 P "__static_attributes__" 230 (.ref 42), mk1 P "__doc__" 231 .none] 2 }),
  (44, { cls := .type "type", data := .cls { name := Str.ofString "SyntaxFault", bases := [.ref 31], mro := [.ref 44, .ref 31, .type "Exception", .type "BaseException", .type "object"], ns := 43, qualname := Str.ofString "SyntaxFault" }, slots := #[some (.ref 35), none, some (.str (Str.ofString "SyntaxFault") 218), some (.str (Str.ofString "SyntaxFault") 226), some (.builtin "Exception.__new__"), some (.bool true)] }),
  (89, { cls := .type "dict", data := .dict #[mk1 P ".EQV." 300 (.int 1 301), mk1 P ".NEQV." 303 (.int 1 304), mk1 P ".OR." 306 (.int 2 307), mk1 P ".AND." 309 (.int 3 310), mk1 P ".EQ." 312 (.int 5 313), mk1 P ".NE." 315 (.int 5 316), mk1 P ".LT." 318 (.int 5 319), mk1 P ".LE." 321 (.int 5 322), mk1 P ".GT." 324 (.int 5 325), mk1 P ".GE." 327 (.int 5 328), mk1 P "//" 330 (.int 6 331), mk1 P "+" 333 (.int 7 334), mk1 P "-" 336 (.int 7 337), mk1 P "*" 339 (.int 8 340), mk1 P "/" 342 (.int 8 343), mk1 P "**" 345 (.int 9 346)] 16 })]
noncomputable def asH : List Addr := [27, 28, 30, 31, 43, 44, 89]
noncomputable def nameP : Str := Str.ofString "PRIORITIES"
noncomputable def nameS : Str := Str.ofString "SyntaxFault"
noncomputable def HV : Hook where
  α := List (Option Obj) × Bool × Option Value × Option Value
  obs s := (asH.map s.heap.get?, s.heap.isNs mainGlobals, s.heap.nsMap mainGlobals nameP, s.heap.nsMap mainGlobals nameS)
  val w := ((KH w.params).map fun p => some p.2, true, some (.ref 89), some (.ref 44))
  says w h := (KH w.params).In h ∧ ∃ m, h.Ns mainGlobals m ∧ m nameP = some (.ref 89) ∧ m nameS = some (.ref 44)
  of w s e := by
    obtain ⟨e1, e2, e3, e4⟩ : _ ∧ _ ∧ _ ∧ _ := by simpa only [Prod.mk.injEq] using e
    exact ⟨InK.of (K := KH) (as := asH) (fun _ => rfl) w s e1, _, .of_isNs e2, e3, e4⟩
  keeps w h h' x k := ⟨InK.keeps w h h' x.1 k, by
    obtain ⟨m, a, b⟩ := x.2
    exact ⟨m, a.keeps k, b⟩⟩
noncomputable def qV : Program := view PySem.Challenge.pw_no0241_01 ([4, 5, 6, 7, 8, 9, 11, 12, 13, 14, 15, 17, 18, 19, 20, 21, 22, 23, 24, 25, 26, 27, 28, 29, 30, 31] ++ [33, 34, 35, 36, 37, 38, 39, 40, 41, 42, 43, 44, 45, 46, 47, 48, 49])
noncomputable def looseV : List Str := [Str.ofString "F77Error", nameS, nameP]
noncomputable def XtV (s : Shared) : Bool := xlAt qV [] s && recOk PySem.Challenge.rw_no0241_01.row.toRowW.records s
theorem left_of {p q : Program} {loose : List Str} {Xt : Shared → Bool} {α : Type} {Yf : Shared → α} {Ya : World → α} {N : Nat} {g0 : Bool} {H₀ : Params → Heap} {gs₀ : Array GenState} {d₀ : Drawn} {k₀ : Nat} {m₀ : Nat} {ann : Option Value} {M : Nat}
    (open_ : ∀ w : World, (fencedOpening treeTable p w N).map (fun s => (s.heap, s.gens, s.drawn, s.toks)) = some (H₀ w.params, gs₀, d₀, k₀))
    (size : ∀ w : World, ((H₀ w.params).isNs mainGlobals && gs₀.size == 0, (H₀ w.params).objs.size, (H₀ w.params).nsMap mainGlobals "__annotations__") = (true, m₀, ann))
    (run : ∀ w : World, (fun os => (topRun treeTable p w m₀ ann M ⟨H₀ w.params, gs₀, d₀, k₀, os⟩ (topStub p)).map fun s => ((staticsOk (importedModules p.main.body) (H₀ w.params) s.heap && namesBound p s.heap && gensDone s && laidKept (H₀ w.params) s.heap),
      openSeen q loose (importedModules p.main.body) Xt g0 s, Yf s)) = fun _ => some (true, openGood q loose, Ya w)) (le : Nat.ble M N = true) : LeftO p q loose Xt Yf Ya N g0 := fun w => by
  obtain ⟨⟨h, gs, d, k, os⟩, e, e'⟩ := Option.map_eq_some_iff.mp (open_ w)
  obtain ⟨rfl, rfl, rfl, rfl⟩ : h = H₀ w.params ∧ gs = gs₀ ∧ d = d₀ ∧ k = k₀ := by simpa using e'
  obtain ⟨z1, z2, z3⟩ : _ ∧ _ ∧ _ := by simpa only [Prod.mk.injEq] using size w
  obtain ⟨s, r0, l⟩ := Option.map_eq_some_iff.mp (congrFun (run w) os)
  obtain ⟨l1, l2, l3⟩ : _ ∧ _ ∧ _ := by simpa only [Prod.mk.injEq] using l
  have r := topRun_mono (N - M) _ _ _ _ r0
  rw [show M + (N - M) = N by have := Nat.le_of_ble_eq_true le; omega] at r
  have t : topFrom treeTable p w N ⟨H₀ w.params, gs, d, k, os⟩ = some s := by
    unfold topFrom
    dsimp only
    rw [z1, z2, z3, r]
    show (match staticsOk (importedModules p.main.body) (H₀ w.params) s.heap && namesBound p s.heap && gensDone s && laidKept (H₀ w.params) s.heap with | true => _ | false => _) = _
    rw [l1]
  unfold openEnds
  rw [e]
  show (topFrom treeTable p w N _).map _ = _
  rw [t]
  exact congrArg some (Prod.ext l2 l3)
noncomputable def RunP (w : World) : Prop := (fun os => (topRun treeTable PySem.Challenge.pw_no0241_01 w 11 (some (.ref 6)) 2011 ⟨boot_heap w.params, Array.mk [], boot_drawn, boot_toks, os⟩ (topStub PySem.Challenge.pw_no0241_01)).map fun s =>
    ((staticsOk (importedModules PySem.Challenge.pw_no0241_01.main.body) (boot_heap w.params) s.heap && namesBound PySem.Challenge.pw_no0241_01 s.heap && gensDone s && laidKept (boot_heap w.params) s.heap),
      openSeen qV looseV (importedModules PySem.Challenge.pw_no0241_01.main.body) XtV true s, HV.obs s)) = fun _ => some (true, openGood qV looseV, HV.val w)
theorem runP_f (w : World) : RunP (w.withFollow "special-get-raises" false) := by
  unfold RunP
  rw [PySem.W.Fast.te14082659384304107361, PySem.W.Fast.te14364793385576792824, PySem.W.Fast.te4187177175401517315, PySem.W.Fast.te5923862056798008813]
  kernel_rfl
theorem runP_t (w : World) : RunP (w.withFollow "special-get-raises" true) := by
  unfold RunP
  rw [PySem.W.Fast.te14082659384304107361, PySem.W.Fast.te14364793385576792824, PySem.W.Fast.te4187177175401517315, PySem.W.Fast.te5923862056798008813]
  kernel_rfl
theorem left_ok : LeftO PySem.Challenge.pw_no0241_01 qV looseV XtV HV.obs HV.val 4106 :=
  left_of (boot_open (by kernel_rfl) (by decide) (fun s => by kernel_rfl)) (fun w => by
    rw [PySem.W.Fast.te8920871248978507458]
    kernel_rfl) (fun w => byRow2 "special-get-raises" runP_f runP_t w) (by decide)
noncomputable def dL : { x : DefRec × List (Str × Expr) // defOf qV (Str.ofString "law") = some x } := ⟨⟨⟨Str.ofString "law", D_law.1.1, D_law.1.2.1, D_law.1.2.2, _⟩, []⟩, rfl⟩
theorem said_row : PySem.Challenge.rw_no0241_01.row.wellSaid = true := by
  unfold OpenRow.wellSaid OpenRow.partSaid looksOpen
  repeat' (with_reducible refine look_both ?_ ?_)
  all_goals decide +kernel
theorem said_ok : PySem.Challenge.rw_no0241_01.wellSaid = true := by
  unfold OpenLaw.wellSaid
  repeat' (with_reducible refine look_both ?_ ?_)
  · exact said_row
  all_goals decide +kernel
theorem open_ok : (chainsOk qV && opensWell PySem.Challenge.rw_no0241_01.row.prog && (frees PySem.Challenge.rw_no0241_01.row.toRowW && PySem.Challenge.rw_no0241_01.row.within.isEmpty)) = true := by
  repeat' (with_reducible refine look_both ?_ ?_)
  all_goals decide +kernel
set_option maxHeartbeats 4000000 in
theorem head_of (call : WalkO qV looseV (XL qV []) HV.says PySem.Challenge.rw_no0241_01.row.toRowW dL.1.1 dL.1.2 fun f vs => PySem.call f vs) : PySem.Challenge.rw_no0241_01.Holds := by
  refine holds_law said_ok fun said => ?_
  refine holds_open (q := qV) (loose := looseV) (Xt := XtV) (XP := XL qV []) (Yf := HV.obs) (Ya := HV.val) (YP := HV.says) (N := 4106) left_ok HV.of HV.keeps (fun s e => xl_of s (Bool.and_eq_true_iff.mp e).1) XL.keeps dL.2 (by rfl) (by rfl) (fun s e => recFacts_of (Bool.and_eq_true_iff.mp e).2) (by rfl) said open_ok ⟨rfl, rfl, rfl, rfl, rfl, by decide +kernel⟩ ?hw call
  case hw => w_witness2
structure Pack where
  prog : Program
  w : World
  GB : Heap
  mg : Str → Option Value
  mb : Str → Option Value
  fa : Fn → Addr
  C : Addr
structure NewX (C : Addr) (B h : Heap) (e : Addr) : Prop where
  new : B.get? e = none
  there : ∃ oe vs a0, h.get? e = some oe ∧ oe.cls = .ref C ∧ oe.data = .fields vs ∧ vs[1]? = some .none ∧ vs[0]? = some a0
structure ExIn (C : Addr) (B : Heap) (l : List Env) (L : Addr) (e : Addr) (h : Heap) : Prop where
  stays : B.StaysIn h
  new : B.get? e = none
  frames : h.FunFrames B l
  tr : (∃ a0 fl, (fl = .none ∨ fl = rawInt L) ∧ h.TracedAtW B e (.ref C) a0 fl) ∨ NewX C B h e
noncomputable def UTS (X : List Addr) (h h' : Heap) : Prop := ∀ b o, h.get? b = some o → b ∉ X → (∀ vs, o.data ≠ .fields vs) → ∃ sl, h'.get? b = some { o with slots := sl }
theorem UTS.trans {X : List Addr} {h h₁ h₂ : Heap} (x : UTS X h h₁) (y : h₁.UpToSlots h₂) : UTS X h h₂ := fun b o e hb hn =>
  let ⟨_, e₁⟩ := x b o e hb hn; let ⟨sl, e₂⟩ := y b _ e₁ hn; ⟨sl, e₂⟩
section
variable {M : Model} {A : Around} {E : Value → Shared → Prop} {s : Shared} {C : Addr} {B : Heap} {env : Env} {outer : List Env} {L e : Addr}
theorem setFlight_any {l : List Env} {cls a0 fl : Value} {Q : Unit → Shared → Prop} (hkb : B.StaysIn s.heap) (hen : B.get? e = none) (hl : s.heap.FunFrames B l) (ht : s.heap.TracedAtW B e cls a0 fl)
    (h : ∀ h', Heap.HeldW B l e cls a0 L h' → s.heap.UpToSlots h' → Q () { s with heap := h' }) : wpAny M A (setFlight (.ref e) (some L)) Q E s := by
  obtain ⟨oe, vs, T, oT, ts, he, hcls, hd, h1, hnT, hTe, hT, hdT, h3⟩ := ht
  have hsz3 : 3 < ts.size := (Array.getElem?_eq_some_iff.mp h3).1
  have other : ∀ b, b ≠ T → (s.heap.update T (Obj.mapFields (·.setIfInBounds 3 ((some L).elim Value.none fun f => rawInt f)))).get? b = s.heap.get? b :=
    fun b hb => Heap.get?_update_other _ _ (Ne.symm hb)
  have noRecord : ∀ b o, s.heap.get? b = some o → (∀ vs, o.data ≠ .fields vs) → b ≠ T := fun b o hb hnf q => by
    rw [q, hT] at hb; injection hb with hb; subst hb; exact hnf ts hdT
  unfold setFlight
  refine wpAny_bind (wpAny_field he hd h1 ?_)
  rw [if_pos (show (Value.ref T != Value.none) = true from by simp)]
  refine wpAny_setField hT hdT hsz3 (h _ ⟨fun b o hbo => (other b fun q => by rw [q, hnT] at hbo; cases hbo).trans (hkb b o hbo), hen,
    hl.of_keeps fun b o hb hnf => ⟨o, (other b (noRecord b o hb hnf)).trans hb, rfl⟩, ?_⟩ fun b o hb hnf => ⟨o.slots, (other b (noRecord b o hb hnf)).trans hb⟩)
  exact ⟨oe, vs, T, _, _, (other e (Ne.symm hTe)).trans he, hcls, hd, h1, hnT, hTe, Heap.get?_update_self _ hT (Obj.isFreed_of_fields (Obj.data_mapFields hdT _)), Obj.data_mapFields hdT _, by simp [hsz3]⟩
theorem ExIn.notes {Q : Unit → Shared → Prop} (hfr : A.frames = some (env :: outer)) (hf : env.frame = some L) (x : ExIn C B (env :: outer) L e s.heap)
    (hQ : ∀ h' a0, Heap.HeldW B (env :: outer) e (.ref C) a0 L h' → s.heap.UpToSlots h' → Q () { s with heap := h' }) : wpAny M A (noteFrame (.ref e) env) Q E s := by
  rcases x.tr with ⟨a0, fl, hfl, ht⟩ | hn
  · rcases hfl with rfl | rfl
    · exact wpAny_looks_onW hfr hf ⟨x.stays, x.new, x.frames, ht⟩ fun h' a b => hQ h' a0 a b
    · exact wpAny_noteFrame_againW hf ht (hQ s.heap a0 ⟨x.stays, x.new, x.frames, ht⟩ (.refl _))
  · obtain ⟨oe, vs, a0, he, hc, hd, h1, h0⟩ := hn.there
    unfold noteFrame
    simp only [hf]
    refine wpAny_bind (wpAny_field he hd h1 ?_)
    rw [if_neg (by decide)]
    refine wpAny_entryW hfr x.frames hf he x.stays x.new hd (Array.getElem?_eq_some_iff.mp h1).1 h0 fun h' hN => ?_
    obtain ⟨k1, k2, k3, k4⟩ := hN
    exact hQ h' a0 ⟨k1, x.new, k2, hc ▸ k3⟩ k4
theorem ExIn.ofHeld {a0 : Value} {l : List Env} {h : Heap} (x : Heap.HeldW B l e (.ref C) a0 L h) : ExIn C B l L e h := ⟨x.1, x.2.1, x.2.2.1, .inl ⟨a0, _, .inr rfl, x.2.2.2⟩⟩
theorem ExIn.ofFlying {a0 : Value} {l : List Env} {h : Heap} (x : Heap.FlyingW B l e (.ref C) a0 h) : ExIn C B l L e h := ⟨x.1, x.2.1, x.2.2.1, .inl ⟨a0, _, .inl rfl, x.2.2.2⟩⟩
theorem ExIn.passes (hfr : A.frames = some (env :: outer)) (hf : env.frame = some L) (x : ExIn C B (env :: outer) L e s.heap)
    (hQ : ∀ h', ExIn C B (env :: outer) L e h' → s.heap.UpToSlots h' → E (.ref e) { s with heap := h' }) : notedBy M A env (cameBackBy M A env E) (.ref e) s := by
  unfold notedBy
  refine x.notes hfr hf fun h' a0 hh hu => ?_
  unfold cameBackBy
  refine glq fun Gq kq => ?_
  obtain ⟨oe, vs, T, oT, ts, he, hcls, hd, h1, hr⟩ := hh.2.2.2
  refine kq ?_
  clear kq Gq
  refine wpAny_bind (wpAny_field he hd h1 ?_)
  rw [if_neg (show ¬ ((Value.ref T == Value.none) = true) from by simp), hf]
  refine setFlight_any hh.1 hh.2.1 hh.2.2.1 ⟨oe, vs, T, oT, ts, he, hcls, hd, h1, hr⟩ fun h'' a b => hQ h'' (.ofHeld a) (hu.trans b)
theorem ExIn.leaves {Q : Unit → Shared → Prop} (hfr : A.frames = some (env :: outer)) (hf : env.frame = some L) (x : ExIn C B (env :: outer) L e s.heap)
    (hQ : ∀ h' a0, Heap.FlyingW B outer e (.ref C) a0 h' → s.heap.UpToSlots h' → Q () { s with heap := h' }) : wpAny M A (leaving env (.ref e)) Q E s := by
  unfold leaving
  refine wpAny_bind (x.notes hfr hf fun h' a0 hh hu => ?_)
  refine wpAny_landsW hh fun h'' hfl hu' => ?_
  refine glq fun Gq kq => ?_
  obtain ⟨k1, k2, ⟨_, _, k3⟩, k4⟩ := hfl
  refine kq ?_
  clear kq Gq
  exact hQ h'' a0 ⟨k1, k2, k3, k4⟩ (hu.trans hu')
end
noncomputable def FrOK (h : Heap) (l : List Env) (frs : List Addr) : Prop :=
  ∀ env ∈ l, env.scope.kind ≠ .module ∧ ∃ L o, env.frame = some L ∧ L ∈ frs ∧ h.get? L = some o ∧ ∀ vs, o.data ≠ .fields vs
theorem FrOK.fun {h B : Heap} {frs : List Addr} (hB : ∀ b ∈ frs, B.get? b = none) : ∀ {l : List Env}, FrOK h l frs → h.FunFrames B l
  | [], _ => trivial
  | env :: l, x => by
    obtain ⟨hk, L, o, h1, h2, h3, h4⟩ := x env (.head _)
    exact ⟨hk, ⟨L, o, h1, hB L h2, h3, h4⟩, FrOK.fun hB fun e he => x e (.tail _ he)⟩
theorem FrOK.keeps {h h' : Heap} {l : List Env} {frs : List Addr} (x : FrOK h l frs) (k : ∀ b o, b ∈ frs → h.get? b = some o → h'.get? b = some o) : FrOK h' l frs :=
  fun env he => let ⟨hk, L, o, h1, h2, h3, h4⟩ := x env he; ⟨hk, L, o, h1, h2, k _ _ h2 h3, h4⟩
structure Sta where
  A : Around
  env : Env
  outer : List Env
  n : Nat
  h0 : Heap
  σ0 : Sto
  la0 : List Addr
  fr0 : List Addr
  ex : List (Addr × Obj) := []
namespace Sta
noncomputable def X0 (S : Sta) : List Addr := live S.σ0 S.la0
noncomputable def L (S : Sta) : Addr := S.env.locals
noncomputable def own (S : Sta) : List Addr := S.env.locals :: (S.env.cells.map (·.2) ++ S.ex.map (·.1))
noncomputable def frs (S : Sta) : List Addr := S.own ++ S.fr0
noncomputable def B (S : Sta) : Heap := hideAll S.h0 (S.fr0 ++ S.X0)
end Sta
structure StaOk (K : Pack) (S : Sta) : Prop where
  frames : S.A.frames = some (S.env :: S.outer)
  hand : S.A.handled = none
  depth : S.A.depth + S.n + 8 < recursionLimit
  units : S.A.units + 8 * S.n + 5000 < cLine
  fn : S.env.scope.kind = .function
  glob : S.env.globals = mainGlobals
  blt : S.env.builtins = builtinsNs
  frame : S.env.frame = some S.env.locals
  nod : (S.env.scope.names.map (·.1)).Nodup
  fresh : ∀ a ∈ S.own, S.h0.get? a = none
  fro : FrOK S.h0 S.outer S.fr0
  frin : ∀ b ∈ S.fr0, (S.h0.get? b).isSome
  frX : ∀ b ∈ S.fr0, b ∉ S.X0
  ownnod : S.own.Nodup
  one : ∀ p ∈ S.env.cells, ∀ q ∈ S.env.cells, p.1 = q.1 → p = q
noncomputable def RepA (K : Pack) (g : Heap) (la : List Addr) (v : Value) : AV → Prop
  | .d x => RD g v x
  | .loc k => ∃ a, la[k]? = some a ∧ v = .ref a
  | .tab D => ∃ a, v = .ref a ∧ StrTab K.prog K.w g a D
theorem RepA.mono {K : Pack} {g g' : Heap} {la la' : List Addr} {v : Value} (k : g.StaysIn g') (hl : ∀ (i : Nat) (a : Addr), la[i]? = some a → la'[i]? = some a) : ∀ {av}, RepA K g la v av → RepA K g' la' v av
  | .d _, h => RD.mono k h
  | .loc _, ⟨a, h1, h2⟩ => ⟨a, hl _ _ h1, h2⟩
  | .tab _, ⟨a, h1, h2⟩ => ⟨a, h1, h2.keep k⟩
inductive RepAs (K : Pack) (g : Heap) (la : List Addr) : List Value → List AV → Prop
  | nil : RepAs K g la [] []
  | cons {v vs av avs} : RepA K g la v av → RepAs K g la vs avs → RepAs K g la (v :: vs) (av :: avs)
noncomputable def VarAt (env : Env) (h : Heap) (m : Str → Option Value) (x : Str) (kd : NameKind) (v : Value) : Prop :=
  (kd = .local ∧ m x = some v) ∨ (kd = .cell ∧ ∃ c, env.cells.lookup x = some c ∧ h.IsCell c (some v))
structure Inv (K : Pack) (S : Sta) (ρ : Rho) (σ : Sto) (la : List Addr) (h : Heap) : Prop where
  gb : K.GB.StaysIn h
  gbh : ∀ b ∈ S.frs ++ live σ la, K.GB.get? b = none
  keep0 : ∀ b o, S.h0.get? b = some o → b ∉ S.X0 → h.get? b = some o
  alive : ∀ b, (S.h0.get? b).isSome → (h.get? b).isSome
  pre : ∀ (i : Nat) (a : Addr), S.la0[i]? = some a → la[i]? = some a
  pre0 : S.la0.length = S.σ0.length
  mon : ∀ (k : Nat) (ds : List PyData), σ[k]? = some (some ds) → k < S.la0.length → ∃ d0, S.σ0[k]? = some (some d0)
  new : ∀ (k : Nat) (a : Addr), la[k]? = some a → S.la0.length ≤ k → S.h0.get? a = none
  locs : Locs h S.frs σ la
  ex : ∀ p ∈ S.ex, h.get? p.1 = some p.2
  cells : ∀ p ∈ S.env.cells, ∃ v, h.IsCell p.2 v
  vars : ∃ m, h.Ns S.env.locals m ∧ ∀ (i : Nat) (x : Str) (kd : NameKind) (av : AV), S.env.scope.names[i]? = some (x, kd) → ρ[i]? = some (some av) →
    ∃ v, VarAt S.env h m x kd v ∧ RepA K (hideAll h (S.frs ++ live σ la)) la v av
noncomputable def ExS (K : Pack) (S : Sta) (e : Addr) (h : Heap) : Prop := ExIn K.C S.B (S.env :: S.outer) S.env.locals e h ∧ UTS S.X0 S.h0 h
noncomputable def seen (S : Sta) (σ : Sto) (la : List Addr) (h : Heap) : Heap := hideAll h (S.frs ++ live σ la)
noncomputable def PostE (K : Pack) (S : Sta) (ρ : Rho) (σ : Sto) (la : List Addr) (s : Shared) (r : Res (AV × Sto)) (Q : Value → Shared → Prop) (E : Value → Shared → Prop) : Prop :=
  match r with
  | .bad => False
  | .exc => ∀ e h' tk', ExS K S e h' → E (.ref e) { s with heap := h', toks := tk' }
  | .ok (av, σ') => ∀ v h' tk', Inv K S ρ σ' la h' → (seen S σ la s.heap).StaysIn (seen S σ' la h') → RepA K (seen S σ' la h') la v av → Q v { s with heap := h', toks := tk' }
noncomputable def PostEs (K : Pack) (S : Sta) (ρ : Rho) (σ : Sto) (la : List Addr) (s : Shared) (r : Res (List AV × Sto)) (Q : List Value → Shared → Prop) (E : Value → Shared → Prop) : Prop :=
  match r with
  | .bad => False
  | .exc => ∀ e h' tk', ExS K S e h' → E (.ref e) { s with heap := h', toks := tk' }
  | .ok (avs, σ') => ∀ vs h' tk', Inv K S ρ σ' la h' → (seen S σ la s.heap).StaysIn (seen S σ' la h') → RepAs K (seen S σ' la h') la vs avs → Q vs { s with heap := h', toks := tk' }
noncomputable def PostT (K : Pack) (S : Sta) (ρ : Rho) (σ : Sto) (la : List Addr) (s : Shared) (r : Res (Bool × Sto)) (Q : Bool → Shared → Prop) (E : Value → Shared → Prop) : Prop :=
  match r with
  | .bad => False
  | .exc => ∀ e h' tk', ExS K S e h' → E (.ref e) { s with heap := h', toks := tk' }
  | .ok (b, σ') => ∀ h' tk', Inv K S ρ σ' la h' → (seen S σ la s.heap).StaysIn (seen S σ' la h') → Q b { s with heap := h', toks := tk' }
inductive Fl where
  | next | ret (av : AV)
noncomputable def flowIs (K : Pack) (g : Heap) (la : List Addr) : Fl → Flow → Prop
  | .next, f => f = .next
  | .ret av, f => ∃ v, f = .ret v ∧ RepA K g la v av
noncomputable def PostS (K : Pack) (S : Sta) (σ : Sto) (la : List Addr) (s : Shared) (r : Res (Fl × Rho × Sto)) (Q : Flow → Shared → Prop) (E : Value → Shared → Prop) : Prop :=
  match r with
  | .bad => False
  | .exc => ∀ e h' tk', ExS K S e h' → E (.ref e) { s with heap := h', toks := tk' }
  | .ok (fl, ρ', σ') => ∀ f h' la' tk', Inv K S ρ' σ' la' h' → (seen S σ la s.heap).StaysIn (seen S σ' la' h') → flowIs K (seen S σ' la' h') la' fl f → Q f { s with heap := h', toks := tk' }
noncomputable abbrev Orc := Fn → List AV → Sto → Res (AV × Sto)
noncomputable abbrev EC := Orc → Rho → Sto → Res (AV × Sto)
noncomputable abbrev TC := Orc → Rho → Sto → Res (Bool × Sto)
noncomputable abbrev SC := Orc → Rho → Sto → Res (Fl × Rho × Sto)
structure StepC (h : Heap) (frs : List Addr) (σ : Sto) (la : List Addr) (h' : Heap) (σ' : Sto) : Prop where
  keep : ∀ b o, h.get? b = some o → b ∉ live σ la → h'.get? b = some o
  locs : Locs h' frs σ' la
  sub : ∀ (k : Nat) (ds : List PyData), σ'[k]? = some (some ds) → ∃ d0, σ[k]? = some (some d0)
  alive : ∀ b, (h.get? b).isSome → (h'.get? b).isSome
noncomputable def ExcOut (K : Pack) (outer : List Env) (frs X : List Addr) (h : Heap) (e : Addr) (h' : Heap) : Prop :=
  (∃ a0, Heap.FlyingW (hideAll h (frs ++ X)) outer e (.ref K.C) a0 h') ∧ UTS X h h'
noncomputable def CallAt (K : Pack) (n : Nat) (f : Fn) (avs : List AV) (σ : Sto) (r : Res (AV × Sto)) : Prop :=
  ∀ (A : Around) (outer : List Env) (frs la : List Addr) (s : Shared) (vs : List Value) (Q E : Value → Shared → Prop),
    A.frames = some outer → A.handled = none → A.depth + n + 8 < recursionLimit → A.units + 8 * n + 5000 < cLine → FrOK s.heap outer frs → (∀ b ∈ frs, (s.heap.get? b).isSome) → K.GB.StaysIn s.heap →
    (∀ b ∈ frs ++ live σ la, K.GB.get? b = none) → Locs s.heap frs σ la → RepAs K (hideAll s.heap (frs ++ live σ la)) la vs avs →
    (match r with
      | .bad => False
      | .exc => ∀ e h' tk', ExcOut K outer frs (live σ la) s.heap e h' → E (.ref e) { s with heap := h', toks := tk' }
      | .ok (av, σ') => ∀ v h' tk', StepC s.heap frs σ la h' σ' → RepA K (hideAll h' (frs ++ live σ' la)) la v av → Q v { s with heap := h', toks := tk' }) →
    wpAny (model K.prog K.w) A (PySem.call (.ref (K.fa f)) vs) Q E s
noncomputable def OrcOk (K : Pack) (n : Nat) (orc : Orc) : Prop := ∀ f avs σ, CallAt K n f avs σ (orc f avs σ)
noncomputable def SndE (K : Pack) (sc : Scope) (e : Expr) (c : EC) : Prop :=
  ∀ (S : Sta) (_ : StaOk K S) (_ : S.env.scope = sc) (orc : Orc) (_ : OrcOk K S.n orc) (ρ : Rho) (σ : Sto) (la : List Addr) (s : Shared) (Q E : Value → Shared → Prop),
    Inv K S ρ σ la s.heap → PostE K S ρ σ la s (c orc ρ σ) Q E → wpAny (model K.prog K.w) S.A (eval e S.env) Q E s
noncomputable def SndT (K : Pack) (sc : Scope) (e : Expr) (c : TC) : Prop :=
  ∀ (S : Sta) (_ : StaOk K S) (_ : S.env.scope = sc) (orc : Orc) (_ : OrcOk K S.n orc) (ρ : Rho) (σ : Sto) (la : List Addr) (s : Shared) (Q : Bool → Shared → Prop) (E : Value → Shared → Prop),
    Inv K S ρ σ la s.heap → PostT K S ρ σ la s (c orc ρ σ) Q E → wpAny (model K.prog K.w) S.A (isTrue e S.env (eval e S.env)) Q E s
noncomputable def SndS (K : Pack) (sc : Scope) (st : Stmt) (c : SC) : Prop :=
  ∀ (S : Sta) (_ : StaOk K S) (_ : S.env.scope = sc) (orc : Orc) (_ : OrcOk K S.n orc) (ρ : Rho) (σ : Sto) (la : List Addr) (s : Shared) (Q : Flow → Shared → Prop) (E : Value → Shared → Prop),
    Inv K S ρ σ la s.heap → PostS K S σ la s (c orc ρ σ) Q E → wpAny (model K.prog K.w) S.A (exec st S.env) Q E s
noncomputable def SndB (K : Pack) (sc : Scope) (b : List Stmt) (c : SC) : Prop :=
  ∀ (S : Sta) (_ : StaOk K S) (_ : S.env.scope = sc) (orc : Orc) (_ : OrcOk K S.n orc) (ρ : Rho) (σ : Sto) (la : List Addr) (s : Shared) (Q : Flow → Shared → Prop) (E : Value → Shared → Prop),
    Inv K S ρ σ la s.heap → PostS K S σ la s (c orc ρ σ) Q E → wpAny (model K.prog K.w) S.A (execs b S.env) Q E s
theorem nodup_get {α : Type} : ∀ {l : List α}, l.Nodup → ∀ {i j : Nat} {a : α}, l[i]? = some a → l[j]? = some a → i = j
  | [], _, _, _, _, e, _ => by cases e
  | b :: l, hn, 0, 0, _, _, _ => rfl
  | b :: l, hn, 0, j + 1, a, e1, e2 => by
    have h1 : b = a := by simpa using e1
    subst h1
    exact absurd (List.mem_of_getElem? (l := l) (i := j) (by simpa using e2)) (List.nodup_cons.mp hn).1
  | b :: l, hn, i + 1, 0, a, e1, e2 => by
    have h1 : b = a := by simpa using e2
    subst h1
    exact absurd (List.mem_of_getElem? (l := l) (i := i) (by simpa using e1)) (List.nodup_cons.mp hn).1
  | b :: l, hn, i + 1, j + 1, a, e1, e2 => by
    have := nodup_get (List.nodup_cons.mp hn).2 (i := i) (j := j) (a := a) (by simpa using e1) (by simpa using e2)
    lia
section
variable {K : Pack} {S : Sta} {ρ : Rho} {σ σ' : Sto} {la : List Addr} {h h' : Heap}
theorem live_sub (hs : ∀ (k : Nat) (ds : List PyData), σ'[k]? = some (some ds) → ∃ d0, σ[k]? = some (some d0)) : ∀ a ∈ live σ' la, a ∈ live σ la := by
  intro a ha
  obtain ⟨k, ds, h1, h2⟩ := mem_live.mp ha
  obtain ⟨d0, h3⟩ := hs k ds h1
  exact mem_live.mpr ⟨k, d0, h3, h2⟩
theorem Inv.liv0 (x : Inv K S ρ σ la h) : ∀ a ∈ live σ la, a ∈ S.X0 ∨ S.h0.get? a = none := by
  intro a ha
  obtain ⟨k, ds, h1, h2⟩ := mem_live.mp ha
  by_cases hk : k < S.la0.length
  · left
    obtain ⟨d0, h3⟩ := x.mon k ds h1 hk
    have h4 : S.la0[k]? = some (S.la0[k]'hk) := List.getElem?_eq_getElem hk
    have h5 := x.pre k _ h4
    rw [h2] at h5
    have h6 : a = S.la0[k]'hk := Option.some.inj h5
    exact mem_live.mpr ⟨k, d0, h3, h6 ▸ h4⟩
  · exact .inr (x.new k a h2 (Nat.le_of_not_lt hk))
theorem Inv.notLive (x : Inv K S ρ σ la h) {b : Addr} {o : Obj} (e : S.h0.get? b = some o) (hb : b ∉ S.X0) : b ∉ live σ la := by
  intro hm
  rcases x.liv0 b hm with q | q
  · exact hb q
  · rw [e] at q; cases q
theorem own_frs : ∀ b ∈ S.own, b ∈ S.frs := fun _ hb => List.mem_append.mpr (.inl hb)
theorem L_own : S.env.locals ∈ S.own := .head _
theorem cell_own {p : Str × Addr} (hp : p ∈ S.env.cells) : p.2 ∈ S.own := .tail _ (List.mem_append.mpr (.inl (List.mem_map.mpr ⟨p, hp, rfl⟩)))
theorem ex_own {p : Addr × Obj} (hp : p ∈ S.ex) : p.1 ∈ S.own := .tail _ (List.mem_append.mpr (.inr (List.mem_map.mpr ⟨p, hp, rfl⟩)))
theorem ns_at {L : Addr} {m : Str → Option Value} (hn : h.Ns L m) (k : ∀ o, h.get? L = some o → h'.get? L = some o) : h'.Ns L m :=
  let ⟨o, es, ep, ho, r⟩ := hn; ⟨o, es, ep, k o ho, r⟩
theorem cell_at {c : Addr} {v : Option Value} (hn : h.IsCell c v) (k : ∀ o, h.get? c = some o → h'.get? c = some o) : h'.IsCell c v :=
  let ⟨o, ho, r⟩ := hn; ⟨o, k o ho, r⟩
theorem lookup_mem {α : Type} : ∀ {l : List (Str × α)} {x : Str} {c : α}, l.lookup x = some c → (x, c) ∈ l := PySem.mem_of_lookup
theorem Inv.step (x : Inv K S ρ σ la h) (t : StepC h S.frs σ la h' σ') : Inv K S ρ σ' la h' ∧ (seen S σ la h).StaysIn (seen S σ' la h') := by
  have hsub : ∀ a ∈ live σ' la, a ∈ live σ la := live_sub t.sub
  have hseen : (seen S σ la h).StaysIn (seen S σ' la h') := seen_mono fun b o hb e =>
    ⟨t.keep b o e fun q => hb (List.mem_append.mpr (.inr q)), fun q => hb ((List.mem_append.mp q).elim (fun q => List.mem_append.mpr (.inl q)) fun q => List.mem_append.mpr (.inr (hsub b q)))⟩
  have kf : ∀ b ∈ S.frs, ∀ o, h.get? b = some o → h'.get? b = some o := fun b hb o e => t.keep b o e fun q => x.locs.out b q hb
  refine ⟨⟨fun b o e => t.keep b o (x.gb b o e) fun q => ?_, fun b hb => x.gbh b ?_, fun b o e hb => t.keep b o (x.keep0 b o e hb) (x.notLive e hb), fun b hb => t.alive b (x.alive b hb), x.pre, x.pre0, fun k ds e hk => ?_, x.new, t.locs,
    fun p hp => kf _ (own_frs _ (ex_own hp)) _ (x.ex p hp), fun p hp => ?_, ?_⟩, hseen⟩
  · have := x.gbh b (List.mem_append.mpr (.inr q))
    rw [e] at this; cases this
  · rcases List.mem_append.mp hb with q | q
    · exact List.mem_append.mpr (.inl q)
    · exact List.mem_append.mpr (.inr (hsub b q))
  · obtain ⟨d0, e0⟩ := t.sub k ds e
    exact x.mon k d0 e0 hk
  · obtain ⟨v, hv⟩ := x.cells p hp
    exact ⟨v, cell_at hv fun o ho => kf _ (own_frs _ (cell_own hp)) o ho⟩
  · obtain ⟨m, hm, hv⟩ := x.vars
    refine ⟨m, ns_at hm fun o ho => kf _ (own_frs _ L_own) o ho, fun i y kd av hn hr => ?_⟩
    obtain ⟨v, hva, hrep⟩ := hv i y kd av hn hr
    refine ⟨v, ?_, hrep.mono hseen fun _ _ e => e⟩
    rcases hva with q | ⟨q1, c, q2, q3⟩
    · exact .inl q
    · exact .inr ⟨q1, c, q2, cell_at q3 fun o ho => kf _ (own_frs _ (cell_own (lookup_mem q2))) o ho⟩
theorem Inv.ext (x : Inv K S ρ σ la h) (k : ∀ b o, h.get? b = some o → h'.get? b = some o) : Inv K S ρ σ la h' ∧ (seen S σ la h).StaysIn (seen S σ la h') :=
  x.step ⟨fun b o e _ => k b o e, x.locs.keeps k, fun _ ds e => ⟨ds, e⟩, fun b hb => let ⟨o, ho⟩ := Option.isSome_iff_exists.mp hb; by rw [k b o ho]; rfl⟩
theorem Inv.tick (x : Inv K S ρ σ la h) : (seen S σ la h).StaysIn (seen S σ la h) := fun _ _ e => e
theorem Inv.freeze (x : Inv K S ρ σ la h) {k : Nat} {ds : List PyData} (hk : σ[k]? = some (some ds)) :
    Inv K S ρ (σ.set k none) la h ∧ (seen S σ la h).StaysIn (seen S (σ.set k none) la h) ∧ ∃ a, la[k]? = some a ∧ RD (seen S (σ.set k none) la h) (.ref a) (.list ds) := by
  have hlt : k < σ.length := (List.getElem?_eq_some_iff.mp hk).1
  have hset : ∀ (j : Nat) (dj : List PyData), (σ.set k none)[j]? = some (some dj) → j ≠ k ∧ σ[j]? = some (some dj) := by
    intro j dj e
    by_cases hj : k = j
    · subst hj
      rw [List.getElem?_set_self hlt] at e; cases e
    · rw [List.getElem?_set_ne hj] at e
      exact ⟨fun q => hj q.symm, e⟩
  have hsub : ∀ (j : Nat) (dj : List PyData), (σ.set k none)[j]? = some (some dj) → ∃ d0, σ[j]? = some (some d0) := fun j dj e => ⟨dj, (hset j dj e).2⟩
  have hl := live_sub (la := la) hsub
  have hX : ∀ b, b ∈ S.frs ++ live (σ.set k none) la → b ∈ S.frs ++ live σ la := fun b hb => (List.mem_append.mp hb).elim (fun q => List.mem_append.mpr (.inl q)) fun q => List.mem_append.mpr (.inr (hl b q))
  have hs : (hideAll h (S.frs ++ live σ la)).StaysIn (hideAll h (S.frs ++ live (σ.set k none) la)) := seen_mono fun b o hb e => ⟨e, fun q => hb (hX b q)⟩
  have L' : Locs h S.frs (σ.set k none) la := by
    refine ⟨by rw [x.locs.len, List.length_set], fun j dj e => ?_, fun i j di dj a e1 e2 => x.locs.inj i j di dj a (hset i di e1).2 (hset j dj e2).2, fun a ha => x.locs.out a (hl a ha)⟩
    obtain ⟨a, vs, n, h1, h2, h3⟩ := x.locs.at' j dj (hset j dj e).2
    exact ⟨a, vs, n, h1, h2, h3.mono hs⟩
  obtain ⟨i, s⟩ := x.step (h' := h) (σ' := σ.set k none) ⟨fun _ _ e _ => e, L', hsub, fun _ e => e⟩
  obtain ⟨a, vs, n, h1, h2, h3⟩ := x.locs.at' k ds hk
  refine ⟨i, s, a, h1, .list (n := n) ?_ (h3.mono hs)⟩
  refine seen_iff.mpr ⟨h2, fun q => ?_⟩
  rcases List.mem_append.mp q with q | q
  · exact x.locs.out a (mem_live.mpr ⟨k, ds, hk, h1⟩) q
  · obtain ⟨j, dj, e1, e2⟩ := mem_live.mp q
    obtain ⟨ne, e3⟩ := hset j dj e1
    exact ne (x.locs.inj j k dj ds a e3 hk e2 h1)
theorem Inv.exc (ok : StaOk K S) (x : Inv K S ρ σ la h) {e : Addr} (y : ExcOut K (S.env :: S.outer) S.frs (live σ la) h e h') : ExS K S e h' := by
  obtain ⟨⟨a0, hf⟩, hu⟩ := y
  have hB : S.B.StaysIn (hideAll h (S.frs ++ live σ la)) := by
    intro b o e
    obtain ⟨e1, e2⟩ := seen_iff.mp e
    have n1 : b ∉ S.fr0 := fun q => e2 (List.mem_append.mpr (.inl q))
    have n2 : b ∉ S.X0 := fun q => e2 (List.mem_append.mpr (.inr q))
    refine seen_iff.mpr ⟨x.keep0 b o e1 n2, fun q => ?_⟩
    rcases List.mem_append.mp q with q | q
    · rcases List.mem_append.mp q with q | q
      · have := ok.fresh b q
        rw [e1] at this; cases this
      · exact n1 q
    · exact x.notLive e1 n2 q
  refine ⟨.ofFlying (flyingW_base hB hf), fun b o e hb hn => ?_⟩
  exact hu b o (x.keep0 b o e hb) (x.notLive e hb) hn
theorem Inv.base (ok : StaOk K S) (x : Inv K S ρ σ la h) : S.B.StaysIn h := fun b o e => by
  obtain ⟨e1, e2⟩ := seen_iff.mp e
  exact x.keep0 b o e1 fun q => e2 (List.mem_append.mpr (.inr q))
theorem B_own (ok : StaOk K S) : ∀ b ∈ S.frs, S.B.get? b = none := by
  intro b hb
  rcases List.mem_append.mp hb with q | q
  · cases e : S.B.get? b with
    | none => rfl
    | some o =>
      have := ok.fresh b q
      rw [(seen_iff.mp e).1] at this; cases this
  · exact hideAll_none _ (List.mem_append.mpr (.inl q))
theorem Inv.fro (ok : StaOk K S) (x : Inv K S ρ σ la h) : FrOK h (S.env :: S.outer) S.frs := by
  intro env he
  rcases List.mem_cons.mp he with rfl | he
  · refine glq fun Gq kq => ?_
    obtain ⟨m, ⟨o, es, ep, ho, hd, _⟩, _⟩ := x.vars
    refine kq ?_
    clear kq Gq
    exact ⟨by rw [ok.fn]; decide, _, o, ok.frame, own_frs _ L_own, ho, fun vs q => by rw [hd] at q; cases q⟩
  · refine glq fun Gq kq => ?_
    obtain ⟨hk, L, o, h1, h2, h3, h4⟩ := ok.fro env he
    refine kq ?_
    clear kq Gq
    exact ⟨hk, L, o, h1, List.mem_append.mpr (.inr h2), x.keep0 L o h3 (ok.frX L h2), h4⟩
theorem Inv.frin (ok : StaOk K S) (x : Inv K S ρ σ la h) : ∀ b ∈ S.frs, (h.get? b).isSome := by
  intro b hb
  rcases List.mem_append.mp hb with q | q
  · rcases List.mem_cons.mp q with rfl | q
    · obtain ⟨m, ⟨o, _, _, ho, _⟩, _⟩ := x.vars
      rw [ho]; rfl
    · rcases List.mem_append.mp q with q | q
      · obtain ⟨p, hp, rfl⟩ := List.mem_map.mp q
        obtain ⟨v, o, ho, _⟩ := x.cells p hp
        rw [ho]; rfl
      · obtain ⟨p, hp, rfl⟩ := List.mem_map.mp q
        rw [x.ex p hp]; rfl
  · obtain ⟨o, ho⟩ := Option.isSome_iff_exists.mp (ok.frin b q)
    rw [x.keep0 b o ho (ok.frX b q)]; rfl
theorem Inv.newExc (ok : StaOk K S) (x : Inv K S ρ σ la h) {e : Addr} (k : ∀ b o, h.get? b = some o → h'.get? b = some o) (y : NewX K.C h h' e) : ExS K S e h' := by
  have x' := (x.ext k).1
  have en : S.B.get? e = none := by
    cases q : S.B.get? e with
    | none => rfl
    | some o =>
      have := y.new
      rw [x.base ok e o q] at this; cases this
  refine ⟨⟨x'.base ok, en, (x'.fro ok).fun (B_own ok), .inr ⟨en, y.there⟩⟩, fun b o e hb hn => ⟨o.slots, x'.keep0 b o e hb⟩⟩
theorem Inv.store (ok : StaOk K S) (x : Inv K S ρ σ la h) {i : Nat} {y : Str} {v : Value} {av : AV} {m : Str → Option Value} (hy : S.env.scope.names[i]? = some (y, .local)) (hr : RepA K (seen S σ la h) la v av)
    (hn : h'.Ns S.env.locals (fun z => if z = y then some v else m z)) (hs : Heap.SameBut S.env.locals h h')
    (hm : h.Ns S.env.locals m) (hv : ∀ (i : Nat) (x : Str) (kd : NameKind) (av : AV), S.env.scope.names[i]? = some (x, kd) → ρ[i]? = some (some av) → ∃ v, VarAt S.env h m x kd v ∧ RepA K (seen S σ la h) la v av) :
    Inv K S (ρ.set i (some av)) σ la h' ∧ (seen S σ la h).StaysIn (seen S σ la h') := by
  have kp : ∀ b o, b ≠ S.env.locals → h.get? b = some o → h'.get? b = some o := fun b o hb e => (hs.2 b hb).trans e
  have hL : S.env.locals ∈ S.frs := own_frs _ L_own
  have hLl : S.env.locals ∉ live σ la := fun q => x.locs.out _ q hL
  have hseen : (seen S σ la h).StaysIn (seen S σ la h') := seen_mono fun b o hb e => ⟨kp b o (fun q => hb (List.mem_append.mpr (.inl (q ▸ hL)))) e, hb⟩
  have hLn : S.h0.get? S.env.locals = none := ok.fresh _ L_own
  have ownL : ∀ b ∈ S.env.cells.map (·.2) ++ S.ex.map (·.1), b ≠ S.env.locals := fun b hb q => (List.nodup_cons.mp ok.ownnod).1 (q ▸ hb)
  refine ⟨⟨fun b o e => kp b o (fun q => ?_) (x.gb b o e), x.gbh, fun b o e hb => kp b o (fun q => by rw [q, hLn] at e; cases e) (x.keep0 b o e hb), fun b hb => ?_, x.pre, x.pre0, x.mon, x.new, ?_, fun p hp => ?_, fun p hp => ?_, ?_⟩, hseen⟩
  · have := x.gbh S.env.locals (List.mem_append.mpr (.inl hL))
    rw [← q, e] at this; cases this
  · have hne : b ≠ S.env.locals := fun q => by rw [q, hLn] at hb; cases hb
    rw [hs.2 b hne]; exact x.alive b hb
  · refine ⟨x.locs.len, fun k ds e => ?_, x.locs.inj, x.locs.out⟩
    refine glq fun Gq kq => ?_
    obtain ⟨a, vs, n, h1, h2, h3⟩ := x.locs.at' k ds e
    refine kq ?_
    clear kq Gq
    exact ⟨a, vs, n, h1, kp _ _ (fun q => hLl (q ▸ mem_live.mpr ⟨k, ds, e, h1⟩)) h2, h3.mono hseen⟩
  · exact kp _ _ (ownL _ (List.mem_append.mpr (.inr (List.mem_map.mpr ⟨p, hp, rfl⟩)))) (x.ex p hp)
  · obtain ⟨w, hw⟩ := x.cells p hp
    exact ⟨w, cell_at hw fun o ho => kp _ o (ownL _ (List.mem_append.mpr (.inl (List.mem_map.mpr ⟨p, hp, rfl⟩)))) ho⟩
  · refine ⟨_, hn, fun j z kd aw hz hj => ?_⟩
    by_cases hij : i = j
    · subst hij
      rw [hy] at hz
      cases hz
      have hlt : i < ρ.length := by
        by_cases hl : i < ρ.length
        · exact hl
        · rw [List.getElem?_eq_none (by rw [List.length_set]; lia)] at hj; cases hj
      rw [List.getElem?_set_self hlt] at hj
      cases hj
      exact ⟨v, .inl ⟨rfl, if_pos rfl⟩, hr.mono hseen fun _ _ e => e⟩
    · rw [List.getElem?_set_ne hij] at hj
      obtain ⟨v', hva, hrep⟩ := hv j z kd aw hz hj
      refine ⟨v', ?_, hrep.mono hseen fun _ _ e => e⟩
      rcases hva with ⟨q1, q2⟩ | ⟨q1, c, q2, q3⟩
      · left
        refine ⟨q1, ?_⟩
        have hne : z ≠ y := by
          rintro rfl
          have e1 : (S.env.scope.names.map (·.1))[i]? = some z := by rw [List.getElem?_map, hy]; rfl
          have e2 : (S.env.scope.names.map (·.1))[j]? = some z := by rw [List.getElem?_map, hz]; rfl
          exact hij (nodup_get ok.nod e1 e2)
        show (if z = y then some v else m z) = some v'
        rw [if_neg hne]; exact q2
      · exact .inr ⟨q1, c, q2, cell_at q3 fun o ho => kp _ o (ownL _ (List.mem_append.mpr (.inl (List.mem_map.mpr ⟨_, lookup_mem q2, rfl⟩)))) ho⟩
end
noncomputable def cK (d : PyData) : EC := fun _ _ σ => .ok (.d d, σ)
noncomputable def cV (i : Nat) : EC := fun _ ρ σ => match ρ[i]? with | some (some av) => .ok (av, σ) | _ => .bad
noncomputable def cPri (D : List (PyData × PyData)) : EC := fun _ _ σ => .ok (.tab D, σ)
noncomputable def cBin (f : AV → AV → Sto → Res (AV × Sto)) (l r : EC) : EC := fun o ρ σ => (l o ρ σ).bind fun a => (r o ρ a.2).bind fun b => f a.1 b.1 b.2
noncomputable def cNeg (i : Int) : EC := fun _ _ σ => .ok (.d (.int (-i)), σ)
noncomputable def cIf (t : TC) (a b : EC) : EC := fun o ρ σ => (t o ρ σ).bind fun x => if x.1 then a o ρ x.2 else b o ρ x.2
noncomputable def tE (c : EC) : TC := fun o ρ σ => (c o ρ σ).bind fun a => match a.1 with | .d (.bool b) => .ok (b, a.2) | _ => .bad
noncomputable def tNot (t : TC) : TC := fun o ρ σ => (t o ρ σ).bind fun x => .ok (!x.1, x.2)
noncomputable def tAnd : List TC → TC
  | [] => fun _ _ σ => .ok (true, σ)
  | t :: ts => fun o ρ σ => (t o ρ σ).bind fun x => if x.1 then tAnd ts o ρ x.2 else .ok (false, x.2)
noncomputable def tOr : List TC → TC
  | [] => fun _ _ σ => .ok (false, σ)
  | t :: ts => fun o ρ σ => (t o ρ σ).bind fun x => if x.1 then .ok (true, x.2) else tOr ts o ρ x.2
noncomputable def cAnd : EC → List EC → EC
  | c, [] => c
  | c, d :: ds => fun o ρ σ => (c o ρ σ).bind fun a => match a.1 with | .d (.bool true) => cAnd d ds o ρ a.2 | .d (.bool false) => .ok (.d (.bool false), a.2) | _ => .bad
noncomputable def frz (a : AV × Sto) : Res (PyData × Sto) := match a.1 with
  | .d x => .ok (x, a.2)
  | .loc k => match a.2[k]? with | some (some ds) => .ok (.list ds, a.2.set k none) | _ => .bad
  | .tab _ => .bad
noncomputable def cEvs : List EC → Orc → Rho → Sto → Res (List PyData × Sto)
  | [], _, _, σ => .ok ([], σ)
  | c :: cs, o, ρ, σ => (c o ρ σ).bind fun a => (frz a).bind fun x => (cEvs cs o ρ x.2).bind fun y => .ok (x.1 :: y.1, y.2)
noncomputable def cArgs : List EC → Orc → Rho → Sto → Res (List AV × Sto)
  | [], _, _, σ => .ok ([], σ)
  | c :: cs, o, ρ, σ => (c o ρ σ).bind fun a => (cArgs cs o ρ a.2).bind fun y => .ok (a.1 :: y.1, y.2)
noncomputable def cTup (cs : List EC) : EC := fun o ρ σ => (cEvs cs o ρ σ).bind fun y => .ok (.d (.tuple y.1), y.2)
noncomputable def cLst (cs : List EC) : EC := fun o ρ σ => (cEvs cs o ρ σ).bind fun y => .ok (.d (.list y.1), y.2)
noncomputable def cCall (f : Fn) (cs : List EC) : EC := fun o ρ σ => (cArgs cs o ρ σ).bind fun y => o f y.1 y.2
noncomputable def opI (f : Int → Int → Res PyData) (a b : AV) (σ : Sto) : Res (AV × Sto) := match a, b with
  | .d (.int x), .d (.int y) => (f x y).bind fun d => .ok (.d d, σ)
  | _, _ => .bad
noncomputable def oAdd := opI fun x y => .ok (.int (x + y))
noncomputable def oSub := opI fun x y => .ok (.int (x - y))
noncomputable def oMul := opI fun x y => if x.natAbs ≤ 4 ∨ y.natAbs ≤ 4 then .ok (.int (x * y)) else .bad
noncomputable def oMod := opI fun x y => if y = 0 then .bad else .ok (.int (x.fmod y))
noncomputable def oDiv := opI fun x y => if 0 < y ∧ y < 1000 then .ok (.int (x.fdiv y)) else .bad
noncomputable def oLt := opI fun x y => .ok (.bool (decide (x < y)))
noncomputable def oLe := opI fun x y => .ok (.bool (decide (x ≤ y)))
noncomputable def oGt := opI fun x y => .ok (.bool (decide (y < x)))
noncomputable def oGe := opI fun x y => .ok (.bool (decide (y ≤ x)))
noncomputable def eqD : PyData → PyData → Option Bool
  | .int x, .int y => some (x == y)
  | .str x, .str y => some (x == y)
  | x, y => if x.canLay0 = true ∧ y.canLay0 = true ∧ min x.depth y.depth ≤ 4000 then some (PyData.eqv x y) else none
noncomputable def datOf (a : AV) (σ : Sto) : Option PyData := match a with
  | .d x => some x
  | .loc k => match σ[k]? with | some (some ds) => some (.list ds) | _ => none
  | .tab _ => none
noncomputable def oEq (a b : AV) (σ : Sto) : Res (AV × Sto) := match datOf a σ, datOf b σ with
  | some x, some y => match eqD x y with | some q => .ok (.d (.bool q), σ) | none => .bad
  | _, _ => .bad
noncomputable def oNe (a b : AV) (σ : Sto) : Res (AV × Sto) := match datOf a σ, datOf b σ with
  | some x, some y => match eqD x y with | some q => .ok (.d (.bool (!q)), σ) | none => .bad
  | _, _ => .bad
noncomputable def isNoneD : PyData → Bool
  | .none => true
  | _ => false
noncomputable def oIsNone (a b : AV) (σ : Sto) : Res (AV × Sto) := match a, b with
  | .d x, .d .none => .ok (.d (.bool (isNoneD x)), σ)
  | _, _ => .bad
noncomputable def oCat (a b : AV) (σ : Sto) : Res (AV × Sto) := match a, b with
  | .d (.str x), .d (.str y) => if x.length + y.length ≤ 1000000 then .ok (.d (.str (x ++ y)), σ) else .bad
  | _, _ => .bad
noncomputable def oLApp (a b : AV) (σ : Sto) : Res (AV × Sto) := match datOf a σ, datOf b σ with
  | some (.list x), some (.list y) => if x.length + y.length ≤ 1000000 then .ok (.d (.list (x ++ y)), σ) else .bad
  | _, _ => .bad
noncomputable def lookS (D : List (PyData × PyData)) (x : Str) : Option PyData := PySem.Spec.lookup (.str x) D
noncomputable def itemsOf : PyData → Option (List PyData)
  | .list ds => some ds
  | .tuple ds => some ds
  | _ => none
noncomputable def itemOf (x : PyData) (b : AV) (σ : Sto) : Res (AV × Sto) := match b with
  | .d (.int i) => if 0 ≤ i ∧ i < 1000000 then (match itemsOf x with
      | some ds => match ds[i.toNat]? with | some d => .ok (.d d, σ) | none => .bad
      | none => .bad) else .bad
  | _ => .bad
noncomputable def oItem (a b : AV) (σ : Sto) : Res (AV × Sto) := match a with
  | .tab D => match b with
    | .d (.str x) => match lookS D x with | some (.int i) => .ok (.d (.int i), σ) | _ => .bad
    | _ => .bad
  | .d x => itemOf x b σ
  | .loc k => match σ[k]? with
    | some (some ds) => itemOf (.list ds) b σ
    | _ => .bad
noncomputable def oIn (a b : AV) (σ : Sto) : Res (AV × Sto) := match a, b with
  | .d (.str x), .tab D => .ok (.d (.bool (lookS D x).isSome), σ)
  | _, _ => .bad
section
variable {K : Pack} {sc : Scope}
noncomputable def OpSnd (K : Pack) (t : Value → Value → Sem Value) (f : AV → AV → Sto → Res (AV × Sto)) : Prop :=
  ∀ (S : Sta) (_ : StaOk K S) (ρ : Rho) (σ : Sto) (la : List Addr) (s : Shared) (va vb : Value) (a b : AV) (Q E : Value → Shared → Prop),
    Inv K S ρ σ la s.heap → RepA K (seen S σ la s.heap) la va a → RepA K (seen S σ la s.heap) la vb b → PostE K S ρ σ la s (f a b σ) Q E → wpAny (model K.prog K.w) S.A (t va vb) Q E s
theorem names_look : ∀ {l : List (Str × NameKind)}, (l.map (·.1)).Nodup → ∀ {i : Nat} {x : Str} {k : NameKind}, l[i]? = some (x, k) → l.lookup x = some k
  | [], _, _, _, _, e => by cases e
  | (y, k') :: l, hn, 0, x, k, e => by cases e; simp
  | (y, k') :: l, hn, i + 1, x, k, e => by
    have e' : l[i]? = some (x, k) := by simpa using e
    have hn' := List.nodup_cons.mp hn
    have hne : x ≠ y := by
      rintro rfl
      exact hn'.1 (List.mem_map.mpr ⟨_, List.mem_of_getElem? e', rfl⟩)
    rw [List.lookup_cons, beq_false_of_ne hne]
    exact names_look hn'.2 e'
theorem snd_none {k p} : SndE K sc (.Constant .none k p) (cK .none) := fun S ok hs orc ho ρ σ la s Q E x h =>
  Constant_none (h _ s.heap s.toks x x.tick .none)
theorem snd_bool {b k p} : SndE K sc (.Constant (.bool b) k p) (cK (.bool b)) := fun S ok hs orc ho ρ σ la s Q E x h =>
  Constant_bool (h _ s.heap s.toks x x.tick (.bool b))
theorem snd_int {i k p} : SndE K sc (.Constant (.int i) k p) (cK (.int i)) := fun S ok hs orc ho ρ σ la s Q E x h =>
  wpAny_Constant_int (h _ s.heap _ x x.tick (.int i _))
theorem snd_str {y k p} : SndE K sc (.Constant (.str y) k p) (cK (.str y)) := fun S ok hs orc ho ρ σ la s Q E x h =>
  Calls.Constant_str (h _ s.heap _ x x.tick (.str y _))
theorem snd_V {y : Str} {p : Pos} {i : Nat} {kd : NameKind} (hy : sc.names[i]? = some (y, kd) := by rfl) (hd : (y == ("__debug__" : Str)) = false := by decide) : SndE K sc (.Name y p) (cV i) := fun S ok hs orc ho ρ σ la s Q E x h => by
  unfold cV at h
  subst hs
  have hl : S.env.kindOf y = some kd := names_look ok.nod hy
  obtain ⟨m, hm, hv⟩ := x.vars
  split at h
  · rename_i av hr
    obtain ⟨v, hva, hrep⟩ := hv i y kd av hy hr
    refine wpAny_Name ?_ hd
    rcases hva with ⟨rfl, q⟩ | ⟨rfl, c, q1, q2⟩
    · exact wpAny_loadName_local ok.fn hl hm q (h v s.heap s.toks x x.tick hrep)
    · exact wpAny_loadName_cell ok.fn hl q1 q2 (h v s.heap s.toks x x.tick hrep)
  · exact h.elim
theorem snd_G {y : Str} {p : Pos} {i : Int} (hg : ∃ t, K.mg y = some (.int i t)) (hns : K.GB.Ns mainGlobals K.mg) (hx : sc.names.lookup y = some .globalImplicit := by rfl) (hd : (y == ("__debug__" : Str)) = false := by decide) :
    SndE K sc (.Name y p) (cK (.int i)) := fun S ok hs orc ho ρ σ la s Q E x h => by
  obtain ⟨t, hg⟩ := hg
  subst hs
  refine Calls.Name_function_global ok.fn hx ?_ hd
  refine Calls.loadGlobal_global (mg := K.mg) (by rw [ok.glob]; exact hns.keeps x.gb) hg (h _ s.heap s.toks x x.tick (.int i t))
inductive OutE (K : Pack) (S : Sta) (ρ : Rho) (σ : Sto) (la : List Addr) (s : Shared) (r : Res (AV × Sto)) (k : AV × Sto → Res (AV × Sto)) (Q E : Value → Shared → Prop) (v : Value) (s₁ : Shared) : Prop
  | mk (a : AV × Sto) (h1 : r = .ok a) (h2 : Inv K S ρ a.2 la s₁.heap) (h3 : (seen S σ la s.heap).StaysIn (seen S a.2 la s₁.heap)) (h4 : RepA K (seen S a.2 la s₁.heap) la v a.1) (h5 : PostE K S ρ a.2 la s₁ (k a) Q E) : OutE K S ρ σ la s r k Q E v s₁
theorem PostE.bind {S : Sta} {ρ : Rho} {σ : Sto} {la : List Addr} {s : Shared} {r : Res (AV × Sto)} {k : AV × Sto → Res (AV × Sto)} {Q E : Value → Shared → Prop} (h : PostE K S ρ σ la s (r.bind k) Q E) :
    PostE K S ρ σ la s r (OutE K S ρ σ la s r k Q E) E := by
  cases r with
  | bad => exact h
  | exc => exact h
  | ok a =>
    intro v h' tk' i m rep
    refine ⟨a, rfl, i, m, rep, ?_⟩
    show PostE K S ρ a.2 la _ (k a) Q E
    have h : PostE K S ρ σ la s (k a) Q E := h
    cases hk : k a with
    | bad => rw [hk] at h; exact h
    | exc => rw [hk] at h; exact h
    | ok b =>
      rw [hk] at h
      intro v2 h2 tk2 i2 m2 r2
      exact h v2 h2 tk2 i2 (fun b o e => m2 b o (m b o e)) r2
theorem snd_pair {t : Value → Value → Sem Value} {f : AV → AV → Sto → Res (AV × Sto)} (op : OpSnd K t f) {l r : Expr} {cl cr : EC} (hl : SndE K sc l cl) (hr : SndE K sc r cr)
    (S : Sta) (ok : StaOk K S) (hs : S.env.scope = sc) (orc : Orc) (ho : OrcOk K S.n orc) (ρ : Rho) (σ : Sto) (la : List Addr) (s : Shared) (Q E : Value → Shared → Prop)
    (x : Inv K S ρ σ la s.heap) (h : PostE K S ρ σ la s (cBin f cl cr orc ρ σ) Q E) :
    wpAny (model K.prog K.w) S.A (eval l S.env) (fun a s₁ => wpAny (model K.prog K.w) S.A (eval r S.env) (fun b s₂ => wpAny (model K.prog K.w) S.A (t a b) Q E s₂) E s₁) E s := by
  unfold cBin at h
  refine wpAny_mono (hl S ok hs orc ho ρ σ la s _ _ x h.bind) (fun va s₁ h₁ => ?_) fun _ _ e => e
  obtain ⟨a, _, i₁, m₁, r₁, h₁⟩ := h₁
  refine wpAny_mono (hr S ok hs orc ho ρ a.2 la s₁ _ _ i₁ h₁.bind) (fun vb s₂ h₂ => ?_) fun _ _ e => e
  obtain ⟨b, _, i₂, m₂, r₂, h₂⟩ := h₂
  exact op S ok ρ b.2 la s₂ va vb a.1 b.1 Q E i₂ (r₁.mono m₂ fun _ _ e => e) r₂ h₂
theorem snd_BinOp {op : Operator} {f} {l r : Expr} {p : Pos} {cl cr : EC} (o : OpSnd K (binaryOp op) f) (hl : SndE K sc l cl) (hr : SndE K sc r cr) : SndE K sc (.BinOp l op r p) (cBin f cl cr) :=
  fun S ok hs orc ho ρ σ la s Q E x h => wpAny_BinOp (snd_pair o hl hr S ok hs orc ho ρ σ la s Q E x h)
theorem snd_Cmp {op : CmpOp} {f} {l r : Expr} {p : Pos} {cl cr : EC} (o : OpSnd K (compareOp op) f) (hl : SndE K sc l cl) (hr : SndE K sc r cr) (hm : behindInMarks op r = false := by with_unfolding_all rfl) : SndE K sc (.Compare l [op] [r] p) (cBin f cl cr) :=
  fun S ok hs orc ho ρ σ la s Q E x h => wpAny_Compare1 (snd_pair o hl hr S ok hs orc ho ρ σ la s Q E x h) hm
theorem opI_snd {t : Value → Value → Sem Value} {f : Int → Int → Res PyData}
    (H : ∀ (A : Around) (s : Shared) (x y : Int) (tx ty : Tok) (d : PyData) (Q E : Value → Shared → Prop), f x y = .ok d → (∀ v tk, (∀ g, RD g v d) → Q v { s with toks := tk }) → wpAny (model K.prog K.w) A (t (.int x tx) (.int y ty)) Q E s)
    (hne : ∀ x y, f x y ≠ .exc) : OpSnd K t (opI f) := by
  intro S ok ρ σ la s va vb a b Q E x ra rb h
  unfold opI at h
  split at h
  · rename_i i j
    cases ra; cases rb
    cases hf : f i j with
    | bad => rw [hf] at h; exact h.elim
    | exc => exact (hne _ _ hf).elim
    | ok d =>
      rw [hf] at h
      exact H S.A s i j _ _ d Q E hf fun v tk hv => h v s.heap tk x x.tick (hv _)
  · exact h.elim
theorem op_Add : OpSnd K (binaryOp .Add) oAdd := opI_snd (fun A s x y tx ty d Q E e h => by cases e; exact add_int (h _ _ fun _ => .int _ _)) fun _ _ e => nomatch e
theorem op_Sub : OpSnd K (binaryOp .Sub) oSub := opI_snd (fun A s x y tx ty d Q E e h => by cases e; exact sub_int' (h _ _ fun _ => .int _ _)) fun _ _ e => nomatch e
theorem op_iAdd : OpSnd K (inplaceOp .Add) oAdd := opI_snd (fun A s x y tx ty d Q E e h => by cases e; exact iadd_int (h _ _ fun _ => .int _ _)) fun _ _ e => nomatch e
theorem op_iSub : OpSnd K (inplaceOp .Sub) oSub := opI_snd (fun A s x y tx ty d Q E e h => by cases e; exact isub_int (h _ _ fun _ => .int _ _)) fun _ _ e => nomatch e
theorem bits_small {x : Int} (h : x.natAbs ≤ 4) : Builtin.Int.intBits x ≤ 64 := intBits_le_64 (by omega) (by omega)
theorem op_Mul : OpSnd K (binaryOp .Mult) oMul := opI_snd (fun A s x y tx ty d Q E e h => by
    split at e
    · rename_i hb
      cases e
      exact mul_int (h _ _ fun _ => .int _ _) (by rcases hb with q | q; exact IntMulOk.of_left (bits_small q); exact IntMulOk.of_right (bits_small q))
    · cases e) fun _ _ e => by split at e <;> cases e
theorem op_Mod : OpSnd K (binaryOp .Mod) oMod := opI_snd (fun A s x y tx ty d Q E e h => by
    split at e
    · cases e
    · rename_i hb; cases e; exact mod_int' hb (h _ _ fun _ => .int _ _)) fun _ _ e => by split at e <;> cases e
theorem noPy {x y : Int} (h : 0 < y ∧ y < 1000) : Builtin.divisionGoesByPylong x y = false := by
  unfold Builtin.divisionGoesByPylong
  have h1 : y.natAbs < 1000 := by omega
  have h2 : y.natAbs.log2 < 10 := (Nat.log2_lt (by omega)).mpr (by omega)
  have h3 : (if y == 0 then 0 else y.natAbs.log2 / 30 + 1) ≤ 300 := by split <;> omega
  have h4 : ¬ ((if y == 0 then 0 else y.natAbs.log2 / 30 + 1) > 300) := by omega
  simp only [h4, decide_false, Bool.false_and]
theorem op_Div : OpSnd K (binaryOp .FloorDiv) oDiv := opI_snd (fun A s x y tx ty d Q E e h => by
    split at e
    · rename_i hb; cases e; exact floordiv_int (by omega) (h _ _ fun _ => .int _ _) (.inl (noPy hb))
    · cases e) fun _ _ e => by split at e <;> cases e
theorem op_Lt : OpSnd K (compareOp .Lt) oLt := opI_snd (fun A s x y tx ty d Q E e h => by cases e; exact lt_int (h _ s.toks fun _ => .bool _)) fun _ _ e => nomatch e
theorem op_Le : OpSnd K (compareOp .LtE) oLe := opI_snd (fun A s x y tx ty d Q E e h => by cases e; exact le_int (h _ s.toks fun _ => .bool _)) fun _ _ e => nomatch e
theorem op_Gt : OpSnd K (compareOp .Gt) oGt := opI_snd (fun A s x y tx ty d Q E e h => by cases e; exact gt_int (h _ s.toks fun _ => .bool _)) fun _ _ e => nomatch e
theorem op_Ge : OpSnd K (compareOp .GtE) oGe := opI_snd (fun A s x y tx ty d Q E e h => by cases e; exact ge_int (h _ s.toks fun _ => .bool _)) fun _ _ e => nomatch e
theorem snd_Neg {i k p q} : SndE K sc (.UnaryOp .USub (.Constant (.int i) k p) q) (cNeg i) := fun S ok hs orc ho ρ σ la s Q E x h =>
  UnaryOp_ (wpAny_Constant_int (neg_int (h _ s.heap _ x x.tick (.int _ _))))
end
noncomputable def priD : List (PyData × PyData) := [
  (.str (Str.ofString ".EQV."), .int 1), (.str (Str.ofString ".NEQV."), .int 1), (.str (Str.ofString ".OR."), .int 2), (.str (Str.ofString ".AND."), .int 3),
  (.str (Str.ofString ".EQ."), .int 5), (.str (Str.ofString ".NE."), .int 5), (.str (Str.ofString ".LT."), .int 5), (.str (Str.ofString ".LE."), .int 5), (.str (Str.ofString ".GT."), .int 5), (.str (Str.ofString ".GE."), .int 5),
  (.str (Str.ofString "//"), .int 6), (.str (Str.ofString "+"), .int 7), (.str (Str.ofString "-"), .int 7), (.str (Str.ofString "*"), .int 8), (.str (Str.ofString "/"), .int 8), (.str (Str.ofString "**"), .int 9)]
structure Facts (K : Pack) : Prop where
  g : K.GB.Ns mainGlobals K.mg
  b : K.GB.Ns builtinsNs K.mb
  nolimit : K.GB.NoLimit
  len0 : K.mg (Str.ofString "len") = none
  len1 : K.mb (Str.ofString "len") = some (.builtin "len")
  rng0 : K.mg (Str.ofString "range") = none
  rng1 : K.mb (Str.ofString "range") = some (.type "range")
  fns : ∀ f, ∃ o pm c' doc, K.GB.get? (K.fa f) = some o ∧ o.data = .func (Calls.docDef (DF f).str (DF f).params (DF f).body (DF f).scope pm (.ref c') doc) ∧ K.GB.CodeRec (.ref c') (DF f).str ∧ K.mg (DF f).str = some (.ref (K.fa f))
  c1 : ∃ t, K.mg (Str.ofString "EQUIVALENCE") = some (.int 1 t)
  c4 : ∃ t, K.mg (Str.ofString "NEGATION") = some (.int 4 t)
  c5 : ∃ t, K.mg (Str.ofString "RELATION") = some (.int 5 t)
  c7 : ∃ t, K.mg (Str.ofString "SUM") = some (.int 7 t)
  c9 : ∃ t, K.mg (Str.ofString "POWER") = some (.int 9 t)
  pri : ∃ a, K.mg (Str.ofString "PRIORITIES") = some (.ref a) ∧ StrTab K.prog K.w K.GB a priD
section
variable {K : Pack} {sc : Scope}
theorem rep_rd {S : Sta} {ρ : Rho} {σ : Sto} {la : List Addr} {h : Heap} (x : Inv K S ρ σ la h) {v : Value} : ∀ {a : AV}, RepA K (seen S σ la h) la v a → ∀ {d}, datOf a σ = some d → RD h v d
  | .d y, r, d, e => by
    cases e
    exact RD.mono (fun _ _ q => of_hideAll _ q) r
  | .loc k, r, d, e => by
    obtain ⟨a, h1, rfl⟩ := r
    unfold datOf at e
    dsimp only at e
    split at e
    · rename_i ds hk
      cases e
      refine glq fun Gq kq => ?_
      obtain ⟨a', vs, n, h2, h3, h4⟩ := x.locs.at' k ds hk
      refine kq ?_
      clear kq Gq
      rw [h1] at h2; cases h2
      exact .list h3 (h4.mono fun _ _ q => of_hideAll _ q)
    · cases e
  | .tab _, _, _, e => by cases e
theorem eqD_snd {S : Sta} (ok : StaOk K S) {s : Shared} {va vb : Value} {x y : PyData} {q : Bool} {Q E : Value → Shared → Prop} (ra : RD s.heap va x) (rb : RD s.heap vb y) (e : eqD x y = some q) (h : Q (.bool q) s) :
    wpAny (model K.prog K.w) S.A (compareOp .Eq va vb) Q E s := by
  unfold eqD at e
  split at e
  · cases ra; cases rb; cases e; exact eq_int h
  · cases ra; cases rb; cases e; exact eq_str h
  · split at e
    · rename_i hc
      cases e
      obtain ⟨_, ra⟩ := ra.reads
      obtain ⟨_, rb⟩ := rb.reads
      exact SeqAt.compareEq_reads ra rb hc.1 hc.2.1 (by have := ok.units; lia) h
    · cases e
theorem neD_snd {S : Sta} (ok : StaOk K S) {s : Shared} {va vb : Value} {x y : PyData} {q : Bool} {Q E : Value → Shared → Prop} (ra : RD s.heap va x) (rb : RD s.heap vb y) (e : eqD x y = some q) (h : Q (.bool (!q)) s) :
    wpAny (model K.prog K.w) S.A (compareOp .NotEq va vb) Q E s := by
  unfold eqD at e
  split at e
  · cases ra; cases rb; cases e; exact ne_int h
  · cases ra; cases rb; cases e
    exact ne_str h
  · split at e
    · rename_i hc
      cases e
      obtain ⟨_, ra⟩ := ra.reads
      obtain ⟨_, rb⟩ := rb.reads
      exact SeqAt.compareNe_reads ra rb hc.1 hc.2.1 (by have := ok.units; lia) h
    · cases e
theorem op_Eq : OpSnd K (compareOp .Eq) oEq := by
  intro S ok ρ σ la s va vb a b Q E x ra rb h
  unfold oEq at h
  split at h
  · rename_i d1 d2 e1 e2
    split at h
    · rename_i q e
      exact eqD_snd ok (rep_rd x ra e1) (rep_rd x rb e2) e (h _ s.heap s.toks x x.tick (.bool _))
    · exact h.elim
  · exact h.elim
theorem op_Ne : OpSnd K (compareOp .NotEq) oNe := by
  intro S ok ρ σ la s va vb a b Q E x ra rb h
  unfold oNe at h
  split at h
  · rename_i d1 d2 e1 e2
    split at h
    · rename_i q e
      exact neD_snd ok (rep_rd x ra e1) (rep_rd x rb e2) e (h _ s.heap s.toks x x.tick (.bool _))
    · exact h.elim
  · exact h.elim
theorem isNone_rd {h : Heap} {v : Value} {x : PyData} (r : RD h v x) : (v == .none) = isNoneD x := by cases r <;> rfl
theorem op_IsNone : OpSnd K (compareOp .Is) oIsNone := by
  intro S ok ρ σ la s va vb a b Q E x ra rb h
  unfold oIsNone at h
  split at h
  · cases rb
    refine is_none_gen ?_
    rw [isNone_rd ra]
    exact h _ s.heap s.toks x x.tick (.bool _)
  · exact h.elim
theorem op_InTab : OpSnd K (compareOp .In) oIn := by
  intro S ok ρ σ la s va vb a b Q E x ra rb h
  unfold oIn at h
  split at h
  · rename_i y D
    cases ra
    obtain ⟨c, rfl, T⟩ := rb
    exact in_strTab (T.keep fun b o e => of_hideAll _ e) (h _ s.heap _ x x.tick (.bool _))
  · exact h.elim
noncomputable def oInT (a b : AV) (σ : Sto) : Res (AV × Sto) := match a, b with
  | .d x, .d (.tuple ys) => if PyData.canLayAll0 ys = true ∧ x.canLay0 = true ∧ x.depth ≤ 4000 then .ok (.d (.bool (ys.any fun y => PyData.eqv y x)), σ) else .bad
  | _, _ => .bad
noncomputable def oNotInT (a b : AV) (σ : Sto) : Res (AV × Sto) := match a, b with
  | .d x, .d (.tuple ys) => if PyData.canLayAll0 ys = true ∧ x.canLay0 = true ∧ x.depth ≤ 4000 then .ok (.d (.bool (!ys.any fun y => PyData.eqv y x)), σ) else .bad
  | _, _ => .bad
theorem op_InT : OpSnd K (compareOp .In) oInT := by
  intro S ok ρ σ la s va vb a b Q E x ra rb h
  unfold oInT at h
  split at h
  · split at h
    · rename_i hc
      obtain ⟨_, ra⟩ := (RD.mono (fun _ _ q => of_hideAll _ q) ra : RD s.heap _ _).reads
      obtain ⟨_, rb⟩ := (RD.mono (fun _ _ q => of_hideAll _ q) rb : RD s.heap _ _).reads
      exact SeqAt.in_tuple_reads rb ra hc.1 hc.2.1 (by have := ok.units; have := hc.2.2; lia) (h _ s.heap s.toks x x.tick (.bool _))
    · exact h.elim
  · exact h.elim
theorem op_NotInT : OpSnd K (compareOp .NotIn) oNotInT := by
  intro S ok ρ σ la s va vb a b Q E x ra rb h
  unfold oNotInT at h
  split at h
  · split at h
    · rename_i hc
      obtain ⟨_, ra⟩ := (RD.mono (fun _ _ q => of_hideAll _ q) ra : RD s.heap _ _).reads
      obtain ⟨_, rb⟩ := (RD.mono (fun _ _ q => of_hideAll _ q) rb : RD s.heap _ _).reads
      exact SeqAt.notIn_tuple_reads rb ra hc.1 hc.2.1 (by have := ok.units; have := hc.2.2; lia) (h _ s.heap s.toks x x.tick (.bool _))
    · exact h.elim
  · exact h.elim
theorem seqSz : ∀ n : Nat, n ≤ 1000000 → n ≤ sizeLine := fun n h => by rw [sizeLine_eq]; lia
theorem op_Cat : OpSnd K (binaryOp .Add) oCat := by
  intro S ok ρ σ la s va vb a b Q E x ra rb h
  unfold oCat at h
  split at h
  · split at h
    · rename_i hc
      cases ra; cases rb
      exact add_str (fun t' tk => h _ s.heap tk x x.tick (.str _ _)) (seqSz _ hc)
    · exact h.elim
  · exact h.elim
theorem seen_push {S : Sta} {ρ : Rho} {σ : Sto} {la : List Addr} {h : Heap} (ok : StaOk K S) (x : Inv K S ρ σ la h) (o : Obj) (hf : o.isFreed = false) : (seen S σ la (h.push o)).get? h.objs.size = some o := by
  refine seen_iff.mpr ⟨Heap.get?_push_size _ hf, fun q => ?_⟩
  rcases List.mem_append.mp q with q | q
  · have := x.frin ok _ q
    rw [Heap.get?_none_of_le (Nat.le_refl _)] at this; cases this
  · obtain ⟨k, ds, h1, h2⟩ := mem_live.mp q
    obtain ⟨a, vs, n, h3, h4, _⟩ := x.locs.at' k ds h1
    rw [h2] at h3; cases h3
    exact absurd (Heap.lt_size h4) (Nat.lt_irrefl _)
theorem op_LApp : OpSnd K (binaryOp .Add) oLApp := by
  intro S ok ρ σ la s va vb a b Q E x ra rb h
  unfold oLApp at h
  split at h
  · rename_i xs ys e1 e2
    split at h
    · rename_i hc
      have i := x.ext (h' := s.heap.push { cls := .type "list", data := .seq (#[] : Array Value) }) fun b o e => Heap.get?_push_of_some _ e
      have r1 := rep_rd x ra e1
      have r2 := rep_rd x rb e2
      have sees : ∀ {v : Value} {c : AV} {zs : List PyData}, RepA K (seen S σ la s.heap) la v c → datOf c σ = some (.list zs) → ∃ a vs n, v = .ref a ∧ IsL s.heap a vs n ∧ RDs (seen S σ la s.heap) vs.toList zs := by
        intro v c zs r e
        cases c with
        | d y =>
          cases e
          cases r with
          | list h1 h2 => exact ⟨_, _, _, rfl, of_hideAll _ h1, h2⟩
        | loc k =>
          obtain ⟨a, h1, rfl⟩ := r
          unfold datOf at e
          dsimp only at e
          split at e
          · rename_i ds hk
            cases e
            refine glq fun Gq kq => ?_
            obtain ⟨a', vs, n, h2, h3, h4⟩ := x.locs.at' k _ hk
            refine kq ?_
            clear kq Gq
            rw [h1] at h2; cases h2
            exact ⟨a, vs, n, rfl, h3, h4⟩
          · cases e
        | tab D => cases e
      obtain ⟨a1, vs1, n1, rfl, l1, q1⟩ := sees ra e1
      obtain ⟨a2, vs2, n2, rfl, l2, q2⟩ := sees rb e2
      have hsz : vs1.size + vs2.size ≤ sizeLine := seqSz _ (by
        have z1 := q1.length; have z2 := q2.length
        rw [Array.length_toList] at z1 z2; lia)
      refine P.add_list l1 l2 (h _ _ s.toks (x.ext fun b o e => Heap.get?_push_of_some _ e).1 (x.ext fun b o e => Heap.get?_push_of_some _ e).2 ?_) hsz
      refine RD.list (n := 0) (seen_push ok x _ rfl) ?_
      rw [Array.toList_append]
      exact (q1.append q2).mono (x.ext fun b o e => Heap.get?_push_of_some _ e).2
    · exact h.elim
  · exact h.elim
end
section
variable {K : Pack} {sc : Scope}
theorem of_hid {h : Heap} {X : List Addr} : (hideAll h X).StaysIn h := fun _ _ q => of_hideAll _ q
theorem sees {S : Sta} {ρ : Rho} {σ : Sto} {la : List Addr} {h : Heap} (x : Inv K S ρ σ la h) {v : Value} {c : AV} {zs : List PyData} (r : RepA K (seen S σ la h) la v c) (e : datOf c σ = some (.list zs)) :
    ∃ a vs n, v = .ref a ∧ IsL h a vs n ∧ RDs (seen S σ la h) vs.toList zs := by
  cases c with
  | d y =>
    cases e
    cases r with
    | list h1 h2 => exact ⟨_, _, _, rfl, of_hideAll _ h1, h2⟩
  | loc k =>
    obtain ⟨a, h1, rfl⟩ := r
    unfold datOf at e
    dsimp only at e
    split at e
    · rename_i ds hk
      cases e
      refine glq fun Gq kq => ?_
      obtain ⟨a', vs, n, h2, h3, h4⟩ := x.locs.at' k _ hk
      refine kq ?_
      clear kq Gq
      rw [h1] at h2; cases h2
      exact ⟨a, vs, n, rfl, h3, h4⟩
    · cases e
  | tab D => cases e
theorem item_snd {value slice : Expr} (hsl : ∀ o i, subscripted slice false o i = operate [o, i] (getItem o i)) {S : Sta} {ρ : Rho} {σ : Sto} {la : List Addr} {s : Shared} {p : Addr} {vb : Value} {b : AV} {y : PyData} {Q E : Value → Shared → Prop}
    (x : Inv K S ρ σ la s.heap) (hp : ∀ ds, itemsOf y = some ds → ∃ vs, RDs (seen S σ la s.heap) vs.toList ds ∧ (s.heap.IsList p vs ∨ IsTup s.heap p vs)) (rb : RepA K (seen S σ la s.heap) la vb b) (h : PostE K S ρ σ la s (itemOf y b σ) Q E) :
    wpAny (model K.prog K.w) S.A (subscriptTail value slice (.ref p) vb) Q E s := by
  unfold itemOf at h
  split at h
  · cases rb
    split at h
    · rename_i hb
      split at h
      · rename_i ds e
        split at h
        · rename_i d hd
          obtain ⟨vs, q, hl | ht⟩ := hp ds e
          · obtain ⟨v, hv, hr⟩ := q.get hd
            exact tail_any hl.typeIs slot_list_getitem.lookup (wpAny_getItem_list hl hb.1 (by lia) (by rw [← Array.getElem?_toList]; exact hv) (h v s.heap s.toks x x.tick hr)) (hsl _ _)
          · obtain ⟨v, hv, hr⟩ := q.get hd
            have hlt := (List.getElem?_eq_some_iff.mp hv).1
            rw [Array.length_toList] at hlt
            refine tail_any ht.typeIs slot_tuple_getitem.lookup (PyProof.Rows.getItem_tuple (j := _) ht (by lia) (by lia) ?_ (by rw [← Array.getElem?_toList]; exact hv) (h v s.heap s.toks x x.tick hr)) (hsl _ _)
            unfold seqIndex?
            first
              | (have h0 : ¬ (_ : Int) < 0 := Int.not_lt.mpr hb.1
                 simp only [h0, if_false]
                 first | (rw [if_neg (by lia)]; done) | (rw [if_pos (by lia)]; done))
              | (simp; lia)
        · exact h.elim
      · exact h.elim
    · exact h.elim
  · exact h.elim
theorem op_Item {value slice : Expr} (hsl : ∀ o i, subscripted slice false o i = operate [o, i] (getItem o i)) : OpSnd K (subscriptTail value slice) oItem := by
  intro S ok ρ σ la s va vb a b Q E x ra rb h
  unfold oItem at h
  cases a with
  | tab D =>
    obtain ⟨d, rfl, T⟩ := ra
    dsimp only at h
    split at h
    · cases rb
      split at h
      · rename_i y i hl
        obtain ⟨lo, kvs, hd, hf⟩ := T.keep of_hid
        obtain ⟨v, hv, hfl⟩ := hf.of_lookup (fun a b => PyProof.V.same_str a b) hl
        cases hfl s.heap
        exact tail_any hd.typeIs slot_dict_getitem.lookup (wpAny_getItem_of (strKind_is K.prog K.w _ _) hd.mapOf hv (h _ s.heap _ x x.tick (.int _ _))) (hsl _ _)
      · exact h.elim
    · exact h.elim
  | d y =>
    cases hy : itemsOf y with
    | none =>
      dsimp only at h
      unfold itemOf at h
      rw [hy] at h
      split at h
      · split at h <;> exact h.elim
      · exact h.elim
    | some ds =>
      cases ra with
      | list h1 h2 => exact item_snd hsl x (fun ds e => by cases e; exact ⟨_, h2, .inl (IsL.isList (of_hideAll _ h1))⟩) rb h
      | tuple h1 h2 => exact item_snd hsl x (fun ds e => by cases e; exact ⟨_, h2, .inr ⟨_, of_hideAll _ h1, rfl, _, rfl⟩⟩) rb h
      | _ => cases hy
  | loc k =>
    dsimp only at h
    split at h
    · rename_i ds hk
      obtain ⟨p, vs, n, rfl, hl, q⟩ := sees x (c := .loc k) (zs := ds) ra (by unfold datOf; dsimp only; rw [hk])
      exact item_snd hsl x (fun ds e => by cases e; exact ⟨_, q, .inl hl.isList⟩) rb h
    · exact h.elim
theorem snd_Sub {value slice : Expr} {p : Pos} {cv cs : EC} (hv : SndE K sc value cv) (hs : SndE K sc slice cs) (hsl : ∀ o i, subscripted slice false o i = operate [o, i] (getItem o i) := by intro _ _; rfl) :
    SndE K sc (.Subscript value slice p) (cBin oItem cv cs) :=
  fun S ok e orc ho ρ σ la s Q E x h => Subscript_ (snd_pair (op_Item hsl) hv hs S ok e orc ho ρ σ la s Q E x h)
theorem PostT.ofE {S : Sta} {ρ : Rho} {σ : Sto} {la : List Addr} {s : Shared} {r : Res (AV × Sto)} {Q : Bool → Shared → Prop} {E : Value → Shared → Prop}
    (h : PostT K S ρ σ la s (r.bind fun a => match a.1 with | .d (.bool b) => .ok (b, a.2) | _ => .bad) Q E) :
    PostE K S ρ σ la s r (fun v s₁ => wpAny (model K.prog K.w) S.A (truthy v) Q E s₁) E := by
  cases r with
  | bad => exact h
  | exc => exact h
  | ok a =>
    obtain ⟨a, σ'⟩ := a
    intro v h' tk' i m rep
    rw [Res.bind_ok] at h
    cases a with
    | d y =>
      cases y with
      | bool b =>
        cases rep
        exact wpAny_truthy_bool (h h' tk' i m)
      | _ => exact h.elim
    | _ => exact h.elim
theorem snd_tE {e : Expr} {c : EC} (he : SndE K sc e c) (hp : ∀ env whole, isTrue e env whole = (do let v ← whole; standAt e.pos; holding [v] (truthy v)) := by intro _ _; rfl) : SndT K sc e (tE c) :=
  fun S ok hs orc ho ρ σ la s Q E x h => isTrue_plain (he S ok hs orc ho ρ σ la s _ _ x (PostT.ofE h)) (hp _ _)
theorem snd_tCmp {op : CmpOp} {f} {l r : Expr} {p : Pos} {cl cr : EC} (o : OpSnd K (compareOp op) f) (hl : SndE K sc l cl) (hr : SndE K sc r cr) (hm : behindInMarks op r = false := by with_unfolding_all rfl) : SndT K sc (.Compare l [op] [r] p) (tE (cBin f cl cr)) :=
  fun S ok hs orc ho ρ σ la s Q E x h => wpAny_isTrue_Compare1 (snd_pair o hl hr S ok hs orc ho ρ σ la s _ _ x (PostT.ofE h)) hm
theorem PostT.bind {S : Sta} {ρ : Rho} {σ : Sto} {la : List Addr} {s : Shared} {r : Res (Bool × Sto)} {k : Bool × Sto → Res (Bool × Sto)} {Q : Bool → Shared → Prop} {E : Value → Shared → Prop} (h : PostT K S ρ σ la s (r.bind k) Q E) :
    PostT K S ρ σ la s r (fun b s₁ => ∃ σ', r = .ok (b, σ') ∧ Inv K S ρ σ' la s₁.heap ∧ PostT K S ρ σ' la s₁ (k (b, σ')) Q E) E := by
  cases r with
  | bad => exact h
  | exc => exact h
  | ok a =>
    intro h' tk' i m
    refine ⟨a.2, rfl, i, ?_⟩
    have h : PostT K S ρ σ la s (k a) Q E := h
    show PostT K S ρ a.2 la _ (k a) Q E
    cases hk : k a with
    | bad => rw [hk] at h; exact h
    | exc => rw [hk] at h; exact h
    | ok b =>
      rw [hk] at h
      intro h2 tk2 i2 m2
      exact h h2 tk2 i2 fun b o e => m2 b o (m b o e)
theorem PostT.bindE {S : Sta} {ρ : Rho} {σ : Sto} {la : List Addr} {s : Shared} {r : Res (Bool × Sto)} {k : Bool × Sto → Res (AV × Sto)} {Q : Value → Shared → Prop} {E : Value → Shared → Prop} (h : PostE K S ρ σ la s (r.bind k) Q E) :
    PostT K S ρ σ la s r (fun b s₁ => ∃ σ', r = .ok (b, σ') ∧ Inv K S ρ σ' la s₁.heap ∧ PostE K S ρ σ' la s₁ (k (b, σ')) Q E) E := by
  cases r with
  | bad => exact h
  | exc => exact h
  | ok a =>
    intro h' tk' i m
    refine ⟨a.2, rfl, i, ?_⟩
    have h : PostE K S ρ σ la s (k a) Q E := h
    show PostE K S ρ a.2 la _ (k a) Q E
    cases hk : k a with
    | bad => rw [hk] at h; exact h
    | exc => rw [hk] at h; exact h
    | ok b =>
      rw [hk] at h
      intro v2 h2 tk2 i2 m2 r2
      exact h v2 h2 tk2 i2 (fun b o e => m2 b o (m b o e)) r2
theorem snd_tNot {e : Expr} {p : Pos} {t : TC} (he : SndT K sc e t) : SndT K sc (.UnaryOp .Not e p) (tNot t) :=
  fun S ok hs orc ho ρ σ la s Q E x h => by
    unfold tNot at h
    refine isTrue_not (wpAny_mono (he S ok hs orc ho ρ σ la s _ _ x h.bind) (fun b s₁ h₁ => ?_) fun _ _ e => e)
    obtain ⟨σ', _, i, h₁⟩ := h₁
    exact h₁ s₁.heap s₁.toks i fun _ _ e => e
theorem snd_tAnd0 {p : Pos} : SndT K sc (.BoolOp .And [] p) (tAnd []) := fun S ok hs orc ho ρ σ la s Q E x h => isTrue_and_nil (h s.heap s.toks x x.tick)
theorem snd_tAnd {e : Expr} {es : List Expr} {p : Pos} {t : TC} {ts : List TC} (he : SndT K sc e t) (hr : SndT K sc (.BoolOp .And es p) (tAnd ts)) : SndT K sc (.BoolOp .And (e :: es) p) (tAnd (t :: ts)) :=
  fun S ok hs orc ho ρ σ la s Q E x h => by
    rw [tAnd] at h
    refine isTrue_and (wpAny_mono (he S ok hs orc ho ρ σ la s _ _ x h.bind) (fun b s₁ h₁ => ?_) fun _ _ e => e)
    obtain ⟨σ', _, i, h₁⟩ := h₁
    cases b with
    | true => exact hr S ok hs orc ho ρ σ' la s₁ Q E i h₁
    | false => exact h₁ s₁.heap s₁.toks i fun _ _ e => e
theorem snd_tOr0 {p : Pos} : SndT K sc (.BoolOp .Or [] p) (tOr []) := fun S ok hs orc ho ρ σ la s Q E x h => isTrue_or_nil (h s.heap s.toks x x.tick)
theorem snd_tOr {e : Expr} {es : List Expr} {p : Pos} {t : TC} {ts : List TC} (he : SndT K sc e t) (hr : SndT K sc (.BoolOp .Or es p) (tOr ts)) : SndT K sc (.BoolOp .Or (e :: es) p) (tOr (t :: ts)) :=
  fun S ok hs orc ho ρ σ la s Q E x h => by
    rw [tOr] at h
    refine isTrue_or (wpAny_mono (he S ok hs orc ho ρ σ la s _ _ x h.bind) (fun b s₁ h₁ => ?_) fun _ _ e => e)
    obtain ⟨σ', _, i, h₁⟩ := h₁
    cases b with
    | false => exact hr S ok hs orc ho ρ σ' la s₁ Q E i h₁
    | true => exact h₁ s₁.heap s₁.toks i fun _ _ e => e
theorem snd_If {t a b : Expr} {p : Pos} {ct : TC} {ca cb : EC} (ht : SndT K sc t ct) (ha : SndE K sc a ca) (hb : SndE K sc b cb) : SndE K sc (.IfExp t a b p) (cIf ct ca cb) :=
  fun S ok hs orc ho ρ σ la s Q E x h => by
    unfold cIf at h
    refine IfExp_ (wpAny_mono (ht S ok hs orc ho ρ σ la s _ _ x (PostT.bindE h)) (fun c s₁ h₁ => ?_) fun _ _ e => e)
    obtain ⟨σ', _, i, h₁⟩ := h₁
    cases c with
    | true => exact ha S ok hs orc ho ρ σ' la s₁ Q E i h₁
    | false => exact hb S ok hs orc ho ρ σ' la s₁ Q E i h₁
theorem snd_And1 {e : Expr} {p : Pos} {c : EC} (he : SndE K sc e c) : SndE K sc (.BoolOp .And [e] p) (cAnd c []) := fun S ok hs orc ho ρ σ la s Q E x h => BoolOp_one (he S ok hs orc ho ρ σ la s Q E x h)
theorem snd_And {e e2 : Expr} {es : List Expr} {p : Pos} {c d : EC} {ds : List EC} (he : SndE K sc e c) (hr : SndE K sc (.BoolOp .And (e2 :: es) p) (cAnd d ds)) : SndE K sc (.BoolOp .And (e :: e2 :: es) p) (cAnd c (d :: ds)) :=
  fun S ok hs orc ho ρ σ la s Q E x h => by
    rw [cAnd] at h
    refine BoolOp_and (wpAny_mono (he S ok hs orc ho ρ σ la s _ _ x h.bind) (fun v s₁ h₁ => ?_) fun _ _ e => e)
    obtain ⟨a, _, i, m, r, h₁⟩ := h₁
    obtain ⟨a, σ'⟩ := a
    cases a with
    | d y =>
      cases y with
      | bool b =>
        cases r
        cases b with
        | true => exact wpAny_truthy_bool (hr S ok hs orc ho ρ σ' la s₁ Q E i h₁)
        | false => exact wpAny_truthy_bool (h₁ _ s₁.heap s₁.toks i (fun _ _ e => e) (.bool _))
      | _ => exact h₁.elim
    | _ => exact h₁.elim
inductive SndEs (K : Pack) (sc : Scope) : List Expr → List EC → Prop
  | nil : SndEs K sc [] []
  | cons {e es c cs} : SndE K sc e c → (∀ env, starEach (e :: es) env = (false, eval e env) :: starEach es env) → SndEs K sc es cs → SndEs K sc (e :: es) (c :: cs)
theorem snd_args {es : List Expr} {cs : List EC} (hes : SndEs K sc es cs) : ∀ {p : Pos} (S : Sta) (_ : StaOk K S) (_ : S.env.scope = sc) (orc : Orc) (_ : OrcOk K S.n orc) (ρ : Rho) (σ : Sto) (la : List Addr) (s : Shared) (Q : List Value → Shared → Prop) (E : Value → Shared → Prop),
    Inv K S ρ σ la s.heap → PostEs K S ρ σ la s (cArgs cs orc ρ σ) Q E → wpAny (model K.prog K.w) S.A (spliced (backTo p (starEach es S.env))) Q E s := by
  induction hes with
  | nil => intro p S ok hs orc ho ρ σ la s Q E x h; exact args_nil (h [] s.heap s.toks x x.tick .nil)
  | cons he hst _ ih =>
    intro p S ok hs orc ho ρ σ la s Q E x h
    rw [cArgs] at h
    refine args_cons ?_ (hst _)
    rename_i e es c cs _
    have h1 : PostE K S ρ σ la s (c orc ρ σ) (fun v s₁ => ∃ a : AV × Sto, Inv K S ρ a.2 la s₁.heap ∧ RepA K (seen S a.2 la s₁.heap) la v a.1 ∧ PostEs K S ρ a.2 la s₁ (cArgs cs orc ρ a.2) (fun vs s₂ => Q (v :: vs) s₂) E) E := by
      cases hr : c orc ρ σ with
      | bad => rw [hr] at h; exact h
      | exc => rw [hr] at h; exact h
      | ok a =>
        rw [hr] at h
        intro v h' tk' i m rep
        refine ⟨a, i, rep, ?_⟩
        dsimp only [Res.bind] at h
        cases hk : cArgs cs orc ρ a.2 with
        | bad => rw [hk] at h; exact h
        | exc => rw [hk] at h; exact h
        | ok b =>
          rw [hk] at h
          intro vs h2 tk2 i2 m2 r2
          exact h (v :: vs) h2 tk2 i2 (fun b o e => m2 b o (m b o e)) (.cons (rep.mono m2 fun _ _ e => e) r2)
    refine wpAny_mono (he S ok hs orc ho ρ σ la s _ _ x h1) (fun v s₁ h₁ => ?_) fun _ _ e => e
    obtain ⟨a, i, rep, h₁⟩ := h₁
    exact ih S ok hs orc ho ρ a.2 la s₁ _ E i h₁
noncomputable def PostFs (K : Pack) (S : Sta) (ρ : Rho) (σ : Sto) (la : List Addr) (s : Shared) (r : Res (List PyData × Sto)) (Q : List Value → Shared → Prop) (E : Value → Shared → Prop) : Prop :=
  match r with
  | .bad => False
  | .exc => ∀ e h' tk', ExS K S e h' → E (.ref e) { s with heap := h', toks := tk' }
  | .ok (ds, σ') => ∀ vs h' tk', Inv K S ρ σ' la h' → (seen S σ la s.heap).StaysIn (seen S σ' la h') → RDs (seen S σ' la h') vs ds → Q vs { s with heap := h', toks := tk' }
theorem frz_ok {S : Sta} {ρ : Rho} {la : List Addr} {h : Heap} {a : AV × Sto} {b : PyData × Sto} {v : Value} (i : Inv K S ρ a.2 la h) (r : RepA K (seen S a.2 la h) la v a.1) (e : frz a = .ok b) :
    Inv K S ρ b.2 la h ∧ (seen S a.2 la h).StaysIn (seen S b.2 la h) ∧ RD (seen S b.2 la h) v b.1 := by
  obtain ⟨a, σ⟩ := a
  unfold frz at e
  cases a with
  | d y => cases e; exact ⟨i, i.tick, r⟩
  | loc k =>
    dsimp only at e
    split at e
    · rename_i ds hk
      cases e
      obtain ⟨p, h1, rfl⟩ := r
      obtain ⟨i', m, q, h2, h3⟩ := i.freeze hk
      rw [h1] at h2; cases h2
      exact ⟨i', m, h3⟩
    · cases e
  | tab D => cases e
theorem frz_ne {a : AV × Sto} : frz a ≠ .exc := by
  unfold frz
  split
  · intro e; cases e
  · split <;> (intro e; cases e)
  · intro e; cases e
theorem snd_evs {es : List Expr} {cs : List EC} (hes : SndEs K sc es cs) : ∀ {p : Pos} (S : Sta) (_ : StaOk K S) (_ : S.env.scope = sc) (orc : Orc) (_ : OrcOk K S.n orc) (ρ : Rho) (σ : Sto) (la : List Addr) (s : Shared) (Q : List Value → Shared → Prop) (E : Value → Shared → Prop),
    Inv K S ρ σ la s.heap → PostFs K S ρ σ la s (cEvs cs orc ρ σ) Q E → wpAny (model K.prog K.w) S.A (spliced (backTo p (starEach es S.env))) Q E s := by
  induction hes with
  | nil => intro p S ok hs orc ho ρ σ la s Q E x h; exact args_nil (h [] s.heap s.toks x x.tick .nil)
  | cons he hst _ ih =>
    intro p S ok hs orc ho ρ σ la s Q E x h
    rw [cEvs] at h
    refine args_cons ?_ (hst _)
    rename_i e es c cs _
    have h1 : PostE K S ρ σ la s (c orc ρ σ) (fun v s₁ => ∃ b : PyData × Sto, Inv K S ρ b.2 la s₁.heap ∧ RD (seen S b.2 la s₁.heap) v b.1 ∧ PostFs K S ρ b.2 la s₁ (cEvs cs orc ρ b.2) (fun vs s₂ => Q (v :: vs) s₂) E) E := by
      cases hr : c orc ρ σ with
      | bad => rw [hr] at h; exact h
      | exc => rw [hr] at h; exact h
      | ok a =>
        rw [hr] at h
        intro v h' tk' i m rep
        dsimp only [Res.bind] at h
        cases hf : frz a with
        | bad => rw [hf] at h; exact h.elim
        | exc => exact (frz_ne hf).elim
        | ok b =>
          rw [hf] at h
          obtain ⟨i1, m1, r1⟩ := frz_ok i rep hf
          refine ⟨b, i1, r1, ?_⟩
          dsimp only at h
          cases hk : cEvs cs orc ρ b.2 with
          | bad => rw [hk] at h; exact h
          | exc => rw [hk] at h; exact h
          | ok c =>
            rw [hk] at h
            intro vs h2 tk2 i2 m2 r2
            exact h (v :: vs) h2 tk2 i2 (fun b o e => m2 b o (m1 b o (m b o e))) (.cons (r1.mono m2) r2)
    refine wpAny_mono (he S ok hs orc ho ρ σ la s _ _ x h1) (fun v s₁ h₁ => ?_) fun _ _ e => e
    obtain ⟨a, i, rep, h₁⟩ := h₁
    exact ih S ok hs orc ho ρ a.2 la s₁ _ E i h₁
theorem cEvs_len : ∀ {cs : List EC} {orc : Orc} {ρ : Rho} {σ : Sto} {b : List PyData × Sto}, cEvs cs orc ρ σ = .ok b → b.1.length = cs.length
  | [], _, _, _, _, e => by cases e; rfl
  | c :: cs, orc, ρ, σ, b, e => by
    rw [cEvs] at e
    cases h1 : c orc ρ σ with
    | bad => rw [h1] at e; cases e
    | exc => rw [h1] at e; cases e
    | ok a =>
      rw [h1, Res.bind_ok] at e
      cases h2 : frz a with
      | bad => rw [h2] at e; cases e
      | exc => rw [h2] at e; cases e
      | ok y =>
        rw [h2, Res.bind_ok] at e
        cases h3 : cEvs cs orc ρ y.2 with
        | bad => rw [h3] at e; cases e
        | exc => rw [h3] at e; cases e
        | ok z =>
          rw [h3, Res.bind_ok] at e
          cases e
          show z.1.length + 1 = _
          rw [cEvs_len h3]; rfl
theorem new_seq {S : Sta} {ρ : Rho} {σ σ' : Sto} {la : List Addr} {s s₁ : Shared} {ds : List PyData} {vs : List Value} {Q : Value → Shared → Prop} (ok : StaOk K S) (i : Inv K S ρ σ' la s₁.heap) (r : RDs (seen S σ' la s₁.heap) vs ds)
    {T : String} {c : List PyData → PyData} (hc : ∀ (g : Heap) (a : Addr) (xs : Array Value) (n : Nat) (zs : List PyData), g.get? a = some { cls := .type T, dict := none, data := .seq xs n, slots := #[] } → RDs g xs.toList zs → RD g (.ref a) (c zs))
    (m : (seen S σ la s.heap).StaysIn (seen S σ' la s₁.heap))
    (h : ∀ v h' tk', Inv K S ρ σ' la h' → (seen S σ la s.heap).StaysIn (seen S σ' la h') → RepA K (seen S σ' la h') la v (.d (c ds)) → Q v { s₁ with heap := h', toks := tk' }) :
    Q (.ref s₁.heap.objs.size) { s₁ with heap := s₁.heap.push { cls := .type T, dict := none, data := .seq vs.toArray } } := by
  have e := i.ext (h' := s₁.heap.push { cls := .type T, dict := none, data := .seq vs.toArray }) fun b o e => Heap.get?_push_of_some _ e
  refine h _ _ s₁.toks e.1 (fun b o q => e.2 b o (m b o q)) (hc _ _ _ 0 _ (seen_push ok i _ rfl) ?_)
  exact r.mono e.2
theorem snd_seq {es : List Expr} {cs : List EC} (hes : SndEs K sc es cs) (hlen : cs.length ≤ 1000) {p : Pos} {S : Sta} (ok : StaOk K S) (hs : S.env.scope = sc) {orc : Orc} (ho : OrcOk K S.n orc) {ρ : Rho} {σ : Sto} {la : List Addr} {s : Shared} {Q E : Value → Shared → Prop}
    (x : Inv K S ρ σ la s.heap) {c : List PyData → PyData} (h : PostE K S ρ σ la s ((cEvs cs orc ρ σ).bind fun y => .ok (.d (c y.1), y.2)) Q E) {T : String}
    (hc : ∀ (g : Heap) (a : Addr) (xs : Array Value) (n : Nat) (zs : List PyData), g.get? a = some { cls := .type T, dict := none, data := .seq xs n, slots := #[] } → RDs g xs.toList zs → RD g (.ref a) (c zs))
    (mk : List Value → Sem Value) (hmk : ∀ vs, mk vs = newObj (.type T) (.seq vs.toArray)) :
    wpAny (model K.prog K.w) S.A (spliced (backTo p (starEach es S.env))) (fun vs s₁ => wpAny (model K.prog K.w) S.A (mk vs) Q E s₁) E s := by
  refine snd_evs hes S ok hs orc ho ρ σ la s _ E x ?_
  cases hk : cEvs cs orc ρ σ with
  | bad => rw [hk] at h; exact h
  | exc => rw [hk] at h; exact h
  | ok b =>
    rw [hk] at h
    intro vs h' tk' i m r
    have hl : vs.length ≤ sizeLine := by rw [r.length, cEvs_len hk]; exact seqSz _ (by lia)
    rw [hmk]
    refine wpAny_newObj_type ?_ (by show vs.toArray.size ≤ sizeLine; rw [List.size_toArray]; exact hl)
    exact new_seq (σ := σ) (s := s) (s₁ := { s with heap := h', toks := tk' }) ok i r hc m h
theorem snd_Tup {es : List Expr} {cs : List EC} {k : Nat} {p : Pos} (hes : SndEs K sc es cs) (hlen : cs.length ≤ 1000 := by decide) : SndE K sc (.Tuple es k p) (cTup cs) :=
  fun S ok hs orc ho ρ σ la s Q E x h => Tuple_ (snd_seq hes hlen ok hs ho x (c := .tuple) (T := "tuple") h (fun g a xs n zs q r => .tuple q r) newTuple fun _ => rfl)
theorem snd_Lst {es : List Expr} {cs : List EC} {p : Pos} (hes : SndEs K sc es cs) (hlen : cs.length ≤ 1000 := by decide) : SndE K sc (.List es p) (cLst cs) :=
  fun S ok hs orc ho ρ σ la s Q E x h => List_ (snd_seq hes hlen ok hs ho x (c := .list) (T := "list") h (fun g a xs n zs q r => .list q r) newList fun _ => rfl)
theorem callAt_use {S : Sta} (ok : StaOk K S) {orc : Orc} (ho : OrcOk K S.n orc) {ρ : Rho} {σ : Sto} {la : List Addr} {s : Shared} {f : Fn} {vs : List Value} {avs : List AV} {Q E : Value → Shared → Prop}
    (x : Inv K S ρ σ la s.heap) (r : RepAs K (seen S σ la s.heap) la vs avs) (h : PostE K S ρ σ la s (orc f avs σ) Q E) : wpAny (model K.prog K.w) S.A (PySem.call (.ref (K.fa f)) vs) Q E s := by
  refine ho f avs σ S.A (S.env :: S.outer) S.frs la s vs Q E ok.frames ok.hand ok.depth ok.units (x.fro ok) (x.frin ok) x.gb x.gbh x.locs r ?_
  cases hr : orc f avs σ with
  | bad => rw [hr] at h; exact h
  | exc =>
    rw [hr] at h
    intro e h' tk' y
    exact h e h' tk' (x.exc ok y)
  | ok b =>
    rw [hr] at h
    obtain ⟨av, σ'⟩ := b
    intro v h' tk' st rep
    obtain ⟨i, m⟩ := x.step st
    exact h v h' tk' i m rep
theorem PostEs.bindE {S : Sta} {ρ : Rho} {σ : Sto} {la : List Addr} {s : Shared} {r : Res (List AV × Sto)} {k : List AV × Sto → Res (AV × Sto)} {Q : Value → Shared → Prop} {E : Value → Shared → Prop} (h : PostE K S ρ σ la s (r.bind k) Q E) :
    PostEs K S ρ σ la s r (fun vs s₁ => ∃ b, r = .ok b ∧ Inv K S ρ b.2 la s₁.heap ∧ RepAs K (seen S b.2 la s₁.heap) la vs b.1 ∧ PostE K S ρ b.2 la s₁ (k b) Q E) E := by
  cases r with
  | bad => exact h
  | exc => exact h
  | ok a =>
    intro vs h' tk' i m rep
    refine ⟨a, rfl, i, rep, ?_⟩
    have h : PostE K S ρ σ la s (k a) Q E := h
    show PostE K S ρ a.2 la _ (k a) Q E
    cases hk : k a with
    | bad => rw [hk] at h; exact h
    | exc => rw [hk] at h; exact h
    | ok b =>
      rw [hk] at h
      intro v2 h2 tk2 i2 m2 r2
      exact h v2 h2 tk2 i2 (fun b o e => m2 b o (m b o e)) r2
theorem snd_Call (F : Facts K) {y : Str} {np p : Pos} {f : Fn} {es : List Expr} {cs : List EC} (hy : (DF f).str = y) (hes : SndEs K sc es cs) (hx : sc.names.lookup y = some .globalImplicit := by rfl) (hd : (y == ("__debug__" : Str)) = false := by decide) :
    SndE K sc (.Call (.Name y np) es [] p) (cCall f cs) := fun S ok hs orc ho ρ σ la s Q E x h => by
  refine glq fun Gq kq => ?_
  obtain ⟨o, pm, c', doc, h1, h2, h3, h4⟩ := F.fns f
  refine kq ?_
  clear kq Gq
  refine Call_Name rfl ?_
  subst hs
  refine Calls.Name_function_global ok.fn hx ?_ hd
  refine Calls.loadGlobal_global (mg := K.mg) (by rw [ok.glob]; exact F.g.keeps x.gb) (hy ▸ h4) ?_
  unfold cCall at h
  have ha := snd_args hes (p := p) S ok rfl orc ho ρ σ la s _ E x (PostEs.bindE h)
  refine Calls.callWith_function (o := o) (fd := Calls.docDef (DF f).str (DF f).params (DF f).body (DF f).scope pm (.ref c') doc) ?_
  have fin : ∀ vs s₁, (∃ b, cArgs cs orc ρ σ = .ok b ∧ Inv K S ρ b.2 la s₁.heap ∧ RepAs K (seen S b.2 la s₁.heap) la vs b.1 ∧ PostE K S ρ b.2 la s₁ (orc f b.1 b.2) Q E) →
      (s₁.heap.get? (K.fa f) = some o ∧ o.data = .func (Calls.docDef (DF f).str (DF f).params (DF f).body (DF f).scope pm (.ref c') doc)) ∧ wpAny (model K.prog K.w) S.A (PySem.call (.ref (K.fa f)) ([] ++ vs) []) Q E s₁ := by
    rintro vs s₁ ⟨b, _, i, r, hp⟩
    exact ⟨⟨i.gb _ _ h1, h2⟩, callAt_use ok ho i r hp⟩
  cases hes with
  | nil => exact PyProof.Rows.evalArgs_none (fin [] s ⟨_, rfl, x, .nil, h⟩)
  | cons he hst hr =>
    rw [hst] at ha ⊢
    exact Calls.evalArgs_plain (wpAny_mono ha (fun vs s₁ h₁ => fin vs s₁ h₁) fun _ _ e => e)
noncomputable def cLen (c : EC) : EC := fun o ρ σ => (c o ρ σ).bind fun a => match datOf a.1 a.2 with | some (.list ds) => if ds.length ≤ 1000000 then .ok (.d (.int ds.length), a.2) else .bad | _ => .bad
theorem snd_Len (F : Facts K) {e : Expr} {np p : Pos} {c : EC} (he : SndE K sc e c) (hst : ∀ env, starEach [e] env = [(false, eval e env)] := by intro _; rfl) (hx : sc.names.lookup (Str.ofString "len") = some .globalImplicit := by rfl) :
    SndE K sc (.Call (.Name (Str.ofString "len") np) [e] [] p) (cLen c) := fun S ok hs orc ho ρ σ la s Q E x h => by
  refine Call_Name rfl ?_
  subst hs
  refine Calls.Name_function_global ok.fn hx ?_ (by decide)
  refine Calls.loadGlobal_builtin (mg := K.mg) (mb := K.mb) (by rw [ok.glob]; exact F.g.keeps x.gb) F.len0 (by rw [ok.blt]; exact F.b.keeps x.gb) F.len1 ?_
  refine callWith_builtin1 (rest := []) (args_cons ?_ (hst _)) (hst _)
  unfold cLen at h
  refine wpAny_mono (he S ok rfl orc ho ρ σ la s _ _ x h.bind) (fun v s₁ h₁ => ?_) fun _ _ e => e
  refine glq fun Gq kq => ?_
  obtain ⟨a, _, i, m, r, h₁⟩ := h₁
  refine kq ?_
  clear kq Gq
  refine args_nil ?_
  split at h₁
  · rename_i ds hd
    split at h₁
    · rename_i hb
      obtain ⟨q, vs, n, rfl, hl, hr⟩ := sees i r hd
      have hz : vs.size = ds.length := by rw [← hr.length, Array.length_toList]
      refine Calls.call_len_list hl.isList (by rw [hz]; lia) ?_
      rw [hz]
      exact h₁ _ s₁.heap _ i (fun _ _ e => e) (.int _ _)
    · exact h₁.elim
  · exact h₁.elim
noncomputable def cGet (b : EC) (i : Int) : EC := fun o ρ σ => (b o ρ σ).bind fun a => match a.1 with
  | .d (.str x) => match lookS priD x with | some (.int j) => .ok (.d (.int j), a.2) | none => .ok (.d (.int i), a.2) | _ => .bad
  | _ => .bad
theorem snd_Get (F : Facts K) {np : Pos} {e : Expr} {i : Int} {k : Nat} {q apos p : Pos} {b : EC} (hb : SndE K sc e b) (hst : ∀ env rest, starEach (e :: rest) env = (false, eval e env) :: starEach rest env := by intro _ _; rfl)
    (hx : sc.names.lookup (Str.ofString "PRIORITIES") = some .globalImplicit := by rfl) (hline : (apos.endLine == p.line) = true := by rfl) :
    SndE K sc (.Call (.Attribute (.Name (Str.ofString "PRIORITIES") np) (Str.ofString "get") apos) [e, .Constant (.int i) k q] [] p) (cGet b i) := fun S ok hs orc ho ρ σ la s Q E x h => by
  have hst2 : starEach [e, .Constant (.int i) k q] S.env = [(false, eval e S.env), (false, eval (.Constant (.int i) k q) S.env)] := hst _ _
  refine Call_method2 rfl hst2 hline ?_
  obtain ⟨d, hg, T⟩ := F.pri
  subst hs
  refine Calls.Name_function_global ok.fn hx ?_ (by decide)
  refine Calls.loadGlobal_global (mg := K.mg) (by rw [ok.glob]; exact F.g.keeps x.gb) hg ?_
  unfold cGet at h
  have T₁ : StrTab K.prog K.w s.heap d priD := T.keep x.gb
  obtain ⟨_, kvs, hd, _⟩ := id T₁
  refine ⟨"dict", "dict.get", PySem.F.plainAttrs_dict, PySem.F.slot_dict_get, PySem.F.type_dict_get, hd.typeIs, fun c e => hd.mapOf.noDict c e, ?_⟩
  refine Calls.callWith_builtin rfl (Calls.evalArgs_plain (Calls.spliced_cons ?_))
  refine wpAny_mono (hb S ok rfl orc ho ρ σ la s _ _ x h.bind) (fun vb s₂ h₂ => ?_) fun _ _ e => e
  refine glq fun Gq kq => ?_
  obtain ⟨b, _, i₂, m₂, r₂, h₂⟩ := h₂
  refine kq ?_
  clear kq Gq
  refine Calls.spliced_cons (wpAny_Constant_int (Calls.spliced_nil ?_))
  obtain ⟨b, σ₂⟩ := b
  dsimp only at h₂
  split at h₂
  · cases r₂
    have T₂ : StrTab K.prog K.w s₂.heap d priD := T.keep i₂.gb
    refine call_get2_strTab (s := { s₂ with toks := s₂.toks + 1 }) T₂ (fun h => .int i _) fun v hv => ?_
    unfold lookS at h₂
    split at h₂
    · rename_i j hj
      rw [hj] at hv
      cases hv s₂.heap
      exact h₂ _ s₂.heap _ i₂ (fun _ _ e => e) (.int _ _)
    · rename_i hj
      rw [hj] at hv
      cases hv s₂.heap
      exact h₂ _ s₂.heap _ i₂ (fun _ _ e => e) (.int _ _)
    · exact h₂.elim
  · exact h₂.elim
noncomputable def cLower (c : EC) : EC := fun o ρ σ => (c o ρ σ).bind fun a => match a.1 with | .d (.str x) => if (Txt.lower x).length ≤ 1000 then .ok (.d (.str (Txt.lower x)), a.2) else .bad | _ => .bad
theorem snd_Lower {y : Str} {np apos p : Pos} {a : EC} (ha : SndE K sc (.Name y np) a) (hline : (apos.endLine == p.line) = true := by rfl) :
    SndE K sc (.Call (.Attribute (.Name y np) (Str.ofString "lower") apos) [] [] p) (cLower a) := fun S ok hs orc ho ρ σ la s Q E x h => by
  refine Call_method0 rfl hline ?_
  unfold cLower at h
  refine wpAny_mono (ha S ok hs orc ho ρ σ la s _ _ x h.bind) (fun va s₁ h₁ => ?_) fun _ _ e => e
  obtain ⟨a, _, i₁, m₁, r₁, h₁⟩ := h₁
  obtain ⟨a, σ₁⟩ := a
  dsimp only at h₁
  split at h₁
  · cases r₁
    split at h₁
    · rename_i hz
      exact SB.lower (by unfold Builtin.Str.tooLong; rw [decide_eq_false]; rw [sizeLine_eq]; lia) (h₁ _ s₁.heap _ i₁ (fun _ _ e => e) (.str _ _))
    · exact h₁.elim
  · exact h₁.elim
end
noncomputable def sAsg (i : Nat) (c : EC) : SC := fun o ρ σ => (c o ρ σ).bind fun a => .ok (.next, ρ.set i (some a.1), a.2)
noncomputable def sNew (i : Nat) : SC := fun _ ρ σ => .ok (.next, ρ.set i (some (.loc σ.length)), σ ++ [some []])
noncomputable def sAug (i : Nat) (f : AV → AV → Sto → Res (AV × Sto)) (c : EC) : SC := fun o ρ σ => (cBin f (cV i) c o ρ σ).bind fun a => .ok (.next, ρ.set i (some a.1), a.2)
noncomputable def sIf (t : TC) (a b : SC) : SC := fun o ρ σ => (t o ρ σ).bind fun x => if x.1 then a o ρ x.2 else b o ρ x.2
noncomputable def sRet (c : EC) : SC := fun o ρ σ => (c o ρ σ).bind fun a => .ok (.ret a.1, ρ, a.2)
noncomputable def sApp (i : Nat) (c : EC) : SC := fun o ρ σ => match ρ[i]? with
  | some (some (.loc k)) => match σ[k]? with
    | some (some _) => (c o ρ σ).bind fun a => (frz a).bind fun x => match x.2[k]? with
      | some (some ds) => if ds.length ≤ 100000 then .ok (.next, ρ, x.2.set k (some (ds ++ [x.1]))) else .bad
      | _ => .bad
    | _ => .bad
  | _ => .bad
noncomputable def sPop (i : Nat) : SC := fun o ρ σ => match ρ[i]? with
  | some (some (.loc k)) => match σ[k]? with
    | some (some ds) => match ds.getLast? with
      | some (.int _) => if ds.length ≤ 100000 then .ok (.next, ρ, σ.set k (some ds.dropLast)) else .bad
      | _ => .bad
    | _ => .bad
  | _ => .bad
noncomputable def sNil : SC := fun _ ρ σ => .ok (.next, ρ, σ)
noncomputable def sCons (a b : SC) : SC := fun o ρ σ => (a o ρ σ).bind fun r => match r.1 with | .next => b o r.2.1 r.2.2 | .ret av => .ok (.ret av, r.2)
noncomputable def whileL (t : TC) (b : SC) : Nat → SC
  | 0 => fun _ _ _ => .bad
  | n + 1 => fun o ρ σ => (t o ρ σ).bind fun x => if x.1 then ((b o ρ x.2).bind fun r => match r.1 with | .next => whileL t b n o r.2.1 r.2.2 | .ret av => .ok (.ret av, r.2)) else .ok (.next, ρ, x.2)
noncomputable def fuel0 : Nat := 1000000
noncomputable def sWhile (t : TC) (b : SC) : SC := whileL t b fuel0
section
variable {K : Pack} {sc : Scope}
inductive OutES (K : Pack) (S : Sta) (ρ : Rho) (σ : Sto) (la : List Addr) (s : Shared) (r : Res (AV × Sto)) (k : AV × Sto → Res (Fl × Rho × Sto)) (Q : Flow → Shared → Prop) (E : Value → Shared → Prop) (v : Value) (s₁ : Shared) : Prop
  | mk (a : AV × Sto) (h1 : r = .ok a) (h2 : Inv K S ρ a.2 la s₁.heap) (h3 : (seen S σ la s.heap).StaysIn (seen S a.2 la s₁.heap)) (h4 : RepA K (seen S a.2 la s₁.heap) la v a.1) (h5 : PostS K S a.2 la s₁ (k a) Q E) : OutES K S ρ σ la s r k Q E v s₁
theorem PostE.bindS {S : Sta} {ρ : Rho} {σ : Sto} {la : List Addr} {s : Shared} {r : Res (AV × Sto)} {k : AV × Sto → Res (Fl × Rho × Sto)} {Q : Flow → Shared → Prop} {E : Value → Shared → Prop} (h : PostS K S σ la s (r.bind k) Q E) :
    PostE K S ρ σ la s r (OutES K S ρ σ la s r k Q E) E := by
  cases r with
  | bad => exact h
  | exc => exact h
  | ok a =>
    intro v h' tk' i m rep
    refine ⟨a, rfl, i, m, rep, ?_⟩
    show PostS K S a.2 la _ (k a) Q E
    have h : PostS K S σ la s (k a) Q E := h
    cases hk : k a with
    | bad => rw [hk] at h; exact h
    | exc => rw [hk] at h; exact h
    | ok b =>
      rw [hk] at h
      intro f h2 la2 tk2 i2 m2 r2
      exact h f h2 la2 tk2 i2 (fun b o e => m2 b o (m b o e)) r2
theorem PostT.bindS {S : Sta} {ρ : Rho} {σ : Sto} {la : List Addr} {s : Shared} {r : Res (Bool × Sto)} {k : Bool × Sto → Res (Fl × Rho × Sto)} {Q : Flow → Shared → Prop} {E : Value → Shared → Prop} (h : PostS K S σ la s (r.bind k) Q E) :
    PostT K S ρ σ la s r (fun b s₁ => ∃ σ', r = .ok (b, σ') ∧ Inv K S ρ σ' la s₁.heap ∧ PostS K S σ' la s₁ (k (b, σ')) Q E) E := by
  cases r with
  | bad => exact h
  | exc => exact h
  | ok a =>
    intro h' tk' i m
    refine ⟨a.2, rfl, i, ?_⟩
    have h : PostS K S σ la s (k a) Q E := h
    show PostS K S a.2 la _ (k a) Q E
    cases hk : k a with
    | bad => rw [hk] at h; exact h
    | exc => rw [hk] at h; exact h
    | ok b =>
      rw [hk] at h
      intro f h2 la2 tk2 i2 m2 r2
      exact h f h2 la2 tk2 i2 (fun b o e => m2 b o (m b o e)) r2
theorem PostS.bindS {S : Sta} {σ : Sto} {la : List Addr} {s : Shared} {r : Res (Fl × Rho × Sto)} {k : Fl × Rho × Sto → Res (Fl × Rho × Sto)} {Q : Flow → Shared → Prop} {E : Value → Shared → Prop} (h : PostS K S σ la s (r.bind k) Q E) :
    PostS K S σ la s r (fun f s₁ => ∃ b la₁, r = .ok b ∧ Inv K S b.2.1 b.2.2 la₁ s₁.heap ∧ flowIs K (seen S b.2.2 la₁ s₁.heap) la₁ b.1 f ∧ PostS K S b.2.2 la₁ s₁ (k b) Q E ∧ (∃ h' tk', s₁ = { s with heap := h', toks := tk' }) ∧ (seen S σ la s.heap).StaysIn (seen S b.2.2 la₁ s₁.heap)) E := by
  cases r with
  | bad => exact h
  | exc => exact h
  | ok b =>
    obtain ⟨fl, ρ', σ'⟩ := b
    intro f h' la' tk' i m rep
    refine ⟨_, la', rfl, i, rep, ?_, ⟨h', tk', rfl⟩, m⟩
    have h : PostS K S σ la s (k (fl, ρ', σ')) Q E := h
    cases hk : k (fl, ρ', σ') with
    | bad => rw [hk] at h; exact h
    | exc => rw [hk] at h; exact h
    | ok c =>
      rw [hk] at h
      intro f h2 la2 tk2 i2 m2 r2
      exact h f h2 la2 tk2 i2 (fun b o e => m2 b o (m b o e)) r2
theorem snd_Ret {e : Expr} {p : Pos} {c : EC} (he : SndE K sc e c) : SndS K sc (.Return (some e) p) (sRet c) := fun S ok hs orc ho ρ σ la s Q E x h => by
  unfold sRet at h
  refine wpAny_Return_some (wpAny_mono (he S ok hs orc ho ρ σ la s _ _ x (PostE.bindS h)) (fun v s₁ h₁ => ?_) fun _ _ e => e)
  obtain ⟨a, _, i, m, r, h₁⟩ := h₁
  exact h₁ (.ret v) s₁.heap la s₁.toks i (fun _ _ e => e) ⟨v, rfl, r⟩
theorem snd_nil : SndB K sc [] sNil := fun S ok hs orc ho ρ σ la s Q E x h => wpAny_execs_nil (h .next s.heap la s.toks x (fun _ _ e => e) rfl)
theorem snd_cons {st : Stmt} {b : List Stmt} {c d : SC} (h1 : SndS K sc st c) (h2 : SndB K sc b d) : SndB K sc (st :: b) (sCons c d) := fun S ok hs orc ho ρ σ la s Q E x h => by
  unfold sCons at h
  refine wpAny_execs_cons (wpAny_mono (h1 S ok hs orc ho ρ σ la s _ _ x (PostS.bindS h)) (fun f s₁ h₁ => ?_) fun _ _ e => e)
  refine glq fun Gq kq => ?_
  obtain ⟨⟨fl, ρ', σ'⟩, la₁, _, i, hf, h₁, _, _⟩ := h₁
  refine kq ?_
  clear kq Gq
  cases fl with
  | next =>
    cases hf
    exact h2 S ok hs orc ho ρ' σ' la₁ s₁ Q E i h₁
  | ret av =>
    obtain ⟨v, rfl, r⟩ := hf
    exact h₁ (.ret v) s₁.heap la₁ s₁.toks i (fun _ _ e => e) ⟨v, rfl, r⟩
theorem snd_sIf {t : Expr} {a b : List Stmt} {p : Pos} {ct : TC} {ca cb : SC} (ht : SndT K sc t ct) (ha : SndB K sc a ca) (hb : SndB K sc b cb) : SndS K sc (.If t a b p) (sIf ct ca cb) := fun S ok hs orc ho ρ σ la s Q E x h => by
  unfold sIf at h
  refine wpAny_If (wpAny_mono (ht S ok hs orc ho ρ σ la s _ _ x (PostT.bindS h)) (fun c s₁ h₁ => ?_) fun _ _ e => e)
  obtain ⟨σ', _, i, h₁⟩ := h₁
  cases c with
  | true => exact ha S ok hs orc ho ρ σ' la s₁ Q E i h₁
  | false => exact hb S ok hs orc ho ρ σ' la s₁ Q E i h₁
theorem store_snd {S : Sta} (ok : StaOk K S) {ρ : Rho} {σ : Sto} {la : List Addr} {s : Shared} {i : Nat} {y : Str} {v : Value} {av : AV} {Q : Unit → Shared → Prop} {E : Value → Shared → Prop}
    (x : Inv K S ρ σ la s.heap) (hy : S.env.scope.names[i]? = some (y, .local)) (r : RepA K (seen S σ la s.heap) la v av)
    (h : ∀ h' tk', Inv K S (ρ.set i (some av)) σ la h' → (seen S σ la s.heap).StaysIn (seen S σ la h') → Q () { s with heap := h', toks := tk' }) : wpAny (model K.prog K.w) S.A (storeName S.env y v) Q E s := by
  obtain ⟨m, hm, hv⟩ := x.vars
  refine wpAny_storeName_local (names_look ok.nod hy) hm (fun h' hn hs => ?_) (by rw [ok.fn]; rfl)
  obtain ⟨i', m'⟩ := x.store ok hy r hn hs hm hv
  exact h h' _ i' m'
theorem snd_Asg {e : Expr} {y : Str} {np p : Pos} {c : EC} {i : Nat} (he : SndE K sc e c) (hy : sc.names[i]? = some (y, .local) := by rfl) (hsw : ∀ env, swapsWith e (some (.Name y np)) p.line env = pure false := by intro _; rfl) :
    SndS K sc (.Assign [.Name y np] e p) (sAsg i c) := fun S ok hs orc ho ρ σ la s Q E x h => by
  unfold sAsg at h
  refine wpAny_Assign_Name (wpAny_mono (he S ok hs orc ho ρ σ la s _ _ x (PostE.bindS h)) (fun v s₁ h₁ => ?_) fun _ _ e => e) (hsw _)
  obtain ⟨a, _, i₁, m, r, h₁⟩ := h₁
  subst hs
  exact store_snd ok i₁ hy r fun h' tk' i' m' => h₁ .next h' la tk' i' m' rfl
theorem snd_Aug {op : Operator} {f} {e : Expr} {y : Str} {np p : Pos} {c : EC} {i : Nat} (o : OpSnd K (inplaceOp op) f) (he : SndE K sc e c) (hy : sc.names[i]? = some (y, .local) := by rfl) (hd : (y == ("__debug__" : Str)) = false := by decide) :
    SndS K sc (.AugAssign (.Name y np) op e p) (sAug i f c) := fun S ok hs orc ho ρ σ la s Q E x h => by
  unfold sAug at h
  refine wpAny_AugAssign_Name ?_
  have h1 := PostE.bindS (ρ := ρ) h
  unfold cBin at h1
  have h2 := PostE.bind h1
  unfold cV at h2
  subst hs
  obtain ⟨m, hm, hv⟩ := x.vars
  split at h2
  · rename_i av hr
    obtain ⟨v, hva, hrep⟩ := hv i y .local av hy hr
    rcases hva with ⟨_, q⟩ | ⟨q, _⟩
    · refine wpAny_loadName_local ok.fn (names_look ok.nod hy) hm q ?_
      refine glq fun Gq kq => ?_
      obtain ⟨a, ea, i₀, m₀, r₀, h3⟩ := h2 v s.heap s.toks x x.tick hrep
      refine kq ?_
      clear kq Gq
      cases ea
      refine wpAny_mono (he S ok rfl orc ho ρ σ la s _ _ x (PostE.bind h3)) (fun vb s₂ h₂ => ?_) fun _ _ e => e
      refine glq fun Gq kq => ?_
      obtain ⟨b, _, i₂, m₂, r₂, h₂⟩ := h₂
      refine kq ?_
      clear kq Gq
      refine wpAny_mono (o S ok ρ b.2 la s₂ v vb av b.1 _ E i₂ (hrep.mono m₂ fun _ _ e => e) r₂ h₂) (fun vr s₃ h₃ => ?_) fun _ _ e => e
      refine glq fun Gq kq => ?_
      obtain ⟨c, _, i₃, m₃, r₃, h₃⟩ := h₃
      refine kq ?_
      clear kq Gq
      exact store_snd ok i₃ hy r₃ fun h' tk' i' m' => h₃ .next h' la tk' i' m' rfl
    · cases q
  · exact h2.elim
theorem ExS.passes {S : Sta} (ok : StaOk K S) {e : Addr} {s : Shared} {E : Value → Shared → Prop} (x : ExS K S e s.heap) (hE : ∀ h', ExS K S e h' → E (.ref e) { s with heap := h' }) :
    notedBy (model K.prog K.w) S.A S.env (cameBackBy (model K.prog K.w) S.A S.env E) (.ref e) s :=
  ExIn.passes ok.frames ok.frame x.1 fun h' a u => hE h' ⟨a, x.2.trans u⟩
theorem snd_While {t : Expr} {b : List Stmt} {p : Pos} {ct : TC} {cb : SC} (ht : SndT K sc t ct) (hb : SndB K sc b cb) : SndS K sc (.While t b [] p) (sWhile ct cb) := fun S ok hs orc ho ρ σ la s Q E x h => by
  refine wpAny_While ?_
  unfold sWhile at h
  let E' : Value → Shared → Prop := notedBy (model K.prog K.w) S.A S.env (cameBackBy (model K.prog K.w) S.A S.env E)
  refine codeAny_whileLoop (fun n s' => ∃ ρ' σ' la', Inv K S ρ' σ' la' s'.heap ∧ PostS K S σ' la' s' (whileL ct cb n orc ρ' σ') Q E) (fun n s' hI => ?_) fuel0 ⟨ρ, σ, la, x, h⟩
  refine glq fun Gq kq => ?_
  obtain ⟨ρ', σ', la', i, hp⟩ := hI
  refine kq ?_
  clear kq Gq
  cases n with
  | zero => exact hp.elim
  | succ n =>
    rw [whileL] at hp
    have exE : ∀ (s₁ : Shared), (∀ e h' tk', ExS K S e h' → E (.ref e) { s₁ with heap := h', toks := tk' }) → ∀ e h' tk', ExS K S e h' → E' (.ref e) { s₁ with heap := h', toks := tk' } :=
      fun s₁ hE e h' tk' hx => ExS.passes ok (s := { s₁ with heap := h', toks := tk' }) hx fun h'' hx' => hE e h'' tk' hx'
    have h1 : PostT K S ρ' σ' la' s' (ct orc ρ' σ') (fun c s₁ => ∃ σ₁, Inv K S ρ' σ₁ la' s₁.heap ∧ PostS K S σ₁ la' s₁ (if c then ((cb orc ρ' σ₁).bind fun r => match r.1 with | .next => whileL ct cb n orc r.2.1 r.2.2 | .ret av => .ok (.ret av, r.2)) else .ok (.next, ρ', σ₁)) Q E) E' := by
      have q := PostT.bindS (ρ := ρ') hp
      cases hr : ct orc ρ' σ' with
      | bad => rw [hr] at q; exact q
      | exc => rw [hr] at q; exact exE _ q
      | ok a =>
        obtain ⟨b, σb⟩ := a
        rw [hr] at q
        intro h' tk' i' m'
        obtain ⟨σ₁, e, a1, a2⟩ := q h' tk' i' m'
        exact ⟨σ₁, a1, a2⟩
    refine wpAny_mono (ht S ok hs orc ho ρ' σ' la' s' _ _ i h1) (fun c s₁ h₁ => ?_) fun _ _ e => e
    obtain ⟨σ₁, i₁, h₁⟩ := h₁
    cases c with
    | false => exact wpAny_execs_nil (h₁ .next s₁.heap la' s₁.toks i₁ (fun _ _ e => e) rfl)
    | true =>
      rw [if_pos rfl] at h₁ ⊢
      have h2 : PostS K S σ₁ la' s₁ (cb orc ρ' σ₁) (fun f s₂ => ∃ (b : Fl × Rho × Sto) (la₁ : List Addr), Inv K S b.2.1 b.2.2 la₁ s₂.heap ∧ flowIs K (seen S b.2.2 la₁ s₂.heap) la₁ b.1 f ∧ PostS K S b.2.2 la₁ s₂ (match b.1 with | .next => whileL ct cb n orc b.2.1 b.2.2 | .ret av => .ok (.ret av, b.2)) Q E) E' := by
        have q := PostS.bindS h₁
        cases hr : cb orc ρ' σ₁ with
        | bad => rw [hr] at q; exact q
        | exc => rw [hr] at q; exact exE _ q
        | ok a =>
          obtain ⟨fl, ρ₂, σ₂⟩ := a
          rw [hr] at q
          intro f h' la₂ tk' i' m' r'
          refine glq fun Gq kq => ?_
          obtain ⟨b, la₁, e, a1, a2, a3, _, _⟩ := q f h' la₂ tk' i' m' r'
          refine kq ?_
          clear kq Gq
          exact ⟨b, la₁, a1, a2, a3⟩
      refine wpAny_mono (hb S ok hs orc ho ρ' σ₁ la' s₁ _ _ i₁ h2) (fun f s₂ h₂ => ?_) fun _ _ e => e
      refine glq fun Gq kq => ?_
      obtain ⟨⟨fl, ρ₂, σ₂⟩, la₁, i₂, hf, h₂⟩ := h₂
      refine kq ?_
      clear kq Gq
      cases fl with
      | next =>
        cases hf
        exact ⟨n, Nat.lt_succ_self n, ρ₂, σ₂, la₁, i₂, h₂⟩
      | ret av =>
        obtain ⟨v, rfl, r⟩ := hf
        exact h₂ (.ret v) s₂.heap la₁ s₂.toks i₂ (fun _ _ e => e) ⟨v, rfl, r⟩
end
noncomputable def sUnp (i j : Nat) (c : EC) : SC := fun o ρ σ => (c o ρ σ).bind fun a => match a.1 with
  | .d (.tuple [x, y]) => .ok (.next, (ρ.set i (some (.d x))).set j (some (.d y)), a.2)
  | _ => .bad
noncomputable def sRaise (c : EC) : SC := fun o ρ σ => (c o ρ σ).bind fun a => match a.1 with | .d (.str _) => .exc | _ => .bad
noncomputable def MkOk (K : Pack) : Prop :=
  ∀ (A : Around) (s : Shared) (x : Str) (t : Tok) (Q E : Value → Shared → Prop), A.depth + 6 < recursionLimit → K.GB.StaysIn s.heap →
    (∀ h' e tk' tp dd, (∀ b o, s.heap.get? b = some o → h'.get? b = some o) → s.heap.get? e = none → h'.get? e = some { cls := .ref K.C, dict := dd, data := .fields #[.ref tp, .none, .none, .none, .bool false, .none] } → Q (.ref e) { s with heap := h', toks := tk' }) →
    wpAny (model K.prog K.w) A (PySem.call (.ref K.C) [.str x t]) Q E s
inductive ObjX (K : Pack) : Prop
  | mk (nm q N bs bm hdct sn sub ab col dd k0 k1 k2 k3 k5 newId) (h : K.GB.get? K.C = some (excClassObj nm q K.C N bs bm hdct sn sub ab col dd k0 k1 k2 k3 k5 newId)) (hb : bm.contains (.type "BaseException") = true) : ObjX K
structure ExcFacts (K : Pack) : Prop where
  bound : K.mg (Str.ofString "SyntaxFault") = some (.ref K.C)
  obj : ObjX K
  make : MkOk K
section
variable {K : Pack} {sc : Scope}
theorem raise_made {M : Model} {A : Around} {E : Value → Shared → Prop} {env : Env} {nm q : Str} {C N : Addr} {bs bm : List Value} {hdct : Bool} {sn : List Str} {sub : List Value} {ab : Bool} {col : Option Bool} {dd : Option Addr} {k0 k1 k2 k3 k5 : Option Value} {newId : String}
    {s : Shared} {x : Sem Value} {Q : Flow → Shared → Prop} (hbase : bm.contains (.type "BaseException") = true) (hh : A.handled = none)
    (h : wpAny M A x (fun v s₁ => ∃ e t de, v = .ref e ∧ s₁.heap.get? C = some (excClassObj nm q C N bs bm hdct sn sub ab col dd k0 k1 k2 k3 k5 newId) ∧
      s₁.heap.get? e = some { cls := .ref C, dict := de, data := .fields #[.ref t, .none, .none, .none, .bool false, .none] } ∧ E (.ref e) s₁) E s) :
    wpAny M A (raiseStmt env (some x) none) Q E s := by
  have hcB : (Value.ref C :: bm).contains (.type "BaseException") = true := by rw [List.contains_cons, hbase, Bool.or_true]
  unfold raiseStmt
  refine wpAny_bind (wpAny_mono h (fun v s₁ h₁ => ?_) fun _ _ x => x)
  refine glq fun Gq kq => ?_
  obtain ⟨e, t, de, rfl, hC, he, hE⟩ := h₁
  refine kq ?_
  clear kq Gq
  obtain ⟨hp, g, d, tk, os⟩ := s₁
  repeat (first | with_reducible refine wpAny_loadPart_at he ?_ | with_reducible refine wpAny_loadPart_at hC ?_ | (with_reducible refine wpAny_isSubtype_exc hC ?_; rw [hcB]) | wp_step)
  exact wpAny_raiseNew_none hh hE
theorem snd_Raise (F : Facts K) (G : ExcFacts K) {e : Expr} {np cp p : Pos} {c : EC} (he : SndE K sc e c) (hst : ∀ env, starEach [e] env = [(false, eval e env)] := by intro _; rfl) (hx : sc.names.lookup (Str.ofString "SyntaxFault") = some .globalImplicit := by rfl) :
    SndS K sc (.Raise (some (.Call (.Name (Str.ofString "SyntaxFault") np) [e] [] cp)) none p) (sRaise c) := fun S ok hs orc ho ρ σ la s Q E x h => by
  refine glq fun Gq kq => ?_
  obtain ⟨nm, q, N, bs, bm, hdct, sn, sub, ab, col, dd, k0, k1, k2, k3, k5, newId, hC, hB⟩ := G.obj
  refine kq ?_
  clear kq Gq
  subst hs
  rw [arm_exec_Raise]
  refine wpAny_bind (wpAny_standAt (raise_made (nm := nm) (q := q) (C := K.C) (N := N) (bs := bs) (bm := bm) (hdct := hdct) (sn := sn) (sub := sub) (ab := ab) (col := col) (dd := dd) (k0 := k0) (k1 := k1) (k2 := k2) (k3 := k3) (k5 := k5) (newId := newId) hB ok.hand (wpAny_bind ?_)))
  refine wpAny_mono (Q := fun v s₁ => ∃ e t de, v = .ref e ∧ s₁.heap.get? K.C = some (excClassObj nm q K.C N bs bm hdct sn sub ab col dd k0 k1 k2 k3 k5 newId) ∧
      s₁.heap.get? e = some { cls := .ref K.C, dict := de, data := .fields #[.ref t, .none, .none, .none, .bool false, .none] } ∧ E (.ref e) s₁) ?_ (fun v s₁ h₁ => wpAny_bind (wpAny_standAt (wpAny_pure h₁))) fun _ _ e => e
  refine Call_Name1 ?_ (hst _)
  refine Calls.Name_function_global ok.fn hx ?_ (by decide)
  refine Calls.loadGlobal_global (mg := K.mg) (by rw [ok.glob]; exact F.g.keeps x.gb) G.bound ?_
  unfold callWith
  unfold sRaise at h
  refine wpAny_bind (wpAny_holding (Calls.evalArgs_plain (Calls.spliced_cons ?_)))
  refine wpAny_mono (he S ok rfl orc ho ρ σ la s _ _ x (PostE.bindS h)) (fun v s₁ h₁ => Calls.spliced_nil ?_) fun _ _ e => e
  refine glq fun Gq kq => ?_
  obtain ⟨a, _, i, m, r, h₁⟩ := h₁
  refine kq ?_
  clear kq Gq
  refine wpAny_bind (wpAny_standAt ?_)
  simp only [List.any_cons, List.any_nil, Bool.or_false]
  have hC₁ := i.gb _ _ hC
  refine wpAny_bind (wpAny_keeperOf_exc hC₁ ?_)
  split at h₁
  · rename_i y hy
    rw [hy] at r
    cases r
    refine wpAny_bind (G.make S.A s₁ y _ _ _ (by have := ok.depth; lia) i.gb fun h' e tk' tp de hk hn he' => wpAny_bind (wpAny_holding (wpAny_point (wpAny_pure ?_))))
    refine ⟨e, tp, de, rfl, hk _ _ hC₁, he', h₁ e h' tk' (i.newExc ok hk ⟨hn, _, _, _, he', rfl, rfl, rfl, rfl⟩)⟩
  · exact h₁.elim
theorem assign2 {S : Sta} (ok : StaOk K S) {ρ : Rho} {σ : Sto} {la : List Addr} {s : Shared} {i j : Nat} {y z : Str} {py pz tp : Pos} {k : Nat} {v : Value} {a b : PyData} {Q : Unit → Shared → Prop} {E : Value → Shared → Prop}
    (x : Inv K S ρ σ la s.heap) (hy : S.env.scope.names[i]? = some (y, .local)) (hz : S.env.scope.names[j]? = some (z, .local)) (r : RD (seen S σ la s.heap) v (.tuple [a, b]))
    (h : ∀ h' tk', Inv K S ((ρ.set i (some (.d a))).set j (some (.d b))) σ la h' → (seen S σ la s.heap).StaysIn (seen S σ la h') → Q () { s with heap := h', toks := tk' }) :
    wpAny (model K.prog K.w) S.A (assign (.Tuple [.Name y py, .Name z pz] k tp) S.env v) Q E s := by
  cases r with
  | tuple h1 h2 =>
    rename_i t vs n
    have ht : s.heap.IsTuple t vs := ⟨_, of_hideAll _ h1, rfl, _, rfl⟩
    have hl := h2.length
    rw [Array.length_toList] at hl
    refine wpAny_assign_Tuple ok.hand ht (by rw [hl]; rfl) rfl fun h' hx => ?_
    obtain ⟨i1, m1⟩ := x.ext (h' := h') fun b o e => hx b o (Nat.ne_of_lt (Heap.lt_size e)) e
    have h2' := h2.mono m1
    generalize hvs : vs.toList = l at h2'
    cases h2' with
    | cons r1 h3 =>
      cases h3 with
      | cons r2 h4 =>
        cases h4
        show wpAny (model K.prog K.w) S.A (assignInOrder [assign (.Name y py) S.env, assign (.Name z pz) S.env] _) Q E _
        unfold assignInOrder
        first
          | refine wpAny_bind (wpAny_holding ?_)
          | refine wpAny_bind ?_
          | skip
        refine wpAny_assign_Name (store_snd (ρ := ρ) (s := { s with heap := h' }) ok i1 hy (av := .d a) r1 fun h₂ tk₂ i2 m2 => ?_)
        unfold assignInOrder
        first
          | refine wpAny_bind (wpAny_holding ?_)
          | refine wpAny_bind ?_
          | skip
        refine wpAny_assign_Name (store_snd (s := { s with heap := h₂, toks := tk₂ }) ok i2 hz (av := .d b) (RD.mono m2 r2) fun h₃ tk₃ i3 m3 => ?_)
        unfold assignInOrder
        refine wpAny_pure (h h₃ tk₃ i3 fun b o e => m3 b o (m2 b o (m1 b o e)))
theorem snd_Unp {e : Expr} {y z : Str} {py pz tp p : Pos} {k : Nat} {c : EC} {i j : Nat} (he : SndE K sc e c) (hy : sc.names[i]? = some (y, .local) := by rfl) (hz : sc.names[j]? = some (z, .local) := by rfl)
    (hs1 : ∀ env, swapsWithSole [.Tuple [.Name y py, .Name z pz] k tp] e p.line env = pure false := by intro _; rfl) (hs2 : ∀ env, swappedStores [.Tuple [.Name y py, .Name z pz] k tp] e env = pure none := by intro _; rfl) :
    SndS K sc (.Assign [.Tuple [.Name y py, .Name z pz] k tp] e p) (sUnp i j c) := fun S ok hs orc ho ρ σ la s Q E x h => by
  unfold sUnp at h
  refine Assign_Tuple (wpAny_mono (he S ok hs orc ho ρ σ la s _ _ x (PostE.bindS h)) (fun v s₁ h₁ => ?_) fun _ _ e => e) (hs1 _) (hs2 _)
  refine glq fun Gq kq => ?_
  obtain ⟨a, _, i₁, m, r, h₁⟩ := h₁
  refine kq ?_
  clear kq Gq
  subst hs
  obtain ⟨a, σ'⟩ := a
  dsimp only at h₁
  split at h₁
  · exact assign2 ok i₁ hy hz r fun h' tk' i' m' => h₁ .next h' la tk' i' m' rfl
  · exact h₁.elim
theorem Inv.newLoc {S : Sta} (ok : StaOk K S) {ρ : Rho} {σ : Sto} {la : List Addr} {h : Heap} (x : Inv K S ρ σ la h) :
    Inv K S ρ (σ ++ [some []]) (la ++ [h.objs.size]) (h.push { cls := .type "list", data := .seq #[] }) ∧
      (seen S σ la h).StaysIn (seen S (σ ++ [some []]) (la ++ [h.objs.size]) (h.push { cls := .type "list", data := .seq #[] })) := by
  have hn : h.get? h.objs.size = none := Heap.get?_none_of_le (Nat.le_refl _)
  have kp : ∀ b o, h.get? b = some o → (h.push { cls := .type "list", data := .seq #[] }).get? b = some o := fun b o e => Heap.get?_push_of_some _ e
  have hlen := x.locs.len
  have hlive : ∀ a, a ∈ live (σ ++ [some []]) (la ++ [h.objs.size]) ↔ a ∈ live σ la ∨ a = h.objs.size := by
    intro a
    rw [mem_live, mem_live]
    constructor
    · rintro ⟨k, ds, h1, h2⟩
      by_cases hk : k < σ.length
      · rw [List.getElem?_append_left hk] at h1
        rw [List.getElem?_append_left (by lia)] at h2
        exact .inl ⟨k, ds, h1, h2⟩
      · have hk' : k = σ.length := by
          have := (List.getElem?_eq_some_iff.mp h1).1
          rw [List.length_append] at this
          simp at this; lia
        subst hk'
        right
        rw [← hlen, List.getElem?_append_right (Nat.le_refl _), Nat.sub_self] at h2
        exact (Option.some.inj h2).symm
    · rintro (⟨k, ds, h1, h2⟩ | rfl)
      · have hk := (List.getElem?_eq_some_iff.mp h1).1
        exact ⟨k, ds, by rw [List.getElem?_append_left hk]; exact h1, by rw [List.getElem?_append_left (by lia)]; exact h2⟩
      · exact ⟨σ.length, [], by rw [List.getElem?_append_right (Nat.le_refl _), Nat.sub_self]; rfl, by rw [← hlen, List.getElem?_append_right (Nat.le_refl _), Nat.sub_self]; rfl⟩
  have hseen : (seen S σ la h).StaysIn (seen S (σ ++ [some []]) (la ++ [h.objs.size]) (h.push { cls := .type "list", data := .seq #[] })) := seen_mono fun b o hb e => by
    refine ⟨kp b o e, fun q => ?_⟩
    rcases List.mem_append.mp q with q | q
    · exact hb (List.mem_append.mpr (.inl q))
    · rcases (hlive b).mp q with q | rfl
      · exact hb (List.mem_append.mpr (.inr q))
      · rw [hn] at e; cases e
  have lagrow : ∀ (i : Nat) (a : Addr), la[i]? = some a → (la ++ [h.objs.size])[i]? = some a := fun i a e => by
    rw [List.getElem?_append_left (List.getElem?_eq_some_iff.mp e).1]; exact e
  have frn : ∀ b ∈ S.frs, b ≠ h.objs.size := fun b hb q => by
    have := x.frin ok b hb
    rw [q, hn] at this; cases this
  refine ⟨⟨fun b o e => kp b o (x.gb b o e), fun b hb => ?_, fun b o e hb => kp b o (x.keep0 b o e hb), fun b hb => ?_, fun i a e => lagrow i a (x.pre i a e), x.pre0, fun k ds e hk => ?_, fun k a e hk => ?_, ?_, fun p hp => kp _ _ (x.ex p hp), fun p hp => ?_, ?_⟩, hseen⟩
  · rcases List.mem_append.mp hb with q | q
    · exact x.gbh b (List.mem_append.mpr (.inl q))
    · rcases (hlive b).mp q with q | rfl
      · exact x.gbh b (List.mem_append.mpr (.inr q))
      · cases e : K.GB.get? h.objs.size with
        | none => rfl
        | some o =>
          have := x.gb _ _ e
          rw [hn] at this; cases this
  · obtain ⟨o, ho⟩ := Option.isSome_iff_exists.mp (x.alive b hb)
    rw [kp b o ho]; rfl
  · have : S.la0.length ≤ la.length := by
      by_cases h0 : S.la0.length = 0
      · lia
      · have h1 : S.la0[S.la0.length - 1]? = some (S.la0[S.la0.length - 1]'(by lia)) := List.getElem?_eq_getElem _
        have := (List.getElem?_eq_some_iff.mp (x.pre _ _ h1)).1
        lia
    rw [List.getElem?_append_left (by lia)] at e
    exact x.mon k ds e hk
  · by_cases hkl : k < la.length
    · rw [List.getElem?_append_left hkl] at e
      exact x.new k a e hk
    · have : k = la.length := by
        have := (List.getElem?_eq_some_iff.mp e).1
        rw [List.length_append] at this
        simp at this; lia
      subst this
      rw [List.getElem?_append_right (Nat.le_refl _), Nat.sub_self] at e
      cases e
      cases e : S.h0.get? h.objs.size with
      | none => rfl
      | some o =>
        have := x.alive h.objs.size (by rw [e]; rfl)
        rw [hn] at this; cases this
  · refine ⟨by rw [List.length_append, List.length_append, hlen]; rfl, fun k ds e => ?_, fun i j di dj a e1 e2 e3 e4 => ?_, fun a ha => ?_⟩
    · by_cases hk : k < σ.length
      · rw [List.getElem?_append_left hk] at e
        obtain ⟨a, vs, n, h1, h2, h3⟩ := x.locs.at' k ds e
        exact ⟨a, vs, n, lagrow k a h1, kp _ _ h2, h3.mono hseen⟩
      · have hk' : k = σ.length := by
          have := (List.getElem?_eq_some_iff.mp e).1
          rw [List.length_append] at this
          simp at this; lia
        subst hk'
        rw [List.getElem?_append_right (Nat.le_refl _), Nat.sub_self] at e
        cases e
        exact ⟨h.objs.size, #[], 0, by rw [← hlen, List.getElem?_append_right (Nat.le_refl _), Nat.sub_self]; rfl, Heap.get?_push_size _ rfl, .nil⟩
    · have old : ∀ (k : Nat) (d : List PyData) (a : Addr), (σ ++ [some []])[k]? = some (some d) → (la ++ [h.objs.size])[k]? = some a → (k < σ.length ∧ σ[k]? = some (some d) ∧ la[k]? = some a) ∨ (k = σ.length ∧ a = h.objs.size) := by
        intro k d a f1 f2
        by_cases hk : k < σ.length
        · rw [List.getElem?_append_left hk] at f1
          rw [List.getElem?_append_left (by lia)] at f2
          exact .inl ⟨hk, f1, f2⟩
        · have hk' : k = σ.length := by
            have := (List.getElem?_eq_some_iff.mp f1).1
            rw [List.length_append] at this
            simp at this; lia
          subst hk'
          rw [← hlen, List.getElem?_append_right (Nat.le_refl _), Nat.sub_self] at f2
          exact .inr ⟨rfl, (Option.some.inj f2).symm⟩
      have nl : ∀ (k : Nat) (d : List PyData), σ[k]? = some (some d) → la[k]? = some h.objs.size → False := by
        intro k d f1 f2
        obtain ⟨a', vs, n, g1, g2, _⟩ := x.locs.at' k d f1
        rw [f2] at g1; cases g1
        exact absurd (Heap.lt_size g2) (Nat.lt_irrefl _)
      rcases old i di a e1 e3 with ⟨_, f1, f2⟩ | ⟨rfl, rfl⟩
      · rcases old j dj a e2 e4 with ⟨_, g1, g2⟩ | ⟨rfl, rfl⟩
        · exact x.locs.inj i j di dj a f1 g1 f2 g2
        · exact (nl i di f1 f2).elim
      · rcases old j dj _ e2 e4 with ⟨_, g1, g2⟩ | ⟨rfl, _⟩
        · exact (nl j dj g1 g2).elim
        · rfl
    · rcases (hlive a).mp ha with q | rfl
      · exact x.locs.out a q
      · exact fun q => frn _ q rfl
  · obtain ⟨v, hv⟩ := x.cells p hp
    exact ⟨v, cell_at hv fun o ho => kp _ o ho⟩
  · obtain ⟨m, hm, hv⟩ := x.vars
    refine ⟨m, ns_at hm fun o ho => kp _ o ho, fun i y kd av hn hr => ?_⟩
    obtain ⟨v, hva, hrep⟩ := hv i y kd av hn hr
    refine ⟨v, ?_, hrep.mono hseen lagrow⟩
    rcases hva with q | ⟨q1, c, q2, q3⟩
    · exact .inl q
    · exact .inr ⟨q1, c, q2, cell_at q3 fun o ho => kp _ o ho⟩
theorem snd_New {y : Str} {np lp p : Pos} {i : Nat} (hy : sc.names[i]? = some (y, .local) := by rfl) : SndS K sc (.Assign [.Name y np] (.List [] lp) p) (sNew i) := fun S ok hs orc ho ρ σ la s Q E x h => by
  unfold sNew at h
  refine wpAny_Assign_Name ?_ rfl
  refine List_ (args_nil (wpAny_newObj_type ?_ (by show ([] : List Value).toArray.size ≤ sizeLine; rw [sizeLine_eq]; decide)))
  subst hs
  obtain ⟨i1, m1⟩ := x.newLoc ok
  refine store_snd (s := { s with heap := s.heap.push { cls := .type "list", data := .seq #[] } }) ok i1 hy (av := .loc σ.length) ⟨s.heap.objs.size, ?_, rfl⟩ fun h' tk' i2 m2 => h .next h' _ tk' i2 (fun b o e => m2 b o (m1 b o e)) rfl
  rw [← x.locs.len, List.getElem?_append_right (Nat.le_refl _), Nat.sub_self]; rfl
theorem Inv.change {S : Sta} (ok : StaOk K S) {ρ : Rho} {σ : Sto} {la : List Addr} {h h' : Heap} (x : Inv K S ρ σ la h) {k : Nat} {ds ds' : List PyData} {a : Addr} {vs : Array Value} {n : Nat} (hk : σ[k]? = some (some ds)) (ha : la[k]? = some a)
    (hs : Heap.SameBut a h h') (hl : IsL h' a vs n) (hr : RDs (seen S σ la h) vs.toList ds') : Inv K S ρ (σ.set k (some ds')) la h' ∧ (seen S σ la h).StaysIn (seen S (σ.set k (some ds')) la h') := by
  have hlt : k < σ.length := (List.getElem?_eq_some_iff.mp hk).1
  have haf : a ∈ live σ la := mem_live.mpr ⟨k, ds, hk, ha⟩
  have back : ∀ (j : Nat) (d : List PyData), (σ.set k (some ds'))[j]? = some (some d) → ∃ d0, σ[j]? = some (some d0) := by
    intro j d e
    by_cases hj : k = j
    · subst hj; exact ⟨ds, hk⟩
    · rw [List.getElem?_set_ne hj] at e; exact ⟨d, e⟩
  have hsub := live_sub (la := la) back
  have kp : ∀ b o, b ≠ a → h.get? b = some o → h'.get? b = some o := fun b o hb e => (hs.2 b hb).trans e
  have hseen : (seen S σ la h).StaysIn (seen S (σ.set k (some ds')) la h') := seen_mono fun b o hb e => by
    have hne : b ≠ a := fun q => hb (List.mem_append.mpr (.inr (q ▸ haf)))
    refine ⟨kp b o hne e, fun q => hb ?_⟩
    rcases List.mem_append.mp q with q | q
    · exact List.mem_append.mpr (.inl q)
    · exact List.mem_append.mpr (.inr (hsub b q))
  refine x.step (h' := h') (σ' := σ.set k (some ds')) ⟨fun b o e hb => kp b o (fun q => hb (q ▸ haf)) e, ⟨by rw [x.locs.len, List.length_set], fun j d e => ?_, fun i j di dj c e1 e2 e3 e4 => ?_, fun b hb => x.locs.out b (hsub b hb)⟩, back, fun b hb => ?_⟩
  · by_cases hj : k = j
    · subst hj
      rw [List.getElem?_set_self hlt] at e
      cases e
      exact ⟨a, vs, n, ha, hl, hr.mono hseen⟩
    · rw [List.getElem?_set_ne hj] at e
      obtain ⟨b, ws, m, h1, h2, h3⟩ := x.locs.at' j d e
      exact ⟨b, ws, m, h1, kp _ _ (fun q => hj (x.locs.inj k j ds d a hk e ha (q ▸ h1))) h2, h3.mono hseen⟩
  · obtain ⟨d1, f1⟩ := back i di e1
    obtain ⟨d2, f2⟩ := back j dj e2
    exact x.locs.inj i j d1 d2 c f1 f2 e3 e4
  · by_cases hb' : b = a
    · rw [hb', hl]; rfl
    · rw [hs.2 b hb']; exact hb
theorem read_slot {S : Sta} (ok : StaOk K S) {ρ : Rho} {σ : Sto} {la : List Addr} {s : Shared} {i : Nat} {y : Str} {np : Pos} {av : AV} {Q : Value → Shared → Prop} {E : Value → Shared → Prop} (x : Inv K S ρ σ la s.heap) (hy : S.env.scope.names[i]? = some (y, .local)) (hr : ρ[i]? = some (some av))
    (hd : (y == ("__debug__" : Str)) = false) (h : ∀ v, RepA K (seen S σ la s.heap) la v av → Q v s) : wpAny (model K.prog K.w) S.A (eval (.Name y np) S.env) Q E s := by
  obtain ⟨m, hm, hv⟩ := x.vars
  obtain ⟨v, hva, hrep⟩ := hv i y .local av hy hr
  rcases hva with ⟨_, q⟩ | ⟨q, _⟩
  · exact wpAny_Name (wpAny_loadName_local ok.fn (names_look ok.nod hy) hm q (h v hrep)) hd
  · cases q
theorem PostFz.of {S : Sta} {ρ : Rho} {σ : Sto} {la : List Addr} {s : Shared} {r : Res (AV × Sto)} {k : PyData × Sto → Res (Fl × Rho × Sto)} {Q : Flow → Shared → Prop} {E : Value → Shared → Prop} (h : PostS K S σ la s (r.bind fun a => (frz a).bind k) Q E) :
    PostE K S ρ σ la s r (fun v s₁ => ∃ b : PyData × Sto, Inv K S ρ b.2 la s₁.heap ∧ RD (seen S b.2 la s₁.heap) v b.1 ∧ PostS K S b.2 la s₁ (k b) Q E) E := by
  refine (fun (q : PostE K S ρ σ la s r _ E) => ?_) (PostE.bindS (ρ := ρ) h)
  cases r with
  | bad => exact q
  | exc => exact q
  | ok a =>
    intro v h' tk' i m rep
    refine glq fun Gq kq => ?_
    obtain ⟨a', ea, i1, m1, r1, p1⟩ := q v h' tk' i m rep
    refine kq ?_
    clear kq Gq
    cases ea
    cases hf : frz a with
    | bad => rw [hf] at p1; exact p1.elim
    | exc => exact (frz_ne hf).elim
    | ok b =>
      rw [hf, Res.bind_ok] at p1
      obtain ⟨i2, m2, r2⟩ := frz_ok i rep hf
      refine ⟨b, i2, r2, ?_⟩
      cases hk : k b with
      | bad => rw [hk] at p1; exact p1
      | exc => rw [hk] at p1; exact p1
      | ok c =>
        rw [hk] at p1
        intro f h2 la2 tk2 i3 m3 r3
        exact p1 f h2 la2 tk2 i3 (fun b o e => m3 b o (m2 b o e)) r3
theorem snd_App {y : Str} {np apos cp p : Pos} {e : Expr} {c : EC} {i : Nat} (he : SndE K sc e c) (hy : sc.names[i]? = some (y, .local) := by rfl) (hst : ∀ env, starEach [e] env = [(false, eval e env)] := by intro _; rfl) (hline : (apos.endLine == cp.line) = true := by rfl) (hd : (y == ("__debug__" : Str)) = false := by decide) :
    SndS K sc (.Expr (.Call (.Attribute (.Name y np) (Str.ofString "append") apos) [e] [] cp) p) (sApp i c) := fun S ok hs orc ho ρ σ la s Q E x h => by
  unfold sApp at h
  have hint : interactive S.env = false := by unfold interactive; rw [ok.fn]; rfl
  refine wpAny_Expr ?_ hint rfl
  refine Call_method1 rfl (hst _) hline ?_
  subst hs
  split at h
  · rename_i k hk
    split at h
    · rename_i d0 hd0
      refine read_slot ok x hy hk hd fun v r => ?_
      obtain ⟨a, ha, rfl⟩ := r
      obtain ⟨a', vs, n, g1, g2, _⟩ := x.locs.at' k d0 hd0
      rw [ha] at g1; cases g1
      refine ⟨"list", "list.append", PySem.F.plainAttrs_list, PySem.F.slot_list_append, PySem.F.type_list_append, ⟨_, g2, rfl⟩, fun b e => ⟨_, by cases e; exact g2, rfl⟩, ?_⟩
      refine P.append_list (wpAny_mono (he S ok rfl orc ho ρ σ la s _ _ x (PostFz.of h)) (fun v s₁ h₁ => ?_) fun _ _ e => e)
      obtain ⟨b, i₁, r₁, h₁⟩ := h₁
      split at h₁
      · rename_i ds hds
        split at h₁
        · rename_i hz
          refine glq fun Gq kq => ?_
          obtain ⟨a', ws, m, f1, f2, f3⟩ := i₁.locs.at' k ds hds
          refine kq ?_
          clear kq Gq
          rw [ha] at f1; cases f1
          have hwz : ws.size = ds.length := by rw [← f3.length, Array.length_toList]
          refine ⟨ws, m, seqSz _ (by lia), f2, ?_⟩
          obtain ⟨i2, m2⟩ := i₁.change ok (ds' := ds ++ [b.1]) (vs := ws.push v) hds ha (Heap.SameBut.update ..) (f2.update fun xs => xs.push v) (by rw [Array.toList_push]; exact f3.append (.cons r₁ .nil))
          exact h₁ .next _ la s₁.toks i2 m2 rfl
        · exact h₁.elim
      · exact h₁.elim
    · exact h.elim
  · exact h.elim
theorem RDs.dropLast {h : Heap} {vs : List Value} {ds : List PyData} (r : RDs h vs ds) : RDs h vs.dropLast ds.dropLast := by
  rw [List.dropLast_eq_take, List.dropLast_eq_take, r.length]; exact r.take _
theorem erase_last (vs : Array Value) (h : 0 < vs.size) : (vs.eraseIdxIfInBounds (vs.size - 1)).toList = vs.toList.dropLast := by
  have hlt : vs.size - 1 < vs.size := by lia
  unfold Array.eraseIdxIfInBounds
  rw [dif_pos hlt, Array.toList_eraseIdx, List.eraseIdx_eq_take_drop_succ, List.dropLast_eq_take, Array.length_toList]
  have : List.drop (vs.size - 1 + 1) vs.toList = [] := List.drop_of_length_le (by rw [Array.length_toList]; lia)
  rw [this, List.append_nil]
theorem snd_Pop {y : Str} {np apos cp p : Pos} {i : Nat} (hy : sc.names[i]? = some (y, .local) := by rfl) (hline : (apos.endLine == cp.line) = true := by rfl) (hd : (y == ("__debug__" : Str)) = false := by decide) :
    SndS K sc (.Expr (.Call (.Attribute (.Name y np) (Str.ofString "pop") apos) [] [] cp) p) (sPop i) := fun S ok hs orc ho ρ σ la s Q E x h => by
  unfold sPop at h
  have hint : interactive S.env = false := by unfold interactive; rw [ok.fn]; rfl
  refine wpAny_Expr ?_ hint rfl
  refine Call_method0 rfl hline ?_
  subst hs
  split at h
  · rename_i k hk
    split at h
    · rename_i ds hds
      split at h
      · rename_i j hj
        split at h
        · rename_i hz
          refine read_slot ok x hy hk hd fun v r => ?_
          obtain ⟨a, ha, rfl⟩ := r
          obtain ⟨a', vs, n, g1, g2, g3⟩ := x.locs.at' k ds hds
          rw [ha] at g1; cases g1
          have hwz : vs.size = ds.length := by rw [← g3.length, Array.length_toList]
          rw [List.getLast?_eq_getElem?] at hj
          obtain ⟨v, hv, hr⟩ := g3.get hj
          cases hr
          refine ⟨"list", "list.pop", PySem.F.plainAttrs_list, PySem.F.slot_list_pop, PySem.F.type_list_pop, ⟨_, g2, rfl⟩, fun b e => ⟨_, by cases e; exact g2, rfl⟩, ?_⟩
          refine P.pop_list g2 (by rw [hwz, ← Array.getElem?_toList]; exact hv) ?_ (seqSz _ (by lia))
          have hpos : 0 < vs.size := by
            have h1 := (List.getElem?_eq_some_iff.mp hv).1
            have h2 : vs.toList.length = vs.size := Array.length_toList
            lia
          obtain ⟨i2, m2⟩ := x.change ok (ds' := ds.dropLast) (vs := vs.eraseIdxIfInBounds (vs.size - 1)) hds ha (Heap.SameBut.update ..) (g2.update fun xs => xs.eraseIdxIfInBounds (vs.size - 1)) (by rw [erase_last vs hpos]; exact g3.dropLast)
          exact h .next _ la s.toks i2 m2 rfl
        · exact h.elim
      · exact h.elim
    · exact h.elim
  · exact h.elim
end
noncomputable def forL (tgt : PyData → Rho → Option Rho) (b : SC) : List PyData → SC
  | [] => fun _ ρ σ => .ok (.next, ρ, σ)
  | d :: ds => fun o ρ σ => match tgt d ρ with
    | some ρ' => (b o ρ' σ).bind fun r => match r.1 with | .next => forL tgt b ds o r.2.1 r.2.2 | .ret av => .ok (.ret av, r.2)
    | none => .bad
noncomputable def tgt1 (i : Nat) : PyData → Rho → Option Rho := fun d ρ => some (ρ.set i (some (.d d)))
noncomputable def tgt2 (i j : Nat) : PyData → Rho → Option Rho := fun d ρ => match d with | .tuple [x, y] => some ((ρ.set i (some (.d x))).set j (some (.d y))) | _ => none
noncomputable def sForL (tgt : PyData → Rho → Option Rho) (c : EC) (b : SC) : SC := fun o ρ σ => (c o ρ σ).bind fun a => (frz a).bind fun x => match x.1 with
  | .list ds => if ds.length ≤ 100000 then forL tgt b ds o ρ x.2 else .bad
  | _ => .bad
noncomputable def rngs (a b : Int) : List PyData := (List.range (b - a).toNat).map fun k => .int (a + (k : Nat))
noncomputable def sForR (i : Nat) (ca cb : EC) (b : SC) : SC := fun o ρ σ => (ca o ρ σ).bind fun x => (cb o ρ x.2).bind fun y => match x.1, y.1 with
  | .d (.int p), .d (.int q) => if -1000000 ≤ p ∧ p ≤ 1000000 ∧ -1000000 ≤ q ∧ q ≤ 1000000 then forL (tgt1 i) b (rngs p q) o ρ y.2 else .bad
  | _, _ => .bad
noncomputable def sForR1 (i : Nat) (cb : EC) (b : SC) : SC := sForR i (cK (.int 0)) cb b
noncomputable def Sta.push (S : Sta) (it : Addr) (o : Obj) : Sta := { S with ex := (it, o) :: S.ex }
section
variable {K : Pack} {sc : Scope}
theorem own_push {S : Sta} {it : Addr} {o : Obj} {b : Addr} : b ∈ (S.push it o).own ↔ b = it ∨ b ∈ S.own := by
  unfold Sta.own Sta.push
  simp only [List.map_cons, List.mem_cons, List.mem_append]
  constructor
  · rintro (h | h | h | h)
    · exact .inr (.inl h)
    · exact .inr (.inr (.inl h))
    · exact .inl h
    · exact .inr (.inr (.inr h))
  · rintro (h | h | h | h)
    · exact .inr (.inr (.inl h))
    · exact .inl h
    · exact .inr (.inl h)
    · exact .inr (.inr (.inr h))
theorem frs_push {S : Sta} {it : Addr} {o : Obj} {b : Addr} : b ∈ (S.push it o).frs ↔ b = it ∨ b ∈ S.frs := by
  unfold Sta.frs
  rw [List.mem_append, List.mem_append, own_push, or_assoc]
  exact Iff.rfl
theorem StaOk.push {S : Sta} (ok : StaOk K S) {it : Addr} (o : Obj) (h0 : S.h0.get? it = none) (hn : it ∉ S.own) : StaOk K (S.push it o) :=
  { frames := ok.frames, hand := ok.hand, depth := ok.depth, units := ok.units, fn := ok.fn, glob := ok.glob, blt := ok.blt, frame := ok.frame, nod := ok.nod,
    fresh := fun a ha => by
      rcases own_push.mp ha with rfl | ha
      · exact h0
      · exact ok.fresh a ha
    fro := ok.fro, frin := ok.frin, frX := ok.frX, one := ok.one
    ownnod := by
      have p : (S.push it o).own.Perm (it :: S.own) := by
        show (S.env.locals :: (S.env.cells.map (·.2) ++ it :: S.ex.map (·.1))).Perm (it :: S.env.locals :: (S.env.cells.map (·.2) ++ S.ex.map (·.1)))
        exact (List.Perm.cons _ List.perm_middle).trans (List.Perm.swap _ _ _)
      exact p.nodup_iff.mpr (List.nodup_cons.mpr ⟨hn, ok.ownnod⟩) }
theorem Inv.exPush {S : Sta} (ok : StaOk K S) {ρ : Rho} {σ : Sto} {la : List Addr} {h h' : Heap} (x : Inv K S ρ σ la h) {it : Addr} {o : Obj} (hn : h.get? it = none) (k : ∀ b o, h.get? b = some o → h'.get? b = some o) (hit : h'.get? it = some o) :
    StaOk K (S.push it o) ∧ Inv K (S.push it o) ρ σ la h' ∧ (seen S σ la h).StaysIn (seen (S.push it o) σ la h') := by
  have hno : it ∉ S.frs := fun q => by
    have := x.frin ok it q
    rw [hn] at this; cases this
  have hnl : it ∉ live σ la := fun q => by
    obtain ⟨j, ds, h1, h2⟩ := mem_live.mp q
    obtain ⟨a, vs, n, h3, h4, _⟩ := x.locs.at' j ds h1
    rw [h2] at h3; cases h3
    have h4' : h.get? it = some _ := h4
    rw [hn] at h4'; cases h4'
  have h0 : S.h0.get? it = none := by
    cases e : S.h0.get? it with
    | none => rfl
    | some o =>
      have := x.alive it (by rw [e]; rfl)
      rw [hn] at this; cases this
  have hseen : (seen S σ la h).StaysIn (seen (S.push it o) σ la h') := seen_mono fun b o' hb e => by
    refine ⟨k b o' e, fun q => ?_⟩
    rcases List.mem_append.mp q with q | q
    · rcases frs_push.mp q with rfl | q
      · rw [hn] at e; cases e
      · exact hb (List.mem_append.mpr (.inl q))
    · exact hb (List.mem_append.mpr (.inr q))
  have hg : K.GB.get? it = none := by
    cases e : K.GB.get? it with
    | none => rfl
    | some o =>
      have := x.gb _ _ e
      rw [hn] at this; cases this
  refine ⟨ok.push o h0 (fun q => hno (own_frs _ q)), ⟨fun b o' e => k b o' (x.gb b o' e), fun b hb => ?_, fun b o' e hb => k b o' (x.keep0 b o' e hb), fun b hb => ?_, x.pre, x.pre0, x.mon, x.new, ?_, fun p hp => ?_, fun p hp => ?_, ?_⟩, hseen⟩
  · rcases List.mem_append.mp hb with q | q
    · rcases frs_push.mp q with rfl | q
      · exact hg
      · exact x.gbh b (List.mem_append.mpr (.inl q))
    · exact x.gbh b (List.mem_append.mpr (.inr q))
  · obtain ⟨o', ho⟩ := Option.isSome_iff_exists.mp (x.alive b hb)
    rw [k b o' ho]; rfl
  · refine ⟨x.locs.len, fun j ds e => ?_, x.locs.inj, fun a ha q => ?_⟩
    · obtain ⟨a, vs, n, h1, h2, h3⟩ := x.locs.at' j ds e
      exact ⟨a, vs, n, h1, k _ _ h2, h3.mono hseen⟩
    · rcases frs_push.mp q with rfl | q
      · exact hnl ha
      · exact x.locs.out a ha q
  · rcases List.mem_cons.mp hp with rfl | hp
    · exact hit
    · exact k _ _ (x.ex p hp)
  · obtain ⟨v, hv⟩ := x.cells p hp
    exact ⟨v, cell_at hv fun o ho => k _ o ho⟩
  · obtain ⟨m, hm, hv⟩ := x.vars
    refine ⟨m, ns_at hm fun o ho => k _ o ho, fun i y kd av hn hr => ?_⟩
    obtain ⟨v, hva, hrep⟩ := hv i y kd av hn hr
    refine ⟨v, ?_, hrep.mono hseen fun _ _ e => e⟩
    rcases hva with q | ⟨q1, c, q2, q3⟩
    · exact .inl q
    · exact .inr ⟨q1, c, q2, cell_at q3 fun o ho => k _ o ho⟩
theorem Inv.exSet {S : Sta} {ρ : Rho} {σ : Sto} {la : List Addr} {h h' : Heap} {it : Addr} {o o' : Obj} (ok : StaOk K (S.push it o)) (x : Inv K (S.push it o) ρ σ la h) (hs : ∀ b o, b ≠ it → h.get? b = some o → h'.get? b = some o) (hit : h'.get? it = some o') :
    Inv K (S.push it o') ρ σ la h' ∧ (seen (S.push it o) σ la h).StaysIn (seen (S.push it o') σ la h') := by
  have kn := ok.ownnod
  have hno : it ∉ S.own := by
    have p : (S.push it o).own.Perm (it :: S.own) := by
      show (S.env.locals :: (S.env.cells.map (·.2) ++ it :: S.ex.map (·.1))).Perm (it :: S.env.locals :: (S.env.cells.map (·.2) ++ S.ex.map (·.1)))
      exact (List.Perm.cons _ List.perm_middle).trans (List.Perm.swap _ _ _)
    exact (List.nodup_cons.mp (p.nodup_iff.mp kn)).1
  have hfr : ∀ b, b ∈ (S.push it o').frs ↔ b ∈ (S.push it o).frs := fun b => by rw [frs_push, frs_push]
  have hin : it ∈ (S.push it o).frs := frs_push.mpr (.inl rfl)
  have hX : ∀ b, b ∈ (S.push it o').frs ++ live σ la ↔ b ∈ (S.push it o).frs ++ live σ la := fun b => by rw [List.mem_append, List.mem_append, hfr]
  have hseen : (seen (S.push it o) σ la h).StaysIn (seen (S.push it o') σ la h') := seen_mono fun b o'' hb e =>
    ⟨hs b o'' (fun q => hb (List.mem_append.mpr (.inl (q ▸ hin)))) e, fun q => hb ((hX b).mp q)⟩
  have h0 : S.h0.get? it = none := ok.fresh it (own_push.mpr (.inl rfl))
  have hg : K.GB.get? it = none := x.gbh it (List.mem_append.mpr (.inl hin))
  refine ⟨⟨fun b o'' e => hs b o'' (fun q => by rw [q, hg] at e; cases e) (x.gb b o'' e), fun b hb => x.gbh b ((hX b).mp hb), fun b o'' e hb => hs b o'' (fun q => by
      have e' : S.h0.get? b = some o'' := e
      rw [q, h0] at e'; cases e') (x.keep0 b o'' e hb), fun b hb => ?_, x.pre, x.pre0, x.mon, x.new, ?_, fun p hp => ?_, fun p hp => ?_, ?_⟩, hseen⟩
  · obtain ⟨o'', ho⟩ := Option.isSome_iff_exists.mp (x.alive b hb)
    by_cases hb' : b = it
    · rw [hb', hit]; rfl
    · rw [hs b o'' hb' ho]; rfl
  · refine ⟨x.locs.len, fun j ds e => ?_, x.locs.inj, fun a ha q => x.locs.out a ha ((hfr a).mp q)⟩
    obtain ⟨a, vs, n, h1, h2, h3⟩ := x.locs.at' j ds e
    exact ⟨a, vs, n, h1, hs _ _ (fun q => x.locs.out a (mem_live.mpr ⟨j, ds, e, h1⟩) (q ▸ hin)) h2, h3.mono hseen⟩
  · rcases List.mem_cons.mp hp with rfl | hp
    · exact hit
    · exact hs _ _ (fun q => hno (q ▸ ex_own hp)) (x.ex p (.tail _ hp))
  · obtain ⟨v, hv⟩ := x.cells p hp
    exact ⟨v, cell_at hv fun o ho => hs _ o (fun q => hno (q ▸ cell_own hp)) ho⟩
  · obtain ⟨m, hm, hv⟩ := x.vars
    refine ⟨m, ns_at hm fun o ho => hs _ o (fun q => hno (q ▸ (L_own : S.env.locals ∈ S.own))) ho, fun i y kd av hn hr => ?_⟩
    obtain ⟨v, hva, hrep⟩ := hv i y kd av hn hr
    refine ⟨v, ?_, hrep.mono hseen fun _ _ e => e⟩
    rcases hva with q | ⟨q1, c, q2, q3⟩
    · exact .inl q
    · exact .inr ⟨q1, c, q2, cell_at q3 fun o ho => hs _ o (fun q => hno (q ▸ cell_own (S := S) (lookup_mem q2))) ho⟩
theorem Inv.exPop {S : Sta} {ρ : Rho} {σ : Sto} {la : List Addr} {h h' : Heap} {it : Addr} {o : Obj} (ok : StaOk K (S.push it o)) (x : Inv K (S.push it o) ρ σ la h) (hs : ∀ b o, b ≠ it → h.get? b = some o → h'.get? b = some o)
    (ha : ∀ b, (S.h0.get? b).isSome → (h'.get? b).isSome) : Inv K S ρ σ la h' ∧ (seen (S.push it o) σ la h).StaysIn (seen S σ la h') := by
  have kn := ok.ownnod
  have hno : it ∉ S.own := by
    have p : (S.push it o).own.Perm (it :: S.own) := by
      show (S.env.locals :: (S.env.cells.map (·.2) ++ it :: S.ex.map (·.1))).Perm (it :: S.env.locals :: (S.env.cells.map (·.2) ++ S.ex.map (·.1)))
      exact (List.Perm.cons _ List.perm_middle).trans (List.Perm.swap _ _ _)
    exact (List.nodup_cons.mp (p.nodup_iff.mp kn)).1
  have hfr : ∀ b, b ∈ S.frs → b ∈ (S.push it o).frs := fun b hb => frs_push.mpr (.inr hb)
  have hin : it ∈ (S.push it o).frs := frs_push.mpr (.inl rfl)
  have hX : ∀ b, b ∈ S.frs ++ live σ la → b ∈ (S.push it o).frs ++ live σ la := fun b hb => (List.mem_append.mp hb).elim (fun q => List.mem_append.mpr (.inl (hfr b q))) fun q => List.mem_append.mpr (.inr q)
  have hseen : (seen (S.push it o) σ la h).StaysIn (seen S σ la h') := seen_mono fun b o'' hb e =>
    ⟨hs b o'' (fun q => hb (List.mem_append.mpr (.inl (q ▸ hin)))) e, fun q => hb (hX b q)⟩
  have h0 : S.h0.get? it = none := ok.fresh it (own_push.mpr (.inl rfl))
  have hg : K.GB.get? it = none := x.gbh it (List.mem_append.mpr (.inl hin))
  refine ⟨⟨fun b o'' e => hs b o'' (fun q => by rw [q, hg] at e; cases e) (x.gb b o'' e), fun b hb => x.gbh b (hX b hb), fun b o'' e hb => hs b o'' (fun q => by
      have e' : S.h0.get? b = some o'' := e
      rw [q, h0] at e'; cases e') (x.keep0 b o'' e hb), ha, x.pre, x.pre0, x.mon, x.new, ?_, fun p hp => ?_, fun p hp => ?_, ?_⟩, hseen⟩
  · refine ⟨x.locs.len, fun j ds e => ?_, x.locs.inj, fun a ha q => x.locs.out a ha (hfr a q)⟩
    obtain ⟨a, vs, n, h1, h2, h3⟩ := x.locs.at' j ds e
    exact ⟨a, vs, n, h1, hs _ _ (fun q => x.locs.out a (mem_live.mpr ⟨j, ds, e, h1⟩) (q ▸ hin)) h2, h3.mono hseen⟩
  · exact hs _ _ (fun q => hno (q ▸ ex_own hp)) (x.ex p (.tail _ hp))
  · obtain ⟨v, hv⟩ := x.cells p hp
    exact ⟨v, cell_at hv fun o ho => hs _ o (fun q => hno (q ▸ cell_own hp)) ho⟩
  · obtain ⟨m, hm, hv⟩ := x.vars
    refine ⟨m, ns_at hm fun o ho => hs _ o (fun q => hno (q ▸ (L_own : S.env.locals ∈ S.own))) ho, fun i y kd av hn hr => ?_⟩
    obtain ⟨v, hva, hrep⟩ := hv i y kd av hn hr
    refine ⟨v, ?_, hrep.mono hseen fun _ _ e => e⟩
    rcases hva with q | ⟨q1, c, q2, q3⟩
    · exact .inl q
    · exact .inr ⟨q1, c, q2, cell_at q3 fun o ho => hs _ o (fun q => hno (q ▸ cell_own (S := S) (lookup_mem q2))) ho⟩
theorem codeFor {prog : Program} {w : World} {A : Around} {R : Result → Shared → Prop} {s : Shared} {target : Expr} {it : Value} {body : List Stmt} {env : Env} (I : Nat → Shared → Prop)
    (turn : ∀ n s, I n s → wpAny (model prog w) A (pyNext it) (fun r s₁ => match r with
      | none => R (.ok .next) s₁
      | some v => wpAny (model prog w) A (letOwnedTupleGo target it v) (fun _ s₀ => wpAny (model prog w) A (assign target env v) (fun _ s₂ => wpAny (model prog w) A (execs body env) (fun f s₃ => match f with
          | .next | .cont => ∃ m, m < n ∧ I m s₃
          | .brk => R (.ok .next) s₃
          | .ret v => R (.ok (.ret v)) s₃) (notedBy (model prog w) A env fun e s' => R (.error e) s') s₂) (notedBy (model prog w) A env fun e s' => R (.error e) s') s₀) (notedBy (model prog w) A env fun e s' => R (.error e) s') s₁) (notedBy (model prog w) A env fun e s' => R (.error e) s') s)
    (n : Nat) (h : I n s) : codeAny (model prog w) A (.forLoop target it body [] env) R s := by
  refine codeAny_loop' rfl I (fun n s hI => ?_) n h
  show wpAny _ _ ((forTurn target it body [] env).onRaise (fun x => do noteFrame x env; theTreesLotGoes x)) _ _ s
  refine wpAny_noted ?_
  unfold forTurn
  refine wpAny_bind (wpAny_standAt (wpAny_bind (wpAny_onRaise (wpAny_mono (turn n s hI) (fun r s₁ h₁ => ?_) fun _ _ q => wpAny_standAt q))))
  cases r with
  | none => exact wpAny_pure (.inr ⟨rfl, codeAny_block (wpAny_execs_nil h₁)⟩)
  | some v =>
    refine wpAny_bind (wpAny_mono h₁ (fun _ s₀ h₀ => wpAny_bind (wpAny_mono h₀ (fun _ s₂ h₂ => wpAny_bind (wpAny_mono h₂ (fun f s₃ h₃ => ?_) fun _ _ q => q)) fun _ _ q => q)) fun _ _ q => q)
    cases f with
    | next => exact wpAny_pure (.inl ⟨rfl, h₃⟩)
    | cont => exact wpAny_pure (.inl ⟨rfl, h₃⟩)
    | brk => exact wpAny_pure h₃
    | ret v => exact wpAny_pure h₃
structure IterOk (K : Pack) (It : Heap → Nat → Prop) (P : Heap → Prop) (ds : List PyData) (it : Addr) (target : Expr) : Prop where
  there : ∀ h k, It h k → ∃ o, h.get? it = some o ∧ ∀ h' : Heap, h'.get? it = some o → It h' k
  mono : ∀ g g' : Heap, P g → g.StaysIn g' → P g'
  item : ∀ (A : Around) (s : Shared) (g : Heap) (k : Nat) (d : PyData) (Q : Option Value → Shared → Prop) (E : Value → Shared → Prop), ds[k]? = some d → It s.heap k → P g → g.StaysIn s.heap →
    (∀ h' tk' v, It h' (k + 1) → Heap.SameBut it s.heap h' → RD g v d → Q (some v) { s with heap := h', toks := tk' }) → wpAny (model K.prog K.w) A (pyNext (.ref it)) Q E s
  fin : ∀ (A : Around) (s : Shared) (g : Heap) (Q : Option Value → Shared → Prop) (E : Value → Shared → Prop), A.handled = none → It s.heap ds.length → P g → g.StaysIn s.heap →
    (∀ h', Heap.ExtBut it s.heap h' → Q none { s with heap := h' }) → wpAny (model K.prog K.w) A (pyNext (.ref it)) Q E s
  own : ∀ (A : Around) (s : Shared) (k : Nat) (g : Heap) (v : Value) (d : PyData) (Q : Unit → Shared → Prop) (E : Value → Shared → Prop), It s.heap k → RD g v d → d ∈ ds → Q () s → wpAny (model K.prog K.w) A (letOwnedTupleGo target (.ref it) v) Q E s
noncomputable def TgtOk (K : Pack) (sc : Scope) (target : Expr) (tgt : PyData → Rho → Option Rho) : Prop :=
  ∀ (S : Sta) (_ : StaOk K S) (_ : S.env.scope = sc) (ρ ρ' : Rho) (σ : Sto) (la : List Addr) (s : Shared) (v : Value) (d : PyData) (Q : Unit → Shared → Prop) (E : Value → Shared → Prop),
    Inv K S ρ σ la s.heap → RD (seen S σ la s.heap) v d → tgt d ρ = some ρ' → (∀ h' tk', Inv K S ρ' σ la h' → (seen S σ la s.heap).StaysIn (seen S σ la h') → Q () { s with heap := h', toks := tk' }) →
    wpAny (model K.prog K.w) S.A (assign target S.env v) Q E s
theorem tgt1_ok {y : Str} {p : Pos} {i : Nat} (hy : sc.names[i]? = some (y, .local)) : TgtOk K sc (.Name y p) (tgt1 i) := by
  intro S ok hs ρ ρ' σ la s v d Q E x r e h
  cases e
  subst hs
  exact wpAny_assign_Name (store_snd ok x hy (av := .d d) r h)
theorem tgt2_ok {y z : Str} {py pz tp : Pos} {k : Nat} {i j : Nat} (hy : sc.names[i]? = some (y, .local)) (hz : sc.names[j]? = some (z, .local)) : TgtOk K sc (.Tuple [.Name y py, .Name z pz] k tp) (tgt2 i j) := by
  intro S ok hs ρ ρ' σ la s v d Q E x r e h
  unfold tgt2 at e
  split at e
  · cases e
    subst hs
    exact assign2 ok x hy hz r h
  · cases e
inductive ForJ (K : Pack) (S : Sta) (it : Addr) (It : Heap → Nat → Prop) (P : Heap → Prop) (ds : List PyData) (s₀ : Shared) (σ₀ : Sto) (la₀ : List Addr) (R : Nat → Rho → Sto → Res (Fl × Rho × Sto)) (Q : Flow → Shared → Prop) (E : Value → Shared → Prop) (n : Nat) (s' : Shared) : Prop
  | mk (k : Nat) (ρ' : Rho) (σ' : Sto) (la' : List Addr) (o' : Obj) (h1 : k + n = ds.length) (h2 : StaOk K (S.push it o')) (h3 : Inv K (S.push it o') ρ' σ' la' s'.heap) (h4 : It s'.heap k) (h5 : P (seen (S.push it o') σ' la' s'.heap))
    (h6 : (seen S σ₀ la₀ s₀.heap).StaysIn (seen (S.push it o') σ' la' s'.heap)) (h7 : ∃ h t, s' = { s₀ with heap := h, toks := t }) (h8 : PostS K S σ₀ la₀ s₀ (R k ρ' σ') Q E) : ForJ K S it It P ds s₀ σ₀ la₀ R Q E n s'
theorem for_code {target : Expr} {tgt} {body : List Stmt} {cb : SC} (ht : TgtOk K sc target tgt) (hb : SndB K sc body cb) {It : Heap → Nat → Prop} {P : Heap → Prop} {ds : List PyData} {it : Addr} (io : IterOk K It P ds it target)
    {S : Sta} (ok : StaOk K S) (hs : S.env.scope = sc) {orc : Orc} (ho : OrcOk K S.n orc) {ρ : Rho} {σ σ₀ : Sto} {la la₀ : List Addr} {s₀ s : Shared} {o : Obj} (Q : Flow → Shared → Prop) (E : Value → Shared → Prop)
    (okp : StaOk K (S.push it o)) (x : Inv K (S.push it o) ρ σ la s.heap) (hI : It s.heap 0) (hP : P (seen (S.push it o) σ la s.heap)) (m₀ : (seen S σ₀ la₀ s₀.heap).StaysIn (seen (S.push it o) σ la s.heap)) (hss : ∃ h t, s = { s₀ with heap := h, toks := t })
    (h : PostS K S σ₀ la₀ s₀ (forL tgt cb ds orc ρ σ) Q E) :
    codeAny (model K.prog K.w) S.A (.forLoop target (.ref it) body [] S.env) (fun r s' => match r with | .ok f => Q f s' | .error e => cameBackBy (model K.prog K.w) S.A S.env E e s') s := by
  let E' : Value → Shared → Prop := notedBy (model K.prog K.w) S.A S.env (cameBackBy (model K.prog K.w) S.A S.env E)
  refine codeFor (ForJ K S it It P ds s₀ σ₀ la₀ (fun k ρ σ => forL tgt cb (ds.drop k) orc ρ σ) Q E) (fun n s' hJ => ?_) ds.length
    ⟨0, ρ, σ, la, o, by lia, okp, x, hI, hP, m₀, hss, by rw [List.drop_zero]; exact h⟩
  refine glq fun Gq kq => ?_
  obtain ⟨k, ρ', σ', la', o', hkn, okp, i, hIt, hPs, hm, ⟨h₁, t₁, rfl⟩, hp⟩ := hJ
  refine kq ?_
  clear kq Gq
  have exE : (∀ e h' tk', ExS K S e h' → E (.ref e) { s₀ with heap := h', toks := tk' }) → ∀ e h' tk', ExS K S e h' → E' (.ref e) { s₀ with heap := h', toks := tk' } :=
    fun hE e h' tk' hx => ExS.passes ok (s := { s₀ with heap := h', toks := tk' }) hx fun h'' hx' => hE e h'' tk' hx'
  cases n with
  | zero =>
    have hk : k = ds.length := by lia
    subst hk
    rw [List.drop_length] at hp
    refine io.fin S.A _ _ _ _ ok.hand hIt hPs of_hid fun h' hx => ?_
    obtain ⟨i2, m2⟩ := i.exPop okp (h' := h') (fun b o hb e => hx b o hb e) fun b hb => by
      have hne : b ≠ it := fun q => by
        have z : S.h0.get? it = none := okp.fresh it (own_push.mpr (.inl rfl))
        rw [q, z] at hb; cases hb
      obtain ⟨o2, ho2⟩ := Option.isSome_iff_exists.mp (i.alive b hb)
      rw [hx b o2 hne ho2]; rfl
    exact hp .next h' la' t₁ i2 (fun b o e => m2 b o (hm b o e)) rfl
  | succ n =>
    have hk : k < ds.length := by lia
    have hd : ds[k]? = some (ds[k]'hk) := List.getElem?_eq_getElem hk
    rw [List.drop_eq_getElem_cons hk, forL] at hp
    dsimp only at hp
    refine io.item S.A _ _ k _ _ _ hd hIt hPs of_hid fun h' tk' v hIt' hsb hrd => ?_
    obtain ⟨o2, ho2, hIt2⟩ := io.there _ _ hIt'
    obtain ⟨i2, m2⟩ := i.exSet okp (h' := h') (o' := o2) (fun b o hb e => (hsb.2 b hb).trans e) ho2
    have okp2 : StaOk K (S.push it o2) := by
      refine ok.push o2 (okp.fresh it (own_push.mpr (.inl rfl))) ?_
      have p : (S.push it o').own.Perm (it :: S.own) := by
        show (S.env.locals :: (S.env.cells.map (·.2) ++ it :: S.ex.map (·.1))).Perm (it :: S.env.locals :: (S.env.cells.map (·.2) ++ S.ex.map (·.1)))
        exact (List.Perm.cons _ List.perm_middle).trans (List.Perm.swap _ _ _)
      exact (List.nodup_cons.mp (p.nodup_iff.mp okp.ownnod)).1
    dsimp only
    refine io.own S.A _ (k + 1) _ v _ _ _ hIt' hrd (List.getElem_mem hk) ?_
    cases htg : tgt (ds[k]'hk) ρ' with
    | none => rw [htg] at hp; exact hp.elim
    | some ρ₂ =>
      rw [htg] at hp
      try dsimp only at hp
      refine ht (S.push it o2) okp2 hs ρ' ρ₂ σ' la' _ v _ _ _ i2 (RD.mono m2 hrd) htg fun h₃ tk₃ i3 m3 => ?_
      have h2 : PostS K (S.push it o2) σ' la' { s₀ with heap := h₃, toks := tk₃ } (cb orc ρ₂ σ') (fun f s₂ => ∃ (b : Fl × Rho × Sto) (la₁ : List Addr), cb orc ρ₂ σ' = .ok b ∧ Inv K (S.push it o2) b.2.1 b.2.2 la₁ s₂.heap ∧ flowIs K (seen (S.push it o2) b.2.2 la₁ s₂.heap) la₁ b.1 f ∧
          (seen (S.push it o2) σ' la' h₃).StaysIn (seen (S.push it o2) b.2.2 la₁ s₂.heap) ∧ (∃ h t, s₂ = { s₀ with heap := h, toks := t })) E' := by
        cases hr : cb orc ρ₂ σ' with
        | bad => rw [hr] at hp; exact hp
        | exc =>
          rw [hr] at hp
          exact exE hp
        | ok a =>
          obtain ⟨fl, ρ₄, σ₄⟩ := a
          intro f h' la₂ tk' i' m' r'
          exact ⟨_, la₂, rfl, i', r', m', ⟨h', tk', rfl⟩⟩
      refine wpAny_mono (hb (S.push it o2) okp2 hs orc ho ρ₂ σ' la' _ _ _ i3 h2) (fun f s₂ h₂ => ?_) fun _ _ e => e
      refine glq fun Gq kq => ?_
      obtain ⟨⟨fl, ρ₄, σ₄⟩, la₁, er, i4, hf, m4, ⟨h₄, t₄, rfl⟩⟩ := h₂
      refine kq ?_
      clear kq Gq
      rw [er, Res.bind_ok] at hp
      have mall : (seen (S.push it o') σ' la' h₁).StaysIn (seen (S.push it o2) σ₄ la₁ h₄) := fun b o e => m4 b o (m3 b o (m2 b o e))
      cases fl with
      | next =>
        cases hf
        refine ⟨n, Nat.lt_succ_self n, k + 1, ρ₄, σ₄, la₁, o2, by lia, okp2, i4, hIt2 _ (i4.ex (it, o2) (.head _)), io.mono _ _ hPs mall, fun b o e => mall b o (hm b o e), ⟨h₄, t₄, rfl⟩, hp⟩
      | ret av =>
        obtain ⟨v, rfl, r⟩ := hf
        obtain ⟨i5, m5⟩ := i4.exPop okp2 (h' := h₄) (fun b o _ e => e) fun b hb => i4.alive b hb
        exact hp (.ret v) h₄ la₁ t₄ i5 (fun b o e => m5 b o (mall b o (hm b o e))) ⟨v, rfl, r.mono m5 fun _ _ e => e⟩
end
section
variable {K : Pack} {sc : Scope}
theorem isList_of {h : Heap} {a : Addr} {vs : Array Value} {n : Nat} (x : IsL h a vs n) : h.IsList a vs := x.isList
theorem iter_list {l it : Addr} {vs : Array Value} {n : Nat} {ds : List PyData} {target : Expr}
    (hown : ∀ (A : Around) (s : Shared) (k : Nat) (v : Value) (Q : Unit → Shared → Prop) (E : Value → Shared → Prop), s.heap.IsListIter it l k → Q () s → wpAny (model K.prog K.w) A (letOwnedTupleGo target (.ref it) v) Q E s) :
    IterOk K (fun h k => h.IsListIter it l k) (fun g => IsL g l vs n ∧ RDs g vs.toList ds) ds it target where
  there := fun h k ⟨o, ho, h1, h2⟩ => ⟨o, ho, fun h' e => ⟨o, e, h1, h2⟩⟩
  mono := fun g g' ⟨h1, h2⟩ k => ⟨k _ _ h1, h2.mono k⟩
  item := fun A s g k d Q E hd hI ⟨h1, h2⟩ hg h => by
    obtain ⟨v, hv, hr⟩ := h2.get hd
    exact wpAny_pyNext_list_item hI (isList_of (hg _ _ h1)) (by rw [← Array.getElem?_toList]; exact hv) fun h' a b => h h' s.toks v a b hr
  fin := fun A s g Q E hh hI ⟨h1, h2⟩ hg h => wpAny_pyNext_list_end hh hI (isList_of (hg _ _ h1)) (by
    have := h2.length
    rw [Array.length_toList] at this
    rw [← Array.getElem?_toList]
    exact List.getElem?_eq_none (by rw [Array.length_toList]; lia)) h
  own := fun A s k g v d Q E hI hr hd h => hown A s k v Q E hI h
theorem iter_range {it : Addr} {a b : Int} {y : Str} {p : Pos} :
    IterOk K (fun h k => IsRangeIter h it (a + (k : Nat)) (((b - a).toNat : Int) - (k : Nat)) 1) (fun _ => True) (rngs a b) it (.Name y p) where
  there := fun h k e => ⟨_, e, fun h' e' => e'⟩
  mono := fun _ _ _ _ => trivial
  item := fun A s g k d Q E hd hI _ hg h => by
    unfold rngs at hd
    rw [List.getElem?_map] at hd
    obtain ⟨j, hj, rfl⟩ := Option.map_eq_some_iff.mp hd
    have hk : k < (b - a).toNat := by
      have := (List.getElem?_eq_some_iff.mp hj).1
      rw [List.length_range] at this; exact this
    rw [List.getElem?_range hk] at hj
    cases hj
    refine wpAny_pyNext_range_item hI (by lia) fun h' i1 hs => h h' _ _ ?_ hs (.int _ _)
    have e1 : a + (k : Nat) + 1 = a + ((k + 1 : Nat) : Int) := by lia
    have e2 : ((b - a).toNat : Int) - (k : Nat) - 1 = ((b - a).toNat : Int) - ((k + 1 : Nat) : Int) := by lia
    rw [e1, e2] at i1
    exact i1
  fin := fun A s g Q E hh hI _ hg h => wpAny_pyNext_range_end hh hI (by unfold rngs; rw [List.length_map, List.length_range]; lia) h
  own := fun A s k g v d Q E hI hr hd h => wpAny_pure h
theorem snd_ForL {target e : Expr} {body : List Stmt} {p : Pos} {tgt} {c : EC} {cb : SC} (he : SndE K sc e c) (ht : TgtOk K sc target tgt) (hb : SndB K sc body cb)
    (hown : ∀ (A : Around) (s : Shared) (it l : Addr) (k : Nat) (v : Value) (Q : Unit → Shared → Prop) (E : Value → Shared → Prop), s.heap.IsListIter it l k → Q () s → wpAny (model K.prog K.w) A (letOwnedTupleGo target (.ref it) v) Q E s)
    (hfo : ∀ env x, foldedSetIterable e env x = pure x := by intro _ _; rfl) : SndS K sc (.For target e body [] p) (sForL tgt c cb) := fun S ok hs orc ho ρ σ la s Q E x h => by
  unfold sForL at h
  refine wpAny_For (wpAny_mono (he S ok hs orc ho ρ σ la s _ _ x (PostFz.of (k := fun x => match x.1 with | .list ds => if ds.length ≤ 100000 then forL tgt cb ds orc ρ x.2 else .bad | _ => .bad) h)) (fun v s₁ h₁ => ?_) fun _ _ e => e) (hfo _)
  refine glq fun Gq kq => ?_
  obtain ⟨⟨d, σ'⟩, i₁, r₁, h₁⟩ := h₁
  refine kq ?_
  clear kq Gq
  dsimp only at h₁ i₁ r₁
  split at h₁
  · rename_i ds
    split at h₁
    · rename_i hz
      cases r₁ with
      | list h1 h2 =>
        rename_i l vs n
        refine wpAny_pyIter_list (isList_of (of_hideAll _ h1)) ?_
        have hn : s₁.heap.get? s₁.heap.objs.size = none := Heap.get?_none_of_le (Nat.le_refl _)
        have hp := Heap.get?_push_size s₁.heap (o := { cls := .type "list_iterator", data := .fields #[.ref l, .int 0 0] }) rfl
        obtain ⟨okp, i2, m2⟩ := i₁.exPush ok hn (fun b o e => Heap.get?_push_of_some _ e) hp
        exact for_code ht hb (iter_list (n := n) (vs := vs) (ds := ds) fun A s k v Q E hI hq => hown A s _ _ k v Q E hI hq) (s₀ := s₁) ok hs ho Q E okp i2 ⟨_, hp, rfl, rfl⟩ ⟨m2 _ _ h1, h2.mono m2⟩ m2 ⟨_, s₁.toks, rfl⟩ h₁
    · exact h₁.elim
  · exact h₁.elim
theorem own_name {y : Str} {p : Pos} (A : Around) (s : Shared) (it l : Addr) (k : Nat) (v : Value) (Q : Unit → Shared → Prop) (E : Value → Shared → Prop) (hI : s.heap.IsListIter it l k) (h : Q () s) : wpAny (model K.prog K.w) A (letOwnedTupleGo (.Name y p) (.ref it) v) Q E s := wpAny_pure h
theorem own_tup {es : List Expr} {n : Nat} {p : Pos} (A : Around) (s : Shared) (it l : Addr) (k : Nat) (v : Value) (Q : Unit → Shared → Prop) (E : Value → Shared → Prop) (hI : s.heap.IsListIter it l k) (h : Q () s) : wpAny (model K.prog K.w) A (letOwnedTupleGo (.Tuple es n p) (.ref it) v) Q E s := by
  cases v with
  | ref T => exact wpAny_letOwnedTupleGo_listiter hI h
  | _ => exact wpAny_pure h
theorem for_range {y : Str} {np : Pos} {body : List Stmt} {i : Nat} {cb : SC} (hy : sc.names[i]? = some (y, .local)) (hb : SndB K sc body cb) {S : Sta} (ok : StaOk K S) (hs : S.env.scope = sc) {orc : Orc} (ho : OrcOk K S.n orc)
    {ρ : Rho} {σ : Sto} {la : List Addr} {s : Shared} {a b : Int} {t u v : Tok} {Q : Flow → Shared → Prop} {E : Value → Shared → Prop} (x : Inv K S ρ σ la s.heap) (hab : -1000000 ≤ a ∧ a ≤ 1000000 ∧ -1000000 ≤ b ∧ b ≤ 1000000) (h : PostS K S σ la s (forL (tgt1 i) cb (rngs a b) orc ρ σ) Q E) {tk : Nat} :
    wpAny (model K.prog K.w) S.A (pyIter (.ref s.heap.objs.size)) (fun it s₂ => codeAny (model K.prog K.w) S.A (.forLoop (.Name y np) it body [] S.env) (fun r s' => match r with | .ok f => Q f s' | .error e => cameBackBy (model K.prog K.w) S.A S.env E e s') s₂) E
      { s with heap := s.heap.push { cls := .type "range", data := .fields #[.int a t, .int b u, .int 1 v] }, toks := tk } := by
  obtain ⟨i1, m1⟩ := x.ext (h' := s.heap.push { cls := .type "range", data := .fields #[.int a t, .int b u, .int 1 v] }) fun b o e => Heap.get?_push_of_some _ e
  refine wpAny_pyIter_range (Heap.get?_push_size _ rfl) (small_one (by lia) (by lia) (by lia) (by lia)) ?_
  have hn : (s.heap.push { cls := .type "range", data := .fields #[.int a t, .int b u, .int 1 v] }).get? (s.heap.push { cls := .type "range", data := .fields #[.int a t, .int b u, .int 1 v] }).objs.size = none := Heap.get?_none_of_le (Nat.le_refl _)
  have hp := Heap.get?_push_size (s.heap.push { cls := .type "range", data := .fields #[.int a t, .int b u, .int 1 v] }) (o := { cls := .type "range_iterator", data := .fields #[rawInt a, rawInt (Builtin.Range.rangeSize a b 1), rawInt 1] }) rfl
  obtain ⟨okp, i2, m2⟩ := i1.exPush ok hn (fun b o e => Heap.get?_push_of_some _ e) hp
  refine for_code (tgt1_ok hy) hb (iter_range (a := a) (b := b)) (s₀ := s) ok hs ho Q E okp i2 ?_ trivial (fun b o e => m2 b o (m1 b o e)) ⟨_, tk, rfl⟩ h
  have e1 : Builtin.Range.rangeSize a b 1 = (((b - a).toNat : Nat) : Int) - ((0 : Nat) : Int) := by
    rw [rangeSize_one]; split <;> lia
  have e2 : a = a + ((0 : Nat) : Int) := by lia
  show IsRangeIter _ _ (a + ((0 : Nat) : Int)) _ 1
  rw [← e1, ← e2]
  exact hp
theorem snd_ForR (F : Facts K) {y : Str} {np rp cp p : Pos} {ea eb : Expr} {body : List Stmt} {ca cb : EC} {cbd : SC} {i : Nat} (ha : SndE K sc ea ca) (hb : SndE K sc eb cb) (hbd : SndB K sc body cbd) (hy : sc.names[i]? = some (y, .local) := by rfl)
    (hst : ∀ env, starEach [ea, eb] env = [(false, eval ea env), (false, eval eb env)] := by intro _; rfl) (hx : sc.names.lookup (Str.ofString "range") = some .globalImplicit := by rfl) (hfo : ∀ env x, foldedSetIterable (.Call (.Name (Str.ofString "range") rp) [ea, eb] [] cp) env x = pure x := by intro _ _; rfl) :
    SndS K sc (.For (.Name y np) (.Call (.Name (Str.ofString "range") rp) [ea, eb] [] cp) body [] p) (sForR i ca cb cbd) := fun S ok hs orc ho ρ σ la s Q E x h => by
  unfold sForR at h
  refine wpAny_For ?_ (hfo _)
  refine Call_Name2 ?_ (hst _)
  subst hs
  refine Calls.Name_function_global ok.fn hx ?_ (by decide)
  refine Calls.loadGlobal_builtin (mg := K.mg) (mb := K.mb) (by rw [ok.glob]; exact F.g.keeps x.gb) F.rng0 (by rw [ok.blt]; exact F.b.keeps x.gb) F.rng1 ?_
  refine PyProof.Rows.callWith_type rfl (Calls.evalArgs_plain (Calls.spliced_cons ?_))
  refine wpAny_mono (ha S ok rfl orc ho ρ σ la s _ _ x (PostE.bindS h)) (fun va s₁ h₁ => Calls.spliced_cons ?_) fun _ _ e => e
  refine glq fun Gq kq => ?_
  obtain ⟨a, _, i₁, m₁, r₁, h₁⟩ := h₁
  refine kq ?_
  clear kq Gq
  refine wpAny_mono (hb S ok rfl orc ho ρ a.2 la s₁ _ _ i₁ (PostE.bindS h₁)) (fun vb s₂ h₂ => Calls.spliced_nil ?_) fun _ _ e => e
  refine glq fun Gq kq => ?_
  obtain ⟨b, _, i₂, m₂, r₂, h₂⟩ := h₂
  refine kq ?_
  clear kq Gq
  obtain ⟨a, σ₁⟩ := a
  obtain ⟨b, σ₂⟩ := b
  dsimp only at h₂ r₁ r₂ i₂
  split at h₂
  · split at h₂
    · rename_i hab
      cases r₁
      cases r₂
      refine call_range_2 ?_
      exact for_range hy hbd ok rfl ho i₂ hab h₂
    · exact h₂.elim
  · exact h₂.elim
theorem snd_ForR1 (F : Facts K) {y : Str} {np rp cp p : Pos} {eb : Expr} {body : List Stmt} {cb : EC} {cbd : SC} {i : Nat} (hb : SndE K sc eb cb) (hbd : SndB K sc body cbd) (hy : sc.names[i]? = some (y, .local) := by rfl)
    (hst : ∀ env, starEach [eb] env = [(false, eval eb env)] := by intro _; rfl) (hx : sc.names.lookup (Str.ofString "range") = some .globalImplicit := by rfl) (hfo : ∀ env x, foldedSetIterable (.Call (.Name (Str.ofString "range") rp) [eb] [] cp) env x = pure x := by intro _ _; rfl) :
    SndS K sc (.For (.Name y np) (.Call (.Name (Str.ofString "range") rp) [eb] [] cp) body [] p) (sForR1 i cb cbd) := fun S ok hs orc ho ρ σ la s Q E x h => by
  unfold sForR1 sForR cK at h
  rw [Res.bind_ok] at h
  refine wpAny_For ?_ (hfo _)
  refine PyProof.Rows.Call_Name1 ?_ (hst _)
  subst hs
  refine Calls.Name_function_global ok.fn hx ?_ (by decide)
  refine Calls.loadGlobal_builtin (mg := K.mg) (mb := K.mb) (by rw [ok.glob]; exact F.g.keeps x.gb) F.rng0 (by rw [ok.blt]; exact F.b.keeps x.gb) F.rng1 ?_
  refine PyProof.Rows.callWith_type rfl (Calls.evalArgs_plain (Calls.spliced_cons ?_))
  refine wpAny_mono (hb S ok rfl orc ho ρ σ la s _ _ x (PostE.bindS h)) (fun vb s₂ h₂ => Calls.spliced_nil ?_) fun _ _ e => e
  refine glq fun Gq kq => ?_
  obtain ⟨b, _, i₂, m₂, r₂, h₂⟩ := h₂
  refine kq ?_
  clear kq Gq
  obtain ⟨b, σ₂⟩ := b
  dsimp only at h₂ r₂ i₂
  split at h₂
  · rename_i heq heq2
    cases heq
    split at h₂
    · rename_i hab
      cases r₂
      refine call_range_1 ?_
      exact for_range hy hbd ok rfl ho i₂ hab h₂
    · exact h₂.elim
  · exact h₂.elim
end
noncomputable def finF (n : Nat) (r : Fl × Rho × Sto) : Res (AV × Sto) := match r.1 with
  | .next => .ok (.d .none, r.2.2.take n)
  | .ret av => match av with
    | .d x => .ok (.d x, r.2.2.take n)
    | .tab D => .ok (.tab D, r.2.2.take n)
    | .loc k => if n ≤ k then (match r.2.2[k]? with | some (some ds) => .ok (.d (.list ds), r.2.2.take n) | _ => .bad) else .bad
noncomputable def runF (ar nn : Nat) (b : SC) (orc : Orc) (avs : List AV) (σ : Sto) : Res (AV × Sto) :=
  if avs.length = ar then (b orc (avs.map some ++ List.replicate (nn - ar) none) σ).bind (finF σ.length) else .bad
section
variable {K : Pack} {sc : Scope}
theorem zip_lookup : ∀ {l : List Str} {vs : List Value}, l.Nodup → ∀ {i : Nat} {x : Str} {v : Value}, l[i]? = some x → vs[i]? = some v → (l.zip vs).lookup x = some v
  | [], _, _, _, _, _, e, _ => by cases e
  | _ :: _, [], _, _, _, _, _, e => by cases e
  | y :: l, w :: vs, hn, 0, x, v, e1, e2 => by
    simp only [List.getElem?_cons_zero, Option.some.injEq] at e1 e2
    subst e1; subst e2
    simp
  | y :: l, w :: vs, hn, i + 1, x, v, e1, e2 => by
    have hn' := List.nodup_cons.mp hn
    have e1' : l[i]? = some x := by simpa using e1
    have e2' : vs[i]? = some v := by simpa using e2
    have hne : x ≠ y := by
      rintro rfl
      exact hn'.1 (List.mem_of_getElem? e1')
    rw [List.zip_cons_cons, List.lookup_cons, beq_false_of_ne hne]
    exact zip_lookup hn'.2 e1' e2'
theorem rev_lookup : ∀ {l : List (Str × Value)}, (l.map (·.1)).Nodup → ∀ x, l.reverse.lookup x = l.lookup x
  | [], _, _ => rfl
  | (y, v) :: l, hn, x => by
    have hn' := List.nodup_cons.mp hn
    rw [List.reverse_cons, List.lookup_append, rev_lookup hn'.2, List.lookup_cons]
    by_cases hx : x = y
    · subst hx
      have : l.lookup x = none := by
        rw [List.lookup_eq_none_iff]
        intro p hp
        have : x ≠ p.1 := by
          rintro rfl
          exact hn'.1 (List.mem_map.mpr ⟨p, hp, rfl⟩)
        simpa using this
      rw [this]
      simp
    · rw [beq_false_of_ne hx]
      simp [List.lookup_cons, beq_false_of_ne hx]
theorem RepAs.length {g : Heap} {la : List Addr} {vs : List Value} {avs : List AV} (r : RepAs K g la vs avs) : vs.length = avs.length := by
  induction r with
  | nil => rfl
  | cons _ _ ih => rw [List.length_cons, List.length_cons, ih]
theorem RepAs.get {g : Heap} {la : List Addr} {vs : List Value} {avs : List AV} (r : RepAs K g la vs avs) : ∀ {i : Nat} {av : AV}, avs[i]? = some av → ∃ v, vs[i]? = some v ∧ RepA K g la v av := by
  induction r with
  | nil => intro i av e; cases e
  | cons a _ ih =>
    intro i av e
    cases i with
    | zero => cases e; exact ⟨_, rfl, a⟩
    | succ i => exact ih e
theorem pre_le {la0 la : List Addr} (h : ∀ (i : Nat) (a : Addr), la0[i]? = some a → la[i]? = some a) : la0.length ≤ la.length := by
  by_cases h0 : la0.length = 0
  · lia
  · have h1 : la0[la0.length - 1]? = some (la0[la0.length - 1]'(by lia)) := List.getElem?_eq_getElem _
    have := (List.getElem?_eq_some_iff.mp (h _ _ h1)).1
    lia
theorem Inv.done {S : Sta} (ok : StaOk K S) {ρ : Rho} {σ : Sto} {la : List Addr} {h : Heap} (x : Inv K S ρ σ la h) :
    StepC S.h0 S.fr0 S.σ0 S.la0 h (σ.take S.la0.length) ∧ (seen S σ la h).StaysIn (hideAll h (S.fr0 ++ live (σ.take S.la0.length) S.la0)) := by
  have tk : ∀ (k : Nat) (ds : List PyData), (σ.take S.la0.length)[k]? = some (some ds) → k < S.la0.length ∧ σ[k]? = some (some ds) := by
    intro k ds e
    rw [List.getElem?_take] at e
    split at e
    · exact ⟨by assumption, e⟩
    · cases e
  have lk : ∀ (k : Nat) (a : Addr), k < S.la0.length → la[k]? = some a → S.la0[k]? = some a := by
    intro k a hk e
    have h1 : S.la0[k]? = some (S.la0[k]'hk) := List.getElem?_eq_getElem hk
    rw [x.pre k _ h1] at e
    rw [h1]; exact e
  have hlen := pre_le x.pre
  have hsub : ∀ a ∈ live (σ.take S.la0.length) S.la0, a ∈ live σ la := by
    intro a ha
    obtain ⟨k, ds, h1, h2⟩ := mem_live.mp ha
    exact mem_live.mpr ⟨k, ds, (tk k ds h1).2, x.pre k a h2⟩
  have hseen : (seen S σ la h).StaysIn (hideAll h (S.fr0 ++ live (σ.take S.la0.length) S.la0)) := seen_mono fun b o hb e => by
    refine ⟨e, fun q => hb ?_⟩
    rcases List.mem_append.mp q with q | q
    · exact List.mem_append.mpr (.inl (List.mem_append.mpr (.inr q)))
    · exact List.mem_append.mpr (.inr (hsub b q))
  refine ⟨⟨fun b o e hb => x.keep0 b o e hb, ⟨?_, fun k ds e => ?_, fun i j di dj a e1 e2 e3 e4 => ?_, fun a ha q => ?_⟩, fun k ds e => ?_, x.alive⟩, hseen⟩
  · rw [List.length_take, ← x.locs.len]; lia
  · obtain ⟨hk, e'⟩ := tk k ds e
    refine glq fun Gq kq => ?_
    obtain ⟨a, vs, n, h1, h2, h3⟩ := x.locs.at' k ds e'
    refine kq ?_
    clear kq Gq
    exact ⟨a, vs, n, lk k a hk h1, h2, h3.mono hseen⟩
  · exact x.locs.inj i j di dj a (tk i di e1).2 (tk j dj e2).2 (x.pre i a e3) (x.pre j a e4)
  · exact x.locs.out a (hsub a ha) (List.mem_append.mpr (.inr q))
  · obtain ⟨hk, e'⟩ := tk k ds e
    exact x.mon k ds e' hk
theorem entry (F : Facts K) (f : Fn) {b : SC} {ar : Nat} (hb : SndB K (DF f).scope (DF f).body b)
    (hpar : (DF f).scope.names.take ar = (DF f).params.args.map fun a => (a.arg, NameKind.local)) (har : (DF f).params.args.length = ar)
    (hbind : ∀ (pm cd doc : Value) (vs : List Value), vs.length = ar → bindArgs (Calls.docDef (DF f).str (DF f).params (DF f).body (DF f).scope pm cd doc) ⟨vs, []⟩ = pure (((DF f).params.args.map (·.arg)).zip vs))
    (hnod : ((DF f).scope.names.map (·.1)).Nodup) (hco : (DF f).scope.isCoroutine = false) (hgen : (DF f).scope.isGenerator = false) (hk : (DF f).scope.kind = .function) (hcell : ∀ x ∈ (DF f).scope.names, x.2 ≠ .cell)
    {n : Nat} {orc : Orc} (ho : OrcOk K n orc) (avs : List AV) (σ : Sto) : CallAt K (n + 1) f avs σ (runF ar (DF f).scope.names.length b orc avs σ) := by
  intro A outer frs la s vs Q E hfr hh hdep hun hfo hfi hgb hgbh hloc hrep h
  unfold runF at h
  by_cases hlen : avs.length = ar
  case neg => rw [if_neg hlen] at h; exact h.elim
  rw [if_pos hlen] at h
  refine glq fun Gq kq => ?_
  obtain ⟨o, pm, c', doc, h1, h2, h3, h4⟩ := F.fns f
  refine kq ?_
  clear kq Gq
  have hvl : vs.length = ar := hrep.length.trans hlen
  have hparl : ∀ (i : Nat), i < ar → ∃ x, ((DF f).params.args.map (·.arg))[i]? = some x ∧ (DF f).scope.names[i]? = some (x, .local) := by
    intro i hi
    have e : ((DF f).scope.names.take ar)[i]? = (DF f).scope.names[i]? := by rw [List.getElem?_take, if_pos hi]
    rw [hpar, List.getElem?_map] at e
    have hi' : i < (DF f).params.args.length := by lia
    rw [List.getElem?_eq_getElem hi'] at e
    exact ⟨((DF f).params.args[i]).arg, by rw [List.getElem?_map, List.getElem?_eq_getElem hi']; rfl, e.symm⟩
  have hpn : ((DF f).params.args.map (·.arg)).Nodup := by
    have e : (DF f).params.args.map (·.arg) = ((DF f).scope.names.map (·.1)).take ar := by
      rw [← List.map_take, hpar, List.map_map]; rfl
    rw [e]
    exact List.Nodup.sublist (List.take_sublist _ _) hnod
  refine wpAny_call ?_
  refine PyProof.Rows.call_pos (by lia) (hgb _ _ h1) h2 (F.nolimit.keeps hgb) (h3.keeps hgb) (hbind pm (.ref c') doc vs hvl) ?_ (fun h₁ Fr₁ => ?_) hco hgen hk hcell
  · intro p hp
    obtain ⟨i, hi⟩ := List.getElem?_of_mem hp
    have h5 := List.getElem?_zip_eq_some.mp hi
    have hi' : i < ar := by
      have := (List.getElem?_eq_some_iff.mp h5.2).1
      lia
    obtain ⟨x, g1, g2⟩ := hparl i hi'
    have e : x = p.1 := Option.some.inj (g1.symm.trans h5.1)
    exact names_look hnod (e ▸ g2)
  · -- the activation
    let env := envOf (DF f).str (DF f).scope s.heap.objs.size (K.fa f) (.ref c')
    let S : Sta := { A := A.deeper env, env := env, outer := outer, n := n, h0 := s.heap, σ0 := σ, la0 := la, fr0 := frs }
    have hnL : s.heap.get? s.heap.objs.size = none := Heap.get?_none_of_le (Nat.le_refl _)
    have hLfr : s.heap.objs.size ∉ frs := fun q => by
      have := hfi _ q
      rw [hnL] at this; cases this
    have ok : StaOk K S :=
      { frames := Around.frames_deeper hfr, hand := hh, depth := by show A.depth + 1 + n + 8 < _; lia, units := by show A.units + 3 + 8 * n + 5000 < _; lia, fn := hk, glob := rfl, blt := rfl, frame := rfl, nod := hnod,
        fresh := fun a ha => by
          have : a = s.heap.objs.size := by simpa [Sta.own, S, env, envOf] using ha
          rw [this]; exact hnL
        fro := hfo, frin := hfi, frX := fun b hb q => hloc.out b q hb, ownnod := by simp [Sta.own, S, env, envOf], one := fun p hp => by simp [S, env, envOf] at hp }
    have hfrs : ∀ b, b ∈ S.frs ↔ b = s.heap.objs.size ∨ b ∈ frs := fun b => by simp [Sta.frs, Sta.own, S, env, envOf]
    have hLlive : s.heap.objs.size ∉ live σ la := fun q => by
      obtain ⟨k, ds, e1, e2⟩ := mem_live.mp q
      obtain ⟨a, ws, m, e3, e4, _⟩ := hloc.at' k ds e1
      rw [e2] at e3; cases e3
      have e4' : s.heap.get? s.heap.objs.size = some _ := e4
      rw [hnL] at e4'; cases e4'
    have hseen : (hideAll s.heap (frs ++ live σ la)).StaysIn (seen S σ la h₁) := seen_mono fun b o hb e => by
      refine ⟨Fr₁.keep b o e, fun q => ?_⟩
      rcases List.mem_append.mp q with q | q
      · rcases (hfrs b).mp q with rfl | q
        · rw [hnL] at e; cases e
        · exact hb (List.mem_append.mpr (.inl q))
      · exact hb (List.mem_append.mpr (.inr q))
    have i0 : Inv K S (avs.map some ++ List.replicate ((DF f).scope.names.length - ar) none) σ la h₁ := by
      refine ⟨fun b o e => Fr₁.keep b o (hgb b o e), fun b hb => ?_, fun b o e _ => Fr₁.keep b o e, fun b hb => ?_, fun i a e => e, hloc.len, fun k ds e _ => ⟨ds, e⟩, fun k a e hk => ?_, ?_, fun p hp => by simp [S] at hp, fun p hp => by simp [S, env, envOf] at hp, _, Fr₁.ns, fun i x kd av hx hr => ?_⟩
      · rcases List.mem_append.mp hb with q | q
        · rcases (hfrs b).mp q with rfl | q
          · cases e : K.GB.get? s.heap.objs.size with
            | none => rfl
            | some o =>
              have := hgb _ _ e
              rw [hnL] at this; cases this
          · exact hgbh b (List.mem_append.mpr (.inl q))
        · exact hgbh b (List.mem_append.mpr (.inr q))
      · obtain ⟨o, ho⟩ := Option.isSome_iff_exists.mp hb
        rw [Fr₁.keep b o ho]; rfl
      · have := (List.getElem?_eq_some_iff.mp e).1
        have hk' : la.length ≤ k := hk
        lia
      · refine ⟨hloc.len, fun k ds e => ?_, hloc.inj, fun a ha q => ?_⟩
        · refine glq fun Gq kq => ?_
          obtain ⟨a, ws, m, e1, e2, e3⟩ := hloc.at' k ds e
          refine kq ?_
          clear kq Gq
          exact ⟨a, ws, m, e1, Fr₁.keep _ _ e2, e3.mono hseen⟩
        · rcases (hfrs a).mp q with rfl | q
          · exact hLlive ha
          · exact hloc.out a ha q
      · have hi : i < ar := by
          by_cases hi : i < ar
          · exact hi
          · exfalso
            rw [List.getElem?_append_right (by rw [List.length_map]; lia), List.getElem?_replicate] at hr
            split at hr <;> cases hr
        rw [List.getElem?_append_left (by rw [List.length_map]; lia), List.getElem?_map] at hr
        obtain ⟨av', hav, e⟩ := Option.map_eq_some_iff.mp hr
        cases e
        obtain ⟨v, hv, hrv⟩ := hrep.get hav
        obtain ⟨x', g1, g2⟩ := hparl i hi
        have e : (x', NameKind.local) = (x, kd) := Option.some.inj (g2.symm.trans hx)
        cases e
        refine ⟨v, .inl ⟨rfl, ?_⟩, hrv.mono hseen fun _ _ e => e⟩
        have hz : ((((DF f).params.args.map (·.arg)).zip vs).map (·.1)).Nodup := by
          rw [List.map_fst_zip (by rw [List.length_map]; lia)]; exact hpn
        exact (rev_lookup hz x).trans (zip_lookup hpn g1 hv)
    refine hb S ok rfl orc ho _ σ la _ _ _ i0 ?_
    cases hr : b orc (avs.map some ++ List.replicate ((DF f).scope.names.length - ar) none) σ with
    | bad => rw [hr] at h; exact h
    | exc =>
      rw [hr] at h
      intro e h' tk' hx
      refine ExIn.leaves (s := { s with heap := h', toks := tk' }) ok.frames ok.frame hx.1 fun h'' a0 hf hu => ?_
      exact h e h'' tk' ⟨⟨a0, hf⟩, hx.2.trans hu⟩
    | ok r =>
      obtain ⟨fl, ρ', σ'⟩ := r
      rw [hr, Res.bind_ok] at h
      intro fw h' la' tk' i' m' hfl
      obtain ⟨st, ms⟩ := i'.done ok
      have hσ : σ.length = la.length := hloc.len.symm
      unfold finF at h
      cases fl with
      | next =>
        cases hfl
        refine h .none h' tk' ?_ .none
        rw [hσ]; exact st
      | ret av =>
        obtain ⟨v, rfl, rv⟩ := hfl
        cases av with
        | d y =>
          refine h v h' tk' (by rw [hσ]; exact st) ?_
          rw [hσ]; exact RD.mono ms rv
        | tab D =>
          obtain ⟨a, rfl, T⟩ := rv
          refine h _ h' tk' (by rw [hσ]; exact st) ⟨a, rfl, ?_⟩
          rw [hσ]; exact T.keep ms
        | loc k =>
          dsimp only at h
          by_cases hk : σ.length ≤ k
          case neg => rw [if_neg hk] at h; exact h.elim
          rw [if_pos hk] at h
          rcases hds : σ'[k]? with _ | _ | ds
          · rw [hds] at h; exact h.elim
          · rw [hds] at h; exact h.elim
          · rw [hds] at h
            dsimp only at h
            obtain ⟨a, ha, rfl⟩ := rv
            refine h _ h' tk' (by rw [hσ]; exact st) ?_
            refine glq fun Gq kq => ?_
            obtain ⟨a', ws, m, g1, g2, g3⟩ := i'.locs.at' k ds hds
            refine kq ?_
            clear kq Gq
            rw [ha] at g1; cases g1
            refine RD.list (n := m) (seen_iff.mpr ⟨g2, fun q => ?_⟩) (by rw [hσ]; exact g3.mono ms)
            rcases List.mem_append.mp q with q | q
            · exact i'.locs.out a (mem_live.mpr ⟨k, ds, hds, ha⟩) ((hfrs a).mpr (.inr q))
            · obtain ⟨j, dj, f1, f2⟩ := mem_live.mp q
              rw [List.getElem?_take] at f1
              split at f1
              · rename_i hj
                have := i'.locs.inj j k dj ds a f1 hds (i'.pre j a f2) ha
                lia
              · cases f1
end
section
variable {K : Pack} {sc : Scope}
inductive EntIs (env : Env) (pos : Pos) : Sem Value × Sem Value → Str × Int → Prop
  | mk (x : Str) (i : Int) (k k' : Nat) (p p' : Pos) : EntIs env pos (eval (.Constant (.str x) k p) env, (do let v ← eval (.Constant (.int i) k' p') env; standAt pos; pure v)) (x, i)
inductive EntsAre (env : Env) (pos : Pos) : List (Sem Value × Sem Value) → List (Str × Int) → Prop
  | nil : EntsAre env pos [] []
  | cons {p e ps es} : EntIs env pos p e → EntsAre env pos ps es → EntsAre env pos (p :: ps) (e :: es)
noncomputable def entD (es : List (Str × Int)) : List (PyData × PyData) := es.map fun e => (.str e.1, .int e.2)
theorem flat_snoc {kvs : List (Str × Value)} {D : List (PyData × PyData)} (h : PyProof.V.FlatPairs PyData.str kvs D) {x : Str} {v : Value} {d : PyData} (hv : PyProof.V.Flat v d) : PyProof.V.FlatPairs PyData.str (kvs ++ [(x, v)]) (D ++ [(.str x, d)]) := by
  induction h with
  | nil => exact .cons hv .nil
  | cons a _ ih => exact .cons a ih
theorem keys_of {kvs : List (Str × Value)} {D : List (PyData × PyData)} (h : PyProof.V.FlatPairs PyData.str kvs D) : D.map (·.1) = kvs.map fun q => PyData.str q.1 := by
  induction h with
  | nil => rfl
  | cons a _ ih => rw [List.map_cons, List.map_cons, ih]
theorem long_store {A : Around} {E : Value → Shared → Prop} {env : Env} {pos : Pos} {d : Addr} {Q : PUnit → Shared → Prop} {ps : List (Sem Value × Sem Value)} {es : List (Str × Int)} (he : EntsAre env pos ps es) : ∀ (acc : List (Str × Value)) (D : List (PyData × PyData)) (s : Shared),
    s.heap.DictOf (strKind K.prog K.w) d acc → PyProof.V.FlatPairs PyData.str acc D → ((D ++ entD es).map (·.1)).Nodup → acc.length + es.length ≤ 1000 →
    (∀ h' tk' kvs, h'.DictOf (strKind K.prog K.w) d kvs → PyProof.V.FlatPairs PyData.str kvs (D ++ entD es) → Heap.SameBut d s.heap h' → Q PUnit.unit { s with heap := h', toks := tk' }) →
    wpAny (model K.prog K.w) A (forIn ps PUnit.unit fun (x : Sem Value × Sem Value) (_ : PUnit) => (do let kv ← x.1; let vv ← holding [kv] x.2; holding [kv, vv] (dictSet d kv vv); pure (ForInStep.yield PUnit.unit) : Sem (ForInStep PUnit))) Q E s := by
  induction he with
  | nil =>
    intro acc D s hd hf hn hz h
    rw [List.forIn_nil]
    exact wpAny_pure (h s.heap s.toks acc hd (by simpa [entD] using hf) (Heap.SameBut.refl _ _))
  | cons hp r ih =>
    intro acc D s hd hf hn hz h
    obtain ⟨x, i, k, k', p, p'⟩ := hp
    rename_i ps es
    rw [List.forIn_cons]
    rw [List.length_cons] at hz
    refine wpAny_bind ?_
    refine wpAny_bind (Calls.Constant_str (env := env) (x := x) (k := k) (pos := p) ?_)
    refine wpAny_bind (wpAny_holding ?_)
    refine wpAny_bind (wpAny_bind (m := eval (.Constant (.int i) k' p') env) (wpAny_Constant_int (env := env) (i := i) (k := k') (pos := p') ?_))
    refine wpAny_pure (wpAny_bind (wpAny_standAt (wpAny_pure ?_)))
    refine wpAny_bind (wpAny_holding ?_)
    refine wpAny_dictSet_pairs (knd := strKind K.prog K.w) (k := x) (strKind_is K.prog K.w x _) hd (fun h₁ hd₁ hs₁ => wpAny_pure ?_) (seqSz _ (by lia))
    have hst : stored acc x (.int i (s.toks + 1)) = acc ++ [(x, .int i (s.toks + 1))] := by
      unfold stored
      rw [if_neg]
      intro hany
      obtain ⟨q, hq, he⟩ := List.any_eq_true.mp hany
      have he : q.1 = x := of_decide_eq_true he
      have hin : PyData.str x ∈ D.map (·.1) := by
        rw [keys_of hf]
        exact List.mem_map.mpr ⟨q, hq, by rw [he]⟩
      rw [List.map_append, List.nodup_append] at hn
      exact hn.2.2 _ hin (PyData.str x) (List.mem_map.mpr ⟨(.str x, .int i), List.mem_map.mpr ⟨(x, i), .head _, rfl⟩, rfl⟩) rfl
    rw [hst] at hd₁
    refine ih (acc ++ [(x, .int i (s.toks + 1))]) (D ++ [(.str x, .int i)]) _ hd₁ (flat_snoc hf fun g => .int i _) (by simpa [entD] using hn) (by rw [List.length_append]; simp; lia) fun h' tk' kvs a b c => ?_
    exact h h' tk' kvs a (by simpa [entD] using b) (hs₁.trans c)
inductive KVs : List (Option Expr) → List Expr → List (Str × Int) → Prop
  | nil : KVs [] [] []
  | cons {ks vs es} (x : Str) (i : Int) (k k' : Nat) (p p' : Pos) : KVs ks vs es → KVs (some (.Constant (.str x) k p) :: ks) (.Constant (.int i) k' p' :: vs) ((x, i) :: es)
theorem KVs.ents {env : Env} {p : Pos} {ks vs es} (h : KVs ks vs es) :
    ∃ ps, (evalEachOpt ks env).zip ((evalEach vs env).map fun v => do let x ← v; standAt p; pure x) = ps.map (fun q => (some q.1, q.2)) ∧ EntsAre env p ps es := by
  induction h with
  | nil => exact ⟨[], rfl, .nil⟩
  | cons x i k k' q q' _ ih =>
    obtain ⟨ps, e1, e2⟩ := ih
    refine ⟨(eval (.Constant (.str x) k q) env, (do let v ← eval (.Constant (.int i) k' q') env; standAt p; pure v)) :: ps, ?_, .cons (.mk x i k k' q q') e2⟩
    rw [List.map_cons, ← e1]; rfl
theorem snd_Dict (F : Facts K) {keys : List (Option Expr)} {values : List Expr} {p : Pos} {es : List (Str × Int)}
    (hsh : KVs keys values es)
    (hlen : es.length = 16) (hn : ((entD es).map (·.1)).Nodup) : SndE K sc (.Dict keys values p) (cPri (entD es)) := fun S ok hs orc ho ρ σ la s Q E x h => by
  obtain ⟨ps, e1, e2⟩ := hsh.ents (env := S.env) (p := p)
  have hpl : ps.length = 16 := by
    have : ∀ {ps : List (Sem Value × Sem Value)} {es : List (Str × Int)}, EntsAre S.env p ps es → ps.length = es.length := by
      intro ps es h
      induction h with
      | nil => rfl
      | cons _ _ ih => rw [List.length_cons, List.length_cons, ih]
    rw [this e2, hlen]
  rw [arm_eval_Dict, e1, dictDisplay_pairs ps (fun q => by rw [q] at hpl; cases hpl) (by lia)]
  refine wpAny_bind (wpAny_standAt (wpAny_bind ?_))
  unfold subDict
  refine wpAny_bind (wpAny_alloc ?_)
  refine wpAny_bind (wpAny_holding ?_)
  rw [if_neg (by lia)]
  have i1 := x.ext (h' := s.heap.push { cls := .type "dict", data := .dict #[] }) fun b o e => Heap.get?_push_of_some _ e
  refine wpAny_bind (wpAny_rule ?_)
  have hfin : ∀ h' tk' kvs, h'.DictOf (strKind K.prog K.w) s.heap.objs.size kvs → PyProof.V.FlatPairs PyData.str kvs ([] ++ entD es) → Heap.SameBut s.heap.objs.size (s.heap.push { cls := .type "dict", data := .dict #[] }) h' → Q (.ref s.heap.objs.size) { s with heap := h', toks := tk' } := by
    intro h' tk' kvs hd hf hsb
    have keep : ∀ b o, s.heap.get? b = some o → h'.get? b = some o := fun b o e => (hsb.2 b (Nat.ne_of_lt (Heap.lt_size e))).trans (Heap.get?_push_of_some _ e)
    obtain ⟨i2, m2⟩ := x.ext keep
    refine h _ h' tk' i2 m2 ⟨_, rfl, ?_, kvs, ?_, hf⟩
    · have hlt : sysModules < s.heap.objs.size := by
        obtain ⟨o, es', ep, ho', _⟩ := (F.g.keeps x.gb : s.heap.Ns mainGlobals K.mg)
        exact Nat.lt_trans (by decide) (Heap.lt_size ho')
      exact beq_false_of_ne (Nat.ne_of_gt hlt)
    · obtain ⟨o, es', ep, ho', r⟩ := hd
      refine ⟨o, es', ep, seen_iff.mpr ⟨ho', fun q => ?_⟩, r⟩
      have hn : s.heap.get? s.heap.objs.size = none := Heap.get?_none_of_le (Nat.le_refl _)
      rcases List.mem_append.mp q with q | q
      · have := x.frin ok _ q
        rw [hn] at this; cases this
      · obtain ⟨k, ds, h1, h2⟩ := mem_live.mp q
        obtain ⟨a, vs, n, h3, h4, _⟩ := x.locs.at' k ds h1
        rw [h2] at h3; cases h3
        have h4' : s.heap.get? s.heap.objs.size = some _ := h4
        rw [hn] at h4'; cases h4'
  refine wpAny_bind ?_
  exact long_store (K := K) (d := s.heap.objs.size) (A := S.A) (E := E) e2 [] [] { s with heap := s.heap.push { cls := .type "dict", data := .dict #[] } } (Heap.DictOf.new _) .nil hn (by rw [hlen]; decide) fun h' tk' kvs a b c => wpAny_pure (wpAny_pure (wpAny_pure (hfin h' tk' kvs a b c)))
end
noncomputable def sh_kind_at : SC := sCons (sIf (tE (cBin oLt (cV 1) (cLen (cV 0)))) (sCons (sRet (cBin oItem (cBin oItem (cV 0) (cV 1)) (cK (.int 0)))) (sNil)) (sNil)) (sCons (sRet (cK (.str (Str.ofString "")))) (sNil))
noncomputable def sh_is_op : SC := sCons (sRet (cAnd (cBin oLt (cV 1) (cLen (cV 0))) [cBin oEq (cBin oItem (cBin oItem (cV 0) (cV 1)) (cK (.int 0))) (cK (.str (Str.ofString "OP"))), cBin oEq (cBin oItem (cBin oItem (cV 0) (cV 1)) (cK (.int 1))) (cV 2)])) (sNil)
noncomputable def sh_need_op : SC := sCons (sIf (tNot (tE (cCall .is_op [cV 0, cV 1, cV 2]))) (sCons (sRaise (cBin oCat (cK (.str (Str.ofString "a mark is missing: "))) (cV 2))) (sNil)) (sNil)) (sCons (sRet (cBin oAdd (cV 1) (cK (.int 1)))) (sNil))
noncomputable def sh_need_name : SC := sCons (sIf (tE (cBin oNe (cCall .kind_at [cV 0, cV 1]) (cK (.str (Str.ofString "NAME"))))) (sCons (sRaise (cK (.str (Str.ofString "a name is missing")))) (sNil)) (sNil)) (sCons (sRet (cTup [cBin oItem (cBin oItem (cV 0) (cV 1)) (cK (.int 1)), cBin oAdd (cV 1) (cK (.int 1))])) (sNil))
noncomputable def sh_need_int : SC := sCons (sIf (tE (cBin oNe (cCall .kind_at [cV 0, cV 1]) (cK (.str (Str.ofString "INT"))))) (sCons (sRaise (cK (.str (Str.ofString "a whole number is missing")))) (sNil)) (sNil)) (sCons (sRet (cTup [cBin oItem (cBin oItem (cV 0) (cV 1)) (cK (.int 1)), cBin oAdd (cV 1) (cK (.int 1))])) (sNil))
noncomputable def sh_close_at : SC := sCons (sAsg 2 (cK (.int 0))) (sCons (sForR 3 (cV 1) (cLen (cV 0)) (sCons (sIf (tE (cCall .is_op [cV 0, cV 3, cK (.str (Str.ofString "("))])) (sCons (sAug 2 oAdd (cK (.int 1))) (sNil)) (sCons (sIf (tE (cCall .is_op [cV 0, cV 3, cK (.str (Str.ofString ")"))])) (sCons (sAug 2 oSub (cK (.int 1))) (sCons (sIf (tE (cBin oEq (cV 2) (cK (.int 0)))) (sCons (sRet (cV 3)) (sNil)) (sNil)) (sNil))) (sNil)) (sNil))) (sNil))) (sCons (sRaise (cK (.str (Str.ofString "a bracket is not closed")))) (sNil)))
noncomputable def sh_priority_at : SC := sCons (sIf (tE (cBin oNe (cCall .kind_at [cV 0, cV 1]) (cK (.str (Str.ofString "OP"))))) (sCons (sRet (cK (.int 0))) (sNil)) (sNil)) (sCons (sRet (cGet (cBin oItem (cBin oItem (cV 0) (cV 1)) (cK (.int 1))) 0)) (sNil))
noncomputable def sh_parse_expr : SC := sCons (sRet (cCall .parse_binary [cV 0, cV 1, cK (.int 1)])) (sNil)
noncomputable def sh_parse_binary : SC := sCons (sUnp 3 1 (cCall .parse_first [cV 0, cV 1, cV 2])) (sCons (sAsg 4 (cK (.bool false))) (sCons (sWhile (tE (cBin oGe (cCall .priority_at [cV 0, cV 1]) (cV 2))) (sCons (sAsg 5 (cCall .priority_at [cV 0, cV 1])) (sCons (sAsg 6 (cBin oItem (cBin oItem (cV 0) (cV 1)) (cK (.int 1)))) (sCons (sIf (tAnd [tE (cBin oEq (cV 5) (cK (.int 5))), tE (cV 4)]) (sCons (sRaise (cK (.str (Str.ofString "a relation behind a relation")))) (sNil)) (sNil)) (sCons (sIf (tE (cBin oEq (cV 5) (cK (.int 9)))) (sCons (sUnp 7 1 (cCall .parse_binary [cV 0, cBin oAdd (cV 1) (cK (.int 1)), cK (.int 9)])) (sNil)) (sCons (sUnp 7 1 (cCall .parse_binary [cV 0, cBin oAdd (cV 1) (cK (.int 1)), cBin oAdd (cV 5) (cK (.int 1))])) (sNil))) (sCons (sAsg 3 (cTup [cK (.str (Str.ofString "bin")), cV 6, cV 3, cV 7])) (sCons (sAsg 4 (cBin oEq (cV 5) (cK (.int 5)))) (sNil)))))))) (sCons (sRet (cTup [cV 3, cV 1])) (sNil))))
noncomputable def sh_parse_first : SC := sCons (sIf (tE (cCall .is_op [cV 0, cV 1, cK (.str (Str.ofString ".NOT."))])) (sCons (sIf (tE (cBin oGt (cV 2) (cK (.int 4)))) (sCons (sRaise (cK (.str (Str.ofString ".NOT. cannot stand here")))) (sNil)) (sNil)) (sCons (sUnp 3 1 (cCall .parse_binary [cV 0, cBin oAdd (cV 1) (cK (.int 1)), cBin oAdd (cK (.int 4)) (cK (.int 1))])) (sCons (sRet (cTup [cTup [cK (.str (Str.ofString "un")), cK (.str (Str.ofString ".NOT.")), cV 3], cV 1])) (sNil)))) (sNil)) (sCons (sIf (tOr [tE (cCall .is_op [cV 0, cV 1, cK (.str (Str.ofString "+"))]), tE (cCall .is_op [cV 0, cV 1, cK (.str (Str.ofString "-"))])]) (sCons (sIf (tE (cBin oGt (cV 2) (cK (.int 7)))) (sCons (sRaise (cK (.str (Str.ofString "a sign cannot stand here")))) (sNil)) (sNil)) (sCons (sAsg 4 (cBin oItem (cBin oItem (cV 0) (cV 1)) (cK (.int 1)))) (sCons (sUnp 3 1 (cCall .parse_binary [cV 0, cBin oAdd (cV 1) (cK (.int 1)), cBin oAdd (cK (.int 7)) (cK (.int 1))])) (sCons (sRet (cTup [cTup [cK (.str (Str.ofString "un")), cV 4, cV 3], cV 1])) (sNil))))) (sNil)) (sCons (sRet (cCall .parse_primary [cV 0, cV 1])) (sNil)))
noncomputable def sh_parse_primary : SC := sCons (sAsg 2 (cCall .kind_at [cV 0, cV 1])) (sCons (sIf (tE (cBin oEq (cV 2) (cK (.str (Str.ofString "NAME"))))) (sCons (sRet (cCall .parse_named [cV 0, cV 1])) (sNil)) (sNil)) (sCons (sIf (tAnd [tE (cBin oEq (cV 2) (cK (.str (Str.ofString "OP")))), tE (cBin oEq (cBin oItem (cBin oItem (cV 0) (cV 1)) (cK (.int 1))) (cK (.str (Str.ofString "("))))]) (sCons (sRet (cCall .parse_bracket [cV 0, cV 1])) (sNil)) (sNil)) (sCons (sIf (tOr [tE (cBin oEq (cV 2) (cK (.str (Str.ofString "")))), tE (cBin oEq (cV 2) (cK (.str (Str.ofString "OP"))))]) (sCons (sRaise (cK (.str (Str.ofString "an operand is missing")))) (sNil)) (sNil)) (sCons (sRet (cTup [cCall .constant_of [cV 2, cBin oItem (cBin oItem (cV 0) (cV 1)) (cK (.int 1)), cK (.int 1)], cBin oAdd (cV 1) (cK (.int 1))])) (sNil)))))
noncomputable def sh_constant_of : SC := sCons (sIf (tE (cBin oEq (cV 0) (cK (.str (Str.ofString "INT"))))) (sCons (sRet (cTup [cK (.str (Str.ofString "int")), cBin oMul (cV 2) (cV 1)])) (sNil)) (sNil)) (sCons (sIf (tE (cBin oEq (cV 0) (cK (.str (Str.ofString "REAL"))))) (sCons (sRet (cTup [cK (.str (Str.ofString "real")), cBin oMul (cV 2) (cBin oItem (cV 1) (cK (.int 0))), cBin oItem (cV 1) (cK (.int 1))])) (sNil)) (sNil)) (sCons (sIf (tE (cBin oEq (cV 0) (cK (.str (Str.ofString "DBLE"))))) (sCons (sRet (cTup [cK (.str (Str.ofString "dble")), cBin oMul (cV 2) (cBin oItem (cV 1) (cK (.int 0))), cBin oItem (cV 1) (cK (.int 1))])) (sNil)) (sNil)) (sCons (sIf (tE (cBin oEq (cV 0) (cK (.str (Str.ofString "LOG"))))) (sCons (sRet (cTup [cK (.str (Str.ofString "log")), cV 1])) (sNil)) (sNil)) (sCons (sRet (cTup [cK (.str (Str.ofString "char")), cV 1])) (sNil)))))
noncomputable def sh_parse_bracket : SC := sCons (sIf (tE (cCall .is_complex [cV 0, cV 1])) (sCons (sUnp 2 3 (cCall .complex_part [cV 0, cBin oAdd (cV 1) (cK (.int 1))])) (sCons (sUnp 4 5 (cCall .complex_part [cV 0, cBin oAdd (cV 3) (cK (.int 1))])) (sCons (sRet (cTup [cTup [cK (.str (Str.ofString "cplx")), cV 2, cV 4], cCall .need_op [cV 0, cV 5, cK (.str (Str.ofString ")"))]])) (sNil)))) (sNil)) (sCons (sUnp 6 1 (cCall .parse_expr [cV 0, cBin oAdd (cV 1) (cK (.int 1))])) (sCons (sRet (cTup [cV 6, cCall .need_op [cV 0, cV 1, cK (.str (Str.ofString ")"))]])) (sNil)))
noncomputable def sh_part_end : SC := sCons (sIf (tOr [tE (cCall .is_op [cV 0, cV 1, cK (.str (Str.ofString "+"))]), tE (cCall .is_op [cV 0, cV 1, cK (.str (Str.ofString "-"))])]) (sCons (sAug 1 oAdd (cK (.int 1))) (sNil)) (sNil)) (sCons (sIf (tOr [tE (cBin oEq (cCall .kind_at [cV 0, cV 1]) (cK (.str (Str.ofString "INT")))), tE (cBin oEq (cCall .kind_at [cV 0, cV 1]) (cK (.str (Str.ofString "REAL"))))]) (sCons (sRet (cBin oAdd (cV 1) (cK (.int 1)))) (sNil)) (sNil)) (sCons (sRet (cNeg 1)) (sNil)))
noncomputable def sh_is_complex : SC := sCons (sAsg 2 (cCall .part_end [cV 0, cBin oAdd (cV 1) (cK (.int 1))])) (sCons (sIf (tOr [tE (cBin oLt (cV 2) (cK (.int 0))), tNot (tE (cCall .is_op [cV 0, cV 2, cK (.str (Str.ofString ","))]))]) (sCons (sRet (cK (.bool false))) (sNil)) (sNil)) (sCons (sAsg 3 (cCall .part_end [cV 0, cBin oAdd (cV 2) (cK (.int 1))])) (sCons (sRet (cAnd (cBin oGe (cV 3) (cK (.int 0))) [cCall .is_op [cV 0, cV 3, cK (.str (Str.ofString ")"))]])) (sNil))))
noncomputable def sh_complex_part : SC := sCons (sAsg 2 (cK (.int 1))) (sCons (sIf (tE (cCall .is_op [cV 0, cV 1, cK (.str (Str.ofString "-"))])) (sCons (sAsg 2 (cNeg 1)) (sNil)) (sNil)) (sCons (sIf (tE (cBin oEq (cCall .kind_at [cV 0, cV 1]) (cK (.str (Str.ofString "OP"))))) (sCons (sAug 1 oAdd (cK (.int 1))) (sNil)) (sNil)) (sCons (sRet (cTup [cCall .constant_of [cBin oItem (cBin oItem (cV 0) (cV 1)) (cK (.int 0)), cBin oItem (cBin oItem (cV 0) (cV 1)) (cK (.int 1)), cV 2], cBin oAdd (cV 1) (cK (.int 1))])) (sNil))))
noncomputable def sh_parse_named : SC := sCons (sUnp 2 1 (cCall .need_name [cV 0, cV 1])) (sCons (sAsg 3 (cTup [cK (.str (Str.ofString "name")), cV 2])) (sCons (sIf (tNot (tE (cCall .is_op [cV 0, cV 1, cK (.str (Str.ofString "("))]))) (sCons (sRet (cTup [cV 3, cV 1])) (sNil)) (sNil)) (sCons (sIf (tNot (tE (cCall .is_cut [cV 0, cV 1]))) (sCons (sUnp 4 1 (cCall .parse_arguments [cV 0, cV 1, cK (.bool false)])) (sCons (sAsg 3 (cTup [cK (.str (Str.ofString "ref")), cV 2, cV 4])) (sNil))) (sNil)) (sCons (sIf (tE (cCall .is_op [cV 0, cV 1, cK (.str (Str.ofString "("))])) (sCons (sRet (cCall .parse_cut [cV 0, cV 1, cV 3])) (sNil)) (sNil)) (sCons (sRet (cTup [cV 3, cV 1])) (sNil))))))
noncomputable def sh_is_cut : SC := sCons (sAsg 2 (cCall .close_at [cV 0, cV 1])) (sCons (sAsg 3 (cK (.int 0))) (sCons (sForR 4 (cBin oAdd (cV 1) (cK (.int 1))) (cV 2) (sCons (sIf (tE (cCall .is_op [cV 0, cV 4, cK (.str (Str.ofString "("))])) (sCons (sAug 3 oAdd (cK (.int 1))) (sNil)) (sCons (sIf (tE (cCall .is_op [cV 0, cV 4, cK (.str (Str.ofString ")"))])) (sCons (sAug 3 oSub (cK (.int 1))) (sNil)) (sCons (sIf (tAnd [tE (cBin oEq (cV 3) (cK (.int 0))), tE (cCall .is_op [cV 0, cV 4, cK (.str (Str.ofString ":"))])]) (sCons (sRet (cK (.bool true))) (sNil)) (sNil)) (sNil))) (sNil))) (sNil))) (sCons (sRet (cK (.bool false))) (sNil))))
noncomputable def sh_parse_cut : SC := sCons (sAsg 1 (cCall .need_op [cV 0, cV 1, cK (.str (Str.ofString "("))])) (sCons (sAsg 3 (cK .none)) (sCons (sAsg 4 (cK .none)) (sCons (sIf (tNot (tE (cCall .is_op [cV 0, cV 1, cK (.str (Str.ofString ":"))]))) (sCons (sUnp 3 1 (cCall .parse_expr [cV 0, cV 1])) (sNil)) (sNil)) (sCons (sAsg 1 (cCall .need_op [cV 0, cV 1, cK (.str (Str.ofString ":"))])) (sCons (sIf (tNot (tE (cCall .is_op [cV 0, cV 1, cK (.str (Str.ofString ")"))]))) (sCons (sUnp 4 1 (cCall .parse_expr [cV 0, cV 1])) (sNil)) (sNil)) (sCons (sRet (cTup [cTup [cK (.str (Str.ofString "sub")), cV 2, cV 3, cV 4], cCall .need_op [cV 0, cV 1, cK (.str (Str.ofString ")"))]])) (sNil)))))))
noncomputable def sh_parse_arguments : SC := sCons (sAsg 1 (cCall .need_op [cV 0, cV 1, cK (.str (Str.ofString "("))])) (sCons (sNew 3) (sCons (sIf (tE (cCall .is_op [cV 0, cV 1, cK (.str (Str.ofString ")"))])) (sCons (sRet (cTup [cV 3, cBin oAdd (cV 1) (cK (.int 1))])) (sNil)) (sNil)) (sCons (sWhile (tE (cK (.bool true))) (sCons (sIf (tAnd [tE (cV 2), tE (cCall .is_op [cV 0, cV 1, cK (.str (Str.ofString "*"))])]) (sCons (sUnp 4 1 (cCall .need_int [cV 0, cBin oAdd (cV 1) (cK (.int 1))])) (sCons (sApp 3 (cTup [cK (.str (Str.ofString "alt")), cV 4])) (sNil))) (sCons (sUnp 5 1 (cCall .parse_expr [cV 0, cV 1])) (sCons (sApp 3 (cV 5)) (sNil)))) (sCons (sIf (tNot (tE (cCall .is_op [cV 0, cV 1, cK (.str (Str.ofString ","))]))) (sCons (sRet (cTup [cV 3, cCall .need_op [cV 0, cV 1, cK (.str (Str.ofString ")"))]])) (sNil)) (sNil)) (sCons (sAug 1 oAdd (cK (.int 1))) (sNil))))) (sNil))))
noncomputable def sh_whole_expr : SC := sCons (sUnp 1 2 (cCall .parse_expr [cV 0, cK (.int 0)])) (sCons (sIf (tE (cBin oLt (cV 2) (cLen (cV 0)))) (sCons (sRaise (cK (.str (Str.ofString "something behind an expression")))) (sNil)) (sNil)) (sCons (sRet (cV 1)) (sNil)))
noncomputable def sh_law_rank : SC := sCons (sRet (cPri priD)) (sNil)
noncomputable def sh_law_ops : SC := sCons (sRet (cLst [cK (.str (Str.ofString "**")), cK (.str (Str.ofString "-")), cK (.str (Str.ofString "*")), cK (.str (Str.ofString ".EQ.")), cK (.str (Str.ofString "+")), cK (.str (Str.ofString "/")), cK (.str (Str.ofString "//")), cK (.str (Str.ofString ".AND.")), cK (.str (Str.ofString ".LT.")), cK (.str (Str.ofString ".OR.")), cK (.str (Str.ofString ".EQV.")), cK (.str (Str.ofString "**")), cK (.str (Str.ofString "+")), cK (.str (Str.ofString ".GE.")), cK (.str (Str.ofString ".NEQV.")), cK (.str (Str.ofString "*"))])) (sNil)
noncomputable def sh_law_marks : SC := sCons (sRet (cLst [cK (.str (Str.ofString ")")), cK (.str (Str.ofString ",")), cK (.str (Str.ofString ":")), cK (.str (Str.ofString "**")), cK (.str (Str.ofString "//")), cK (.str (Str.ofString ".EQ.")), cK (.str (Str.ofString "=")), cK (.str (Str.ofString "("))])) (sNil)
noncomputable def sh_law_names : SC := sCons (sRet (cLst [cK (.str (Str.ofString "A")), cK (.str (Str.ofString "B1")), cK (.str (Str.ofString "ZEBRA"))])) (sNil)
noncomputable def sh_law_operand : SC := sCons (sAsg 3 (cBin oMod (cV 0) (cK (.int 16)))) (sCons (sAsg 4 (cBin oDiv (cV 0) (cK (.int 16)))) (sCons (sIf (tOr [tE (cBin oLt (cV 3) (cK (.int 3))), tE (cBin oEq (cV 3) (cK (.int 12))), tE (cBin oEq (cV 3) (cK (.int 13)))]) (sCons (sApp 1 (cTup [cK (.str (Str.ofString "NAME")), cBin oItem (cCall .law_names []) (cBin oMod (cV 4) (cK (.int 3)))])) (sCons (sIf (tE (cBin oGt (cV 3) (cK (.int 3)))) (sCons (sApp 1 (cTup [cK (.str (Str.ofString "OP")), cK (.str (Str.ofString "("))])) (sCons (sApp 2 (cK (.int 1))) (sCons (sIf (tE (cBin oEq (cBin oMod (cV 4) (cK (.int 5))) (cK (.int 4)))) (sCons (sApp 1 (cTup [cK (.str (Str.ofString "OP")), cK (.str (Str.ofString ":"))])) (sNil)) (sNil)) (sNil)))) (sNil)) (sCons (sRet (cBin oGt (cV 3) (cK (.int 3)))) (sNil)))) (sNil)) (sCons (sIf (tE (cBin oEq (cV 3) (cK (.int 3)))) (sCons (sApp 1 (cTup [cK (.str (Str.ofString "INT")), cBin oMod (cV 4) (cK (.int 100))])) (sNil)) (sCons (sIf (tE (cBin oEq (cV 3) (cK (.int 4)))) (sCons (sApp 1 (cTup [cK (.str (Str.ofString "REAL")), cTup [cBin oMod (cV 4) (cK (.int 90)), cBin oSub (cBin oMod (cV 4) (cK (.int 5))) (cK (.int 2))]])) (sNil)) (sCons (sIf (tE (cBin oEq (cV 3) (cK (.int 5)))) (sCons (sApp 1 (cTup [cK (.str (Str.ofString "DBLE")), cTup [cBin oMod (cV 4) (cK (.int 90)), cBin oSub (cBin oMod (cV 4) (cK (.int 7))) (cK (.int 3))]])) (sNil)) (sCons (sIf (tE (cBin oEq (cV 3) (cK (.int 6)))) (sCons (sApp 1 (cTup [cK (.str (Str.ofString "LOG")), cBin oEq (cBin oMod (cV 4) (cK (.int 2))) (cK (.int 1))])) (sNil)) (sCons (sIf (tE (cBin oEq (cV 3) (cK (.int 7)))) (sCons (sApp 1 (cTup [cK (.str (Str.ofString "CHAR")), cBin oItem (cLst [cK (.str (Str.ofString "X")), cK (.str (Str.ofString "IT''S")), cK (.str (Str.ofString "="))]) (cBin oMod (cV 4) (cK (.int 3)))])) (sNil)) (sCons (sIf (tE (cBin oLt (cV 3) (cK (.int 10)))) (sCons (sApp 1 (cTup [cK (.str (Str.ofString "OP")), cK (.str (Str.ofString "("))])) (sCons (sApp 2 (cK (.int 1))) (sCons (sRet (cK (.bool true))) (sNil)))) (sCons (sIf (tE (cBin oLt (cV 3) (cK (.int 12)))) (sCons (sApp 1 (cTup [cK (.str (Str.ofString "OP")), cBin oItem (cLst [cK (.str (Str.ofString "-")), cK (.str (Str.ofString "+")), cK (.str (Str.ofString ".NOT."))]) (cIf (tE (cBin oEq (cV 3) (cK (.int 11)))) (cBin oMul (cBin oSub (cV 3) (cK (.int 10))) (cK (.int 2))) (cBin oMod (cV 4) (cK (.int 2))))])) (sCons (sRet (cK (.bool true))) (sNil))) (sCons (sIf (tE (cBin oEq (cV 3) (cK (.int 14)))) (sCons (sApp 1 (cTup [cK (.str (Str.ofString "OP")), cK (.str (Str.ofString "("))])) (sCons (sIf (tE (cBin oEq (cBin oMod (cV 4) (cK (.int 3))) (cK (.int 1)))) (sCons (sApp 1 (cTup [cK (.str (Str.ofString "OP")), cK (.str (Str.ofString "-"))])) (sNil)) (sNil)) (sCons (sApp 1 (cTup [cK (.str (Str.ofString "INT")), cBin oMod (cV 4) (cK (.int 7))])) (sCons (sApp 1 (cTup [cK (.str (Str.ofString "OP")), cK (.str (Str.ofString ","))])) (sCons (sApp 1 (cTup [cK (.str (Str.ofString "REAL")), cTup [cBin oMod (cV 4) (cK (.int 4)), cNeg 1]])) (sCons (sApp 1 (cTup [cK (.str (Str.ofString "OP")), cK (.str (Str.ofString ")"))])) (sNil))))))) (sCons (sApp 1 (cTup [cK (.str (Str.ofString "OP")), cBin oItem (cCall .law_marks []) (cBin oMod (cV 4) (cK (.int 8)))])) (sCons (sRet (cK (.bool true))) (sNil)))) (sNil))) (sNil))) (sNil))) (sNil))) (sNil))) (sNil))) (sNil))) (sCons (sRet (cK (.bool false))) (sNil)))))
noncomputable def sh_law_behind : SC := sCons (sAsg 3 (cBin oMod (cV 0) (cK (.int 12)))) (sCons (sAsg 4 (cBin oDiv (cV 0) (cK (.int 12)))) (sCons (sIf (tAnd [tE (cBin oGt (cV 3) (cK (.int 6))), tE (cBin oLt (cV 3) (cK (.int 9))), tE (cBin oNe (cV 2) (cLst []))]) (sCons (sApp 1 (cTup [cK (.str (Str.ofString "OP")), cK (.str (Str.ofString ")"))])) (sCons (sPop 2) (sCons (sIf (tE (cBin oEq (cBin oMod (cV 4) (cK (.int 4))) (cK (.int 3)))) (sCons (sApp 1 (cTup [cK (.str (Str.ofString "OP")), cK (.str (Str.ofString "("))])) (sCons (sApp 2 (cK (.int 1))) (sCons (sRet (cK (.bool true))) (sNil)))) (sNil)) (sCons (sRet (cK (.bool false))) (sNil))))) (sNil)) (sCons (sIf (tAnd [tE (cBin oGt (cV 3) (cK (.int 8))), tE (cBin oLt (cV 3) (cK (.int 11))), tE (cBin oNe (cV 2) (cLst []))]) (sCons (sApp 1 (cTup [cK (.str (Str.ofString "OP")), cBin oItem (cLst [cK (.str (Str.ofString ",")), cK (.str (Str.ofString ":"))]) (cBin oSub (cV 3) (cK (.int 9)))])) (sCons (sRet (cBin oNe (cBin oMod (cV 4) (cK (.int 3))) (cK (.int 2)))) (sNil))) (sNil)) (sCons (sIf (tAnd [tE (cBin oEq (cV 3) (cK (.int 11))), tE (cBin oEq (cBin oMod (cV 4) (cK (.int 2))) (cK (.int 1)))]) (sCons (sApp 1 (cTup [cK (.str (Str.ofString "NAME")), cK (.str (Str.ofString "B1"))])) (sCons (sRet (cK (.bool false))) (sNil))) (sNil)) (sCons (sApp 1 (cTup [cK (.str (Str.ofString "OP")), cBin oItem (cCall .law_ops []) (cBin oMod (cV 4) (cK (.int 16)))])) (sCons (sRet (cK (.bool true))) (sNil)))))))
noncomputable def sh_law_row : SC := sCons (sNew 1) (sCons (sNew 2) (sCons (sAsg 3 (cK (.bool true))) (sCons (sForL (tgt1 4) (cV 0) (sCons (sIf (tE (cV 3)) (sCons (sAsg 3 (cCall .law_operand [cV 4, cV 1, cV 2])) (sNil)) (sCons (sAsg 3 (cCall .law_behind [cV 4, cV 1, cV 2])) (sNil))) (sNil))) (sCons (sIf (tE (cV 3)) (sCons (sApp 1 (cTup [cK (.str (Str.ofString "NAME")), cK (.str (Str.ofString "A"))])) (sNil)) (sNil)) (sCons (sForL (tgt1 5) (cV 2) (sCons (sApp 1 (cTup [cK (.str (Str.ofString "OP")), cK (.str (Str.ofString ")"))])) (sNil))) (sCons (sRet (cV 1)) (sNil)))))))
noncomputable def sh_law_mark : SC := sCons (sIf (tE (cBin oEq (cBin oItem (cBin oItem (cV 0) (cV 1)) (cK (.int 0))) (cK (.str (Str.ofString "OP"))))) (sCons (sRet (cBin oItem (cBin oItem (cV 0) (cV 1)) (cK (.int 1)))) (sNil)) (sNil)) (sCons (sRet (cK (.str (Str.ofString "")))) (sNil))
noncomputable def sh_law_is_even : SC := sCons (sAsg 1 (cK (.int 0))) (sCons (sForR1 2 (cLen (cV 0)) (sCons (sIf (tE (cBin oEq (cCall .law_mark [cV 0, cV 2]) (cK (.str (Str.ofString "("))))) (sCons (sAug 1 oAdd (cK (.int 1))) (sNil)) (sNil)) (sCons (sIf (tE (cBin oEq (cCall .law_mark [cV 0, cV 2]) (cK (.str (Str.ofString ")"))))) (sCons (sAug 1 oSub (cK (.int 1))) (sNil)) (sNil)) (sCons (sIf (tE (cBin oLt (cV 1) (cK (.int 0)))) (sCons (sRet (cK (.bool false))) (sNil)) (sNil)) (sNil))))) (sCons (sRet (cBin oEq (cV 1) (cK (.int 0)))) (sNil)))
noncomputable def sh_law_close : SC := sCons (sAsg 2 (cK (.int 0))) (sCons (sWhile (tE (cK (.bool true))) (sCons (sIf (tE (cBin oEq (cCall .law_mark [cV 0, cV 1]) (cK (.str (Str.ofString "("))))) (sCons (sAug 2 oAdd (cK (.int 1))) (sNil)) (sNil)) (sCons (sIf (tE (cBin oEq (cCall .law_mark [cV 0, cV 1]) (cK (.str (Str.ofString ")"))))) (sCons (sAug 2 oSub (cK (.int 1))) (sNil)) (sNil)) (sCons (sIf (tE (cBin oEq (cV 2) (cK (.int 0)))) (sCons (sRet (cV 1)) (sNil)) (sNil)) (sCons (sAug 1 oAdd (cK (.int 1))) (sNil)))))) (sNil))
noncomputable def sh_law_parted : SC := sCons (sNew 4) (sCons (sAsg 5 (cV 1)) (sCons (sAsg 6 (cK (.int 0))) (sCons (sForR 7 (cV 1) (cV 2) (sCons (sAsg 8 (cCall .law_mark [cV 0, cV 7])) (sCons (sIf (tE (cBin oEq (cV 8) (cK (.str (Str.ofString "("))))) (sCons (sAug 6 oAdd (cK (.int 1))) (sNil)) (sNil)) (sCons (sIf (tE (cBin oEq (cV 8) (cK (.str (Str.ofString ")"))))) (sCons (sAug 6 oSub (cK (.int 1))) (sNil)) (sNil)) (sCons (sIf (tAnd [tE (cBin oEq (cV 8) (cV 3)), tE (cBin oEq (cV 6) (cK (.int 0)))]) (sCons (sApp 4 (cTup [cV 5, cV 7])) (sCons (sAsg 5 (cBin oAdd (cV 7) (cK (.int 1)))) (sNil))) (sNil)) (sNil)))))) (sCons (sRet (cBin oLApp (cV 4) (cLst [cTup [cV 5, cV 2]]))) (sNil)))))
noncomputable def sh_law_part : SC := sCons (sAsg 3 (cK (.int 1))) (sCons (sIf (tAnd [tE (cBin oEq (cBin oSub (cV 2) (cV 1)) (cK (.int 2))), tE (cBin oInT (cCall .law_mark [cV 0, cV 1]) (cTup [cK (.str (Str.ofString "+")), cK (.str (Str.ofString "-"))]))]) (sCons (sAsg 3 (cIf (tE (cBin oEq (cCall .law_mark [cV 0, cV 1]) (cK (.str (Str.ofString "-"))))) (cNeg 1) (cK (.int 1)))) (sCons (sAug 1 oAdd (cK (.int 1))) (sNil))) (sNil)) (sCons (sIf (tOr [tE (cBin oNe (cBin oSub (cV 2) (cV 1)) (cK (.int 1))), tE (cBin oNotInT (cBin oItem (cBin oItem (cV 0) (cV 1)) (cK (.int 0))) (cTup [cK (.str (Str.ofString "INT")), cK (.str (Str.ofString "REAL"))]))]) (sCons (sRet (cK .none)) (sNil)) (sNil)) (sCons (sIf (tE (cBin oEq (cBin oItem (cBin oItem (cV 0) (cV 1)) (cK (.int 0))) (cK (.str (Str.ofString "INT"))))) (sCons (sRet (cTup [cK (.str (Str.ofString "int")), cBin oMul (cV 3) (cBin oItem (cBin oItem (cV 0) (cV 1)) (cK (.int 1)))])) (sNil)) (sNil)) (sCons (sRet (cTup [cK (.str (Str.ofString "real")), cBin oMul (cV 3) (cBin oItem (cBin oItem (cBin oItem (cV 0) (cV 1)) (cK (.int 1))) (cK (.int 0))), cBin oItem (cBin oItem (cBin oItem (cV 0) (cV 1)) (cK (.int 1))) (cK (.int 1))])) (sNil)))))
noncomputable def sh_law_cut : SC := sCons (sAsg 4 (cCall .law_parted [cV 0, cV 1, cV 2, cK (.str (Str.ofString ":"))])) (sCons (sIf (tE (cBin oNe (cLen (cV 4)) (cK (.int 2)))) (sCons (sRet (cK .none)) (sNil)) (sNil)) (sCons (sNew 5) (sCons (sForL (tgt2 6 7) (cV 4) (sCons (sAsg 8 (cIf (tE (cBin oLt (cV 6) (cV 7))) (cCall .law_read [cV 0, cV 6, cV 7, cK (.int 1)]) (cK .none))) (sCons (sIf (tAnd [tE (cBin oLt (cV 6) (cV 7)), tE (cBin oIsNone (cV 8) (cK .none))]) (sCons (sRet (cK .none)) (sNil)) (sNil)) (sCons (sApp 5 (cV 8)) (sNil))))) (sCons (sRet (cTup [cK (.str (Str.ofString "sub")), cV 3, cBin oItem (cV 5) (cK (.int 0)), cBin oItem (cV 5) (cK (.int 1))])) (sNil)))))
noncomputable def sh_law_named : SC := sCons (sAsg 3 (cTup [cK (.str (Str.ofString "name")), cBin oItem (cBin oItem (cV 0) (cV 1)) (cK (.int 1))])) (sCons (sIf (tE (cBin oEq (cBin oSub (cV 2) (cV 1)) (cK (.int 1)))) (sCons (sRet (cV 3)) (sNil)) (sNil)) (sCons (sIf (tE (cBin oNe (cCall .law_mark [cV 0, cBin oAdd (cV 1) (cK (.int 1))]) (cK (.str (Str.ofString "("))))) (sCons (sRet (cK .none)) (sNil)) (sNil)) (sCons (sAsg 4 (cCall .law_close [cV 0, cBin oAdd (cV 1) (cK (.int 1))])) (sCons (sIf (tE (cBin oGt (cLen (cCall .law_parted [cV 0, cBin oAdd (cV 1) (cK (.int 2)), cV 4, cK (.str (Str.ofString ":"))])) (cK (.int 1)))) (sCons (sRet (cIf (tE (cBin oEq (cV 4) (cBin oSub (cV 2) (cK (.int 1))))) (cCall .law_cut [cV 0, cBin oAdd (cV 1) (cK (.int 2)), cV 4, cV 3]) (cK .none))) (sNil)) (sNil)) (sCons (sNew 5) (sCons (sIf (tE (cBin oGt (cV 4) (cBin oAdd (cV 1) (cK (.int 2))))) (sCons (sForL (tgt2 6 7) (cCall .law_parted [cV 0, cBin oAdd (cV 1) (cK (.int 2)), cV 4, cK (.str (Str.ofString ","))]) (sCons (sAsg 8 (cCall .law_read [cV 0, cV 6, cV 7, cK (.int 1)])) (sCons (sIf (tE (cBin oIsNone (cV 8) (cK .none))) (sCons (sRet (cK .none)) (sNil)) (sNil)) (sCons (sApp 5 (cV 8)) (sNil))))) (sNil)) (sNil)) (sCons (sAsg 3 (cTup [cK (.str (Str.ofString "ref")), cBin oItem (cBin oItem (cV 0) (cV 1)) (cK (.int 1)), cV 5])) (sCons (sIf (tE (cBin oEq (cV 4) (cBin oSub (cV 2) (cK (.int 1))))) (sCons (sRet (cV 3)) (sNil)) (sNil)) (sCons (sIf (tOr [tE (cBin oNe (cCall .law_mark [cV 0, cBin oAdd (cV 4) (cK (.int 1))]) (cK (.str (Str.ofString "(")))), tE (cBin oNe (cCall .law_close [cV 0, cBin oAdd (cV 4) (cK (.int 1))]) (cBin oSub (cV 2) (cK (.int 1))))]) (sCons (sRet (cK .none)) (sNil)) (sNil)) (sCons (sRet (cCall .law_cut [cV 0, cBin oAdd (cV 4) (cK (.int 2)), cBin oSub (cV 2) (cK (.int 1)), cV 3])) (sNil)))))))))))
noncomputable def sh_law_primary : SC := sCons (sUnp 3 4 (cBin oItem (cV 0) (cV 1))) (sCons (sIf (tE (cBin oEq (cV 3) (cK (.str (Str.ofString "NAME"))))) (sCons (sRet (cCall .law_named [cV 0, cV 1, cV 2])) (sNil)) (sNil)) (sCons (sIf (tE (cBin oEq (cCall .law_mark [cV 0, cV 1]) (cK (.str (Str.ofString "("))))) (sCons (sIf (tE (cBin oNe (cCall .law_close [cV 0, cV 1]) (cBin oSub (cV 2) (cK (.int 1))))) (sCons (sRet (cK .none)) (sNil)) (sNil)) (sCons (sAsg 5 (cCall .law_parted [cV 0, cBin oAdd (cV 1) (cK (.int 1)), cBin oSub (cV 2) (cK (.int 1)), cK (.str (Str.ofString ","))])) (sCons (sIf (tE (cBin oEq (cLen (cV 5)) (cK (.int 1)))) (sCons (sRet (cCall .law_read [cV 0, cBin oAdd (cV 1) (cK (.int 1)), cBin oSub (cV 2) (cK (.int 1)), cK (.int 1)])) (sNil)) (sNil)) (sCons (sIf (tE (cBin oGt (cLen (cV 5)) (cK (.int 2)))) (sCons (sRet (cK .none)) (sNil)) (sNil)) (sCons (sAsg 6 (cCall .law_part [cV 0, cBin oItem (cBin oItem (cV 5) (cK (.int 0))) (cK (.int 0)), cBin oItem (cBin oItem (cV 5) (cK (.int 0))) (cK (.int 1))])) (sCons (sAsg 7 (cCall .law_part [cV 0, cBin oItem (cBin oItem (cV 5) (cK (.int 1))) (cK (.int 0)), cBin oItem (cBin oItem (cV 5) (cK (.int 1))) (cK (.int 1))])) (sCons (sRet (cIf (tOr [tE (cBin oIsNone (cV 6) (cK .none)), tE (cBin oIsNone (cV 7) (cK .none))]) (cK .none) (cTup [cK (.str (Str.ofString "cplx")), cV 6, cV 7]))) (sNil)))))))) (sNil)) (sCons (sIf (tOr [tE (cBin oEq (cV 3) (cK (.str (Str.ofString "OP")))), tE (cBin oNe (cBin oSub (cV 2) (cV 1)) (cK (.int 1)))]) (sCons (sRet (cK .none)) (sNil)) (sNil)) (sCons (sIf (tOr [tE (cBin oEq (cV 3) (cK (.str (Str.ofString "REAL")))), tE (cBin oEq (cV 3) (cK (.str (Str.ofString "DBLE"))))]) (sCons (sRet (cTup [cLower (cV 3), cBin oItem (cV 4) (cK (.int 0)), cBin oItem (cV 4) (cK (.int 1))])) (sNil)) (sNil)) (sCons (sRet (cTup [cLower (cV 3), cV 4])) (sNil))))))
noncomputable def sh_law_read : SC := sCons (sIf (tE (cBin oGe (cV 1) (cV 2))) (sCons (sRet (cK .none)) (sNil)) (sNil)) (sCons (sAsg 4 (cK (.int 99))) (sCons (sAsg 5 (cNeg 1)) (sCons (sAsg 6 (cK (.int 0))) (sCons (sForR 7 (cV 1) (cV 2) (sCons (sAsg 8 (cCall .law_mark [cV 0, cV 7])) (sCons (sIf (tE (cBin oEq (cV 8) (cK (.str (Str.ofString "("))))) (sCons (sAug 6 oAdd (cK (.int 1))) (sNil)) (sNil)) (sCons (sIf (tE (cBin oEq (cV 8) (cK (.str (Str.ofString ")"))))) (sCons (sAug 6 oSub (cK (.int 1))) (sNil)) (sNil)) (sCons (sIf (tAnd [tE (cBin oEq (cV 6) (cK (.int 0))), tE (cBin oGt (cV 7) (cV 1)), tE (cBin oIn (cV 8) (cCall .law_rank []))]) (sCons (sIf (tOr [tE (cBin oLt (cBin oItem (cCall .law_rank []) (cV 8)) (cV 4)), tAnd [tE (cBin oEq (cBin oItem (cCall .law_rank []) (cV 8)) (cV 4)), tE (cBin oLt (cV 4) (cK (.int 9)))]]) (sCons (sAsg 4 (cBin oItem (cCall .law_rank []) (cV 8))) (sCons (sAsg 5 (cV 7)) (sNil))) (sNil)) (sNil)) (sNil)) (sNil)))))) (sCons (sAsg 9 (cCall .law_mark [cV 0, cV 1])) (sCons (sIf (tAnd [tE (cBin oEq (cV 9) (cK (.str (Str.ofString ".NOT.")))), tE (cBin oGt (cV 4) (cK (.int 3)))]) (sCons (sAsg 10 (cIf (tE (cBin oLe (cV 3) (cK (.int 4)))) (cCall .law_read [cV 0, cBin oAdd (cV 1) (cK (.int 1)), cV 2, cK (.int 5)]) (cK .none))) (sCons (sRet (cIf (tE (cBin oIsNone (cV 10) (cK .none))) (cK .none) (cTup [cK (.str (Str.ofString "un")), cV 9, cV 10]))) (sNil))) (sNil)) (sCons (sIf (tAnd [tOr [tE (cBin oEq (cV 9) (cK (.str (Str.ofString "+")))), tE (cBin oEq (cV 9) (cK (.str (Str.ofString "-"))))], tE (cBin oGt (cV 4) (cK (.int 7)))]) (sCons (sAsg 10 (cIf (tE (cBin oLe (cV 3) (cK (.int 7)))) (cCall .law_read [cV 0, cBin oAdd (cV 1) (cK (.int 1)), cV 2, cK (.int 8)]) (cK .none))) (sCons (sRet (cIf (tE (cBin oIsNone (cV 10) (cK .none))) (cK .none) (cTup [cK (.str (Str.ofString "un")), cV 9, cV 10]))) (sNil))) (sNil)) (sCons (sIf (tE (cBin oLt (cV 5) (cK (.int 0)))) (sCons (sRet (cCall .law_primary [cV 0, cV 1, cV 2])) (sNil)) (sNil)) (sCons (sIf (tE (cBin oLt (cV 4) (cV 3))) (sCons (sRet (cK .none)) (sNil)) (sNil)) (sCons (sAsg 11 (cCall .law_read [cV 0, cV 1, cV 5, cIf (tE (cBin oEq (cV 4) (cK (.int 9)))) (cK (.int 10)) (cIf (tE (cBin oEq (cV 4) (cK (.int 5)))) (cK (.int 6)) (cV 4))])) (sCons (sAsg 12 (cCall .law_read [cV 0, cBin oAdd (cV 5) (cK (.int 1)), cV 2, cIf (tE (cBin oEq (cV 4) (cK (.int 9)))) (cK (.int 9)) (cBin oAdd (cV 4) (cK (.int 1)))])) (sCons (sIf (tOr [tE (cBin oIsNone (cV 11) (cK .none)), tE (cBin oIsNone (cV 12) (cK .none))]) (sCons (sRet (cK .none)) (sNil)) (sNil)) (sCons (sRet (cTup [cK (.str (Str.ofString "bin")), cBin oItem (cBin oItem (cV 0) (cV 5)) (cK (.int 1)), cV 11, cV 12])) (sNil))))))))))))))
theorem entD_nod {es : List (Str × Int)} (h : (es.map (·.1)).Nodup) : ((entD es).map (·.1)).Nodup := by
  unfold entD
  rw [List.map_map]
  have e : ((fun x => x.1) ∘ fun e : Str × Int => (PyData.str e.1, PyData.int e.2)) = fun e => PyData.str e.1 := rfl
  rw [e]
  unfold List.Nodup at h ⊢
  rw [List.pairwise_map] at h ⊢
  exact h.imp fun {a b} q r => q (PyData.str.inj r)
section
variable {K : Pack}
variable (F : Facts K) (G : ExcFacts K)
include F G
theorem snd_kind_at : SndB K D_kind_at.1.2.2 D_kind_at.1.2.1 sh_kind_at := by unfold sh_kind_at; delta D_kind_at; dsimp only []; exact (snd_cons (snd_sIf (snd_tCmp op_Lt snd_V (snd_Len F snd_V)) (snd_cons (snd_Ret (snd_Sub (snd_Sub snd_V snd_V) snd_int)) snd_nil) snd_nil) (snd_cons (snd_Ret snd_str) snd_nil))
theorem snd_is_op : SndB K D_is_op.1.2.2 D_is_op.1.2.1 sh_is_op := by unfold sh_is_op; delta D_is_op; dsimp only []; exact (snd_cons (snd_Ret (snd_And (snd_Cmp op_Lt snd_V (snd_Len F snd_V)) (snd_And (snd_Cmp op_Eq (snd_Sub (snd_Sub snd_V snd_V) snd_int) snd_str) (snd_And1 (snd_Cmp op_Eq (snd_Sub (snd_Sub snd_V snd_V) snd_int) snd_V))))) snd_nil)
theorem snd_need_op : SndB K D_need_op.1.2.2 D_need_op.1.2.1 sh_need_op := by unfold sh_need_op; delta D_need_op; dsimp only []; exact (snd_cons (snd_sIf (snd_tNot (snd_tE (snd_Call F (f := .is_op) rfl (.cons snd_V (fun _ => rfl) (.cons snd_V (fun _ => rfl) (.cons snd_V (fun _ => rfl) .nil)))))) (snd_cons (snd_Raise F G (snd_BinOp op_Cat snd_str snd_V)) snd_nil) snd_nil) (snd_cons (snd_Ret (snd_BinOp op_Add snd_V snd_int)) snd_nil))
theorem snd_need_name : SndB K D_need_name.1.2.2 D_need_name.1.2.1 sh_need_name := by unfold sh_need_name; delta D_need_name; dsimp only []; exact (snd_cons (snd_sIf (snd_tCmp op_Ne (snd_Call F (f := .kind_at) rfl (.cons snd_V (fun _ => rfl) (.cons snd_V (fun _ => rfl) .nil))) snd_str) (snd_cons (snd_Raise F G snd_str) snd_nil) snd_nil) (snd_cons (snd_Ret (snd_Tup (.cons (snd_Sub (snd_Sub snd_V snd_V) snd_int) (fun _ => rfl) (.cons (snd_BinOp op_Add snd_V snd_int) (fun _ => rfl) .nil)))) snd_nil))
theorem snd_need_int : SndB K D_need_int.1.2.2 D_need_int.1.2.1 sh_need_int := by unfold sh_need_int; delta D_need_int; dsimp only []; exact (snd_cons (snd_sIf (snd_tCmp op_Ne (snd_Call F (f := .kind_at) rfl (.cons snd_V (fun _ => rfl) (.cons snd_V (fun _ => rfl) .nil))) snd_str) (snd_cons (snd_Raise F G snd_str) snd_nil) snd_nil) (snd_cons (snd_Ret (snd_Tup (.cons (snd_Sub (snd_Sub snd_V snd_V) snd_int) (fun _ => rfl) (.cons (snd_BinOp op_Add snd_V snd_int) (fun _ => rfl) .nil)))) snd_nil))
theorem snd_close_at : SndB K D_close_at.1.2.2 D_close_at.1.2.1 sh_close_at := by unfold sh_close_at; delta D_close_at; dsimp only []; exact (snd_cons (snd_Asg snd_int) (snd_cons (snd_ForR F snd_V (snd_Len F snd_V) (snd_cons (snd_sIf (snd_tE (snd_Call F (f := .is_op) rfl (.cons snd_V (fun _ => rfl) (.cons snd_V (fun _ => rfl) (.cons snd_str (fun _ => rfl) .nil))))) (snd_cons (snd_Aug op_iAdd snd_int) snd_nil) (snd_cons (snd_sIf (snd_tE (snd_Call F (f := .is_op) rfl (.cons snd_V (fun _ => rfl) (.cons snd_V (fun _ => rfl) (.cons snd_str (fun _ => rfl) .nil))))) (snd_cons (snd_Aug op_iSub snd_int) (snd_cons (snd_sIf (snd_tCmp op_Eq snd_V snd_int) (snd_cons (snd_Ret snd_V) snd_nil) snd_nil) snd_nil)) snd_nil) snd_nil)) snd_nil)) (snd_cons (snd_Raise F G snd_str) snd_nil)))
theorem snd_priority_at : SndB K D_priority_at.1.2.2 D_priority_at.1.2.1 sh_priority_at := by unfold sh_priority_at; delta D_priority_at; dsimp only []; exact (snd_cons (snd_sIf (snd_tCmp op_Ne (snd_Call F (f := .kind_at) rfl (.cons snd_V (fun _ => rfl) (.cons snd_V (fun _ => rfl) .nil))) snd_str) (snd_cons (snd_Ret snd_int) snd_nil) snd_nil) (snd_cons (snd_Ret (snd_Get F (snd_Sub (snd_Sub snd_V snd_V) snd_int))) snd_nil))
theorem snd_parse_expr : SndB K D_parse_expr.1.2.2 D_parse_expr.1.2.1 sh_parse_expr := by unfold sh_parse_expr; delta D_parse_expr; dsimp only []; exact (snd_cons (snd_Ret (snd_Call F (f := .parse_binary) rfl (.cons snd_V (fun _ => rfl) (.cons snd_V (fun _ => rfl) (.cons (snd_G F.c1 F.g) (fun _ => rfl) .nil))))) snd_nil)
theorem snd_parse_binary : SndB K D_parse_binary.1.2.2 D_parse_binary.1.2.1 sh_parse_binary := by unfold sh_parse_binary; delta D_parse_binary; dsimp only []; exact (snd_cons (snd_Unp (snd_Call F (f := .parse_first) rfl (.cons snd_V (fun _ => rfl) (.cons snd_V (fun _ => rfl) (.cons snd_V (fun _ => rfl) .nil))))) (snd_cons (snd_Asg snd_bool) (snd_cons (snd_While (snd_tCmp op_Ge (snd_Call F (f := .priority_at) rfl (.cons snd_V (fun _ => rfl) (.cons snd_V (fun _ => rfl) .nil))) snd_V) (snd_cons (snd_Asg (snd_Call F (f := .priority_at) rfl (.cons snd_V (fun _ => rfl) (.cons snd_V (fun _ => rfl) .nil)))) (snd_cons (snd_Asg (snd_Sub (snd_Sub snd_V snd_V) snd_int)) (snd_cons (snd_sIf (snd_tAnd (snd_tCmp op_Eq snd_V (snd_G F.c5 F.g)) (snd_tAnd (snd_tE snd_V) snd_tAnd0)) (snd_cons (snd_Raise F G snd_str) snd_nil) snd_nil) (snd_cons (snd_sIf (snd_tCmp op_Eq snd_V (snd_G F.c9 F.g)) (snd_cons (snd_Unp (snd_Call F (f := .parse_binary) rfl (.cons snd_V (fun _ => rfl) (.cons (snd_BinOp op_Add snd_V snd_int) (fun _ => rfl) (.cons (snd_G F.c9 F.g) (fun _ => rfl) .nil))))) snd_nil) (snd_cons (snd_Unp (snd_Call F (f := .parse_binary) rfl (.cons snd_V (fun _ => rfl) (.cons (snd_BinOp op_Add snd_V snd_int) (fun _ => rfl) (.cons (snd_BinOp op_Add snd_V snd_int) (fun _ => rfl) .nil))))) snd_nil)) (snd_cons (snd_Asg (snd_Tup (.cons snd_str (fun _ => rfl) (.cons snd_V (fun _ => rfl) (.cons snd_V (fun _ => rfl) (.cons snd_V (fun _ => rfl) .nil)))))) (snd_cons (snd_Asg (snd_Cmp op_Eq snd_V (snd_G F.c5 F.g))) snd_nil))))))) (snd_cons (snd_Ret (snd_Tup (.cons snd_V (fun _ => rfl) (.cons snd_V (fun _ => rfl) .nil)))) snd_nil))))
theorem snd_parse_first : SndB K D_parse_first.1.2.2 D_parse_first.1.2.1 sh_parse_first := by unfold sh_parse_first; delta D_parse_first; dsimp only []; exact (snd_cons (snd_sIf (snd_tE (snd_Call F (f := .is_op) rfl (.cons snd_V (fun _ => rfl) (.cons snd_V (fun _ => rfl) (.cons snd_str (fun _ => rfl) .nil))))) (snd_cons (snd_sIf (snd_tCmp op_Gt snd_V (snd_G F.c4 F.g)) (snd_cons (snd_Raise F G snd_str) snd_nil) snd_nil) (snd_cons (snd_Unp (snd_Call F (f := .parse_binary) rfl (.cons snd_V (fun _ => rfl) (.cons (snd_BinOp op_Add snd_V snd_int) (fun _ => rfl) (.cons (snd_BinOp op_Add (snd_G F.c4 F.g) snd_int) (fun _ => rfl) .nil))))) (snd_cons (snd_Ret (snd_Tup (.cons (snd_Tup (.cons snd_str (fun _ => rfl) (.cons snd_str (fun _ => rfl) (.cons snd_V (fun _ => rfl) .nil)))) (fun _ => rfl) (.cons snd_V (fun _ => rfl) .nil)))) snd_nil))) snd_nil) (snd_cons (snd_sIf (snd_tOr (snd_tE (snd_Call F (f := .is_op) rfl (.cons snd_V (fun _ => rfl) (.cons snd_V (fun _ => rfl) (.cons snd_str (fun _ => rfl) .nil))))) (snd_tOr (snd_tE (snd_Call F (f := .is_op) rfl (.cons snd_V (fun _ => rfl) (.cons snd_V (fun _ => rfl) (.cons snd_str (fun _ => rfl) .nil))))) snd_tOr0)) (snd_cons (snd_sIf (snd_tCmp op_Gt snd_V (snd_G F.c7 F.g)) (snd_cons (snd_Raise F G snd_str) snd_nil) snd_nil) (snd_cons (snd_Asg (snd_Sub (snd_Sub snd_V snd_V) snd_int)) (snd_cons (snd_Unp (snd_Call F (f := .parse_binary) rfl (.cons snd_V (fun _ => rfl) (.cons (snd_BinOp op_Add snd_V snd_int) (fun _ => rfl) (.cons (snd_BinOp op_Add (snd_G F.c7 F.g) snd_int) (fun _ => rfl) .nil))))) (snd_cons (snd_Ret (snd_Tup (.cons (snd_Tup (.cons snd_str (fun _ => rfl) (.cons snd_V (fun _ => rfl) (.cons snd_V (fun _ => rfl) .nil)))) (fun _ => rfl) (.cons snd_V (fun _ => rfl) .nil)))) snd_nil)))) snd_nil) (snd_cons (snd_Ret (snd_Call F (f := .parse_primary) rfl (.cons snd_V (fun _ => rfl) (.cons snd_V (fun _ => rfl) .nil)))) snd_nil)))
theorem snd_parse_primary : SndB K D_parse_primary.1.2.2 D_parse_primary.1.2.1 sh_parse_primary := by unfold sh_parse_primary; delta D_parse_primary; dsimp only []; exact (snd_cons (snd_Asg (snd_Call F (f := .kind_at) rfl (.cons snd_V (fun _ => rfl) (.cons snd_V (fun _ => rfl) .nil)))) (snd_cons (snd_sIf (snd_tCmp op_Eq snd_V snd_str) (snd_cons (snd_Ret (snd_Call F (f := .parse_named) rfl (.cons snd_V (fun _ => rfl) (.cons snd_V (fun _ => rfl) .nil)))) snd_nil) snd_nil) (snd_cons (snd_sIf (snd_tAnd (snd_tCmp op_Eq snd_V snd_str) (snd_tAnd (snd_tCmp op_Eq (snd_Sub (snd_Sub snd_V snd_V) snd_int) snd_str) snd_tAnd0)) (snd_cons (snd_Ret (snd_Call F (f := .parse_bracket) rfl (.cons snd_V (fun _ => rfl) (.cons snd_V (fun _ => rfl) .nil)))) snd_nil) snd_nil) (snd_cons (snd_sIf (snd_tOr (snd_tCmp op_Eq snd_V snd_str) (snd_tOr (snd_tCmp op_Eq snd_V snd_str) snd_tOr0)) (snd_cons (snd_Raise F G snd_str) snd_nil) snd_nil) (snd_cons (snd_Ret (snd_Tup (.cons (snd_Call F (f := .constant_of) rfl (.cons snd_V (fun _ => rfl) (.cons (snd_Sub (snd_Sub snd_V snd_V) snd_int) (fun _ => rfl) (.cons snd_int (fun _ => rfl) .nil)))) (fun _ => rfl) (.cons (snd_BinOp op_Add snd_V snd_int) (fun _ => rfl) .nil)))) snd_nil)))))
theorem snd_constant_of : SndB K D_constant_of.1.2.2 D_constant_of.1.2.1 sh_constant_of := by unfold sh_constant_of; delta D_constant_of; dsimp only []; exact (snd_cons (snd_sIf (snd_tCmp op_Eq snd_V snd_str) (snd_cons (snd_Ret (snd_Tup (.cons snd_str (fun _ => rfl) (.cons (snd_BinOp op_Mul snd_V snd_V) (fun _ => rfl) .nil)))) snd_nil) snd_nil) (snd_cons (snd_sIf (snd_tCmp op_Eq snd_V snd_str) (snd_cons (snd_Ret (snd_Tup (.cons snd_str (fun _ => rfl) (.cons (snd_BinOp op_Mul snd_V (snd_Sub snd_V snd_int)) (fun _ => rfl) (.cons (snd_Sub snd_V snd_int) (fun _ => rfl) .nil))))) snd_nil) snd_nil) (snd_cons (snd_sIf (snd_tCmp op_Eq snd_V snd_str) (snd_cons (snd_Ret (snd_Tup (.cons snd_str (fun _ => rfl) (.cons (snd_BinOp op_Mul snd_V (snd_Sub snd_V snd_int)) (fun _ => rfl) (.cons (snd_Sub snd_V snd_int) (fun _ => rfl) .nil))))) snd_nil) snd_nil) (snd_cons (snd_sIf (snd_tCmp op_Eq snd_V snd_str) (snd_cons (snd_Ret (snd_Tup (.cons snd_str (fun _ => rfl) (.cons snd_V (fun _ => rfl) .nil)))) snd_nil) snd_nil) (snd_cons (snd_Ret (snd_Tup (.cons snd_str (fun _ => rfl) (.cons snd_V (fun _ => rfl) .nil)))) snd_nil)))))
theorem snd_parse_bracket : SndB K D_parse_bracket.1.2.2 D_parse_bracket.1.2.1 sh_parse_bracket := by unfold sh_parse_bracket; delta D_parse_bracket; dsimp only []; exact (snd_cons (snd_sIf (snd_tE (snd_Call F (f := .is_complex) rfl (.cons snd_V (fun _ => rfl) (.cons snd_V (fun _ => rfl) .nil)))) (snd_cons (snd_Unp (snd_Call F (f := .complex_part) rfl (.cons snd_V (fun _ => rfl) (.cons (snd_BinOp op_Add snd_V snd_int) (fun _ => rfl) .nil)))) (snd_cons (snd_Unp (snd_Call F (f := .complex_part) rfl (.cons snd_V (fun _ => rfl) (.cons (snd_BinOp op_Add snd_V snd_int) (fun _ => rfl) .nil)))) (snd_cons (snd_Ret (snd_Tup (.cons (snd_Tup (.cons snd_str (fun _ => rfl) (.cons snd_V (fun _ => rfl) (.cons snd_V (fun _ => rfl) .nil)))) (fun _ => rfl) (.cons (snd_Call F (f := .need_op) rfl (.cons snd_V (fun _ => rfl) (.cons snd_V (fun _ => rfl) (.cons snd_str (fun _ => rfl) .nil)))) (fun _ => rfl) .nil)))) snd_nil))) snd_nil) (snd_cons (snd_Unp (snd_Call F (f := .parse_expr) rfl (.cons snd_V (fun _ => rfl) (.cons (snd_BinOp op_Add snd_V snd_int) (fun _ => rfl) .nil)))) (snd_cons (snd_Ret (snd_Tup (.cons snd_V (fun _ => rfl) (.cons (snd_Call F (f := .need_op) rfl (.cons snd_V (fun _ => rfl) (.cons snd_V (fun _ => rfl) (.cons snd_str (fun _ => rfl) .nil)))) (fun _ => rfl) .nil)))) snd_nil)))
theorem snd_part_end : SndB K D_part_end.1.2.2 D_part_end.1.2.1 sh_part_end := by unfold sh_part_end; delta D_part_end; dsimp only []; exact (snd_cons (snd_sIf (snd_tOr (snd_tE (snd_Call F (f := .is_op) rfl (.cons snd_V (fun _ => rfl) (.cons snd_V (fun _ => rfl) (.cons snd_str (fun _ => rfl) .nil))))) (snd_tOr (snd_tE (snd_Call F (f := .is_op) rfl (.cons snd_V (fun _ => rfl) (.cons snd_V (fun _ => rfl) (.cons snd_str (fun _ => rfl) .nil))))) snd_tOr0)) (snd_cons (snd_Aug op_iAdd snd_int) snd_nil) snd_nil) (snd_cons (snd_sIf (snd_tOr (snd_tCmp op_Eq (snd_Call F (f := .kind_at) rfl (.cons snd_V (fun _ => rfl) (.cons snd_V (fun _ => rfl) .nil))) snd_str) (snd_tOr (snd_tCmp op_Eq (snd_Call F (f := .kind_at) rfl (.cons snd_V (fun _ => rfl) (.cons snd_V (fun _ => rfl) .nil))) snd_str) snd_tOr0)) (snd_cons (snd_Ret (snd_BinOp op_Add snd_V snd_int)) snd_nil) snd_nil) (snd_cons (snd_Ret snd_Neg) snd_nil)))
theorem snd_is_complex : SndB K D_is_complex.1.2.2 D_is_complex.1.2.1 sh_is_complex := by unfold sh_is_complex; delta D_is_complex; dsimp only []; exact (snd_cons (snd_Asg (snd_Call F (f := .part_end) rfl (.cons snd_V (fun _ => rfl) (.cons (snd_BinOp op_Add snd_V snd_int) (fun _ => rfl) .nil)))) (snd_cons (snd_sIf (snd_tOr (snd_tCmp op_Lt snd_V snd_int) (snd_tOr (snd_tNot (snd_tE (snd_Call F (f := .is_op) rfl (.cons snd_V (fun _ => rfl) (.cons snd_V (fun _ => rfl) (.cons snd_str (fun _ => rfl) .nil)))))) snd_tOr0)) (snd_cons (snd_Ret snd_bool) snd_nil) snd_nil) (snd_cons (snd_Asg (snd_Call F (f := .part_end) rfl (.cons snd_V (fun _ => rfl) (.cons (snd_BinOp op_Add snd_V snd_int) (fun _ => rfl) .nil)))) (snd_cons (snd_Ret (snd_And (snd_Cmp op_Ge snd_V snd_int) (snd_And1 (snd_Call F (f := .is_op) rfl (.cons snd_V (fun _ => rfl) (.cons snd_V (fun _ => rfl) (.cons snd_str (fun _ => rfl) .nil))))))) snd_nil))))
theorem snd_complex_part : SndB K D_complex_part.1.2.2 D_complex_part.1.2.1 sh_complex_part := by unfold sh_complex_part; delta D_complex_part; dsimp only []; exact (snd_cons (snd_Asg snd_int) (snd_cons (snd_sIf (snd_tE (snd_Call F (f := .is_op) rfl (.cons snd_V (fun _ => rfl) (.cons snd_V (fun _ => rfl) (.cons snd_str (fun _ => rfl) .nil))))) (snd_cons (snd_Asg snd_Neg) snd_nil) snd_nil) (snd_cons (snd_sIf (snd_tCmp op_Eq (snd_Call F (f := .kind_at) rfl (.cons snd_V (fun _ => rfl) (.cons snd_V (fun _ => rfl) .nil))) snd_str) (snd_cons (snd_Aug op_iAdd snd_int) snd_nil) snd_nil) (snd_cons (snd_Ret (snd_Tup (.cons (snd_Call F (f := .constant_of) rfl (.cons (snd_Sub (snd_Sub snd_V snd_V) snd_int) (fun _ => rfl) (.cons (snd_Sub (snd_Sub snd_V snd_V) snd_int) (fun _ => rfl) (.cons snd_V (fun _ => rfl) .nil)))) (fun _ => rfl) (.cons (snd_BinOp op_Add snd_V snd_int) (fun _ => rfl) .nil)))) snd_nil))))
theorem snd_parse_named : SndB K D_parse_named.1.2.2 D_parse_named.1.2.1 sh_parse_named := by unfold sh_parse_named; delta D_parse_named; dsimp only []; exact (snd_cons (snd_Unp (snd_Call F (f := .need_name) rfl (.cons snd_V (fun _ => rfl) (.cons snd_V (fun _ => rfl) .nil)))) (snd_cons (snd_Asg (snd_Tup (.cons snd_str (fun _ => rfl) (.cons snd_V (fun _ => rfl) .nil)))) (snd_cons (snd_sIf (snd_tNot (snd_tE (snd_Call F (f := .is_op) rfl (.cons snd_V (fun _ => rfl) (.cons snd_V (fun _ => rfl) (.cons snd_str (fun _ => rfl) .nil)))))) (snd_cons (snd_Ret (snd_Tup (.cons snd_V (fun _ => rfl) (.cons snd_V (fun _ => rfl) .nil)))) snd_nil) snd_nil) (snd_cons (snd_sIf (snd_tNot (snd_tE (snd_Call F (f := .is_cut) rfl (.cons snd_V (fun _ => rfl) (.cons snd_V (fun _ => rfl) .nil))))) (snd_cons (snd_Unp (snd_Call F (f := .parse_arguments) rfl (.cons snd_V (fun _ => rfl) (.cons snd_V (fun _ => rfl) (.cons snd_bool (fun _ => rfl) .nil))))) (snd_cons (snd_Asg (snd_Tup (.cons snd_str (fun _ => rfl) (.cons snd_V (fun _ => rfl) (.cons snd_V (fun _ => rfl) .nil))))) snd_nil)) snd_nil) (snd_cons (snd_sIf (snd_tE (snd_Call F (f := .is_op) rfl (.cons snd_V (fun _ => rfl) (.cons snd_V (fun _ => rfl) (.cons snd_str (fun _ => rfl) .nil))))) (snd_cons (snd_Ret (snd_Call F (f := .parse_cut) rfl (.cons snd_V (fun _ => rfl) (.cons snd_V (fun _ => rfl) (.cons snd_V (fun _ => rfl) .nil))))) snd_nil) snd_nil) (snd_cons (snd_Ret (snd_Tup (.cons snd_V (fun _ => rfl) (.cons snd_V (fun _ => rfl) .nil)))) snd_nil))))))
theorem snd_is_cut : SndB K D_is_cut.1.2.2 D_is_cut.1.2.1 sh_is_cut := by unfold sh_is_cut; delta D_is_cut; dsimp only []; exact (snd_cons (snd_Asg (snd_Call F (f := .close_at) rfl (.cons snd_V (fun _ => rfl) (.cons snd_V (fun _ => rfl) .nil)))) (snd_cons (snd_Asg snd_int) (snd_cons (snd_ForR F (snd_BinOp op_Add snd_V snd_int) snd_V (snd_cons (snd_sIf (snd_tE (snd_Call F (f := .is_op) rfl (.cons snd_V (fun _ => rfl) (.cons snd_V (fun _ => rfl) (.cons snd_str (fun _ => rfl) .nil))))) (snd_cons (snd_Aug op_iAdd snd_int) snd_nil) (snd_cons (snd_sIf (snd_tE (snd_Call F (f := .is_op) rfl (.cons snd_V (fun _ => rfl) (.cons snd_V (fun _ => rfl) (.cons snd_str (fun _ => rfl) .nil))))) (snd_cons (snd_Aug op_iSub snd_int) snd_nil) (snd_cons (snd_sIf (snd_tAnd (snd_tCmp op_Eq snd_V snd_int) (snd_tAnd (snd_tE (snd_Call F (f := .is_op) rfl (.cons snd_V (fun _ => rfl) (.cons snd_V (fun _ => rfl) (.cons snd_str (fun _ => rfl) .nil))))) snd_tAnd0)) (snd_cons (snd_Ret snd_bool) snd_nil) snd_nil) snd_nil)) snd_nil)) snd_nil)) (snd_cons (snd_Ret snd_bool) snd_nil))))
theorem snd_parse_cut : SndB K D_parse_cut.1.2.2 D_parse_cut.1.2.1 sh_parse_cut := by unfold sh_parse_cut; delta D_parse_cut; dsimp only []; exact (snd_cons (snd_Asg (snd_Call F (f := .need_op) rfl (.cons snd_V (fun _ => rfl) (.cons snd_V (fun _ => rfl) (.cons snd_str (fun _ => rfl) .nil))))) (snd_cons (snd_Asg snd_none) (snd_cons (snd_Asg snd_none) (snd_cons (snd_sIf (snd_tNot (snd_tE (snd_Call F (f := .is_op) rfl (.cons snd_V (fun _ => rfl) (.cons snd_V (fun _ => rfl) (.cons snd_str (fun _ => rfl) .nil)))))) (snd_cons (snd_Unp (snd_Call F (f := .parse_expr) rfl (.cons snd_V (fun _ => rfl) (.cons snd_V (fun _ => rfl) .nil)))) snd_nil) snd_nil) (snd_cons (snd_Asg (snd_Call F (f := .need_op) rfl (.cons snd_V (fun _ => rfl) (.cons snd_V (fun _ => rfl) (.cons snd_str (fun _ => rfl) .nil))))) (snd_cons (snd_sIf (snd_tNot (snd_tE (snd_Call F (f := .is_op) rfl (.cons snd_V (fun _ => rfl) (.cons snd_V (fun _ => rfl) (.cons snd_str (fun _ => rfl) .nil)))))) (snd_cons (snd_Unp (snd_Call F (f := .parse_expr) rfl (.cons snd_V (fun _ => rfl) (.cons snd_V (fun _ => rfl) .nil)))) snd_nil) snd_nil) (snd_cons (snd_Ret (snd_Tup (.cons (snd_Tup (.cons snd_str (fun _ => rfl) (.cons snd_V (fun _ => rfl) (.cons snd_V (fun _ => rfl) (.cons snd_V (fun _ => rfl) .nil))))) (fun _ => rfl) (.cons (snd_Call F (f := .need_op) rfl (.cons snd_V (fun _ => rfl) (.cons snd_V (fun _ => rfl) (.cons snd_str (fun _ => rfl) .nil)))) (fun _ => rfl) .nil)))) snd_nil)))))))
theorem snd_parse_arguments : SndB K D_parse_arguments.1.2.2 D_parse_arguments.1.2.1 sh_parse_arguments := by unfold sh_parse_arguments; delta D_parse_arguments; dsimp only []; exact (snd_cons (snd_Asg (snd_Call F (f := .need_op) rfl (.cons snd_V (fun _ => rfl) (.cons snd_V (fun _ => rfl) (.cons snd_str (fun _ => rfl) .nil))))) (snd_cons snd_New (snd_cons (snd_sIf (snd_tE (snd_Call F (f := .is_op) rfl (.cons snd_V (fun _ => rfl) (.cons snd_V (fun _ => rfl) (.cons snd_str (fun _ => rfl) .nil))))) (snd_cons (snd_Ret (snd_Tup (.cons snd_V (fun _ => rfl) (.cons (snd_BinOp op_Add snd_V snd_int) (fun _ => rfl) .nil)))) snd_nil) snd_nil) (snd_cons (snd_While (snd_tE snd_bool) (snd_cons (snd_sIf (snd_tAnd (snd_tE snd_V) (snd_tAnd (snd_tE (snd_Call F (f := .is_op) rfl (.cons snd_V (fun _ => rfl) (.cons snd_V (fun _ => rfl) (.cons snd_str (fun _ => rfl) .nil))))) snd_tAnd0)) (snd_cons (snd_Unp (snd_Call F (f := .need_int) rfl (.cons snd_V (fun _ => rfl) (.cons (snd_BinOp op_Add snd_V snd_int) (fun _ => rfl) .nil)))) (snd_cons (snd_App (snd_Tup (.cons snd_str (fun _ => rfl) (.cons snd_V (fun _ => rfl) .nil)))) snd_nil)) (snd_cons (snd_Unp (snd_Call F (f := .parse_expr) rfl (.cons snd_V (fun _ => rfl) (.cons snd_V (fun _ => rfl) .nil)))) (snd_cons (snd_App snd_V) snd_nil))) (snd_cons (snd_sIf (snd_tNot (snd_tE (snd_Call F (f := .is_op) rfl (.cons snd_V (fun _ => rfl) (.cons snd_V (fun _ => rfl) (.cons snd_str (fun _ => rfl) .nil)))))) (snd_cons (snd_Ret (snd_Tup (.cons snd_V (fun _ => rfl) (.cons (snd_Call F (f := .need_op) rfl (.cons snd_V (fun _ => rfl) (.cons snd_V (fun _ => rfl) (.cons snd_str (fun _ => rfl) .nil)))) (fun _ => rfl) .nil)))) snd_nil) snd_nil) (snd_cons (snd_Aug op_iAdd snd_int) snd_nil)))) snd_nil))))
theorem snd_whole_expr : SndB K D_whole_expr.1.2.2 D_whole_expr.1.2.1 sh_whole_expr := by unfold sh_whole_expr; delta D_whole_expr; dsimp only []; exact (snd_cons (snd_Unp (snd_Call F (f := .parse_expr) rfl (.cons snd_V (fun _ => rfl) (.cons snd_int (fun _ => rfl) .nil)))) (snd_cons (snd_sIf (snd_tCmp op_Lt snd_V (snd_Len F snd_V)) (snd_cons (snd_Raise F G snd_str) snd_nil) snd_nil) (snd_cons (snd_Ret snd_V) snd_nil)))
theorem snd_law_rank : SndB K D_law_rank.1.2.2 D_law_rank.1.2.1 sh_law_rank := by unfold sh_law_rank; delta D_law_rank; dsimp only []; refine @snd_cons K _ _ _ _ _ (@snd_Ret K _ _ _ _ (@snd_Dict K _ F _ _ _ [(Str.ofString ".EQV.", 1), (Str.ofString ".NEQV.", 1), (Str.ofString ".OR.", 2), (Str.ofString ".AND.", 3), (Str.ofString ".EQ.", 5), (Str.ofString ".NE.", 5), (Str.ofString ".LT.", 5), (Str.ofString ".LE.", 5), (Str.ofString ".GT.", 5), (Str.ofString ".GE.", 5), (Str.ofString "//", 6), (Str.ofString "+", 7), (Str.ofString "-", 7), (Str.ofString "*", 8), (Str.ofString "/", 8), (Str.ofString "**", 9)] ?_ rfl (entD_nod (by decide +kernel)))) (@snd_nil K _); repeat (first | exact .nil | refine .cons _ _ _ _ _ _ ?_)
theorem snd_law_ops : SndB K D_law_ops.1.2.2 D_law_ops.1.2.1 sh_law_ops := by unfold sh_law_ops; delta D_law_ops; dsimp only []; refine @snd_cons K _ _ _ _ _ (@snd_Ret K _ _ _ _ (@snd_Lst K _ _ _ _ ?_ (by decide))) (@snd_nil K _); repeat (first | exact .nil | refine .cons snd_str (fun _ => rfl) ?_)
theorem snd_law_marks : SndB K D_law_marks.1.2.2 D_law_marks.1.2.1 sh_law_marks := by unfold sh_law_marks; delta D_law_marks; dsimp only []; exact (snd_cons (snd_Ret (snd_Lst (by refine .cons snd_str (fun _ => rfl) ?_; refine .cons snd_str (fun _ => rfl) ?_; refine .cons snd_str (fun _ => rfl) ?_; refine .cons snd_str (fun _ => rfl) ?_; refine .cons snd_str (fun _ => rfl) ?_; refine .cons snd_str (fun _ => rfl) ?_; refine .cons snd_str (fun _ => rfl) ?_; refine .cons snd_str (fun _ => rfl) ?_; exact .nil))) snd_nil)
theorem snd_law_names : SndB K D_law_names.1.2.2 D_law_names.1.2.1 sh_law_names := by unfold sh_law_names; delta D_law_names; dsimp only []; exact (snd_cons (snd_Ret (snd_Lst (.cons snd_str (fun _ => rfl) (.cons snd_str (fun _ => rfl) (.cons snd_str (fun _ => rfl) .nil))))) snd_nil)
theorem snd_law_operand : SndB K D_law_operand.1.2.2 D_law_operand.1.2.1 sh_law_operand := by unfold sh_law_operand; delta D_law_operand; dsimp only []; exact (snd_cons (snd_Asg (snd_BinOp op_Mod snd_V snd_int)) (snd_cons (snd_Asg (snd_BinOp op_Div snd_V snd_int)) (snd_cons (snd_sIf (snd_tOr (snd_tCmp op_Lt snd_V snd_int) (snd_tOr (snd_tCmp op_Eq snd_V snd_int) (snd_tOr (snd_tCmp op_Eq snd_V snd_int) snd_tOr0))) (snd_cons (snd_App (snd_Tup (.cons snd_str (fun _ => rfl) (.cons (snd_Sub (snd_Call F (f := .law_names) rfl .nil) (snd_BinOp op_Mod snd_V snd_int)) (fun _ => rfl) .nil)))) (snd_cons (snd_sIf (snd_tCmp op_Gt snd_V snd_int) (snd_cons (snd_App (snd_Tup (.cons snd_str (fun _ => rfl) (.cons snd_str (fun _ => rfl) .nil)))) (snd_cons (snd_App snd_int) (snd_cons (snd_sIf (snd_tCmp op_Eq (snd_BinOp op_Mod snd_V snd_int) snd_int) (snd_cons (snd_App (snd_Tup (.cons snd_str (fun _ => rfl) (.cons snd_str (fun _ => rfl) .nil)))) snd_nil) snd_nil) snd_nil))) snd_nil) (snd_cons (snd_Ret (snd_Cmp op_Gt snd_V snd_int)) snd_nil))) snd_nil) (snd_cons (snd_sIf (snd_tCmp op_Eq snd_V snd_int) (snd_cons (snd_App (snd_Tup (.cons snd_str (fun _ => rfl) (.cons (snd_BinOp op_Mod snd_V snd_int) (fun _ => rfl) .nil)))) snd_nil) (snd_cons (snd_sIf (snd_tCmp op_Eq snd_V snd_int) (snd_cons (snd_App (snd_Tup (.cons snd_str (fun _ => rfl) (.cons (snd_Tup (.cons (snd_BinOp op_Mod snd_V snd_int) (fun _ => rfl) (.cons (snd_BinOp op_Sub (snd_BinOp op_Mod snd_V snd_int) snd_int) (fun _ => rfl) .nil))) (fun _ => rfl) .nil)))) snd_nil) (snd_cons (snd_sIf (snd_tCmp op_Eq snd_V snd_int) (snd_cons (snd_App (snd_Tup (.cons snd_str (fun _ => rfl) (.cons (snd_Tup (.cons (snd_BinOp op_Mod snd_V snd_int) (fun _ => rfl) (.cons (snd_BinOp op_Sub (snd_BinOp op_Mod snd_V snd_int) snd_int) (fun _ => rfl) .nil))) (fun _ => rfl) .nil)))) snd_nil) (snd_cons (snd_sIf (snd_tCmp op_Eq snd_V snd_int) (snd_cons (snd_App (snd_Tup (.cons snd_str (fun _ => rfl) (.cons (snd_Cmp op_Eq (snd_BinOp op_Mod snd_V snd_int) snd_int) (fun _ => rfl) .nil)))) snd_nil) (snd_cons (snd_sIf (snd_tCmp op_Eq snd_V snd_int) (snd_cons (snd_App (snd_Tup (.cons snd_str (fun _ => rfl) (.cons (snd_Sub (snd_Lst (.cons snd_str (fun _ => rfl) (.cons snd_str (fun _ => rfl) (.cons snd_str (fun _ => rfl) .nil)))) (snd_BinOp op_Mod snd_V snd_int)) (fun _ => rfl) .nil)))) snd_nil) (snd_cons (snd_sIf (snd_tCmp op_Lt snd_V snd_int) (snd_cons (snd_App (snd_Tup (.cons snd_str (fun _ => rfl) (.cons snd_str (fun _ => rfl) .nil)))) (snd_cons (snd_App snd_int) (snd_cons (snd_Ret snd_bool) snd_nil))) (snd_cons (snd_sIf (snd_tCmp op_Lt snd_V snd_int) (snd_cons (snd_App (snd_Tup (.cons snd_str (fun _ => rfl) (.cons (snd_Sub (snd_Lst (.cons snd_str (fun _ => rfl) (.cons snd_str (fun _ => rfl) (.cons snd_str (fun _ => rfl) .nil)))) (snd_If (snd_tCmp op_Eq snd_V snd_int) (snd_BinOp op_Mul (snd_BinOp op_Sub snd_V snd_int) snd_int) (snd_BinOp op_Mod snd_V snd_int))) (fun _ => rfl) .nil)))) (snd_cons (snd_Ret snd_bool) snd_nil)) (snd_cons (snd_sIf (snd_tCmp op_Eq snd_V snd_int) (snd_cons (snd_App (snd_Tup (.cons snd_str (fun _ => rfl) (.cons snd_str (fun _ => rfl) .nil)))) (snd_cons (snd_sIf (snd_tCmp op_Eq (snd_BinOp op_Mod snd_V snd_int) snd_int) (snd_cons (snd_App (snd_Tup (.cons snd_str (fun _ => rfl) (.cons snd_str (fun _ => rfl) .nil)))) snd_nil) snd_nil) (snd_cons (snd_App (snd_Tup (.cons snd_str (fun _ => rfl) (.cons (snd_BinOp op_Mod snd_V snd_int) (fun _ => rfl) .nil)))) (snd_cons (snd_App (snd_Tup (.cons snd_str (fun _ => rfl) (.cons snd_str (fun _ => rfl) .nil)))) (snd_cons (snd_App (snd_Tup (.cons snd_str (fun _ => rfl) (.cons (snd_Tup (.cons (snd_BinOp op_Mod snd_V snd_int) (fun _ => rfl) (.cons snd_Neg (fun _ => rfl) .nil))) (fun _ => rfl) .nil)))) (snd_cons (snd_App (snd_Tup (.cons snd_str (fun _ => rfl) (.cons snd_str (fun _ => rfl) .nil)))) snd_nil)))))) (snd_cons (snd_App (snd_Tup (.cons snd_str (fun _ => rfl) (.cons (snd_Sub (snd_Call F (f := .law_marks) rfl .nil) (snd_BinOp op_Mod snd_V snd_int)) (fun _ => rfl) .nil)))) (snd_cons (snd_Ret snd_bool) snd_nil))) snd_nil)) snd_nil)) snd_nil)) snd_nil)) snd_nil)) snd_nil)) snd_nil)) (snd_cons (snd_Ret snd_bool) snd_nil)))))
theorem snd_law_behind : SndB K D_law_behind.1.2.2 D_law_behind.1.2.1 sh_law_behind := by unfold sh_law_behind; delta D_law_behind; dsimp only []; exact (snd_cons (snd_Asg (snd_BinOp op_Mod snd_V snd_int)) (snd_cons (snd_Asg (snd_BinOp op_Div snd_V snd_int)) (snd_cons (snd_sIf (snd_tAnd (snd_tCmp op_Gt snd_V snd_int) (snd_tAnd (snd_tCmp op_Lt snd_V snd_int) (snd_tAnd (snd_tCmp op_Ne snd_V (snd_Lst .nil)) snd_tAnd0))) (snd_cons (snd_App (snd_Tup (.cons snd_str (fun _ => rfl) (.cons snd_str (fun _ => rfl) .nil)))) (snd_cons snd_Pop (snd_cons (snd_sIf (snd_tCmp op_Eq (snd_BinOp op_Mod snd_V snd_int) snd_int) (snd_cons (snd_App (snd_Tup (.cons snd_str (fun _ => rfl) (.cons snd_str (fun _ => rfl) .nil)))) (snd_cons (snd_App snd_int) (snd_cons (snd_Ret snd_bool) snd_nil))) snd_nil) (snd_cons (snd_Ret snd_bool) snd_nil)))) snd_nil) (snd_cons (snd_sIf (snd_tAnd (snd_tCmp op_Gt snd_V snd_int) (snd_tAnd (snd_tCmp op_Lt snd_V snd_int) (snd_tAnd (snd_tCmp op_Ne snd_V (snd_Lst .nil)) snd_tAnd0))) (snd_cons (snd_App (snd_Tup (.cons snd_str (fun _ => rfl) (.cons (snd_Sub (snd_Lst (.cons snd_str (fun _ => rfl) (.cons snd_str (fun _ => rfl) .nil))) (snd_BinOp op_Sub snd_V snd_int)) (fun _ => rfl) .nil)))) (snd_cons (snd_Ret (snd_Cmp op_Ne (snd_BinOp op_Mod snd_V snd_int) snd_int)) snd_nil)) snd_nil) (snd_cons (snd_sIf (snd_tAnd (snd_tCmp op_Eq snd_V snd_int) (snd_tAnd (snd_tCmp op_Eq (snd_BinOp op_Mod snd_V snd_int) snd_int) snd_tAnd0)) (snd_cons (snd_App (snd_Tup (.cons snd_str (fun _ => rfl) (.cons snd_str (fun _ => rfl) .nil)))) (snd_cons (snd_Ret snd_bool) snd_nil)) snd_nil) (snd_cons (snd_App (snd_Tup (.cons snd_str (fun _ => rfl) (.cons (snd_Sub (snd_Call F (f := .law_ops) rfl .nil) (snd_BinOp op_Mod snd_V snd_int)) (fun _ => rfl) .nil)))) (snd_cons (snd_Ret snd_bool) snd_nil)))))))
theorem snd_law_row : SndB K D_law_row.1.2.2 D_law_row.1.2.1 sh_law_row := by unfold sh_law_row; delta D_law_row; dsimp only []; exact (snd_cons snd_New (snd_cons snd_New (snd_cons (snd_Asg snd_bool) (snd_cons (snd_ForL snd_V (tgt1_ok rfl) (snd_cons (snd_sIf (snd_tE snd_V) (snd_cons (snd_Asg (snd_Call F (f := .law_operand) rfl (.cons snd_V (fun _ => rfl) (.cons snd_V (fun _ => rfl) (.cons snd_V (fun _ => rfl) .nil))))) snd_nil) (snd_cons (snd_Asg (snd_Call F (f := .law_behind) rfl (.cons snd_V (fun _ => rfl) (.cons snd_V (fun _ => rfl) (.cons snd_V (fun _ => rfl) .nil))))) snd_nil)) snd_nil) own_name) (snd_cons (snd_sIf (snd_tE snd_V) (snd_cons (snd_App (snd_Tup (.cons snd_str (fun _ => rfl) (.cons snd_str (fun _ => rfl) .nil)))) snd_nil) snd_nil) (snd_cons (snd_ForL snd_V (tgt1_ok rfl) (snd_cons (snd_App (snd_Tup (.cons snd_str (fun _ => rfl) (.cons snd_str (fun _ => rfl) .nil)))) snd_nil) own_name) (snd_cons (snd_Ret snd_V) snd_nil)))))))
theorem snd_law_mark : SndB K D_law_mark.1.2.2 D_law_mark.1.2.1 sh_law_mark := by unfold sh_law_mark; delta D_law_mark; dsimp only []; exact (snd_cons (snd_sIf (snd_tCmp op_Eq (snd_Sub (snd_Sub snd_V snd_V) snd_int) snd_str) (snd_cons (snd_Ret (snd_Sub (snd_Sub snd_V snd_V) snd_int)) snd_nil) snd_nil) (snd_cons (snd_Ret snd_str) snd_nil))
theorem snd_law_is_even : SndB K D_law_is_even.1.2.2 D_law_is_even.1.2.1 sh_law_is_even := by unfold sh_law_is_even; delta D_law_is_even; dsimp only []; exact (snd_cons (snd_Asg snd_int) (snd_cons (snd_ForR1 F (snd_Len F snd_V) (snd_cons (snd_sIf (snd_tCmp op_Eq (snd_Call F (f := .law_mark) rfl (.cons snd_V (fun _ => rfl) (.cons snd_V (fun _ => rfl) .nil))) snd_str) (snd_cons (snd_Aug op_iAdd snd_int) snd_nil) snd_nil) (snd_cons (snd_sIf (snd_tCmp op_Eq (snd_Call F (f := .law_mark) rfl (.cons snd_V (fun _ => rfl) (.cons snd_V (fun _ => rfl) .nil))) snd_str) (snd_cons (snd_Aug op_iSub snd_int) snd_nil) snd_nil) (snd_cons (snd_sIf (snd_tCmp op_Lt snd_V snd_int) (snd_cons (snd_Ret snd_bool) snd_nil) snd_nil) snd_nil)))) (snd_cons (snd_Ret (snd_Cmp op_Eq snd_V snd_int)) snd_nil)))
theorem snd_law_close : SndB K D_law_close.1.2.2 D_law_close.1.2.1 sh_law_close := by unfold sh_law_close; delta D_law_close; dsimp only []; exact (snd_cons (snd_Asg snd_int) (snd_cons (snd_While (snd_tE snd_bool) (snd_cons (snd_sIf (snd_tCmp op_Eq (snd_Call F (f := .law_mark) rfl (.cons snd_V (fun _ => rfl) (.cons snd_V (fun _ => rfl) .nil))) snd_str) (snd_cons (snd_Aug op_iAdd snd_int) snd_nil) snd_nil) (snd_cons (snd_sIf (snd_tCmp op_Eq (snd_Call F (f := .law_mark) rfl (.cons snd_V (fun _ => rfl) (.cons snd_V (fun _ => rfl) .nil))) snd_str) (snd_cons (snd_Aug op_iSub snd_int) snd_nil) snd_nil) (snd_cons (snd_sIf (snd_tCmp op_Eq snd_V snd_int) (snd_cons (snd_Ret snd_V) snd_nil) snd_nil) (snd_cons (snd_Aug op_iAdd snd_int) snd_nil))))) snd_nil))
theorem snd_law_parted : SndB K D_law_parted.1.2.2 D_law_parted.1.2.1 sh_law_parted := by unfold sh_law_parted; delta D_law_parted; dsimp only []; exact (snd_cons snd_New (snd_cons (snd_Asg snd_V) (snd_cons (snd_Asg snd_int) (snd_cons (snd_ForR F snd_V snd_V (snd_cons (snd_Asg (snd_Call F (f := .law_mark) rfl (.cons snd_V (fun _ => rfl) (.cons snd_V (fun _ => rfl) .nil)))) (snd_cons (snd_sIf (snd_tCmp op_Eq snd_V snd_str) (snd_cons (snd_Aug op_iAdd snd_int) snd_nil) snd_nil) (snd_cons (snd_sIf (snd_tCmp op_Eq snd_V snd_str) (snd_cons (snd_Aug op_iSub snd_int) snd_nil) snd_nil) (snd_cons (snd_sIf (snd_tAnd (snd_tCmp op_Eq snd_V snd_V) (snd_tAnd (snd_tCmp op_Eq snd_V snd_int) snd_tAnd0)) (snd_cons (snd_App (snd_Tup (.cons snd_V (fun _ => rfl) (.cons snd_V (fun _ => rfl) .nil)))) (snd_cons (snd_Asg (snd_BinOp op_Add snd_V snd_int)) snd_nil)) snd_nil) snd_nil))))) (snd_cons (snd_Ret (snd_BinOp op_LApp snd_V (snd_Lst (.cons (snd_Tup (.cons snd_V (fun _ => rfl) (.cons snd_V (fun _ => rfl) .nil))) (fun _ => rfl) .nil)))) snd_nil)))))
theorem snd_law_part : SndB K D_law_part.1.2.2 D_law_part.1.2.1 sh_law_part := by unfold sh_law_part; delta D_law_part; dsimp only []; exact (snd_cons (snd_Asg snd_int) (snd_cons (snd_sIf (snd_tAnd (snd_tCmp op_Eq (snd_BinOp op_Sub snd_V snd_V) snd_int) (snd_tAnd (snd_tCmp op_InT (snd_Call F (f := .law_mark) rfl (.cons snd_V (fun _ => rfl) (.cons snd_V (fun _ => rfl) .nil))) (snd_Tup (.cons snd_str (fun _ => rfl) (.cons snd_str (fun _ => rfl) .nil)))) snd_tAnd0)) (snd_cons (snd_Asg (snd_If (snd_tCmp op_Eq (snd_Call F (f := .law_mark) rfl (.cons snd_V (fun _ => rfl) (.cons snd_V (fun _ => rfl) .nil))) snd_str) snd_Neg snd_int)) (snd_cons (snd_Aug op_iAdd snd_int) snd_nil)) snd_nil) (snd_cons (snd_sIf (snd_tOr (snd_tCmp op_Ne (snd_BinOp op_Sub snd_V snd_V) snd_int) (snd_tOr (snd_tCmp op_NotInT (snd_Sub (snd_Sub snd_V snd_V) snd_int) (snd_Tup (.cons snd_str (fun _ => rfl) (.cons snd_str (fun _ => rfl) .nil)))) snd_tOr0)) (snd_cons (snd_Ret snd_none) snd_nil) snd_nil) (snd_cons (snd_sIf (snd_tCmp op_Eq (snd_Sub (snd_Sub snd_V snd_V) snd_int) snd_str) (snd_cons (snd_Ret (snd_Tup (.cons snd_str (fun _ => rfl) (.cons (snd_BinOp op_Mul snd_V (snd_Sub (snd_Sub snd_V snd_V) snd_int)) (fun _ => rfl) .nil)))) snd_nil) snd_nil) (snd_cons (snd_Ret (snd_Tup (.cons snd_str (fun _ => rfl) (.cons (snd_BinOp op_Mul snd_V (snd_Sub (snd_Sub (snd_Sub snd_V snd_V) snd_int) snd_int)) (fun _ => rfl) (.cons (snd_Sub (snd_Sub (snd_Sub snd_V snd_V) snd_int) snd_int) (fun _ => rfl) .nil))))) snd_nil)))))
theorem snd_law_cut : SndB K D_law_cut.1.2.2 D_law_cut.1.2.1 sh_law_cut := by unfold sh_law_cut; delta D_law_cut; dsimp only []; exact (snd_cons (snd_Asg (snd_Call F (f := .law_parted) rfl (.cons snd_V (fun _ => rfl) (.cons snd_V (fun _ => rfl) (.cons snd_V (fun _ => rfl) (.cons snd_str (fun _ => rfl) .nil)))))) (snd_cons (snd_sIf (snd_tCmp op_Ne (snd_Len F snd_V) snd_int) (snd_cons (snd_Ret snd_none) snd_nil) snd_nil) (snd_cons snd_New (snd_cons (snd_ForL snd_V (tgt2_ok rfl rfl) (snd_cons (snd_Asg (snd_If (snd_tCmp op_Lt snd_V snd_V) (snd_Call F (f := .law_read) rfl (.cons snd_V (fun _ => rfl) (.cons snd_V (fun _ => rfl) (.cons snd_V (fun _ => rfl) (.cons snd_int (fun _ => rfl) .nil))))) snd_none)) (snd_cons (snd_sIf (snd_tAnd (snd_tCmp op_Lt snd_V snd_V) (snd_tAnd (snd_tCmp op_IsNone snd_V snd_none) snd_tAnd0)) (snd_cons (snd_Ret snd_none) snd_nil) snd_nil) (snd_cons (snd_App snd_V) snd_nil))) own_tup) (snd_cons (snd_Ret (snd_Tup (.cons snd_str (fun _ => rfl) (.cons snd_V (fun _ => rfl) (.cons (snd_Sub snd_V snd_int) (fun _ => rfl) (.cons (snd_Sub snd_V snd_int) (fun _ => rfl) .nil)))))) snd_nil)))))
theorem snd_law_named : SndB K D_law_named.1.2.2 D_law_named.1.2.1 sh_law_named := by unfold sh_law_named; delta D_law_named; dsimp only []; exact (snd_cons (snd_Asg (snd_Tup (.cons snd_str (fun _ => rfl) (.cons (snd_Sub (snd_Sub snd_V snd_V) snd_int) (fun _ => rfl) .nil)))) (snd_cons (snd_sIf (snd_tCmp op_Eq (snd_BinOp op_Sub snd_V snd_V) snd_int) (snd_cons (snd_Ret snd_V) snd_nil) snd_nil) (snd_cons (snd_sIf (snd_tCmp op_Ne (snd_Call F (f := .law_mark) rfl (.cons snd_V (fun _ => rfl) (.cons (snd_BinOp op_Add snd_V snd_int) (fun _ => rfl) .nil))) snd_str) (snd_cons (snd_Ret snd_none) snd_nil) snd_nil) (snd_cons (snd_Asg (snd_Call F (f := .law_close) rfl (.cons snd_V (fun _ => rfl) (.cons (snd_BinOp op_Add snd_V snd_int) (fun _ => rfl) .nil)))) (snd_cons (snd_sIf (snd_tCmp op_Gt (snd_Len F (snd_Call F (f := .law_parted) rfl (.cons snd_V (fun _ => rfl) (.cons (snd_BinOp op_Add snd_V snd_int) (fun _ => rfl) (.cons snd_V (fun _ => rfl) (.cons snd_str (fun _ => rfl) .nil)))))) snd_int) (snd_cons (snd_Ret (snd_If (snd_tCmp op_Eq snd_V (snd_BinOp op_Sub snd_V snd_int)) (snd_Call F (f := .law_cut) rfl (.cons snd_V (fun _ => rfl) (.cons (snd_BinOp op_Add snd_V snd_int) (fun _ => rfl) (.cons snd_V (fun _ => rfl) (.cons snd_V (fun _ => rfl) .nil))))) snd_none)) snd_nil) snd_nil) (snd_cons snd_New (snd_cons (snd_sIf (snd_tCmp op_Gt snd_V (snd_BinOp op_Add snd_V snd_int)) (snd_cons (snd_ForL (snd_Call F (f := .law_parted) rfl (.cons snd_V (fun _ => rfl) (.cons (snd_BinOp op_Add snd_V snd_int) (fun _ => rfl) (.cons snd_V (fun _ => rfl) (.cons snd_str (fun _ => rfl) .nil))))) (tgt2_ok rfl rfl) (snd_cons (snd_Asg (snd_Call F (f := .law_read) rfl (.cons snd_V (fun _ => rfl) (.cons snd_V (fun _ => rfl) (.cons snd_V (fun _ => rfl) (.cons snd_int (fun _ => rfl) .nil)))))) (snd_cons (snd_sIf (snd_tCmp op_IsNone snd_V snd_none) (snd_cons (snd_Ret snd_none) snd_nil) snd_nil) (snd_cons (snd_App snd_V) snd_nil))) own_tup) snd_nil) snd_nil) (snd_cons (snd_Asg (snd_Tup (.cons snd_str (fun _ => rfl) (.cons (snd_Sub (snd_Sub snd_V snd_V) snd_int) (fun _ => rfl) (.cons snd_V (fun _ => rfl) .nil))))) (snd_cons (snd_sIf (snd_tCmp op_Eq snd_V (snd_BinOp op_Sub snd_V snd_int)) (snd_cons (snd_Ret snd_V) snd_nil) snd_nil) (snd_cons (snd_sIf (snd_tOr (snd_tCmp op_Ne (snd_Call F (f := .law_mark) rfl (.cons snd_V (fun _ => rfl) (.cons (snd_BinOp op_Add snd_V snd_int) (fun _ => rfl) .nil))) snd_str) (snd_tOr (snd_tCmp op_Ne (snd_Call F (f := .law_close) rfl (.cons snd_V (fun _ => rfl) (.cons (snd_BinOp op_Add snd_V snd_int) (fun _ => rfl) .nil))) (snd_BinOp op_Sub snd_V snd_int)) snd_tOr0)) (snd_cons (snd_Ret snd_none) snd_nil) snd_nil) (snd_cons (snd_Ret (snd_Call F (f := .law_cut) rfl (.cons snd_V (fun _ => rfl) (.cons (snd_BinOp op_Add snd_V snd_int) (fun _ => rfl) (.cons (snd_BinOp op_Sub snd_V snd_int) (fun _ => rfl) (.cons snd_V (fun _ => rfl) .nil)))))) snd_nil)))))))))))
theorem snd_law_primary : SndB K D_law_primary.1.2.2 D_law_primary.1.2.1 sh_law_primary := by unfold sh_law_primary; delta D_law_primary; dsimp only []; exact (snd_cons (snd_Unp (snd_Sub snd_V snd_V)) (snd_cons (snd_sIf (snd_tCmp op_Eq snd_V snd_str) (snd_cons (snd_Ret (snd_Call F (f := .law_named) rfl (.cons snd_V (fun _ => rfl) (.cons snd_V (fun _ => rfl) (.cons snd_V (fun _ => rfl) .nil))))) snd_nil) snd_nil) (snd_cons (snd_sIf (snd_tCmp op_Eq (snd_Call F (f := .law_mark) rfl (.cons snd_V (fun _ => rfl) (.cons snd_V (fun _ => rfl) .nil))) snd_str) (snd_cons (snd_sIf (snd_tCmp op_Ne (snd_Call F (f := .law_close) rfl (.cons snd_V (fun _ => rfl) (.cons snd_V (fun _ => rfl) .nil))) (snd_BinOp op_Sub snd_V snd_int)) (snd_cons (snd_Ret snd_none) snd_nil) snd_nil) (snd_cons (snd_Asg (snd_Call F (f := .law_parted) rfl (.cons snd_V (fun _ => rfl) (.cons (snd_BinOp op_Add snd_V snd_int) (fun _ => rfl) (.cons (snd_BinOp op_Sub snd_V snd_int) (fun _ => rfl) (.cons snd_str (fun _ => rfl) .nil)))))) (snd_cons (snd_sIf (snd_tCmp op_Eq (snd_Len F snd_V) snd_int) (snd_cons (snd_Ret (snd_Call F (f := .law_read) rfl (.cons snd_V (fun _ => rfl) (.cons (snd_BinOp op_Add snd_V snd_int) (fun _ => rfl) (.cons (snd_BinOp op_Sub snd_V snd_int) (fun _ => rfl) (.cons snd_int (fun _ => rfl) .nil)))))) snd_nil) snd_nil) (snd_cons (snd_sIf (snd_tCmp op_Gt (snd_Len F snd_V) snd_int) (snd_cons (snd_Ret snd_none) snd_nil) snd_nil) (snd_cons (snd_Asg (snd_Call F (f := .law_part) rfl (.cons snd_V (fun _ => rfl) (.cons (snd_Sub (snd_Sub snd_V snd_int) snd_int) (fun _ => rfl) (.cons (snd_Sub (snd_Sub snd_V snd_int) snd_int) (fun _ => rfl) .nil))))) (snd_cons (snd_Asg (snd_Call F (f := .law_part) rfl (.cons snd_V (fun _ => rfl) (.cons (snd_Sub (snd_Sub snd_V snd_int) snd_int) (fun _ => rfl) (.cons (snd_Sub (snd_Sub snd_V snd_int) snd_int) (fun _ => rfl) .nil))))) (snd_cons (snd_Ret (snd_If (snd_tOr (snd_tCmp op_IsNone snd_V snd_none) (snd_tOr (snd_tCmp op_IsNone snd_V snd_none) snd_tOr0)) snd_none (snd_Tup (.cons snd_str (fun _ => rfl) (.cons snd_V (fun _ => rfl) (.cons snd_V (fun _ => rfl) .nil)))))) snd_nil))))))) snd_nil) (snd_cons (snd_sIf (snd_tOr (snd_tCmp op_Eq snd_V snd_str) (snd_tOr (snd_tCmp op_Ne (snd_BinOp op_Sub snd_V snd_V) snd_int) snd_tOr0)) (snd_cons (snd_Ret snd_none) snd_nil) snd_nil) (snd_cons (snd_sIf (snd_tOr (snd_tCmp op_Eq snd_V snd_str) (snd_tOr (snd_tCmp op_Eq snd_V snd_str) snd_tOr0)) (snd_cons (snd_Ret (snd_Tup (.cons (snd_Lower snd_V) (fun _ => rfl) (.cons (snd_Sub snd_V snd_int) (fun _ => rfl) (.cons (snd_Sub snd_V snd_int) (fun _ => rfl) .nil))))) snd_nil) snd_nil) (snd_cons (snd_Ret (snd_Tup (.cons (snd_Lower snd_V) (fun _ => rfl) (.cons snd_V (fun _ => rfl) .nil)))) snd_nil))))))
theorem snd_law_read : SndB K D_law_read.1.2.2 D_law_read.1.2.1 sh_law_read := by unfold sh_law_read; delta D_law_read; dsimp only []; exact (snd_cons (snd_sIf (snd_tCmp op_Ge snd_V snd_V) (snd_cons (snd_Ret snd_none) snd_nil) snd_nil) (snd_cons (snd_Asg snd_int) (snd_cons (snd_Asg snd_Neg) (snd_cons (snd_Asg snd_int) (snd_cons (snd_ForR F snd_V snd_V (snd_cons (snd_Asg (snd_Call F (f := .law_mark) rfl (.cons snd_V (fun _ => rfl) (.cons snd_V (fun _ => rfl) .nil)))) (snd_cons (snd_sIf (snd_tCmp op_Eq snd_V snd_str) (snd_cons (snd_Aug op_iAdd snd_int) snd_nil) snd_nil) (snd_cons (snd_sIf (snd_tCmp op_Eq snd_V snd_str) (snd_cons (snd_Aug op_iSub snd_int) snd_nil) snd_nil) (snd_cons (snd_sIf (snd_tAnd (snd_tCmp op_Eq snd_V snd_int) (snd_tAnd (snd_tCmp op_Gt snd_V snd_V) (snd_tAnd (snd_tCmp op_InTab snd_V (snd_Call F (f := .law_rank) rfl .nil)) snd_tAnd0))) (snd_cons (snd_sIf (snd_tOr (snd_tCmp op_Lt (snd_Sub (snd_Call F (f := .law_rank) rfl .nil) snd_V) snd_V) (snd_tOr (snd_tAnd (snd_tCmp op_Eq (snd_Sub (snd_Call F (f := .law_rank) rfl .nil) snd_V) snd_V) (snd_tAnd (snd_tCmp op_Lt snd_V snd_int) snd_tAnd0)) snd_tOr0)) (snd_cons (snd_Asg (snd_Sub (snd_Call F (f := .law_rank) rfl .nil) snd_V)) (snd_cons (snd_Asg snd_V) snd_nil)) snd_nil) snd_nil) snd_nil) snd_nil))))) (snd_cons (snd_Asg (snd_Call F (f := .law_mark) rfl (.cons snd_V (fun _ => rfl) (.cons snd_V (fun _ => rfl) .nil)))) (snd_cons (snd_sIf (snd_tAnd (snd_tCmp op_Eq snd_V snd_str) (snd_tAnd (snd_tCmp op_Gt snd_V snd_int) snd_tAnd0)) (snd_cons (snd_Asg (snd_If (snd_tCmp op_Le snd_V snd_int) (snd_Call F (f := .law_read) rfl (.cons snd_V (fun _ => rfl) (.cons (snd_BinOp op_Add snd_V snd_int) (fun _ => rfl) (.cons snd_V (fun _ => rfl) (.cons snd_int (fun _ => rfl) .nil))))) snd_none)) (snd_cons (snd_Ret (snd_If (snd_tCmp op_IsNone snd_V snd_none) snd_none (snd_Tup (.cons snd_str (fun _ => rfl) (.cons snd_V (fun _ => rfl) (.cons snd_V (fun _ => rfl) .nil)))))) snd_nil)) snd_nil) (snd_cons (snd_sIf (snd_tAnd (snd_tOr (snd_tCmp op_Eq snd_V snd_str) (snd_tOr (snd_tCmp op_Eq snd_V snd_str) snd_tOr0)) (snd_tAnd (snd_tCmp op_Gt snd_V snd_int) snd_tAnd0)) (snd_cons (snd_Asg (snd_If (snd_tCmp op_Le snd_V snd_int) (snd_Call F (f := .law_read) rfl (.cons snd_V (fun _ => rfl) (.cons (snd_BinOp op_Add snd_V snd_int) (fun _ => rfl) (.cons snd_V (fun _ => rfl) (.cons snd_int (fun _ => rfl) .nil))))) snd_none)) (snd_cons (snd_Ret (snd_If (snd_tCmp op_IsNone snd_V snd_none) snd_none (snd_Tup (.cons snd_str (fun _ => rfl) (.cons snd_V (fun _ => rfl) (.cons snd_V (fun _ => rfl) .nil)))))) snd_nil)) snd_nil) (snd_cons (snd_sIf (snd_tCmp op_Lt snd_V snd_int) (snd_cons (snd_Ret (snd_Call F (f := .law_primary) rfl (.cons snd_V (fun _ => rfl) (.cons snd_V (fun _ => rfl) (.cons snd_V (fun _ => rfl) .nil))))) snd_nil) snd_nil) (snd_cons (snd_sIf (snd_tCmp op_Lt snd_V snd_V) (snd_cons (snd_Ret snd_none) snd_nil) snd_nil) (snd_cons (snd_Asg (snd_Call F (f := .law_read) rfl (.cons snd_V (fun _ => rfl) (.cons snd_V (fun _ => rfl) (.cons snd_V (fun _ => rfl) (.cons (snd_If (snd_tCmp op_Eq snd_V snd_int) snd_int (snd_If (snd_tCmp op_Eq snd_V snd_int) snd_int snd_V)) (fun _ => rfl) .nil)))))) (snd_cons (snd_Asg (snd_Call F (f := .law_read) rfl (.cons snd_V (fun _ => rfl) (.cons (snd_BinOp op_Add snd_V snd_int) (fun _ => rfl) (.cons snd_V (fun _ => rfl) (.cons (snd_If (snd_tCmp op_Eq snd_V snd_int) snd_int (snd_BinOp op_Add snd_V snd_int)) (fun _ => rfl) .nil)))))) (snd_cons (snd_sIf (snd_tOr (snd_tCmp op_IsNone snd_V snd_none) (snd_tOr (snd_tCmp op_IsNone snd_V snd_none) snd_tOr0)) (snd_cons (snd_Ret snd_none) snd_nil) snd_nil) (snd_cons (snd_Ret (snd_Tup (.cons snd_str (fun _ => rfl) (.cons (snd_Sub (snd_Sub snd_V snd_V) snd_int) (fun _ => rfl) (.cons snd_V (fun _ => rfl) (.cons snd_V (fun _ => rfl) .nil)))))) snd_nil))))))))))))))
end
noncomputable def arF : Fn → Nat
  | .kind_at => 2
  | .is_op => 3
  | .need_op => 3
  | .need_name => 2
  | .need_int => 2
  | .close_at => 2
  | .priority_at => 2
  | .parse_expr => 2
  | .parse_binary => 3
  | .parse_first => 3
  | .parse_primary => 2
  | .constant_of => 3
  | .parse_bracket => 2
  | .part_end => 2
  | .is_complex => 2
  | .complex_part => 2
  | .parse_named => 2
  | .is_cut => 2
  | .parse_cut => 3
  | .parse_arguments => 3
  | .whole_expr => 1
  | .law_rank => 0
  | .law_ops => 0
  | .law_marks => 0
  | .law_names => 0
  | .law_operand => 3
  | .law_behind => 3
  | .law_row => 1
  | .law_mark => 2
  | .law_is_even => 1
  | .law_close => 2
  | .law_parted => 4
  | .law_part => 3
  | .law_cut => 4
  | .law_named => 3
  | .law_primary => 3
  | .law_read => 4
noncomputable def shF : Fn → SC
  | .kind_at => sh_kind_at
  | .is_op => sh_is_op
  | .need_op => sh_need_op
  | .need_name => sh_need_name
  | .need_int => sh_need_int
  | .close_at => sh_close_at
  | .priority_at => sh_priority_at
  | .parse_expr => sh_parse_expr
  | .parse_binary => sh_parse_binary
  | .parse_first => sh_parse_first
  | .parse_primary => sh_parse_primary
  | .constant_of => sh_constant_of
  | .parse_bracket => sh_parse_bracket
  | .part_end => sh_part_end
  | .is_complex => sh_is_complex
  | .complex_part => sh_complex_part
  | .parse_named => sh_parse_named
  | .is_cut => sh_is_cut
  | .parse_cut => sh_parse_cut
  | .parse_arguments => sh_parse_arguments
  | .whole_expr => sh_whole_expr
  | .law_rank => sh_law_rank
  | .law_ops => sh_law_ops
  | .law_marks => sh_law_marks
  | .law_names => sh_law_names
  | .law_operand => sh_law_operand
  | .law_behind => sh_law_behind
  | .law_row => sh_law_row
  | .law_mark => sh_law_mark
  | .law_is_even => sh_law_is_even
  | .law_close => sh_law_close
  | .law_parted => sh_law_parted
  | .law_part => sh_law_part
  | .law_cut => sh_law_cut
  | .law_named => sh_law_named
  | .law_primary => sh_law_primary
  | .law_read => sh_law_read
noncomputable def nnF : Fn → Nat
  | .kind_at => 3
  | .is_op => 4
  | .need_op => 5
  | .need_name => 4
  | .need_int => 4
  | .close_at => 8
  | .priority_at => 4
  | .parse_expr => 4
  | .parse_binary => 14
  | .parse_first => 11
  | .parse_primary => 8
  | .constant_of => 3
  | .parse_bracket => 11
  | .part_end => 4
  | .is_complex => 6
  | .complex_part => 6
  | .parse_named => 10
  | .is_cut => 8
  | .parse_cut => 8
  | .parse_arguments => 10
  | .whole_expr => 6
  | .law_rank => 0
  | .law_ops => 0
  | .law_marks => 0
  | .law_names => 0
  | .law_operand => 7
  | .law_behind => 6
  | .law_row => 8
  | .law_mark => 2
  | .law_is_even => 6
  | .law_close => 4
  | .law_parted => 11
  | .law_part => 5
  | .law_cut => 12
  | .law_named => 15
  | .law_primary => 15
  | .law_read => 18
noncomputable def callF : Nat → Orc
  | 0 => fun _ _ _ => .bad
  | n + 1 => fun f avs σ => runF (arF f) (nnF f) (shF f) (callF n) avs σ
theorem len0 {α : Type} : ∀ {vs : List α}, vs.length = 0 → vs = []
  | [], _ => rfl
theorem len1 {α : Type} : ∀ {vs : List α}, vs.length = 1 → ∃ a, vs = [a]
  | [a], _ => ⟨a, rfl⟩
theorem len2 {α : Type} : ∀ {vs : List α}, vs.length = 2 → ∃ a b, vs = [a, b]
  | [a, b], _ => ⟨a, b, rfl⟩
theorem len3 {α : Type} : ∀ {vs : List α}, vs.length = 3 → ∃ a b c, vs = [a, b, c]
  | [a, b, c], _ => ⟨a, b, c, rfl⟩
theorem len4 {α : Type} : ∀ {vs : List α}, vs.length = 4 → ∃ a b c d, vs = [a, b, c, d]
  | [a, b, c, d], _ => ⟨a, b, c, d, rfl⟩
theorem call_zero {K : Pack} : OrcOk K 0 (callF 0) := fun f avs σ A outer frs la s vs Q E _ _ _ _ _ _ _ _ _ _ h => h.elim
section
variable {K : Pack}
variable (F : Facts K) (G : ExcFacts K)
include F G
theorem ent_kind_at {n : Nat} {orc : Orc} (ho : OrcOk K n orc) (avs : List AV) (σ : Sto) : CallAt K (n + 1) .kind_at avs σ (runF (arF .kind_at) (nnF .kind_at) (shF .kind_at) orc avs σ) :=
  @entry K F .kind_at sh_kind_at 2 (@snd_kind_at K F G) rfl rfl (fun pm cd doc vs hv => by obtain ⟨a, b, rfl⟩ := len2 hv; rfl) (by decide) rfl rfl rfl (by decide) n orc ho avs σ
theorem ent_is_op {n : Nat} {orc : Orc} (ho : OrcOk K n orc) (avs : List AV) (σ : Sto) : CallAt K (n + 1) .is_op avs σ (runF (arF .is_op) (nnF .is_op) (shF .is_op) orc avs σ) :=
  @entry K F .is_op sh_is_op 3 (@snd_is_op K F G) rfl rfl (fun pm cd doc vs hv => by obtain ⟨a, b, c, rfl⟩ := len3 hv; rfl) (by decide) rfl rfl rfl (by decide) n orc ho avs σ
theorem ent_need_op {n : Nat} {orc : Orc} (ho : OrcOk K n orc) (avs : List AV) (σ : Sto) : CallAt K (n + 1) .need_op avs σ (runF (arF .need_op) (nnF .need_op) (shF .need_op) orc avs σ) :=
  @entry K F .need_op sh_need_op 3 (@snd_need_op K F G) rfl rfl (fun pm cd doc vs hv => by obtain ⟨a, b, c, rfl⟩ := len3 hv; rfl) (by decide) rfl rfl rfl (by decide) n orc ho avs σ
theorem ent_need_name {n : Nat} {orc : Orc} (ho : OrcOk K n orc) (avs : List AV) (σ : Sto) : CallAt K (n + 1) .need_name avs σ (runF (arF .need_name) (nnF .need_name) (shF .need_name) orc avs σ) :=
  @entry K F .need_name sh_need_name 2 (@snd_need_name K F G) rfl rfl (fun pm cd doc vs hv => by obtain ⟨a, b, rfl⟩ := len2 hv; rfl) (by decide) rfl rfl rfl (by decide) n orc ho avs σ
theorem ent_need_int {n : Nat} {orc : Orc} (ho : OrcOk K n orc) (avs : List AV) (σ : Sto) : CallAt K (n + 1) .need_int avs σ (runF (arF .need_int) (nnF .need_int) (shF .need_int) orc avs σ) :=
  @entry K F .need_int sh_need_int 2 (@snd_need_int K F G) rfl rfl (fun pm cd doc vs hv => by obtain ⟨a, b, rfl⟩ := len2 hv; rfl) (by decide) rfl rfl rfl (by decide) n orc ho avs σ
theorem ent_close_at {n : Nat} {orc : Orc} (ho : OrcOk K n orc) (avs : List AV) (σ : Sto) : CallAt K (n + 1) .close_at avs σ (runF (arF .close_at) (nnF .close_at) (shF .close_at) orc avs σ) :=
  @entry K F .close_at sh_close_at 2 (@snd_close_at K F G) rfl rfl (fun pm cd doc vs hv => by obtain ⟨a, b, rfl⟩ := len2 hv; rfl) (by decide) rfl rfl rfl (by decide) n orc ho avs σ
theorem ent_priority_at {n : Nat} {orc : Orc} (ho : OrcOk K n orc) (avs : List AV) (σ : Sto) : CallAt K (n + 1) .priority_at avs σ (runF (arF .priority_at) (nnF .priority_at) (shF .priority_at) orc avs σ) :=
  @entry K F .priority_at sh_priority_at 2 (@snd_priority_at K F G) rfl rfl (fun pm cd doc vs hv => by obtain ⟨a, b, rfl⟩ := len2 hv; rfl) (by decide) rfl rfl rfl (by decide) n orc ho avs σ
theorem ent_parse_expr {n : Nat} {orc : Orc} (ho : OrcOk K n orc) (avs : List AV) (σ : Sto) : CallAt K (n + 1) .parse_expr avs σ (runF (arF .parse_expr) (nnF .parse_expr) (shF .parse_expr) orc avs σ) :=
  @entry K F .parse_expr sh_parse_expr 2 (@snd_parse_expr K F G) rfl rfl (fun pm cd doc vs hv => by obtain ⟨a, b, rfl⟩ := len2 hv; rfl) (by decide) rfl rfl rfl (by decide) n orc ho avs σ
theorem ent_parse_binary {n : Nat} {orc : Orc} (ho : OrcOk K n orc) (avs : List AV) (σ : Sto) : CallAt K (n + 1) .parse_binary avs σ (runF (arF .parse_binary) (nnF .parse_binary) (shF .parse_binary) orc avs σ) :=
  @entry K F .parse_binary sh_parse_binary 3 (@snd_parse_binary K F G) rfl rfl (fun pm cd doc vs hv => by obtain ⟨a, b, c, rfl⟩ := len3 hv; rfl) (by decide) rfl rfl rfl (by decide) n orc ho avs σ
theorem ent_parse_first {n : Nat} {orc : Orc} (ho : OrcOk K n orc) (avs : List AV) (σ : Sto) : CallAt K (n + 1) .parse_first avs σ (runF (arF .parse_first) (nnF .parse_first) (shF .parse_first) orc avs σ) :=
  @entry K F .parse_first sh_parse_first 3 (@snd_parse_first K F G) rfl rfl (fun pm cd doc vs hv => by obtain ⟨a, b, c, rfl⟩ := len3 hv; rfl) (by decide) rfl rfl rfl (by decide) n orc ho avs σ
theorem ent_parse_primary {n : Nat} {orc : Orc} (ho : OrcOk K n orc) (avs : List AV) (σ : Sto) : CallAt K (n + 1) .parse_primary avs σ (runF (arF .parse_primary) (nnF .parse_primary) (shF .parse_primary) orc avs σ) :=
  @entry K F .parse_primary sh_parse_primary 2 (@snd_parse_primary K F G) rfl rfl (fun pm cd doc vs hv => by obtain ⟨a, b, rfl⟩ := len2 hv; rfl) (by decide) rfl rfl rfl (by decide) n orc ho avs σ
theorem ent_constant_of {n : Nat} {orc : Orc} (ho : OrcOk K n orc) (avs : List AV) (σ : Sto) : CallAt K (n + 1) .constant_of avs σ (runF (arF .constant_of) (nnF .constant_of) (shF .constant_of) orc avs σ) :=
  @entry K F .constant_of sh_constant_of 3 (@snd_constant_of K F G) rfl rfl (fun pm cd doc vs hv => by obtain ⟨a, b, c, rfl⟩ := len3 hv; rfl) (by decide) rfl rfl rfl (by decide) n orc ho avs σ
theorem ent_parse_bracket {n : Nat} {orc : Orc} (ho : OrcOk K n orc) (avs : List AV) (σ : Sto) : CallAt K (n + 1) .parse_bracket avs σ (runF (arF .parse_bracket) (nnF .parse_bracket) (shF .parse_bracket) orc avs σ) :=
  @entry K F .parse_bracket sh_parse_bracket 2 (@snd_parse_bracket K F G) rfl rfl (fun pm cd doc vs hv => by obtain ⟨a, b, rfl⟩ := len2 hv; rfl) (by decide) rfl rfl rfl (by decide) n orc ho avs σ
theorem ent_part_end {n : Nat} {orc : Orc} (ho : OrcOk K n orc) (avs : List AV) (σ : Sto) : CallAt K (n + 1) .part_end avs σ (runF (arF .part_end) (nnF .part_end) (shF .part_end) orc avs σ) :=
  @entry K F .part_end sh_part_end 2 (@snd_part_end K F G) rfl rfl (fun pm cd doc vs hv => by obtain ⟨a, b, rfl⟩ := len2 hv; rfl) (by decide) rfl rfl rfl (by decide) n orc ho avs σ
theorem ent_is_complex {n : Nat} {orc : Orc} (ho : OrcOk K n orc) (avs : List AV) (σ : Sto) : CallAt K (n + 1) .is_complex avs σ (runF (arF .is_complex) (nnF .is_complex) (shF .is_complex) orc avs σ) :=
  @entry K F .is_complex sh_is_complex 2 (@snd_is_complex K F G) rfl rfl (fun pm cd doc vs hv => by obtain ⟨a, b, rfl⟩ := len2 hv; rfl) (by decide) rfl rfl rfl (by decide) n orc ho avs σ
theorem ent_complex_part {n : Nat} {orc : Orc} (ho : OrcOk K n orc) (avs : List AV) (σ : Sto) : CallAt K (n + 1) .complex_part avs σ (runF (arF .complex_part) (nnF .complex_part) (shF .complex_part) orc avs σ) :=
  @entry K F .complex_part sh_complex_part 2 (@snd_complex_part K F G) rfl rfl (fun pm cd doc vs hv => by obtain ⟨a, b, rfl⟩ := len2 hv; rfl) (by decide) rfl rfl rfl (by decide) n orc ho avs σ
theorem ent_parse_named {n : Nat} {orc : Orc} (ho : OrcOk K n orc) (avs : List AV) (σ : Sto) : CallAt K (n + 1) .parse_named avs σ (runF (arF .parse_named) (nnF .parse_named) (shF .parse_named) orc avs σ) :=
  @entry K F .parse_named sh_parse_named 2 (@snd_parse_named K F G) rfl rfl (fun pm cd doc vs hv => by obtain ⟨a, b, rfl⟩ := len2 hv; rfl) (by decide) rfl rfl rfl (by decide) n orc ho avs σ
theorem ent_is_cut {n : Nat} {orc : Orc} (ho : OrcOk K n orc) (avs : List AV) (σ : Sto) : CallAt K (n + 1) .is_cut avs σ (runF (arF .is_cut) (nnF .is_cut) (shF .is_cut) orc avs σ) :=
  @entry K F .is_cut sh_is_cut 2 (@snd_is_cut K F G) rfl rfl (fun pm cd doc vs hv => by obtain ⟨a, b, rfl⟩ := len2 hv; rfl) (by decide) rfl rfl rfl (by decide) n orc ho avs σ
theorem ent_parse_cut {n : Nat} {orc : Orc} (ho : OrcOk K n orc) (avs : List AV) (σ : Sto) : CallAt K (n + 1) .parse_cut avs σ (runF (arF .parse_cut) (nnF .parse_cut) (shF .parse_cut) orc avs σ) :=
  @entry K F .parse_cut sh_parse_cut 3 (@snd_parse_cut K F G) rfl rfl (fun pm cd doc vs hv => by obtain ⟨a, b, c, rfl⟩ := len3 hv; rfl) (by decide) rfl rfl rfl (by decide) n orc ho avs σ
theorem ent_parse_arguments {n : Nat} {orc : Orc} (ho : OrcOk K n orc) (avs : List AV) (σ : Sto) : CallAt K (n + 1) .parse_arguments avs σ (runF (arF .parse_arguments) (nnF .parse_arguments) (shF .parse_arguments) orc avs σ) :=
  @entry K F .parse_arguments sh_parse_arguments 3 (@snd_parse_arguments K F G) rfl rfl (fun pm cd doc vs hv => by obtain ⟨a, b, c, rfl⟩ := len3 hv; rfl) (by decide) rfl rfl rfl (by decide) n orc ho avs σ
theorem ent_whole_expr {n : Nat} {orc : Orc} (ho : OrcOk K n orc) (avs : List AV) (σ : Sto) : CallAt K (n + 1) .whole_expr avs σ (runF (arF .whole_expr) (nnF .whole_expr) (shF .whole_expr) orc avs σ) :=
  @entry K F .whole_expr sh_whole_expr 1 (@snd_whole_expr K F G) rfl rfl (fun pm cd doc vs hv => by obtain ⟨a, rfl⟩ := len1 hv; rfl) (by decide) rfl rfl rfl (by decide) n orc ho avs σ
theorem ent_law_rank {n : Nat} {orc : Orc} (ho : OrcOk K n orc) (avs : List AV) (σ : Sto) : CallAt K (n + 1) .law_rank avs σ (runF (arF .law_rank) (nnF .law_rank) (shF .law_rank) orc avs σ) :=
  @entry K F .law_rank sh_law_rank 0 (@snd_law_rank K F G) rfl rfl (fun pm cd doc vs hv => by cases len0 hv; rfl) (by decide) rfl rfl rfl (by decide) n orc ho avs σ
theorem ent_law_ops {n : Nat} {orc : Orc} (ho : OrcOk K n orc) (avs : List AV) (σ : Sto) : CallAt K (n + 1) .law_ops avs σ (runF (arF .law_ops) (nnF .law_ops) (shF .law_ops) orc avs σ) :=
  @entry K F .law_ops sh_law_ops 0 (@snd_law_ops K F G) rfl rfl (fun pm cd doc vs hv => by cases len0 hv; rfl) (by decide) rfl rfl rfl (by decide) n orc ho avs σ
theorem ent_law_marks {n : Nat} {orc : Orc} (ho : OrcOk K n orc) (avs : List AV) (σ : Sto) : CallAt K (n + 1) .law_marks avs σ (runF (arF .law_marks) (nnF .law_marks) (shF .law_marks) orc avs σ) :=
  @entry K F .law_marks sh_law_marks 0 (@snd_law_marks K F G) rfl rfl (fun pm cd doc vs hv => by cases len0 hv; rfl) (by decide) rfl rfl rfl (by decide) n orc ho avs σ
theorem ent_law_names {n : Nat} {orc : Orc} (ho : OrcOk K n orc) (avs : List AV) (σ : Sto) : CallAt K (n + 1) .law_names avs σ (runF (arF .law_names) (nnF .law_names) (shF .law_names) orc avs σ) :=
  @entry K F .law_names sh_law_names 0 (@snd_law_names K F G) rfl rfl (fun pm cd doc vs hv => by cases len0 hv; rfl) (by decide) rfl rfl rfl (by decide) n orc ho avs σ
theorem ent_law_operand {n : Nat} {orc : Orc} (ho : OrcOk K n orc) (avs : List AV) (σ : Sto) : CallAt K (n + 1) .law_operand avs σ (runF (arF .law_operand) (nnF .law_operand) (shF .law_operand) orc avs σ) :=
  @entry K F .law_operand sh_law_operand 3 (@snd_law_operand K F G) rfl rfl (fun pm cd doc vs hv => by obtain ⟨a, b, c, rfl⟩ := len3 hv; rfl) (by decide) rfl rfl rfl (by decide) n orc ho avs σ
theorem ent_law_behind {n : Nat} {orc : Orc} (ho : OrcOk K n orc) (avs : List AV) (σ : Sto) : CallAt K (n + 1) .law_behind avs σ (runF (arF .law_behind) (nnF .law_behind) (shF .law_behind) orc avs σ) :=
  @entry K F .law_behind sh_law_behind 3 (@snd_law_behind K F G) rfl rfl (fun pm cd doc vs hv => by obtain ⟨a, b, c, rfl⟩ := len3 hv; rfl) (by decide) rfl rfl rfl (by decide) n orc ho avs σ
theorem ent_law_row {n : Nat} {orc : Orc} (ho : OrcOk K n orc) (avs : List AV) (σ : Sto) : CallAt K (n + 1) .law_row avs σ (runF (arF .law_row) (nnF .law_row) (shF .law_row) orc avs σ) :=
  @entry K F .law_row sh_law_row 1 (@snd_law_row K F G) rfl rfl (fun pm cd doc vs hv => by obtain ⟨a, rfl⟩ := len1 hv; rfl) (by decide) rfl rfl rfl (by decide) n orc ho avs σ
theorem ent_law_mark {n : Nat} {orc : Orc} (ho : OrcOk K n orc) (avs : List AV) (σ : Sto) : CallAt K (n + 1) .law_mark avs σ (runF (arF .law_mark) (nnF .law_mark) (shF .law_mark) orc avs σ) :=
  @entry K F .law_mark sh_law_mark 2 (@snd_law_mark K F G) rfl rfl (fun pm cd doc vs hv => by obtain ⟨a, b, rfl⟩ := len2 hv; rfl) (by decide) rfl rfl rfl (by decide) n orc ho avs σ
theorem ent_law_is_even {n : Nat} {orc : Orc} (ho : OrcOk K n orc) (avs : List AV) (σ : Sto) : CallAt K (n + 1) .law_is_even avs σ (runF (arF .law_is_even) (nnF .law_is_even) (shF .law_is_even) orc avs σ) :=
  @entry K F .law_is_even sh_law_is_even 1 (@snd_law_is_even K F G) rfl rfl (fun pm cd doc vs hv => by obtain ⟨a, rfl⟩ := len1 hv; rfl) (by decide) rfl rfl rfl (by decide) n orc ho avs σ
theorem ent_law_close {n : Nat} {orc : Orc} (ho : OrcOk K n orc) (avs : List AV) (σ : Sto) : CallAt K (n + 1) .law_close avs σ (runF (arF .law_close) (nnF .law_close) (shF .law_close) orc avs σ) :=
  @entry K F .law_close sh_law_close 2 (@snd_law_close K F G) rfl rfl (fun pm cd doc vs hv => by obtain ⟨a, b, rfl⟩ := len2 hv; rfl) (by decide) rfl rfl rfl (by decide) n orc ho avs σ
theorem ent_law_parted {n : Nat} {orc : Orc} (ho : OrcOk K n orc) (avs : List AV) (σ : Sto) : CallAt K (n + 1) .law_parted avs σ (runF (arF .law_parted) (nnF .law_parted) (shF .law_parted) orc avs σ) :=
  @entry K F .law_parted sh_law_parted 4 (@snd_law_parted K F G) rfl rfl (fun pm cd doc vs hv => by obtain ⟨a, b, c, d, rfl⟩ := len4 hv; rfl) (by decide) rfl rfl rfl (by decide) n orc ho avs σ
theorem ent_law_part {n : Nat} {orc : Orc} (ho : OrcOk K n orc) (avs : List AV) (σ : Sto) : CallAt K (n + 1) .law_part avs σ (runF (arF .law_part) (nnF .law_part) (shF .law_part) orc avs σ) :=
  @entry K F .law_part sh_law_part 3 (@snd_law_part K F G) rfl rfl (fun pm cd doc vs hv => by obtain ⟨a, b, c, rfl⟩ := len3 hv; rfl) (by decide) rfl rfl rfl (by decide) n orc ho avs σ
theorem ent_law_cut {n : Nat} {orc : Orc} (ho : OrcOk K n orc) (avs : List AV) (σ : Sto) : CallAt K (n + 1) .law_cut avs σ (runF (arF .law_cut) (nnF .law_cut) (shF .law_cut) orc avs σ) :=
  @entry K F .law_cut sh_law_cut 4 (@snd_law_cut K F G) rfl rfl (fun pm cd doc vs hv => by obtain ⟨a, b, c, d, rfl⟩ := len4 hv; rfl) (by decide) rfl rfl rfl (by decide) n orc ho avs σ
theorem ent_law_named {n : Nat} {orc : Orc} (ho : OrcOk K n orc) (avs : List AV) (σ : Sto) : CallAt K (n + 1) .law_named avs σ (runF (arF .law_named) (nnF .law_named) (shF .law_named) orc avs σ) :=
  @entry K F .law_named sh_law_named 3 (@snd_law_named K F G) rfl rfl (fun pm cd doc vs hv => by obtain ⟨a, b, c, rfl⟩ := len3 hv; rfl) (by decide) rfl rfl rfl (by decide) n orc ho avs σ
theorem ent_law_primary {n : Nat} {orc : Orc} (ho : OrcOk K n orc) (avs : List AV) (σ : Sto) : CallAt K (n + 1) .law_primary avs σ (runF (arF .law_primary) (nnF .law_primary) (shF .law_primary) orc avs σ) :=
  @entry K F .law_primary sh_law_primary 3 (@snd_law_primary K F G) rfl rfl (fun pm cd doc vs hv => by obtain ⟨a, b, c, rfl⟩ := len3 hv; rfl) (by decide) rfl rfl rfl (by decide) n orc ho avs σ
theorem ent_law_read {n : Nat} {orc : Orc} (ho : OrcOk K n orc) (avs : List AV) (σ : Sto) : CallAt K (n + 1) .law_read avs σ (runF (arF .law_read) (nnF .law_read) (shF .law_read) orc avs σ) :=
  @entry K F .law_read sh_law_read 4 (@snd_law_read K F G) rfl rfl (fun pm cd doc vs hv => by obtain ⟨a, b, c, d, rfl⟩ := len4 hv; rfl) (by decide) rfl rfl rfl (by decide) n orc ho avs σ
theorem callF_ok : ∀ n, OrcOk K n (callF n)
  | 0 => call_zero
  | n + 1 => fun f avs σ => match f with
    | .kind_at => ent_kind_at F G (callF_ok n) avs σ
    | .is_op => ent_is_op F G (callF_ok n) avs σ
    | .need_op => ent_need_op F G (callF_ok n) avs σ
    | .need_name => ent_need_name F G (callF_ok n) avs σ
    | .need_int => ent_need_int F G (callF_ok n) avs σ
    | .close_at => ent_close_at F G (callF_ok n) avs σ
    | .priority_at => ent_priority_at F G (callF_ok n) avs σ
    | .parse_expr => ent_parse_expr F G (callF_ok n) avs σ
    | .parse_binary => ent_parse_binary F G (callF_ok n) avs σ
    | .parse_first => ent_parse_first F G (callF_ok n) avs σ
    | .parse_primary => ent_parse_primary F G (callF_ok n) avs σ
    | .constant_of => ent_constant_of F G (callF_ok n) avs σ
    | .parse_bracket => ent_parse_bracket F G (callF_ok n) avs σ
    | .part_end => ent_part_end F G (callF_ok n) avs σ
    | .is_complex => ent_is_complex F G (callF_ok n) avs σ
    | .complex_part => ent_complex_part F G (callF_ok n) avs σ
    | .parse_named => ent_parse_named F G (callF_ok n) avs σ
    | .is_cut => ent_is_cut F G (callF_ok n) avs σ
    | .parse_cut => ent_parse_cut F G (callF_ok n) avs σ
    | .parse_arguments => ent_parse_arguments F G (callF_ok n) avs σ
    | .whole_expr => ent_whole_expr F G (callF_ok n) avs σ
    | .law_rank => ent_law_rank F G (callF_ok n) avs σ
    | .law_ops => ent_law_ops F G (callF_ok n) avs σ
    | .law_marks => ent_law_marks F G (callF_ok n) avs σ
    | .law_names => ent_law_names F G (callF_ok n) avs σ
    | .law_operand => ent_law_operand F G (callF_ok n) avs σ
    | .law_behind => ent_law_behind F G (callF_ok n) avs σ
    | .law_row => ent_law_row F G (callF_ok n) avs σ
    | .law_mark => ent_law_mark F G (callF_ok n) avs σ
    | .law_is_even => ent_law_is_even F G (callF_ok n) avs σ
    | .law_close => ent_law_close F G (callF_ok n) avs σ
    | .law_parted => ent_law_parted F G (callF_ok n) avs σ
    | .law_part => ent_law_part F G (callF_ok n) avs σ
    | .law_cut => ent_law_cut F G (callF_ok n) avs σ
    | .law_named => ent_law_named F G (callF_ok n) avs σ
    | .law_primary => ent_law_primary F G (callF_ok n) avs σ
    | .law_read => ent_law_read F G (callF_ok n) avs σ
end
noncomputable abbrev bmE : List Value := [.type "Exception", .type "BaseException", .type "object"]
inductive ObjC (KF : Frag) (C D : Addr) : Prop
  | mk (nm q N bs sn sub ab col dd k0 k1 k2 k3 k5) (h : KF.lookup C = some (excClassObj nm q C N bs (.ref D :: bmE) true sn sub ab col dd k0 k1 k2 k3 k5 "Exception.__new__")) : ObjC KF C D
structure ClsF (KF : Frag) (C D fI : Addr) : Prop where
  obj : ObjC KF C D
  init : findIn KF (.ref C) "__init__" = some (some (.ref fI))
  fn : typeIn KF (.ref fI) = some (.type "function")
  sa : findIn KF (.ref C) "__setattr__" = some (some (.builtin "object.__setattr__"))
  tx : findIn KF (.ref C) (Str.ofString "text") = some none
section
variable {prog : Program} {w : World} {A : Around} {E : Value → Shared → Prop} {h : Heap} {g : Array GenState} {d : Drawn} {t : Nat} {os : OsState} {KF : Frag} {C D fI x : Addr}
theorem exc_mro (X : KF.In h) (F : ClsF KF C D fI) : Looks (model prog w) h (mroOf (.ref C)) (.ref C :: .ref D :: bmE) := by
  obtain ⟨nm, q, N, bs, sn, sub, ab, col, dd, k0, k1, k2, k3, k5, hC⟩ := F.obj
  exact (looks_clsIn (cd := { name := nm, bases := bs, mro := .ref C :: .ref D :: bmE, ns := N, qualname := q, hasDict := true, slotNames := sn, subclasses := sub, abstract := ab, collection := col, hasDel := false }) X (by unfold clsIn; rw [hC])).andThen .now
theorem exc_store {vs : Array Value} {v : Value} {Q : Unit → Shared → Prop} (X : KF.In h) (F : ClsF KF C D fI) (hx : h.get? x = some { cls := .ref C, data := .fields vs })
    (hq : ∀ h' tk' dx, h'.get? x = some { cls := .ref C, dict := some dx, data := .fields vs } → (∀ b o, b ≠ x → h.get? b = some o → h'.get? b = some o) → Q () ⟨h', g, d, tk', os⟩) :
    wpAny (model prog w) A (setAttr (.ref x) (Str.ofString "text") v) Q E ⟨h, g, d, t, os⟩ := by
  have I : InstAt h x { cls := .ref C, data := .fields vs } C none := ⟨hx, rfl, rfl, trivial⟩
  have hm := exc_mro (prog := prog) (w := w) X F
  refine glq fun Gq kq => ?_
  obtain ⟨nm, q, N, bs, sn, sub, ab, col, dd, k0, k1, k2, k3, k5, hC⟩ := F.obj
  refine kq ?_
  clear kq Gq
  have hC' := X _ _ hC
  refine set_plain (s := ⟨h, g, d, t, os⟩) X I F.sa ?_
  have SF := PySem.F.store_Exception
  have hsub : Looks (model prog w) h (isInstance (.ref x) (.type "object")) true := I.type.andThen (looks_mroIn X (by unfold mroIn clsIn; rw [hC]; rfl))
  refine codeAny_call_builtin SF.slot.plain SF.entry (@check_slot (model prog w) _ _ _ "object.__setattr__" "object" "__setattr__" (.ref x) [.str (Str.ofString "text") t, v] [] _ SF.kind SF.split hsub (SF.args (.ref x) (.str (Str.ofString "text") t) v) ?_)
  rw [osa_eq, refuse_eq]
  refine wpAny_bind (wpAny_bind (I.type.here (wpAny_bind (hm.here ?_))))
  rw [refuseLoop_ref, refuseLoop_ref, SF.passes]
  refine wpAny_pure (wpAny_bind (I.type.here (wpAny_bind ((looks_findIn X F.tx).here (wpAny_bind ?_)))))
  refine wpAny_pure ?_
  have hx₁ : (h.push { cls := .type "dict", data := .dict #[] }).get? x = some { cls := .ref C, data := .fields vs } := Heap.get?_push_of_some _ hx
  have hxs : x ≠ h.objs.size := Nat.ne_of_lt (Heap.lt_size hx)
  refine wpAny_bind (wpAny_pure (wpAny_bind (wpAny_bind (wpAny_loadPart hx (wpAny_bind ((looks_clsIn (cd := { name := nm, bases := bs, mro := .ref C :: .ref D :: bmE, ns := N, qualname := q, hasDict := true, slotNames := sn, subclasses := sub, abstract := ab, collection := col, hasDel := false }) X (by unfold clsIn; rw [hC])).here ?_))))))
  dsimp only
  rw [if_neg (by decide), if_neg (by simp [typeHasDict])]
  refine wpAny_bind (wpAny_alloc' ?_)
  refine wpAny_bind (wpAny_update' hx₁ ?_)
  refine wpAny_pure ?_
  have hgd : ((h.push { cls := .type "dict", data := .dict #[] }).update x fun o => { cls := o.cls, dict := some h.objs.size, data := o.data, slots := o.slots }).get? h.objs.size
      = some { cls := .type "dict", data := .dict #[] } :=
    (Heap.get?_update_ne _ _ _ _ hxs.symm).trans (Heap.get?_push_at rfl rfl)
  have hnd : ((h.push { cls := .type "dict", data := .dict #[] }).update x fun o => { cls := o.cls, dict := some h.objs.size, data := o.data, slots := o.slots }).Ns h.objs.size (fun _ => none) :=
    ⟨_, #[], _, hgd, rfl, fun e he => absurd he (by simp), fun _ => rfl⟩
  show wpAny _ _ (Builtin.ObjectAttr.storeInDict h.objs.size (.str (Str.ofString "text") _) (Str.ofString "text") v) _ _ _
  unfold Builtin.ObjectAttr.storeInDict Builtin.ObjectAttr.newKeyGuard
  refine wpAny_bind (wpAny_pure (wpAny_bind (wpAny_nsSet1 (Heap.Ns1.of_empty hnd) fun h' hn' hs => ?_)))
  refine glq fun Gq kq => ?_
  obtain ⟨oD, esD, epD, hoD, hdD, hcD⟩ := hn'.count (Within.cons (Str.ofString "text") v Within.nil)
  refine kq ?_
  clear kq Gq
  refine wpAny_bind (wpAny_lookBehind hoD (by rw [hdD]; exact pastItsLine_dict (Nat.le_trans hcD (by rw [List.length_cons, List.length_nil, sizeLine_eq]; lia))) ?_)
  refine wpAny_pure ?_
  refine hq h' _ h.objs.size ((hs.2 x hxs).trans (Heap.get?_update_self _ hx₁ rfl)) fun b ob hbx hb => ?_
  exact (hs.2 b (Nat.ne_of_lt (Heap.lt_size hb))).trans ((Heap.get?_update_ne _ _ _ _ hbx).trans (Heap.get?_push_of_some _ hb))
theorem exc_check_new {M : Model} {rest : List Value} {Q : Unit → Shared → Prop} (X : KF.In h) (F : ClsF KF C D fI) (hq : Q () ⟨h, g, d, t, os⟩) : wpAny M A (checkBuiltinCall "Exception.__new__" ⟨.ref C :: rest, []⟩) Q E ⟨h, g, d, t, os⟩ := by
  obtain ⟨nm, q, N, bs, sn, sub, ab, col, dd, k0, k1, k2, k3, k5, hC⟩ := F.obj
  have hC := X _ _ hC
  have F := PySem.F.excBase_Exception
  have hcont : (Value.ref C :: .ref D :: bmE).contains (.type "Exception") = true := by rw [List.contains_cons, List.contains_cons, F.hasB, Bool.or_true, Bool.or_true]
  have hstar := F.noStar
  simp only [checkBuiltinCall, F.newKind, F.newSplit, F.newRow]
  repeat (first | refine wpAny_loadPart_at hC ?_ | (refine wpAny_isSubtype_exc hC ?_; rw [hcont]) | refine wpAny_staticBase_exc hC ?_ | refine wpAny_madeBy_exc hC ?_ | simp only [bne_self_eq_false, Bool.false_eq_true, if_false] | wp_step)
  exact hq
theorem exc_new {rest : List Value} {R : Result → Shared → Prop} (X : KF.In h) (F : ClsF KF C D fI)
    (hq : R (.ok (.ret (.ref (h.objs.size + 1)))) ⟨(h.push { cls := .type "tuple", data := .seq rest.toArray }).push
      { cls := .ref C, data := .fields #[.ref h.objs.size, .none, .none, .none, .bool false, .none] }, g, d, t, os⟩) (hrest : rest.length ≤ sizeLine := by size_fits) :
    codeAny (model prog w) A (.builtin "Exception.__new__" ⟨.ref C :: rest, []⟩) R ⟨h, g, d, t, os⟩ := by
  obtain ⟨nm, q, N, bs, sn, sub, ab, col, dd, k0, k1, k2, k3, k5, hC⟩ := F.obj
  have hC := X _ _ hC
  have F := PySem.F.excBase_Exception
  have hends := F.ends
  have hcB : (Value.ref C :: .ref D :: bmE).contains (.type "Exception") = true := by rw [List.contains_cons, List.contains_cons, F.hasB, Bool.or_true, Bool.or_true]
  have hcA : (Value.ref C :: .ref D :: bmE).contains (.type "AttributeError") = false := by rw [List.contains_cons, List.contains_cons, F.noAttr]; rfl
  have hcN : (Value.ref C :: .ref D :: bmE).contains (.type "NameError") = false := by rw [List.contains_cons, List.contains_cons, F.noName]; rfl
  refine codeAny_builtinAt F.entry ?_
  unfold Builtin.«BaseException.__new__»
  refine PySem.wpAt_bind ?_
  show PySem.wpAt _ _ _ (stack >>= _) _ _ _
  refine PySem.wpAt_bind (PySem.wpAt_stack fun p below => PySem.wpAt_of_wpAny ?_)
  wp_walk
  refine PySem.wpAt_of_wpAny ?_
  rw [F.owner]
  repeat (first | with_reducible refine wpAny_madeHere_exc F.canon hC ?_ | with_reducible refine wpAny_loadPart_at hC ?_ | (with_reducible refine wpAny_isSubtype_exc hC ?_; first | rw [hcB] | rw [hcA] | rw [hcN]) | wp_step)
  show R _ _
  rw [Heap.size_push]
  exact hq
theorem exc_type_call {rest : List Value} {Q : Fin → Shared → Prop} (X : KF.In h) (F : ClsF KF C D fI)
    (hq : ∀ h' e tp, (∀ b o, h.get? b = some o → h'.get? b = some o) → h.get? e = none → h'.get? e = some { cls := .ref C, data := .fields #[.ref tp, .none, .none, .none, .bool false, .none] } → h'.get? tp = some { cls := .type "tuple", data := .seq rest.toArray } →
      wpAny (model prog w) A (call (.ref fI) (.ref e :: rest)) (fun r s' => r = .none ∧ Q (.done (.ret (.ref e))) s') E ⟨h', g, d, t, os⟩) (hrest : rest.length ≤ sizeLine := by size_fits) :
    wpAny (model prog w) A (Builtin.«type.__call__» ⟨.ref C :: rest, []⟩) Q E ⟨h, g, d, t, os⟩ := by
  obtain ⟨nm, q, N, bs, sn, sub, ab, col, dd, k0, k1, k2, k3, k5, hC⟩ := id F.obj
  have hC := X _ _ hC
  have F0 := PySem.F.excBase_Exception
  repeat (first | with_reducible refine wpAny_loadPart_at hC ?_ | with_reducible refine wpAny_madeBy_exc hC ?_ | wp_step)
  refine codeAny_call_builtin_code (Code.quiet_builtin _ F0.quiet) (exc_check_new X F ?_)
  refine exc_new X F ?_ hrest
  show wpAny _ _ _ _ _ _
  have k : ∀ b o, h.get? b = some o → ((h.push { cls := .type "tuple", data := .seq rest.toArray }).push { cls := .ref C, data := .fields #[.ref h.objs.size, .none, .none, .none, .bool false, .none] }).get? b = some o :=
    fun b o e => Heap.get?_push_of_some _ (Heap.get?_push_of_some _ e)
  have hC₁ := k _ _ hC
  have X₁ := X.keeps k
  have hget : ((h.push { cls := .type "tuple", data := .seq rest.toArray }).push
      { cls := .ref C, data := .fields #[.ref h.objs.size, .none, .none, .none, .bool false, .none] }).get? (h.objs.size + 1) = some
      { cls := .ref C, data := .fields #[.ref h.objs.size, .none, .none, .none, .bool false, .none] } := by heap_get
  have hcC : (Value.ref C :: .ref D :: bmE).contains (.ref C) = true := by simp
  unfold isInstance
  repeat (first | with_reducible refine wpAny_loadPart_at hget ?_ | (with_reducible refine wpAny_isSubtype_exc hC₁ ?_; rw [hcC]) | wp_step)
  show wpAny _ _ (typeLookup (.ref C) _) _ _ _
  refine (looks_findIn X₁ F.init).here ?_
  refine wpAny_holding (wpAny_bind ((bind_fn X₁ _ F.fn).here ?_))
  refine wpAny_bind (wpAny_mono (hq _ (h.objs.size + 1) h.objs.size k (Heap.get?_none_of_le (Nat.le_succ _)) hget (Heap.get?_push_of_some _ (Heap.get?_push_at rfl rfl))) (fun r s' hr => ?_) fun _ _ x => x)
  obtain ⟨rfl, hQ⟩ := hr
  wp_walk
  exact hQ
theorem exc_call {rest : List Value} {Q : Value → Shared → Prop} (X : KF.In h) (F : ClsF KF C D fI)
    (hq : ∀ h' e tp, (∀ b o, h.get? b = some o → h'.get? b = some o) → h.get? e = none → h'.get? e = some { cls := .ref C, data := .fields #[.ref tp, .none, .none, .none, .bool false, .none] } → h'.get? tp = some { cls := .type "tuple", data := .seq rest.toArray } →
      wpAny (model prog w) (A.under (.builtin "type.__call__" ⟨.ref C :: rest, []⟩)) (call (.ref fI) (.ref e :: rest)) (fun r s' => r = .none ∧ Q (.ref e) s') E ⟨h', g, d, t, os⟩) (hrest : rest.length ≤ sizeLine := by size_fits) :
    wpAny (model prog w) A (call (.ref C) rest) Q E ⟨h, g, d, t, os⟩ := by
  obtain ⟨nm, q, N, bs, sn, sub, ab, col, dd, k0, k1, k2, k3, k5, hC⟩ := id F.obj
  have hC := X _ _ hC
  have f1 := tc_lookup
  have f2 := tc_bind (.ref C)
  have hT : (⟨h, g, d, t, os⟩ : Shared).TypeIs (.ref C) "type" := ⟨_, hC, rfl⟩
  refine wpAny_call (codeAny_of_tree ?_)
  show wpAny _ _ (callAny (.ref C) _) _ _ _
  repeat (any_goals (first | assumption | with_reducible refine wpAny_loadPart_at hC ?_ | wp_step))
  refine ⟨rfl, ?_⟩
  refine codeAny_call_builtin_at (Code.quiet_builtin _ (by decide +kernel)) entry_typeCall (wpAny_check_type_call_sub hC (exc_type_call (hrest := hrest) X F fun h' e tp a b c z => ?_))
  exact hq h' e tp a b c z
end
section
variable {prog : Program} {w : World} {A : Around} {E : Value → Shared → Prop} {s : Shared}
theorem exc_typeOf : typeOf (.type "Exception") = pure (.type "type") := by kernel_rfl
theorem exc_ga : typeLookup (.type "type") "__getattribute__" = pure (some (.builtin "type.__getattribute__")) := by rw [typeLookup_type, builtinLookup_eq_fast]; kernel_rfl
theorem exc_find : findCls [] (.type "Exception") (.type "type") (Str.ofString "__init__") = some (.val (.builtin "Exception.__init__")) := by kernel_rfl
theorem exc_init_attr {Q : Value → Shared → Prop} (h : Q (.builtin "Exception.__init__") { s with toks := s.toks + 1 }) : wpAny (model prog w) A (getAttr (.type "Exception") (Str.ofString "__init__")) Q E s := by
  refine cls_open (K := []) (hook := none) (r := .val (.builtin "Exception.__init__")) (fun a o e => by cases e) (Looks.of_pure (by kernel_rfl)) (Looks.of_pure exc_typeOf) (by kernel_rfl) (Looks.of_pure (by kernel_rfl)) (by kernel_rfl) exc_find ?_
  exact wpAny_pure (handed_on (by decide +kernel) h)
theorem exc_init_method {pl : Sem Bool} {Q : Value × List Value → Shared → Prop} (h : Q (.builtin "Exception.__init__", []) { s with toks := s.toks + 1 }) : wpAny (model prog w) A (getMethod (.type "Exception") (Str.ofString "__init__") pl) Q E s := by
  unfold getMethod specialOf
  rw [exc_typeOf]
  refine wpAny_bind (wpAny_bind (wpAny_pure ?_))
  rw [exc_ga]
  refine wpAny_pure ?_
  dsimp only
  rw [if_pos canon_tga]
  exact wpAny_bind (wpAny_mono (exc_init_attr (Q := fun v s' => Q (v, []) s') h) (fun _ _ z => wpAny_pure z) fun _ _ z => z)
theorem exc_check_init {M : Model} {h : Heap} {g : Array GenState} {d : Drawn} {t : Nat} {os : OsState} {KF : Frag} {C D fI : Addr} {e : Addr} {oe : Obj} {rest : List Value} {Q : Unit → Shared → Prop} (X : KF.In h) (F : ClsF KF C D fI)
    (he : h.get? e = some oe) (hcls : oe.cls = .ref C) (hq : Q () ⟨h, g, d, t, os⟩) : wpAny M A (checkBuiltinCall "Exception.__init__" ⟨.ref e :: rest, []⟩) Q E ⟨h, g, d, t, os⟩ := by
  refine glq fun Gq kq => ?_
  obtain ⟨nm, q, N, bs, sn, sub, ab, col, dd, k0, k1, k2, k3, k5, hC⟩ := F.obj
  refine kq ?_
  clear kq Gq
  have hC := X _ _ hC
  have F := PySem.F.excBase_Exception
  have hcB : (Value.ref C :: .ref D :: bmE).contains (.type "Exception") = true := by rw [List.contains_cons, List.contains_cons, F.hasB, Bool.or_true, Bool.or_true]
  have hshort := F.noStar
  simp only [checkBuiltinCall, F.initKind, F.initSplit, F.initRow]
  repeat (first | (with_reducible refine wpAny_loadPart_at he ?_; rw [hcls]) | with_reducible refine wpAny_loadPart_at hC ?_ | (with_reducible refine wpAny_isSubtype_exc hC ?_; rw [hcB]) | wp_step)
  refine wpAny_onRaise ?_
  rw [show ∀ (a b : String) (n : Nat), Bind.check ⟨.positional, "*", "Exception", .self, [⟨"args", .varPos, false⟩]⟩ a b n (List.map (fun x => x.fst) ({ pos := Value.ref e :: rest } : Args).kw) = pure () from
    fun a b n => check_star_args _ _ _ _ _ _]
  exact wpAny_pure hq
theorem exc_base_init {h : Heap} {g : Array GenState} {d : Drawn} {t : Nat} {os : OsState} {KF : Frag} {C D fI : Addr} {e tp : Addr} {vs : List Value} {v : Value} {Q : Value → Shared → Prop} (X : KF.In h) (F : ClsF KF C D fI)
    (he : h.get? e = some { cls := .ref C, data := .fields #[.ref tp, .none, .none, .none, .bool false, .none] }) (htp : h.get? tp = some { cls := .type "tuple", data := .seq vs.toArray })
    (hq : ∀ h' tp, h'.get? e = some { cls := .ref C, data := .fields #[.ref tp, .none, .none, .none, .bool false, .none] } → (∀ b o, b ≠ e → h.get? b = some o → h'.get? b = some o) → Q .none ⟨h', g, d, t, os⟩) :
    wpAny (model prog w) A (call (.builtin "Exception.__init__") [.ref e, v]) Q E ⟨h, g, d, t, os⟩ := by
  have F0 := PySem.F.excBase_Exception
  refine wpAny_call (codeAny_call_builtin F0.init.plain F0.initEntry (exc_check_init X F he rfl ?_))
  wp_walk
  refine hq _ h.objs.size ?_ fun b o hb e => ?_
  · rw [Heap.get?_update_self _ (Heap.get?_push_of_some _ he) rfl]; rfl
  · rw [Heap.get?_update_other _ _ (Ne.symm hb)]
    exact Heap.get?_push_of_some _ e
inductive InitF (KF : Frag) (fI : Addr) : Prop
  | mk (oc od params names gen co dV kV doc pm an cdv ct osl p1 p2 p3 p4 p5 p6 p7 p8 p9 p10)
    (hf : KF.lookup fI = some ⟨oc, od, .func (fnOf (Str.ofString "__init__") (Str.ofString "F77Error.__init__") params
      [.Expr (.Call (.Attribute (.Name (Str.ofString "Exception") p1) (Str.ofString "__init__") p2) [.Name (Str.ofString "self") p3, .Name (Str.ofString "text") p4] [] p5) p6,
       .Assign [.Attribute (.Name (Str.ofString "self") p7) (Str.ofString "text") p8] (.Name (Str.ofString "text") p9) p10]
      { kind := .function, names := names, isGenerator := gen, isCoroutine := co } dV kV doc pm an cdv ct), osl⟩)
    (hcd : codeIn KF cdv (Str.ofString "F77Error.__init__") = true) (hg : gen = false) (hc : co = false) (hn : names = [(Str.ofString "self", .local), (Str.ofString "text", .local), (Str.ofString "Exception", .globalImplicit)])
    (hl : (p2.endLine == p5.line) = true)
    (hb : ∀ v u, bindArgs (fnOf (Str.ofString "__init__") (Str.ofString "F77Error.__init__") params
      [.Expr (.Call (.Attribute (.Name (Str.ofString "Exception") p1) (Str.ofString "__init__") p2) [.Name (Str.ofString "self") p3, .Name (Str.ofString "text") p4] [] p5) p6,
       .Assign [.Attribute (.Name (Str.ofString "self") p7) (Str.ofString "text") p8] (.Name (Str.ofString "text") p9) p10]
      { kind := .function, names := names, isGenerator := gen, isCoroutine := co } dV kV doc pm an cdv ct) ⟨[v, u], []⟩ = pure [(Str.ofString "self", v), (Str.ofString "text", u)]) : InitF KF fI
theorem exc_own_init {h : Heap} {g : Array GenState} {d : Drawn} {t : Nat} {os : OsState} {KF : Frag} {C D fI : Addr} {e tp : Addr} {vs : List Value} {x : Str} {tk : Tok} {mg mb : Str → Option Value} {Q : Value → Shared → Prop} (X : KF.In h) (F : ClsF KF C D fI) (I : InitF KF fI) (hKe : KF.lookup e = none)
    (hroom : A.depth < recursionLimit) (hg : h.Ns mainGlobals mg) (hb : h.Ns builtinsNs mb) (hlim : h.NoLimit) (hmg : mg (Str.ofString "Exception") = none) (hmb : mb (Str.ofString "Exception") = some (.type "Exception"))
    (he : h.get? e = some { cls := .ref C, data := .fields #[.ref tp, .none, .none, .none, .bool false, .none] }) (htp : h.get? tp = some { cls := .type "tuple", data := .seq vs.toArray })
    (hq : ∀ h' tk' tp dx, h'.get? e = some { cls := .ref C, dict := some dx, data := .fields #[.ref tp, .none, .none, .none, .bool false, .none] } → (∀ b o, b ≠ e → h.get? b = some o → h'.get? b = some o) → Q .none ⟨h', g, d, tk', os⟩) :
    wpAny (model prog w) A (call (.ref fI) [.ref e, .str x tk]) Q E ⟨h, g, d, t, os⟩ := by
  refine glq fun Gq kq => ?_
  obtain ⟨oc, od, params, names, gen, co, dV, kV, doc, pm, an, cdv, ct, osl, p1, p2, p3, p4, p5, p6, p7, p8, p9, p10, hf, hcd, rfl, rfl, rfl, hline, hbind⟩ := I
  refine kq ?_
  clear kq Gq
  refine wpAny_call (codeAny_call_def (binds := [(Str.ofString "self", .ref e), (Str.ofString "text", .str x tk)]) hroom (X _ _ hf) rfl hlim (codeRec_of X hcd) rfl (BindsTo.of_eq (hbind _ _)) (by intro y hy; simp at hy; rcases hy with rfl | rfl | rfl <;> decide) (by intro y hy; simp at hy; rcases hy with rfl | rfl <;> rfl) (fun h₀ hns hk₁ => ?_) rfl rfl rfl)
  generalize henv : callEnv _ _ _ = env
  have hkind : env.scope.kind = .function := by subst henv; rfl
  have hloc : env.locals = h.objs.size := by subst henv; rfl
  have hglob : env.globals = mainGlobals := by subst henv; rfl
  have hblt : env.builtins = builtinsNs := by subst henv; rfl
  have kself : env.kindOf (Str.ofString "self") = some .local := by subst henv; rfl
  have ktext : env.kindOf (Str.ofString "text") = some .local := by subst henv; rfl
  have kexc : env.kindOf (Str.ofString "Exception") = some .globalImplicit := by subst henv; rfl
  have hns' : h₀.Ns env.locals (fun x_1 => [(Str.ofString "self", Value.ref e), (Str.ofString "text", .str x tk)].reverse.lookup x_1) := by rw [hloc]; exact hns
  have hint : interactive env = false := by unfold interactive; rw [hkind]; rfl
  refine wpAny_execs_cons ?_
  refine wpAny_Expr ?_ hint rfl
  rw [arm_eval_Call]
  have hbase : attributeBase (.Name (Str.ofString "Exception") p1) (Str.ofString "__init__") env (eval (.Name (Str.ofString "Exception") p1) env) = eval (.Name (Str.ofString "Exception") p1) env := rfl
  rw [hbase]
  have hg₀ : h₀.Ns mainGlobals mg := hg.keeps hk₁
  have hb₀ : h₀.Ns builtinsNs mb := hb.keeps hk₁
  refine wpAny_bind (Calls.Name_function_global hkind kexc (Calls.loadGlobal_builtin (mg := mg) (mb := mb) (by rw [hglob]; exact hg₀) hmg (by rw [hblt]; exact hb₀) hmb ?_) (by decide))
  refine wpAny_bind (wpAny_standAt ?_)
  have hform : methodCallForm (([.Name (Str.ofString "self") p3, .Name (Str.ofString "text") p4] : List Expr).length + ([] : List Keyword).length) (backTo p5 (starEach [.Name (Str.ofString "self") p3, .Name (Str.ofString "text") p4] env)) (backToKw p5 (keywordEach [] env)) = true := rfl
  have hpos : methodCallPos true (.Name (Str.ofString "Exception") p1) env p2 p5 = pure p5 := by unfold methodCallPos; simp [hline]
  unfold methodCall
  rw [hform]
  refine wpAny_bind (wpAny_holding (exc_init_method ?_))
  refine wpAny_bind (wpAny_of_eq hpos ?_)
  have hst2 : starEach [.Name (Str.ofString "self") p3, .Name (Str.ofString "text") p4] env = [(false, eval (.Name (Str.ofString "self") p3) env), (false, eval (.Name (Str.ofString "text") p4) env)] := rfl
  rw [hst2]
  refine Calls.callWith_builtin rfl (Calls.evalArgs_plain (Calls.spliced_cons ?_))
  refine wpAny_Name (wpAny_loadName_local hkind kself hns' rfl ?_) (by decide)
  refine Calls.spliced_cons (wpAny_Name (wpAny_loadName_local hkind ktext hns' rfl ?_) (by decide))
  refine Calls.spliced_nil ?_
  have X₀ := X.keeps hk₁
  refine exc_base_init X₀ F (hk₁ _ _ he) (hk₁ _ _ htp) fun h₁ tp₁ he₁ hs₁ => ?_
  have hne : env.locals ≠ e := by rw [hloc]; exact (Nat.ne_of_lt (Heap.lt_size he)).symm
  have hns₁ : h₁.Ns env.locals (fun x_1 => [(Str.ofString "self", Value.ref e), (Str.ofString "text", .str x tk)].reverse.lookup x_1) := by
    obtain ⟨o, es, ep, ho, r⟩ := hns'
    exact ⟨o, es, ep, hs₁ _ _ hne ho, r⟩
  refine wpAny_execs_cons (plainObj_wpAny_Assign_Attribute ?_ rfl)
  refine wpAny_Name (wpAny_loadName_local hkind ktext hns₁ rfl ?_) (by decide)
  refine wpAny_Name (wpAny_loadName_local hkind kself hns₁ rfl ?_) (by decide)
  have X₁ : KF.In h₁ := fun b o q => by
    refine hs₁ b o (fun z => ?_) (X₀ b o q)
    subst z
    rw [hKe] at q
    cases q
  refine exc_store X₁ F he₁ fun h₂ tk₂ dx he₂ hs₂ => ?_
  refine wpAny_execs_nil ?_
  exact hq h₂ tk₂ tp₁ dx he₂ fun b o hb e => hs₂ b o hb (hs₁ b o hb (hk₁ b o e))
end
theorem mkOk {K : Pack} {KF : Frag} {D fI : Addr} (X : KF.In K.GB) (F : ClsF KF K.C D fI) (I : InitF KF fI) (G : Facts K) (hmg : K.mg (Str.ofString "Exception") = none) (hmb : K.mb (Str.ofString "Exception") = some (.type "Exception")) : MkOk K := by
  intro A s x t Q E hd hB hq
  obtain ⟨h, g, d, tk, os⟩ := s
  have X₁ := X.keeps hB
  refine exc_call X₁ F (fun h' e tp k hn he htp => ?_) (by rw [sizeLine_eq, List.length_singleton]; lia)
  have k' := fun b o q => k b o (hB b o q)
  have hKe : KF.lookup e = none := by
    cases q : KF.lookup e with
    | none => rfl
    | some o => have := X₁ _ _ q; rw [hn] at this; cases this
  refine exc_own_init (X.keeps k') F I hKe (by show A.depth + 1 < _; lia) (G.g.keeps k') (G.b.keeps k') (G.nolimit.keeps k') hmg hmb he htp fun h₂ tk₂ tp₂ dx he₂ hs₂ => ⟨rfl, ?_⟩
  refine hq h₂ e tk₂ tp₂ (some dx) (fun b o q => hs₂ b o (fun z => ?_) (k b o q)) hn he₂
  subst z
  have q' : h.get? b = some o := q
  rw [hn] at q'
  cases q'
noncomputable def allF : List Fn := [.kind_at, .is_op, .need_op, .need_name, .need_int, .close_at, .priority_at, .parse_expr, .parse_binary, .parse_first, .parse_primary, .constant_of, .parse_bracket, .part_end, .is_complex, .complex_part, .parse_named, .is_cut, .parse_cut, .parse_arguments, .whole_expr, .law_rank, .law_ops, .law_marks, .law_names, .law_operand, .law_behind, .law_row, .law_mark, .law_is_even, .law_close, .law_parted, .law_part, .law_cut, .law_named, .law_primary, .law_read]
theorem recs_eq : (recsOf qV).map (fun d => (d.name, d.params, d.body, d.scope)) = allF.map (fun f => ((DF f).str, (DF f).params, (DF f).body, (DF f).scope)) ++ [(Str.ofString "law", D_law.1.1, D_law.1.2.1, D_law.1.2.2)] := by kernel_rfl
theorem allF_mem (f : Fn) : f ∈ allF := List.mem_of_getElem? (i := f.ctorIdx) (by cases f <;> rfl)
theorem fn_mem (f : Fn) : ∃ d ∈ recsOf qV, d.name = (DF f).str ∧ d.params = (DF f).params ∧ d.body = (DF f).body ∧ d.scope = (DF f).scope := by
  have h : ((DF f).str, (DF f).params, (DF f).body, (DF f).scope) ∈ (recsOf qV).map (fun d => (d.name, d.params, d.body, d.scope)) := by
    rw [recs_eq]
    exact List.mem_append_left _ (List.mem_map.mpr ⟨f, allF_mem f, rfl⟩)
  obtain ⟨d, hd, e⟩ := List.mem_map.mp h
  obtain ⟨e1, e2, e3, e4⟩ : _ ∧ _ ∧ _ ∧ _ := by simpa only [Prod.mk.injEq] using e
  exact ⟨d, hd, e1, e2, e3, e4⟩
section
variable {loose : List Str} {mean : ExcName → Option Value} {prog : Program} {w : World} {h : Heap} {mg mb : Str → Option Value}
theorem fns_of (T : Top qV loose mean mg mb h) (f : Fn) : ∃ a o pm c' doc, h.get? a = some o ∧ o.data = .func (Calls.docDef (DF f).str (DF f).params (DF f).body (DF f).scope pm (.ref c') doc) ∧ h.CodeRec (.ref c') (DF f).str ∧ mg (DF f).str = some (.ref a) := by
  obtain ⟨d, hd, e1, e2, e3, e4⟩ := fn_mem f
  obtain ⟨a, o, pm, code, doc, h1, h2, h3, h4⟩ := T.fn d hd
  obtain ⟨a', o', fd, c, P, k1, k2, k3, k4, _⟩ := T.tab d hd
  rw [h1] at k1
  cases k1
  rw [h2] at k2
  cases k2
  rw [h3] at k3
  cases k3
  have hc : code = .ref c := k4
  subst hc
  rw [e1] at h1 h4
  rw [e1, e2, e3, e4] at h3
  exact ⟨a, o, pm, c, doc, h2, h3, h4, h1⟩
theorem const_of (T : Top qV loose mean mg mb h) {x : Str} {i : Int} (e : valOf qV x = some (.int i)) : ∃ t, mg x = some (.int i t) := by
  obtain ⟨v, h1, h2⟩ := T.const x _ e
  cases h2 h with
  | int => exact ⟨_, h1⟩
theorem pri_tab (X : (KH w.params).In h) : StrTab prog w h 89 priD := by
  refine ⟨by decide, [(Str.ofString ".EQV.", .int 1 301), (Str.ofString ".NEQV.", .int 1 304), (Str.ofString ".OR.", .int 2 307), (Str.ofString ".AND.", .int 3 310), (Str.ofString ".EQ.", .int 5 313), (Str.ofString ".NE.", .int 5 316), (Str.ofString ".LT.", .int 5 319), (Str.ofString ".LE.", .int 5 322), (Str.ofString ".GT.", .int 5 325), (Str.ofString ".GE.", .int 5 328), (Str.ofString "//", .int 6 331), (Str.ofString "+", .int 7 334), (Str.ofString "-", .int 7 337), (Str.ofString "*", .int 8 340), (Str.ofString "/", .int 8 343), (Str.ofString "**", .int 9 346)], ⟨_, _, _, X 89 _ rfl, ⟨rfl, rfl, rfl⟩, rfl, ?a, ?p, ?n⟩, ?f⟩
  case p => repeat (first | exact .nil | refine .cons (strKind_is prog w _ _) rfl ?_)
  case a =>
    intro e he
    refine match KeysLit.all (P := w.params) ?_ e (Array.mem_toList_iff.mpr he) with | ⟨x, t, e1, e2⟩ => ⟨x, by rw [e1]; exact strKind_is prog w x t, e2⟩
    refine ⟨⟨_, _, rfl, rfl⟩, ?_⟩
    repeat (first | exact trivial | refine ⟨⟨_, _, rfl, rfl⟩, ?_⟩)
  case n => decide +kernel
  case f => repeat (first | exact .nil | refine .cons (.int _ _) ?_)
noncomputable def faN (T : Top qV loose mean mg mb h) (f : Fn) : Addr := (fns_of T f).choose
theorem facts_of (X : (KH w.params).In h) (T : Top qV loose mean mg mb h) (hp : mg nameP = some (.ref 89)) (h1 : mg (Str.ofString "len") = none) (h2 : mg (Str.ofString "range") = none) : Facts ⟨prog, w, h, mg, mb, faN T, 44⟩ where
  g := T.g
  b := T.b
  nolimit := T.nolimit
  len0 := h1
  len1 := (T.builtins _ (by decide)).trans Boot.«len»
  rng0 := h2
  rng1 := (T.builtins _ (by decide)).trans Boot.«range»
  fns := fun f => (fns_of T f).choose_spec
  c1 := const_of T (by kernel_rfl)
  c4 := const_of T (by kernel_rfl)
  c5 := const_of T (by kernel_rfl)
  c7 := const_of T (by kernel_rfl)
  c9 := const_of T (by kernel_rfl)
  pri := ⟨89, hp, pri_tab X⟩
theorem clsF : ClsF (KH w.params) 44 31 28 where
  obj := ⟨_, _, _, _, _, _, _, _, _, _, _, _, _, _, rfl⟩
  init := by rfl
  fn := by rfl
  sa := by kernel_rfl
  tx := by kernel_rfl
theorem initF : InitF (KH w.params) 28 :=
  ⟨_, _, _, _, _, _, _, _, _, _, _, _, _, _, _, _, _, _, _, _, _, _, _, _, rfl, by rfl, rfl, rfl, rfl, rfl, fun v u => rfl⟩
theorem excFacts_of (X : (KH w.params).In h) (T : Top qV loose mean mg mb h) (hs : mg nameS = some (.ref 44)) (hp : mg nameP = some (.ref 89)) (h1 : mg (Str.ofString "len") = none) (h2 : mg (Str.ofString "range") = none) (h3 : mg (Str.ofString "Exception") = none) : ExcFacts ⟨prog, w, h, mg, mb, faN T, 44⟩ where
  bound := hs
  obj := ⟨_, _, _, _, _, _, _, _, _, _, _, _, _, _, _, _, _, X 44 _ rfl, by decide⟩
  make := mkOk (KF := KH w.params) X clsF initF (facts_of X T hp h1 h2) h3 ((T.builtins _ (by decide)).trans Boot.«Exception»)
end
section
variable {K : Pack} {S : Sta} {ρ : Rho} {σ : Sto} {la : List Addr} {h h' : Heap}
theorem nodup_snd : ∀ {l : List (Str × Addr)}, (l.map (·.2)).Nodup → ∀ {p q : Str × Addr}, p ∈ l → q ∈ l → p.2 = q.2 → p = q
  | [], _, _, _, hp, _, _ => by cases hp
  | x :: l, hn, p, q, hp, hq, e => by
    rw [List.map_cons] at hn
    have hn' := List.nodup_cons.mp hn
    by_cases h1 : p = x
    · by_cases h2 : q = x
      · rw [h1, h2]
      · have hq' := (List.mem_cons.mp hq).resolve_left h2
        exact (hn'.1 (List.mem_map.mpr ⟨q, hq', by rw [← e, h1]⟩)).elim
    · have hp' := (List.mem_cons.mp hp).resolve_left h1
      by_cases h2 : q = x
      · exact (hn'.1 (List.mem_map.mpr ⟨p, hp', by rw [e, h2]⟩)).elim
      · exact nodup_snd hn'.2 hp' ((List.mem_cons.mp hq).resolve_left h2) e
theorem Inv.storeC (ok : StaOk K S) (x : Inv K S ρ σ la h) {i : Nat} {y : Str} {v : Value} {av : AV} {c : Addr} (hy : S.env.scope.names[i]? = some (y, .cell)) (hr : RepA K (seen S σ la h) la v av)
    (hc : S.env.cells.lookup y = some c) (hn : h'.IsCell c (some v)) (hs : Heap.SameBut c h h') :
    Inv K S (ρ.set i (some av)) σ la h' ∧ (seen S σ la h).StaysIn (seen S σ la h') := by
  have kp : ∀ b o, b ≠ c → h.get? b = some o → h'.get? b = some o := fun b o hb e => (hs.2 b hb).trans e
  have hmem := lookup_mem hc
  have hcm : c ∈ S.env.cells.map (·.2) := List.mem_map.mpr ⟨_, hmem, rfl⟩
  have hco : c ∈ S.own := List.mem_cons_of_mem _ (List.mem_append.mpr (.inl hcm))
  have hL : c ∈ S.frs := own_frs _ hco
  have hLl : c ∉ live σ la := fun q => x.locs.out _ q hL
  have hseen : (seen S σ la h).StaysIn (seen S σ la h') := seen_mono fun b o hb e => ⟨kp b o (fun q => hb (List.mem_append.mpr (.inl (q ▸ hL)))) e, hb⟩
  have hLn : S.h0.get? c = none := ok.fresh _ hco
  have ndt := (List.nodup_cons.mp ok.ownnod)
  have nda := List.nodup_append.mp ndt.2
  have cL : c ≠ S.env.locals := fun q => ndt.1 (q ▸ List.mem_append.mpr (.inl hcm))
  refine ⟨⟨fun b o e => kp b o (fun q => ?_) (x.gb b o e), x.gbh, fun b o e hb => kp b o (fun q => by rw [q, hLn] at e; cases e) (x.keep0 b o e hb), fun b hb => ?_, x.pre, x.pre0, x.mon, x.new, ?_, fun p hp => ?_, fun p hp => ?_, ?_⟩, hseen⟩
  · have := x.gbh c (List.mem_append.mpr (.inl hL))
    rw [← q, e] at this; cases this
  · have hne : b ≠ c := fun q => by rw [q, hLn] at hb; cases hb
    rw [hs.2 b hne]; exact x.alive b hb
  · refine ⟨x.locs.len, fun k ds e => ?_, x.locs.inj, x.locs.out⟩
    refine glq fun Gq kq => ?_
    obtain ⟨a, vs, n, h1, h2, h3⟩ := x.locs.at' k ds e
    refine kq ?_
    clear kq Gq
    exact ⟨a, vs, n, h1, kp _ _ (fun q => hLl (q ▸ mem_live.mpr ⟨k, ds, e, h1⟩)) h2, h3.mono hseen⟩
  · exact kp _ _ (fun q => nda.2.2 _ hcm _ (List.mem_map.mpr ⟨p, hp, rfl⟩) q.symm) (x.ex p hp)
  · by_cases q : p.2 = c
    · rw [q]; exact ⟨_, hn⟩
    · obtain ⟨w, hw⟩ := x.cells p hp
      exact ⟨w, cell_at hw fun o ho => kp _ o q ho⟩
  · obtain ⟨m, hm, hv⟩ := x.vars
    have hm' : h'.Ns S.env.locals m := by
      obtain ⟨o, es, ep, ho, r⟩ := hm
      exact ⟨o, es, ep, kp _ _ (Ne.symm cL) ho, r⟩
    refine ⟨m, hm', fun j z kd aw hz hj => ?_⟩
    by_cases hij : i = j
    · subst hij
      rw [hy] at hz
      cases hz
      have hlt : i < ρ.length := by
        by_cases hl : i < ρ.length
        · exact hl
        · rw [List.getElem?_eq_none (by rw [List.length_set]; lia)] at hj; cases hj
      rw [List.getElem?_set_self hlt] at hj
      cases hj
      exact ⟨v, .inr ⟨rfl, c, hc, hn⟩, hr.mono hseen fun _ _ e => e⟩
    · rw [List.getElem?_set_ne hij] at hj
      obtain ⟨v', hva, hrep⟩ := hv j z kd aw hz hj
      refine ⟨v', ?_, hrep.mono hseen fun _ _ e => e⟩
      rcases hva with ⟨q1, q2⟩ | ⟨q1, c', q2, q3⟩
      · exact .inl ⟨q1, q2⟩
      · refine .inr ⟨q1, c', q2, cell_at q3 fun o ho => kp _ o (fun q => ?_) ho⟩
        have hne : z ≠ y := by
          rintro rfl
          have e1 : (S.env.scope.names.map (·.1))[i]? = some z := by rw [List.getElem?_map, hy]; rfl
          have e2 : (S.env.scope.names.map (·.1))[j]? = some z := by rw [List.getElem?_map, hz]; rfl
          exact hij (nodup_get ok.nod e1 e2)
        exact hne (congrArg Prod.fst (nodup_snd nda.1 (lookup_mem q2) hmem q))
end
section
variable {K : Pack} {sc : Scope}
noncomputable def S1 (K : Pack) (S : Sta) (st : Stmt) (c : SC) : Prop :=
  ∀ (orc : Orc) (_ : OrcOk K S.n orc) (ρ : Rho) (σ : Sto) (la : List Addr) (s : Shared) (Q : Flow → Shared → Prop) (E : Value → Shared → Prop),
    Inv K S ρ σ la s.heap → PostS K S σ la s (c orc ρ σ) Q E → wpAny (model K.prog K.w) S.A (exec st S.env) Q E s
noncomputable def B1 (K : Pack) (S : Sta) (b : List Stmt) (c : SC) : Prop :=
  ∀ (orc : Orc) (_ : OrcOk K S.n orc) (ρ : Rho) (σ : Sto) (la : List Addr) (s : Shared) (Q : Flow → Shared → Prop) (E : Value → Shared → Prop),
    Inv K S ρ σ la s.heap → PostS K S σ la s (c orc ρ σ) Q E → wpAny (model K.prog K.w) S.A (execs b S.env) Q E s
theorem S1.of {S : Sta} (ok : StaOk K S) (hs : S.env.scope = sc) {st : Stmt} {c : SC} (h : SndS K sc st c) : S1 K S st c := fun orc ho ρ σ la s Q E x q => h S ok hs orc ho ρ σ la s Q E x q
theorem B1.of {S : Sta} (ok : StaOk K S) (hs : S.env.scope = sc) {b : List Stmt} {c : SC} (h : SndB K sc b c) : B1 K S b c := fun orc ho ρ σ la s Q E x q => h S ok hs orc ho ρ σ la s Q E x q
theorem B1.cons {S : Sta} {st : Stmt} {b : List Stmt} {c d : SC} (h1 : S1 K S st c) (h2 : B1 K S b d) : B1 K S (st :: b) (sCons c d) := fun orc ho ρ σ la s Q E x h => by
  unfold sCons at h
  refine wpAny_execs_cons (wpAny_mono (h1 orc ho ρ σ la s _ _ x (PostS.bindS h)) (fun f s₁ h₁ => ?_) fun _ _ e => e)
  refine glq fun Gq kq => ?_
  obtain ⟨⟨fl, ρ', σ'⟩, la₁, _, i, hf, h₁, _, _⟩ := h₁
  refine kq ?_
  clear kq Gq
  cases fl with
  | next =>
    cases hf
    exact h2 orc ho ρ' σ' la₁ s₁ Q E i h₁
  | ret av =>
    obtain ⟨v, rfl, r⟩ := hf
    exact h₁ (.ret v) s₁.heap la₁ s₁.toks i (fun _ _ e => e) ⟨v, rfl, r⟩
theorem asgC {S : Sta} (ok : StaOk K S) (hs : S.env.scope = sc) {e : Expr} {y : Str} {np p : Pos} {c : EC} {i : Nat} {a : Addr} (he : SndE K sc e c) (hy : S.env.scope.names[i]? = some (y, .cell)) (ha : S.env.cells.lookup y = some a)
    (hsw : ∀ env, swapsWith e (some (.Name y np)) p.line env = pure false := by intro _; rfl) : S1 K S (.Assign [.Name y np] e p) (sAsg i c) := fun orc ho ρ σ la s Q E x h => by
  unfold sAsg at h
  refine wpAny_Assign_Name (wpAny_mono (he S ok hs orc ho ρ σ la s _ _ x (PostE.bindS h)) (fun v s₁ h₁ => ?_) fun _ _ e => e) (hsw _)
  obtain ⟨b, _, i₁, m, r, h₁⟩ := h₁
  obtain ⟨w, hw⟩ := i₁.cells (y, a) (lookup_mem ha)
  refine wpAny_storeName_cell ok.fn (names_look ok.nod hy) ha hw fun h' hn hsb => ?_
  obtain ⟨i', m'⟩ := i₁.storeC ok hy r ha hn hsb
  exact h₁ .next h' la s₁.toks i' m' rfl
noncomputable def sTake (i j : Nat) (n : Nat) : SC := fun _ ρ σ => match ρ[j]? with
  | some (some (.d (.list ds))) => if ds.length ≤ 1000000 then .ok (.next, ρ.set i (some (.d (.list (ds.take n)))), σ) else .bad
  | _ => .bad
theorem pick_upto (items : Array Value) (b : Nat) : slicePick items none (some (b : Int)) none = (items.toList.take b).toArray := by
  by_cases hb : b ≤ items.size
  · exact slicePick_upto items b hb
  · have e : slicePick items none (some (b : Int)) none = slicePick items none (some ((items.size : Nat) : Int)) none := by
      unfold slicePick
      have q : sliceBounds none (some (b : Int)) none items.size = sliceBounds none (some ((items.size : Nat) : Int)) none items.size := by
        have h2 : ¬ ((b : Int) < 0) := by lia
        have h3 : ¬ ((items.size : Int) < 0) := by lia
        have h1 : max 0 (min (b : Int) (items.size : Int)) = max 0 (min (items.size : Int) (items.size : Int)) := by lia
        simp only [sliceBounds, Option.getD_none, h2, h3, if_false, show (1 : Int) > 0 by decide, if_true, h1]
      rw [q]
    rw [e, slicePick_upto items items.size (Nat.le_refl _)]
    rw [List.take_of_length_le (by simp), List.take_of_length_le (by rw [Array.length_toList]; lia)]
theorem snd_Take {x y : Str} {nx np sp kp p : Pos} {k : Nat} {i j : Nat} {n : Nat} (hx : sc.names[i]? = some (x, .local) := by rfl) (hy : sc.names[j]? = some (y, .local) := by rfl) (hd : (y == ("__debug__" : Str)) = false := by decide) :
    SndS K sc (.Assign [.Name x nx] (.Subscript (.Name y np) (.Slice none (some (.Constant (.int (n : Nat)) k kp)) none sp) p) p) (sTake i j n) := fun S ok hs orc ho ρ σ la s Q E iv h => by
  subst hs
  unfold sTake at h
  refine wpAny_Assign_Name ?_ rfl
  refine wpAny_Subscript_list_slice ?_
  split at h
  · rename_i ds hr
    refine read_slot ok iv hy hr hd fun v r => ?_
    refine wpAny_evalPart_none (wpAny_evalPart_some (wpAny_Constant_int ?_))
    refine glq fun Gq kq => ?_
    obtain ⟨a, vs, m, rfl, hl, hr⟩ := sees iv r rfl
    refine kq ?_
    clear kq Gq
    split at h
    case isFalse => exact h.elim
    rename_i hlen
    refine ⟨a, vs, none, some (n : Int), rfl, hl.isList, seqSz _ (by rw [← hr.length, Array.length_toList] at hlen; exact hlen), .none, .int _ _, ?_⟩
    rw [pick_upto]
    have e1 := iv.ext (h' := s.heap.push { cls := .type "slice", data := .fields #[.none, .int (n : Int) s.toks, .none] }) fun b o e => Heap.get?_push_of_some _ e
    have hrt : RDs (seen S σ la (s.heap.push { cls := .type "slice", data := .fields #[.none, .int (n : Int) s.toks, .none] })) (vs.toList.take n) (ds.take n) := (hr.take n).mono e1.2
    have := new_seq (Q := fun v s' => wpAny (model K.prog K.w) S.A (storeName S.env x v) (fun _ s'' => Q .next s'') E s') (s := s) (s₁ := { s with heap := s.heap.push { cls := .type "slice", data := .fields #[.none, .int (n : Int) s.toks, .none] }, toks := s.toks + 1 }) (T := "list") (c := .list) ok e1.1 hrt (fun g a xs n zs q r => .list q r) e1.2 fun v h' tk' i m r => ?_
    · rw [Heap.size_push] at this
      exact this
    exact store_snd ok i hx r fun h'' tk'' i' m' => h .next h'' la tk'' i' (fun b o q => m' b o (m b o q)) rfl
  · exact h.elim
end
noncomputable def ixd (k : Nat) : PyData → PyData
  | .tuple [a, b] => .tuple [a, b, .int (k : Nat)]
  | _ => .none
noncomputable def ixds (ds : List PyData) : List PyData := ds.mapIdx ixd
section
variable {prog : Program} {w : World} {A : Around} {E : Value → Shared → Prop} {s : Shared}
theorem sub_list {value slice : Expr} {l : Addr} {vs : Array Value} {k : Nat} {t : Tok} {v : Value} {Q : Value → Shared → Prop} (hl : s.heap.IsList l vs) (hk : k < 1000000) (hv : vs.toList[k]? = some v) (h : Q v s)
    (hsl : ∀ o i, subscripted slice false o i = operate [o, i] (getItem o i)) : wpAny (model prog w) A (subscriptTail value slice (.ref l) (.int (k : Nat) t)) Q E s :=
  tail_any hl.typeIs slot_list_getitem.lookup (wpAny_getItem_list hl (by lia) (by lia) (by rw [← Array.getElem?_toList]; exact hv) h) (hsl _ _)
theorem sub_tup {value slice : Expr} {l : Addr} {vs : Array Value} {k : Nat} {t : Tok} {v : Value} {Q : Value → Shared → Prop} (hl : IsTup s.heap l vs) (hk : k < 1000000) (hv : vs.toList[k]? = some v) (h : Q v s)
    (hsl : ∀ o i, subscripted slice false o i = operate [o, i] (getItem o i)) : wpAny (model prog w) A (subscriptTail value slice (.ref l) (.int (k : Nat) t)) Q E s := by
  have hlt := (List.getElem?_eq_some_iff.mp hv).1
  rw [Array.length_toList] at hlt
  refine tail_any hl.typeIs slot_tuple_getitem.lookup (PyProof.Rows.getItem_tuple (j := k) hl (by lia) (by lia) ?_ (by rw [← Array.getElem?_toList]; exact hv) h) (hsl _ _)
  unfold seqIndex?
  simp
  lia
theorem comp_elt {cenv : Env} {c l : Addr} {X : List Addr} {vs : Array Value} {n : Nat} {ds : List PyData} {m : Str → Option Value} {k : Nat} {t : Tok} {a b : PyData} {p1 p2 p3 p4 p5 p6 p7 p8 p9 p10 p11 p12 : Pos} {k1 k2 k3 : Nat} {Q : Value → Shared → Prop}
    (hx : cenv.kindOf (Str.ofString "at") = some .local) (hr : cenv.kindOf (Str.ofString "row") = some .cell) (hk : cenv.scope.kind = .function) (hcl : cenv.cells.lookup (Str.ofString "row") = some c)
    (hcell : s.heap.IsCell c (some (.ref l))) (hl : IsL s.heap l vs n) (hrd : RDs (hideAll s.heap X) vs.toList ds) (hd : ds[k]? = some (.tuple [a, b])) (hkz : k < 1000000) (hn : s.heap.Ns cenv.locals m) (hm : m (Str.ofString "at") = some (.int (k : Nat) t))
    (hX : ∀ a ∈ X, (s.heap.get? a).isSome)
    (h : ∀ h' tk' v, (∀ b o, s.heap.get? b = some o → h'.get? b = some o) → RD (hideAll h' X) v (.tuple [a, b, .int (k : Nat)]) → Q v { s with heap := h', toks := tk' }) :
    wpAny (model prog w) A (eval (.Tuple [.Subscript (.Subscript (.Name (Str.ofString "row") p1) (.Name (Str.ofString "at") p2) p3) (.Constant (.int 0) k1 p4) p5,
      .Subscript (.Subscript (.Name (Str.ofString "row") p6) (.Name (Str.ofString "at") p7) p8) (.Constant (.int 1) k2 p9) p10, .Name (Str.ofString "at") p11] k3 p12) cenv) Q E s := by
  obtain ⟨v, hv, hrv⟩ := hrd.get hd
  have htup : ∃ tp ws i x y, v = .ref tp ∧ IsT s.heap tp ws i ∧ ws.toList = [x, y] ∧ RD (hideAll s.heap X) x a ∧ RD (hideAll s.heap X) y b := by
    cases hrv with
    | tuple h1 h2 =>
      rename_i tp ws i
      generalize hws : ws.toList = L at h2
      cases h2 with
      | cons q1 h2 =>
        cases h2 with
        | cons q2 h2 =>
          cases h2
          exact ⟨_, ws, _, _, _, rfl, of_hideAll _ h1, hws, q1, q2⟩
  refine glq fun Gq kq => ?_
  obtain ⟨tp, ws, i, x, y, rfl, hT, hws, r1, r2⟩ := htup
  refine kq ?_
  clear kq Gq
  have hTup : IsTup s.heap tp ws := ⟨_, hT, rfl, _, rfl⟩
  have row : ∀ {p1 p2 p3 : Pos} {s₁ : Shared} {Q : Value → Shared → Prop}, s₁.heap = s.heap → Q (.ref tp) s₁ →
      wpAny (model prog w) A (eval (.Subscript (.Name (Str.ofString "row") p1) (.Name (Str.ofString "at") p2) p3) cenv) Q E s₁ := by
    intro p1 p2 p3 s₁ Q hs q
    refine Subscript_ ?_
    refine wpAny_Name (wpAny_loadName_cell hk hr hcl (by rw [hs]; exact hcell) ?_) (by decide)
    refine wpAny_Name (wpAny_loadName_local hk hx (by rw [hs]; exact hn) hm ?_) (by decide)
    exact sub_list (vs := vs) (by rw [hs]; exact hl.isList) hkz hv q (by intro _ _; rfl)
  have ha : ∀ {p : Pos} {s₁ : Shared} {Q : Value → Shared → Prop}, s₁.heap = s.heap → Q (.int (k : Nat) t) s₁ → wpAny (model prog w) A (eval (.Name (Str.ofString "at") p) cenv) Q E s₁ := fun hs q =>
    wpAny_Name (wpAny_loadName_local hk hx (by rw [hs]; exact hn) hm q) (by decide)
  refine Tuple_ ?_
  have hi : ∀ {q : Expr} {p4 p5 : Pos} {k1 : Nat} {s₁ : Shared} {Q : Value → Shared → Prop} (j : Nat) (v : Value), j < 1000000 → s₁.heap = s.heap → ws.toList[j]? = some v → (∀ tk, Q v { s₁ with toks := tk }) →
      (∀ {s₂ : Shared} {Q : Value → Shared → Prop}, s₂.heap = s.heap → Q (.ref tp) s₂ → wpAny (model prog w) A (eval q cenv) Q E s₂) → wpAny (model prog w) A (eval (.Subscript q (.Constant (.int (j : Nat)) k1 p4) p5) cenv) Q E s₁ := by
    intro q p4 p5 k1 s₁ Q j v hj hs hv h hq
    refine Subscript_ (hq hs (wpAny_Constant_int ?_))
    exact sub_tup (s := { s₁ with toks := s₁.toks + 1 }) (vs := ws) (by show IsTup s₁.heap tp ws; rw [hs]; exact hTup) hj hv (h _) (by intro _ _; rfl)
  refine args_cons (hi 0 x (by decide) rfl (by rw [hws]; rfl) (fun tk₁ => ?_) fun hs q => row hs q) rfl
  refine args_cons (hi 1 y (by decide) rfl (by rw [hws]; rfl) (fun tk₂ => ?_) fun hs q => row hs q) rfl
  refine args_cons (ha rfl ?_) rfl
  refine args_nil ?_
  refine wpAny_newObj_type ?_ (by show 3 ≤ sizeLine; rw [sizeLine_eq]; decide)
  have kp : ∀ b o, s.heap.get? b = some o → (s.heap.push { cls := .type "tuple", dict := none, data := .seq [x, y, .int (k : Nat) t].toArray }).get? b = some o := fun b o e => Heap.get?_push_of_some _ e
  have kx : (hideAll s.heap X).StaysIn (hideAll (s.heap.push { cls := .type "tuple", dict := none, data := .seq [x, y, .int (k : Nat) t].toArray }) X) := seen_mono fun b o hb e => ⟨kp b o e, hb⟩
  refine h _ _ _ kp (.tuple (vs := [x, y, .int (k : Nat) t].toArray) (n := 0) (hideAll_get _ (Heap.get?_push_size _ rfl) fun q => ?_) (.cons (r1.mono kx) (.cons (r2.mono kx) (.cons (.int _ _) .nil))))
  have := hX _ q
  rw [Heap.get?_none_of_le (Nat.le_refl _)] at this
  cases this
theorem ixds_take {ds : List PyData} {k : Nat} {a b : PyData} (h : ds[k]? = some (.tuple [a, b])) : (ixds ds).take (k + 1) = (ixds ds).take k ++ [.tuple [a, b, .int (k : Nat)]] := by
  unfold ixds
  rw [List.take_add_one, List.getElem?_mapIdx, h]
  rfl
theorem comp_loop {R : Result → Shared → Prop} {cenv : Env} {I D c l : Addr} {X : List Addr} {vs : Array Value} {n : Nat} {ds : List PyData} {m : Str → Option Value} {iter : Expr} {scope : Scope} {px pos : Pos} {p1 p2 p3 p4 p5 p6 p7 p8 p9 p10 p11 p12 : Pos} {k1 k2 k3 : Nat}
    (hh : A.handled = none) (hx : cenv.kindOf (Str.ofString "at") = some .local) (hr : cenv.kindOf (Str.ofString "row") = some .cell) (hk : cenv.scope.kind = .function) (hcl : cenv.cells.lookup (Str.ofString "row") = some c)
    (hDC : D ≠ cenv.locals) (hIC : I ≠ cenv.locals) (hDI : D ≠ I) (hc : c ≠ cenv.locals ∧ c ≠ I ∧ c ≠ D) (hlne : l ≠ cenv.locals ∧ l ≠ I ∧ l ≠ D)
    (hCX : cenv.locals ∈ X) (hIX : I ∈ X) (hDX : D ∈ X) (hX : ∀ a ∈ X, (s.heap.get? a).isSome)
    (hcell : s.heap.IsCell c (some (.ref l))) (hl : IsL s.heap l vs n) (hrd : RDs (hideAll s.heap X) vs.toList ds) (hrow : ∀ d ∈ ds, ∃ a b, d = .tuple [a, b]) (hz : ds.length ≤ 100000)
    (hit : IsRangeIter s.heap I 0 ds.length 1) (hacc : s.heap.PlainList D #[]) (hn : s.heap.Ns cenv.locals m)
    (hR : ∀ h' tk m' ys, h'.Ns cenv.locals m' → h'.PlainList D ys → RDs (hideAll h' X) ys.toList (ixds ds) → (∀ b o, b ≠ cenv.locals → b ≠ I → b ≠ D → s.heap.get? b = some o → h'.get? b = some o) → R (.ok .next) { s with heap := h', toks := tk }) :
    codeAny (model prog w) A (.compLoop (.ListComp (.Tuple [.Subscript (.Subscript (.Name (Str.ofString "row") p1) (.Name (Str.ofString "at") p2) p3) (.Constant (.int 0) k1 p4) p5,
      .Subscript (.Subscript (.Name (Str.ofString "row") p6) (.Name (Str.ofString "at") p7) p8) (.Constant (.int 1) k2 p9) p10, .Name (Str.ofString "at") p11] k3 p12) [⟨.Name (Str.ofString "at") px, iter, [], 0⟩] scope pos) 0 (.ref I) (.ref D) cenv) R s := by
  refine codeAny_compLoop_tests
    (fun j s' => ∃ h' tk m' ys, ∃ i : Nat, s' = { s with heap := h', toks := tk } ∧ i ≤ ds.length ∧ j = ds.length + 1 - i ∧ IsRangeIter h' I (i : Nat) ((ds.length : Int) - (i : Nat)) 1 ∧ h'.PlainList D ys ∧ h'.Ns cenv.locals m' ∧ RDs (hideAll h' X) ys.toList ((ixds ds).take i) ∧
      (∀ b o, b ≠ cenv.locals → b ≠ I → b ≠ D → s.heap.get? b = some o → h'.get? b = some o)) ?_ (ds.length + 1)
    ⟨s.heap, s.toks, m, #[], 0, rfl, Nat.zero_le _, rfl, by simpa using hit, hacc, hn, by simpa using RDs.nil, fun _ _ _ _ _ e => e⟩
  rintro j s' ⟨H, tk, m', ys, i, rfl, hi, rfl, hit', hacc', hn', hys, hkp⟩
  have hXH : ∀ {h' : Heap}, (∃ o, h'.get? I = some o) → (∃ q, h'.Ns cenv.locals q) → (∃ q, h'.PlainList D q) → (∀ b o, b ≠ cenv.locals → b ≠ I → b ≠ D → s.heap.get? b = some o → h'.get? b = some o) → ∀ a ∈ X, (h'.get? a).isSome := by
    rintro h' ⟨o1, e1⟩ ⟨q, o2, _, _, e2, _⟩ ⟨q3, n3, e3⟩ hk a ha
    by_cases q1 : a = cenv.locals
    · rw [q1, e2]; rfl
    by_cases q2 : a = I
    · rw [q2, e1]; rfl
    by_cases q3 : a = D
    · rw [q3, e3]; rfl
    obtain ⟨o, ho⟩ := Option.isSome_iff_exists.mp (hX a ha)
    rw [hk a o q1 q2 q3 ho]; rfl
  by_cases hlt : i < ds.length
  · refine wpAny_pyNext_range_item hit' (by lia) fun h₁ hit₁ hs₁ => ?_
    have e1 : (i : Int) + 1 = ((i + 1 : Nat) : Int) := by lia
    have e2 : (ds.length : Int) - (i : Nat) - 1 = (ds.length : Int) - ((i + 1 : Nat) : Int) := by lia
    rw [e1, e2] at hit₁
    refine wpAny_assign_Name (wpAny_storeName_local hx (hn'.sameBut hs₁ (Ne.symm hIC)) (fun h₂ hn₂ hs₂ => ?_) (by rw [hk]; rfl))
    refine wpAny_tests_nil ?_
    rw [if_pos rfl]
    have up₂ : ∀ b o, b ≠ cenv.locals → b ≠ I → H.get? b = some o → h₂.get? b = some o := fun b o hC hI e => hs₂.extBut b o hC (hs₁.extBut b o hI e)
    have hkp₂ : ∀ b o, b ≠ cenv.locals → b ≠ I → b ≠ D → s.heap.get? b = some o → h₂.get? b = some o := fun b o q1 q2 q3 e => up₂ b o q1 q2 (hkp b o q1 q2 q3 e)
    have hit₂ : IsRangeIter h₂ I ((i + 1 : Nat) : Int) ((ds.length : Int) - ((i + 1 : Nat) : Int)) 1 := hs₂.extBut I _ hIC hit₁
    have hacc₂ : h₂.PlainList D ys := hacc'.at fun o e => up₂ D o hDC hDI e
    have st₂ : (hideAll s.heap X).StaysIn (hideAll h₂ X) := seen_mono fun b o hb e => ⟨hkp₂ b o (fun q => hb (q ▸ hCX)) (fun q => hb (q ▸ hIX)) (fun q => hb (q ▸ hDX)) e, hb⟩
    have stH : (hideAll H X).StaysIn (hideAll h₂ X) := seen_mono fun b o hb e => ⟨up₂ b o (fun q => hb (q ▸ hCX)) (fun q => hb (q ▸ hIX)) e, hb⟩
    obtain ⟨d, hd⟩ : ∃ d, ds[i]? = some d := ⟨_, List.getElem?_eq_getElem hlt⟩
    refine glq fun Gq kq => ?_
    obtain ⟨a, b, rfl⟩ := hrow d (List.mem_of_getElem? hd)
    refine kq ?_
    clear kq Gq
    refine comp_elt (c := c) (l := l) (X := X) (vs := vs) (n := n) (ds := ds) hx hr hk hcl (cell_at hcell fun o e => hkp₂ c o hc.1 hc.2.1 hc.2.2 e) (hkp₂ l _ hlne.1 hlne.2.1 hlne.2.2 hl) (hrd.mono st₂) hd (by lia) hn₂ (if_pos rfl)
      (hXH ⟨_, hit₂⟩ ⟨_, hn₂⟩ ⟨_, hacc₂⟩ hkp₂) fun h₃ tk₃ v hk₃ hv => ?_
    have hyl : ys.size = i := by
      have := hys.length
      rw [Array.length_toList, List.length_take] at this
      unfold ixds at this
      rw [List.length_mapIdx] at this
      lia
    refine wpAny_list_append_plain (hsz := by rw [hyl]; exact seqSz _ (by lia)) (hacc₂.at fun o e => hk₃ _ o e) fun h₄ hl₄ hs₄ => ?_
    have up₄ : ∀ b o, b ≠ D → h₃.get? b = some o → h₄.get? b = some o := fun b o q e => hs₄.extBut b o q e
    have st₄ : (hideAll h₃ X).StaysIn (hideAll h₄ X) := seen_mono fun b o hb e => ⟨up₄ b o (fun q => hb (q ▸ hDX)) e, hb⟩
    have st₃ : (hideAll h₂ X).StaysIn (hideAll h₃ X) := seen_mono fun b o hb e => ⟨hk₃ b o e, hb⟩
    refine ⟨ds.length + 1 - (i + 1), by lia, h₄, _, _, ys.push v, i + 1, rfl, hlt, rfl, up₄ I _ (Ne.symm hDI) (hk₃ _ _ hit₂), hl₄, (hn₂.keeps hk₃).sameBut hs₄ (Ne.symm hDC), ?_, fun b o q1 q2 q3 e => up₄ b o q3 (hk₃ b o (hkp₂ b o q1 q2 q3 e))⟩
    rw [Array.toList_push, ixds_take hd]
    exact (hys.mono fun b o e => st₄ b o (st₃ b o (stH b o e))).append (.cons (hv.mono st₄) .nil)
  · have hin : i = ds.length := by lia
    subst hin
    refine wpAny_pyNext_range_end hh hit' (by lia) fun h₁ hx₁ => ?_
    have st₁ : (hideAll H X).StaysIn (hideAll h₁ X) := seen_mono fun b o hb e => ⟨hx₁ b o (fun q => hb (q ▸ hIX)) e, hb⟩
    refine hR h₁ _ m' ys ?_ (hacc'.extBut hx₁ hDI) ?_ fun b o q1 q2 q3 e => hx₁ b o q2 (hkp b o q1 q2 q3 e)
    · obtain ⟨o, es, ep, ho, r⟩ := hn'
      exact ⟨o, es, ep, hx₁ _ o (Ne.symm hIC) ho, r⟩
    · have := hys.mono st₁
      rwa [List.take_of_length_le (by unfold ixds; rw [List.length_mapIdx]; exact Nat.le_refl _)] at this
end
noncomputable def isPair : PyData → Bool
  | .tuple [_, _] => true
  | _ => false
theorem isPair_of {d : PyData} (h : isPair d = true) : ∃ a b, d = .tuple [a, b] := by
  unfold isPair at h
  split at h
  · exact ⟨_, _, rfl⟩
  · cases h
noncomputable def sTok (i j : Nat) : SC := fun _ ρ σ => match ρ[j]? with
  | some (some (.d (.list ds))) => if ds.length ≤ 100000 ∧ ds.all isPair = true then .ok (.next, ρ.set i (some (.d (.list (ixds ds)))), σ) else .bad
  | _ => .bad
section
variable {K : Pack} {sc : Scope}
theorem clos_row {scope : Scope} {env : Env} {c : Addr} (hn : scope.names = [(Str.ofString ".0", .local), (Str.ofString "at", .local), (Str.ofString "row", .free)]) (hc : env.cells.lookup (Str.ofString "row") = some c) :
    closureFor scope env = pure [(Str.ofString "row", c)] := by
  have e : cellOf env (Str.ofString "row") = pure c := by unfold cellOf; rw [hc]
  have e2 : (NameKind.local == NameKind.free) = false := rfl
  have e3 : (NameKind.free == NameKind.free) = true := rfl
  simp only [closureFor, hn, List.forIn_cons, List.forIn_nil, e2, e3, if_true, Bool.false_eq_true, if_false, e]
  rfl
section
variable {prog : Program} {w : World} {A : Around} {E : Value → Shared → Prop} {env : Env}
theorem comp_block {s₂ : Shared} {I c l : Addr} {X : List Addr} {vs : Array Value} {n : Nat} {ds : List PyData} {iter : Expr} {scope : Scope} {px pos : Pos} {p1 p2 p3 p4 p5 p6 p7 p8 p9 p10 p11 p12 : Pos} {k1 k2 k3 : Nat} {RR : Value → Addr → Result → Shared → Prop}
    (hh : A.handled = none) (hn : scope.names = [(Str.ofString ".0", .local), (Str.ofString "at", .local), (Str.ofString "row", .free)]) (hk : scope.kind = .function) (hek : env.scope.kind = .function) (her : env.kindOf (Str.ofString "row") = some .cell)
    (hcI : c ≠ I) (hlI : l ≠ I) (hIX : I ∈ X) (hX : ∀ a ∈ X, (s₂.heap.get? a).isSome)
    (hcell : s₂.heap.IsCell c (some (.ref l))) (hl : IsL s₂.heap l vs n) (hrd : RDs (hideAll s₂.heap X) vs.toList ds) (hrow : ∀ d ∈ ds, ∃ a b, d = .tuple [a, b]) (hz : ds.length ≤ 100000)
    (hit : IsRangeIter s₂.heap I 0 ds.length 1)
    (hRR : ∀ D C h' tk m' ys, s₂.heap.get? D = none → s₂.heap.get? C = none → D ≠ C → h'.Ns C m' → h'.PlainList D ys → RDs (hideAll h' (C :: D :: X)) ys.toList (ixds ds) → (∀ b o, b ≠ I → s₂.heap.get? b = some o → h'.get? b = some o) → RR (.ref D) C (.ok .next) { s₂ with heap := h', toks := tk }) :
    wpAny (model prog w) A (newList []) (fun acc s₃ => wpAny (model prog w) A (newFunctionEnv scope env.globals [(Str.ofString "row", c)] [] env.qual none .none (some env)) (fun cenv s₄ =>
      codeAny (model prog w) A (.compStart (.ListComp (.Tuple [.Subscript (.Subscript (.Name (Str.ofString "row") p1) (.Name (Str.ofString "at") p2) p3) (.Constant (.int 0) k1 p4) p5,
      .Subscript (.Subscript (.Name (Str.ofString "row") p6) (.Name (Str.ofString "at") p7) p8) (.Constant (.int 1) k2 p9) p10, .Name (Str.ofString "at") p11] k3 p12) [⟨.Name (Str.ofString "at") px, iter, [], 0⟩] scope pos) 0 (.ref I) acc { cenv with scope := relabel scope env }) (RR acc cenv.locals) s₄) E s₃) E s₂ := by
  refine wpAny_newObj_type (wpAny_newFunctionEnv (by rw [hn]; decide) (by intro y hy; cases hy) (fun h₁ hns₁ hsb₁ => ?_) hk) (by show 0 ≤ sizeLine; exact Nat.zero_le _)
  dsimp only at hns₁ hsb₁ ⊢
  generalize hH2 : s₂.heap.push { cls := .type "list", dict := none, data := .seq ([] : List Value).toArray } = H2 at hns₁ hsb₁ ⊢
  have hC : H2.objs.size = s₂.heap.objs.size + 1 := by rw [← hH2, Heap.size_push]
  have hDC : s₂.heap.objs.size ≠ H2.objs.size := by rw [hC]; exact Nat.ne_of_lt (Nat.lt_succ_self _)
  have below : ∀ b, b < s₂.heap.objs.size → b ≠ H2.objs.size ∧ b ≠ s₂.heap.objs.size := fun b hb => ⟨by rw [hC]; exact Nat.ne_of_lt (Nat.lt_succ_of_lt hb), Nat.ne_of_lt hb⟩
  have old : ∀ b o, s₂.heap.get? b = some o → h₁.get? b = some o := fun b o e => hsb₁.extBut b o (below b (Heap.lt_size e)).1 (Heap.get?_push_of_some _ (hH2 ▸ Heap.get?_push_of_some _ e))
  have hacc : h₁.PlainList s₂.heap.objs.size #[] := ⟨_, hsb₁.extBut _ _ hDC (Heap.get?_push_of_some _ (hH2 ▸ Heap.get?_push_size _ rfl))⟩
  have fresh : ∀ a, s₂.heap.objs.size ≤ a → s₂.heap.get? a = none := fun a ha => Heap.get?_none_of_le ha
  obtain ⟨oc, hoc, _⟩ := id hcell
  have bc := below c (Heap.lt_size hoc)
  have bl := below l (Heap.lt_size hl)
  have bI := below I (Heap.lt_size hit)
  have hXlt : ∀ a ∈ X, a < s₂.heap.objs.size := fun a ha => by obtain ⟨o, ho⟩ := Option.isSome_iff_exists.mp (hX a ha); exact Heap.lt_size ho
  have loop : ∀ s₃ : Shared, s₃ = { s₂ with heap := h₁, toks := s₂.toks + ([] : List (Str × Value)).length } →
      codeAny (model prog w) A (.compLoop (.ListComp (.Tuple [.Subscript (.Subscript (.Name (Str.ofString "row") p1) (.Name (Str.ofString "at") p2) p3) (.Constant (.int 0) k1 p4) p5,
      .Subscript (.Subscript (.Name (Str.ofString "row") p6) (.Name (Str.ofString "at") p7) p8) (.Constant (.int 1) k2 p9) p10, .Name (Str.ofString "at") p11] k3 p12) [⟨.Name (Str.ofString "at") px, iter, [], 0⟩] scope pos) 0 (.ref I) (.ref s₂.heap.objs.size) (compEnvC scope [(Str.ofString "row", c)] H2.objs.size env))
        (RR (.ref s₂.heap.objs.size) H2.objs.size) s₃ := by
    rintro s₃ rfl
    refine comp_loop (cenv := compEnvC scope [(Str.ofString "row", c)] H2.objs.size env) (X := H2.objs.size :: s₂.heap.objs.size :: X) (c := c) (l := l) (vs := vs) (n := n) (ds := ds) (m := _) hh (lookup_relabel_local (by rw [hn]; rfl)) ?_ (by simp [compEnvC, relabel, hk]) rfl
      hDC bI.1 (Ne.symm bI.2) ⟨bc.1, hcI, bc.2⟩ ⟨bl.1, hlI, bl.2⟩ (.head _) (.tail _ (.tail _ hIX)) (.tail _ (.head _)) ?_ (hcell.keeps old) (old _ _ hl) (hrd.mono ?_) hrow hz (old _ _ hit) hacc hns₁ ?_
    · show List.lookup _ (relabel scope env).names = _
      unfold relabel
      rw [hn]
      simp only [List.map_cons, List.map_nil, hek, her]
      rfl
    · intro a ha
      rcases List.mem_cons.mp ha with rfl | ha
      · obtain ⟨o, _, _, ho, _⟩ := hns₁
        rw [ho]; rfl
      · rcases List.mem_cons.mp ha with rfl | ha
        · obtain ⟨_, ho⟩ := hacc
          rw [ho]; rfl
        · obtain ⟨o, ho⟩ := Option.isSome_iff_exists.mp (hX a ha)
          rw [old a o ho]; rfl
    · refine seen_mono fun b o hb e => ⟨old b o e, fun q => ?_⟩
      have bb := below b (Heap.lt_size e)
      rcases List.mem_cons.mp q with q | q
      · exact bb.1 q
      · rcases List.mem_cons.mp q with q | q
        · exact bb.2 q
        · exact hb q
    · intro h' tk m' ys a b hd e
      exact hRR _ _ h' tk m' ys (fresh _ (Nat.le_refl _)) (fresh _ (by rw [hC]; exact Nat.le_succ _)) hDC a b hd fun x o hx q => e x o (below x (Heap.lt_size q)).1 hx (below x (Heap.lt_size q)).2 (old x o q)
  exact codeAny_compStart_list (loop _ rfl) (wpAny_pyIter_rangeiter (old _ _ hit) (loop _ rfl))
end
theorem tok_stmt (F : Facts K) {S : Sta} (ok : StaOk K S) {y : Str} {np lp rp cp sp pos px : Pos} {scope : Scope} {p1 p2 p3 p4 p5 p6 p7 p8 p9 p10 p11 p12 p13 p14 : Pos} {k1 k2 k3 : Nat} {i j : Nat} {c : Addr}
    (hy : S.env.scope.names[i]? = some (y, .local)) (hj : S.env.scope.names[j]? = some (Str.ofString "row", .cell)) (hc : S.env.cells.lookup (Str.ofString "row") = some c)
    (hn : scope.names = [(Str.ofString ".0", .local), (Str.ofString "at", .local), (Str.ofString "row", .free)]) (hk : scope.kind = .function)
    (hlen : S.env.scope.names.lookup (Str.ofString "len") = some .globalImplicit) (hrng : S.env.scope.names.lookup (Str.ofString "range") = some .globalImplicit)
    (hline : (np.line == pos.line) = true) (hyn : (y == Str.ofString "at") = false) (hyn0 : (y == Str.ofString ".0") = false) :
    S1 K S (.Assign [.Name y np] (.ListComp (.Tuple [.Subscript (.Subscript (.Name (Str.ofString "row") p1) (.Name (Str.ofString "at") p2) p3) (.Constant (.int 0) k1 p4) p5,
      .Subscript (.Subscript (.Name (Str.ofString "row") p6) (.Name (Str.ofString "at") p7) p8) (.Constant (.int 1) k2 p9) p10, .Name (Str.ofString "at") p11] k3 p12)
      [⟨.Name (Str.ofString "at") px, .Call (.Name (Str.ofString "range") rp) [.Call (.Name (Str.ofString "len") lp) [.Name (Str.ofString "row") p13] [] p14] [] cp, [], 0⟩] scope pos) sp) (sTok i j) := fun orc ho ρ σ la s Q E x h => by
  unfold sTok at h
  split at h
  case h_2 => exact h.elim
  rename_i ds hr
  split at h
  case isFalse => exact h.elim
  rename_i hz
  obtain ⟨hz, hpair⟩ := hz
  have hrow : ∀ d ∈ ds, ∃ a b, d = .tuple [a, b] := fun d hd => isPair_of (List.all_eq_true.mp hpair d hd)
  have hsw : swapsWith (.ListComp (.Tuple [.Subscript (.Subscript (.Name (Str.ofString "row") p1) (.Name (Str.ofString "at") p2) p3) (.Constant (.int 0) k1 p4) p5,
      .Subscript (.Subscript (.Name (Str.ofString "row") p6) (.Name (Str.ofString "at") p7) p8) (.Constant (.int 1) k2 p9) p10, .Name (Str.ofString "at") p11] k3 p12)
      [⟨.Name (Str.ofString "at") px, .Call (.Name (Str.ofString "range") rp) [.Call (.Name (Str.ofString "len") lp) [.Name (Str.ofString "row") p13] [] p14] [] cp, [], 0⟩] scope pos) (some (.Name y np)) sp.line S.env = pure true := by
    show (pure (S.env.blockKind == .function && S.env.kindOf y == some .local && np.line == pos.line && !(scope.names.any fun (n, k) => n == y && (k == .local || k == .cell))) : Sem Bool) = pure true
    have e1 : S.env.blockKind = .function := by unfold Env.blockKind; rw [ok.fn]; rfl
    have e2 : S.env.kindOf y = some .local := names_look ok.nod hy
    have e3 : (scope.names.any fun (n, k) => n == y && (k == .local || k == .cell)) = false := by
      have q1 : (Str.ofString "at" == y) = false := by rw [beq_eq_false_iff_ne] at hyn ⊢; exact Ne.symm hyn
      have q2 : (Str.ofString ".0" == y) = false := by rw [beq_eq_false_iff_ne] at hyn0 ⊢; exact Ne.symm hyn0
      rw [hn]
      simp only [List.any_cons, List.any_nil, q1, q2]
      simp
    rw [e1, e2, hline, e3]
    rfl
  rw [exec_Assign_Name_used _ _ _ _ hsw]
  refine wpAny_bind (wpAny_standAt (wpAny_bind ?_))
  show wpAny _ S.A (do let _ ← comprehension (.ListComp _ [⟨.Name (Str.ofString "at") px, _, [], 0⟩] scope pos) scope S.env _ (newList []) false (eval (.Call (.Name (Str.ofString "range") rp) [.Call (.Name (Str.ofString "len") lp) [.Name (Str.ofString "row") p13] [] p14] [] cp) S.env) (some (assign (.Name y np) S.env))) _ _ s
  have hnames : ∀ z ∈ scope.names, z.2 = .local → scope.names.lookup z.1 = some .local := by
    rw [hn]
    intro z hz' q
    simp at hz'
    rcases hz' with rfl | rfl | rfl
    · rfl
    · rfl
    · cases q
  refine wpAny_bind (wpAny_mono (wpAny_comprehension_free (use := some (assign (.Name y np) S.env)) (Q := fun _ s' => Q .next s') rfl (fun _ => rfl) (clos_row hn hc) hk hnames ?_) (fun _ s' hq => wpAny_pure (wpAny_pure hq)) fun _ _ e => e)
  refine PyProof.Rows.Call_Name1 ?_ rfl
  refine Calls.Name_function_global ok.fn hrng ?_ (by decide)
  refine Calls.loadGlobal_builtin (mg := K.mg) (mb := K.mb) (by rw [ok.glob]; exact F.g.keeps x.gb) F.rng0 (by rw [ok.blt]; exact F.b.keeps x.gb) F.rng1 ?_
  refine PyProof.Rows.callWith_type rfl (Calls.evalArgs_plain (Calls.spliced_cons ?_))
  have hlenS : SndE K S.env.scope (.Call (.Name (Str.ofString "len") lp) [.Name (Str.ofString "row") p13] [] p14) (cLen (cV j)) := snd_Len F (snd_V hj) (by intro _; rfl) hlen
  refine wpAny_mono (hlenS S ok rfl orc ho ρ σ la s (fun v s₁ => ∃ t, v = .int (ds.length : Nat) t ∧ Inv K S ρ σ la s₁.heap ∧ (seen S σ la s.heap).StaysIn (seen S σ la s₁.heap) ∧ ∃ hh tt, s₁ = { s with heap := hh, toks := tt }) E x ?_) (fun v s₁ h₁ => Calls.spliced_nil ?_) fun _ _ e => e
  · have e : cLen (cV j) orc ρ σ = .ok (.d (.int (ds.length : Nat)), σ) := by
      unfold cLen cV
      rw [hr]
      show (if ds.length ≤ 1000000 then _ else _) = _
      rw [if_pos (by lia)]
    rw [e]
    intro v h' tk' i' m' r'
    cases r'
    exact ⟨_, rfl, i', m', _, _, rfl⟩
  obtain ⟨t, rfl, i₁, m₁, hh₁, tt₁, rfl⟩ := h₁
  refine call_range_1 ?_
  have hkp : ∀ {b : Addr} {o : Obj}, hh₁.get? b = some o → b < hh₁.objs.size := fun e => Heap.lt_size e
  refine wpAny_pyIter_range (Heap.get?_push_size _ rfl) (small_one (by lia) (by lia) (by lia) (by lia)) ?_
  have hll : ∃ a vs n, RepA K (seen S σ la hh₁) la (.ref a) (.d (.list ds)) ∧ S.env.cells.lookup (Str.ofString "row") = some c ∧ hh₁.IsCell c (some (.ref a)) ∧ IsL hh₁ a vs n ∧ RDs (seen S σ la hh₁) vs.toList ds ∧ a ∉ S.frs ++ live σ la := by
    obtain ⟨m, hm, hv⟩ := i₁.vars
    obtain ⟨v, hva, hrep⟩ := hv j _ _ _ hj hr
    refine glq fun Gq kq => ?_
    obtain ⟨a, vs, n, rfl, h1, h2⟩ := sees i₁ hrep rfl
    refine kq ?_
    clear kq Gq
    rcases hva with ⟨q, _⟩ | ⟨_, c', q1, q2⟩
    · cases q
    · rw [hc] at q1
      cases q1
      refine ⟨a, vs, n, hrep, hc, q2, h1, h2, ?_⟩
      cases hrep with
      | list h3 _ => exact (seen_iff.mp h3).2
  refine glq fun Gq kq => ?_
  obtain ⟨l, vs, n, hrep, _, hcell, hl, hrd, hlX⟩ := hll
  refine kq ?_
  clear kq Gq
  have hnI := Heap.get?_none_of_le (h := hh₁.push { cls := .type "range", data := .fields #[.int 0 tt₁, .int (ds.length : Nat) t, .int 1 (tt₁ + 1)] }) (Nat.le_refl _)
  have kA : ∀ b o, hh₁.get? b = some o → (hh₁.push { cls := .type "range", data := .fields #[.int 0 tt₁, .int (ds.length : Nat) t, .int 1 (tt₁ + 1)] }).get? b = some o := fun b o e => Heap.get?_push_of_some _ e
  generalize hhA : hh₁.push { cls := .type "range", data := .fields #[.int 0 tt₁, .int (ds.length : Nat) t, .int 1 (tt₁ + 1)] } = HA at hnI kA ⊢
  have hitB := Heap.get?_push_size HA (o := { cls := .type "range_iterator", data := .fields #[rawInt 0, rawInt (Builtin.Range.rangeSize 0 (ds.length : Nat) 1), rawInt 1] }) rfl
  have kB : ∀ b o, hh₁.get? b = some o → (HA.push { cls := .type "range_iterator", data := .fields #[rawInt 0, rawInt (Builtin.Range.rangeSize 0 (ds.length : Nat) 1), rawInt 1] }).get? b = some o := fun b o e => Heap.get?_push_of_some _ (kA b o e)
  have hsz : Builtin.Range.rangeSize 0 (ds.length : Nat) 1 = (ds.length : Int) := by rw [rangeSize_one]; split <;> lia
  rw [hsz] at hitB kB ⊢
  generalize hhB : HA.push { cls := .type "range_iterator", data := .fields #[rawInt 0, rawInt (ds.length : Nat), rawInt 1] } = HB at hitB kB ⊢
  generalize hIe : HA.objs.size = I at hitB ⊢
  have fr1 : ∀ {b : Addr}, b ∈ S.frs ++ live σ la → (hh₁.get? b).isSome := by
    intro b hb
    rcases List.mem_append.mp hb with q | q
    · exact i₁.frin ok _ q
    · obtain ⟨k, ds', h1, h2⟩ := mem_live.mp q
      obtain ⟨a, vs, n, h3, h4, _⟩ := i₁.locs.at' k ds' h1
      rw [h2] at h3; cases h3
      have h4' : hh₁.get? b = some _ := h4
      rw [h4']; rfl
  have ltI : ∀ {b : Addr}, (hh₁.get? b).isSome → b ≠ I := by
    intro b hb q
    obtain ⟨o, ho⟩ := Option.isSome_iff_exists.mp hb
    rw [← hIe] at q
    have := kA b o ho
    rw [q, hnI] at this
    cases this
  have hcs : (hh₁.get? c).isSome := by obtain ⟨o, ho, _⟩ := hcell; rw [ho]; rfl
  have hls : (hh₁.get? l).isSome := by
    have h4' : hh₁.get? l = some _ := hl
    rw [h4']; rfl
  refine comp_block (X := I :: (S.frs ++ live σ la)) (c := c) (l := l) (vs := vs) (n := n) (ds := ds) ok.hand hn hk ok.fn (names_look ok.nod hj) (ltI hcs) (ltI hls) (.head _) ?_ (hcell.keeps kB) (kB _ _ hl) (hrd.mono ?_) hrow hz hitB ?_
  · intro a ha
    rcases List.mem_cons.mp ha with rfl | ha
    · rw [hitB]; rfl
    · obtain ⟨o, ho⟩ := Option.isSome_iff_exists.mp (fr1 ha)
      rw [kB _ _ ho]; rfl
  · refine seen_mono fun b o hb e => ⟨kB b o e, fun q => ?_⟩
    rcases List.mem_cons.mp q with q | q
    · exact ltI (b := b) (by rw [e]; rfl) q
    · exact hb q
  intro D C h' tk m' ys hD hC hDC hnC hlD hys hk'
  have kD : ∀ b o, hh₁.get? b = some o → h'.get? b = some o := fun b o e => hk' b o (ltI (by rw [e]; rfl)) (kB b o e)
  have oldD : hh₁.get? D = none := by
    cases q : hh₁.get? D with
    | none => rfl
    | some o => rw [kB _ _ q] at hD; cases hD
  have oldC : hh₁.get? C = none := by
    cases q : hh₁.get? C with
    | none => rfl
    | some o => rw [kB _ _ q] at hC; cases hC
  refine glq fun Gq kq => ?_
  obtain ⟨oC, _, _, hoC, _⟩ := id hnC
  refine kq ?_
  clear kq Gq
  obtain ⟨okC, i₂, m₂⟩ := i₁.exPush ok (it := C) (o := oC) oldC kD hoC
  obtain ⟨nD, hoD⟩ := hlD
  have hrepD : RepA K (seen (S.push C oC) σ la h') la (.ref D) (.d (.list (ixds ds))) := by
    refine RD.list (vs := ys) (n := nD) (seen_iff.mpr ⟨hoD, fun q => ?_⟩) (hys.mono (seen_mono fun b o hb e => ⟨e, fun q => ?_⟩))
    · rcases List.mem_append.mp q with q | q
      · rcases frs_push.mp q with q | q
        · exact hDC q
        · have := fr1 (List.mem_append.mpr (.inl q))
          rw [oldD] at this; cases this
      · have := fr1 (List.mem_append.mpr (.inr q))
        rw [oldD] at this; cases this
    · rcases List.mem_append.mp q with q | q
      · rcases frs_push.mp q with q | q
        · exact hb (q ▸ .head _)
        · exact hb (.tail _ (.tail _ (.tail _ (List.mem_append.mpr (.inl q)))))
      · exact hb (.tail _ (.tail _ (.tail _ (List.mem_append.mpr (.inr q)))))
  show wpAny _ S.A (assign (.Name y np) S.env (.ref D)) _ _ _
  refine glq fun Gq kq => ?_
  obtain ⟨mL, hmL, hvL⟩ := i₂.vars
  refine kq ?_
  clear kq Gq
  refine wpAny_assign_Name (wpAny_storeName_local (names_look ok.nod hy) hmL (fun h₄ hn₄ hs₄ => ?_) (by rw [ok.fn]; rfl))
  obtain ⟨i₄, m₄⟩ := i₂.store okC hy hrepD hn₄ hs₄ hmL hvL
  have hLC : C ≠ S.env.locals := by
    rintro rfl
    have := i₁.frin ok S.env.locals (own_frs _ L_own)
    rw [oldC] at this; cases this
  refine ⟨m', hnC.sameBut hs₄ hLC, fun h₅ hs₅ => ?_⟩
  have hs₅' : ∀ b o, b ≠ C → h₄.get? b = some o → h₅.get? b = some o := fun b o q e => hs₅.extBut b o q e
  obtain ⟨i₅, m₅⟩ := i₄.exPop okC hs₅' fun b hb => by
    have hb' := i₄.alive b hb
    obtain ⟨o, ho⟩ := Option.isSome_iff_exists.mp hb'
    by_cases q : b = C
    · have h0 : S.h0.get? C = none := okC.fresh C (own_push.mpr (.inl rfl))
      rw [q, h0] at hb; cases hb
    · rw [hs₅' b o q ho]; rfl
  exact h .next h₅ la _ i₅ (fun b o q => m₅ b o (m₄ b o (m₂ b o (m₁ b o q)))) rfl
end
noncomputable def sTry (i j : Nat) (f : Fn) : SC := fun o ρ σ => match σ with
  | [] => (match ρ[j]? with
    | some (some (.d x)) => (match o f [.d x] [] with
      | .ok (av, []) => .ok (.next, ρ.set i (some av), [])
      | .exc => .ok (.next, ρ.set i (some (.d .none)), [])
      | _ => .bad)
    | _ => .bad)
  | _ => .bad
section
variable {K : Pack} {sc : Scope}
theorem Inv.back {S : Sta} (ok : StaOk K S) (h1 : S.fr0 = []) (h2 : S.σ0 = []) (h3 : S.ex = []) {ρ : Rho} {la : List Addr} {h h' : Heap} (x : Inv K S ρ [] la h)
    (hb : (hideAll h (S.frs ++ live [] la)).StaysIn h') (hu : h.UpToSlots h') : Inv K S ρ [] la h' ∧ (seen S [] la h).StaysIn (seen S [] la h') := by
  have hl : live [] la = [] := rfl
  have hfo : S.frs = S.own := by unfold Sta.frs; rw [h1, List.append_nil]
  have kp : ∀ b o, b ∉ S.frs ++ live [] la → h.get? b = some o → h'.get? b = some o := fun b o hn e => hb b o (hideAll_get _ e hn)
  have k0 : ∀ b o, S.h0.get? b = some o → h.get? b = some o → h'.get? b = some o := fun b o e0 e => kp b o (fun q => by
    rw [hl, List.append_nil, hfo] at q
    rw [ok.fresh b q] at e0; cases e0) e
  have hX0 : S.X0 = [] := by unfold Sta.X0; rw [h2]; rfl
  have hseen : (seen S [] la h).StaysIn (seen S [] la h') := seen_mono fun b o hn e => ⟨kp b o hn e, hn⟩
  have hc : ∀ {c v}, h.IsCell c v → h'.IsCell c v := by
    rintro c v ⟨o, ho, hd⟩
    obtain ⟨sl, e⟩ := hu c o ho (by rw [hd]; intro vs q; cases q)
    exact ⟨_, e, hd⟩
  refine ⟨⟨fun b o e => kp b o (fun q => by rw [x.gbh b q] at e; cases e) (x.gb b o e), x.gbh, fun b o e hn => k0 b o e (x.keep0 b o e hn), fun b hb' => ?_, x.pre, x.pre0, x.mon, x.new,
    ⟨x.locs.len, fun k ds e => (by simp at e), fun i j di dj a e => (by simp at e), fun a ha => (by cases ha)⟩, fun p hp => (by rw [h3] at hp; cases hp), fun p hp => ?_, ?_⟩, hseen⟩
  · obtain ⟨o, ho⟩ := Option.isSome_iff_exists.mp hb'
    rw [k0 b o ho (x.keep0 b o ho (by rw [hX0]; intro q; cases q))]; rfl
  · obtain ⟨v, hv⟩ := x.cells p hp
    exact ⟨v, hc hv⟩
  · obtain ⟨m, hm, hv⟩ := x.vars
    refine ⟨m, hu.ns hm, fun i y kd av e1 e2 => ?_⟩
    obtain ⟨v, hva, hr⟩ := hv i y kd av e1 e2
    refine ⟨v, ?_, hr.mono hseen fun _ _ e => e⟩
    rcases hva with q | ⟨q1, c, q2, q3⟩
    · exact .inl q
    · exact .inr ⟨q1, c, q2, hc q3⟩
theorem try_stmt (F : Facts K) (G : ExcFacts K) {S : Sta} (ok : StaOk K S) (h1 : S.fr0 = []) (h2 : S.σ0 = []) (h3 : S.ex = []) {y z g : Str} {p1 p2 p3 p4 p5 p6 p7 p8 p9 p10 p11 : Pos} {kk : Nat} {i j : Nat} {f : Fn}
    (hg : (DF f).str = g) (hgx : S.env.scope.names.lookup g = some .globalImplicit) (hgd : (g == ("__debug__" : Str)) = false) (hy : S.env.scope.names[i]? = some (y, .local)) (hz : S.env.scope.names[j]? = some (z, .local)) (hzd : (z == ("__debug__" : Str)) = false)
    (hx : S.env.scope.names.lookup (Str.ofString "SyntaxFault") = some .globalImplicit)
    (hsw : ∀ env, swapsWith (.Call (.Name g p2) [.Name z p3] [] p4) (some (.Name y p1)) p5.line env = pure false) :
    S1 K S (.Try [.Assign [.Name y p1] (.Call (.Name g p2) [.Name z p3] [] p4) p5] [.ExceptHandler (some (.Name (Str.ofString "SyntaxFault") p6)) none [.Assign [.Name y p7] (.Constant .none kk p8) p9] p10] [] [] p11) (sTry i j f) := fun orc ho ρ σ la s Q E x h => by
  unfold sTry at h
  split at h
  case h_2 => exact h.elim
  split at h
  case h_2 => exact h.elim
  rename_i d hr
  refine glq fun Gq kq => ?_
  obtain ⟨o, pm, c', doc, g1, g2, g3, g4⟩ := F.fns f
  refine kq ?_
  clear kq Gq
  refine wpAny_Try_except ?_
  refine wpAny_execs_cons ?_
  refine wpAny_Assign_Name ?_ (hsw _)
  refine Call_Name rfl ?_
  refine Calls.Name_function_global ok.fn hgx ?_ hgd
  refine Calls.loadGlobal_global (mg := K.mg) (by rw [ok.glob]; exact F.g.keeps x.gb) (hg ▸ g4) ?_
  refine Calls.callWith_function (o := o) (fd := Calls.docDef (DF f).str (DF f).params (DF f).body (DF f).scope pm (.ref c') doc) ?_
  have hst : starEach [.Name z p3] S.env = [(false, eval (.Name z p3) S.env)] := rfl
  rw [hst]
  refine Calls.evalArgs_plain (Calls.spliced_cons ?_)
  refine read_slot ok x hz hr hzd fun v r => Calls.spliced_nil ?_
  refine ⟨⟨x.gb _ _ g1, g2⟩, ?_⟩
  refine ho f [.d d] [] S.A (S.env :: S.outer) S.frs la s [v] _ _ ok.frames ok.hand ok.depth ok.units (x.fro ok) (x.frin ok) x.gb x.gbh x.locs (.cons r .nil) ?_
  cases hc : orc f [.d d] [] with
  | bad => rw [hc] at h; exact h.elim
  | ok b =>
    rw [hc] at h
    obtain ⟨av, σ'⟩ := b
    intro v' h' tk' st rep
    cases σ' with
    | cons _ _ => exact h.elim
    | nil =>
      obtain ⟨i', m'⟩ := x.step st
      refine store_snd ok i' hy rep fun h'' tk'' i'' m'' => ?_
      refine wpAny_execs_nil (wpAny_execs_nil ?_)
      exact h .next h'' la tk'' i'' (fun b o q => m'' b o (m' b o q)) rfl
  | exc =>
    rw [hc] at h
    rintro e h' tk' ⟨⟨a0, hfl⟩, hut⟩
    have hu0 : s.heap.UpToSlots h' := fun b o q hn => hut b o q (by intro q'; cases q') hn
    refine glq fun Gq kq => ?_
    obtain ⟨nm, q, N, bs, bm, hdct, sn, sub, ab, col, dd, k0, k1, k2, k3, k5, newId, hC, hB⟩ := G.obj
    refine kq ?_
    clear kq Gq
    refine wpAny_looks_onW ok.frames ok.frame hfl fun h₄ hheld₄ hsm₄ => ?_
    refine wpAny_landsW hheld₄ fun h₅ hheld hsm₅ => ?_
    obtain ⟨ob, hob, hobc⟩ := hheld.there
    obtain ⟨i₅, m₅⟩ := x.back ok h1 h2 h3 hheld.1 ((hu0.trans hsm₄).trans hsm₅)
    refine wpAny_handleBy_cons (codeAny_handlers_test ?_) (by intro q; cases q)
    refine Calls.Name_function_global ok.fn hx ?_ (by decide)
    refine Calls.loadGlobal_global (mg := K.mg) (by rw [ok.glob]; exact F.g.keeps i₅.gb) G.bound ?_
    refine wpAny_excMatches_sub_self (i₅.gb _ _ hC) hob hobc hB (codeAny_handlers_suite ?_)
    refine lands_againW hheld fun h₆ hfl₆ hsm₆ => ?_
    obtain ⟨i₆, m₆⟩ := x.back ok h1 h2 h3 hfl₆.1 (((hu0.trans hsm₄).trans hsm₅).trans hsm₆)
    refine wpAny_execs_cons ?_
    refine wpAny_Assign_Name (Constant_none ?_) rfl
    obtain ⟨m, hm, hv⟩ := i₆.vars
    refine wpAny_storeName_local (names_look ok.nod hy) hm (fun h₇ hn₇ hs₇ => ?_) (by rw [ok.fn]; rfl)
    obtain ⟨i₇, m₇⟩ := i₆.store ok hy (av := .d .none) .none hn₇ hs₇ hm hv
    refine wpAny_execs_nil ?_
    exact h .next h₇ la _ i₇ (fun b o q => m₇ b o (m₆ b o q)) rfl
end
noncomputable def sh_law : SC := sCons (sTake 1 0 24) (sCons (sIf (tE (cBin oEq (cV 1) (cLst []))) (sCons (sAsg 1 (cLst [cK (.int 10), cK (.int 16), cK (.int 12), cK (.int 3), cK (.int 36), cK (.int 192), cK (.int 0), cK (.int 8), cK (.int 12), cK (.int 19), cK (.int 9), cK (.int 3), cK (.int 7), cK (.int 120), cK (.int 16)])) (sNil)) (sNil)) (sCons (sAsg 2 (cCall .law_row [cV 1])) (sCons (sAsg 3 (cIf (tE (cCall .law_is_even [cV 2])) (cCall .law_read [cV 2, cK (.int 0), cLen (cV 2), cK (.int 1)]) (cK .none))) (sCons (sTok 5 2) (sCons (sAsg 6 (cK .none)) (sCons (sTry 6 5 .whole_expr) (sCons (sIf (tE (cBin oNe (cV 6) (cV 3))) (sCons (sRet (cK (.bool false))) (sNil)) (sNil)) (sCons (sIf (tE (cBin oIsNone (cV 3) (cK .none))) (sCons (sRet (cK (.bool true))) (sNil)) (sNil)) (sCons (sUnp 7 4 (cCall .parse_expr [cBin oLApp (cV 5) (cLst [cTup [cK (.str (Str.ofString "OP")), cK (.str (Str.ofString ",")), cK (.int 99)]]), cK (.int 0)])) (sCons (sIf (tOr [tE (cBin oNe (cV 7) (cV 3)), tE (cBin oNe (cV 4) (cLen (cV 5)))]) (sCons (sRet (cK (.bool false))) (sNil)) (sNil)) (sCons (sRet (cBin oEq (cCall .whole_expr [cBin oLApp (cBin oLApp (cLst [cTup [cK (.str (Str.ofString "OP")), cK (.str (Str.ofString "(")), cK (.int 0)]]) (cV 5)) (cLst [cTup [cK (.str (Str.ofString "OP")), cK (.str (Str.ofString ")")), cK (.int 1)]])]) (cV 3))) (sNil))))))))))))
theorem body_law {K : Pack} (F : Facts K) (G : ExcFacts K) {S : Sta} (ok : StaOk K S) (hs : S.env.scope = D_law.1.2.2) (h1 : S.fr0 = []) (h2 : S.σ0 = []) (h3 : S.ex = []) {c : Addr} (hc : S.env.cells.lookup (Str.ofString "row") = some c) : B1 K S D_law.1.2.1 sh_law := by
  unfold sh_law
  delta D_law at hs ⊢
  dsimp only [] at hs ⊢
  refine B1.cons (S1.of ok hs snd_Take) ?_
  refine B1.cons (S1.of ok hs (@snd_sIf K _ _ _ _ _ _ _ _ (snd_tCmp op_Eq snd_V (snd_Lst .nil)) (@snd_cons K _ _ _ _ _ (@snd_Asg K _ _ _ _ _ _ _ (@snd_Lst K _ _ _ _ (by repeat (first | exact .nil | refine .cons snd_int (fun _ => rfl) ?_)) (by decide)) rfl (by intro _; rfl)) (@snd_nil K _)) (@snd_nil K _))) ?_
  refine B1.cons (asgC ok hs (snd_Call F (f := .law_row) rfl (.cons snd_V (fun _ => rfl) .nil)) (by rw [hs]; rfl) hc) ?_
  refine B1.cons (S1.of ok hs ((snd_Asg (snd_If (snd_tE (snd_Call F (f := .law_is_even) rfl (.cons snd_V (fun _ => rfl) .nil))) (snd_Call F (f := .law_read) rfl (.cons snd_V (fun _ => rfl) (.cons snd_int (fun _ => rfl) (.cons (snd_Len F snd_V) (fun _ => rfl) (.cons snd_int (fun _ => rfl) .nil))))) snd_none)))) ?_
  refine B1.cons (tok_stmt F ok (by rw [hs]; rfl) (by rw [hs]; rfl) hc rfl rfl (by rw [hs]; rfl) (by rw [hs]; rfl) (by decide) (by decide) (by decide)) ?_
  refine B1.cons (S1.of ok hs ((snd_Asg snd_none))) ?_
  refine B1.cons (try_stmt F G ok h1 h2 h3 rfl (by rw [hs]; rfl) (by decide) (by rw [hs]; rfl) (by rw [hs]; rfl) (by decide) (by rw [hs]; rfl) (fun _ => rfl)) ?_
  refine B1.cons (S1.of ok hs ((snd_sIf (snd_tCmp op_Ne snd_V snd_V) (snd_cons (snd_Ret snd_bool) snd_nil) snd_nil))) ?_
  refine B1.cons (S1.of ok hs ((snd_sIf (snd_tCmp op_IsNone snd_V snd_none) (snd_cons (snd_Ret snd_bool) snd_nil) snd_nil))) ?_
  refine B1.cons (S1.of ok hs ((snd_Unp (snd_Call F (f := .parse_expr) rfl (.cons (snd_BinOp op_LApp snd_V (snd_Lst (.cons (snd_Tup (.cons snd_str (fun _ => rfl) (.cons snd_str (fun _ => rfl) (.cons snd_int (fun _ => rfl) .nil)))) (fun _ => rfl) .nil))) (fun _ => rfl) (.cons snd_int (fun _ => rfl) .nil)))))) ?_
  refine B1.cons (S1.of ok hs ((snd_sIf (snd_tOr (snd_tCmp op_Ne snd_V snd_V) (snd_tOr (snd_tCmp op_Ne snd_V (snd_Len F snd_V)) snd_tOr0)) (snd_cons (snd_Ret snd_bool) snd_nil) snd_nil))) ?_
  refine B1.cons (S1.of ok hs ((snd_Ret (snd_Cmp op_Eq (snd_Call F (f := .whole_expr) rfl (.cons (snd_BinOp op_LApp (snd_BinOp op_LApp (snd_Lst (.cons (snd_Tup (.cons snd_str (fun _ => rfl) (.cons snd_str (fun _ => rfl) (.cons snd_int (fun _ => rfl) .nil)))) (fun _ => rfl) .nil)) snd_V) (snd_Lst (.cons (snd_Tup (.cons snd_str (fun _ => rfl) (.cons snd_str (fun _ => rfl) (.cons snd_int (fun _ => rfl) .nil)))) (fun _ => rfl) .nil))) (fun _ => rfl) .nil)) snd_V)))) ?_
  exact B1.of ok hs snd_nil
noncomputable def fuelL : Nat := 560
theorem law_frame {K : Pack} (F : Facts K) (G : ExcFacts K) {A : Around} {env : Env} {c : Addr} {s : Shared} {m : Str → Option Value} {v : Value} {w : Option Value} {ds : List PyData} {ρ' : Rho} {Q : Flow → Shared → Prop} {E : Value → Shared → Prop}
    (hfr : A.frames = some [env]) (hh : A.handled = none) (hd : A.depth + fuelL + 8 < recursionLimit) (hu : A.units + 8 * fuelL + 5000 < cLine)
    (e1 : env.scope = D_law.1.2.2) (e2 : env.globals = mainGlobals) (e3 : env.builtins = builtinsNs) (e4 : env.frame = some env.locals) (e5 : env.cells = [(Str.ofString "row", c)])
    (n1 : K.GB.get? env.locals = none) (n2 : K.GB.get? c = none) (hne : env.locals ≠ c) (hk : ∀ b o, K.GB.get? b = some o → s.heap.get? b = some o)
    (hm : s.heap.Ns env.locals m) (hv : m (Str.ofString "script") = some v) (hc : s.heap.IsCell c w) (hrd : RD K.GB v (.list ds))
    (hres : sh_law (callF fuelL) [some (.d (.list ds)), none, none, none, none, none, none, none] [] = .ok (.ret (.d (.bool true)), ρ', []))
    (hQ : ∀ h' tk', (∀ b o, K.GB.get? b = some o → h'.get? b = some o) → Q (.ret (.bool true)) { s with heap := h', toks := tk' }) :
    wpAny (model K.prog K.w) A (execs D_law.1.2.1 env) Q E s := by
  let S : Sta := { A := A, env := env, outer := [], n := fuelL, h0 := K.GB, σ0 := [], la0 := [], fr0 := [] }
  have hnames : env.scope.names.map (·.1) = D_law.1.2.2.names.map (·.1) := by rw [e1]
  have own : S.own = [env.locals, c] := by
    show env.locals :: (env.cells.map (·.2) ++ []) = _
    rw [e5]; rfl
  have frs : S.frs = [env.locals, c] := by
    show S.own ++ [] = _
    rw [own]; rfl
  have ok : StaOk K S := {
    frames := hfr
    hand := hh
    depth := hd
    units := hu
    fn := by show env.scope.kind = _; rw [e1]; rfl
    glob := e2
    blt := e3
    frame := e4
    nod := by show (env.scope.names.map (·.1)).Nodup; rw [hnames]; decide +kernel
    fresh := fun a ha => by
      rw [own] at ha
      rcases List.mem_cons.mp ha with rfl | ha
      · exact n1
      · rw [List.mem_singleton.mp ha]; exact n2
    fro := fun e he => by cases he
    frin := fun b hb => by cases hb
    frX := fun b hb => by cases hb
    ownnod := by rw [own]; exact List.nodup_cons.mpr ⟨by simpa using hne, by simp⟩
    one := fun p hp q hq _ => by
      have hp' : p ∈ env.cells := hp
      have hq' : q ∈ env.cells := hq
      rw [e5] at hp' hq'
      rw [List.mem_singleton.mp hp', List.mem_singleton.mp hq'] }
  have hsv : seen S [] [] s.heap = hideAll s.heap [env.locals, c] := by
    show hideAll s.heap (S.frs ++ live [] []) = _
    rw [frs]; rfl
  have hst : K.GB.StaysIn (seen S [] [] s.heap) := by
    rw [hsv]
    intro b o e
    refine hideAll_get _ (hk b o e) fun q => ?_
    rcases List.mem_cons.mp q with rfl | q
    · rw [n1] at e; cases e
    · rw [List.mem_singleton.mp q, n2] at e; cases e
  have inv : Inv K S [some (.d (.list ds)), none, none, none, none, none, none, none] [] [] s.heap := {
    gb := hk
    gbh := fun b hb => by
      rw [frs] at hb
      rcases List.mem_cons.mp hb with rfl | hb
      · exact n1
      · rw [List.mem_singleton.mp hb]; exact n2
    keep0 := fun b o e _ => hk b o e
    alive := fun b hb => by
      obtain ⟨o, ho⟩ := Option.isSome_iff_exists.mp hb
      rw [hk b o ho]; rfl
    pre := fun i a e => e
    pre0 := rfl
    mon := fun k ds e => by simp at e
    new := fun k a e => by simp at e
    locs := ⟨rfl, fun k ds e => by simp at e, fun i j di dj a e => by simp at e, fun a ha => by cases ha⟩
    ex := fun p hp => by cases hp
    cells := fun p hp => by
      have hp' : p ∈ env.cells := hp
      rw [e5] at hp'
      rw [List.mem_singleton.mp hp']
      exact ⟨w, hc⟩
    vars := ⟨m, hm, fun i y kd av h1 h2 => by
      have h1' : env.scope.names[i]? = some (y, kd) := h1
      rw [e1] at h1'
      match i, h2 with
      | 0, h2 =>
        cases h2
        have q : some (Str.ofString "script", NameKind.local) = some (y, kd) := h1'
        cases q
        exact ⟨v, .inl ⟨rfl, hv⟩, hrd.mono hst⟩
      | 1, h2 => cases h2
      | 2, h2 => cases h2
      | 3, h2 => cases h2
      | 4, h2 => cases h2
      | 5, h2 => cases h2
      | 6, h2 => cases h2
      | 7, h2 => cases h2
      | n + 8, h2 => cases h2⟩ }
  refine body_law F G ok e1 rfl rfl rfl (c := c) (by show env.cells.lookup _ = _; rw [e5]; rfl) (callF fuelL) (callF_ok F G fuelL) _ [] [] s Q E inv ?_
  rw [hres]
  intro f h' la' tk' i m' hf
  obtain ⟨v, rfl, hr⟩ := hf
  cases hr
  exact hQ h' tk' i.gb
theorem rd_ints {P : Params} {h : Heap} : ∀ {vs : List Value} {xs : List Int}, WellAll P h vs (ofPys (xs.map PyData.int)) → RDs h vs (xs.map PyData.int)
  | _, [], .nil => .nil
  | v :: vs, x :: xs, h => by
    cases h with
    | cons a r =>
      cases (show Well P _ v (.int x) from a)
      exact .cons (.int _ _) (rd_ints r)
noncomputable def Plain : Prop := ∀ xs : List Int, xs.length ≤ 63 → ∃ ρ', sh_law (callF fuelL) [some (.d (.list (xs.map PyData.int))), none, none, none, none, none, none, none] [] = .ok (.ret (.d (.bool true)), ρ', [])
set_option maxHeartbeats 4000000 in
theorem holds_of (plain : Plain) : PySem.Challenge.rw_no0241_01.Holds := by
  refine head_of ?_
  intro w s₀ s₁ mg mb G Y fa o pm cd doc dV kV ho hd hcd hD hmg hg args vals as hpre hlay hrd hwl hlo
  refine Ground.open G ?_
  intro T B D TE TW
  try (refine guard_noD D (by decide +kernel) ?_; clear D)
  obtain ⟨_, _, M⟩ := bmod_of_top T
  obtain ⟨_, _, he, B0⟩ := based_of_top T rfl hmg ho hd
  have he' : cd = _ := he
  subst he'
  clear he hmg
  wrow_args hpre hlay hrd hwl hlo
  refine enter_call ?_
  w_top on
  refine codeAny_mono ?_ (fun _ _ g => GoodW.toG g)
  have K0 := below_caller (Top.heap T)
  w_call any ho hd hcd hD T F
  k_drop
  rename_i h₁ tk₁ w right N0 X0
  have T := ‹Top qV (looseW qV looseV) _ _ _ _›
  have W1 := ‹Well _ _ (Value.ref _) _›
  have hlen := ‹¬ (_ : Int) < _›
  obtain ⟨X, m, hm, hp, hS⟩ := Y
  have em : m = mg := hm.eq_nsMap.trans T.g.eq_nsMap.symm
  subst em
  have f1 := T.free (Str.ofString "len") (by decide +kernel) (by decide +kernel) (by decide +kernel) (by decide +kernel) (by decide +kernel)
  have f2 := T.free (Str.ofString "range") (by decide +kernel) (by decide +kernel) (by decide +kernel) (by decide +kernel) (by decide +kernel)
  have f3 := T.free (Str.ofString "Exception") (by decide +kernel) (by decide +kernel) (by decide +kernel) (by decide +kernel) (by decide +kernel)
  obtain ⟨ρ', hpl⟩ := plain _ (Int.ofNat_le.mp (Int.not_lt.mp hlen))
  refine law_frame (K := ⟨_, _, _, _, _, faN T, 44⟩) (facts_of X T hp f1 f2) (excFacts_of X T hS hp f1 f2 f3) (Around.frames_deeper K0.stack) rfl ?depth ?units rfl rfl rfl rfl rfl ?n1 ?n2 ?ne F.keep F.ns rfl ⟨_, (N0 _ (.head _)).1, right⟩ ?rd hpl ?fin
  case depth => show callerA.depth + 1 + fuelL + 8 < recursionLimit; decide
  case units => show (callerA.deeper default).units + 8 * fuelL + 5000 < cLine; decide
  case n1 => exact Heap.get?_none_of_le (Nat.le_refl _)
  case n2 => exact Heap.get?_none_of_le (Nat.le_succ _)
  case ne => exact Nat.ne_of_lt (Nat.lt_succ_self _)
  case rd =>
    cases W1 with
    | list e r => exact .list (n := 0) e (rd_ints r)
  case fin =>
    intro h' tk' hk
    refine ⟨.inl ⟨_, .bool true, [], rfl, fun _ => rfl, .bool _, ?_, fun _ => ⟨List.nodup_nil, fun a ha => by cases ha⟩⟩, hk, rfl, hg⟩
    first | rfl | kernel_rfl | simp
section
variable {o : Orc} {ρ ρ' : Rho} {σ σ' σ1 σ2 : Sto} {f : AV → AV → Sto → Res (AV × Sto)}
theorem vK {i : Nat} {a : AV} (h : ρ[i]? = some (some a)) : cV i o ρ σ = .ok (a, σ) := by unfold cV; rw [h]
theorem kK {d : PyData} : cK d o ρ σ = .ok (.d d, σ) := rfl
theorem cNeg_k {i : Int} : cNeg i o ρ σ = .ok (.d (.int (-i)), σ) := rfl
theorem cPri_k {D : List (PyData × PyData)} : cPri D o ρ σ = .ok (.tab D, σ) := rfl
theorem bK {l r : EC} {a b : AV} {R : Res (AV × Sto)} (hl : l o ρ σ = .ok (a, σ1)) (hr : r o ρ σ1 = .ok (b, σ2)) (hf : f a b σ2 = R) : cBin f l r o ρ σ = R := by
  unfold cBin; rw [hl]; show (r o ρ σ1).bind _ = _; rw [hr]; exact hf
theorem tK {c : EC} {b : Bool} (h : c o ρ σ = .ok (.d (.bool b), σ')) : tE c o ρ σ = .ok (b, σ') := by unfold tE; rw [h]; rfl
theorem tE_exc {c : EC} (h : c o ρ σ = .exc) : tE c o ρ σ = .exc := by unfold tE; rw [h]; rfl
theorem tNot_k {t : TC} {b : Bool} (h : t o ρ σ = .ok (b, σ')) : tNot t o ρ σ = .ok (!b, σ') := by unfold tNot; rw [h]; rfl
theorem tNot_exc {t : TC} (h : t o ρ σ = .exc) : tNot t o ρ σ = .exc := by unfold tNot; rw [h]; rfl
theorem tAnd_t {t : TC} {ts : List TC} {R : Res (Bool × Sto)} {b : Bool} (h : t o ρ σ = .ok (b, σ')) (hb : b = true) (hr : tAnd ts o ρ σ' = R) : tAnd (t :: ts) o ρ σ = R := by unfold tAnd; rw [h]; subst hb; exact hr
theorem tAnd_f {t : TC} {ts : List TC} {b : Bool} (h : t o ρ σ = .ok (b, σ')) (hb : b = false) : tAnd (t :: ts) o ρ σ = .ok (false, σ') := by unfold tAnd; rw [h]; subst hb; rfl
theorem tAnd_0 : tAnd [] o ρ σ = .ok (true, σ) := rfl
theorem tOr_t {t : TC} {ts : List TC} {b : Bool} (h : t o ρ σ = .ok (b, σ')) (hb : b = true) : tOr (t :: ts) o ρ σ = .ok (true, σ') := by unfold tOr; rw [h]; subst hb; rfl
theorem tOr_f {t : TC} {ts : List TC} {R : Res (Bool × Sto)} {b : Bool} (h : t o ρ σ = .ok (b, σ')) (hb : b = false) (hr : tOr ts o ρ σ' = R) : tOr (t :: ts) o ρ σ = R := by unfold tOr; rw [h]; subst hb; exact hr
theorem tOr_0 : tOr [] o ρ σ = .ok (false, σ) := rfl
theorem cAnd_1 {c : EC} {R} (h : c o ρ σ = R) : cAnd c [] o ρ σ = R := h
theorem cAnd_t {c d : EC} {ds : List EC} {R : Res (AV × Sto)} {b : Bool} (h : c o ρ σ = .ok (.d (.bool b), σ')) (hb : b = true) (hr : cAnd d ds o ρ σ' = R) : cAnd c (d :: ds) o ρ σ = R := by unfold cAnd; rw [h]; subst hb; exact hr
theorem cAnd_f {c d : EC} {ds : List EC} {b : Bool} (h : c o ρ σ = .ok (.d (.bool b), σ')) (hb : b = false) : cAnd c (d :: ds) o ρ σ = .ok (.d (.bool false), σ') := by unfold cAnd; rw [h]; subst hb; rfl
theorem cIf_t {t : TC} {a c : EC} {R} {b : Bool} (h : t o ρ σ = .ok (b, σ')) (hb : b = true) (hr : a o ρ σ' = R) : cIf t a c o ρ σ = R := by unfold cIf; rw [h]; subst hb; exact hr
theorem cIf_f {t : TC} {a c : EC} {R} {b : Bool} (h : t o ρ σ = .ok (b, σ')) (hb : b = false) (hr : c o ρ σ' = R) : cIf t a c o ρ σ = R := by unfold cIf; rw [h]; subst hb; exact hr
theorem fK {f : Fn} {cs : List EC} {as : List AV} {R} (h : cArgs cs o ρ σ = .ok (as, σ')) (hr : o f as σ' = R) : cCall f cs o ρ σ = R := by unfold cCall; rw [h]; exact hr
theorem a0C : cArgs [] o ρ σ = .ok ([], σ) := rfl
theorem aC {c : EC} {cs : List EC} {a : AV} {as : List AV} (h : c o ρ σ = .ok (a, σ1)) (hr : cArgs cs o ρ σ1 = .ok (as, σ2)) : cArgs (c :: cs) o ρ σ = .ok (a :: as, σ2) := by unfold cArgs; rw [h]; show (cArgs cs o ρ σ1).bind _ = _; rw [hr]; rfl
theorem e0C : cEvs [] o ρ σ = .ok ([], σ) := rfl
theorem eC {c : EC} {cs : List EC} {a : PyData} {as : List PyData} (h : c o ρ σ = .ok (.d a, σ1)) (hr : cEvs cs o ρ σ1 = .ok (as, σ2)) : cEvs (c :: cs) o ρ σ = .ok (a :: as, σ2) := by
  unfold cEvs; rw [h]; show (cEvs cs o ρ σ1).bind _ = _; rw [hr]; rfl
theorem cEvs_l {c : EC} {cs : List EC} {k : Nat} {ds : List PyData} {as : List PyData} (h : c o ρ σ = .ok (.loc k, σ1)) (hk : σ1[k]? = some (some ds)) (hr : cEvs cs o ρ (σ1.set k none) = .ok (as, σ2)) : cEvs (c :: cs) o ρ σ = .ok (.list ds :: as, σ2) := by
  unfold cEvs; rw [h]; show (frz (.loc k, σ1)).bind _ = _; unfold frz; dsimp only; rw [hk]; show (cEvs cs o ρ (σ1.set k none)).bind _ = _; rw [hr]; rfl
theorem cEvs_exc {c : EC} {cs : List EC} (h : c o ρ σ = .exc) : cEvs (c :: cs) o ρ σ = .exc := by unfold cEvs; rw [h]; rfl
theorem cEvs_c_exc {c : EC} {cs : List EC} {a : PyData} (h : c o ρ σ = .ok (.d a, σ1)) (hr : cEvs cs o ρ σ1 = .exc) : cEvs (c :: cs) o ρ σ = .exc := by
  unfold cEvs; rw [h]; show (cEvs cs o ρ σ1).bind _ = _; rw [hr]; rfl
theorem cEvs_l_exc {c : EC} {cs : List EC} {k : Nat} {ds : List PyData} (h : c o ρ σ = .ok (.loc k, σ1)) (hk : σ1[k]? = some (some ds)) (hr : cEvs cs o ρ (σ1.set k none) = .exc) : cEvs (c :: cs) o ρ σ = .exc := by
  unfold cEvs; rw [h]; show (frz (.loc k, σ1)).bind _ = _; unfold frz; dsimp only; rw [hk]; show (cEvs cs o ρ (σ1.set k none)).bind _ = _; rw [hr]; rfl
theorem uK {cs : List EC} {as : List PyData} (h : cEvs cs o ρ σ = .ok (as, σ')) : cTup cs o ρ σ = .ok (.d (.tuple as), σ') := by unfold cTup; rw [h]; rfl
theorem cTup_exc {cs : List EC} (h : cEvs cs o ρ σ = .exc) : cTup cs o ρ σ = .exc := by unfold cTup; rw [h]; rfl
theorem lK {cs : List EC} {as : List PyData} (h : cEvs cs o ρ σ = .ok (as, σ')) : cLst cs o ρ σ = .ok (.d (.list as), σ') := by unfold cLst; rw [h]; rfl
theorem cLen_k {c : EC} {a : AV} {ds : List PyData} (h : c o ρ σ = .ok (a, σ')) (hd : datOf a σ' = some (.list ds)) (hz : ds.length ≤ 1000) : cLen c o ρ σ = .ok (.d (.int (ds.length : Nat)), σ') := by
  unfold cLen; rw [h]; show (match datOf a σ' with | some (.list ds) => _ | _ => _) = _; rw [hd]; dsimp only; rw [if_pos (by lia)]
theorem sRet_k {c : EC} {a : AV} (h : c o ρ σ = .ok (a, σ')) : sRet c o ρ σ = .ok (.ret a, ρ, σ') := by unfold sRet; rw [h]; rfl
theorem sRet_exc {c : EC} (h : c o ρ σ = .exc) : sRet c o ρ σ = .exc := by unfold sRet; rw [h]; rfl
theorem gK {i : Nat} {c : EC} {a : AV} (h : c o ρ σ = .ok (a, σ')) : sAsg i c o ρ σ = .ok (.next, ρ.set i (some a), σ') := by unfold sAsg; rw [h]; rfl
theorem sAsg_exc {i : Nat} {c : EC} (h : c o ρ σ = .exc) : sAsg i c o ρ σ = .exc := by unfold sAsg; rw [h]; rfl
theorem sAug_k {i : Nat} {c : EC} {a : AV} (h : cBin f (cV i) c o ρ σ = .ok (a, σ')) : sAug i f c o ρ σ = .ok (.next, ρ.set i (some a), σ') := by unfold sAug; rw [h]; rfl
theorem sUnp_k {i j : Nat} {c : EC} {a b : PyData} (h : c o ρ σ = .ok (.d (.tuple [a, b]), σ')) : sUnp i j c o ρ σ = .ok (.next, (ρ.set i (some (.d a))).set j (some (.d b)), σ') := by unfold sUnp; rw [h]; rfl
theorem sUnp_exc {i j : Nat} {c : EC} (h : c o ρ σ = .exc) : sUnp i j c o ρ σ = .exc := by unfold sUnp; rw [h]; rfl
theorem sRaise_k {c : EC} {x : Str} (h : c o ρ σ = .ok (.d (.str x), σ')) : sRaise c o ρ σ = .exc := by unfold sRaise; rw [h]; rfl
theorem nK : sNil o ρ σ = .ok (.next, ρ, σ) := rfl
theorem tI {t : TC} {a c : SC} {R} {b : Bool} (h : t o ρ σ = .ok (b, σ')) (hb : b = true) (hr : a o ρ σ' = R) : sIf t a c o ρ σ = R := by unfold sIf; rw [h]; subst hb; exact hr
theorem nI {t : TC} {a c : SC} {R} {b : Bool} (h : t o ρ σ = .ok (b, σ')) (hb : b = false) (hr : c o ρ σ' = R) : sIf t a c o ρ σ = R := by unfold sIf; rw [h]; subst hb; exact hr
theorem sIf_exc {t : TC} {a c : SC} (h : t o ρ σ = .exc) : sIf t a c o ρ σ = .exc := by unfold sIf; rw [h]; rfl
theorem sN {a b : SC} {R} (h : a o ρ σ = .ok (.next, ρ', σ')) (hr : b o ρ' σ' = R) : sCons a b o ρ σ = R := by unfold sCons; rw [h]; exact hr
theorem sR {a b : SC} {v : AV} (h : a o ρ σ = .ok (.ret v, ρ', σ')) : sCons a b o ρ σ = .ok (.ret v, ρ', σ') := by unfold sCons; rw [h]; rfl
theorem sCons_x {a b : SC} (h : a o ρ σ = .exc) : sCons a b o ρ σ = .exc := by unfold sCons; rw [h]; rfl
theorem sNew_k {i : Nat} : sNew i o ρ σ = .ok (.next, ρ.set i (some (.loc σ.length)), σ ++ [some []]) := rfl
theorem sApp_k {i k : Nat} {c : EC} {d : PyData} {ds0 ds : List PyData} (hi : ρ[i]? = some (some (.loc k))) (h0 : σ[k]? = some (some ds0)) (h : c o ρ σ = .ok (.d d, σ')) (hk : σ'[k]? = some (some ds)) (hz : ds.length ≤ 1000) :
    sApp i c o ρ σ = .ok (.next, ρ, σ'.set k (some (ds ++ [d]))) := by
  unfold sApp; rw [hi]; dsimp only; rw [h0]; dsimp only; rw [h]
  show (match σ'[k]? with | some (some ds) => if ds.length ≤ 100000 then Res.ok (Fl.next, ρ, σ'.set k (some (ds ++ [d]))) else Res.bad | _ => Res.bad) = _
  rw [hk]; dsimp only; rw [if_pos (by lia)]
theorem sPop_k {i k : Nat} {x : Int} {ds : List PyData} (hi : ρ[i]? = some (some (.loc k))) (h0 : σ[k]? = some (some ds)) (hl : ds.getLast? = some (.int x)) (hz : ds.length ≤ 1000) : sPop i o ρ σ = .ok (.next, ρ, σ.set k (some ds.dropLast)) := by
  unfold sPop; rw [hi]; dsimp only; rw [h0]; dsimp only; rw [hl]; dsimp only; rw [if_pos (by lia)]
theorem while_t {t : TC} {b : SC} {n : Nat} {q : Bool} {R} (h : t o ρ σ = .ok (q, σ1)) (hq : q = true) (hb : b o ρ σ1 = .ok (.next, ρ', σ2)) (hr : whileL t b n o ρ' σ2 = R) : whileL t b (n + 1) o ρ σ = R := by
  rw [whileL]; show (t o ρ σ).bind _ = _; rw [h]; subst hq; show ((b o ρ σ1).bind _) = _; rw [hb]; exact hr
theorem while_r {t : TC} {b : SC} {n : Nat} {q : Bool} {v : AV} (h : t o ρ σ = .ok (q, σ1)) (hq : q = true) (hb : b o ρ σ1 = .ok (.ret v, ρ', σ2)) : whileL t b (n + 1) o ρ σ = .ok (.ret v, ρ', σ2) := by
  rw [whileL]; show (t o ρ σ).bind _ = _; rw [h]; subst hq; show ((b o ρ σ1).bind _) = _; rw [hb]; rfl
theorem while_x {t : TC} {b : SC} {n : Nat} {q : Bool} (h : t o ρ σ = .ok (q, σ1)) (hq : q = true) (hb : b o ρ σ1 = .exc) : whileL t b (n + 1) o ρ σ = .exc := by
  rw [whileL]; show (t o ρ σ).bind _ = _; rw [h]; subst hq; show ((b o ρ σ1).bind _) = _; rw [hb]; rfl
theorem while_f {t : TC} {b : SC} {n : Nat} {q : Bool} (h : t o ρ σ = .ok (q, σ1)) (hq : q = false) : whileL t b (n + 1) o ρ σ = .ok (.next, ρ, σ1) := by
  rw [whileL]; show (t o ρ σ).bind _ = _; rw [h]; subst hq; rfl
theorem for_n {tgt : PyData → Rho → Option Rho} {b : SC} {d : PyData} {ds : List PyData} {ρ1 : Rho} {R} (ht : tgt d ρ = some ρ1) (hb : b o ρ1 σ = .ok (.next, ρ', σ')) (hr : forL tgt b ds o ρ' σ' = R) : forL tgt b (d :: ds) o ρ σ = R := by
  rw [forL]; show (match tgt d ρ with | some ρ' => _ | none => _) = _; rw [ht]; show ((b o ρ1 σ).bind _) = _; rw [hb]; exact hr
theorem for_r {tgt : PyData → Rho → Option Rho} {b : SC} {d : PyData} {ds : List PyData} {ρ1 : Rho} {v : AV} (ht : tgt d ρ = some ρ1) (hb : b o ρ1 σ = .ok (.ret v, ρ', σ')) : forL tgt b (d :: ds) o ρ σ = .ok (.ret v, ρ', σ') := by
  rw [forL]; show (match tgt d ρ with | some ρ' => _ | none => _) = _; rw [ht]; show ((b o ρ1 σ).bind _) = _; rw [hb]; rfl
theorem sForL_k {tgt : PyData → Rho → Option Rho} {c : EC} {b : SC} {ds : List PyData} {R} (h : c o ρ σ = .ok (.d (.list ds), σ')) (hz : ds.length ≤ 1000) (hr : forL tgt b ds o ρ σ' = R) : sForL tgt c b o ρ σ = R := by
  unfold sForL; rw [h]; show (if ds.length ≤ 100000 then _ else _) = _; rw [if_pos (by lia)]; exact hr
theorem sForL_l {tgt : PyData → Rho → Option Rho} {c : EC} {b : SC} {k : Nat} {ds : List PyData} {R} (h : c o ρ σ = .ok (.loc k, σ')) (hk : σ'[k]? = some (some ds)) (hz : ds.length ≤ 1000) (hr : forL tgt b ds o ρ (σ'.set k none) = R) : sForL tgt c b o ρ σ = R := by
  unfold sForL; rw [h]; show (frz (.loc k, σ')).bind _ = _; unfold frz; dsimp only; rw [hk]; show (if ds.length ≤ 100000 then _ else _) = _; rw [if_pos (by lia)]; exact hr
theorem sForR_k {i : Nat} {ca cb : EC} {b : SC} {P Q : Int} {p q : Nat} {R} (ha : ca o ρ σ = .ok (.d (.int P), σ1)) (hb : cb o ρ σ1 = .ok (.d (.int Q), σ2)) (hr : forL (tgt1 i) b (rngs (p : Nat) (q : Nat)) o ρ σ2 = R) (eP : P = (p : Nat)) (eQ : Q = (q : Nat)) (hp : p ≤ 10000) (hq : q ≤ 10000) : sForR i ca cb b o ρ σ = R := by
  subst eP eQ
  unfold sForR; rw [ha]; show (cb o ρ σ1).bind _ = _; rw [hb]; show (if _ then _ else _) = _; rw [if_pos (by lia)]; exact hr
theorem sForR1_k {i : Nat} {cb : EC} {b : SC} {q : Nat} {R} (hb : cb o ρ σ = .ok (.d (.int (q : Nat)), σ2)) (hq : q ≤ 10000) (hr : forL (tgt1 i) b (rngs ((0 : Nat) : Int) (q : Nat)) o ρ σ2 = R) : sForR1 i cb b o ρ σ = R := by
  unfold sForR1; exact sForR_k (p := 0) kK hb hr rfl rfl (by decide) hq
theorem run_ok {ar nn : Nat} {b : SC} {avs : List AV} {d : PyData} (hl : avs.length = ar) (h : b o (avs.map some ++ List.replicate (nn - ar) none) σ = .ok (.ret (.d d), ρ', σ ++ σ1)) : runF ar nn b o avs σ = .ok (.d d, σ) := by
  unfold runF; rw [if_pos hl, h]; show Res.ok (AV.d d, (σ ++ σ1).take σ.length) = _; rw [List.take_left']; rfl
theorem run_tab {ar nn : Nat} {b : SC} {avs : List AV} {D : List (PyData × PyData)} (hl : avs.length = ar) (h : b o (avs.map some ++ List.replicate (nn - ar) none) σ = .ok (.ret (.tab D), ρ', σ)) : runF ar nn b o avs σ = .ok (.tab D, σ) := by
  unfold runF; rw [if_pos hl, h]; show Res.ok (AV.tab D, σ.take σ.length) = _; rw [List.take_length]
theorem run_loc {ar nn : Nat} {b : SC} {avs : List AV} {ds : List PyData} {k : Nat} (hl : avs.length = ar) (h : b o (avs.map some ++ List.replicate (nn - ar) none) σ = .ok (.ret (.loc (σ.length + k)), ρ', σ ++ σ1)) (hk : σ1[k]? = some (some ds)) : runF ar nn b o avs σ = .ok (.d (.list ds), σ) := by
  unfold runF; rw [if_pos hl, h]
  show (if σ.length ≤ σ.length + k then (match (σ ++ σ1)[σ.length + k]? with | some (some ds) => Res.ok (AV.d (.list ds), (σ ++ σ1).take σ.length) | _ => Res.bad) else Res.bad) = _
  rw [if_pos (Nat.le_add_right _ _), List.getElem?_append_right (Nat.le_add_right _ _), Nat.add_sub_cancel_left, hk]
  dsimp only; rw [List.take_left']; rfl
theorem run_exc {ar nn : Nat} {b : SC} {avs : List AV} (hl : avs.length = ar) (h : b o (avs.map some ++ List.replicate (nn - ar) none) σ = .exc) : runF ar nn b o avs σ = .exc := by
  unfold runF; rw [if_pos hl, h]; rfl
theorem oLt_k {x y : Int} : oLt (.d (.int x)) (.d (.int y)) σ = .ok (.d (.bool (decide (x < y))), σ) := rfl
theorem oLe_k {x y : Int} : oLe (.d (.int x)) (.d (.int y)) σ = .ok (.d (.bool (decide (x ≤ y))), σ) := rfl
theorem oGt_k {x y : Int} : oGt (.d (.int x)) (.d (.int y)) σ = .ok (.d (.bool (decide (y < x))), σ) := rfl
theorem oGe_k {x y : Int} : oGe (.d (.int x)) (.d (.int y)) σ = .ok (.d (.bool (decide (y ≤ x))), σ) := rfl
theorem oAdd_k {x y : Int} : oAdd (.d (.int x)) (.d (.int y)) σ = .ok (.d (.int (x + y)), σ) := rfl
theorem oSub_k {x y : Int} : oSub (.d (.int x)) (.d (.int y)) σ = .ok (.d (.int (x - y)), σ) := rfl
theorem oMul_k {x y : Int} (h : x.natAbs ≤ 4 ∨ y.natAbs ≤ 4) : oMul (.d (.int x)) (.d (.int y)) σ = .ok (.d (.int (x * y)), σ) := by
  show (if x.natAbs ≤ 4 ∨ y.natAbs ≤ 4 then Res.ok (PyData.int (x * y)) else .bad).bind _ = _
  rw [if_pos h]; rfl
theorem oMod_k {x y : Int} (h : y ≠ 0) : oMod (.d (.int x)) (.d (.int y)) σ = .ok (.d (.int (x.fmod y)), σ) := by
  show (if y = 0 then Res.bad else .ok (PyData.int (x.fmod y))).bind _ = _
  rw [if_neg h]; rfl
theorem oDiv_k {x y : Int} (h : 0 < y ∧ y < 1000) : oDiv (.d (.int x)) (.d (.int y)) σ = .ok (.d (.int (x.fdiv y)), σ) := by
  show (if 0 < y ∧ y < 1000 then Res.ok (PyData.int (x.fdiv y)) else .bad).bind _ = _
  rw [if_pos h]; rfl
theorem oEq_i {x y : Int} : oEq (.d (.int x)) (.d (.int y)) σ = .ok (.d (.bool (x == y)), σ) := rfl
theorem oEq_s {x y : Str} : oEq (.d (.str x)) (.d (.str y)) σ = .ok (.d (.bool (x == y)), σ) := rfl
theorem oNe_i {x y : Int} : oNe (.d (.int x)) (.d (.int y)) σ = .ok (.d (.bool (!(x == y))), σ) := rfl
theorem oNe_s {x y : Str} : oNe (.d (.str x)) (.d (.str y)) σ = .ok (.d (.bool (!(x == y))), σ) := rfl
theorem oItem_l {ds : List PyData} {i : Nat} {d : PyData} (h : ds[i]? = some d) (hs : i < 10000) : oItem (.d (.list ds)) (.d (.int (i : Nat))) σ = .ok (.d d, σ) := by
  show itemOf (.list ds) (.d (.int (i : Nat))) σ = _
  unfold itemOf
  simp only [itemsOf]
  rw [if_pos (by lia), show ((i : Nat) : Int).toNat = i from by lia, h]
theorem oItem_t {ds : List PyData} {i : Nat} {d : PyData} (h : ds[i]? = some d) (hs : i < 10000) : oItem (.d (.tuple ds)) (.d (.int (i : Nat))) σ = .ok (.d d, σ) := by
  show itemOf (.tuple ds) (.d (.int (i : Nat))) σ = _
  unfold itemOf
  simp only [itemsOf]
  rw [if_pos (by lia), show ((i : Nat) : Int).toNat = i from by lia, h]
theorem oItem_0 {a : PyData} {r : List PyData} : oItem (.d (.tuple (a :: r))) (.d (.int 0)) σ = .ok (.d a, σ) := oItem_t (i := 0) rfl (by decide)
theorem oItem_1 {a b : PyData} {r : List PyData} : oItem (.d (.tuple (a :: b :: r))) (.d (.int 1)) σ = .ok (.d b, σ) := oItem_t (i := 1) rfl (by decide)
end
inductive Tk where
  | op (s : Str) | name (s : Str) | int (i : Int) | real (a b : Int) | dble (a b : Int) | log (b : Bool) | chr (s : Str)
noncomputable def Tk.kind : Tk → Str
  | .op _ => Str.ofString "OP"
  | .name _ => Str.ofString "NAME"
  | .int _ => Str.ofString "INT"
  | .real _ _ => Str.ofString "REAL"
  | .dble _ _ => Str.ofString "DBLE"
  | .log _ => Str.ofString "LOG"
  | .chr _ => Str.ofString "CHAR"
noncomputable def Tk.pay : Tk → PyData
  | .op s => .str s
  | .name s => .str s
  | .int i => .int i
  | .real a b => .tuple [.int a, .int b]
  | .dble a b => .tuple [.int a, .int b]
  | .log b => .bool b
  | .chr s => .str s
noncomputable def Tk.e2 (t : Tk) : PyData := .tuple [.str t.kind, t.pay]
structure TK (ds : List PyData) (ts : List Tk) : Prop where
  len : ds.length = ts.length
  at' : ∀ (i : Nat) (t : Tk), ts[i]? = some t → ∃ r, ds[i]? = some (.tuple (.str t.kind :: t.pay :: r))
  small : ds.length ≤ 1000
noncomputable def kindAt (ts : List Tk) (i : Nat) : Str := match ts[i]? with | some t => t.kind | none => Str.ofString ""
noncomputable def isOp (ts : List Tk) (i : Nat) (x : Str) : Bool := match ts[i]? with | some (.op s) => s == x | _ => false
noncomputable abbrev L (ds : List PyData) : AV := .d (.list ds)
noncomputable abbrev I (i : Nat) : AV := .d (.int (i : Nat))
noncomputable abbrev T (x : Str) : AV := .d (.str x)
noncomputable abbrev Bo (b : Bool) : AV := .d (.bool b)
theorem nb_t {b : Bool} (h : b = false) : (!b) = true := by rw [h]; rfl
theorem nb_f {b : Bool} (h : b = true) : (!b) = false := by rw [h]; rfl
theorem run_x {ar nn : Nat} {b : SC} {o : Orc} {σ : Sto} {avs : List AV} (hl : avs.length = ar) (h : b o (avs.map some ++ List.replicate (nn - ar) none) σ = .exc) : runF ar nn b o avs σ = .exc := run_exc hl h
theorem run_ok0 {ar nn : Nat} {b : SC} {o : Orc} {ρ' : Rho} {σ : Sto} {avs : List AV} {d : PyData} (hl : avs.length = ar) (h : b o (avs.map some ++ List.replicate (nn - ar) none) σ = .ok (.ret (.d d), ρ', σ)) : runF ar nn b o avs σ = .ok (.d d, σ) :=
  run_ok (σ1 := []) hl (by rw [List.append_nil]; exact h)
section
variable {ds : List PyData} {ts : List Tk} {σ : Sto} {n : Nat} {i : Nat} {x : Str}
theorem TK.lt (h : TK ds ts) {t : Tk} (e : ts[i]? = some t) : i < ds.length := by
  rw [h.len]; exact (List.getElem?_eq_some_iff.mp e).1
theorem TK.item (h : TK ds ts) {t : Tk} (e : ts[i]? = some t) : ∃ r, ∀ σ, oItem (L ds) (I i) σ = .ok (.d (.tuple (.str t.kind :: t.pay :: r)), σ) := by
  obtain ⟨r, hr⟩ := h.at' i t e
  exact ⟨r, fun σ => oItem_l hr (by have := h.lt e; have := h.small; lia)⟩
theorem TK.dlt (h : TK ds ts) {t : Tk} (e : ts[i]? = some t) : decide (((i : Nat) : Int) < ((ds.length : Nat) : Int)) = true := decide_eq_true (by have := h.lt e; lia)
theorem TK.dge (h : TK ds ts) (e : ts[i]? = none) : decide (((i : Nat) : Int) < ((ds.length : Nat) : Int)) = false := decide_eq_false (by have := List.getElem?_eq_none_iff.mp e; have := h.len; lia)
theorem ev_kind_at (h : TK ds ts) : callF (n + 1) .kind_at [L ds, I i] σ = .ok (T (kindAt ts i), σ) := by
  have hz := h.small
  unfold kindAt
  cases e : ts[i]? with
  | none =>
    have hb1 := h.dge e
    exact run_ok0 rfl (sN (nI (tK (bK (vK rfl) (cLen_k (vK rfl) rfl hz) oLt_k)) hb1 nK) (sR (sRet_k kK)))
  | some t =>
    have hb1 := h.dlt e
    obtain ⟨r, hr_at⟩ := h.item e
    exact run_ok0 rfl (sR (tI (tK (bK (vK rfl) (cLen_k (vK rfl) rfl hz) oLt_k)) hb1 (sR (sRet_k (bK (bK (vK rfl) (vK rfl) (hr_at _)) kK oItem_0)))))
theorem ev_is_op (h : TK ds ts) : callF (n + 1) .is_op [L ds, I i, T x] σ = .ok (Bo (isOp ts i x), σ) := by
  have hz := h.small
  unfold isOp
  cases e : ts[i]? with
  | none =>
    have hb1 := h.dge e
    exact run_ok0 rfl (sR (sRet_k (cAnd_f (bK (vK rfl) (cLen_k (vK rfl) rfl hz) oLt_k) hb1)))
  | some t =>
    have hb1 := h.dlt e
    obtain ⟨r, hr_at⟩ := h.item e
    cases t with
    | op s =>
      have hb2 : ((Tk.op s).kind == Str.ofString "OP") = true := beq_self_eq_true _
      exact run_ok0 rfl (sR (sRet_k (cAnd_t (bK (vK rfl) (cLen_k (vK rfl) rfl hz) oLt_k) hb1 (cAnd_t (bK (bK (bK (vK rfl) (vK rfl) (hr_at _)) kK oItem_0) kK oEq_s) hb2 (cAnd_1 (bK (bK (bK (vK rfl) (vK rfl) (hr_at _)) kK oItem_1) (vK rfl) oEq_s))))))
    | name s => have hb2 : ((Tk.name s).kind == Str.ofString "OP") = false := by show (Str.ofString "NAME" == Str.ofString "OP") = false; decide
                exact run_ok0 rfl (sR (sRet_k (cAnd_t (bK (vK rfl) (cLen_k (vK rfl) rfl hz) oLt_k) hb1 (cAnd_f (bK (bK (bK (vK rfl) (vK rfl) (hr_at _)) kK oItem_0) kK oEq_s) hb2))))
    | int s => have hb2 : ((Tk.int s).kind == Str.ofString "OP") = false := by show (Str.ofString "INT" == Str.ofString "OP") = false; decide
               exact run_ok0 rfl (sR (sRet_k (cAnd_t (bK (vK rfl) (cLen_k (vK rfl) rfl hz) oLt_k) hb1 (cAnd_f (bK (bK (bK (vK rfl) (vK rfl) (hr_at _)) kK oItem_0) kK oEq_s) hb2))))
    | real s q => have hb2 : ((Tk.real s q).kind == Str.ofString "OP") = false := by show (Str.ofString "REAL" == Str.ofString "OP") = false; decide
                  exact run_ok0 rfl (sR (sRet_k (cAnd_t (bK (vK rfl) (cLen_k (vK rfl) rfl hz) oLt_k) hb1 (cAnd_f (bK (bK (bK (vK rfl) (vK rfl) (hr_at _)) kK oItem_0) kK oEq_s) hb2))))
    | dble s q => have hb2 : ((Tk.dble s q).kind == Str.ofString "OP") = false := by show (Str.ofString "DBLE" == Str.ofString "OP") = false; decide
                  exact run_ok0 rfl (sR (sRet_k (cAnd_t (bK (vK rfl) (cLen_k (vK rfl) rfl hz) oLt_k) hb1 (cAnd_f (bK (bK (bK (vK rfl) (vK rfl) (hr_at _)) kK oItem_0) kK oEq_s) hb2))))
    | log s => have hb2 : ((Tk.log s).kind == Str.ofString "OP") = false := by show (Str.ofString "LOG" == Str.ofString "OP") = false; decide
               exact run_ok0 rfl (sR (sRet_k (cAnd_t (bK (vK rfl) (cLen_k (vK rfl) rfl hz) oLt_k) hb1 (cAnd_f (bK (bK (bK (vK rfl) (vK rfl) (hr_at _)) kK oItem_0) kK oEq_s) hb2))))
    | chr s => have hb2 : ((Tk.chr s).kind == Str.ofString "OP") = false := by show (Str.ofString "CHAR" == Str.ofString "OP") = false; decide
               exact run_ok0 rfl (sR (sRet_k (cAnd_t (bK (vK rfl) (cLen_k (vK rfl) rfl hz) oLt_k) hb1 (cAnd_f (bK (bK (bK (vK rfl) (vK rfl) (hr_at _)) kK oItem_0) kK oEq_s) hb2))))
theorem ev_need_op (h : TK ds ts) (hx : x.length ≤ 10) : callF (n + 2) .need_op [L ds, I i, T x] σ = if isOp ts i x = true then .ok (I (i + 1), σ) else .exc := by
  have hc1 := ev_is_op (n := n) (σ := σ) (i := i) (x := x) h
  cases hb1 : isOp ts i x with
  | true => exact run_ok0 rfl (sN (nI (tNot_k (tK (fK (aC (vK rfl) (aC (vK rfl) (aC (vK rfl) a0C))) hc1))) (nb_f hb1) nK) (sR (sRet_k (bK (vK rfl) kK oAdd_k))))
  | false =>
    have ho1 : ∀ σ, oCat (T (Str.ofString "a mark is missing: ")) (T x) σ = .ok (T (Str.ofString "a mark is missing: " ++ x), σ) := fun σ => by
      show (if _ then _ else _) = _
      rw [if_pos (by have : (Str.ofString "a mark is missing: ").length = 19 := by decide +kernel
                     lia)]
    exact run_x rfl (sCons_x (tI (tNot_k (tK (fK (aC (vK rfl) (aC (vK rfl) (aC (vK rfl) a0C))) hc1))) (nb_t hb1) (sCons_x (sRaise_k (bK kK (vK rfl) (ho1 _))))))
theorem ev_need_name (h : TK ds ts) : callF (n + 2) .need_name [L ds, I i] σ = match ts[i]? with | some (.name s) => .ok (.d (.tuple [.str s, .int ((i + 1 : Nat))]), σ) | _ => .exc := by
  have hc1 := ev_kind_at (n := n) (σ := σ) (i := i) h
  cases e : ts[i]? with
  | none =>
    have hb1 : (!(kindAt ts i == Str.ofString "NAME")) = true := by unfold kindAt; rw [e]; rfl
    exact run_x rfl (sCons_x (tI (tK (bK (fK (aC (vK rfl) (aC (vK rfl) a0C)) hc1) kK oNe_s)) hb1 (sCons_x (sRaise_k kK))))
  | some t =>
    obtain ⟨r, hr_at⟩ := h.item e
    cases t with
    | name s =>
      have hb1 : (!(kindAt ts i == Str.ofString "NAME")) = false := by unfold kindAt; rw [e]; rfl
      exact run_ok0 rfl (sN (nI (tK (bK (fK (aC (vK rfl) (aC (vK rfl) a0C)) hc1) kK oNe_s)) hb1 nK) (sR (sRet_k (uK (eC (bK (bK (vK rfl) (vK rfl) (hr_at _)) kK oItem_1) (eC (bK (vK rfl) kK oAdd_k) e0C))))))
    | _ =>
      have hb1 : (!(kindAt ts i == Str.ofString "NAME")) = true := by unfold kindAt; rw [e]; rfl
      exact run_x rfl (sCons_x (tI (tK (bK (fK (aC (vK rfl) (aC (vK rfl) a0C)) hc1) kK oNe_s)) hb1 (sCons_x (sRaise_k kK))))
end
theorem st_close_at (n : Nat) (avs : List AV) (σ : Sto) : callF (n + 1) .close_at avs σ = runF 2 8 (sCons (sAsg 2 (cK (.int 0))) (sCons (sForR 3 (cV 1) (cLen (cV 0)) (sCons (sIf (tE (cCall .is_op [cV 0, cV 3, cK (.str (Str.ofString "("))])) (sCons (sAug 2 oAdd (cK (.int 1))) (sNil)) (sCons (sIf (tE (cCall .is_op [cV 0, cV 3, cK (.str (Str.ofString ")"))])) (sCons (sAug 2 oSub (cK (.int 1))) (sCons (sIf (tE (cBin oEq (cV 2) (cK (.int 0)))) (sCons (sRet (cV 3)) (sNil)) (sNil)) (sNil))) (sNil)) (sNil))) (sNil))) (sCons (sRaise (cK (.str (Str.ofString "a bracket is not closed")))) (sNil)))) (callF n) avs σ := rfl
theorem st_priority_at (n : Nat) (avs : List AV) (σ : Sto) : callF (n + 1) .priority_at avs σ = runF 2 4 (sCons (sIf (tE (cBin oNe (cCall .kind_at [cV 0, cV 1]) (cK (.str (Str.ofString "OP"))))) (sCons (sRet (cK (.int 0))) (sNil)) (sNil)) (sCons (sRet (cGet (cBin oItem (cBin oItem (cV 0) (cV 1)) (cK (.int 1))) 0)) (sNil))) (callF n) avs σ := rfl
theorem st_parse_expr (n : Nat) (avs : List AV) (σ : Sto) : callF (n + 1) .parse_expr avs σ = runF 2 4 (sCons (sRet (cCall .parse_binary [cV 0, cV 1, cK (.int 1)])) (sNil)) (callF n) avs σ := rfl
theorem st_parse_binary (n : Nat) (avs : List AV) (σ : Sto) : callF (n + 1) .parse_binary avs σ = runF 3 14 (sCons (sUnp 3 1 (cCall .parse_first [cV 0, cV 1, cV 2])) (sCons (sAsg 4 (cK (.bool false))) (sCons (sWhile (tE (cBin oGe (cCall .priority_at [cV 0, cV 1]) (cV 2))) (sCons (sAsg 5 (cCall .priority_at [cV 0, cV 1])) (sCons (sAsg 6 (cBin oItem (cBin oItem (cV 0) (cV 1)) (cK (.int 1)))) (sCons (sIf (tAnd [tE (cBin oEq (cV 5) (cK (.int 5))), tE (cV 4)]) (sCons (sRaise (cK (.str (Str.ofString "a relation behind a relation")))) (sNil)) (sNil)) (sCons (sIf (tE (cBin oEq (cV 5) (cK (.int 9)))) (sCons (sUnp 7 1 (cCall .parse_binary [cV 0, cBin oAdd (cV 1) (cK (.int 1)), cK (.int 9)])) (sNil)) (sCons (sUnp 7 1 (cCall .parse_binary [cV 0, cBin oAdd (cV 1) (cK (.int 1)), cBin oAdd (cV 5) (cK (.int 1))])) (sNil))) (sCons (sAsg 3 (cTup [cK (.str (Str.ofString "bin")), cV 6, cV 3, cV 7])) (sCons (sAsg 4 (cBin oEq (cV 5) (cK (.int 5)))) (sNil)))))))) (sCons (sRet (cTup [cV 3, cV 1])) (sNil))))) (callF n) avs σ := rfl
theorem st_parse_first (n : Nat) (avs : List AV) (σ : Sto) : callF (n + 1) .parse_first avs σ = runF 3 11 (sCons (sIf (tE (cCall .is_op [cV 0, cV 1, cK (.str (Str.ofString ".NOT."))])) (sCons (sIf (tE (cBin oGt (cV 2) (cK (.int 4)))) (sCons (sRaise (cK (.str (Str.ofString ".NOT. cannot stand here")))) (sNil)) (sNil)) (sCons (sUnp 3 1 (cCall .parse_binary [cV 0, cBin oAdd (cV 1) (cK (.int 1)), cBin oAdd (cK (.int 4)) (cK (.int 1))])) (sCons (sRet (cTup [cTup [cK (.str (Str.ofString "un")), cK (.str (Str.ofString ".NOT.")), cV 3], cV 1])) (sNil)))) (sNil)) (sCons (sIf (tOr [tE (cCall .is_op [cV 0, cV 1, cK (.str (Str.ofString "+"))]), tE (cCall .is_op [cV 0, cV 1, cK (.str (Str.ofString "-"))])]) (sCons (sIf (tE (cBin oGt (cV 2) (cK (.int 7)))) (sCons (sRaise (cK (.str (Str.ofString "a sign cannot stand here")))) (sNil)) (sNil)) (sCons (sAsg 4 (cBin oItem (cBin oItem (cV 0) (cV 1)) (cK (.int 1)))) (sCons (sUnp 3 1 (cCall .parse_binary [cV 0, cBin oAdd (cV 1) (cK (.int 1)), cBin oAdd (cK (.int 7)) (cK (.int 1))])) (sCons (sRet (cTup [cTup [cK (.str (Str.ofString "un")), cV 4, cV 3], cV 1])) (sNil))))) (sNil)) (sCons (sRet (cCall .parse_primary [cV 0, cV 1])) (sNil)))) (callF n) avs σ := rfl
theorem st_parse_primary (n : Nat) (avs : List AV) (σ : Sto) : callF (n + 1) .parse_primary avs σ = runF 2 8 (sCons (sAsg 2 (cCall .kind_at [cV 0, cV 1])) (sCons (sIf (tE (cBin oEq (cV 2) (cK (.str (Str.ofString "NAME"))))) (sCons (sRet (cCall .parse_named [cV 0, cV 1])) (sNil)) (sNil)) (sCons (sIf (tAnd [tE (cBin oEq (cV 2) (cK (.str (Str.ofString "OP")))), tE (cBin oEq (cBin oItem (cBin oItem (cV 0) (cV 1)) (cK (.int 1))) (cK (.str (Str.ofString "("))))]) (sCons (sRet (cCall .parse_bracket [cV 0, cV 1])) (sNil)) (sNil)) (sCons (sIf (tOr [tE (cBin oEq (cV 2) (cK (.str (Str.ofString "")))), tE (cBin oEq (cV 2) (cK (.str (Str.ofString "OP"))))]) (sCons (sRaise (cK (.str (Str.ofString "an operand is missing")))) (sNil)) (sNil)) (sCons (sRet (cTup [cCall .constant_of [cV 2, cBin oItem (cBin oItem (cV 0) (cV 1)) (cK (.int 1)), cK (.int 1)], cBin oAdd (cV 1) (cK (.int 1))])) (sNil)))))) (callF n) avs σ := rfl
theorem st_constant_of (n : Nat) (avs : List AV) (σ : Sto) : callF (n + 1) .constant_of avs σ = runF 3 3 (sCons (sIf (tE (cBin oEq (cV 0) (cK (.str (Str.ofString "INT"))))) (sCons (sRet (cTup [cK (.str (Str.ofString "int")), cBin oMul (cV 2) (cV 1)])) (sNil)) (sNil)) (sCons (sIf (tE (cBin oEq (cV 0) (cK (.str (Str.ofString "REAL"))))) (sCons (sRet (cTup [cK (.str (Str.ofString "real")), cBin oMul (cV 2) (cBin oItem (cV 1) (cK (.int 0))), cBin oItem (cV 1) (cK (.int 1))])) (sNil)) (sNil)) (sCons (sIf (tE (cBin oEq (cV 0) (cK (.str (Str.ofString "DBLE"))))) (sCons (sRet (cTup [cK (.str (Str.ofString "dble")), cBin oMul (cV 2) (cBin oItem (cV 1) (cK (.int 0))), cBin oItem (cV 1) (cK (.int 1))])) (sNil)) (sNil)) (sCons (sIf (tE (cBin oEq (cV 0) (cK (.str (Str.ofString "LOG"))))) (sCons (sRet (cTup [cK (.str (Str.ofString "log")), cV 1])) (sNil)) (sNil)) (sCons (sRet (cTup [cK (.str (Str.ofString "char")), cV 1])) (sNil)))))) (callF n) avs σ := rfl
theorem st_parse_bracket (n : Nat) (avs : List AV) (σ : Sto) : callF (n + 1) .parse_bracket avs σ = runF 2 11 (sCons (sIf (tE (cCall .is_complex [cV 0, cV 1])) (sCons (sUnp 2 3 (cCall .complex_part [cV 0, cBin oAdd (cV 1) (cK (.int 1))])) (sCons (sUnp 4 5 (cCall .complex_part [cV 0, cBin oAdd (cV 3) (cK (.int 1))])) (sCons (sRet (cTup [cTup [cK (.str (Str.ofString "cplx")), cV 2, cV 4], cCall .need_op [cV 0, cV 5, cK (.str (Str.ofString ")"))]])) (sNil)))) (sNil)) (sCons (sUnp 6 1 (cCall .parse_expr [cV 0, cBin oAdd (cV 1) (cK (.int 1))])) (sCons (sRet (cTup [cV 6, cCall .need_op [cV 0, cV 1, cK (.str (Str.ofString ")"))]])) (sNil)))) (callF n) avs σ := rfl
theorem st_part_end (n : Nat) (avs : List AV) (σ : Sto) : callF (n + 1) .part_end avs σ = runF 2 4 (sCons (sIf (tOr [tE (cCall .is_op [cV 0, cV 1, cK (.str (Str.ofString "+"))]), tE (cCall .is_op [cV 0, cV 1, cK (.str (Str.ofString "-"))])]) (sCons (sAug 1 oAdd (cK (.int 1))) (sNil)) (sNil)) (sCons (sIf (tOr [tE (cBin oEq (cCall .kind_at [cV 0, cV 1]) (cK (.str (Str.ofString "INT")))), tE (cBin oEq (cCall .kind_at [cV 0, cV 1]) (cK (.str (Str.ofString "REAL"))))]) (sCons (sRet (cBin oAdd (cV 1) (cK (.int 1)))) (sNil)) (sNil)) (sCons (sRet (cNeg 1)) (sNil)))) (callF n) avs σ := rfl
theorem st_is_complex (n : Nat) (avs : List AV) (σ : Sto) : callF (n + 1) .is_complex avs σ = runF 2 6 (sCons (sAsg 2 (cCall .part_end [cV 0, cBin oAdd (cV 1) (cK (.int 1))])) (sCons (sIf (tOr [tE (cBin oLt (cV 2) (cK (.int 0))), tNot (tE (cCall .is_op [cV 0, cV 2, cK (.str (Str.ofString ","))]))]) (sCons (sRet (cK (.bool false))) (sNil)) (sNil)) (sCons (sAsg 3 (cCall .part_end [cV 0, cBin oAdd (cV 2) (cK (.int 1))])) (sCons (sRet (cAnd (cBin oGe (cV 3) (cK (.int 0))) [cCall .is_op [cV 0, cV 3, cK (.str (Str.ofString ")"))]])) (sNil))))) (callF n) avs σ := rfl
theorem st_complex_part (n : Nat) (avs : List AV) (σ : Sto) : callF (n + 1) .complex_part avs σ = runF 2 6 (sCons (sAsg 2 (cK (.int 1))) (sCons (sIf (tE (cCall .is_op [cV 0, cV 1, cK (.str (Str.ofString "-"))])) (sCons (sAsg 2 (cNeg 1)) (sNil)) (sNil)) (sCons (sIf (tE (cBin oEq (cCall .kind_at [cV 0, cV 1]) (cK (.str (Str.ofString "OP"))))) (sCons (sAug 1 oAdd (cK (.int 1))) (sNil)) (sNil)) (sCons (sRet (cTup [cCall .constant_of [cBin oItem (cBin oItem (cV 0) (cV 1)) (cK (.int 0)), cBin oItem (cBin oItem (cV 0) (cV 1)) (cK (.int 1)), cV 2], cBin oAdd (cV 1) (cK (.int 1))])) (sNil))))) (callF n) avs σ := rfl
theorem st_parse_named (n : Nat) (avs : List AV) (σ : Sto) : callF (n + 1) .parse_named avs σ = runF 2 10 (sCons (sUnp 2 1 (cCall .need_name [cV 0, cV 1])) (sCons (sAsg 3 (cTup [cK (.str (Str.ofString "name")), cV 2])) (sCons (sIf (tNot (tE (cCall .is_op [cV 0, cV 1, cK (.str (Str.ofString "("))]))) (sCons (sRet (cTup [cV 3, cV 1])) (sNil)) (sNil)) (sCons (sIf (tNot (tE (cCall .is_cut [cV 0, cV 1]))) (sCons (sUnp 4 1 (cCall .parse_arguments [cV 0, cV 1, cK (.bool false)])) (sCons (sAsg 3 (cTup [cK (.str (Str.ofString "ref")), cV 2, cV 4])) (sNil))) (sNil)) (sCons (sIf (tE (cCall .is_op [cV 0, cV 1, cK (.str (Str.ofString "("))])) (sCons (sRet (cCall .parse_cut [cV 0, cV 1, cV 3])) (sNil)) (sNil)) (sCons (sRet (cTup [cV 3, cV 1])) (sNil))))))) (callF n) avs σ := rfl
theorem st_is_cut (n : Nat) (avs : List AV) (σ : Sto) : callF (n + 1) .is_cut avs σ = runF 2 8 (sCons (sAsg 2 (cCall .close_at [cV 0, cV 1])) (sCons (sAsg 3 (cK (.int 0))) (sCons (sForR 4 (cBin oAdd (cV 1) (cK (.int 1))) (cV 2) (sCons (sIf (tE (cCall .is_op [cV 0, cV 4, cK (.str (Str.ofString "("))])) (sCons (sAug 3 oAdd (cK (.int 1))) (sNil)) (sCons (sIf (tE (cCall .is_op [cV 0, cV 4, cK (.str (Str.ofString ")"))])) (sCons (sAug 3 oSub (cK (.int 1))) (sNil)) (sCons (sIf (tAnd [tE (cBin oEq (cV 3) (cK (.int 0))), tE (cCall .is_op [cV 0, cV 4, cK (.str (Str.ofString ":"))])]) (sCons (sRet (cK (.bool true))) (sNil)) (sNil)) (sNil))) (sNil))) (sNil))) (sCons (sRet (cK (.bool false))) (sNil))))) (callF n) avs σ := rfl
theorem st_parse_cut (n : Nat) (avs : List AV) (σ : Sto) : callF (n + 1) .parse_cut avs σ = runF 3 8 (sCons (sAsg 1 (cCall .need_op [cV 0, cV 1, cK (.str (Str.ofString "("))])) (sCons (sAsg 3 (cK .none)) (sCons (sAsg 4 (cK .none)) (sCons (sIf (tNot (tE (cCall .is_op [cV 0, cV 1, cK (.str (Str.ofString ":"))]))) (sCons (sUnp 3 1 (cCall .parse_expr [cV 0, cV 1])) (sNil)) (sNil)) (sCons (sAsg 1 (cCall .need_op [cV 0, cV 1, cK (.str (Str.ofString ":"))])) (sCons (sIf (tNot (tE (cCall .is_op [cV 0, cV 1, cK (.str (Str.ofString ")"))]))) (sCons (sUnp 4 1 (cCall .parse_expr [cV 0, cV 1])) (sNil)) (sNil)) (sCons (sRet (cTup [cTup [cK (.str (Str.ofString "sub")), cV 2, cV 3, cV 4], cCall .need_op [cV 0, cV 1, cK (.str (Str.ofString ")"))]])) (sNil)))))))) (callF n) avs σ := rfl
theorem st_parse_arguments (n : Nat) (avs : List AV) (σ : Sto) : callF (n + 1) .parse_arguments avs σ = runF 3 10 (sCons (sAsg 1 (cCall .need_op [cV 0, cV 1, cK (.str (Str.ofString "("))])) (sCons (sNew 3) (sCons (sIf (tE (cCall .is_op [cV 0, cV 1, cK (.str (Str.ofString ")"))])) (sCons (sRet (cTup [cV 3, cBin oAdd (cV 1) (cK (.int 1))])) (sNil)) (sNil)) (sCons (sWhile (tE (cK (.bool true))) (sCons (sIf (tAnd [tE (cV 2), tE (cCall .is_op [cV 0, cV 1, cK (.str (Str.ofString "*"))])]) (sCons (sUnp 4 1 (cCall .need_int [cV 0, cBin oAdd (cV 1) (cK (.int 1))])) (sCons (sApp 3 (cTup [cK (.str (Str.ofString "alt")), cV 4])) (sNil))) (sCons (sUnp 5 1 (cCall .parse_expr [cV 0, cV 1])) (sCons (sApp 3 (cV 5)) (sNil)))) (sCons (sIf (tNot (tE (cCall .is_op [cV 0, cV 1, cK (.str (Str.ofString ","))]))) (sCons (sRet (cTup [cV 3, cCall .need_op [cV 0, cV 1, cK (.str (Str.ofString ")"))]])) (sNil)) (sNil)) (sCons (sAug 1 oAdd (cK (.int 1))) (sNil))))) (sNil))))) (callF n) avs σ := rfl
theorem st_whole_expr (n : Nat) (avs : List AV) (σ : Sto) : callF (n + 1) .whole_expr avs σ = runF 1 6 (sCons (sUnp 1 2 (cCall .parse_expr [cV 0, cK (.int 0)])) (sCons (sIf (tE (cBin oLt (cV 2) (cLen (cV 0)))) (sCons (sRaise (cK (.str (Str.ofString "something behind an expression")))) (sNil)) (sNil)) (sCons (sRet (cV 1)) (sNil)))) (callF n) avs σ := rfl
theorem st_law_rank (n : Nat) (avs : List AV) (σ : Sto) : callF (n + 1) .law_rank avs σ = runF 0 0 (sCons (sRet (cPri priD)) (sNil)) (callF n) avs σ := rfl
theorem st_law_ops (n : Nat) (avs : List AV) (σ : Sto) : callF (n + 1) .law_ops avs σ = runF 0 0 (sCons (sRet (cLst [cK (.str (Str.ofString "**")), cK (.str (Str.ofString "-")), cK (.str (Str.ofString "*")), cK (.str (Str.ofString ".EQ.")), cK (.str (Str.ofString "+")), cK (.str (Str.ofString "/")), cK (.str (Str.ofString "//")), cK (.str (Str.ofString ".AND.")), cK (.str (Str.ofString ".LT.")), cK (.str (Str.ofString ".OR.")), cK (.str (Str.ofString ".EQV.")), cK (.str (Str.ofString "**")), cK (.str (Str.ofString "+")), cK (.str (Str.ofString ".GE.")), cK (.str (Str.ofString ".NEQV.")), cK (.str (Str.ofString "*"))])) (sNil)) (callF n) avs σ := rfl
theorem st_law_marks (n : Nat) (avs : List AV) (σ : Sto) : callF (n + 1) .law_marks avs σ = runF 0 0 (sCons (sRet (cLst [cK (.str (Str.ofString ")")), cK (.str (Str.ofString ",")), cK (.str (Str.ofString ":")), cK (.str (Str.ofString "**")), cK (.str (Str.ofString "//")), cK (.str (Str.ofString ".EQ.")), cK (.str (Str.ofString "=")), cK (.str (Str.ofString "("))])) (sNil)) (callF n) avs σ := rfl
theorem st_law_names (n : Nat) (avs : List AV) (σ : Sto) : callF (n + 1) .law_names avs σ = runF 0 0 (sCons (sRet (cLst [cK (.str (Str.ofString "A")), cK (.str (Str.ofString "B1")), cK (.str (Str.ofString "ZEBRA"))])) (sNil)) (callF n) avs σ := rfl
theorem st_law_operand (n : Nat) (avs : List AV) (σ : Sto) : callF (n + 1) .law_operand avs σ = runF 3 7 (sCons (sAsg 3 (cBin oMod (cV 0) (cK (.int 16)))) (sCons (sAsg 4 (cBin oDiv (cV 0) (cK (.int 16)))) (sCons (sIf (tOr [tE (cBin oLt (cV 3) (cK (.int 3))), tE (cBin oEq (cV 3) (cK (.int 12))), tE (cBin oEq (cV 3) (cK (.int 13)))]) (sCons (sApp 1 (cTup [cK (.str (Str.ofString "NAME")), cBin oItem (cCall .law_names []) (cBin oMod (cV 4) (cK (.int 3)))])) (sCons (sIf (tE (cBin oGt (cV 3) (cK (.int 3)))) (sCons (sApp 1 (cTup [cK (.str (Str.ofString "OP")), cK (.str (Str.ofString "("))])) (sCons (sApp 2 (cK (.int 1))) (sCons (sIf (tE (cBin oEq (cBin oMod (cV 4) (cK (.int 5))) (cK (.int 4)))) (sCons (sApp 1 (cTup [cK (.str (Str.ofString "OP")), cK (.str (Str.ofString ":"))])) (sNil)) (sNil)) (sNil)))) (sNil)) (sCons (sRet (cBin oGt (cV 3) (cK (.int 3)))) (sNil)))) (sNil)) (sCons (sIf (tE (cBin oEq (cV 3) (cK (.int 3)))) (sCons (sApp 1 (cTup [cK (.str (Str.ofString "INT")), cBin oMod (cV 4) (cK (.int 100))])) (sNil)) (sCons (sIf (tE (cBin oEq (cV 3) (cK (.int 4)))) (sCons (sApp 1 (cTup [cK (.str (Str.ofString "REAL")), cTup [cBin oMod (cV 4) (cK (.int 90)), cBin oSub (cBin oMod (cV 4) (cK (.int 5))) (cK (.int 2))]])) (sNil)) (sCons (sIf (tE (cBin oEq (cV 3) (cK (.int 5)))) (sCons (sApp 1 (cTup [cK (.str (Str.ofString "DBLE")), cTup [cBin oMod (cV 4) (cK (.int 90)), cBin oSub (cBin oMod (cV 4) (cK (.int 7))) (cK (.int 3))]])) (sNil)) (sCons (sIf (tE (cBin oEq (cV 3) (cK (.int 6)))) (sCons (sApp 1 (cTup [cK (.str (Str.ofString "LOG")), cBin oEq (cBin oMod (cV 4) (cK (.int 2))) (cK (.int 1))])) (sNil)) (sCons (sIf (tE (cBin oEq (cV 3) (cK (.int 7)))) (sCons (sApp 1 (cTup [cK (.str (Str.ofString "CHAR")), cBin oItem (cLst [cK (.str (Str.ofString "X")), cK (.str (Str.ofString "IT''S")), cK (.str (Str.ofString "="))]) (cBin oMod (cV 4) (cK (.int 3)))])) (sNil)) (sCons (sIf (tE (cBin oLt (cV 3) (cK (.int 10)))) (sCons (sApp 1 (cTup [cK (.str (Str.ofString "OP")), cK (.str (Str.ofString "("))])) (sCons (sApp 2 (cK (.int 1))) (sCons (sRet (cK (.bool true))) (sNil)))) (sCons (sIf (tE (cBin oLt (cV 3) (cK (.int 12)))) (sCons (sApp 1 (cTup [cK (.str (Str.ofString "OP")), cBin oItem (cLst [cK (.str (Str.ofString "-")), cK (.str (Str.ofString "+")), cK (.str (Str.ofString ".NOT."))]) (cIf (tE (cBin oEq (cV 3) (cK (.int 11)))) (cBin oMul (cBin oSub (cV 3) (cK (.int 10))) (cK (.int 2))) (cBin oMod (cV 4) (cK (.int 2))))])) (sCons (sRet (cK (.bool true))) (sNil))) (sCons (sIf (tE (cBin oEq (cV 3) (cK (.int 14)))) (sCons (sApp 1 (cTup [cK (.str (Str.ofString "OP")), cK (.str (Str.ofString "("))])) (sCons (sIf (tE (cBin oEq (cBin oMod (cV 4) (cK (.int 3))) (cK (.int 1)))) (sCons (sApp 1 (cTup [cK (.str (Str.ofString "OP")), cK (.str (Str.ofString "-"))])) (sNil)) (sNil)) (sCons (sApp 1 (cTup [cK (.str (Str.ofString "INT")), cBin oMod (cV 4) (cK (.int 7))])) (sCons (sApp 1 (cTup [cK (.str (Str.ofString "OP")), cK (.str (Str.ofString ","))])) (sCons (sApp 1 (cTup [cK (.str (Str.ofString "REAL")), cTup [cBin oMod (cV 4) (cK (.int 4)), cNeg 1]])) (sCons (sApp 1 (cTup [cK (.str (Str.ofString "OP")), cK (.str (Str.ofString ")"))])) (sNil))))))) (sCons (sApp 1 (cTup [cK (.str (Str.ofString "OP")), cBin oItem (cCall .law_marks []) (cBin oMod (cV 4) (cK (.int 8)))])) (sCons (sRet (cK (.bool true))) (sNil)))) (sNil))) (sNil))) (sNil))) (sNil))) (sNil))) (sNil))) (sNil))) (sCons (sRet (cK (.bool false))) (sNil)))))) (callF n) avs σ := rfl
theorem st_law_behind (n : Nat) (avs : List AV) (σ : Sto) : callF (n + 1) .law_behind avs σ = runF 3 6 (sCons (sAsg 3 (cBin oMod (cV 0) (cK (.int 12)))) (sCons (sAsg 4 (cBin oDiv (cV 0) (cK (.int 12)))) (sCons (sIf (tAnd [tE (cBin oGt (cV 3) (cK (.int 6))), tE (cBin oLt (cV 3) (cK (.int 9))), tE (cBin oNe (cV 2) (cLst []))]) (sCons (sApp 1 (cTup [cK (.str (Str.ofString "OP")), cK (.str (Str.ofString ")"))])) (sCons (sPop 2) (sCons (sIf (tE (cBin oEq (cBin oMod (cV 4) (cK (.int 4))) (cK (.int 3)))) (sCons (sApp 1 (cTup [cK (.str (Str.ofString "OP")), cK (.str (Str.ofString "("))])) (sCons (sApp 2 (cK (.int 1))) (sCons (sRet (cK (.bool true))) (sNil)))) (sNil)) (sCons (sRet (cK (.bool false))) (sNil))))) (sNil)) (sCons (sIf (tAnd [tE (cBin oGt (cV 3) (cK (.int 8))), tE (cBin oLt (cV 3) (cK (.int 11))), tE (cBin oNe (cV 2) (cLst []))]) (sCons (sApp 1 (cTup [cK (.str (Str.ofString "OP")), cBin oItem (cLst [cK (.str (Str.ofString ",")), cK (.str (Str.ofString ":"))]) (cBin oSub (cV 3) (cK (.int 9)))])) (sCons (sRet (cBin oNe (cBin oMod (cV 4) (cK (.int 3))) (cK (.int 2)))) (sNil))) (sNil)) (sCons (sIf (tAnd [tE (cBin oEq (cV 3) (cK (.int 11))), tE (cBin oEq (cBin oMod (cV 4) (cK (.int 2))) (cK (.int 1)))]) (sCons (sApp 1 (cTup [cK (.str (Str.ofString "NAME")), cK (.str (Str.ofString "B1"))])) (sCons (sRet (cK (.bool false))) (sNil))) (sNil)) (sCons (sApp 1 (cTup [cK (.str (Str.ofString "OP")), cBin oItem (cCall .law_ops []) (cBin oMod (cV 4) (cK (.int 16)))])) (sCons (sRet (cK (.bool true))) (sNil)))))))) (callF n) avs σ := rfl
theorem st_law_row (n : Nat) (avs : List AV) (σ : Sto) : callF (n + 1) .law_row avs σ = runF 1 8 (sCons (sNew 1) (sCons (sNew 2) (sCons (sAsg 3 (cK (.bool true))) (sCons (sForL (tgt1 4) (cV 0) (sCons (sIf (tE (cV 3)) (sCons (sAsg 3 (cCall .law_operand [cV 4, cV 1, cV 2])) (sNil)) (sCons (sAsg 3 (cCall .law_behind [cV 4, cV 1, cV 2])) (sNil))) (sNil))) (sCons (sIf (tE (cV 3)) (sCons (sApp 1 (cTup [cK (.str (Str.ofString "NAME")), cK (.str (Str.ofString "A"))])) (sNil)) (sNil)) (sCons (sForL (tgt1 5) (cV 2) (sCons (sApp 1 (cTup [cK (.str (Str.ofString "OP")), cK (.str (Str.ofString ")"))])) (sNil))) (sCons (sRet (cV 1)) (sNil)))))))) (callF n) avs σ := rfl
theorem st_law_mark (n : Nat) (avs : List AV) (σ : Sto) : callF (n + 1) .law_mark avs σ = runF 2 2 (sCons (sIf (tE (cBin oEq (cBin oItem (cBin oItem (cV 0) (cV 1)) (cK (.int 0))) (cK (.str (Str.ofString "OP"))))) (sCons (sRet (cBin oItem (cBin oItem (cV 0) (cV 1)) (cK (.int 1)))) (sNil)) (sNil)) (sCons (sRet (cK (.str (Str.ofString "")))) (sNil))) (callF n) avs σ := rfl
theorem st_law_is_even (n : Nat) (avs : List AV) (σ : Sto) : callF (n + 1) .law_is_even avs σ = runF 1 6 (sCons (sAsg 1 (cK (.int 0))) (sCons (sForR1 2 (cLen (cV 0)) (sCons (sIf (tE (cBin oEq (cCall .law_mark [cV 0, cV 2]) (cK (.str (Str.ofString "("))))) (sCons (sAug 1 oAdd (cK (.int 1))) (sNil)) (sNil)) (sCons (sIf (tE (cBin oEq (cCall .law_mark [cV 0, cV 2]) (cK (.str (Str.ofString ")"))))) (sCons (sAug 1 oSub (cK (.int 1))) (sNil)) (sNil)) (sCons (sIf (tE (cBin oLt (cV 1) (cK (.int 0)))) (sCons (sRet (cK (.bool false))) (sNil)) (sNil)) (sNil))))) (sCons (sRet (cBin oEq (cV 1) (cK (.int 0)))) (sNil)))) (callF n) avs σ := rfl
theorem st_law_close (n : Nat) (avs : List AV) (σ : Sto) : callF (n + 1) .law_close avs σ = runF 2 4 (sCons (sAsg 2 (cK (.int 0))) (sCons (sWhile (tE (cK (.bool true))) (sCons (sIf (tE (cBin oEq (cCall .law_mark [cV 0, cV 1]) (cK (.str (Str.ofString "("))))) (sCons (sAug 2 oAdd (cK (.int 1))) (sNil)) (sNil)) (sCons (sIf (tE (cBin oEq (cCall .law_mark [cV 0, cV 1]) (cK (.str (Str.ofString ")"))))) (sCons (sAug 2 oSub (cK (.int 1))) (sNil)) (sNil)) (sCons (sIf (tE (cBin oEq (cV 2) (cK (.int 0)))) (sCons (sRet (cV 1)) (sNil)) (sNil)) (sCons (sAug 1 oAdd (cK (.int 1))) (sNil)))))) (sNil))) (callF n) avs σ := rfl
theorem st_law_parted (n : Nat) (avs : List AV) (σ : Sto) : callF (n + 1) .law_parted avs σ = runF 4 11 (sCons (sNew 4) (sCons (sAsg 5 (cV 1)) (sCons (sAsg 6 (cK (.int 0))) (sCons (sForR 7 (cV 1) (cV 2) (sCons (sAsg 8 (cCall .law_mark [cV 0, cV 7])) (sCons (sIf (tE (cBin oEq (cV 8) (cK (.str (Str.ofString "("))))) (sCons (sAug 6 oAdd (cK (.int 1))) (sNil)) (sNil)) (sCons (sIf (tE (cBin oEq (cV 8) (cK (.str (Str.ofString ")"))))) (sCons (sAug 6 oSub (cK (.int 1))) (sNil)) (sNil)) (sCons (sIf (tAnd [tE (cBin oEq (cV 8) (cV 3)), tE (cBin oEq (cV 6) (cK (.int 0)))]) (sCons (sApp 4 (cTup [cV 5, cV 7])) (sCons (sAsg 5 (cBin oAdd (cV 7) (cK (.int 1)))) (sNil))) (sNil)) (sNil)))))) (sCons (sRet (cBin oLApp (cV 4) (cLst [cTup [cV 5, cV 2]]))) (sNil)))))) (callF n) avs σ := rfl
theorem st_law_part (n : Nat) (avs : List AV) (σ : Sto) : callF (n + 1) .law_part avs σ = runF 3 5 (sCons (sAsg 3 (cK (.int 1))) (sCons (sIf (tAnd [tE (cBin oEq (cBin oSub (cV 2) (cV 1)) (cK (.int 2))), tE (cBin oInT (cCall .law_mark [cV 0, cV 1]) (cTup [cK (.str (Str.ofString "+")), cK (.str (Str.ofString "-"))]))]) (sCons (sAsg 3 (cIf (tE (cBin oEq (cCall .law_mark [cV 0, cV 1]) (cK (.str (Str.ofString "-"))))) (cNeg 1) (cK (.int 1)))) (sCons (sAug 1 oAdd (cK (.int 1))) (sNil))) (sNil)) (sCons (sIf (tOr [tE (cBin oNe (cBin oSub (cV 2) (cV 1)) (cK (.int 1))), tE (cBin oNotInT (cBin oItem (cBin oItem (cV 0) (cV 1)) (cK (.int 0))) (cTup [cK (.str (Str.ofString "INT")), cK (.str (Str.ofString "REAL"))]))]) (sCons (sRet (cK .none)) (sNil)) (sNil)) (sCons (sIf (tE (cBin oEq (cBin oItem (cBin oItem (cV 0) (cV 1)) (cK (.int 0))) (cK (.str (Str.ofString "INT"))))) (sCons (sRet (cTup [cK (.str (Str.ofString "int")), cBin oMul (cV 3) (cBin oItem (cBin oItem (cV 0) (cV 1)) (cK (.int 1)))])) (sNil)) (sNil)) (sCons (sRet (cTup [cK (.str (Str.ofString "real")), cBin oMul (cV 3) (cBin oItem (cBin oItem (cBin oItem (cV 0) (cV 1)) (cK (.int 1))) (cK (.int 0))), cBin oItem (cBin oItem (cBin oItem (cV 0) (cV 1)) (cK (.int 1))) (cK (.int 1))])) (sNil)))))) (callF n) avs σ := rfl
theorem st_law_cut (n : Nat) (avs : List AV) (σ : Sto) : callF (n + 1) .law_cut avs σ = runF 4 12 (sCons (sAsg 4 (cCall .law_parted [cV 0, cV 1, cV 2, cK (.str (Str.ofString ":"))])) (sCons (sIf (tE (cBin oNe (cLen (cV 4)) (cK (.int 2)))) (sCons (sRet (cK .none)) (sNil)) (sNil)) (sCons (sNew 5) (sCons (sForL (tgt2 6 7) (cV 4) (sCons (sAsg 8 (cIf (tE (cBin oLt (cV 6) (cV 7))) (cCall .law_read [cV 0, cV 6, cV 7, cK (.int 1)]) (cK .none))) (sCons (sIf (tAnd [tE (cBin oLt (cV 6) (cV 7)), tE (cBin oIsNone (cV 8) (cK .none))]) (sCons (sRet (cK .none)) (sNil)) (sNil)) (sCons (sApp 5 (cV 8)) (sNil))))) (sCons (sRet (cTup [cK (.str (Str.ofString "sub")), cV 3, cBin oItem (cV 5) (cK (.int 0)), cBin oItem (cV 5) (cK (.int 1))])) (sNil)))))) (callF n) avs σ := rfl
theorem st_law_named (n : Nat) (avs : List AV) (σ : Sto) : callF (n + 1) .law_named avs σ = runF 3 15 (sCons (sAsg 3 (cTup [cK (.str (Str.ofString "name")), cBin oItem (cBin oItem (cV 0) (cV 1)) (cK (.int 1))])) (sCons (sIf (tE (cBin oEq (cBin oSub (cV 2) (cV 1)) (cK (.int 1)))) (sCons (sRet (cV 3)) (sNil)) (sNil)) (sCons (sIf (tE (cBin oNe (cCall .law_mark [cV 0, cBin oAdd (cV 1) (cK (.int 1))]) (cK (.str (Str.ofString "("))))) (sCons (sRet (cK .none)) (sNil)) (sNil)) (sCons (sAsg 4 (cCall .law_close [cV 0, cBin oAdd (cV 1) (cK (.int 1))])) (sCons (sIf (tE (cBin oGt (cLen (cCall .law_parted [cV 0, cBin oAdd (cV 1) (cK (.int 2)), cV 4, cK (.str (Str.ofString ":"))])) (cK (.int 1)))) (sCons (sRet (cIf (tE (cBin oEq (cV 4) (cBin oSub (cV 2) (cK (.int 1))))) (cCall .law_cut [cV 0, cBin oAdd (cV 1) (cK (.int 2)), cV 4, cV 3]) (cK .none))) (sNil)) (sNil)) (sCons (sNew 5) (sCons (sIf (tE (cBin oGt (cV 4) (cBin oAdd (cV 1) (cK (.int 2))))) (sCons (sForL (tgt2 6 7) (cCall .law_parted [cV 0, cBin oAdd (cV 1) (cK (.int 2)), cV 4, cK (.str (Str.ofString ","))]) (sCons (sAsg 8 (cCall .law_read [cV 0, cV 6, cV 7, cK (.int 1)])) (sCons (sIf (tE (cBin oIsNone (cV 8) (cK .none))) (sCons (sRet (cK .none)) (sNil)) (sNil)) (sCons (sApp 5 (cV 8)) (sNil))))) (sNil)) (sNil)) (sCons (sAsg 3 (cTup [cK (.str (Str.ofString "ref")), cBin oItem (cBin oItem (cV 0) (cV 1)) (cK (.int 1)), cV 5])) (sCons (sIf (tE (cBin oEq (cV 4) (cBin oSub (cV 2) (cK (.int 1))))) (sCons (sRet (cV 3)) (sNil)) (sNil)) (sCons (sIf (tOr [tE (cBin oNe (cCall .law_mark [cV 0, cBin oAdd (cV 4) (cK (.int 1))]) (cK (.str (Str.ofString "(")))), tE (cBin oNe (cCall .law_close [cV 0, cBin oAdd (cV 4) (cK (.int 1))]) (cBin oSub (cV 2) (cK (.int 1))))]) (sCons (sRet (cK .none)) (sNil)) (sNil)) (sCons (sRet (cCall .law_cut [cV 0, cBin oAdd (cV 4) (cK (.int 2)), cBin oSub (cV 2) (cK (.int 1)), cV 3])) (sNil)))))))))))) (callF n) avs σ := rfl
theorem st_law_primary (n : Nat) (avs : List AV) (σ : Sto) : callF (n + 1) .law_primary avs σ = runF 3 15 (sCons (sUnp 3 4 (cBin oItem (cV 0) (cV 1))) (sCons (sIf (tE (cBin oEq (cV 3) (cK (.str (Str.ofString "NAME"))))) (sCons (sRet (cCall .law_named [cV 0, cV 1, cV 2])) (sNil)) (sNil)) (sCons (sIf (tE (cBin oEq (cCall .law_mark [cV 0, cV 1]) (cK (.str (Str.ofString "("))))) (sCons (sIf (tE (cBin oNe (cCall .law_close [cV 0, cV 1]) (cBin oSub (cV 2) (cK (.int 1))))) (sCons (sRet (cK .none)) (sNil)) (sNil)) (sCons (sAsg 5 (cCall .law_parted [cV 0, cBin oAdd (cV 1) (cK (.int 1)), cBin oSub (cV 2) (cK (.int 1)), cK (.str (Str.ofString ","))])) (sCons (sIf (tE (cBin oEq (cLen (cV 5)) (cK (.int 1)))) (sCons (sRet (cCall .law_read [cV 0, cBin oAdd (cV 1) (cK (.int 1)), cBin oSub (cV 2) (cK (.int 1)), cK (.int 1)])) (sNil)) (sNil)) (sCons (sIf (tE (cBin oGt (cLen (cV 5)) (cK (.int 2)))) (sCons (sRet (cK .none)) (sNil)) (sNil)) (sCons (sAsg 6 (cCall .law_part [cV 0, cBin oItem (cBin oItem (cV 5) (cK (.int 0))) (cK (.int 0)), cBin oItem (cBin oItem (cV 5) (cK (.int 0))) (cK (.int 1))])) (sCons (sAsg 7 (cCall .law_part [cV 0, cBin oItem (cBin oItem (cV 5) (cK (.int 1))) (cK (.int 0)), cBin oItem (cBin oItem (cV 5) (cK (.int 1))) (cK (.int 1))])) (sCons (sRet (cIf (tOr [tE (cBin oIsNone (cV 6) (cK .none)), tE (cBin oIsNone (cV 7) (cK .none))]) (cK .none) (cTup [cK (.str (Str.ofString "cplx")), cV 6, cV 7]))) (sNil)))))))) (sNil)) (sCons (sIf (tOr [tE (cBin oEq (cV 3) (cK (.str (Str.ofString "OP")))), tE (cBin oNe (cBin oSub (cV 2) (cV 1)) (cK (.int 1)))]) (sCons (sRet (cK .none)) (sNil)) (sNil)) (sCons (sIf (tOr [tE (cBin oEq (cV 3) (cK (.str (Str.ofString "REAL")))), tE (cBin oEq (cV 3) (cK (.str (Str.ofString "DBLE"))))]) (sCons (sRet (cTup [cLower (cV 3), cBin oItem (cV 4) (cK (.int 0)), cBin oItem (cV 4) (cK (.int 1))])) (sNil)) (sNil)) (sCons (sRet (cTup [cLower (cV 3), cV 4])) (sNil))))))) (callF n) avs σ := rfl
theorem st_law_read (n : Nat) (avs : List AV) (σ : Sto) : callF (n + 1) .law_read avs σ = runF 4 18 (sCons (sIf (tE (cBin oGe (cV 1) (cV 2))) (sCons (sRet (cK .none)) (sNil)) (sNil)) (sCons (sAsg 4 (cK (.int 99))) (sCons (sAsg 5 (cNeg 1)) (sCons (sAsg 6 (cK (.int 0))) (sCons (sForR 7 (cV 1) (cV 2) (sCons (sAsg 8 (cCall .law_mark [cV 0, cV 7])) (sCons (sIf (tE (cBin oEq (cV 8) (cK (.str (Str.ofString "("))))) (sCons (sAug 6 oAdd (cK (.int 1))) (sNil)) (sNil)) (sCons (sIf (tE (cBin oEq (cV 8) (cK (.str (Str.ofString ")"))))) (sCons (sAug 6 oSub (cK (.int 1))) (sNil)) (sNil)) (sCons (sIf (tAnd [tE (cBin oEq (cV 6) (cK (.int 0))), tE (cBin oGt (cV 7) (cV 1)), tE (cBin oIn (cV 8) (cCall .law_rank []))]) (sCons (sIf (tOr [tE (cBin oLt (cBin oItem (cCall .law_rank []) (cV 8)) (cV 4)), tAnd [tE (cBin oEq (cBin oItem (cCall .law_rank []) (cV 8)) (cV 4)), tE (cBin oLt (cV 4) (cK (.int 9)))]]) (sCons (sAsg 4 (cBin oItem (cCall .law_rank []) (cV 8))) (sCons (sAsg 5 (cV 7)) (sNil))) (sNil)) (sNil)) (sNil)) (sNil)))))) (sCons (sAsg 9 (cCall .law_mark [cV 0, cV 1])) (sCons (sIf (tAnd [tE (cBin oEq (cV 9) (cK (.str (Str.ofString ".NOT.")))), tE (cBin oGt (cV 4) (cK (.int 3)))]) (sCons (sAsg 10 (cIf (tE (cBin oLe (cV 3) (cK (.int 4)))) (cCall .law_read [cV 0, cBin oAdd (cV 1) (cK (.int 1)), cV 2, cK (.int 5)]) (cK .none))) (sCons (sRet (cIf (tE (cBin oIsNone (cV 10) (cK .none))) (cK .none) (cTup [cK (.str (Str.ofString "un")), cV 9, cV 10]))) (sNil))) (sNil)) (sCons (sIf (tAnd [tOr [tE (cBin oEq (cV 9) (cK (.str (Str.ofString "+")))), tE (cBin oEq (cV 9) (cK (.str (Str.ofString "-"))))], tE (cBin oGt (cV 4) (cK (.int 7)))]) (sCons (sAsg 10 (cIf (tE (cBin oLe (cV 3) (cK (.int 7)))) (cCall .law_read [cV 0, cBin oAdd (cV 1) (cK (.int 1)), cV 2, cK (.int 8)]) (cK .none))) (sCons (sRet (cIf (tE (cBin oIsNone (cV 10) (cK .none))) (cK .none) (cTup [cK (.str (Str.ofString "un")), cV 9, cV 10]))) (sNil))) (sNil)) (sCons (sIf (tE (cBin oLt (cV 5) (cK (.int 0)))) (sCons (sRet (cCall .law_primary [cV 0, cV 1, cV 2])) (sNil)) (sNil)) (sCons (sIf (tE (cBin oLt (cV 4) (cV 3))) (sCons (sRet (cK .none)) (sNil)) (sNil)) (sCons (sAsg 11 (cCall .law_read [cV 0, cV 1, cV 5, cIf (tE (cBin oEq (cV 4) (cK (.int 9)))) (cK (.int 10)) (cIf (tE (cBin oEq (cV 4) (cK (.int 5)))) (cK (.int 6)) (cV 4))])) (sCons (sAsg 12 (cCall .law_read [cV 0, cBin oAdd (cV 5) (cK (.int 1)), cV 2, cIf (tE (cBin oEq (cV 4) (cK (.int 9)))) (cK (.int 9)) (cBin oAdd (cV 4) (cK (.int 1)))])) (sCons (sIf (tOr [tE (cBin oIsNone (cV 11) (cK .none)), tE (cBin oIsNone (cV 12) (cK .none))]) (sCons (sRet (cK .none)) (sNil)) (sNil)) (sCons (sRet (cTup [cK (.str (Str.ofString "bin")), cBin oItem (cBin oItem (cV 0) (cV 5)) (cK (.int 1)), cV 11, cV 12])) (sNil))))))))))))))) (callF n) avs σ := rfl
noncomputable def pTab : List (Str × Int) := [(Str.ofString ".EQV.", 1), (Str.ofString ".NEQV.", 1), (Str.ofString ".OR.", 2), (Str.ofString ".AND.", 3), (Str.ofString ".EQ.", 5), (Str.ofString ".NE.", 5), (Str.ofString ".LT.", 5), (Str.ofString ".LE.", 5), (Str.ofString ".GT.", 5), (Str.ofString ".GE.", 5), (Str.ofString "//", 6), (Str.ofString "+", 7), (Str.ofString "-", 7), (Str.ofString "*", 8), (Str.ofString "/", 8), (Str.ofString "**", 9)]
theorem lookS_tab (x : Str) : ∀ es : List (Str × Int), lookS (es.map fun e => (PyData.str e.1, PyData.int e.2)) x = (es.lookup x).map PyData.int
  | [] => rfl
  | (y, k) :: es => by
    have ih := lookS_tab x es
    show (if Spec.same (.str y) (.str x) = true then some (PyData.int k) else lookS (es.map fun e => (PyData.str e.1, PyData.int e.2)) x) = (List.lookup x ((y, k) :: es)).map PyData.int
    rw [PyProof.V.same_str, List.lookup_cons]
    by_cases h : y = x
    · subst h
      simp
    · rw [if_neg (by simpa using h), beq_false_of_ne (Ne.symm h)]
      exact ih
theorem lookS_pri (x : Str) : lookS priD x = (pTab.lookup x).map PyData.int := lookS_tab x pTab
noncomputable def rankZ (x : Str) : Option Int := pTab.lookup x
noncomputable def prioZ (ts : List Tk) (i : Nat) : Int := match ts[i]? with | some (.op s) => (rankZ s).getD 0 | _ => 0
theorem cGet_k {o : Orc} {ρ : Rho} {σ σ' : Sto} {c : EC} {x : Str} {k : Int} (h : c o ρ σ = .ok (T x, σ')) (hk : (rankZ x).getD 0 = k) : cGet c 0 o ρ σ = .ok (.d (.int k), σ') := by
  unfold cGet
  rw [h]
  show (match lookS priD x with | some (.int j) => Res.ok (AV.d (.int j), σ') | none => Res.ok (AV.d (.int 0), σ') | _ => Res.bad) = _
  rw [lookS_pri]
  unfold rankZ at hk
  cases e : pTab.lookup x with
  | none => rw [e] at hk; subst hk; rfl
  | some j => rw [e] at hk; subst hk; rfl
theorem rngs_nil {p q : Nat} (h : q ≤ p) : rngs (p : Nat) (q : Nat) = [] := by
  unfold rngs
  rw [show ((q : Int) - (p : Int)).toNat = 0 from by lia]
  rfl
theorem rngs_cons {p q : Nat} (h : p < q) : rngs (p : Nat) (q : Nat) = .int (p : Nat) :: rngs ((p + 1 : Nat) : Int) (q : Nat) := by
  unfold rngs
  rw [show ((q : Int) - (p : Int)).toNat = ((q : Int) - ((p + 1 : Nat) : Int)).toNat + 1 from by lia, List.range_succ_eq_map, List.map_cons, List.map_map]
  have e1 : PyData.int ((p : Int) + ((0 : Nat) : Int)) = .int (p : Int) := congrArg PyData.int (by lia)
  have e2 : ∀ k : Nat, PyData.int ((p : Int) + ((k + 1 : Nat) : Int)) = PyData.int (((p + 1 : Nat) : Int) + (k : Int)) := fun k => congrArg PyData.int (by lia)
  rw [e1]
  exact congrArg _ (List.map_congr_left fun k _ => e2 k)
section
variable {ds : List PyData} {ts : List Tk} {σ : Sto} {n : Nat} {i : Nat} {x : Str}
theorem ev_priority_at (h : TK ds ts) : callF (n + 2) .priority_at [L ds, I i] σ = .ok (.d (.int (prioZ ts i)), σ) := by
  have hc1 := ev_kind_at (n := n) (σ := σ) (i := i) h
  unfold prioZ
  cases e : ts[i]? with
  | none =>
    have hb1 : (!(kindAt ts i == Str.ofString "OP")) = true := by unfold kindAt; rw [e]; rfl
    exact ((st_priority_at _ _ _).trans (run_ok0 rfl (sR (tI (tK (bK (fK (aC (vK rfl) (aC (vK rfl) a0C)) hc1) kK oNe_s)) hb1 (sR (sRet_k kK))))))
  | some t =>
    obtain ⟨r, hr_at⟩ := h.item e
    cases t with
    | op s =>
      have hb1 : (!(kindAt ts i == Str.ofString "OP")) = false := by unfold kindAt; rw [e]; rfl
      have hg1 : (rankZ s).getD 0 = (rankZ s).getD 0 := rfl
      exact ((st_priority_at _ _ _).trans (run_ok0 rfl (sN (nI (tK (bK (fK (aC (vK rfl) (aC (vK rfl) a0C)) hc1) kK oNe_s)) hb1 nK) (sR (sRet_k (cGet_k (bK (bK (vK rfl) (vK rfl) (hr_at _)) kK oItem_1) hg1))))))
    | _ =>
      have hb1 : (!(kindAt ts i == Str.ofString "OP")) = true := by unfold kindAt; rw [e]; rfl
      exact ((st_priority_at _ _ _).trans (run_ok0 rfl (sR (tI (tK (bK (fK (aC (vK rfl) (aC (vK rfl) a0C)) hc1) kK oNe_s)) hb1 (sR (sRet_k kK))))))
noncomputable def closeN (ts : List Tk) : Nat → Nat → Int → Option Nat
  | 0, _, _ => none
  | m + 1, k, d => if isOp ts k (Str.ofString "(") = true then closeN ts m (k + 1) (d + 1)
    else if isOp ts k (Str.ofString ")") = true then (if d - 1 = 0 then some k else closeN ts m (k + 1) (d - 1))
    else closeN ts m (k + 1) d
noncomputable def closeRes (ρ : Rho) (σ : Sto) : Option Nat → Res (Fl × Rho × Sto)
  | some k => .ok (.ret (I k), ρ, σ)
  | none => .ok (.next, ρ, σ)
noncomputable def loop_close_at : SC := sCons (sIf (tE (cCall .is_op [cV 0, cV 3, cK (.str (Str.ofString "("))])) (sCons (sAug 2 oAdd (cK (.int 1))) (sNil)) (sCons (sIf (tE (cCall .is_op [cV 0, cV 3, cK (.str (Str.ofString ")"))])) (sCons (sAug 2 oSub (cK (.int 1))) (sCons (sIf (tE (cBin oEq (cV 2) (cK (.int 0)))) (sCons (sRet (cV 3)) (sNil)) (sNil)) (sNil))) (sNil)) (sNil))) (sNil)
theorem close_loop (h : TK ds ts) {b : SC} (hbody : b = loop_close_at) : ∀ (m k : Nat) (d : Int) (y : Option AV) (rs : Rho), k + m = ds.length →
    ∃ ρ', forL (tgt1 3) b (rngs (k : Nat) (ds.length : Nat)) (callF (n + 1)) (some (L ds) :: some (I i) :: some (.d (.int d)) :: y :: rs) σ = closeRes ρ' σ (closeN ts m k d)
  | 0, k, d, y, rs, hk => by
    rw [rngs_nil (by lia)]
    exact ⟨_, rfl⟩
  | m + 1, k, d, y, rs, hk => by
    rw [rngs_cons (by lia)]
    subst hbody
    unfold closeN
    have hc1 := ev_is_op (n := n) (σ := σ) (i := k) (x := Str.ofString "(") h
    have hc2 := ev_is_op (n := n) (σ := σ) (i := k) (x := Str.ofString ")") h
    cases hb1 : isOp ts k (Str.ofString "(") with
    | true =>
      obtain ⟨ρ', e⟩ := close_loop h rfl m (k + 1) (d + 1) (some (I k)) rs (by lia)
      exact ⟨ρ', for_n rfl (sN (tI (tK (fK (aC (vK rfl) (aC (vK rfl) (aC kK a0C))) hc1)) hb1 (sN (sAug_k (bK (vK rfl) kK oAdd_k)) nK)) nK) e⟩
    | false =>
      cases hb2 : isOp ts k (Str.ofString ")") with
      | true =>
        by_cases hd : d - 1 = 0
        · have hb3 : (d - 1 == 0) = true := beq_iff_eq.mpr hd
          rw [if_neg (by simp), if_pos rfl, if_pos hd]
          exact ⟨_, (for_r rfl (sR (nI (tK (fK (aC (vK rfl) (aC (vK rfl) (aC kK a0C))) hc1)) hb1 (sR (tI (tK (fK (aC (vK rfl) (aC (vK rfl) (aC kK a0C))) hc2)) hb2 (sN (sAug_k (bK (vK rfl) kK oSub_k)) (sR (tI (tK (bK (vK rfl) kK oEq_i)) hb3 (sR (sRet_k (vK rfl))))))))))).trans rfl⟩
        · have hb3 : (d - 1 == 0) = false := beq_false_of_ne hd
          obtain ⟨ρ', e⟩ := close_loop h rfl m (k + 1) (d - 1) (some (I k)) rs (by lia)
          refine ⟨ρ', ?_⟩
          rw [if_neg (by simp), if_pos rfl, if_neg hd]
          exact for_n rfl (sN (nI (tK (fK (aC (vK rfl) (aC (vK rfl) (aC kK a0C))) hc1)) hb1 (sN (tI (tK (fK (aC (vK rfl) (aC (vK rfl) (aC kK a0C))) hc2)) hb2 (sN (sAug_k (bK (vK rfl) kK oSub_k)) (sN (nI (tK (bK (vK rfl) kK oEq_i)) hb3 nK) nK))) nK)) nK) e
      | false =>
        obtain ⟨ρ', e⟩ := close_loop h rfl m (k + 1) d (some (I k)) rs (by lia)
        exact ⟨ρ', for_n rfl (sN (nI (tK (fK (aC (vK rfl) (aC (vK rfl) (aC kK a0C))) hc1)) hb1 (sN (nI (tK (fK (aC (vK rfl) (aC (vK rfl) (aC kK a0C))) hc2)) hb2 nK) nK)) nK) e⟩
theorem ev_close_at (h : TK ds ts) (hi : i ≤ ds.length) : callF (n + 2) .close_at [L ds, I i] σ = match closeN ts (ds.length - i) i 0 with | some k => .ok (I k, σ) | none => .exc := by
  have hz := h.small
  have hz1 : i ≤ 10000 := by lia
  have hz2 : ds.length ≤ 10000 := by lia
  obtain ⟨ρ', hw1⟩ := close_loop (n := n) (σ := σ) (i := i) h rfl (ds.length - i) i 0 none [none, none, none, none] (by lia)
  cases e : closeN ts (ds.length - i) i 0 with
  | some k =>
    rw [e] at hw1
    have hw1 : _ = Res.ok (Fl.ret (I k), ρ', σ) := hw1
    show _ = Res.ok (I k, σ)
    exact ((st_close_at _ _ _).trans (run_ok0 rfl (sN (gK kK) (sR (sForR_k (vK rfl) (cLen_k (vK rfl) rfl hz) hw1 rfl rfl hz1 hz2)))))
  | none =>
    rw [e] at hw1
    have hw1 : _ = Res.ok (Fl.next, ρ', σ) := hw1
    show _ = Res.exc
    exact ((st_close_at _ _ _).trans (run_x rfl (sN (gK kK) (sN (sForR_k (vK rfl) (cLen_k (vK rfl) rfl hz) hw1 rfl rfl hz1 hz2) (sCons_x (sRaise_k kK))))))
end
noncomputable def cutN (ts : List Tk) : Nat → Nat → Int → Bool
  | 0, _, _ => false
  | m + 1, k, d => if isOp ts k (Str.ofString "(") = true then cutN ts m (k + 1) (d + 1)
    else if isOp ts k (Str.ofString ")") = true then cutN ts m (k + 1) (d - 1)
    else if d = 0 ∧ isOp ts k (Str.ofString ":") = true then true else cutN ts m (k + 1) d
noncomputable def loop_is_cut : SC := sCons (sIf (tE (cCall .is_op [cV 0, cV 4, cK (.str (Str.ofString "("))])) (sCons (sAug 3 oAdd (cK (.int 1))) (sNil)) (sCons (sIf (tE (cCall .is_op [cV 0, cV 4, cK (.str (Str.ofString ")"))])) (sCons (sAug 3 oSub (cK (.int 1))) (sNil)) (sCons (sIf (tAnd [tE (cBin oEq (cV 3) (cK (.int 0))), tE (cCall .is_op [cV 0, cV 4, cK (.str (Str.ofString ":"))])]) (sCons (sRet (cK (.bool true))) (sNil)) (sNil)) (sNil))) (sNil))) (sNil)
noncomputable def cutRes (ρ : Rho) (σ : Sto) : Bool → Res (Fl × Rho × Sto)
  | true => .ok (.ret (Bo true), ρ, σ)
  | false => .ok (.next, ρ, σ)
theorem closeN_lt {ts : List Tk} : ∀ {m k : Nat} {d : Int} {e : Nat}, closeN ts m k d = some e → k ≤ e ∧ e < k + m
  | 0, _, _, _, h => by cases h
  | m + 1, k, d, e, h => by
    unfold closeN at h
    split at h
    · have := closeN_lt h; lia
    · split at h
      · split at h
        · cases h; lia
        · have := closeN_lt h; lia
      · have := closeN_lt h; lia
noncomputable def consT : Tk → Int → PyData
  | .int i, s => .tuple [.str (Str.ofString "int"), .int (s * i)]
  | .real a b, s => .tuple [.str (Str.ofString "real"), .int (s * a), .int b]
  | .dble a b, s => .tuple [.str (Str.ofString "dble"), .int (s * a), .int b]
  | .log b, _ => .tuple [.str (Str.ofString "log"), .bool b]
  | .op x, _ => .tuple [.str (Str.ofString "char"), .str x]
  | .name x, _ => .tuple [.str (Str.ofString "char"), .str x]
  | .chr x, _ => .tuple [.str (Str.ofString "char"), .str x]
section
variable {ds : List PyData} {ts : List Tk} {σ : Sto} {n : Nat} {i : Nat} {x : Str}
theorem cut_loop (h : TK ds ts) {A : AV} {E : Nat} {b : SC} (hbody : b = loop_is_cut) (hE : E ≤ ds.length) : ∀ (m k : Nat) (d : Int) (y : Option AV) (rs : Rho), k + m = E →
    ∃ ρ', forL (tgt1 4) b (rngs (k : Nat) (E : Nat)) (callF (n + 1)) (some (L ds) :: some A :: some (I E) :: some (.d (.int d)) :: y :: rs) σ = cutRes ρ' σ (cutN ts m k d)
  | 0, k, d, y, rs, hk => by
    rw [rngs_nil (by lia)]
    exact ⟨_, rfl⟩
  | m + 1, k, d, y, rs, hk => by
    rw [rngs_cons (by lia)]
    subst hbody
    unfold cutN
    have hc1 := ev_is_op (n := n) (σ := σ) (i := k) (x := Str.ofString "(") h
    have hc2 := ev_is_op (n := n) (σ := σ) (i := k) (x := Str.ofString ")") h
    have hc3 := ev_is_op (n := n) (σ := σ) (i := k) (x := Str.ofString ":") h
    cases hb1 : isOp ts k (Str.ofString "(") with
    | true =>
      obtain ⟨ρ', e⟩ := cut_loop h rfl hE m (k + 1) (d + 1) (some (I k)) rs (by lia)
      exact ⟨ρ', for_n rfl (sN (tI (tK (fK (aC (vK rfl) (aC (vK rfl) (aC kK a0C))) hc1)) hb1 (sN (sAug_k (bK (vK rfl) kK oAdd_k)) nK)) nK) e⟩
    | false =>
      cases hb2 : isOp ts k (Str.ofString ")") with
      | true =>
        obtain ⟨ρ', e⟩ := cut_loop h rfl hE m (k + 1) (d - 1) (some (I k)) rs (by lia)
        exact ⟨ρ', for_n rfl (sN (nI (tK (fK (aC (vK rfl) (aC (vK rfl) (aC kK a0C))) hc1)) hb1 (sN (tI (tK (fK (aC (vK rfl) (aC (vK rfl) (aC kK a0C))) hc2)) hb2 (sN (sAug_k (bK (vK rfl) kK oSub_k)) nK)) nK)) nK) e⟩
      | false =>
        rw [if_neg (by simp), if_neg (by simp)]
        obtain ⟨ρ', e⟩ := cut_loop h rfl hE m (k + 1) d (some (I k)) rs (by lia)
        by_cases hd : d = 0
        · have hb3 : (d == 0) = true := beq_iff_eq.mpr hd
          cases hb4 : isOp ts k (Str.ofString ":") with
          | true =>
            rw [if_pos ⟨hd, rfl⟩]
            exact ⟨_, (for_r rfl (sR (nI (tK (fK (aC (vK rfl) (aC (vK rfl) (aC kK a0C))) hc1)) hb1 (sR (nI (tK (fK (aC (vK rfl) (aC (vK rfl) (aC kK a0C))) hc2)) hb2 (sR (tI (tAnd_t (tK (bK (vK rfl) kK oEq_i)) hb3 (tAnd_t (tK (fK (aC (vK rfl) (aC (vK rfl) (aC kK a0C))) hc3)) hb4 tAnd_0)) rfl (sR (sRet_k kK))))))))).trans rfl⟩
          | false =>
            rw [if_neg (fun q => by cases q.2)]
            exact ⟨ρ', for_n rfl (sN (nI (tK (fK (aC (vK rfl) (aC (vK rfl) (aC kK a0C))) hc1)) hb1 (sN (nI (tK (fK (aC (vK rfl) (aC (vK rfl) (aC kK a0C))) hc2)) hb2 (sN (nI (tAnd_t (tK (bK (vK rfl) kK oEq_i)) hb3 (tAnd_f (tK (fK (aC (vK rfl) (aC (vK rfl) (aC kK a0C))) hc3)) hb4)) rfl nK) nK)) nK)) nK) e⟩
        · have hb3 : (d == 0) = false := beq_false_of_ne hd
          rw [if_neg (fun q => hd q.1)]
          exact ⟨ρ', for_n rfl (sN (nI (tK (fK (aC (vK rfl) (aC (vK rfl) (aC kK a0C))) hc1)) hb1 (sN (nI (tK (fK (aC (vK rfl) (aC (vK rfl) (aC kK a0C))) hc2)) hb2 (sN (nI (tAnd_f (tK (bK (vK rfl) kK oEq_i)) hb3) rfl nK) nK)) nK)) nK) e⟩
theorem ev_is_cut (h : TK ds ts) (hi : i ≤ ds.length) : callF (n + 3) .is_cut [L ds, I i] σ = match closeN ts (ds.length - i) i 0 with | some e => .ok (Bo (cutN ts (e - (i + 1)) (i + 1) 0), σ) | none => .exc := by
  have hz := h.small
  have hc := ev_close_at (n := n) (σ := σ) h hi
  cases e : closeN ts (ds.length - i) i 0 with
  | none =>
    rw [e] at hc
    have hc1 : _ = Res.exc := hc
    show _ = Res.exc
    exact ((st_is_cut _ _ _).trans (run_x rfl (sCons_x (sAsg_exc (fK (aC (vK rfl) (aC (vK rfl) a0C)) hc1)))))
  | some k =>
    rw [e] at hc
    have hc1 : _ = Res.ok (I k, σ) := hc
    have hk := closeN_lt e
    have hz1 : i + 1 ≤ 10000 := by lia
    have hz2 : k ≤ 10000 := by lia
    show _ = Res.ok (Bo (cutN ts (k - (i + 1)) (i + 1) 0), σ)
    have hik : i + 1 ≤ k ∨ k = i := by lia
    rcases hik with hik | rfl
    · obtain ⟨ρ', hw⟩ := cut_loop (n := n + 1) (σ := σ) (A := I i) (E := k) h rfl (by lia) (k - (i + 1)) (i + 1) 0 none [none, none, none] (by lia)
      cases e2 : cutN ts (k - (i + 1)) (i + 1) 0 with
      | true =>
        rw [e2] at hw
        have hw1 : _ = Res.ok (Fl.ret (Bo true), ρ', σ) := hw
        exact ((st_is_cut _ _ _).trans (run_ok0 rfl (sN (gK (fK (aC (vK rfl) (aC (vK rfl) a0C)) hc1)) (sN (gK kK) (sR (sForR_k (bK (vK rfl) kK oAdd_k) (vK rfl) hw1 rfl rfl hz1 hz2))))))
      | false =>
        rw [e2] at hw
        have hw1 : _ = Res.ok (Fl.next, ρ', σ) := hw
        exact ((st_is_cut _ _ _).trans (run_ok0 rfl (sN (gK (fK (aC (vK rfl) (aC (vK rfl) a0C)) hc1)) (sN (gK kK) (sN (sForR_k (bK (vK rfl) kK oAdd_k) (vK rfl) hw1 rfl rfl hz1 hz2) (sR (sRet_k kK)))))))
    · have hw : ∃ ρ', forL (tgt1 4) loop_is_cut (rngs ((k + 1 : Nat) : Int) (k : Nat)) (callF (n + 2)) (some (L ds) :: some (I k) :: some (I k) :: some (.d (.int 0)) :: none :: [none, none, none]) σ = Res.ok (Fl.next, ρ', σ) :=
        ⟨some (L ds) :: some (I k) :: some (I k) :: some (.d (.int 0)) :: none :: [none, none, none], by rw [rngs_nil (by lia)]; rfl⟩
      obtain ⟨ρ', hw1⟩ := hw
      rw [show k - (k + 1) = 0 from by lia]
      exact ((st_is_cut _ _ _).trans (run_ok0 rfl (sN (gK (fK (aC (vK rfl) (aC (vK rfl) a0C)) hc1)) (sN (gK kK) (sN (sForR_k (bK (vK rfl) kK oAdd_k) (vK rfl) hw1 rfl rfl hz1 hz2) (sR (sRet_k kK)))))))
theorem ev_constant_of {t : Tk} {s : Int} (hs : s = 1 ∨ s = -1) : callF (n + 1) .constant_of [T t.kind, .d t.pay, .d (.int s)] σ = .ok (.d (consT t s), σ) := by
  have hm : s.natAbs ≤ 4 ∨ False := by rcases hs with rfl | rfl <;> decide
  have hm : ∀ y : Int, s.natAbs ≤ 4 ∨ y.natAbs ≤ 4 := fun y => .inl (hm.resolve_right id)
  cases t with
  | int v =>
    have hb1 : ((Tk.int v).kind == Str.ofString "INT") = true := rfl
    exact ((st_constant_of _ _ _).trans (run_ok0 rfl (sR (tI (tK (bK (vK rfl) kK oEq_s)) hb1 (sR (sRet_k (uK (eC kK (eC (bK (vK rfl) (vK rfl) (oMul_k (hm _))) e0C)))))))))
  | real a b =>
    have hb1 : ((Tk.real a b).kind == Str.ofString "INT") = false := rfl
    have hb2 : ((Tk.real a b).kind == Str.ofString "REAL") = true := rfl
    exact ((st_constant_of _ _ _).trans (run_ok0 rfl (sN (nI (tK (bK (vK rfl) kK oEq_s)) hb1 nK) (sR (tI (tK (bK (vK rfl) kK oEq_s)) hb2 (sR (sRet_k (uK (eC kK (eC (bK (vK rfl) (bK (vK rfl) kK oItem_0) (oMul_k (hm _))) (eC (bK (vK rfl) kK oItem_1) e0C)))))))))))
  | dble a b =>
    have hb1 : ((Tk.dble a b).kind == Str.ofString "INT") = false := rfl
    have hb2 : ((Tk.dble a b).kind == Str.ofString "REAL") = false := rfl
    have hb3 : ((Tk.dble a b).kind == Str.ofString "DBLE") = true := rfl
    exact ((st_constant_of _ _ _).trans (run_ok0 rfl (sN (nI (tK (bK (vK rfl) kK oEq_s)) hb1 nK) (sN (nI (tK (bK (vK rfl) kK oEq_s)) hb2 nK) (sR (tI (tK (bK (vK rfl) kK oEq_s)) hb3 (sR (sRet_k (uK (eC kK (eC (bK (vK rfl) (bK (vK rfl) kK oItem_0) (oMul_k (hm _))) (eC (bK (vK rfl) kK oItem_1) e0C))))))))))))
  | log v =>
    have hb1 : ((Tk.log v).kind == Str.ofString "INT") = false := rfl
    have hb2 : ((Tk.log v).kind == Str.ofString "REAL") = false := rfl
    have hb3 : ((Tk.log v).kind == Str.ofString "DBLE") = false := rfl
    have hb4 : ((Tk.log v).kind == Str.ofString "LOG") = true := rfl
    exact ((st_constant_of _ _ _).trans (run_ok0 rfl (sN (nI (tK (bK (vK rfl) kK oEq_s)) hb1 nK) (sN (nI (tK (bK (vK rfl) kK oEq_s)) hb2 nK) (sN (nI (tK (bK (vK rfl) kK oEq_s)) hb3 nK) (sR (tI (tK (bK (vK rfl) kK oEq_s)) hb4 (sR (sRet_k (uK (eC kK (eC (vK rfl) e0C))))))))))))
  | op v =>
    have hb1 : ((Tk.op v).kind == Str.ofString "INT") = false := rfl
    have hb2 : ((Tk.op v).kind == Str.ofString "REAL") = false := rfl
    have hb3 : ((Tk.op v).kind == Str.ofString "DBLE") = false := rfl
    have hb4 : ((Tk.op v).kind == Str.ofString "LOG") = false := rfl
    exact ((st_constant_of _ _ _).trans (run_ok0 rfl (sN (nI (tK (bK (vK rfl) kK oEq_s)) hb1 nK) (sN (nI (tK (bK (vK rfl) kK oEq_s)) hb2 nK) (sN (nI (tK (bK (vK rfl) kK oEq_s)) hb3 nK) (sN (nI (tK (bK (vK rfl) kK oEq_s)) hb4 nK) (sR (sRet_k (uK (eC kK (eC (vK rfl) e0C)))))))))))
  | name v =>
    have hb1 : ((Tk.name v).kind == Str.ofString "INT") = false := rfl
    have hb2 : ((Tk.name v).kind == Str.ofString "REAL") = false := rfl
    have hb3 : ((Tk.name v).kind == Str.ofString "DBLE") = false := rfl
    have hb4 : ((Tk.name v).kind == Str.ofString "LOG") = false := rfl
    exact ((st_constant_of _ _ _).trans (run_ok0 rfl (sN (nI (tK (bK (vK rfl) kK oEq_s)) hb1 nK) (sN (nI (tK (bK (vK rfl) kK oEq_s)) hb2 nK) (sN (nI (tK (bK (vK rfl) kK oEq_s)) hb3 nK) (sN (nI (tK (bK (vK rfl) kK oEq_s)) hb4 nK) (sR (sRet_k (uK (eC kK (eC (vK rfl) e0C)))))))))))
  | chr v =>
    have hb1 : ((Tk.chr v).kind == Str.ofString "INT") = false := rfl
    have hb2 : ((Tk.chr v).kind == Str.ofString "REAL") = false := rfl
    have hb3 : ((Tk.chr v).kind == Str.ofString "DBLE") = false := rfl
    have hb4 : ((Tk.chr v).kind == Str.ofString "LOG") = false := rfl
    exact ((st_constant_of _ _ _).trans (run_ok0 rfl (sN (nI (tK (bK (vK rfl) kK oEq_s)) hb1 nK) (sN (nI (tK (bK (vK rfl) kK oEq_s)) hb2 nK) (sN (nI (tK (bK (vK rfl) kK oEq_s)) hb3 nK) (sN (nI (tK (bK (vK rfl) kK oEq_s)) hb4 nK) (sR (sRet_k (uK (eC kK (eC (vK rfl) e0C)))))))))))
end
noncomputable def numAt (ts : List Tk) (i : Nat) : Bool := match ts[i]? with | some (.int _) => true | some (.real _ _) => true | _ => false
noncomputable def sgn (ts : List Tk) (i : Nat) : Bool := isOp ts i (Str.ofString "+") || isOp ts i (Str.ofString "-")
noncomputable def partEnd (ts : List Tk) (i : Nat) : Option Nat := if sgn ts i = true then (if numAt ts (i + 1) = true then some (i + 2) else none) else (if numAt ts i = true then some (i + 1) else none)
noncomputable def peZ : Option Nat → Int
  | some k => (k : Nat)
  | none => -1
noncomputable def isCplx (ts : List Tk) (i : Nat) : Bool := match partEnd ts (i + 1) with
  | none => false
  | some c => isOp ts c (Str.ofString ",") && match partEnd ts (c + 1) with
    | none => false
    | some e => isOp ts e (Str.ofString ")")
noncomputable def partT (ts : List Tk) (i : Nat) : PyData := match ts[if sgn ts i = true then i + 1 else i]? with
  | some t => consT t (if isOp ts i (Str.ofString "-") = true then -1 else 1)
  | none => .none
theorem isOp_iff {ts : List Tk} {i : Nat} {x : Str} : isOp ts i x = true ↔ ts[i]? = some (.op x) := by
  unfold isOp
  constructor
  · intro h
    split at h
    · rename_i s e
      rw [e, beq_iff_eq.mp h]
    · cases h
  · intro h
    rw [h]
    exact beq_self_eq_true x
theorem isOp_ne {ts : List Tk} {i : Nat} {x y : Str} (h : isOp ts i x = true) (hxy : x ≠ y) : isOp ts i y = false := by
  cases q : isOp ts i y with
  | false => rfl
  | true =>
    rw [isOp_iff] at h q
    rw [h] at q
    cases q
    exact absurd rfl hxy
section
variable {ds : List PyData} {ts : List Tk} {σ : Sto} {n : Nat} {i : Nat} {x : Str}
theorem kind_int (j : Nat) : (kindAt ts j == Str.ofString "INT") = match ts[j]? with | some (.int _) => true | _ => false := by
  unfold kindAt
  cases e : ts[j]? with
  | none => rfl
  | some t => cases t <;> rfl
theorem kind_real (j : Nat) : (kindAt ts j == Str.ofString "REAL") = match ts[j]? with | some (.real _ _) => true | _ => false := by
  unfold kindAt
  cases e : ts[j]? with
  | none => rfl
  | some t => cases t <;> rfl
theorem kind_op (j : Nat) : (kindAt ts j == Str.ofString "OP") = match ts[j]? with | some (.op _) => true | _ => false := by
  unfold kindAt
  cases e : ts[j]? with
  | none => rfl
  | some t => cases t <;> rfl
theorem num_kind (j : Nat) : numAt ts j = ((kindAt ts j == Str.ofString "INT") || (kindAt ts j == Str.ofString "REAL")) := by
  rw [kind_int, kind_real]
  unfold numAt
  cases e : ts[j]? with
  | none => rfl
  | some t => cases t <;> rfl
theorem ev_part_end (h : TK ds ts) : callF (n + 2) .part_end [L ds, I i] σ = .ok (.d (.int (peZ (partEnd ts i))), σ) := by
  unfold partEnd
  have hc1 := ev_is_op (n := n) (σ := σ) (i := i) (x := Str.ofString "+") h
  have num : ∀ j, (numAt ts j = true → (kindAt ts j == Str.ofString "INT") = true ∨ ((kindAt ts j == Str.ofString "INT") = false ∧ (kindAt ts j == Str.ofString "REAL") = true)) ∧ (numAt ts j = false → (kindAt ts j == Str.ofString "INT") = false ∧ (kindAt ts j == Str.ofString "REAL") = false) := by
    intro j
    rw [num_kind]
    cases (kindAt ts j == Str.ofString "INT") <;> cases (kindAt ts j == Str.ofString "REAL") <;> simp
  cases hb1 : isOp ts i (Str.ofString "+") with
  | true =>
    have e : sgn ts i = true := by unfold sgn; rw [hb1]; rfl
    rw [if_pos e]
    have hc2 := ev_kind_at (n := n) (σ := σ) (i := i + 1) h
    have hc3 := hc2
    cases hn : numAt ts (i + 1) with
    | true =>
      rw [if_pos rfl]
      rcases (num (i + 1)).1 hn with hb2 | ⟨hb2, hb3⟩
      · exact ((st_part_end _ _ _).trans (run_ok0 rfl (sN (tI (tOr_t (tK (fK (aC (vK rfl) (aC (vK rfl) (aC kK a0C))) hc1)) hb1) rfl (sN (sAug_k (bK (vK rfl) kK oAdd_k)) nK)) (sR (tI (tOr_t (tK (bK (fK (aC (vK rfl) (aC (vK rfl) a0C)) hc2) kK oEq_s)) hb2) rfl (sR (sRet_k (bK (vK rfl) kK oAdd_k))))))))
      · exact ((st_part_end _ _ _).trans (run_ok0 rfl (sN (tI (tOr_t (tK (fK (aC (vK rfl) (aC (vK rfl) (aC kK a0C))) hc1)) hb1) rfl (sN (sAug_k (bK (vK rfl) kK oAdd_k)) nK)) (sR (tI (tOr_f (tK (bK (fK (aC (vK rfl) (aC (vK rfl) a0C)) hc2) kK oEq_s)) hb2 (tOr_t (tK (bK (fK (aC (vK rfl) (aC (vK rfl) a0C)) hc3) kK oEq_s)) hb3)) rfl (sR (sRet_k (bK (vK rfl) kK oAdd_k))))))))
    | false =>
      rw [if_neg (by simp)]
      obtain ⟨hb2, hb3⟩ := (num (i + 1)).2 hn
      exact ((st_part_end _ _ _).trans (run_ok0 rfl (sN (tI (tOr_t (tK (fK (aC (vK rfl) (aC (vK rfl) (aC kK a0C))) hc1)) hb1) rfl (sN (sAug_k (bK (vK rfl) kK oAdd_k)) nK)) (sN (nI (tOr_f (tK (bK (fK (aC (vK rfl) (aC (vK rfl) a0C)) hc2) kK oEq_s)) hb2 (tOr_f (tK (bK (fK (aC (vK rfl) (aC (vK rfl) a0C)) hc3) kK oEq_s)) hb3 tOr_0)) rfl nK) (sR (sRet_k cNeg_k))))))
  | false =>
    have hc2 := ev_is_op (n := n) (σ := σ) (i := i) (x := Str.ofString "-") h
    cases hb2 : isOp ts i (Str.ofString "-") with
    | true =>
      have e : sgn ts i = true := by unfold sgn; rw [hb2, Bool.or_true]
      rw [if_pos e]
      have hc3 := ev_kind_at (n := n) (σ := σ) (i := i + 1) h
      have hc4 := hc3
      cases hn : numAt ts (i + 1) with
      | true =>
        rw [if_pos rfl]
        rcases (num (i + 1)).1 hn with hb3 | ⟨hb3, hb4⟩
        · exact ((st_part_end _ _ _).trans (run_ok0 rfl (sN (tI (tOr_f (tK (fK (aC (vK rfl) (aC (vK rfl) (aC kK a0C))) hc1)) hb1 (tOr_t (tK (fK (aC (vK rfl) (aC (vK rfl) (aC kK a0C))) hc2)) hb2)) rfl (sN (sAug_k (bK (vK rfl) kK oAdd_k)) nK)) (sR (tI (tOr_t (tK (bK (fK (aC (vK rfl) (aC (vK rfl) a0C)) hc3) kK oEq_s)) hb3) rfl (sR (sRet_k (bK (vK rfl) kK oAdd_k))))))))
        · exact ((st_part_end _ _ _).trans (run_ok0 rfl (sN (tI (tOr_f (tK (fK (aC (vK rfl) (aC (vK rfl) (aC kK a0C))) hc1)) hb1 (tOr_t (tK (fK (aC (vK rfl) (aC (vK rfl) (aC kK a0C))) hc2)) hb2)) rfl (sN (sAug_k (bK (vK rfl) kK oAdd_k)) nK)) (sR (tI (tOr_f (tK (bK (fK (aC (vK rfl) (aC (vK rfl) a0C)) hc3) kK oEq_s)) hb3 (tOr_t (tK (bK (fK (aC (vK rfl) (aC (vK rfl) a0C)) hc4) kK oEq_s)) hb4)) rfl (sR (sRet_k (bK (vK rfl) kK oAdd_k))))))))
      | false =>
        rw [if_neg (by simp)]
        obtain ⟨hb3, hb4⟩ := (num (i + 1)).2 hn
        exact ((st_part_end _ _ _).trans (run_ok0 rfl (sN (tI (tOr_f (tK (fK (aC (vK rfl) (aC (vK rfl) (aC kK a0C))) hc1)) hb1 (tOr_t (tK (fK (aC (vK rfl) (aC (vK rfl) (aC kK a0C))) hc2)) hb2)) rfl (sN (sAug_k (bK (vK rfl) kK oAdd_k)) nK)) (sN (nI (tOr_f (tK (bK (fK (aC (vK rfl) (aC (vK rfl) a0C)) hc3) kK oEq_s)) hb3 (tOr_f (tK (bK (fK (aC (vK rfl) (aC (vK rfl) a0C)) hc4) kK oEq_s)) hb4 tOr_0)) rfl nK) (sR (sRet_k cNeg_k))))))
    | false =>
      have e : ¬ sgn ts i = true := by unfold sgn; rw [hb1, hb2]; simp
      rw [if_neg e]
      have hc3 := ev_kind_at (n := n) (σ := σ) (i := i) h
      have hc4 := hc3
      cases hn : numAt ts i with
      | true =>
        rw [if_pos rfl]
        rcases (num i).1 hn with hb3 | ⟨hb3, hb4⟩
        · exact ((st_part_end _ _ _).trans (run_ok0 rfl (sN (nI (tOr_f (tK (fK (aC (vK rfl) (aC (vK rfl) (aC kK a0C))) hc1)) hb1 (tOr_f (tK (fK (aC (vK rfl) (aC (vK rfl) (aC kK a0C))) hc2)) hb2 tOr_0)) rfl nK) (sR (tI (tOr_t (tK (bK (fK (aC (vK rfl) (aC (vK rfl) a0C)) hc3) kK oEq_s)) hb3) rfl (sR (sRet_k (bK (vK rfl) kK oAdd_k))))))))
        · exact ((st_part_end _ _ _).trans (run_ok0 rfl (sN (nI (tOr_f (tK (fK (aC (vK rfl) (aC (vK rfl) (aC kK a0C))) hc1)) hb1 (tOr_f (tK (fK (aC (vK rfl) (aC (vK rfl) (aC kK a0C))) hc2)) hb2 tOr_0)) rfl nK) (sR (tI (tOr_f (tK (bK (fK (aC (vK rfl) (aC (vK rfl) a0C)) hc3) kK oEq_s)) hb3 (tOr_t (tK (bK (fK (aC (vK rfl) (aC (vK rfl) a0C)) hc4) kK oEq_s)) hb4)) rfl (sR (sRet_k (bK (vK rfl) kK oAdd_k))))))))
      | false =>
        rw [if_neg (by simp)]
        obtain ⟨hb3, hb4⟩ := (num i).2 hn
        exact ((st_part_end _ _ _).trans (run_ok0 rfl (sN (nI (tOr_f (tK (fK (aC (vK rfl) (aC (vK rfl) (aC kK a0C))) hc1)) hb1 (tOr_f (tK (fK (aC (vK rfl) (aC (vK rfl) (aC kK a0C))) hc2)) hb2 tOr_0)) rfl nK) (sN (nI (tOr_f (tK (bK (fK (aC (vK rfl) (aC (vK rfl) a0C)) hc3) kK oEq_s)) hb3 (tOr_f (tK (bK (fK (aC (vK rfl) (aC (vK rfl) a0C)) hc4) kK oEq_s)) hb4 tOr_0)) rfl nK) (sR (sRet_k cNeg_k))))))
theorem ev_is_complex (h : TK ds ts) : callF (n + 3) .is_complex [L ds, I i] σ = .ok (Bo (isCplx ts i), σ) := by
  unfold isCplx
  have hc := ev_part_end (n := n) (σ := σ) (i := i + 1) h
  cases e1 : partEnd ts (i + 1) with
  | none =>
    rw [e1] at hc
    have hc1 : _ = Res.ok (AV.d (.int (-1)), σ) := hc
    have hb1 : decide ((-1 : Int) < 0) = true := rfl
    exact ((st_is_complex _ _ _).trans (run_ok0 rfl (sN (gK (fK (aC (vK rfl) (aC (bK (vK rfl) kK oAdd_k) a0C)) hc1)) (sR (tI (tOr_t (tK (bK (vK rfl) kK oLt_k)) hb1) rfl (sR (sRet_k kK)))))))
  | some c =>
    rw [e1] at hc
    have hc1 : _ = Res.ok (I c, σ) := hc
    have hb1 : decide (((c : Nat) : Int) < 0) = false := decide_eq_false (by lia)
    have hc2 := ev_is_op (n := n + 1) (σ := σ) (i := c) (x := Str.ofString ",") h
    dsimp only
    cases hb2 : isOp ts c (Str.ofString ",") with
    | false => exact ((st_is_complex _ _ _).trans (run_ok0 rfl (sN (gK (fK (aC (vK rfl) (aC (bK (vK rfl) kK oAdd_k) a0C)) hc1)) (sR (tI (tOr_f (tK (bK (vK rfl) kK oLt_k)) hb1 (tOr_t (tNot_k (tK (fK (aC (vK rfl) (aC (vK rfl) (aC kK a0C))) hc2))) (nb_t hb2))) rfl (sR (sRet_k kK)))))))
    | true =>
      have hc := ev_part_end (n := n) (σ := σ) (i := c + 1) h
      cases e2 : partEnd ts (c + 1) with
      | none =>
        rw [e2] at hc
        have hc3 : _ = Res.ok (AV.d (.int (-1)), σ) := hc
        have hb3 : decide ((0 : Int) ≤ -1) = false := rfl
        exact ((st_is_complex _ _ _).trans (run_ok0 rfl (sN (gK (fK (aC (vK rfl) (aC (bK (vK rfl) kK oAdd_k) a0C)) hc1)) (sN (nI (tOr_f (tK (bK (vK rfl) kK oLt_k)) hb1 (tOr_f (tNot_k (tK (fK (aC (vK rfl) (aC (vK rfl) (aC kK a0C))) hc2))) (nb_f hb2) tOr_0)) rfl nK) (sN (gK (fK (aC (vK rfl) (aC (bK (vK rfl) kK oAdd_k) a0C)) hc3)) (sR (sRet_k (cAnd_f (bK (vK rfl) kK oGe_k) hb3))))))))
      | some e =>
        rw [e2] at hc
        have hc3 : _ = Res.ok (I e, σ) := hc
        have hb3 : decide ((0 : Int) ≤ ((e : Nat) : Int)) = true := decide_eq_true (by lia)
        have hc4 := ev_is_op (n := n + 1) (σ := σ) (i := e) (x := Str.ofString ")") h
        rw [Bool.true_and]
        exact ((st_is_complex _ _ _).trans (run_ok0 rfl (sN (gK (fK (aC (vK rfl) (aC (bK (vK rfl) kK oAdd_k) a0C)) hc1)) (sN (nI (tOr_f (tK (bK (vK rfl) kK oLt_k)) hb1 (tOr_f (tNot_k (tK (fK (aC (vK rfl) (aC (vK rfl) (aC kK a0C))) hc2))) (nb_f hb2) tOr_0)) rfl nK) (sN (gK (fK (aC (vK rfl) (aC (bK (vK rfl) kK oAdd_k) a0C)) hc3)) (sR (sRet_k (cAnd_t (bK (vK rfl) kK oGe_k) hb3 (cAnd_1 (fK (aC (vK rfl) (aC (vK rfl) (aC kK a0C))) hc4))))))))))
theorem ev_complex_part (h : TK ds ts) {k : Nat} (hp : partEnd ts i = some k) : callF (n + 2) .complex_part [L ds, I i] σ = .ok (.d (.tuple [partT ts i, .int (k : Nat)]), σ) := by
  have hc1 := ev_is_op (n := n) (σ := σ) (i := i) (x := Str.ofString "-") h
  have hc2 := ev_kind_at (n := n) (σ := σ) (i := i) h
  unfold partEnd at hp
  unfold partT
  cases hs : sgn ts i with
  | true =>
    rw [hs, if_pos rfl] at hp
    rw [if_pos rfl]
    split at hp
    case isFalse => cases hp
    rename_i hn
    cases hp
    obtain ⟨t, ht⟩ : ∃ t, ts[i + 1]? = some t := by
      unfold numAt at hn
      cases e : ts[i + 1]? with
      | none => rw [e] at hn; cases hn
      | some t => exact ⟨t, rfl⟩
    rw [ht]
    dsimp only
    obtain ⟨r, hr_at⟩ := h.item ht
    cases hb1 : isOp ts i (Str.ofString "-") with
    | true =>
      have hb2 : (kindAt ts i == Str.ofString "OP") = true := by rw [kind_op, isOp_iff.mp hb1]
      have hc3 := ev_constant_of (n := n) (σ := σ) (t := t) (s := -1) (.inr rfl)
      exact ((st_complex_part _ _ _).trans (run_ok0 rfl (sN (gK kK) (sN (tI (tK (fK (aC (vK rfl) (aC (vK rfl) (aC kK a0C))) hc1)) hb1 (sN (gK cNeg_k) nK)) (sN (tI (tK (bK (fK (aC (vK rfl) (aC (vK rfl) a0C)) hc2) kK oEq_s)) hb2 (sN (sAug_k (bK (vK rfl) kK oAdd_k)) nK)) (sR (sRet_k (uK (eC (fK (aC (bK (bK (vK rfl) (vK rfl) (hr_at _)) kK oItem_0) (aC (bK (bK (vK rfl) (vK rfl) (hr_at _)) kK oItem_1) (aC (vK rfl) a0C))) hc3) (eC (bK (vK rfl) kK oAdd_k) e0C))))))))))
    | false =>
      have hb3 : isOp ts i (Str.ofString "+") = true := by
        unfold sgn at hs
        rw [hb1, Bool.or_false] at hs
        exact hs
      have hb2 : (kindAt ts i == Str.ofString "OP") = true := by rw [kind_op, isOp_iff.mp hb3]
      have hc3 := ev_constant_of (n := n) (σ := σ) (t := t) (s := 1) (.inl rfl)
      exact ((st_complex_part _ _ _).trans (run_ok0 rfl (sN (gK kK) (sN (nI (tK (fK (aC (vK rfl) (aC (vK rfl) (aC kK a0C))) hc1)) hb1 nK) (sN (tI (tK (bK (fK (aC (vK rfl) (aC (vK rfl) a0C)) hc2) kK oEq_s)) hb2 (sN (sAug_k (bK (vK rfl) kK oAdd_k)) nK)) (sR (sRet_k (uK (eC (fK (aC (bK (bK (vK rfl) (vK rfl) (hr_at _)) kK oItem_0) (aC (bK (bK (vK rfl) (vK rfl) (hr_at _)) kK oItem_1) (aC (vK rfl) a0C))) hc3) (eC (bK (vK rfl) kK oAdd_k) e0C))))))))))
  | false =>
    rw [hs, if_neg (by simp)] at hp
    rw [if_neg (by simp)]
    split at hp
    case isFalse => cases hp
    rename_i hn
    cases hp
    obtain ⟨t, ht⟩ : ∃ t, ts[i]? = some t := by
      unfold numAt at hn
      cases e : ts[i]? with
      | none => rw [e] at hn; cases hn
      | some t => exact ⟨t, rfl⟩
    rw [ht]
    dsimp only
    obtain ⟨r, hr_at⟩ := h.item ht
    have hb1 : isOp ts i (Str.ofString "-") = false := by
      unfold sgn at hs
      cases q : isOp ts i (Str.ofString "-") with
      | false => rfl
      | true => rw [q, Bool.or_true] at hs; cases hs
    rw [hb1, if_neg (by simp)]
    have hb2 : (kindAt ts i == Str.ofString "OP") = false := by
      rw [kind_op, ht]
      unfold numAt at hn
      rw [ht] at hn
      cases t <;> first | rfl | cases hn
    have hc3 := ev_constant_of (n := n) (σ := σ) (t := t) (s := 1) (.inl rfl)
    exact ((st_complex_part _ _ _).trans (run_ok0 rfl (sN (gK kK) (sN (nI (tK (fK (aC (vK rfl) (aC (vK rfl) (aC kK a0C))) hc1)) hb1 nK) (sN (nI (tK (bK (fK (aC (vK rfl) (aC (vK rfl) a0C)) hc2) kK oEq_s)) hb2 nK) (sR (sRet_k (uK (eC (fK (aC (bK (bK (vK rfl) (vK rfl) (hr_at _)) kK oItem_0) (aC (bK (bK (vK rfl) (vK rfl) (hr_at _)) kK oItem_1) (aC (vK rfl) a0C))) hc3) (eC (bK (vK rfl) kK oAdd_k) e0C))))))))))
end
noncomputable def res (r : Option (PyData × Nat)) (σ : Sto) : Res (AV × Sto) := match r with
  | none => .exc
  | some (t, k) => .ok (.d (.tuple [t, .int (k : Nat)]), σ)
noncomputable def Gives (n : Nat) (f : Fn) (as : List AV) (r : Option (PyData × Nat)) : Prop := ∀ σ, callF n f as σ = res r σ
noncomputable def unT (s : Str) (t : PyData) : PyData := .tuple [.str (Str.ofString "un"), .str s, t]
noncomputable def binT (s : Str) (a b : PyData) : PyData := .tuple [.str (Str.ofString "bin"), .str s, a, b]
noncomputable def nameT (s : Str) : PyData := .tuple [.str (Str.ofString "name"), .str s]
noncomputable def refT (s : Str) (l : List PyData) : PyData := .tuple [.str (Str.ofString "ref"), .str s, .list l]
noncomputable def subT (b l h : PyData) : PyData := .tuple [.str (Str.ofString "sub"), b, l, h]
noncomputable def cplxT (a b : PyData) : PyData := .tuple [.str (Str.ofString "cplx"), a, b]
section
variable {ds : List PyData} {ts : List Tk} {n : Nat} {i l : Nat} {x : Str} {r : Option (PyData × Nat)}
theorem g_expr (h : TK ds ts) (hc : Gives n .parse_binary [L ds, I i, I 1] r) : Gives (n + 1) .parse_expr [L ds, I i] r := by
  intro σ
  have hc1 := hc σ
  rcases r with _ | ⟨t, k⟩
  case none =>
    have hc1 : _ = Res.exc := hc1
    show _ = Res.exc
    exact ((st_parse_expr _ _ _).trans (run_x rfl (sCons_x (sRet_exc (fK (aC (vK rfl) (aC (vK rfl) (aC kK a0C))) hc1)))))
  case some =>
    have hc1 : _ = Res.ok (AV.d (.tuple [t, .int (k : Nat)]), σ) := hc1
    show _ = Res.ok (AV.d (.tuple [t, .int (k : Nat)]), σ)
    exact ((st_parse_expr _ _ _).trans (run_ok0 rfl (sR (sRet_k (fK (aC (vK rfl) (aC (vK rfl) (aC kK a0C))) hc1)))))
theorem g_first_not (h : TK ds ts) (h1 : isOp ts i (Str.ofString ".NOT.") = true) (hl : l ≤ 4) (hc : Gives n .parse_binary [L ds, I (i + 1), I 5] r) (hn : ∃ q, n = q + 1) :
    Gives (n + 1) .parse_first [L ds, I i, I l] (r.map fun p => (unT (Str.ofString ".NOT.") p.1, p.2)) := by
  intro σ
  obtain ⟨q, rfl⟩ := hn
  have hc1 := ev_is_op (n := q) (σ := σ) (i := i) (x := Str.ofString ".NOT.") h
  have hb1 := h1
  have hb2 : decide ((4 : Int) < ((l : Nat) : Int)) = false := decide_eq_false (by lia)
  have hc2 := hc σ
  rcases r with _ | ⟨t, k⟩
  case none =>
    have hc2 : _ = Res.exc := hc2
    show _ = Res.exc
    exact ((st_parse_first _ _ _).trans (run_x rfl (sCons_x (tI (tK (fK (aC (vK rfl) (aC (vK rfl) (aC kK a0C))) hc1)) hb1 (sN (nI (tK (bK (vK rfl) kK oGt_k)) hb2 nK) (sCons_x (sUnp_exc (fK (aC (vK rfl) (aC (bK (vK rfl) kK oAdd_k) (aC (bK kK kK oAdd_k) a0C))) hc2))))))))
  case some =>
    have hc2 : _ = Res.ok (AV.d (.tuple [t, .int (k : Nat)]), σ) := hc2
    show _ = Res.ok (AV.d (.tuple [unT (Str.ofString ".NOT.") t, .int (k : Nat)]), σ)
    exact ((st_parse_first _ _ _).trans (run_ok0 rfl (sR (tI (tK (fK (aC (vK rfl) (aC (vK rfl) (aC kK a0C))) hc1)) hb1 (sN (nI (tK (bK (vK rfl) kK oGt_k)) hb2 nK) (sN (sUnp_k (fK (aC (vK rfl) (aC (bK (vK rfl) kK oAdd_k) (aC (bK kK kK oAdd_k) a0C))) hc2)) (sR (sRet_k (uK (eC (uK (eC kK (eC kK (eC (vK rfl) e0C)))) (eC (vK rfl) e0C)))))))))))
theorem g_first_not_x (h : TK ds ts) (h1 : isOp ts i (Str.ofString ".NOT.") = true) (hl : ¬ l ≤ 4) (hn : ∃ q, n = q + 1) : Gives (n + 1) .parse_first [L ds, I i, I l] none := by
  intro σ
  obtain ⟨q, rfl⟩ := hn
  have hc1 := ev_is_op (n := q) (σ := σ) (i := i) (x := Str.ofString ".NOT.") h
  have hb1 := h1
  have hb2 : decide ((4 : Int) < ((l : Nat) : Int)) = true := decide_eq_true (by lia)
  show _ = Res.exc
  exact ((st_parse_first _ _ _).trans (run_x rfl (sCons_x (tI (tK (fK (aC (vK rfl) (aC (vK rfl) (aC kK a0C))) hc1)) hb1 (sCons_x (tI (tK (bK (vK rfl) kK oGt_k)) hb2 (sCons_x (sRaise_k kK))))))))
theorem g_first_sgn (h : TK ds ts) {s : Str} (h1 : ts[i]? = some (.op s)) (hs : s = Str.ofString "+" ∨ s = Str.ofString "-") (hl : l ≤ 7) (hc : Gives n .parse_binary [L ds, I (i + 1), I 8] r) (hn : ∃ q, n = q + 1) :
    Gives (n + 1) .parse_first [L ds, I i, I l] (r.map fun p => (unT s p.1, p.2)) := by
  intro σ
  obtain ⟨q, rfl⟩ := hn
  have hc1 := ev_is_op (n := q) (σ := σ) (i := i) (x := Str.ofString ".NOT.") h
  have hc2 := ev_is_op (n := q) (σ := σ) (i := i) (x := Str.ofString "+") h
  have hc3 := ev_is_op (n := q) (σ := σ) (i := i) (x := Str.ofString "-") h
  have hr := hc σ
  have hb1 : isOp ts i (Str.ofString ".NOT.") = false := isOp_ne (isOp_iff.mpr h1) (by rcases hs with rfl | rfl <;> decide)
  have hbl : decide ((7 : Int) < ((l : Nat) : Int)) = false := decide_eq_false (by lia)
  obtain ⟨rr, hr_at⟩ := h.item h1
  rcases hs with rfl | rfl
  · have hb2 : isOp ts i (Str.ofString "+") = true := isOp_iff.mpr h1
    have hb3 := hbl
    rcases r with _ | ⟨t, k⟩
    case none =>
      have hc3 : _ = Res.exc := hr
      show _ = Res.exc
      exact ((st_parse_first _ _ _).trans (run_x rfl (sN (nI (tK (fK (aC (vK rfl) (aC (vK rfl) (aC kK a0C))) hc1)) hb1 nK) (sCons_x (tI (tOr_t (tK (fK (aC (vK rfl) (aC (vK rfl) (aC kK a0C))) hc2)) hb2) rfl (sN (nI (tK (bK (vK rfl) kK oGt_k)) hb3 nK) (sN (gK (bK (bK (vK rfl) (vK rfl) (hr_at _)) kK oItem_1)) (sCons_x (sUnp_exc (fK (aC (vK rfl) (aC (bK (vK rfl) kK oAdd_k) (aC (bK kK kK oAdd_k) a0C))) hc3))))))))))
    case some =>
      have hc3 : _ = Res.ok (AV.d (.tuple [t, .int (k : Nat)]), σ) := hr
      show _ = Res.ok (AV.d (.tuple [unT (Str.ofString "+") t, .int (k : Nat)]), σ)
      exact ((st_parse_first _ _ _).trans (run_ok0 rfl (sN (nI (tK (fK (aC (vK rfl) (aC (vK rfl) (aC kK a0C))) hc1)) hb1 nK) (sR (tI (tOr_t (tK (fK (aC (vK rfl) (aC (vK rfl) (aC kK a0C))) hc2)) hb2) rfl (sN (nI (tK (bK (vK rfl) kK oGt_k)) hb3 nK) (sN (gK (bK (bK (vK rfl) (vK rfl) (hr_at _)) kK oItem_1)) (sN (sUnp_k (fK (aC (vK rfl) (aC (bK (vK rfl) kK oAdd_k) (aC (bK kK kK oAdd_k) a0C))) hc3)) (sR (sRet_k (uK (eC (uK (eC kK (eC (vK rfl) (eC (vK rfl) e0C)))) (eC (vK rfl) e0C)))))))))))))
  · have hb2 : isOp ts i (Str.ofString "+") = false := isOp_ne (isOp_iff.mpr h1) (by decide)
    have hb3 : isOp ts i (Str.ofString "-") = true := isOp_iff.mpr h1
    have hb4 := hbl
    rcases r with _ | ⟨t, k⟩
    case none =>
      have hc4 : _ = Res.exc := hr
      show _ = Res.exc
      exact ((st_parse_first _ _ _).trans (run_x rfl (sN (nI (tK (fK (aC (vK rfl) (aC (vK rfl) (aC kK a0C))) hc1)) hb1 nK) (sCons_x (tI (tOr_f (tK (fK (aC (vK rfl) (aC (vK rfl) (aC kK a0C))) hc2)) hb2 (tOr_t (tK (fK (aC (vK rfl) (aC (vK rfl) (aC kK a0C))) hc3)) hb3)) rfl (sN (nI (tK (bK (vK rfl) kK oGt_k)) hb4 nK) (sN (gK (bK (bK (vK rfl) (vK rfl) (hr_at _)) kK oItem_1)) (sCons_x (sUnp_exc (fK (aC (vK rfl) (aC (bK (vK rfl) kK oAdd_k) (aC (bK kK kK oAdd_k) a0C))) hc4))))))))))
    case some =>
      have hc4 : _ = Res.ok (AV.d (.tuple [t, .int (k : Nat)]), σ) := hr
      show _ = Res.ok (AV.d (.tuple [unT (Str.ofString "-") t, .int (k : Nat)]), σ)
      exact ((st_parse_first _ _ _).trans (run_ok0 rfl (sN (nI (tK (fK (aC (vK rfl) (aC (vK rfl) (aC kK a0C))) hc1)) hb1 nK) (sR (tI (tOr_f (tK (fK (aC (vK rfl) (aC (vK rfl) (aC kK a0C))) hc2)) hb2 (tOr_t (tK (fK (aC (vK rfl) (aC (vK rfl) (aC kK a0C))) hc3)) hb3)) rfl (sN (nI (tK (bK (vK rfl) kK oGt_k)) hb4 nK) (sN (gK (bK (bK (vK rfl) (vK rfl) (hr_at _)) kK oItem_1)) (sN (sUnp_k (fK (aC (vK rfl) (aC (bK (vK rfl) kK oAdd_k) (aC (bK kK kK oAdd_k) a0C))) hc4)) (sR (sRet_k (uK (eC (uK (eC kK (eC (vK rfl) (eC (vK rfl) e0C)))) (eC (vK rfl) e0C)))))))))))))
theorem g_first_sgn_x (h : TK ds ts) (h1 : sgn ts i = true) (hl : ¬ l ≤ 7) (hn : ∃ q, n = q + 1) : Gives (n + 1) .parse_first [L ds, I i, I l] none := by
  intro σ
  obtain ⟨q, rfl⟩ := hn
  have hc1 := ev_is_op (n := q) (σ := σ) (i := i) (x := Str.ofString ".NOT.") h
  have hc2 := ev_is_op (n := q) (σ := σ) (i := i) (x := Str.ofString "+") h
  have hc3 := ev_is_op (n := q) (σ := σ) (i := i) (x := Str.ofString "-") h
  have hbl : decide ((7 : Int) < ((l : Nat) : Int)) = true := decide_eq_true (by lia)
  show _ = Res.exc
  cases hp : isOp ts i (Str.ofString "+") with
  | true =>
    have hb1 : isOp ts i (Str.ofString ".NOT.") = false := isOp_ne hp (by decide)
    have hb2 := hp
    have hb3 := hbl
    exact ((st_parse_first _ _ _).trans (run_x rfl (sN (nI (tK (fK (aC (vK rfl) (aC (vK rfl) (aC kK a0C))) hc1)) hb1 nK) (sCons_x (tI (tOr_t (tK (fK (aC (vK rfl) (aC (vK rfl) (aC kK a0C))) hc2)) hb2) rfl (sCons_x (tI (tK (bK (vK rfl) kK oGt_k)) hb3 (sCons_x (sRaise_k kK)))))))))
  | false =>
    have hb3 : isOp ts i (Str.ofString "-") = true := by
      unfold sgn at h1
      rw [hp, Bool.false_or] at h1
      exact h1
    have hb1 : isOp ts i (Str.ofString ".NOT.") = false := isOp_ne hb3 (by decide)
    have hb2 := hp
    have hb4 := hbl
    exact ((st_parse_first _ _ _).trans (run_x rfl (sN (nI (tK (fK (aC (vK rfl) (aC (vK rfl) (aC kK a0C))) hc1)) hb1 nK) (sCons_x (tI (tOr_f (tK (fK (aC (vK rfl) (aC (vK rfl) (aC kK a0C))) hc2)) hb2 (tOr_t (tK (fK (aC (vK rfl) (aC (vK rfl) (aC kK a0C))) hc3)) hb3)) rfl (sCons_x (tI (tK (bK (vK rfl) kK oGt_k)) hb4 (sCons_x (sRaise_k kK)))))))))
theorem g_first_prim (h : TK ds ts) (h1 : isOp ts i (Str.ofString ".NOT.") = false) (h2 : sgn ts i = false) (hc : Gives n .parse_primary [L ds, I i] r) (hn : ∃ q, n = q + 1) : Gives (n + 1) .parse_first [L ds, I i, I l] r := by
  intro σ
  obtain ⟨q, rfl⟩ := hn
  have hc1 := ev_is_op (n := q) (σ := σ) (i := i) (x := Str.ofString ".NOT.") h
  have hc2 := ev_is_op (n := q) (σ := σ) (i := i) (x := Str.ofString "+") h
  have hc3 := ev_is_op (n := q) (σ := σ) (i := i) (x := Str.ofString "-") h
  have hb1 := h1
  have hb2 : isOp ts i (Str.ofString "+") = false := by
    unfold sgn at h2
    cases q : isOp ts i (Str.ofString "+") with
    | false => rfl
    | true => rw [q] at h2; cases h2
  have hb3 : isOp ts i (Str.ofString "-") = false := by
    unfold sgn at h2
    rw [hb2, Bool.false_or] at h2
    exact h2
  have hc4 := hc σ
  rcases r with _ | ⟨t, k⟩
  case none =>
    have hc4 : _ = Res.exc := hc4
    show _ = Res.exc
    exact ((st_parse_first _ _ _).trans (run_x rfl (sN (nI (tK (fK (aC (vK rfl) (aC (vK rfl) (aC kK a0C))) hc1)) hb1 nK) (sN (nI (tOr_f (tK (fK (aC (vK rfl) (aC (vK rfl) (aC kK a0C))) hc2)) hb2 (tOr_f (tK (fK (aC (vK rfl) (aC (vK rfl) (aC kK a0C))) hc3)) hb3 tOr_0)) rfl nK) (sCons_x (sRet_exc (fK (aC (vK rfl) (aC (vK rfl) a0C)) hc4)))))))
  case some =>
    have hc4 : _ = Res.ok (AV.d (.tuple [t, .int (k : Nat)]), σ) := hc4
    show _ = Res.ok (AV.d (.tuple [t, .int (k : Nat)]), σ)
    exact ((st_parse_first _ _ _).trans (run_ok0 rfl (sN (nI (tK (fK (aC (vK rfl) (aC (vK rfl) (aC kK a0C))) hc1)) hb1 nK) (sN (nI (tOr_f (tK (fK (aC (vK rfl) (aC (vK rfl) (aC kK a0C))) hc2)) hb2 (tOr_f (tK (fK (aC (vK rfl) (aC (vK rfl) (aC kK a0C))) hc3)) hb3 tOr_0)) rfl nK) (sR (sRet_k (fK (aC (vK rfl) (aC (vK rfl) a0C)) hc4)))))))
theorem g_prim_name (h : TK ds ts) {s : Str} (h1 : ts[i]? = some (.name s)) (hc : Gives n .parse_named [L ds, I i] r) (hn : ∃ q, n = q + 1) : Gives (n + 1) .parse_primary [L ds, I i] r := by
  intro σ
  obtain ⟨q, rfl⟩ := hn
  have hc1 := ev_kind_at (n := q) (σ := σ) (i := i) h
  have hb1 : (kindAt ts i == Str.ofString "NAME") = true := by unfold kindAt; rw [h1]; rfl
  have hc2 := hc σ
  rcases r with _ | ⟨t, k⟩
  case none =>
    have hc2 : _ = Res.exc := hc2
    show _ = Res.exc
    exact ((st_parse_primary _ _ _).trans (run_x rfl (sN (gK (fK (aC (vK rfl) (aC (vK rfl) a0C)) hc1)) (sCons_x (tI (tK (bK (vK rfl) kK oEq_s)) hb1 (sCons_x (sRet_exc (fK (aC (vK rfl) (aC (vK rfl) a0C)) hc2))))))))
  case some =>
    have hc2 : _ = Res.ok (AV.d (.tuple [t, .int (k : Nat)]), σ) := hc2
    show _ = Res.ok (AV.d (.tuple [t, .int (k : Nat)]), σ)
    exact ((st_parse_primary _ _ _).trans (run_ok0 rfl (sN (gK (fK (aC (vK rfl) (aC (vK rfl) a0C)) hc1)) (sR (tI (tK (bK (vK rfl) kK oEq_s)) hb1 (sR (sRet_k (fK (aC (vK rfl) (aC (vK rfl) a0C)) hc2))))))))
theorem g_prim_br (h : TK ds ts) (h1 : ts[i]? = some (.op (Str.ofString "("))) (hc : Gives n .parse_bracket [L ds, I i] r) (hn : ∃ q, n = q + 1) : Gives (n + 1) .parse_primary [L ds, I i] r := by
  intro σ
  obtain ⟨q, rfl⟩ := hn
  obtain ⟨rr, hr_at⟩ := h.item h1
  have hc1 := ev_kind_at (n := q) (σ := σ) (i := i) h
  have hb1 : (kindAt ts i == Str.ofString "NAME") = false := by unfold kindAt; rw [h1]; rfl
  have hb2 : (kindAt ts i == Str.ofString "OP") = true := by unfold kindAt; rw [h1]; rfl
  have hb3 : (Str.ofString "(" == Str.ofString "(") = true := beq_self_eq_true _
  have hc2 := hc σ
  rcases r with _ | ⟨t, k⟩
  case none =>
    have hc2 : _ = Res.exc := hc2
    show _ = Res.exc
    exact ((st_parse_primary _ _ _).trans (run_x rfl (sN (gK (fK (aC (vK rfl) (aC (vK rfl) a0C)) hc1)) (sN (nI (tK (bK (vK rfl) kK oEq_s)) hb1 nK) (sCons_x (tI (tAnd_t (tK (bK (vK rfl) kK oEq_s)) hb2 (tAnd_t (tK (bK (bK (bK (vK rfl) (vK rfl) (hr_at _)) kK oItem_1) kK oEq_s)) hb3 tAnd_0)) rfl (sCons_x (sRet_exc (fK (aC (vK rfl) (aC (vK rfl) a0C)) hc2)))))))))
  case some =>
    have hc2 : _ = Res.ok (AV.d (.tuple [t, .int (k : Nat)]), σ) := hc2
    show _ = Res.ok (AV.d (.tuple [t, .int (k : Nat)]), σ)
    exact ((st_parse_primary _ _ _).trans (run_ok0 rfl (sN (gK (fK (aC (vK rfl) (aC (vK rfl) a0C)) hc1)) (sN (nI (tK (bK (vK rfl) kK oEq_s)) hb1 nK) (sR (tI (tAnd_t (tK (bK (vK rfl) kK oEq_s)) hb2 (tAnd_t (tK (bK (bK (bK (vK rfl) (vK rfl) (hr_at _)) kK oItem_1) kK oEq_s)) hb3 tAnd_0)) rfl (sR (sRet_k (fK (aC (vK rfl) (aC (vK rfl) a0C)) hc2)))))))))
theorem g_prim_none (h : TK ds ts) (h1 : ts[i]? = none) (hn : ∃ q, n = q + 1) : Gives (n + 1) .parse_primary [L ds, I i] none := by
  intro σ
  obtain ⟨q, rfl⟩ := hn
  have hc1 := ev_kind_at (n := q) (σ := σ) (i := i) h
  have hb1 : (kindAt ts i == Str.ofString "NAME") = false := by unfold kindAt; rw [h1]; rfl
  have hb2 : (kindAt ts i == Str.ofString "OP") = false := by unfold kindAt; rw [h1]; rfl
  have hb3 : (kindAt ts i == Str.ofString "") = true := by unfold kindAt; rw [h1]; rfl
  show _ = Res.exc
  exact ((st_parse_primary _ _ _).trans (run_x rfl (sN (gK (fK (aC (vK rfl) (aC (vK rfl) a0C)) hc1)) (sN (nI (tK (bK (vK rfl) kK oEq_s)) hb1 nK) (sN (nI (tAnd_f (tK (bK (vK rfl) kK oEq_s)) hb2) rfl nK) (sCons_x (tI (tOr_t (tK (bK (vK rfl) kK oEq_s)) hb3) rfl (sCons_x (sRaise_k kK)))))))))
theorem g_prim_op (h : TK ds ts) {s : Str} (h1 : ts[i]? = some (.op s)) (hs : s ≠ Str.ofString "(") (hn : ∃ q, n = q + 1) : Gives (n + 1) .parse_primary [L ds, I i] none := by
  intro σ
  obtain ⟨q, rfl⟩ := hn
  obtain ⟨rr, hr_at⟩ := h.item h1
  have hc1 := ev_kind_at (n := q) (σ := σ) (i := i) h
  have hb1 : (kindAt ts i == Str.ofString "NAME") = false := by unfold kindAt; rw [h1]; rfl
  have hb2 : (kindAt ts i == Str.ofString "OP") = true := by unfold kindAt; rw [h1]; rfl
  have hb3 : (s == Str.ofString "(") = false := beq_false_of_ne hs
  have hb4 : (kindAt ts i == Str.ofString "") = false := by unfold kindAt; rw [h1]; rfl
  have hb5 := hb2
  show _ = Res.exc
  exact ((st_parse_primary _ _ _).trans (run_x rfl (sN (gK (fK (aC (vK rfl) (aC (vK rfl) a0C)) hc1)) (sN (nI (tK (bK (vK rfl) kK oEq_s)) hb1 nK) (sN (nI (tAnd_t (tK (bK (vK rfl) kK oEq_s)) hb2 (tAnd_f (tK (bK (bK (bK (vK rfl) (vK rfl) (hr_at _)) kK oItem_1) kK oEq_s)) hb3)) rfl nK) (sCons_x (tI (tOr_f (tK (bK (vK rfl) kK oEq_s)) hb4 (tOr_t (tK (bK (vK rfl) kK oEq_s)) hb5)) rfl (sCons_x (sRaise_k kK)))))))))
theorem g_prim_const (h : TK ds ts) {t : Tk} (h1 : ts[i]? = some t) (h2 : ∀ s, t ≠ .op s) (h3 : ∀ s, t ≠ .name s) (hn : ∃ q, n = q + 1) : Gives (n + 1) .parse_primary [L ds, I i] (some (consT t 1, i + 1)) := by
  intro σ
  obtain ⟨q, rfl⟩ := hn
  obtain ⟨rr, hr_at⟩ := h.item h1
  have hc1 := ev_kind_at (n := q) (σ := σ) (i := i) h
  have hb1 : (kindAt ts i == Str.ofString "NAME") = false := by unfold kindAt; rw [h1]; cases t <;> first | rfl | exact absurd rfl (h3 _)
  have hb2 : (kindAt ts i == Str.ofString "OP") = false := by unfold kindAt; rw [h1]; cases t <;> first | rfl | exact absurd rfl (h2 _)
  have hb3 : (kindAt ts i == Str.ofString "") = false := by unfold kindAt; rw [h1]; cases t <;> rfl
  have hb4 := hb2
  have hc2 := ev_constant_of (n := q) (σ := σ) (t := t) (s := 1) (.inl rfl)
  have hk : kindAt ts i = t.kind := by unfold kindAt; rw [h1]
  rw [← hk] at hc2
  show _ = Res.ok (AV.d (.tuple [consT t 1, .int ((i + 1 : Nat) : Int)]), σ)
  exact ((st_parse_primary _ _ _).trans (run_ok0 rfl (sN (gK (fK (aC (vK rfl) (aC (vK rfl) a0C)) hc1)) (sN (nI (tK (bK (vK rfl) kK oEq_s)) hb1 nK) (sN (nI (tAnd_f (tK (bK (vK rfl) kK oEq_s)) hb2) rfl nK) (sN (nI (tOr_f (tK (bK (vK rfl) kK oEq_s)) hb3 (tOr_f (tK (bK (vK rfl) kK oEq_s)) hb4 tOr_0)) rfl nK) (sR (sRet_k (uK (eC (fK (aC (vK rfl) (aC (bK (bK (vK rfl) (vK rfl) (hr_at _)) kK oItem_1) (aC kK a0C))) hc2) (eC (bK (vK rfl) kK oAdd_k) e0C)))))))))))
end
section
variable {ds : List PyData} {ts : List Tk} {n : Nat} {i l : Nat} {x : Str} {r : Option (PyData × Nat)}
theorem need_ok {σ : Sto} (h : TK ds ts) (hx : x.length ≤ 10) (ho : isOp ts i x = true) : callF (n + 2) .need_op [L ds, I i, T x] σ = .ok (I (i + 1), σ) := by
  rw [ev_need_op h hx, if_pos ho]
theorem need_x {σ : Sto} (h : TK ds ts) (hx : x.length ≤ 10) (ho : isOp ts i x = false) : callF (n + 2) .need_op [L ds, I i, T x] σ = .exc := by
  rw [ev_need_op h hx, if_neg (by rw [ho]; simp)]
theorem g_br_cplx (h : TK ds ts) {c e : Nat} (h1 : partEnd ts (i + 1) = some c) (h2 : isOp ts c (Str.ofString ",") = true) (h3 : partEnd ts (c + 1) = some e) (h4 : isOp ts e (Str.ofString ")") = true) (hn : ∃ q, n = q + 3) :
    Gives (n + 1) .parse_bracket [L ds, I i] (some (cplxT (partT ts (i + 1)) (partT ts (c + 1)), e + 1)) := by
  intro σ
  obtain ⟨q, rfl⟩ := hn
  have hc1 := ev_is_complex (n := q) (σ := σ) (i := i) h
  have hb1 : isCplx ts i = true := by
    unfold isCplx
    rw [h1]
    dsimp only
    rw [h2, h3, Bool.true_and]
    exact h4
  have hc2 := ev_complex_part (n := q + 1) (σ := σ) h h1
  have hc3 := ev_complex_part (n := q + 1) (σ := σ) h h3
  have hc4 := need_ok (n := q + 1) (σ := σ) h (by decide) h4
  show _ = Res.ok (AV.d (.tuple [cplxT (partT ts (i + 1)) (partT ts (c + 1)), .int ((e + 1 : Nat) : Int)]), σ)
  exact ((st_parse_bracket _ _ _).trans (run_ok0 rfl (sR (tI (tK (fK (aC (vK rfl) (aC (vK rfl) a0C)) hc1)) hb1 (sN (sUnp_k (fK (aC (vK rfl) (aC (bK (vK rfl) kK oAdd_k) a0C)) hc2)) (sN (sUnp_k (fK (aC (vK rfl) (aC (bK (vK rfl) kK oAdd_k) a0C)) hc3)) (sR (sRet_k (uK (eC (uK (eC kK (eC (vK rfl) (eC (vK rfl) e0C)))) (eC (fK (aC (vK rfl) (aC (vK rfl) (aC kK a0C))) hc4) e0C)))))))))))
theorem g_br (h : TK ds ts) (h1 : isCplx ts i = false) (hc : Gives n .parse_expr [L ds, I (i + 1)] r) (hn : ∃ q, n = q + 3) :
    Gives (n + 1) .parse_bracket [L ds, I i] (r.bind fun p => if isOp ts p.2 (Str.ofString ")") = true then some (p.1, p.2 + 1) else none) := by
  intro σ
  obtain ⟨q, rfl⟩ := hn
  have hc1 := ev_is_complex (n := q) (σ := σ) (i := i) h
  have hb1 := h1
  have hc2 := hc σ
  rcases r with _ | ⟨t, k⟩
  case none =>
    have hc2 : _ = Res.exc := hc2
    show _ = Res.exc
    exact ((st_parse_bracket _ _ _).trans (run_x rfl (sN (nI (tK (fK (aC (vK rfl) (aC (vK rfl) a0C)) hc1)) hb1 nK) (sCons_x (sUnp_exc (fK (aC (vK rfl) (aC (bK (vK rfl) kK oAdd_k) a0C)) hc2))))))
  case some =>
    have hc2 : _ = Res.ok (AV.d (.tuple [t, .int (k : Nat)]), σ) := hc2
    show _ = res (if isOp ts k (Str.ofString ")") = true then some (t, k + 1) else none) σ
    cases hk : isOp ts k (Str.ofString ")") with
    | true =>
      have hc3 := need_ok (n := q + 1) (σ := σ) h (by decide) hk
      show _ = Res.ok (AV.d (.tuple [t, .int ((k + 1 : Nat) : Int)]), σ)
      exact ((st_parse_bracket _ _ _).trans (run_ok0 rfl (sN (nI (tK (fK (aC (vK rfl) (aC (vK rfl) a0C)) hc1)) hb1 nK) (sN (sUnp_k (fK (aC (vK rfl) (aC (bK (vK rfl) kK oAdd_k) a0C)) hc2)) (sR (sRet_k (uK (eC (vK rfl) (eC (fK (aC (vK rfl) (aC (vK rfl) (aC kK a0C))) hc3) e0C)))))))))
    | false =>
      have hc3 := need_x (n := q + 1) (σ := σ) h (by decide) hk
      show _ = Res.exc
      exact ((st_parse_bracket _ _ _).trans (run_x rfl (sN (nI (tK (fK (aC (vK rfl) (aC (vK rfl) a0C)) hc1)) hb1 nK) (sN (sUnp_k (fK (aC (vK rfl) (aC (bK (vK rfl) kK oAdd_k) a0C)) hc2)) (sCons_x (sRet_exc (cTup_exc (cEvs_c_exc (vK rfl) (cEvs_exc (fK (aC (vK rfl) (aC (vK rfl) (aC kK a0C))) hc3))))))))))
theorem name_ok {σ : Sto} (h : TK ds ts) {s : Str} (h1 : ts[i]? = some (.name s)) : callF (n + 2) .need_name [L ds, I i] σ = .ok (.d (.tuple [.str s, .int ((i + 1 : Nat))]), σ) := by
  rw [ev_need_name h, h1]
theorem g_named_0 (h : TK ds ts) {s : Str} (h1 : ts[i]? = some (.name s)) (h2 : isOp ts (i + 1) (Str.ofString "(") = false) (hn : ∃ q, n = q + 3) : Gives (n + 1) .parse_named [L ds, I i] (some (nameT s, i + 1)) := by
  intro σ
  obtain ⟨q, rfl⟩ := hn
  have hc1 := name_ok (n := q + 1) (σ := σ) h h1
  have hc2 := ev_is_op (n := q + 2) (σ := σ) (i := i + 1) (x := Str.ofString "(") h
  have hb1 := h2
  show _ = Res.ok (AV.d (.tuple [nameT s, .int ((i + 1 : Nat) : Int)]), σ)
  exact ((st_parse_named _ _ _).trans (run_ok0 rfl (sN (sUnp_k (fK (aC (vK rfl) (aC (vK rfl) a0C)) hc1)) (sN (gK (uK (eC kK (eC (vK rfl) e0C)))) (sR (tI (tNot_k (tK (fK (aC (vK rfl) (aC (vK rfl) (aC kK a0C))) hc2))) (nb_t hb1) (sR (sRet_k (uK (eC (vK rfl) (eC (vK rfl) e0C)))))))))))
theorem g_named_x (h : TK ds ts) {s : Str} (h1 : ts[i]? = some (.name s)) (h2 : isOp ts (i + 1) (Str.ofString "(") = true) (h3 : closeN ts (ds.length - (i + 1)) (i + 1) 0 = none) (hn : ∃ q, n = q + 3) : Gives (n + 1) .parse_named [L ds, I i] none := by
  intro σ
  obtain ⟨q, rfl⟩ := hn
  have hc1 := name_ok (n := q + 1) (σ := σ) h h1
  have hc2 := ev_is_op (n := q + 2) (σ := σ) (i := i + 1) (x := Str.ofString "(") h
  have hb1 := h2
  have hlt := h.lt (isOp_iff.mp h2)
  have hc := ev_is_cut (n := q) (σ := σ) (i := i + 1) h (by lia)
  rw [h3] at hc
  have hc3 : _ = Res.exc := hc
  show _ = Res.exc
  exact ((st_parse_named _ _ _).trans (run_x rfl (sN (sUnp_k (fK (aC (vK rfl) (aC (vK rfl) a0C)) hc1)) (sN (gK (uK (eC kK (eC (vK rfl) e0C)))) (sN (nI (tNot_k (tK (fK (aC (vK rfl) (aC (vK rfl) (aC kK a0C))) hc2))) (nb_f hb1) nK) (sCons_x (sIf_exc (tNot_exc (tE_exc (fK (aC (vK rfl) (aC (vK rfl) a0C)) hc3))))))))))
theorem g_named_cut (h : TK ds ts) {s : Str} (h1 : ts[i]? = some (.name s)) (h2 : isOp ts (i + 1) (Str.ofString "(") = true) {e : Nat} (h3 : closeN ts (ds.length - (i + 1)) (i + 1) 0 = some e) (h4 : cutN ts (e - (i + 2)) (i + 2) 0 = true)
    (hc : Gives n .parse_cut [L ds, I (i + 1), .d (nameT s)] r) (hn : ∃ q, n = q + 3) : Gives (n + 1) .parse_named [L ds, I i] r := by
  intro σ
  obtain ⟨q, rfl⟩ := hn
  have hc1 := name_ok (n := q + 1) (σ := σ) h h1
  have hc2 := ev_is_op (n := q + 2) (σ := σ) (i := i + 1) (x := Str.ofString "(") h
  have hb1 := h2
  have hlt := h.lt (isOp_iff.mp h2)
  have hcc := ev_is_cut (n := q) (σ := σ) (i := i + 1) h (by lia)
  rw [h3] at hcc
  have hc3 : _ = Res.ok (Bo (cutN ts (e - (i + 2)) (i + 2) 0), σ) := hcc
  have hb2 := h4
  have hc4 := hc2
  have hb3 := h2
  have hc5 := hc σ
  rcases r with _ | ⟨t, k⟩
  case none =>
    have hc5 : _ = Res.exc := hc5
    show _ = Res.exc
    exact ((st_parse_named _ _ _).trans (run_x rfl (sN (sUnp_k (fK (aC (vK rfl) (aC (vK rfl) a0C)) hc1)) (sN (gK (uK (eC kK (eC (vK rfl) e0C)))) (sN (nI (tNot_k (tK (fK (aC (vK rfl) (aC (vK rfl) (aC kK a0C))) hc2))) (nb_f hb1) nK) (sN (nI (tNot_k (tK (fK (aC (vK rfl) (aC (vK rfl) a0C)) hc3))) (nb_f hb2) nK) (sCons_x (tI (tK (fK (aC (vK rfl) (aC (vK rfl) (aC kK a0C))) hc4)) hb3 (sCons_x (sRet_exc (fK (aC (vK rfl) (aC (vK rfl) (aC (vK rfl) a0C))) hc5)))))))))))
  case some =>
    have hc5 : _ = Res.ok (AV.d (.tuple [t, .int (k : Nat)]), σ) := hc5
    show _ = Res.ok (AV.d (.tuple [t, .int (k : Nat)]), σ)
    exact ((st_parse_named _ _ _).trans (run_ok0 rfl (sN (sUnp_k (fK (aC (vK rfl) (aC (vK rfl) a0C)) hc1)) (sN (gK (uK (eC kK (eC (vK rfl) e0C)))) (sN (nI (tNot_k (tK (fK (aC (vK rfl) (aC (vK rfl) (aC kK a0C))) hc2))) (nb_f hb1) nK) (sN (nI (tNot_k (tK (fK (aC (vK rfl) (aC (vK rfl) a0C)) hc3))) (nb_f hb2) nK) (sR (tI (tK (fK (aC (vK rfl) (aC (vK rfl) (aC kK a0C))) hc4)) hb3 (sR (sRet_k (fK (aC (vK rfl) (aC (vK rfl) (aC (vK rfl) a0C))) hc5)))))))))))
noncomputable def resL (r : Option (List PyData × Nat)) (σ : Sto) : Res (AV × Sto) := match r with
  | none => .exc
  | some (t, k) => .ok (.d (.tuple [.list t, .int (k : Nat)]), σ)
noncomputable def GivesL (n : Nat) (f : Fn) (as : List AV) (r : Option (List PyData × Nat)) : Prop := ∀ σ, callF n f as σ = resL r σ
theorem g_named_args_x (h : TK ds ts) {s : Str} (h1 : ts[i]? = some (.name s)) (h2 : isOp ts (i + 1) (Str.ofString "(") = true) {e : Nat} (h3 : closeN ts (ds.length - (i + 1)) (i + 1) 0 = some e) (h4 : cutN ts (e - (i + 2)) (i + 2) 0 = false)
    (hc : GivesL n .parse_arguments [L ds, I (i + 1), Bo false] none) (hn : ∃ q, n = q + 3) : Gives (n + 1) .parse_named [L ds, I i] none := by
  intro σ
  obtain ⟨q, rfl⟩ := hn
  have hc1 := name_ok (n := q + 1) (σ := σ) h h1
  have hc2 := ev_is_op (n := q + 2) (σ := σ) (i := i + 1) (x := Str.ofString "(") h
  have hb1 := h2
  have hlt := h.lt (isOp_iff.mp h2)
  have hcc := ev_is_cut (n := q) (σ := σ) (i := i + 1) h (by lia)
  rw [h3] at hcc
  have hc3 : _ = Res.ok (Bo (cutN ts (e - (i + 2)) (i + 2) 0), σ) := hcc
  have hb2 := h4
  have hc4 : _ = Res.exc := hc σ
  show _ = Res.exc
  exact ((st_parse_named _ _ _).trans (run_x rfl (sN (sUnp_k (fK (aC (vK rfl) (aC (vK rfl) a0C)) hc1)) (sN (gK (uK (eC kK (eC (vK rfl) e0C)))) (sN (nI (tNot_k (tK (fK (aC (vK rfl) (aC (vK rfl) (aC kK a0C))) hc2))) (nb_f hb1) nK) (sCons_x (tI (tNot_k (tK (fK (aC (vK rfl) (aC (vK rfl) a0C)) hc3))) (nb_t hb2) (sCons_x (sUnp_exc (fK (aC (vK rfl) (aC (vK rfl) (aC kK a0C))) hc4))))))))))
theorem g_named_args (h : TK ds ts) {s : Str} (h1 : ts[i]? = some (.name s)) (h2 : isOp ts (i + 1) (Str.ofString "(") = true) {e : Nat} (h3 : closeN ts (ds.length - (i + 1)) (i + 1) 0 = some e) (h4 : cutN ts (e - (i + 2)) (i + 2) 0 = false) {rows : List PyData} {k : Nat}
    (hc : GivesL n .parse_arguments [L ds, I (i + 1), Bo false] (some (rows, k))) (hn : ∃ q, n = q + 3) (h5 : isOp ts k (Str.ofString "(") = false) : Gives (n + 1) .parse_named [L ds, I i] (some (refT s rows, k)) := by
  intro σ
  obtain ⟨q, rfl⟩ := hn
  have hc1 := name_ok (n := q + 1) (σ := σ) h h1
  have hc2 := ev_is_op (n := q + 2) (σ := σ) (i := i + 1) (x := Str.ofString "(") h
  have hb1 := h2
  have hlt := h.lt (isOp_iff.mp h2)
  have hcc := ev_is_cut (n := q) (σ := σ) (i := i + 1) h (by lia)
  rw [h3] at hcc
  have hc3 : _ = Res.ok (Bo (cutN ts (e - (i + 2)) (i + 2) 0), σ) := hcc
  have hb2 := h4
  have hc4 : _ = Res.ok (AV.d (.tuple [.list rows, .int (k : Nat)]), σ) := hc σ
  have hc5 := ev_is_op (n := q + 2) (σ := σ) (i := k) (x := Str.ofString "(") h
  have hb3 := h5
  show _ = Res.ok (AV.d (.tuple [refT s rows, .int (k : Nat)]), σ)
  exact ((st_parse_named _ _ _).trans (run_ok0 rfl (sN (sUnp_k (fK (aC (vK rfl) (aC (vK rfl) a0C)) hc1)) (sN (gK (uK (eC kK (eC (vK rfl) e0C)))) (sN (nI (tNot_k (tK (fK (aC (vK rfl) (aC (vK rfl) (aC kK a0C))) hc2))) (nb_f hb1) nK) (sN (tI (tNot_k (tK (fK (aC (vK rfl) (aC (vK rfl) a0C)) hc3))) (nb_t hb2) (sN (sUnp_k (fK (aC (vK rfl) (aC (vK rfl) (aC kK a0C))) hc4)) (sN (gK (uK (eC kK (eC (vK rfl) (eC (vK rfl) e0C))))) nK))) (sN (nI (tK (fK (aC (vK rfl) (aC (vK rfl) (aC kK a0C))) hc5)) hb3 nK) (sR (sRet_k (uK (eC (vK rfl) (eC (vK rfl) e0C))))))))))))
theorem g_named_args_cut (h : TK ds ts) {s : Str} (h1 : ts[i]? = some (.name s)) (h2 : isOp ts (i + 1) (Str.ofString "(") = true) {e : Nat} (h3 : closeN ts (ds.length - (i + 1)) (i + 1) 0 = some e) (h4 : cutN ts (e - (i + 2)) (i + 2) 0 = false) {rows : List PyData} {k : Nat}
    (hc : GivesL n .parse_arguments [L ds, I (i + 1), Bo false] (some (rows, k))) (hn : ∃ q, n = q + 3) (h5 : isOp ts k (Str.ofString "(") = true) (hcut : Gives n .parse_cut [L ds, I k, .d (refT s rows)] r) : Gives (n + 1) .parse_named [L ds, I i] r := by
  intro σ
  obtain ⟨q, rfl⟩ := hn
  have hc1 := name_ok (n := q + 1) (σ := σ) h h1
  have hc2 := ev_is_op (n := q + 2) (σ := σ) (i := i + 1) (x := Str.ofString "(") h
  have hb1 := h2
  have hlt := h.lt (isOp_iff.mp h2)
  have hcc := ev_is_cut (n := q) (σ := σ) (i := i + 1) h (by lia)
  rw [h3] at hcc
  have hc3 : _ = Res.ok (Bo (cutN ts (e - (i + 2)) (i + 2) 0), σ) := hcc
  have hb2 := h4
  have hc4 : _ = Res.ok (AV.d (.tuple [.list rows, .int (k : Nat)]), σ) := hc σ
  have hc5 := ev_is_op (n := q + 2) (σ := σ) (i := k) (x := Str.ofString "(") h
  have hb3 := h5
  have hc6 := hcut σ
  rcases r with _ | ⟨t, k2⟩
  case none =>
    have hc6 : _ = Res.exc := hc6
    show _ = Res.exc
    exact ((st_parse_named _ _ _).trans (run_x rfl (sN (sUnp_k (fK (aC (vK rfl) (aC (vK rfl) a0C)) hc1)) (sN (gK (uK (eC kK (eC (vK rfl) e0C)))) (sN (nI (tNot_k (tK (fK (aC (vK rfl) (aC (vK rfl) (aC kK a0C))) hc2))) (nb_f hb1) nK) (sN (tI (tNot_k (tK (fK (aC (vK rfl) (aC (vK rfl) a0C)) hc3))) (nb_t hb2) (sN (sUnp_k (fK (aC (vK rfl) (aC (vK rfl) (aC kK a0C))) hc4)) (sN (gK (uK (eC kK (eC (vK rfl) (eC (vK rfl) e0C))))) nK))) (sCons_x (tI (tK (fK (aC (vK rfl) (aC (vK rfl) (aC kK a0C))) hc5)) hb3 (sCons_x (sRet_exc (fK (aC (vK rfl) (aC (vK rfl) (aC (vK rfl) a0C))) hc6)))))))))))
  case some =>
    have hc6 : _ = Res.ok (AV.d (.tuple [t, .int (k2 : Nat)]), σ) := hc6
    show _ = Res.ok (AV.d (.tuple [t, .int (k2 : Nat)]), σ)
    exact ((st_parse_named _ _ _).trans (run_ok0 rfl (sN (sUnp_k (fK (aC (vK rfl) (aC (vK rfl) a0C)) hc1)) (sN (gK (uK (eC kK (eC (vK rfl) e0C)))) (sN (nI (tNot_k (tK (fK (aC (vK rfl) (aC (vK rfl) (aC kK a0C))) hc2))) (nb_f hb1) nK) (sN (tI (tNot_k (tK (fK (aC (vK rfl) (aC (vK rfl) a0C)) hc3))) (nb_t hb2) (sN (sUnp_k (fK (aC (vK rfl) (aC (vK rfl) (aC kK a0C))) hc4)) (sN (gK (uK (eC kK (eC (vK rfl) (eC (vK rfl) e0C))))) nK))) (sR (tI (tK (fK (aC (vK rfl) (aC (vK rfl) (aC kK a0C))) hc5)) hb3 (sR (sRet_k (fK (aC (vK rfl) (aC (vK rfl) (aC (vK rfl) a0C))) hc6)))))))))))
noncomputable def optR (r : Option (PyData × Nat)) (i : Nat) (c : Bool) : Option (PyData × Nat) := if c = true then some (.none, i) else r
theorem g_cut (h : TK ds ts) {base : PyData} (h1 : isOp ts i (Str.ofString "(") = true) {r1 : Option (PyData × Nat)} {r2 : Nat → Option (PyData × Nat)}
    (hc1' : isOp ts (i + 1) (Str.ofString ":") = false → Gives n .parse_expr [L ds, I (i + 1)] r1) (hc2' : ∀ t k, optR r1 (i + 1) (isOp ts (i + 1) (Str.ofString ":")) = some (t, k) → isOp ts k (Str.ofString ":") = true → isOp ts (k + 1) (Str.ofString ")") = false → Gives n .parse_expr [L ds, I (k + 1)] (r2 (k + 1))) (hn : ∃ q, n = q + 3) :
    Gives (n + 1) .parse_cut [L ds, I i, .d base] ((optR r1 (i + 1) (isOp ts (i + 1) (Str.ofString ":"))).bind fun a => if isOp ts a.2 (Str.ofString ":") = true then
      (optR (r2 (a.2 + 1)) (a.2 + 1) (isOp ts (a.2 + 1) (Str.ofString ")"))).bind fun b => if isOp ts b.2 (Str.ofString ")") = true then some (subT base a.1 b.1, b.2 + 1) else none else none) := by
  intro σ
  obtain ⟨q, rfl⟩ := hn
  have hc1 := need_ok (n := q + 1) (σ := σ) h (by decide) h1
  have hc2 := ev_is_op (n := q + 2) (σ := σ) (i := i + 1) (x := Str.ofString ":") h
  cases hb1 : isOp ts (i + 1) (Str.ofString ":") with
  | true =>
    show _ = res (if isOp ts (i + 1) (Str.ofString ":") = true then _ else none) σ
    rw [if_pos hb1]
    have hc3 := need_ok (n := q + 1) (σ := σ) h (by decide) hb1
    have hc4 := ev_is_op (n := q + 2) (σ := σ) (i := i + 1 + 1) (x := Str.ofString ")") h
    cases hb2 : isOp ts (i + 1 + 1) (Str.ofString ")") with
    | true =>
      show _ = res (if isOp ts (i + 1 + 1) (Str.ofString ")") = true then _ else none) σ
      rw [if_pos hb2]
      have hc5 := need_ok (n := q + 1) (σ := σ) h (by decide) hb2
      show _ = Res.ok (AV.d (.tuple [subT base .none .none, .int ((i + 1 + 1 + 1 : Nat) : Int)]), σ)
      exact ((st_parse_cut _ _ _).trans (run_ok0 rfl (sN (gK (fK (aC (vK rfl) (aC (vK rfl) (aC kK a0C))) hc1)) (sN (gK kK) (sN (gK kK) (sN (nI (tNot_k (tK (fK (aC (vK rfl) (aC (vK rfl) (aC kK a0C))) hc2))) (nb_f hb1) nK) (sN (gK (fK (aC (vK rfl) (aC (vK rfl) (aC kK a0C))) hc3)) (sN (nI (tNot_k (tK (fK (aC (vK rfl) (aC (vK rfl) (aC kK a0C))) hc4))) (nb_f hb2) nK) (sR (sRet_k (uK (eC (uK (eC kK (eC (vK rfl) (eC (vK rfl) (eC (vK rfl) e0C))))) (eC (fK (aC (vK rfl) (aC (vK rfl) (aC kK a0C))) hc5) e0C)))))))))))))
    | false =>
      have hc5 := hc2' .none (i + 1) (by rw [hb1]; rfl) hb1 hb2 σ
      show _ = res ((r2 (i + 1 + 1)).bind _) σ
      match hr : r2 (i + 1 + 1), hc5 with
      | none, hc5 =>
        have hc5 : _ = Res.exc := hc5
        show _ = Res.exc
        exact ((st_parse_cut _ _ _).trans (run_x rfl (sN (gK (fK (aC (vK rfl) (aC (vK rfl) (aC kK a0C))) hc1)) (sN (gK kK) (sN (gK kK) (sN (nI (tNot_k (tK (fK (aC (vK rfl) (aC (vK rfl) (aC kK a0C))) hc2))) (nb_f hb1) nK) (sN (gK (fK (aC (vK rfl) (aC (vK rfl) (aC kK a0C))) hc3)) (sCons_x (tI (tNot_k (tK (fK (aC (vK rfl) (aC (vK rfl) (aC kK a0C))) hc4))) (nb_t hb2) (sCons_x (sUnp_exc (fK (aC (vK rfl) (aC (vK rfl) a0C)) hc5))))))))))))
      | some (t, k), hc5 =>
        have hc5 : _ = Res.ok (AV.d (.tuple [t, .int (k : Nat)]), σ) := hc5
        show _ = res (if isOp ts k (Str.ofString ")") = true then some (subT base .none t, k + 1) else none) σ
        cases hk : isOp ts k (Str.ofString ")") with
        | true =>
          have hc6 := need_ok (n := q + 1) (σ := σ) h (by decide) hk
          show _ = Res.ok (AV.d (.tuple [subT base .none t, .int ((k + 1 : Nat) : Int)]), σ)
          exact ((st_parse_cut _ _ _).trans (run_ok0 rfl (sN (gK (fK (aC (vK rfl) (aC (vK rfl) (aC kK a0C))) hc1)) (sN (gK kK) (sN (gK kK) (sN (nI (tNot_k (tK (fK (aC (vK rfl) (aC (vK rfl) (aC kK a0C))) hc2))) (nb_f hb1) nK) (sN (gK (fK (aC (vK rfl) (aC (vK rfl) (aC kK a0C))) hc3)) (sN (tI (tNot_k (tK (fK (aC (vK rfl) (aC (vK rfl) (aC kK a0C))) hc4))) (nb_t hb2) (sN (sUnp_k (fK (aC (vK rfl) (aC (vK rfl) a0C)) hc5)) nK)) (sR (sRet_k (uK (eC (uK (eC kK (eC (vK rfl) (eC (vK rfl) (eC (vK rfl) e0C))))) (eC (fK (aC (vK rfl) (aC (vK rfl) (aC kK a0C))) hc6) e0C)))))))))))))
        | false =>
          have hc6 := need_x (n := q + 1) (σ := σ) h (by decide) hk
          show _ = Res.exc
          exact ((st_parse_cut _ _ _).trans (run_x rfl (sN (gK (fK (aC (vK rfl) (aC (vK rfl) (aC kK a0C))) hc1)) (sN (gK kK) (sN (gK kK) (sN (nI (tNot_k (tK (fK (aC (vK rfl) (aC (vK rfl) (aC kK a0C))) hc2))) (nb_f hb1) nK) (sN (gK (fK (aC (vK rfl) (aC (vK rfl) (aC kK a0C))) hc3)) (sN (tI (tNot_k (tK (fK (aC (vK rfl) (aC (vK rfl) (aC kK a0C))) hc4))) (nb_t hb2) (sN (sUnp_k (fK (aC (vK rfl) (aC (vK rfl) a0C)) hc5)) nK)) (sCons_x (sRet_exc (cTup_exc (cEvs_c_exc (uK (eC kK (eC (vK rfl) (eC (vK rfl) (eC (vK rfl) e0C))))) (cEvs_exc (fK (aC (vK rfl) (aC (vK rfl) (aC kK a0C))) hc6))))))))))))))
  | false =>
    have hc3 := hc1' hb1 σ
    show _ = res (r1.bind _) σ
    match hr1 : r1, hc3 with
    | none, hc3 =>
      have hc3 : _ = Res.exc := hc3
      show _ = Res.exc
      exact ((st_parse_cut _ _ _).trans (run_x rfl (sN (gK (fK (aC (vK rfl) (aC (vK rfl) (aC kK a0C))) hc1)) (sN (gK kK) (sN (gK kK) (sCons_x (tI (tNot_k (tK (fK (aC (vK rfl) (aC (vK rfl) (aC kK a0C))) hc2))) (nb_t hb1) (sCons_x (sUnp_exc (fK (aC (vK rfl) (aC (vK rfl) a0C)) hc3))))))))))
    | some (t1, k1), hc3 =>
      have hc3 : _ = Res.ok (AV.d (.tuple [t1, .int (k1 : Nat)]), σ) := hc3
      show _ = res (if isOp ts k1 (Str.ofString ":") = true then _ else none) σ
      cases hk1 : isOp ts k1 (Str.ofString ":") with
      | false =>
        rw [if_neg (by simp)]
        have hc4 := need_x (n := q + 1) (σ := σ) h (by decide) hk1
        show _ = Res.exc
        exact ((st_parse_cut _ _ _).trans (run_x rfl (sN (gK (fK (aC (vK rfl) (aC (vK rfl) (aC kK a0C))) hc1)) (sN (gK kK) (sN (gK kK) (sN (tI (tNot_k (tK (fK (aC (vK rfl) (aC (vK rfl) (aC kK a0C))) hc2))) (nb_t hb1) (sN (sUnp_k (fK (aC (vK rfl) (aC (vK rfl) a0C)) hc3)) nK)) (sCons_x (sAsg_exc (fK (aC (vK rfl) (aC (vK rfl) (aC kK a0C))) hc4)))))))))
      | true =>
        rw [if_pos rfl]
        have hc4 := need_ok (n := q + 1) (σ := σ) h (by decide) hk1
        have hc5 := ev_is_op (n := q + 2) (σ := σ) (i := k1 + 1) (x := Str.ofString ")") h
        cases hb2 : isOp ts (k1 + 1) (Str.ofString ")") with
        | true =>
          show _ = res (if isOp ts (k1 + 1) (Str.ofString ")") = true then _ else none) σ
          rw [if_pos hb2]
          have hc6 := need_ok (n := q + 1) (σ := σ) h (by decide) hb2
          show _ = Res.ok (AV.d (.tuple [subT base t1 .none, .int ((k1 + 1 + 1 : Nat) : Int)]), σ)
          exact ((st_parse_cut _ _ _).trans (run_ok0 rfl (sN (gK (fK (aC (vK rfl) (aC (vK rfl) (aC kK a0C))) hc1)) (sN (gK kK) (sN (gK kK) (sN (tI (tNot_k (tK (fK (aC (vK rfl) (aC (vK rfl) (aC kK a0C))) hc2))) (nb_t hb1) (sN (sUnp_k (fK (aC (vK rfl) (aC (vK rfl) a0C)) hc3)) nK)) (sN (gK (fK (aC (vK rfl) (aC (vK rfl) (aC kK a0C))) hc4)) (sN (nI (tNot_k (tK (fK (aC (vK rfl) (aC (vK rfl) (aC kK a0C))) hc5))) (nb_f hb2) nK) (sR (sRet_k (uK (eC (uK (eC kK (eC (vK rfl) (eC (vK rfl) (eC (vK rfl) e0C))))) (eC (fK (aC (vK rfl) (aC (vK rfl) (aC kK a0C))) hc6) e0C)))))))))))))
        | false =>
          have hc6 := hc2' t1 k1 (by rw [hb1]; rfl) hk1 hb2 σ
          show _ = res ((r2 (k1 + 1)).bind _) σ
          match hr : r2 (k1 + 1), hc6 with
          | none, hc6 =>
            have hc6 : _ = Res.exc := hc6
            show _ = Res.exc
            exact ((st_parse_cut _ _ _).trans (run_x rfl (sN (gK (fK (aC (vK rfl) (aC (vK rfl) (aC kK a0C))) hc1)) (sN (gK kK) (sN (gK kK) (sN (tI (tNot_k (tK (fK (aC (vK rfl) (aC (vK rfl) (aC kK a0C))) hc2))) (nb_t hb1) (sN (sUnp_k (fK (aC (vK rfl) (aC (vK rfl) a0C)) hc3)) nK)) (sN (gK (fK (aC (vK rfl) (aC (vK rfl) (aC kK a0C))) hc4)) (sCons_x (tI (tNot_k (tK (fK (aC (vK rfl) (aC (vK rfl) (aC kK a0C))) hc5))) (nb_t hb2) (sCons_x (sUnp_exc (fK (aC (vK rfl) (aC (vK rfl) a0C)) hc6))))))))))))
          | some (t, k), hc6 =>
            have hc6 : _ = Res.ok (AV.d (.tuple [t, .int (k : Nat)]), σ) := hc6
            show _ = res (if isOp ts k (Str.ofString ")") = true then some (subT base t1 t, k + 1) else none) σ
            cases hk : isOp ts k (Str.ofString ")") with
            | true =>
              have hc7 := need_ok (n := q + 1) (σ := σ) h (by decide) hk
              show _ = Res.ok (AV.d (.tuple [subT base t1 t, .int ((k + 1 : Nat) : Int)]), σ)
              exact ((st_parse_cut _ _ _).trans (run_ok0 rfl (sN (gK (fK (aC (vK rfl) (aC (vK rfl) (aC kK a0C))) hc1)) (sN (gK kK) (sN (gK kK) (sN (tI (tNot_k (tK (fK (aC (vK rfl) (aC (vK rfl) (aC kK a0C))) hc2))) (nb_t hb1) (sN (sUnp_k (fK (aC (vK rfl) (aC (vK rfl) a0C)) hc3)) nK)) (sN (gK (fK (aC (vK rfl) (aC (vK rfl) (aC kK a0C))) hc4)) (sN (tI (tNot_k (tK (fK (aC (vK rfl) (aC (vK rfl) (aC kK a0C))) hc5))) (nb_t hb2) (sN (sUnp_k (fK (aC (vK rfl) (aC (vK rfl) a0C)) hc6)) nK)) (sR (sRet_k (uK (eC (uK (eC kK (eC (vK rfl) (eC (vK rfl) (eC (vK rfl) e0C))))) (eC (fK (aC (vK rfl) (aC (vK rfl) (aC kK a0C))) hc7) e0C)))))))))))))
            | false =>
              have hc7 := need_x (n := q + 1) (σ := σ) h (by decide) hk
              show _ = Res.exc
              exact ((st_parse_cut _ _ _).trans (run_x rfl (sN (gK (fK (aC (vK rfl) (aC (vK rfl) (aC kK a0C))) hc1)) (sN (gK kK) (sN (gK kK) (sN (tI (tNot_k (tK (fK (aC (vK rfl) (aC (vK rfl) (aC kK a0C))) hc2))) (nb_t hb1) (sN (sUnp_k (fK (aC (vK rfl) (aC (vK rfl) a0C)) hc3)) nK)) (sN (gK (fK (aC (vK rfl) (aC (vK rfl) (aC kK a0C))) hc4)) (sN (tI (tNot_k (tK (fK (aC (vK rfl) (aC (vK rfl) (aC kK a0C))) hc5))) (nb_t hb2) (sN (sUnp_k (fK (aC (vK rfl) (aC (vK rfl) a0C)) hc6)) nK)) (sCons_x (sRet_exc (cTup_exc (cEvs_c_exc (uK (eC kK (eC (vK rfl) (eC (vK rfl) (eC (vK rfl) e0C))))) (cEvs_exc (fK (aC (vK rfl) (aC (vK rfl) (aC kK a0C))) hc7))))))))))))))
end
theorem run_okt {ar nn : Nat} {b : SC} {o : Orc} {ρ' : Rho} {σ σ' : Sto} {avs : List AV} {d : PyData} (hl : avs.length = ar) (h : b o (avs.map some ++ List.replicate (nn - ar) none) σ = .ok (.ret (.d d), ρ', σ')) (ht : σ'.take σ.length = σ) : runF ar nn b o avs σ = .ok (.d d, σ) := by
  unfold runF; rw [if_pos hl, h]; show Res.ok (AV.d d, σ'.take σ.length) = _; rw [ht]
theorem last_get {σ : Sto} {a : Option (List PyData)} : (σ ++ [a])[σ.length]? = some a := by simp
theorem last_set {σ : Sto} {a b : Option (List PyData)} : (σ ++ [a]).set σ.length b = σ ++ [b] := by simp
theorem last_take {σ : Sto} {a : Option (List PyData)} : (σ ++ [a]).take σ.length = σ := by simp
theorem fuel_eq (c : Nat) (h : c ≤ 1000) : ∃ q, fuel0 = c + 1 + q := ⟨fuel0 - (c + 1), by have : fuel0 = 1000000 := rfl; lia⟩
noncomputable def argT : TC := tE (cK (.bool true))
noncomputable def argB : SC := sCons (sIf (tAnd [tE (cV 2), tE (cCall .is_op [cV 0, cV 1, cK (.str (Str.ofString "*"))])]) (sCons (sUnp 4 1 (cCall .need_int [cV 0, cBin oAdd (cV 1) (cK (.int 1))])) (sCons (sApp 3 (cTup [cK (.str (Str.ofString "alt")), cV 4])) (sNil))) (sCons (sUnp 5 1 (cCall .parse_expr [cV 0, cV 1])) (sCons (sApp 3 (cV 5)) (sNil)))) (sCons (sIf (tNot (tE (cCall .is_op [cV 0, cV 1, cK (.str (Str.ofString ","))]))) (sCons (sRet (cTup [cV 3, cCall .need_op [cV 0, cV 1, cK (.str (Str.ofString ")"))]])) (sNil)) (sNil)) (sCons (sAug 1 oAdd (cK (.int 1))) (sNil)))
noncomputable def binTst : TC := tE (cBin oGe (cCall .priority_at [cV 0, cV 1]) (cV 2))
noncomputable def binB : SC := sCons (sAsg 5 (cCall .priority_at [cV 0, cV 1])) (sCons (sAsg 6 (cBin oItem (cBin oItem (cV 0) (cV 1)) (cK (.int 1)))) (sCons (sIf (tAnd [tE (cBin oEq (cV 5) (cK (.int 5))), tE (cV 4)]) (sCons (sRaise (cK (.str (Str.ofString "a relation behind a relation")))) (sNil)) (sNil)) (sCons (sIf (tE (cBin oEq (cV 5) (cK (.int 9)))) (sCons (sUnp 7 1 (cCall .parse_binary [cV 0, cBin oAdd (cV 1) (cK (.int 1)), cK (.int 9)])) (sNil)) (sCons (sUnp 7 1 (cCall .parse_binary [cV 0, cBin oAdd (cV 1) (cK (.int 1)), cBin oAdd (cV 5) (cK (.int 1))])) (sNil))) (sCons (sAsg 3 (cTup [cK (.str (Str.ofString "bin")), cV 6, cV 3, cV 7])) (sCons (sAsg 4 (cBin oEq (cV 5) (cK (.int 5)))) (sNil))))))
section
variable {ds : List PyData} {ts : List Tk} {n : Nat} {i l : Nat} {x : Str} {r : Option (PyData × Nat)}
inductive ArgRun (n : Nat) (ds : List PyData) (ts : List Tk) : Nat → Nat → List PyData → Option (List PyData × Nat) → Prop
  | x {k acc} : Gives n .parse_expr [L ds, I k] none → ArgRun n ds ts 0 k acc none
  | comma {c k acc t k' r} : Gives n .parse_expr [L ds, I k] (some (t, k')) → isOp ts k' (Str.ofString ",") = true → ArgRun n ds ts c (k' + 1) (acc ++ [t]) r → ArgRun n ds ts (c + 1) k acc r
  | fin {k acc t k'} : Gives n .parse_expr [L ds, I k] (some (t, k')) → isOp ts k' (Str.ofString ",") = false → isOp ts k' (Str.ofString ")") = true → ArgRun n ds ts 0 k acc (some (acc ++ [t], k' + 1))
  | bad {k acc t k'} : Gives n .parse_expr [L ds, I k] (some (t, k')) → isOp ts k' (Str.ofString ",") = false → isOp ts k' (Str.ofString ")") = false → ArgRun n ds ts 0 k acc none
noncomputable def argRes (σ : Sto) (ρ : Rho) (r : Option (List PyData × Nat)) : Res (Fl × Rho × Sto) := match r with
  | none => .exc
  | some (t, k) => .ok (.ret (.d (.tuple [.list t, .int (k : Nat)])), ρ, σ ++ [none])
theorem arg_loop (h : TK ds ts) (hn : ∃ q, n = q + 3) {σ : Sto} {c k : Nat} {acc : List PyData} {r : Option (List PyData × Nat)} (a : ArgRun n ds ts c k acc r) : ∀ {m : Nat} {y4 y5 : Option AV} {rs : Rho}, acc.length + c ≤ 990 → c + 1 ≤ m →
    ∃ ρ', whileL argT argB m (callF n) (some (L ds) :: some (I k) :: some (Bo false) :: some (.loc σ.length) :: y4 :: y5 :: rs) (σ ++ [some acc]) = argRes σ ρ' r := by
  have hb0 : true = true := rfl
  have hb1 : false = false := rfl
  obtain ⟨q, rfl⟩ := hn
  induction a with
  | @x k acc hg =>
    intro m y4 y5 rs hz hm
    obtain ⟨m, rfl⟩ : ∃ q, m = q + 1 := ⟨m - 1, by lia⟩
    have hc1 : _ = Res.exc := hg (σ ++ [some acc])
    exact ⟨[], while_x (tK kK) hb0 (sCons_x (nI (tAnd_f (tK (vK rfl)) hb1) rfl (sCons_x (sUnp_exc (fK (aC (vK rfl) (aC (vK rfl) a0C)) hc1)))))⟩
  | @comma c k acc t k' r hg hk _ ih =>
    intro m y4 y5 rs hz hm
    obtain ⟨m, rfl⟩ : ∃ q, m = q + 1 := ⟨m - 1, by lia⟩
    have hc1 : _ = Res.ok (AV.d (.tuple [t, .int (k' : Nat)]), σ ++ [some acc]) := hg (σ ++ [some acc])
    have hs1 := last_get (σ := σ) (a := some acc)
    have hs2 := hs1
    have hz1 : acc.length ≤ 1000 := by lia
    have hc2 := ev_is_op (n := q + 2) (σ := (σ ++ [some acc]).set σ.length (some (acc ++ [t]))) (i := k') (x := Str.ofString ",") h
    have hb2 := hk
    obtain ⟨ρ', e⟩ := ih (m := m) (y4 := y4) (y5 := some (.d t)) (rs := rs) (by rw [List.length_append, List.length_singleton]; lia) (by lia)
    rw [← last_set (σ := σ) (a := some acc)] at e
    exact ⟨ρ', while_t (tK kK) hb0 (sN (nI (tAnd_f (tK (vK rfl)) hb1) rfl (sN (sUnp_k (fK (aC (vK rfl) (aC (vK rfl) a0C)) hc1)) (sN (sApp_k rfl hs1 (vK rfl) hs2 hz1) nK))) (sN (nI (tNot_k (tK (fK (aC (vK rfl) (aC (vK rfl) (aC kK a0C))) hc2))) (nb_f hb2) nK) (sN (sAug_k (bK (vK rfl) kK oAdd_k)) nK))) e⟩
  | @fin k acc t k' hg hk hk2 =>
    intro m y4 y5 rs hz hm
    obtain ⟨m, rfl⟩ : ∃ q, m = q + 1 := ⟨m - 1, by lia⟩
    have hc1 : _ = Res.ok (AV.d (.tuple [t, .int (k' : Nat)]), σ ++ [some acc]) := hg (σ ++ [some acc])
    have hs1 := last_get (σ := σ) (a := some acc)
    have hs2 := hs1
    have hz1 : acc.length ≤ 1000 := by lia
    have hc2 := ev_is_op (n := q + 2) (σ := (σ ++ [some acc]).set σ.length (some (acc ++ [t]))) (i := k') (x := Str.ofString ",") h
    have hb2 := hk
    have hs3 : ((σ ++ [some acc]).set σ.length (some (acc ++ [t])))[σ.length]? = some (some (acc ++ [t])) := by rw [last_set]; exact last_get
    have hc3 := need_ok (n := q + 1) (σ := ((σ ++ [some acc]).set σ.length (some (acc ++ [t]))).set σ.length none) h (by decide) hk2
    refine ⟨some (L ds) :: some (I k') :: some (Bo false) :: some (.loc σ.length) :: y4 :: some (.d t) :: rs, (while_r (tK kK) hb0 (sN (nI (tAnd_f (tK (vK rfl)) hb1) rfl (sN (sUnp_k (fK (aC (vK rfl) (aC (vK rfl) a0C)) hc1)) (sN (sApp_k rfl hs1 (vK rfl) hs2 hz1) nK))) (sR (tI (tNot_k (tK (fK (aC (vK rfl) (aC (vK rfl) (aC kK a0C))) hc2))) (nb_t hb2) (sR (sRet_k (uK (cEvs_l (vK rfl) hs3 (eC (fK (aC (vK rfl) (aC (vK rfl) (aC kK a0C))) hc3) e0C))))))))).trans ?_⟩
    rw [last_set, last_set]
    rfl
  | @bad k acc t k' hg hk hk2 =>
    intro m y4 y5 rs hz hm
    obtain ⟨m, rfl⟩ : ∃ q, m = q + 1 := ⟨m - 1, by lia⟩
    have hc1 : _ = Res.ok (AV.d (.tuple [t, .int (k' : Nat)]), σ ++ [some acc]) := hg (σ ++ [some acc])
    have hs1 := last_get (σ := σ) (a := some acc)
    have hs2 := hs1
    have hz1 : acc.length ≤ 1000 := by lia
    have hc2 := ev_is_op (n := q + 2) (σ := (σ ++ [some acc]).set σ.length (some (acc ++ [t]))) (i := k') (x := Str.ofString ",") h
    have hb2 := hk
    have hs3 : ((σ ++ [some acc]).set σ.length (some (acc ++ [t])))[σ.length]? = some (some (acc ++ [t])) := by rw [last_set]; exact last_get
    have hc3 := need_x (n := q + 1) (σ := ((σ ++ [some acc]).set σ.length (some (acc ++ [t]))).set σ.length none) h (by decide) hk2
    exact ⟨[], while_x (tK kK) hb0 (sN (nI (tAnd_f (tK (vK rfl)) hb1) rfl (sN (sUnp_k (fK (aC (vK rfl) (aC (vK rfl) a0C)) hc1)) (sN (sApp_k rfl hs1 (vK rfl) hs2 hz1) nK))) (sCons_x (tI (tNot_k (tK (fK (aC (vK rfl) (aC (vK rfl) (aC kK a0C))) hc2))) (nb_t hb2) (sCons_x (sRet_exc (cTup_exc (cEvs_l_exc (vK rfl) hs3 (cEvs_exc (fK (aC (vK rfl) (aC (vK rfl) (aC kK a0C))) hc3)))))))))⟩
theorem g_args_0 (h : TK ds ts) (h1 : isOp ts i (Str.ofString "(") = true) (h2 : isOp ts (i + 1) (Str.ofString ")") = true) (hn : ∃ q, n = q + 3) : GivesL (n + 1) .parse_arguments [L ds, I i, Bo false] (some ([], i + 2)) := by
  intro σ
  obtain ⟨q, rfl⟩ := hn
  have hc1 := need_ok (n := q + 1) (σ := σ) h (by decide) h1
  have hc2 := ev_is_op (n := q + 2) (σ := σ ++ [some []]) (i := i + 1) (x := Str.ofString ")") h
  have hb1 := h2
  have hs1 := last_get (σ := σ) (a := some [])
  have ht : ((σ ++ [some []]).set σ.length none).take σ.length = σ := by rw [last_set]; exact last_take
  show _ = Res.ok (AV.d (.tuple [.list [], .int ((i + 2 : Nat) : Int)]), σ)
  exact ((st_parse_arguments _ _ _).trans (run_okt rfl (sN (gK (fK (aC (vK rfl) (aC (vK rfl) (aC kK a0C))) hc1)) (sN sNew_k (sR (tI (tK (fK (aC (vK rfl) (aC (vK rfl) (aC kK a0C))) hc2)) hb1 (sR (sRet_k (uK (cEvs_l (vK rfl) hs1 (eC (bK (vK rfl) kK oAdd_k) e0C))))))))) ht))
theorem g_args (h : TK ds ts) (h1 : isOp ts i (Str.ofString "(") = true) (h2 : isOp ts (i + 1) (Str.ofString ")") = false) {c : Nat} {r : Option (List PyData × Nat)} (a : ArgRun n ds ts c (i + 1) [] r) (hcz : c ≤ 900) (hn : ∃ q, n = q + 3) : GivesL (n + 1) .parse_arguments [L ds, I i, Bo false] r := by
  intro σ
  obtain ⟨ρ', e⟩ := arg_loop (σ := σ) h hn a (m := fuel0) (y4 := none) (y5 := none) (rs := [none, none, none, none]) (by simpa using Nat.le_trans hcz (by decide)) (by obtain ⟨q, e⟩ := fuel_eq c (by lia); lia)
  obtain ⟨q, rfl⟩ := hn
  have hc1 := need_ok (n := q + 1) (σ := σ) h (by decide) h1
  have hc2 := ev_is_op (n := q + 2) (σ := σ ++ [some []]) (i := i + 1) (x := Str.ofString ")") h
  have hb1 := h2
  rcases r with _ | ⟨t, k⟩
  case none =>
    have hw1 : _ = Res.exc := e
    show _ = Res.exc
    exact ((st_parse_arguments _ _ _).trans (run_x rfl (sN (gK (fK (aC (vK rfl) (aC (vK rfl) (aC kK a0C))) hc1)) (sN sNew_k (sN (nI (tK (fK (aC (vK rfl) (aC (vK rfl) (aC kK a0C))) hc2)) hb1 nK) (sCons_x hw1))))))
  case some =>
    have hw1 : _ = Res.ok (Fl.ret (AV.d (.tuple [.list t, .int (k : Nat)])), ρ', σ ++ [none]) := e
    have ht : (σ ++ [none] : Sto).take σ.length = σ := last_take
    show _ = Res.ok (AV.d (.tuple [.list t, .int (k : Nat)]), σ)
    exact ((st_parse_arguments _ _ _).trans (run_okt rfl (sN (gK (fK (aC (vK rfl) (aC (vK rfl) (aC kK a0C))) hc1)) (sN sNew_k (sN (nI (tK (fK (aC (vK rfl) (aC (vK rfl) (aC kK a0C))) hc2)) hb1 nK) (sR hw1)))) ht))
theorem g_whole (h : TK ds ts) (hc : Gives n .parse_expr [L ds, I 0] r) (σ : Sto) : callF (n + 1) .whole_expr [L ds] σ = match r with
    | none => .exc
    | some (t, k) => if k < ds.length then .exc else .ok (.d t, σ) := by
  have hz := h.small
  have hc1 := hc σ
  rcases r with _ | ⟨t, k⟩
  case none =>
    have hc1 : _ = Res.exc := hc1
    show _ = Res.exc
    exact ((st_whole_expr _ _ _).trans (run_x rfl (sCons_x (sUnp_exc (fK (aC (vK rfl) (aC kK a0C)) hc1)))))
  case some =>
    have hc1 : _ = Res.ok (AV.d (.tuple [t, .int (k : Nat)]), σ) := hc1
    dsimp only
    by_cases hk : k < ds.length
    · rw [if_pos hk]
      have hb1 : decide (((k : Nat) : Int) < ((ds.length : Nat) : Int)) = true := decide_eq_true (by lia)
      exact ((st_whole_expr _ _ _).trans (run_x rfl (sN (sUnp_k (fK (aC (vK rfl) (aC kK a0C)) hc1)) (sCons_x (tI (tK (bK (vK rfl) (cLen_k (vK rfl) rfl hz) oLt_k)) hb1 (sCons_x (sRaise_k kK)))))))
    · rw [if_neg hk]
      have hb1 : decide (((k : Nat) : Int) < ((ds.length : Nat) : Int)) = false := decide_eq_false (by lia)
      exact ((st_whole_expr _ _ _).trans (run_ok0 rfl (sN (sUnp_k (fK (aC (vK rfl) (aC kK a0C)) hc1)) (sN (nI (tK (bK (vK rfl) (cLen_k (vK rfl) rfl hz) oLt_k)) hb1 nK) (sR (sRet_k (vK rfl)))))))
noncomputable def rgt (p : Nat) : Nat := if p = 9 then 9 else p + 1
inductive BinRun (n : Nat) (ds : List PyData) (ts : List Tk) (l : Nat) : Nat → Nat → PyData → Bool → Option (PyData × Nat) → Prop
  | stop {k t wr} : prioZ ts k < (l : Int) → BinRun n ds ts l 0 k t wr (some (t, k))
  | rel {k t s} : ts[k]? = some (.op s) → prioZ ts k = 5 → l ≤ 5 → BinRun n ds ts l 0 k t true none
  | x {k t wr s p} : ts[k]? = some (.op s) → prioZ ts k = (p : Nat) → l ≤ p → (p = 5 → wr = false) → Gives n .parse_binary [L ds, I (k + 1), I (rgt p)] none → BinRun n ds ts l 0 k t wr none
  | step {c k t wr s p tr k' r} : ts[k]? = some (.op s) → prioZ ts k = (p : Nat) → l ≤ p → (p = 5 → wr = false) → Gives n .parse_binary [L ds, I (k + 1), I (rgt p)] (some (tr, k')) →
      BinRun n ds ts l c k' (binT s t tr) (decide (p = 5)) r → BinRun n ds ts l (c + 1) k t wr r
noncomputable def binRes (σ : Sto) (ds : List PyData) (r : Option (PyData × Nat)) (R : Res (Fl × Rho × Sto)) : Prop := match r with
  | none => R = .exc
  | some (t, k) => ∃ y2 y4 y5 y6 y7 rs, R = .ok (.next, some (L ds) :: some (I k) :: y2 :: some (.d t) :: y4 :: y5 :: y6 :: y7 :: rs, σ)
theorem bin_loop (h : TK ds ts) (hn : ∃ q, n = q + 3) {σ : Sto} {c k : Nat} {t : PyData} {wr : Bool} (a : BinRun n ds ts l c k t wr r) : ∀ {m : Nat} {y5 y6 y7 : Option AV} {rs : Rho}, c + 1 ≤ m →
    binRes σ ds r (whileL binTst binB m (callF n) (some (L ds) :: some (I k) :: some (I l) :: some (.d t) :: some (Bo wr) :: y5 :: y6 :: y7 :: rs) σ) := by
  obtain ⟨q, rfl⟩ := hn
  induction a with
  | @stop k t wr hp =>
    intro m y5 y6 y7 rs hm
    obtain ⟨m, rfl⟩ : ∃ q, m = q + 1 := ⟨m - 1, by lia⟩
    have hc1 := ev_priority_at (n := q + 1) (σ := σ) (i := k) h
    have hb1 : decide ((l : Int) ≤ prioZ ts k) = false := decide_eq_false (by lia)
    exact ⟨_, _, _, _, _, _, while_f (tK (bK (fK (aC (vK rfl) (aC (vK rfl) a0C)) hc1) (vK rfl) oGe_k)) hb1⟩
  | @rel k t s hk hp hl =>
    intro m y5 y6 y7 rs hm
    obtain ⟨m, rfl⟩ : ∃ q, m = q + 1 := ⟨m - 1, by lia⟩
    have hcp := ev_priority_at (n := q + 1) (σ := σ) (i := k) h
    have hbp : decide ((l : Int) ≤ prioZ ts k) = true := decide_eq_true (by lia)
    obtain ⟨rr, hr_at⟩ := h.item hk
    have hc1 := hcp
    have hb1 : (prioZ ts k == 5) = true := beq_iff_eq.mpr hp
    have hb2 : true = true := rfl
    exact while_x (tK (bK (fK (aC (vK rfl) (aC (vK rfl) a0C)) hcp) (vK rfl) oGe_k)) hbp (sN (gK (fK (aC (vK rfl) (aC (vK rfl) a0C)) hc1)) (sN (gK (bK (bK (vK rfl) (vK rfl) (hr_at _)) kK oItem_1)) (sCons_x (tI (tAnd_t (tK (bK (vK rfl) kK oEq_i)) hb1 (tAnd_t (tK (vK rfl)) hb2 tAnd_0)) rfl (sCons_x (sRaise_k kK))))))
  | @x k t wr s p hk hp hl hw hg =>
    intro m y5 y6 y7 rs hm
    obtain ⟨m, rfl⟩ : ∃ q, m = q + 1 := ⟨m - 1, by lia⟩
    have hcp := ev_priority_at (n := q + 1) (σ := σ) (i := k) h
    have hbp : decide ((l : Int) ≤ prioZ ts k) = true := decide_eq_true (by lia)
    obtain ⟨rr, hr_at⟩ := h.item hk
    have hc1 := hcp
    have hc2 : _ = Res.exc := hg σ
    show _ = Res.exc
    have hb9 : ∀ q' : Int, prioZ ts k = q' → (prioZ ts k == 9) = decide (q' = 9) := fun q' e => by rw [e]; rfl
    by_cases h5 : p = 5
    · subst h5
      have hb1 : (prioZ ts k == 5) = true := beq_iff_eq.mpr hp
      have hb2 : wr = false := hw rfl
      have hb3 : (prioZ ts k == 9) = false := beq_false_of_ne (by rw [hp]; decide)
      have hc2 : callF (q + 3) .parse_binary [L ds, I (k + 1), .d (.int (prioZ ts k + 1))] σ = Res.exc := by rw [hp]; exact hc2
      exact while_x (tK (bK (fK (aC (vK rfl) (aC (vK rfl) a0C)) hcp) (vK rfl) oGe_k)) hbp (sN (gK (fK (aC (vK rfl) (aC (vK rfl) a0C)) hc1)) (sN (gK (bK (bK (vK rfl) (vK rfl) (hr_at _)) kK oItem_1)) (sN (nI (tAnd_t (tK (bK (vK rfl) kK oEq_i)) hb1 (tAnd_f (tK (vK rfl)) hb2)) rfl nK) (sCons_x (nI (tK (bK (vK rfl) kK oEq_i)) hb3 (sCons_x (sUnp_exc (fK (aC (vK rfl) (aC (bK (vK rfl) kK oAdd_k) (aC (bK (vK rfl) kK oAdd_k) a0C))) hc2))))))))
    · have hb1 : (prioZ ts k == 5) = false := beq_false_of_ne (by rw [hp]; lia)
      by_cases h9 : p = 9
      · subst h9
        have hb2 : (prioZ ts k == 9) = true := beq_iff_eq.mpr hp
        exact while_x (tK (bK (fK (aC (vK rfl) (aC (vK rfl) a0C)) hcp) (vK rfl) oGe_k)) hbp (sN (gK (fK (aC (vK rfl) (aC (vK rfl) a0C)) hc1)) (sN (gK (bK (bK (vK rfl) (vK rfl) (hr_at _)) kK oItem_1)) (sN (nI (tAnd_f (tK (bK (vK rfl) kK oEq_i)) hb1) rfl nK) (sCons_x (tI (tK (bK (vK rfl) kK oEq_i)) hb2 (sCons_x (sUnp_exc (fK (aC (vK rfl) (aC (bK (vK rfl) kK oAdd_k) (aC kK a0C))) hc2))))))))
      · have hb2 : (prioZ ts k == 9) = false := beq_false_of_ne (by rw [hp]; lia)
        have hc2 : callF (q + 3) .parse_binary [L ds, I (k + 1), .d (.int (prioZ ts k + 1))] σ = Res.exc := by
          rw [hp]
          unfold rgt at hc2
          rw [if_neg h9] at hc2
          exact hc2
        exact while_x (tK (bK (fK (aC (vK rfl) (aC (vK rfl) a0C)) hcp) (vK rfl) oGe_k)) hbp (sN (gK (fK (aC (vK rfl) (aC (vK rfl) a0C)) hc1)) (sN (gK (bK (bK (vK rfl) (vK rfl) (hr_at _)) kK oItem_1)) (sN (nI (tAnd_f (tK (bK (vK rfl) kK oEq_i)) hb1) rfl nK) (sCons_x (nI (tK (bK (vK rfl) kK oEq_i)) hb2 (sCons_x (sUnp_exc (fK (aC (vK rfl) (aC (bK (vK rfl) kK oAdd_k) (aC (bK (vK rfl) kK oAdd_k) a0C))) hc2))))))))
  | @step c k t wr s p tr k' r hk hp hl hw hg _ ih =>
    intro m y5 y6 y7 rs hm
    obtain ⟨m, rfl⟩ : ∃ q, m = q + 1 := ⟨m - 1, by lia⟩
    have hcp := ev_priority_at (n := q + 1) (σ := σ) (i := k) h
    have hbp : decide ((l : Int) ≤ prioZ ts k) = true := decide_eq_true (by lia)
    obtain ⟨rr, hr_at⟩ := h.item hk
    have hc1 := hcp
    have hc2 : _ = Res.ok (AV.d (.tuple [tr, .int (k' : Nat)]), σ) := hg σ
    have e := ih (m := m) (y5 := some (.d (.int (prioZ ts k)))) (y6 := some (.d (.str s))) (y7 := some (.d tr)) (rs := rs) (by lia)
    have fin : ∀ {R1 R2 : Res (Fl × Rho × Sto)}, R1 = R2 → binRes σ ds r R2 → binRes σ ds r R1 := fun e h => e ▸ h
    have hwr : decide (p = 5) = (prioZ ts k == 5) := by
      rw [hp]
      by_cases h5 : p = 5
      · subst h5; rfl
      · rw [decide_eq_false h5, beq_false_of_ne (by lia)]
    rw [hwr] at e
    by_cases h5 : p = 5
    · subst h5
      have hb1 : (prioZ ts k == 5) = true := beq_iff_eq.mpr hp
      have hb2 : wr = false := hw rfl
      have hb3 : (prioZ ts k == 9) = false := beq_false_of_ne (by rw [hp]; decide)
      have hc2 : callF (q + 3) .parse_binary [L ds, I (k + 1), .d (.int (prioZ ts k + 1))] σ = Res.ok (AV.d (.tuple [tr, .int (k' : Nat)]), σ) := by rw [hp]; exact hc2
      exact fin (while_t (tK (bK (fK (aC (vK rfl) (aC (vK rfl) a0C)) hcp) (vK rfl) oGe_k)) hbp (sN (gK (fK (aC (vK rfl) (aC (vK rfl) a0C)) hc1)) (sN (gK (bK (bK (vK rfl) (vK rfl) (hr_at _)) kK oItem_1)) (sN (nI (tAnd_t (tK (bK (vK rfl) kK oEq_i)) hb1 (tAnd_f (tK (vK rfl)) hb2)) rfl nK) (sN (nI (tK (bK (vK rfl) kK oEq_i)) hb3 (sN (sUnp_k (fK (aC (vK rfl) (aC (bK (vK rfl) kK oAdd_k) (aC (bK (vK rfl) kK oAdd_k) a0C))) hc2)) nK)) (sN (gK (uK (eC kK (eC (vK rfl) (eC (vK rfl) (eC (vK rfl) e0C)))))) (sN (gK (bK (vK rfl) kK oEq_i)) nK)))))) rfl) e
    · have hb1 : (prioZ ts k == 5) = false := beq_false_of_ne (by rw [hp]; lia)
      by_cases h9 : p = 9
      · subst h9
        have hb2 : (prioZ ts k == 9) = true := beq_iff_eq.mpr hp
        exact fin (while_t (tK (bK (fK (aC (vK rfl) (aC (vK rfl) a0C)) hcp) (vK rfl) oGe_k)) hbp (sN (gK (fK (aC (vK rfl) (aC (vK rfl) a0C)) hc1)) (sN (gK (bK (bK (vK rfl) (vK rfl) (hr_at _)) kK oItem_1)) (sN (nI (tAnd_f (tK (bK (vK rfl) kK oEq_i)) hb1) rfl nK) (sN (tI (tK (bK (vK rfl) kK oEq_i)) hb2 (sN (sUnp_k (fK (aC (vK rfl) (aC (bK (vK rfl) kK oAdd_k) (aC kK a0C))) hc2)) nK)) (sN (gK (uK (eC kK (eC (vK rfl) (eC (vK rfl) (eC (vK rfl) e0C)))))) (sN (gK (bK (vK rfl) kK oEq_i)) nK)))))) rfl) e
      · have hb2 : (prioZ ts k == 9) = false := beq_false_of_ne (by rw [hp]; lia)
        have hc2 : callF (q + 3) .parse_binary [L ds, I (k + 1), .d (.int (prioZ ts k + 1))] σ = Res.ok (AV.d (.tuple [tr, .int (k' : Nat)]), σ) := by
          rw [hp]
          unfold rgt at hc2
          rw [if_neg h9] at hc2
          exact hc2
        exact fin (while_t (tK (bK (fK (aC (vK rfl) (aC (vK rfl) a0C)) hcp) (vK rfl) oGe_k)) hbp (sN (gK (fK (aC (vK rfl) (aC (vK rfl) a0C)) hc1)) (sN (gK (bK (bK (vK rfl) (vK rfl) (hr_at _)) kK oItem_1)) (sN (nI (tAnd_f (tK (bK (vK rfl) kK oEq_i)) hb1) rfl nK) (sN (nI (tK (bK (vK rfl) kK oEq_i)) hb2 (sN (sUnp_k (fK (aC (vK rfl) (aC (bK (vK rfl) kK oAdd_k) (aC (bK (vK rfl) kK oAdd_k) a0C))) hc2)) nK)) (sN (gK (uK (eC kK (eC (vK rfl) (eC (vK rfl) (eC (vK rfl) e0C)))))) (sN (gK (bK (vK rfl) kK oEq_i)) nK)))))) rfl) e
theorem g_bin_x (h : TK ds ts) (hc : Gives n .parse_first [L ds, I i, I l] none) : Gives (n + 1) .parse_binary [L ds, I i, I l] none := by
  intro σ
  have hc1 : _ = Res.exc := hc σ
  show _ = Res.exc
  exact ((st_parse_binary _ _ _).trans (run_x rfl (sCons_x (sUnp_exc (fK (aC (vK rfl) (aC (vK rfl) (aC (vK rfl) a0C))) hc1)))))
theorem g_bin (h : TK ds ts) {t : PyData} {k c : Nat} (hc : Gives n .parse_first [L ds, I i, I l] (some (t, k))) (a : BinRun n ds ts l c k t false r) (hcz : c ≤ 900) (hn : ∃ q, n = q + 3) : Gives (n + 1) .parse_binary [L ds, I i, I l] r := by
  intro σ
  have hc1 : _ = Res.ok (AV.d (.tuple [t, .int (k : Nat)]), σ) := hc σ
  have e := bin_loop (σ := σ) h hn a (m := fuel0) (y5 := none) (y6 := none) (y7 := none) (rs := [none, none, none, none, none, none]) (by obtain ⟨q, e⟩ := fuel_eq c (by lia); lia)
  rcases r with _ | ⟨t', k'⟩
  case none =>
    have hw1 : _ = Res.exc := e
    show _ = Res.exc
    exact ((st_parse_binary _ _ _).trans (run_x rfl (sN (sUnp_k (fK (aC (vK rfl) (aC (vK rfl) (aC (vK rfl) a0C))) hc1)) (sN (gK kK) (sCons_x hw1)))))
  case some =>
    refine glq fun Gq kq => ?_
    obtain ⟨y2, y4, y5, y6, y7, rs, hw1⟩ := e
    refine kq ?_
    clear kq Gq
    show _ = Res.ok (AV.d (.tuple [t', .int (k' : Nat)]), σ)
    exact ((st_parse_binary _ _ _).trans (run_ok0 rfl (sN (sUnp_k (fK (aC (vK rfl) (aC (vK rfl) (aC (vK rfl) a0C))) hc1)) (sN (gK kK) (sN hw1 (sR (sRet_k (uK (eC (vK rfl) (eC (vK rfl) e0C))))))))))
end
noncomputable def mark (ts : List Tk) (i : Nat) : Str := match ts[i]? with | some (.op s) => s | _ => Str.ofString ""
noncomputable def dl (ts : List Tk) (k : Nat) : Int := if isOp ts k (Str.ofString "(") = true then 1 else if isOp ts k (Str.ofString ")") = true then -1 else 0
theorem mark_op {ts : List Tk} {i : Nat} {x : Str} (hx : x ≠ Str.ofString "") : (mark ts i == x) = isOp ts i x := by
  unfold mark isOp
  cases e : ts[i]? with
  | none => exact beq_false_of_ne (Ne.symm hx)
  | some t => cases t <;> first | rfl | exact beq_false_of_ne (Ne.symm hx)
noncomputable def evenN (ts : List Tk) : Nat → Nat → Int → Bool
  | 0, _, d => d == 0
  | m + 1, k, d => if d + dl ts k < 0 then false else evenN ts m (k + 1) (d + dl ts k)
noncomputable def lcloseN (ts : List Tk) : Nat → Nat → Int → Option Nat
  | 0, _, _ => none
  | m + 1, k, d => if d + dl ts k = 0 then some k else lcloseN ts m (k + 1) (d + dl ts k)
noncomputable def partsN (ts : List Tk) (x : Str) : Nat → Nat → Int → Nat → List (Nat × Nat)
  | 0, k, _, b => [(b, k)]
  | m + 1, k, d, b => if isOp ts k x = true ∧ d + dl ts k = 0 then (b, k) :: partsN ts x m (k + 1) (d + dl ts k) (k + 1) else partsN ts x m (k + 1) (d + dl ts k) b
noncomputable def pairD (p : Nat × Nat) : PyData := .tuple [.int (p.1 : Nat), .int (p.2 : Nat)]
noncomputable def optD : Option PyData → PyData
  | none => .none
  | some t => t
section
variable {ds : List PyData} {ts : List Tk} {n : Nat} {i l : Nat} {x : Str} {σ : Sto}
theorem ev_mark (h : TK ds ts) (hi : i < ts.length) : callF (n + 1) .law_mark [L ds, I i] σ = .ok (T (mark ts i), σ) := by
  obtain ⟨t, e⟩ : ∃ t, ts[i]? = some t := ⟨_, List.getElem?_eq_getElem hi⟩
  obtain ⟨r, hr_at⟩ := h.item e
  unfold mark
  rw [e]
  cases t with
  | op s =>
    have hb1 : ((Tk.op s).kind == Str.ofString "OP") = true := beq_self_eq_true _
    exact ((st_law_mark _ _ _).trans (run_ok0 rfl (sR (tI (tK (bK (bK (bK (vK rfl) (vK rfl) (hr_at _)) kK oItem_0) kK oEq_s)) hb1 (sR (sRet_k (bK (bK (vK rfl) (vK rfl) (hr_at _)) kK oItem_1)))))))
  | name s =>
    have hb1 : ((Tk.name s).kind == Str.ofString "OP") = false := rfl
    exact ((st_law_mark _ _ _).trans (run_ok0 rfl (sN (nI (tK (bK (bK (bK (vK rfl) (vK rfl) (hr_at _)) kK oItem_0) kK oEq_s)) hb1 nK) (sR (sRet_k kK)))))
  | int s =>
    have hb1 : ((Tk.int s).kind == Str.ofString "OP") = false := rfl
    exact ((st_law_mark _ _ _).trans (run_ok0 rfl (sN (nI (tK (bK (bK (bK (vK rfl) (vK rfl) (hr_at _)) kK oItem_0) kK oEq_s)) hb1 nK) (sR (sRet_k kK)))))
  | real s q =>
    have hb1 : ((Tk.real s q).kind == Str.ofString "OP") = false := rfl
    exact ((st_law_mark _ _ _).trans (run_ok0 rfl (sN (nI (tK (bK (bK (bK (vK rfl) (vK rfl) (hr_at _)) kK oItem_0) kK oEq_s)) hb1 nK) (sR (sRet_k kK)))))
  | dble s q =>
    have hb1 : ((Tk.dble s q).kind == Str.ofString "OP") = false := rfl
    exact ((st_law_mark _ _ _).trans (run_ok0 rfl (sN (nI (tK (bK (bK (bK (vK rfl) (vK rfl) (hr_at _)) kK oItem_0) kK oEq_s)) hb1 nK) (sR (sRet_k kK)))))
  | log s =>
    have hb1 : ((Tk.log s).kind == Str.ofString "OP") = false := rfl
    exact ((st_law_mark _ _ _).trans (run_ok0 rfl (sN (nI (tK (bK (bK (bK (vK rfl) (vK rfl) (hr_at _)) kK oItem_0) kK oEq_s)) hb1 nK) (sR (sRet_k kK)))))
  | chr s =>
    have hb1 : ((Tk.chr s).kind == Str.ofString "OP") = false := rfl
    exact ((st_law_mark _ _ _).trans (run_ok0 rfl (sN (nI (tK (bK (bK (bK (vK rfl) (vK rfl) (hr_at _)) kK oItem_0) kK oEq_s)) hb1 nK) (sR (sRet_k kK)))))
theorem dl_open {k : Nat} (h : isOp ts k (Str.ofString "(") = true) : dl ts k = 1 := if_pos h
theorem dl_shut {k : Nat} (h : isOp ts k (Str.ofString ")") = true) : dl ts k = -1 := by
  unfold dl
  rw [if_neg (by rw [isOp_ne h (by decide)]; simp), if_pos h]
theorem dl_else {k : Nat} (h1 : isOp ts k (Str.ofString "(") = false) (h2 : isOp ts k (Str.ofString ")") = false) : dl ts k = 0 := by
  unfold dl
  rw [h1, h2]
  rfl
noncomputable def evenB : SC := sCons (sIf (tE (cBin oEq (cCall .law_mark [cV 0, cV 2]) (cK (.str (Str.ofString "("))))) (sCons (sAug 1 oAdd (cK (.int 1))) (sNil)) (sNil)) (sCons (sIf (tE (cBin oEq (cCall .law_mark [cV 0, cV 2]) (cK (.str (Str.ofString ")"))))) (sCons (sAug 1 oSub (cK (.int 1))) (sNil)) (sNil)) (sCons (sIf (tE (cBin oLt (cV 1) (cK (.int 0)))) (sCons (sRet (cK (.bool false))) (sNil)) (sNil)) (sNil)))
noncomputable def evenRes (σ : Sto) (e : Bool) (R : Res (Fl × Rho × Sto)) : Prop :=
  (e = false ∧ ∃ ρ', R = .ok (.ret (Bo false), ρ', σ)) ∨ ∃ y0 d y2 rs, R = .ok (.next, y0 :: some (.d (.int d)) :: y2 :: rs, σ) ∧ (d == 0) = e
theorem even_loop (h : TK ds ts) : ∀ (m k : Nat) (d : Int) (y : Option AV) (rs : Rho), k + m = ds.length →
    evenRes σ (evenN ts m k d) (forL (tgt1 2) evenB (rngs (k : Nat) (ds.length : Nat)) (callF (n + 1)) (some (L ds) :: some (.d (.int d)) :: y :: rs) σ)
  | 0, k, d, y, rs, hk => by
    rw [rngs_nil (by lia)]
    exact .inr ⟨_, _, _, _, rfl, rfl⟩
  | m + 1, k, d, y, rs, hk => by
    rw [rngs_cons (by lia)]
    unfold evenN
    have hlt : k < ts.length := by have := h.len; lia
    have hc1 := ev_mark (n := n) (σ := σ) (i := k) h hlt
    have hc2 := hc1
    have fin : ∀ {e : Bool} {R1 R2 : Res (Fl × Rho × Sto)}, R1 = R2 → evenRes σ e R2 → evenRes σ e R1 := fun e h => e ▸ h
    cases h1 : isOp ts k (Str.ofString "(") with
    | true =>
      have h2 : isOp ts k (Str.ofString ")") = false := isOp_ne h1 (by decide)
      have hb1 : (mark ts k == Str.ofString "(") = true := by rw [mark_op (by decide)]; exact h1
      have hb2 : (mark ts k == Str.ofString ")") = false := by rw [mark_op (by decide)]; exact h2
      rw [dl_open h1]
      by_cases hd : d + 1 < 0
      · rw [if_pos hd]
        have hb3 : decide (d + 1 < 0) = true := decide_eq_true hd
        exact .inl ⟨rfl, _, for_r rfl (sN (tI (tK (bK (fK (aC (vK rfl) (aC (vK rfl) a0C)) hc1) kK oEq_s)) hb1 (sN (sAug_k (bK (vK rfl) kK oAdd_k)) nK)) (sN (nI (tK (bK (fK (aC (vK rfl) (aC (vK rfl) a0C)) hc2) kK oEq_s)) hb2 nK) (sR (tI (tK (bK (vK rfl) kK oLt_k)) hb3 (sR (sRet_k kK))))))⟩
      · rw [if_neg hd]
        have hb3 : decide (d + 1 < 0) = false := decide_eq_false hd
        exact fin (for_n rfl (sN (tI (tK (bK (fK (aC (vK rfl) (aC (vK rfl) a0C)) hc1) kK oEq_s)) hb1 (sN (sAug_k (bK (vK rfl) kK oAdd_k)) nK)) (sN (nI (tK (bK (fK (aC (vK rfl) (aC (vK rfl) a0C)) hc2) kK oEq_s)) hb2 nK) (sN (nI (tK (bK (vK rfl) kK oLt_k)) hb3 nK) nK))) rfl) (even_loop h m (k + 1) (d + 1) (some (I k)) rs (by lia))
    | false =>
      have hb1 : (mark ts k == Str.ofString "(") = false := by rw [mark_op (by decide)]; exact h1
      cases h2 : isOp ts k (Str.ofString ")") with
      | true =>
        have hb2 : (mark ts k == Str.ofString ")") = true := by rw [mark_op (by decide)]; exact h2
        rw [dl_shut h2]
        by_cases hd : d + -1 < 0
        · rw [if_pos hd]
          have hb3 : decide (d - 1 < 0) = true := decide_eq_true hd
          exact .inl ⟨rfl, _, for_r rfl (sN (nI (tK (bK (fK (aC (vK rfl) (aC (vK rfl) a0C)) hc1) kK oEq_s)) hb1 nK) (sN (tI (tK (bK (fK (aC (vK rfl) (aC (vK rfl) a0C)) hc2) kK oEq_s)) hb2 (sN (sAug_k (bK (vK rfl) kK oSub_k)) nK)) (sR (tI (tK (bK (vK rfl) kK oLt_k)) hb3 (sR (sRet_k kK))))))⟩
        · rw [if_neg hd]
          have hb3 : decide (d - 1 < 0) = false := decide_eq_false hd
          exact fin (for_n rfl (sN (nI (tK (bK (fK (aC (vK rfl) (aC (vK rfl) a0C)) hc1) kK oEq_s)) hb1 nK) (sN (tI (tK (bK (fK (aC (vK rfl) (aC (vK rfl) a0C)) hc2) kK oEq_s)) hb2 (sN (sAug_k (bK (vK rfl) kK oSub_k)) nK)) (sN (nI (tK (bK (vK rfl) kK oLt_k)) hb3 nK) nK))) rfl) (even_loop h m (k + 1) (d + -1) (some (I k)) rs (by lia))
      | false =>
        have hb2 : (mark ts k == Str.ofString ")") = false := by rw [mark_op (by decide)]; exact h2
        rw [dl_else h1 h2, Int.add_zero]
        by_cases hd : d < 0
        · rw [if_pos hd]
          have hb3 : decide (d < 0) = true := decide_eq_true hd
          exact .inl ⟨rfl, _, for_r rfl (sN (nI (tK (bK (fK (aC (vK rfl) (aC (vK rfl) a0C)) hc1) kK oEq_s)) hb1 nK) (sN (nI (tK (bK (fK (aC (vK rfl) (aC (vK rfl) a0C)) hc2) kK oEq_s)) hb2 nK) (sR (tI (tK (bK (vK rfl) kK oLt_k)) hb3 (sR (sRet_k kK))))))⟩
        · rw [if_neg hd]
          have hb3 : decide (d < 0) = false := decide_eq_false hd
          exact fin (for_n rfl (sN (nI (tK (bK (fK (aC (vK rfl) (aC (vK rfl) a0C)) hc1) kK oEq_s)) hb1 nK) (sN (nI (tK (bK (fK (aC (vK rfl) (aC (vK rfl) a0C)) hc2) kK oEq_s)) hb2 nK) (sN (nI (tK (bK (vK rfl) kK oLt_k)) hb3 nK) nK))) rfl) (even_loop h m (k + 1) d (some (I k)) rs (by lia))
theorem ev_even (h : TK ds ts) : callF (n + 2) .law_is_even [L ds] σ = .ok (Bo (evenN ts ds.length 0 0), σ) := by
  have hz := h.small
  have hz1 : ds.length ≤ 10000 := by lia
  have e := even_loop (n := n) (σ := σ) h ds.length 0 0 none [none, none, none] (by lia)
  rcases e with ⟨e1, ρ', e2⟩ | ⟨y0, d, y2, rs, e2, e1⟩
  · rw [e1]
    have hw1 := e2
    exact ((st_law_is_even _ _ _).trans (run_ok0 rfl (sN (gK kK) (sR (sForR1_k (cLen_k (vK rfl) rfl hz) hz1 hw1)))))
  · rw [← e1]
    have hw1 := e2
    exact ((st_law_is_even _ _ _).trans (run_ok0 rfl (sN (gK kK) (sN (sForR1_k (cLen_k (vK rfl) rfl hz) hz1 hw1) (sR (sRet_k (bK (vK rfl) kK oEq_i)))))))
noncomputable def closeT : TC := tE (cK (.bool true))
noncomputable def closeB : SC := sCons (sIf (tE (cBin oEq (cCall .law_mark [cV 0, cV 1]) (cK (.str (Str.ofString "("))))) (sCons (sAug 2 oAdd (cK (.int 1))) (sNil)) (sNil)) (sCons (sIf (tE (cBin oEq (cCall .law_mark [cV 0, cV 1]) (cK (.str (Str.ofString ")"))))) (sCons (sAug 2 oSub (cK (.int 1))) (sNil)) (sNil)) (sCons (sIf (tE (cBin oEq (cV 2) (cK (.int 0)))) (sCons (sRet (cV 1)) (sNil)) (sNil)) (sCons (sAug 1 oAdd (cK (.int 1))) (sNil))))
theorem lclose_loop (h : TK ds ts) : ∀ (m k : Nat) (d : Int) (e q : Nat) (rs : Rho), lcloseN ts m k d = some e → k + m ≤ ts.length →
    ∃ ρ', whileL closeT closeB (m + q) (callF (n + 1)) (some (L ds) :: some (I k) :: some (.d (.int d)) :: rs) σ = .ok (.ret (I e), ρ', σ)
  | 0, k, d, e, q, rs, he, hk => by cases he
  | m + 1, k, d, e, q, rs, he, hk => by
    unfold lcloseN at he
    have hlt : k < ts.length := by lia
    have hc1 := ev_mark (n := n) (σ := σ) (i := k) h hlt
    have hc2 := hc1
    have hb0 : true = true := rfl
    rw [show m + 1 + q = (m + q) + 1 from by lia]
    cases h1 : isOp ts k (Str.ofString "(") with
    | true =>
      have h2 : isOp ts k (Str.ofString ")") = false := isOp_ne h1 (by decide)
      have hb1 : (mark ts k == Str.ofString "(") = true := by rw [mark_op (by decide)]; exact h1
      have hb2 : (mark ts k == Str.ofString ")") = false := by rw [mark_op (by decide)]; exact h2
      rw [dl_open h1] at he
      by_cases hd : d + 1 = 0
      · rw [if_pos hd] at he
        cases he
        have hb3 : (d + 1 == 0) = true := beq_iff_eq.mpr hd
        exact ⟨_, while_r (tK kK) hb0 (sN (tI (tK (bK (fK (aC (vK rfl) (aC (vK rfl) a0C)) hc1) kK oEq_s)) hb1 (sN (sAug_k (bK (vK rfl) kK oAdd_k)) nK)) (sN (nI (tK (bK (fK (aC (vK rfl) (aC (vK rfl) a0C)) hc2) kK oEq_s)) hb2 nK) (sR (tI (tK (bK (vK rfl) kK oEq_i)) hb3 (sR (sRet_k (vK rfl)))))))⟩
      · rw [if_neg hd] at he
        have hb3 : (d + 1 == 0) = false := beq_false_of_ne hd
        obtain ⟨ρ', e2⟩ := lclose_loop h m (k + 1) (d + 1) e q rs he (by lia)
        exact ⟨ρ', while_t (tK kK) hb0 (sN (tI (tK (bK (fK (aC (vK rfl) (aC (vK rfl) a0C)) hc1) kK oEq_s)) hb1 (sN (sAug_k (bK (vK rfl) kK oAdd_k)) nK)) (sN (nI (tK (bK (fK (aC (vK rfl) (aC (vK rfl) a0C)) hc2) kK oEq_s)) hb2 nK) (sN (nI (tK (bK (vK rfl) kK oEq_i)) hb3 nK) (sN (sAug_k (bK (vK rfl) kK oAdd_k)) nK)))) e2⟩
    | false =>
      have hb1 : (mark ts k == Str.ofString "(") = false := by rw [mark_op (by decide)]; exact h1
      cases h2 : isOp ts k (Str.ofString ")") with
      | true =>
        have hb2 : (mark ts k == Str.ofString ")") = true := by rw [mark_op (by decide)]; exact h2
        rw [dl_shut h2] at he
        by_cases hd : d + -1 = 0
        · rw [if_pos hd] at he
          cases he
          have hb3 : (d - 1 == 0) = true := beq_iff_eq.mpr hd
          exact ⟨_, while_r (tK kK) hb0 (sN (nI (tK (bK (fK (aC (vK rfl) (aC (vK rfl) a0C)) hc1) kK oEq_s)) hb1 nK) (sN (tI (tK (bK (fK (aC (vK rfl) (aC (vK rfl) a0C)) hc2) kK oEq_s)) hb2 (sN (sAug_k (bK (vK rfl) kK oSub_k)) nK)) (sR (tI (tK (bK (vK rfl) kK oEq_i)) hb3 (sR (sRet_k (vK rfl)))))))⟩
        · rw [if_neg hd] at he
          have hb3 : (d - 1 == 0) = false := beq_false_of_ne hd
          obtain ⟨ρ', e2⟩ := lclose_loop h m (k + 1) (d + -1) e q rs he (by lia)
          exact ⟨ρ', while_t (tK kK) hb0 (sN (nI (tK (bK (fK (aC (vK rfl) (aC (vK rfl) a0C)) hc1) kK oEq_s)) hb1 nK) (sN (tI (tK (bK (fK (aC (vK rfl) (aC (vK rfl) a0C)) hc2) kK oEq_s)) hb2 (sN (sAug_k (bK (vK rfl) kK oSub_k)) nK)) (sN (nI (tK (bK (vK rfl) kK oEq_i)) hb3 nK) (sN (sAug_k (bK (vK rfl) kK oAdd_k)) nK)))) e2⟩
      | false =>
        have hb2 : (mark ts k == Str.ofString ")") = false := by rw [mark_op (by decide)]; exact h2
        rw [dl_else h1 h2, Int.add_zero] at he
        by_cases hd : d = 0
        · rw [if_pos hd] at he
          cases he
          have hb3 : (d == 0) = true := beq_iff_eq.mpr hd
          exact ⟨_, while_r (tK kK) hb0 (sN (nI (tK (bK (fK (aC (vK rfl) (aC (vK rfl) a0C)) hc1) kK oEq_s)) hb1 nK) (sN (nI (tK (bK (fK (aC (vK rfl) (aC (vK rfl) a0C)) hc2) kK oEq_s)) hb2 nK) (sR (tI (tK (bK (vK rfl) kK oEq_i)) hb3 (sR (sRet_k (vK rfl)))))))⟩
        · rw [if_neg hd] at he
          have hb3 : (d == 0) = false := beq_false_of_ne hd
          obtain ⟨ρ', e2⟩ := lclose_loop h m (k + 1) d e q rs he (by lia)
          exact ⟨ρ', while_t (tK kK) hb0 (sN (nI (tK (bK (fK (aC (vK rfl) (aC (vK rfl) a0C)) hc1) kK oEq_s)) hb1 nK) (sN (nI (tK (bK (fK (aC (vK rfl) (aC (vK rfl) a0C)) hc2) kK oEq_s)) hb2 nK) (sN (nI (tK (bK (vK rfl) kK oEq_i)) hb3 nK) (sN (sAug_k (bK (vK rfl) kK oAdd_k)) nK)))) e2⟩
theorem ev_lclose (h : TK ds ts) {m e : Nat} (he : lcloseN ts m i 0 = some e) (hk : i + m ≤ ts.length) : callF (n + 2) .law_close [L ds, I i] σ = .ok (I e, σ) := by
  have hz := h.small
  have hl := h.len
  obtain ⟨q, hq⟩ : ∃ q, fuel0 = m + q := ⟨fuel0 - m, by have : fuel0 = 1000000 := rfl; lia⟩
  obtain ⟨ρ', hw⟩ := lclose_loop (n := n) (σ := σ) h m i 0 e q [none] he hk
  rw [← hq] at hw
  have hw1 := hw
  exact ((st_law_close _ _ _).trans (run_ok0 rfl (sN (gK kK) (sR hw1))))
noncomputable def partB : SC := sCons (sAsg 8 (cCall .law_mark [cV 0, cV 7])) (sCons (sIf (tE (cBin oEq (cV 8) (cK (.str (Str.ofString "("))))) (sCons (sAug 6 oAdd (cK (.int 1))) (sNil)) (sNil)) (sCons (sIf (tE (cBin oEq (cV 8) (cK (.str (Str.ofString ")"))))) (sCons (sAug 6 oSub (cK (.int 1))) (sNil)) (sNil)) (sCons (sIf (tAnd [tE (cBin oEq (cV 8) (cV 3)), tE (cBin oEq (cV 6) (cK (.int 0)))]) (sCons (sApp 4 (cTup [cV 5, cV 7])) (sCons (sAsg 5 (cBin oAdd (cV 7) (cK (.int 1)))) (sNil))) (sNil)) (sNil))))
theorem parted_loop (h : TK ds ts) {lo hi : Nat} (hx : x = Str.ofString "," ∨ x = Str.ofString ":") (hhi : hi ≤ ts.length) : ∀ (m k : Nat) (d : Int) (b : Nat) (acc : List (Nat × Nat)) (y7 y8 : Option AV) (rs : Rho), k + m = hi → acc.length + m ≤ 900 →
    ∃ b' d' acc' y7' y8' rs', forL (tgt1 7) partB (rngs (k : Nat) (hi : Nat)) (callF (n + 1)) (some (L ds) :: some (I lo) :: some (I hi) :: some (T x) :: some (.loc σ.length) :: some (I b) :: some (.d (.int d)) :: y7 :: y8 :: rs) (σ ++ [some (acc.map pairD)])
      = .ok (.next, some (L ds) :: some (I lo) :: some (I hi) :: some (T x) :: some (.loc σ.length) :: some (I b') :: some (.d (.int d')) :: y7' :: y8' :: rs', σ ++ [some (acc'.map pairD)]) ∧ acc' ++ [(b', hi)] = acc ++ partsN ts x m k d b
  | 0, k, d, b, acc, y7, y8, rs, hk, hz => by
    rw [rngs_nil (by lia)]
    refine ⟨_, _, _, _, _, _, rfl, ?_⟩
    unfold partsN
    rw [show k = hi from by lia]
  | m + 1, k, d, b, acc, y7, y8, rs, hk, hz => by
    rw [rngs_cons (by lia)]
    unfold partsN
    have hlt : k < ts.length := by lia
    have hc1 := ev_mark (n := n) (σ := σ ++ [some (acc.map pairD)]) (i := k) h hlt
    have hx1 : x ≠ Str.ofString "" := by rcases hx with rfl | rfl <;> decide
    have hs1 := last_get (σ := σ) (a := some (acc.map pairD))
    have hs2 := hs1
    have hz1 : (acc.map pairD).length ≤ 1000 := by rw [List.length_map]; lia
    cases h1 : isOp ts k (Str.ofString "(") with
    | true =>
      have h2 : isOp ts k (Str.ofString ")") = false := isOp_ne h1 (by decide)
      have hxk : isOp ts k x = false := isOp_ne h1 (by rcases hx with rfl | rfl <;> decide)
      have hb1 : (mark ts k == Str.ofString "(") = true := by rw [mark_op (by decide)]; exact h1
      have hb2 : (mark ts k == Str.ofString ")") = false := by rw [mark_op (by decide)]; exact h2
      have hb3 : (mark ts k == x) = false := by rw [mark_op hx1]; exact hxk
      rw [dl_open h1, if_neg (by rw [hxk]; simp)]
      obtain ⟨b', d', acc', y7', y8', rs', e1, e2⟩ := parted_loop h hx hhi m (k + 1) (d + 1) b acc (some (I k)) (some (T (mark ts k))) rs (by lia) (by lia)
      exact ⟨b', d', acc', y7', y8', rs', for_n rfl (sN (gK (fK (aC (vK rfl) (aC (vK rfl) a0C)) hc1)) (sN (tI (tK (bK (vK rfl) kK oEq_s)) hb1 (sN (sAug_k (bK (vK rfl) kK oAdd_k)) nK)) (sN (nI (tK (bK (vK rfl) kK oEq_s)) hb2 nK) (sN (nI (tAnd_f (tK (bK (vK rfl) (vK rfl) oEq_s)) hb3) rfl nK) nK)))) e1, e2⟩
    | false =>
      have hb1 : (mark ts k == Str.ofString "(") = false := by rw [mark_op (by decide)]; exact h1
      cases h2 : isOp ts k (Str.ofString ")") with
      | true =>
        have hxk : isOp ts k x = false := isOp_ne h2 (by rcases hx with rfl | rfl <;> decide)
        have hb2 : (mark ts k == Str.ofString ")") = true := by rw [mark_op (by decide)]; exact h2
        have hb3 : (mark ts k == x) = false := by rw [mark_op hx1]; exact hxk
        rw [dl_shut h2, if_neg (by rw [hxk]; simp)]
        obtain ⟨b', d', acc', y7', y8', rs', e1, e2⟩ := parted_loop h hx hhi m (k + 1) (d + -1) b acc (some (I k)) (some (T (mark ts k))) rs (by lia) (by lia)
        exact ⟨b', d', acc', y7', y8', rs', for_n rfl (sN (gK (fK (aC (vK rfl) (aC (vK rfl) a0C)) hc1)) (sN (nI (tK (bK (vK rfl) kK oEq_s)) hb1 nK) (sN (tI (tK (bK (vK rfl) kK oEq_s)) hb2 (sN (sAug_k (bK (vK rfl) kK oSub_k)) nK)) (sN (nI (tAnd_f (tK (bK (vK rfl) (vK rfl) oEq_s)) hb3) rfl nK) nK)))) e1, e2⟩
      | false =>
        have hb2 : (mark ts k == Str.ofString ")") = false := by rw [mark_op (by decide)]; exact h2
        rw [dl_else h1 h2, Int.add_zero]
        cases hxk : isOp ts k x with
        | false =>
          have hb3 : (mark ts k == x) = false := by rw [mark_op hx1]; exact hxk
          rw [if_neg (by simp)]
          obtain ⟨b', d', acc', y7', y8', rs', e1, e2⟩ := parted_loop h hx hhi m (k + 1) d b acc (some (I k)) (some (T (mark ts k))) rs (by lia) (by lia)
          exact ⟨b', d', acc', y7', y8', rs', for_n rfl (sN (gK (fK (aC (vK rfl) (aC (vK rfl) a0C)) hc1)) (sN (nI (tK (bK (vK rfl) kK oEq_s)) hb1 nK) (sN (nI (tK (bK (vK rfl) kK oEq_s)) hb2 nK) (sN (nI (tAnd_f (tK (bK (vK rfl) (vK rfl) oEq_s)) hb3) rfl nK) nK)))) e1, e2⟩
        | true =>
          have hb3 : (mark ts k == x) = true := by rw [mark_op hx1]; exact hxk
          by_cases hd : d = 0
          · have hb4 : (d == 0) = true := beq_iff_eq.mpr hd
            rw [if_pos ⟨rfl, hd⟩]
            obtain ⟨b', d', acc', y7', y8', rs', e1, e2⟩ := parted_loop h hx hhi m (k + 1) d (k + 1) (acc ++ [(b, k)]) (some (I k)) (some (T (mark ts k))) rs (by lia) (by rw [List.length_append, List.length_singleton]; lia)
            rw [List.map_append, ← last_set (σ := σ) (a := some (acc.map pairD))] at e1
            exact ⟨b', d', acc', y7', y8', rs', for_n rfl (sN (gK (fK (aC (vK rfl) (aC (vK rfl) a0C)) hc1)) (sN (nI (tK (bK (vK rfl) kK oEq_s)) hb1 nK) (sN (nI (tK (bK (vK rfl) kK oEq_s)) hb2 nK) (sN (tI (tAnd_t (tK (bK (vK rfl) (vK rfl) oEq_s)) hb3 (tAnd_t (tK (bK (vK rfl) kK oEq_i)) hb4 tAnd_0)) rfl (sN (sApp_k rfl hs1 (uK (eC (vK rfl) (eC (vK rfl) e0C))) hs2 hz1) (sN (gK (bK (vK rfl) kK oAdd_k)) nK))) nK)))) e1, by rw [e2, List.append_assoc]; rfl⟩
          · have hb4 : (d == 0) = false := beq_false_of_ne hd
            rw [if_neg (fun q => hd q.2)]
            obtain ⟨b', d', acc', y7', y8', rs', e1, e2⟩ := parted_loop h hx hhi m (k + 1) d b acc (some (I k)) (some (T (mark ts k))) rs (by lia) (by lia)
            exact ⟨b', d', acc', y7', y8', rs', for_n rfl (sN (gK (fK (aC (vK rfl) (aC (vK rfl) a0C)) hc1)) (sN (nI (tK (bK (vK rfl) kK oEq_s)) hb1 nK) (sN (nI (tK (bK (vK rfl) kK oEq_s)) hb2 nK) (sN (nI (tAnd_t (tK (bK (vK rfl) (vK rfl) oEq_s)) hb3 (tAnd_f (tK (bK (vK rfl) kK oEq_i)) hb4)) rfl nK) nK)))) e1, e2⟩
theorem ev_parted (h : TK ds ts) {lo hi : Nat} (hx : x = Str.ofString "," ∨ x = Str.ofString ":") (hlo : lo ≤ hi) (hhi : hi ≤ ts.length) (hz0 : ts.length ≤ 800) : callF (n + 2) .law_parted [L ds, I lo, I hi, T x] σ = .ok (.d (.list ((partsN ts x (hi - lo) lo 0 lo).map pairD)), σ) := by
  have hl := h.len
  have hz1 : lo ≤ 10000 := by lia
  have hz2 : hi ≤ 10000 := by lia
  refine glq fun Gq kq => ?_
  obtain ⟨b', d', acc', y7', y8', rs', e1, e2⟩ := parted_loop (n := n) (σ := σ) (lo := lo) h hx hhi (hi - lo) lo 0 lo [] none none [none, none] (by lia) (by simpa using by lia)
  refine kq ?_
  clear kq Gq
  rw [List.nil_append] at e2
  rw [← e2, List.map_append]
  have hw1 := e1
  have hlen : acc'.length ≤ 1000 := by
    have q := congrArg List.length e2
    have : ∀ (m k : Nat) (d : Int) (b : Nat), (partsN ts x m k d b).length ≤ m + 1 := by
      intro m
      induction m with
      | zero => intro k d b; simp [partsN]
      | succ m ih =>
        intro k d b
        unfold partsN
        split
        · rw [List.length_cons]; have := ih (k + 1) (d + dl ts k) (k + 1); lia
        · have := ih (k + 1) (d + dl ts k) b; lia
    have := this (hi - lo) lo 0 lo
    rw [List.length_append, List.length_singleton] at q
    lia
  have ho1 : oLApp (.loc σ.length) (.d (.list [pairD (b', hi)])) (σ ++ [some (acc'.map pairD)]) = .ok (.d (.list (acc'.map pairD ++ [pairD (b', hi)])), σ ++ [some (acc'.map pairD)]) := by
    unfold oLApp datOf
    dsimp only
    rw [last_get]
    dsimp only
    rw [if_pos (by rw [List.length_map, List.length_singleton]; lia)]
  have ht : (σ ++ [some (acc'.map pairD)]).take σ.length = σ := last_take
  exact ((st_law_parted _ _ _).trans (run_okt rfl (sN sNew_k (sN (gK (vK rfl)) (sN (gK kK) (sN (sForR_k (vK rfl) (vK rfl) hw1 rfl rfl hz1 hz2) (sR (sRet_k (bK (vK rfl) (lK (eC (uK (eC (vK rfl) (eC (vK rfl) e0C))) e0C)) ho1))))))) ht))
end
noncomputable def MarksOk (ts : List Tk) : Prop := ∀ (i : Nat) (s : Str), ts[i]? = some (.op s) → PyData.strOk s = true
theorem mark_ok {ts : List Tk} (h : MarksOk ts) (i : Nat) : PyData.strOk (mark ts i) = true := by
  unfold mark
  cases e : ts[i]? with
  | none => show PyData.strOk (Str.ofString "") = true; decide +kernel
  | some t => cases t <;> first | exact h i _ e | (show PyData.strOk (Str.ofString "") = true; decide +kernel)
theorem inT2 {x a b : Str} {σ : Sto} (hx : PyData.strOk x = true) (ha : PyData.strOk a = true) (hb : PyData.strOk b = true) : oInT (T x) (.d (.tuple [.str a, .str b])) σ = .ok (Bo (a == x || b == x), σ) := by
  show (if PyData.canLayAll0 [.str a, .str b] = true ∧ PyData.canLay0 (.str x) = true ∧ PyData.depth (.str x) ≤ 4000 then Res.ok (AV.d (.bool ([PyData.str a, .str b].any fun y => PyData.eqv y (.str x))), σ) else .bad) = _
  have h1 : PyData.canLayAll0 [.str a, .str b] = true := by simp [PyData.canLayAll0, PyData.canLay0, ha, hb]
  have h2 : PyData.canLay0 (.str x) = true := by simp [PyData.canLay0, hx]
  have h3 : PyData.depth (.str x) ≤ 4000 := by simp [PyData.depth]
  rw [if_pos ⟨h1, h2, h3⟩]
  simp [PyData.eqv]
theorem notInT2 {x a b : Str} {σ : Sto} (hx : PyData.strOk x = true) (ha : PyData.strOk a = true) (hb : PyData.strOk b = true) : oNotInT (T x) (.d (.tuple [.str a, .str b])) σ = .ok (Bo (!(a == x || b == x)), σ) := by
  show (if PyData.canLayAll0 [.str a, .str b] = true ∧ PyData.canLay0 (.str x) = true ∧ PyData.depth (.str x) ≤ 4000 then Res.ok (AV.d (.bool (!([PyData.str a, .str b].any fun y => PyData.eqv y (.str x)))), σ) else .bad) = _
  have h1 : PyData.canLayAll0 [.str a, .str b] = true := by simp [PyData.canLayAll0, PyData.canLay0, ha, hb]
  have h2 : PyData.canLay0 (.str x) = true := by simp [PyData.canLay0, hx]
  have h3 : PyData.depth (.str x) ≤ 4000 := by simp [PyData.depth]
  rw [if_pos ⟨h1, h2, h3⟩]
  simp [PyData.eqv]
theorem kind_ok (t : Tk) : PyData.strOk t.kind = true := by
  cases t <;> first | (show PyData.strOk (Str.ofString "OP") = true; decide +kernel) | (show PyData.strOk (Str.ofString "NAME") = true; decide +kernel) | (show PyData.strOk (Str.ofString "INT") = true; decide +kernel) | (show PyData.strOk (Str.ofString "REAL") = true; decide +kernel) | (show PyData.strOk (Str.ofString "DBLE") = true; decide +kernel) | (show PyData.strOk (Str.ofString "LOG") = true; decide +kernel) | (show PyData.strOk (Str.ofString "CHAR") = true; decide +kernel)
noncomputable def lpart (ts : List Tk) (lo hi : Nat) : Option PyData := if partEnd ts lo = some hi then some (partT ts lo) else none
section
variable {ds : List PyData} {ts : List Tk} {n : Nat} {lo hi fl : Nat} {x : Str} {σ : Sto}
theorem num_tok {i : Nat} (hn : numAt ts i = true) : ∃ t, ts[i]? = some t ∧ ((∃ v, t = .int v) ∨ ∃ a b, t = .real a b) := by
  unfold numAt at hn
  cases e : ts[i]? with
  | none => rw [e] at hn; cases hn
  | some t =>
    rw [e] at hn
    cases t <;> first | exact ⟨_, rfl, .inl ⟨_, rfl⟩⟩ | exact ⟨_, rfl, .inr ⟨_, _, rfl⟩⟩ | cases hn
theorem ev_law_part (h : TK ds ts) (hm' : MarksOk ts) (hlo : lo ≤ hi) (hhi : hi ≤ ts.length) : callF (n + 2) .law_part [L ds, I lo, I hi] σ = .ok (.d (optD (lpart ts lo hi)), σ) := by
  unfold lpart
  have tell : ∀ (j : Nat) (t : Tk) (s : Int), ts[j]? = some t → True := fun _ _ _ _ => trivial
  have sgn_in : ∀ i, sgn ts i = (Str.ofString "+" == mark ts i || Str.ofString "-" == mark ts i) := by
    intro i
    unfold sgn
    rw [← mark_op (by decide), ← mark_op (by decide), Bool.beq_comm, Bool.beq_comm (a := mark ts i)]
  by_cases h2 : hi = lo + 2
  · subst h2
    have hb1 : (((lo + 2 : Nat) : Int) - ((lo : Nat) : Int) == 2) = true := beq_iff_eq.mpr (by lia)
    have hc1 := ev_mark (n := n) (σ := σ) (i := lo) h (by lia)
    have ho1 := inT2 (σ := σ) (x := mark ts lo) (a := Str.ofString "+") (b := Str.ofString "-") (mark_ok hm' lo) (by decide +kernel) (by decide +kernel)
    cases hs : sgn ts lo with
    | true =>
      have hb2 : (Str.ofString "+" == mark ts lo || Str.ofString "-" == mark ts lo) = true := by rw [← sgn_in]; exact hs
      have hc2 := hc1
      obtain ⟨t, ht⟩ : ∃ t, ts[lo + 1]? = some t := ⟨_, List.getElem?_eq_getElem (by lia)⟩
      obtain ⟨r, hr_low⟩ := h.item ht
      have hbn : (!(((lo + 2 : Nat) : Int) - ((lo : Int) + 1) == 1)) = false := by
        have : (((lo + 2 : Nat) : Int) - ((lo : Int) + 1) == 1) = true := beq_iff_eq.mpr (by lia)
        rw [this]; rfl
      have ho2 := notInT2 (σ := σ) (x := t.kind) (a := Str.ofString "INT") (b := Str.ofString "REAL") (kind_ok t) (by decide +kernel) (by decide +kernel)
      have hpe : partEnd ts lo = if numAt ts (lo + 1) = true then some (lo + 2) else none := by unfold partEnd; rw [if_pos hs]
      rw [hpe]
      have hpt : partT ts lo = consT t (if isOp ts lo (Str.ofString "-") = true then -1 else 1) := by unfold partT; rw [if_pos hs, ht]
      cases hm1 : isOp ts lo (Str.ofString "-") with
      | true =>
        have hb3 : (mark ts lo == Str.ofString "-") = true := by rw [mark_op (by decide)]; exact hm1
        rw [hm1, if_pos rfl] at hpt
        have hm : ∀ y : Int, (-1 : Int).natAbs ≤ 4 ∨ y.natAbs ≤ 4 := fun y => .inl (by decide)
        have hb4 := hbn
        cases hn : numAt ts (lo + 1) with
        | false =>
          have hb5 : (!(Str.ofString "INT" == t.kind || Str.ofString "REAL" == t.kind)) = true := by
            unfold numAt at hn
            rw [ht] at hn
            cases t <;> first | rfl | cases hn
          show _ = Res.ok (AV.d .none, σ)
          exact ((st_law_part _ _ _).trans (run_ok0 rfl (sN (gK kK) (sN (tI (tAnd_t (tK (bK (bK (vK rfl) (vK rfl) oSub_k) kK oEq_i)) hb1 (tAnd_t (tK (bK (fK (aC (vK rfl) (aC (vK rfl) a0C)) hc1) (uK (eC kK (eC kK e0C))) ho1)) hb2 tAnd_0)) rfl (sN (gK (cIf_t (tK (bK (fK (aC (vK rfl) (aC (vK rfl) a0C)) hc2) kK oEq_s)) hb3 cNeg_k)) (sN (sAug_k (bK (vK rfl) kK oAdd_k)) nK))) (sR (tI (tOr_f (tK (bK (bK (vK rfl) (vK rfl) oSub_k) kK oNe_i)) hb4 (tOr_t (tK (bK (bK (bK (vK rfl) (vK rfl) (hr_low _)) kK oItem_0) (uK (eC kK (eC kK e0C))) ho2)) hb5)) rfl (sR (sRet_k kK))))))))
        | true =>
          rw [if_pos rfl, if_pos rfl, hpt]
          obtain ⟨t', ht', hk⟩ := num_tok hn
          rw [ht] at ht'; cases ht'
          rcases hk with ⟨v, rfl⟩ | ⟨a, b, rfl⟩
          · have hb5 : (!(Str.ofString "INT" == (Tk.int v).kind || Str.ofString "REAL" == (Tk.int v).kind)) = false := rfl
            have hb6 : ((Tk.int v).kind == Str.ofString "INT") = true := rfl
            show _ = Res.ok (AV.d (.tuple [.str (Str.ofString "int"), .int (-1 * v)]), σ)
            exact ((st_law_part _ _ _).trans (run_ok0 rfl (sN (gK kK) (sN (tI (tAnd_t (tK (bK (bK (vK rfl) (vK rfl) oSub_k) kK oEq_i)) hb1 (tAnd_t (tK (bK (fK (aC (vK rfl) (aC (vK rfl) a0C)) hc1) (uK (eC kK (eC kK e0C))) ho1)) hb2 tAnd_0)) rfl (sN (gK (cIf_t (tK (bK (fK (aC (vK rfl) (aC (vK rfl) a0C)) hc2) kK oEq_s)) hb3 cNeg_k)) (sN (sAug_k (bK (vK rfl) kK oAdd_k)) nK))) (sN (nI (tOr_f (tK (bK (bK (vK rfl) (vK rfl) oSub_k) kK oNe_i)) hb4 (tOr_f (tK (bK (bK (bK (vK rfl) (vK rfl) (hr_low _)) kK oItem_0) (uK (eC kK (eC kK e0C))) ho2)) hb5 tOr_0)) rfl nK) (sR (tI (tK (bK (bK (bK (vK rfl) (vK rfl) (hr_low _)) kK oItem_0) kK oEq_s)) hb6 (sR (sRet_k (uK (eC kK (eC (bK (vK rfl) (bK (bK (vK rfl) (vK rfl) (hr_low _)) kK oItem_1) (oMul_k (hm _))) e0C))))))))))))
          · have hb5 : (!(Str.ofString "INT" == (Tk.real a b).kind || Str.ofString "REAL" == (Tk.real a b).kind)) = false := rfl
            have hb6 : ((Tk.real a b).kind == Str.ofString "INT") = false := rfl
            show _ = Res.ok (AV.d (.tuple [.str (Str.ofString "real"), .int (-1 * a), .int b]), σ)
            exact ((st_law_part _ _ _).trans (run_ok0 rfl (sN (gK kK) (sN (tI (tAnd_t (tK (bK (bK (vK rfl) (vK rfl) oSub_k) kK oEq_i)) hb1 (tAnd_t (tK (bK (fK (aC (vK rfl) (aC (vK rfl) a0C)) hc1) (uK (eC kK (eC kK e0C))) ho1)) hb2 tAnd_0)) rfl (sN (gK (cIf_t (tK (bK (fK (aC (vK rfl) (aC (vK rfl) a0C)) hc2) kK oEq_s)) hb3 cNeg_k)) (sN (sAug_k (bK (vK rfl) kK oAdd_k)) nK))) (sN (nI (tOr_f (tK (bK (bK (vK rfl) (vK rfl) oSub_k) kK oNe_i)) hb4 (tOr_f (tK (bK (bK (bK (vK rfl) (vK rfl) (hr_low _)) kK oItem_0) (uK (eC kK (eC kK e0C))) ho2)) hb5 tOr_0)) rfl nK) (sN (nI (tK (bK (bK (bK (vK rfl) (vK rfl) (hr_low _)) kK oItem_0) kK oEq_s)) hb6 nK) (sR (sRet_k (uK (eC kK (eC (bK (vK rfl) (bK (bK (bK (vK rfl) (vK rfl) (hr_low _)) kK oItem_1) kK oItem_0) (oMul_k (hm _))) (eC (bK (bK (bK (vK rfl) (vK rfl) (hr_low _)) kK oItem_1) kK oItem_1) e0C))))))))))))
      | false =>
        have hb3 : (mark ts lo == Str.ofString "-") = false := by rw [mark_op (by decide)]; exact hm1
        rw [hm1, if_neg (by simp)] at hpt
        have hm : ∀ y : Int, (1 : Int).natAbs ≤ 4 ∨ y.natAbs ≤ 4 := fun y => .inl (by decide)
        have hb4 := hbn
        cases hn : numAt ts (lo + 1) with
        | false =>
          have hb5 : (!(Str.ofString "INT" == t.kind || Str.ofString "REAL" == t.kind)) = true := by
            unfold numAt at hn
            rw [ht] at hn
            cases t <;> first | rfl | cases hn
          show _ = Res.ok (AV.d .none, σ)
          exact ((st_law_part _ _ _).trans (run_ok0 rfl (sN (gK kK) (sN (tI (tAnd_t (tK (bK (bK (vK rfl) (vK rfl) oSub_k) kK oEq_i)) hb1 (tAnd_t (tK (bK (fK (aC (vK rfl) (aC (vK rfl) a0C)) hc1) (uK (eC kK (eC kK e0C))) ho1)) hb2 tAnd_0)) rfl (sN (gK (cIf_f (tK (bK (fK (aC (vK rfl) (aC (vK rfl) a0C)) hc2) kK oEq_s)) hb3 kK)) (sN (sAug_k (bK (vK rfl) kK oAdd_k)) nK))) (sR (tI (tOr_f (tK (bK (bK (vK rfl) (vK rfl) oSub_k) kK oNe_i)) hb4 (tOr_t (tK (bK (bK (bK (vK rfl) (vK rfl) (hr_low _)) kK oItem_0) (uK (eC kK (eC kK e0C))) ho2)) hb5)) rfl (sR (sRet_k kK))))))))
        | true =>
          rw [if_pos rfl, if_pos rfl, hpt]
          obtain ⟨t', ht', hk⟩ := num_tok hn
          rw [ht] at ht'; cases ht'
          rcases hk with ⟨v, rfl⟩ | ⟨a, b, rfl⟩
          · have hb5 : (!(Str.ofString "INT" == (Tk.int v).kind || Str.ofString "REAL" == (Tk.int v).kind)) = false := rfl
            have hb6 : ((Tk.int v).kind == Str.ofString "INT") = true := rfl
            show _ = Res.ok (AV.d (.tuple [.str (Str.ofString "int"), .int (1 * v)]), σ)
            exact ((st_law_part _ _ _).trans (run_ok0 rfl (sN (gK kK) (sN (tI (tAnd_t (tK (bK (bK (vK rfl) (vK rfl) oSub_k) kK oEq_i)) hb1 (tAnd_t (tK (bK (fK (aC (vK rfl) (aC (vK rfl) a0C)) hc1) (uK (eC kK (eC kK e0C))) ho1)) hb2 tAnd_0)) rfl (sN (gK (cIf_f (tK (bK (fK (aC (vK rfl) (aC (vK rfl) a0C)) hc2) kK oEq_s)) hb3 kK)) (sN (sAug_k (bK (vK rfl) kK oAdd_k)) nK))) (sN (nI (tOr_f (tK (bK (bK (vK rfl) (vK rfl) oSub_k) kK oNe_i)) hb4 (tOr_f (tK (bK (bK (bK (vK rfl) (vK rfl) (hr_low _)) kK oItem_0) (uK (eC kK (eC kK e0C))) ho2)) hb5 tOr_0)) rfl nK) (sR (tI (tK (bK (bK (bK (vK rfl) (vK rfl) (hr_low _)) kK oItem_0) kK oEq_s)) hb6 (sR (sRet_k (uK (eC kK (eC (bK (vK rfl) (bK (bK (vK rfl) (vK rfl) (hr_low _)) kK oItem_1) (oMul_k (hm _))) e0C))))))))))))
          · have hb5 : (!(Str.ofString "INT" == (Tk.real a b).kind || Str.ofString "REAL" == (Tk.real a b).kind)) = false := rfl
            have hb6 : ((Tk.real a b).kind == Str.ofString "INT") = false := rfl
            show _ = Res.ok (AV.d (.tuple [.str (Str.ofString "real"), .int (1 * a), .int b]), σ)
            exact ((st_law_part _ _ _).trans (run_ok0 rfl (sN (gK kK) (sN (tI (tAnd_t (tK (bK (bK (vK rfl) (vK rfl) oSub_k) kK oEq_i)) hb1 (tAnd_t (tK (bK (fK (aC (vK rfl) (aC (vK rfl) a0C)) hc1) (uK (eC kK (eC kK e0C))) ho1)) hb2 tAnd_0)) rfl (sN (gK (cIf_f (tK (bK (fK (aC (vK rfl) (aC (vK rfl) a0C)) hc2) kK oEq_s)) hb3 kK)) (sN (sAug_k (bK (vK rfl) kK oAdd_k)) nK))) (sN (nI (tOr_f (tK (bK (bK (vK rfl) (vK rfl) oSub_k) kK oNe_i)) hb4 (tOr_f (tK (bK (bK (bK (vK rfl) (vK rfl) (hr_low _)) kK oItem_0) (uK (eC kK (eC kK e0C))) ho2)) hb5 tOr_0)) rfl nK) (sN (nI (tK (bK (bK (bK (vK rfl) (vK rfl) (hr_low _)) kK oItem_0) kK oEq_s)) hb6 nK) (sR (sRet_k (uK (eC kK (eC (bK (vK rfl) (bK (bK (bK (vK rfl) (vK rfl) (hr_low _)) kK oItem_1) kK oItem_0) (oMul_k (hm _))) (eC (bK (bK (bK (vK rfl) (vK rfl) (hr_low _)) kK oItem_1) kK oItem_1) e0C))))))))))))
    | false =>
      have hb2 : (Str.ofString "+" == mark ts lo || Str.ofString "-" == mark ts lo) = false := by rw [← sgn_in]; exact hs
      have hb3 : (!(((lo + 2 : Nat) : Int) - ((lo : Nat) : Int) == 1)) = true := by
        have : (((lo + 2 : Nat) : Int) - ((lo : Nat) : Int) == 1) = false := beq_false_of_ne (by lia)
        rw [this]; rfl
      rw [if_neg (by unfold partEnd; rw [hs, if_neg (by simp)]; split <;> simp)]
      show _ = Res.ok (AV.d .none, σ)
      exact ((st_law_part _ _ _).trans (run_ok0 rfl (sN (gK kK) (sN (nI (tAnd_t (tK (bK (bK (vK rfl) (vK rfl) oSub_k) kK oEq_i)) hb1 (tAnd_f (tK (bK (fK (aC (vK rfl) (aC (vK rfl) a0C)) hc1) (uK (eC kK (eC kK e0C))) ho1)) hb2)) rfl nK) (sR (tI (tOr_t (tK (bK (bK (vK rfl) (vK rfl) oSub_k) kK oNe_i)) hb3) rfl (sR (sRet_k kK))))))))
  · have hb1 : (((hi : Nat) : Int) - ((lo : Nat) : Int) == 2) = false := beq_false_of_ne (by lia)
    by_cases h1 : hi = lo + 1
    · subst h1
      have hb2 : (!(((lo + 1 : Nat) : Int) - ((lo : Nat) : Int) == 1)) = false := by
        have : (((lo + 1 : Nat) : Int) - ((lo : Nat) : Int) == 1) = true := beq_iff_eq.mpr (by lia)
        rw [this]; rfl
      obtain ⟨t, ht⟩ : ∃ t, ts[lo]? = some t := ⟨_, List.getElem?_eq_getElem (by lia)⟩
      obtain ⟨r, hr_low⟩ := h.item ht
      have ho1 := notInT2 (σ := σ) (x := t.kind) (a := Str.ofString "INT") (b := Str.ofString "REAL") (kind_ok t) (by decide +kernel) (by decide +kernel)
      have hm : ∀ y : Int, (1 : Int).natAbs ≤ 4 ∨ y.natAbs ≤ 4 := fun y => .inl (by decide)
      cases hn : numAt ts lo with
      | false =>
        have hb3 : (!(Str.ofString "INT" == t.kind || Str.ofString "REAL" == t.kind)) = true := by
          unfold numAt at hn
          rw [ht] at hn
          cases t <;> first | rfl | cases hn
        rw [if_neg (fun q => by
          unfold partEnd at q
          rw [hn] at q
          split at q
          · split at q
            · injection q with q; lia
            · cases q
          · simp at q)]
        show _ = Res.ok (AV.d .none, σ)
        exact ((st_law_part _ _ _).trans (run_ok0 rfl (sN (gK kK) (sN (nI (tAnd_f (tK (bK (bK (vK rfl) (vK rfl) oSub_k) kK oEq_i)) hb1) rfl nK) (sR (tI (tOr_f (tK (bK (bK (vK rfl) (vK rfl) oSub_k) kK oNe_i)) hb2 (tOr_t (tK (bK (bK (bK (vK rfl) (vK rfl) (hr_low _)) kK oItem_0) (uK (eC kK (eC kK e0C))) ho1)) hb3)) rfl (sR (sRet_k kK))))))))
      | true =>
        refine glq fun Gq kq => ?_
        obtain ⟨t', ht', hk⟩ := num_tok hn
        refine kq ?_
        clear kq Gq
        rw [ht] at ht'; cases ht'
        have hs : sgn ts lo = false := by
          unfold sgn isOp
          rw [ht]
          rcases hk with ⟨v, rfl⟩ | ⟨a, b, rfl⟩ <;> rfl
        have hnm : isOp ts lo (Str.ofString "-") = false := by
          unfold isOp
          rw [ht]
          rcases hk with ⟨v, rfl⟩ | ⟨a, b, rfl⟩ <;> rfl
        have hpt : partT ts lo = consT t 1 := by unfold partT; rw [if_neg (by rw [hs]; simp), ht, hnm, if_neg (by simp)]
        rw [if_pos (by unfold partEnd; rw [hs, hn]; rfl), hpt]
        rcases hk with ⟨v, rfl⟩ | ⟨a, b, rfl⟩
        · have hb3 : (!(Str.ofString "INT" == (Tk.int v).kind || Str.ofString "REAL" == (Tk.int v).kind)) = false := rfl
          have hb4 : ((Tk.int v).kind == Str.ofString "INT") = true := rfl
          show _ = Res.ok (AV.d (.tuple [.str (Str.ofString "int"), .int (1 * v)]), σ)
          exact ((st_law_part _ _ _).trans (run_ok0 rfl (sN (gK kK) (sN (nI (tAnd_f (tK (bK (bK (vK rfl) (vK rfl) oSub_k) kK oEq_i)) hb1) rfl nK) (sN (nI (tOr_f (tK (bK (bK (vK rfl) (vK rfl) oSub_k) kK oNe_i)) hb2 (tOr_f (tK (bK (bK (bK (vK rfl) (vK rfl) (hr_low _)) kK oItem_0) (uK (eC kK (eC kK e0C))) ho1)) hb3 tOr_0)) rfl nK) (sR (tI (tK (bK (bK (bK (vK rfl) (vK rfl) (hr_low _)) kK oItem_0) kK oEq_s)) hb4 (sR (sRet_k (uK (eC kK (eC (bK (vK rfl) (bK (bK (vK rfl) (vK rfl) (hr_low _)) kK oItem_1) (oMul_k (hm _))) e0C))))))))))))
        · have hb3 : (!(Str.ofString "INT" == (Tk.real a b).kind || Str.ofString "REAL" == (Tk.real a b).kind)) = false := rfl
          have hb4 : ((Tk.real a b).kind == Str.ofString "INT") = false := rfl
          show _ = Res.ok (AV.d (.tuple [.str (Str.ofString "real"), .int (1 * a), .int b]), σ)
          exact ((st_law_part _ _ _).trans (run_ok0 rfl (sN (gK kK) (sN (nI (tAnd_f (tK (bK (bK (vK rfl) (vK rfl) oSub_k) kK oEq_i)) hb1) rfl nK) (sN (nI (tOr_f (tK (bK (bK (vK rfl) (vK rfl) oSub_k) kK oNe_i)) hb2 (tOr_f (tK (bK (bK (bK (vK rfl) (vK rfl) (hr_low _)) kK oItem_0) (uK (eC kK (eC kK e0C))) ho1)) hb3 tOr_0)) rfl nK) (sN (nI (tK (bK (bK (bK (vK rfl) (vK rfl) (hr_low _)) kK oItem_0) kK oEq_s)) hb4 nK) (sR (sRet_k (uK (eC kK (eC (bK (vK rfl) (bK (bK (bK (vK rfl) (vK rfl) (hr_low _)) kK oItem_1) kK oItem_0) (oMul_k (hm _))) (eC (bK (bK (bK (vK rfl) (vK rfl) (hr_low _)) kK oItem_1) kK oItem_1) e0C))))))))))))
    · have hb2 : (!(((hi : Nat) : Int) - ((lo : Nat) : Int) == 1)) = true := by
        have : (((hi : Nat) : Int) - ((lo : Nat) : Int) == 1) = false := beq_false_of_ne (by lia)
        rw [this]; rfl
      rw [if_neg (by unfold partEnd; split <;> split <;> simp <;> lia)]
      show _ = Res.ok (AV.d .none, σ)
      exact ((st_law_part _ _ _).trans (run_ok0 rfl (sN (gK kK) (sN (nI (tAnd_f (tK (bK (bK (vK rfl) (vK rfl) oSub_k) kK oEq_i)) hb1) rfl nK) (sR (tI (tOr_t (tK (bK (bK (vK rfl) (vK rfl) oSub_k) kK oNe_i)) hb2) rfl (sR (sRet_k kK))))))))
end
noncomputable def scanN (ts : List Tk) (lo : Nat) : Nat → Nat → Int → Int → Int → Int × Int
  | 0, _, _, B, S => (B, S)
  | m + 1, k, d, B, S =>
    if d + dl ts k = 0 ∧ lo < k then
      match rankZ (mark ts k) with
      | some r => if r < B ∨ (r = B ∧ B < 9) then scanN ts lo m (k + 1) (d + dl ts k) r k else scanN ts lo m (k + 1) (d + dl ts k) B S
      | none => scanN ts lo m (k + 1) (d + dl ts k) B S
    else scanN ts lo m (k + 1) (d + dl ts k) B S
theorem oIn_pri {x : Str} {σ : Sto} : oIn (T x) (.tab priD) σ = .ok (Bo (rankZ x).isSome, σ) := by
  show Res.ok (AV.d (.bool (lookS priD x).isSome), σ) = _
  rw [lookS_pri]
  unfold rankZ
  cases pTab.lookup x <;> rfl
theorem oItem_pri {x : Str} {r : Int} {σ : Sto} (h : rankZ x = some r) : oItem (.tab priD) (T x) σ = .ok (.d (.int r), σ) := by
  show (match lookS priD x with | some (.int i) => Res.ok (AV.d (.int i), σ) | _ => Res.bad) = _
  rw [lookS_pri]
  unfold rankZ at h
  rw [h]
  rfl
section
variable {ds : List PyData} {ts : List Tk} {n : Nat} {lo hi fl : Nat} {x : Str} {σ : Sto}
theorem ev_rank : callF (n + 1) .law_rank [] σ = .ok (.tab priD, σ) := ((st_law_rank _ _ _).trans (run_tab rfl (sR (sRet_k cPri_k))))
noncomputable def readB : SC := sCons (sAsg 8 (cCall .law_mark [cV 0, cV 7])) (sCons (sIf (tE (cBin oEq (cV 8) (cK (.str (Str.ofString "("))))) (sCons (sAug 6 oAdd (cK (.int 1))) (sNil)) (sNil)) (sCons (sIf (tE (cBin oEq (cV 8) (cK (.str (Str.ofString ")"))))) (sCons (sAug 6 oSub (cK (.int 1))) (sNil)) (sNil)) (sCons (sIf (tAnd [tE (cBin oEq (cV 6) (cK (.int 0))), tE (cBin oGt (cV 7) (cV 1)), tE (cBin oIn (cV 8) (cCall .law_rank []))]) (sCons (sIf (tOr [tE (cBin oLt (cBin oItem (cCall .law_rank []) (cV 8)) (cV 4)), tAnd [tE (cBin oEq (cBin oItem (cCall .law_rank []) (cV 8)) (cV 4)), tE (cBin oLt (cV 4) (cK (.int 9)))]]) (sCons (sAsg 4 (cBin oItem (cCall .law_rank []) (cV 8))) (sCons (sAsg 5 (cV 7)) (sNil))) (sNil)) (sNil)) (sNil)) (sNil))))
theorem scan_loop (h : TK ds ts) (hhi : hi ≤ ts.length) : ∀ (m k : Nat) (d B S : Int) (y7 y8 : Option AV) (rs : Rho), k + m = hi →
    ∃ d' y7' y8', forL (tgt1 7) readB (rngs (k : Nat) (hi : Nat)) (callF (n + 1)) (some (L ds) :: some (I lo) :: some (I hi) :: some (I fl) :: some (.d (.int B)) :: some (.d (.int S)) :: some (.d (.int d)) :: y7 :: y8 :: rs) σ
      = .ok (.next, some (L ds) :: some (I lo) :: some (I hi) :: some (I fl) :: some (.d (.int (scanN ts lo m k d B S).1)) :: some (.d (.int (scanN ts lo m k d B S).2)) :: some (.d (.int d')) :: y7' :: y8' :: rs, σ)
  | 0, k, d, B, S, y7, y8, rs, hk => by
    rw [rngs_nil (by lia)]
    exact ⟨_, _, _, rfl⟩
  | m + 1, k, d, B, S, y7, y8, rs, hk => by
    rw [rngs_cons (by lia)]
    unfold scanN
    have hlt : k < ts.length := by lia
    have hc1 := ev_mark (n := n) (σ := σ) (i := k) h hlt
    have hc2 := ev_rank (n := n) (σ := σ)
    have hc3 := hc2
    have hc4 := hc2
    have hc5 := hc2
    have ho1 := oIn_pri (x := mark ts k) (σ := σ)
    cases h1 : isOp ts k (Str.ofString "(") with
    | true =>
      have h2 : isOp ts k (Str.ofString ")") = false := isOp_ne h1 (by decide)
      have hb1 : (mark ts k == Str.ofString "(") = true := by rw [mark_op (by decide)]; exact h1
      have hb2 : (mark ts k == Str.ofString ")") = false := by rw [mark_op (by decide)]; exact h2
      have hmk : mark ts k = Str.ofString "(" := beq_iff_eq.mp hb1
      have hrk : rankZ (mark ts k) = none := by rw [hmk]; decide
      rw [dl_open h1, hrk]
      have fin := scan_loop h hhi m (k + 1) (d + 1) B S (some (I k)) (some (T (mark ts k))) rs (by lia)
      obtain ⟨d', y7', y8', e⟩ := fin
      have e0 : (if d + 1 = 0 ∧ lo < k then scanN ts lo m (k + 1) (d + 1) B S else scanN ts lo m (k + 1) (d + 1) B S) = scanN ts lo m (k + 1) (d + 1) B S := by split <;> rfl
      dsimp only
      rw [e0]
      by_cases hd : d + 1 = 0
      · have hb3 : (d + 1 == 0) = true := beq_iff_eq.mpr hd
        by_cases hlk : lo < k
        · have hb4 : decide (((lo : Nat) : Int) < ((k : Nat) : Int)) = true := decide_eq_true (by lia)
          have hb5 : (rankZ (mark ts k)).isSome = false := by rw [hrk]; rfl
          exact ⟨d', y7', y8', for_n rfl (sN (gK (fK (aC (vK rfl) (aC (vK rfl) a0C)) hc1)) (sN (tI (tK (bK (vK rfl) kK oEq_s)) hb1 (sN (sAug_k (bK (vK rfl) kK oAdd_k)) nK)) (sN (nI (tK (bK (vK rfl) kK oEq_s)) hb2 nK) (sN (nI (tAnd_t (tK (bK (vK rfl) kK oEq_i)) hb3 (tAnd_t (tK (bK (vK rfl) (vK rfl) oGt_k)) hb4 (tAnd_f (tK (bK (vK rfl) (fK a0C hc2) ho1)) hb5))) rfl nK) nK)))) e⟩
        · have hb4 : decide (((lo : Nat) : Int) < ((k : Nat) : Int)) = false := decide_eq_false (by lia)
          exact ⟨d', y7', y8', for_n rfl (sN (gK (fK (aC (vK rfl) (aC (vK rfl) a0C)) hc1)) (sN (tI (tK (bK (vK rfl) kK oEq_s)) hb1 (sN (sAug_k (bK (vK rfl) kK oAdd_k)) nK)) (sN (nI (tK (bK (vK rfl) kK oEq_s)) hb2 nK) (sN (nI (tAnd_t (tK (bK (vK rfl) kK oEq_i)) hb3 (tAnd_f (tK (bK (vK rfl) (vK rfl) oGt_k)) hb4)) rfl nK) nK)))) e⟩
      · have hb3 : (d + 1 == 0) = false := beq_false_of_ne hd
        exact ⟨d', y7', y8', for_n rfl (sN (gK (fK (aC (vK rfl) (aC (vK rfl) a0C)) hc1)) (sN (tI (tK (bK (vK rfl) kK oEq_s)) hb1 (sN (sAug_k (bK (vK rfl) kK oAdd_k)) nK)) (sN (nI (tK (bK (vK rfl) kK oEq_s)) hb2 nK) (sN (nI (tAnd_f (tK (bK (vK rfl) kK oEq_i)) hb3) rfl nK) nK)))) e⟩
    | false =>
      have hb1 : (mark ts k == Str.ofString "(") = false := by rw [mark_op (by decide)]; exact h1
      cases h2 : isOp ts k (Str.ofString ")") with
      | true =>
        have hb2 : (mark ts k == Str.ofString ")") = true := by rw [mark_op (by decide)]; exact h2
        have hmk : mark ts k = Str.ofString ")" := beq_iff_eq.mp hb2
        have hrk : rankZ (mark ts k) = none := by rw [hmk]; decide
        rw [dl_shut h2, hrk]
        obtain ⟨d', y7', y8', e⟩ := scan_loop h hhi m (k + 1) (d + -1) B S (some (I k)) (some (T (mark ts k))) rs (by lia)
        have e0 : (if d + -1 = 0 ∧ lo < k then scanN ts lo m (k + 1) (d + -1) B S else scanN ts lo m (k + 1) (d + -1) B S) = scanN ts lo m (k + 1) (d + -1) B S := by split <;> rfl
        dsimp only
        rw [e0]
        by_cases hd : d + -1 = 0
        · have hb3 : (d - 1 == 0) = true := beq_iff_eq.mpr hd
          by_cases hlk : lo < k
          · have hb4 : decide (((lo : Nat) : Int) < ((k : Nat) : Int)) = true := decide_eq_true (by lia)
            have hb5 : (rankZ (mark ts k)).isSome = false := by rw [hrk]; rfl
            exact ⟨d', y7', y8', for_n rfl (sN (gK (fK (aC (vK rfl) (aC (vK rfl) a0C)) hc1)) (sN (nI (tK (bK (vK rfl) kK oEq_s)) hb1 nK) (sN (tI (tK (bK (vK rfl) kK oEq_s)) hb2 (sN (sAug_k (bK (vK rfl) kK oSub_k)) nK)) (sN (nI (tAnd_t (tK (bK (vK rfl) kK oEq_i)) hb3 (tAnd_t (tK (bK (vK rfl) (vK rfl) oGt_k)) hb4 (tAnd_f (tK (bK (vK rfl) (fK a0C hc2) ho1)) hb5))) rfl nK) nK)))) e⟩
          · have hb4 : decide (((lo : Nat) : Int) < ((k : Nat) : Int)) = false := decide_eq_false (by lia)
            exact ⟨d', y7', y8', for_n rfl (sN (gK (fK (aC (vK rfl) (aC (vK rfl) a0C)) hc1)) (sN (nI (tK (bK (vK rfl) kK oEq_s)) hb1 nK) (sN (tI (tK (bK (vK rfl) kK oEq_s)) hb2 (sN (sAug_k (bK (vK rfl) kK oSub_k)) nK)) (sN (nI (tAnd_t (tK (bK (vK rfl) kK oEq_i)) hb3 (tAnd_f (tK (bK (vK rfl) (vK rfl) oGt_k)) hb4)) rfl nK) nK)))) e⟩
        · have hb3 : (d - 1 == 0) = false := beq_false_of_ne hd
          exact ⟨d', y7', y8', for_n rfl (sN (gK (fK (aC (vK rfl) (aC (vK rfl) a0C)) hc1)) (sN (nI (tK (bK (vK rfl) kK oEq_s)) hb1 nK) (sN (tI (tK (bK (vK rfl) kK oEq_s)) hb2 (sN (sAug_k (bK (vK rfl) kK oSub_k)) nK)) (sN (nI (tAnd_f (tK (bK (vK rfl) kK oEq_i)) hb3) rfl nK) nK)))) e⟩
      | false =>
        have hb2 : (mark ts k == Str.ofString ")") = false := by rw [mark_op (by decide)]; exact h2
        rw [dl_else h1 h2, Int.add_zero]
        by_cases hd : d = 0
        · have hb3 : (d == 0) = true := beq_iff_eq.mpr hd
          by_cases hlk : lo < k
          · have hb4 : decide (((lo : Nat) : Int) < ((k : Nat) : Int)) = true := decide_eq_true (by lia)
            rw [if_pos ⟨hd, hlk⟩]
            cases hrk : rankZ (mark ts k) with
            | none =>
              have hb5 : (rankZ (mark ts k)).isSome = false := by rw [hrk]; rfl
              obtain ⟨d', y7', y8', e⟩ := scan_loop h hhi m (k + 1) d B S (some (I k)) (some (T (mark ts k))) rs (by lia)
              exact ⟨d', y7', y8', for_n rfl (sN (gK (fK (aC (vK rfl) (aC (vK rfl) a0C)) hc1)) (sN (nI (tK (bK (vK rfl) kK oEq_s)) hb1 nK) (sN (nI (tK (bK (vK rfl) kK oEq_s)) hb2 nK) (sN (nI (tAnd_t (tK (bK (vK rfl) kK oEq_i)) hb3 (tAnd_t (tK (bK (vK rfl) (vK rfl) oGt_k)) hb4 (tAnd_f (tK (bK (vK rfl) (fK a0C hc2) ho1)) hb5))) rfl nK) nK)))) e⟩
            | some r =>
              have hb5 : (rankZ (mark ts k)).isSome = true := by rw [hrk]; rfl
              have hi1 := oItem_pri (σ := σ) hrk
              have hi2 := hi1
              have hi3 := hi1
              dsimp only
              by_cases hrB : r < B
              · have hb6 : decide (r < B) = true := decide_eq_true hrB
                rw [if_pos (.inl hrB)]
                refine glq fun Gq kq => ?_
                obtain ⟨d', y7', y8', e⟩ := scan_loop h hhi m (k + 1) d r k (some (I k)) (some (T (mark ts k))) rs (by lia)
                refine kq ?_
                clear kq Gq
                exact ⟨d', y7', y8', for_n rfl (sN (gK (fK (aC (vK rfl) (aC (vK rfl) a0C)) hc1)) (sN (nI (tK (bK (vK rfl) kK oEq_s)) hb1 nK) (sN (nI (tK (bK (vK rfl) kK oEq_s)) hb2 nK) (sN (tI (tAnd_t (tK (bK (vK rfl) kK oEq_i)) hb3 (tAnd_t (tK (bK (vK rfl) (vK rfl) oGt_k)) hb4 (tAnd_t (tK (bK (vK rfl) (fK a0C hc2) ho1)) hb5 tAnd_0))) rfl (sN (tI (tOr_t (tK (bK (bK (fK a0C hc3) (vK rfl) hi1) (vK rfl) oLt_k)) hb6) rfl (sN (gK (bK (fK a0C hc4) (vK rfl) hi2)) (sN (gK (vK rfl)) nK))) nK)) nK)))) e⟩
              · have hb6 : decide (r < B) = false := decide_eq_false hrB
                by_cases hrE : r = B
                · have hb7 : (r == B) = true := beq_iff_eq.mpr hrE
                  by_cases hB9 : B < 9
                  · have hb8 : decide (B < 9) = true := decide_eq_true hB9
                    rw [if_pos (.inr ⟨hrE, hB9⟩)]
                    obtain ⟨d', y7', y8', e⟩ := scan_loop h hhi m (k + 1) d r k (some (I k)) (some (T (mark ts k))) rs (by lia)
                    exact ⟨d', y7', y8', for_n rfl (sN (gK (fK (aC (vK rfl) (aC (vK rfl) a0C)) hc1)) (sN (nI (tK (bK (vK rfl) kK oEq_s)) hb1 nK) (sN (nI (tK (bK (vK rfl) kK oEq_s)) hb2 nK) (sN (tI (tAnd_t (tK (bK (vK rfl) kK oEq_i)) hb3 (tAnd_t (tK (bK (vK rfl) (vK rfl) oGt_k)) hb4 (tAnd_t (tK (bK (vK rfl) (fK a0C hc2) ho1)) hb5 tAnd_0))) rfl (sN (tI (tOr_f (tK (bK (bK (fK a0C hc3) (vK rfl) hi1) (vK rfl) oLt_k)) hb6 (tOr_t (tAnd_t (tK (bK (bK (fK a0C hc4) (vK rfl) hi2) (vK rfl) oEq_i)) hb7 (tAnd_t (tK (bK (vK rfl) kK oLt_k)) hb8 tAnd_0)) rfl)) rfl (sN (gK (bK (fK a0C hc5) (vK rfl) hi3)) (sN (gK (vK rfl)) nK))) nK)) nK)))) e⟩
                  · have hb8 : decide (B < 9) = false := decide_eq_false hB9
                    rw [if_neg (fun q => q.elim hrB fun q => hB9 q.2)]
                    obtain ⟨d', y7', y8', e⟩ := scan_loop h hhi m (k + 1) d B S (some (I k)) (some (T (mark ts k))) rs (by lia)
                    exact ⟨d', y7', y8', for_n rfl (sN (gK (fK (aC (vK rfl) (aC (vK rfl) a0C)) hc1)) (sN (nI (tK (bK (vK rfl) kK oEq_s)) hb1 nK) (sN (nI (tK (bK (vK rfl) kK oEq_s)) hb2 nK) (sN (tI (tAnd_t (tK (bK (vK rfl) kK oEq_i)) hb3 (tAnd_t (tK (bK (vK rfl) (vK rfl) oGt_k)) hb4 (tAnd_t (tK (bK (vK rfl) (fK a0C hc2) ho1)) hb5 tAnd_0))) rfl (sN (nI (tOr_f (tK (bK (bK (fK a0C hc3) (vK rfl) hi1) (vK rfl) oLt_k)) hb6 (tOr_f (tAnd_t (tK (bK (bK (fK a0C hc4) (vK rfl) hi2) (vK rfl) oEq_i)) hb7 (tAnd_f (tK (bK (vK rfl) kK oLt_k)) hb8)) rfl tOr_0)) rfl nK) nK)) nK)))) e⟩
                · have hb7 : (r == B) = false := beq_false_of_ne hrE
                  rw [if_neg (fun q => q.elim hrB fun q => hrE q.1)]
                  refine glq fun Gq kq => ?_
                  obtain ⟨d', y7', y8', e⟩ := scan_loop h hhi m (k + 1) d B S (some (I k)) (some (T (mark ts k))) rs (by lia)
                  refine kq ?_
                  clear kq Gq
                  exact ⟨d', y7', y8', for_n rfl (sN (gK (fK (aC (vK rfl) (aC (vK rfl) a0C)) hc1)) (sN (nI (tK (bK (vK rfl) kK oEq_s)) hb1 nK) (sN (nI (tK (bK (vK rfl) kK oEq_s)) hb2 nK) (sN (tI (tAnd_t (tK (bK (vK rfl) kK oEq_i)) hb3 (tAnd_t (tK (bK (vK rfl) (vK rfl) oGt_k)) hb4 (tAnd_t (tK (bK (vK rfl) (fK a0C hc2) ho1)) hb5 tAnd_0))) rfl (sN (nI (tOr_f (tK (bK (bK (fK a0C hc3) (vK rfl) hi1) (vK rfl) oLt_k)) hb6 (tOr_f (tAnd_f (tK (bK (bK (fK a0C hc4) (vK rfl) hi2) (vK rfl) oEq_i)) hb7) rfl tOr_0)) rfl nK) nK)) nK)))) e⟩
          · have hb4 : decide (((lo : Nat) : Int) < ((k : Nat) : Int)) = false := decide_eq_false (by lia)
            rw [if_neg (fun q => hlk q.2)]
            obtain ⟨d', y7', y8', e⟩ := scan_loop h hhi m (k + 1) d B S (some (I k)) (some (T (mark ts k))) rs (by lia)
            exact ⟨d', y7', y8', for_n rfl (sN (gK (fK (aC (vK rfl) (aC (vK rfl) a0C)) hc1)) (sN (nI (tK (bK (vK rfl) kK oEq_s)) hb1 nK) (sN (nI (tK (bK (vK rfl) kK oEq_s)) hb2 nK) (sN (nI (tAnd_t (tK (bK (vK rfl) kK oEq_i)) hb3 (tAnd_f (tK (bK (vK rfl) (vK rfl) oGt_k)) hb4)) rfl nK) nK)))) e⟩
        · have hb3 : (d == 0) = false := beq_false_of_ne hd
          rw [if_neg (fun q => hd q.1)]
          refine glq fun Gq kq => ?_
          obtain ⟨d', y7', y8', e⟩ := scan_loop h hhi m (k + 1) d B S (some (I k)) (some (T (mark ts k))) rs (by lia)
          refine kq ?_
          clear kq Gq
          exact ⟨d', y7', y8', for_n rfl (sN (gK (fK (aC (vK rfl) (aC (vK rfl) a0C)) hc1)) (sN (nI (tK (bK (vK rfl) kK oEq_s)) hb1 nK) (sN (nI (tK (bK (vK rfl) kK oEq_s)) hb2 nK) (sN (nI (tAnd_f (tK (bK (vK rfl) kK oEq_i)) hb3) rfl nK) nK)))) e⟩
noncomputable def GR (n : Nat) (ds : List PyData) (lo hi fl : Nat) (r : Option PyData) : Prop := ∀ σ, callF n .law_read [L ds, I lo, I hi, I fl] σ = .ok (.d (optD r), σ)
noncomputable def RT (r : Option PyData) : Prop := ∀ t, r = some t → ∃ xs, t = .tuple xs
theorem oIs_opt {r : Option PyData} (h : RT r) {σ : Sto} : oIsNone (.d (optD r)) (.d .none) σ = .ok (Bo r.isNone, σ) := by
  cases r with
  | none => rfl
  | some t =>
    obtain ⟨xs, rfl⟩ := h t rfl
    rfl
theorem gr_empty (h : hi ≤ lo) : GR (n + 1) ds lo hi fl none := by
  intro σ
  have hb1 : decide (((hi : Nat) : Int) ≤ ((lo : Nat) : Int)) = true := decide_eq_true (by lia)
  exact ((st_law_read _ _ _).trans (run_ok0 rfl (sR (tI (tK (bK (vK rfl) (vK rfl) oGe_k)) hb1 (sR (sRet_k kK))))))
noncomputable def scanOf (ts : List Tk) (lo hi : Nat) : Int × Int := scanN ts lo (hi - lo) lo 0 99 (-1)
theorem gr_not (h : TK ds ts) (hlo : lo < hi) (hhi : hi ≤ ts.length) (h1 : isOp ts lo (Str.ofString ".NOT.") = true) (hB : 3 < (scanOf ts lo hi).1) {r : Option PyData} (hr : RT r) (hg : fl ≤ 4 → GR n ds (lo + 1) hi 5 r) (hn : ∃ q, n = q + 1) :
    GR (n + 1) ds lo hi fl (if fl ≤ 4 then r.map (unT (Str.ofString ".NOT.")) else none) := by
  intro σ
  obtain ⟨q, rfl⟩ := hn
  have hz := h.small
  have hl := h.len
  have hz1 : lo ≤ 10000 := by lia
  have hz2 : hi ≤ 10000 := by lia
  have hb1 : decide (((hi : Nat) : Int) ≤ ((lo : Nat) : Int)) = false := decide_eq_false (by lia)
  obtain ⟨d', y7', y8', hw1⟩ := scan_loop (n := q) (σ := σ) (fl := fl) h hhi (hi - lo) lo 0 99 (-1) none none [none, none, none, none, none, none, none, none, none] (by lia)
  have hc1 := ev_mark (n := q) (σ := σ) (i := lo) h (by lia)
  have hmk : mark ts lo = Str.ofString ".NOT." := by unfold mark; rw [isOp_iff.mp h1]
  rw [hmk] at hc1
  have hb2 : (Str.ofString ".NOT." == Str.ofString ".NOT.") = true := beq_self_eq_true _
  have hb3 : decide ((3 : Int) < (scanOf ts lo hi).1) = true := decide_eq_true hB
  by_cases hf : fl ≤ 4
  · have hb4 : decide (((fl : Nat) : Int) ≤ 4) = true := decide_eq_true (by lia)
    have hc2 := hg hf σ
    have ho1 := oIs_opt hr (σ := σ)
    rw [if_pos hf]
    cases r with
    | none =>
      have hb5 : (none : Option PyData).isNone = true := rfl
      exact ((st_law_read _ _ _).trans (run_ok0 rfl (sN (nI (tK (bK (vK rfl) (vK rfl) oGe_k)) hb1 nK) (sN (gK kK) (sN (gK cNeg_k) (sN (gK kK) (sN (sForR_k (vK rfl) (vK rfl) hw1 rfl rfl hz1 hz2) (sN (gK (fK (aC (vK rfl) (aC (vK rfl) a0C)) hc1)) (sR (tI (tAnd_t (tK (bK (vK rfl) kK oEq_s)) hb2 (tAnd_t (tK (bK (vK rfl) kK oGt_k)) hb3 tAnd_0)) rfl (sN (gK (cIf_t (tK (bK (vK rfl) kK oLe_k)) hb4 (fK (aC (vK rfl) (aC (bK (vK rfl) kK oAdd_k) (aC (vK rfl) (aC kK a0C)))) hc2))) (sR (sRet_k (cIf_t (tK (bK (vK rfl) kK ho1)) hb5 kK))))))))))))))
    | some t =>
      have hb5 : (some t : Option PyData).isNone = false := rfl
      exact ((st_law_read _ _ _).trans (run_ok0 rfl (sN (nI (tK (bK (vK rfl) (vK rfl) oGe_k)) hb1 nK) (sN (gK kK) (sN (gK cNeg_k) (sN (gK kK) (sN (sForR_k (vK rfl) (vK rfl) hw1 rfl rfl hz1 hz2) (sN (gK (fK (aC (vK rfl) (aC (vK rfl) a0C)) hc1)) (sR (tI (tAnd_t (tK (bK (vK rfl) kK oEq_s)) hb2 (tAnd_t (tK (bK (vK rfl) kK oGt_k)) hb3 tAnd_0)) rfl (sN (gK (cIf_t (tK (bK (vK rfl) kK oLe_k)) hb4 (fK (aC (vK rfl) (aC (bK (vK rfl) kK oAdd_k) (aC (vK rfl) (aC kK a0C)))) hc2))) (sR (sRet_k (cIf_f (tK (bK (vK rfl) kK ho1)) hb5 (uK (eC kK (eC (vK rfl) (eC (vK rfl) e0C))))))))))))))))))
  · have hb4 : decide (((fl : Nat) : Int) ≤ 4) = false := decide_eq_false (by lia)
    rw [if_neg hf]
    have ho1 := oIs_opt (r := none) (fun t e => by cases e) (σ := σ)
    have hb5 : (none : Option PyData).isNone = true := rfl
    exact ((st_law_read _ _ _).trans (run_ok0 rfl (sN (nI (tK (bK (vK rfl) (vK rfl) oGe_k)) hb1 nK) (sN (gK kK) (sN (gK cNeg_k) (sN (gK kK) (sN (sForR_k (vK rfl) (vK rfl) hw1 rfl rfl hz1 hz2) (sN (gK (fK (aC (vK rfl) (aC (vK rfl) a0C)) hc1)) (sR (tI (tAnd_t (tK (bK (vK rfl) kK oEq_s)) hb2 (tAnd_t (tK (bK (vK rfl) kK oGt_k)) hb3 tAnd_0)) rfl (sN (gK (cIf_f (tK (bK (vK rfl) kK oLe_k)) hb4 kK)) (sR (sRet_k (cIf_t (tK (bK (vK rfl) kK ho1)) hb5 kK))))))))))))))
theorem gr_sgn (h : TK ds ts) (hlo : lo < hi) (hhi : hi ≤ ts.length) {s : Str} (h1 : ts[lo]? = some (.op s)) (hs : s = Str.ofString "+" ∨ s = Str.ofString "-") (hB : 7 < (scanOf ts lo hi).1) {r : Option PyData} (hr : RT r) (hg : fl ≤ 7 → GR n ds (lo + 1) hi 8 r) (hn : ∃ q, n = q + 1) :
    GR (n + 1) ds lo hi fl (if fl ≤ 7 then r.map (unT s) else none) := by
  intro σ
  obtain ⟨q, rfl⟩ := hn
  have hz := h.small
  have hl := h.len
  have hz1 : lo ≤ 10000 := by lia
  have hz2 : hi ≤ 10000 := by lia
  have hb1 : decide (((hi : Nat) : Int) ≤ ((lo : Nat) : Int)) = false := decide_eq_false (by lia)
  obtain ⟨d', y7', y8', hw1⟩ := scan_loop (n := q) (σ := σ) (fl := fl) h hhi (hi - lo) lo 0 99 (-1) none none [none, none, none, none, none, none, none, none, none] (by lia)
  have hc1 := ev_mark (n := q) (σ := σ) (i := lo) h (by lia)
  have hmk : mark ts lo = s := by unfold mark; rw [h1]
  rw [hmk] at hc1
  have hb2 : (s == Str.ofString ".NOT.") = false := by rcases hs with rfl | rfl <;> decide
  have hbB : decide ((7 : Int) < (scanOf ts lo hi).1) = true := decide_eq_true hB
  have ho1 := oIs_opt hr (σ := σ)
  have ho0 := oIs_opt (r := none) (fun t e => by cases e) (σ := σ)
  rcases hs with rfl | rfl
  · have hb3 : (Str.ofString "+" == Str.ofString "+") = true := beq_self_eq_true _
    have hb4 := hbB
    by_cases hf : fl ≤ 7
    · have hb5 : decide (((fl : Nat) : Int) ≤ 7) = true := decide_eq_true (by lia)
      have hc2 := hg hf σ
      rw [if_pos hf]
      cases r with
      | none =>
        have hb6 : (none : Option PyData).isNone = true := rfl
        exact ((st_law_read _ _ _).trans (run_ok0 rfl (sN (nI (tK (bK (vK rfl) (vK rfl) oGe_k)) hb1 nK) (sN (gK kK) (sN (gK cNeg_k) (sN (gK kK) (sN (sForR_k (vK rfl) (vK rfl) hw1 rfl rfl hz1 hz2) (sN (gK (fK (aC (vK rfl) (aC (vK rfl) a0C)) hc1)) (sN (nI (tAnd_f (tK (bK (vK rfl) kK oEq_s)) hb2) rfl nK) (sR (tI (tAnd_t (tOr_t (tK (bK (vK rfl) kK oEq_s)) hb3) rfl (tAnd_t (tK (bK (vK rfl) kK oGt_k)) hb4 tAnd_0)) rfl (sN (gK (cIf_t (tK (bK (vK rfl) kK oLe_k)) hb5 (fK (aC (vK rfl) (aC (bK (vK rfl) kK oAdd_k) (aC (vK rfl) (aC kK a0C)))) hc2))) (sR (sRet_k (cIf_t (tK (bK (vK rfl) kK ho1)) hb6 kK)))))))))))))))
      | some t =>
        have hb6 : (some t : Option PyData).isNone = false := rfl
        exact ((st_law_read _ _ _).trans (run_ok0 rfl (sN (nI (tK (bK (vK rfl) (vK rfl) oGe_k)) hb1 nK) (sN (gK kK) (sN (gK cNeg_k) (sN (gK kK) (sN (sForR_k (vK rfl) (vK rfl) hw1 rfl rfl hz1 hz2) (sN (gK (fK (aC (vK rfl) (aC (vK rfl) a0C)) hc1)) (sN (nI (tAnd_f (tK (bK (vK rfl) kK oEq_s)) hb2) rfl nK) (sR (tI (tAnd_t (tOr_t (tK (bK (vK rfl) kK oEq_s)) hb3) rfl (tAnd_t (tK (bK (vK rfl) kK oGt_k)) hb4 tAnd_0)) rfl (sN (gK (cIf_t (tK (bK (vK rfl) kK oLe_k)) hb5 (fK (aC (vK rfl) (aC (bK (vK rfl) kK oAdd_k) (aC (vK rfl) (aC kK a0C)))) hc2))) (sR (sRet_k (cIf_f (tK (bK (vK rfl) kK ho1)) hb6 (uK (eC kK (eC (vK rfl) (eC (vK rfl) e0C)))))))))))))))))))
    · have hb5 : decide (((fl : Nat) : Int) ≤ 7) = false := decide_eq_false (by lia)
      rw [if_neg hf]
      have ho1 := ho0
      have hb6 : (none : Option PyData).isNone = true := rfl
      exact ((st_law_read _ _ _).trans (run_ok0 rfl (sN (nI (tK (bK (vK rfl) (vK rfl) oGe_k)) hb1 nK) (sN (gK kK) (sN (gK cNeg_k) (sN (gK kK) (sN (sForR_k (vK rfl) (vK rfl) hw1 rfl rfl hz1 hz2) (sN (gK (fK (aC (vK rfl) (aC (vK rfl) a0C)) hc1)) (sN (nI (tAnd_f (tK (bK (vK rfl) kK oEq_s)) hb2) rfl nK) (sR (tI (tAnd_t (tOr_t (tK (bK (vK rfl) kK oEq_s)) hb3) rfl (tAnd_t (tK (bK (vK rfl) kK oGt_k)) hb4 tAnd_0)) rfl (sN (gK (cIf_f (tK (bK (vK rfl) kK oLe_k)) hb5 kK)) (sR (sRet_k (cIf_t (tK (bK (vK rfl) kK ho1)) hb6 kK)))))))))))))))
  · have hb3 : (Str.ofString "-" == Str.ofString "+") = false := by decide
    have hb4 : (Str.ofString "-" == Str.ofString "-") = true := beq_self_eq_true _
    have hb5 := hbB
    by_cases hf : fl ≤ 7
    · have hb6 : decide (((fl : Nat) : Int) ≤ 7) = true := decide_eq_true (by lia)
      have hc2 := hg hf σ
      rw [if_pos hf]
      cases r with
      | none =>
        have hb7 : (none : Option PyData).isNone = true := rfl
        exact ((st_law_read _ _ _).trans (run_ok0 rfl (sN (nI (tK (bK (vK rfl) (vK rfl) oGe_k)) hb1 nK) (sN (gK kK) (sN (gK cNeg_k) (sN (gK kK) (sN (sForR_k (vK rfl) (vK rfl) hw1 rfl rfl hz1 hz2) (sN (gK (fK (aC (vK rfl) (aC (vK rfl) a0C)) hc1)) (sN (nI (tAnd_f (tK (bK (vK rfl) kK oEq_s)) hb2) rfl nK) (sR (tI (tAnd_t (tOr_f (tK (bK (vK rfl) kK oEq_s)) hb3 (tOr_t (tK (bK (vK rfl) kK oEq_s)) hb4)) rfl (tAnd_t (tK (bK (vK rfl) kK oGt_k)) hb5 tAnd_0)) rfl (sN (gK (cIf_t (tK (bK (vK rfl) kK oLe_k)) hb6 (fK (aC (vK rfl) (aC (bK (vK rfl) kK oAdd_k) (aC (vK rfl) (aC kK a0C)))) hc2))) (sR (sRet_k (cIf_t (tK (bK (vK rfl) kK ho1)) hb7 kK)))))))))))))))
      | some t =>
        have hb7 : (some t : Option PyData).isNone = false := rfl
        exact ((st_law_read _ _ _).trans (run_ok0 rfl (sN (nI (tK (bK (vK rfl) (vK rfl) oGe_k)) hb1 nK) (sN (gK kK) (sN (gK cNeg_k) (sN (gK kK) (sN (sForR_k (vK rfl) (vK rfl) hw1 rfl rfl hz1 hz2) (sN (gK (fK (aC (vK rfl) (aC (vK rfl) a0C)) hc1)) (sN (nI (tAnd_f (tK (bK (vK rfl) kK oEq_s)) hb2) rfl nK) (sR (tI (tAnd_t (tOr_f (tK (bK (vK rfl) kK oEq_s)) hb3 (tOr_t (tK (bK (vK rfl) kK oEq_s)) hb4)) rfl (tAnd_t (tK (bK (vK rfl) kK oGt_k)) hb5 tAnd_0)) rfl (sN (gK (cIf_t (tK (bK (vK rfl) kK oLe_k)) hb6 (fK (aC (vK rfl) (aC (bK (vK rfl) kK oAdd_k) (aC (vK rfl) (aC kK a0C)))) hc2))) (sR (sRet_k (cIf_f (tK (bK (vK rfl) kK ho1)) hb7 (uK (eC kK (eC (vK rfl) (eC (vK rfl) e0C)))))))))))))))))))
    · have hb6 : decide (((fl : Nat) : Int) ≤ 7) = false := decide_eq_false (by lia)
      rw [if_neg hf]
      have ho1 := ho0
      have hb7 : (none : Option PyData).isNone = true := rfl
      exact ((st_law_read _ _ _).trans (run_ok0 rfl (sN (nI (tK (bK (vK rfl) (vK rfl) oGe_k)) hb1 nK) (sN (gK kK) (sN (gK cNeg_k) (sN (gK kK) (sN (sForR_k (vK rfl) (vK rfl) hw1 rfl rfl hz1 hz2) (sN (gK (fK (aC (vK rfl) (aC (vK rfl) a0C)) hc1)) (sN (nI (tAnd_f (tK (bK (vK rfl) kK oEq_s)) hb2) rfl nK) (sR (tI (tAnd_t (tOr_f (tK (bK (vK rfl) kK oEq_s)) hb3 (tOr_t (tK (bK (vK rfl) kK oEq_s)) hb4)) rfl (tAnd_t (tK (bK (vK rfl) kK oGt_k)) hb5 tAnd_0)) rfl (sN (gK (cIf_f (tK (bK (vK rfl) kK oLe_k)) hb6 kK)) (sR (sRet_k (cIf_t (tK (bK (vK rfl) kK ho1)) hb7 kK)))))))))))))))
end
noncomputable def readR : SC := sCons (sIf (tE (cBin oLt (cV 5) (cK (.int 0)))) (sCons (sRet (cCall .law_primary [cV 0, cV 1, cV 2])) (sNil)) (sNil)) (sCons (sIf (tE (cBin oLt (cV 4) (cV 3))) (sCons (sRet (cK .none)) (sNil)) (sNil)) (sCons (sAsg 11 (cCall .law_read [cV 0, cV 1, cV 5, cIf (tE (cBin oEq (cV 4) (cK (.int 9)))) (cK (.int 10)) (cIf (tE (cBin oEq (cV 4) (cK (.int 5)))) (cK (.int 6)) (cV 4))])) (sCons (sAsg 12 (cCall .law_read [cV 0, cBin oAdd (cV 5) (cK (.int 1)), cV 2, cIf (tE (cBin oEq (cV 4) (cK (.int 9)))) (cK (.int 9)) (cBin oAdd (cV 4) (cK (.int 1)))])) (sCons (sIf (tOr [tE (cBin oIsNone (cV 11) (cK .none)), tE (cBin oIsNone (cV 12) (cK .none))]) (sCons (sRet (cK .none)) (sNil)) (sNil)) (sCons (sRet (cTup [cK (.str (Str.ofString "bin")), cBin oItem (cBin oItem (cV 0) (cV 5)) (cK (.int 1)), cV 11, cV 12])) (sNil))))))
section
variable {ds : List PyData} {ts : List Tk} {n : Nat} {lo hi fl : Nat} {x : Str} {σ : Sto}
structure NotU (ts : List Tk) (lo hi : Nat) : Prop where
  no : isOp ts lo (Str.ofString ".NOT.") = true → ¬ 3 < (scanOf ts lo hi).1
  sg : sgn ts lo = true → ¬ 7 < (scanOf ts lo hi).1
theorem gr_rest (h : TK ds ts) (hlo : lo < hi) (hhi : hi ≤ ts.length) (hu : NotU ts lo hi) (hn : ∃ q, n = q + 1) {r : Option PyData}
    (hZ' : ∀ (d' : Int) (y7 : Option AV) (y8 : Option AV), ∃ ρ', readR (callF n) (some (L ds) :: some (I lo) :: some (I hi) :: some (I fl) :: some (.d (.int (scanOf ts lo hi).1)) :: some (.d (.int (scanOf ts lo hi).2)) :: some (.d (.int d')) :: y7 :: y8 :: some (T (mark ts lo)) :: [none, none, none, none, none, none, none, none]) σ = .ok (.ret (.d (optD r)), ρ', σ)) :
    callF (n + 1) .law_read [L ds, I lo, I hi, I fl] σ = .ok (.d (optD r), σ) := by
  obtain ⟨q, rfl⟩ := hn
  have hz := h.small
  have hl := h.len
  have hz1 : lo ≤ 10000 := by lia
  have hz2 : hi ≤ 10000 := by lia
  have hb1 : decide (((hi : Nat) : Int) ≤ ((lo : Nat) : Int)) = false := decide_eq_false (by lia)
  obtain ⟨d', y7', y8', hw1⟩ := scan_loop (n := q) (σ := σ) (fl := fl) h hhi (hi - lo) lo 0 99 (-1) none none [none, none, none, none, none, none, none, none, none] (by lia)
  obtain ⟨ρ', hZ⟩ := hZ' d' y7' y8'
  have hc1 := ev_mark (n := q) (σ := σ) (i := lo) h (by lia)
  have mo : ∀ {y : Str}, y ≠ Str.ofString "" → (mark ts lo == y) = isOp ts lo y := fun hy => mark_op hy
  cases h1 : isOp ts lo (Str.ofString ".NOT.") with
  | true =>
    have hb2 : (mark ts lo == Str.ofString ".NOT.") = true := by rw [mo (by decide)]; exact h1
    have hb3 : decide ((3 : Int) < (scanOf ts lo hi).1) = false := decide_eq_false (hu.no h1)
    have hb4 : (mark ts lo == Str.ofString "+") = false := by rw [mo (by decide)]; exact isOp_ne h1 (by decide)
    have hb5 : (mark ts lo == Str.ofString "-") = false := by rw [mo (by decide)]; exact isOp_ne h1 (by decide)
    exact ((st_law_read _ _ _).trans (run_ok0 rfl (sN (nI (tK (bK (vK rfl) (vK rfl) oGe_k)) hb1 nK) (sN (gK kK) (sN (gK cNeg_k) (sN (gK kK) (sN (sForR_k (vK rfl) (vK rfl) hw1 rfl rfl hz1 hz2) (sN (gK (fK (aC (vK rfl) (aC (vK rfl) a0C)) hc1)) (sN (nI (tAnd_t (tK (bK (vK rfl) kK oEq_s)) hb2 (tAnd_f (tK (bK (vK rfl) kK oGt_k)) hb3)) rfl nK) (sN (nI (tAnd_f (tOr_f (tK (bK (vK rfl) kK oEq_s)) hb4 (tOr_f (tK (bK (vK rfl) kK oEq_s)) hb5 tOr_0)) rfl) rfl nK) hZ))))))))))
  | false =>
    have hb2 : (mark ts lo == Str.ofString ".NOT.") = false := by rw [mo (by decide)]; exact h1
    cases h2 : isOp ts lo (Str.ofString "+") with
    | true =>
      have hb3 : (mark ts lo == Str.ofString "+") = true := by rw [mo (by decide)]; exact h2
      have hb4 : decide ((7 : Int) < (scanOf ts lo hi).1) = false := decide_eq_false (hu.sg (by unfold sgn; rw [h2]; rfl))
      exact ((st_law_read _ _ _).trans (run_ok0 rfl (sN (nI (tK (bK (vK rfl) (vK rfl) oGe_k)) hb1 nK) (sN (gK kK) (sN (gK cNeg_k) (sN (gK kK) (sN (sForR_k (vK rfl) (vK rfl) hw1 rfl rfl hz1 hz2) (sN (gK (fK (aC (vK rfl) (aC (vK rfl) a0C)) hc1)) (sN (nI (tAnd_f (tK (bK (vK rfl) kK oEq_s)) hb2) rfl nK) (sN (nI (tAnd_t (tOr_t (tK (bK (vK rfl) kK oEq_s)) hb3) rfl (tAnd_f (tK (bK (vK rfl) kK oGt_k)) hb4)) rfl nK) hZ))))))))))
    | false =>
      have hb3 : (mark ts lo == Str.ofString "+") = false := by rw [mo (by decide)]; exact h2
      cases h3 : isOp ts lo (Str.ofString "-") with
      | true =>
        have hb4 : (mark ts lo == Str.ofString "-") = true := by rw [mo (by decide)]; exact h3
        have hb5 : decide ((7 : Int) < (scanOf ts lo hi).1) = false := decide_eq_false (hu.sg (by unfold sgn; rw [h3, Bool.or_true]))
        exact ((st_law_read _ _ _).trans (run_ok0 rfl (sN (nI (tK (bK (vK rfl) (vK rfl) oGe_k)) hb1 nK) (sN (gK kK) (sN (gK cNeg_k) (sN (gK kK) (sN (sForR_k (vK rfl) (vK rfl) hw1 rfl rfl hz1 hz2) (sN (gK (fK (aC (vK rfl) (aC (vK rfl) a0C)) hc1)) (sN (nI (tAnd_f (tK (bK (vK rfl) kK oEq_s)) hb2) rfl nK) (sN (nI (tAnd_t (tOr_f (tK (bK (vK rfl) kK oEq_s)) hb3 (tOr_t (tK (bK (vK rfl) kK oEq_s)) hb4)) rfl (tAnd_f (tK (bK (vK rfl) kK oGt_k)) hb5)) rfl nK) hZ))))))))))
      | false =>
        have hb4 : (mark ts lo == Str.ofString "-") = false := by rw [mo (by decide)]; exact h3
        exact ((st_law_read _ _ _).trans (run_ok0 rfl (sN (nI (tK (bK (vK rfl) (vK rfl) oGe_k)) hb1 nK) (sN (gK kK) (sN (gK cNeg_k) (sN (gK kK) (sN (sForR_k (vK rfl) (vK rfl) hw1 rfl rfl hz1 hz2) (sN (gK (fK (aC (vK rfl) (aC (vK rfl) a0C)) hc1)) (sN (nI (tAnd_f (tK (bK (vK rfl) kK oEq_s)) hb2) rfl nK) (sN (nI (tAnd_f (tOr_f (tK (bK (vK rfl) kK oEq_s)) hb3 (tOr_f (tK (bK (vK rfl) kK oEq_s)) hb4 tOr_0)) rfl) rfl nK) hZ))))))))))
noncomputable def GP (n : Nat) (ds : List PyData) (lo hi : Nat) (r : Option PyData) : Prop := ∀ σ, callF n .law_primary [L ds, I lo, I hi] σ = .ok (.d (optD r), σ)
theorem gr_prim (h : TK ds ts) (hlo : lo < hi) (hhi : hi ≤ ts.length) (hu : NotU ts lo hi) (hn : ∃ q, n = q + 1) (hS : (scanOf ts lo hi).2 < 0) {r : Option PyData} (hp : GP n ds lo hi r) : GR (n + 1) ds lo hi fl r := by
  intro σ
  refine gr_rest h hlo hhi hu hn fun d' y7 y8 => ?_
  have hb1 : decide ((scanOf ts lo hi).2 < 0) = true := decide_eq_true hS
  have hc1 := hp σ
  exact ⟨_, (sR (tI (tK (bK (vK rfl) kK oLt_k)) hb1 (sR (sRet_k (fK (aC (vK rfl) (aC (vK rfl) (aC (vK rfl) a0C))) hc1)))))⟩
theorem gr_low (h : TK ds ts) (hlo : lo < hi) (hhi : hi ≤ ts.length) (hu : NotU ts lo hi) (hn : ∃ q, n = q + 1) (hS : ¬ (scanOf ts lo hi).2 < 0) (hB : (scanOf ts lo hi).1 < (fl : Int)) : GR (n + 1) ds lo hi fl none := by
  intro σ
  refine gr_rest h hlo hhi hu hn fun d' y7 y8 => ?_
  have hb1 : decide ((scanOf ts lo hi).2 < 0) = false := decide_eq_false hS
  have hb2 : decide ((scanOf ts lo hi).1 < (fl : Int)) = true := decide_eq_true hB
  exact ⟨_, (sN (nI (tK (bK (vK rfl) kK oLt_k)) hb1 nK) (sR (tI (tK (bK (vK rfl) (vK rfl) oLt_k)) hb2 (sR (sRet_k kK)))))⟩
noncomputable def lft (p : Nat) : Nat := if p = 9 then 10 else if p = 5 then 6 else p
theorem gr_bin (h : TK ds ts) (hlo : lo < hi) (hhi : hi ≤ ts.length) (hu : NotU ts lo hi) (hn : ∃ q, n = q + 1) {k p : Nat} {s : Str} (hS : (scanOf ts lo hi).2 = (k : Nat)) (hp : (scanOf ts lo hi).1 = (p : Nat)) (hk : ts[k]? = some (.op s)) (hB : fl ≤ p)
    {r1 r2 : Option PyData} (t1 : RT r1) (t2 : RT r2) (g1 : GR n ds lo k (lft p) r1) (g2 : GR n ds (k + 1) hi (rgt p) r2) : GR (n + 1) ds lo hi fl (r1.bind fun a => r2.map fun b => binT s a b) := by
  intro σ
  refine gr_rest h hlo hhi hu hn fun d' y7 y8 => ?_
  rw [hS, hp]
  have hb1 : decide (((k : Nat) : Int) < 0) = false := decide_eq_false (by lia)
  have hb2 : decide (((p : Nat) : Int) < (fl : Int)) = false := decide_eq_false (by lia)
  obtain ⟨rr, hr_spot⟩ := h.item hk
  have ho1 := oIs_opt t1 (σ := σ)
  have ho2 := oIs_opt t2 (σ := σ)
  have q1 := g1 σ
  have q2 := g2 σ
  unfold lft at q1
  unfold rgt at q2
  by_cases h9 : p = 9
  · subst h9
    have hb3 : (((9 : Nat) : Int) == 9) = true := rfl
    have hb4 := hb3
    have hc1 : callF n .law_read [L ds, I lo, I k, I 10] σ = .ok (.d (optD r1), σ) := q1
    have hc2 : callF n .law_read [L ds, I (k + 1), I hi, I 9] σ = .ok (.d (optD r2), σ) := q2
    cases r1 with
    | none =>
      have hb5 : (none : Option PyData).isNone = true := rfl
      exact ⟨_, (sN (nI (tK (bK (vK rfl) kK oLt_k)) hb1 nK) (sN (nI (tK (bK (vK rfl) (vK rfl) oLt_k)) hb2 nK) (sN (gK (fK (aC (vK rfl) (aC (vK rfl) (aC (vK rfl) (aC (cIf_t (tK (bK (vK rfl) kK oEq_i)) hb3 kK) a0C)))) hc1)) (sN (gK (fK (aC (vK rfl) (aC (bK (vK rfl) kK oAdd_k) (aC (vK rfl) (aC (cIf_t (tK (bK (vK rfl) kK oEq_i)) hb4 kK) a0C)))) hc2)) (sR (tI (tOr_t (tK (bK (vK rfl) kK ho1)) hb5) rfl (sR (sRet_k kK))))))))⟩
    | some a =>
      have hb5 : (some a : Option PyData).isNone = false := rfl
      cases r2 with
      | none =>
        have hb6 : (none : Option PyData).isNone = true := rfl
        exact ⟨_, (sN (nI (tK (bK (vK rfl) kK oLt_k)) hb1 nK) (sN (nI (tK (bK (vK rfl) (vK rfl) oLt_k)) hb2 nK) (sN (gK (fK (aC (vK rfl) (aC (vK rfl) (aC (vK rfl) (aC (cIf_t (tK (bK (vK rfl) kK oEq_i)) hb3 kK) a0C)))) hc1)) (sN (gK (fK (aC (vK rfl) (aC (bK (vK rfl) kK oAdd_k) (aC (vK rfl) (aC (cIf_t (tK (bK (vK rfl) kK oEq_i)) hb4 kK) a0C)))) hc2)) (sR (tI (tOr_f (tK (bK (vK rfl) kK ho1)) hb5 (tOr_t (tK (bK (vK rfl) kK ho2)) hb6)) rfl (sR (sRet_k kK))))))))⟩
      | some b =>
        have hb6 : (some b : Option PyData).isNone = false := rfl
        exact ⟨_, (sN (nI (tK (bK (vK rfl) kK oLt_k)) hb1 nK) (sN (nI (tK (bK (vK rfl) (vK rfl) oLt_k)) hb2 nK) (sN (gK (fK (aC (vK rfl) (aC (vK rfl) (aC (vK rfl) (aC (cIf_t (tK (bK (vK rfl) kK oEq_i)) hb3 kK) a0C)))) hc1)) (sN (gK (fK (aC (vK rfl) (aC (bK (vK rfl) kK oAdd_k) (aC (vK rfl) (aC (cIf_t (tK (bK (vK rfl) kK oEq_i)) hb4 kK) a0C)))) hc2)) (sN (nI (tOr_f (tK (bK (vK rfl) kK ho1)) hb5 (tOr_f (tK (bK (vK rfl) kK ho2)) hb6 tOr_0)) rfl nK) (sR (sRet_k (uK (eC kK (eC (bK (bK (vK rfl) (vK rfl) (hr_spot _)) kK oItem_1) (eC (vK rfl) (eC (vK rfl) e0C))))))))))))⟩
  · rw [if_neg h9] at q1 q2
    have hb3 : (((p : Nat) : Int) == 9) = false := beq_false_of_ne (by lia)
    by_cases h5 : p = 5
    · subst h5
      have hb4 : (((5 : Nat) : Int) == 5) = true := rfl
      have hb5 := hb3
      have hc1 : callF n .law_read [L ds, I lo, I k, I 6] σ = .ok (.d (optD r1), σ) := q1
      have hc2 : callF n .law_read [L ds, I (k + 1), I hi, I (5 + 1)] σ = .ok (.d (optD r2), σ) := q2
      cases r1 with
      | none =>
        have hb6 : (none : Option PyData).isNone = true := rfl
        exact ⟨_, (sN (nI (tK (bK (vK rfl) kK oLt_k)) hb1 nK) (sN (nI (tK (bK (vK rfl) (vK rfl) oLt_k)) hb2 nK) (sN (gK (fK (aC (vK rfl) (aC (vK rfl) (aC (vK rfl) (aC (cIf_f (tK (bK (vK rfl) kK oEq_i)) hb3 (cIf_t (tK (bK (vK rfl) kK oEq_i)) hb4 kK)) a0C)))) hc1)) (sN (gK (fK (aC (vK rfl) (aC (bK (vK rfl) kK oAdd_k) (aC (vK rfl) (aC (cIf_f (tK (bK (vK rfl) kK oEq_i)) hb5 (bK (vK rfl) kK oAdd_k)) a0C)))) hc2)) (sR (tI (tOr_t (tK (bK (vK rfl) kK ho1)) hb6) rfl (sR (sRet_k kK))))))))⟩
      | some a =>
        have hb6 : (some a : Option PyData).isNone = false := rfl
        cases r2 with
        | none =>
          have hb7 : (none : Option PyData).isNone = true := rfl
          exact ⟨_, (sN (nI (tK (bK (vK rfl) kK oLt_k)) hb1 nK) (sN (nI (tK (bK (vK rfl) (vK rfl) oLt_k)) hb2 nK) (sN (gK (fK (aC (vK rfl) (aC (vK rfl) (aC (vK rfl) (aC (cIf_f (tK (bK (vK rfl) kK oEq_i)) hb3 (cIf_t (tK (bK (vK rfl) kK oEq_i)) hb4 kK)) a0C)))) hc1)) (sN (gK (fK (aC (vK rfl) (aC (bK (vK rfl) kK oAdd_k) (aC (vK rfl) (aC (cIf_f (tK (bK (vK rfl) kK oEq_i)) hb5 (bK (vK rfl) kK oAdd_k)) a0C)))) hc2)) (sR (tI (tOr_f (tK (bK (vK rfl) kK ho1)) hb6 (tOr_t (tK (bK (vK rfl) kK ho2)) hb7)) rfl (sR (sRet_k kK))))))))⟩
        | some b =>
          have hb7 : (some b : Option PyData).isNone = false := rfl
          exact ⟨_, (sN (nI (tK (bK (vK rfl) kK oLt_k)) hb1 nK) (sN (nI (tK (bK (vK rfl) (vK rfl) oLt_k)) hb2 nK) (sN (gK (fK (aC (vK rfl) (aC (vK rfl) (aC (vK rfl) (aC (cIf_f (tK (bK (vK rfl) kK oEq_i)) hb3 (cIf_t (tK (bK (vK rfl) kK oEq_i)) hb4 kK)) a0C)))) hc1)) (sN (gK (fK (aC (vK rfl) (aC (bK (vK rfl) kK oAdd_k) (aC (vK rfl) (aC (cIf_f (tK (bK (vK rfl) kK oEq_i)) hb5 (bK (vK rfl) kK oAdd_k)) a0C)))) hc2)) (sN (nI (tOr_f (tK (bK (vK rfl) kK ho1)) hb6 (tOr_f (tK (bK (vK rfl) kK ho2)) hb7 tOr_0)) rfl nK) (sR (sRet_k (uK (eC kK (eC (bK (bK (vK rfl) (vK rfl) (hr_spot _)) kK oItem_1) (eC (vK rfl) (eC (vK rfl) e0C))))))))))))⟩
    · rw [if_neg h5] at q1
      have hb4 : (((p : Nat) : Int) == 5) = false := beq_false_of_ne (by lia)
      have hb5 := hb3
      have hc1 : callF n .law_read [L ds, I lo, I k, I p] σ = .ok (.d (optD r1), σ) := q1
      have hc2 : callF n .law_read [L ds, I (k + 1), I hi, I (p + 1)] σ = .ok (.d (optD r2), σ) := q2
      cases r1 with
      | none =>
        have hb6 : (none : Option PyData).isNone = true := rfl
        exact ⟨_, (sN (nI (tK (bK (vK rfl) kK oLt_k)) hb1 nK) (sN (nI (tK (bK (vK rfl) (vK rfl) oLt_k)) hb2 nK) (sN (gK (fK (aC (vK rfl) (aC (vK rfl) (aC (vK rfl) (aC (cIf_f (tK (bK (vK rfl) kK oEq_i)) hb3 (cIf_f (tK (bK (vK rfl) kK oEq_i)) hb4 (vK rfl))) a0C)))) hc1)) (sN (gK (fK (aC (vK rfl) (aC (bK (vK rfl) kK oAdd_k) (aC (vK rfl) (aC (cIf_f (tK (bK (vK rfl) kK oEq_i)) hb5 (bK (vK rfl) kK oAdd_k)) a0C)))) hc2)) (sR (tI (tOr_t (tK (bK (vK rfl) kK ho1)) hb6) rfl (sR (sRet_k kK))))))))⟩
      | some a =>
        have hb6 : (some a : Option PyData).isNone = false := rfl
        cases r2 with
        | none =>
          have hb7 : (none : Option PyData).isNone = true := rfl
          exact ⟨_, (sN (nI (tK (bK (vK rfl) kK oLt_k)) hb1 nK) (sN (nI (tK (bK (vK rfl) (vK rfl) oLt_k)) hb2 nK) (sN (gK (fK (aC (vK rfl) (aC (vK rfl) (aC (vK rfl) (aC (cIf_f (tK (bK (vK rfl) kK oEq_i)) hb3 (cIf_f (tK (bK (vK rfl) kK oEq_i)) hb4 (vK rfl))) a0C)))) hc1)) (sN (gK (fK (aC (vK rfl) (aC (bK (vK rfl) kK oAdd_k) (aC (vK rfl) (aC (cIf_f (tK (bK (vK rfl) kK oEq_i)) hb5 (bK (vK rfl) kK oAdd_k)) a0C)))) hc2)) (sR (tI (tOr_f (tK (bK (vK rfl) kK ho1)) hb6 (tOr_t (tK (bK (vK rfl) kK ho2)) hb7)) rfl (sR (sRet_k kK))))))))⟩
        | some b =>
          have hb7 : (some b : Option PyData).isNone = false := rfl
          exact ⟨_, (sN (nI (tK (bK (vK rfl) kK oLt_k)) hb1 nK) (sN (nI (tK (bK (vK rfl) (vK rfl) oLt_k)) hb2 nK) (sN (gK (fK (aC (vK rfl) (aC (vK rfl) (aC (vK rfl) (aC (cIf_f (tK (bK (vK rfl) kK oEq_i)) hb3 (cIf_f (tK (bK (vK rfl) kK oEq_i)) hb4 (vK rfl))) a0C)))) hc1)) (sN (gK (fK (aC (vK rfl) (aC (bK (vK rfl) kK oAdd_k) (aC (vK rfl) (aC (cIf_f (tK (bK (vK rfl) kK oEq_i)) hb5 (bK (vK rfl) kK oAdd_k)) a0C)))) hc2)) (sN (nI (tOr_f (tK (bK (vK rfl) kK ho1)) hb6 (tOr_f (tK (bK (vK rfl) kK ho2)) hb7 tOr_0)) rfl nK) (sR (sRet_k (uK (eC kK (eC (bK (bK (vK rfl) (vK rfl) (hr_spot _)) kK oItem_1) (eC (vK rfl) (eC (vK rfl) e0C))))))))))))⟩
end
theorem cLower_k {o : Orc} {ρ : Rho} {σ σ' : Sto} {c : EC} {x y : Str} (h : c o ρ σ = .ok (T x, σ')) (hl : Txt.lower x = y ∧ y.length ≤ 1000) : cLower c o ρ σ = .ok (T y, σ') := by
  unfold cLower
  rw [h]
  show (if (Txt.lower x).length ≤ 1000 then Res.ok (AV.d (.str (Txt.lower x)), σ') else .bad) = _
  rw [hl.1, if_pos hl.2]
section
variable {ds : List PyData} {ts : List Tk} {n : Nat} {lo hi fl : Nat} {x : Str} {σ : Sto}
theorem e2_TK (hs : ts.length ≤ 1000) : TK (ts.map Tk.e2) ts where
  len := List.length_map ..
  at' := fun i t e => ⟨[], by rw [List.getElem?_map, e]; rfl⟩
  small := by rw [List.length_map]; exact hs
theorem e2_item {i : Nat} {t : Tk} (e : ts[i]? = some t) (hi : i < 10000) (σ : Sto) : oItem (L (ts.map Tk.e2)) (I i) σ = .ok (.d (.tuple [.str t.kind, t.pay]), σ) :=
  oItem_l (by rw [List.getElem?_map, e]; rfl) hi
noncomputable def GN (n : Nat) (ds : List PyData) (lo hi : Nat) (r : Option PyData) : Prop := ∀ σ, callF n .law_named [L ds, I lo, I hi] σ = .ok (.d (optD r), σ)
noncomputable def GC (n : Nat) (ds : List PyData) (lo hi : Nat) (base : PyData) (r : Option PyData) : Prop := ∀ σ, callF n .law_cut [L ds, I lo, I hi, .d base] σ = .ok (.d (optD r), σ)
theorem gp_name (hz0 : ts.length ≤ 1000) {s : Str} (h1 : ts[lo]? = some (.name s)) {r : Option PyData} (hg : GN n (ts.map Tk.e2) lo hi r) : GP (n + 1) (ts.map Tk.e2) lo hi r := by
  intro σ
  have hlt := (List.getElem?_eq_some_iff.mp h1).1
  have hr_low := e2_item h1 (by lia)
  have hb1 : (Str.ofString "NAME" == Str.ofString "NAME") = true := beq_self_eq_true _
  have hc1 := hg σ
  exact ((st_law_primary _ _ _).trans (run_ok0 rfl (sN (sUnp_k (bK (vK rfl) (vK rfl) (hr_low _))) (sR (tI (tK (bK (vK rfl) kK oEq_s)) hb1 (sR (sRet_k (fK (aC (vK rfl) (aC (vK rfl) (aC (vK rfl) a0C))) hc1))))))))
theorem gp_op (hz0 : ts.length ≤ 1000) {s : Str} (h1 : ts[lo]? = some (.op s)) (hs : s ≠ Str.ofString "(") (hn : ∃ q, n = q + 1) : GP (n + 1) (ts.map Tk.e2) lo hi none := by
  intro σ
  obtain ⟨q, rfl⟩ := hn
  have hlt := (List.getElem?_eq_some_iff.mp h1).1
  have hr_low := e2_item h1 (by lia)
  have hb1 : ((Tk.op s).kind == Str.ofString "NAME") = false := rfl
  have hc1 := ev_mark (n := q) (σ := σ) (i := lo) (e2_TK hz0) hlt
  have hb2 : (mark ts lo == Str.ofString "(") = false := by
    rw [mark_op (by decide)]
    unfold isOp
    rw [h1]
    exact beq_false_of_ne hs
  have hb3 : ((Tk.op s).kind == Str.ofString "OP") = true := rfl
  show _ = Res.ok (AV.d .none, σ)
  exact ((st_law_primary _ _ _).trans (run_ok0 rfl (sN (sUnp_k (bK (vK rfl) (vK rfl) (hr_low _))) (sN (nI (tK (bK (vK rfl) kK oEq_s)) hb1 nK) (sN (nI (tK (bK (fK (aC (vK rfl) (aC (vK rfl) a0C)) hc1) kK oEq_s)) hb2 nK) (sR (tI (tOr_t (tK (bK (vK rfl) kK oEq_s)) hb3) rfl (sR (sRet_k kK)))))))))
theorem gp_len (hz0 : ts.length ≤ 1000) {t : Tk} (h1 : ts[lo]? = some t) (h2 : ∀ s, t ≠ .op s) (h3 : ∀ s, t ≠ .name s) (hl : hi ≠ lo + 1) (hn : ∃ q, n = q + 1) : GP (n + 1) (ts.map Tk.e2) lo hi none := by
  intro σ
  obtain ⟨q, rfl⟩ := hn
  have hlt := (List.getElem?_eq_some_iff.mp h1).1
  have hr_low := e2_item h1 (by lia)
  have hb1 : (t.kind == Str.ofString "NAME") = false := by cases t <;> first | rfl | exact absurd rfl (h3 _)
  have hc1 := ev_mark (n := q) (σ := σ) (i := lo) (e2_TK hz0) hlt
  have hb2 : (mark ts lo == Str.ofString "(") = false := by
    rw [mark_op (by decide)]
    unfold isOp
    rw [h1]
    cases t <;> first | rfl | exact absurd rfl (h2 _)
  have hb3 : (t.kind == Str.ofString "OP") = false := by cases t <;> first | rfl | exact absurd rfl (h2 _)
  have hb4 : (!(((hi : Nat) : Int) - ((lo : Nat) : Int) == 1)) = true := by
    have : (((hi : Nat) : Int) - ((lo : Nat) : Int) == 1) = false := beq_false_of_ne (by lia)
    rw [this]; rfl
  show _ = Res.ok (AV.d .none, σ)
  exact ((st_law_primary _ _ _).trans (run_ok0 rfl (sN (sUnp_k (bK (vK rfl) (vK rfl) (hr_low _))) (sN (nI (tK (bK (vK rfl) kK oEq_s)) hb1 nK) (sN (nI (tK (bK (fK (aC (vK rfl) (aC (vK rfl) a0C)) hc1) kK oEq_s)) hb2 nK) (sR (tI (tOr_f (tK (bK (vK rfl) kK oEq_s)) hb3 (tOr_t (tK (bK (bK (vK rfl) (vK rfl) oSub_k) kK oNe_i)) hb4)) rfl (sR (sRet_k kK)))))))))
theorem gp_const (hz0 : ts.length ≤ 1000) {t : Tk} (h1 : ts[lo]? = some t) (h2 : ∀ s, t ≠ .op s) (h3 : ∀ s, t ≠ .name s) (hn : ∃ q, n = q + 1) : GP (n + 1) (ts.map Tk.e2) lo (lo + 1) (some (consT t 1)) := by
  intro σ
  obtain ⟨q, rfl⟩ := hn
  have hlt := (List.getElem?_eq_some_iff.mp h1).1
  have hr_low := e2_item h1 (by lia)
  have hc1 := ev_mark (n := q) (σ := σ) (i := lo) (e2_TK hz0) hlt
  have hb1 : (t.kind == Str.ofString "NAME") = false := by cases t <;> first | rfl | exact absurd rfl (h3 _)
  have hb2 : (mark ts lo == Str.ofString "(") = false := by
    rw [mark_op (by decide)]
    unfold isOp
    rw [h1]
    cases t <;> first | rfl | exact absurd rfl (h2 _)
  have hb3 : (t.kind == Str.ofString "OP") = false := by cases t <;> first | rfl | exact absurd rfl (h2 _)
  have hb4 : (!(((lo + 1 : Nat) : Int) - ((lo : Nat) : Int) == 1)) = false := by
    have : (((lo + 1 : Nat) : Int) - ((lo : Nat) : Int) == 1) = true := beq_iff_eq.mpr (by lia)
    rw [this]; rfl
  cases t with
  | op s => exact absurd rfl (h2 s)
  | name s => exact absurd rfl (h3 s)
  | int v =>
    have hb5 : ((Tk.int v).kind == Str.ofString "REAL") = false := rfl
    have hb6 : ((Tk.int v).kind == Str.ofString "DBLE") = false := rfl
    have hl1 : Txt.lower (Tk.int v).kind = Str.ofString "int" ∧ (Str.ofString "int").length ≤ 1000 := ⟨by show Txt.lower (Str.ofString "INT") = _; decide +kernel, by decide +kernel⟩
    show _ = Res.ok (AV.d (.tuple [.str (Str.ofString "int"), .int (1 * v)]), σ)
    rw [Int.one_mul]
    exact ((st_law_primary _ _ _).trans (run_ok0 rfl (sN (sUnp_k (bK (vK rfl) (vK rfl) (hr_low _))) (sN (nI (tK (bK (vK rfl) kK oEq_s)) hb1 nK) (sN (nI (tK (bK (fK (aC (vK rfl) (aC (vK rfl) a0C)) hc1) kK oEq_s)) hb2 nK) (sN (nI (tOr_f (tK (bK (vK rfl) kK oEq_s)) hb3 (tOr_f (tK (bK (bK (vK rfl) (vK rfl) oSub_k) kK oNe_i)) hb4 tOr_0)) rfl nK) (sN (nI (tOr_f (tK (bK (vK rfl) kK oEq_s)) hb5 (tOr_f (tK (bK (vK rfl) kK oEq_s)) hb6 tOr_0)) rfl nK) (sR (sRet_k (uK (eC (cLower_k (vK rfl) hl1) (eC (vK rfl) e0C))))))))))))
  | real a b =>
    have hb5 : ((Tk.real a b).kind == Str.ofString "REAL") = true := rfl
    have hl1 : Txt.lower (Tk.real a b).kind = Str.ofString "real" ∧ (Str.ofString "real").length ≤ 1000 := ⟨by show Txt.lower (Str.ofString "REAL") = _; decide +kernel, by decide +kernel⟩
    show _ = Res.ok (AV.d (.tuple [.str (Str.ofString "real"), .int (1 * a), .int b]), σ)
    rw [Int.one_mul]
    exact ((st_law_primary _ _ _).trans (run_ok0 rfl (sN (sUnp_k (bK (vK rfl) (vK rfl) (hr_low _))) (sN (nI (tK (bK (vK rfl) kK oEq_s)) hb1 nK) (sN (nI (tK (bK (fK (aC (vK rfl) (aC (vK rfl) a0C)) hc1) kK oEq_s)) hb2 nK) (sN (nI (tOr_f (tK (bK (vK rfl) kK oEq_s)) hb3 (tOr_f (tK (bK (bK (vK rfl) (vK rfl) oSub_k) kK oNe_i)) hb4 tOr_0)) rfl nK) (sR (tI (tOr_t (tK (bK (vK rfl) kK oEq_s)) hb5) rfl (sR (sRet_k (uK (eC (cLower_k (vK rfl) hl1) (eC (bK (vK rfl) kK oItem_0) (eC (bK (vK rfl) kK oItem_1) e0C))))))))))))))
  | dble a b =>
    have hb5 : ((Tk.dble a b).kind == Str.ofString "REAL") = false := rfl
    have hb6 : ((Tk.dble a b).kind == Str.ofString "DBLE") = true := rfl
    have hl1 : Txt.lower (Tk.dble a b).kind = Str.ofString "dble" ∧ (Str.ofString "dble").length ≤ 1000 := ⟨by show Txt.lower (Str.ofString "DBLE") = _; decide +kernel, by decide +kernel⟩
    show _ = Res.ok (AV.d (.tuple [.str (Str.ofString "dble"), .int (1 * a), .int b]), σ)
    rw [Int.one_mul]
    exact ((st_law_primary _ _ _).trans (run_ok0 rfl (sN (sUnp_k (bK (vK rfl) (vK rfl) (hr_low _))) (sN (nI (tK (bK (vK rfl) kK oEq_s)) hb1 nK) (sN (nI (tK (bK (fK (aC (vK rfl) (aC (vK rfl) a0C)) hc1) kK oEq_s)) hb2 nK) (sN (nI (tOr_f (tK (bK (vK rfl) kK oEq_s)) hb3 (tOr_f (tK (bK (bK (vK rfl) (vK rfl) oSub_k) kK oNe_i)) hb4 tOr_0)) rfl nK) (sR (tI (tOr_f (tK (bK (vK rfl) kK oEq_s)) hb5 (tOr_t (tK (bK (vK rfl) kK oEq_s)) hb6)) rfl (sR (sRet_k (uK (eC (cLower_k (vK rfl) hl1) (eC (bK (vK rfl) kK oItem_0) (eC (bK (vK rfl) kK oItem_1) e0C))))))))))))))
  | log v =>
    have hb5 : ((Tk.log v).kind == Str.ofString "REAL") = false := rfl
    have hb6 : ((Tk.log v).kind == Str.ofString "DBLE") = false := rfl
    have hl1 : Txt.lower (Tk.log v).kind = Str.ofString "log" ∧ (Str.ofString "log").length ≤ 1000 := ⟨by show Txt.lower (Str.ofString "LOG") = _; decide +kernel, by decide +kernel⟩
    exact ((st_law_primary _ _ _).trans (run_ok0 rfl (sN (sUnp_k (bK (vK rfl) (vK rfl) (hr_low _))) (sN (nI (tK (bK (vK rfl) kK oEq_s)) hb1 nK) (sN (nI (tK (bK (fK (aC (vK rfl) (aC (vK rfl) a0C)) hc1) kK oEq_s)) hb2 nK) (sN (nI (tOr_f (tK (bK (vK rfl) kK oEq_s)) hb3 (tOr_f (tK (bK (bK (vK rfl) (vK rfl) oSub_k) kK oNe_i)) hb4 tOr_0)) rfl nK) (sN (nI (tOr_f (tK (bK (vK rfl) kK oEq_s)) hb5 (tOr_f (tK (bK (vK rfl) kK oEq_s)) hb6 tOr_0)) rfl nK) (sR (sRet_k (uK (eC (cLower_k (vK rfl) hl1) (eC (vK rfl) e0C))))))))))))
  | chr v =>
    have hb5 : ((Tk.chr v).kind == Str.ofString "REAL") = false := rfl
    have hb6 : ((Tk.chr v).kind == Str.ofString "DBLE") = false := rfl
    have hl1 : Txt.lower (Tk.chr v).kind = Str.ofString "char" ∧ (Str.ofString "char").length ≤ 1000 := ⟨by show Txt.lower (Str.ofString "CHAR") = _; decide +kernel, by decide +kernel⟩
    exact ((st_law_primary _ _ _).trans (run_ok0 rfl (sN (sUnp_k (bK (vK rfl) (vK rfl) (hr_low _))) (sN (nI (tK (bK (vK rfl) kK oEq_s)) hb1 nK) (sN (nI (tK (bK (fK (aC (vK rfl) (aC (vK rfl) a0C)) hc1) kK oEq_s)) hb2 nK) (sN (nI (tOr_f (tK (bK (vK rfl) kK oEq_s)) hb3 (tOr_f (tK (bK (bK (vK rfl) (vK rfl) oSub_k) kK oNe_i)) hb4 tOr_0)) rfl nK) (sN (nI (tOr_f (tK (bK (vK rfl) kK oEq_s)) hb5 (tOr_f (tK (bK (vK rfl) kK oEq_s)) hb6 tOr_0)) rfl nK) (sR (sRet_k (uK (eC (cLower_k (vK rfl) hl1) (eC (vK rfl) e0C))))))))))))
theorem gp_br (hz0 : ts.length ≤ 800) (hmk : MarksOk ts) (h1 : isOp ts lo (Str.ofString "(") = true) (hlo : lo < hi) (hhi : hi ≤ ts.length) {m e : Nat} (he : lcloseN ts m lo 0 = some e) (hm : lo + m ≤ ts.length) (hle : lo + 1 ≤ hi - 1) {r : Option PyData}
    (hg : e = hi - 1 → (partsN ts (Str.ofString ",") (hi - 1 - (lo + 1)) (lo + 1) 0 (lo + 1)).length = 1 → GR n (ts.map Tk.e2) (lo + 1) (hi - 1) 1 r) (hn : ∃ q, n = q + 3) (hpl : e = hi - 1 → ∀ p ∈ partsN ts (Str.ofString ",") (hi - 1 - (lo + 1)) (lo + 1) 0 (lo + 1), p.1 ≤ p.2 ∧ p.2 ≤ ts.length) :
    GP (n + 1) (ts.map Tk.e2) lo hi (if e = hi - 1 then (match partsN ts (Str.ofString ",") (hi - 1 - (lo + 1)) (lo + 1) 0 (lo + 1) with
      | [_] => r
      | [a, b] => (lpart ts a.1 a.2).bind fun u => (lpart ts b.1 b.2).map fun v => cplxT u v
      | _ => none) else none) := by
  intro σ
  obtain ⟨q, rfl⟩ := hn
  have h := e2_TK (ts := ts) (by lia)
  have h1' := isOp_iff.mp h1
  have hlt := (List.getElem?_eq_some_iff.mp h1').1
  have hr_low := e2_item h1' (by lia)
  have hb1 : ((Tk.op (Str.ofString "(")).kind == Str.ofString "NAME") = false := rfl
  have hc1 := ev_mark (n := q + 2) (σ := σ) (i := lo) h hlt
  have hb2 : (mark ts lo == Str.ofString "(") = true := by rw [mark_op (by decide)]; exact h1
  have hc2 := ev_lclose (n := q + 1) (σ := σ) h he hm
  by_cases hee : e = hi - 1
  · rw [if_pos hee]
    replace hg := hg hee
    replace hpl := hpl hee
    have hb3 : (!(((e : Nat) : Int) == ((hi : Nat) : Int) - 1)) = false := by
      have : (((e : Nat) : Int) == ((hi : Nat) : Int) - 1) = true := beq_iff_eq.mpr (by lia)
      rw [this]; rfl
    have hhm : ((hi : Nat) : Int) - 1 = ((hi - 1 : Nat) : Int) := by lia
    have hp : callF (q + 3) .law_parted [L (ts.map Tk.e2), I (lo + 1), .d (.int (((hi : Nat) : Int) - 1)), T (Str.ofString ",")] σ = Res.ok (AV.d (.list ((partsN ts (Str.ofString ",") (hi - 1 - (lo + 1)) (lo + 1) 0 (lo + 1)).map pairD)), σ) := by
      rw [hhm]
      exact ev_parted (n := q + 1) (σ := σ) (x := Str.ofString ",") h (.inl rfl) hle (by lia) hz0
    have hlen : ∀ (m k : Nat) (d : Int) (b : Nat), (partsN ts (Str.ofString ",") m k d b).length ≤ m + 1 := by
      intro m
      induction m with
      | zero => intro k d b; simp [partsN]
      | succ m ih =>
        intro k d b
        unfold partsN
        split
        · rw [List.length_cons]; have := ih (k + 1) (d + dl ts k) (k + 1); lia
        · have := ih (k + 1) (d + dl ts k) b; lia
    have hzp := hlen (hi - 1 - (lo + 1)) (lo + 1) 0 (lo + 1)
    generalize hP : partsN ts (Str.ofString ",") (hi - 1 - (lo + 1)) (lo + 1) 0 (lo + 1) = P at hp hzp hg hpl
    have hz : (P.map pairD).length ≤ 1000 := by rw [List.length_map]; lia
    have hc3 := hp
    rcases P with _ | ⟨a, _ | ⟨b, _ | ⟨c, P⟩⟩⟩
    case nil =>
      exfalso
      have : ∀ (m k : Nat) (d : Int) (b : Nat), partsN ts (Str.ofString ",") m k d b ≠ [] := by
        intro m
        induction m with
        | zero => intro k d b; simp [partsN]
        | succ m ih => intro k d b; unfold partsN; split <;> simp [ih]
      exact this _ _ _ _ hP
    case cons.nil =>
      have hb4 : (((([a].map pairD).length : Nat) : Int) == 1) = true := rfl
      have hc4 : callF (q + 3) .law_read [L (ts.map Tk.e2), I (lo + 1), .d (.int (((hi : Nat) : Int) - 1)), I 1] σ = Res.ok (AV.d (optD r), σ) := by rw [hhm]; exact hg rfl σ
      exact ((st_law_primary _ _ _).trans (run_ok0 rfl (sN (sUnp_k (bK (vK rfl) (vK rfl) (hr_low _))) (sN (nI (tK (bK (vK rfl) kK oEq_s)) hb1 nK) (sR (tI (tK (bK (fK (aC (vK rfl) (aC (vK rfl) a0C)) hc1) kK oEq_s)) hb2 (sN (nI (tK (bK (fK (aC (vK rfl) (aC (vK rfl) a0C)) hc2) (bK (vK rfl) kK oSub_k) oNe_i)) hb3 nK) (sN (gK (fK (aC (vK rfl) (aC (bK (vK rfl) kK oAdd_k) (aC (bK (vK rfl) kK oSub_k) (aC kK a0C)))) hc3)) (sR (tI (tK (bK (cLen_k (vK rfl) rfl hz) kK oEq_i)) hb4 (sR (sRet_k (fK (aC (vK rfl) (aC (bK (vK rfl) kK oAdd_k) (aC (bK (vK rfl) kK oSub_k) (aC kK a0C)))) hc4)))))))))))))
    case cons.cons.nil =>
      have hb4 : (((([a, b].map pairD).length : Nat) : Int) == 1) = false := rfl
      have hb5 : decide ((2 : Int) < ((([a, b].map pairD).length : Nat) : Int)) = false := rfl
      have hi1 : oItem (.d (.list ([a, b].map pairD))) (.d (.int 0)) σ = .ok (.d (pairD a), σ) := oItem_l (i := 0) rfl (by decide)
      have hi2 := hi1
      have hi3 : oItem (.d (.list ([a, b].map pairD))) (.d (.int 1)) σ = .ok (.d (pairD b), σ) := oItem_l (i := 1) rfl (by decide)
      have hi4 := hi3
      have ha := hpl a (by simp)
      have hb := hpl b (by simp)
      have hc4 := ev_law_part (n := q + 1) (σ := σ) h hmk ha.1 ha.2
      have hc5 := ev_law_part (n := q + 1) (σ := σ) h hmk hb.1 hb.2
      have rt : ∀ (l' h' : Nat), RT (lpart ts l' h') := by
        intro l' h' t e
        unfold lpart at e
        split at e
        · rename_i hpe
          cases e
          unfold partT
          have : ∀ (t : Tk) (s : Int), ∃ xs, consT t s = .tuple xs := fun t s => by cases t <;> exact ⟨_, rfl⟩
          unfold partEnd at hpe
          split at hpe
          · rename_i hs
            rw [if_pos hs]
            split at hpe
            · rename_i hn'
              obtain ⟨t, ht, _⟩ := num_tok hn'
              rw [ht]; exact this _ _
            · cases hpe
          · rename_i hs
            rw [if_neg hs]
            split at hpe
            · rename_i hn'
              obtain ⟨t, ht, _⟩ := num_tok hn'
              rw [ht]; exact this _ _
            · cases hpe
        · cases e
      have ho1 := oIs_opt (rt a.1 a.2) (σ := σ)
      have ho2 := oIs_opt (rt b.1 b.2) (σ := σ)
      show _ = Res.ok (AV.d (optD ((lpart ts a.1 a.2).bind fun u => (lpart ts b.1 b.2).map fun v => cplxT u v)), σ)
      generalize lpart ts a.1 a.2 = r1 at ho1 hc4
      generalize lpart ts b.1 b.2 = r2 at ho2 hc5
      cases r1 with
      | none =>
        have hb6 : (none : Option PyData).isNone = true := rfl
        exact ((st_law_primary _ _ _).trans (run_ok0 rfl (sN (sUnp_k (bK (vK rfl) (vK rfl) (hr_low _))) (sN (nI (tK (bK (vK rfl) kK oEq_s)) hb1 nK) (sR (tI (tK (bK (fK (aC (vK rfl) (aC (vK rfl) a0C)) hc1) kK oEq_s)) hb2 (sN (nI (tK (bK (fK (aC (vK rfl) (aC (vK rfl) a0C)) hc2) (bK (vK rfl) kK oSub_k) oNe_i)) hb3 nK) (sN (gK (fK (aC (vK rfl) (aC (bK (vK rfl) kK oAdd_k) (aC (bK (vK rfl) kK oSub_k) (aC kK a0C)))) hc3)) (sN (nI (tK (bK (cLen_k (vK rfl) rfl hz) kK oEq_i)) hb4 nK) (sN (nI (tK (bK (cLen_k (vK rfl) rfl hz) kK oGt_k)) hb5 nK) (sN (gK (fK (aC (vK rfl) (aC (bK (bK (vK rfl) kK hi1) kK oItem_0) (aC (bK (bK (vK rfl) kK hi2) kK oItem_1) a0C))) hc4)) (sN (gK (fK (aC (vK rfl) (aC (bK (bK (vK rfl) kK hi3) kK oItem_0) (aC (bK (bK (vK rfl) kK hi4) kK oItem_1) a0C))) hc5)) (sR (sRet_k (cIf_t (tOr_t (tK (bK (vK rfl) kK ho1)) hb6) rfl kK)))))))))))))))
      | some u =>
        have hb6 : (some u : Option PyData).isNone = false := rfl
        cases r2 with
        | none =>
          have hb7 : (none : Option PyData).isNone = true := rfl
          exact ((st_law_primary _ _ _).trans (run_ok0 rfl (sN (sUnp_k (bK (vK rfl) (vK rfl) (hr_low _))) (sN (nI (tK (bK (vK rfl) kK oEq_s)) hb1 nK) (sR (tI (tK (bK (fK (aC (vK rfl) (aC (vK rfl) a0C)) hc1) kK oEq_s)) hb2 (sN (nI (tK (bK (fK (aC (vK rfl) (aC (vK rfl) a0C)) hc2) (bK (vK rfl) kK oSub_k) oNe_i)) hb3 nK) (sN (gK (fK (aC (vK rfl) (aC (bK (vK rfl) kK oAdd_k) (aC (bK (vK rfl) kK oSub_k) (aC kK a0C)))) hc3)) (sN (nI (tK (bK (cLen_k (vK rfl) rfl hz) kK oEq_i)) hb4 nK) (sN (nI (tK (bK (cLen_k (vK rfl) rfl hz) kK oGt_k)) hb5 nK) (sN (gK (fK (aC (vK rfl) (aC (bK (bK (vK rfl) kK hi1) kK oItem_0) (aC (bK (bK (vK rfl) kK hi2) kK oItem_1) a0C))) hc4)) (sN (gK (fK (aC (vK rfl) (aC (bK (bK (vK rfl) kK hi3) kK oItem_0) (aC (bK (bK (vK rfl) kK hi4) kK oItem_1) a0C))) hc5)) (sR (sRet_k (cIf_t (tOr_f (tK (bK (vK rfl) kK ho1)) hb6 (tOr_t (tK (bK (vK rfl) kK ho2)) hb7)) rfl kK)))))))))))))))
        | some v =>
          have hb7 : (some v : Option PyData).isNone = false := rfl
          exact ((st_law_primary _ _ _).trans (run_ok0 rfl (sN (sUnp_k (bK (vK rfl) (vK rfl) (hr_low _))) (sN (nI (tK (bK (vK rfl) kK oEq_s)) hb1 nK) (sR (tI (tK (bK (fK (aC (vK rfl) (aC (vK rfl) a0C)) hc1) kK oEq_s)) hb2 (sN (nI (tK (bK (fK (aC (vK rfl) (aC (vK rfl) a0C)) hc2) (bK (vK rfl) kK oSub_k) oNe_i)) hb3 nK) (sN (gK (fK (aC (vK rfl) (aC (bK (vK rfl) kK oAdd_k) (aC (bK (vK rfl) kK oSub_k) (aC kK a0C)))) hc3)) (sN (nI (tK (bK (cLen_k (vK rfl) rfl hz) kK oEq_i)) hb4 nK) (sN (nI (tK (bK (cLen_k (vK rfl) rfl hz) kK oGt_k)) hb5 nK) (sN (gK (fK (aC (vK rfl) (aC (bK (bK (vK rfl) kK hi1) kK oItem_0) (aC (bK (bK (vK rfl) kK hi2) kK oItem_1) a0C))) hc4)) (sN (gK (fK (aC (vK rfl) (aC (bK (bK (vK rfl) kK hi3) kK oItem_0) (aC (bK (bK (vK rfl) kK hi4) kK oItem_1) a0C))) hc5)) (sR (sRet_k (cIf_f (tOr_f (tK (bK (vK rfl) kK ho1)) hb6 (tOr_f (tK (bK (vK rfl) kK ho2)) hb7 tOr_0)) rfl (uK (eC kK (eC (vK rfl) (eC (vK rfl) e0C)))))))))))))))))))
    case cons.cons.cons =>
      have hb4 : (((((a :: b :: c :: P).map pairD).length : Nat) : Int) == 1) = false := beq_false_of_ne (by rw [List.length_map, List.length_cons, List.length_cons, List.length_cons]; lia)
      have hb5 : decide ((2 : Int) < ((((a :: b :: c :: P).map pairD).length : Nat) : Int)) = true := decide_eq_true (by rw [List.length_map, List.length_cons, List.length_cons, List.length_cons]; lia)
      exact ((st_law_primary _ _ _).trans (run_ok0 rfl (sN (sUnp_k (bK (vK rfl) (vK rfl) (hr_low _))) (sN (nI (tK (bK (vK rfl) kK oEq_s)) hb1 nK) (sR (tI (tK (bK (fK (aC (vK rfl) (aC (vK rfl) a0C)) hc1) kK oEq_s)) hb2 (sN (nI (tK (bK (fK (aC (vK rfl) (aC (vK rfl) a0C)) hc2) (bK (vK rfl) kK oSub_k) oNe_i)) hb3 nK) (sN (gK (fK (aC (vK rfl) (aC (bK (vK rfl) kK oAdd_k) (aC (bK (vK rfl) kK oSub_k) (aC kK a0C)))) hc3)) (sN (nI (tK (bK (cLen_k (vK rfl) rfl hz) kK oEq_i)) hb4 nK) (sR (tI (tK (bK (cLen_k (vK rfl) rfl hz) kK oGt_k)) hb5 (sR (sRet_k kK)))))))))))))
  · rw [if_neg hee]
    have hb3 : (!(((e : Nat) : Int) == ((hi : Nat) : Int) - 1)) = true := by
      have : (((e : Nat) : Int) == ((hi : Nat) : Int) - 1) = false := beq_false_of_ne (by lia)
      rw [this]; rfl
    exact ((st_law_primary _ _ _).trans (run_ok0 rfl (sN (sUnp_k (bK (vK rfl) (vK rfl) (hr_low _))) (sN (nI (tK (bK (vK rfl) kK oEq_s)) hb1 nK) (sR (tI (tK (bK (fK (aC (vK rfl) (aC (vK rfl) a0C)) hc1) kK oEq_s)) hb2 (sR (tI (tK (bK (fK (aC (vK rfl) (aC (vK rfl) a0C)) hc2) (bK (vK rfl) kK oSub_k) oNe_i)) hb3 (sR (sRet_k kK))))))))))
end
noncomputable def cutB : SC := sCons (sAsg 8 (cIf (tE (cBin oLt (cV 6) (cV 7))) (cCall .law_read [cV 0, cV 6, cV 7, cK (.int 1)]) (cK .none))) (sCons (sIf (tAnd [tE (cBin oLt (cV 6) (cV 7)), tE (cBin oIsNone (cV 8) (cK .none))]) (sCons (sRet (cK .none)) (sNil)) (sNil)) (sCons (sApp 5 (cV 8)) (sNil)))
section
variable {ds : List PyData} {ts : List Tk} {n : Nat} {lo hi fl : Nat} {x : Str}
inductive CutRun (n : Nat) (ds : List PyData) : List (Nat × Nat) → List PyData → Option (List PyData) → Prop
  | nil {acc} : CutRun n ds [] acc (some acc)
  | empty {a b ps acc r} : ¬ a < b → CutRun n ds ps (acc ++ [.none]) r → CutRun n ds ((a, b) :: ps) acc r
  | bad {a b ps acc} : a < b → GR n ds a b 1 none → CutRun n ds ((a, b) :: ps) acc none
  | one {a b ps acc t r} : a < b → GR n ds a b 1 (some t) → RT (some t) → CutRun n ds ps (acc ++ [t]) r → CutRun n ds ((a, b) :: ps) acc r
noncomputable def CutEnd (base : PyData) (E : AV) (lo hi : Nat) (ds : List PyData) (rs : Rho) (σ : Sto) (r : Option (List PyData)) (R : Res (Fl × Rho × Sto)) : Prop := match r with
  | none => ∃ ρ' z, R = .ok (.ret (.d .none), ρ', σ ++ [z])
  | some l => ∃ y6 y7 y8, R = .ok (.next, some (L ds) :: some (I lo) :: some (I hi) :: some (.d base) :: some E :: some (.loc σ.length) :: y6 :: y7 :: y8 :: rs, σ ++ [some l])
theorem cut_run {base : PyData} {E : AV} {σ : Sto} {ps : List (Nat × Nat)} {acc : List PyData} {r : Option (List PyData)} (a : CutRun n ds ps acc r) : ∀ {y6 y7 y8 : Option AV} {rs : Rho}, acc.length + ps.length ≤ 990 →
    CutEnd base E lo hi ds rs σ r (forL (tgt2 6 7) cutB (ps.map pairD) (callF n) (some (L ds) :: some (I lo) :: some (I hi) :: some (.d base) :: some E :: some (.loc σ.length) :: y6 :: y7 :: y8 :: rs) (σ ++ [some acc])) := by
  have fin : ∀ {rs : Rho} {r : Option (List PyData)} {R1 R2 : Res (Fl × Rho × Sto)}, R1 = R2 → CutEnd base E lo hi ds rs σ r R2 → CutEnd base E lo hi ds rs σ r R1 := fun e h => e ▸ h
  induction a with
  | nil =>
    intro y6 y7 y8 rs hz
    exact ⟨_, _, _, rfl⟩
  | @empty a b ps acc r hab _ ih =>
    intro y6 y7 y8 rs hz
    rw [List.length_cons] at hz
    have hb1 : decide (((a : Nat) : Int) < ((b : Nat) : Int)) = false := decide_eq_false (by lia)
    have hb2 := hb1
    have hs1 := last_get (σ := σ) (a := some acc)
    have hs2 := hs1
    have hz1 : acc.length ≤ 1000 := by lia
    have e := ih (y6 := some (I a)) (y7 := some (I b)) (y8 := some (.d .none)) (rs := rs) (by rw [List.length_append, List.length_singleton]; lia)
    rw [← last_set (σ := σ) (a := some acc)] at e
    exact fin (for_n rfl (sN (gK (cIf_f (tK (bK (vK rfl) (vK rfl) oLt_k)) hb1 kK)) (sN (nI (tAnd_f (tK (bK (vK rfl) (vK rfl) oLt_k)) hb2) rfl nK) (sN (sApp_k rfl hs1 (vK rfl) hs2 hz1) nK))) rfl) e
  | @bad a b ps acc hab hg =>
    intro y6 y7 y8 rs hz
    have hb1 : decide (((a : Nat) : Int) < ((b : Nat) : Int)) = true := decide_eq_true (by lia)
    have hb2 := hb1
    have hc1 := hg (σ ++ [some acc])
    have ho1 := oIs_opt (r := none) (fun t e => by cases e) (σ := σ ++ [some acc])
    have hb3 : (none : Option PyData).isNone = true := rfl
    exact ⟨_, _, for_r rfl (sN (gK (cIf_t (tK (bK (vK rfl) (vK rfl) oLt_k)) hb1 (fK (aC (vK rfl) (aC (vK rfl) (aC (vK rfl) (aC kK a0C)))) hc1))) (sR (tI (tAnd_t (tK (bK (vK rfl) (vK rfl) oLt_k)) hb2 (tAnd_t (tK (bK (vK rfl) kK ho1)) hb3 tAnd_0)) rfl (sR (sRet_k kK)))))⟩
  | @one a b ps acc t r hab hg ht _ ih =>
    intro y6 y7 y8 rs hz
    rw [List.length_cons] at hz
    have hb1 : decide (((a : Nat) : Int) < ((b : Nat) : Int)) = true := decide_eq_true (by lia)
    have hb2 := hb1
    have hc1 := hg (σ ++ [some acc])
    have ho1 := oIs_opt ht (σ := σ ++ [some acc])
    have hb3 : (some t : Option PyData).isNone = false := rfl
    have hs1 := last_get (σ := σ) (a := some acc)
    have hs2 := hs1
    have hz1 : acc.length ≤ 1000 := by lia
    have e := ih (y6 := some (I a)) (y7 := some (I b)) (y8 := some (.d t)) (rs := rs) (by rw [List.length_append, List.length_singleton]; lia)
    rw [← last_set (σ := σ) (a := some acc)] at e
    exact fin (for_n rfl (sN (gK (cIf_t (tK (bK (vK rfl) (vK rfl) oLt_k)) hb1 (fK (aC (vK rfl) (aC (vK rfl) (aC (vK rfl) (aC kK a0C)))) hc1))) (sN (nI (tAnd_t (tK (bK (vK rfl) (vK rfl) oLt_k)) hb2 (tAnd_f (tK (bK (vK rfl) kK ho1)) hb3)) rfl nK) (sN (sApp_k rfl hs1 (vK rfl) hs2 hz1) nK))) rfl) e
theorem parts_len (x : Str) : ∀ (m k : Nat) (d : Int) (b : Nat), (partsN ts x m k d b).length ≤ m + 1 := by
  intro m
  induction m with
  | zero => intro k d b; simp [partsN]
  | succ m ih =>
    intro k d b
    unfold partsN
    split
    · rw [List.length_cons]; have := ih (k + 1) (d + dl ts k) (k + 1); lia
    · have := ih (k + 1) (d + dl ts k) b; lia
noncomputable def cutOf (base : PyData) (P : List (Nat × Nat)) (r : Option (List PyData)) : Option PyData := if P.length = 2 then (match r with | some [a, b] => some (subT base a b) | _ => none) else none
theorem g_cut_law (h : TK ds ts) (hz0 : ts.length ≤ 800) (hlo : lo ≤ hi) (hhi : hi ≤ ts.length) {base : PyData} {r : Option (List PyData)}
    (ha : (partsN ts (Str.ofString ":") (hi - lo) lo 0 lo).length = 2 → CutRun n ds (partsN ts (Str.ofString ":") (hi - lo) lo 0 lo) [] r) (hl : (partsN ts (Str.ofString ":") (hi - lo) lo 0 lo).length = 2 → ∀ l, r = some l → l.length = 2) (hn : ∃ q, n = q + 2) :
    GC (n + 1) ds lo hi base (cutOf base (partsN ts (Str.ofString ":") (hi - lo) lo 0 lo) r) := by
  intro σ
  obtain ⟨q, rfl⟩ := hn
  have hc1 := ev_parted (n := q) (σ := σ) (x := Str.ofString ":") h (.inr rfl) hlo hhi hz0
  have hzp := parts_len (ts := ts) (Str.ofString ":") (hi - lo) lo 0 lo
  unfold cutOf
  generalize partsN ts (Str.ofString ":") (hi - lo) lo 0 lo = P at hc1 ha hl hzp
  have hz : (P.map pairD).length ≤ 1000 := by rw [List.length_map]; lia
  by_cases h2 : P.length = 2
  · rw [if_pos h2]
    have hb1 : (!((((P.map pairD).length : Nat) : Int) == 2)) = false := by
      have : ((((P.map pairD).length : Nat) : Int) == 2) = true := beq_iff_eq.mpr (by rw [List.length_map]; lia)
      rw [this]; rfl
    have hz1 : (P.map pairD).length ≤ 1000 := hz
    have e := cut_run (base := base) (E := .d (.list (P.map pairD))) (lo := lo) (hi := hi) (σ := σ) (ha h2) (y6 := none) (y7 := none) (y8 := none) (rs := [none, none, none]) (by simp; lia)
    match r, e, hl h2 with
    | none, e, _ =>
      obtain ⟨ρ', z, hw1⟩ := e
      have ht : (σ ++ [z]).take σ.length = σ := last_take
      show _ = Res.ok (AV.d .none, σ)
      exact ((st_law_cut _ _ _).trans (run_okt rfl (sN (gK (fK (aC (vK rfl) (aC (vK rfl) (aC (vK rfl) (aC kK a0C)))) hc1)) (sN (nI (tK (bK (cLen_k (vK rfl) rfl hz) kK oNe_i)) hb1 nK) (sN sNew_k (sR (sForL_k (vK rfl) hz1 hw1))))) ht))
    | some l, e, hl2 =>
      refine glq fun Gq kq => ?_
      obtain ⟨y6, y7, y8, hw1⟩ := e
      refine kq ?_
      clear kq Gq
      have hl2 := hl2 l rfl
      match l, hw1, hl2 with
      | [a, b], hw1, _ =>
        have hi1 : oItem (.loc σ.length) (.d (.int 0)) (σ ++ [some [a, b]]) = .ok (.d a, σ ++ [some [a, b]]) := by
          show (match (σ ++ [some [a, b]])[σ.length]? with | some (some ds) => itemOf (.list ds) (.d (.int 0)) (σ ++ [some [a, b]]) | _ => Res.bad) = _
          rw [last_get]
          exact oItem_l (ds := [a, b]) (i := 0) rfl (by decide)
        have hi2 : oItem (.loc σ.length) (.d (.int 1)) (σ ++ [some [a, b]]) = .ok (.d b, σ ++ [some [a, b]]) := by
          show (match (σ ++ [some [a, b]])[σ.length]? with | some (some ds) => itemOf (.list ds) (.d (.int 1)) (σ ++ [some [a, b]]) | _ => Res.bad) = _
          rw [last_get]
          exact oItem_l (ds := [a, b]) (i := 1) rfl (by decide)
        have ht : (σ ++ [some [a, b]]).take σ.length = σ := last_take
        show _ = Res.ok (AV.d (subT base a b), σ)
        exact ((st_law_cut _ _ _).trans (run_okt rfl (sN (gK (fK (aC (vK rfl) (aC (vK rfl) (aC (vK rfl) (aC kK a0C)))) hc1)) (sN (nI (tK (bK (cLen_k (vK rfl) rfl hz) kK oNe_i)) hb1 nK) (sN sNew_k (sN (sForL_k (vK rfl) hz1 hw1) (sR (sRet_k (uK (eC kK (eC (vK rfl) (eC (bK (vK rfl) kK hi1) (eC (bK (vK rfl) kK hi2) e0C))))))))))) ht))
  · rw [if_neg h2]
    have hb1 : (!((((P.map pairD).length : Nat) : Int) == 2)) = true := by
      have : ((((P.map pairD).length : Nat) : Int) == 2) = false := beq_false_of_ne (by rw [List.length_map]; lia)
      rw [this]; rfl
    show _ = Res.ok (AV.d .none, σ)
    exact ((st_law_cut _ _ _).trans (run_ok0 rfl (sN (gK (fK (aC (vK rfl) (aC (vK rfl) (aC (vK rfl) (aC kK a0C)))) hc1)) (sR (tI (tK (bK (cLen_k (vK rfl) rfl hz) kK oNe_i)) hb1 (sR (sRet_k kK)))))))
end
noncomputable def namB : SC := sCons (sAsg 8 (cCall .law_read [cV 0, cV 6, cV 7, cK (.int 1)])) (sCons (sIf (tE (cBin oIsNone (cV 8) (cK .none))) (sCons (sRet (cK .none)) (sNil)) (sNil)) (sCons (sApp 5 (cV 8)) (sNil)))
section
variable {ds : List PyData} {ts : List Tk} {n : Nat} {lo hi fl : Nat} {x : Str}
inductive RowRun (n : Nat) (ds : List PyData) : List (Nat × Nat) → List PyData → Option (List PyData) → Prop
  | nil {acc} : RowRun n ds [] acc (some acc)
  | bad {a b ps acc} : GR n ds a b 1 none → RowRun n ds ((a, b) :: ps) acc none
  | one {a b ps acc t r} : GR n ds a b 1 (some t) → RT (some t) → RowRun n ds ps (acc ++ [t]) r → RowRun n ds ((a, b) :: ps) acc r
noncomputable def RowEnd (tree : PyData) (e lo hi : Nat) (ds : List PyData) (rs : Rho) (σ : Sto) (r : Option (List PyData)) (R : Res (Fl × Rho × Sto)) : Prop := match r with
  | none => ∃ ρ' z, R = .ok (.ret (.d .none), ρ', σ ++ [z])
  | some l => ∃ y6 y7 y8, R = .ok (.next, some (L ds) :: some (I lo) :: some (I hi) :: some (.d tree) :: some (I e) :: some (.loc σ.length) :: y6 :: y7 :: y8 :: rs, σ ++ [some l])
theorem row_run {tree : PyData} {e : Nat} {σ : Sto} {ps : List (Nat × Nat)} {acc : List PyData} {r : Option (List PyData)} (a : RowRun n ds ps acc r) : ∀ {y6 y7 y8 : Option AV} {rs : Rho}, acc.length + ps.length ≤ 990 →
    RowEnd tree e lo hi ds rs σ r (forL (tgt2 6 7) namB (ps.map pairD) (callF n) (some (L ds) :: some (I lo) :: some (I hi) :: some (.d tree) :: some (I e) :: some (.loc σ.length) :: y6 :: y7 :: y8 :: rs) (σ ++ [some acc])) := by
  have fin : ∀ {rs : Rho} {r : Option (List PyData)} {R1 R2 : Res (Fl × Rho × Sto)}, R1 = R2 → RowEnd tree e lo hi ds rs σ r R2 → RowEnd tree e lo hi ds rs σ r R1 := fun e h => e ▸ h
  induction a with
  | nil =>
    intro y6 y7 y8 rs hz
    exact ⟨_, _, _, rfl⟩
  | @bad a b ps acc hg =>
    intro y6 y7 y8 rs hz
    have hc1 := hg (σ ++ [some acc])
    have ho1 := oIs_opt (r := none) (fun t e => by cases e) (σ := σ ++ [some acc])
    have hb1 : (none : Option PyData).isNone = true := rfl
    exact ⟨_, _, for_r rfl (sN (gK (fK (aC (vK rfl) (aC (vK rfl) (aC (vK rfl) (aC kK a0C)))) hc1)) (sR (tI (tK (bK (vK rfl) kK ho1)) hb1 (sR (sRet_k kK)))))⟩
  | @one a b ps acc t r hg ht _ ih =>
    intro y6 y7 y8 rs hz
    rw [List.length_cons] at hz
    have hc1 := hg (σ ++ [some acc])
    have ho1 := oIs_opt ht (σ := σ ++ [some acc])
    have hb1 : (some t : Option PyData).isNone = false := rfl
    have hs1 := last_get (σ := σ) (a := some acc)
    have hs2 := hs1
    have hz1 : acc.length ≤ 1000 := by lia
    have e := ih (y6 := some (I a)) (y7 := some (I b)) (y8 := some (.d t)) (rs := rs) (by rw [List.length_append, List.length_singleton]; lia)
    rw [← last_set (σ := σ) (a := some acc)] at e
    exact fin (for_n rfl (sN (gK (fK (aC (vK rfl) (aC (vK rfl) (aC (vK rfl) (aC kK a0C)))) hc1)) (sN (nI (tK (bK (vK rfl) kK ho1)) hb1 nK) (sN (sApp_k rfl hs1 (vK rfl) hs2 hz1) nK))) rfl) e
theorem int_eq1 {a b : Nat} (h : a = b + 1) : (((a : Nat) : Int) - ((b : Nat) : Int) == 1) = true := beq_iff_eq.mpr (by lia)
theorem int_ne1 {a b : Nat} (h : a ≠ b + 1) : (((a : Nat) : Int) - ((b : Nat) : Int) == 1) = false := beq_false_of_ne (by lia)
theorem int_pr {a b : Nat} (h : a = b - 1) (hb : 0 < b) : (((a : Nat) : Int) == ((b : Nat) : Int) - 1) = true := beq_iff_eq.mpr (by lia)
theorem int_npr {a b : Nat} (h : a ≠ b - 1) (hb : 0 < b) : (((a : Nat) : Int) == ((b : Nat) : Int) - 1) = false := beq_false_of_ne (by lia)
theorem gn_1 (h : TK ds ts) {s : Str} (h1 : ts[lo]? = some (.name s)) : GN (n + 1) ds lo (lo + 1) (some (nameT s)) := by
  intro σ
  obtain ⟨rr, hr_low⟩ := h.item h1
  have hb1 := int_eq1 (a := lo + 1) (b := lo) rfl
  show _ = Res.ok (AV.d (nameT s), σ)
  exact ((st_law_named _ _ _).trans (run_ok0 rfl (sN (gK (uK (eC kK (eC (bK (bK (vK rfl) (vK rfl) (hr_low _)) kK oItem_1) e0C)))) (sR (tI (tK (bK (bK (vK rfl) (vK rfl) oSub_k) kK oEq_i)) hb1 (sR (sRet_k (vK rfl))))))))
theorem gn_x (h : TK ds ts) {s : Str} (h1 : ts[lo]? = some (.name s)) (hlt : lo + 1 < hi) (hhi : hi ≤ ts.length) (h2 : isOp ts (lo + 1) (Str.ofString "(") = false) (hn : ∃ q, n = q + 1) : GN (n + 1) ds lo hi none := by
  intro σ
  obtain ⟨q, rfl⟩ := hn
  obtain ⟨rr, hr_low⟩ := h.item h1
  have hb1 := int_ne1 (a := hi) (b := lo) (by lia)
  have hc1 := ev_mark (n := q) (σ := σ) (i := lo + 1) h (by lia)
  have hb2 : (!(mark ts (lo + 1) == Str.ofString "(")) = true := by rw [mark_op (by decide), h2]; rfl
  show _ = Res.ok (AV.d .none, σ)
  exact ((st_law_named _ _ _).trans (run_ok0 rfl (sN (gK (uK (eC kK (eC (bK (bK (vK rfl) (vK rfl) (hr_low _)) kK oItem_1) e0C)))) (sN (nI (tK (bK (bK (vK rfl) (vK rfl) oSub_k) kK oEq_i)) hb1 nK) (sR (tI (tK (bK (fK (aC (vK rfl) (aC (bK (vK rfl) kK oAdd_k) a0C)) hc1) kK oNe_s)) hb2 (sR (sRet_k kK))))))))
theorem gn_cut (h : TK ds ts) (hz0 : ts.length ≤ 800) {s : Str} (h1 : ts[lo]? = some (.name s)) (hlt : lo + 1 < hi) (hhi : hi ≤ ts.length) (h2 : isOp ts (lo + 1) (Str.ofString "(") = true) {m e : Nat} (he : lcloseN ts m (lo + 1) 0 = some e) (hm : lo + 1 + m ≤ ts.length) (hle : lo + 2 ≤ e) (helt : e ≤ ts.length)
    (h3 : 1 < (partsN ts (Str.ofString ":") (e - (lo + 2)) (lo + 2) 0 (lo + 2)).length) {r : Option PyData} (hg : e = hi - 1 → GC n ds (lo + 2) e (nameT s) r) (hn : ∃ q, n = q + 2) : GN (n + 1) ds lo hi (if e = hi - 1 then r else none) := by
  intro σ
  obtain ⟨q, rfl⟩ := hn
  obtain ⟨rr, hr_low⟩ := h.item h1
  have hb1 := int_ne1 (a := hi) (b := lo) (by lia)
  have hc1 := ev_mark (n := q + 1) (σ := σ) (i := lo + 1) h (by lia)
  have hb2 : (!(mark ts (lo + 1) == Str.ofString "(")) = false := by rw [mark_op (by decide), h2]; rfl
  have hc2 := ev_lclose (n := q) (σ := σ) h he hm
  have hc3 := ev_parted (n := q) (σ := σ) (x := Str.ofString ":") h (.inr rfl) hle helt hz0
  have hz : ((partsN ts (Str.ofString ":") (e - (lo + 2)) (lo + 2) 0 (lo + 2)).map pairD).length ≤ 1000 := by
    have := parts_len (ts := ts) (Str.ofString ":") (e - (lo + 2)) (lo + 2) 0 (lo + 2)
    rw [List.length_map]; lia
  have hb3 : decide ((1 : Int) < ((((partsN ts (Str.ofString ":") (e - (lo + 2)) (lo + 2) 0 (lo + 2)).map pairD).length : Nat) : Int)) = true := decide_eq_true (by rw [List.length_map]; lia)
  by_cases hee : e = hi - 1
  · rw [if_pos hee]
    have hb4 := int_pr hee (by lia)
    have hc4 := hg hee σ
    exact ((st_law_named _ _ _).trans (run_ok0 rfl (sN (gK (uK (eC kK (eC (bK (bK (vK rfl) (vK rfl) (hr_low _)) kK oItem_1) e0C)))) (sN (nI (tK (bK (bK (vK rfl) (vK rfl) oSub_k) kK oEq_i)) hb1 nK) (sN (nI (tK (bK (fK (aC (vK rfl) (aC (bK (vK rfl) kK oAdd_k) a0C)) hc1) kK oNe_s)) hb2 nK) (sN (gK (fK (aC (vK rfl) (aC (bK (vK rfl) kK oAdd_k) a0C)) hc2)) (sR (tI (tK (bK (cLen_k (fK (aC (vK rfl) (aC (bK (vK rfl) kK oAdd_k) (aC (vK rfl) (aC kK a0C)))) hc3) rfl hz) kK oGt_k)) hb3 (sR (sRet_k (cIf_t (tK (bK (vK rfl) (bK (vK rfl) kK oSub_k) oEq_i)) hb4 (fK (aC (vK rfl) (aC (bK (vK rfl) kK oAdd_k) (aC (vK rfl) (aC (vK rfl) a0C)))) hc4))))))))))))
  · rw [if_neg hee]
    have hb4 := int_npr hee (by lia)
    exact ((st_law_named _ _ _).trans (run_ok0 rfl (sN (gK (uK (eC kK (eC (bK (bK (vK rfl) (vK rfl) (hr_low _)) kK oItem_1) e0C)))) (sN (nI (tK (bK (bK (vK rfl) (vK rfl) oSub_k) kK oEq_i)) hb1 nK) (sN (nI (tK (bK (fK (aC (vK rfl) (aC (bK (vK rfl) kK oAdd_k) a0C)) hc1) kK oNe_s)) hb2 nK) (sN (gK (fK (aC (vK rfl) (aC (bK (vK rfl) kK oAdd_k) a0C)) hc2)) (sR (tI (tK (bK (cLen_k (fK (aC (vK rfl) (aC (bK (vK rfl) kK oAdd_k) (aC (vK rfl) (aC kK a0C)))) hc3) rfl hz) kK oGt_k)) hb3 (sR (sRet_k (cIf_f (tK (bK (vK rfl) (bK (vK rfl) kK oSub_k) oEq_i)) hb4 kK)))))))))))
theorem gn_args (h : TK ds ts) (hz0 : ts.length ≤ 800) {s : Str} (h1 : ts[lo]? = some (.name s)) (hlt : lo + 1 < hi) (hhi : hi ≤ ts.length) (h2 : isOp ts (lo + 1) (Str.ofString "(") = true) {m e : Nat} (he : lcloseN ts m (lo + 1) 0 = some e) (hm : lo + 1 + m ≤ ts.length) (hle : lo + 2 ≤ e) (helt : e < hi)
    (h3 : ¬ 1 < (partsN ts (Str.ofString ":") (e - (lo + 2)) (lo + 2) 0 (lo + 2)).length) {r : Option (List PyData)} (hr0 : e = lo + 2 → r = some []) (hr : e ≠ lo + 2 → RowRun n ds (partsN ts (Str.ofString ",") (e - (lo + 2)) (lo + 2) 0 (lo + 2)) [] r)
    {m2 e2 : Nat} (he2 : isOp ts (e + 1) (Str.ofString "(") = true → e ≠ hi - 1 → lcloseN ts m2 (e + 1) 0 = some e2) (hm2 : e ≠ hi - 1 → isOp ts (e + 1) (Str.ofString "(") = true → e + 1 + m2 ≤ ts.length)
    {rc : Option PyData} (hg : ∀ rows, r = some rows → e ≠ hi - 1 → isOp ts (e + 1) (Str.ofString "(") = true → e2 = hi - 1 → GC n ds (e + 2) (hi - 1) (refT s rows) rc) (hn : ∃ q, n = q + 2) :
    GN (n + 1) ds lo hi (r.bind fun rows => if e = hi - 1 then some (refT s rows) else if isOp ts (e + 1) (Str.ofString "(") = true ∧ e2 = hi - 1 then rc else none) := by
  intro σ
  obtain ⟨q, rfl⟩ := hn
  obtain ⟨rr, hr_low⟩ := h.item h1
  have hb1 := int_ne1 (a := hi) (b := lo) (by lia)
  have hc1 := ev_mark (n := q + 1) (σ := σ) (i := lo + 1) h (by lia)
  have hb2 : (!(mark ts (lo + 1) == Str.ofString "(")) = false := by rw [mark_op (by decide), h2]; rfl
  have hc2 := ev_lclose (n := q) (σ := σ) h he hm
  have hc3 := ev_parted (n := q) (σ := σ) (x := Str.ofString ":") h (.inr rfl) hle (by lia) hz0
  have hz : ((partsN ts (Str.ofString ":") (e - (lo + 2)) (lo + 2) 0 (lo + 2)).map pairD).length ≤ 1000 := by
    have := parts_len (ts := ts) (Str.ofString ":") (e - (lo + 2)) (lo + 2) 0 (lo + 2)
    rw [List.length_map]; lia
  have hb3 : decide ((1 : Int) < ((((partsN ts (Str.ofString ":") (e - (lo + 2)) (lo + 2) 0 (lo + 2)).map pairD).length : Nat) : Int)) = false := decide_eq_false (by rw [List.length_map]; lia)
  have tail : ∀ (rows : List PyData) (y6 y7 y8 : Option AV), r = some rows → ∃ ρ', (sCons (sAsg 3 (cTup [cK (.str (Str.ofString "ref")), cBin oItem (cBin oItem (cV 0) (cV 1)) (cK (.int 1)), cV 5])) (sCons (sIf (tE (cBin oEq (cV 4) (cBin oSub (cV 2) (cK (.int 1))))) (sCons (sRet (cV 3)) (sNil)) (sNil)) (sCons (sIf (tOr [tE (cBin oNe (cCall .law_mark [cV 0, cBin oAdd (cV 4) (cK (.int 1))]) (cK (.str (Str.ofString "(")))), tE (cBin oNe (cCall .law_close [cV 0, cBin oAdd (cV 4) (cK (.int 1))]) (cBin oSub (cV 2) (cK (.int 1))))]) (sCons (sRet (cK .none)) (sNil)) (sNil)) (sCons (sRet (cCall .law_cut [cV 0, cBin oAdd (cV 4) (cK (.int 2)), cBin oSub (cV 2) (cK (.int 1)), cV 3])) (sNil))))) (callF (q + 2)) (some (L ds) :: some (I lo) :: some (I hi) :: some (.d (nameT s)) :: some (I e) :: some (.loc σ.length) :: y6 :: y7 :: y8 :: [none, none, none, none, none, none]) (σ ++ [some rows])
      = .ok (.ret (.d (optD (if e = hi - 1 then some (refT s rows) else if isOp ts (e + 1) (Str.ofString "(") = true ∧ e2 = hi - 1 then rc else none))), ρ', (σ ++ [some rows]).set σ.length none) := by
    intro rows y6 y7 y8 hrr
    have hs1 := last_get (σ := σ) (a := some rows)
    by_cases hee : e = hi - 1
    · rw [if_pos hee]
      have hb1 := int_pr hee (by lia)
      exact ⟨_, (sN (gK (uK (eC kK (eC (bK (bK (vK rfl) (vK rfl) (hr_low _)) kK oItem_1) (cEvs_l (vK rfl) hs1 e0C))))) (sR (tI (tK (bK (vK rfl) (bK (vK rfl) kK oSub_k) oEq_i)) hb1 (sR (sRet_k (vK rfl))))))⟩
    · rw [if_neg hee]
      have hb1 := int_npr hee (by lia)
      have hc1 := ev_mark (n := q + 1) (σ := (σ ++ [some rows]).set σ.length none) (i := e + 1) h (by lia)
      cases ho : isOp ts (e + 1) (Str.ofString "(") with
      | false =>
        rw [if_neg (by simp)]
        have hb2 : (!(mark ts (e + 1) == Str.ofString "(")) = true := by rw [mark_op (by decide), ho]; rfl
        exact ⟨_, (sN (gK (uK (eC kK (eC (bK (bK (vK rfl) (vK rfl) (hr_low _)) kK oItem_1) (cEvs_l (vK rfl) hs1 e0C))))) (sN (nI (tK (bK (vK rfl) (bK (vK rfl) kK oSub_k) oEq_i)) hb1 nK) (sR (tI (tOr_t (tK (bK (fK (aC (vK rfl) (aC (bK (vK rfl) kK oAdd_k) a0C)) hc1) kK oNe_s)) hb2) rfl (sR (sRet_k kK))))))⟩
      | true =>
        have hb2 : (!(mark ts (e + 1) == Str.ofString "(")) = false := by rw [mark_op (by decide), ho]; rfl
        have hc2 := ev_lclose (n := q) (σ := (σ ++ [some rows]).set σ.length none) h (he2 ho hee) (hm2 hee ho)
        by_cases h22 : e2 = hi - 1
        · rw [if_pos ⟨rfl, h22⟩]
          have hb3 : (!(((e2 : Nat) : Int) == ((hi : Nat) : Int) - 1)) = false := by rw [int_pr h22 (by lia)]; rfl
          have hc3 : callF (q + 2) .law_cut [L ds, I (e + 2), .d (.int (((hi : Nat) : Int) - 1)), .d (refT s rows)] ((σ ++ [some rows]).set σ.length none) = .ok (.d (optD rc), (σ ++ [some rows]).set σ.length none) := by
            rw [show ((hi : Nat) : Int) - 1 = ((hi - 1 : Nat) : Int) from by lia]
            exact hg rows hrr hee ho h22 _
          exact ⟨_, (sN (gK (uK (eC kK (eC (bK (bK (vK rfl) (vK rfl) (hr_low _)) kK oItem_1) (cEvs_l (vK rfl) hs1 e0C))))) (sN (nI (tK (bK (vK rfl) (bK (vK rfl) kK oSub_k) oEq_i)) hb1 nK) (sN (nI (tOr_f (tK (bK (fK (aC (vK rfl) (aC (bK (vK rfl) kK oAdd_k) a0C)) hc1) kK oNe_s)) hb2 (tOr_f (tK (bK (fK (aC (vK rfl) (aC (bK (vK rfl) kK oAdd_k) a0C)) hc2) (bK (vK rfl) kK oSub_k) oNe_i)) hb3 tOr_0)) rfl nK) (sR (sRet_k (fK (aC (vK rfl) (aC (bK (vK rfl) kK oAdd_k) (aC (bK (vK rfl) kK oSub_k) (aC (vK rfl) a0C)))) hc3))))))⟩
        · rw [if_neg (fun q => h22 q.2)]
          have hb3 : (!(((e2 : Nat) : Int) == ((hi : Nat) : Int) - 1)) = true := by rw [int_npr h22 (by lia)]; rfl
          exact ⟨_, (sN (gK (uK (eC kK (eC (bK (bK (vK rfl) (vK rfl) (hr_low _)) kK oItem_1) (cEvs_l (vK rfl) hs1 e0C))))) (sN (nI (tK (bK (vK rfl) (bK (vK rfl) kK oSub_k) oEq_i)) hb1 nK) (sR (tI (tOr_f (tK (bK (fK (aC (vK rfl) (aC (bK (vK rfl) kK oAdd_k) a0C)) hc1) kK oNe_s)) hb2 (tOr_t (tK (bK (fK (aC (vK rfl) (aC (bK (vK rfl) kK oAdd_k) a0C)) hc2) (bK (vK rfl) kK oSub_k) oNe_i)) hb3)) rfl (sR (sRet_k kK))))))⟩
  by_cases h0 : e = lo + 2
  · have hr1 := hr0 h0
    subst hr1
    have hb4 : decide (((lo : Nat) : Int) + 2 < ((e : Nat) : Int)) = false := decide_eq_false (by lia)
    obtain ⟨ρ', hZ⟩ := tail [] none none none rfl
    have ht : ((σ ++ [some []]).set σ.length none).take σ.length = σ := by rw [last_set]; exact last_take
    exact ((st_law_named _ _ _).trans (run_okt rfl (sN (gK (uK (eC kK (eC (bK (bK (vK rfl) (vK rfl) (hr_low _)) kK oItem_1) e0C)))) (sN (nI (tK (bK (bK (vK rfl) (vK rfl) oSub_k) kK oEq_i)) hb1 nK) (sN (nI (tK (bK (fK (aC (vK rfl) (aC (bK (vK rfl) kK oAdd_k) a0C)) hc1) kK oNe_s)) hb2 nK) (sN (gK (fK (aC (vK rfl) (aC (bK (vK rfl) kK oAdd_k) a0C)) hc2)) (sN (nI (tK (bK (cLen_k (fK (aC (vK rfl) (aC (bK (vK rfl) kK oAdd_k) (aC (vK rfl) (aC kK a0C)))) hc3) rfl hz) kK oGt_k)) hb3 nK) (sN sNew_k (sN (nI (tK (bK (vK rfl) (bK (vK rfl) kK oAdd_k) oGt_k)) hb4 nK) hZ))))))) ht))
  · have hb4 : decide (((lo : Nat) : Int) + 2 < ((e : Nat) : Int)) = true := decide_eq_true (by lia)
    have hpl := parts_len (ts := ts) (Str.ofString ",") (e - (lo + 2)) (lo + 2) 0 (lo + 2)
    have hz1 : ((partsN ts (Str.ofString ",") (e - (lo + 2)) (lo + 2) 0 (lo + 2)).map pairD).length ≤ 1000 := by rw [List.length_map]; lia
    have hc4 := ev_parted (n := q) (σ := σ ++ [some []]) (x := Str.ofString ",") h (.inl rfl) hle (by lia) hz0
    have ee := row_run (tree := nameT s) (e := e) (lo := lo) (hi := hi) (σ := σ) (hr h0) (y6 := none) (y7 := none) (y8 := none) (rs := [none, none, none, none, none, none]) (by simp; lia)
    match r, ee, tail with
    | none, ee, _ =>
      refine glq fun Gq kq => ?_
      obtain ⟨ρ', z, hw1⟩ := ee
      refine kq ?_
      clear kq Gq
      have ht : (σ ++ [z]).take σ.length = σ := last_take
      show _ = Res.ok (AV.d .none, σ)
      exact ((st_law_named _ _ _).trans (run_okt rfl (sN (gK (uK (eC kK (eC (bK (bK (vK rfl) (vK rfl) (hr_low _)) kK oItem_1) e0C)))) (sN (nI (tK (bK (bK (vK rfl) (vK rfl) oSub_k) kK oEq_i)) hb1 nK) (sN (nI (tK (bK (fK (aC (vK rfl) (aC (bK (vK rfl) kK oAdd_k) a0C)) hc1) kK oNe_s)) hb2 nK) (sN (gK (fK (aC (vK rfl) (aC (bK (vK rfl) kK oAdd_k) a0C)) hc2)) (sN (nI (tK (bK (cLen_k (fK (aC (vK rfl) (aC (bK (vK rfl) kK oAdd_k) (aC (vK rfl) (aC kK a0C)))) hc3) rfl hz) kK oGt_k)) hb3 nK) (sN sNew_k (sR (tI (tK (bK (vK rfl) (bK (vK rfl) kK oAdd_k) oGt_k)) hb4 (sR (sForL_k (fK (aC (vK rfl) (aC (bK (vK rfl) kK oAdd_k) (aC (vK rfl) (aC kK a0C)))) hc4) hz1 hw1)))))))))) ht))
    | some rows, ee, tail =>
      obtain ⟨y6, y7, y8, hw1⟩ := ee
      obtain ⟨ρ', hZ⟩ := tail rows y6 y7 y8 rfl
      have ht : ((σ ++ [some rows]).set σ.length none).take σ.length = σ := by rw [last_set]; exact last_take
      exact ((st_law_named _ _ _).trans (run_okt rfl (sN (gK (uK (eC kK (eC (bK (bK (vK rfl) (vK rfl) (hr_low _)) kK oItem_1) e0C)))) (sN (nI (tK (bK (bK (vK rfl) (vK rfl) oSub_k) kK oEq_i)) hb1 nK) (sN (nI (tK (bK (fK (aC (vK rfl) (aC (bK (vK rfl) kK oAdd_k) a0C)) hc1) kK oNe_s)) hb2 nK) (sN (gK (fK (aC (vK rfl) (aC (bK (vK rfl) kK oAdd_k) a0C)) hc2)) (sN (nI (tK (bK (cLen_k (fK (aC (vK rfl) (aC (bK (vK rfl) kK oAdd_k) (aC (vK rfl) (aC kK a0C)))) hc3) rfl hz) kK oGt_k)) hb3 nK) (sN sNew_k (sN (tI (tK (bK (vK rfl) (bK (vK rfl) kK oAdd_k) oGt_k)) hb4 (sN (sForL_k (fK (aC (vK rfl) (aC (bK (vK rfl) kK oAdd_k) (aC (vK rfl) (aC kK a0C)))) hc4) hz1 hw1) nK)) hZ))))))) ht))
end
noncomputable def wt : Tk → Nat
  | .op s => if s = Str.ofString "(" then 6 else 2
  | _ => 2
noncomputable def wts (ts : List Tk) : Nat := (ts.map wt).sum
noncomputable def TokOk (t : Tk) : Prop := t.pay.canLay0 = true
structure Good (add : List Tk) (k : Nat) : Prop where
  ok : ∀ t ∈ add, TokOk t
  w : wts add + 2 * k ≤ 16
  l : add.length + k ≤ 6
theorem run_okm {ar nn : Nat} {b : SC} {o : Orc} {ρ' : Rho} {σ σ' : Sto} {avs : List AV} {d : PyData} (hl : avs.length = ar) (h : b o (avs.map some ++ List.replicate (nn - ar) none) σ = .ok (.ret (.d d), ρ', σ')) (ht : σ'.length = σ.length) : runF ar nn b o avs σ = .ok (.d d, σ') := by
  unfold runF; rw [if_pos hl, h]; show Res.ok (AV.d d, σ'.take σ.length) = _; rw [← ht, List.take_length]
theorem item_str {l : List Str} {z : Int} (h0 : 0 ≤ z) (hz : z < l.length) (hl : l.length ≤ 1000) : ∃ x ∈ l, ∀ σ, oItem (.d (.list (l.map PyData.str))) (.d (.int z)) σ = .ok (T x, σ) := by
  obtain ⟨k, rfl⟩ := Int.eq_ofNat_of_zero_le h0
  have hk : k < l.length := by lia
  exact ⟨l[k], List.getElem_mem _, fun σ => oItem_l (by rw [List.getElem?_map, List.getElem?_eq_getElem hk]; rfl) (by lia)⟩
noncomputable def namesL : List Str := [Str.ofString "A", Str.ofString "B1", Str.ofString "ZEBRA"]
noncomputable def opsL : List Str := ["**", "-", "*", ".EQ.", "+", "/", "//", ".AND.", ".LT.", ".OR.", ".EQV.", "**", "+", ".GE.", ".NEQV.", "*"].map Str.ofString
noncomputable def marksL : List Str := [")", ",", ":", "**", "//", ".EQ.", "=", "("].map Str.ofString
noncomputable def charsL : List Str := ["X", "IT''S", "="].map Str.ofString
noncomputable def signsL : List Str := ["-", "+", ".NOT."].map Str.ofString
noncomputable def sepsL : List Str := [",", ":"].map Str.ofString
section
variable {σ : Sto} {m : Nat} {n : Int} {rd od : List PyData}
theorem ev_names : callF (m + 1) .law_names [] σ = .ok (.d (.list (namesL.map PyData.str)), σ) := ((st_law_names _ _ _).trans (run_ok0 rfl (sR (sRet_k (lK (eC kK (eC kK (eC kK e0C))))))))
theorem ev_marks : callF (m + 1) .law_marks [] σ = .ok (.d (.list (marksL.map PyData.str)), σ) := ((st_law_marks _ _ _).trans (run_ok0 rfl (sR (sRet_k (lK (eC kK (eC kK (eC kK (eC kK (eC kK (eC kK (eC kK (eC kK e0C)))))))))))))
theorem ev_ops : callF (m + 1) .law_ops [] σ = .ok (.d (.list (opsL.map PyData.str)), σ) := ((st_law_ops _ _ _).trans (run_ok0 rfl (sR (sRet_k (lK (eC kK (eC kK (eC kK (eC kK (eC kK (eC kK (eC kK (eC kK (eC kK (eC kK (eC kK (eC kK (eC kK (eC kK (eC kK (eC kK e0C)))))))))))))))))))))
noncomputable def St (rd od : List PyData) : Sto := [some rd, some od]
noncomputable def OpR (rd od : List PyData) (R : Res (AV × Sto)) : Prop := ∃ (add : List Tk) (k : Nat) (b : Bool), R = .ok (Bo b, St (rd ++ add.map Tk.e2) (od ++ List.replicate k (.int 1))) ∧ Good add k
theorem strs_ok {l : List Str} (h : l.all PyData.strOk = true) {x : Str} (hx : x ∈ l) : PyData.strOk x = true := List.all_eq_true.mp h x hx
theorem op_0 (hs : n.fmod 16 = 0) (hz0 : rd.length ≤ 900) (ho0 : od.length ≤ 900) : OpR rd od (callF (m + 2) .law_operand [.d (.int n), .loc 0, .loc 1] (St rd od)) := by
  have hb1 : decide (n.fmod 16 < 3) = true := by rw [hs]; rfl
  have hb2 : decide ((3 : Int) < n.fmod 16) = false := by rw [hs]; rfl
  obtain ⟨x, hx, hx1⟩ := item_str (l := namesL) (z := (n.fdiv 16).fmod 3) (Int.fmod_nonneg_of_pos _ (by decide)) (Int.fmod_lt_of_pos _ (by decide)) (by decide)
  have hi1 := hx1 (St rd od)
  have hc1 := ev_names (m := m) (σ := St rd od)
  have hxo := strs_ok (l := namesL) (by decide +kernel) hx
  have hs1 : (St (rd) (od))[0]? = some (some (rd)) := rfl
  have hs2 := hs1
  have hz1 : (rd).length ≤ 1000 := by lia
  have e : callF (m + 2) .law_operand [.d (.int n), .loc 0, .loc 1] (St rd od) = .ok (Bo (decide ((3 : Int) < n.fmod 16)), St (rd ++ [(Tk.name x).e2]) (od)) := ((st_law_operand _ _ _).trans (run_okm rfl (sN (gK (bK (vK rfl) kK (oMod_k (by decide)))) (sN (gK (bK (vK rfl) kK (oDiv_k (by decide)))) (sR (tI (tOr_t (tK (bK (vK rfl) kK oLt_k)) hb1) rfl (sN (sApp_k rfl hs1 (uK (eC kK (eC (bK (fK a0C hc1) (bK (vK rfl) kK (oMod_k (by decide))) hi1) e0C))) hs2 hz1) (sN (nI (tK (bK (vK rfl) kK oGt_k)) hb2 nK) (sR (sRet_k (bK (vK rfl) kK oGt_k))))))))) rfl))
  refine ⟨[.name x], 0, (decide ((3 : Int) < n.fmod 16)), e.trans ?_, ?_⟩
  · simp only [List.append_assoc, List.append_nil, List.map_cons, List.map_nil, List.cons_append, List.nil_append, List.replicate]
  · refine ⟨fun t ht => ?_, ?_, ?_⟩
    · simp only [List.mem_cons, List.not_mem_nil, or_false] at ht
      rcases ht with rfl
      · show PyData.canLay0 (.str _) = true; simpa [PyData.canLay0] using hxo
    · first | exact Nat.le_of_ble_eq_true rfl | (simp only [wts, wt, List.map_cons, List.map_nil, List.sum_cons, List.sum_nil]; split <;> lia)
    · simp
theorem op_1 (hs : n.fmod 16 = 1) (hz0 : rd.length ≤ 900) (ho0 : od.length ≤ 900) : OpR rd od (callF (m + 2) .law_operand [.d (.int n), .loc 0, .loc 1] (St rd od)) := by
  have hb1 : decide (n.fmod 16 < 3) = true := by rw [hs]; rfl
  have hb2 : decide ((3 : Int) < n.fmod 16) = false := by rw [hs]; rfl
  obtain ⟨x, hx, hx1⟩ := item_str (l := namesL) (z := (n.fdiv 16).fmod 3) (Int.fmod_nonneg_of_pos _ (by decide)) (Int.fmod_lt_of_pos _ (by decide)) (by decide)
  have hi1 := hx1 (St rd od)
  have hc1 := ev_names (m := m) (σ := St rd od)
  have hxo := strs_ok (l := namesL) (by decide +kernel) hx
  have hs1 : (St (rd) (od))[0]? = some (some (rd)) := rfl
  have hs2 := hs1
  have hz1 : (rd).length ≤ 1000 := by lia
  have e : callF (m + 2) .law_operand [.d (.int n), .loc 0, .loc 1] (St rd od) = .ok (Bo (decide ((3 : Int) < n.fmod 16)), St (rd ++ [(Tk.name x).e2]) (od)) := ((st_law_operand _ _ _).trans (run_okm rfl (sN (gK (bK (vK rfl) kK (oMod_k (by decide)))) (sN (gK (bK (vK rfl) kK (oDiv_k (by decide)))) (sR (tI (tOr_t (tK (bK (vK rfl) kK oLt_k)) hb1) rfl (sN (sApp_k rfl hs1 (uK (eC kK (eC (bK (fK a0C hc1) (bK (vK rfl) kK (oMod_k (by decide))) hi1) e0C))) hs2 hz1) (sN (nI (tK (bK (vK rfl) kK oGt_k)) hb2 nK) (sR (sRet_k (bK (vK rfl) kK oGt_k))))))))) rfl))
  refine ⟨[.name x], 0, (decide ((3 : Int) < n.fmod 16)), e.trans ?_, ?_⟩
  · simp only [List.append_assoc, List.append_nil, List.map_cons, List.map_nil, List.cons_append, List.nil_append, List.replicate]
  · refine ⟨fun t ht => ?_, ?_, ?_⟩
    · simp only [List.mem_cons, List.not_mem_nil, or_false] at ht
      rcases ht with rfl
      · show PyData.canLay0 (.str _) = true; simpa [PyData.canLay0] using hxo
    · first | exact Nat.le_of_ble_eq_true rfl | (simp only [wts, wt, List.map_cons, List.map_nil, List.sum_cons, List.sum_nil]; split <;> lia)
    · simp
theorem op_2 (hs : n.fmod 16 = 2) (hz0 : rd.length ≤ 900) (ho0 : od.length ≤ 900) : OpR rd od (callF (m + 2) .law_operand [.d (.int n), .loc 0, .loc 1] (St rd od)) := by
  have hb1 : decide (n.fmod 16 < 3) = true := by rw [hs]; rfl
  have hb2 : decide ((3 : Int) < n.fmod 16) = false := by rw [hs]; rfl
  obtain ⟨x, hx, hx1⟩ := item_str (l := namesL) (z := (n.fdiv 16).fmod 3) (Int.fmod_nonneg_of_pos _ (by decide)) (Int.fmod_lt_of_pos _ (by decide)) (by decide)
  have hi1 := hx1 (St rd od)
  have hc1 := ev_names (m := m) (σ := St rd od)
  have hxo := strs_ok (l := namesL) (by decide +kernel) hx
  have hs1 : (St (rd) (od))[0]? = some (some (rd)) := rfl
  have hs2 := hs1
  have hz1 : (rd).length ≤ 1000 := by lia
  have e : callF (m + 2) .law_operand [.d (.int n), .loc 0, .loc 1] (St rd od) = .ok (Bo (decide ((3 : Int) < n.fmod 16)), St (rd ++ [(Tk.name x).e2]) (od)) := ((st_law_operand _ _ _).trans (run_okm rfl (sN (gK (bK (vK rfl) kK (oMod_k (by decide)))) (sN (gK (bK (vK rfl) kK (oDiv_k (by decide)))) (sR (tI (tOr_t (tK (bK (vK rfl) kK oLt_k)) hb1) rfl (sN (sApp_k rfl hs1 (uK (eC kK (eC (bK (fK a0C hc1) (bK (vK rfl) kK (oMod_k (by decide))) hi1) e0C))) hs2 hz1) (sN (nI (tK (bK (vK rfl) kK oGt_k)) hb2 nK) (sR (sRet_k (bK (vK rfl) kK oGt_k))))))))) rfl))
  refine ⟨[.name x], 0, (decide ((3 : Int) < n.fmod 16)), e.trans ?_, ?_⟩
  · simp only [List.append_assoc, List.append_nil, List.map_cons, List.map_nil, List.cons_append, List.nil_append, List.replicate]
  · refine ⟨fun t ht => ?_, ?_, ?_⟩
    · simp only [List.mem_cons, List.not_mem_nil, or_false] at ht
      rcases ht with rfl
      · show PyData.canLay0 (.str _) = true; simpa [PyData.canLay0] using hxo
    · first | exact Nat.le_of_ble_eq_true rfl | (simp only [wts, wt, List.map_cons, List.map_nil, List.sum_cons, List.sum_nil]; split <;> lia)
    · simp
theorem op_12T (hs : n.fmod 16 = 12) (hz0 : rd.length ≤ 900) (ho0 : od.length ≤ 900) (hb4 : ((n.fdiv 16).fmod 5 == 4) = true) : OpR rd od (callF (m + 2) .law_operand [.d (.int n), .loc 0, .loc 1] (St rd od)) := by
  have hb1 : decide (n.fmod 16 < 3) = false := by rw [hs]; rfl
  have hb2 : (n.fmod 16 == 12) = true := by rw [hs]; rfl
  have hb3 : decide ((3 : Int) < n.fmod 16) = true := by rw [hs]; rfl
  obtain ⟨x, hx, hx1⟩ := item_str (l := namesL) (z := (n.fdiv 16).fmod 3) (Int.fmod_nonneg_of_pos _ (by decide)) (Int.fmod_lt_of_pos _ (by decide)) (by decide)
  have hi1 := hx1 (St rd od)
  have hc1 := ev_names (m := m) (σ := St rd od)
  have hxo := strs_ok (l := namesL) (by decide +kernel) hx
  have hs1 : (St (rd) (od))[0]? = some (some (rd)) := rfl
  have hs2 := hs1
  have hz1 : (rd).length ≤ 1000 := by lia
  have hs3 : (St (rd ++ [(Tk.name x).e2]) (od))[0]? = some (some (rd ++ [(Tk.name x).e2])) := rfl
  have hs4 := hs3
  have hz2 : (rd ++ [(Tk.name x).e2]).length ≤ 1000 := by simp only [List.length_append, List.length_singleton]; lia
  have hs5 : (St (rd ++ [(Tk.name x).e2] ++ [(Tk.op (Str.ofString "(")).e2]) (od))[1]? = some (some (od)) := rfl
  have hs6 := hs5
  have hz3 : (od).length ≤ 1000 := by lia
  have hs7 : (St (rd ++ [(Tk.name x).e2] ++ [(Tk.op (Str.ofString "(")).e2]) (od ++ [.int 1]))[0]? = some (some (rd ++ [(Tk.name x).e2] ++ [(Tk.op (Str.ofString "(")).e2])) := rfl
  have hs8 := hs7
  have hz4 : (rd ++ [(Tk.name x).e2] ++ [(Tk.op (Str.ofString "(")).e2]).length ≤ 1000 := by simp only [List.length_append, List.length_singleton]; lia
  have e : callF (m + 2) .law_operand [.d (.int n), .loc 0, .loc 1] (St rd od) = .ok (Bo (decide ((3 : Int) < n.fmod 16)), St (rd ++ [(Tk.name x).e2] ++ [(Tk.op (Str.ofString "(")).e2] ++ [(Tk.op (Str.ofString ":")).e2]) (od ++ [.int 1])) := ((st_law_operand _ _ _).trans (run_okm rfl (sN (gK (bK (vK rfl) kK (oMod_k (by decide)))) (sN (gK (bK (vK rfl) kK (oDiv_k (by decide)))) (sR (tI (tOr_f (tK (bK (vK rfl) kK oLt_k)) hb1 (tOr_t (tK (bK (vK rfl) kK oEq_i)) hb2)) rfl (sN (sApp_k rfl hs1 (uK (eC kK (eC (bK (fK a0C hc1) (bK (vK rfl) kK (oMod_k (by decide))) hi1) e0C))) hs2 hz1) (sN (tI (tK (bK (vK rfl) kK oGt_k)) hb3 (sN (sApp_k rfl hs3 (uK (eC kK (eC kK e0C))) hs4 hz2) (sN (sApp_k rfl hs5 kK hs6 hz3) (sN (tI (tK (bK (bK (vK rfl) kK (oMod_k (by decide))) kK oEq_i)) hb4 (sN (sApp_k rfl hs7 (uK (eC kK (eC kK e0C))) hs8 hz4) nK)) nK)))) (sR (sRet_k (bK (vK rfl) kK oGt_k))))))))) rfl))
  refine ⟨[.name x, .op (Str.ofString "("), .op (Str.ofString ":")], 1, (decide ((3 : Int) < n.fmod 16)), e.trans ?_, ?_⟩
  · simp only [List.append_assoc, List.append_nil, List.map_cons, List.map_nil, List.cons_append, List.nil_append, List.replicate]
  · refine ⟨fun t ht => ?_, ?_, ?_⟩
    · simp only [List.mem_cons, List.not_mem_nil, or_false] at ht
      rcases ht with rfl | rfl | rfl
      · show PyData.canLay0 (.str _) = true; simpa [PyData.canLay0] using hxo
      · show PyData.canLay0 (.str (Str.ofString "(")) = true; decide +kernel
      · show PyData.canLay0 (.str (Str.ofString ":")) = true; decide +kernel
    · first | exact Nat.le_of_ble_eq_true rfl | (simp only [wts, wt, List.map_cons, List.map_nil, List.sum_cons, List.sum_nil]; split <;> lia)
    · simp
theorem op_12F (hs : n.fmod 16 = 12) (hz0 : rd.length ≤ 900) (ho0 : od.length ≤ 900) (hb4 : ((n.fdiv 16).fmod 5 == 4) = false) : OpR rd od (callF (m + 2) .law_operand [.d (.int n), .loc 0, .loc 1] (St rd od)) := by
  have hb1 : decide (n.fmod 16 < 3) = false := by rw [hs]; rfl
  have hb2 : (n.fmod 16 == 12) = true := by rw [hs]; rfl
  have hb3 : decide ((3 : Int) < n.fmod 16) = true := by rw [hs]; rfl
  obtain ⟨x, hx, hx1⟩ := item_str (l := namesL) (z := (n.fdiv 16).fmod 3) (Int.fmod_nonneg_of_pos _ (by decide)) (Int.fmod_lt_of_pos _ (by decide)) (by decide)
  have hi1 := hx1 (St rd od)
  have hc1 := ev_names (m := m) (σ := St rd od)
  have hxo := strs_ok (l := namesL) (by decide +kernel) hx
  have hs1 : (St (rd) (od))[0]? = some (some (rd)) := rfl
  have hs2 := hs1
  have hz1 : (rd).length ≤ 1000 := by lia
  have hs3 : (St (rd ++ [(Tk.name x).e2]) (od))[0]? = some (some (rd ++ [(Tk.name x).e2])) := rfl
  have hs4 := hs3
  have hz2 : (rd ++ [(Tk.name x).e2]).length ≤ 1000 := by simp only [List.length_append, List.length_singleton]; lia
  have hs5 : (St (rd ++ [(Tk.name x).e2] ++ [(Tk.op (Str.ofString "(")).e2]) (od))[1]? = some (some (od)) := rfl
  have hs6 := hs5
  have hz3 : (od).length ≤ 1000 := by lia
  have e : callF (m + 2) .law_operand [.d (.int n), .loc 0, .loc 1] (St rd od) = .ok (Bo (decide ((3 : Int) < n.fmod 16)), St (rd ++ [(Tk.name x).e2] ++ [(Tk.op (Str.ofString "(")).e2]) (od ++ [.int 1])) := ((st_law_operand _ _ _).trans (run_okm rfl (sN (gK (bK (vK rfl) kK (oMod_k (by decide)))) (sN (gK (bK (vK rfl) kK (oDiv_k (by decide)))) (sR (tI (tOr_f (tK (bK (vK rfl) kK oLt_k)) hb1 (tOr_t (tK (bK (vK rfl) kK oEq_i)) hb2)) rfl (sN (sApp_k rfl hs1 (uK (eC kK (eC (bK (fK a0C hc1) (bK (vK rfl) kK (oMod_k (by decide))) hi1) e0C))) hs2 hz1) (sN (tI (tK (bK (vK rfl) kK oGt_k)) hb3 (sN (sApp_k rfl hs3 (uK (eC kK (eC kK e0C))) hs4 hz2) (sN (sApp_k rfl hs5 kK hs6 hz3) (sN (nI (tK (bK (bK (vK rfl) kK (oMod_k (by decide))) kK oEq_i)) hb4 nK) nK)))) (sR (sRet_k (bK (vK rfl) kK oGt_k))))))))) rfl))
  refine ⟨[.name x, .op (Str.ofString "(")], 1, (decide ((3 : Int) < n.fmod 16)), e.trans ?_, ?_⟩
  · simp only [List.append_assoc, List.append_nil, List.map_cons, List.map_nil, List.cons_append, List.nil_append, List.replicate]
  · refine ⟨fun t ht => ?_, ?_, ?_⟩
    · simp only [List.mem_cons, List.not_mem_nil, or_false] at ht
      rcases ht with rfl | rfl
      · show PyData.canLay0 (.str _) = true; simpa [PyData.canLay0] using hxo
      · show PyData.canLay0 (.str (Str.ofString "(")) = true; decide +kernel
    · first | exact Nat.le_of_ble_eq_true rfl | (simp only [wts, wt, List.map_cons, List.map_nil, List.sum_cons, List.sum_nil]; split <;> lia)
    · simp
theorem op_13T (hs : n.fmod 16 = 13) (hz0 : rd.length ≤ 900) (ho0 : od.length ≤ 900) (hb5 : ((n.fdiv 16).fmod 5 == 4) = true) : OpR rd od (callF (m + 2) .law_operand [.d (.int n), .loc 0, .loc 1] (St rd od)) := by
  have hb1 : decide (n.fmod 16 < 3) = false := by rw [hs]; rfl
  have hb2 : (n.fmod 16 == 12) = false := by rw [hs]; rfl
  have hb3 : (n.fmod 16 == 13) = true := by rw [hs]; rfl
  have hb4 : decide ((3 : Int) < n.fmod 16) = true := by rw [hs]; rfl
  obtain ⟨x, hx, hx1⟩ := item_str (l := namesL) (z := (n.fdiv 16).fmod 3) (Int.fmod_nonneg_of_pos _ (by decide)) (Int.fmod_lt_of_pos _ (by decide)) (by decide)
  have hi1 := hx1 (St rd od)
  have hc1 := ev_names (m := m) (σ := St rd od)
  have hxo := strs_ok (l := namesL) (by decide +kernel) hx
  have hs1 : (St (rd) (od))[0]? = some (some (rd)) := rfl
  have hs2 := hs1
  have hz1 : (rd).length ≤ 1000 := by lia
  have hs3 : (St (rd ++ [(Tk.name x).e2]) (od))[0]? = some (some (rd ++ [(Tk.name x).e2])) := rfl
  have hs4 := hs3
  have hz2 : (rd ++ [(Tk.name x).e2]).length ≤ 1000 := by simp only [List.length_append, List.length_singleton]; lia
  have hs5 : (St (rd ++ [(Tk.name x).e2] ++ [(Tk.op (Str.ofString "(")).e2]) (od))[1]? = some (some (od)) := rfl
  have hs6 := hs5
  have hz3 : (od).length ≤ 1000 := by lia
  have hs7 : (St (rd ++ [(Tk.name x).e2] ++ [(Tk.op (Str.ofString "(")).e2]) (od ++ [.int 1]))[0]? = some (some (rd ++ [(Tk.name x).e2] ++ [(Tk.op (Str.ofString "(")).e2])) := rfl
  have hs8 := hs7
  have hz4 : (rd ++ [(Tk.name x).e2] ++ [(Tk.op (Str.ofString "(")).e2]).length ≤ 1000 := by simp only [List.length_append, List.length_singleton]; lia
  have e : callF (m + 2) .law_operand [.d (.int n), .loc 0, .loc 1] (St rd od) = .ok (Bo (decide ((3 : Int) < n.fmod 16)), St (rd ++ [(Tk.name x).e2] ++ [(Tk.op (Str.ofString "(")).e2] ++ [(Tk.op (Str.ofString ":")).e2]) (od ++ [.int 1])) := ((st_law_operand _ _ _).trans (run_okm rfl (sN (gK (bK (vK rfl) kK (oMod_k (by decide)))) (sN (gK (bK (vK rfl) kK (oDiv_k (by decide)))) (sR (tI (tOr_f (tK (bK (vK rfl) kK oLt_k)) hb1 (tOr_f (tK (bK (vK rfl) kK oEq_i)) hb2 (tOr_t (tK (bK (vK rfl) kK oEq_i)) hb3))) rfl (sN (sApp_k rfl hs1 (uK (eC kK (eC (bK (fK a0C hc1) (bK (vK rfl) kK (oMod_k (by decide))) hi1) e0C))) hs2 hz1) (sN (tI (tK (bK (vK rfl) kK oGt_k)) hb4 (sN (sApp_k rfl hs3 (uK (eC kK (eC kK e0C))) hs4 hz2) (sN (sApp_k rfl hs5 kK hs6 hz3) (sN (tI (tK (bK (bK (vK rfl) kK (oMod_k (by decide))) kK oEq_i)) hb5 (sN (sApp_k rfl hs7 (uK (eC kK (eC kK e0C))) hs8 hz4) nK)) nK)))) (sR (sRet_k (bK (vK rfl) kK oGt_k))))))))) rfl))
  refine ⟨[.name x, .op (Str.ofString "("), .op (Str.ofString ":")], 1, (decide ((3 : Int) < n.fmod 16)), e.trans ?_, ?_⟩
  · simp only [List.append_assoc, List.append_nil, List.map_cons, List.map_nil, List.cons_append, List.nil_append, List.replicate]
  · refine ⟨fun t ht => ?_, ?_, ?_⟩
    · simp only [List.mem_cons, List.not_mem_nil, or_false] at ht
      rcases ht with rfl | rfl | rfl
      · show PyData.canLay0 (.str _) = true; simpa [PyData.canLay0] using hxo
      · show PyData.canLay0 (.str (Str.ofString "(")) = true; decide +kernel
      · show PyData.canLay0 (.str (Str.ofString ":")) = true; decide +kernel
    · first | exact Nat.le_of_ble_eq_true rfl | (simp only [wts, wt, List.map_cons, List.map_nil, List.sum_cons, List.sum_nil]; split <;> lia)
    · simp
theorem op_13F (hs : n.fmod 16 = 13) (hz0 : rd.length ≤ 900) (ho0 : od.length ≤ 900) (hb5 : ((n.fdiv 16).fmod 5 == 4) = false) : OpR rd od (callF (m + 2) .law_operand [.d (.int n), .loc 0, .loc 1] (St rd od)) := by
  have hb1 : decide (n.fmod 16 < 3) = false := by rw [hs]; rfl
  have hb2 : (n.fmod 16 == 12) = false := by rw [hs]; rfl
  have hb3 : (n.fmod 16 == 13) = true := by rw [hs]; rfl
  have hb4 : decide ((3 : Int) < n.fmod 16) = true := by rw [hs]; rfl
  obtain ⟨x, hx, hx1⟩ := item_str (l := namesL) (z := (n.fdiv 16).fmod 3) (Int.fmod_nonneg_of_pos _ (by decide)) (Int.fmod_lt_of_pos _ (by decide)) (by decide)
  have hi1 := hx1 (St rd od)
  have hc1 := ev_names (m := m) (σ := St rd od)
  have hxo := strs_ok (l := namesL) (by decide +kernel) hx
  have hs1 : (St (rd) (od))[0]? = some (some (rd)) := rfl
  have hs2 := hs1
  have hz1 : (rd).length ≤ 1000 := by lia
  have hs3 : (St (rd ++ [(Tk.name x).e2]) (od))[0]? = some (some (rd ++ [(Tk.name x).e2])) := rfl
  have hs4 := hs3
  have hz2 : (rd ++ [(Tk.name x).e2]).length ≤ 1000 := by simp only [List.length_append, List.length_singleton]; lia
  have hs5 : (St (rd ++ [(Tk.name x).e2] ++ [(Tk.op (Str.ofString "(")).e2]) (od))[1]? = some (some (od)) := rfl
  have hs6 := hs5
  have hz3 : (od).length ≤ 1000 := by lia
  have e : callF (m + 2) .law_operand [.d (.int n), .loc 0, .loc 1] (St rd od) = .ok (Bo (decide ((3 : Int) < n.fmod 16)), St (rd ++ [(Tk.name x).e2] ++ [(Tk.op (Str.ofString "(")).e2]) (od ++ [.int 1])) := ((st_law_operand _ _ _).trans (run_okm rfl (sN (gK (bK (vK rfl) kK (oMod_k (by decide)))) (sN (gK (bK (vK rfl) kK (oDiv_k (by decide)))) (sR (tI (tOr_f (tK (bK (vK rfl) kK oLt_k)) hb1 (tOr_f (tK (bK (vK rfl) kK oEq_i)) hb2 (tOr_t (tK (bK (vK rfl) kK oEq_i)) hb3))) rfl (sN (sApp_k rfl hs1 (uK (eC kK (eC (bK (fK a0C hc1) (bK (vK rfl) kK (oMod_k (by decide))) hi1) e0C))) hs2 hz1) (sN (tI (tK (bK (vK rfl) kK oGt_k)) hb4 (sN (sApp_k rfl hs3 (uK (eC kK (eC kK e0C))) hs4 hz2) (sN (sApp_k rfl hs5 kK hs6 hz3) (sN (nI (tK (bK (bK (vK rfl) kK (oMod_k (by decide))) kK oEq_i)) hb5 nK) nK)))) (sR (sRet_k (bK (vK rfl) kK oGt_k))))))))) rfl))
  refine ⟨[.name x, .op (Str.ofString "(")], 1, (decide ((3 : Int) < n.fmod 16)), e.trans ?_, ?_⟩
  · simp only [List.append_assoc, List.append_nil, List.map_cons, List.map_nil, List.cons_append, List.nil_append, List.replicate]
  · refine ⟨fun t ht => ?_, ?_, ?_⟩
    · simp only [List.mem_cons, List.not_mem_nil, or_false] at ht
      rcases ht with rfl | rfl
      · show PyData.canLay0 (.str _) = true; simpa [PyData.canLay0] using hxo
      · show PyData.canLay0 (.str (Str.ofString "(")) = true; decide +kernel
    · first | exact Nat.le_of_ble_eq_true rfl | (simp only [wts, wt, List.map_cons, List.map_nil, List.sum_cons, List.sum_nil]; split <;> lia)
    · simp
theorem op_3 (hs : n.fmod 16 = 3) (hz0 : rd.length ≤ 900) (ho0 : od.length ≤ 900) : OpR rd od (callF (m + 2) .law_operand [.d (.int n), .loc 0, .loc 1] (St rd od)) := by
  have hb1 : decide (n.fmod 16 < 3) = false := by rw [hs]; rfl
  have hb2 : (n.fmod 16 == 12) = false := by rw [hs]; rfl
  have hb3 : (n.fmod 16 == 13) = false := by rw [hs]; rfl
  have hb4 : (n.fmod 16 == 3) = true := by rw [hs]; rfl
  have hs1 : (St (rd) (od))[0]? = some (some (rd)) := rfl
  have hs2 := hs1
  have hz1 : (rd).length ≤ 1000 := by lia
  have e : callF (m + 2) .law_operand [.d (.int n), .loc 0, .loc 1] (St rd od) = .ok (Bo false, St (rd ++ [(Tk.int ((n.fdiv 16).fmod 100)).e2]) (od)) := ((st_law_operand _ _ _).trans (run_okm rfl (sN (gK (bK (vK rfl) kK (oMod_k (by decide)))) (sN (gK (bK (vK rfl) kK (oDiv_k (by decide)))) (sN (nI (tOr_f (tK (bK (vK rfl) kK oLt_k)) hb1 (tOr_f (tK (bK (vK rfl) kK oEq_i)) hb2 (tOr_f (tK (bK (vK rfl) kK oEq_i)) hb3 tOr_0))) rfl nK) (sN (tI (tK (bK (vK rfl) kK oEq_i)) hb4 (sN (sApp_k rfl hs1 (uK (eC kK (eC (bK (vK rfl) kK (oMod_k (by decide))) e0C))) hs2 hz1) nK)) (sR (sRet_k kK)))))) rfl))
  refine ⟨[.int ((n.fdiv 16).fmod 100)], 0, false, e.trans ?_, ?_⟩
  · simp only [List.append_assoc, List.append_nil, List.map_cons, List.map_nil, List.cons_append, List.nil_append, List.replicate]
  · refine ⟨fun t ht => ?_, ?_, ?_⟩
    · simp only [List.mem_cons, List.not_mem_nil, or_false] at ht
      rcases ht with rfl
      · show PyData.canLay0 _ = true; rfl
    · first | exact Nat.le_of_ble_eq_true rfl | (simp only [wts, wt, List.map_cons, List.map_nil, List.sum_cons, List.sum_nil]; split <;> lia)
    · simp
theorem op_4 (hs : n.fmod 16 = 4) (hz0 : rd.length ≤ 900) (ho0 : od.length ≤ 900) : OpR rd od (callF (m + 2) .law_operand [.d (.int n), .loc 0, .loc 1] (St rd od)) := by
  have hb1 : decide (n.fmod 16 < 3) = false := by rw [hs]; rfl
  have hb2 : (n.fmod 16 == 12) = false := by rw [hs]; rfl
  have hb3 : (n.fmod 16 == 13) = false := by rw [hs]; rfl
  have hb4 : (n.fmod 16 == 3) = false := by rw [hs]; rfl
  have hb5 : (n.fmod 16 == 4) = true := by rw [hs]; rfl
  have hs1 : (St (rd) (od))[0]? = some (some (rd)) := rfl
  have hs2 := hs1
  have hz1 : (rd).length ≤ 1000 := by lia
  have e : callF (m + 2) .law_operand [.d (.int n), .loc 0, .loc 1] (St rd od) = .ok (Bo false, St (rd ++ [(Tk.real ((n.fdiv 16).fmod 90) ((n.fdiv 16).fmod 5 - 2)).e2]) (od)) := ((st_law_operand _ _ _).trans (run_okm rfl (sN (gK (bK (vK rfl) kK (oMod_k (by decide)))) (sN (gK (bK (vK rfl) kK (oDiv_k (by decide)))) (sN (nI (tOr_f (tK (bK (vK rfl) kK oLt_k)) hb1 (tOr_f (tK (bK (vK rfl) kK oEq_i)) hb2 (tOr_f (tK (bK (vK rfl) kK oEq_i)) hb3 tOr_0))) rfl nK) (sN (nI (tK (bK (vK rfl) kK oEq_i)) hb4 (sN (tI (tK (bK (vK rfl) kK oEq_i)) hb5 (sN (sApp_k rfl hs1 (uK (eC kK (eC (uK (eC (bK (vK rfl) kK (oMod_k (by decide))) (eC (bK (bK (vK rfl) kK (oMod_k (by decide))) kK oSub_k) e0C))) e0C))) hs2 hz1) nK)) nK)) (sR (sRet_k kK)))))) rfl))
  refine ⟨[.real ((n.fdiv 16).fmod 90) ((n.fdiv 16).fmod 5 - 2)], 0, false, e.trans ?_, ?_⟩
  · simp only [List.append_assoc, List.append_nil, List.map_cons, List.map_nil, List.cons_append, List.nil_append, List.replicate]
  · refine ⟨fun t ht => ?_, ?_, ?_⟩
    · simp only [List.mem_cons, List.not_mem_nil, or_false] at ht
      rcases ht with rfl
      · show PyData.canLay0 _ = true; rfl
    · first | exact Nat.le_of_ble_eq_true rfl | (simp only [wts, wt, List.map_cons, List.map_nil, List.sum_cons, List.sum_nil]; split <;> lia)
    · simp
theorem op_5 (hs : n.fmod 16 = 5) (hz0 : rd.length ≤ 900) (ho0 : od.length ≤ 900) : OpR rd od (callF (m + 2) .law_operand [.d (.int n), .loc 0, .loc 1] (St rd od)) := by
  have hb1 : decide (n.fmod 16 < 3) = false := by rw [hs]; rfl
  have hb2 : (n.fmod 16 == 12) = false := by rw [hs]; rfl
  have hb3 : (n.fmod 16 == 13) = false := by rw [hs]; rfl
  have hb4 : (n.fmod 16 == 3) = false := by rw [hs]; rfl
  have hb5 : (n.fmod 16 == 4) = false := by rw [hs]; rfl
  have hb6 : (n.fmod 16 == 5) = true := by rw [hs]; rfl
  have hs1 : (St (rd) (od))[0]? = some (some (rd)) := rfl
  have hs2 := hs1
  have hz1 : (rd).length ≤ 1000 := by lia
  have e : callF (m + 2) .law_operand [.d (.int n), .loc 0, .loc 1] (St rd od) = .ok (Bo false, St (rd ++ [(Tk.dble ((n.fdiv 16).fmod 90) ((n.fdiv 16).fmod 7 - 3)).e2]) (od)) := ((st_law_operand _ _ _).trans (run_okm rfl (sN (gK (bK (vK rfl) kK (oMod_k (by decide)))) (sN (gK (bK (vK rfl) kK (oDiv_k (by decide)))) (sN (nI (tOr_f (tK (bK (vK rfl) kK oLt_k)) hb1 (tOr_f (tK (bK (vK rfl) kK oEq_i)) hb2 (tOr_f (tK (bK (vK rfl) kK oEq_i)) hb3 tOr_0))) rfl nK) (sN (nI (tK (bK (vK rfl) kK oEq_i)) hb4 (sN (nI (tK (bK (vK rfl) kK oEq_i)) hb5 (sN (tI (tK (bK (vK rfl) kK oEq_i)) hb6 (sN (sApp_k rfl hs1 (uK (eC kK (eC (uK (eC (bK (vK rfl) kK (oMod_k (by decide))) (eC (bK (bK (vK rfl) kK (oMod_k (by decide))) kK oSub_k) e0C))) e0C))) hs2 hz1) nK)) nK)) nK)) (sR (sRet_k kK)))))) rfl))
  refine ⟨[.dble ((n.fdiv 16).fmod 90) ((n.fdiv 16).fmod 7 - 3)], 0, false, e.trans ?_, ?_⟩
  · simp only [List.append_assoc, List.append_nil, List.map_cons, List.map_nil, List.cons_append, List.nil_append, List.replicate]
  · refine ⟨fun t ht => ?_, ?_, ?_⟩
    · simp only [List.mem_cons, List.not_mem_nil, or_false] at ht
      rcases ht with rfl
      · show PyData.canLay0 _ = true; rfl
    · first | exact Nat.le_of_ble_eq_true rfl | (simp only [wts, wt, List.map_cons, List.map_nil, List.sum_cons, List.sum_nil]; split <;> lia)
    · simp
theorem op_6 (hs : n.fmod 16 = 6) (hz0 : rd.length ≤ 900) (ho0 : od.length ≤ 900) : OpR rd od (callF (m + 2) .law_operand [.d (.int n), .loc 0, .loc 1] (St rd od)) := by
  have hb1 : decide (n.fmod 16 < 3) = false := by rw [hs]; rfl
  have hb2 : (n.fmod 16 == 12) = false := by rw [hs]; rfl
  have hb3 : (n.fmod 16 == 13) = false := by rw [hs]; rfl
  have hb4 : (n.fmod 16 == 3) = false := by rw [hs]; rfl
  have hb5 : (n.fmod 16 == 4) = false := by rw [hs]; rfl
  have hb6 : (n.fmod 16 == 5) = false := by rw [hs]; rfl
  have hb7 : (n.fmod 16 == 6) = true := by rw [hs]; rfl
  have hs1 : (St (rd) (od))[0]? = some (some (rd)) := rfl
  have hs2 := hs1
  have hz1 : (rd).length ≤ 1000 := by lia
  have e : callF (m + 2) .law_operand [.d (.int n), .loc 0, .loc 1] (St rd od) = .ok (Bo false, St (rd ++ [(Tk.log ((n.fdiv 16).fmod 2 == 1)).e2]) (od)) := ((st_law_operand _ _ _).trans (run_okm rfl (sN (gK (bK (vK rfl) kK (oMod_k (by decide)))) (sN (gK (bK (vK rfl) kK (oDiv_k (by decide)))) (sN (nI (tOr_f (tK (bK (vK rfl) kK oLt_k)) hb1 (tOr_f (tK (bK (vK rfl) kK oEq_i)) hb2 (tOr_f (tK (bK (vK rfl) kK oEq_i)) hb3 tOr_0))) rfl nK) (sN (nI (tK (bK (vK rfl) kK oEq_i)) hb4 (sN (nI (tK (bK (vK rfl) kK oEq_i)) hb5 (sN (nI (tK (bK (vK rfl) kK oEq_i)) hb6 (sN (tI (tK (bK (vK rfl) kK oEq_i)) hb7 (sN (sApp_k rfl hs1 (uK (eC kK (eC (bK (bK (vK rfl) kK (oMod_k (by decide))) kK oEq_i) e0C))) hs2 hz1) nK)) nK)) nK)) nK)) (sR (sRet_k kK)))))) rfl))
  refine ⟨[.log ((n.fdiv 16).fmod 2 == 1)], 0, false, e.trans ?_, ?_⟩
  · simp only [List.append_assoc, List.append_nil, List.map_cons, List.map_nil, List.cons_append, List.nil_append, List.replicate]
  · refine ⟨fun t ht => ?_, ?_, ?_⟩
    · simp only [List.mem_cons, List.not_mem_nil, or_false] at ht
      rcases ht with rfl
      · show PyData.canLay0 _ = true; rfl
    · first | exact Nat.le_of_ble_eq_true rfl | (simp only [wts, wt, List.map_cons, List.map_nil, List.sum_cons, List.sum_nil]; split <;> lia)
    · simp
theorem op_7 (hs : n.fmod 16 = 7) (hz0 : rd.length ≤ 900) (ho0 : od.length ≤ 900) : OpR rd od (callF (m + 2) .law_operand [.d (.int n), .loc 0, .loc 1] (St rd od)) := by
  have hb1 : decide (n.fmod 16 < 3) = false := by rw [hs]; rfl
  have hb2 : (n.fmod 16 == 12) = false := by rw [hs]; rfl
  have hb3 : (n.fmod 16 == 13) = false := by rw [hs]; rfl
  have hb4 : (n.fmod 16 == 3) = false := by rw [hs]; rfl
  have hb5 : (n.fmod 16 == 4) = false := by rw [hs]; rfl
  have hb6 : (n.fmod 16 == 5) = false := by rw [hs]; rfl
  have hb7 : (n.fmod 16 == 6) = false := by rw [hs]; rfl
  have hb8 : (n.fmod 16 == 7) = true := by rw [hs]; rfl
  obtain ⟨x, hx, hx1⟩ := item_str (l := charsL) (z := (n.fdiv 16).fmod 3) (Int.fmod_nonneg_of_pos _ (by decide)) (Int.fmod_lt_of_pos _ (by decide)) (by decide)
  have hi1 := hx1 (St rd od)
  have hxo := strs_ok (l := charsL) (by decide +kernel) hx
  have hs1 : (St (rd) (od))[0]? = some (some (rd)) := rfl
  have hs2 := hs1
  have hz1 : (rd).length ≤ 1000 := by lia
  have e : callF (m + 2) .law_operand [.d (.int n), .loc 0, .loc 1] (St rd od) = .ok (Bo false, St (rd ++ [(Tk.chr x).e2]) (od)) := ((st_law_operand _ _ _).trans (run_okm rfl (sN (gK (bK (vK rfl) kK (oMod_k (by decide)))) (sN (gK (bK (vK rfl) kK (oDiv_k (by decide)))) (sN (nI (tOr_f (tK (bK (vK rfl) kK oLt_k)) hb1 (tOr_f (tK (bK (vK rfl) kK oEq_i)) hb2 (tOr_f (tK (bK (vK rfl) kK oEq_i)) hb3 tOr_0))) rfl nK) (sN (nI (tK (bK (vK rfl) kK oEq_i)) hb4 (sN (nI (tK (bK (vK rfl) kK oEq_i)) hb5 (sN (nI (tK (bK (vK rfl) kK oEq_i)) hb6 (sN (nI (tK (bK (vK rfl) kK oEq_i)) hb7 (sN (tI (tK (bK (vK rfl) kK oEq_i)) hb8 (sN (sApp_k rfl hs1 (uK (eC kK (eC (bK (lK (eC kK (eC kK (eC kK e0C)))) (bK (vK rfl) kK (oMod_k (by decide))) hi1) e0C))) hs2 hz1) nK)) nK)) nK)) nK)) nK)) (sR (sRet_k kK)))))) rfl))
  refine ⟨[.chr x], 0, false, e.trans ?_, ?_⟩
  · simp only [List.append_assoc, List.append_nil, List.map_cons, List.map_nil, List.cons_append, List.nil_append, List.replicate]
  · refine ⟨fun t ht => ?_, ?_, ?_⟩
    · simp only [List.mem_cons, List.not_mem_nil, or_false] at ht
      rcases ht with rfl
      · show PyData.canLay0 (.str _) = true; simpa [PyData.canLay0] using hxo
    · first | exact Nat.le_of_ble_eq_true rfl | (simp only [wts, wt, List.map_cons, List.map_nil, List.sum_cons, List.sum_nil]; split <;> lia)
    · simp
theorem op_8 (hs : n.fmod 16 = 8) (hz0 : rd.length ≤ 900) (ho0 : od.length ≤ 900) : OpR rd od (callF (m + 2) .law_operand [.d (.int n), .loc 0, .loc 1] (St rd od)) := by
  have hb1 : decide (n.fmod 16 < 3) = false := by rw [hs]; rfl
  have hb2 : (n.fmod 16 == 12) = false := by rw [hs]; rfl
  have hb3 : (n.fmod 16 == 13) = false := by rw [hs]; rfl
  have hb4 : (n.fmod 16 == 3) = false := by rw [hs]; rfl
  have hb5 : (n.fmod 16 == 4) = false := by rw [hs]; rfl
  have hb6 : (n.fmod 16 == 5) = false := by rw [hs]; rfl
  have hb7 : (n.fmod 16 == 6) = false := by rw [hs]; rfl
  have hb8 : (n.fmod 16 == 7) = false := by rw [hs]; rfl
  have hb9 : decide (n.fmod 16 < 10) = true := by rw [hs]; rfl
  have hs1 : (St (rd) (od))[0]? = some (some (rd)) := rfl
  have hs2 := hs1
  have hz1 : (rd).length ≤ 1000 := by lia
  have hs3 : (St (rd ++ [(Tk.op (Str.ofString "(")).e2]) (od))[1]? = some (some (od)) := rfl
  have hs4 := hs3
  have hz2 : (od).length ≤ 1000 := by lia
  have e : callF (m + 2) .law_operand [.d (.int n), .loc 0, .loc 1] (St rd od) = .ok (Bo true, St (rd ++ [(Tk.op (Str.ofString "(")).e2]) (od ++ [.int 1])) := ((st_law_operand _ _ _).trans (run_okm rfl (sN (gK (bK (vK rfl) kK (oMod_k (by decide)))) (sN (gK (bK (vK rfl) kK (oDiv_k (by decide)))) (sN (nI (tOr_f (tK (bK (vK rfl) kK oLt_k)) hb1 (tOr_f (tK (bK (vK rfl) kK oEq_i)) hb2 (tOr_f (tK (bK (vK rfl) kK oEq_i)) hb3 tOr_0))) rfl nK) (sR (nI (tK (bK (vK rfl) kK oEq_i)) hb4 (sR (nI (tK (bK (vK rfl) kK oEq_i)) hb5 (sR (nI (tK (bK (vK rfl) kK oEq_i)) hb6 (sR (nI (tK (bK (vK rfl) kK oEq_i)) hb7 (sR (nI (tK (bK (vK rfl) kK oEq_i)) hb8 (sR (tI (tK (bK (vK rfl) kK oLt_k)) hb9 (sN (sApp_k rfl hs1 (uK (eC kK (eC kK e0C))) hs2 hz1) (sN (sApp_k rfl hs3 kK hs4 hz2) (sR (sRet_k kK))))))))))))))))))) rfl))
  refine ⟨[.op (Str.ofString "(")], 1, true, e.trans ?_, ?_⟩
  · simp only [List.append_assoc, List.append_nil, List.map_cons, List.map_nil, List.cons_append, List.nil_append, List.replicate]
  · refine ⟨fun t ht => ?_, ?_, ?_⟩
    · simp only [List.mem_cons, List.not_mem_nil, or_false] at ht
      rcases ht with rfl
      · show PyData.canLay0 (.str (Str.ofString "(")) = true; decide +kernel
    · first | exact Nat.le_of_ble_eq_true rfl | (simp only [wts, wt, List.map_cons, List.map_nil, List.sum_cons, List.sum_nil]; split <;> lia)
    · simp
theorem op_9 (hs : n.fmod 16 = 9) (hz0 : rd.length ≤ 900) (ho0 : od.length ≤ 900) : OpR rd od (callF (m + 2) .law_operand [.d (.int n), .loc 0, .loc 1] (St rd od)) := by
  have hb1 : decide (n.fmod 16 < 3) = false := by rw [hs]; rfl
  have hb2 : (n.fmod 16 == 12) = false := by rw [hs]; rfl
  have hb3 : (n.fmod 16 == 13) = false := by rw [hs]; rfl
  have hb4 : (n.fmod 16 == 3) = false := by rw [hs]; rfl
  have hb5 : (n.fmod 16 == 4) = false := by rw [hs]; rfl
  have hb6 : (n.fmod 16 == 5) = false := by rw [hs]; rfl
  have hb7 : (n.fmod 16 == 6) = false := by rw [hs]; rfl
  have hb8 : (n.fmod 16 == 7) = false := by rw [hs]; rfl
  have hb9 : decide (n.fmod 16 < 10) = true := by rw [hs]; rfl
  have hs1 : (St (rd) (od))[0]? = some (some (rd)) := rfl
  have hs2 := hs1
  have hz1 : (rd).length ≤ 1000 := by lia
  have hs3 : (St (rd ++ [(Tk.op (Str.ofString "(")).e2]) (od))[1]? = some (some (od)) := rfl
  have hs4 := hs3
  have hz2 : (od).length ≤ 1000 := by lia
  have e : callF (m + 2) .law_operand [.d (.int n), .loc 0, .loc 1] (St rd od) = .ok (Bo true, St (rd ++ [(Tk.op (Str.ofString "(")).e2]) (od ++ [.int 1])) := ((st_law_operand _ _ _).trans (run_okm rfl (sN (gK (bK (vK rfl) kK (oMod_k (by decide)))) (sN (gK (bK (vK rfl) kK (oDiv_k (by decide)))) (sN (nI (tOr_f (tK (bK (vK rfl) kK oLt_k)) hb1 (tOr_f (tK (bK (vK rfl) kK oEq_i)) hb2 (tOr_f (tK (bK (vK rfl) kK oEq_i)) hb3 tOr_0))) rfl nK) (sR (nI (tK (bK (vK rfl) kK oEq_i)) hb4 (sR (nI (tK (bK (vK rfl) kK oEq_i)) hb5 (sR (nI (tK (bK (vK rfl) kK oEq_i)) hb6 (sR (nI (tK (bK (vK rfl) kK oEq_i)) hb7 (sR (nI (tK (bK (vK rfl) kK oEq_i)) hb8 (sR (tI (tK (bK (vK rfl) kK oLt_k)) hb9 (sN (sApp_k rfl hs1 (uK (eC kK (eC kK e0C))) hs2 hz1) (sN (sApp_k rfl hs3 kK hs4 hz2) (sR (sRet_k kK))))))))))))))))))) rfl))
  refine ⟨[.op (Str.ofString "(")], 1, true, e.trans ?_, ?_⟩
  · simp only [List.append_assoc, List.append_nil, List.map_cons, List.map_nil, List.cons_append, List.nil_append, List.replicate]
  · refine ⟨fun t ht => ?_, ?_, ?_⟩
    · simp only [List.mem_cons, List.not_mem_nil, or_false] at ht
      rcases ht with rfl
      · show PyData.canLay0 (.str (Str.ofString "(")) = true; decide +kernel
    · first | exact Nat.le_of_ble_eq_true rfl | (simp only [wts, wt, List.map_cons, List.map_nil, List.sum_cons, List.sum_nil]; split <;> lia)
    · simp
theorem op_10 (hs : n.fmod 16 = 10) (hz0 : rd.length ≤ 900) (ho0 : od.length ≤ 900) : OpR rd od (callF (m + 2) .law_operand [.d (.int n), .loc 0, .loc 1] (St rd od)) := by
  have hb1 : decide (n.fmod 16 < 3) = false := by rw [hs]; rfl
  have hb2 : (n.fmod 16 == 12) = false := by rw [hs]; rfl
  have hb3 : (n.fmod 16 == 13) = false := by rw [hs]; rfl
  have hb4 : (n.fmod 16 == 3) = false := by rw [hs]; rfl
  have hb5 : (n.fmod 16 == 4) = false := by rw [hs]; rfl
  have hb6 : (n.fmod 16 == 5) = false := by rw [hs]; rfl
  have hb7 : (n.fmod 16 == 6) = false := by rw [hs]; rfl
  have hb8 : (n.fmod 16 == 7) = false := by rw [hs]; rfl
  have hb9 : decide (n.fmod 16 < 10) = false := by rw [hs]; rfl
  have hb10 : decide (n.fmod 16 < 12) = true := by rw [hs]; rfl
  have hb11 : (n.fmod 16 == 11) = false := by rw [hs]; rfl
  obtain ⟨x, hx, hx1⟩ := item_str (l := signsL) (z := (n.fdiv 16).fmod 2) (Int.fmod_nonneg_of_pos _ (by decide)) (by have := Int.fmod_lt_of_pos (n.fdiv 16) (b := 2) (by decide); show _ < (3 : Int); lia) (by decide)
  have hi1 := hx1 (St rd od)
  have hxo := strs_ok (l := signsL) (by decide +kernel) hx
  have hs1 : (St (rd) (od))[0]? = some (some (rd)) := rfl
  have hs2 := hs1
  have hz1 : (rd).length ≤ 1000 := by lia
  have e : callF (m + 2) .law_operand [.d (.int n), .loc 0, .loc 1] (St rd od) = .ok (Bo true, St (rd ++ [(Tk.op x).e2]) (od)) := ((st_law_operand _ _ _).trans (run_okm rfl (sN (gK (bK (vK rfl) kK (oMod_k (by decide)))) (sN (gK (bK (vK rfl) kK (oDiv_k (by decide)))) (sN (nI (tOr_f (tK (bK (vK rfl) kK oLt_k)) hb1 (tOr_f (tK (bK (vK rfl) kK oEq_i)) hb2 (tOr_f (tK (bK (vK rfl) kK oEq_i)) hb3 tOr_0))) rfl nK) (sR (nI (tK (bK (vK rfl) kK oEq_i)) hb4 (sR (nI (tK (bK (vK rfl) kK oEq_i)) hb5 (sR (nI (tK (bK (vK rfl) kK oEq_i)) hb6 (sR (nI (tK (bK (vK rfl) kK oEq_i)) hb7 (sR (nI (tK (bK (vK rfl) kK oEq_i)) hb8 (sR (nI (tK (bK (vK rfl) kK oLt_k)) hb9 (sR (tI (tK (bK (vK rfl) kK oLt_k)) hb10 (sN (sApp_k rfl hs1 (uK (eC kK (eC (bK (lK (eC kK (eC kK (eC kK e0C)))) (cIf_f (tK (bK (vK rfl) kK oEq_i)) hb11 (bK (vK rfl) kK (oMod_k (by decide)))) hi1) e0C))) hs2 hz1) (sR (sRet_k kK)))))))))))))))))))) rfl))
  refine ⟨[.op x], 0, true, e.trans ?_, ?_⟩
  · simp only [List.append_assoc, List.append_nil, List.map_cons, List.map_nil, List.cons_append, List.nil_append, List.replicate]
  · refine ⟨fun t ht => ?_, ?_, ?_⟩
    · simp only [List.mem_cons, List.not_mem_nil, or_false] at ht
      rcases ht with rfl
      · show PyData.canLay0 (.str _) = true; simpa [PyData.canLay0] using hxo
    · first | exact Nat.le_of_ble_eq_true rfl | (simp only [wts, wt, List.map_cons, List.map_nil, List.sum_cons, List.sum_nil]; split <;> lia)
    · simp
theorem op_11 (hs : n.fmod 16 = 11) (hz0 : rd.length ≤ 900) (ho0 : od.length ≤ 900) : OpR rd od (callF (m + 2) .law_operand [.d (.int n), .loc 0, .loc 1] (St rd od)) := by
  have hb1 : decide (n.fmod 16 < 3) = false := by rw [hs]; rfl
  have hb2 : (n.fmod 16 == 12) = false := by rw [hs]; rfl
  have hb3 : (n.fmod 16 == 13) = false := by rw [hs]; rfl
  have hb4 : (n.fmod 16 == 3) = false := by rw [hs]; rfl
  have hb5 : (n.fmod 16 == 4) = false := by rw [hs]; rfl
  have hb6 : (n.fmod 16 == 5) = false := by rw [hs]; rfl
  have hb7 : (n.fmod 16 == 6) = false := by rw [hs]; rfl
  have hb8 : (n.fmod 16 == 7) = false := by rw [hs]; rfl
  have hb9 : decide (n.fmod 16 < 10) = false := by rw [hs]; rfl
  have hb10 : decide (n.fmod 16 < 12) = true := by rw [hs]; rfl
  have hb11 : (n.fmod 16 == 11) = true := by rw [hs]; rfl
  have hm : ∀ y : Int, (n.fmod 16 - 10).natAbs ≤ 4 ∨ y.natAbs ≤ 4 := fun y => .inl (by rw [hs]; decide)
  obtain ⟨x, hx, hx1⟩ := item_str (l := signsL) (z := (n.fmod 16 - 10) * 2) (by rw [hs]; decide) (by rw [hs]; decide) (by decide)
  have hi1 := hx1 (St rd od)
  have hxo := strs_ok (l := signsL) (by decide +kernel) hx
  have hs1 : (St (rd) (od))[0]? = some (some (rd)) := rfl
  have hs2 := hs1
  have hz1 : (rd).length ≤ 1000 := by lia
  have e : callF (m + 2) .law_operand [.d (.int n), .loc 0, .loc 1] (St rd od) = .ok (Bo true, St (rd ++ [(Tk.op x).e2]) (od)) := ((st_law_operand _ _ _).trans (run_okm rfl (sN (gK (bK (vK rfl) kK (oMod_k (by decide)))) (sN (gK (bK (vK rfl) kK (oDiv_k (by decide)))) (sN (nI (tOr_f (tK (bK (vK rfl) kK oLt_k)) hb1 (tOr_f (tK (bK (vK rfl) kK oEq_i)) hb2 (tOr_f (tK (bK (vK rfl) kK oEq_i)) hb3 tOr_0))) rfl nK) (sR (nI (tK (bK (vK rfl) kK oEq_i)) hb4 (sR (nI (tK (bK (vK rfl) kK oEq_i)) hb5 (sR (nI (tK (bK (vK rfl) kK oEq_i)) hb6 (sR (nI (tK (bK (vK rfl) kK oEq_i)) hb7 (sR (nI (tK (bK (vK rfl) kK oEq_i)) hb8 (sR (nI (tK (bK (vK rfl) kK oLt_k)) hb9 (sR (tI (tK (bK (vK rfl) kK oLt_k)) hb10 (sN (sApp_k rfl hs1 (uK (eC kK (eC (bK (lK (eC kK (eC kK (eC kK e0C)))) (cIf_t (tK (bK (vK rfl) kK oEq_i)) hb11 (bK (bK (vK rfl) kK oSub_k) kK (oMul_k (hm _)))) hi1) e0C))) hs2 hz1) (sR (sRet_k kK)))))))))))))))))))) rfl))
  refine ⟨[.op x], 0, true, e.trans ?_, ?_⟩
  · simp only [List.append_assoc, List.append_nil, List.map_cons, List.map_nil, List.cons_append, List.nil_append, List.replicate]
  · refine ⟨fun t ht => ?_, ?_, ?_⟩
    · simp only [List.mem_cons, List.not_mem_nil, or_false] at ht
      rcases ht with rfl
      · show PyData.canLay0 (.str _) = true; simpa [PyData.canLay0] using hxo
    · first | exact Nat.le_of_ble_eq_true rfl | (simp only [wts, wt, List.map_cons, List.map_nil, List.sum_cons, List.sum_nil]; split <;> lia)
    · simp
theorem op_14T (hs : n.fmod 16 = 14) (hz0 : rd.length ≤ 900) (ho0 : od.length ≤ 900) (hb12 : ((n.fdiv 16).fmod 3 == 1) = true) : OpR rd od (callF (m + 2) .law_operand [.d (.int n), .loc 0, .loc 1] (St rd od)) := by
  have hb1 : decide (n.fmod 16 < 3) = false := by rw [hs]; rfl
  have hb2 : (n.fmod 16 == 12) = false := by rw [hs]; rfl
  have hb3 : (n.fmod 16 == 13) = false := by rw [hs]; rfl
  have hb4 : (n.fmod 16 == 3) = false := by rw [hs]; rfl
  have hb5 : (n.fmod 16 == 4) = false := by rw [hs]; rfl
  have hb6 : (n.fmod 16 == 5) = false := by rw [hs]; rfl
  have hb7 : (n.fmod 16 == 6) = false := by rw [hs]; rfl
  have hb8 : (n.fmod 16 == 7) = false := by rw [hs]; rfl
  have hb9 : decide (n.fmod 16 < 10) = false := by rw [hs]; rfl
  have hb10 : decide (n.fmod 16 < 12) = false := by rw [hs]; rfl
  have hb11 : (n.fmod 16 == 14) = true := by rw [hs]; rfl
  have hs1 : (St (rd) (od))[0]? = some (some (rd)) := rfl
  have hs2 := hs1
  have hz1 : (rd).length ≤ 1000 := by lia
  have hs3 : (St (rd ++ [(Tk.op (Str.ofString "(")).e2]) (od))[0]? = some (some (rd ++ [(Tk.op (Str.ofString "(")).e2])) := rfl
  have hs4 := hs3
  have hz2 : (rd ++ [(Tk.op (Str.ofString "(")).e2]).length ≤ 1000 := by simp only [List.length_append, List.length_singleton]; lia
  have hs5 : (St (rd ++ [(Tk.op (Str.ofString "(")).e2] ++ [(Tk.op (Str.ofString "-")).e2]) (od))[0]? = some (some (rd ++ [(Tk.op (Str.ofString "(")).e2] ++ [(Tk.op (Str.ofString "-")).e2])) := rfl
  have hs6 := hs5
  have hz3 : (rd ++ [(Tk.op (Str.ofString "(")).e2] ++ [(Tk.op (Str.ofString "-")).e2]).length ≤ 1000 := by simp only [List.length_append, List.length_singleton]; lia
  have hs7 : (St (rd ++ [(Tk.op (Str.ofString "(")).e2] ++ [(Tk.op (Str.ofString "-")).e2] ++ [(Tk.int ((n.fdiv 16).fmod 7)).e2]) (od))[0]? = some (some (rd ++ [(Tk.op (Str.ofString "(")).e2] ++ [(Tk.op (Str.ofString "-")).e2] ++ [(Tk.int ((n.fdiv 16).fmod 7)).e2])) := rfl
  have hs8 := hs7
  have hz4 : (rd ++ [(Tk.op (Str.ofString "(")).e2] ++ [(Tk.op (Str.ofString "-")).e2] ++ [(Tk.int ((n.fdiv 16).fmod 7)).e2]).length ≤ 1000 := by simp only [List.length_append, List.length_singleton]; lia
  have hs9 : (St (rd ++ [(Tk.op (Str.ofString "(")).e2] ++ [(Tk.op (Str.ofString "-")).e2] ++ [(Tk.int ((n.fdiv 16).fmod 7)).e2] ++ [(Tk.op (Str.ofString ",")).e2]) (od))[0]? = some (some (rd ++ [(Tk.op (Str.ofString "(")).e2] ++ [(Tk.op (Str.ofString "-")).e2] ++ [(Tk.int ((n.fdiv 16).fmod 7)).e2] ++ [(Tk.op (Str.ofString ",")).e2])) := rfl
  have hs10 := hs9
  have hz5 : (rd ++ [(Tk.op (Str.ofString "(")).e2] ++ [(Tk.op (Str.ofString "-")).e2] ++ [(Tk.int ((n.fdiv 16).fmod 7)).e2] ++ [(Tk.op (Str.ofString ",")).e2]).length ≤ 1000 := by simp only [List.length_append, List.length_singleton]; lia
  have hs11 : (St (rd ++ [(Tk.op (Str.ofString "(")).e2] ++ [(Tk.op (Str.ofString "-")).e2] ++ [(Tk.int ((n.fdiv 16).fmod 7)).e2] ++ [(Tk.op (Str.ofString ",")).e2] ++ [(Tk.real ((n.fdiv 16).fmod 4) (-1)).e2]) (od))[0]? = some (some (rd ++ [(Tk.op (Str.ofString "(")).e2] ++ [(Tk.op (Str.ofString "-")).e2] ++ [(Tk.int ((n.fdiv 16).fmod 7)).e2] ++ [(Tk.op (Str.ofString ",")).e2] ++ [(Tk.real ((n.fdiv 16).fmod 4) (-1)).e2])) := rfl
  have hs12 := hs11
  have hz6 : (rd ++ [(Tk.op (Str.ofString "(")).e2] ++ [(Tk.op (Str.ofString "-")).e2] ++ [(Tk.int ((n.fdiv 16).fmod 7)).e2] ++ [(Tk.op (Str.ofString ",")).e2] ++ [(Tk.real ((n.fdiv 16).fmod 4) (-1)).e2]).length ≤ 1000 := by simp only [List.length_append, List.length_singleton]; lia
  have e : callF (m + 2) .law_operand [.d (.int n), .loc 0, .loc 1] (St rd od) = .ok (Bo false, St (rd ++ [(Tk.op (Str.ofString "(")).e2] ++ [(Tk.op (Str.ofString "-")).e2] ++ [(Tk.int ((n.fdiv 16).fmod 7)).e2] ++ [(Tk.op (Str.ofString ",")).e2] ++ [(Tk.real ((n.fdiv 16).fmod 4) (-1)).e2] ++ [(Tk.op (Str.ofString ")")).e2]) (od)) := ((st_law_operand _ _ _).trans (run_okm rfl (sN (gK (bK (vK rfl) kK (oMod_k (by decide)))) (sN (gK (bK (vK rfl) kK (oDiv_k (by decide)))) (sN (nI (tOr_f (tK (bK (vK rfl) kK oLt_k)) hb1 (tOr_f (tK (bK (vK rfl) kK oEq_i)) hb2 (tOr_f (tK (bK (vK rfl) kK oEq_i)) hb3 tOr_0))) rfl nK) (sN (nI (tK (bK (vK rfl) kK oEq_i)) hb4 (sN (nI (tK (bK (vK rfl) kK oEq_i)) hb5 (sN (nI (tK (bK (vK rfl) kK oEq_i)) hb6 (sN (nI (tK (bK (vK rfl) kK oEq_i)) hb7 (sN (nI (tK (bK (vK rfl) kK oEq_i)) hb8 (sN (nI (tK (bK (vK rfl) kK oLt_k)) hb9 (sN (nI (tK (bK (vK rfl) kK oLt_k)) hb10 (sN (tI (tK (bK (vK rfl) kK oEq_i)) hb11 (sN (sApp_k rfl hs1 (uK (eC kK (eC kK e0C))) hs2 hz1) (sN (tI (tK (bK (bK (vK rfl) kK (oMod_k (by decide))) kK oEq_i)) hb12 (sN (sApp_k rfl hs3 (uK (eC kK (eC kK e0C))) hs4 hz2) nK)) (sN (sApp_k rfl hs5 (uK (eC kK (eC (bK (vK rfl) kK (oMod_k (by decide))) e0C))) hs6 hz3) (sN (sApp_k rfl hs7 (uK (eC kK (eC kK e0C))) hs8 hz4) (sN (sApp_k rfl hs9 (uK (eC kK (eC (uK (eC (bK (vK rfl) kK (oMod_k (by decide))) (eC cNeg_k e0C))) e0C))) hs10 hz5) (sN (sApp_k rfl hs11 (uK (eC kK (eC kK e0C))) hs12 hz6) nK))))))) nK)) nK)) nK)) nK)) nK)) nK)) nK)) (sR (sRet_k kK)))))) rfl))
  refine ⟨[.op (Str.ofString "("), .op (Str.ofString "-"), .int ((n.fdiv 16).fmod 7), .op (Str.ofString ","), .real ((n.fdiv 16).fmod 4) (-1), .op (Str.ofString ")")], 0, false, e.trans ?_, ?_⟩
  · simp only [List.append_assoc, List.append_nil, List.map_cons, List.map_nil, List.cons_append, List.nil_append, List.replicate]
  · refine ⟨fun t ht => ?_, ?_, ?_⟩
    · simp only [List.mem_cons, List.not_mem_nil, or_false] at ht
      rcases ht with rfl | rfl | rfl | rfl | rfl | rfl
      · show PyData.canLay0 (.str (Str.ofString "(")) = true; decide +kernel
      · show PyData.canLay0 (.str (Str.ofString "-")) = true; decide +kernel
      · show PyData.canLay0 _ = true; rfl
      · show PyData.canLay0 (.str (Str.ofString ",")) = true; decide +kernel
      · show PyData.canLay0 _ = true; rfl
      · show PyData.canLay0 (.str (Str.ofString ")")) = true; decide +kernel
    · first | exact Nat.le_of_ble_eq_true rfl | (simp only [wts, wt, List.map_cons, List.map_nil, List.sum_cons, List.sum_nil]; split <;> lia)
    · simp
theorem op_14F (hs : n.fmod 16 = 14) (hz0 : rd.length ≤ 900) (ho0 : od.length ≤ 900) (hb12 : ((n.fdiv 16).fmod 3 == 1) = false) : OpR rd od (callF (m + 2) .law_operand [.d (.int n), .loc 0, .loc 1] (St rd od)) := by
  have hb1 : decide (n.fmod 16 < 3) = false := by rw [hs]; rfl
  have hb2 : (n.fmod 16 == 12) = false := by rw [hs]; rfl
  have hb3 : (n.fmod 16 == 13) = false := by rw [hs]; rfl
  have hb4 : (n.fmod 16 == 3) = false := by rw [hs]; rfl
  have hb5 : (n.fmod 16 == 4) = false := by rw [hs]; rfl
  have hb6 : (n.fmod 16 == 5) = false := by rw [hs]; rfl
  have hb7 : (n.fmod 16 == 6) = false := by rw [hs]; rfl
  have hb8 : (n.fmod 16 == 7) = false := by rw [hs]; rfl
  have hb9 : decide (n.fmod 16 < 10) = false := by rw [hs]; rfl
  have hb10 : decide (n.fmod 16 < 12) = false := by rw [hs]; rfl
  have hb11 : (n.fmod 16 == 14) = true := by rw [hs]; rfl
  have hs1 : (St (rd) (od))[0]? = some (some (rd)) := rfl
  have hs2 := hs1
  have hz1 : (rd).length ≤ 1000 := by lia
  have hs3 : (St (rd ++ [(Tk.op (Str.ofString "(")).e2]) (od))[0]? = some (some (rd ++ [(Tk.op (Str.ofString "(")).e2])) := rfl
  have hs4 := hs3
  have hz2 : (rd ++ [(Tk.op (Str.ofString "(")).e2]).length ≤ 1000 := by simp only [List.length_append, List.length_singleton]; lia
  have hs5 : (St (rd ++ [(Tk.op (Str.ofString "(")).e2] ++ [(Tk.int ((n.fdiv 16).fmod 7)).e2]) (od))[0]? = some (some (rd ++ [(Tk.op (Str.ofString "(")).e2] ++ [(Tk.int ((n.fdiv 16).fmod 7)).e2])) := rfl
  have hs6 := hs5
  have hz3 : (rd ++ [(Tk.op (Str.ofString "(")).e2] ++ [(Tk.int ((n.fdiv 16).fmod 7)).e2]).length ≤ 1000 := by simp only [List.length_append, List.length_singleton]; lia
  have hs7 : (St (rd ++ [(Tk.op (Str.ofString "(")).e2] ++ [(Tk.int ((n.fdiv 16).fmod 7)).e2] ++ [(Tk.op (Str.ofString ",")).e2]) (od))[0]? = some (some (rd ++ [(Tk.op (Str.ofString "(")).e2] ++ [(Tk.int ((n.fdiv 16).fmod 7)).e2] ++ [(Tk.op (Str.ofString ",")).e2])) := rfl
  have hs8 := hs7
  have hz4 : (rd ++ [(Tk.op (Str.ofString "(")).e2] ++ [(Tk.int ((n.fdiv 16).fmod 7)).e2] ++ [(Tk.op (Str.ofString ",")).e2]).length ≤ 1000 := by simp only [List.length_append, List.length_singleton]; lia
  have hs9 : (St (rd ++ [(Tk.op (Str.ofString "(")).e2] ++ [(Tk.int ((n.fdiv 16).fmod 7)).e2] ++ [(Tk.op (Str.ofString ",")).e2] ++ [(Tk.real ((n.fdiv 16).fmod 4) (-1)).e2]) (od))[0]? = some (some (rd ++ [(Tk.op (Str.ofString "(")).e2] ++ [(Tk.int ((n.fdiv 16).fmod 7)).e2] ++ [(Tk.op (Str.ofString ",")).e2] ++ [(Tk.real ((n.fdiv 16).fmod 4) (-1)).e2])) := rfl
  have hs10 := hs9
  have hz5 : (rd ++ [(Tk.op (Str.ofString "(")).e2] ++ [(Tk.int ((n.fdiv 16).fmod 7)).e2] ++ [(Tk.op (Str.ofString ",")).e2] ++ [(Tk.real ((n.fdiv 16).fmod 4) (-1)).e2]).length ≤ 1000 := by simp only [List.length_append, List.length_singleton]; lia
  have e : callF (m + 2) .law_operand [.d (.int n), .loc 0, .loc 1] (St rd od) = .ok (Bo false, St (rd ++ [(Tk.op (Str.ofString "(")).e2] ++ [(Tk.int ((n.fdiv 16).fmod 7)).e2] ++ [(Tk.op (Str.ofString ",")).e2] ++ [(Tk.real ((n.fdiv 16).fmod 4) (-1)).e2] ++ [(Tk.op (Str.ofString ")")).e2]) (od)) := ((st_law_operand _ _ _).trans (run_okm rfl (sN (gK (bK (vK rfl) kK (oMod_k (by decide)))) (sN (gK (bK (vK rfl) kK (oDiv_k (by decide)))) (sN (nI (tOr_f (tK (bK (vK rfl) kK oLt_k)) hb1 (tOr_f (tK (bK (vK rfl) kK oEq_i)) hb2 (tOr_f (tK (bK (vK rfl) kK oEq_i)) hb3 tOr_0))) rfl nK) (sN (nI (tK (bK (vK rfl) kK oEq_i)) hb4 (sN (nI (tK (bK (vK rfl) kK oEq_i)) hb5 (sN (nI (tK (bK (vK rfl) kK oEq_i)) hb6 (sN (nI (tK (bK (vK rfl) kK oEq_i)) hb7 (sN (nI (tK (bK (vK rfl) kK oEq_i)) hb8 (sN (nI (tK (bK (vK rfl) kK oLt_k)) hb9 (sN (nI (tK (bK (vK rfl) kK oLt_k)) hb10 (sN (tI (tK (bK (vK rfl) kK oEq_i)) hb11 (sN (sApp_k rfl hs1 (uK (eC kK (eC kK e0C))) hs2 hz1) (sN (nI (tK (bK (bK (vK rfl) kK (oMod_k (by decide))) kK oEq_i)) hb12 nK) (sN (sApp_k rfl hs3 (uK (eC kK (eC (bK (vK rfl) kK (oMod_k (by decide))) e0C))) hs4 hz2) (sN (sApp_k rfl hs5 (uK (eC kK (eC kK e0C))) hs6 hz3) (sN (sApp_k rfl hs7 (uK (eC kK (eC (uK (eC (bK (vK rfl) kK (oMod_k (by decide))) (eC cNeg_k e0C))) e0C))) hs8 hz4) (sN (sApp_k rfl hs9 (uK (eC kK (eC kK e0C))) hs10 hz5) nK))))))) nK)) nK)) nK)) nK)) nK)) nK)) nK)) (sR (sRet_k kK)))))) rfl))
  refine ⟨[.op (Str.ofString "("), .int ((n.fdiv 16).fmod 7), .op (Str.ofString ","), .real ((n.fdiv 16).fmod 4) (-1), .op (Str.ofString ")")], 0, false, e.trans ?_, ?_⟩
  · simp only [List.append_assoc, List.append_nil, List.map_cons, List.map_nil, List.cons_append, List.nil_append, List.replicate]
  · refine ⟨fun t ht => ?_, ?_, ?_⟩
    · simp only [List.mem_cons, List.not_mem_nil, or_false] at ht
      rcases ht with rfl | rfl | rfl | rfl | rfl
      · show PyData.canLay0 (.str (Str.ofString "(")) = true; decide +kernel
      · show PyData.canLay0 _ = true; rfl
      · show PyData.canLay0 (.str (Str.ofString ",")) = true; decide +kernel
      · show PyData.canLay0 _ = true; rfl
      · show PyData.canLay0 (.str (Str.ofString ")")) = true; decide +kernel
    · first | exact Nat.le_of_ble_eq_true rfl | (simp only [wts, wt, List.map_cons, List.map_nil, List.sum_cons, List.sum_nil]; split <;> lia)
    · simp
theorem op_15 (hs : n.fmod 16 = 15) (hz0 : rd.length ≤ 900) (ho0 : od.length ≤ 900) : OpR rd od (callF (m + 2) .law_operand [.d (.int n), .loc 0, .loc 1] (St rd od)) := by
  have hb1 : decide (n.fmod 16 < 3) = false := by rw [hs]; rfl
  have hb2 : (n.fmod 16 == 12) = false := by rw [hs]; rfl
  have hb3 : (n.fmod 16 == 13) = false := by rw [hs]; rfl
  have hb4 : (n.fmod 16 == 3) = false := by rw [hs]; rfl
  have hb5 : (n.fmod 16 == 4) = false := by rw [hs]; rfl
  have hb6 : (n.fmod 16 == 5) = false := by rw [hs]; rfl
  have hb7 : (n.fmod 16 == 6) = false := by rw [hs]; rfl
  have hb8 : (n.fmod 16 == 7) = false := by rw [hs]; rfl
  have hb9 : decide (n.fmod 16 < 10) = false := by rw [hs]; rfl
  have hb10 : decide (n.fmod 16 < 12) = false := by rw [hs]; rfl
  have hb11 : (n.fmod 16 == 14) = false := by rw [hs]; rfl
  have hc1 := ev_marks (m := m) (σ := St rd od)
  obtain ⟨x, hx, hx1⟩ := item_str (l := marksL) (z := (n.fdiv 16).fmod 8) (Int.fmod_nonneg_of_pos _ (by decide)) (Int.fmod_lt_of_pos _ (by decide)) (by decide)
  have hi1 := hx1 (St rd od)
  have hxo := strs_ok (l := marksL) (by decide +kernel) hx
  have hs1 : (St (rd) (od))[0]? = some (some (rd)) := rfl
  have hs2 := hs1
  have hz1 : (rd).length ≤ 1000 := by lia
  have e : callF (m + 2) .law_operand [.d (.int n), .loc 0, .loc 1] (St rd od) = .ok (Bo true, St (rd ++ [(Tk.op x).e2]) (od)) := ((st_law_operand _ _ _).trans (run_okm rfl (sN (gK (bK (vK rfl) kK (oMod_k (by decide)))) (sN (gK (bK (vK rfl) kK (oDiv_k (by decide)))) (sN (nI (tOr_f (tK (bK (vK rfl) kK oLt_k)) hb1 (tOr_f (tK (bK (vK rfl) kK oEq_i)) hb2 (tOr_f (tK (bK (vK rfl) kK oEq_i)) hb3 tOr_0))) rfl nK) (sR (nI (tK (bK (vK rfl) kK oEq_i)) hb4 (sR (nI (tK (bK (vK rfl) kK oEq_i)) hb5 (sR (nI (tK (bK (vK rfl) kK oEq_i)) hb6 (sR (nI (tK (bK (vK rfl) kK oEq_i)) hb7 (sR (nI (tK (bK (vK rfl) kK oEq_i)) hb8 (sR (nI (tK (bK (vK rfl) kK oLt_k)) hb9 (sR (nI (tK (bK (vK rfl) kK oLt_k)) hb10 (sR (nI (tK (bK (vK rfl) kK oEq_i)) hb11 (sN (sApp_k rfl hs1 (uK (eC kK (eC (bK (fK a0C hc1) (bK (vK rfl) kK (oMod_k (by decide))) hi1) e0C))) hs2 hz1) (sR (sRet_k kK)))))))))))))))))))))) rfl))
  refine ⟨[.op x], 0, true, e.trans ?_, ?_⟩
  · simp only [List.append_assoc, List.append_nil, List.map_cons, List.map_nil, List.cons_append, List.nil_append, List.replicate]
  · refine ⟨fun t ht => ?_, ?_, ?_⟩
    · simp only [List.mem_cons, List.not_mem_nil, or_false] at ht
      rcases ht with rfl
      · show PyData.canLay0 (.str _) = true; simpa [PyData.canLay0] using hxo
    · first | exact Nat.le_of_ble_eq_true rfl | (simp only [wts, wt, List.map_cons, List.map_nil, List.sum_cons, List.sum_nil]; split <;> lia)
    · simp
end
noncomputable def ones (o : Nat) : List PyData := List.replicate o (.int 1)
theorem ones_lay : ∀ o, PyData.canLayAll0 (ones o) = true
  | 0 => rfl
  | o + 1 => by
    show (PyData.canLay0 (.int 1) && PyData.canLayAll0 (ones o)) = true
    rw [ones_lay o]; rfl
theorem ones_eqv (o : Nat) : PyData.eqv (.list (ones o)) (.list []) = decide (o = 0) := by
  cases o with
  | zero => rfl
  | succ o => rfl
noncomputable def OpB (o : Nat) (rd : List PyData) (R : Res (AV × Sto)) : Prop := ∃ (add : List Tk) (o' : Nat) (b : Bool), R = .ok (Bo b, St (rd ++ add.map Tk.e2) (ones o')) ∧ (∀ t ∈ add, TokOk t) ∧ wts add + 2 * o' ≤ 16 + 2 * o ∧ add.length + o' ≤ 6 + o
section
variable {m : Nat} {n : Int} {rd : List PyData} {o : Nat}
theorem ne_nil {σ : Sto} (hs : σ[1]? = some (some (ones o))) : oNe (.loc 1) (.d (.list [])) σ = .ok (Bo (!decide (o = 0)), σ) := by
  have e1 : datOf (.loc 1) σ = some (.list (ones o)) := by unfold datOf; dsimp only; rw [hs]
  have e2 : eqD (.list (ones o)) (.list []) = some (decide (o = 0)) := by
    show (if PyData.canLay0 (.list (ones o)) = true ∧ PyData.canLay0 (.list []) = true ∧ min (PyData.depth (.list (ones o))) (PyData.depth (.list [])) ≤ 4000 then some (PyData.eqv (.list (ones o)) (.list [])) else none) = _
    rw [if_pos ⟨by simp only [PyData.canLay0]; exact ones_lay o, rfl, Nat.le_trans (Nat.min_le_right _ _) (by simp [PyData.depth, PyData.depthAll])⟩, ones_eqv]
  unfold oNe
  rw [e1]
  show (match eqD (.list (ones o)) (.list []) with | some q => Res.ok (AV.d (.bool (!q)), σ) | none => Res.bad) = _
  rw [e2]
theorem opB_of {R : Res (AV × Sto)} (h : OpR rd (ones o) R) : OpB o rd R := by
  obtain ⟨add, k, b, e, g⟩ := h
  refine ⟨add, o + k, b, ?_, g.ok, by have := g.w; lia, by have := g.l; lia⟩
  rw [e]
  unfold ones
  rw [List.replicate_append_replicate]
theorem op_all (hz0 : rd.length ≤ 900) (ho0 : o ≤ 900) : OpB o rd (callF (m + 2) .law_operand [.d (.int n), .loc 0, .loc 1] (St rd (ones o))) := by
  have h0 : 0 ≤ n.fmod 16 := Int.fmod_nonneg_of_pos _ (by decide)
  have h1 : n.fmod 16 < 16 := Int.fmod_lt_of_pos _ (by decide)
  have hl : (ones o).length ≤ 900 := by unfold ones; rw [List.length_replicate]; exact ho0
  refine opB_of ?_
  rcases (by lia : n.fmod 16 = 0 ∨ n.fmod 16 = 1 ∨ n.fmod 16 = 2 ∨ n.fmod 16 = 3 ∨ n.fmod 16 = 4 ∨ n.fmod 16 = 5 ∨ n.fmod 16 = 6 ∨ n.fmod 16 = 7 ∨ n.fmod 16 = 8 ∨ n.fmod 16 = 9 ∨ n.fmod 16 = 10 ∨ n.fmod 16 = 11 ∨ n.fmod 16 = 12 ∨ n.fmod 16 = 13 ∨ n.fmod 16 = 14 ∨ n.fmod 16 = 15) with hs | hs | hs | hs | hs | hs | hs | hs | hs | hs | hs | hs | hs | hs | hs | hs
  · exact op_0 hs hz0 hl
  · exact op_1 hs hz0 hl
  · exact op_2 hs hz0 hl
  · exact op_3 hs hz0 hl
  · exact op_4 hs hz0 hl
  · exact op_5 hs hz0 hl
  · exact op_6 hs hz0 hl
  · exact op_7 hs hz0 hl
  · exact op_8 hs hz0 hl
  · exact op_9 hs hz0 hl
  · exact op_10 hs hz0 hl
  · exact op_11 hs hz0 hl
  · cases hb : ((n.fdiv 16).fmod 5 == 4) with
    | true => exact op_12T hs hz0 hl hb
    | false => exact op_12F hs hz0 hl hb
  · cases hb : ((n.fdiv 16).fmod 5 == 4) with
    | true => exact op_13T hs hz0 hl hb
    | false => exact op_13F hs hz0 hl hb
  · cases hb : ((n.fdiv 16).fmod 3 == 1) with
    | true => exact op_14T hs hz0 hl hb
    | false => exact op_14F hs hz0 hl hb
  · exact op_15 hs hz0 hl
theorem tok_op_lit {s : Str} (h : PyData.strOk s = true) : TokOk (.op s) := by
  show PyData.canLay0 (.str s) = true
  simpa [PyData.canLay0] using h
theorem tok_name_lit {s : Str} (h : PyData.strOk s = true) : TokOk (.name s) := by
  show PyData.canLay0 (.str s) = true
  simpa [PyData.canLay0] using h
theorem wts_op (s : Str) : wts [.op s] ≤ 6 := by
  simp only [wts, wt, List.map_cons, List.map_nil, List.sum_cons, List.sum_nil]
  split <;> lia
theorem be_all (hz0 : rd.length ≤ 900) (ho0 : o ≤ 900) : OpB o rd (callF (m + 2) .law_behind [.d (.int n), .loc 0, .loc 1] (St rd (ones o))) := by
  have h0 : 0 ≤ n.fmod 12 := Int.fmod_nonneg_of_pos _ (by decide)
  have h1 : n.fmod 12 < 12 := Int.fmod_lt_of_pos _ (by decide)
  have hz1 : rd.length ≤ 1000 := by lia
  have hs1 : (St rd (ones o))[0]? = some (some rd) := rfl
  have hs2 := hs1
  have hne := ne_nil (σ := St rd (ones o)) (o := o) rfl
  obtain ⟨x, hx, hx1⟩ := item_str (l := opsL) (z := (n.fdiv 12).fmod 16) (Int.fmod_nonneg_of_pos _ (by decide)) (Int.fmod_lt_of_pos _ (by decide)) (by decide)
  have hxo := strs_ok (l := opsL) (by decide +kernel) hx
  have opr : ∀ {R : Res (AV × Sto)}, R = .ok (Bo true, St (rd ++ [(Tk.op x).e2]) (ones o)) → OpB o rd R := fun e =>
    ⟨[.op x], o, true, e, by intro t ht; rw [List.mem_singleton.mp ht]; exact tok_op_lit hxo, by have := wts_op x; lia, by first | (simp only [List.length_singleton, List.length_cons, List.length_nil]; lia) | (simp; done)⟩
  by_cases c6 : 6 < n.fmod 12
  · by_cases c9 : n.fmod 12 < 9
    · have hb1 : decide ((6 : Int) < n.fmod 12) = true := decide_eq_true c6
      have hb2 : decide (n.fmod 12 < (9 : Int)) = true := decide_eq_true c9
      have ho1 := hne
      cases o with
      | zero =>
        have hb3 : (!decide ((0 : Nat) = 0)) = false := rfl
        have hb4 : decide ((8 : Int) < n.fmod 12) = false := decide_eq_false (by lia)
        have hb5 : (n.fmod 12 == 11) = false := beq_false_of_ne (by lia)
        have hc1 := ev_ops (m := m) (σ := St rd (ones 0))
        have hi1 := hx1 (St rd (ones 0))
        exact opr ((st_law_behind _ _ _).trans (run_okm rfl (sN (gK (bK (vK rfl) kK (oMod_k (by decide)))) (sN (gK (bK (vK rfl) kK (oDiv_k (by decide)))) (sN (nI (tAnd_t (tK (bK (vK rfl) kK oGt_k)) hb1 (tAnd_t (tK (bK (vK rfl) kK oLt_k)) hb2 (tAnd_f (tK (bK (vK rfl) (lK e0C) ho1)) hb3))) rfl nK) (sN (nI (tAnd_f (tK (bK (vK rfl) kK oGt_k)) hb4) rfl nK) (sN (nI (tAnd_f (tK (bK (vK rfl) kK oEq_i)) hb5) rfl nK) (sN (sApp_k rfl hs1 (uK (eC kK (eC (bK (fK a0C hc1) (bK (vK rfl) kK (oMod_k (by decide))) hi1) e0C))) hs2 hz1) (sR (sRet_k kK)))))))) rfl))
      | succ o =>
        have hb3 : (!decide (o + 1 = 0)) = true := rfl
        have hs3 : (St (rd ++ [(Tk.op (Str.ofString ")")).e2]) (ones (o + 1)))[1]? = some (some (ones (o + 1))) := rfl
        have hs4 : (ones (o + 1)).getLast? = some (.int 1) := by unfold ones; rw [List.getLast?_replicate]; rfl
        have hz2 : (ones (o + 1)).length ≤ 1000 := by unfold ones; rw [List.length_replicate]; lia
        have hdl : (ones (o + 1)).dropLast = ones o := by unfold ones; simp
        have t1 : TokOk (.op (Str.ofString ")")) := tok_op_lit (by decide +kernel)
        have t2 : TokOk (.op (Str.ofString "(")) := tok_op_lit (by decide +kernel)
        cases hb4 : ((n.fdiv 12).fmod 4 == 3) with
        | false =>
          have e := (st_law_behind (m + 1) [.d (.int n), .loc 0, .loc 1] (St rd (ones (o + 1)))).trans (run_okm (d := .bool false) (σ' := St (rd ++ [(Tk.op (Str.ofString ")")).e2]) ((ones (o + 1)).dropLast)) rfl (sN (gK (bK (vK rfl) kK (oMod_k (by decide)))) (sN (gK (bK (vK rfl) kK (oDiv_k (by decide)))) (sR (tI (tAnd_t (tK (bK (vK rfl) kK oGt_k)) hb1 (tAnd_t (tK (bK (vK rfl) kK oLt_k)) hb2 (tAnd_t (tK (bK (vK rfl) (lK e0C) ho1)) hb3 tAnd_0))) rfl (sN (sApp_k rfl hs1 (uK (eC kK (eC kK e0C))) hs2 hz1) (sN (sPop_k rfl hs3 hs4 hz2) (sN (nI (tK (bK (bK (vK rfl) kK (oMod_k (by decide))) kK oEq_i)) hb4 nK) (sR (sRet_k kK))))))))) rfl)
          rw [hdl] at e
          exact ⟨[.op (Str.ofString ")")], o, false, e, by intro t ht; rw [List.mem_singleton.mp ht]; exact t1, by have := wts_op (Str.ofString ")"); lia, by first | (simp only [List.length_singleton, List.length_cons, List.length_nil]; lia) | (simp; done)⟩
        | true =>
          have hs5 : (St (rd ++ [(Tk.op (Str.ofString ")")).e2]) ((ones (o + 1)).dropLast))[0]? = some (some (rd ++ [(Tk.op (Str.ofString ")")).e2])) := rfl
          have hs6 := hs5
          have hz3 : (rd ++ [(Tk.op (Str.ofString ")")).e2]).length ≤ 1000 := by rw [List.length_append, List.length_singleton]; lia
          have hs7 : (St (rd ++ [(Tk.op (Str.ofString ")")).e2] ++ [(Tk.op (Str.ofString "(")).e2]) ((ones (o + 1)).dropLast))[1]? = some (some ((ones (o + 1)).dropLast)) := rfl
          have hs8 := hs7
          have hz4 : ((ones (o + 1)).dropLast).length ≤ 1000 := by rw [hdl]; unfold ones; rw [List.length_replicate]; lia
          have e := (st_law_behind (m + 1) [.d (.int n), .loc 0, .loc 1] (St rd (ones (o + 1)))).trans (run_okm (d := .bool true) (σ' := St (rd ++ [(Tk.op (Str.ofString ")")).e2] ++ [(Tk.op (Str.ofString "(")).e2]) ((ones (o + 1)).dropLast ++ [.int 1])) rfl (sN (gK (bK (vK rfl) kK (oMod_k (by decide)))) (sN (gK (bK (vK rfl) kK (oDiv_k (by decide)))) (sR (tI (tAnd_t (tK (bK (vK rfl) kK oGt_k)) hb1 (tAnd_t (tK (bK (vK rfl) kK oLt_k)) hb2 (tAnd_t (tK (bK (vK rfl) (lK e0C) ho1)) hb3 tAnd_0))) rfl (sN (sApp_k rfl hs1 (uK (eC kK (eC kK e0C))) hs2 hz1) (sN (sPop_k rfl hs3 hs4 hz2) (sR (tI (tK (bK (bK (vK rfl) kK (oMod_k (by decide))) kK oEq_i)) hb4 (sN (sApp_k rfl hs5 (uK (eC kK (eC kK e0C))) hs6 hz3) (sN (sApp_k rfl hs7 kK hs8 hz4) (sR (sRet_k kK)))))))))))) rfl)
          rw [hdl, List.append_assoc, show ones o ++ [PyData.int 1] = ones (o + 1) from by unfold ones; rw [List.replicate_succ'] ] at e
          refine ⟨[.op (Str.ofString ")"), .op (Str.ofString "(")], o + 1, true, e, ?_, ?_, by first | (simp only [List.length_singleton, List.length_cons, List.length_nil]; lia) | (simp; done)⟩
          · intro t ht
            simp only [List.mem_cons, List.not_mem_nil, or_false] at ht
            rcases ht with rfl | rfl
            · exact t1
            · exact t2
          · have : wts [.op (Str.ofString ")"), .op (Str.ofString "(")] ≤ 16 := Nat.le_of_ble_eq_true rfl
            lia
    · have hb1 : decide ((6 : Int) < n.fmod 12) = true := decide_eq_true c6
      have hb2 : decide (n.fmod 12 < (9 : Int)) = false := decide_eq_false c9
      have hb3 : decide ((8 : Int) < n.fmod 12) = true := decide_eq_true (by lia)
      by_cases c11 : n.fmod 12 < 11
      · have hb4 : decide (n.fmod 12 < (11 : Int)) = true := decide_eq_true c11
        have ho1 := hne
        cases o with
        | zero =>
          have hb5 : (!decide ((0 : Nat) = 0)) = false := rfl
          have hb6 : (n.fmod 12 == 11) = false := beq_false_of_ne (by lia)
          have hc1 := ev_ops (m := m) (σ := St rd (ones 0))
          have hi1 := hx1 (St rd (ones 0))
          exact opr ((st_law_behind _ _ _).trans (run_okm rfl (sN (gK (bK (vK rfl) kK (oMod_k (by decide)))) (sN (gK (bK (vK rfl) kK (oDiv_k (by decide)))) (sN (nI (tAnd_t (tK (bK (vK rfl) kK oGt_k)) hb1 (tAnd_f (tK (bK (vK rfl) kK oLt_k)) hb2)) rfl nK) (sN (nI (tAnd_t (tK (bK (vK rfl) kK oGt_k)) hb3 (tAnd_t (tK (bK (vK rfl) kK oLt_k)) hb4 (tAnd_f (tK (bK (vK rfl) (lK e0C) ho1)) hb5))) rfl nK) (sN (nI (tAnd_f (tK (bK (vK rfl) kK oEq_i)) hb6) rfl nK) (sN (sApp_k rfl hs1 (uK (eC kK (eC (bK (fK a0C hc1) (bK (vK rfl) kK (oMod_k (by decide))) hi1) e0C))) hs2 hz1) (sR (sRet_k kK)))))))) rfl))
        | succ o =>
          have hb5 : (!decide (o + 1 = 0)) = true := rfl
          obtain ⟨y, hy, hy1⟩ := item_str (l := sepsL) (z := n.fmod 12 - 9) (by lia) (by show _ < (2 : Int); lia) (by decide)
          have hi1 := hy1 (St rd (ones (o + 1)))
          have hyo := strs_ok (l := sepsL) (by decide +kernel) hy
          have e := (st_law_behind (m + 1) [.d (.int n), .loc 0, .loc 1] (St rd (ones (o + 1)))).trans (run_okm (d := .bool (!((n.fdiv 12).fmod 3 == 2))) (σ' := St (rd ++ [(Tk.op y).e2]) (ones (o + 1))) rfl (sN (gK (bK (vK rfl) kK (oMod_k (by decide)))) (sN (gK (bK (vK rfl) kK (oDiv_k (by decide)))) (sN (nI (tAnd_t (tK (bK (vK rfl) kK oGt_k)) hb1 (tAnd_f (tK (bK (vK rfl) kK oLt_k)) hb2)) rfl nK) (sR (tI (tAnd_t (tK (bK (vK rfl) kK oGt_k)) hb3 (tAnd_t (tK (bK (vK rfl) kK oLt_k)) hb4 (tAnd_t (tK (bK (vK rfl) (lK e0C) ho1)) hb5 tAnd_0))) rfl (sN (sApp_k rfl hs1 (uK (eC kK (eC (bK (lK (eC kK (eC kK e0C))) (bK (vK rfl) kK oSub_k) hi1) e0C))) hs2 hz1) (sR (sRet_k (bK (bK (vK rfl) kK (oMod_k (by decide))) kK oNe_i))))))))) rfl)
          exact ⟨[.op y], o + 1, _, e, by intro t ht; rw [List.mem_singleton.mp ht]; exact tok_op_lit hyo, by have := wts_op y; lia, by first | (simp only [List.length_singleton, List.length_cons, List.length_nil]; lia) | (simp; done)⟩
      · have hb4 : decide (n.fmod 12 < (11 : Int)) = false := decide_eq_false c11
        have hb5 : (n.fmod 12 == 11) = true := beq_iff_eq.mpr (by lia)
        cases hb6 : ((n.fdiv 12).fmod 2 == 1) with
        | true =>
          have e := (st_law_behind (m + 1) [.d (.int n), .loc 0, .loc 1] (St rd (ones o))).trans (run_okm (d := .bool false) (σ' := St (rd ++ [(Tk.name (Str.ofString "B1")).e2]) (ones o)) rfl (sN (gK (bK (vK rfl) kK (oMod_k (by decide)))) (sN (gK (bK (vK rfl) kK (oDiv_k (by decide)))) (sN (nI (tAnd_t (tK (bK (vK rfl) kK oGt_k)) hb1 (tAnd_f (tK (bK (vK rfl) kK oLt_k)) hb2)) rfl nK) (sN (nI (tAnd_t (tK (bK (vK rfl) kK oGt_k)) hb3 (tAnd_f (tK (bK (vK rfl) kK oLt_k)) hb4)) rfl nK) (sR (tI (tAnd_t (tK (bK (vK rfl) kK oEq_i)) hb5 (tAnd_t (tK (bK (bK (vK rfl) kK (oMod_k (by decide))) kK oEq_i)) hb6 tAnd_0)) rfl (sN (sApp_k rfl hs1 (uK (eC kK (eC kK e0C))) hs2 hz1) (sR (sRet_k kK))))))))) rfl)
          exact ⟨[.name (Str.ofString "B1")], o, false, e, by intro t ht; rw [List.mem_singleton.mp ht]; exact tok_name_lit (by decide +kernel), by have : wts [.name (Str.ofString "B1")] = 2 := rfl; lia, by first | (simp only [List.length_singleton, List.length_cons, List.length_nil]; lia) | (simp; done)⟩
        | false =>
          have hc1 := ev_ops (m := m) (σ := St rd (ones o))
          have hi1 := hx1 (St rd (ones o))
          exact opr ((st_law_behind _ _ _).trans (run_okm rfl (sN (gK (bK (vK rfl) kK (oMod_k (by decide)))) (sN (gK (bK (vK rfl) kK (oDiv_k (by decide)))) (sN (nI (tAnd_t (tK (bK (vK rfl) kK oGt_k)) hb1 (tAnd_f (tK (bK (vK rfl) kK oLt_k)) hb2)) rfl nK) (sN (nI (tAnd_t (tK (bK (vK rfl) kK oGt_k)) hb3 (tAnd_f (tK (bK (vK rfl) kK oLt_k)) hb4)) rfl nK) (sN (nI (tAnd_t (tK (bK (vK rfl) kK oEq_i)) hb5 (tAnd_f (tK (bK (bK (vK rfl) kK (oMod_k (by decide))) kK oEq_i)) hb6)) rfl nK) (sN (sApp_k rfl hs1 (uK (eC kK (eC (bK (fK a0C hc1) (bK (vK rfl) kK (oMod_k (by decide))) hi1) e0C))) hs2 hz1) (sR (sRet_k kK)))))))) rfl))
  · have hb1 : decide ((6 : Int) < n.fmod 12) = false := decide_eq_false c6
    have hb2 : decide ((8 : Int) < n.fmod 12) = false := decide_eq_false (by lia)
    have hb3 : (n.fmod 12 == 11) = false := beq_false_of_ne (by lia)
    have hc1 := ev_ops (m := m) (σ := St rd (ones o))
    have hi1 := hx1 (St rd (ones o))
    exact opr ((st_law_behind _ _ _).trans (run_okm rfl (sN (gK (bK (vK rfl) kK (oMod_k (by decide)))) (sN (gK (bK (vK rfl) kK (oDiv_k (by decide)))) (sN (nI (tAnd_f (tK (bK (vK rfl) kK oGt_k)) hb1) rfl nK) (sN (nI (tAnd_f (tK (bK (vK rfl) kK oGt_k)) hb2) rfl nK) (sN (nI (tAnd_f (tK (bK (vK rfl) kK oEq_i)) hb3) rfl nK) (sN (sApp_k rfl hs1 (uK (eC kK (eC (bK (fK a0C hc1) (bK (vK rfl) kK (oMod_k (by decide))) hi1) e0C))) hs2 hz1) (sR (sRet_k kK)))))))) rfl))
end
noncomputable def rowB : SC := sCons (sIf (tE (cV 3)) (sCons (sAsg 3 (cCall .law_operand [cV 4, cV 1, cV 2])) (sNil)) (sCons (sAsg 3 (cCall .law_behind [cV 4, cV 1, cV 2])) (sNil))) (sNil)
noncomputable def rowC : SC := sCons (sApp 1 (cTup [cK (.str (Str.ofString "OP")), cK (.str (Str.ofString ")"))])) (sNil)
section
variable {m : Nat}
theorem wts_app (a b : List Tk) : wts (a ++ b) = wts a + wts b := by unfold wts; rw [List.map_append, List.sum_append]
noncomputable def RowSt (N : AV) (rs : Rho) (i : Nat) (R : Res (Fl × Rho × Sto)) : Prop := ∃ (r : List Tk) (o : Nat) (b : Bool) (y4 y5 : Option AV), R = .ok (.next, some N :: some (.loc 0) :: some (.loc 1) :: some (Bo b) :: y4 :: y5 :: rs, St (r.map Tk.e2) (ones o)) ∧
  (∀ t ∈ r, TokOk t) ∧ wts r + 2 * o ≤ 16 * i ∧ r.length + o ≤ 6 * i
theorem row_loop {N : AV} {rs : Rho} : ∀ (xs : List Int) (i : Nat) (r : List Tk) (o : Nat) (b : Bool) (y4 y5 : Option AV), (∀ t ∈ r, TokOk t) → wts r + 2 * o ≤ 16 * i → r.length + o ≤ 6 * i → i + xs.length ≤ 24 →
    RowSt N rs (i + xs.length) (forL (tgt1 4) rowB (xs.map PyData.int) (callF (m + 2)) (some N :: some (.loc 0) :: some (.loc 1) :: some (Bo b) :: y4 :: y5 :: rs) (St (r.map Tk.e2) (ones o)))
  | [], i, r, o, b, y4, y5, h1, h2, h3, hi => ⟨r, o, b, y4, y5, rfl, h1, h2, h3⟩
  | x :: xs, i, r, o, b, y4, y5, h1, h2, h3, hi => by
    rw [List.length_cons] at hi
    have hl : (r.map Tk.e2).length ≤ 900 := by rw [List.length_map]; lia
    have fin : ∀ {j} {R1 R2 : Res (Fl × Rho × Sto)}, R1 = R2 → RowSt N rs j R2 → RowSt N rs j R1 := fun e h => e ▸ h
    have step : ∀ {add : List Tk} {o' : Nat} {b' : Bool}, (∀ t ∈ add, TokOk t) → wts add + 2 * o' ≤ 16 + 2 * o → add.length + o' ≤ 6 + o →
        RowSt N rs (i + (x :: xs).length) (forL (tgt1 4) rowB (xs.map PyData.int) (callF (m + 2)) (some N :: some (.loc 0) :: some (.loc 1) :: some (Bo b') :: some (.d (.int x)) :: y5 :: rs) (St (r.map Tk.e2 ++ add.map Tk.e2) (ones o'))) := by
      intro add o' b' q1 q2 q3
      rw [← List.map_append, List.length_cons, show i + (xs.length + 1) = i + 1 + xs.length from by lia]
      exact row_loop xs (i + 1) (r ++ add) o' b' _ y5 (fun t ht => (List.mem_append.mp ht).elim (h1 t) (q1 t)) (by rw [wts_app]; lia) (by rw [List.length_append]; lia) (by lia)
    cases b with
    | true =>
      obtain ⟨add, o', b', hc1, q1, q2, q3⟩ := op_all (m := m) (n := x) (rd := r.map Tk.e2) (o := o) hl (by lia)
      have hb1 : true = true := rfl
      exact fin (for_n rfl (sN (tI (tK (vK rfl)) hb1 (sN (gK (fK (aC (vK rfl) (aC (vK rfl) (aC (vK rfl) a0C))) hc1)) nK)) nK) rfl) (step q1 q2 q3)
    | false =>
      obtain ⟨add, o', b', hc1, q1, q2, q3⟩ := be_all (m := m) (n := x) (rd := r.map Tk.e2) (o := o) hl (by lia)
      have hb1 : false = false := rfl
      exact fin (for_n rfl (sN (nI (tK (vK rfl)) hb1 (sN (gK (fK (aC (vK rfl) (aC (vK rfl) (aC (vK rfl) a0C))) hc1)) nK)) nK) rfl) (step q1 q2 q3)
theorem shut_loop {N W : AV} {n4 : Option AV} {rs : Rho} : ∀ (o : Nat) (rd : List PyData) (y5 : Option AV), rd.length + o ≤ 900 →
    ∃ y5', forL (tgt1 5) rowC (ones o) (callF (m + 2)) (some N :: some (.loc 0) :: some (.loc 1) :: some W :: n4 :: y5 :: rs) [some rd, none]
      = .ok (.next, some N :: some (.loc 0) :: some (.loc 1) :: some W :: n4 :: y5' :: rs, [some (rd ++ (List.replicate o (Tk.op (Str.ofString ")"))).map Tk.e2), none])
  | 0, rd, y5, h => ⟨y5, by show Res.ok _ = _; rw [List.replicate_zero, List.map_nil, List.append_nil]⟩
  | o + 1, rd, y5, h => by
    have hs1 : ([some rd, none] : Sto)[0]? = some (some rd) := rfl
    have hs2 := hs1
    have hz1 : rd.length ≤ 1000 := by lia
    obtain ⟨y5', e⟩ := shut_loop (N := N) (W := W) (n4 := n4) (rs := rs) o (rd ++ [(Tk.op (Str.ofString ")")).e2]) (some (.d (.int 1))) (by rw [List.length_append, List.length_singleton]; lia)
    refine ⟨y5', (for_n (d := .int 1) (ds := ones o) rfl (sN (sApp_k rfl hs1 (uK (eC kK (eC kK e0C))) hs2 hz1) nK) e).trans ?_⟩
    rw [List.append_assoc, List.replicate_succ, List.map_cons]
    rfl
structure RowOk (r : List Tk) : Prop where
  ok : ∀ t ∈ r, TokOk t
  w : wts r ≤ 440
  l : r.length ≤ 150
theorem ev_row (xs : List Int) (hx : xs.length ≤ 24) : ∃ r : List Tk, callF (m + 3) .law_row [.d (.list (xs.map PyData.int))] [] = .ok (.d (.list (r.map Tk.e2)), []) ∧ RowOk r := by
  refine glq fun Gq kq => ?_
  obtain ⟨r, o, b, y4, y5, hw1, h1, h2, h3⟩ := row_loop (m := m) (N := .d (.list (xs.map PyData.int))) (rs := [none, none]) xs 0 [] 0 true none none (by intro t ht; cases ht) (by decide) (by decide) (by lia)
  refine kq ?_
  clear kq Gq
  have hz1 : (xs.map PyData.int).length ≤ 1000 := by rw [List.length_map]; lia
  have tA : TokOk (.name (Str.ofString "A")) := tok_name_lit (by decide +kernel)
  have tS : TokOk (.op (Str.ofString ")")) := tok_op_lit (by decide +kernel)
  have wS : ∀ o, wts (List.replicate o (Tk.op (Str.ofString ")"))) = 2 * o := by
    intro o
    induction o with
    | zero => rfl
    | succ o ih =>
      rw [List.replicate_succ]
      show wt (Tk.op (Str.ofString ")")) + wts (List.replicate o (Tk.op (Str.ofString ")"))) = _
      have : wt (Tk.op (Str.ofString ")")) = 2 := rfl
      rw [ih, this]; lia
  have hz3 : (ones o).length ≤ 1000 := by unfold ones; rw [List.length_replicate]; lia
  cases b with
  | true =>
    have hb1 : true = true := rfl
    have hs1 : (St (r.map Tk.e2) (ones o))[0]? = some (some (r.map Tk.e2)) := rfl
    have hs2 := hs1
    have hz2 : (r.map Tk.e2).length ≤ 1000 := by rw [List.length_map]; lia
    have hs3 : (St (r.map Tk.e2 ++ [(Tk.name (Str.ofString "A")).e2]) (ones o))[1]? = some (some (ones o)) := rfl
    obtain ⟨y5', hw2⟩ := shut_loop (m := m) (N := .d (.list (xs.map PyData.int))) (W := Bo true) (n4 := y4) (rs := [none, none]) o (r.map Tk.e2 ++ [(Tk.name (Str.ofString "A")).e2]) y5 (by rw [List.length_append, List.length_singleton, List.length_map]; lia)
    refine ⟨r ++ [.name (Str.ofString "A")] ++ List.replicate o (.op (Str.ofString ")")), ?_, ?_, ?_, ?_⟩
    · rw [List.map_append, List.map_append]
      exact (st_law_row _ _ _).trans (run_loc (σ := []) (k := 0) (σ1 := [_, none]) rfl (sN sNew_k (sN sNew_k (sN (gK kK) (sN (sForL_k (vK rfl) hz1 hw1) (sN (tI (tK (vK rfl)) hb1 (sN (sApp_k rfl hs1 (uK (eC kK (eC kK e0C))) hs2 hz2) nK)) (sN (sForL_l (vK rfl) hs3 hz3 hw2) (sR (sRet_k (vK rfl))))))))) rfl)
    · intro t ht
      rcases List.mem_append.mp ht with ht | ht
      · rcases List.mem_append.mp ht with ht | ht
        · exact h1 t ht
        · rw [List.mem_singleton.mp ht]; exact tA
      · rw [(List.mem_replicate.mp ht).2]; exact tS
    · rw [wts_app, wts_app, wS]
      have : wts [Tk.name (Str.ofString "A")] = 2 := rfl
      lia
    · rw [List.length_append, List.length_append, List.length_replicate, List.length_singleton]; lia
  | false =>
    have hb1 : false = false := rfl
    have hs1 : (St (r.map Tk.e2) (ones o))[1]? = some (some (ones o)) := rfl
    have hz2 := hz3
    obtain ⟨y5', hw2⟩ := shut_loop (m := m) (N := .d (.list (xs.map PyData.int))) (W := Bo false) (n4 := y4) (rs := [none, none]) o (r.map Tk.e2) y5 (by rw [List.length_map]; lia)
    refine ⟨r ++ List.replicate o (.op (Str.ofString ")")), ?_, ?_, ?_, ?_⟩
    · rw [List.map_append]
      exact (st_law_row _ _ _).trans (run_loc (σ := []) (k := 0) (σ1 := [_, none]) rfl (sN sNew_k (sN sNew_k (sN (gK kK) (sN (sForL_k (vK rfl) hz1 hw1) (sN (nI (tK (vK rfl)) hb1 nK) (sN (sForL_l (vK rfl) hs1 hz2 hw2) (sR (sRet_k (vK rfl))))))))) rfl)
    · intro t ht
      rcases List.mem_append.mp ht with ht | ht
      · exact h1 t ht
      · rw [(List.mem_replicate.mp ht).2]; exact tS
    · rw [wts_app, wS]; lia
    · rw [List.length_append, List.length_replicate]; lia
end
noncomputable def dpN (ts : List Tk) (lo : Nat) : Nat → Int
  | 0 => 0
  | m + 1 => dpN ts lo m + dl ts (lo + m)
structure Bal (ts : List Tk) (lo hi : Nat) : Prop where
  le : lo ≤ hi
  len : hi ≤ ts.length
  nn : ∀ m, m ≤ hi - lo → 0 ≤ dpN ts lo m
  fin : dpN ts lo (hi - lo) = 0
section
variable {ts : List Tk} {lo mid hi : Nat}
theorem dpN_add (a b : Nat) : dpN ts lo (a + b) = dpN ts lo a + dpN ts (lo + a) b := by
  induction b with
  | zero => simp [dpN]
  | succ b ih =>
    show dpN ts lo (a + b) + dl ts (lo + (a + b)) = dpN ts lo a + (dpN ts (lo + a) b + dl ts (lo + a + b))
    rw [ih, show lo + (a + b) = lo + a + b from by lia]
    lia
theorem dpN_one : dpN ts lo 1 = dl ts lo := by show 0 + dl ts (lo + 0) = _; rw [Nat.add_zero, Int.zero_add]
theorem Bal.nil (h : lo ≤ ts.length) : Bal ts lo lo := ⟨Nat.le_refl _, h, fun m hm => by rw [show m = 0 from by lia]; exact Int.le_refl _, by rw [Nat.sub_self]; rfl⟩
theorem Bal.tok (h : lo < ts.length) (hd : dl ts lo = 0) : Bal ts lo (lo + 1) := by
  refine ⟨by lia, h, fun m hm => ?_, ?_⟩
  · rcases (by lia : m = 0 ∨ m = 1) with rfl | rfl
    · exact Int.le_refl _
    · rw [dpN_one, hd]; exact Int.le_refl _
  · rw [show lo + 1 - lo = 1 from by lia, dpN_one, hd]
theorem Bal.app (a : Bal ts lo mid) (b : Bal ts mid hi) : Bal ts lo hi := by
  have h1 := a.le
  have h2 := b.le
  refine ⟨by lia, b.len, fun m hm => ?_, ?_⟩
  · by_cases hq : m ≤ mid - lo
    · exact a.nn m hq
    · rw [show m = (mid - lo) + (m - (mid - lo)) from by lia, dpN_add, a.fin, show lo + (mid - lo) = mid from by lia, Int.zero_add]
      exact b.nn _ (by lia)
  · rw [show hi - lo = (mid - lo) + (hi - mid) from by lia, dpN_add, a.fin, show lo + (mid - lo) = mid from by lia, Int.zero_add]
    exact b.fin
theorem Bal.br (a : Bal ts (lo + 1) hi) (h1 : isOp ts lo (Str.ofString "(") = true) (h2 : isOp ts hi (Str.ofString ")") = true) : Bal ts lo (hi + 1) := by
  have hle := a.le
  have e1 : ∀ m, dpN ts lo (1 + m) = 1 + dpN ts (lo + 1) m := fun m => by rw [dpN_add, dpN_one, dl_open h1]
  refine ⟨by lia, (List.getElem?_eq_some_iff.mp (isOp_iff.mp h2)).1, fun m hm => ?_, ?_⟩
  · rcases Nat.eq_zero_or_pos m with rfl | hp
    · exact Int.le_refl _
    · obtain ⟨m, rfl⟩ : ∃ q, m = 1 + q := ⟨m - 1, by lia⟩
      rw [e1]
      by_cases hq : m ≤ hi - (lo + 1)
      · have := a.nn m hq; lia
      · have hm' : m = (hi - (lo + 1)) + 1 := by lia
        rw [hm', dpN_add, a.fin, dpN_one, show lo + 1 + (hi - (lo + 1)) = hi from by lia, dl_shut h2]
        decide
  · rw [show hi + 1 - lo = 1 + ((hi - (lo + 1)) + 1) from by lia, e1, dpN_add, a.fin, dpN_one, show lo + 1 + (hi - (lo + 1)) = hi from by lia, dl_shut h2]
    rfl
theorem lclose_bal (a : Bal ts (lo + 1) hi) (h1 : isOp ts lo (Str.ofString "(") = true) (h2 : isOp ts hi (Str.ofString ")") = true) (q : Nat) : lcloseN ts (hi + 1 - lo + q) lo 0 = some hi := by
  have hle := a.le
  have run : ∀ (j m : Nat), j = hi - (lo + 1) - m → m ≤ hi - (lo + 1) → lcloseN ts (j + 1 + q) (lo + 1 + m) (1 + dpN ts (lo + 1) m) = some hi := by
    intro j
    induction j with
    | zero =>
      intro m hj hm
      have hm' : m = hi - (lo + 1) := by lia
      rw [show 0 + 1 + q = q + 1 from by lia]
      unfold lcloseN
      rw [hm', a.fin, show lo + 1 + (hi - (lo + 1)) = hi from by lia, dl_shut h2, if_pos (by decide)]
    | succ j ih =>
      intro m hj hm
      rw [show j + 1 + 1 + q = (j + 1 + q) + 1 from by lia]
      unfold lcloseN
      have hn := a.nn (m + 1) (by lia)
      have e : 1 + dpN ts (lo + 1) m + dl ts (lo + 1 + m) = 1 + dpN ts (lo + 1) (m + 1) := by
        show _ = 1 + (dpN ts (lo + 1) m + dl ts (lo + 1 + m))
        lia
      rw [e, if_neg (by lia)]
      exact ih (m + 1) (by lia) (by lia)
  rw [show hi + 1 - lo + q = (hi - (lo + 1) + 1 + q) + 1 from by lia]
  unfold lcloseN
  rw [dl_open h1, if_neg (by decide)]
  have := run (hi - (lo + 1)) 0 (by lia) (by lia)
  exact this
theorem close_bal (a : Bal ts (lo + 1) hi) (h1 : isOp ts lo (Str.ofString "(") = true) (h2 : isOp ts hi (Str.ofString ")") = true) (q : Nat) : closeN ts (hi + 1 - lo + q) lo 0 = some hi := by
  have hle := a.le
  have run : ∀ (j m : Nat), j = hi - (lo + 1) - m → m ≤ hi - (lo + 1) → closeN ts (j + 1 + q) (lo + 1 + m) (1 + dpN ts (lo + 1) m) = some hi := by
    intro j
    induction j with
    | zero =>
      intro m hj hm
      have hm' : m = hi - (lo + 1) := by lia
      rw [show 0 + 1 + q = q + 1 from by lia]
      unfold closeN
      rw [hm', a.fin, show lo + 1 + (hi - (lo + 1)) = hi from by lia, if_neg (by rw [isOp_ne h2 (by decide)]; simp), if_pos h2, if_pos (by decide)]
    | succ j ih =>
      intro m hj hm
      rw [show j + 1 + 1 + q = (j + 1 + q) + 1 from by lia]
      unfold closeN
      have hn := a.nn (m + 1) (by lia)
      have e : dpN ts (lo + 1) (m + 1) = dpN ts (lo + 1) m + dl ts (lo + 1 + m) := rfl
      have go := ih (m + 1) (by lia) (by lia)
      cases o1 : isOp ts (lo + 1 + m) (Str.ofString "(") with
      | true =>
        rw [if_pos rfl]
        rw [e, dl_open o1] at go
        rw [show 1 + dpN ts (lo + 1) m + 1 = 1 + (dpN ts (lo + 1) m + 1) from by lia]
        exact go
      | false =>
        rw [if_neg (by simp)]
        cases o2 : isOp ts (lo + 1 + m) (Str.ofString ")") with
        | true =>
          rw [e, dl_shut o2] at go hn
          rw [if_pos rfl, if_neg (by lia), show 1 + dpN ts (lo + 1) m - 1 = 1 + (dpN ts (lo + 1) m + -1) from by lia]
          exact go
        | false =>
          rw [if_neg (by simp)]
          rw [e, dl_else o1 o2, Int.add_zero] at go
          exact go
  rw [show hi + 1 - lo + q = (hi - (lo + 1) + 1 + q) + 1 from by lia]
  unfold closeN
  rw [if_pos h1]
  have := run (hi - (lo + 1)) 0 (by lia) (by lia)
  exact this
end
noncomputable abbrev isBr (s : Str) : Prop := s = Str.ofString "(" ∨ s = Str.ofString ")"
noncomputable def Out (ts : List Tk) (lo hi : Nat) (P : Nat → Str → Prop) : Prop := ∀ k s, lo ≤ k → k < hi → dpN ts lo (k - lo) = 0 → ts[k]? = some (.op s) → ¬ isBr s → P k s
section
variable {ts : List Tk} {lo mid hi : Nat} {P : Nat → Str → Prop}
theorem Out.mono {P' : Nat → Str → Prop} (h : Out ts lo hi P) (f : ∀ k s, lo ≤ k → k < hi → P k s → P' k s) : Out ts lo hi P' := fun k s a b c d e => f k s a b (h k s a b c d e)
theorem Out.nil : Out ts lo lo P := fun k s a b => absurd a (by lia)
theorem Out.app (b : Bal ts lo mid) (h1 : Out ts lo mid P) (h2 : Out ts mid hi P) : Out ts lo hi P := fun k s a c d e f => by
  by_cases hk : k < mid
  · exact h1 k s a hk d e f
  · have hle := b.le
    refine h2 k s (by lia) c ?_ e f
    rw [show k - lo = (mid - lo) + (k - mid) from by lia, dpN_add, b.fin, show lo + (mid - lo) = mid from by lia, Int.zero_add] at d
    exact d
theorem Out.tok (h : ∀ s, ts[lo]? = some (.op s) → ¬ isBr s → P lo s) : Out ts lo (lo + 1) P := fun k s a b c d e => by
  have : k = lo := by lia
  subst this
  exact h s d e
theorem Out.br (b : Bal ts (lo + 1) hi) (h1 : isOp ts lo (Str.ofString "(") = true) (h2 : isOp ts hi (Str.ofString ")") = true) : Out ts lo (hi + 1) P := fun k s a c d e f => by
  exfalso
  by_cases hk : k = lo
  · subst hk
    rw [isOp_iff.mp h1] at e
    cases e
    exact f (.inl rfl)
  · by_cases hk2 : k = hi
    · subst hk2
      rw [isOp_iff.mp h2] at e
      cases e
      exact f (.inr rfl)
    · have hn := b.nn (k - (lo + 1)) (by lia)
      rw [show k - lo = 1 + (k - (lo + 1)) from by lia, dpN_add, dpN_one, dl_open h1] at d
      lia
theorem rank_br {s : Str} (h : isBr s) : rankZ s = none := by rcases h with rfl | rfl <;> decide
theorem dl_op {k : Nat} {s : Str} (h : ts[k]? = some (.op s)) (hs : ¬ isBr s) : dl ts k = 0 :=
  dl_else (by cases q : isOp ts k (Str.ofString "(") with | false => rfl | true => rw [isOp_iff.mp q] at h; cases h; exact absurd (.inl rfl) hs)
    (by cases q : isOp ts k (Str.ofString ")") with | false => rfl | true => rw [isOp_iff.mp q] at h; cases h; exact absurd (.inr rfl) hs)
theorem mark_some {k : Nat} {r : Int} (h : rankZ (mark ts k) = some r) : ∃ s, ts[k]? = some (.op s) ∧ rankZ s = some r ∧ ¬ isBr s := by
  unfold mark at h
  have z : rankZ (Str.ofString "") = none := by decide
  cases e : ts[k]? with
  | none => rw [e] at h; dsimp only at h; rw [z] at h; cases h
  | some t =>
    rw [e] at h
    cases t with
    | op s => exact ⟨s, rfl, h, fun q => by dsimp only at h; rw [rank_br q] at h; cases h⟩
    | _ => dsimp only at h; rw [z] at h; cases h
theorem scan_step (l m k : Nat) (d B S : Int) : scanN ts l (m + 1) k d B S = (if d + dl ts k = 0 ∧ l < k then
      match rankZ (mark ts k) with
      | some r => if r < B ∨ (r = B ∧ B < 9) then scanN ts l m (k + 1) (d + dl ts k) r k else scanN ts l m (k + 1) (d + dl ts k) B S
      | none => scanN ts l m (k + 1) (d + dl ts k) B S
    else scanN ts l m (k + 1) (d + dl ts k) B S) := rfl
theorem scan_add (l : Nat) : ∀ (m1 m2 k : Nat) (d B S : Int), scanN ts l (m1 + m2) k d B S = scanN ts l m2 (k + m1) (d + dpN ts k m1) (scanN ts l m1 k d B S).1 (scanN ts l m1 k d B S).2
  | 0, m2, k, d, B, S => by
    show scanN ts l (0 + m2) k d B S = scanN ts l m2 (k + 0) (d + 0) B S
    rw [Nat.zero_add, Nat.add_zero, Int.add_zero]
  | m1 + 1, m2, k, d, B, S => by
    have e : ∀ B S, scanN ts l (m1 + m2) (k + 1) (d + dl ts k) B S = scanN ts l m2 (k + (m1 + 1)) (d + dpN ts k (m1 + 1)) (scanN ts l m1 (k + 1) (d + dl ts k) B S).1 (scanN ts l m1 (k + 1) (d + dl ts k) B S).2 := by
      intro B S
      rw [scan_add l m1 m2 (k + 1) (d + dl ts k) B S, show k + 1 + m1 = k + (m1 + 1) from by lia, show m1 + 1 = 1 + m1 from by lia, dpN_add, dpN_one]
      congr 1
      lia
    rw [show m1 + 1 + m2 = (m1 + m2) + 1 from by lia, scan_step l (m1 + m2), scan_step l m1]
    split
    · split
      · split <;> exact e _ _
      · exact e _ _
    · exact e _ _
theorem scan_stay (l : Nat) {B S : Int} : ∀ (m k : Nat) (d : Int), (∀ j s r, j < m → d + dpN ts k j = 0 → l < k + j → ts[k + j]? = some (.op s) → rankZ s = some r → ¬ (r < B ∨ (r = B ∧ B < 9))) → scanN ts l m k d B S = (B, S)
  | 0, k, d, h => rfl
  | m + 1, k, d, h => by
    have go : scanN ts l m (k + 1) (d + dl ts k) B S = (B, S) := scan_stay l m (k + 1) (d + dl ts k) fun j s r hj hd hl ht hr => by
      refine h (1 + j) s r (by lia) ?_ (by lia) (by rw [show k + (1 + j) = k + 1 + j from by lia]; exact ht) hr
      rw [dpN_add, dpN_one]
      lia
    unfold scanN
    split
    · rename_i hc
      split
      · rename_i r hr
        obtain ⟨s, h1, h2, h3⟩ := mark_some hr
        have hd0 : d + dpN ts k 0 = 0 := by
          have := dl_op h1 h3
          rw [this] at hc
          show d + 0 = 0
          lia
        rw [if_neg (h 0 s r (by lia) hd0 (by lia) h1 h2)]
        exact go
      · exact go
    · exact go
theorem scan_ge (l : Nat) {q : Int} : ∀ (m k : Nat) (d B S : Int), q ≤ B → (∀ j s r, j < m → d + dpN ts k j = 0 → l < k + j → ts[k + j]? = some (.op s) → rankZ s = some r → q ≤ r) → q ≤ (scanN ts l m k d B S).1
  | 0, k, d, B, S, hB, h => hB
  | m + 1, k, d, B, S, hB, h => by
    have go : ∀ B S, q ≤ B → q ≤ (scanN ts l m (k + 1) (d + dl ts k) B S).1 := fun B S hB => scan_ge l m (k + 1) (d + dl ts k) B S hB fun j s r hj hd hl ht hr => by
      refine h (1 + j) s r (by lia) ?_ (by lia) (by rw [show k + (1 + j) = k + 1 + j from by lia]; exact ht) hr
      rw [dpN_add, dpN_one]
      lia
    unfold scanN
    split
    · rename_i hc
      split
      · rename_i r hr
        obtain ⟨s, h1, h2, h3⟩ := mark_some hr
        have hd0 : d + dpN ts k 0 = 0 := by
          have := dl_op h1 h3
          rw [this] at hc
          show d + 0 = 0
          lia
        split
        · exact go _ _ (h 0 s r (by lia) hd0 (by lia) h1 h2)
        · exact go _ _ hB
      · exact go _ _ hB
    · exact go _ _ hB
theorem lft_ge (p : Nat) : p ≤ lft p := by unfold lft; split <;> (try split) <;> lia
theorem rank_le {s : Str} {r : Int} (h : rankZ s = some r) : 1 ≤ r ∧ r ≤ 9 := by
  unfold rankZ at h
  have : ∀ (l : List (Str × Int)), (∀ e ∈ l, 1 ≤ e.2 ∧ e.2 ≤ 9) → l.lookup s = some r → 1 ≤ r ∧ r ≤ 9 := by
    intro l
    induction l with
    | nil => intro _ e; cases e
    | cons e l ih =>
      intro ha hl
      rw [List.lookup_cons] at hl
      split at hl
      · cases hl; exact ha e (by simp)
      · exact ih (fun e he => ha e (by simp [he])) hl
  refine this pTab ?_ h
  intro e he
  simp only [pTab, List.mem_cons, List.not_mem_nil, or_false] at he
  rcases he with rfl | rfl | rfl | rfl | rfl | rfl | rfl | rfl | rfl | rfl | rfl | rfl | rfl | rfl | rfl | rfl <;> decide
theorem scan_bin (b : Bal ts lo mid) (hlt : lo < mid) {s : Str} {p : Nat} (hs : ts[mid]? = some (.op s)) (hp : rankZ s = some (p : Nat)) (hhi : mid < hi)
    (h1 : Out ts lo mid fun k s => ∀ r, rankZ s = some r → ((lft p : Nat) : Int) ≤ r) (h2 : Out ts (mid + 1) hi fun k s => ∀ r, rankZ s = some r → ((rgt p : Nat) : Int) ≤ r) : scanOf ts lo hi = ((p : Int), (mid : Int)) := by
  unfold scanOf
  have hb : ¬ isBr s := fun q => by rw [rank_br q] at hp; cases hp
  have hpr := rank_le hp
  have hd0 := dl_op hs hb
  rw [show hi - lo = (mid - lo) + (1 + (hi - (mid + 1))) from by lia, scan_add, b.fin, show lo + (mid - lo) = mid from by lia, Int.zero_add]
  have hB : ((lft p : Nat) : Int) ≤ (scanN ts lo (mid - lo) lo 0 99 (-1)).1 := by
    refine scan_ge lo _ _ _ _ _ (by unfold lft; split <;> (try split) <;> lia) fun j s r hj hd hl ht hr => ?_
    refine h1 (lo + j) s (by lia) (by lia) ?_ ht (fun q => by rw [rank_br q] at hr; cases hr) r hr
    rw [show lo + j - lo = j from by lia]
    lia
  generalize (scanN ts lo (mid - lo) lo 0 99 (-1)).1 = B at hB ⊢
  generalize (scanN ts lo (mid - lo) lo 0 99 (-1)).2 = S
  rw [scan_add]
  have e1 : scanN ts lo 1 mid 0 B S = ((p : Int), (mid : Int)) := by
    show (if 0 + dl ts mid = 0 ∧ lo < mid then (match rankZ (mark ts mid) with | some r => if r < B ∨ (r = B ∧ B < 9) then (r, ((mid : Nat) : Int)) else (B, S) | none => (B, S)) else (B, S)) = _
    have hm : mark ts mid = s := by unfold mark; rw [hs]
    rw [if_pos ⟨by rw [hd0]; rfl, hlt⟩, hm, hp]
    show (if _ then _ else _) = _
    rw [if_pos]
    unfold lft at hB
    split at hB
    · left; lia
    · split at hB
      · left; lia
      · by_cases hq : ((p : Nat) : Int) < B
        · exact .inl hq
        · right
          exact ⟨by lia, by lia⟩
  rw [e1, dpN_one, hd0]
  refine scan_stay lo _ _ _ fun j s r hj hd hl ht hr => ?_
  have := h2 (mid + 1 + j) s (by lia) (by lia) (by rw [show mid + 1 + j - (mid + 1) = j from by lia]; lia) ht (fun q => by rw [rank_br q] at hr; cases hr) r hr
  unfold rgt at this
  split at this
  · rintro (q | q) <;> lia
  · rintro (q | q) <;> lia
end
inductive Ix where
  | e (l : Nat) | pr | rf | ar | ct | opt
inductive Gr (ts : List Tk) : Ix → Nat → Nat → PyData → Prop
  | not {l lo hi t} : ts[lo]? = some (.op (Str.ofString ".NOT.")) → l ≤ 4 → Gr ts (.e 5) (lo + 1) hi t → Gr ts (.e l) lo hi (unT (Str.ofString ".NOT.") t)
  | sgn {l lo hi s t} : ts[lo]? = some (.op s) → (s = Str.ofString "+" ∨ s = Str.ofString "-") → l ≤ 7 → Gr ts (.e 8) (lo + 1) hi t → Gr ts (.e l) lo hi (unT s t)
  | bin {l lo mid hi s} {p : Nat} {a b} : Gr ts (.e (lft p)) lo mid a → ts[mid]? = some (.op s) → rankZ s = some (p : Int) → l ≤ p → Gr ts (.e (rgt p)) (mid + 1) hi b → Gr ts (.e l) lo hi (binT s a b)
  | prim {l lo hi t} : Gr ts .pr lo hi t → Gr ts (.e l) lo hi t
  | const {lo t} : ts[lo]? = some t → (∀ s, t ≠ .op s) → (∀ s, t ≠ .name s) → Gr ts .pr lo (lo + 1) (consT t 1)
  | name {lo s} : ts[lo]? = some (.name s) → Gr ts .pr lo (lo + 1) (nameT s)
  | ref0 {lo s} : ts[lo]? = some (.name s) → isOp ts (lo + 1) (Str.ofString "(") = true → isOp ts (lo + 2) (Str.ofString ")") = true → Gr ts .rf lo (lo + 3) (refT s [])
  | ref {lo mid s rows} : ts[lo]? = some (.name s) → isOp ts (lo + 1) (Str.ofString "(") = true → Gr ts .ar (lo + 2) mid (.list rows) → isOp ts mid (Str.ofString ")") = true → Gr ts .rf lo (mid + 1) (refT s rows)
  | refp {lo hi t} : Gr ts .rf lo hi t → Gr ts .pr lo hi t
  | subn {lo mid s a b} : ts[lo]? = some (.name s) → isOp ts (lo + 1) (Str.ofString "(") = true → Gr ts .ct (lo + 2) mid (.tuple [a, b]) → isOp ts mid (Str.ofString ")") = true → Gr ts .pr lo (mid + 1) (subT (nameT s) a b)
  | subr {lo k mid t a b} : Gr ts .rf lo k t → isOp ts k (Str.ofString "(") = true → Gr ts .ct (k + 1) mid (.tuple [a, b]) → isOp ts mid (Str.ofString ")") = true → Gr ts .pr lo (mid + 1) (subT t a b)
  | ct {lo c hi a b} : Gr ts .opt lo c a → isOp ts c (Str.ofString ":") = true → Gr ts .opt (c + 1) hi b → Gr ts .ct lo hi (.tuple [a, b])
  | op0 {lo} : lo ≤ ts.length → Gr ts .opt lo lo .none
  | op1 {lo hi t} : Gr ts (.e 1) lo hi t → Gr ts .opt lo hi t
  | ar1 {lo hi t} : Gr ts (.e 1) lo hi t → Gr ts .ar lo hi (.list [t])
  | arc {lo mid hi t rows} : Gr ts (.e 1) lo mid t → isOp ts mid (Str.ofString ",") = true → Gr ts .ar (mid + 1) hi (.list rows) → Gr ts .ar lo hi (.list (t :: rows))
  | br {lo mid t} : isOp ts lo (Str.ofString "(") = true → Gr ts (.e 1) (lo + 1) mid t → isOp ts mid (Str.ofString ")") = true → Gr ts .pr lo (mid + 1) t
  | cp {lo c d} : isOp ts lo (Str.ofString "(") = true → partEnd ts (lo + 1) = some c → isOp ts c (Str.ofString ",") = true → partEnd ts (c + 1) = some d → isOp ts d (Str.ofString ")") = true → Gr ts .pr lo (d + 1) (cplxT (partT ts (lo + 1)) (partT ts (c + 1)))
noncomputable def noSep (s : Str) : Prop := s ≠ Str.ofString "," ∧ s ≠ Str.ofString ":"
noncomputable def OutOf : Ix → Nat → Str → Prop
  | .e l => fun _ s => noSep s ∧ ∀ r, rankZ s = some r → (l : Int) ≤ r
  | .pr => fun _ _ => False
  | .rf => fun _ _ => False
  | .opt => fun _ s => noSep s
  | .ct => fun _ _ => True
  | .ar => fun _ s => s ≠ Str.ofString ":"
noncomputable def isOpt : Ix → Prop
  | .opt => True
  | .ct => True
  | _ => False
noncomputable def tupIx : Ix → PyData → Prop
  | .e _, t => ∃ xs, t = .tuple xs
  | .pr, t => ∃ xs, t = .tuple xs
  | .rf, t => ∃ xs, t = .tuple xs
  | _, _ => True
structure Fact (ts : List Tk) (ix : Ix) (lo hi : Nat) (t : PyData) : Prop where
  bal : Bal ts lo hi
  lt : ¬ isOpt ix → lo < hi
  out : Out ts lo hi (OutOf ix)
  tup : tupIx ix t
section
variable {ts : List Tk}
theorem consT_tup (t : Tk) (s : Int) : ∃ xs, consT t s = .tuple xs := by cases t <;> exact ⟨_, rfl⟩
theorem dl_tok {k : Nat} {t : Tk} (h : ts[k]? = some t) (h2 : ∀ s, t = .op s → ¬ isBr s) : dl ts k = 0 := by
  cases t with
  | op s => exact dl_op h (h2 s rfl)
  | _ => exact dl_else (by unfold isOp; rw [h]) (by unfold isOp; rw [h])
theorem isOp_dl {k : Nat} {x : Str} (h : isOp ts k x = true) (hx : ¬ isBr x) : dl ts k = 0 := dl_op (isOp_iff.mp h) hx
theorem lt_of {k : Nat} {t : Tk} (h : ts[k]? = some t) : k < ts.length := (List.getElem?_eq_some_iff.mp h).1
theorem lt_op {k : Nat} {x : Str} (h : isOp ts k x = true) : k < ts.length := lt_of (isOp_iff.mp h)
theorem part_bal {lo c : Nat} (h : partEnd ts lo = some c) : Bal ts lo c ∧ lo < c := by
  unfold partEnd at h
  have num : ∀ {j}, numAt ts j = true → Bal ts j (j + 1) := fun hn => by
    obtain ⟨t, ht, hk⟩ := num_tok hn
    exact Bal.tok (lt_of ht) (dl_tok ht (by rcases hk with ⟨v, rfl⟩ | ⟨a, b, rfl⟩ <;> (intro s e; cases e)))
  split at h
  · rename_i hs
    split at h
    · rename_i hn
      cases h
      have hd : Bal ts lo (lo + 1) := by
        have : isOp ts lo (Str.ofString "+") = true ∨ isOp ts lo (Str.ofString "-") = true := by
          unfold sgn at hs
          cases q : isOp ts lo (Str.ofString "+") with
          | true => exact .inl rfl
          | false => rw [q, Bool.false_or] at hs; exact .inr hs
        rcases this with q | q
        · exact Bal.tok (lt_op q) (isOp_dl q (by rintro (e | e) <;> revert e <;> decide))
        · exact Bal.tok (lt_op q) (isOp_dl q (by rintro (e | e) <;> revert e <;> decide))
      exact ⟨hd.app (num hn), by lia⟩
    · cases h
  · split at h
    · rename_i hn
      cases h
      exact ⟨num hn, by lia⟩
    · cases h
theorem fact {ix : Ix} {lo hi : Nat} {t : PyData} (g : Gr ts ix lo hi t) : Fact ts ix lo hi t := by
  have nbr : ∀ {x : Str}, x ≠ Str.ofString "(" → x ≠ Str.ofString ")" → ¬ isBr x := fun h1 h2 q => q.elim h1 h2
  induction g with
  | @not l lo hi t h hl _ ih =>
    have b1 : Bal ts lo (lo + 1) := Bal.tok (lt_of h) (dl_op h (nbr (by decide) (by decide)))
    refine ⟨b1.app ih.bal, fun _ => by have := ih.lt id; lia, Out.app b1 (Out.tok fun s e _ => ?_) (ih.out.mono fun k s _ _ q => ⟨q.1, fun r hr => by have := q.2 r hr; lia⟩), ⟨_, rfl⟩⟩
    rw [h] at e
    cases e
    exact ⟨⟨by decide, by decide⟩, fun r hr => by have z : rankZ (Str.ofString ".NOT.") = none := by decide
                                                  rw [z] at hr; cases hr⟩
  | @sgn l lo hi s t h hs hl _ ih =>
    have b1 : Bal ts lo (lo + 1) := Bal.tok (lt_of h) (dl_op h (by rcases hs with rfl | rfl <;> exact nbr (by decide) (by decide)))
    refine ⟨b1.app ih.bal, fun _ => by have := ih.lt id; lia, Out.app b1 (Out.tok fun s' e _ => ?_) (ih.out.mono fun k s _ _ q => ⟨q.1, fun r hr => by have := q.2 r hr; lia⟩), ⟨_, rfl⟩⟩
    rw [h] at e
    cases e
    have z1 : rankZ (Str.ofString "+") = some 7 := by decide
    have z2 : rankZ (Str.ofString "-") = some 7 := by decide
    rcases hs with rfl | rfl
    · exact ⟨⟨by decide, by decide⟩, fun r hr => by rw [z1] at hr; cases hr; lia⟩
    · exact ⟨⟨by decide, by decide⟩, fun r hr => by rw [z2] at hr; cases hr; lia⟩
  | @bin l lo mid hi s p a b _ hs hp hl _ ih1 ih2 =>
    have hb : ¬ isBr s := fun q => by rw [rank_br q] at hp; cases hp
    have b1 : Bal ts mid (mid + 1) := Bal.tok (lt_of hs) (dl_op hs hb)
    have l1 := ih1.lt id
    have l2 := ih2.lt id
    have hlf := lft_ge p
    refine ⟨(ih1.bal.app b1).app ih2.bal, fun _ => by lia, Out.app (ih1.bal.app b1) (Out.app ih1.bal (ih1.out.mono fun k s _ _ q => ⟨q.1, fun r hr => by have := q.2 r hr; lia⟩) (Out.tok fun s' e _ => ?_))
      (ih2.out.mono fun k s _ _ q => ⟨q.1, fun r hr => by have := q.2 r hr; unfold rgt at this; split at this <;> lia⟩), ⟨_, rfl⟩⟩
    rw [hs] at e
    cases e
    refine ⟨⟨fun q => ?_, fun q => ?_⟩, fun r hr => by rw [hp] at hr; cases hr; lia⟩
    · subst q
      have z : rankZ (Str.ofString ",") = none := by decide
      rw [z] at hp; cases hp
    · subst q
      have z : rankZ (Str.ofString ":") = none := by decide
      rw [z] at hp; cases hp
  | prim _ ih => exact ⟨ih.bal, fun _ => ih.lt id, ih.out.mono fun k s _ _ q => q.elim, ih.tup⟩
  | @const lo t h h2 h3 => exact ⟨Bal.tok (lt_of h) (dl_tok h fun s e => absurd e (h2 s)), fun _ => by lia, Out.tok fun s e _ => h2 s (by rw [h] at e; cases e; rfl), consT_tup _ _⟩
  | @name lo s h => exact ⟨Bal.tok (lt_of h) (dl_tok h fun s e => by cases e), fun _ => by lia, Out.tok (fun s e _ => by rw [h] at e; cases e), ⟨_, rfl⟩⟩
  | @ref0 lo s h h1 h2 =>
    have b0 : Bal ts lo (lo + 1) := Bal.tok (lt_of h) (dl_tok h fun s e => by cases e)
    have b1 : Bal ts (lo + 1) (lo + 3) := (Bal.nil (by have := lt_op h2; lia) : Bal ts (lo + 2) (lo + 2)).br h1 h2
    exact ⟨b0.app b1, fun _ => by lia, Out.app b0 (Out.tok fun s e _ => by rw [h] at e; cases e) (Out.br (hi := lo + 2) (Bal.nil (by have := lt_op h2; lia)) h1 h2), ⟨_, rfl⟩⟩
  | @ref lo mid s rows h h1 _ h2 ih =>
    have b0 : Bal ts lo (lo + 1) := Bal.tok (lt_of h) (dl_tok h fun s e => by cases e)
    have l1 := ih.lt id
    exact ⟨b0.app (ih.bal.br h1 h2), fun _ => by lia, Out.app b0 (Out.tok fun s e _ => by rw [h] at e; cases e) (Out.br ih.bal h1 h2), ⟨_, rfl⟩⟩
  | refp _ ih => exact ⟨ih.bal, fun _ => ih.lt id, ih.out.mono fun k s _ _ q => q.elim, ih.tup⟩
  | @subn lo mid s a b h h1 _ h2 ih =>
    have b0 : Bal ts lo (lo + 1) := Bal.tok (lt_of h) (dl_tok h fun s e => by cases e)
    have l1 := ih.bal.le
    exact ⟨b0.app (ih.bal.br h1 h2), fun _ => by lia, Out.app b0 (Out.tok fun s e _ => by rw [h] at e; cases e) (Out.br ih.bal h1 h2), ⟨_, rfl⟩⟩
  | @subr lo k mid t a b _ h1 _ h2 ih1 ih2 =>
    have l1 := ih1.lt id
    have l2 := ih2.bal.le
    exact ⟨ih1.bal.app (ih2.bal.br h1 h2), fun _ => by lia, Out.app ih1.bal (ih1.out.mono fun k s _ _ q => q.elim) (Out.br ih2.bal h1 h2), ⟨_, rfl⟩⟩
  | @ct lo c hi a b _ h _ ih1 ih2 =>
    have b1 : Bal ts c (c + 1) := Bal.tok (lt_op h) (isOp_dl h (nbr (by decide) (by decide)))
    exact ⟨(ih1.bal.app b1).app ih2.bal, fun q => (q trivial).elim, fun k s _ _ _ _ _ => trivial, trivial⟩
  | op0 h => exact ⟨Bal.nil h, fun q => (q trivial).elim, Out.nil, trivial⟩
  | op1 _ ih => exact ⟨ih.bal, fun q => (q trivial).elim, ih.out.mono fun k s _ _ q => q.1, trivial⟩
  | ar1 _ ih => exact ⟨ih.bal, fun _ => ih.lt id, ih.out.mono fun k s _ _ q => q.1.2, trivial⟩
  | @arc lo mid hi t rows _ h _ ih1 ih2 =>
    have b1 : Bal ts mid (mid + 1) := Bal.tok (lt_op h) (isOp_dl h (nbr (by decide) (by decide)))
    have l1 := ih1.lt id
    have l2 := ih2.lt id
    refine ⟨(ih1.bal.app b1).app ih2.bal, fun _ => by lia, Out.app (ih1.bal.app b1) (Out.app ih1.bal (ih1.out.mono fun k s _ _ q => q.1.2) (Out.tok fun s e _ => ?_)) ih2.out, trivial⟩
    rw [isOp_iff.mp h] at e
    cases e
    show Str.ofString "," ≠ Str.ofString ":"
    decide
  | @br lo mid t h1 _ h2 ih =>
    have l1 := ih.lt id
    exact ⟨ih.bal.br h1 h2, fun _ => by lia, Out.br ih.bal h1 h2, ih.tup⟩
  | @cp lo c d h1 hc h2 hd h3 =>
    obtain ⟨b1, l1⟩ := part_bal hc
    obtain ⟨b2, l2⟩ := part_bal hd
    have b0 : Bal ts c (c + 1) := Bal.tok (lt_op h2) (isOp_dl h2 (nbr (by decide) (by decide)))
    have bb := (b1.app b0).app b2
    exact ⟨bb.br h1 h3, fun _ => by lia, Out.br bb h1 h3, ⟨_, rfl⟩⟩
end
section
variable {ts : List Tk} {x : Str}
theorem parts_step (m k : Nat) (d : Int) (b : Nat) : partsN ts x (m + 1) k d b = if isOp ts k x = true ∧ d + dl ts k = 0 then (b, k) :: partsN ts x m (k + 1) (d + dl ts k) (k + 1) else partsN ts x m (k + 1) (d + dl ts k) b := rfl
theorem parts_skip (hx : ¬ isBr x) : ∀ (m1 m2 k : Nat) (d : Int) (b : Nat), (∀ j, j < m1 → d + dpN ts k j = 0 → isOp ts (k + j) x = true → False) → partsN ts x (m1 + m2) k d b = partsN ts x m2 (k + m1) (d + dpN ts k m1) b
  | 0, m2, k, d, b, h => by
    show partsN ts x (0 + m2) k d b = partsN ts x m2 (k + 0) (d + 0) b
    rw [Nat.zero_add, Nat.add_zero, Int.add_zero]
  | m1 + 1, m2, k, d, b, h => by
    rw [show m1 + 1 + m2 = (m1 + m2) + 1 from by lia, parts_step, if_neg]
    · rw [parts_skip hx m1 m2 (k + 1) (d + dl ts k) b fun j hj hd ho => h (1 + j) (by lia) (by rw [dpN_add, dpN_one]; lia) (by rw [show k + (1 + j) = k + 1 + j from by lia]; exact ho)]
      rw [show k + 1 + m1 = k + (m1 + 1) from by lia, show m1 + 1 = 1 + m1 from by lia, dpN_add, dpN_one]
      congr 1
      lia
    · rintro ⟨q1, q2⟩
      refine h 0 (by lia) ?_ q1
      rw [isOp_dl q1 hx] at q2
      show d + 0 = 0
      lia
theorem parts_no (hx : ¬ isBr x) {lo hi : Nat} (hle : lo ≤ hi) (b : Nat) (h : Out ts lo hi fun _ s => s ≠ x) : partsN ts x (hi - lo) lo 0 b = [(b, hi)] := by
  have := parts_skip (ts := ts) hx (hi - lo) 0 lo 0 b fun j hj hd ho => h (lo + j) x (by lia) (by lia) (by rw [show lo + j - lo = j from by lia]; lia) (isOp_iff.mp ho) hx rfl
  rw [Nat.add_zero] at this
  rw [this, show lo + (hi - lo) = hi from by lia]
  rfl
theorem parts_at (hx : ¬ isBr x) {lo mid hi : Nat} (bal : Bal ts lo mid) (h : Out ts lo mid fun _ s => s ≠ x) (ho : isOp ts mid x = true) (hlt : mid < hi) (b : Nat) : partsN ts x (hi - lo) lo 0 b = (b, mid) :: partsN ts x (hi - (mid + 1)) (mid + 1) 0 (mid + 1) := by
  have hle := bal.le
  rw [show hi - lo = (mid - lo) + ((hi - (mid + 1)) + 1) from by lia, parts_skip (ts := ts) hx (mid - lo) _ lo 0 b fun j hj hd ho => h (lo + j) x (by lia) (by lia) (by rw [show lo + j - lo = j from by lia]; lia) (isOp_iff.mp ho) hx rfl]
  rw [bal.fin, show lo + (mid - lo) = mid from by lia, parts_step, if_pos ⟨ho, by rw [isOp_dl ho hx]; rfl⟩, isOp_dl ho hx]
  rfl
theorem cut_skip (hb : True) : ∀ (m1 m2 k : Nat) (d : Int), (∀ j, j < m1 → d + dpN ts k j = 0 → isOp ts (k + j) (Str.ofString ":") = true → False) → cutN ts (m1 + m2) k d = cutN ts m2 (k + m1) (d + dpN ts k m1)
  | 0, m2, k, d, h => by
    show cutN ts (0 + m2) k d = cutN ts m2 (k + 0) (d + 0)
    rw [Nat.zero_add, Nat.add_zero, Int.add_zero]
  | m1 + 1, m2, k, d, h => by
    have go : cutN ts (m1 + m2) (k + 1) (d + dl ts k) = cutN ts m2 (k + (m1 + 1)) (d + dpN ts k (m1 + 1)) := by
      rw [cut_skip hb m1 m2 (k + 1) (d + dl ts k) fun j hj hd ho => h (1 + j) (by lia) (by rw [dpN_add, dpN_one]; lia) (by rw [show k + (1 + j) = k + 1 + j from by lia]; exact ho)]
      rw [show k + 1 + m1 = k + (m1 + 1) from by lia, show m1 + 1 = 1 + m1 from by lia, dpN_add, dpN_one]
      congr 1
      lia
    have e : cutN ts (m1 + m2 + 1) k d = if isOp ts k (Str.ofString "(") = true then cutN ts (m1 + m2) (k + 1) (d + 1) else if isOp ts k (Str.ofString ")") = true then cutN ts (m1 + m2) (k + 1) (d - 1) else if d = 0 ∧ isOp ts k (Str.ofString ":") = true then true else cutN ts (m1 + m2) (k + 1) d := rfl
    rw [show m1 + 1 + m2 = m1 + m2 + 1 from by lia, e]
    cases o1 : isOp ts k (Str.ofString "(") with
    | true =>
      rw [if_pos rfl]
      rw [dl_open o1] at go
      exact go
    | false =>
      rw [if_neg (by simp)]
      cases o2 : isOp ts k (Str.ofString ")") with
      | true =>
        rw [if_pos rfl]
        rw [dl_shut o2] at go
        exact go
      | false =>
        rw [dl_else o1 o2, Int.add_zero] at go
        rw [if_neg (by simp), if_neg (fun q => h 0 (by lia) (by show d + 0 = 0; lia) q.2)]
        exact go
theorem cut_no {lo hi : Nat} (hle : lo ≤ hi) (h : Out ts lo hi fun _ s => s ≠ Str.ofString ":") : cutN ts (hi - lo) lo 0 = false := by
  have hx : ¬ isBr (Str.ofString ":") := by rintro (e | e) <;> revert e <;> decide
  have := cut_skip (ts := ts) trivial (hi - lo) 0 lo 0 fun j hj hd ho => h (lo + j) _ (by lia) (by lia) (by rw [show lo + j - lo = j from by lia]; lia) (isOp_iff.mp ho) hx rfl
  rw [Nat.add_zero] at this
  rw [this]
  rfl
theorem cut_yes {lo mid hi : Nat} (bal : Bal ts lo mid) (h : Out ts lo mid fun _ s => s ≠ Str.ofString ":") (ho : isOp ts mid (Str.ofString ":") = true) (hlt : mid < hi) : cutN ts (hi - lo) lo 0 = true := by
  have hle := bal.le
  have hx : ¬ isBr (Str.ofString ":") := by rintro (e | e) <;> revert e <;> decide
  rw [show hi - lo = (mid - lo) + ((hi - (mid + 1)) + 1) from by lia, cut_skip (ts := ts) trivial (mid - lo) _ lo 0 fun j hj hd ho => h (lo + j) _ (by lia) (by lia) (by rw [show lo + j - lo = j from by lia]; lia) (isOp_iff.mp ho) hx rfl]
  rw [bal.fin, show lo + (mid - lo) = mid from by lia]
  unfold cutN
  rw [if_neg (by rw [isOp_ne ho (by decide)]; simp), if_neg (by rw [isOp_ne ho (by decide)]; simp), if_pos ⟨rfl, ho⟩]
end
noncomputable abbrev comma : Str := Str.ofString ","
noncomputable abbrev colon : Str := Str.ofString ":"
noncomputable def LawP (ts : List Tk) : Ix → Nat → Nat → PyData → Prop
  | .e l, lo, hi, t => ∀ n, hi + 6 ≤ n + lo → GR n (ts.map Tk.e2) lo hi l (some t)
  | .pr, lo, hi, t => ∀ n, hi + 5 ≤ n + lo → GP n (ts.map Tk.e2) lo hi (some t)
  | .rf, lo, hi, t => ∃ s rows e, t = refT s rows ∧ hi = e + 1 ∧ lo + 2 ≤ e ∧ ts[lo]? = some (.name s) ∧ isOp ts (lo + 1) (Str.ofString "(") = true ∧ Bal ts (lo + 2) e ∧ isOp ts e (Str.ofString ")") = true ∧ (e = lo + 2 → rows = []) ∧ (Out ts (lo + 2) e fun _ s => s ≠ colon) ∧
      (e ≠ lo + 2 → ∀ n, hi + 3 ≤ n + lo → RowRun n (ts.map Tk.e2) (partsN ts comma (e - (lo + 2)) (lo + 2) 0 (lo + 2)) [] (some rows))
  | .ar, lo, hi, t => ∀ rows, t = .list rows → ∀ n, hi + 6 ≤ n + lo → ∀ acc, RowRun n (ts.map Tk.e2) (partsN ts comma (hi - lo) lo 0 lo) acc (some (acc ++ rows))
  | .ct, lo, hi, t => ∀ a b, t = .tuple [a, b] → ∃ c, partsN ts colon (hi - lo) lo 0 lo = [(lo, c), (c + 1, hi)] ∧ lo ≤ c ∧ c + 1 ≤ hi ∧ ∀ n, hi + 5 ≤ n + lo → CutRun n (ts.map Tk.e2) [(lo, c), (c + 1, hi)] [] (some [a, b])
  | .opt, lo, hi, t => (lo = hi ∧ t = .none) ∨ (lo < hi ∧ RT (some t) ∧ ∀ n, hi + 6 ≤ n + lo → GR n (ts.map Tk.e2) lo hi 1 (some t))
section
variable {ts : List Tk}
theorem nbr {x : Str} (h1 : x ≠ Str.ofString "(") (h2 : x ≠ Str.ofString ")") : ¬ isBr x := fun q => q.elim h1 h2
theorem nbr_comma : ¬ isBr comma := nbr (by decide) (by decide)
theorem nbr_colon : ¬ isBr colon := nbr (by decide) (by decide)
theorem pre (n : Nat) (h : 1 ≤ n) : ∃ q, n = q + 1 := ⟨n - 1, by lia⟩
theorem scan_un {l lo hi : Nat} (hlt : lo < hi) (hd : dl ts lo = 0) (ho : Out ts (lo + 1) hi (OutOf (.e l))) (hl : l ≤ 9) : (l : Int) ≤ (scanOf ts lo hi).1 := by
  unfold scanOf
  refine scan_ge lo _ _ _ _ _ (by lia) fun j s r hj hdj hlj ht hr => ?_
  refine (ho (lo + j) s (by lia) (by lia) ?_ ht (fun q => by rw [rank_br q] at hr; cases hr)).2 r hr
  have e : dpN ts lo j = dpN ts (lo + 1) (j - 1) := by
    rw [show j = 1 + (j - 1) from by lia, dpN_add, dpN_one, hd, show 1 + (j - 1) - 1 = j - 1 from by lia]
    lia
  rw [show lo + j - (lo + 1) = j - 1 from by lia, ← e]
  lia
theorem scan_pr {lo hi : Nat} (ho : Out ts lo hi (OutOf .pr)) : scanOf ts lo hi = (99, -1) := by
  unfold scanOf
  exact scan_stay lo _ _ _ fun j s r hj hd hlt ht hr => (ho (lo + j) s (by lia) (by lia) (by rw [show lo + j - lo = j from by lia]; lia) ht (fun q => by rw [rank_br q] at hr; cases hr)).elim
noncomputable def Begins (ts : List Tk) : Ix → Nat → Prop
  | .e l, lo => (isOp ts lo (Str.ofString ".NOT.") = true → l ≤ 4) ∧ (sgn ts lo = true → l ≤ 7)
  | .pr, lo => isOp ts lo (Str.ofString ".NOT.") = false ∧ sgn ts lo = false
  | .rf, lo => ∃ s, ts[lo]? = some (.name s)
  | _, _ => True
theorem sgn_false {lo : Nat} (h1 : isOp ts lo (Str.ofString "+") = false) (h2 : isOp ts lo (Str.ofString "-") = false) : sgn ts lo = false := by unfold sgn; rw [h1, h2]; rfl
theorem begins_tok {lo : Nat} {t : Tk} (h : ts[lo]? = some t) (h2 : ∀ s, t ≠ .op s) : isOp ts lo (Str.ofString ".NOT.") = false ∧ sgn ts lo = false := by
  have : ∀ x, isOp ts lo x = false := fun x => by
    unfold isOp
    rw [h]
    cases t with
    | op s => exact absurd rfl (h2 s)
    | _ => rfl
  exact ⟨this _, sgn_false (this _) (this _)⟩
theorem begins_br {lo : Nat} (h : isOp ts lo (Str.ofString "(") = true) : isOp ts lo (Str.ofString ".NOT.") = false ∧ sgn ts lo = false :=
  ⟨isOp_ne h (by decide), sgn_false (isOp_ne h (by decide)) (isOp_ne h (by decide))⟩
theorem begins {ix : Ix} {lo hi : Nat} {t : PyData} (g : Gr ts ix lo hi t) : Begins ts ix lo := by
  induction g with
  | @not l lo hi t h hl _ _ =>
    refine ⟨fun _ => hl, fun q => ?_⟩
    have := isOp_iff.mpr h
    unfold sgn at q
    rw [isOp_ne this (by decide), isOp_ne this (by decide)] at q
    cases q
  | @sgn l lo hi s t h hs hl _ _ =>
    refine ⟨fun q => ?_, fun _ => hl⟩
    have := isOp_iff.mpr h
    rw [isOp_ne this (by rcases hs with rfl | rfl <;> decide)] at q
    cases q
  | @bin l lo mid hi s p a b _ hs hp hl _ ih _ =>
    have := lft_ge p
    exact ⟨fun q => by have := ih.1 q; lia, fun q => by have := ih.2 q; lia⟩
  | prim _ ih => exact ⟨fun q => (by rw [ih.1] at q; cases q), fun q => (by rw [ih.2] at q; cases q)⟩
  | const h h2 _ => exact begins_tok h h2
  | name h => exact begins_tok h fun s e => by cases e
  | ref0 h _ _ => exact ⟨_, h⟩
  | ref h _ _ _ _ => exact ⟨_, h⟩
  | refp _ ih => obtain ⟨s, h⟩ := ih; exact begins_tok h fun s e => by cases e
  | subn h _ _ _ _ => exact begins_tok h fun s e => by cases e
  | subr _ _ _ _ ih _ => obtain ⟨s, h⟩ := ih; exact begins_tok h fun s e => by cases e
  | br h _ _ _ => exact begins_br h
  | cp h _ _ _ _ => exact begins_br h
  | _ => trivial
end
section
variable {ts : List Tk}
theorem rank_ne4 {s : Str} {r : Int} (h : rankZ s = some r) : r ≠ 4 := by
  unfold rankZ at h
  have : ∀ (l : List (Str × Int)), (∀ e ∈ l, e.2 ≠ 4) → l.lookup s = some r → r ≠ 4 := by
    intro l
    induction l with
    | nil => intro _ e; cases e
    | cons e l ih =>
      intro ha hl
      rw [List.lookup_cons] at hl
      split at hl
      · cases hl; exact ha e (by simp)
      · exact ih (fun e he => ha e (by simp [he])) hl
  refine this pTab ?_ h
  intro e he
  simp only [pTab, List.mem_cons, List.not_mem_nil, or_false] at he
  rcases he with rfl | rfl | rfl | rfl | rfl | rfl | rfl | rfl | rfl | rfl | rfl | rfl | rfl | rfl | rfl | rfl <;> decide
theorem part_out {lo c : Nat} (h : partEnd ts lo = some c) : Out ts lo c fun _ s => s ≠ comma := by
  unfold partEnd at h
  split at h
  · rename_i hs
    split at h
    · rename_i hn
      cases h
      obtain ⟨t, ht, hk⟩ := num_tok hn
      intro k s a b _ e _
      rcases (by lia : k = lo ∨ k = lo + 1) with rfl | rfl
      · rintro rfl
        unfold sgn isOp at hs
        rw [e] at hs
        revert hs
        decide
      · rw [ht] at e
        rcases hk with ⟨v, rfl⟩ | ⟨a', b', rfl⟩ <;> cases e
    · cases h
  · split at h
    · rename_i hn
      cases h
      obtain ⟨t, ht, hk⟩ := num_tok hn
      intro k s a b _ e _
      have : k = lo := by lia
      subst this
      rw [ht] at e
      rcases hk with ⟨v, rfl⟩ | ⟨a', b', rfl⟩ <;> cases e
    · cases h
theorem law_complete (hz0 : ts.length ≤ 800) (hmk : MarksOk ts) {ix : Ix} {lo hi : Nat} {t : PyData} (g : Gr ts ix lo hi t) : LawP ts ix lo hi t := by
  have hT := e2_TK (ts := ts) (by lia)
  have hz1 : ts.length ≤ 1000 := by lia
  induction g with
  | @not l lo hi t h hl g' ih =>
    intro n hn
    have f := fact g'
    have hlt := f.lt id
    obtain ⟨n, rfl⟩ := pre n (by lia)
    have r := gr_not (n := n) (fl := l) (r := some t) hT (by lia) f.bal.len (isOp_iff.mpr h) (by have := scan_un (lo := lo) (hi := hi) (by lia) (dl_op h (nbr (by decide) (by decide))) f.out (by decide); lia)
      (fun t' e => by cases e; exact f.tup) (fun _ => ih n (by lia)) (pre n (by lia))
    rw [if_pos hl] at r
    exact r
  | @sgn l lo hi s t h hs hl g' ih =>
    intro n hn
    have f := fact g'
    have hlt := f.lt id
    obtain ⟨n, rfl⟩ := pre n (by lia)
    have r := gr_sgn (n := n) (fl := l) (r := some t) hT (by lia) f.bal.len h hs (by have := scan_un (lo := lo) (hi := hi) (by lia) (dl_op h (by rcases hs with rfl | rfl <;> exact nbr (by decide) (by decide))) f.out (by decide); lia)
      (fun t' e => by cases e; exact f.tup) (fun _ => ih n (by lia)) (pre n (by lia))
    rw [if_pos hl] at r
    exact r
  | @bin l lo mid hi s p a b g1 hs hp hl g2 ih1 ih2 =>
    intro n hn
    have f1 := fact g1
    have f2 := fact g2
    have l1 := f1.lt id
    have l2 := f2.lt id
    have hsc := scan_bin (hi := hi) f1.bal l1 hs hp (by lia) (f1.out.mono fun k s _ _ q => q.2) (f2.out.mono fun k s _ _ q => q.2)
    have bg := begins g1
    have hlf := lft_ge p
    have hp9 := rank_le hp
    have hp4 := rank_ne4 hp
    obtain ⟨n, rfl⟩ := pre n (by lia)
    exact gr_bin (n := n) (fl := l) hT (by lia) f2.bal.len ⟨fun q => by have := bg.1 q; rw [hsc]; show ¬ (3 : Int) < (p : Int); lia, fun q => by have := bg.2 q; rw [hsc]; show ¬ (7 : Int) < (p : Int); lia⟩ (pre n (by lia)) (by rw [hsc]) (by rw [hsc]) hs hl
      (r1 := some a) (r2 := some b) (fun t' e => by cases e; exact f1.tup) (fun t' e => by cases e; exact f2.tup) (ih1 n (by lia)) (ih2 n (by lia))
  | @prim l lo hi t g' ih =>
    intro n hn
    have f := fact g'
    have hlt := f.lt id
    have bg := begins g'
    have hsc := scan_pr f.out
    obtain ⟨n, rfl⟩ := pre n (by lia)
    exact gr_prim (n := n) hT hlt f.bal.len ⟨fun q => (by rw [bg.1] at q; cases q), fun q => (by rw [bg.2] at q; cases q)⟩ (pre n (by lia)) (by rw [hsc]; decide) (ih n (by lia))
  | @const lo t h h2 h3 =>
    intro n hn
    obtain ⟨n, rfl⟩ := pre n (by lia)
    exact gp_const hz1 h h2 h3 (pre n (by lia))
  | @name lo s h =>
    intro n hn
    obtain ⟨n, rfl⟩ := pre n (by lia)
    obtain ⟨n, rfl⟩ := pre n (by lia)
    exact gp_name hz1 h (gn_1 hT h)
  | @ref0 lo s h h1 h2 => exact ⟨s, [], lo + 2, rfl, rfl, by lia, h, h1, Bal.nil (by have := lt_op h2; lia), h2, fun _ => rfl, Out.nil, fun q => absurd rfl q⟩
  | @ref lo mid s rows h h1 g' h2 ih =>
    have f := fact g'
    have hlt := f.lt id
    exact ⟨s, rows, mid, rfl, rfl, by lia, h, h1, f.bal, h2, fun q => by lia, f.out, fun _ n hn => by simpa using ih rows rfl n (by lia) []⟩
  | @refp lo hi t g' ih =>
    intro n hn
    refine glq fun Gq kq => ?_
    obtain ⟨s, rows, e, rfl, rfl, hle, h, h1, b, h2, h0, ho, hr⟩ := ih
    refine kq ?_
    clear kq Gq
    obtain ⟨n, rfl⟩ := pre n (by lia)
    obtain ⟨n, rfl⟩ := pre n (by lia)
    have hlte := lt_op h2
    refine gp_name hz1 h ?_
    have hcl := lclose_bal b h1 h2 0
    have r := gn_args (n := n) (lo := lo) (hi := e + 1) hT hz0 h (by lia) (by lia) h1 hcl (by lia) hle (by lia) (by rw [parts_no nbr_colon hle _ ho]; simp) (r := some rows) (fun q => by rw [h0 q]) (fun q => hr q n (by lia))
      (m2 := 0) (e2 := 0) (fun _ q => absurd rfl q) (fun q => absurd rfl q) (rc := none) (fun _ _ q => absurd rfl q) ⟨n - 2, by lia⟩
    have e1 : (some rows : Option (List PyData)).bind (fun rows => if e = e + 1 - 1 then some (refT s rows) else if isOp ts (e + 1) (Str.ofString "(") = true ∧ 0 = e + 1 - 1 then none else none) = some (refT s rows) := by
      show (if e = e + 1 - 1 then _ else _) = _
      rw [if_pos (by lia)]
    rw [e1] at r
    exact r
  | @subn lo mid s a b h h1 g' h2 ih =>
    intro n hn
    have f := fact g'
    have hle := f.bal.le
    have hltm := lt_op h2
    obtain ⟨c, hp, hc1, hc2, hr⟩ := ih a b rfl
    obtain ⟨n, rfl⟩ := pre n (by lia)
    obtain ⟨n, rfl⟩ := pre n (by lia)
    obtain ⟨n, rfl⟩ := pre n (by lia)
    refine gp_name hz1 h ?_
    have hcl := lclose_bal f.bal h1 h2 0
    have r := gn_cut (n := n + 1) (lo := lo) (hi := mid + 1) hT hz0 h (by lia) (by lia) h1 hcl (by lia) hle (by lia) (by rw [hp]; simp) (r := some (subT (nameT s) a b)) (fun _ => by
        have q := g_cut_law (n := n) (base := nameT s) (r := some [a, b]) hT hz0 hle (by lia) (fun _ => by rw [hp]; exact hr n (by lia)) (fun _ l e => by cases e; rfl) ⟨n - 2, by lia⟩
        rw [hp] at q
        exact q) ⟨n - 1, by lia⟩
    rw [if_pos (by lia)] at r
    exact r
  | @subr lo k mid t a b g1 h1 g2 h2 ih1 ih2 =>
    intro n hn
    refine glq fun Gq kq => ?_
    obtain ⟨s, rows, e, rfl, rfl, hle, h, ha, b1, hb, h0, ho, hr⟩ := ih1
    refine kq ?_
    clear kq Gq
    have f := fact g2
    have hle2 := f.bal.le
    have hltm := lt_op h2
    obtain ⟨c, hp, hc1, hc2, hrc⟩ := ih2 a b rfl
    obtain ⟨n, rfl⟩ := pre n (by lia)
    obtain ⟨n, rfl⟩ := pre n (by lia)
    obtain ⟨n, rfl⟩ := pre n (by lia)
    refine gp_name hz1 h ?_
    have hcl := lclose_bal b1 ha hb 0
    have hcl2 := lclose_bal f.bal h1 h2 0
    have r := gn_args (n := n + 1) (lo := lo) (hi := mid + 1) hT hz0 h (by lia) (by lia) ha hcl (by lia) hle (by lia) (by rw [parts_no nbr_colon hle _ ho]; simp) (r := some rows) (fun q => by rw [h0 q]) (fun q => hr q (n + 1) (by lia))
      (m2 := mid + 1 - (e + 1) + 0) (e2 := mid) (fun _ _ => hcl2) (fun _ _ => by lia) (rc := some (subT (refT s rows) a b)) (fun rows' er _ _ _ => by
        cases er
        have q := g_cut_law (n := n) (base := refT s rows) (lo := e + 2) (hi := mid) (r := some [a, b]) hT hz0 hle2 (by lia) (fun _ => by rw [hp]; exact hrc n (by lia)) (fun _ l e => by cases e; rfl) ⟨n - 2, by lia⟩
        rw [hp] at q
        exact q) ⟨n - 1, by lia⟩
    have e1 : (some rows : Option (List PyData)).bind (fun rows' => if e = mid + 1 - 1 then some (refT s rows') else if isOp ts (e + 1) (Str.ofString "(") = true ∧ mid = mid + 1 - 1 then some (subT (refT s rows) a b) else none) = some (subT (refT s rows) a b) := by
      show (if e = mid + 1 - 1 then _ else _) = _
      rw [if_neg (by lia), if_pos ⟨h1, by lia⟩]
    rw [e1] at r
    exact r
  | @ct lo c hi a b g1 h g2 ih1 ih2 =>
    intro a' b' e
    cases e
    have f1 := fact g1
    have f2 := fact g2
    have l1 := f1.bal.le
    have l2 := f2.bal.le
    refine ⟨c, ?_, l1, by lia, fun n hn => ?_⟩
    · rw [parts_at nbr_colon f1.bal (f1.out.mono fun k s _ _ q => q.2) h (by lia), parts_no nbr_colon l2 _ (f2.out.mono fun k s _ _ q => q.2)]
    · have second : ∀ acc, CutRun n (ts.map Tk.e2) [(c + 1, hi)] acc (some (acc ++ [b])) := by
        intro acc
        rcases ih2 with ⟨e1, rfl⟩ | ⟨e1, e2, e3⟩
        · exact .empty (by lia) .nil
        · exact .one e1 (e3 n (by lia)) e2 .nil
      rcases ih1 with ⟨e1, rfl⟩ | ⟨e1, e2, e3⟩
      · exact .empty (by lia) (second _)
      · exact .one e1 (e3 n (by lia)) e2 (second _)
  | op0 _ => exact .inl ⟨rfl, rfl⟩
  | @op1 lo hi t g' ih => exact .inr ⟨(fact g').lt id, fun t' e => by cases e; exact (fact g').tup, ih⟩
  | @ar1 lo hi t g' ih =>
    intro rows e n hn acc
    cases e
    have f := fact g'
    rw [parts_no nbr_comma f.bal.le _ (f.out.mono fun k s _ _ q => q.1.1)]
    exact .one (ih n (by lia)) (fun t' e => by cases e; exact f.tup) .nil
  | @arc lo mid hi t rows g1 h g2 ih1 ih2 =>
    intro rows' e n hn acc
    cases e
    have f1 := fact g1
    have f2 := fact g2
    have l1 := f1.lt id
    have l2 := f2.lt id
    rw [parts_at nbr_comma f1.bal (f1.out.mono fun k s _ _ q => q.1.1) h (by lia)]
    have := ih2 rows rfl n (by lia) (acc ++ [t])
    rw [List.append_assoc] at this
    exact .one (ih1 n (by lia)) (fun t' e => by cases e; exact f1.tup) this
  | @br lo mid t h1 g' h2 ih =>
    intro n hn
    have f := fact g'
    have hlt := f.lt id
    have hltm := lt_op h2
    obtain ⟨n, rfl⟩ := pre n (by lia)
    have hp := parts_no nbr_comma f.bal.le (lo + 1) (f.out.mono fun k s _ _ q => q.1.1)
    have r := gp_br (n := n) (lo := lo) (hi := mid + 1) hz0 hmk h1 (by lia) (by lia) (lclose_bal f.bal h1 h2 0) (by lia) (by lia) (r := some t) (fun _ _ => ih n (by lia)) ⟨n - 3, by lia⟩ (fun _ p hp' => by
      rw [show mid + 1 - 1 = mid from by lia, hp, List.mem_singleton] at hp'
      subst hp'
      exact ⟨by show lo + 1 ≤ mid; lia, by show mid ≤ _; lia⟩)
    rw [if_pos (by lia), show mid + 1 - 1 = mid from by lia, hp] at r
    exact r
  | @cp lo c d h1 hc h2 hd h3 =>
    intro n hn
    obtain ⟨b1, l1⟩ := part_bal hc
    obtain ⟨b2, l2⟩ := part_bal hd
    have hltd := lt_op h3
    have b0 : Bal ts c (c + 1) := Bal.tok (lt_op h2) (isOp_dl h2 nbr_comma)
    have bb := (b1.app b0).app b2
    have hp : partsN ts comma (d - (lo + 1)) (lo + 1) 0 (lo + 1) = [(lo + 1, c), (c + 1, d)] := by
      rw [parts_at nbr_comma b1 (part_out hc) h2 (by lia), parts_no nbr_comma b2.le _ (part_out hd)]
    obtain ⟨n, rfl⟩ := pre n (by lia)
    have r := gp_br (n := n) (lo := lo) (hi := d + 1) hz0 hmk h1 (by lia) (by lia) (lclose_bal bb h1 h3 0) (by lia) (by lia) (r := none) (fun _ q => by
      rw [show d + 1 - 1 = d from by lia, hp] at q
      cases q) ⟨n - 3, by lia⟩ (fun _ p hp' => by
      rw [show d + 1 - 1 = d from by lia, hp] at hp'
      simp only [List.mem_cons, List.not_mem_nil, or_false] at hp'
      rcases hp' with rfl | rfl
      · exact ⟨by show lo + 1 ≤ c; lia, by show c ≤ _; lia⟩
      · exact ⟨by show c + 1 ≤ d; lia, by show d ≤ _; lia⟩)
    rw [if_pos (by lia), show d + 1 - 1 = d from by lia, hp] at r
    have e1 : lpart ts (lo + 1) c = some (partT ts (lo + 1)) := by unfold lpart; rw [if_pos hc]
    have e2 : lpart ts (c + 1) d = some (partT ts (c + 1)) := by unfold lpart; rw [if_pos hd]
    dsimp only at r
    rw [e1, e2] at r
    exact r
end
section
variable {ts : List Tk}
theorem Bal.split {lo k hi : Nat} (b : Bal ts lo hi) (h1 : lo ≤ k) (h2 : k ≤ hi) (hd : dpN ts lo (k - lo) = 0) : Bal ts lo k ∧ Bal ts k hi := by
  have hl := b.len
  refine ⟨⟨h1, by lia, fun m hm => b.nn m (by lia), hd⟩, ⟨h2, hl, fun m hm => ?_, ?_⟩⟩
  · have := b.nn ((k - lo) + m) (by lia)
    rw [dpN_add, hd, show lo + (k - lo) = k from by lia] at this
    lia
  · have := b.fin
    rw [show hi - lo = (k - lo) + (hi - k) from by lia, dpN_add, hd, show lo + (k - lo) = k from by lia] at this
    lia
theorem Bal.tail {lo hi : Nat} (b : Bal ts lo hi) (h : lo < hi) (hd : dl ts lo = 0) : Bal ts (lo + 1) hi :=
  (b.split (k := lo + 1) (by lia) (by lia) (by rw [show lo + 1 - lo = 1 from by lia, dpN_one, hd])).2
theorem scan_found (l : Nat) : ∀ (m k : Nat) (d B S : Int), scanN ts l m k d B S = (B, S) ∨ ∃ j s r, j < m ∧ d + dpN ts k j = 0 ∧ l < k + j ∧ ts[k + j]? = some (.op s) ∧ rankZ s = some r ∧ ¬ isBr s ∧ scanN ts l m k d B S = (r, ((k + j : Nat) : Int))
  | 0, k, d, B, S => .inl rfl
  | m + 1, k, d, B, S => by
    have lift : ∀ {B' S' : Int}, (∃ j s r, j < m ∧ d + dl ts k + dpN ts (k + 1) j = 0 ∧ l < k + 1 + j ∧ ts[k + 1 + j]? = some (.op s) ∧ rankZ s = some r ∧ ¬ isBr s ∧ scanN ts l m (k + 1) (d + dl ts k) B' S' = (r, ((k + 1 + j : Nat) : Int))) →
        ∃ j s r, j < m + 1 ∧ d + dpN ts k j = 0 ∧ l < k + j ∧ ts[k + j]? = some (.op s) ∧ rankZ s = some r ∧ ¬ isBr s ∧ scanN ts l m (k + 1) (d + dl ts k) B' S' = (r, ((k + j : Nat) : Int)) := by
      rintro B' S' ⟨j, s, r, q1, q2, q3, q4, q5, q6, q7⟩
      refine ⟨1 + j, s, r, by lia, by rw [dpN_add, dpN_one]; lia, by lia, by rw [show k + (1 + j) = k + 1 + j from by lia]; exact q4, q5, q6, ?_⟩
      rw [q7, show k + (1 + j) = k + 1 + j from by lia]
    rw [scan_step]
    split
    · rename_i hc
      split
      · rename_i r hr
        refine glq fun Gq kq => ?_
        obtain ⟨s, h1, h2, h3⟩ := mark_some hr
        refine kq ?_
        clear kq Gq
        have hd0 : d + dpN ts k 0 = 0 := by
          have := dl_op h1 h3
          rw [this] at hc
          show d + 0 = 0
          lia
        split
        · rcases scan_found l m (k + 1) (d + dl ts k) r (k : Nat) with e | e
          · exact .inr ⟨0, s, r, by lia, hd0, by lia, h1, h2, h3, e⟩
          · exact .inr (lift e)
        · rcases scan_found l m (k + 1) (d + dl ts k) B S with e | e
          · exact .inl e
          · exact .inr (lift e)
      · rcases scan_found l m (k + 1) (d + dl ts k) B S with e | e
        · exact .inl e
        · exact .inr (lift e)
    · rcases scan_found l m (k + 1) (d + dl ts k) B S with e | e
      · exact .inl e
      · exact .inr (lift e)
theorem scan_res {lo hi : Nat} (h : lo ≤ hi) : scanOf ts lo hi = (99, -1) ∨ ∃ k s r, lo < k ∧ k < hi ∧ dpN ts lo (k - lo) = 0 ∧ ts[k]? = some (.op s) ∧ rankZ s = some r ∧ ¬ isBr s ∧ scanOf ts lo hi = (r, ((k : Nat) : Int)) := by
  rcases scan_found (ts := ts) lo (hi - lo) lo 0 99 (-1) with e | ⟨j, s, r, q1, q2, q3, q4, q5, q6, q7⟩
  · exact .inl e
  · exact .inr ⟨lo + j, s, r, by lia, by lia, by rw [show lo + j - lo = j from by lia]; lia, q4, q5, q6, q7⟩
theorem lclose_ex {lo hi : Nat} (b : Bal ts lo hi) (h : lo < hi) (ho : isOp ts lo (Str.ofString "(") = true) : ∃ e, lcloseN ts (hi - lo) lo 0 = some e ∧ lo < e ∧ e < hi ∧ Bal ts (lo + 1) e ∧ isOp ts e (Str.ofString ")") = true := by
  have run : ∀ (j m : Nat), j = hi - (lo + 1) - m → m ≤ hi - (lo + 1) → (∀ m' ≤ m, 0 ≤ dpN ts (lo + 1) m') → ∃ e, lcloseN ts j (lo + 1 + m) (1 + dpN ts (lo + 1) m) = some e ∧ lo < e ∧ e < hi ∧ Bal ts (lo + 1) e ∧ isOp ts e (Str.ofString ")") = true := by
    have hfin := b.fin
    rw [show hi - lo = 1 + (hi - (lo + 1)) from by lia, dpN_add, dpN_one, dl_open ho] at hfin
    intro j
    induction j with
    | zero =>
      intro m hj hm hnn
      have : m = hi - (lo + 1) := by lia
      subst this
      have := hnn _ (Nat.le_refl _)
      lia
    | succ j ih =>
      intro m hj hm hnn
      have e1 : dpN ts (lo + 1) (m + 1) = dpN ts (lo + 1) m + dl ts (lo + 1 + m) := rfl
      have h0 := hnn m (Nat.le_refl _)
      unfold lcloseN
      by_cases hz : 1 + dpN ts (lo + 1) m + dl ts (lo + 1 + m) = 0
      · rw [if_pos hz]
        have hneg : dl ts (lo + 1 + m) < 0 := by lia
        have hs : isOp ts (lo + 1 + m) (Str.ofString ")") = true := by
          unfold dl at hneg
          split at hneg
          · lia
          · split at hneg
            · assumption
            · lia
        have hd := dl_shut hs
        have hlen := b.len
        exact ⟨lo + 1 + m, rfl, by lia, by lia, ⟨by lia, by lia, fun m' hm' => hnn m' (by lia), by rw [show lo + 1 + m - (lo + 1) = m from by lia]; lia⟩, hs⟩
      · rw [if_neg hz]
        have hnn' : ∀ m' ≤ m + 1, 0 ≤ dpN ts (lo + 1) m' := by
          intro m' hm'
          by_cases q : m' ≤ m
          · exact hnn m' q
          · have : m' = m + 1 := by lia
            subst this
            have := b.nn (1 + (m + 1)) (by lia)
            rw [dpN_add, dpN_one, dl_open ho] at this
            lia
        have := ih (m + 1) (by lia) (by lia) hnn'
        rw [e1, show 1 + (dpN ts (lo + 1) m + dl ts (lo + 1 + m)) = 1 + dpN ts (lo + 1) m + dl ts (lo + 1 + m) from by lia] at this
        exact this
  obtain ⟨e, h1, h2⟩ := run (hi - (lo + 1)) 0 (by lia) (by lia) (fun m' hm' => by rw [show m' = 0 from by lia]; exact Int.le_refl _)
  refine ⟨e, ?_, h2⟩
  rw [show hi - lo = (hi - (lo + 1)) + 1 from by lia]
  unfold lcloseN
  rw [dl_open ho, if_neg (by decide)]
  exact h1
end
inductive Parts (ts : List Tk) (x : Str) : Nat → Nat → List (Nat × Nat) → Prop
  | last {lo hi} : Bal ts lo hi → (Out ts lo hi fun _ s => s ≠ x) → Parts ts x lo hi [(lo, hi)]
  | cons {lo mid hi ps} : Bal ts lo mid → (Out ts lo mid fun _ s => s ≠ x) → isOp ts mid x = true → mid < hi → Parts ts x (mid + 1) hi ps → Parts ts x lo hi ((lo, mid) :: ps)
section
variable {ts : List Tk} {x : Str}
theorem first_sep {lo : Nat} : ∀ m : Nat, (Out ts lo (lo + m) fun _ s => s ≠ x) ∨ ∃ k, lo ≤ k ∧ k < lo + m ∧ dpN ts lo (k - lo) = 0 ∧ isOp ts k x = true ∧ Out ts lo k fun _ s => s ≠ x
  | 0 => .inl Out.nil
  | m + 1 => by
    rcases first_sep (lo := lo) m with h | ⟨k, h1, h2, h3⟩
    · by_cases q : dpN ts lo m = 0 ∧ isOp ts (lo + m) x = true
      · exact .inr ⟨lo + m, by lia, by lia, by rw [show lo + m - lo = m from by lia]; exact q.1, q.2, h⟩
      · refine .inl fun k s a b c d e => ?_
        by_cases hk : k < lo + m
        · exact h k s a hk c d e
        · have : k = lo + m := by lia
          subst this
          rintro rfl
          rw [show lo + m - lo = m from by lia] at c
          exact q ⟨c, isOp_iff.mpr d⟩
    · exact .inr ⟨k, h1, by lia, h3⟩
theorem parts_spec (hx : ¬ isBr x) : ∀ (m lo hi : Nat), hi ≤ m + lo → Bal ts lo hi → Parts ts x lo hi (partsN ts x (hi - lo) lo 0 lo)
  | m, lo, hi, hm, b => by
    have hle := b.le
    rcases first_sep (ts := ts) (x := x) (lo := lo) (hi - lo) with h | ⟨k, h1, h2, h3, h4, h5⟩
    · rw [show lo + (hi - lo) = hi from by lia] at h
      rw [parts_no hx hle lo h]
      exact .last b h
    · obtain ⟨b1, b2⟩ := b.split h1 (by lia) h3
      have b3 := b2.tail (by lia) (isOp_dl h4 hx)
      rw [parts_at hx b1 h5 h4 (by lia)]
      match m with
      | 0 => lia
      | m + 1 => exact .cons b1 h5 h4 (by lia) (parts_spec hx m (k + 1) hi (by lia) b3)
theorem Parts.mem {lo hi : Nat} {ps : List (Nat × Nat)} (h : Parts ts x lo hi ps) : ∀ p ∈ ps, lo ≤ p.1 ∧ p.1 ≤ p.2 ∧ p.2 ≤ hi ∧ Bal ts p.1 p.2 := by
  induction h with
  | last b _ => intro p hp; rw [List.mem_singleton.mp hp]; exact ⟨Nat.le_refl _, b.le, Nat.le_refl _, b⟩
  | cons b _ _ hlt _ ih =>
    intro p hp
    have := b.le
    rcases List.mem_cons.mp hp with rfl | hp
    · exact ⟨Nat.le_refl _, b.le, by lia, b⟩
    · obtain ⟨q1, q2, q3, q4⟩ := ih p hp
      exact ⟨by lia, q2, q3, q4⟩
end
noncomputable def LS (ts : List Tk) (lo hi l : Nat) : Prop := ∃ r, RT r ∧ (∀ n, hi + 6 ≤ n + lo → GR n (ts.map Tk.e2) lo hi l r) ∧ ∀ t, r = some t → Gr ts (.e l) lo hi t
section
variable {ts : List Tk}
theorem rows_sound {lo hi : Nat} {ps : List (Nat × Nat)} (hp : Parts ts comma lo hi ps) (H : ∀ lo' hi', lo ≤ lo' → hi' ≤ hi → Bal ts lo' hi' → LS ts lo' hi' 1) :
    ∃ r : Option (List PyData), (∀ n, hi + 6 ≤ n + lo → ∀ acc, RowRun n (ts.map Tk.e2) ps acc (r.map (acc ++ ·))) ∧ ∀ rows, r = some rows → Gr ts .ar lo hi (.list rows) := by
  induction hp with
  | @last lo hi b _ =>
    obtain ⟨r, h1, h2, h3⟩ := H lo hi (Nat.le_refl _) (Nat.le_refl _) b
    cases r with
    | none => exact ⟨none, fun n hn acc => .bad (h2 n hn), fun rows e => by cases e⟩
    | some t => exact ⟨some [t], fun n hn acc => .one (h2 n hn) h1 .nil, fun rows e => by cases e; exact .ar1 (h3 t rfl)⟩
  | @cons lo mid hi ps b _ ho hlt hp ih =>
    have hle := b.le
    obtain ⟨r, h1, h2, h3⟩ := H lo mid (Nat.le_refl _) (by lia) b
    cases r with
    | none => exact ⟨none, fun n hn acc => .bad (h2 n (by lia)), fun rows e => by cases e⟩
    | some t =>
      obtain ⟨r2, q1, q2⟩ := ih fun lo' hi' a c d => H lo' hi' (by lia) c d
      refine ⟨r2.map (t :: ·), fun n hn acc => ?_, fun rows e => ?_⟩
      · have := q1 n (by lia) (acc ++ [t])
        have e : Option.map (acc ++ ·) (r2.map (t :: ·)) = r2.map ((acc ++ [t]) ++ ·) := by cases r2 <;> simp
        rw [e]
        exact .one (h2 n (by lia)) h1 this
      · cases r2 with
        | none => cases e
        | some rs => cases e; exact .arc (h3 t rfl) ho (q2 rs rfl)
theorem opt_sound {a b : Nat} (hab : a ≤ b) (hl : b ≤ ts.length) (H : a < b → LS ts a b 1) : ∃ r : Option PyData, (∀ n, b + 6 ≤ n + a → ∀ ps acc q, (∀ t, r = some t → CutRun n (ts.map Tk.e2) ps (acc ++ [t]) q) → CutRun n (ts.map Tk.e2) ((a, b) :: ps) acc (r.bind fun _ => q)) ∧ ∀ t, r = some t → Gr ts .opt a b t := by
  by_cases h : a < b
  · obtain ⟨r, h1, h2, h3⟩ := H h
    cases r with
    | none => exact ⟨none, fun n hn ps acc q _ => .bad h (h2 n hn), fun t e => by cases e⟩
    | some t => exact ⟨some t, fun n hn ps acc q hq => .one h (h2 n hn) h1 (hq t rfl), fun t' e => by cases e; exact .op1 (h3 t rfl)⟩
  · have : a = b := by lia
    subst this
    exact ⟨some .none, fun n hn ps acc q hq => .empty h (hq .none rfl), fun t e => by cases e; exact .op0 hl⟩
theorem cut_sound {lo hi a c b d : Nat} (hp : Parts ts colon lo hi [(a, c), (b, d)]) (H : ∀ lo' hi', lo ≤ lo' → hi' ≤ hi → hi' + lo < hi + lo' → Bal ts lo' hi' → LS ts lo' hi' 1) :
    ∃ r : Option (List PyData), (∀ n, hi + 5 ≤ n + lo → CutRun n (ts.map Tk.e2) [(a, c), (b, d)] [] r) ∧ (∀ l, r = some l → l.length = 2) ∧ ∀ u v, r = some [u, v] → Gr ts .ct lo hi (.tuple [u, v]) := by
  cases hp with
  | cons b1 _ ho hlt hp2 =>
    cases hp2 with
    | cons _ _ _ _ h => cases h
    | last b2 _ =>
      have l1 := b1.le
      have l2 := b2.le
      obtain ⟨r1, p1, g1⟩ := opt_sound (ts := ts) l1 b1.len fun h => H _ _ (Nat.le_refl _) (by lia) (by lia) b1
      obtain ⟨r2, p2, g2⟩ := opt_sound (ts := ts) l2 b2.len fun h => H _ _ (by lia) (Nat.le_refl _) (by lia) b2
      refine ⟨r1.bind fun u => r2.map fun v => [u, v], fun n hn => ?_, fun l e => ?_, fun u v e => ?_⟩
      · cases r1 with
        | none => exact p1 n (by lia) _ [] none fun t e => by cases e
        | some u =>
          refine p1 n (by lia) _ [] (r2.map fun v => [u, v]) fun t e => ?_
          cases e
          cases r2 with
          | none => exact p2 n (by lia) _ _ none fun t e => by cases e
          | some v => exact p2 n (by lia) _ _ (some [u, v]) fun t e => by cases e; exact .nil
      · cases r1 <;> cases r2 <;> first | (cases e; rfl) | cases e
      · cases r1 with
        | none => cases e
        | some u' =>
          cases r2 with
          | none => cases e
          | some v' => cases e; exact .ct (g1 _ rfl) ho (g2 _ rfl)
end
section
variable {ts : List Tk}
noncomputable def LPr (ts : List Tk) (lo hi : Nat) : Prop := ∃ r, RT r ∧ (∀ n, hi + 5 ≤ n + lo → GP n (ts.map Tk.e2) lo hi r) ∧ ∀ t, r = some t → Gr ts .pr lo hi t
noncomputable def LNm (ts : List Tk) (lo hi : Nat) : Prop := ∃ r, RT r ∧ (∀ n, hi + 4 ≤ n + lo → GN n (ts.map Tk.e2) lo hi r) ∧ ∀ t, r = some t → Gr ts .pr lo hi t
theorem cutOf_sound (hz0 : ts.length ≤ 800) {lo hi : Nat} (b : Bal ts lo hi) (H : ∀ lo' hi', lo ≤ lo' → hi' ≤ hi → hi' + lo < hi + lo' → Bal ts lo' hi' → LS ts lo' hi' 1) (base : PyData) :
    ∃ r : Option PyData, RT r ∧ (∀ n, hi + 6 ≤ n + lo → GC n (ts.map Tk.e2) lo hi base r) ∧ ∀ t, r = some t → ∃ u v, t = subT base u v ∧ Gr ts .ct lo hi (.tuple [u, v]) := by
  have hT := e2_TK (ts := ts) (by lia)
  have hle0 := b.le
  have hp := parts_spec (ts := ts) nbr_colon _ lo hi (Nat.le_add_right _ _) b
  by_cases h2 : (partsN ts colon (hi - lo) lo 0 lo).length = 2
  · generalize hP : partsN ts colon (hi - lo) lo 0 lo = P at hp h2
    match P, h2, hp, hP with
    | [(a, c), (b', d)], _, hp, hP =>
      obtain ⟨r, q1, q2, q3⟩ := cut_sound hp H
      refine ⟨cutOf base [(a, c), (b', d)] r, ?_, fun n hn => ?_, fun t e => ?_⟩
      · intro t e
        unfold cutOf at e
        rw [if_pos (show [(a, c), (b', d)].length = 2 from rfl)] at e
        split at e
        · cases e; exact ⟨_, rfl⟩
        · cases e
      · obtain ⟨n, rfl⟩ := pre n (by lia)
        have q := g_cut_law (n := n) (base := base) (r := r) hT hz0 b.le b.len (fun _ => by rw [hP]; exact q1 n (by lia)) (fun _ => q2) ⟨n - 2, by lia⟩
        rw [hP] at q
        exact q
      · unfold cutOf at e
        rw [if_pos (show [(a, c), (b', d)].length = 2 from rfl)] at e
        split at e
        · rename_i u v
          cases e
          exact ⟨u, v, rfl, q3 u v rfl⟩
        · cases e
  · refine ⟨none, fun t e => (by cases e), fun n hn => ?_, fun t e => (by cases e)⟩
    obtain ⟨n, rfl⟩ := pre n (by lia)
    have q := g_cut_law (n := n) (base := base) (r := none) hT hz0 b.le b.len (fun q => absurd q h2) (fun q => absurd q h2) ⟨n - 2, by lia⟩
    unfold cutOf at q
    rw [if_neg h2] at q
    exact q
end
section
variable {ts : List Tk}
theorem named_sound (hz0 : ts.length ≤ 800) {lo hi : Nat} {s : Str} (h : ts[lo]? = some (.name s)) (b : Bal ts lo hi) (hlt : lo < hi) (H : ∀ lo' hi', lo ≤ lo' → hi' ≤ hi → hi' + lo < hi + lo' → Bal ts lo' hi' → LS ts lo' hi' 1) : LNm ts lo hi := by
  have hT := e2_TK (ts := ts) (by lia)
  have hlen := b.len
  have b0 := b.tail hlt (dl_tok h fun s e => by cases e)
  by_cases h1 : hi = lo + 1
  · subst h1
    refine ⟨some (nameT s), fun t e => by cases e; exact ⟨_, rfl⟩, fun n hn => ?_, fun t e => by cases e; exact .name h⟩
    obtain ⟨n, rfl⟩ := pre n (by lia)
    exact gn_1 hT h
  · cases h2 : isOp ts (lo + 1) (Str.ofString "(") with
    | false =>
      refine ⟨none, fun t e => (by cases e), fun n hn => ?_, fun t e => (by cases e)⟩
      obtain ⟨n, rfl⟩ := pre n (by lia)
      exact gn_x hT h (by lia) hlen h2 ⟨n - 1, by lia⟩
    | true =>
      obtain ⟨e, he, e1, e2, be, he2⟩ := lclose_ex b0 (by lia) h2
      have hle := be.le
      by_cases hc : 1 < (partsN ts colon (e - (lo + 2)) (lo + 2) 0 (lo + 2)).length
      · refine glq fun Gq kq => ?_
        obtain ⟨r, q1, q2, q3⟩ := cutOf_sound hz0 be (fun lo' hi' a c d bb => H lo' hi' (by lia) (by lia) (by lia) bb) (nameT s)
        refine kq ?_
        clear kq Gq
        refine ⟨if e = hi - 1 then r else none, fun t q => ?_, fun n hn => ?_, fun t q => ?_⟩
        · split at q
          · exact q1 t q
          · cases q
        · obtain ⟨n, rfl⟩ := pre n (by lia)
          exact gn_cut (n := n) hT hz0 h (by lia) hlen h2 he (by lia) hle (by lia) hc (fun _ => q2 n (by lia)) ⟨n - 2, by lia⟩
        · split at q
          · rename_i hee
            obtain ⟨u, v, rfl, g⟩ := q3 t q
            have : hi = e + 1 := by lia
            subst this
            exact .subn h h2 g he2
          · cases q
      · have hrows : ∃ r : Option (List PyData), (e = lo + 2 → r = some []) ∧ (e ≠ lo + 2 → ∀ n, e + 6 ≤ n + (lo + 2) → RowRun n (ts.map Tk.e2) (partsN ts comma (e - (lo + 2)) (lo + 2) 0 (lo + 2)) [] r) ∧ ∀ rows, r = some rows → Gr ts .rf lo (e + 1) (refT s rows) := by
          by_cases h0 : e = lo + 2
          · subst h0
            exact ⟨some [], fun _ => rfl, fun q => absurd rfl q, fun rows q => by cases q; exact .ref0 h h2 he2⟩
          · obtain ⟨r, q1, q2⟩ := rows_sound (parts_spec (ts := ts) nbr_comma _ _ _ (Nat.le_add_right _ _) be) fun lo' hi' a c bb => H lo' hi' (by lia) (by lia) (by have := bb.le; lia) bb
            refine ⟨r, fun q => absurd q h0, fun _ n hn => ?_, fun rows q => .ref h h2 (q2 rows q) he2⟩
            have := q1 n hn []
            cases r <;> simpa using this
        obtain ⟨r, r0, r1, r2⟩ := hrows
        by_cases hee : e = hi - 1
        · refine ⟨r.map (refT s), fun t q => by cases r <;> cases q; exact ⟨_, rfl⟩, fun n hn => ?_, fun t q => ?_⟩
          · obtain ⟨n, rfl⟩ := pre n (by lia)
            have z := gn_args (n := n) (lo := lo) (hi := hi) hT hz0 h (by lia) hlen h2 he (by lia) hle e2 hc (r := r) r0 (fun q => r1 q n (by lia)) (m2 := 0) (e2 := 0) (fun _ q => absurd hee q) (fun q => absurd hee q) (rc := none) (fun _ _ q => absurd hee q) ⟨n - 2, by lia⟩
            have : (r.bind fun rows => if e = hi - 1 then some (refT s rows) else if isOp ts (e + 1) (Str.ofString "(") = true ∧ 0 = hi - 1 then none else none) = r.map (refT s) := by
              cases r with
              | none => rfl
              | some rows => show (if e = hi - 1 then _ else _) = _; rw [if_pos hee]; rfl
            rw [this] at z
            exact z
          · cases r with
            | none => cases q
            | some rows =>
              cases q
              have : hi = e + 1 := by lia
              subst this
              exact .refp (r2 rows rfl)
        · have b2 := (b.split (k := e + 1) (by lia) (by lia) (by
            have bb := be.br h2 he2
            have := bb.fin
            rw [show e + 1 - lo = 1 + (e + 1 - (lo + 1)) from by lia, dpN_add, dpN_one, this, dl_tok h (fun s e => by cases e)]
            rfl)).2
          cases h3 : isOp ts (e + 1) (Str.ofString "(") with
          | false =>
            refine ⟨none, fun t q => (by cases q), fun n hn => ?_, fun t q => (by cases q)⟩
            obtain ⟨n, rfl⟩ := pre n (by lia)
            have z := gn_args (n := n) (lo := lo) (hi := hi) hT hz0 h (by lia) hlen h2 he (by lia) hle e2 hc (r := r) r0 (fun q => r1 q n (by lia)) (m2 := 0) (e2 := 0) (fun q => by rw [h3] at q; cases q) (fun _ q => by rw [h3] at q; cases q) (rc := none) (fun _ _ _ q => by rw [h3] at q; cases q) ⟨n - 2, by lia⟩
            have : (r.bind fun rows => if e = hi - 1 then some (refT s rows) else if isOp ts (e + 1) (Str.ofString "(") = true ∧ 0 = hi - 1 then none else none) = none := by
              cases r with
              | none => rfl
              | some rows => show (if e = hi - 1 then _ else _) = _; rw [if_neg hee, if_neg (by rw [h3]; simp)]
            rw [this] at z
            exact z
          | true =>
            obtain ⟨e3, he3, f1, f2, be3, hs3⟩ := lclose_ex b2 (by lia) h3
            have hle3 := be3.le
            cases r with
            | none =>
              refine ⟨none, fun t q => (by cases q), fun n hn => ?_, fun t q => (by cases q)⟩
              obtain ⟨n, rfl⟩ := pre n (by lia)
              exact gn_args (n := n) (lo := lo) (hi := hi) hT hz0 h (by lia) hlen h2 he (by lia) hle e2 hc (r := none) r0 (fun q => r1 q n (by lia)) (m2 := hi - (e + 1)) (e2 := e3) (fun _ _ => he3) (fun _ _ => by lia) (rc := none) (fun rows q => by cases q) ⟨n - 2, by lia⟩
            | some rows =>
              obtain ⟨rc, q1, q2, q3⟩ := cutOf_sound hz0 be3 (fun lo' hi' a c d bb => H lo' hi' (by lia) (by lia) (by lia) bb) (refT s rows)
              refine ⟨if e3 = hi - 1 then rc else none, fun t q => ?_, fun n hn => ?_, fun t q => ?_⟩
              · split at q
                · exact q1 t q
                · cases q
              · obtain ⟨n, rfl⟩ := pre n (by lia)
                have z := gn_args (n := n) (lo := lo) (hi := hi) hT hz0 h (by lia) hlen h2 he (by lia) hle e2 hc (r := some rows) r0 (fun q => r1 q n (by lia)) (m2 := hi - (e + 1)) (e2 := e3) (fun _ _ => he3) (fun _ _ => by lia) (rc := rc) (fun rows' q _ _ qe => by
                  cases q
                  rw [← qe]
                  exact q2 n (by lia)) ⟨n - 2, by lia⟩
                have : ((some rows : Option (List PyData)).bind fun rows => if e = hi - 1 then some (refT s rows) else if isOp ts (e + 1) (Str.ofString "(") = true ∧ e3 = hi - 1 then rc else none) = if e3 = hi - 1 then rc else none := by
                  show (if e = hi - 1 then _ else _) = _
                  rw [if_neg hee]
                  by_cases q : e3 = hi - 1
                  · rw [if_pos ⟨h3, q⟩, if_pos q]
                  · rw [if_neg (fun z => q z.2), if_neg q]
                rw [this] at z
                exact z
              · split at q
                · rename_i qe
                  obtain ⟨u, v, rfl, g⟩ := q3 t q
                  have : hi = e3 + 1 := by lia
                  subst this
                  exact .subr (r2 rows rfl) h3 g hs3
                · cases q
end
section
variable {ts : List Tk}
theorem primary_sound (hz0 : ts.length ≤ 800) (hmk : MarksOk ts) {lo hi : Nat} (b : Bal ts lo hi) (hlt : lo < hi) (H : ∀ lo' hi', lo ≤ lo' → hi' ≤ hi → hi' + lo < hi + lo' → Bal ts lo' hi' → LS ts lo' hi' 1) : LPr ts lo hi := by
  have hlen := b.len
  have hk : lo < ts.length := by lia
  have h : ts[lo]? = some ts[lo] := List.getElem?_eq_getElem hk
  generalize ts[lo] = t at h
  have other : (∀ s, t ≠ .op s) → (∀ s, t ≠ .name s) → LPr ts lo hi := fun o1 o2 => by
    by_cases hl : hi = lo + 1
    · subst hl
      refine ⟨some (consT t 1), fun u e => (by cases e; exact consT_tup _ _), fun n hn => ?_, fun u e => (by cases e; exact .const h o1 o2)⟩
      obtain ⟨n, rfl⟩ := pre n (by lia)
      exact gp_const (by lia) h o1 o2 ⟨n - 1, by lia⟩
    · refine ⟨none, fun u e => (by cases e), fun n hn => ?_, fun u e => (by cases e)⟩
      obtain ⟨n, rfl⟩ := pre n (by lia)
      exact gp_len (by lia) h o1 o2 hl ⟨n - 1, by lia⟩
  cases t with
  | name s =>
    obtain ⟨r, q1, q2, q3⟩ := named_sound hz0 h b hlt H
    refine ⟨r, q1, fun n hn => ?_, q3⟩
    obtain ⟨n, rfl⟩ := pre n (by lia)
    exact gp_name (by lia) h (q2 n (by lia))
  | op s =>
    by_cases hs : s = Str.ofString "("
    · subst hs
      have h1 : isOp ts lo (Str.ofString "(") = true := isOp_iff.mpr h
      obtain ⟨e, he, e1, e2, be, he2⟩ := lclose_ex b hlt h1
      have hle := be.le
      by_cases hee : e = hi - 1
      · have : hi = e + 1 := by lia
        subst this
        have hp := parts_spec (ts := ts) nbr_comma _ _ _ (Nat.le_add_right _ _) be
        have go : ∀ (r1 r : Option PyData), RT r → ((partsN ts comma (e - (lo + 1)) (lo + 1) 0 (lo + 1)).length = 1 → ∀ n, e + 6 ≤ n + (lo + 1) → GR n (ts.map Tk.e2) (lo + 1) e 1 r1) →
            r = (match partsN ts comma (e - (lo + 1)) (lo + 1) 0 (lo + 1) with
              | [_] => r1
              | [a, b] => (lpart ts a.1 a.2).bind fun u => (lpart ts b.1 b.2).map fun v => cplxT u v
              | _ => none) → (∀ t, r = some t → Gr ts .pr lo (e + 1) t) → LPr ts lo (e + 1) := fun r1 r a1 a2 a3 a4 => by
          refine ⟨r, a1, fun n hn => ?_, a4⟩
          obtain ⟨n, rfl⟩ := pre n (by lia)
          have z := gp_br (n := n) (lo := lo) (hi := e + 1) hz0 hmk h1 (by lia) hlen he (by lia) (by lia) (r := r1) (fun _ q => a2 q n (by lia)) ⟨n - 3, by lia⟩ (fun _ p hp' => by
            obtain ⟨z1, z2, z3, z4⟩ := hp.mem p hp'
            exact ⟨z2, z4.len⟩)
          rw [if_pos (by lia), show e + 1 - 1 = e from by lia] at z
          rw [a3]
          exact z
        generalize hP : partsN ts comma (e - (lo + 1)) (lo + 1) 0 (lo + 1) = P at hp go
        match P, hp, go with
        | [], hp, _ => cases hp
        | [p], hp, go =>
          obtain ⟨r, q1, q2, q3⟩ := H (lo + 1) e (by lia) (by lia) (by lia) be
          exact go r r q1 (fun _ => q2) rfl fun t q => .br h1 (q3 t q) he2
        | [p1, p2], hp, go =>
          cases hp with
          | @cons _ mid _ _ b1 _ ho hlt' hp2 =>
            cases hp2 with
            | last b2 _ =>
              refine go none _ ?_ (fun q => by cases q) rfl ?_
              · intro t q
                dsimp only at q
                cases z1 : lpart ts (lo + 1) mid with
                | none => rw [z1] at q; cases q
                | some u =>
                  cases z2 : lpart ts (mid + 1) e with
                  | none => rw [z1, z2] at q; cases q
                  | some v => rw [z1, z2] at q; cases q; exact ⟨_, rfl⟩
              · intro t q
                dsimp only at q
                cases z1 : lpart ts (lo + 1) mid with
                | none => rw [z1] at q; cases q
                | some u =>
                  cases z2 : lpart ts (mid + 1) e with
                  | none => rw [z1, z2] at q; cases q
                  | some v =>
                    rw [z1, z2] at q
                    cases q
                    unfold lpart at z1 z2
                    split at z1
                    · split at z2
                      · rename_i y1 y2
                        cases z1
                        cases z2
                        exact .cp h1 y1 ho y2 he2
                      · cases z2
                    · cases z1
            | cons _ _ _ _ h => cases h
        | p1 :: p2 :: p3 :: P, hp, go =>
          exact go none none (fun t q => by cases q) (fun q => by simp at q) rfl fun t q => by cases q
      · refine ⟨none, fun u q => (by cases q), fun n hn => ?_, fun u q => (by cases q)⟩
        obtain ⟨n, rfl⟩ := pre n (by lia)
        have z := gp_br (n := n) (lo := lo) (hi := hi) hz0 hmk h1 (by lia) hlen he (by lia) (by lia) (r := none) (fun q => absurd q hee) ⟨n - 3, by lia⟩ (fun q => absurd q hee)
        rw [if_neg hee] at z
        exact z
    · refine ⟨none, fun u q => (by cases q), fun n hn => ?_, fun u q => (by cases q)⟩
      obtain ⟨n, rfl⟩ := pre n (by lia)
      exact gp_op (by lia) h hs ⟨n - 1, by lia⟩
  | _ => exact other (fun s q => by cases q) (fun s q => by cases q)
theorem law_sound (hz0 : ts.length ≤ 800) (hmk : MarksOk ts) : ∀ (m lo hi l : Nat), hi ≤ m + lo → Bal ts lo hi → LS ts lo hi l := by
  have hT := e2_TK (ts := ts) (by lia)
  intro m
  induction m with
  | zero =>
    intro lo hi l hm b
    have := b.le
    refine ⟨none, fun u q => (by cases q), fun n hn => ?_, fun u q => (by cases q)⟩
    obtain ⟨n, rfl⟩ := pre n (by lia)
    exact gr_empty (by lia)
  | succ m ih =>
    intro lo hi l hm b
    have hle := b.le
    have hlen := b.len
    by_cases hlt : lo < hi
    case neg =>
      refine ⟨none, fun u q => (by cases q), fun n hn => ?_, fun u q => (by cases q)⟩
      obtain ⟨n, rfl⟩ := pre n (by lia)
      exact gr_empty (by lia)
    by_cases hn1 : isOp ts lo (Str.ofString ".NOT.") = true ∧ 3 < (scanOf ts lo hi).1
    · have bt := b.tail hlt (isOp_dl hn1.1 (by rintro (e | e) <;> revert e <;> decide))
      refine glq fun Gq kq => ?_
      obtain ⟨r, q1, q2, q3⟩ := ih (lo + 1) hi 5 (by lia) bt
      refine kq ?_
      clear kq Gq
      refine ⟨if l ≤ 4 then r.map (unT (Str.ofString ".NOT.")) else none, fun u q => ?_, fun n hn => ?_, fun u q => ?_⟩
      · split at q
        · cases r <;> cases q
          exact ⟨_, rfl⟩
        · cases q
      · obtain ⟨n, rfl⟩ := pre n (by lia)
        exact gr_not hT hlt hlen hn1.1 hn1.2 q1 (fun _ => q2 n (by lia)) ⟨n - 1, by lia⟩
      · split at q
        · rename_i hl
          cases r with
          | none => cases q
          | some t => cases q; exact .not (isOp_iff.mp hn1.1) hl (q3 t rfl)
        · cases q
    by_cases hn2 : sgn ts lo = true ∧ 7 < (scanOf ts lo hi).1
    · obtain ⟨s, h1, hs⟩ : ∃ s, ts[lo]? = some (.op s) ∧ (s = Str.ofString "+" ∨ s = Str.ofString "-") := by
        have hs := hn2.1
        unfold sgn at hs
        cases q : isOp ts lo (Str.ofString "+") with
        | true => exact ⟨_, isOp_iff.mp q, .inl rfl⟩
        | false => rw [q, Bool.false_or] at hs; exact ⟨_, isOp_iff.mp hs, .inr rfl⟩
      have bt := b.tail hlt (dl_op h1 (by rcases hs with rfl | rfl <;> (rintro (e | e) <;> revert e <;> decide)))
      obtain ⟨r, q1, q2, q3⟩ := ih (lo + 1) hi 8 (by lia) bt
      refine ⟨if l ≤ 7 then r.map (unT s) else none, fun u q => ?_, fun n hn => ?_, fun u q => ?_⟩
      · split at q
        · cases r <;> cases q
          exact ⟨_, rfl⟩
        · cases q
      · obtain ⟨n, rfl⟩ := pre n (by lia)
        exact gr_sgn hT hlt hlen h1 hs hn2.2 q1 (fun _ => q2 n (by lia)) ⟨n - 1, by lia⟩
      · split at q
        · rename_i hl
          cases r with
          | none => cases q
          | some t => cases q; exact .sgn h1 hs hl (q3 t rfl)
        · cases q
    have hu : NotU ts lo hi := ⟨fun q z => hn1 ⟨q, z⟩, fun q z => hn2 ⟨q, z⟩⟩
    rcases scan_res (ts := ts) hle with e | ⟨k, s, r, k1, k2, k3, k4, k5, k6, e⟩
    · obtain ⟨r, q1, q2, q3⟩ := primary_sound hz0 hmk b hlt fun lo' hi' a c d bb => ih lo' hi' 1 (by lia) bb
      refine ⟨r, q1, fun n hn => ?_, fun t q => .prim (q3 t q)⟩
      obtain ⟨n, rfl⟩ := pre n (by lia)
      exact gr_prim hT hlt hlen hu ⟨n - 1, by lia⟩ (by rw [e]; show (-1 : Int) < 0; decide) (q2 n (by lia))
    · have hr := rank_le k5
      obtain ⟨p, rfl⟩ : ∃ p : Nat, r = (p : Int) := ⟨r.toNat, by lia⟩
      by_cases hl : l ≤ p
      · obtain ⟨b1, b2⟩ := b.split (by lia) (by lia) k3
        have b3 := b2.tail (by lia) (dl_op k4 k6)
        obtain ⟨r1, p1, p2, p3⟩ := ih lo k (lft p) (by lia) b1
        obtain ⟨r2, q1, q2, q3⟩ := ih (k + 1) hi (rgt p) (by lia) b3
        refine ⟨r1.bind fun a => r2.map fun b => binT s a b, fun t q => ?_, fun n hn => ?_, fun t q => ?_⟩
        · cases r1 with
          | none => cases q
          | some a => cases r2 with
            | none => cases q
            | some b => cases q; exact ⟨_, rfl⟩
        · obtain ⟨n, rfl⟩ := pre n (by lia)
          exact gr_bin hT hlt hlen hu ⟨n - 1, by lia⟩ (by rw [e]) (by rw [e]) k4 hl p1 q1 (p2 n (by lia)) (q2 n (by lia))
        · cases r1 with
          | none => cases q
          | some a => cases r2 with
            | none => cases q
            | some b => cases q; exact .bin (p3 a rfl) k4 k5 hl (q3 b rfl)
      · refine ⟨none, fun u q => (by cases q), fun n hn => ?_, fun u q => (by cases q)⟩
        obtain ⟨n, rfl⟩ := pre n (by lia)
        exact gr_low hT hlt hlen hu ⟨n - 1, by lia⟩ (by rw [e]; show ¬ ((k : Nat) : Int) < 0; lia) (by rw [e]; show ((p : Nat) : Int) < _; lia)
end
section
variable {ts : List Tk}
theorem dpN_succ (k j : Nat) : dpN ts k (j + 1) = dl ts k + dpN ts (k + 1) j := by
  rw [show j + 1 = 1 + j from by lia, dpN_add, dpN_one]
theorem even_iff : ∀ (m k : Nat) (d : Int), evenN ts m k d = true ↔ (∀ j, 1 ≤ j → j ≤ m → 0 ≤ d + dpN ts k j) ∧ d + dpN ts k m = 0
  | 0, k, d => by
    show (d == 0) = true ↔ _
    rw [beq_iff_eq]
    constructor
    · rintro rfl
      exact ⟨fun j h1 h2 => by lia, rfl⟩
    · rintro ⟨_, h⟩
      have h : d + 0 = 0 := h
      lia
  | m + 1, k, d => by
    have ih := even_iff m (k + 1) (d + dl ts k)
    unfold evenN
    by_cases hd : d + dl ts k < 0
    · rw [if_pos hd]
      constructor
      · intro q; cases q
      · rintro ⟨h1, _⟩
        have := h1 1 (by lia) (by lia)
        rw [dpN_one] at this
        lia
    · rw [if_neg hd, ih]
      constructor
      · rintro ⟨h1, h2⟩
        refine ⟨fun j j1 j2 => ?_, ?_⟩
        · obtain ⟨j, rfl⟩ : ∃ q, j = q + 1 := ⟨j - 1, by lia⟩
          rw [dpN_succ]
          rcases Nat.eq_zero_or_pos j with rfl | hj
          · show 0 ≤ d + (dl ts k + 0)
            lia
          · have := h1 j hj (by lia)
            lia
        · rw [dpN_succ]; lia
      · rintro ⟨h1, h2⟩
        refine ⟨fun j j1 j2 => ?_, ?_⟩
        · have := h1 (j + 1) (by lia) (by lia)
          rw [dpN_succ] at this
          lia
        · rw [dpN_succ] at h2; lia
theorem even_bal : evenN ts ts.length 0 0 = true ↔ Bal ts 0 ts.length := by
  rw [even_iff]
  constructor
  · rintro ⟨h1, h2⟩
    refine ⟨Nat.zero_le _, Nat.le_refl _, fun m hm => ?_, ?_⟩
    · rcases Nat.eq_zero_or_pos m with rfl | h
      · exact Int.le_refl _
      · have := h1 m h (by lia)
        lia
    · rw [Nat.sub_zero]; lia
  · intro b
    refine ⟨fun j j1 j2 => by have := b.nn j (by lia); lia, ?_⟩
    have := b.fin
    rw [Nat.sub_zero] at this
    lia
noncomputable def W (ts : List Tk) (i : Nat) : Nat := wts (ts.drop i)
theorem wt_ge (t : Tk) : 2 ≤ wt t := by unfold wt; split <;> (try split) <;> lia
theorem W_tok {i : Nat} {t : Tk} (h : ts[i]? = some t) : W ts i = wt t + W ts (i + 1) := by
  obtain ⟨h1, h2⟩ := List.getElem?_eq_some_iff.mp h
  unfold W
  rw [List.drop_eq_getElem_cons h1, h2]
  rfl
theorem W_br {i : Nat} (h : isOp ts i (Str.ofString "(") = true) : W ts i = 6 + W ts (i + 1) := by
  rw [W_tok (isOp_iff.mp h)]
  rfl
theorem W_end {i : Nat} (h : ts.length ≤ i) : W ts i = 0 := by
  unfold W
  rw [List.drop_eq_nil_of_le h]
  rfl
theorem W_succ (i : Nat) : W ts (i + 1) ≤ W ts i := by
  by_cases h : i < ts.length
  · have := W_tok (ts := ts) (List.getElem?_eq_getElem h)
    lia
  · rw [W_end (by lia)]; lia
theorem W_mono {i j : Nat} (h : i ≤ j) : W ts j ≤ W ts i := by
  induction h with
  | refl => exact Nat.le_refl _
  | step _ ih => exact Nat.le_trans (W_succ _) ih
theorem Gr.mono {l q lo hi : Nat} {t : PyData} (g : Gr ts (.e q) lo hi t) (h : l ≤ q) : Gr ts (.e l) lo hi t := by
  cases g with
  | not h1 h2 h3 => exact .not h1 (by lia) h3
  | sgn h1 h2 h3 h4 => exact .sgn h1 h2 (by lia) h4
  | bin h1 h2 h3 h4 h5 => exact .bin h1 h2 h3 (by lia) h5
  | prim h1 => exact .prim h1
theorem prio_tok {k : Nat} {p : Nat} (h : prioZ ts k = (p : Int)) (hp : 1 ≤ p) : ∃ s, ts[k]? = some (.op s) ∧ rankZ s = some (p : Int) := by
  unfold prioZ at h
  split at h
  · rename_i s e
    refine ⟨s, e, ?_⟩
    cases q : rankZ s with
    | none => rw [q] at h; have h : (0 : Int) = (p : Int) := h; lia
    | some r => rw [q] at h; have h : r = (p : Int) := h; rw [h]
  · lia
theorem prio_nat (k : Nat) : ∃ p : Nat, prioZ ts k = (p : Int) ∧ p ≤ 9 := by
  unfold prioZ
  split
  · rename_i s e
    cases q : rankZ s with
    | none => exact ⟨0, rfl, by lia⟩
    | some r =>
      have := rank_le q
      exact ⟨r.toNat, by show r = _; lia, by lia⟩
  · exact ⟨0, rfl, by lia⟩
end
noncomputable def PB (ds : List PyData) (ts : List Tk) (i l : Nat) : Prop := ∃ r, (∀ n, W ts i + 12 ≤ n → Gives n .parse_binary [L ds, I i, I l] r) ∧ ∀ t k, r = some (t, k) → Gr ts (.e l) i k t ∧ prioZ ts k < (l : Int)
noncomputable def PE (ds : List PyData) (ts : List Tk) (i : Nat) : Prop := ∃ r, (∀ n, W ts i + 13 ≤ n → Gives n .parse_expr [L ds, I i] r) ∧ ∀ t k, r = some (t, k) → Gr ts (.e 1) i k t ∧ prioZ ts k < (1 : Int)
section
variable {ds : List PyData} {ts : List Tk} {i l : Nat}
theorem pe_of (h : TK ds ts) (p : PB ds ts i 1) : PE ds ts i := by
  obtain ⟨r, h1, h2⟩ := p
  refine ⟨r, fun n hn => ?_, fun t k e => h2 t k e⟩
  obtain ⟨n, rfl⟩ := pre n (by lia)
  exact g_expr h (h1 n (by lia))
theorem cut_p (h : TK ds ts) (h1 : isOp ts i (Str.ofString "(") = true) (H : ∀ j, i < j → PE ds ts j) (base : PyData) :
    ∃ r, (∀ n, W ts i + 8 ≤ n → Gives n .parse_cut [L ds, I i, .d base] r) ∧ ∀ t k, r = some (t, k) → ∃ a b m, t = subT base a b ∧ k = m + 1 ∧ Gr ts .ct (i + 1) m (.tuple [a, b]) ∧ isOp ts m (Str.ofString ")") = true := by
  have hw := W_br h1
  have hlt := lt_op h1
  obtain ⟨r1, p1, q1⟩ := H (i + 1) (by lia)
  cases ha : optR r1 (i + 1) (isOp ts (i + 1) (Str.ofString ":")) with
  | none =>
    refine ⟨none, fun n hn => ?_, fun t k e => (by cases e)⟩
    obtain ⟨n, rfl⟩ := pre n (by lia)
    have z := g_cut (n := n) (base := base) h h1 (r1 := r1) (r2 := fun _ => none) (fun _ => p1 n (by lia)) (fun t k e => by rw [ha] at e; cases e) ⟨n - 3, by lia⟩
    rw [ha] at z
    exact z
  | some a =>
    obtain ⟨t, k⟩ := a
    have hk : i + 1 ≤ k ∧ Gr ts .opt (i + 1) k t := by
      unfold optR at ha
      split at ha
      · cases ha; exact ⟨Nat.le_refl _, .op0 hlt⟩
      · have g := (q1 t k ha).1
        have f := (fact g).lt id
        exact ⟨by lia, .op1 g⟩
    obtain ⟨hik, g1⟩ := hk
    cases hc : isOp ts k (Str.ofString ":") with
    | false =>
      refine ⟨none, fun n hn => ?_, fun t k e => (by cases e)⟩
      obtain ⟨n, rfl⟩ := pre n (by lia)
      have z := g_cut (n := n) (base := base) h h1 (r1 := r1) (r2 := fun _ => none) (fun _ => p1 n (by lia)) (fun t' k' e e2 => by rw [ha] at e; cases e; rw [hc] at e2; cases e2) ⟨n - 3, by lia⟩
      rw [ha] at z
      dsimp only [Option.bind] at z
      rw [hc] at z
      exact z
    | true =>
      obtain ⟨r2, p2, q2⟩ := H (k + 1) (by lia)
      have hw2 := W_mono (ts := ts) (show i + 1 ≤ k + 1 from by lia)
      have z : ∀ n, W ts i + 7 ≤ n → Gives (n + 1) .parse_cut [L ds, I i, .d base] ((optR r2 (k + 1) (isOp ts (k + 1) (Str.ofString ")"))).bind fun b => if isOp ts b.2 (Str.ofString ")") = true then some (subT base t b.1, b.2 + 1) else none) := fun n hn => by
        have z := g_cut (n := n) (base := base) h h1 (r1 := r1) (r2 := fun _ => r2) (fun _ => p1 n (by lia)) (fun t' k' e _ _ => by rw [ha] at e; cases e; exact p2 n (by lia)) ⟨n - 3, by lia⟩
        rw [ha] at z
        dsimp only [Option.bind] at z
        rw [hc] at z
        exact z
      cases hb : optR r2 (k + 1) (isOp ts (k + 1) (Str.ofString ")")) with
      | none =>
        refine ⟨none, fun n hn => ?_, fun t k e => (by cases e)⟩
        obtain ⟨n, rfl⟩ := pre n (by lia)
        have z := z n (by lia)
        rw [hb] at z
        exact z
      | some b =>
        obtain ⟨t2, k2⟩ := b
        have g2 : Gr ts .opt (k + 1) k2 t2 := by
          unfold optR at hb
          split at hb
          · cases hb; exact .op0 (lt_op hc)
          · exact .op1 (q2 t2 k2 hb).1
        refine ⟨if isOp ts k2 (Str.ofString ")") = true then some (subT base t t2, k2 + 1) else none, fun n hn => ?_, fun t' k' e => ?_⟩
        · obtain ⟨n, rfl⟩ := pre n (by lia)
          have z := z n (by lia)
          rw [hb] at z
          exact z
        · split at e
          · rename_i hs
            cases e
            exact ⟨t, t2, k2, rfl, rfl, .ct g1 hc g2, hs⟩
          · cases e
theorem args_run : ∀ (m k : Nat), ts.length ≤ m + k → (∀ j, k ≤ j → PE ds ts j) → ∃ (c : Nat) (r : Option (List PyData × Nat)), c ≤ m ∧ (∀ n, W ts k + 13 ≤ n → ∀ acc, ArgRun n ds ts c k acc (r.map fun p => (acc ++ p.1, p.2))) ∧
    ∀ rows k', r = some (rows, k') → ∃ e, k' = e + 1 ∧ isOp ts e (Str.ofString ")") = true ∧ Gr ts .ar k e (.list rows)
  | m, k, hm, H => by
    obtain ⟨r, p1, q1⟩ := H k (Nat.le_refl _)
    match r, p1, q1 with
    | none, p1, q1 => exact ⟨0, none, by lia, fun n hn acc => .x (p1 n hn), fun rows k' e => by cases e⟩
    | some (t, k1), p1, q1 =>
      have g := (q1 t k1 rfl).1
      have f := fact g
      have hlt := f.lt id
      have hlen := f.bal.len
      have hw := W_mono (ts := ts) (show k ≤ k1 + 1 from by lia)
      cases hc : isOp ts k1 (Str.ofString ",") with
      | true =>
        match m with
        | 0 => lia
        | m + 1 =>
          refine glq fun Gq kq => ?_
          obtain ⟨c, r, c1, c2, c3⟩ := args_run m (k1 + 1) (by lia) fun j hj => H j (by lia)
          refine kq ?_
          clear kq Gq
          refine ⟨c + 1, r.map fun p => (t :: p.1, p.2), by have := lt_op hc; lia, fun n hn acc => ?_, fun rows k' e => ?_⟩
          · have := c2 n (by lia) (acc ++ [t])
            have e : ((r.map fun p => (t :: p.1, p.2)).map fun p => (acc ++ p.1, p.2)) = r.map fun p => (acc ++ [t] ++ p.1, p.2) := by cases r <;> simp
            rw [e]
            exact .comma (p1 n hn) hc this
          · match r, e, c3 with
            | some (rows', k2), e, c3 =>
              cases e
              obtain ⟨e, e1, e2, e3⟩ := c3 _ _ rfl
              exact ⟨e, e1, e2, .arc g hc e3⟩
      | false =>
        cases hs : isOp ts k1 (Str.ofString ")") with
        | true => exact ⟨0, some ([t], k1 + 1), by lia, fun n hn acc => .fin (p1 n hn) hc hs, fun rows k' e => by cases e; exact ⟨k1, rfl, hs, .ar1 g⟩⟩
        | false => exact ⟨0, none, by lia, fun n hn acc => .bad (p1 n hn) hc hs, fun rows k' e => by cases e⟩
theorem args_p (h : TK ds ts) (hz0 : ts.length ≤ 800) (h1 : isOp ts i (Str.ofString "(") = true) (H : ∀ j, i < j → PE ds ts j) :
    ∃ r, (∀ n, W ts i + 8 ≤ n → GivesL n .parse_arguments [L ds, I i, Bo false] r) ∧ ∀ rows k, r = some (rows, k) → ∃ e, k = e + 1 ∧ isOp ts e (Str.ofString ")") = true ∧ ((rows = [] ∧ e = i + 1) ∨ Gr ts .ar (i + 1) e (.list rows)) := by
  have hw := W_br h1
  cases hs : isOp ts (i + 1) (Str.ofString ")") with
  | true =>
    refine ⟨some ([], i + 2), fun n hn => ?_, fun rows k e => (by cases e; exact ⟨i + 1, rfl, hs, .inl ⟨rfl, rfl⟩⟩)⟩
    obtain ⟨n, rfl⟩ := pre n (by lia)
    exact g_args_0 h h1 hs ⟨n - 3, by lia⟩
  | false =>
    refine glq fun Gq kq => ?_
    obtain ⟨c, r, c1, c2, c3⟩ := args_run (ds := ds) (ts := ts) ts.length (i + 1) (Nat.le_add_right _ _) fun j hj => H j (by lia)
    refine kq ?_
    clear kq Gq
    refine ⟨r, fun n hn => ?_, fun rows k e => ?_⟩
    · obtain ⟨n, rfl⟩ := pre n (by lia)
      have := c2 n (by lia) []
      have e : (r.map fun p => (([] : List PyData) ++ p.1, p.2)) = r := by cases r <;> simp
      rw [e] at this
      exact g_args h h1 hs this (by lia) ⟨n - 3, by lia⟩
    · refine glq fun Gq kq => ?_
      obtain ⟨e, e1, e2, e3⟩ := c3 rows k e
      refine kq ?_
      clear kq Gq
      exact ⟨e, e1, e2, .inr e3⟩
theorem named_p (h : TK ds ts) (hz0 : ts.length ≤ 800) {s : Str} (h1 : ts[i]? = some (.name s)) (H : ∀ j, i < j → PE ds ts j) :
    ∃ r, (∀ n, W ts i + 9 ≤ n → Gives n .parse_named [L ds, I i] r) ∧ ∀ t k, r = some (t, k) → Gr ts .pr i k t := by
  have hw := W_tok h1
  have hw0 : wt (Tk.name s) = 2 := rfl
  cases h2 : isOp ts (i + 1) (Str.ofString "(") with
  | false =>
    refine ⟨some (nameT s, i + 1), fun n hn => ?_, fun t k e => (by cases e; exact .name h1)⟩
    obtain ⟨n, rfl⟩ := pre n (by lia)
    exact g_named_0 h h1 h2 ⟨n - 3, by lia⟩
  | true =>
    cases h3 : closeN ts (ds.length - (i + 1)) (i + 1) 0 with
    | none =>
      refine ⟨none, fun n hn => ?_, fun t k e => (by cases e)⟩
      obtain ⟨n, rfl⟩ := pre n (by lia)
      exact g_named_x h h1 h2 h3 ⟨n - 3, by lia⟩
    | some e =>
      cases h4 : cutN ts (e - (i + 2)) (i + 2) 0 with
      | true =>
        obtain ⟨r, p1, q1⟩ := cut_p h h2 (fun j hj => H j (by lia)) (nameT s)
        refine ⟨r, fun n hn => ?_, fun t k e => ?_⟩
        · obtain ⟨n, rfl⟩ := pre n (by lia)
          exact g_named_cut h h1 h2 h3 h4 (p1 n (by lia)) ⟨n - 3, by lia⟩
        · obtain ⟨a, b, m, rfl, rfl, g, hs⟩ := q1 t k e
          exact .subn h1 h2 g hs
      | false =>
        obtain ⟨r, p1, q1⟩ := args_p h hz0 h2 (fun j hj => H j (by lia))
        match r, p1, q1 with
        | none, p1, q1 =>
          refine ⟨none, fun n hn => ?_, fun t k e => (by cases e)⟩
          obtain ⟨n, rfl⟩ := pre n (by lia)
          exact g_named_args_x h h1 h2 h3 h4 (p1 n (by lia)) ⟨n - 3, by lia⟩
        | some (rows, k), p1, q1 =>
          have g : Gr ts .rf i k (refT s rows) ∧ i + 1 < k := by
            obtain ⟨e, rfl, e2, e3⟩ := q1 rows k rfl
            rcases e3 with ⟨rfl, rfl⟩ | e3
            · exact ⟨.ref0 h1 h2 e2, by lia⟩
            · have := (fact e3).lt id
              exact ⟨.ref h1 h2 e3 e2, by lia⟩
          obtain ⟨g, hik⟩ := g
          have hw2 := W_mono (ts := ts) (show i + 1 ≤ k from by lia)
          cases h5 : isOp ts k (Str.ofString "(") with
          | false =>
            refine ⟨some (refT s rows, k), fun n hn => ?_, fun t k e => (by cases e; exact .refp g)⟩
            obtain ⟨n, rfl⟩ := pre n (by lia)
            exact g_named_args h h1 h2 h3 h4 (p1 n (by lia)) ⟨n - 3, by lia⟩ h5
          | true =>
            obtain ⟨r2, p2, q2⟩ := cut_p h h5 (fun j hj => H j (by lia)) (refT s rows)
            refine ⟨r2, fun n hn => ?_, fun t k' e => ?_⟩
            · obtain ⟨n, rfl⟩ := pre n (by lia)
              exact g_named_args_cut h h1 h2 h3 h4 (p1 n (by lia)) ⟨n - 3, by lia⟩ h5 (p2 n (by lia))
            · obtain ⟨a, b, m, rfl, rfl, g2, hs⟩ := q2 t k' e
              exact .subr g h5 g2 hs
theorem cplx_inv (h : isCplx ts i = true) : ∃ c e, partEnd ts (i + 1) = some c ∧ isOp ts c (Str.ofString ",") = true ∧ partEnd ts (c + 1) = some e ∧ isOp ts e (Str.ofString ")") = true := by
  unfold isCplx at h
  split at h
  · cases h
  · rename_i c hc
    rw [Bool.and_eq_true] at h
    obtain ⟨a, b⟩ := h
    split at b
    · cases b
    · rename_i e he
      exact ⟨c, e, hc, a, he, b⟩
theorem prim_p (h : TK ds ts) (hz0 : ts.length ≤ 800) (H : ∀ j, i < j → PE ds ts j) :
    ∃ r, (∀ n, W ts i + 10 ≤ n → Gives n .parse_primary [L ds, I i] r) ∧ ∀ t k, r = some (t, k) → Gr ts .pr i k t := by
  cases h1 : ts[i]? with
  | none =>
    refine ⟨none, fun n hn => ?_, fun t k e => (by cases e)⟩
    obtain ⟨n, rfl⟩ := pre n (by lia)
    exact g_prim_none h h1 (pre n (by lia))
  | some t =>
    have hw := W_tok h1
    have other : (∀ s, t ≠ .op s) → (∀ s, t ≠ .name s) → ∃ r, (∀ n, W ts i + 10 ≤ n → Gives n .parse_primary [L ds, I i] r) ∧ ∀ t k, r = some (t, k) → Gr ts .pr i k t := fun o1 o2 => by
      refine ⟨some (consT t 1, i + 1), fun n hn => ?_, fun t' k e => (by cases e; exact .const h1 o1 o2)⟩
      obtain ⟨n, rfl⟩ := pre n (by lia)
      exact g_prim_const h h1 o1 o2 (pre n (by lia))
    cases t with
    | name s =>
      obtain ⟨r, p1, q1⟩ := named_p h hz0 h1 H
      refine ⟨r, fun n hn => ?_, q1⟩
      obtain ⟨n, rfl⟩ := pre n (by lia)
      exact g_prim_name h h1 (p1 n (by lia)) (pre n (by lia))
    | op s =>
      by_cases hs : s = Str.ofString "("
      · subst hs
        have h2 : isOp ts i (Str.ofString "(") = true := isOp_iff.mpr h1
        have hw2 := W_br h2
        cases hc : isCplx ts i with
        | true =>
          refine glq fun Gq kq => ?_
          obtain ⟨c, e, c1, c2, c3, c4⟩ := cplx_inv hc
          refine kq ?_
          clear kq Gq
          refine ⟨some (cplxT (partT ts (i + 1)) (partT ts (c + 1)), e + 1), fun n hn => ?_, fun t k e => (by cases e; exact .cp h2 c1 c2 c3 c4)⟩
          obtain ⟨n, rfl⟩ := pre n (by lia)
          obtain ⟨n, rfl⟩ := pre n (by lia)
          exact g_prim_br h h1 (g_br_cplx h c1 c2 c3 c4 ⟨n - 3, by lia⟩) (pre _ (by lia))
        | false =>
          refine glq fun Gq kq => ?_
          obtain ⟨r, p1, q1⟩ := H (i + 1) (by lia)
          refine kq ?_
          clear kq Gq
          refine ⟨r.bind fun p => if isOp ts p.2 (Str.ofString ")") = true then some (p.1, p.2 + 1) else none, fun n hn => ?_, fun t k e => ?_⟩
          · obtain ⟨n, rfl⟩ := pre n (by lia)
            obtain ⟨n, rfl⟩ := pre n (by lia)
            exact g_prim_br h h1 (g_br h hc (p1 n (by lia)) ⟨n - 3, by lia⟩) (pre _ (by lia))
          · match r, e, q1 with
            | some (t', k'), e, q1 =>
              have e : (if isOp ts k' (Str.ofString ")") = true then some (t', k' + 1) else none) = some (t, k) := e
              split at e
              · rename_i hs
                cases e
                exact .br h2 (q1 _ _ rfl).1 hs
              · cases e
      · refine ⟨none, fun n hn => ?_, fun t k e => (by cases e)⟩
        obtain ⟨n, rfl⟩ := pre n (by lia)
        exact g_prim_op h h1 hs (pre n (by lia))
    | _ => exact other (fun s q => by cases q) (fun s q => by cases q)
end
noncomputable def Lead (ts : List Tk) (l i k : Nat) (t : PyData) (wr : Bool) : Prop := ∃ q, l ≤ q ∧ Gr ts (.e q) i k t ∧ ∀ p : Nat, prioZ ts k = (p : Int) → l ≤ p → (p = 5 → wr = false) → lft p ≤ q
section
variable {ds : List PyData} {ts : List Tk} {i l : Nat}
theorem first_p (h : TK ds ts) (hz0 : ts.length ≤ 800) (H : ∀ j l, i < j → 1 ≤ l → PB ds ts j l) :
    ∃ r, (∀ n, W ts i + 11 ≤ n → Gives n .parse_first [L ds, I i, I l] r) ∧ ∀ t k, r = some (t, k) → Lead ts l i k t false := by
  cases h1 : isOp ts i (Str.ofString ".NOT.") with
  | true =>
    have hw := W_tok (isOp_iff.mp h1)
    have hw2 := wt_ge (Tk.op (Str.ofString ".NOT."))
    by_cases hl : l ≤ 4
    · obtain ⟨r, p1, q1⟩ := H (i + 1) 5 (by lia) (by lia)
      refine ⟨r.map fun p => (unT (Str.ofString ".NOT.") p.1, p.2), fun n hn => ?_, fun t k e => ?_⟩
      · obtain ⟨n, rfl⟩ := pre n (by lia)
        exact g_first_not h h1 hl (p1 n (by lia)) (pre n (by lia))
      · match r, e, q1 with
        | some (t', k'), e, q1 =>
          cases e
          obtain ⟨g, hp⟩ := q1 _ _ rfl
          exact ⟨4, hl, .not (isOp_iff.mp h1) (Nat.le_refl _) g, fun p e _ _ => by
            have e : prioZ ts k' = (p : Int) := e
            unfold lft; split <;> (try split) <;> lia⟩
    · refine ⟨none, fun n hn => ?_, fun t k e => (by cases e)⟩
      obtain ⟨n, rfl⟩ := pre n (by lia)
      exact g_first_not_x h h1 hl (pre n (by lia))
  | false =>
    cases h2 : sgn ts i with
    | true =>
      obtain ⟨s, h3, hs⟩ : ∃ s, ts[i]? = some (.op s) ∧ (s = Str.ofString "+" ∨ s = Str.ofString "-") := by
        unfold sgn at h2
        cases q : isOp ts i (Str.ofString "+") with
        | true => exact ⟨_, isOp_iff.mp q, .inl rfl⟩
        | false => rw [q, Bool.false_or] at h2; exact ⟨_, isOp_iff.mp h2, .inr rfl⟩
      have hw := W_tok h3
      have hw2 := wt_ge (Tk.op s)
      by_cases hl : l ≤ 7
      · obtain ⟨r, p1, q1⟩ := H (i + 1) 8 (by lia) (by lia)
        refine ⟨r.map fun p => (unT s p.1, p.2), fun n hn => ?_, fun t k e => ?_⟩
        · obtain ⟨n, rfl⟩ := pre n (by lia)
          exact g_first_sgn h h3 hs hl (p1 n (by lia)) (pre n (by lia))
        · match r, e, q1 with
          | some (t', k'), e, q1 =>
            cases e
            obtain ⟨g, hp⟩ := q1 _ _ rfl
            exact ⟨7, hl, .sgn h3 hs (Nat.le_refl _) g, fun p e _ _ => by
            have e : prioZ ts k' = (p : Int) := e
            unfold lft; split <;> (try split) <;> lia⟩
      · refine ⟨none, fun n hn => ?_, fun t k e => (by cases e)⟩
        obtain ⟨n, rfl⟩ := pre n (by lia)
        exact g_first_sgn_x h h2 hl (pre n (by lia))
    | false =>
      obtain ⟨r, p1, q1⟩ := prim_p h hz0 fun j hj => pe_of h (H j 1 hj (Nat.le_refl _))
      refine ⟨r, fun n hn => ?_, fun t k e => ⟨l + 10, by lia, .prim (q1 t k e), fun p e _ _ => ?_⟩⟩
      · obtain ⟨n, rfl⟩ := pre n (by lia)
        exact g_first_prim h h1 h2 (p1 n (by lia)) (pre n (by lia))
      · obtain ⟨p', e', hp'⟩ := prio_nat (ts := ts) k
        have : p = p' := by lia
        unfold lft; split <;> (try split) <;> lia
theorem loop_p (hl : 1 ≤ l) : ∀ (m k : Nat) (t : PyData) (wr : Bool), ts.length ≤ m + k → (∀ j l, k < j → 1 ≤ l → PB ds ts j l) → Lead ts l i k t wr →
    ∃ (c : Nat) (r : Option (PyData × Nat)), c ≤ m ∧ (∀ n, W ts k + 11 ≤ n → BinRun n ds ts l c k t wr r) ∧ ∀ t' k', r = some (t', k') → Gr ts (.e l) i k' t' ∧ prioZ ts k' < (l : Int)
  | m, k, t, wr, hm, H, ld => by
    refine glq fun Gq kq => ?_
    obtain ⟨q, hlq, g, hq⟩ := ld
    refine kq ?_
    clear kq Gq
    obtain ⟨p, hp, hp9⟩ := prio_nat (ts := ts) k
    by_cases hpl : p < l
    · exact ⟨0, some (t, k), by lia, fun n hn => .stop (by lia), fun t' k' e => by cases e; exact ⟨g.mono hlq, by lia⟩⟩
    · obtain ⟨s, hs, hr⟩ := prio_tok hp (by lia)
      have hlt := lt_of hs
      have hw := W_tok hs
      have hw2 := wt_ge (Tk.op s)
      by_cases hrel : p = 5 ∧ wr = true
      · obtain ⟨rfl, rfl⟩ := hrel
        exact ⟨0, none, by lia, fun n hn => .rel hs hp (by lia), fun t' k' e => by cases e⟩
      · have hwr : p = 5 → wr = false := fun e => by
          cases wr with
          | false => rfl
          | true => exact absurd ⟨e, rfl⟩ hrel
        obtain ⟨r, p1, q1⟩ := H (k + 1) (rgt p) (by lia) (by unfold rgt; split <;> lia)
        match r, p1, q1 with
        | none, p1, q1 => exact ⟨0, none, by lia, fun n hn => .x hs hp (by lia) hwr (p1 n (by lia)), fun t' k' e => by cases e⟩
        | some (tr, k1), p1, q1 =>
          obtain ⟨g2, hp2⟩ := q1 _ _ rfl
          have f2 := fact g2
          have hlt2 := f2.lt id
          have hw3 := W_mono (ts := ts) (show k + 1 ≤ k1 from by lia)
          have ld2 : Lead ts l i k1 (binT s t tr) (decide (p = 5)) := by
            refine ⟨p, by lia, .bin (g.mono (hq p hp (by lia) hwr)) hs hr (Nat.le_refl _) g2, fun p' e1 e2 e3 => ?_⟩
            have hpp : (p' : Int) < ((rgt p : Nat) : Int) := by rw [← e1]; exact hp2
            have e4 : ¬ (p' = 5 ∧ p = 5) := fun ⟨z1, z2⟩ => by
              have := e3 z1
              rw [decide_eq_true z2] at this
              cases this
            unfold rgt at hpp
            unfold lft
            split at hpp <;> split <;> (try split) <;> lia
          match m with
          | 0 => lia
          | m + 1 =>
            obtain ⟨c, r, c1, c2, c3⟩ := loop_p hl m k1 (binT s t tr) (decide (p = 5)) (by lia) (fun j l hj => H j l (by lia)) ld2
            exact ⟨c + 1, r, by lia, fun n hn => .step hs hp (by lia) hwr (p1 n (by lia)) (c2 n (by lia)), c3⟩
theorem pb_end (h : TK ds ts) (hi : ts.length ≤ i) : PB ds ts i l := by
  have h1 : ts[i]? = none := List.getElem?_eq_none_iff.mpr hi
  have z : ∀ x, isOp ts i x = false := fun x => by unfold isOp; rw [h1]
  refine ⟨none, fun n hn => ?_, fun t k e => (by cases e)⟩
  obtain ⟨n, rfl⟩ := pre n (by lia)
  obtain ⟨n, rfl⟩ := pre n (by lia)
  obtain ⟨n, rfl⟩ := pre n (by lia)
  exact g_bin_x h (g_first_prim h (z _) (sgn_false (z _) (z _)) (g_prim_none h h1 (pre n (by lia))) (pre _ (by lia)))
theorem parser_sound (h : TK ds ts) (hz0 : ts.length ≤ 800) : ∀ (m i l : Nat), ts.length ≤ m + i → 1 ≤ l → PB ds ts i l
  | m, i, l, hm, hl => by
    by_cases hi : ts.length ≤ i
    · exact pb_end h hi
    match m with
    | 0 => lia
    | m + 1 =>
      have H : ∀ j l, i < j → 1 ≤ l → PB ds ts j l := fun j l hj hl => parser_sound h hz0 m j l (by lia) hl
      obtain ⟨r, p1, q1⟩ := first_p (l := l) h hz0 H
      match r, p1, q1 with
      | none, p1, q1 =>
        refine ⟨none, fun n hn => ?_, fun t k e => (by cases e)⟩
        obtain ⟨n, rfl⟩ := pre n (by lia)
        exact g_bin_x h (p1 n (by lia))
      | some (t, k), p1, q1 =>
        have ld := q1 _ _ rfl
        have hik : i < k := by obtain ⟨q, _, g, _⟩ := ld; exact (fact g).lt id
        have hw := W_mono (ts := ts) (show i ≤ k from by lia)
        obtain ⟨c, r, c1, c2, c3⟩ := loop_p (ds := ds) hl ts.length k t false (Nat.le_add_right _ _) (fun j l hj => H j l (by lia)) ld
        refine ⟨r, fun n hn => ?_, c3⟩
        obtain ⟨n, rfl⟩ := pre n (by lia)
        exact g_bin h (p1 n (by lia)) (c2 n (by lia)) (by lia) ⟨n - 3, by lia⟩
end
noncomputable def ParP (ds : List PyData) (ts : List Tk) : Ix → Nat → Nat → PyData → Prop
  | .e l, lo, hi, t => ∀ l', 1 ≤ l' → l' ≤ l → isOp ts hi (Str.ofString "(") = false → (∀ p : Nat, prioZ ts hi = (p : Int) → lft p ≤ l) →
      ∃ (wr : Bool) (t0 : PyData) (k0 d : Nat), (wr = true → l ≤ 5) ∧ d + lo ≤ hi ∧ (∀ n, W ts lo + 11 ≤ n → Gives n .parse_first [L ds, I lo, I l'] (some (t0, k0))) ∧ ∀ n, W ts lo + 11 ≤ n → ∀ c r, BinRun n ds ts l' c hi t wr r → BinRun n ds ts l' (c + d) k0 t0 false r
  | .pr, lo, hi, t => isOp ts hi (Str.ofString "(") = false → ∀ n, W ts lo + 10 ≤ n → Gives n .parse_primary [L ds, I lo] (some (t, hi))
  | .rf, lo, hi, t => ∃ s rows e, t = refT s rows ∧ lo + 1 < hi ∧ ts[lo]? = some (.name s) ∧ isOp ts (lo + 1) (Str.ofString "(") = true ∧ closeN ts (ds.length - (lo + 1)) (lo + 1) 0 = some e ∧ cutN ts (e - (lo + 2)) (lo + 2) 0 = false ∧
      ∀ n, W ts (lo + 1) + 8 ≤ n → GivesL n .parse_arguments [L ds, I (lo + 1), Bo false] (some (rows, hi))
  | .ar, lo, hi, t => ∀ rows, t = .list rows → isOp ts hi (Str.ofString ")") = true → ∃ c, c + lo ≤ hi ∧ ∀ n, W ts lo + 13 ≤ n → ∀ acc, ArgRun n ds ts c lo acc (some (acc ++ rows, hi + 1))
  | .ct, lo, hi, t => ∀ a b, t = .tuple [a, b] → isOp ts hi (Str.ofString ")") = true → ∀ i, lo = i + 1 → isOp ts i (Str.ofString "(") = true → ∀ base n, W ts i + 8 ≤ n → Gives n .parse_cut [L ds, I i, .d base] (some (subT base a b, hi + 1))
  | .opt, lo, hi, t => ∀ x, (x = Str.ofString ":" ∨ x = Str.ofString ")") → isOp ts hi x = true → ∃ r, (isOp ts lo x = false → ∀ n, W ts lo + 13 ≤ n → Gives n .parse_expr [L ds, I lo] r) ∧ optR r lo (isOp ts lo x) = some (t, hi)
section
variable {ds : List PyData} {ts : List Tk} {i l : Nat}
theorem prio_of {k : Nat} {s : Str} {p : Int} (h : ts[k]? = some (.op s)) (hp : rankZ s = some p) : prioZ ts k = p := by
  unfold prioZ
  rw [h]
  dsimp only
  rw [hp]
  rfl
theorem prio_sep {k : Nat} {x : Str} (h : isOp ts k x = true) (hx : rankZ x = none) : prioZ ts k = 0 := by
  unfold prioZ
  rw [isOp_iff.mp h]
  dsimp only
  rw [hx]
  rfl
theorem pb_of_par (h : TK ds ts) (hz0 : ts.length ≤ 800) (hl : 1 ≤ l) {lo hi : Nat} {t : PyData} (g : ParP ds ts (.e l) lo hi t) (hlen : hi ≤ ts.length) (hb : isOp ts hi (Str.ofString "(") = false) (hp : ∀ p : Nat, prioZ ts hi = (p : Int) → lft p ≤ l ∧ p < l) :
    ∀ n, W ts lo + 12 ≤ n → Gives n .parse_binary [L ds, I lo, I l] (some (t, hi)) := by
  refine glq fun Gq kq => ?_
  obtain ⟨wr, t0, k0, d, h1, h2, h3, h4⟩ := g l hl (Nat.le_refl _) hb fun p e => (hp p e).1
  refine kq ?_
  clear kq Gq
  intro n hn
  obtain ⟨n, rfl⟩ := pre n (by lia)
  obtain ⟨p, e, _⟩ := prio_nat (ts := ts) hi
  have hpl := (hp p e).2
  exact g_bin h (h3 n (by lia)) (h4 n (by lia) 0 _ (.stop (by lia))) (by lia) ⟨n - 3, by lia⟩
theorem pe_of_par (h : TK ds ts) (hz0 : ts.length ≤ 800) {lo hi : Nat} {t : PyData} (g : ParP ds ts (.e 1) lo hi t) (hlen : hi ≤ ts.length) (hb : isOp ts hi (Str.ofString "(") = false) (hp : prioZ ts hi = 0) :
    ∀ n, W ts lo + 13 ≤ n → Gives n .parse_expr [L ds, I lo] (some (t, hi)) := by
  intro n hn
  obtain ⟨n, rfl⟩ := pre n (by lia)
  refine g_expr h (pb_of_par h hz0 (Nat.le_refl _) g hlen hb (fun p e => ?_) n (by lia))
  have : p = 0 := by lia
  subst this
  exact ⟨by decide, by decide⟩
theorem pe_of_sep (h : TK ds ts) (hz0 : ts.length ≤ 800) {lo hi : Nat} {t : PyData} (g : ParP ds ts (.e 1) lo hi t) {x : Str} (hx : isOp ts hi x = true) (h1 : x ≠ Str.ofString "(") (h2 : rankZ x = none) :
    ∀ n, W ts lo + 13 ≤ n → Gives n .parse_expr [L ds, I lo] (some (t, hi)) :=
  pe_of_par h hz0 g (Nat.le_of_lt (lt_op hx)) (isOp_ne hx h1) (prio_sep hx h2)
theorem ct_cut {lo hi : Nat} {t : PyData} (g : Gr ts .ct lo hi t) : cutN ts (hi - lo) lo 0 = true := by
  cases g with
  | ct g1 ho g2 =>
    have f1 := fact g1
    have := (fact g2).bal.le
    exact cut_yes f1.bal (f1.out.mono fun k s _ _ q => q.2) ho (by lia)
theorem not_cplx {lo mid : Nat} {t : PyData} (g : Gr ts (.e 1) (lo + 1) mid t) (hs : isOp ts mid (Str.ofString ")") = true) : isCplx ts lo = false := by
  cases hc : isCplx ts lo with
  | false => rfl
  | true =>
    exfalso
    obtain ⟨c, e, c1, c2, c3, c4⟩ := cplx_inv hc
    have f := fact g
    have hlt := f.lt id
    obtain ⟨b1, l1⟩ := part_bal c1
    rcases Nat.lt_trichotomy c mid with q | q | q
    · have := (f.out c _ (by lia) q b1.fin (isOp_iff.mp c2) nbr_comma).1.1
      exact this rfl
    · subst q
      rw [isOp_ne hs (by decide)] at c2
      cases c2
    · have hn := b1.nn (mid + 1 - (lo + 1)) (by lia)
      rw [show mid + 1 - (lo + 1) = (mid - (lo + 1)) + 1 from by lia, dpN_add, dpN_one, f.bal.fin, show lo + 1 + (mid - (lo + 1)) = mid from by lia, dl_shut hs] at hn
      lia
theorem close_at_bal (h : TK ds ts) {lo hi : Nat} (b : Bal ts (lo + 1) hi) (h1 : isOp ts lo (Str.ofString "(") = true) (h2 : isOp ts hi (Str.ofString ")") = true) : closeN ts (ds.length - lo) lo 0 = some hi := by
  have hle := b.le
  have hlt := lt_op h2
  have := close_bal b h1 h2 (ds.length - (hi + 1))
  rw [show hi + 1 - lo + (ds.length - (hi + 1)) = ds.length - lo from by have := h.len; lia] at this
  exact this
theorem head_ne {lo hi : Nat} {t : PyData} (g : Gr ts (.e 1) lo hi t) {x : Str} (hx : x = Str.ofString ":" ∨ x = Str.ofString ")") : isOp ts lo x = false := by
  have f := fact g
  have hlt := f.lt id
  cases q : isOp ts lo x with
  | false => rfl
  | true =>
    exfalso
    rcases hx with rfl | rfl
    · exact (f.out lo _ (Nat.le_refl _) hlt (by rw [Nat.sub_self]; rfl) (isOp_iff.mp q) nbr_colon).1.2 rfl
    · have := f.bal.nn 1 (by lia)
      rw [dpN_one, dl_shut q] at this
      lia
theorem parser_complete (h : TK ds ts) (hz0 : ts.length ≤ 800) {ix : Ix} {lo hi : Nat} {t : PyData} (g : Gr ts ix lo hi t) : ParP ds ts ix lo hi t := by
  induction g with
  | @not l lo hi t h1 hl g' ih =>
    intro l' hl1 hl2 hb hp
    have f := fact g'
    have hl0 := f.bal.le
    have hw := W_tok h1
    have hw2 := wt_ge (Tk.op (Str.ofString ".NOT."))
    have e := pb_of_par h hz0 (by decide) ih f.bal.len hb fun p e => by
      have := hp p e
      have := lft_ge p
      exact ⟨by lia, by lia⟩
    refine ⟨false, unT (Str.ofString ".NOT.") t, hi, 0, fun q => (by cases q), by lia, fun n hn => ?_, fun n hn c r b => b⟩
    obtain ⟨n, rfl⟩ := pre n (by lia)
    exact g_first_not h (isOp_iff.mpr h1) (by lia) (e n (by lia)) (pre n (by lia))
  | @sgn l lo hi s t h1 hs hl g' ih =>
    intro l' hl1 hl2 hb hp
    have f := fact g'
    have hl0 := f.bal.le
    have hw := W_tok h1
    have hw2 := wt_ge (Tk.op s)
    have e := pb_of_par h hz0 (by decide) ih f.bal.len hb fun p e => by
      have := hp p e
      have := lft_ge p
      exact ⟨by lia, by lia⟩
    refine ⟨false, unT s t, hi, 0, fun q => (by cases q), by lia, fun n hn => ?_, fun n hn c r b => b⟩
    obtain ⟨n, rfl⟩ := pre n (by lia)
    exact g_first_sgn h h1 hs (by lia) (e n (by lia)) (pre n (by lia))
  | @bin l lo mid hi s p a b g1 hs hp hl g2 ih1 ih2 =>
    intro l' hl1 hl2 hb hq
    have f1 := fact g1
    have f2 := fact g2
    have l1 := f1.lt id
    have l2 := f2.lt id
    have hr := rank_le hp
    have hpm := prio_of hs hp
    have hlf := lft_ge p
    obtain ⟨wr, t0, k0, d, e1, e2, e3, e4⟩ := ih1 l' hl1 (by lia) (by
      cases q : isOp ts mid (Str.ofString "(") with
      | false => rfl
      | true =>
        rw [isOp_iff.mp q] at hs
        cases hs
        have z : rankZ (Str.ofString "(") = none := by decide
        rw [z] at hp
        cases hp) (fun q e => by
      have : q = p := by lia
      rw [this]
      exact Nat.le_refl _)
    have e := pb_of_par h hz0 (l := rgt p) (by unfold rgt; split <;> lia) ih2 f2.bal.len hb fun q e => by
      have h1 := hq q e
      have h2 := lft_ge q
      have h3 : q = 9 → lft q = 10 := fun e => by rw [e]; rfl
      unfold rgt
      split
      · exact ⟨by lia, by lia⟩
      · exact ⟨by lia, by lia⟩
    have hw := W_tok hs
    have hw2 := wt_ge (Tk.op s)
    have hw3 := W_mono (ts := ts) (show lo ≤ mid from by lia)
    refine ⟨decide (p = 5), t0, k0, d + 1, fun q => by have := of_decide_eq_true q; lia, by lia, e3, fun n hn c r br => ?_⟩
    have := e4 n hn (c + 1) r (.step hs hpm (by lia) (fun q => by
      subst q
      cases wr with
      | false => rfl
      | true =>
        have := e1 rfl
        have z : lft 5 = 6 := rfl
        lia) (e n (by lia)) br)
    rw [show c + (d + 1) = c + 1 + d from by lia]
    exact this
  | @prim l lo hi t g' ih =>
    intro l' hl1 hl2 hb hp
    have bg := begins g'
    have hl0 := (fact g').bal.le
    refine ⟨false, t, hi, 0, fun q => (by cases q), by lia, fun n hn => ?_, fun n hn c r b => b⟩
    obtain ⟨n, rfl⟩ := pre n (by lia)
    exact g_first_prim h bg.1 bg.2 (ih hb n (by lia)) (pre n (by lia))
  | @const lo t h1 h2 h3 =>
    intro hb n hn
    obtain ⟨n, rfl⟩ := pre n (by lia)
    exact g_prim_const h h1 h2 h3 (pre n (by lia))
  | @name lo s h1 =>
    intro hb n hn
    obtain ⟨n, rfl⟩ := pre n (by lia)
    obtain ⟨n, rfl⟩ := pre n (by lia)
    exact g_prim_name h h1 (g_named_0 h h1 hb ⟨n - 3, by lia⟩) (pre _ (by lia))
  | @ref0 lo s h1 h2 h3 =>
    have hlt := lt_op h3
    refine ⟨s, [], lo + 2, rfl, by lia, h1, h2, close_at_bal h (Bal.nil (by lia)) h2 h3, cut_no (Nat.le_refl _) Out.nil, fun n hn => ?_⟩
    obtain ⟨n, rfl⟩ := pre n (by lia)
    exact g_args_0 h h2 h3 ⟨n - 3, by lia⟩
  | @ref lo mid s rows h1 h2 g' h3 ih =>
    have f := fact g'
    have hlt := f.lt id
    have hlen := f.bal.len
    obtain ⟨c, c1, c2⟩ := ih rows rfl h3
    refine ⟨s, rows, mid, rfl, by lia, h1, h2, close_at_bal h f.bal h2 h3, cut_no f.bal.le f.out, fun n hn => ?_⟩
    have hw : W ts (lo + 1) = 6 + W ts (lo + 2) := W_br h2
    obtain ⟨n, rfl⟩ := pre n (by lia)
    have := c2 n (by lia) []
    rw [List.nil_append] at this
    refine g_args h h2 ?_ this (by lia) ⟨n - 3, by lia⟩
    cases g' with
    | ar1 g => exact head_ne g (.inr rfl)
    | arc g _ _ => exact head_ne g (.inr rfl)
  | @refp lo hi t g' ih =>
    intro hb n hn
    refine glq fun Gq kq => ?_
    obtain ⟨s, rows, e, rfl, hlt, h1, h2, h3, h4, h5⟩ := ih
    refine kq ?_
    clear kq Gq
    have hw := W_tok h1
    have hw2 := wt_ge (Tk.name s)
    obtain ⟨n, rfl⟩ := pre n (by lia)
    obtain ⟨n, rfl⟩ := pre n (by lia)
    exact g_prim_name h h1 (g_named_args h h1 h2 h3 h4 (h5 n (by lia)) ⟨n - 3, by lia⟩ hb) (pre _ (by lia))
  | @subn lo mid s a b h1 h2 g' h3 ih =>
    intro hb n hn
    have hw := W_tok h1
    have hw2 := wt_ge (Tk.name s)
    have f := fact g'
    obtain ⟨n, rfl⟩ := pre n (by lia)
    obtain ⟨n, rfl⟩ := pre n (by lia)
    exact g_prim_name h h1 (g_named_cut h h1 h2 (close_at_bal h f.bal h2 h3) (ct_cut g') (ih a b rfl h3 (lo + 1) rfl h2 _ n (by lia)) ⟨n - 3, by lia⟩) (pre _ (by lia))
  | @subr lo k mid t a b g1 h2 g2 h3 ih1 ih2 =>
    intro hb n hn
    obtain ⟨s, rows, e, rfl, hlt, h1, h4, h5, h6, h7⟩ := ih1
    have hw := W_tok h1
    have hw2 := wt_ge (Tk.name s)
    have hw3 := W_mono (ts := ts) (show lo + 1 ≤ k from by lia)
    obtain ⟨n, rfl⟩ := pre n (by lia)
    obtain ⟨n, rfl⟩ := pre n (by lia)
    exact g_prim_name h h1 (g_named_args_cut h h1 h4 h5 h6 (h7 n (by lia)) ⟨n - 3, by lia⟩ h2 (ih2 a b rfl h3 k rfl h2 _ n (by lia))) (pre _ (by lia))
  | @ct lo c hi a b g1 ho g2 ih1 ih2 =>
    intro a' b' e hs i hi' h1 base n hn
    cases e
    subst hi'
    obtain ⟨r1, p1, q1⟩ := ih1 _ (.inl rfl) ho
    obtain ⟨r2, p2, q2⟩ := ih2 _ (.inr rfl) hs
    have hw := W_br h1
    have hle := (fact g1).bal.le
    have hw2 := W_mono (ts := ts) (show i + 1 ≤ c + 1 from by lia)
    obtain ⟨n, rfl⟩ := pre n (by lia)
    have z := g_cut (n := n) (base := base) h h1 (r1 := r1) (r2 := fun _ => r2) (fun q => p1 q n (by lia)) (fun t' k' e _ e3 => by rw [q1] at e; cases e; exact p2 e3 n (by lia)) ⟨n - 3, by lia⟩
    rw [q1] at z
    dsimp only [Option.bind] at z
    rw [ho, if_pos rfl, q2] at z
    dsimp only at z
    rw [hs, if_pos rfl] at z
    exact z
  | @op0 lo hlo =>
    intro x hx h1
    exact ⟨none, fun q => (by rw [h1] at q; cases q), by rw [h1]; rfl⟩
  | @op1 lo hi t g' ih =>
    intro x hx h1
    have h0 := head_ne g' hx
    refine ⟨some (t, hi), fun _ => pe_of_sep h hz0 ih h1 ?_ ?_, by rw [h0]; rfl⟩
    · rcases hx with rfl | rfl <;> decide
    · rcases hx with rfl | rfl <;> decide
  | @ar1 lo hi t g' ih =>
    intro rows e hs
    cases e
    exact ⟨0, by have := (fact g').bal.le; lia, fun n hn acc => .fin (pe_of_sep h hz0 ih hs (by decide) (by decide) n hn) (isOp_ne hs (by decide)) hs⟩
  | @arc lo mid hi t rows g1 ho g2 ih1 ih2 =>
    intro rows' e hs
    cases e
    have l1 := (fact g1).lt id
    have l2 := (fact g2).lt id
    have hw := W_mono (ts := ts) (show lo ≤ mid + 1 from by lia)
    obtain ⟨c, c1, c2⟩ := ih2 rows rfl hs
    refine ⟨c + 1, by lia, fun n hn acc => ?_⟩
    have := c2 n (by lia) (acc ++ [t])
    rw [List.append_assoc] at this
    exact .comma (pe_of_sep h hz0 ih1 ho (by decide) (by decide) n hn) ho this
  | @br lo mid t h1 g' h2 ih =>
    intro hb n hn
    have hw := W_br h1
    obtain ⟨n, rfl⟩ := pre n (by lia)
    obtain ⟨n, rfl⟩ := pre n (by lia)
    have z := g_br (n := n) h (not_cplx g' h2) (pe_of_sep h hz0 ih h2 (by decide) (by decide) n (by lia)) ⟨n - 3, by lia⟩
    dsimp only [Option.bind] at z
    rw [h2, if_pos rfl] at z
    exact g_prim_br h (isOp_iff.mp h1) z (pre _ (by lia))
  | @cp lo c d h1 hc h2 hd h3 =>
    intro hb n hn
    obtain ⟨n, rfl⟩ := pre n (by lia)
    obtain ⟨n, rfl⟩ := pre n (by lia)
    exact g_prim_br h (isOp_iff.mp h1) (g_br_cplx h hc h2 hd h3 ⟨n - 3, by lia⟩) (pre _ (by lia))
end
structure Emb (ts ts' : List Tk) (d : Nat) : Prop where
  at' : ∀ {i : Nat} {t : Tk}, ts[i]? = some t → ts'[i + d]? = some t
  len : ts.length + d ≤ ts'.length
section
variable {ts ts' : List Tk} {d : Nat}
theorem Emb.op (E : Emb ts ts' d) {i : Nat} {x : Str} (h : isOp ts i x = true) : isOp ts' (i + d) x = true := isOp_iff.mpr (E.at' (isOp_iff.mp h))
theorem Emb.op_eq (E : Emb ts ts' d) {i : Nat} {t : Tk} {x : Str} (h : ts[i]? = some t) : isOp ts' (i + d) x = isOp ts i x := by
  unfold isOp
  rw [h, E.at' h]
theorem Emb.sgn_eq (E : Emb ts ts' d) {i : Nat} {t : Tk} (h : ts[i]? = some t) : sgn ts' (i + d) = sgn ts i := by
  unfold sgn
  rw [E.op_eq h, E.op_eq h]
theorem Emb.num_eq (E : Emb ts ts' d) {i : Nat} {t : Tk} (h : ts[i]? = some t) : numAt ts' (i + d) = numAt ts i := by
  unfold numAt
  rw [h, E.at' h]
theorem Emb.part (E : Emb ts ts' d) {i c : Nat} (h : partEnd ts i = some c) : partEnd ts' (i + d) = some (c + d) ∧ partT ts' (i + d) = partT ts i := by
  have one : ∃ t, ts[i]? = some t := by
    unfold partEnd at h
    split at h
    · rename_i hs
      unfold sgn at hs
      rcases Bool.or_eq_true_iff.mp hs with q | q <;> exact ⟨_, isOp_iff.mp q⟩
    · split at h
      · rename_i hn
        obtain ⟨t, ht, _⟩ := num_tok hn
        exact ⟨t, ht⟩
      · cases h
  obtain ⟨t0, h0⟩ := one
  have es := E.sgn_eq h0
  unfold partEnd at h ⊢
  unfold partT
  rw [es, E.op_eq h0]
  cases hs : sgn ts i with
  | true =>
    rw [hs, if_pos rfl] at h
    split at h
    · rename_i hn
      cases h
      refine glq fun Gq kq => ?_
      obtain ⟨t, ht, _⟩ := num_tok hn
      refine kq ?_
      clear kq Gq
      have hn' := E.num_eq ht
      have ht' := E.at' ht
      rw [show i + 1 + d = i + d + 1 from by lia] at hn' ht'
      rw [if_pos rfl, hn', hn, if_pos rfl, if_pos rfl, if_pos rfl, ht, ht']
      exact ⟨congrArg some (by lia), rfl⟩
    · cases h
  | false =>
    rw [hs, if_neg (by simp)] at h
    split at h
    · rename_i hn
      cases h
      have ng : ∀ {α : Type} (a b : α), (if false = true then a else b) = b := fun a b => if_neg (by simp)
      rw [ng, E.num_eq h0, hn, if_pos rfl, ng, ng, h0, E.at' h0]
      exact ⟨congrArg some (by lia), rfl⟩
    · cases h
theorem Gr.emb (E : Emb ts ts' d) {ix : Ix} {lo hi : Nat} {t : PyData} (g : Gr ts ix lo hi t) : Gr ts' ix (lo + d) (hi + d) t := by
  have z1 : ∀ a, a + 1 + d = a + d + 1 := fun a => by lia
  have z2 : ∀ a, a + 2 + d = a + d + 2 := fun a => by lia
  have z3 : ∀ a, a + 3 + d = a + d + 3 := fun a => by lia
  induction g with
  | not h hl _ ih => rw [z1] at ih; exact .not (E.at' h) hl ih
  | sgn h hs hl _ ih => rw [z1] at ih; exact .sgn (E.at' h) hs hl ih
  | bin _ hs hp hl _ ih1 ih2 => rw [z1] at ih2; exact .bin ih1 (E.at' hs) hp hl ih2
  | prim _ ih => exact .prim ih
  | const h h2 h3 => rw [z1]; exact .const (E.at' h) h2 h3
  | name h => rw [z1]; exact .name (E.at' h)
  | ref0 h h1 h2 =>
    have h1 := E.op h1
    have h2 := E.op h2
    rw [z1] at h1
    rw [z2] at h2
    rw [z3]
    exact .ref0 (E.at' h) h1 h2
  | ref h h1 _ h2 ih =>
    have h1 := E.op h1
    have h2 := E.op h2
    rw [z1] at h1
    rw [z2] at ih
    rw [z1]
    exact .ref (E.at' h) h1 ih h2
  | refp _ ih => exact .refp ih
  | subn h h1 _ h2 ih =>
    have h1 := E.op h1
    have h2 := E.op h2
    rw [z1] at h1
    rw [z2] at ih
    rw [z1]
    exact .subn (E.at' h) h1 ih h2
  | subr _ h1 _ h2 ih1 ih2 =>
    have h1 := E.op h1
    have h2 := E.op h2
    rw [z1] at ih2
    rw [z1]
    exact .subr ih1 h1 ih2 h2
  | ct _ h _ ih1 ih2 => rw [z1] at ih2; exact .ct ih1 (E.op h) ih2
  | op0 h => exact .op0 (by have := E.len; lia)
  | op1 _ ih => exact .op1 ih
  | ar1 _ ih => exact .ar1 ih
  | arc _ h _ ih1 ih2 => rw [z1] at ih2; exact .arc ih1 (E.op h) ih2
  | br h1 _ h2 ih =>
    rw [z1] at ih
    rw [z1]
    exact .br (E.op h1) ih (E.op h2)
  | cp h1 hc h2 hd h3 =>
    obtain ⟨p1, p2⟩ := E.part hc
    obtain ⟨p3, p4⟩ := E.part hd
    rw [z1] at p1 p2 p3 p4
    rw [z1, ← p2, ← p4]
    exact .cp (E.op h1) p1 (E.op h2) p3 (E.op h3)
theorem emb_right (zs : List Tk) : Emb ts (ts ++ zs) 0 where
  at' := fun h => by
    have := lt_of h
    rw [Nat.add_zero, List.getElem?_append_left this]
    exact h
  len := by rw [List.length_append]; lia
theorem emb_left (z : Tk) (zs : List Tk) : Emb ts (z :: (ts ++ zs)) 1 where
  at' := fun h => by
    have := lt_of h
    rw [List.getElem?_cons_succ, List.getElem?_append_left this]
    exact h
  len := by rw [List.length_cons, List.length_append]; lia
structure Ly (t : PyData) (k : Nat) : Prop where
  lay : t.canLay0 = true
  dep : t.depth ≤ k
structure LyA (ts : List PyData) (k : Nat) : Prop where
  lay : PyData.canLayAll0 ts = true
  dep : PyData.depthAll ts ≤ k
theorem Ly.up {t : PyData} {j k : Nat} (h : Ly t j) (hk : j ≤ k) : Ly t k := ⟨h.lay, Nat.le_trans h.dep hk⟩
theorem LyA.nil {k : Nat} : LyA [] k := ⟨rfl, Nat.zero_le _⟩
theorem LyA.cons {t : PyData} {l : List PyData} {k : Nat} (h : Ly t k) (r : LyA l k) : LyA (t :: l) k := by
  refine ⟨?_, ?_⟩
  · rw [PyData.canLayAll0, h.lay, r.lay]; rfl
  · rw [PyData.depthAll]; exact Nat.max_le.mpr ⟨h.dep, r.dep⟩
theorem LyA.up {l : List PyData} {j k : Nat} (h : LyA l j) (hk : j ≤ k) : LyA l k := ⟨h.lay, Nat.le_trans h.dep hk⟩
theorem Ly.tup {l : List PyData} {k : Nat} (h : LyA l k) : Ly (.tuple l) (k + 1) := by
  refine ⟨?_, ?_⟩
  · rw [PyData.canLay0]; exact h.lay
  · rw [PyData.depth]; exact Nat.succ_le_succ h.dep
theorem Ly.lst {l : List PyData} {k : Nat} (h : LyA l k) : Ly (.list l) (k + 1) := by
  refine ⟨?_, ?_⟩
  · rw [PyData.canLay0]; exact h.lay
  · rw [PyData.depth]; exact Nat.succ_le_succ h.dep
theorem Ly.str {s : Str} (h : PyData.strOk s = true) (k : Nat) : Ly (.str s) k := by
  refine ⟨?_, ?_⟩
  · rw [PyData.canLay0]; exact h
  · rw [PyData.depth]; exact Nat.zero_le _
theorem Ly.int (i : Int) (k : Nat) : Ly (.int i) k := ⟨by rw [PyData.canLay0], by rw [PyData.depth]; exact Nat.zero_le _⟩
theorem Ly.bool (b : Bool) (k : Nat) : Ly (.bool b) k := ⟨by rw [PyData.canLay0], by rw [PyData.depth]; exact Nat.zero_le _⟩
theorem Ly.none (k : Nat) : Ly .none k := ⟨by rw [PyData.canLay0], by rw [PyData.depth]; exact Nat.zero_le _⟩
theorem ok_un : PyData.strOk (Str.ofString "un") = true := by decide +kernel
theorem ok_not : PyData.strOk (Str.ofString ".NOT.") = true := by decide +kernel
theorem ok_bin : PyData.strOk (Str.ofString "bin") = true := by decide +kernel
theorem ok_name : PyData.strOk (Str.ofString "name") = true := by decide +kernel
theorem ok_ref : PyData.strOk (Str.ofString "ref") = true := by decide +kernel
theorem ok_sub : PyData.strOk (Str.ofString "sub") = true := by decide +kernel
theorem ok_cplx : PyData.strOk (Str.ofString "cplx") = true := by decide +kernel
theorem ok_int : PyData.strOk (Str.ofString "int") = true := by decide +kernel
theorem ok_real : PyData.strOk (Str.ofString "real") = true := by decide +kernel
theorem ok_dble : PyData.strOk (Str.ofString "dble") = true := by decide +kernel
theorem ok_log : PyData.strOk (Str.ofString "log") = true := by decide +kernel
theorem ok_char : PyData.strOk (Str.ofString "char") = true := by decide +kernel
theorem ly_const {t : Tk} (h : TokOk t) (s : Int) : Ly (consT t s) 1 := by
  unfold TokOk at h
  cases t with
  | int i => exact .tup (.cons (.str ok_int _) (.cons (.int _ _) .nil))
  | real a b => exact .tup (.cons (.str ok_real _) (.cons (.int _ _) (.cons (.int _ _) .nil)))
  | dble a b => exact .tup (.cons (.str ok_dble _) (.cons (.int _ _) (.cons (.int _ _) .nil)))
  | log b => exact .tup (.cons (.str ok_log _) (.cons (.bool _ _) .nil))
  | op x => exact .tup (.cons (.str ok_char _) (.cons (.str (by rw [Tk.pay, PyData.canLay0] at h; exact h) _) .nil))
  | name x => exact .tup (.cons (.str ok_char _) (.cons (.str (by rw [Tk.pay, PyData.canLay0] at h; exact h) _) .nil))
  | chr x => exact .tup (.cons (.str ok_char _) (.cons (.str (by rw [Tk.pay, PyData.canLay0] at h; exact h) _) .nil))
theorem ly_part (hok : ∀ t ∈ ts, TokOk t) (i : Nat) : Ly (partT ts i) 1 := by
  unfold partT
  split
  · rename_i t ht
    exact ly_const (hok t (List.mem_of_getElem? ht)) _
  · exact .none _
noncomputable def LyP : Ix → Nat → Nat → PyData → Prop
  | .ar, lo, hi, t => ∀ rows, t = .list rows → ∀ k, 2 * hi ≤ k + 2 * lo → LyA rows k
  | .ct, lo, hi, t => ∀ a b, t = .tuple [a, b] → ∀ k, 2 * hi ≤ k + 2 * lo → Ly a k ∧ Ly b k
  | _, lo, hi, t => ∀ k, 2 * hi ≤ k + 2 * lo → Ly t k
theorem ly_nm {s : Str} (h : PyData.strOk s = true) (k : Nat) : Ly (nameT s) (k + 1) := .tup (.cons (.str ok_name _) (.cons (.str h _) .nil))
theorem ly_tree (hok : ∀ t ∈ ts, TokOk t) {ix : Ix} {lo hi : Nat} {t : PyData} (g : Gr ts ix lo hi t) : LyP ix lo hi t := by
  have hop : ∀ {i : Nat} {s : Str}, ts[i]? = some (.op s) → PyData.strOk s = true := fun h => by
    have := hok _ (List.mem_of_getElem? h)
    unfold TokOk at this
    rw [Tk.pay, PyData.canLay0] at this
    exact this
  have hnm : ∀ {i : Nat} {s : Str}, ts[i]? = some (.name s) → PyData.strOk s = true := fun h => by
    have := hok _ (List.mem_of_getElem? h)
    unfold TokOk at this
    rw [Tk.pay, PyData.canLay0] at this
    exact this
  induction g with
  | @not l lo hi t h hl g ih =>
    intro k hk
    have f := (fact g).lt id
    obtain ⟨k, rfl⟩ := pre k (by lia)
    exact .tup (.cons (.str ok_un _) (.cons (.str ok_not _) (.cons (ih k (by lia)) .nil)))
  | @sgn l lo hi s t h hs hl g ih =>
    intro k hk
    have f := (fact g).lt id
    obtain ⟨k, rfl⟩ := pre k (by lia)
    exact .tup (.cons (.str ok_un _) (.cons (.str (hop h) _) (.cons (ih k (by lia)) .nil)))
  | @bin l lo mid hi s p a b g1 hs hp hl g2 ih1 ih2 =>
    intro k hk
    have f1 := (fact g1).lt id
    have f2 := (fact g2).lt id
    obtain ⟨k, rfl⟩ := pre k (by lia)
    exact .tup (.cons (.str ok_bin _) (.cons (.str (hop hs) _) (.cons (ih1 k (by lia)) (.cons (ih2 k (by lia)) .nil))))
  | prim _ ih => exact ih
  | @const lo t h h2 h3 => exact fun k hk => (ly_const (hok _ (List.mem_of_getElem? h)) 1).up (by lia)
  | @name lo s h =>
    intro k hk
    obtain ⟨k, rfl⟩ := pre k (by lia)
    exact ly_nm (hnm h) k
  | @ref0 lo s h h1 h2 =>
    intro k hk
    obtain ⟨k, rfl⟩ := pre k (by lia)
    obtain ⟨k, rfl⟩ := pre k (by lia)
    exact .tup (.cons (.str ok_ref _) (.cons (.str (hnm h) _) (.cons (.lst .nil) .nil)))
  | @ref lo mid s rows h h1 g h2 ih =>
    intro k hk
    have f := (fact g).lt id
    obtain ⟨k, rfl⟩ := pre k (by lia)
    obtain ⟨k, rfl⟩ := pre k (by lia)
    exact .tup (.cons (.str ok_ref _) (.cons (.str (hnm h) _) (.cons (.lst (ih rows rfl k (by lia))) .nil)))
  | refp _ ih => exact ih
  | @subn lo mid s a b h h1 g h2 ih =>
    intro k hk
    have f := (fact g).bal.le
    obtain ⟨k, rfl⟩ := pre k (by lia)
    obtain ⟨i1, i2⟩ := ih a b rfl k (by lia)
    obtain ⟨k, rfl⟩ := pre k (by lia)
    exact .tup (.cons (.str ok_sub _) (.cons (ly_nm (hnm h) k) (.cons i1 (.cons i2 .nil))))
  | @subr lo k mid t a b g1 h1 g2 h2 ih1 ih2 =>
    intro j hj
    have f1 := (fact g1).lt id
    have f2 := (fact g2).bal.le
    obtain ⟨j, rfl⟩ := pre j (by lia)
    obtain ⟨i1, i2⟩ := ih2 a b rfl j (by lia)
    exact .tup (.cons (.str ok_sub _) (.cons (ih1 j (by lia)) (.cons i1 (.cons i2 .nil))))
  | @ct lo c hi a b g1 h g2 ih1 ih2 =>
    intro a' b' e k hk
    cases e
    have f1 := (fact g1).bal.le
    have f2 := (fact g2).bal.le
    exact ⟨ih1 k (by lia), ih2 k (by lia)⟩
  | op0 h => exact fun k _ => .none _
  | op1 _ ih => exact ih
  | @ar1 lo hi t g ih =>
    intro rows e k hk
    cases e
    exact .cons (ih k hk) .nil
  | @arc lo mid hi t rows g1 h g2 ih1 ih2 =>
    intro rows' e k hk
    cases e
    have f1 := (fact g1).lt id
    have f2 := (fact g2).lt id
    exact .cons (ih1 k (by lia)) (ih2 rows rfl k (by lia))
  | @br lo mid t h1 g h2 ih => exact fun k hk => ih k (by lia)
  | @cp lo c d h1 hc h2 hd h3 =>
    intro k hk
    have l1 := (part_bal hc).2
    have l2 := (part_bal hd).2
    obtain ⟨k, rfl⟩ := pre k (by lia)
    exact .tup (.cons (.str ok_cplx _) (.cons ((ly_part hok _).up (by lia)) (.cons ((ly_part hok _).up (by lia)) .nil)))
end
section
variable {ds ds2 : List PyData} {ts ts2 : List Tk} {n : Nat}
theorem ixds_len (ds : List PyData) : (ixds ds).length = ds.length := by unfold ixds; rw [List.length_mapIdx]
theorem ixds_TK (hs : ts.length ≤ 1000) : TK (ixds (ts.map Tk.e2)) ts where
  len := by rw [ixds_len, List.length_map]
  at' := fun i t e => ⟨[.int (i : Nat)], by unfold ixds; rw [List.getElem?_mapIdx, List.getElem?_map, e]; rfl⟩
  small := by rw [ixds_len, List.length_map]; exact hs
theorem TK.app (h : TK ds ts) (h2 : TK ds2 ts2) (hs : ts.length + ts2.length ≤ 1000) : TK (ds ++ ds2) (ts ++ ts2) where
  len := by rw [List.length_append, List.length_append, h.len, h2.len]
  at' := fun i t e => by
    by_cases q : i < ts.length
    · rw [List.getElem?_append_left q] at e
      rw [List.getElem?_append_left (by rw [h.len]; exact q)]
      exact h.at' i t e
    · rw [List.getElem?_append_right (by lia)] at e
      rw [List.getElem?_append_right (by rw [h.len]; lia), h.len]
      exact h2.at' _ t e
  small := by rw [List.length_append, h.len, h2.len]; exact hs
theorem TK.one {s : Str} {r : List PyData} : TK [.tuple (.str (Str.ofString "OP") :: .str s :: r)] [.op s] where
  len := rfl
  at' := fun i t e => by
    match i with
    | 0 => cases e; exact ⟨r, rfl⟩
    | i + 1 => cases e
  small := by show 1 ≤ 1000; decide
theorem end_none {k : Nat} (h : ts.length ≤ k) : (∀ x, isOp ts k x = false) ∧ prioZ ts k = 0 := by
  have h1 : ts[k]? = none := List.getElem?_eq_none_iff.mpr h
  refine ⟨fun x => by unfold isOp; rw [h1], ?_⟩
  unfold prioZ
  rw [h1]
theorem whole_yes (h : TK ds ts) (hz0 : ts.length ≤ 800) {t : PyData} (g : Gr ts (.e 1) 0 ts.length t) (hw : W ts 0 + 14 ≤ n) (σ : Sto) : callF n .whole_expr [L ds] σ = .ok (.d t, σ) := by
  obtain ⟨n, rfl⟩ := pre n (by lia)
  obtain ⟨e1, e2⟩ := end_none (ts := ts) (Nat.le_refl _)
  have := g_whole h (pe_of_par h hz0 (parser_complete h hz0 g) (Nat.le_refl _) (e1 _) e2 n (by lia)) σ
  dsimp only at this
  rw [if_neg (by rw [h.len]; exact Nat.lt_irrefl _)] at this
  exact this
theorem whole_no (h : TK ds ts) (hz0 : ts.length ≤ 800) (hno : ∀ t, ¬ Gr ts (.e 1) 0 ts.length t) (hw : W ts 0 + 14 ≤ n) (σ : Sto) : callF n .whole_expr [L ds] σ = .exc := by
  obtain ⟨n, rfl⟩ := pre n (by lia)
  obtain ⟨r, p1, q1⟩ := pe_of h (parser_sound h hz0 _ 0 1 (Nat.le_add_right _ _) (Nat.le_refl _))
  match r, p1, q1 with
  | none, p1, q1 => exact g_whole h (p1 n (by lia)) σ
  | some (t, k), p1, q1 =>
    have this := g_whole h (p1 n (by lia)) σ
    have g := (q1 t k rfl).1
    have hk := (fact g).bal.len
    dsimp only at this
    by_cases hlt : k < ds.length
    · rw [if_pos hlt] at this
      exact this
    · exfalso
      have : k = ts.length := by have := h.len; lia
      subst this
      exact hno t g
theorem read_yes (hz0 : ts.length ≤ 800) (hmk : MarksOk ts) {t : PyData} (g : Gr ts (.e 1) 0 ts.length t) (hn : ts.length + 6 ≤ n) : evenN ts ts.length 0 0 = true ∧ GR n (ts.map Tk.e2) 0 ts.length 1 (some t) :=
  ⟨even_bal.mpr (fact g).bal, law_complete hz0 hmk g n (by lia)⟩
theorem read_no (hz0 : ts.length ≤ 800) (hmk : MarksOk ts) (hno : ∀ t, ¬ Gr ts (.e 1) 0 ts.length t) (hn : ts.length + 6 ≤ n) : evenN ts ts.length 0 0 = true → GR n (ts.map Tk.e2) 0 ts.length 1 none := fun he => by
  obtain ⟨r, _, q1, q2⟩ := law_sound hz0 hmk _ 0 ts.length 1 (Nat.le_add_right _ _) (even_bal.mp he)
  match r, q1, q2 with
  | none, q1, _ => exact q1 n (by lia)
  | some t, _, q2 => exact absurd (q2 t rfl) (hno t)
theorem eqD_none : eqD .none .none = some true := by
  show (if PyData.canLay0 .none = true ∧ PyData.canLay0 .none = true ∧ min (PyData.depth .none) (PyData.depth .none) ≤ 4000 then some (PyData.eqv .none .none) else none) = _
  rw [if_pos (by simp [PyData.canLay0, PyData.depth])]
  rfl
theorem eqD_tup {xs : List PyData} {k : Nat} (h : Ly (.tuple xs) k) (hk : k ≤ 4000) : eqD (.tuple xs) (.tuple xs) = some true := by
  show (if PyData.canLay0 (.tuple xs) = true ∧ PyData.canLay0 (.tuple xs) = true ∧ min (PyData.depth (.tuple xs)) (PyData.depth (.tuple xs)) ≤ 4000 then some (PyData.eqv (.tuple xs) (.tuple xs)) else none) = _
  rw [if_pos ⟨h.lay, h.lay, Nat.le_trans (Nat.min_le_left _ _) (Nat.le_trans h.dep hk)⟩, PySem.SeqAt.eqv_refl _ h.lay]
theorem oNe_same {x : PyData} {σ : Sto} (h : eqD x x = some true) : oNe (.d x) (.d x) σ = .ok (.d (.bool false), σ) := by
  unfold oNe datOf
  dsimp only
  rw [h]
  rfl
theorem oEq_same {x : PyData} {σ : Sto} (h : eqD x x = some true) : oEq (.d x) (.d x) σ = .ok (.d (.bool true), σ) := by
  unfold oEq datOf
  dsimp only
  rw [h]
theorem ints_lay : ∀ ys : List Int, PyData.canLayAll0 (ys.map PyData.int) = true
  | [] => rfl
  | y :: ys => by rw [List.map_cons, PyData.canLayAll0, PyData.canLay0, ints_lay ys]; rfl
theorem oEq_nil {ys : List Int} {σ : Sto} : oEq (.d (.list (ys.map PyData.int))) (.d (.list [])) σ = .ok (.d (.bool ys.isEmpty), σ) := by
  have e : eqD (.list (ys.map PyData.int)) (.list []) = some ys.isEmpty := by
    show (if PyData.canLay0 (.list (ys.map PyData.int)) = true ∧ PyData.canLay0 (.list []) = true ∧ min (PyData.depth (.list (ys.map PyData.int))) (PyData.depth (.list [])) ≤ 4000 then some (PyData.eqv (.list (ys.map PyData.int)) (.list [])) else none) = _
    rw [if_pos ⟨by rw [PyData.canLay0]; exact ints_lay ys, by rw [PyData.canLay0]; rfl, Nat.le_trans (Nat.min_le_right _ _) (by simp [PyData.depth, PyData.depthAll])⟩]
    cases ys with
    | nil => rw [List.map_nil, PyData.eqv, PyData.eqvAll]; rfl
    | cons y ys => rw [List.map_cons, PyData.eqv, PyData.eqvAll]; rfl
  unfold oEq datOf
  dsimp only
  rw [e]
end
section
variable {o : Orc} {ρ ρ' : Rho} {σ σ' : Sto}
theorem sTake_k {i j n : Nat} {ds : List PyData} (h : ρ[j]? = some (some (.d (.list ds)))) (hz : ds.length ≤ 1000) : sTake i j n o ρ σ = .ok (.next, ρ.set i (some (.d (.list (ds.take n)))), σ) := by
  unfold sTake
  rw [h]
  dsimp only
  rw [if_pos (by lia)]
theorem sTok_k {i j : Nat} {ds : List PyData} (h : ρ[j]? = some (some (.d (.list ds)))) (hz : ds.length ≤ 1000) (hp : ds.all isPair = true) : sTok i j o ρ σ = .ok (.next, ρ.set i (some (.d (.list (ixds ds)))), σ) := by
  unfold sTok
  rw [h]
  dsimp only
  rw [if_pos ⟨by lia, hp⟩]
theorem sTry_ok {i j : Nat} {f : Fn} {x : PyData} {av : AV} (h : ρ[j]? = some (some (.d x))) (hr : o f [.d x] [] = .ok (av, [])) : sTry i j f o ρ [] = .ok (.next, ρ.set i (some av), []) := by
  unfold sTry
  dsimp only
  rw [h]
  dsimp only
  rw [hr]
theorem sTry_x {i j : Nat} {f : Fn} {x : PyData} (h : ρ[j]? = some (some (.d x))) (hr : o f [.d x] [] = .exc) : sTry i j f o ρ [] = .ok (.next, ρ.set i (some (.d .none)), []) := by
  unfold sTry
  dsimp only
  rw [h]
  dsimp only
  rw [hr]
theorem oLApp_k {x y : List PyData} (h : x.length + y.length ≤ 2000) : oLApp (.d (.list x)) (.d (.list y)) σ = .ok (.d (.list (x ++ y)), σ) := by
  show (if x.length + y.length ≤ 1000000 then _ else _) = _
  rw [if_pos (by lia)]
end
noncomputable def comTok : PyData := .tuple [.str (Str.ofString "OP"), .str (Str.ofString ","), .int 99]
noncomputable def opnTok : PyData := .tuple [.str (Str.ofString "OP"), .str (Str.ofString "("), .int 0]
noncomputable def shtTok : PyData := .tuple [.str (Str.ofString "OP"), .str (Str.ofString ")"), .int 1]
noncomputable def lawEnd : SC := sCons (sUnp 7 4 (cCall .parse_expr [cBin oLApp (cV 5) (cLst [cTup [cK (.str (Str.ofString "OP")), cK (.str (Str.ofString ",")), cK (.int 99)]]), cK (.int 0)])) (sCons (sIf (tOr [tE (cBin oNe (cV 7) (cV 3)), tE (cBin oNe (cV 4) (cLen (cV 5)))]) (sCons (sRet (cK (.bool false))) (sNil)) (sNil)) (sCons (sRet (cBin oEq (cCall .whole_expr [cBin oLApp (cBin oLApp (cLst [cTup [cK (.str (Str.ofString "OP")), cK (.str (Str.ofString "(")), cK (.int 0)]]) (cV 5)) (cLst [cTup [cK (.str (Str.ofString "OP")), cK (.str (Str.ofString ")")), cK (.int 1)]])]) (cV 3))) (sNil)))
noncomputable def lawRest : SC := sCons (sAsg 2 (cCall .law_row [cV 1])) (sCons (sAsg 3 (cIf (tE (cCall .law_is_even [cV 2])) (cCall .law_read [cV 2, cK (.int 0), cLen (cV 2), cK (.int 1)]) (cK .none))) (sCons (sTok 5 2) (sCons (sAsg 6 (cK .none)) (sCons (sTry 6 5 .whole_expr) (sCons (sIf (tE (cBin oNe (cV 6) (cV 3))) (sCons (sRet (cK (.bool false))) (sNil)) (sNil)) (sCons (sIf (tE (cBin oIsNone (cV 3) (cK .none))) (sCons (sRet (cK (.bool true))) (sNil)) (sNil)) lawEnd))))))
theorem pairs_e2 (ts : List Tk) : (ts.map Tk.e2).all isPair = true := by
  rw [List.all_map]
  exact List.all_eq_true.mpr fun t _ => rfl
theorem marks_of {ts : List Tk} (hok : ∀ t ∈ ts, TokOk t) : MarksOk ts := fun i s h => by
  have := hok _ (List.mem_of_getElem? h)
  unfold TokOk at this
  rw [Tk.pay, PyData.canLay0] at this
  exact this
section
variable {ts : List Tk}
theorem W_app (a b : List Tk) : W (a ++ b) 0 = wts a + wts b := wts_app a b
theorem end_yes (R : RowOk ts) {t : PyData} (g : Gr ts (.e 1) 0 ts.length t) {v0 v1 v2 v6 v7 v4 : Option AV} :
    ∃ ρ', lawEnd (callF fuelL) [v0, v1, v2, some (.d t), v4, some (L (ixds (ts.map Tk.e2))), v6, v7] [] = .ok (.ret (.d (.bool true)), ρ', []) := by
  have hl := R.l
  have hw := R.w
  have h := ixds_TK (ts := ts) (by lia)
  have hlen := h.len
  have ly : Ly t 4000 := ly_tree R.ok g 4000 (by lia)
  obtain ⟨xs, rfl⟩ := (fact g).tup
  have eq := eqD_tup ly (Nat.le_refl _)
  have h2 : TK (ixds (ts.map Tk.e2) ++ [comTok]) (ts ++ [Tk.op (Str.ofString ",")]) := h.app .one (by rw [List.length_singleton]; lia)
  have g2 : Gr (ts ++ [Tk.op (Str.ofString ",")]) (.e 1) 0 ts.length (.tuple xs) := g.emb (emb_right _)
  have o2 : isOp (ts ++ [Tk.op (Str.ofString ",")]) ts.length (Str.ofString ",") = true := isOp_iff.mpr (by rw [List.getElem?_append_right (Nat.le_refl _), Nat.sub_self]; rfl)
  have hc1 : callF fuelL .parse_expr [L (ixds (ts.map Tk.e2) ++ [comTok]), .d (.int 0)] [] = .ok (.d (.tuple [.tuple xs, .int (ts.length : Nat)]), []) :=
    pe_of_sep h2 (by rw [List.length_append, List.length_singleton]; lia) (parser_complete h2 (by rw [List.length_append, List.length_singleton]; lia) g2) o2 (by decide) (by decide) fuelL (by
      rw [W_app]
      have : wts [Tk.op (Str.ofString ",")] = 2 := rfl
      have : fuelL = 560 := rfl
      lia) []
  have h3 : TK (([opnTok] ++ ixds (ts.map Tk.e2)) ++ [shtTok]) (([Tk.op (Str.ofString "(")] ++ ts) ++ [Tk.op (Str.ofString ")")]) :=
    ((TK.one (r := [.int 0])).app h (by rw [List.length_singleton]; lia)).app .one (by rw [List.length_append, List.length_singleton, List.length_singleton]; lia)
  have l3 : (([Tk.op (Str.ofString "(")] ++ ts) ++ [Tk.op (Str.ofString ")")]).length = ts.length + 2 := by rw [List.length_append, List.length_append, List.length_singleton, List.length_singleton]; lia
  have g3 : Gr (([Tk.op (Str.ofString "(")] ++ ts) ++ [Tk.op (Str.ofString ")")]) (.e 1) 0 (([Tk.op (Str.ofString "(")] ++ ts) ++ [Tk.op (Str.ofString ")")]).length (.tuple xs) := by
    rw [l3]
    refine .prim (.br (mid := ts.length + 1) rfl ?_ ?_)
    · have := g.emb (emb_left (Tk.op (Str.ofString "(")) [Tk.op (Str.ofString ")")])
      exact this
    · refine isOp_iff.mpr ?_
      rw [List.getElem?_append_right (by rw [List.length_append, List.length_singleton]; lia), List.length_append, List.length_singleton, show ts.length + 1 - (1 + ts.length) = 0 from by lia]
      rfl
  have hc2 : callF fuelL .whole_expr [L (([opnTok] ++ ixds (ts.map Tk.e2)) ++ [shtTok])] [] = .ok (.d (.tuple xs), []) :=
    whole_yes h3 (by rw [l3]; lia) g3 (by
      rw [W_app, wts_app]
      have : wts [Tk.op (Str.ofString "(")] = 6 := rfl
      have : wts [Tk.op (Str.ofString ")")] = 2 := rfl
      have : fuelL = 560 := rfl
      lia) []
  have ez1 : (ixds (ts.map Tk.e2)).length + [comTok].length ≤ 2000 := by rw [List.length_singleton]; lia
  have ez2 : [opnTok].length + (ixds (ts.map Tk.e2)).length ≤ 2000 := by rw [List.length_singleton]; lia
  have ez3 : ([opnTok] ++ ixds (ts.map Tk.e2)).length + [shtTok].length ≤ 2000 := by rw [List.length_append, List.length_singleton, List.length_singleton]; lia
  have eb2 : (!(((ts.length : Nat) : Int) == (((ixds (ts.map Tk.e2)).length : Nat) : Int))) = false := by rw [hlen]; simp
  exact ⟨_, sN (sUnp_k (fK (aC (bK (vK rfl) (lK (eC (uK (eC kK (eC kK (eC kK e0C)))) e0C)) (oLApp_k ez1)) (aC kK a0C)) hc1))
    (sN (nI (tOr_f (tK (bK (vK rfl) (vK rfl) (oNe_same eq))) rfl (tOr_f (tK (bK (vK rfl) (cLen_k (vK rfl) rfl (by lia)) oNe_i)) eb2 tOr_0)) rfl nK)
    (sR (sRet_k (bK (fK (aC (bK (bK (lK (eC (uK (eC kK (eC kK (eC kK e0C)))) e0C)) (vK rfl) (oLApp_k ez2)) (lK (eC (uK (eC kK (eC kK (eC kK e0C)))) e0C)) (oLApp_k ez3)) a0C) hc2) (vK rfl) (oEq_same eq)))))⟩
theorem rest_all (ys : List Int) (hy : ys.length ≤ 24) {v0 : Option AV} : ∃ ρ', lawRest (callF fuelL) [v0, some (.d (.list (ys.map PyData.int))), none, none, none, none, none, none] [] = .ok (.ret (.d (.bool true)), ρ', []) := by
  obtain ⟨ts, hrow, R⟩ := ev_row (m := 557) ys hy
  have hrow : callF fuelL .law_row [.d (.list (ys.map PyData.int))] [] = .ok (L (ts.map Tk.e2), []) := hrow
  have hl := R.l
  have hw := R.w
  have hz0 : ts.length ≤ 800 := by lia
  have hmk := marks_of R.ok
  have h := e2_TK (ts := ts) (by lia)
  have hlen := h.len
  have hi := ixds_TK (ts := ts) (by lia)
  have hW : W ts 0 = wts ts := rfl
  have hf : fuelL = 560 := rfl
  have heven : callF fuelL .law_is_even [L (ts.map Tk.e2)] [] = .ok (Bo (evenN ts ts.length 0 0), []) := by
    have := ev_even (n := 558) (σ := []) h
    rw [hlen] at this
    exact this
  have hz : (ts.map Tk.e2).length ≤ 1000 := by lia
  by_cases hex : ∃ t, Gr ts (.e 1) 0 ts.length t
  · obtain ⟨t, g⟩ := hex
    obtain ⟨he, hr⟩ := read_yes (n := fuelL) hz0 hmk g (by lia)
    have hread : callF fuelL .law_read [L (ts.map Tk.e2), .d (.int 0), .d (.int ((ts.map Tk.e2).length : Nat)), .d (.int 1)] [] = .ok (.d t, []) := by
      rw [hlen]
      exact hr []
    have hwhole : callF fuelL .whole_expr [L (ixds (ts.map Tk.e2))] [] = .ok (.d t, []) := whole_yes hi hz0 g (by lia) []
    have ly : Ly t 4000 := ly_tree R.ok g 4000 (by lia)
    have eq : eqD t t = some true := by
      obtain ⟨xs, rfl⟩ := (fact g).tup
      exact eqD_tup ly (Nat.le_refl _)
    have hnn : ∀ σ, oIsNone (.d t) (.d .none) σ = .ok (.d (.bool false), σ) := fun σ => by
      obtain ⟨xs, rfl⟩ := (fact g).tup
      rfl
    obtain ⟨ρ', hend⟩ := end_yes R g (v0 := v0) (v1 := some (.d (.list (ys.map PyData.int)))) (v2 := some (L (ts.map Tk.e2))) (v6 := some (.d t)) (v7 := none) (v4 := none)
    exact ⟨ρ', sN (gK (fK (aC (vK rfl) a0C) hrow)) (sN (gK (cIf_t (tK (fK (aC (vK rfl) a0C) heven)) he
      (fK (aC (vK rfl) (aC kK (aC (cLen_k (vK rfl) rfl hz) (aC kK a0C)))) hread)))
      (sN (sTok_k rfl hz (pairs_e2 ts)) (sN (gK kK) (sN (sTry_ok rfl hwhole) (sN (nI (tK (bK (vK rfl) (vK rfl) (oNe_same eq))) rfl nK)
      (sN (nI (tK (bK (vK rfl) kK (hnn _))) rfl nK) hend))))))⟩
  · have hno : ∀ t, ¬ Gr ts (.e 1) 0 ts.length t := fun t g => hex ⟨t, g⟩
    have hr := read_no (n := fuelL) hz0 hmk hno (by lia)
    have hwant : cIf (tE (cCall .law_is_even [cV 2])) (cCall .law_read [cV 2, cK (.int 0), cLen (cV 2), cK (.int 1)]) (cK .none) (callF fuelL) [v0, some (.d (.list (ys.map PyData.int))), some (L (ts.map Tk.e2)), none, none, none, none, none] [] = .ok (.d .none, []) := by
      cases he : evenN ts ts.length 0 0 with
      | true =>
        have hread : callF fuelL .law_read [L (ts.map Tk.e2), .d (.int 0), .d (.int ((ts.map Tk.e2).length : Nat)), .d (.int 1)] [] = .ok (.d .none, []) := by
          rw [hlen]
          exact hr he []
        exact cIf_t (tK (fK (aC (vK rfl) a0C) heven)) he (fK (aC (vK rfl) (aC kK (aC (cLen_k (vK rfl) rfl hz) (aC kK a0C)))) hread)
      | false => exact cIf_f (tK (fK (aC (vK rfl) a0C) heven)) he kK
    have hwhole : callF fuelL .whole_expr [L (ixds (ts.map Tk.e2))] [] = .exc := whole_no hi hz0 hno (by lia) []
    exact ⟨_, sN (gK (fK (aC (vK rfl) a0C) hrow)) (sN (gK hwant)
      (sN (sTok_k rfl hz (pairs_e2 ts)) (sN (gK kK) (sN (sTry_x rfl hwhole) (sN (nI (tK (bK (vK rfl) (vK rfl) (oNe_same eqD_none))) rfl nK)
      (sR (tI (tK (bK (vK rfl) kK (R := .ok (.d (.bool true), [])) rfl)) rfl (sR (sRet_k kK)))))))))⟩
theorem law_eq : sh_law = sCons (sTake 1 0 24) (sCons (sIf (tE (cBin oEq (cV 1) (cLst []))) (sCons (sAsg 1 (cLst [cK (.int 10), cK (.int 16), cK (.int 12), cK (.int 3), cK (.int 36), cK (.int 192), cK (.int 0), cK (.int 8), cK (.int 12), cK (.int 19), cK (.int 9), cK (.int 3), cK (.int 7), cK (.int 120), cK (.int 16)])) (sNil)) (sNil)) lawRest) := rfl
theorem plain : Plain := by
  intro xs hx
  rw [law_eq]
  have hz : (xs.map PyData.int).length ≤ 1000 := by rw [List.length_map]; lia
  have e1 := sTake_k (o := callF fuelL) (ρ := [some (.d (.list (xs.map PyData.int))), none, none, none, none, none, none, none]) (σ := []) (i := 1) (j := 0) (n := 24) rfl hz
  rw [← List.map_take] at e1
  cases he : (xs.take 24).isEmpty with
  | true =>
    obtain ⟨ρ', hr⟩ := rest_all [10, 16, 12, 3, 36, 192, 0, 8, 12, 19, 9, 3, 7, 120, 16] (by decide) (v0 := some (.d (.list (xs.map PyData.int))))
    exact ⟨ρ', sN e1 (sN (tI (tK (bK (vK rfl) (lK e0C) oEq_nil)) he (sN (gK (lK (eC kK (eC kK (eC kK (eC kK (eC kK (eC kK (eC kK (eC kK (eC kK (eC kK (eC kK (eC kK (eC kK (eC kK (eC kK e0C))))))))))))))))) nK)) hr)⟩
  | false =>
    obtain ⟨ρ', hr⟩ := rest_all (xs.take 24) (by rw [List.length_take]; lia) (v0 := some (.d (.list (xs.map PyData.int))))
    exact ⟨ρ', sN e1 (sN (nI (tK (bK (vK rfl) (lK e0C) oEq_nil)) he nK) hr)⟩
end
theorem holds : PySem.Challenge.rw_no0241_01.Holds := holds_of plain
end Mine

theorem PySem.Challenge.cw_no0241_01_holds : PySem.Challenge.rw_no0241_01.Holds :=
  Mine.holds
