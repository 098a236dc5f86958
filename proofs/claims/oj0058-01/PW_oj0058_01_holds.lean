import PyProof.Rows.All
import Wide.All
import OpenK.AllK
import Wide.FinOn
import Lean
import PySem.Challenge.RW_oj0058_01
open PySem PySem.W PySem.Calls PyProof.Rows
set_option Elab.async false
set_option maxRecDepth 100000
set_option autoImplicit false
set_option linter.unusedVariables false
set_option maxHeartbeats 2000000
set_option compiler.extract_closed false
set_option genSizeOf false
set_option genInjectivity false
set_option pp.deepTerms false
set_option pp.deepTerms.threshold 4
namespace Mine
theorem absP {p : Prop} (h : ∀ G : Prop, (p → G) → G) : p := h p id

section
-- H0
noncomputable abbrev pw : Program := PySem.Challenge.pw_oj0058_01
noncomputable def defAt (i : Nat) : Arguments × List Stmt × Scope := match pw.main.body[i]? with
  | some (.FunctionDef (args := a) (body := b) (scope := s) ..) => (a, b, s)
  | _ => default
noncomputable def metAt (i : Nat) : Arguments × List Stmt × Scope := match pw.main.body[i]? with
  | some (.ClassDef (body := b) ..) => match b with
    | .FunctionDef (args := a) (body := b) (scope := s) .. :: _ => (a, b, s)
    | _ => default
  | _ => default
structure FnI where
  n : PySem.Str
  i : Nat
  a : Addr
  m : PySem.Str
  t : Tok
  d : Value
noncomputable def fns : List FnI := [
  ⟨"error", 3, 67, "tclcore.faults", 187, .ref 60⟩,
  ⟨"wrong_args", 4, 74, "tclcore.faults", 187, .none⟩,
  ⟨"listing", 5, 81, "tclcore.faults", 187, .none⟩,
  ⟨"pick", 6, 88, "tclcore.faults", 187, .none⟩,
  ⟨"in_set", 8, 95, "tclcore.glob", 304, .none⟩,
  ⟨"behind_one", 9, 102, "tclcore.glob", 304, .none⟩,
  ⟨"put_places", 10, 109, "tclcore.glob", 304, .none⟩,
  ⟨"folded", 11, 116, "tclcore.glob", 304, .none⟩,
  ⟨"fits", 12, 124, "tclcore.glob", 304, .ref 117⟩,
  ⟨"is_blank", 14, 131, "tclcore.numbers", 364, .none⟩,
  ⟨"backslash", 19, 159, "tclcore.words", 381, .none⟩,
  ⟨"check_behind", 21, 166, "tclcore.lists", 417, .none⟩,
  ⟨"braced_element", 22, 173, "tclcore.lists", 417, .none⟩,
  ⟨"quoted_element", 23, 180, "tclcore.lists", 417, .none⟩,
  ⟨"bare_element", 24, 187, "tclcore.lists", 417, .none⟩,
  ⟨"find_element", 25, 194, "tclcore.lists", 417, .none⟩,
  ⟨"split_list", 26, 201, "tclcore.lists", 417, .none⟩,
  ⟨"is_fit", 28, 208, "tclcore.switchcmd", 477, .none⟩,
  ⟨"chosen", 29, 215, "tclcore.switchcmd", 477, .none⟩,
  ⟨"options_of", 30, 222, "tclcore.switchcmd", 477, .none⟩,
  ⟨"odd_fault", 31, 229, "tclcore.switchcmd", 477, .none⟩,
  ⟨"pairs_of", 32, 236, "tclcore.switchcmd", 477, .none⟩,
  ⟨"switch_action", 33, 243, "tclcore.switchcmd", 477, .none⟩,
  ⟨"_law_take", 35, 250, "law_oj0058_01", 549, .none⟩,
  ⟨"_law_base", 36, 257, "law_oj0058_01", 549, .none⟩,
  ⟨"_law_options", 37, 264, "law_oj0058_01", 549, .none⟩,
  ⟨"_law_texts", 38, 271, "law_oj0058_01", 549, .none⟩,
  ⟨"_law_patterns", 39, 278, "law_oj0058_01", 549, .none⟩,
  ⟨"_law_bodies", 40, 285, "law_oj0058_01", 549, .none⟩,
  ⟨"_law_spoilt", 41, 292, "law_oj0058_01", 549, .none⟩,
  ⟨"_law_spelled", 42, 299, "law_oj0058_01", 549, .none⟩,
  ⟨"_law_option", 43, 306, "law_oj0058_01", 549, .none⟩,
  ⟨"_law_ahead", 44, 313, "law_oj0058_01", 549, .none⟩,
  ⟨"_law_usage", 45, 320, "law_oj0058_01", 549, .none⟩,
  ⟨"_law_items", 46, 325, "law_oj0058_01", 549, .none⟩,
  ⟨"_law_pieces", 47, 332, "law_oj0058_01", 549, .none⟩,
  ⟨"_law_takes", 48, 339, "law_oj0058_01", 549, .none⟩,
  ⟨"_law_matches", 49, 344, "law_oj0058_01", 549, .none⟩,
  ⟨"_law_fits", 50, 351, "law_oj0058_01", 549, .none⟩,
  ⟨"_law_due", 51, 356, "law_oj0058_01", 549, .none⟩,
  ⟨"_law_got", 52, 363, "law_oj0058_01", 549, .none⟩,
  ⟨"_law_case_is_right", 53, 368, "law_oj0058_01", 549, .none⟩,
  ⟨"law", 54, 375, "law_oj0058_01", 549, .none⟩]
noncomputable def fnObj (n : PySem.Str) (d : Arguments × List Stmt × Scope) (a : Addr) (m : PySem.Str) (t : Tok) (dV : Value) : Obj :=
  { cls := .type "function", data := .func (fnOf n n d.1 d.2.1 d.2.2 dV .none .none (.str m t) none (.ref (a - 1)) .none) }
noncomputable def metObj (n q : PySem.Str) (d : Arguments × List Stmt × Scope) (a : Addr) (m : PySem.Str) (t : Tok) (dV : Value) : Obj :=
  { cls := .type "function", data := .func (fnOf n q d.1 d.2.1 d.2.2 dV .none .none (.str m t) none (.ref (a - 1)) .none) }
noncomputable def hs (P : Params) (x : PySem.Str) : Int := reduceHash (P.strHash x.cps)
noncomputable def ent (P : Params) (x : PySem.Str) (t : Tok) (v : Value) : DictEntry := ⟨hs P x, .str x t, v⟩
noncomputable def tupO (vs : List Value) : Obj := { cls := .type "tuple", data := .seq vs.toArray }
noncomputable def clsK (P : Params) : Frag := [
  (33, { cls := .type "type", data := .cls { name := "Raised", bases := [.type "Exception"], mro := [.ref 33, .type "Exception", .type "BaseException", .type "object"], ns := 32, qualname := "Raised" }, slots := #[some (.ref 15), none, some (.str "Raised" 189), some (.str "Raised" 197), some (.builtin "Exception.__new__"), some (.bool true)] }),
  (32, { cls := .type "dict", data := .dict #[ent P "__module__" 196 (.str "tclcore.faults" 187), ent P "__firstlineno__" 200 (.int 2 199), ent P "__init__" 215 (.ref 30), ent P "__static_attributes__" 225 (.ref 31), ent P "__weakref__" 227 (.ref 34), ent P "__doc__" 228 .none] 3 }),
  (30, metObj "__init__" "Raised.__init__" (metAt 1) 30 "tclcore.faults" 187 (.ref 23)),
  (34, { cls := .type "getset_descriptor", data := .fields #[.str "__weakref__" 226, .ref 33, .builtin "ExceptionGroup.__weakref__", .none] }),
  (22, tupO [.str "NONE" 201]),
  (23, tupO [.ref 22, .int 0 202, .int 0 203]),
  (54, { cls := .type "type", data := .cls { name := "Nest", bases := [.type "object"], mro := [.ref 54, .type "object"], ns := 53, qualname := "Nest" }, slots := #[none, none, some (.str "Nest" 233), some (.str "Nest" 241), some (.builtin "object.__new__"), some (.bool true)] }),
  (53, { cls := .type "dict", data := .dict #[ent P "__module__" 240 (.str "tclcore.faults" 187), ent P "__firstlineno__" 244 (.int 15 243), ent P "__init__" 256 (.ref 51), ent P "__static_attributes__" 261 (.ref 52), ent P "__dict__" 263 (.ref 55), ent P "__weakref__" 265 (.ref 56), ent P "__doc__" 266 .none] 4 }),
  (51, metObj "__init__" "Nest.__init__" (metAt 2) 51 "tclcore.faults" 187 (.ref 44)),
  (55, { cls := .type "getset_descriptor", data := .fields #[.str "__dict__" 262, .ref 54, .builtin "function.__dict__", .builtin "function.__dict__#set"] }),
  (56, { cls := .type "getset_descriptor", data := .fields #[.str "__weakref__" 264, .ref 54, .builtin "ExceptionGroup.__weakref__", .none] }),
  (44, tupO [.none, .bool false, .str "" 245]),
  (59, tupO [.str "NONE" 269]),
  (60, tupO [.ref 59]),
  (117, tupO [.bool false]),
  (4, { cls := .type "module", dict := some 0 })]
noncomputable def fnK : Frag := fns.map fun f => (f.a, fnObj f.n (defAt f.i) f.a f.m f.t f.d)
noncomputable def K (P : Params) : Frag := clsK P ++ fnK
noncomputable def addrs : List Addr := [33, 32, 30, 34, 22, 23, 54, 53, 51, 55, 56, 44, 59, 60, 117, 4] ++ fns.map fun f => f.a
theorem addrs_eq (P : Params) : addrs = (K P).map (·.1) := by rfl
noncomputable def glob0 : List (PySem.Str × Option Value) := [("Raised", some (.ref 33)), ("Nest", some (.ref 54)), ("len", none), ("range", none), ("isinstance", none), ("sum", none), ("enumerate", none), ("Exception", none)]
noncomputable def glob : List (PySem.Str × Option Value) := glob0 ++ fns.map fun f => (f.n, some (Value.ref f.a))
noncomputable def codeOk (h : Heap) (a : Addr) (n : PySem.Str) : Bool := match h.get? (a - 1) with
  | some ⟨_, _, Data.fields vs, _⟩ => match vs[1]? with
    | some (Value.str x _) => x == n
    | _ => false
  | _ => false
noncomputable def codesOk (h : Heap) : Bool := codeOk h 30 "Raised.__init__" && codeOk h 51 "Nest.__init__" && (h.get? sysModules).isSome && fns.all fun f => codeOk h f.a f.n
noncomputable def obs (s : Shared) : List (Option Obj) × List (Option Value) × Bool × Bool := (addrs.map s.heap.get?, glob.map fun x => s.heap.nsMap mainGlobals x.1, codesOk s.heap, s.heap.isNs mainGlobals)
noncomputable def val (w : World) : List (Option Obj) × List (Option Value) × Bool × Bool := ((K w.params).map fun p => some p.2, glob.map (·.2), true, true)
structure Says (w : World) (h : Heap) : Prop where
  K : (Mine.K w.params).In h
  G : ∃ mg, h.Ns mainGlobals mg ∧ ∀ x ∈ glob, mg x.1 = x.2
  C : ∀ x ∈ fns, h.CodeRec (.ref (x.a - 1)) x.n
  CR : h.CodeRec (.ref 29) "Raised.__init__"
  CN : h.CodeRec (.ref 50) "Nest.__init__"
  S : ∃ o, h.get? sysModules = some o
theorem codeRec_of_ok {h : Heap} {a : Addr} {n : PySem.Str} (e : codeOk h a n = true) : h.CodeRec (.ref (a - 1)) n := by
  unfold codeOk at e
  split at e
  · rename_i vs _ ho
    split at e
    · rename_i x t hv
      exact ⟨_, _, vs, t, rfl, ho, rfl, by rw [hv, beq_iff_eq.mp e]⟩
    · cases e
  · cases e
theorem says_of (w : World) (s : Shared) (e : obs s = val w) : Says w s.heap := by
  have e1 := congrArg Prod.fst e
  have e2 := congrArg (fun x => x.2.1) e
  have e3 : codesOk s.heap = true := congrArg (fun x => x.2.2.1) e
  have e4 : s.heap.isNs mainGlobals = true := congrArg (fun x => x.2.2.2) e
  unfold codesOk at e3
  simp only [Bool.and_eq_true] at e3
  refine ⟨Frag.in_of (addrs_eq _) e1, ⟨_, Heap.Ns.of_isNs e4, fun x hx => List.map_inj_left.mp e2 x hx⟩, fun x hx => ?_, codeRec_of_ok e3.1.1.1, codeRec_of_ok e3.1.1.2, Option.isSome_iff_exists.mp e3.1.2⟩
  exact codeRec_of_ok (List.all_eq_true.mp e3.2 x hx)
theorem Says.keeps {w : World} {h h' : Heap} (x : Says w h) (k : ∀ b o, h.get? b = some o → h'.get? b = some o) : Says w h' :=
  ⟨x.K.keeps k, let ⟨mg, a, b⟩ := x.G; ⟨mg, a.keeps k, b⟩, fun y hy => (x.C y hy).keeps k, x.CR.keeps k, x.CN.keeps k, let ⟨o, a⟩ := x.S; ⟨o, k _ _ a⟩⟩
noncomputable def q : Program := { pw with main := { pw.main with body := pw.main.body.drop 54 } }
noncomputable def loose : List PySem.Str := pw.boundNames.filter fun n => !(n == ("law" : PySem.Str))
end

section
-- H1
noncomputable abbrev rw58 : OpenLaw := PySem.Challenge.rw_oj0058_01
theorem said : rw58.wellSaid = true := by kernel_rfl
noncomputable def Xt (s : Shared) : Bool := xlAt q [] s && recOk (RowW.records rw58.row.toRowW) s
theorem opens : ∀ w : World, (fencedOpening treeTable pw w 4000).map (fun s => (s.heap, s.gens, s.drawn, s.toks)) = some (boot_heap w.params, Array.mk [], boot_drawn, boot_toks) :=
  boot_open (by kernel_rfl) (by kernel_rfl) (fun s => by kernel_rfl)
theorem ran : ∀ (w : World) (os : OsState), (topFrom treeTable pw w 4000 ⟨boot_heap w.params, Array.mk [], boot_drawn, boot_toks, os⟩).map (fun s => (openSeen q loose (importedModules pw.main.body) Xt true s, obs s)) = some (openGood q loose, val w) := fun w os => by kernel_rfl
theorem left : LeftO pw q loose Xt obs val 4000 := fun w => by
  refine absP fun _ kk => ?_
  obtain ⟨⟨h, gs, d, k, os⟩, e, e'⟩ := Option.map_eq_some_iff.mp (opens w)
  refine kk ?_
  clear kk
  obtain ⟨rfl, rfl, rfl, rfl⟩ : h = boot_heap w.params ∧ gs = Array.mk [] ∧ d = boot_drawn ∧ k = boot_toks := by simpa using e'
  unfold openEnds
  rw [e, Option.bind_some]
  exact ran w os
end
section
-- H2
noncomputable def lawRec : DefRec := ((defOf q "law").map (·.1)).getD ⟨"", default, [], default, default⟩
theorem head (walk : WalkO q loose (XL q []) Says rw58.row.toRowW lawRec [] fun f vs => PySem.call f vs) (hw : rw58.row.toRowW.promised) : rw58.Holds :=
  holds_law said fun said' => holds_open (r := rw58.row) (q := q) (loose := loose) (Xt := Xt) (XP := XL q []) (Yf := obs) (Ya := val) (YP := Says) (N := 4000) left
    says_of (fun _ _ _ x k => x.keeps k) (fun s e => xl_of s (Bool.and_eq_true_iff.mp e).1) XL.keeps (by rfl) (by rfl) (by rfl) (fun s e => recFacts_of (Bool.and_eq_true_iff.mp e).2) (by rfl) said' (of_decide_eq_true (by kernel_rfl)) ⟨rfl, rfl, rfl, rfl, rfl, of_decide_eq_true (by kernel_rfl)⟩ hw walk
theorem witness : rw58.row.toRowW.promised := by
  exact ⟨[.list []], by decide +kernel, by decide +kernel⟩
end
section
-- L1
noncomputable abbrev Rw := List (Addr × Obj)
structure Fz where
  l : List (Addr × Obj)
  b : Nat
noncomputable def Fz.put (N : Fz) (p : Addr × Obj) : Fz := ⟨p :: N.l, N.b⟩
noncomputable def Fz.up (N : Fz) (b : Nat) : Fz := ⟨N.l, b⟩
noncomputable abbrev Wd := List Nat
noncomputable def tx (l : Wd) : PySem.Str := ⟨l.toArray⟩
noncomputable abbrev u (s : String) : Wd := (PySem.Str.ofString s).cps.toList
noncomputable def KD (o : Obj) (ks : List Int) : Prop := ∀ w, o.IsDictOf (intKind pw w) (ks.map fun k => (k, Value.bool true))
inductive D where
  | none
  | bool (b : Bool)
  | int (i : Int)
  | str (s : Wd)
  | strx (s : Wd)
  | tup (ds : List D)
  | lst (ds : List D)
  | keys (ks : List Int)
  | rng (a b c : Int)
  | nest (s : Wd)
  | ref (a : Addr)
  | val (v : Value)

noncomputable def lstO (vs : List Value) (n : Nat) : Obj := { cls := .type "list", data := .seq vs.toArray n }
mutual
inductive VR (N : Fz) : Value → D → Prop
  | none : VR N .none .none
  | bool (b : Bool) : VR N (.bool b) (.bool b)
  | int (i : Int) (t : Tok) : VR N (.int i t) (.int i)
  | str (s : Wd) (t : Tok) : t ≠ 0 → t < N.b → VR N (.str (tx s) t) (.str s)
  | strx (s : Wd) (t : Tok) : VR N (.str (tx s) t) (.strx s)
  | ref (a : Addr) : VR N (.ref a) (.ref a)
  | val (v : Value) : VR N v (.val v)
  | tup {a : Addr} {o : Obj} {n : Nat} {vs : List Value} {ds : List D} : (a, o) ∈ N.l → o.cls = .type "tuple" → o.data = .seq vs.toArray n → VRs N vs ds → VR N (.ref a) (.tup ds)
  | lst {a : Addr} {o : Obj} {n : Nat} {vs : List Value} {ds : List D} : (a, o) ∈ N.l → o.cls = .type "list" → o.dict = Option.none → o.data = .seq vs.toArray n → VRs N vs ds → VR N (.ref a) (.lst ds)
  | keys {a : Addr} {o : Obj} {ks : List Int} : (a, o) ∈ N.l → (a == sysModules) = false → KD o ks → VR N (.ref a) (.keys ks)
  | rng {r : Addr} {a b c : Int} {t u v : Tok} : (r, { cls := .type "range", data := .fields #[.int a t, .int b u, .int c v] }) ∈ N.l → VR N (.ref r) (.rng a b c)
  | nest {x dx : Addr} {s : Wd} {v : Value} {ox od : Obj} {es : Array DictEntry} {ep : Nat} : (x, ox) ∈ N.l → (dx, od) ∈ N.l → ox.cls = .ref 54 → (∀ c, ox.data ≠ .cls c) → ox.dict = some dx → od.data = .dict es ep → StrKeys es →
      nsFind es "script" = some v → VR N v (.str s) → nsFind es "back" = some .none → nsFind es "is_proc" = some (.bool false) → (∃ u, nsFind es "label" = some (.str "" u)) → VR N (.ref x) (.nest s)
inductive VRs (N : Fz) : List Value → List D → Prop
  | nil : VRs N [] []
  | cons {v : Value} {d : D} {vs : List Value} {ds : List D} : VR N v d → VRs N vs ds → VRs N (v :: vs) (d :: ds)
end
noncomputable def Le (N N' : Fz) : Prop := (∀ p ∈ N.l, p ∈ N'.l) ∧ N.b ≤ N'.b
theorem Le.refl (N : Fz) : Le N N := ⟨fun _ h => h, Nat.le_refl _⟩
theorem Le.trans {a b c : Fz} (x : Le a b) (y : Le b c) : Le a c := ⟨fun p h => y.1 p (x.1 p h), Nat.le_trans x.2 y.2⟩
theorem Le.cons {N : Fz} {p : Addr × Obj} : Le N (N.put p) := ⟨fun _ h => .tail _ h, Nat.le_refl _⟩
theorem Le.up {N : Fz} {b : Nat} (h : N.b ≤ b) : Le N (N.up b) := ⟨fun _ h => h, h⟩
theorem VR.mono {N N' : Fz} (l : Le N N') {v : Value} {d : D} (r : VR N v d) : VR N' v d :=
  VR.rec (motive_1 := fun v d _ => VR N' v d) (motive_2 := fun vs ds _ => VRs N' vs ds) .none .bool .int (fun s t h g => .str s t h (Nat.lt_of_lt_of_le g l.2)) .strx .ref .val
    (fun h1 h2 h3 _ ih => .tup (l.1 _ h1) h2 h3 ih) (fun h1 h2 h3 h4 _ ih => .lst (l.1 _ h1) h2 h3 h4 ih) (fun h f g => .keys (l.1 _ h) f g) (fun h1 => .rng (l.1 _ h1))
    (fun h1 h2 a z b c d e _ f g i ih => .nest (l.1 _ h1) (l.1 _ h2) a z b c d e ih f g i) .nil (fun _ _ ih1 ih2 => .cons ih1 ih2) r
theorem VRs.ind {N : Fz} {P : List Value → List D → Prop} (h0 : P [] []) (h1 : ∀ {v d vs ds}, VR N v d → VRs N vs ds → P vs ds → P (v :: vs) (d :: ds)) {vs : List Value} {ds : List D} (r : VRs N vs ds) : P vs ds :=
  VRs.rec (motive_1 := fun _ _ _ => True) (motive_2 := fun vs ds _ => P vs ds) trivial (fun _ => trivial) (fun _ _ => trivial) (fun _ _ _ _ => trivial) (fun _ _ => trivial) (fun _ => trivial) (fun _ => trivial)
    (fun _ _ _ _ _ => trivial) (fun _ _ _ _ _ _ => trivial) (fun _ _ _ => trivial) (fun _ => trivial) (fun _ _ _ _ _ _ _ _ _ _ _ _ _ => trivial) h0 (fun a b _ ih => h1 a b ih) r
theorem VRs.mono {N N' : Fz} (l : Le N N') {vs : List Value} {ds : List D} (r : VRs N vs ds) : VRs N' vs ds :=
  VRs.ind .nil (fun h _ ih => .cons (h.mono l) ih) r
theorem VRs.length {N : Fz} {vs : List Value} {ds : List D} (r : VRs N vs ds) : vs.length = ds.length :=
  VRs.ind (P := fun vs ds => vs.length = ds.length) rfl (fun _ _ ih => congrArg Nat.succ ih) r
theorem VRs.get {N : Fz} {vs : List Value} {ds : List D} (r : VRs N vs ds) : ∀ {i : Nat} {d : D}, ds[i]? = some d → ∃ v, vs[i]? = some v ∧ VR N v d :=
  VRs.ind (P := fun vs ds => ∀ {i : Nat} {d : D}, ds[i]? = some d → ∃ v, vs[i]? = some v ∧ VR N v d) (fun h => nomatch h) (fun {v _ _ _} hv _ ih i d h => by
    cases i with
    | zero => exact ⟨v, rfl, Option.some.inj h ▸ hv⟩
    | succ i => exact ih h) r
theorem VRs.append {N : Fz} {vs ws : List Value} {ds es : List D} (r : VRs N vs ds) (y : VRs N ws es) : VRs N (vs ++ ws) (ds ++ es) :=
  VRs.ind (P := fun vs ds => VRs N (vs ++ ws) (ds ++ es)) y (fun h _ ih => .cons h ih) r
structure Exc where
  code : Int
  value : Wd
  ec : List Wd
inductive MO where
  | list (ds : List D)
  | keys (ks : List Int)
  | exc (x : Exc)
noncomputable abbrev Cells := List (Addr × MO)
structure Pay (N : Fz) (dx : Addr) (x : Exc) : Prop where
  there : ∃ od es ep v1 v2 v3, (dx, od) ∈ N.l ∧ od.data = .dict es ep ∧ StrKeys es ∧ nsFind es "code" = some v1 ∧ nsFind es "value" = some v2 ∧ nsFind es "errorcode" = some v3 ∧ VR N v1 (.int x.code) ∧ VR N v2 (.str x.value) ∧ VR N v3 (.tup (x.ec.map .str))
theorem Pay.mono {N N' : Fz} {dx : Addr} {x : Exc} (l : Le N N') (p : Pay N dx x) : Pay N' dx x := by
  refine absP fun _ kk => ?_
  refine absP fun _ kk => ?_
  obtain ⟨od, es, ep, v1, v2, v3, a, b, c, d, e, f, g, h, i⟩ := p.there
  refine kk ?_
  clear kk
  exact kk ⟨od, es, ep, v1, v2, v3, l.1 _ a, b, c, d, e, f, g.mono l, h.mono l, i.mono l⟩
noncomputable def MOk (N : Fz) (o : Obj) : MO → Prop
  | .list ds => ∃ vs n, o = lstO vs n ∧ VRs N vs ds
  | .keys ks => KD o ks
  | .exc x => ∃ t dx, o = { cls := .ref 33, dict := some dx, data := .fields #[.ref t, .none, .none, .none, .bool false, .none] } ∧ Pay N dx x
theorem MOk.mono {N N' : Fz} {o : Obj} (l : Le N N') : ∀ {m : MO}, MOk N o m → MOk N' o m
  | .list _, ⟨vs, n, a, b⟩ => ⟨vs, n, a, b.mono l⟩
  | .keys _, a => a
  | .exc _, ⟨t, dx, a, b⟩ => ⟨t, dx, a, b.mono l⟩

noncomputable abbrev Nss := List (Addr × (PySem.Str → Option Value))
structure Hp (B0 : Heap) (nss : Nss) (N : Fz) (F : Rw) (κ : Cells) (h : Heap) : Prop where
  base : ∀ b o, B0.get? b = some o → h.get? b = some o
  ns : ∀ p ∈ nss, h.Ns p.1 p.2
  fro : ∀ p ∈ N.l, h.get? p.1 = some p.2
  frm : ∀ p ∈ F, h.get? p.1 = some p.2
  cel : ∀ p ∈ κ, ∃ o, h.get? p.1 = some o ∧ MOk N o p.2
  lowS : ∀ p ∈ nss, B0.objs.size ≤ p.1
  lowK : ∀ p ∈ κ, B0.get? p.1 = none
  lowF : ∀ p ∈ F, B0.get? p.1 = none
  big : B0.objs.size ≤ h.objs.size
  nsd : (nss.map (·.1)).Nodup
  ced : (κ.map (·.1)).Nodup
  frd : (F.map (·.1)).Nodup
  nsN : ∀ p ∈ nss, ∀ q ∈ N.l, p.1 ≠ q.1
  nsF : ∀ p ∈ nss, ∀ q ∈ F, p.1 ≠ q.1
  nsK : ∀ p ∈ nss, ∀ q ∈ κ, p.1 ≠ q.1
  NF : ∀ p ∈ N.l, ∀ q ∈ F, p.1 ≠ q.1
  NK : ∀ p ∈ N.l, ∀ q ∈ κ, p.1 ≠ q.1
  FK : ∀ p ∈ F, ∀ q ∈ κ, p.1 ≠ q.1

section
variable {B0 : Heap} {nss : Nss} {N : Fz} {F : Rw} {κ : Cells} {h h' : Heap}
theorem Hp.keeps (H : Hp B0 nss N F κ h) (hk : ∀ b o, h.get? b = some o → h'.get? b = some o) (hz : h.objs.size ≤ h'.objs.size) : Hp B0 nss N F κ h' :=
  { H with
    base := fun b o e => hk _ _ (H.base b o e)
    ns := fun p hp => (H.ns p hp).keeps hk
    fro := fun p hp => hk _ _ (H.fro p hp)
    frm := fun p hp => hk _ _ (H.frm p hp)
    cel := fun p hp => let ⟨o, a, b⟩ := H.cel p hp; ⟨o, hk _ _ a, b⟩
    big := Nat.le_trans H.big hz }
theorem Hp.push (H : Hp B0 nss N F κ h) (o : Obj) : Hp B0 nss N F κ (h.push o) := H.keeps (fun _ _ e => Heap.get?_push_of_some o e) (by rw [Heap.size_push]; exact Nat.le_succ _)
theorem Hp.freeze (H : Hp B0 nss N F κ h) {a : Addr} {o : Obj} (ha : h.get? a = some o) (hs : ∀ p ∈ nss, p.1 ≠ a) (hf : ∀ p ∈ F, p.1 ≠ a) (hc : ∀ p ∈ κ, p.1 ≠ a) : Hp B0 nss (N.put (a, o)) F κ h :=
  { H with
    fro := fun p hp => by rcases List.mem_cons.mp hp with rfl | hp; exact ha; exact H.fro p hp
    cel := fun p hp => let ⟨o, a, b⟩ := H.cel p hp; ⟨o, a, b.mono Le.cons⟩
    nsN := fun p hp q hq => by rcases List.mem_cons.mp hq with rfl | hq; exact hs p hp; exact H.nsN p hp q hq
    NF := fun p hp q hq => by rcases List.mem_cons.mp hp with rfl | hp; exact (hf q hq).symm; exact H.NF p hp q hq
    NK := fun p hp q hq => by rcases List.mem_cons.mp hp with rfl | hp; exact (hc q hq).symm; exact H.NK p hp q hq }
theorem Hp.nsLt (H : Hp B0 nss N F κ h) {p} (hp : p ∈ nss) : p.1 < h.objs.size := (H.ns p hp).lt
theorem Hp.celLt (H : Hp B0 nss N F κ h) {p} (hp : p ∈ κ) : p.1 < h.objs.size := let ⟨_, a, _⟩ := H.cel p hp; Heap.lt_size a
theorem Hp.froLt (H : Hp B0 nss N F κ h) {p} (hp : p ∈ N.l) : p.1 < h.objs.size := Heap.lt_size (H.fro p hp)
theorem Hp.frmLt (H : Hp B0 nss N F κ h) {p} (hp : p ∈ F) : p.1 < h.objs.size := Heap.lt_size (H.frm p hp)
theorem Hp.pushN (H : Hp B0 nss N F κ h) (o : Obj) (hf : o.isFreed = false := by rfl) : Hp B0 nss (N.put (h.objs.size, o)) F κ (h.push o) :=
  (H.push o).freeze (Heap.get?_push_size h hf) (fun _ hp => Nat.ne_of_lt (H.nsLt hp)) (fun _ hp => Nat.ne_of_lt (H.frmLt hp)) (fun _ hp => Nat.ne_of_lt (H.celLt hp))
theorem Hp.own (H : Hp B0 nss N F κ h) {a : Addr} {o : Obj} {m : MO} (ha : h.get? a = some o) (hm : MOk N o m) (hl : B0.get? a = none) (hs : ∀ p ∈ nss, p.1 ≠ a) (hn : ∀ p ∈ N.l, p.1 ≠ a) (hf : ∀ p ∈ F, p.1 ≠ a) (hc : ∀ p ∈ κ, p.1 ≠ a) : Hp B0 nss N F ((a, m) :: κ) h :=
  { H with
    cel := fun p hp => by rcases List.mem_cons.mp hp with rfl | hp; exact ⟨o, ha, hm⟩; exact H.cel p hp
    lowK := fun p hp => by rcases List.mem_cons.mp hp with rfl | hp; exact hl; exact H.lowK p hp
    ced := by
      rw [List.map_cons, List.nodup_cons]
      exact ⟨fun hm => by obtain ⟨q, hq, e⟩ := List.mem_map.mp hm; exact hc q hq e, H.ced⟩
    nsK := fun p hp q hq => by rcases List.mem_cons.mp hq with rfl | hq; exact hs p hp; exact H.nsK p hp q hq
    NK := fun p hp q hq => by rcases List.mem_cons.mp hq with rfl | hq; exact hn p hp; exact H.NK p hp q hq
    FK := fun p hp q hq => by rcases List.mem_cons.mp hq with rfl | hq; exact hf p hp; exact H.FK p hp q hq }
theorem Hp.pushK (H : Hp B0 nss N F κ h) {o : Obj} {m : MO} (hm : MOk N o m) (hf : o.isFreed = false := by rfl) : Hp B0 nss N F ((h.objs.size, m) :: κ) (h.push o) :=
  (H.push o).own (Heap.get?_push_size h hf) hm (Heap.get?_none_of_le H.big) (fun _ hp => Nat.ne_of_lt (H.nsLt hp)) (fun _ hp => Nat.ne_of_lt (H.froLt hp)) (fun _ hp => Nat.ne_of_lt (H.frmLt hp)) (fun _ hp => Nat.ne_of_lt (H.celLt hp))
theorem Hp.pushF (H : Hp B0 nss N F κ h) (o : Obj) (hf : o.isFreed = false := by rfl) : Hp B0 nss N ((h.objs.size, o) :: F) κ (h.push o) :=
  { H.push o with
    frm := fun p hp => by rcases List.mem_cons.mp hp with rfl | hp; exact Heap.get?_push_size h hf; exact Heap.get?_push_of_some _ (H.frm p hp)
    lowF := fun p hp => by rcases List.mem_cons.mp hp with rfl | hp; exact Heap.get?_none_of_le H.big; exact H.lowF p hp
    frd := by
      rw [List.map_cons, List.nodup_cons]
      exact ⟨fun hm => by obtain ⟨q, hq, e⟩ := List.mem_map.mp hm; exact Nat.ne_of_lt (H.frmLt hq) e, H.frd⟩
    nsF := fun p hp q hq => by rcases List.mem_cons.mp hq with rfl | hq; exact Nat.ne_of_lt (H.nsLt hp); exact H.nsF p hp q hq
    NF := fun p hp q hq => by rcases List.mem_cons.mp hq with rfl | hq; exact Nat.ne_of_lt (H.froLt hp); exact H.NF p hp q hq
    FK := fun p hp q hq => by rcases List.mem_cons.mp hp with rfl | hp; exact (Nat.ne_of_lt (H.celLt hq)).symm; exact H.FK p hp q hq }
theorem Hp.turnF {I : Addr} {o o' : Obj} (H : Hp B0 nss N ((I, o) :: F) κ h) (hk : ∀ b ob, b ≠ I → h.get? b = some ob → h'.get? b = some ob) (hz : h.objs.size ≤ h'.objs.size) (ho : h'.get? I = some o') : Hp B0 nss N ((I, o') :: F) κ h' := by
  have hd : ∀ p ∈ F, p.1 ≠ I := fun p hp q => by
    have := H.frd
    rw [List.map_cons, List.nodup_cons] at this
    exact this.1 (List.mem_map.mpr ⟨p, hp, q⟩)
  have nI : ∀ b ob, B0.get? b = some ob → b ≠ I := fun b ob e q => by
    have := H.lowF (I, o) (.head _); rw [q, this] at e; cases e
  exact { H with
    base := fun b ob e => hk _ _ (nI b ob e) (H.base b ob e)
    ns := fun p hp => let ⟨ob, es, ep, x, r⟩ := H.ns p hp; ⟨ob, es, ep, hk _ _ (H.nsF p hp (I, o) (.head _)) x, r⟩
    fro := fun p hp => hk _ _ (H.NF p hp (I, o) (.head _)) (H.fro p hp)
    frm := fun p hp => by rcases List.mem_cons.mp hp with rfl | hp; exact ho; exact hk _ _ (hd p hp) (H.frm p (.tail _ hp))
    cel := fun p hp => let ⟨ob, a, b⟩ := H.cel p hp; ⟨ob, hk _ _ (H.FK (I, o) (.head _) p hp).symm a, b⟩
    lowF := fun p hp => by rcases List.mem_cons.mp hp with rfl | hp; exact H.lowF (I, o) (.head _); exact H.lowF p (.tail _ hp)
    big := Nat.le_trans H.big hz
    frd := by have := H.frd; rw [List.map_cons] at this ⊢; exact this
    nsF := fun p hp q hq => by rcases List.mem_cons.mp hq with rfl | hq; exact H.nsF p hp (I, o) (.head _); exact H.nsF p hp q (.tail _ hq)
    NF := fun p hp q hq => by rcases List.mem_cons.mp hq with rfl | hq; exact H.NF p hp (I, o) (.head _); exact H.NF p hp q (.tail _ hq)
    FK := fun p hp q hq => by rcases List.mem_cons.mp hp with rfl | hp; exact H.FK (I, o) (.head _) q hq; exact H.FK p (.tail _ hp) q hq }
theorem Hp.lessF {p : Addr × Obj} (H : Hp B0 nss N (p :: F) κ h) : Hp B0 nss N F κ h :=
  { H with
    frm := fun q hq => H.frm q (.tail _ hq)
    lowF := fun q hq => H.lowF q (.tail _ hq)
    frd := by have := H.frd; rw [List.map_cons, List.nodup_cons] at this; exact this.2
    nsF := fun a ha q hq => H.nsF a ha q (.tail _ hq)
    NF := fun a ha q hq => H.NF a ha q (.tail _ hq)
    FK := fun a ha => H.FK a (.tail _ ha) }
theorem Hp.offF {I : Addr} {o : Obj} (H : Hp B0 nss N ((I, o) :: F) κ h) (hk : ∀ b ob, b ≠ I → h.get? b = some ob → h'.get? b = some ob) (hz : B0.objs.size ≤ h'.objs.size) : Hp B0 nss N F κ h' := by
  have hd : ∀ p ∈ F, p.1 ≠ I := fun p hp q => by
    have := H.frd
    rw [List.map_cons, List.nodup_cons] at this
    exact this.1 (List.mem_map.mpr ⟨p, hp, q⟩)
  have nI : ∀ b ob, B0.get? b = some ob → b ≠ I := fun b ob e q => by
    have := H.lowF (I, o) (.head _); rw [q, this] at e; cases e
  exact { H.lessF with
    base := fun b ob e => hk _ _ (nI b ob e) (H.base b ob e)
    ns := fun p hp => let ⟨ob, es, ep, x, r⟩ := H.ns p hp; ⟨ob, es, ep, hk _ _ (H.nsF p hp (I, o) (.head _)) x, r⟩
    fro := fun p hp => hk _ _ (H.NF p hp (I, o) (.head _)) (H.fro p hp)
    frm := fun p hp => hk _ _ (hd p hp) (H.frm p (.tail _ hp))
    cel := fun p hp => let ⟨ob, a, b⟩ := H.cel p hp; ⟨ob, hk _ _ (H.FK (I, o) (.head _) p hp).symm a, b⟩
    big := hz }
end
section
variable {N : Fz} {v : Value}
theorem VR.intI {i : Int} (r : VR N v (.int i)) : ∃ t, v = .int i t := by cases r; exact ⟨_, rfl⟩
theorem VR.strxI {x : Wd} (r : VR N v (.strx x)) : ∃ t, v = .str (tx x) t := by cases r; exact ⟨_, rfl⟩
theorem VR.boolI {i : Bool} (r : VR N v (.bool i)) : v = .bool i := by cases r; rfl
theorem VR.noneI (r : VR N v .none) : v = .none := by cases r; rfl
@[elab_as_elim] theorem VRs.consE {motive : List Value → Prop} {vs : List Value} {d : D} {ds : List D} (r : VRs N vs (d :: ds)) (h : ∀ v vs, VR N v d → VRs N vs ds → motive (v :: vs)) : motive vs := by cases r; exact h _ _ ‹_› ‹_›
@[elab_as_elim] theorem VR.intE {motive : Value → Prop} {i : Int} (r : VR N v (.int i)) (h : ∀ t, motive (.int i t)) : motive v := by cases r; exact h _
@[elab_as_elim] theorem VR.boolE {motive : Value → Prop} {i : Bool} (r : VR N v (.bool i)) (h : motive (.bool i)) : motive v := by cases r; exact h
@[elab_as_elim] theorem VR.noneE {motive : Value → Prop} (r : VR N v .none) (h : motive .none) : motive v := by cases r; exact h
@[elab_as_elim] theorem VR.refE {motive : Value → Prop} {a : Addr} (r : VR N v (.ref a)) (h : motive (.ref a)) : motive v := by cases r; exact h
@[elab_as_elim] theorem VR.valE {motive : Value → Prop} {a : Value} (r : VR N v (.val a)) (h : motive a) : motive v := by cases r; exact h
@[elab_as_elim] theorem VRs.nilE {motive : List Value → Prop} {vs : List Value} (r : VRs N vs []) (h : motive []) : motive vs := by cases r; exact h
@[elab_as_elim] theorem VR.strE {motive : Value → Prop} {x : Wd} (r : VR N v (.str x)) (h : ∀ t, t ≠ 0 → t < N.b → motive (.str (tx x) t)) : motive v := by cases r; exact h _ ‹_› ‹_›
@[elab_as_elim] theorem VR.strxE {motive : Value → Prop} {x : Wd} (r : VR N v (.strx x)) (h : ∀ t, motive (.str (tx x) t)) : motive v := by cases r; exact h _
@[elab_as_elim] theorem VR.tupE {motive : Value → Prop} {ds : List D} (r : VR N v (.tup ds)) (h : ∀ a o n vs, (a, o) ∈ N.l → o.cls = .type "tuple" → o.data = .seq (List.toArray vs) n → VRs N vs ds → motive (.ref a)) : motive v := by cases r with | tup h1 h2 h3 h4 => exact h _ _ _ _ h1 h2 h3 h4
@[elab_as_elim] theorem VR.lstE {motive : Value → Prop} {ds : List D} (r : VR N v (.lst ds)) (h : ∀ a o n vs, (a, o) ∈ N.l → o.cls = .type "list" → o.dict = Option.none → o.data = .seq (List.toArray vs) n → VRs N vs ds → motive (.ref a)) : motive v := by cases r with | lst h1 h2 h3 h4 h5 => exact h _ _ _ _ h1 h2 h3 h4 h5
@[elab_as_elim] theorem VR.keysE {motive : Value → Prop} {ks : List Int} (r : VR N v (.keys ks)) (h : ∀ a o, (a, o) ∈ N.l → (a == sysModules) = false → KD o ks → motive (.ref a)) : motive v := by cases r with | keys h1 h2 h3 => exact h _ _ h1 h2 h3
@[elab_as_elim] theorem VR.rngE {motive : Value → Prop} {a b c : Int} (r : VR N v (.rng a b c)) (h : ∀ r t u w, (r, { cls := .type "range", data := .fields #[.int a t, .int b u, .int c w] }) ∈ N.l → motive (.ref r)) : motive v := by cases r with | rng h1 => exact h _ _ _ _ h1
theorem cn1 {n i L : Nat} (h : n + i = L) (h2 : i < L) : n - 1 < n := by omega
theorem cn2 {n i L : Nat} (h : n + i = L) (h2 : i < L) : n - 1 + (i + 1) = L := by omega
end
end

section
-- L2
noncomputable abbrev md (w : World) : Model := model pw w
structure ExcAt (h B : Heap) (e dx : Addr) : Prop where
  there : ∃ oe vs, h.get? e = some oe ∧ oe.cls = .ref 33 ∧ oe.dict = some dx ∧ oe.data = .fields vs ∧
    (vs[1]? = some .none ∨ ∃ T oT ts, vs[1]? = some (.ref T) ∧ B.get? T = none ∧ T ≠ e ∧ h.get? T = some oT ∧ oT.data = .fields ts ∧ ts[3]? = some .none)
structure RaisedH (B0 : Heap) (nss : Nss) (envs : List Env) (N : Fz) (F : Rw) (e : Addr) (x : Exc) (κ : Cells) (h : Heap) : Prop where
  B : ∃ B dx, B0.StaysIn B ∧ (∀ p ∈ N.l, B.get? p.1 = some p.2) ∧ (∀ p ∈ F, B.get? p.1 = some p.2) ∧ (∀ p ∈ κ, ∃ o, B.get? p.1 = some o ∧ MOk N o p.2) ∧ B.StaysIn h ∧ B.get? e = none ∧ h.FunFrames B envs ∧ ExcAt h B e dx ∧ Pay N dx x
  ns : ∀ p ∈ nss, h.Ns p.1 p.2
  lowS : ∀ p ∈ nss, B0.objs.size ≤ p.1
  lowK : ∀ p ∈ κ, B0.get? p.1 = none
  lowF : ∀ p ∈ F, B0.get? p.1 = none
  big : B0.objs.size ≤ h.objs.size
  nsd : (nss.map (·.1)).Nodup
  ced : (κ.map (·.1)).Nodup
  frd : (F.map (·.1)).Nodup
  nsN : ∀ p ∈ nss, ∀ q ∈ N.l, p.1 ≠ q.1
  nsF : ∀ p ∈ nss, ∀ q ∈ F, p.1 ≠ q.1
  nsK : ∀ p ∈ nss, ∀ q ∈ κ, p.1 ≠ q.1
  NF : ∀ p ∈ N.l, ∀ q ∈ F, p.1 ≠ q.1
  NK : ∀ p ∈ N.l, ∀ q ∈ κ, p.1 ≠ q.1
  FK : ∀ p ∈ F, ∀ q ∈ κ, p.1 ≠ q.1

noncomputable abbrev Rho := List (PySem.Str × D)
structure St where
  ρ : Rho
  κ : Cells
structure Fx where
  w : World
  B0 : Heap
  s0 : Shared
  A : Around
  env : Env
  outs : Nss
  envs : List Env
  cv : Rho
  n : Nat
structure Gd (w : World) (B0 : Heap) : Prop where
  says : Says w B0
  bl : ∃ mb, B0.Ns builtinsNs mb ∧ ∀ x : PySem.Str, x ≠ "__name__" → mb x = bootBuiltins x
  lim : B0.NoLimit
structure Fx.Ok (γ : Fx) : Prop where
  gd : Gd γ.w γ.B0
  kind : γ.env.scope.kind = .function
  glob : γ.env.globals = mainGlobals
  bui : γ.env.builtins = builtinsNs
  hand : γ.A.handled = none
  fr : γ.A.frames = some γ.envs
  depth : γ.A.depth + 4 * γ.n < recursionLimit
  units : γ.A.units + 32 * γ.n < cLine
  framed : ∀ e ∈ γ.envs, e.scope.kind ≠ .module ∧ ∃ L ∈ γ.env.locals :: γ.outs.map (·.1), e.frame = some L
noncomputable abbrev Fx.mk' (γ : Fx) (h : Heap) (tk : Nat) : Shared := { γ.s0 with heap := h, toks := tk }
structure Tk (N : Fz) (tk : Nat) : Prop where
  b1 : 1 ≤ N.b
  b2 : N.b ≤ tk
theorem Tk.mono {N : Fz} {a b : Nat} (x : Tk N a) (h : a ≤ b) : Tk N b := ⟨x.b1, Nat.le_trans x.b2 h⟩
theorem Tk.up {N : Fz} {a b : Nat} (x : Tk N a) (h : a ≤ b) : Tk (N.up b) b := ⟨Nat.le_trans x.b1 (Nat.le_trans x.b2 h), Nat.le_refl _⟩
structure Sat (γ : Fx) (N : Fz) (F : Rw) (S : St) (h : Heap) (tk : Nat) : Prop where
  ok : γ.Ok
  tok : Tk N tk
  m : ∃ m, Hp γ.B0 ((γ.env.locals, m) :: γ.outs) N F S.κ h ∧ ∀ x d, S.ρ.lookup x = some d → γ.env.kindOf x = some .local ∧ ∃ v, m x = some v ∧ VR N v d
  cv : ∀ x d, γ.cv.lookup x = some d → ∃ c o v, γ.env.cells.lookup x = some c ∧ (c, o) ∈ N.l ∧ o.data = .cell (some v) ∧ VR N v d
noncomputable def Raised (γ : Fx) (N : Fz) (F : Rw) (e : Addr) (x : Exc) (κ : Cells) (h : Heap) (tk : Nat) : Prop := Tk N tk ∧ ∃ m, RaisedH γ.B0 ((γ.env.locals, m) :: γ.outs) γ.envs N F e x κ h
structure Cont {α β : Type} (γ : Fx) (N : Fz) (F : Rw) (R : Fz → α → β → Prop) (Φ : β → St → Prop) (Ξ : Exc → Cells → Prop) (Q : α → Shared → Prop) (E : Value → Shared → Prop) : Prop where
  pe : PassesOwn (md γ.w) γ.A γ.env E
  ok : ∀ N' a b S' h' tk', Le N N' → Sat γ N' F S' h' tk' → R N' a b → Φ b S' → Q a (γ.mk' h' tk')
  ex : ∀ N' e x κ' h' tk', Le N N' → γ.Ok → Raised γ N' F e x κ' h' tk' → Ξ x κ' → E (.ref e) (γ.mk' h' tk')
noncomputable def WPN {α β : Type} (γ : Fx) (N : Fz) (t : Sem α) (S : St) (R : Fz → α → β → Prop) (Φ : β → St → Prop) (Ξ : Exc → Cells → Prop) : Prop :=
  ∀ F h tk, Sat γ N F S h tk → ∀ Q E, Cont γ N F R Φ Ξ Q E → wpAny (md γ.w) γ.A t Q E (γ.mk' h tk)
noncomputable def WP {α β : Type} (γ : Fx) (t : Sem α) (S : St) (R : Fz → α → β → Prop) (Φ : β → St → Prop) (Ξ : Exc → Cells → Prop) : Prop := ∀ N, WPN γ N t S R Φ Ξ

noncomputable def RV (N : Fz) (v : Value) (d : D) : Prop := VR N v d
noncomputable def RB (_ : Fz) (b : Bool) (c : Bool) : Prop := b = c
noncomputable def RU (_ : Fz) (_ : Unit) (_ : Unit) : Prop := True
inductive AF where
  | next | brk | cont
  | ret (d : D)
inductive RF (N : Fz) : Flow → AF → Prop
  | next : RF N .next .next
  | brk : RF N .brk .brk
  | cont : RF N .cont .cont
  | ret {v : Value} {d : D} : VR N v d → RF N (.ret v) (.ret d)
noncomputable def WPE (γ : Fx) (e : Expr) (S : St) (Φ : D → St → Prop) (Ξ : Exc → Cells → Prop) : Prop := WP γ (eval e γ.env) S RV Φ Ξ
noncomputable def WPT (γ : Fx) (e : Expr) (S : St) (Φ : Bool → St → Prop) (Ξ : Exc → Cells → Prop) : Prop := WP γ (isTrue e γ.env (eval e γ.env)) S RB Φ Ξ
noncomputable def WPS (γ : Fx) (s : Stmt) (S : St) (Φ : AF → St → Prop) (Ξ : Exc → Cells → Prop) : Prop := WP γ (exec s γ.env) S RF Φ Ξ
noncomputable def WPB (γ : Fx) (b : List Stmt) (S : St) (Φ : AF → St → Prop) (Ξ : Exc → Cells → Prop) : Prop := WP γ (execs b γ.env) S RF Φ Ξ
noncomputable def RVs (N : Fz) (vs : List Value) (ds : List D) : Prop := VRs N vs ds
noncomputable def WPL (γ : Fx) (es : List (Bool × Sem Value)) (S : St) (Φ : List D → St → Prop) (Ξ : Exc → Cells → Prop) : Prop := WP γ (spliced es) S RVs Φ Ξ

section
variable {γ : Fx} {N N' : Fz} {F : Rw} {S S' : St} {Ξ : Exc → Cells → Prop}
theorem Cont.mono {α β : Type} {R : Fz → α → β → Prop} {Φ : β → St → Prop} {Q : α → Shared → Prop} {E : Value → Shared → Prop} (C : Cont γ N F R Φ Ξ Q E) (l : Le N N') : Cont γ N' F R Φ Ξ Q E :=
  ⟨C.pe, fun N₂ a b S' h' tk' l' => C.ok N₂ a b S' h' tk' (l.trans l'), fun N₂ e x κ' h' tk' l' => C.ex N₂ e x κ' h' tk' (l.trans l')⟩
theorem Cont.then {α β α' β' : Type} {R : Fz → α → β → Prop} {Φ : β → St → Prop} {Q : α → Shared → Prop} {E : Value → Shared → Prop} {R' : Fz → α' → β' → Prop} {Φ' : β' → St → Prop} {Q' : α' → Shared → Prop} (C : Cont γ N F R Φ Ξ Q E)
    (k : ∀ N' a b S' h' tk', Le N N' → Sat γ N' F S' h' tk' → R' N' a b → Φ' b S' → Q' a (γ.mk' h' tk')) : Cont γ N F R' Φ' Ξ Q' E := ⟨C.pe, k, C.ex⟩
theorem WPN.mono {α β : Type} {t : Sem α} {R : Fz → α → β → Prop} {Φ Φ' : β → St → Prop} {Ξ' : Exc → Cells → Prop} (h : WPN γ N t S R Φ Ξ) (hΦ : ∀ b S', Φ b S' → Φ' b S') (hΞ : ∀ x κ, Ξ x κ → Ξ' x κ) : WPN γ N t S R Φ' Ξ' :=
  fun F hp tk sat Q E C => h F hp tk sat Q E ⟨C.pe, fun N₂ a b S' h' tk' l s r p => C.ok N₂ a b S' h' tk' l s r (hΦ _ _ p), fun N₂ e x κ' h' tk' l o r p => C.ex N₂ e x κ' h' tk' l o r (hΞ _ _ p)⟩
theorem WP.mono {α β : Type} {t : Sem α} {R : Fz → α → β → Prop} {Φ Φ' : β → St → Prop} {Ξ' : Exc → Cells → Prop} (h : WP γ t S R Φ Ξ) (hΦ : ∀ b S', Φ b S' → Φ' b S') (hΞ : ∀ x κ, Ξ x κ → Ξ' x κ) : WP γ t S R Φ' Ξ' := fun N => (h N).mono hΦ hΞ
theorem Sat.tkTo {h : Heap} {tk tk' : Nat} (s : Sat γ N F S h tk) (h' : tk ≤ tk') : Sat γ N F S h tk' := ⟨s.ok, s.tok.mono h', s.m, s.cv⟩
theorem Hp.up {B0 : Heap} {nss : Nss} {κ : Cells} {h : Heap} (H : Hp B0 nss N F κ h) {b : Nat} (hb : N.b ≤ b) : Hp B0 nss (N.up b) F κ h :=
  { H with cel := fun p hp => let ⟨o, x, y⟩ := H.cel p hp; ⟨o, x, y.mono (Le.up hb)⟩ }
theorem Sat.upTo {h : Heap} {tk tk' : Nat} (s : Sat γ N F S h tk) (h' : tk ≤ tk') : Sat γ (N.up tk') F S h tk' :=
  have hb := Nat.le_trans s.tok.b2 h'
  ⟨s.ok, s.tok.up h', let ⟨m, H, hm⟩ := s.m; ⟨m, H.up hb, fun x d e => let ⟨a, v, b, c⟩ := hm x d e; ⟨a, v, b, c.mono (Le.up hb)⟩⟩, fun x d e => let ⟨c, o, v, a, b, f, g⟩ := s.cv x d e; ⟨c, o, v, a, b, f, g.mono (Le.up hb)⟩⟩
theorem Sat.leUp {h : Heap} {tk tk' : Nat} (s : Sat γ N F S h tk) (h' : tk ≤ tk') : Le N (N.up tk') := Le.up (Nat.le_trans s.tok.b2 h')
theorem VR.fresh {h : Heap} {tk : Nat} {x : Wd} (s : Sat γ N F S h tk) : VR (N.up (tk + 1)) (.str (tx x) tk) (.str x) :=
  .str x tk (Nat.ne_of_gt (Nat.lt_of_lt_of_le (Nat.lt_of_lt_of_le Nat.zero_lt_one s.tok.b1) s.tok.b2)) (Nat.lt_succ_self _)
theorem Cont.go {α β : Type} {R : Fz → α → β → Prop} {Φ : β → St → Prop} {Q : α → Shared → Prop} {E : Value → Shared → Prop} {a : α} {b : β} {h : Heap} {tk tk' : Nat} (C : Cont γ N F R Φ Ξ Q E) (s : Sat γ N F S h tk) (r : R N a b) (k : Φ b S)
    (hk : tk ≤ tk' := by first | exact Nat.le_refl _ | exact Nat.le_succ _ | exact Nat.le_add_right _ 2 | exact Nat.le_add_right _ _ | omega) : Q a (γ.mk' h tk') := C.ok N a b S h tk' (Le.refl N) (s.tkTo hk) r k
theorem Cont.str {Φ : D → St → Prop} {Q : Value → Shared → Prop} {E : Value → Shared → Prop} {x : Wd} {h : Heap} {tk : Nat} (C : Cont γ N F RV Φ Ξ Q E) (s : Sat γ N F S h tk) (k : Φ (.str x) S) : Q (.str (tx x) tk) (γ.mk' h (tk + 1)) :=
  C.ok _ _ _ S h _ (s.leUp (Nat.le_succ _)) (s.upTo (Nat.le_succ _)) (VR.fresh s) k
structure Wk (S' S : St) : Prop where
  ρ : ∀ x d, S'.ρ.lookup x = some d → S.ρ.lookup x = some d
  κ : S'.κ.Sublist S.κ
theorem Hp.lessK {B0 : Heap} {nss : Nss} {κ κ' : Cells} {h : Heap} (H : Hp B0 nss N F κ h) (s : κ'.Sublist κ) : Hp B0 nss N F κ' h :=
  { H with
    cel := fun p hp => H.cel p (s.subset hp)
    lowK := fun p hp => H.lowK p (s.subset hp)
    ced := H.ced.sublist (s.map _)
    nsK := fun p hp q hq => H.nsK p hp q (s.subset hq)
    NK := fun p hp q hq => H.NK p hp q (s.subset hq)
    FK := fun p hp q hq => H.FK p hp q (s.subset hq) }
theorem Sat.weak {h : Heap} {tk : Nat} (s : Sat γ N F S h tk) (k : Wk S' S) : Sat γ N F S' h tk :=
  ⟨s.ok, s.tok, let ⟨m, a, b⟩ := s.m; ⟨m, a.lessK k.κ, fun x d e => b x d (k.ρ x d e)⟩, s.cv⟩
theorem WPN.weak {α β : Type} {t : Sem α} {R : Fz → α → β → Prop} {Φ : β → St → Prop} (h : WPN γ N t S' R Φ Ξ) (k : Wk S' S) : WPN γ N t S R Φ Ξ :=
  fun F hp tk sat => h F hp tk (sat.weak k)
theorem WP.weak {α β : Type} {t : Sem α} {R : Fz → α → β → Prop} {Φ : β → St → Prop} (h : WP γ t S' R Φ Ξ) (k : Wk S' S) : WP γ t S R Φ Ξ := fun N => (h N).weak k
end
end

section
-- L3
noncomputable def WPBin (γ : Fx) (op : Operator) (d₁ d₂ : D) (S : St) (Φ : D → St → Prop) (Ξ : Exc → Cells → Prop) : Prop := ∀ N v₁ v₂, VR N v₁ d₁ → VR N v₂ d₂ → WPN γ N (binaryOp op v₁ v₂) S RV Φ Ξ
noncomputable def WPCmp (γ : Fx) (op : CmpOp) (d₁ d₂ : D) (S : St) (Φ : D → St → Prop) (Ξ : Exc → Cells → Prop) : Prop := ∀ N v₁ v₂, VR N v₁ d₁ → VR N v₂ d₂ → WPN γ N (compareOp op v₁ v₂) S RV Φ Ξ
noncomputable def WPTr (γ : Fx) (d : D) (S : St) (Φ : Bool → St → Prop) (Ξ : Exc → Cells → Prop) : Prop := ∀ N v, VR N v d → WPN γ N (truthy v) S RB Φ Ξ
noncomputable def WPUn (γ : Fx) (op : UnaryOp) (d : D) (S : St) (Φ : D → St → Prop) (Ξ : Exc → Cells → Prop) : Prop := ∀ N v, VR N v d → WPN γ N (unaryOp op v) S RV Φ Ξ
noncomputable def WPGet (γ : Fx) (value slice : Expr) (d i : D) (S : St) (Φ : D → St → Prop) (Ξ : Exc → Cells → Prop) : Prop := ∀ N v u, VR N v d → VR N u i → WPN γ N (subscriptTail value slice v u) S RV Φ Ξ
section
variable {γ : Fx} {N : Fz} {F : Rw} {S : St} {Ξ : Exc → Cells → Prop} {Φ : D → St → Prop} {Ψ : Bool → St → Prop} {pos : Pos} {k : Nat} {l r t e : Expr} {x : PySem.Str}

theorem E_int {i : Int} (h : Φ (.int i) S) : WPE γ (.Constant (.int i) k pos) S Φ Ξ := fun N F hp tk sat _ _ C =>
  wpAny_Constant_int (C.go sat (.int i _) h)
theorem E_str {s : PySem.Str} (h : Φ (.str s.cps.toList) S) : WPE γ (.Constant (.str s) k pos) S Φ Ξ := fun N F hp tk sat _ _ C =>
  wpAny_Constant_str (C.str sat h)
theorem E_bool {b : Bool} (h : Φ (.bool b) S) : WPE γ (.Constant (.bool b) k pos) S Φ Ξ := fun N F hp tk sat _ _ C =>
  wpAny_Constant_bool (C.go sat (.bool b) h)
theorem E_none (h : Φ .none S) : WPE γ (.Constant .none k pos) S Φ Ξ := fun N F hp tk sat _ _ C =>
  wpAny_Constant_none (C.go sat .none h)
theorem E_name {d : D} (hx : S.ρ.lookup x = some d) (h : Φ d S) (hd : (x == ("__debug__" : PySem.Str)) = false := by decide) : WPE γ (.Name x pos) S Φ Ξ := fun N F hp tk sat _ _ C => by
  obtain ⟨m, H, hm⟩ := sat.m
  refine absP fun _ kk => ?_
  obtain ⟨hk, v, hv, r⟩ := hm x d hx
  refine kk ?_
  clear kk
  exact wpAny_Name (fun Γ p _ => by rw [Sem.wp_loadName_local _ _ _ _ _ sat.ok.kind hk (H.ns _ (.head _)) hv]; exact C.go sat r h) hd
theorem E_cell {d : D} (hx : γ.cv.lookup x = some d) (hk : γ.env.kindOf x = some .cell) (h : Φ d S) (hd : (x == ("__debug__" : PySem.Str)) = false := by decide) : WPE γ (.Name x pos) S Φ Ξ := fun N F hp tk sat _ _ C => by
  obtain ⟨m, H, hm⟩ := sat.m
  refine absP fun _ kk => ?_
  obtain ⟨c, o, v, hc, ho, hd', r⟩ := sat.cv x d hx
  refine kk ?_
  clear kk
  exact wpAny_Name (wpAny_loadName_cell sat.ok.kind hk hc ⟨o, H.fro _ ho, hd'⟩ (C.go sat r h)) hd
theorem Sat.base {hp : Heap} {tk : Nat} (sat : Sat γ N F S hp tk) : ∀ b o, γ.B0.get? b = some o → hp.get? b = some o := let ⟨_, H, _⟩ := sat.m; H.base
theorem E_glob {v : Value} (hx : (x, some v) ∈ glob) (hk : γ.env.kindOf x = some .globalImplicit) (h : Φ (.val v) S) (hd : (x == ("__debug__" : PySem.Str)) = false := by decide) : WPE γ (.Name x pos) S Φ Ξ := fun N F hp tk sat _ _ C => by
  obtain ⟨mg, hg, hG⟩ := sat.ok.gd.says.G
  exact Name_function_global sat.ok.kind hk (loadGlobal_global (by rw [sat.ok.glob]; exact hg.keeps sat.base) (hG _ hx) (C.go sat (.val v) h)) hd
theorem E_built {v : Value} (hx : (x, none) ∈ glob) (hb : bootBuiltins x = some v) (hn : x ≠ "__name__") (hk : γ.env.kindOf x = some .globalImplicit) (h : Φ (.val v) S) (hd : (x == ("__debug__" : PySem.Str)) = false := by decide) : WPE γ (.Name x pos) S Φ Ξ := fun N F hp tk sat _ _ C => by
  obtain ⟨mg, hg, hG⟩ := sat.ok.gd.says.G
  obtain ⟨mb, hmb, hB⟩ := sat.ok.gd.bl
  exact Name_function_global sat.ok.kind hk (loadGlobal_builtin (by rw [sat.ok.glob]; exact hg.keeps sat.base) (hG _ hx) (by rw [sat.ok.bui]; exact hmb.keeps sat.base) ((hB x hn).trans hb) (C.go sat (.val v) h)) hd

theorem E_BinOp {op : Operator} (h : WPE γ l S (fun d₁ S₁ => WPE γ r S₁ (fun d₂ S₂ => WPBin γ op d₁ d₂ S₂ Φ Ξ) Ξ) Ξ) : WPE γ (.BinOp l op r pos) S Φ Ξ := fun N F hp tk sat Q E C => by
  refine wpAny_BinOp (h N F hp tk sat _ E (C.then fun N₁ v₁ d₁ S₁ h₁ tk₁ le₁ sat₁ r₁ k₁ => ?_))
  refine k₁ N₁ F h₁ tk₁ sat₁ _ E ((C.mono le₁).then fun N₂ v₂ d₂ S₂ h₂ tk₂ le₂ sat₂ r₂ k₂ => ?_)
  exact k₂ N₂ v₁ v₂ (VR.mono le₂ r₁) r₂ F h₂ tk₂ sat₂ Q E (C.mono (le₁.trans le₂))
theorem E_Cmp {op : CmpOp} (h : WPE γ l S (fun d₁ S₁ => WPE γ r S₁ (fun d₂ S₂ => WPCmp γ op d₁ d₂ S₂ Φ Ξ) Ξ) Ξ) (hm : behindInMarks op r = false := by with_unfolding_all rfl) : WPE γ (.Compare l [op] [r] pos) S Φ Ξ := fun N F hp tk sat Q E C => by
  refine wpAny_Compare1 (h N F hp tk sat _ E (C.then fun N₁ v₁ d₁ S₁ h₁ tk₁ le₁ sat₁ r₁ k₁ => ?_)) hm
  refine k₁ N₁ F h₁ tk₁ sat₁ _ E ((C.mono le₁).then fun N₂ v₂ d₂ S₂ h₂ tk₂ le₂ sat₂ r₂ k₂ => ?_)
  exact k₂ N₂ v₁ v₂ (VR.mono le₂ r₁) r₂ F h₂ tk₂ sat₂ Q E (C.mono (le₁.trans le₂))
theorem E_Un {op : UnaryOp} (h : WPE γ e S (fun d S₁ => WPUn γ op d S₁ Φ Ξ) Ξ) : WPE γ (.UnaryOp op e pos) S Φ Ξ := fun N F hp tk sat Q E C =>
  wpAny_UnaryOp (h N F hp tk sat _ E (C.then fun N₁ v₁ _ _ h₁ tk₁ le₁ sat₁ r₁ k₁ => k₁ N₁ v₁ r₁ F h₁ tk₁ sat₁ Q E (C.mono le₁)))
theorem E_If (h : WPT γ t S (fun b S₁ => if b = true then WPE γ l S₁ Φ Ξ else WPE γ r S₁ Φ Ξ) Ξ) : WPE γ (.IfExp t l r pos) S Φ Ξ := fun N F hp tk sat Q E C => by
  refine wpAny_IfExp (h N F hp tk sat _ E (C.then fun N₁ b c S₁ h₁ tk₁ le₁ sat₁ r₁ k₁ => ?_))
  obtain rfl : b = c := r₁
  cases b
  · exact k₁ N₁ F h₁ tk₁ sat₁ Q E (C.mono le₁)
  · exact k₁ N₁ F h₁ tk₁ sat₁ Q E (C.mono le₁)
theorem E_and2 (h : WPE γ l S (fun d S₁ => WPTr γ d S₁ (fun b S₂ => if b = true then WPE γ r S₂ Φ Ξ else Φ d S₂) Ξ) Ξ) : WPE γ (.BoolOp .And [l, r] pos) S Φ Ξ := fun N F hp tk sat Q E C => by
  refine wpAny_And2 (h N F hp tk sat _ E (C.then fun N₁ v₁ d₁ S₁ h₁ tk₁ le₁ sat₁ r₁ k₁ => ?_))
  refine k₁ N₁ v₁ r₁ F h₁ tk₁ sat₁ _ E ((C.mono le₁).then fun N₂ b c S₂ h₂ tk₂ le₂ sat₂ r₂ k₂ => ?_)
  obtain rfl : b = c := r₂
  cases b
  · exact C.ok N₂ v₁ d₁ S₂ h₂ tk₂ (le₁.trans le₂) sat₂ (VR.mono le₂ r₁) k₂
  · exact k₂ N₂ F h₂ tk₂ sat₂ Q E (C.mono (le₁.trans le₂))
theorem E_or2 (h : WPE γ l S (fun d S₁ => WPTr γ d S₁ (fun b S₂ => if b = true then Φ d S₂ else WPE γ r S₂ Φ Ξ) Ξ) Ξ) : WPE γ (.BoolOp .Or [l, r] pos) S Φ Ξ := fun N F hp tk sat Q E C => by
  refine wpAny_Or2 (h N F hp tk sat _ E (C.then fun N₁ v₁ d₁ S₁ h₁ tk₁ le₁ sat₁ r₁ k₁ => ?_))
  refine k₁ N₁ v₁ r₁ F h₁ tk₁ sat₁ _ E ((C.mono le₁).then fun N₂ b c S₂ h₂ tk₂ le₂ sat₂ r₂ k₂ => ?_)
  obtain rfl : b = c := r₂
  cases b
  · exact k₂ N₂ F h₂ tk₂ sat₂ Q E (C.mono (le₁.trans le₂))
  · exact C.ok N₂ v₁ d₁ S₂ h₂ tk₂ (le₁.trans le₂) sat₂ (VR.mono le₂ r₁) k₂
theorem T_plain (h : WPE γ e S (fun d S₁ => WPTr γ d S₁ Ψ Ξ) Ξ) (hp : ∀ whole, isTrue e γ.env whole = (do let v ← whole; standAt e.pos; holding [v] (truthy v)) := by intro _; rfl) : WPT γ e S Ψ Ξ := fun N F hh tk sat Q E C =>
  wpAny_isTrue_value (h N F hh tk sat _ E (C.then fun N₁ v₁ _ _ h₁ tk₁ le₁ sat₁ r₁ k₁ => k₁ N₁ v₁ r₁ F h₁ tk₁ sat₁ Q E (C.mono le₁))) (hp _)
theorem T_cmp {op : CmpOp} (h : WPE γ l S (fun d₁ S₁ => WPE γ r S₁ (fun d₂ S₂ => WPCmp γ op d₁ d₂ S₂ (fun d S₃ => WPTr γ d S₃ Ψ Ξ) Ξ) Ξ) Ξ) (hm : behindInMarks op r = false := by with_unfolding_all rfl) : WPT γ (.Compare l [op] [r] pos) S Ψ Ξ := fun N F hp tk sat Q E C => by
  refine wpAny_isTrue_Compare1 (h N F hp tk sat _ E (C.then fun N₁ v₁ d₁ S₁ h₁ tk₁ le₁ sat₁ r₁ k₁ => ?_)) hm
  refine k₁ N₁ F h₁ tk₁ sat₁ _ E ((C.mono le₁).then fun N₂ v₂ d₂ S₂ h₂ tk₂ le₂ sat₂ r₂ k₂ => ?_)
  refine k₂ N₂ v₁ v₂ (VR.mono le₂ r₁) r₂ F h₂ tk₂ sat₂ _ E ((C.mono (le₁.trans le₂)).then fun N₃ v₃ d₃ S₃ h₃ tk₃ le₃ sat₃ r₃ k₃ => ?_)
  exact k₃ N₃ v₃ r₃ F h₃ tk₃ sat₃ Q E (C.mono ((le₁.trans le₂).trans le₃))
theorem T_not (h : WPT γ e S (fun b S₁ => Ψ (!b) S₁) Ξ) : WPT γ (.UnaryOp .Not e pos) S Ψ Ξ := fun N F hp tk sat Q E C =>
  wpAny_isTrue_Not (h N F hp tk sat _ E (C.then fun N₁ b c S₁ h₁ tk₁ le₁ sat₁ r₁ k₁ => by obtain rfl : b = c := r₁; exact C.ok N₁ _ _ S₁ h₁ tk₁ le₁ sat₁ rfl k₁))
noncomputable def WPA (γ : Fx) (op : BoolOp) (es : List Expr) (S : St) (Ψ : Bool → St → Prop) (Ξ : Exc → Cells → Prop) : Prop := WP γ (allTrue op es γ.env) S RB Ψ Ξ
theorem T_bool {op : BoolOp} {es : List Expr} (h : WPA γ op es S Ψ Ξ) : WPT γ (.BoolOp op es pos) S Ψ Ξ := fun N F hp tk sat Q E C => wpAny_isTrue_BoolOp (h N F hp tk sat Q E C)
theorem A_and_nil (h : Ψ true S) : WPA γ .And [] S Ψ Ξ := fun N F hp tk sat _ _ C => wpAny_pure (C.go sat rfl h)
theorem A_or_nil (h : Ψ false S) : WPA γ .Or [] S Ψ Ξ := fun N F hp tk sat _ _ C => wpAny_pure (C.go sat rfl h)
theorem A_and {es : List Expr} (h : WPT γ e S (fun b S₁ => if b = true then WPA γ .And es S₁ Ψ Ξ else Ψ false S₁) Ξ) : WPA γ .And (e :: es) S Ψ Ξ := fun N F hp tk sat Q E C => by
  refine wpAny_allTrue_And_cons (h N F hp tk sat _ E (C.then fun N₁ b c S₁ h₁ tk₁ le₁ sat₁ r₁ k₁ => ?_))
  obtain rfl : b = c := r₁
  cases b
  · exact C.ok N₁ _ _ S₁ h₁ tk₁ le₁ sat₁ rfl k₁
  · exact k₁ N₁ F h₁ tk₁ sat₁ Q E (C.mono le₁)
theorem A_or {es : List Expr} (h : WPT γ e S (fun b S₁ => if b = true then Ψ true S₁ else WPA γ .Or es S₁ Ψ Ξ) Ξ) : WPA γ .Or (e :: es) S Ψ Ξ := fun N F hp tk sat Q E C => by
  refine wpAny_allTrue_Or_cons (h N F hp tk sat _ E (C.then fun N₁ b c S₁ h₁ tk₁ le₁ sat₁ r₁ k₁ => ?_))
  obtain rfl : b = c := r₁
  cases b
  · exact k₁ N₁ F h₁ tk₁ sat₁ Q E (C.mono le₁)
  · exact C.ok N₁ _ _ S₁ h₁ tk₁ le₁ sat₁ rfl k₁
theorem Tr_bool {b : Bool} (h : Ψ b S) : WPTr γ (.bool b) S Ψ Ξ := fun N v r F hp tk sat _ _ C => by
  (first | (refine VR.intE r ?_; intro _) | (refine VR.strE r ?_; intro _ _ _) | refine VR.boolE r ?_ | refine VR.noneE r ?_ | refine VR.refE r ?_ | refine VR.valE r ?_ | (refine VR.strxE r ?_; intro _) | cases r); exact wpAny_truthy_bool (C.go sat rfl h)

theorem E_Sub (h : WPE γ l S (fun d₁ S₁ => WPE γ r S₁ (fun d₂ S₂ => WPGet γ l r d₁ d₂ S₂ Φ Ξ) Ξ) Ξ) : WPE γ (.Subscript l r pos) S Φ Ξ := fun N F hp tk sat Q E C => by
  refine Subscript_ (h N F hp tk sat _ E (C.then fun N₁ v₁ d₁ S₁ h₁ tk₁ le₁ sat₁ r₁ k₁ => ?_))
  refine k₁ N₁ F h₁ tk₁ sat₁ _ E ((C.mono le₁).then fun N₂ v₂ d₂ S₂ h₂ tk₂ le₂ sat₂ r₂ k₂ => ?_)
  exact k₂ N₂ v₁ v₂ (VR.mono le₂ r₁) r₂ F h₂ tk₂ sat₂ Q E (C.mono (le₁.trans le₂))
theorem L_nil {Φ : List D → St → Prop} (h : Φ [] S) : WPL γ [] S Φ Ξ := fun N F hp tk sat _ _ C => Calls.spliced_nil (C.go sat .nil h)
theorem L_cons {Φ : List D → St → Prop} {rest : List (Bool × Sem Value)} {m : Sem Value} (h : WP γ m S RV (fun d S₁ => WPL γ rest S₁ (fun ds S₂ => Φ (d :: ds) S₂) Ξ) Ξ) : WPL γ ((false, m) :: rest) S Φ Ξ := fun N F hp tk sat Q E C => by
  refine Calls.spliced_cons (h N F hp tk sat _ E (C.then fun N₁ v₁ d₁ S₁ h₁ tk₁ le₁ sat₁ r₁ k₁ => ?_))
  exact k₁ N₁ F h₁ tk₁ sat₁ _ E ((C.mono le₁).then fun N₂ vs ds S₂ h₂ tk₂ le₂ sat₂ r₂ k₂ => C.ok N₂ _ _ S₂ h₂ tk₂ (le₁.trans le₂) sat₂ (.cons (VR.mono le₂ r₁) r₂) k₂)
theorem Sat.pushN {hp : Heap} {tk : Nat} (sat : Sat γ N F S hp tk) (o : Obj) (hf : o.isFreed = false := by rfl) : Sat γ (N.put (hp.objs.size, o)) F S (hp.push o) tk :=
  ⟨sat.ok, ⟨sat.tok.b1, sat.tok.b2⟩, let ⟨m, H, hm⟩ := sat.m; ⟨m, H.pushN o hf, fun x d e => let ⟨a, v, b, c⟩ := hm x d e; ⟨a, v, b, c.mono Le.cons⟩⟩, fun x d e => let ⟨c, o, v, a, b, f, g⟩ := sat.cv x d e; ⟨c, o, v, a, .tail _ b, f, g.mono Le.cons⟩⟩
theorem Sat.pushK {hp : Heap} {tk : Nat} (sat : Sat γ N F S hp tk) {o : Obj} {mo : MO} (hm : MOk N o mo) (hf : o.isFreed = false := by rfl) : Sat γ N F ⟨S.ρ, (hp.objs.size, mo) :: S.κ⟩ (hp.push o) tk :=
  ⟨sat.ok, sat.tok, let ⟨m, H, h⟩ := sat.m; ⟨m, H.pushK hm hf, h⟩, sat.cv⟩
theorem Sat.push {hp : Heap} {tk : Nat} (sat : Sat γ N F S hp tk) (o : Obj) : Sat γ N F S (hp.push o) tk :=
  ⟨sat.ok, sat.tok, let ⟨m, H, h⟩ := sat.m; ⟨m, H.push o, h⟩, sat.cv⟩
theorem Hp.keeps' {B0 : Heap} {L : Addr} {m : PySem.Str → Option Value} {outs : Nss} {κ : Cells} {hp hp' : Heap} (H : Hp B0 ((L, m) :: outs) N F κ hp) (hk : ∀ b o, hp.get? b = some o → hp'.get? b = some o) : Hp B0 ((L, m) :: outs) N F κ hp' :=
  ⟨fun b o e => hk _ _ (H.base b o e), fun p hp => (H.ns p hp).keeps hk, fun p hp => hk _ _ (H.fro p hp), fun p hp => hk _ _ (H.frm p hp), fun p hp => let ⟨o, a, b⟩ := H.cel p hp; ⟨o, hk _ _ a, b⟩, H.lowS, H.lowK, H.lowF,
    Nat.le_trans (H.lowS _ (.head _)) (Nat.le_of_lt ((H.ns _ (.head _)).keeps hk).lt), H.nsd, H.ced, H.frd, H.nsN, H.nsF, H.nsK, H.NF, H.NK, H.FK⟩
theorem Sat.keeps {hp hp' : Heap} {tk : Nat} (sat : Sat γ N F S hp tk) (hk : ∀ b o, hp.get? b = some o → hp'.get? b = some o) : Sat γ N F S hp' tk :=
  ⟨sat.ok, sat.tok, let ⟨m, H, h⟩ := sat.m; ⟨m, H.keeps' hk, h⟩, sat.cv⟩
theorem Sat.fro {hp : Heap} {tk : Nat} (sat : Sat γ N F S hp tk) {p : Addr × Obj} (h : p ∈ N.l) : hp.get? p.1 = some p.2 := let ⟨_, H, _⟩ := sat.m; H.fro p h
theorem Sat.cel {hp : Heap} {tk : Nat} (sat : Sat γ N F S hp tk) {p : Addr × MO} (h : p ∈ S.κ) : ∃ o, hp.get? p.1 = some o ∧ MOk N o p.2 := let ⟨_, H, _⟩ := sat.m; H.cel p h
theorem E_tup {es : List Expr} (hs : es.length ≤ 64) (h : WPL γ (backTo pos (starEach es γ.env)) S (fun ds S₁ => ds.length = es.length ∧ Φ (.tup ds) S₁) Ξ) : WPE γ (.Tuple es k pos) S Φ Ξ := fun N F hp tk sat Q E C => by
  refine wpAny_Tuple (h N F hp tk sat _ E (C.then fun N₁ vs ds S₁ h₁ tk₁ le₁ sat₁ r₁ k₁ => ⟨?_, ?_⟩))
  · rw [VRs.length r₁, k₁.1]; exact Nat.le_trans hs (by rw [sizeLine_eq]; decide)
  · exact C.ok _ _ _ S₁ _ tk₁ (le₁.trans Le.cons) (sat₁.pushN _) (.tup (.head _) rfl rfl (VRs.mono Le.cons r₁)) k₁.2
theorem E_lst {es : List Expr} (hs : es.length ≤ 64) (h : WPL γ (backTo pos (starEach es γ.env)) S (fun ds S₁ => ds.length = es.length ∧ Φ (.lst ds) S₁) Ξ) : WPE γ (.List es pos) S Φ Ξ := fun N F hp tk sat Q E C => by
  refine wpAny_List (h N F hp tk sat _ E (C.then fun N₁ vs ds S₁ h₁ tk₁ le₁ sat₁ r₁ k₁ => ⟨?_, ?_⟩))
  · rw [VRs.length r₁, k₁.1]; exact Nat.le_trans hs (by rw [sizeLine_eq]; decide)
  · exact C.ok _ _ _ S₁ _ tk₁ (le₁.trans Le.cons) (sat₁.pushN _) (.lst (.head _) rfl rfl rfl (VRs.mono Le.cons r₁)) k₁.2
theorem E_own (h : ∀ a, Φ (.ref a) ⟨S.ρ, (a, .list []) :: S.κ⟩) : WPE γ (.List [] pos) S Φ Ξ := fun N F hp tk sat Q E C => by
  refine wpAny_List (Calls.spliced_nil ⟨Nat.zero_le _, ?_⟩)
  exact C.ok N _ _ _ _ tk (Le.refl N) (sat.pushK (mo := .list []) ⟨[], 0, rfl, .nil⟩) (.ref _) (h _)
end
end

section
-- L4
section
variable {B0 : Heap} {nss outs : Nss} {N : Fz} {F : Rw} {κ : Cells} {h h' : Heap} {L : Addr} {m m' : PySem.Str → Option Value}
theorem Hp.store (H : Hp B0 ((L, m) :: outs) N F κ h) (hn : h'.Ns L m') (hs : Heap.SameBut L h h') : Hp B0 ((L, m') :: outs) N F κ h' where
  base := fun b o e => (hs.2 b fun q => by
    have := H.lowS (L, m) (.head _)
    rw [q] at e
    exact absurd (Heap.lt_size e) (Nat.not_lt.mpr this)).trans (H.base b o e)
  ns := fun p hp => by
    rcases List.mem_cons.mp hp with rfl | hp
    · exact hn
    · refine (H.ns p (.tail _ hp)).sameBut hs fun q => ?_
      have := H.nsd
      rw [List.map_cons, List.nodup_cons] at this
      exact this.1 (List.mem_map.mpr ⟨p, hp, q⟩)
  fro := fun p hp => (hs.2 p.1 (H.nsN (L, m) (.head _) p hp).symm).trans (H.fro p hp)
  frm := fun p hp => (hs.2 p.1 (H.nsF (L, m) (.head _) p hp).symm).trans (H.frm p hp)
  cel := fun p hp => let ⟨o, a, b⟩ := H.cel p hp; ⟨o, (hs.2 p.1 (H.nsK (L, m) (.head _) p hp).symm).trans a, b⟩
  lowS := fun p hp => by
    rcases List.mem_cons.mp hp with rfl | hp
    · exact H.lowS (L, m) (.head _)
    · exact H.lowS p (.tail _ hp)
  lowK := H.lowK
  lowF := H.lowF
  big := by rw [hs.1]; exact H.big
  nsd := by have := H.nsd; rw [List.map_cons] at this ⊢; exact this
  ced := H.ced
  frd := H.frd
  nsN := fun p hp q hq => by
    rcases List.mem_cons.mp hp with rfl | hp
    · exact H.nsN (L, m) (.head _) q hq
    · exact H.nsN p (.tail _ hp) q hq
  nsF := fun p hp q hq => by
    rcases List.mem_cons.mp hp with rfl | hp
    · exact H.nsF (L, m) (.head _) q hq
    · exact H.nsF p (.tail _ hp) q hq
  nsK := fun p hp q hq => by
    rcases List.mem_cons.mp hp with rfl | hp
    · exact H.nsK (L, m) (.head _) q hq
    · exact H.nsK p (.tail _ hp) q hq
  NF := H.NF
  NK := H.NK
  FK := H.FK
theorem Hp.apart {κ₁ κ₂ : Cells} {a : Addr} {mo : MO} (H : Hp B0 nss N F (κ₁ ++ (a, mo) :: κ₂) h) : ∀ p ∈ κ₁ ++ κ₂, p.1 ≠ a := fun p hp => by
  have hd := H.ced
  rw [List.map_append, List.map_cons, List.nodup_append] at hd
  obtain ⟨_, d2, d3⟩ := hd
  rw [List.nodup_cons] at d2
  rcases List.mem_append.mp hp with hp | hp
  · exact fun q => d3 p.1 (List.mem_map.mpr ⟨p, hp, rfl⟩) a (.head _) q
  · exact fun q => d2.1 (List.mem_map.mpr ⟨p, hp, q⟩)
theorem mem_mid {κ₁ κ₂ : Cells} {p q : Addr × MO} (h : p ∈ κ₁ ++ q :: κ₂) : p = q ∨ p ∈ κ₁ ++ κ₂ := by
  rcases List.mem_append.mp h with h | h
  · exact .inr (List.mem_append_left _ h)
  · rcases List.mem_cons.mp h with h | h
    · exact .inl h
    · exact .inr (List.mem_append_right _ h)
theorem mid_mem {κ₁ κ₂ : Cells} {p q : Addr × MO} (h : p ∈ κ₁ ++ κ₂) : p ∈ κ₁ ++ q :: κ₂ := (List.mem_append.mp h).elim (List.mem_append_left _) fun h => List.mem_append_right _ (.tail _ h)
theorem Hp.turn {κ₁ κ₂ : Cells} {a : Addr} {mo mo' : MO} {o' : Obj} (H : Hp B0 nss N F (κ₁ ++ (a, mo) :: κ₂) h) (hs : Heap.SameBut a h h') (ho : h'.get? a = some o') (hm : MOk N o' mo') : Hp B0 nss N F (κ₁ ++ (a, mo') :: κ₂) h' := by
  have hmem : (a, mo) ∈ κ₁ ++ (a, mo) :: κ₂ := List.mem_append_right _ (.head _)
  exact { H with
    base := fun b o e => (hs.2 b fun q => by
      have := H.lowK _ hmem
      rw [q, this] at e
      cases e).trans (H.base b o e)
    ns := fun p hp => (H.ns p hp).sameBut hs (H.nsK p hp _ hmem)
    fro := fun p hp => (hs.2 p.1 (H.NK p hp _ hmem)).trans (H.fro p hp)
    frm := fun p hp => (hs.2 p.1 (H.FK p hp _ hmem)).trans (H.frm p hp)
    cel := fun p hp => by
      rcases mem_mid hp with rfl | hp
      · exact ⟨o', ho, hm⟩
      · obtain ⟨o, c1, c2⟩ := H.cel p (mid_mem hp)
        exact ⟨o, (hs.2 p.1 (H.apart p hp)).trans c1, c2⟩
    lowK := fun p hp => by
      rcases mem_mid hp with rfl | hp
      · exact H.lowK (a, mo) hmem
      · exact H.lowK p (mid_mem hp)
    big := by rw [hs.1]; exact H.big
    ced := by have := H.ced; rw [List.map_append, List.map_cons] at this ⊢; exact this
    nsK := fun p hp q hq => by
      rcases mem_mid hq with rfl | hq
      · exact H.nsK p hp (a, mo) hmem
      · exact H.nsK p hp q (mid_mem hq)
    NK := fun p hp q hq => by
      rcases mem_mid hq with rfl | hq
      · exact H.NK p hp (a, mo) hmem
      · exact H.NK p hp q (mid_mem hq)
    FK := fun p hp q hq => by
      rcases mem_mid hq with rfl | hq
      · exact H.FK p hp (a, mo) hmem
      · exact H.FK p hp q (mid_mem hq) }
theorem Hp.toN {κ₁ κ₂ : Cells} {a : Addr} {mo : MO} (H : Hp B0 nss N F (κ₁ ++ (a, mo) :: κ₂) h) : ∃ o, MOk N o mo ∧ Hp B0 nss (N.put (a, o)) F (κ₁ ++ κ₂) h := by
  have hmem : (a, mo) ∈ κ₁ ++ (a, mo) :: κ₂ := List.mem_append_right _ (.head _)
  obtain ⟨o, ho, hm⟩ := H.cel _ hmem
  exact ⟨o, hm, (H.lessK (List.Sublist.append (List.Sublist.refl _) (List.sublist_cons_self _ _))).freeze ho (fun p hp => H.nsK p hp _ hmem) (fun p hp => H.FK p hp _ hmem) H.apart⟩
end
section
variable {γ : Fx} {N : Fz} {F : Rw} {S : St} {Ξ : Exc → Cells → Prop} {Φ : AF → St → Prop} {pos p1 p2 : Pos} {k : Nat} {e t o i : Expr} {x : PySem.Str}
theorem Sat.store {hp h' : Heap} {tk : Nat} {v : Value} {d : D} {m : PySem.Str → Option Value} (sat : Sat γ N F S hp tk) (H : Hp γ.B0 ((γ.env.locals, m) :: γ.outs) N F S.κ hp)
    (hm : ∀ y d, S.ρ.lookup y = some d → γ.env.kindOf y = some .local ∧ ∃ v, m y = some v ∧ VR N v d) (hk : γ.env.kindOf x = some .local) (r : VR N v d)
    (hn : h'.Ns γ.env.locals fun y => if y = x then some v else m y) (hs : Heap.SameBut γ.env.locals hp h') : Sat γ N F ⟨(x, d) :: S.ρ, S.κ⟩ h' tk := by
  refine ⟨sat.ok, sat.tok, ⟨_, H.store hn hs, fun y d' e => ?_⟩, sat.cv⟩
  simp only [List.lookup_cons] at e
  by_cases q : y = x
  · subst q
    simp only [beq_self_eq_true] at e
    cases e
    exact ⟨hk, v, by simp, r⟩
  · have : (y == x) = false := by simpa using q
    rw [this] at e
    refine absP fun _ kk => ?_
    obtain ⟨a, v', b, c⟩ := hm y d' e
    refine kk ?_
    clear kk
    exact ⟨a, v', by simpa [q] using b, c⟩
theorem store_fn (sat_kind : γ.env.scope.kind = .function) : (γ.env.scope.kind == .class || (γ.env.scope.kind == .module && γ.env.locals != γ.env.globals)) = false := by rw [sat_kind]; rfl
theorem wp_store {d : D} {v : Value} {Q : Unit → Shared → Prop} {E : Value → Shared → Prop} {hp : Heap} {tk : Nat} (sat : Sat γ N F S hp tk) (hk : γ.env.kindOf x = some .local) (r : VR N v d)
    (h : ∀ h' tk', Sat γ N F ⟨(x, d) :: S.ρ, S.κ⟩ h' tk' → Q () (γ.mk' h' tk')) : wpAny (md γ.w) γ.A (storeName γ.env x v) Q E (γ.mk' hp tk) := by
  obtain ⟨m, H, hm⟩ := sat.m
  exact wpAny_storeName_local hk (H.ns _ (.head _)) (fun h' hn hs => h h' _ ((sat.store H hm hk r hn hs).tkTo (by first | exact Nat.le_refl _ | exact Nat.le_succ _))) (store_fn sat.ok.kind)
theorem B_nil (h : Φ .next S) : WPB γ [] S Φ Ξ := fun N F hp tk sat _ _ C => wpAny_execs_nil (C.go sat .next h)
theorem B_cons {s : Stmt} {rest : List Stmt} (h : WPS γ s S (fun f S₁ => match f with | .next => WPB γ rest S₁ Φ Ξ | f => Φ f S₁) Ξ) : WPB γ (s :: rest) S Φ Ξ := fun N F hp tk sat Q E C => by
  refine wpAny_execs_cons (h N F hp tk sat _ E (C.then fun N₁ f d S₁ h₁ tk₁ le₁ sat₁ r₁ k₁ => ?_))
  cases r₁ with
  | next => exact k₁ N₁ F h₁ tk₁ sat₁ Q E (C.mono le₁)
  | brk => exact C.ok N₁ _ _ S₁ h₁ tk₁ le₁ sat₁ .brk k₁
  | cont => exact C.ok N₁ _ _ S₁ h₁ tk₁ le₁ sat₁ .cont k₁
  | ret r => exact C.ok N₁ _ _ S₁ h₁ tk₁ le₁ sat₁ (.ret r) k₁
theorem S_ret (h : WPE γ e S (fun d S₁ => Φ (.ret d) S₁) Ξ) : WPS γ (.Return (some e) pos) S Φ Ξ := fun N F hp tk sat Q E C =>
  wpAny_Return_some (h N F hp tk sat _ E (C.then fun N₁ v d S₁ h₁ tk₁ le₁ sat₁ r₁ k₁ => C.ok N₁ _ _ S₁ h₁ tk₁ le₁ sat₁ (.ret r₁) k₁))
theorem S_ret0 (h : Φ (.ret .none) S) : WPS γ (.Return none pos) S Φ Ξ := fun N F hp tk sat Q E C =>
  wpAny_Return_none (C.go sat (.ret .none) h)
theorem S_brk (h : Φ .brk S) : WPS γ (.Break pos) S Φ Ξ := fun N F hp tk sat Q E C => wpAny_Break (C.go sat .brk h)
theorem S_expr (h : WPE γ e S (fun _ S₁ => Φ .next S₁) Ξ) (hi : interactive γ.env = false) (hs : swapsWith e none pos.line γ.env = pure false := by rfl) : WPS γ (.Expr e pos) S Φ Ξ := fun N F hp tk sat Q E C =>
  wpAny_Expr_any (h N F hp tk sat _ E (C.then fun N₁ v d S₁ h₁ tk₁ le₁ sat₁ r₁ k₁ => C.ok N₁ _ _ S₁ h₁ tk₁ le₁ sat₁ .next k₁)) hi hs
theorem interactive_fn (hk : γ.env.scope.kind = .function) : interactive γ.env = false := by unfold interactive; rw [hk]; rfl
theorem S_expr' (h : WPE γ e S (fun _ S₁ => Φ .next S₁) Ξ) (hs : swapsWith e none pos.line γ.env = pure false := by rfl) : WPS γ (.Expr e pos) S Φ Ξ := fun N F hp tk sat => S_expr h (interactive_fn sat.ok.kind) hs N F hp tk sat
theorem S_if {a b : List Stmt} (h : WPT γ t S (fun c S₁ => if c = true then WPB γ a S₁ Φ Ξ else WPB γ b S₁ Φ Ξ) Ξ) : WPS γ (.If t a b pos) S Φ Ξ := fun N F hp tk sat Q E C => by
  refine wpAny_If (h N F hp tk sat _ E (C.then fun N₁ c d S₁ h₁ tk₁ le₁ sat₁ r₁ k₁ => ?_))
  obtain rfl : c = d := r₁
  cases c
  · exact k₁ N₁ F h₁ tk₁ sat₁ Q E (C.mono le₁)
  · exact k₁ N₁ F h₁ tk₁ sat₁ Q E (C.mono le₁)
theorem S_asg (hk : γ.env.kindOf x = some .local) (h : WPE γ e S (fun d S₁ => Φ .next ⟨(x, d) :: S₁.ρ, S₁.κ⟩) Ξ) (hs : swapsWith e (some (.Name x p1)) pos.line γ.env = pure false := by rfl) : WPS γ (.Assign [.Name x p1] e pos) S Φ Ξ := fun N F hp tk sat Q E C =>
  wpAny_Assign_Name (h N F hp tk sat _ E (C.then fun N₁ v d S₁ h₁ tk₁ le₁ sat₁ r₁ k₁ => wp_store sat₁ hk r₁ fun h' tk' s' => C.ok N₁ _ _ _ h' tk' le₁ s' .next k₁)) hs
noncomputable def WPInp (γ : Fx) (op : Operator) (d₁ d₂ : D) (S : St) (Φ : D → St → Prop) (Ξ : Exc → Cells → Prop) : Prop := ∀ N v₁ v₂, VR N v₁ d₁ → VR N v₂ d₂ → WPN γ N (inplaceOp op v₁ v₂) S RV Φ Ξ
theorem S_aug {op : Operator} {d : D} (hx : S.ρ.lookup x = some d) (h : WPE γ e S (fun d₂ S₁ => WPInp γ op d d₂ S₁ (fun d₃ S₂ => Φ .next ⟨(x, d₃) :: S₂.ρ, S₂.κ⟩) Ξ) Ξ) : WPS γ (.AugAssign (.Name x p1) op e pos) S Φ Ξ := fun N F hp tk sat Q E C => by
  obtain ⟨m, H, hm⟩ := sat.m
  refine absP fun _ kk => ?_
  obtain ⟨hk, v, hv, r⟩ := hm x d hx
  refine kk ?_
  clear kk
  refine wpAny_AugAssign_Name (fun Γ p hΓ => ?_)
  rw [Sem.wp_loadName_local _ _ _ _ _ sat.ok.kind hk (H.ns _ (.head _)) hv]
  refine h N F hp tk sat _ E (C.then fun N₁ v₂ d₂ S₁ h₁ tk₁ le₁ sat₁ r₁ k₁ => ?_)
  refine k₁ N₁ v v₂ (r.mono le₁) r₁ F h₁ tk₁ sat₁ _ E ((C.mono le₁).then fun N₂ v₃ d₃ S₂ h₂ tk₂ le₂ sat₂ r₂ k₂ => ?_)
  exact wp_store sat₂ hk r₂ fun h' tk' s' => C.ok N₂ _ _ _ h' tk' (le₁.trans le₂) s' .next k₂
noncomputable def setAll : List PySem.Str → List D → Rho → Rho
  | x :: xs, d :: ds, ρ => setAll xs ds ((x, d) :: ρ)
  | _, _, ρ => ρ
inductive Stores (γ : Fx) : List (Value → Sem Unit) → List PySem.Str → Prop
  | nil : Stores γ [] []
  | cons {x : PySem.Str} {p : Pos} {ts : List (Value → Sem Unit)} {xs : List PySem.Str} : γ.env.kindOf x = some .local → Stores γ ts xs → Stores γ (assign (.Name x p) γ.env :: ts) (x :: xs)
theorem wp_stores {E : Value → Shared → Prop} {ts : List (Value → Sem Unit)} {xs : List PySem.Str} (st : Stores γ ts xs) : ∀ {ds : List D} {vs : List Value} {S : St} {hp : Heap} {tk : Nat} {Q : Unit → Shared → Prop},
    xs.length = ds.length → Sat γ N F S hp tk → VRs N vs ds → (∀ h' tk', Sat γ N F ⟨setAll xs ds S.ρ, S.κ⟩ h' tk' → Q () (γ.mk' h' tk')) → wpAny (md γ.w) γ.A (assignInOrder ts vs) Q E (γ.mk' hp tk) := by
  induction st with
  | nil =>
    intro ds vs S hp tk Q hl sat rs h
    cases ds with
    | nil => (first | refine VRs.nilE rs ?_ | cases rs); exact wpAny_pure (h hp tk sat)
    | cons => cases hl
  | cons hk st ih =>
    intro ds vs S hp tk Q hl sat rs h
    cases ds with
    | nil => cases hl
    | cons d ds =>
      refine VRs.consE rs ?_
      · intro _ _ r rs
        refine wpAny_assignInOrder_more ?_
        exact wpAny_assign_Name (wp_store sat hk r fun h' tk' s' => ih (Nat.succ.inj hl) s' rs h)
theorem S_unpack {ts : List Expr} {xs : List PySem.Str} {tp : Pos} (st : Stores γ ((assignEach ts γ.env).map (·.2)) xs) (hn : (assignEach ts γ.env).findIdx? (·.1) = none) (hle : (assignEach ts γ.env).length = xs.length)
    (h : WPE γ e S (fun d S₁ => ∃ ds, d = .tup ds ∧ ds.length = xs.length ∧ Φ .next ⟨setAll xs ds S₁.ρ, S₁.κ⟩) Ξ)
    (hs : swapsWithSole [.Tuple ts k tp] e pos.line γ.env = pure false := by rfl) (hw : swappedStores [.Tuple ts k tp] e γ.env = pure none := by rfl) : WPS γ (.Assign [.Tuple ts k tp] e pos) S Φ Ξ := fun N F hp tk sat Q E C => by
  refine Assign_Tuple (h N F hp tk sat _ E (C.then fun N₁ v d S₁ h₁ tk₁ le₁ sat₁ r₁ k₁ => ?_)) hs hw
  refine absP fun _ kk => ?_
  obtain ⟨ds, rfl, hl, k₁⟩ := k₁
  refine kk ?_
  clear kk
  refine VR.tupE r₁ ?_
  · intro _ _ _ _ ho hc hd rs
    rename_i a o n vs
    refine wpAny_assign_Tuple sat₁.ok.hand ⟨o, sat₁.fro ho, hc, n, hd⟩ (by rw [hle, List.size_toArray, VRs.length rs, hl]) hn fun h' hk => ?_
    have s' : Sat γ N₁ F S₁ h' tk₁ := sat₁.keeps (fun b o e => hk b o (Nat.ne_of_lt (Heap.lt_size e)) e)
    exact wp_stores st hl.symm s' rs fun h'' tk'' s'' => C.ok N₁ _ _ _ h'' tk'' le₁ s'' .next k₁
end
end

section
-- L5
theorem dict_mapFields (o : Obj) (f : Array Value → Array Value) : (o.mapFields f).dict = o.dict := by
  refine absP fun _ kk => ?_
  obtain ⟨c, d, dt, sl⟩ := o
  refine kk ?_
  clear kk
  cases dt <;> rfl
structure Left (B : Heap) (l : List Env) (e dx : Addr) (fl : Value) (h h' : Heap) : Prop where
  stays : B.StaysIn h'
  frames : h'.FunFrames B l
  there : ∃ oe vs T oT ts, h'.get? e = some oe ∧ oe.cls = .ref 33 ∧ oe.dict = some dx ∧ oe.data = .fields vs ∧ vs[1]? = some (.ref T) ∧ B.get? T = none ∧ T ≠ e ∧ h'.get? T = some oT ∧ oT.data = .fields ts ∧ ts[3]? = some fl
  slots : h.UpToSlots h'
  size : h.objs.size ≤ h'.objs.size
theorem Left.exc {B : Heap} {l : List Env} {e dx : Addr} {h h' : Heap} (x : Left B l e dx .none h h') : ExcAt h' B e dx := by
  refine absP fun _ kk => ?_
  refine absP fun _ kk => ?_
  obtain ⟨oe, vs, T, oT, ts, a, b, c, d, f, g, i, j, k, m⟩ := x.there
  refine kk ?_
  clear kk
  exact kk ⟨oe, vs, a, b, c, d, .inr ⟨T, oT, ts, f, g, i, j, k, m⟩⟩
section
variable {M : Model} {A : Around} {E : Value → Shared → Prop} {s : Shared} {B : Heap} {env : Env} {outer : List Env} {L e dx : Addr}
theorem not_frame {h : Heap} {l : List Env} {oe : Obj} {vs : Array Value} (hl : h.FunFrames B l) (he : h.get? e = some oe) (hd : oe.data = .fields vs) : e ∉ l.filterMap (·.frame) := fun hm => by
  refine absP fun _ kk => ?_
  obtain ⟨_, o, ho, hnf⟩ := hl.mem hm
  refine kk ?_
  clear kk
  rw [he] at ho
  cases ho
  exact hnf vs hd
theorem wp_entry {oe : Obj} {vs : Array Value} {head : Value} {hadNext : Bool} {Q : Unit → Shared → Prop} (hfr : A.frames = some (env :: outer)) (hl : s.heap.FunFrames B (env :: outer)) (hf : env.frame = some L)
    (he : s.heap.get? e = some oe) (hc : oe.cls = .ref 33) (hdx : oe.dict = some dx) (hd : oe.data = .fields vs) (hsz : 1 < vs.size) (st : B.StaysIn s.heap) (hen : B.get? e = none)
    (h : ∀ h', Left B (env :: outer) e dx (rawInt L) s.heap h' → Q () { s with heap := h' }) :
    wpAny M A (do let a ← frameOf env; let pl ← entryPlaceOf L hadNext; let b ← EntryCells.newEntry head a .none (rawInt L) .none pl; setField (.ref e) 1 b) Q E s := by
  have hne := not_frame hl he hd
  refine wpAny_bind (wpAny_frameOf_fun hfr hl hf fun h₁ sl => ?_)
  refine wpAny_bind (wpAny_entryPlaceOf fun pl hpl => ?_)
  unfold EntryCells.newEntry newFields
  refine wpAny_bind (wpAny_newObj_type ?_ (hpl.sizeOk5 _ _ _ _ _))
  have he₁ : h₁.get? e = some oe := (sl.2.1 e hne).trans he
  have st₁ : B.StaysIn h₁ := fun b o hb => (sl.2.1 b fun hm => by rw [(hl.mem hm).1] at hb; cases hb).trans (st b o hb)
  generalize hT : ({ cls := .type "traceback", dict := none, data := .fields ([head, .ref L, .none, rawInt L, .none] ++ (if pl.isEmpty then List.replicate 6 Value.none else pl)).toArray } : Obj) = oT
  have hTd : oT.data = .fields ([head, .ref L, .none, rawInt L, .none] ++ (if pl.isEmpty then List.replicate 6 Value.none else pl)).toArray := by rw [← hT]
  have hTf : oT.isFreed = false := Obj.isFreed_of_fields hTd
  have he₂ : (h₁.push oT).get? e = some oe := Heap.get?_push_of_some _ he₁
  refine wpAny_setField he₂ hd hsz (h _ ?_)
  have hTe : h₁.objs.size ≠ e := Nat.ne_of_gt (Heap.lt_size he₁)
  have hd₃ := Obj.data_mapFields hd (·.setIfInBounds 1 (Value.ref h₁.objs.size))
  have other : ∀ b o, b ≠ e → h₁.get? b = some o → ((h₁.push oT).update e (Obj.mapFields (·.setIfInBounds 1 (Value.ref h₁.objs.size)))).get? b = some o := fun b o hb ho => by
    rw [Heap.get?_update_other _ _ (Ne.symm hb)]
    exact Heap.get?_push_of_some _ ho
  have rec_ : ∀ b o, s.heap.get? b = some o → (∀ ws, o.data ≠ .fields ws) → b ≠ e := fun b o ho hn q => by
    rw [q, he] at ho; cases ho; exact hn vs hd
  refine ⟨fun b o hb => other b o (fun q => by rw [q, hen] at hb; cases hb) (st₁ b o hb), hl.of_keeps fun b o ho hn => ?_, ?_, fun b o ho hn => ?_, ?_⟩
  · obtain ⟨z, hz⟩ := sl.2.2 b o ho
    exact ⟨_, other b _ (rec_ b o ho hn) hz, rfl⟩
  · refine ⟨_, _, h₁.objs.size, oT, _, Heap.get?_update_self _ he₂ (Obj.isFreed_of_fields hd₃), (Obj.cls_mapFields _ _).trans hc, (dict_mapFields _ _).trans hdx, hd₃, by simp [hsz], ?_, hTe, ?_, hTd, ?_⟩
    · cases q : B.get? h₁.objs.size with
      | none => rfl
      | some o => exact absurd (Heap.lt_size (st₁ _ o q)) (Nat.lt_irrefl _)
    · exact (Heap.get?_update_other _ _ (Ne.symm hTe)).trans (Heap.get?_push_size h₁ hTf)
    · simp
  · obtain ⟨z, hz⟩ := sl.2.2 b o ho
    exact ⟨z, other b _ (rec_ b o ho hn) hz⟩
  · have : (h₁.push oT).objs.size = h₁.objs.size + 1 := Heap.size_push ..
    rw [Heap.size_after_update, this, sl.1]
    exact Nat.le_succ _
theorem wp_flightOff {fl : Value} {h₀ : Heap} {Q : Unit → Shared → Prop} (x : Left B outer e dx fl h₀ s.heap) (hen : B.get? e = none) (h : ∀ h', Left B outer e dx .none h₀ h' → Q () { s with heap := h' }) : wpAny M A (setFlight (.ref e) none) Q E s := by
  refine absP fun _ kk => ?_
  obtain ⟨oe, vs, T, oT, ts, he, hc, hdx, hd, h1, hT, hTe, hTo, hTd, h3⟩ := x.there
  refine kk ?_
  clear kk
  unfold setFlight
  refine wpAny_bind (wpAny_field he hd h1 ?_)
  rw [if_pos (show (Value.ref T != Value.none) = true from by simp)]
  have hsz : 3 < ts.size := (Array.getElem?_eq_some_iff.mp h3).1
  refine wpAny_setField hTo hTd hsz (h _ ?_)
  have hd₃ := Obj.data_mapFields hTd (·.setIfInBounds 3 ((none : Option Addr).elim Value.none fun f => rawInt f))
  have other : ∀ b, b ≠ T → (s.heap.update T (Obj.mapFields (·.setIfInBounds 3 ((none : Option Addr).elim Value.none fun f => rawInt f)))).get? b = s.heap.get? b := fun b hb => Heap.get?_update_other _ _ (Ne.symm hb)
  have rec_ : ∀ b o, s.heap.get? b = some o → (∀ ws, o.data ≠ .fields ws) → b ≠ T := fun b o ho hn q => by
    rw [q, hTo] at ho; cases ho; exact hn ts hTd
  refine ⟨fun b o hb => (other b fun q => by rw [q, hT] at hb; cases hb).trans (x.stays b o hb), x.frames.of_keeps fun b o ho hn => ⟨o, (other b (rec_ b o ho hn)).trans ho, rfl⟩, ?_, fun b o ho hn => ?_, by rw [Heap.size_after_update]; exact x.size⟩
  · exact ⟨oe, vs, T, _, _, (other e (Ne.symm hTe)).trans he, hc, hdx, hd, h1, hT, hTe, Heap.get?_update_self _ hTo (Obj.isFreed_of_fields hd₃), hd₃, by simp [hsz]⟩
  · obtain ⟨z, hz⟩ := x.slots b o ho hn
    exact ⟨z, (other b (rec_ b _ hz hn)).trans hz⟩
theorem wp_note {Q : Unit → Shared → Prop} (hfr : A.frames = some (env :: outer)) (hl : s.heap.FunFrames B (env :: outer)) (hf : env.frame = some L) (x : ExcAt s.heap B e dx) (st : B.StaysIn s.heap) (hen : B.get? e = none)
    (h : ∀ h', Left B (env :: outer) e dx (rawInt L) s.heap h' → Q () { s with heap := h' }) : wpAny M A (noteFrame (.ref e) env) Q E s := by
  refine absP fun _ kk => ?_
  obtain ⟨oe, vs, he, hc, hdx, hd, alt⟩ := x.there
  refine kk ?_
  clear kk
  unfold noteFrame
  simp only [hf]
  rcases alt with h1 | ⟨T, oT, ts, h1, hT, hTe, hTo, hTd, h3⟩
  · refine wpAny_bind (wpAny_field he hd h1 ?_)
    rw [if_neg (by decide)]
    exact wp_entry hfr hl hf he hc hdx hd (Array.getElem?_eq_some_iff.mp h1).1 st hen h
  · refine wpAny_bind (wpAny_field he hd h1 ?_)
    rw [if_pos (show (Value.ref T != Value.none) = true from by simp)]
    refine wpAny_bind (wpAny_field hTo hTd h3 ?_)
    rw [if_neg (show ¬ ((Value.none == rawInt L) = true) from by simp [rawInt])]
    refine wpAny_bind (wpAny_setField hTo hTd (Array.getElem?_eq_some_iff.mp h3).1 ?_)
    have other : ∀ b, b ≠ T → (s.heap.update T (Obj.mapFields (·.setIfInBounds 3 Value.none))).get? b = s.heap.get? b := fun b hb => Heap.get?_update_other _ _ (Ne.symm hb)
    have rec_ : ∀ b o, s.heap.get? b = some o → (∀ ws, o.data ≠ .fields ws) → b ≠ T := fun b o ho hn q => by
      rw [q, hTo] at ho; cases ho; exact hn ts hTd
    refine wp_entry hfr (hl.of_keeps fun b o ho hn => ⟨o, (other b (rec_ b o ho hn)).trans ho, rfl⟩) hf ((other e (Ne.symm hTe)).trans he) hc hdx hd (Array.getElem?_eq_some_iff.mp h1).1
      (fun b o hb => (other b fun q => by rw [q, hT] at hb; cases hb).trans (st b o hb)) hen fun h' x => h h' ⟨x.stays, x.frames, x.there, fun b o ho hn => x.slots b o ((other b (rec_ b o ho hn)).trans ho) hn, ?_⟩
    have := x.size
    rw [Heap.size_after_update] at this
    exact this
theorem wp_leave {Q : Unit → Shared → Prop} (hfr : A.frames = some (env :: outer)) (hl : s.heap.FunFrames B (env :: outer)) (hf : env.frame = some L) (x : ExcAt s.heap B e dx) (st : B.StaysIn s.heap) (hen : B.get? e = none)
    (h : ∀ h', Left B (env :: outer) e dx .none s.heap h' → Q () { s with heap := h' }) : wpAny M A (leaving env (.ref e)) Q E s :=
  wpAny_bind (wp_note hfr hl hf x st hen fun h' y => wp_flightOff y hen h)
end
theorem RaisedH.left {B0 : Heap} {nss : Nss} {l l' : List Env} {N : Fz} {F : Rw} {e : Addr} {x : Exc} {κ : Cells} {h : Heap} (R : RaisedH B0 nss l N F e x κ h) {M : Model} {A : Around} {E : Value → Shared → Prop} {s : Shared} {m : Sem Unit} {Q : Unit → Shared → Prop} (hs : s.heap = h)
    (go : ∀ B dx, B.StaysIn h → B.get? e = none → h.FunFrames B l → ExcAt h B e dx → (∀ h', Left B l' e dx .none h h' → Q () { s with heap := h' }) → wpAny M A m Q E s)
    (k : ∀ h', RaisedH B0 nss l' N F e x κ h' → Q () { s with heap := h' }) : wpAny M A m Q E s := by
  refine absP fun _ kk => ?_
  obtain ⟨B, dx, b1, b2, b3, b4, b5, b6, b7, b8, b9⟩ := R.B
  refine kk ?_
  clear kk
  refine go B dx b5 b6 b7 b8 fun h' y => k h' ?_
  exact ⟨⟨B, dx, b1, b2, b3, b4, y.stays, b6, y.frames, y.exc, b9⟩, fun p hp => y.slots.ns (R.ns p hp), R.lowS, R.lowK, R.lowF, Nat.le_trans R.big y.size, R.nsd, R.ced, R.frd, R.nsN, R.nsF, R.nsK, R.NF, R.NK, R.FK⟩
theorem RaisedH.outer {B0 : Heap} {nss : Nss} {env : Env} {l : List Env} {N : Fz} {F : Rw} {e : Addr} {x : Exc} {κ : Cells} {h : Heap} (R : RaisedH B0 nss (env :: l) N F e x κ h) : RaisedH B0 nss l N F e x κ h :=
  { R with B := by
                refine absP fun _ kk => ?_
                refine absP fun _ kk => ?_
                obtain ⟨B, dx, b1, b2, b3, b4, b5, b6, b7, b8⟩ := R.B
                refine kk ?_
                clear kk
                exact kk ⟨B, dx, b1, b2, b3, b4, b5, b6, b7.2.2, b8⟩ }
theorem RaisedH.lessS {B0 : Heap} {p : Addr × (PySem.Str → Option Value)} {nss : Nss} {l : List Env} {N : Fz} {F : Rw} {e : Addr} {x : Exc} {κ : Cells} {h : Heap} (R : RaisedH B0 (p :: nss) l N F e x κ h) : RaisedH B0 nss l N F e x κ h :=
  { R with
    ns := fun q hq => R.ns q (.tail _ hq)
    lowS := fun q hq => R.lowS q (.tail _ hq)
    nsd := by have := R.nsd; rw [List.map_cons, List.nodup_cons] at this; exact this.2
    nsN := fun q hq => R.nsN q (.tail _ hq)
    nsF := fun q hq => R.nsF q (.tail _ hq)
    nsK := fun q hq => R.nsK q (.tail _ hq) }
end

section
-- L6
noncomputable def WPF (γ : Fx) (f : Value) (ds : List D) (κ : Cells) (Φ : D → Cells → Prop) (Ξ : Exc → Cells → Prop) : Prop :=
  ∀ N F vs, VRs N vs ds → ∀ ρ hp tk, Sat γ N F ⟨ρ, κ⟩ hp tk → ∀ (Q : Value → Shared → Prop) (E : Value → Shared → Prop),
    (∀ N' v d κ' h' tk', Le N N' → Sat γ N' F ⟨ρ, κ'⟩ h' tk' → VR N' v d → Φ d κ' → Q v (γ.mk' h' tk')) →
    (∀ N' e x κ' h' tk', Le N N' → Raised γ N' F e x κ' h' tk' → Ξ x κ' → E (.ref e) (γ.mk' h' tk')) → wpAny (md γ.w) γ.A (call f vs) Q E (γ.mk' hp tk)
noncomputable def Post (Φ : D → Cells → Prop) (fl : AF) (S : St) : Prop := match fl with
  | .ret d => ∃ κ', κ'.Sublist S.κ ∧ Φ d κ'
  | .next => ∃ κ', κ'.Sublist S.κ ∧ Φ .none κ'
  | _ => False
section
variable {B0 : Heap} {nss : Nss} {N : Fz} {F : Rw} {κ : Cells} {h h' : Heap}
theorem Hp.enter {m' : PySem.Str → Option Value} (H : Hp B0 nss N F κ h) (hk : ∀ b o, h.get? b = some o → h'.get? b = some o) (hn : h'.Ns h.objs.size m') : Hp B0 ((h.objs.size, m') :: nss) N F κ h' :=
  { H.keeps hk (Nat.le_of_lt hn.lt) with
    ns := fun p hp => by rcases List.mem_cons.mp hp with rfl | hp; exact hn; exact (H.ns p hp).keeps hk
    lowS := fun p hp => by rcases List.mem_cons.mp hp with rfl | hp; exact H.big; exact H.lowS p hp
    nsd := by
      rw [List.map_cons, List.nodup_cons]
      exact ⟨fun hm => by obtain ⟨q, hq, e⟩ := List.mem_map.mp hm; exact Nat.ne_of_lt (H.nsLt hq) e, H.nsd⟩
    nsN := fun p hp q hq => by rcases List.mem_cons.mp hp with rfl | hp; exact (Nat.ne_of_lt (H.froLt hq)).symm; exact H.nsN p hp q hq
    nsF := fun p hp q hq => by rcases List.mem_cons.mp hp with rfl | hp; exact (Nat.ne_of_lt (H.frmLt hq)).symm; exact H.nsF p hp q hq
    nsK := fun p hp q hq => by rcases List.mem_cons.mp hp with rfl | hp; exact (Nat.ne_of_lt (H.celLt hq)).symm; exact H.nsK p hp q hq }
theorem Hp.lessS {p : Addr × (PySem.Str → Option Value)} (H : Hp B0 (p :: nss) N F κ h) : Hp B0 nss N F κ h :=
  { H with
    ns := fun q hq => H.ns q (.tail _ hq)
    lowS := fun q hq => H.lowS q (.tail _ hq)
    nsd := by have := H.nsd; rw [List.map_cons, List.nodup_cons] at this; exact this.2
    nsN := fun q hq => H.nsN q (.tail _ hq)
    nsF := fun q hq => H.nsF q (.tail _ hq)
    nsK := fun q hq => H.nsK q (.tail _ hq) }
end
theorem zip_lookup {N : Fz} : ∀ {names : List PySem.Str} {vs : List Value} {ds : List D}, VRs N vs ds → ∀ {v0 : List (PySem.Str × Value)} {d0 : Rho}, (∀ x d, d0.lookup x = some d → ∃ v, v0.lookup x = some v ∧ VR N v d) →
    ∀ x d, ((names.zip ds).reverse ++ d0).lookup x = some d → ∃ v, ((names.zip vs).reverse ++ v0).lookup x = some v ∧ VR N v d
  | [], _, _, _, _, _, h0, x, d, e => by simpa using h0 x d (by simpa using e)
  | n :: names, _, _, .nil, _, _, h0, x, d, e => by simpa using h0 x d (by simpa using e)
  | n :: names, v :: vs, d' :: ds, .cons r rs, v0, d0, h0, x, d, e => by
    have e' : ((names.zip ds).reverse ++ ((n, d') :: d0)).lookup x = some d := by simpa [List.zip_cons_cons, List.reverse_cons, List.append_assoc] using e
    have := zip_lookup (names := names) rs (v0 := (n, v) :: v0) (d0 := (n, d') :: d0) (fun y dy ey => by
      simp only [List.lookup_cons] at ey ⊢
      cases q : y == n with
      | true => rw [q] at ey; cases ey; exact ⟨v, rfl, r⟩
      | false => rw [q] at ey; exact h0 y dy ey) x d e'
    simpa [List.zip_cons_cons, List.reverse_cons, List.append_assoc] using this
noncomputable def scopeOk (sc : Scope) (names : List PySem.Str) : Bool := sc.kind == .function && !sc.isCoroutine && !sc.isGenerator && (sc.names.all fun x => x.2 != .cell) && names.all fun x => sc.names.lookup x == some .local
theorem zip_names {names : List PySem.Str} {vs : List Value} : ∀ x ∈ names.zip vs, x.1 ∈ names := fun x hx => (List.of_mem_zip (a := x.1) (b := x.2) hx).1
theorem mem_of_lookup {β : Type} {x : PySem.Str} {d : β} : ∀ {l : List (PySem.Str × β)}, l.lookup x = some d → (x, d) ∈ l
  | [], h => by cases h
  | (y, e) :: r, h => by
    simp only [List.lookup_cons] at h
    cases q : x == y with
    | true => rw [q] at h; cases h; rw [eq_of_beq q]; exact .head _
    | false => rw [q] at h; exact .tail _ (mem_of_lookup h)
theorem zip_names' {names : List PySem.Str} {ds : List D} {x : PySem.Str} {d : D} (h : (x, d) ∈ names.zip ds) : x ∈ names := (List.of_mem_zip h).1
theorem okDeep {γ : Fx} {env' : Env} {m : PySem.Str → Option Value} {cv : Rho} {a : Nat} (ok : γ.Ok) (hn : 1 ≤ γ.n) (hsc' : env'.scope.kind = .function) (hg : env'.globals = mainGlobals) (hb : env'.builtins = builtinsNs) (hlo : env'.locals = a) (hfr : env'.frame = some a) :
    Fx.Ok ⟨γ.w, γ.B0, γ.s0, γ.A.deeper env', env', (γ.env.locals, m) :: γ.outs, env' :: γ.envs, cv, γ.n - 1⟩ := by
  have hd := ok.depth
  have hu := ok.units
  refine ⟨ok.gd, hsc', hg, hb, ok.hand, Around.frames_deeper ok.fr, ?_, ?_, fun e he => ?_⟩
  · show γ.A.depth + 1 + 4 * (γ.n - 1) < _; omega
  · show γ.A.units + 3 + 32 * (γ.n - 1) < _; omega
  · rcases List.mem_cons.mp he with rfl | he
    · exact ⟨by rw [hsc']; decide, a, by rw [hlo]; exact .head _, hfr⟩
    · refine absP fun _ kk => ?_
      obtain ⟨a, L, hL, c⟩ := ok.framed e he
      refine kk ?_
      clear kk
      exact ⟨a, L, .tail _ hL, c⟩
theorem backDeep {γ : Fx} {N N' : Fz} {F F' : Rw} {ρ₀ : Rho} {κ κ' : Cells} {hp h' : Heap} {tk tk' : Nat} {env' : Env} {m : PySem.Str → Option Value} {cv : Rho} {S' : St} (sat : Sat γ N F ⟨ρ₀, κ⟩ hp tk)
    (hm : ∀ x d, ρ₀.lookup x = some d → γ.env.kindOf x = some .local ∧ ∃ v, m x = some v ∧ VR N v d) (le : Le N N') (s : Sat ⟨γ.w, γ.B0, γ.s0, γ.A.deeper env', env', (γ.env.locals, m) :: γ.outs, env' :: γ.envs, cv, γ.n - 1⟩ N' F' S' h' tk') (hs : κ'.Sublist S'.κ) :
    Sat γ N' F' ⟨ρ₀, κ'⟩ h' tk' := by
  obtain ⟨m₁, H₁, _⟩ := s.m
  exact ⟨sat.ok, s.tok, ⟨m, H₁.lessS.lessK hs, fun x d e => let ⟨c1, v, c2, c3⟩ := hm x d e; ⟨c1, v, c2, c3.mono le⟩⟩, fun x d e => let ⟨c, o, v, c1, c2, c3, c4⟩ := sat.cv x d e; ⟨c, o, v, c1, le.1 _ c2, c3, c4.mono le⟩⟩
theorem F_inT {γ : Fx} {fi : FnI} {names : List PySem.Str} {ds : List D} {κ : Cells} {ρ : Rho} {Φ : D → Cells → Prop} {Ξ : Exc → Cells → Prop} (hf : fi ∈ fns)
    (hK : ∀ P, (K P).lookup fi.a = some (fnObj fi.n (defAt fi.i) fi.a fi.m fi.t fi.d)) (hn : 1 ≤ γ.n) (hsc : scopeOk (defAt fi.i).2.2 names = true) (hl : names.length = ds.length) (hρ : (names.zip ds).reverse = ρ)
    (hb : ∀ (s : Shared) (vs : List Value), Says γ.w s.heap → vs.length = ds.length → BindsTo s (fnOf fi.n fi.n (defAt fi.i).1 (defAt fi.i).2.1 (defAt fi.i).2.2 fi.d .none .none (.str fi.m fi.t) none (.ref (fi.a - 1)) .none) ⟨vs, []⟩ (names.zip vs))
    (body : ∀ (γ' : Fx) (outer : List Env) (L : Addr), γ'.n = γ.n - 1 → γ'.env.scope = (defAt fi.i).2.2 → γ'.cv = [] → γ'.envs = γ'.env :: outer → γ'.env.frame = some L → WPB γ' (defAt fi.i).2.1 ⟨ρ, κ⟩ (Post Φ) Ξ) : WPF γ (.ref fi.a) ds κ Φ Ξ := by
  intro N F vs rs ρ₀ hp tk sat Q E hQ hE
  obtain ⟨m, H, hm⟩ := sat.m
  simp only [scopeOk, Bool.and_eq_true, beq_iff_eq, Bool.not_eq_true'] at hsc
  refine absP fun _ kk => ?_
  obtain ⟨⟨⟨⟨s1, s2⟩, s3⟩, s4⟩, s5⟩ := hsc
  refine kk ?_
  clear kk
  have hloc : ∀ x ∈ names, (defAt fi.i).2.2.names.lookup x = some .local := fun x hx => by simpa using List.all_eq_true.mp s5 x hx
  have hroom : γ.A.depth < recursionLimit := Nat.lt_of_le_of_lt (Nat.le_add_right _ _) sat.ok.depth
  refine wpAny_call (codeAny_call_def (fd := fnOf fi.n fi.n (defAt fi.i).1 (defAt fi.i).2.1 (defAt fi.i).2.2 fi.d .none .none (.str fi.m fi.t) none (.ref (fi.a - 1)) .none) (body := (defAt fi.i).2.1) (binds := names.zip vs) hroom
    (H.base _ _ (sat.ok.gd.says.K _ _ (hK _))) rfl (sat.ok.gd.lim.keeps H.base) ((sat.ok.gd.says.C fi hf).keeps H.base) rfl (hb _ vs (sat.ok.gd.says.keeps H.base) (VRs.length rs)) (fun x hx => by simpa using List.all_eq_true.mp s4 x hx) (fun x hx => hloc _ (zip_names x hx)) (fun h₁ hns hk₁ => ?_) s2 s3 s1)
  generalize henv : callEnv (fnOf fi.n fi.n (defAt fi.i).1 (defAt fi.i).2.1 (defAt fi.i).2.2 fi.d .none .none (.str fi.m fi.t) none (.ref (fi.a - 1)) .none) hp.objs.size fi.a = env'
  have hsc' : env'.scope = (defAt fi.i).2.2 := by rw [← henv]; rfl
  have hlo' : env'.locals = hp.objs.size := by rw [← henv]; rfl
  have hfr' : env'.frame = some hp.objs.size := by rw [← henv]; rfl
  have hgl' : env'.globals = mainGlobals := by rw [← henv]; rfl
  have hbu' : env'.builtins = builtinsNs := by rw [← henv]; rfl
  have hok : Fx.Ok ⟨γ.w, γ.B0, γ.s0, γ.A.deeper env', env', (γ.env.locals, m) :: γ.outs, env' :: γ.envs, [], γ.n - 1⟩ := okDeep sat.ok hn (by rw [hsc']; exact s1) hgl' hbu' hlo' hfr'
  have sat' : ∀ tk', tk ≤ tk' → Sat ⟨γ.w, γ.B0, γ.s0, γ.A.deeper env', env', (γ.env.locals, m) :: γ.outs, env' :: γ.envs, [], γ.n - 1⟩ N F ⟨ρ, κ⟩ h₁ tk' := by
    intro tk' htk'
    refine ⟨hok, sat.tok.mono htk', ⟨_, by rw [hlo']; exact H.enter hk₁ hns, fun x d e => ⟨?_, ?_⟩⟩, fun x d e => by cases e⟩
    · have hx : x ∈ names := by
        rw [← hρ] at e
        have := List.mem_reverse.mp (mem_of_lookup e)
        exact zip_names' this
      show env'.scope.names.lookup x = _
      rw [hsc']; exact hloc x hx
    · rw [← hρ] at e
      have := zip_lookup (names := names) rs (v0 := []) (d0 := []) (fun _ _ e => by cases e) x d (by simpa using e)
      simpa using this
  refine body ⟨γ.w, γ.B0, γ.s0, γ.A.deeper env', env', (γ.env.locals, m) :: γ.outs, env' :: γ.envs, [], γ.n - 1⟩ γ.envs hp.objs.size rfl hsc' rfl rfl hfr' N F h₁ _ (sat' _ (Nat.le_add_right _ _)) _ _ ⟨PassesOwn.leaving, fun N' a b S' h' tk' le sat₁ r p => ?_, fun N' e x κ' h' tk' le ok R p => ?_⟩
  · have back : ∀ κ', κ'.Sublist S'.κ → Sat γ N' F ⟨ρ₀, κ'⟩ h' tk' := fun κ' hs => backDeep sat hm le sat₁ hs
    cases r with
    | next => obtain ⟨κ', hs, p⟩ := p; exact hQ N' _ _ κ' h' tk' le (back κ' hs) .none p
    | brk => exact p.elim
    | cont => exact p.elim
    | ret r => obtain ⟨κ', hs, p⟩ := p; exact hQ N' _ _ κ' h' tk' le (back κ' hs) r p
  · obtain ⟨htk, m₁, R⟩ := R
    refine R.lessS.left (l' := env' :: γ.envs) rfl (fun B dx b1 b2 b3 b4 k => wp_leave (Around.frames_deeper sat.ok.fr) b3 hfr' b4 b1 b2 k) fun h'' R' => ?_
    exact hE N' e x κ' h'' tk' le ⟨htk, m, R'.outer⟩ p
end

section
-- L7
section
variable {γ : Fx} {N : Fz} {F : Rw} {S : St} {Ξ : Exc → Cells → Prop} {Φ : D → St → Prop} {Ψ : AF → St → Prop} {pos p1 : Pos} {x : PySem.Str} {test iter e : Expr} {body rest : List Stmt}
theorem call_end {a : Addr} {o : Obj} {N N₂ : Fz} {vs : List Value} {ds : List D} {S₂ : St} {h₂ : Heap} {tk₂ : Nat} {Q : Value → Shared → Prop} {E : Value → Shared → Prop} (C : Cont γ N F RV Φ Ξ Q E) (hK : ∀ P, (K P).lookup a = some o) (le₂ : Le N N₂)
    (sat₂ : Sat γ N₂ F S₂ h₂ tk₂) (r₂ : VRs N₂ vs ds) (k₂ : WPF γ (.ref a) ds S₂.κ (fun d κ' => Φ d ⟨S₂.ρ, κ'⟩) Ξ) : h₂.get? a = some o ∧ wpAny (md γ.w) γ.A (call (.ref a) vs) Q E (γ.mk' h₂ tk₂) := by
  refine ⟨sat₂.base _ _ (sat₂.ok.gd.says.K _ _ (hK _)), k₂ N₂ F vs r₂ S₂.ρ h₂ tk₂ sat₂ Q E (fun N' v d κ' h' tk' le s' r p => ?_) fun N' e x κ' h' tk' le R p => ?_⟩
  · exact C.ok N' v d _ h' tk' (le₂.trans le) s' r p
  · exact C.ex N' e x κ' h' tk' (le₂.trans le) sat₂.ok R p
theorem E_call {a : Addr} {es : List Expr} {o : Obj} {fd : FuncData} (hx : (x, some (.ref a)) ∈ glob) (hk : γ.env.kindOf x = some .globalImplicit) (hK : ∀ P, (K P).lookup a = some o) (ho : o.data = .func fd)
    (h : WPL γ (backTo pos (starEach (e :: es) γ.env)) S (fun ds S₁ => WPF γ (.ref a) ds S₁.κ (fun d κ' => Φ d ⟨S₁.ρ, κ'⟩) Ξ) Ξ)
    (he : starEach (e :: es) γ.env = (false, eval e γ.env) :: starEach es γ.env := by rfl) (hd : (x == ("__debug__" : PySem.Str)) = false := by decide) : WPE γ (.Call (.Name x p1) (e :: es) [] pos) S Φ Ξ := fun N F hp tk sat Q E C => by
  refine wpAny_Call_NameR (E_glob (v := .ref a) hx hk (Φ := fun d S₁ => d = .val (.ref a) ∧ S₁ = S) ⟨rfl, rfl⟩ hd N F hp tk sat _ E (C.then fun N₁ v₁ d₁ S₁ h₁ tk₁ le₁ sat₁ r₁ k₁ => ?_))
  obtain ⟨rfl, rfl⟩ := k₁
  (first | (refine VR.intE r₁ ?_; intro _) | (refine VR.strE r₁ ?_; intro _ _ _) | refine VR.boolE r₁ ?_ | refine VR.noneE r₁ ?_ | refine VR.refE r₁ ?_ | refine VR.valE r₁ ?_ | (refine VR.strxE r₁ ?_; intro _) | cases r₁)
  exact callWith_def (o := o) (fd := fd) ho (h N₁ F h₁ tk₁ sat₁ _ E ((C.mono le₁).then fun N₂ vs ds S₂ h₂ tk₂ le₂ sat₂ r₂ k₂ => call_end (C.mono le₁) hK le₂ sat₂ r₂ k₂)) he
theorem E_call0 {a : Addr} {o : Obj} {fd : FuncData} (hx : (x, some (.ref a)) ∈ glob) (hk : γ.env.kindOf x = some .globalImplicit) (hK : ∀ P, (K P).lookup a = some o) (ho : o.data = .func fd)
    (h : WPF γ (.ref a) [] S.κ (fun d κ' => Φ d ⟨S.ρ, κ'⟩) Ξ) (hd : (x == ("__debug__" : PySem.Str)) = false := by decide) : WPE γ (.Call (.Name x p1) [] [] pos) S Φ Ξ := fun N F hp tk sat Q E C => by
  refine wpAny_Call_NameR (E_glob (v := .ref a) hx hk (Φ := fun d S₁ => d = .val (.ref a) ∧ S₁ = S) ⟨rfl, rfl⟩ hd N F hp tk sat _ E (C.then fun N₁ v₁ d₁ S₁ h₁ tk₁ le₁ sat₁ r₁ k₁ => ?_))
  obtain ⟨rfl, rfl⟩ := k₁
  (first | (refine VR.intE r₁ ?_; intro _) | (refine VR.strE r₁ ?_; intro _ _ _) | refine VR.boolE r₁ ?_ | refine VR.noneE r₁ ?_ | refine VR.refE r₁ ?_ | refine VR.valE r₁ ?_ | (refine VR.strxE r₁ ?_; intro _) | cases r₁)
  obtain ⟨z1, z2⟩ := call_end (tk₂ := tk₁) (C.mono le₁) hK (Le.refl N₁) sat₁ .nil h
  exact callWith_function_kw (o := o) (fd := fd) (PyProof.Rows.evalArgs_none ⟨⟨z1, ho⟩, z2⟩)
theorem S_while (I : Nat → St → Prop) (n : Nat) (h0 : I n S)
    (turn : ∀ n S, I n S → WPT γ test S (fun b S₁ => if b = true then WPB γ body S₁ (fun f S₂ => match f with
      | .next => ∃ m S₃, m < n ∧ Wk S₃ S₂ ∧ I m S₃
      | .cont => ∃ m S₃, m < n ∧ Wk S₃ S₂ ∧ I m S₃
      | .brk => Ψ .next S₂
      | .ret d => Ψ (.ret d) S₂) Ξ else Ψ .next S₁) Ξ) : WPS γ (.While test body [] pos) S Ψ Ξ := fun N F hp tk sat Q E C => by
  refine wpAny_While (codeAny_whileLoop (fun n s => ∃ N' S' h' tk', Le N N' ∧ Sat γ N' F S' h' tk' ∧ I n S' ∧ s = γ.mk' h' tk') ?_ n ⟨N, S, hp, tk, Le.refl N, sat, h0, rfl⟩)
  intro n s hh
  refine absP fun _ kk => ?_
  obtain ⟨N', S', h', tk', le, sat', hi, rfl⟩ := hh
  refine kk ?_
  clear kk
  refine wpAny_passesOwn C.pe (turn n S' hi N' F h' tk' sat' _ E ((C.mono le).then fun N₁ b c S₁ h₁ tk₁ le₁ sat₁ r₁ k₁ => ?_))
  obtain rfl : b = c := r₁
  cases b with
  | false =>
    rw [if_neg Bool.false_ne_true] at k₁ ⊢
    exact wpAny_execs_nil (C.ok N₁ _ _ S₁ h₁ tk₁ (le.trans le₁) sat₁ .next k₁)
  | true =>
    rw [if_pos rfl] at k₁ ⊢
    refine wpAny_passesOwn C.pe (k₁ N₁ F h₁ tk₁ sat₁ _ E ((C.mono (le.trans le₁)).then fun N₂ f d S₂ h₂ tk₂ le₂ sat₂ r₂ k₂ => ?_))
    cases r₂ with
    | next => obtain ⟨m, S₃, a, b, c⟩ := k₂; exact ⟨m, a, N₂, S₃, h₂, tk₂, (le.trans le₁).trans le₂, sat₂.weak b, c, rfl⟩
    | cont => obtain ⟨m, S₃, a, b, c⟩ := k₂; exact ⟨m, a, N₂, S₃, h₂, tk₂, (le.trans le₁).trans le₂, sat₂.weak b, c, rfl⟩
    | brk => exact C.ok N₂ _ _ S₂ h₂ tk₂ ((le.trans le₁).trans le₂) sat₂ .next k₂
    | ret r => exact C.ok N₂ _ _ S₂ h₂ tk₂ ((le.trans le₁).trans le₂) sat₂ (.ret r) k₂
structure It (γ : Fx) (N : Fz) (I : Addr) (P : Nat → Obj → Prop) (ds : List D) : Prop where
  item : ∀ N' F i d S hp tk o, Le N N' → ds[i]? = some d → P i o → Sat γ N' ((I, o) :: F) S hp tk → ∀ (Q : Option Value → Shared → Prop) (E : Value → Shared → Prop),
    (∀ N'' v h' tk' o', Le N' N'' → VR N'' v d → P (i + 1) o' → Sat γ N'' ((I, o') :: F) S h' tk' → Q (some v) (γ.mk' h' tk')) → wpAny (md γ.w) γ.A (pyNext (.ref I)) Q E (γ.mk' hp tk)
  done : ∀ N' F S hp tk o, Le N N' → P ds.length o → Sat γ N' ((I, o) :: F) S hp tk → ∀ (Q : Option Value → Shared → Prop) (E : Value → Shared → Prop),
    (∀ h' tk', Sat γ N' F S h' tk' → Q none (γ.mk' h' tk')) → wpAny (md γ.w) γ.A (pyNext (.ref I)) Q E (γ.mk' hp tk)
noncomputable def Iter (γ : Fx) (d : D) (ds : List D) : Prop := ∀ N F S hp tk v, VR N v d → Sat γ N F S hp tk → ∀ (Q : Value → Shared → Prop) (E : Value → Shared → Prop),
  (∀ I P o h' tk', It γ N I P ds → P 0 o → Sat γ N ((I, o) :: F) S h' tk' → Q (.ref I) (γ.mk' h' tk')) → wpAny (md γ.w) γ.A (pyIter v) Q E (γ.mk' hp tk)
noncomputable def NoX (_ : Exc) (_ : Cells) : Prop := False
noncomputable def ForP (γ : Fx) (x : PySem.Str) (body : List Stmt) (Ψ : AF → St → Prop) : List D → St → Prop
  | [], S => Ψ .next S
  | d :: ds, S => WPB γ body ⟨(x, d) :: S.ρ, S.κ⟩ (fun f S' => match f with
    | .next => ∃ S₃, Wk S₃ S' ∧ ForP γ x body Ψ ds S₃
    | .cont => ∃ S₃, Wk S₃ S' ∧ ForP γ x body Ψ ds S₃
    | .brk => Ψ .next S'
    | .ret r => Ψ (.ret r) S') NoX
theorem Sat.offAny {I : Addr} {o : Obj} {h : Heap} {tk : Nat} (s : Sat γ N ((I, o) :: F) S h tk) : Sat γ N F S h tk := ⟨s.ok, s.tok, let ⟨m, H, hm⟩ := s.m; ⟨m, H.lessF, hm⟩, s.cv⟩
theorem dropN {α : Type} {l : List α} {n i : Nat} (h : l[i]? = none) (hn : n + i = l.length) : i = l.length :=
  Nat.le_antisymm (hn ▸ Nat.le_add_left i n) (List.getElem?_eq_none_iff.mp h)
theorem dropL {α : Type} {l : List α} {i : Nat} {d : α} (h : l[i]? = some d) : i < l.length := (List.getElem?_eq_some_iff.mp h).1
theorem dropS {α : Type} {l : List α} {i : Nat} {d : α} (h : l[i]? = some d) : l.drop i = d :: l.drop (i + 1) := by
  rw [List.drop_eq_getElem_cons (dropL h), (List.getElem?_eq_some_iff.mp h).2]
inductive ForInv (γ : Fx) (F : Rw) (N₁ : Fz) (x : PySem.Str) (body : List Stmt) (Ψ : AF → St → Prop) (ds : List D) (P : Nat → Obj → Prop) (I : Addr) : Nat → Shared → Prop
  | mk {n i : Nat} {o : Obj} {N' : Fz} {S' : St} {h' : Heap} {tk' : Nat} : n + i = ds.length → Le N₁ N' → P i o → Sat γ N' ((I, o) :: F) S' h' tk' → ForP γ x body Ψ (ds.drop i) S' → ForInv γ F N₁ x body Ψ ds P I n (γ.mk' h' tk')
theorem S_for (hk : γ.env.kindOf x = some .local) (h : WPE γ iter S (fun d S₁ => ∃ ds, Iter γ d ds ∧ ForP γ x body Ψ ds S₁) Ξ) (hs : ∀ v, foldedSetIterable iter γ.env v = pure v := by intro _; rfl) : WPS γ (.For (.Name x p1) iter body [] pos) S Ψ Ξ := fun N F hp tk sat Q E C => by
  refine wpAny_For (h N F hp tk sat _ E (C.then fun N₁ v d S₁ h₁ tk₁ le₁ sat₁ r₁ k₁ => ?_)) hs
  obtain ⟨ds, hi, fp⟩ := k₁
  refine hi N₁ F S₁ h₁ tk₁ v r₁ sat₁ _ E fun I P o h₂ tk₂ it po sat₂ => ?_
  refine codeAny_forLoop (ForInv γ F N₁ x body Ψ ds P I) ?_ ds.length (.mk (i := 0) rfl (Le.refl _) po sat₂ fp)
  clear po sat₂ fp sat₁ sat r₁ hi hs h
  intro n s hI
  cases hI
  rename_i i o' N' S' h' tk' hn le po' sat' fp'
  cases hd : ds[i]? with
  | none =>
    rw [dropN hd hn, List.drop_length] at fp'
    rw [dropN hd hn] at po'
    exact it.done N' F S' h' tk' o' le po' sat' _ _ fun h₃ tk₃ sat₃ => wpAny_execs_nil (C.ok N' _ _ S' h₃ tk₃ (le₁.trans le) sat₃ .next fp')
  | some d' =>
    refine it.item N' F i d' S' h' tk' o' le hd po' sat' _ _ fun N₃ v' h₃ tk₃ o₃ le₃ r₃ po₃ sat₃ => ?_
    have hlt := dropL hd
    rw [dropS hd] at fp'
    refine wpAny_assign_Name (wp_store sat₃ hk r₃ fun h₄ tk₄ sat₄ => ?_)
    refine wpAny_noRaise (fp' N₃ ((I, o₃) :: F) h₄ tk₄ sat₄ _ _ ⟨PassesOwn.never, fun N₅ f a S₅ h₅ tk₅ le₅ sat₅ r₅ k₅ => ?_, fun _ _ _ _ _ _ _ _ _ p => p⟩)
    cases r₅ with
    | next =>
      obtain ⟨S₆, w6, k₆⟩ := k₅
      exact ⟨n - 1, cn1 hn hlt, .mk (i := i + 1) (cn2 hn hlt) ((le.trans le₃).trans le₅) po₃ (sat₅.weak w6) k₆⟩
    | cont =>
      obtain ⟨S₆, w6, k₆⟩ := k₅
      exact ⟨n - 1, cn1 hn hlt, .mk (i := i + 1) (cn2 hn hlt) ((le.trans le₃).trans le₅) po₃ (sat₅.weak w6) k₆⟩
    | brk => exact C.ok N₅ _ _ S₅ h₅ tk₅ (((le₁.trans le).trans le₃).trans le₅) sat₅.offAny .next k₅
    | ret r => exact C.ok N₅ _ _ S₅ h₅ tk₅ (((le₁.trans le).trans le₃).trans le₅) sat₅.offAny (.ret r) k₅
end
end

section
-- P1
theorem tx_len (a : Wd) : (tx a).length = a.length := by simp [tx, PySem.Str.length]
theorem tx_add (a b : Wd) : tx a ++ tx b = tx (a ++ b) := by
  show PySem.Str.mk _ = PySem.Str.mk _
  simp [tx]
theorem tx_inj {a b : Wd} (h : tx a = tx b) : a = b := by
  have := congrArg (fun s => s.cps.toList) h
  simpa [tx] using this
theorem tx_beq (a b : Wd) : (tx a == tx b) = (a == b) := by
  by_cases h : a = b
  · subst h; simp
  · rw [beq_eq_false_iff_ne.mpr h, beq_eq_false_iff_ne.mpr fun e => h (tx_inj e)]
theorem KD.of {o : Obj} {ks : List Int} {w : World} (h : o.IsDictOf (intKind pw w) (ks.map fun k => (k, Value.bool true))) : KD o ks := fun w' => by
  refine absP fun _ kk => ?_
  obtain ⟨es, ep, a, b, c, d, e⟩ := h
  refine kk ?_
  clear kk
  refine ⟨es, ep, a, b, c, ?_, e⟩
  generalize ks.map (fun k => (k, Value.bool true)) = kvs at d
  generalize es.toList = el at d
  clear c
  induction d with
  | nil => exact .nil
  | cons x y _ ih => exact .cons x y ih
section
variable {γ : Fx} {N : Fz} {F : Rw} {S : St} {Ξ : Exc → Cells → Prop} {Φ : D → St → Prop} {Ψ : Bool → St → Prop}
theorem Sat.turnF {I : Addr} {o o' : Obj} {h h' : Heap} {tk : Nat} (s : Sat γ N ((I, o) :: F) S h tk) (hs : Heap.SameBut I h h') (ho : h'.get? I = some o') : Sat γ N ((I, o') :: F) S h' tk :=
  ⟨s.ok, s.tok, let ⟨m, H, hm⟩ := s.m; ⟨m, H.turnF (fun b ob hb e => (hs.2 b hb).trans e) (by rw [hs.1]; exact Nat.le_refl _) ho, hm⟩, s.cv⟩
theorem Sat.offE {I : Addr} {o : Obj} {h h' : Heap} {tk : Nat} (s : Sat γ N ((I, o) :: F) S h tk) (hs : Heap.ExtBut I h h') : Sat γ N F S h' tk := by
  obtain ⟨m, H, hm⟩ := s.m
  refine ⟨s.ok, s.tok, ⟨m, H.offF hs ?_, hm⟩, s.cv⟩
  have hL : h.Ns γ.env.locals m := H.ns _ (.head _)
  refine absP fun _ kk => ?_
  obtain ⟨o1, es, ep, x, _⟩ := hL
  refine kk ?_
  clear kk
  have : γ.env.locals ≠ I := H.nsF _ (.head _) (I, o) (.head _)
  exact Nat.le_trans (H.lowS _ (.head _)) (Nat.le_of_lt (Heap.lt_size (hs _ _ this x)))
theorem Sat.pushF {h : Heap} {tk : Nat} (s : Sat γ N F S h tk) (o : Obj) (hf : o.isFreed = false := by rfl) : Sat γ N ((h.objs.size, o) :: F) S (h.push o) tk :=
  ⟨s.ok, s.tok, let ⟨m, H, hm⟩ := s.m; ⟨m, H.pushF o hf, hm⟩, s.cv⟩
theorem Sat.frm {h : Heap} {tk : Nat} (s : Sat γ N F S h tk) {p : Addr × Obj} (hp : p ∈ F) : h.get? p.1 = some p.2 := let ⟨_, H, _⟩ := s.m; H.frm p hp
theorem VRs.get' {vs : List Value} {ds : List D} (h : VRs N vs ds) {i : Nat} {d : D} (e : ds[i]? = some d) : ∃ v, vs.toArray[i]? = some v ∧ VR N v d := by
  obtain ⟨v, a, b⟩ := h.get e
  exact ⟨v, by simpa using a, b⟩
theorem I_lst {ds : List D} : Iter γ (.lst ds) ds := fun N F S hp tk v r sat Q E k => by
  refine VR.lstE r ?_
  · intro _ _ _ _ ho hc hdd hd rs
    rename_i a o n vs
    have hl : ∀ h' : Heap, h'.get? a = some o → h'.IsList a vs.toArray := fun h' e => ⟨o, e, hc, n, hd⟩
    refine wpAny_pyIter_list (hl _ (sat.fro ho)) (k hp.objs.size (fun i o' => o'.cls = .type "list_iterator" ∧ o'.data = .fields #[.ref a, .int i 0]) _ _ tk ⟨?_, ?_⟩ ⟨rfl, rfl⟩ (sat.pushF _))
    · intro N' F i d S hp tk o' le hi hP sat Q E k
      obtain ⟨x, hx, rx⟩ := (rs.mono le).get' hi
      refine wpAny_pyNext_list_item ⟨o', sat.frm (.head _), hP.1, hP.2⟩ (hl _ (sat.fro (le.1 _ ho))) hx fun h' hit hs => ?_
      refine absP fun _ kk => ?_
      obtain ⟨o'', a1, a2, a3⟩ := hit
      refine kk ?_
      clear kk
      exact k _ x h' tk o'' (Le.refl _) rx ⟨a2, a3⟩ (sat.turnF hs a1)
    · intro N' F S hp tk o' le hP sat Q E k
      refine wpAny_pyNext_list_end sat.ok.hand ⟨o', sat.frm (.head _), hP.1, hP.2⟩ (hl _ (sat.fro (le.1 _ ho))) (by simp [rs.length]) fun h' hs => k h' tk (sat.offE hs)
theorem I_tup {ds : List D} : Iter γ (.tup ds) ds := fun N F S hp tk v r sat Q E k => by
  refine VR.tupE r ?_
  · intro _ _ _ _ ho hc hd rs
    rename_i a o n vs
    have hl : ∀ h' : Heap, h'.get? a = some o → h'.IsTuple a vs.toArray := fun h' e => ⟨o, e, hc, n, hd⟩
    refine wpAny_pyIter_tuple (hl _ (sat.fro ho)) (k hp.objs.size (fun i o' => o'.cls = .type "tuple_iterator" ∧ o'.data = .fields #[.ref a, .int i 0]) _ _ tk ⟨?_, ?_⟩ ⟨rfl, rfl⟩ (sat.pushF _))
    · intro N' F i d S hp tk o' le hi hP sat Q E k
      obtain ⟨x, hx, rx⟩ := (rs.mono le).get' hi
      refine wpAny_pyNext_tuple_item ⟨o', sat.frm (.head _), hP.1, hP.2⟩ (hl _ (sat.fro (le.1 _ ho))) hx fun h' hit hs => ?_
      refine absP fun _ kk => ?_
      obtain ⟨o'', a1, a2, a3⟩ := hit
      refine kk ?_
      clear kk
      exact k _ x h' tk o'' (Le.refl _) rx ⟨a2, a3⟩ (sat.turnF hs a1)
    · intro N' F S hp tk o' le hP sat Q E k
      refine wpAny_pyNext_tuple_end sat.ok.hand ⟨o', sat.frm (.head _), hP.1, hP.2⟩ (hl _ (sat.fro (le.1 _ ho))) (by simp [rs.length]) fun h' hs => k h' tk (sat.offE hs)
theorem I_str {x : Wd} : Iter γ (.str x) (x.map fun c => .str [c]) := fun N F S hp tk v r sat Q E k => by
  refine VR.strE r ?_
  · intro t ht0 htb
    have hx : ∀ (i : Nat) d, (x.map fun c => D.str [c])[i]? = some d → ∃ c, (tx x).cps[i]? = some c ∧ d = .str [c] := fun i d e => by
      simp only [List.getElem?_map, Option.map_eq_some_iff] at e
      obtain ⟨c, e1, e2⟩ := e
      exact ⟨c, by simpa [tx] using e1, e2.symm⟩
    refine wpAny_pyIter_strU (k hp.objs.size (fun i o' => o'.cls = .type (strIterType (tx x)) ∧ o'.data = .fields #[.str (tx x) t, .int i 0]) _ _ tk ⟨?_, ?_⟩ ⟨rfl, rfl⟩ (sat.pushF _))
    · intro N' F i d S hp tk o' le hi hP sat Q E k
      obtain ⟨c, hc, rfl⟩ := hx i d hi
      unfold strIterType at hP
      split at hP
      · refine wpAny_pyNext_ascii_item ⟨o', sat.frm (.head _), hP.1, hP.2⟩ hc fun h' hit hs => ?_
        refine absP fun _ kk => ?_
        obtain ⟨o'', a1, a2, a3⟩ := hit
        refine kk ?_
        clear kk
        exact k _ _ h' _ o'' (sat.leUp (Nat.le_succ _)) (VR.fresh (x := [c]) sat) ⟨by unfold strIterType; simp_all, a3⟩ ((sat.turnF hs a1).upTo (Nat.le_succ _))
      · refine wpAny_pyNext_wide_item ⟨o', sat.frm (.head _), hP.1, hP.2⟩ hc fun h' hit hs => ?_
        refine absP fun _ kk => ?_
        obtain ⟨o'', a1, a2, a3⟩ := hit
        refine kk ?_
        clear kk
        exact k _ _ h' _ o'' (sat.leUp (Nat.le_succ _)) (VR.fresh (x := [c]) sat) ⟨by unfold strIterType; simp_all, a3⟩ ((sat.turnF hs a1).upTo (Nat.le_succ _))
    · intro N' F S hp tk o' le hP sat Q E k
      have hn : (tx x).cps[(x.map fun c => D.str [c]).length]? = none := by simp [tx]
      unfold strIterType at hP
      split at hP
      · exact wpAny_pyNext_ascii_end sat.ok.hand ⟨o', sat.frm (.head _), hP.1, hP.2⟩ hn fun h' hs => k h' tk (sat.offE hs)
      · exact wpAny_pyNext_wide_end sat.ok.hand ⟨o', sat.frm (.head _), hP.1, hP.2⟩ hn fun h' hs => k h' tk (sat.offE hs)
theorem I_keys {ks : List Int} : Iter γ (.keys ks) (ks.map .int) := fun N F S hp tk v r sat Q E k => by
  refine VR.keysE r ?_
  · intro _ _ ho hsm hk
    rename_i a o
    refine absP fun _ kk => ?_
    obtain ⟨es, ep, c1, c2, c3, c4, c5⟩ := hk γ.w
    refine kk ?_
    clear kk
    have hd : ∀ h' : Heap, h'.get? a = some o → h'.DictAt (intKind pw γ.w) a (ks.map fun k => (k, Value.bool true)) ep := fun h' e => ⟨o, es, e, c1, c2, c3, c4, c5⟩
    have hlen : (ks.map fun k => (k, Value.bool true)).length = ks.length := by simp
    refine wpAny_pyIter_dict hsm (hd _ (sat.fro ho)) (k hp.objs.size (fun i o' => o'.cls = .type "dict_keyiterator" ∧ o'.data = .fields #[.ref a, .int i 0, .int (ks.map fun k => (k, Value.bool true)).length 0, .int ep 0]) _ _ tk ⟨?_, ?_⟩ ⟨rfl, rfl⟩ (sat.pushF _))
    · intro N' F i d S hp tk o' le hi hP sat Q E k
      simp only [List.getElem?_map, Option.map_eq_some_iff] at hi
      obtain ⟨x, e1, rfl⟩ := hi
      refine wpAny_pyNext_dict_item (k := x) (v := .bool true) ⟨o', sat.frm (.head _), hP.1, hP.2⟩ (hd _ (sat.fro (le.1 _ ho))) (by simp [e1]) fun key h' hkey hit hs => ?_
      refine absP fun _ kk => ?_
      obtain ⟨o'', a1, a2, a3⟩ := hit
      refine kk ?_
      clear kk
      obtain ⟨t, rfl⟩ := PySem.Value.isInt_shape hkey
      exact k _ _ h' tk o'' (Le.refl _) (.int x t) ⟨a2, a3⟩ (sat.turnF hs a1)
    · intro N' F S hp tk o' le hP sat Q E k
      refine wpAny_pyNext_dict_end sat.ok.hand ⟨o', sat.frm (.head _), hP.1, hP.2⟩ (hd _ (sat.fro (le.1 _ ho))) (by simp) fun h' hs => k h' tk (sat.offE hs)
noncomputable def rngL (a c : Int) : Nat → List Int
  | 0 => []
  | n + 1 => a :: rngL (a + c) c n
theorem rngL_length (c : Int) : ∀ n a, (rngL a c n).length = n
  | 0, _ => rfl
  | n + 1, a => by simp [rngL, rngL_length c n]
theorem rngL_get (c : Int) : ∀ n a (i : Nat) x, (rngL a c n)[i]? = some x → i < n ∧ x = a + i * c
  | 0, a, i, x, h => by simp [rngL] at h
  | n + 1, a, 0, x, h => by simp [rngL] at h; subst h; simp
  | n + 1, a, i + 1, x, h => by
    have h' : (rngL (a + c) c n)[i]? = some x := by simpa [rngL] using h
    obtain ⟨h1, h2⟩ := rngL_get c n (a + c) i x h'
    refine ⟨by omega, ?_⟩
    rw [h2, Int.natCast_add, Int.add_mul]
    omega
theorem I_rng {a b c : Int} (hs : Builtin.Range.small a b c = true) : Iter γ (.rng a b c) ((rngL a c (Builtin.Range.rangeSize a b c).toNat).map .int) := fun N F S hp tk v r sat Q E k => by
  refine VR.rngE r ?_
  · intro _ _ _ _ ho
    refine wpAny_pyIter_range (sat.fro ho) hs (k hp.objs.size (fun i o' => o' = { cls := .type "range_iterator", dict := none, data := .fields #[rawInt (a + i * c), rawInt ((Builtin.Range.rangeSize a b c) - i), rawInt c], slots := #[] }) _ _ tk ⟨?_, ?_⟩ (by simp) (sat.pushF _))
    · intro N' F i d S hp tk o' le hi hP sat Q E k
      simp only [List.getElem?_map, Option.map_eq_some_iff] at hi
      obtain ⟨x, e1, rfl⟩ := hi
      obtain ⟨h1, rfl⟩ := rngL_get _ _ _ _ _ e1
      subst hP
      refine wpAny_pyNext_range_item (sat.frm (.head _)) (by omega) fun h' hit hs => ?_
      refine k _ _ h' _ _ (Le.refl _) (.int _ _) ?_ ((sat.turnF hs hit).tkTo (Nat.le_succ _))
      have z1 : a + ((i + 1 : Nat) : Int) * c = a + i * c + c := by rw [Int.natCast_add, Int.add_mul]; simp; omega
      have z2 : Builtin.Range.rangeSize a b c - ((i + 1 : Nat) : Int) = Builtin.Range.rangeSize a b c - i - 1 := by omega
      rw [z1, z2]
    · intro N' F S hp tk o' le hP sat Q E k
      subst hP
      refine wpAny_pyNext_range_end sat.ok.hand (sat.frm (.head _)) ?_ fun h' hs => k h' tk (sat.offE hs)
      simp [rngL_length]
      omega
end
end

section
-- P2
section
variable {γ : Fx} {N : Fz} {F : Rw} {S : St} {Ξ : Exc → Cells → Prop} {Φ : D → St → Prop} {Ψ : Bool → St → Prop} {a b i : Int} {x y : Wd} {value slice : Expr} {ds es : List D} {d : D} {pos apos : Pos}
theorem add_i (h : Φ (.int (a + b)) S) : WPBin γ .Add (.int a) (.int b) S Φ Ξ := fun N v w r q F hp tk sat Q E C => by
  (first | (refine VR.intE r ?_; intro _) | (refine VR.strE r ?_; intro _ _ _) | refine VR.boolE r ?_ | refine VR.noneE r ?_ | refine VR.refE r ?_ | refine VR.valE r ?_ | (refine VR.strxE r ?_; intro _) | cases r); (first | (refine VR.intE q ?_; intro _) | (refine VR.strE q ?_; intro _ _ _) | refine VR.boolE q ?_ | refine VR.noneE q ?_ | refine VR.refE q ?_ | refine VR.valE q ?_ | (refine VR.strxE q ?_; intro _) | cases q); exact add_int (C.go sat (.int _ _) h)
theorem sub_i (h : Φ (.int (a - b)) S) : WPBin γ .Sub (.int a) (.int b) S Φ Ξ := fun N v w r q F hp tk sat Q E C => by
  (first | (refine VR.intE r ?_; intro _) | (refine VR.strE r ?_; intro _ _ _) | refine VR.boolE r ?_ | refine VR.noneE r ?_ | refine VR.refE r ?_ | refine VR.valE r ?_ | (refine VR.strxE r ?_; intro _) | cases r); (first | (refine VR.intE q ?_; intro _) | (refine VR.strE q ?_; intro _ _ _) | refine VR.boolE q ?_ | refine VR.noneE q ?_ | refine VR.refE q ?_ | refine VR.valE q ?_ | (refine VR.strxE q ?_; intro _) | cases q); exact sub_int (C.go sat (.int _ _) h)
theorem mod_i (hb : b ≠ 0) (h : Φ (.int (Int.fmod a b)) S) : WPBin γ .Mod (.int a) (.int b) S Φ Ξ := fun N v w r q F hp tk sat Q E C => by
  (first | (refine VR.intE r ?_; intro _) | (refine VR.strE r ?_; intro _ _ _) | refine VR.boolE r ?_ | refine VR.noneE r ?_ | refine VR.refE r ?_ | refine VR.valE r ?_ | (refine VR.strxE r ?_; intro _) | cases r); (first | (refine VR.intE q ?_; intro _) | (refine VR.strE q ?_; intro _ _ _) | refine VR.boolE q ?_ | refine VR.noneE q ?_ | refine VR.refE q ?_ | refine VR.valE q ?_ | (refine VR.strxE q ?_; intro _) | cases q); exact mod_int' hb (C.go sat (.int _ _) h)
theorem pow_i (h0 : 0 ≤ b) (h1 : b ≤ 1000000) (h2 : a.natAbs < 2 ^ 64) (h : Φ (.int (a ^ b.toNat)) S) : WPBin γ .Pow (.int a) (.int b) S Φ Ξ := fun N v w r q F hp tk sat Q E C => by
  (first | (refine VR.intE r ?_; intro _) | (refine VR.strE r ?_; intro _ _ _) | refine VR.boolE r ?_ | refine VR.noneE r ?_ | refine VR.refE r ?_ | refine VR.valE r ?_ | (refine VR.strxE r ?_; intro _) | cases r); (first | (refine VR.intE q ?_; intro _) | (refine VR.strE q ?_; intro _ _ _) | refine VR.boolE q ?_ | refine VR.noneE q ?_ | refine VR.refE q ?_ | refine VR.valE q ?_ | (refine VR.strxE q ?_; intro _) | cases q); exact pow_int_small h0 h1 h2 (C.go sat (.int _ _) h)
theorem neg_i (h : Φ (.int (-a)) S) : WPUn γ .USub (.int a) S Φ Ξ := fun N v r F hp tk sat Q E C => by
  (first | (refine VR.intE r ?_; intro _) | (refine VR.strE r ?_; intro _ _ _) | refine VR.boolE r ?_ | refine VR.noneE r ?_ | refine VR.refE r ?_ | refine VR.valE r ?_ | (refine VR.strxE r ?_; intro _) | cases r); exact neg_int (C.go sat (.int _ _) h)
theorem iadd_i (h : Φ (.int (a + b)) S) : WPInp γ .Add (.int a) (.int b) S Φ Ξ := fun N v w r q F hp tk sat Q E C => by
  (first | (refine VR.intE r ?_; intro _) | (refine VR.strE r ?_; intro _ _ _) | refine VR.boolE r ?_ | refine VR.noneE r ?_ | refine VR.refE r ?_ | refine VR.valE r ?_ | (refine VR.strxE r ?_; intro _) | cases r); (first | (refine VR.intE q ?_; intro _) | (refine VR.strE q ?_; intro _ _ _) | refine VR.boolE q ?_ | refine VR.noneE q ?_ | refine VR.refE q ?_ | refine VR.valE q ?_ | (refine VR.strxE q ?_; intro _) | cases q); exact PyProof.Rows.iadd_int (C.go sat (.int _ _) h)
theorem isub_i (h : Φ (.int (a - b)) S) : WPInp γ .Sub (.int a) (.int b) S Φ Ξ := fun N v w r q F hp tk sat Q E C => by
  (first | (refine VR.intE r ?_; intro _) | (refine VR.strE r ?_; intro _ _ _) | refine VR.boolE r ?_ | refine VR.noneE r ?_ | refine VR.refE r ?_ | refine VR.valE r ?_ | (refine VR.strxE r ?_; intro _) | cases r); (first | (refine VR.intE q ?_; intro _) | (refine VR.strE q ?_; intro _ _ _) | refine VR.boolE q ?_ | refine VR.noneE q ?_ | refine VR.refE q ?_ | refine VR.valE q ?_ | (refine VR.strxE q ?_; intro _) | cases q); exact PyProof.Rows.isub_int (C.go sat (.int _ _) h)
theorem lt_i (h : Φ (.bool (decide (a < b))) S) : WPCmp γ .Lt (.int a) (.int b) S Φ Ξ := fun N v w r q F hp tk sat Q E C => by
  (first | (refine VR.intE r ?_; intro _) | (refine VR.strE r ?_; intro _ _ _) | refine VR.boolE r ?_ | refine VR.noneE r ?_ | refine VR.refE r ?_ | refine VR.valE r ?_ | (refine VR.strxE r ?_; intro _) | cases r); (first | (refine VR.intE q ?_; intro _) | (refine VR.strE q ?_; intro _ _ _) | refine VR.boolE q ?_ | refine VR.noneE q ?_ | refine VR.refE q ?_ | refine VR.valE q ?_ | (refine VR.strxE q ?_; intro _) | cases q); exact lt_int (C.go sat (.bool _) h)
theorem gt_i (h : Φ (.bool (decide (b < a))) S) : WPCmp γ .Gt (.int a) (.int b) S Φ Ξ := fun N v w r q F hp tk sat Q E C => by
  (first | (refine VR.intE r ?_; intro _) | (refine VR.strE r ?_; intro _ _ _) | refine VR.boolE r ?_ | refine VR.noneE r ?_ | refine VR.refE r ?_ | refine VR.valE r ?_ | (refine VR.strxE r ?_; intro _) | cases r); (first | (refine VR.intE q ?_; intro _) | (refine VR.strE q ?_; intro _ _ _) | refine VR.boolE q ?_ | refine VR.noneE q ?_ | refine VR.refE q ?_ | refine VR.valE q ?_ | (refine VR.strxE q ?_; intro _) | cases q); exact gt_int (C.go sat (.bool _) h)
theorem ge_i (h : Φ (.bool (decide (b ≤ a))) S) : WPCmp γ .GtE (.int a) (.int b) S Φ Ξ := fun N v w r q F hp tk sat Q E C => by
  (first | (refine VR.intE r ?_; intro _) | (refine VR.strE r ?_; intro _ _ _) | refine VR.boolE r ?_ | refine VR.noneE r ?_ | refine VR.refE r ?_ | refine VR.valE r ?_ | (refine VR.strxE r ?_; intro _) | cases r); (first | (refine VR.intE q ?_; intro _) | (refine VR.strE q ?_; intro _ _ _) | refine VR.boolE q ?_ | refine VR.noneE q ?_ | refine VR.refE q ?_ | refine VR.valE q ?_ | (refine VR.strxE q ?_; intro _) | cases q); exact ge_int (C.go sat (.bool _) h)
theorem eq_i (h : Φ (.bool (a == b)) S) : WPCmp γ .Eq (.int a) (.int b) S Φ Ξ := fun N v w r q F hp tk sat Q E C => by
  (first | (refine VR.intE r ?_; intro _) | (refine VR.strE r ?_; intro _ _ _) | refine VR.boolE r ?_ | refine VR.noneE r ?_ | refine VR.refE r ?_ | refine VR.valE r ?_ | (refine VR.strxE r ?_; intro _) | cases r); (first | (refine VR.intE q ?_; intro _) | (refine VR.strE q ?_; intro _ _ _) | refine VR.boolE q ?_ | refine VR.noneE q ?_ | refine VR.refE q ?_ | refine VR.valE q ?_ | (refine VR.strxE q ?_; intro _) | cases q); exact eq_int (C.go sat (.bool _) h)
theorem eq_s (h : Φ (.bool (x == y)) S) : WPCmp γ .Eq (.str x) (.str y) S Φ Ξ := fun N v w r q F hp tk sat Q E C => by
  (first | (refine VR.intE r ?_; intro _) | (refine VR.strE r ?_; intro _ _ _) | refine VR.boolE r ?_ | refine VR.noneE r ?_ | refine VR.refE r ?_ | refine VR.valE r ?_ | (refine VR.strxE r ?_; intro _) | cases r); (first | (refine VR.intE q ?_; intro _) | (refine VR.strE q ?_; intro _ _ _) | refine VR.boolE q ?_ | refine VR.noneE q ?_ | refine VR.refE q ?_ | refine VR.valE q ?_ | (refine VR.strxE q ?_; intro _) | cases q); exact eq_str (by rw [tx_beq]; exact C.go sat (.bool _) h)
theorem ne_s (h : Φ (.bool (x != y)) S) : WPCmp γ .NotEq (.str x) (.str y) S Φ Ξ := fun N v w r q F hp tk sat Q E C => by
  (first | (refine VR.intE r ?_; intro _) | (refine VR.strE r ?_; intro _ _ _) | refine VR.boolE r ?_ | refine VR.noneE r ?_ | refine VR.refE r ?_ | refine VR.valE r ?_ | (refine VR.strxE r ?_; intro _) | cases r); (first | (refine VR.intE q ?_; intro _) | (refine VR.strE q ?_; intro _ _ _) | refine VR.boolE q ?_ | refine VR.noneE q ?_ | refine VR.refE q ?_ | refine VR.valE q ?_ | (refine VR.strxE q ?_; intro _) | cases q); exact ne_str (by show Q (.bool (!(tx x == tx y))) _; rw [tx_beq]; exact C.go sat (.bool _) h)
theorem le_s (h : Φ (.bool (!decide (y < x))) S) : WPCmp γ .LtE (.str x) (.str y) S Φ Ξ := fun N v w r q F hp tk sat Q E C => by
  (first | (refine VR.intE r ?_; intro _) | (refine VR.strE r ?_; intro _ _ _) | refine VR.boolE r ?_ | refine VR.noneE r ?_ | refine VR.refE r ?_ | refine VR.valE r ?_ | (refine VR.strxE r ?_; intro _) | cases r); (first | (refine VR.intE q ?_; intro _) | (refine VR.strE q ?_; intro _ _ _) | refine VR.boolE q ?_ | refine VR.noneE q ?_ | refine VR.refE q ?_ | refine VR.valE q ?_ | (refine VR.strxE q ?_; intro _) | cases q); exact P.le_str (C.go sat (.bool _) h)
theorem in_s (h : Φ (.bool (!(Builtin.Str.occurrences (tx y) (tx x) 0 (tx y).length 1).isEmpty)) S) : WPCmp γ .In (.str x) (.str y) S Φ Ξ := fun N v w r q F hp tk sat Q E C => by
  (first | (refine VR.intE r ?_; intro _) | (refine VR.strE r ?_; intro _ _ _) | refine VR.boolE r ?_ | refine VR.noneE r ?_ | refine VR.refE r ?_ | refine VR.valE r ?_ | (refine VR.strxE r ?_; intro _) | cases r); (first | (refine VR.intE q ?_; intro _) | (refine VR.strE q ?_; intro _ _ _) | refine VR.boolE q ?_ | refine VR.noneE q ?_ | refine VR.refE q ?_ | refine VR.valE q ?_ | (refine VR.strxE q ?_; intro _) | cases q); exact in_str (C.go sat (.bool _) h)
theorem wp_add {t w : Tok} {hp : Heap} {tk : Nat} {Q E : Value → Shared → Prop} (sat : Sat γ N F S hp tk) (C : Cont γ N F RV Φ Ξ Q E) (hl : x.length + y.length ≤ 10000000) (h : Φ (.str (x ++ y)) S) (r : VR N (.str (tx x) t) (.str x)) (q : VR N (.str (tx y) w) (.str y)) :
    (if (tx x).length == 0 then Made.val (.str (tx y) w) else if (tx y).length == 0 then Made.val (.str (tx x) t) else Made.str (tx x ++ tx y)).post Q (γ.mk' hp tk) := by
  rw [tx_len, tx_len]
  split
  · rename_i e
    have : x = [] := by simpa using e
    subst this
    exact C.go sat q h
  · split
    · rename_i e
      have : y = [] := by simpa using e
      subst this
      rw [List.append_nil] at h
      exact C.go sat r h
    · rw [tx_add]
      exact ⟨by rw [tx_len, sizeLine_eq, List.length_append]; exact Nat.le_trans hl (by decide), C.str sat h⟩
theorem add_s (hl : x.length + y.length ≤ 10000000) (h : Φ (.str (x ++ y)) S) : WPBin γ .Add (.str x) (.str y) S Φ Ξ := fun N v w r q F hp tk sat Q E C => by
  refine VR.strE r ?_
  · intro t h1 h2; refine VR.strE q ?_
    · intro t' h3 h4; exact PySem.P.add_str (wp_add sat C hl h (.str _ _ h1 h2) (.str _ _ h3 h4))
theorem iadd_s (hl : x.length + y.length ≤ 10000000) (h : Φ (.str (x ++ y)) S) : WPInp γ .Add (.str x) (.str y) S Φ Ξ := fun N v w r q F hp tk sat Q E C => by
  refine VR.strE r ?_
  · intro t h1 h2; refine VR.strE q ?_
    · intro t' h3 h4; exact PySem.P.iadd_str (wp_add sat C hl h (.str _ _ h1 h2) (.str _ _ h3 h4))
noncomputable def isN : D → Option Bool
  | .none => some true
  | .bool _ | .int _ | .str _ | .tup _ | .lst _ | .nest _ | .keys _ => some false
  | _ => none
theorem is_none {c : Bool} (hc : isN d = some c) (h : Φ (.bool c) S) : WPCmp γ .Is d .none S Φ Ξ := fun N v w r q F hp tk sat Q E C => by
  (first | (refine VR.intE q ?_; intro _) | (refine VR.strE q ?_; intro _ _ _) | refine VR.boolE q ?_ | refine VR.noneE q ?_ | refine VR.refE q ?_ | refine VR.valE q ?_ | (refine VR.strxE q ?_; intro _) | cases q)
  have go : Q (.bool c) (γ.mk' hp tk) := C.go sat (.bool _) h
  cases r <;> cases hc <;> first | exact is_none_none go | exact is_ref_none go | exact PyProof.Rows.is_none_ne (by intro x; cases x) go
theorem isnot_none {c : Bool} (hc : isN d = some c) (h : Φ (.bool (!c)) S) : WPCmp γ .IsNot d .none S Φ Ξ := fun N v w r q F hp tk sat Q E C => by
  (first | (refine VR.intE q ?_; intro _) | (refine VR.strE q ?_; intro _ _ _) | refine VR.boolE q ?_ | refine VR.noneE q ?_ | refine VR.refE q ?_ | refine VR.valE q ?_ | (refine VR.strxE q ?_; intro _) | cases q)
  have go : Q (.bool (!c)) (γ.mk' hp tk) := C.go sat (.bool _) h
  cases r <;> cases hc <;> first | exact wpAny_isNot_self (by decide) go | exact PyProof.Rows.isnot_none_ne (by intro x; cases x) go
theorem wp_tail {prog : Program} {w : World} {A : Around} {E : Value → Shared → Prop} {s : Shared} {o i : Value} {T id : String} {Q : Value → Shared → Prop} (hT : s.TypeIs o T)
    (hl : typeLookup (.type T) "__getitem__" = pure (some (.builtin id))) (h : wpAny (model prog w) A (getItem o i) Q E s) : wpAny (model prog w) A (subscriptTail value slice o i) Q E s := by
  have hs : ∃ ops, subscripted slice false o i = operate ops (getItem o i) := by
    cases slice with
    | Slice _ _ st _ => cases st <;> exact ⟨_, rfl⟩
    | _ => exact ⟨_, rfl⟩
  obtain ⟨ops, hs⟩ := hs
  unfold subscriptTail
  refine wpAny_bind ?_
  rw [getitemInPython_of_ne hT.not_modules]
  refine wpAny_bind (wpAny_specialOf hT hl ?_)
  have fin : wpAny (model prog w) A (subscripted slice false o i) (fun r s₃ => wpAny (model prog w) A (letTemporaryGo value o r >>= fun _ => pure r) Q E s₃) E s := by
    rw [hs]
    exact wpAny_operating (wpAny_mono h (fun r s₃ h₃ => wpAny_bind (wpAny_letTemporaryGo (wpAny_pure h₃))) fun _ _ x => x)
  first
    | exact wpAny_pure (wpAny_bind fin)
    | exact wpAny_bind (wpAny_pure (wpAny_bind fin))
    | exact wpAny_bind fin
theorem VR.tyLst {N : Fz} {h : Heap} {v : Value} (r : VR N v (.lst ds)) (hN : ∀ p ∈ N.l, h.get? p.1 = some p.2) : ∃ a vs, v = .ref a ∧ h.IsList a vs.toArray ∧ VRs N vs ds := by
  refine VR.lstE r ?_
  · intro _ _ _ _ ho hc hdd hd rs; exact ⟨_, _, rfl, ⟨_, hN _ ho, hc, _, hd⟩, rs⟩
theorem VR.tyTup {N : Fz} {h : Heap} {v : Value} (r : VR N v (.tup ds)) (hN : ∀ p ∈ N.l, h.get? p.1 = some p.2) : ∃ a vs, v = .ref a ∧ h.IsTuple a vs.toArray ∧ VRs N vs ds := by
  refine VR.tupE r ?_
  · intro _ _ _ _ ho hc hd rs; exact ⟨_, _, rfl, ⟨_, hN _ ho, hc, _, hd⟩, rs⟩
theorem Sat.fros {hp : Heap} {tk : Nat} (sat : Sat γ N F S hp tk) : ∀ p ∈ N.l, hp.get? p.1 = some p.2 := fun p h => sat.fro h
theorem seqIx {n : Nat} {i : Int} (h1 : -(n : Int) ≤ i) (h2 : i < n) : seqIndex? i n = some (if i < 0 then i + n else i).toNat := by
  unfold seqIndex?
  split <;> simp_all <;> omega
theorem get_s (h0 : 0 ≤ i) (h1 : i < x.length) (hl : x.length ≤ 10000000) (h : Φ (.str [x.getD i.toNat 0]) S) : WPGet γ value slice (.str x) (.int i) S Φ Ξ := fun N v w r q F hp tk sat Q E C => by
  refine VR.strE r ?_
  intro t1 ht1 ht2
  refine VR.intE q ?_
  intro t2
  have e : Txt.item (tx x) i = tx [x.getD i.toNat 0] := by
    unfold Txt.item Txt.charAt
    rw [tx_len, seqIx (by omega) h1]
    have : ¬ i < 0 := by omega
    simp [this, tx]
  have z : ItemOn (model pw γ.w) γ.A E (.str (tx x) t1) (.int i t2) Q (γ.mk' hp tk) := SB.item (x := tx x) (i := i) (by unfold fitsSsize; simp; omega) (charAt_isSome (by rw [tx_len]; omega) (by rw [tx_len]; exact h1)) (by rw [e]; exact C.str sat h)
  refine absP fun _ kk => ?_
  obtain ⟨T, id, z1, z2, z3⟩ := z
  refine kk ?_
  clear kk
  exact wp_tail z2 z1 z3
theorem get_l (h0 : 0 ≤ i) (hi : ds[i.toNat]? = some d) (hl : i < 10000000) (h : Φ d S) : WPGet γ value slice (.lst ds) (.int i) S Φ Ξ := fun N v w r q F hp tk sat Q E C => by
  refine absP fun _ kk => ?_
  obtain ⟨a, vs, rfl, il, rs⟩ := r.tyLst sat.fros
  refine kk ?_
  clear kk
  (first | (refine VR.intE q ?_; intro _) | (refine VR.strE q ?_; intro _ _ _) | refine VR.boolE q ?_ | refine VR.noneE q ?_ | refine VR.refE q ?_ | refine VR.valE q ?_ | (refine VR.strxE q ?_; intro _) | cases q)
  obtain ⟨x, hx, rx⟩ := rs.get' hi
  exact wp_tail il.typeIs PySem.F.slot_list_getitem.lookup (wpAny_getItem_list il h0 (by omega) hx (C.go sat rx h))
theorem get_ln (h0 : i < 0) (h1 : -(ds.length : Int) ≤ i) (hi : ds[(i + ds.length).toNat]? = some d) (hl : -10000000 < i) (h : Φ d S) : WPGet γ value slice (.lst ds) (.int i) S Φ Ξ := fun N v w r q F hp tk sat Q E C => by
  refine absP fun _ kk => ?_
  obtain ⟨a, vs, rfl, il, rs⟩ := r.tyLst sat.fros
  refine kk ?_
  clear kk
  (first | (refine VR.intE q ?_; intro _) | (refine VR.strE q ?_; intro _ _ _) | refine VR.boolE q ?_ | refine VR.noneE q ?_ | refine VR.refE q ?_ | refine VR.valE q ?_ | (refine VR.strxE q ?_; intro _) | cases q)
  obtain ⟨x, hx, rx⟩ := rs.get' hi
  have e : vs.toArray.size = ds.length := by simp [rs.length]
  exact wp_tail il.typeIs PySem.F.slot_list_getitem.lookup (wpAny_getItem_list_neg il h0 (by rw [e]; exact h1) (by omega) (by rw [e]; exact hx) (C.go sat rx h))
theorem get_t (h1 : -(ds.length : Int) ≤ i) (h2 : i < ds.length) (hi : ds[(if i < 0 then i + ds.length else i).toNat]? = some d) (hl : ds.length < 10000000) (h : Φ d S) : WPGet γ value slice (.tup ds) (.int i) S Φ Ξ := fun N v w r q F hp tk sat Q E C => by
  refine absP fun _ kk => ?_
  obtain ⟨a, vs, rfl, il, rs⟩ := r.tyTup sat.fros
  refine kk ?_
  clear kk
  (first | (refine VR.intE q ?_; intro _) | (refine VR.strE q ?_; intro _ _ _) | refine VR.boolE q ?_ | refine VR.noneE q ?_ | refine VR.refE q ?_ | refine VR.valE q ?_ | (refine VR.strxE q ?_; intro _) | cases q)
  obtain ⟨x, hx, rx⟩ := rs.get' hi
  have e : vs.toArray.size = ds.length := by simp [rs.length]
  exact wp_tail (T := "tuple") (let ⟨o, ho, hc, _⟩ := il; ⟨o, ho, hc⟩) PySem.F.slot_tuple_getitem.lookup (PyProof.Rows.getItem_tuple (let ⟨o, ho, hc, n, hd⟩ := il; ⟨o, ho, hc, n, hd⟩) (by omega) (by omega) (by rw [e]; exact seqIx h1 h2) hx (C.go sat rx h))
theorem get_o {c : Addr} (hc : (c, .list ds) ∈ S.κ) (h0 : 0 ≤ i) (hi : ds[i.toNat]? = some d) (hl : i < 10000000) (h : Φ d S) : WPGet γ value slice (.ref c) (.int i) S Φ Ξ := fun N v w r q F hp tk sat Q E C => by
  refine absP fun _ kk => ?_
  obtain ⟨o, ho, vs, n, rfl, rs⟩ := sat.cel hc
  refine kk ?_
  clear kk
  (first | (refine VR.intE r ?_; intro _) | (refine VR.strE r ?_; intro _ _ _) | refine VR.boolE r ?_ | refine VR.noneE r ?_ | refine VR.refE r ?_ | refine VR.valE r ?_ | (refine VR.strxE r ?_; intro _) | cases r)
  (first | (refine VR.intE q ?_; intro _) | (refine VR.strE q ?_; intro _ _ _) | refine VR.boolE q ?_ | refine VR.noneE q ?_ | refine VR.refE q ?_ | refine VR.valE q ?_ | (refine VR.strxE q ?_; intro _) | cases q)
  obtain ⟨x, hx, rx⟩ := rs.get' hi
  have il : hp.IsList c vs.toArray := ⟨_, ho, rfl, n, rfl⟩
  exact wp_tail (T := "list") (s := γ.mk' hp tk) il.typeIs PySem.F.slot_list_getitem.lookup (wpAny_getItem_list il h0 (by omega) hx (C.go sat rx h))

noncomputable def WPP (γ : Fx) (e : Option Expr) (S : St) (Φ : Option Int → St → Prop) (Ξ : Exc → Cells → Prop) : Prop := WP γ (evalPart e γ.env) S (fun _ v p => IsPart v p) Φ Ξ
theorem P_none {Φ : Option Int → St → Prop} (h : Φ none S) : WPP γ none S Φ Ξ := fun N F hp tk sat Q E C => by
  show wpAny _ _ (pure Value.none) _ _ _
  exact wpAny_pure (C.go sat .none h)
theorem P_some {e : Expr} {Φ : Option Int → St → Prop} (h : WPE γ e S (fun d S₁ => ∃ i, d = .int i ∧ Φ (some i) S₁) Ξ) : WPP γ (some e) S Φ Ξ := fun N F hp tk sat Q E C => by
  refine h N F hp tk sat _ _ (C.then fun N₁ v₁ d₁ S₁ h₁ tk₁ le₁ sat₁ r₁ k₁ => ?_)
  obtain ⟨i, rfl, k⟩ := k₁
  (first | (refine VR.intE r₁ ?_; intro _) | (refine VR.strE r₁ ?_; intro _ _ _) | refine VR.boolE r₁ ?_ | refine VR.noneE r₁ ?_ | refine VR.refE r₁ ?_ | refine VR.valE r₁ ?_ | (refine VR.strxE r₁ ?_; intro _) | cases r₁)
  exact C.ok N₁ _ _ S₁ h₁ tk₁ le₁ sat₁ (.int _ _) k
noncomputable def sliceW (x : Wd) (a b : Option Int) : Wd := (Txt.slice (tx x) a b).cps.toList
theorem sliceW_tx (x : Wd) (a b : Option Int) : Txt.slice (tx x) a b = tx (sliceW x a b) := rfl
noncomputable def pickD {α : Type} (ds : List α) (lo hi st : Option Int) : List α :=
  (sliceRange (sliceBounds lo hi st ds.length).1 (sliceBounds lo hi st ds.length).2.1 (sliceBounds lo hi st ds.length).2.2).filterMap (ds[·]?)
theorem VRs.places {vs : List Value} {ds : List D} (h : VRs N vs ds) : ∀ js : List Nat, VRs N (js.filterMap (vs[·]?)) (js.filterMap (ds[·]?))
  | [] => .nil
  | j :: js => by
    have ih := VRs.places h js
    cases hn : ds[j]? with
    | some n =>
      obtain ⟨v, hv, r⟩ := h.get hn
      simp only [List.filterMap_cons, hn, hv]
      exact .cons r ih
    | none =>
      have hv : vs[j]? = none := by
        rw [List.getElem?_eq_none_iff] at hn ⊢
        rw [h.length]; exact hn
      simp only [List.filterMap_cons, hn, hv]
      exact ih
theorem VRs.pick {vs : List Value} {ds : List D} (h : VRs N vs ds) (lo hi st : Option Int) : VRs N (slicePick vs.toArray lo hi st).toList (pickD ds lo hi st) := by
  have e : (slicePick vs.toArray lo hi st).toList = (sliceRange (sliceBounds lo hi st ds.length).1 (sliceBounds lo hi st ds.length).2.1 (sliceBounds lo hi st ds.length).2.2).filterMap (vs[·]?) := by
    simp [slicePick, h.length]
  rw [e]
  exact h.places _
noncomputable def slD : D → Option Int → Option Int → Option Int → Option D
  | .str x, a, b, none => some (.str (sliceW x a b))
  | .lst ds, a, b, c => some (.lst (pickD ds a b c))
  | _, _, _, _ => none
noncomputable def sizeD : D → Nat
  | .str x => x.length
  | .lst ds => ds.length
  | _ => 0
@[elab_as_elim] theorem partE {motive : Value → Option Int → Prop} {v : Value} {p : Option Int} (z : IsPart v p) (h : ∀ q : Option (Int × Tok), motive (partValue q) (q.map (·.1))) : motive v p := by
  cases z with
  | none => exact h none
  | int i t => exact h (some (i, t))
theorem E_slice {l : Expr} {lo hi st : Option Expr} {p : Pos} (h : WPE γ l S (fun d S₁ => WPP γ lo S₁ (fun a S₂ => WPP γ hi S₂ (fun b S₃ => WPP γ st S₃ (fun c S₄ => ∃ d', slD d a b c = some d' ∧ sizeD d ≤ 10000000 ∧ c ≠ some 0 ∧ Φ d' S₄) Ξ) Ξ) Ξ) Ξ) :
    WPE γ (.Subscript l (.Slice lo hi st p) pos) S Φ Ξ := fun N F hp tk sat Q E C => by
  refine Subscript_ (h N F hp tk sat _ E (C.then fun N₁ v₁ d₁ S₁ h₁ tk₁ le₁ sat₁ r₁ k₁ => ?_))
  refine wpAny_Slice (k₁ N₁ F h₁ tk₁ sat₁ _ E ((C.mono le₁).then fun N₂ v₂ d₂ S₂ h₂ tk₂ le₂ sat₂ r₂ k₂ => ?_))
  refine k₂ N₂ F h₂ tk₂ sat₂ _ E ((C.mono (le₁.trans le₂)).then fun N₃ v₃ d₃ S₃ h₃ tk₃ le₃ sat₃ r₃ k₃ => ?_)
  refine k₃ N₃ F h₃ tk₃ sat₃ _ E ((C.mono ((le₁.trans le₂).trans le₃)).then fun N₄ v₄ d₄ S₄ h₄ tk₄ le₄ sat₄ r₄ k₄ => ?_)
  refine absP fun _ kk => ?_
  obtain ⟨d', hd, hz, hc, k⟩ := k₄
  refine kk ?_
  clear kk
  have le := ((le₁.trans le₂).trans le₃).trans le₄
  have r := VR.mono ((le₂.trans le₃).trans le₄) r₁
  have sat₅ := sat₄.push { cls := .type "slice", data := .fields #[v₂, v₃, v₄] }
  refine absP fun _ kk => ?_
  cases d₁ <;> first | cases hd | skip
  · rename_i x
    cases d₄ with
    | some _ => cases hd
    | none =>
      cases hd
      refine kk ?_
      clear kk
      refine VR.strE r ?_
      intro t1 ht1 ht2
      (first | (refine VR.intE r₄ ?_; intro _) | (refine VR.strE r₄ ?_; intro _ _ _) | refine VR.boolE r₄ ?_ | refine VR.noneE r₄ ?_ | refine VR.refE r₄ ?_ | refine VR.valE r₄ ?_ | (refine VR.strxE r₄ ?_; intro _) | cases r₄)
      revert k sat₅
      refine partE r₂ fun q1 => partE r₃ fun q2 => ?_
      intro k sat₅
      refine wp_tail (typeIs_str _ _ _) PySem.F.slot_str_getitem.lookup (wpAny_getItem_str_slice (l := q1) (u := q2) (st := none) ⟨_, Heap.get?_push_size _ rfl, rfl, rfl⟩ rfl ?_)
      have e := sliceW_tx x (q1.map (·.1)) (q2.map (·.1))
      have hle := Txt.slice_le (tx x) (q1.map (·.1)) (q2.map (·.1))
      unfold Txt.slice at e hle
      by_cases hc : ((1 : Int) == 1 && (Builtin.Str.strSliceIndices (q1.map (·.1)) (q2.map (·.1)) 1 (tx x).length).length == (tx x).length) = true
      · rw [if_pos hc] at e
        have e' : x = sliceW x (q1.map (·.1)) (q2.map (·.1)) := tx_inj e
        rw [← e'] at k
        have z : sliceMade (tx x) t1 q1 q2 none = Made.val (.str (tx x) t1) := if_pos hc
        rw [z]
        exact C.ok N₄ _ _ S₄ _ tk₄ le sat₅ (.str _ _ ht1 ht2) k
      · rw [if_neg hc] at e hle
        have z : sliceMade (tx x) t1 q1 q2 none = Made.str (tx (sliceW x (q1.map (·.1)) (q2.map (·.1)))) := (if_neg hc).trans (congrArg Made.str e)
        rw [z]
        refine ⟨?_, C.ok _ _ _ S₄ _ _ (le.trans (sat₅.leUp (Nat.le_succ _))) (sat₅.upTo (Nat.le_succ _)) (VR.fresh sat₅) k⟩
        rw [← e]
        exact Nat.le_trans hle (by rw [tx_len, sizeLine_eq]; exact Nat.le_trans hz (by decide))
  · rename_i ds
    refine kk ?_
    clear kk
    refine absP fun _ kk => ?_
    obtain ⟨a, vs, rfl, il, rs⟩ := r.tyLst sat₅.fros
    refine kk ?_
    clear kk
    have e : vs.toArray.size = ds.length := by simp [rs.length]
    refine wp_tail (Heap.IsList.typeIs (s := γ.mk' _ tk₄) il) PySem.F.slot_list_getitem.lookup (wpAny_getItem_list_slice il (Heap.IsSliceOf.new ..) r₂ r₃ r₄ hc ?_ (by rw [e, sizeLine_eq]; exact Nat.le_trans hz (by decide)))
    exact C.ok _ _ _ S₄ _ tk₄ (le.trans Le.cons) (sat₅.pushN { cls := .type "list", data := .seq (slicePick vs.toArray d₂ d₃ d₄) }) (.lst (n := 0) (vs := (slicePick vs.toArray d₂ d₃ d₄).toList) (.head _) rfl rfl rfl ((rs.pick _ _ _).mono Le.cons)) k
end
end

section
-- P3
noncomputable def WPC (γ : Fx) (f : Value) (ds : List D) (S : St) (Φ : D → St → Prop) (Ξ : Exc → Cells → Prop) : Prop := ∀ N vs, VRs N vs ds → WPN γ N (call f vs) S RV Φ Ξ
noncomputable def Hand (γ : Fx) (d : D) (S : St) (T : String) : Prop := ∀ N v F hp tk, VR N v d → Sat γ N F S hp tk → (γ.mk' hp tk).TypeIs v T ∧ ∀ a, v = .ref a → ∃ ob, hp.get? a = some ob ∧ ob.dict = none
theorem hand_str {γ : Fx} {x : Wd} {S : St} : Hand γ (.str x) S "str" := fun N v F hp tk r sat => by
  (first | (refine VR.intE r ?_; intro _) | (refine VR.strE r ?_; intro _ _ _) | refine VR.boolE r ?_ | refine VR.noneE r ?_ | refine VR.refE r ?_ | refine VR.valE r ?_ | (refine VR.strxE r ?_; intro _) | cases r); exact ⟨rfl, fun a e => by cases e⟩
theorem hand_lst {γ : Fx} {ds : List D} {S : St} : Hand γ (.lst ds) S "list" := fun N v F hp tk r sat => by
  refine VR.lstE r ?_
  · intro _ _ _ _ ho hc hdd hd rs; exact ⟨⟨_, sat.fro ho, hc⟩, fun a e => by cases e; exact ⟨_, sat.fro ho, hdd⟩⟩
theorem hand_own {γ : Fx} {a : Addr} {ds : List D} {S : St} (h : (a, .list ds) ∈ S.κ) : Hand γ (.ref a) S "list" := fun N v F hp tk r sat => by
  (first | (refine VR.intE r ?_; intro _) | (refine VR.strE r ?_; intro _ _ _) | refine VR.boolE r ?_ | refine VR.noneE r ?_ | refine VR.refE r ?_ | refine VR.valE r ?_ | (refine VR.strxE r ?_; intro _) | cases r)
  refine absP fun _ kk => ?_
  obtain ⟨o, ho, vs, n, rfl, rs⟩ := sat.cel h
  refine kk ?_
  clear kk
  exact ⟨⟨_, ho, rfl⟩, fun a e => by cases e; exact ⟨_, ho, rfl⟩⟩
section
variable {γ : Fx} {N : Fz} {F : Rw} {S : St} {Ξ : Exc → Cells → Prop} {Φ : D → St → Prop} {Ψ : Bool → St → Prop} {a b i : Int} {x y : Wd} {name : PySem.Str} {o e : Expr} {args es : List Expr} {ds : List D} {d : D} {pos apos p1 : Pos}
theorem E_callB {id : String} (hx : (name, none) ∈ glob) (hb : bootBuiltins name = some (.builtin id)) (hk : γ.env.kindOf name = some .globalImplicit)
    (h : WPL γ (backTo pos (starEach (e :: es) γ.env)) S (fun ds S₁ => WPC γ (.builtin id) ds S₁ Φ Ξ) Ξ)
    (he : starEach (e :: es) γ.env = (false, eval e γ.env) :: starEach es γ.env := by rfl) (hp : (backTo pos (starEach es γ.env)).any (·.1) = false := by rfl)
    (hn : name ≠ "__name__" := by decide) (hd : (name == ("__debug__" : PySem.Str)) = false := by decide) : WPE γ (.Call (.Name name p1) (e :: es) [] pos) S Φ Ξ := fun N F hp' tk sat Q E C => by
  refine wpAny_Call_NameR (E_built (v := .builtin id) hx hb hn hk (Φ := fun d S₁ => d = .val (.builtin id) ∧ S₁ = S) ⟨rfl, rfl⟩ hd N F hp' tk sat _ E (C.then fun N₁ v₁ d₁ S₁ h₁ tk₁ le₁ sat₁ r₁ k₁ => ?_))
  obtain ⟨rfl, rfl⟩ := k₁
  (first | (refine VR.intE r₁ ?_; intro _) | (refine VR.strE r₁ ?_; intro _ _ _) | refine VR.boolE r₁ ?_ | refine VR.noneE r₁ ?_ | refine VR.refE r₁ ?_ | refine VR.valE r₁ ?_ | (refine VR.strxE r₁ ?_; intro _) | cases r₁)
  exact PyProof.Rows.callWith_builtin1 (h N₁ F h₁ tk₁ sat₁ _ E ((C.mono le₁).then fun N₂ vs ds S₂ h₂ tk₂ le₂ sat₂ r₂ k₂ => k₂ N₂ vs r₂ F h₂ tk₂ sat₂ Q E (C.mono (le₁.trans le₂)))) he hp
theorem E_callT {id : String} (hx : (name, none) ∈ glob) (hb : bootBuiltins name = some (.type id)) (hk : γ.env.kindOf name = some .globalImplicit)
    (h : WPL γ (backTo pos (starEach (e :: es) γ.env)) S (fun ds S₁ => WPC γ (.type id) ds S₁ Φ Ξ) Ξ)
    (he : starEach (e :: es) γ.env = (false, eval e γ.env) :: starEach es γ.env := by rfl) (hp : (backTo pos (starEach es γ.env)).any (·.1) = false := by rfl)
    (hn : name ≠ "__name__" := by decide) (hd : (name == ("__debug__" : PySem.Str)) = false := by decide) : WPE γ (.Call (.Name name p1) (e :: es) [] pos) S Φ Ξ := fun N F hp' tk sat Q E C => by
  refine wpAny_Call_NameR (E_built (v := .type id) hx hb hn hk (Φ := fun d S₁ => d = .val (.type id) ∧ S₁ = S) ⟨rfl, rfl⟩ hd N F hp' tk sat _ E (C.then fun N₁ v₁ d₁ S₁ h₁ tk₁ le₁ sat₁ r₁ k₁ => ?_))
  obtain ⟨rfl, rfl⟩ := k₁
  (first | (refine VR.intE r₁ ?_; intro _) | (refine VR.strE r₁ ?_; intro _ _ _) | refine VR.boolE r₁ ?_ | refine VR.noneE r₁ ?_ | refine VR.refE r₁ ?_ | refine VR.valE r₁ ?_ | (refine VR.strxE r₁ ?_; intro _) | cases r₁)
  have h' := h N₁ F h₁ tk₁ sat₁ _ E ((C.mono le₁).then fun N₂ vs ds S₂ h₂ tk₂ le₂ sat₂ r₂ k₂ => k₂ N₂ vs r₂ F h₂ tk₂ sat₂ Q E (C.mono (le₁.trans le₂)))
  rw [he] at h' ⊢
  exact PyProof.Rows.callWith_type (by show (false || (backTo pos (starEach es γ.env)).any (·.1)) = false; rw [hp]; rfl) (Calls.evalArgs_plain h')
theorem E_meth {T id : String} (slot : Slot T name id) (attrs : PlainAttrs T) (ty : typeOf (.builtin id) = pure (.type "method_descriptor"))
    (h : WPE γ o S (fun d S₁ => Hand γ d S₁ T ∧ WPL γ (backTo pos (starEach (e :: es) γ.env)) S₁ (fun ds S₂ => WPC γ (.builtin id) (d :: ds) S₂ Φ Ξ) Ξ) Ξ)
    (hbase : attributeBase o name γ.env (eval o γ.env) = eval o γ.env := by rfl)
    (hok : ((((backTo pos (starEach (e :: es) γ.env)).all fun x => !x.fst) && (backToKw pos (keywordEach [] γ.env)).all fun x => x.fst.isSome) && decide (((e :: es).length + ([] : List Keyword).length + if ([] : List Keyword).isEmpty = true then 0 else 1) < 30)) = true := by rfl)
    (hline : (apos.endLine == pos.line) = true := by rfl) (he : starEach (e :: es) γ.env = (false, eval e γ.env) :: starEach es γ.env := by rfl) (hp : (backTo pos (starEach (e :: es) γ.env)).any (·.1) = false := by rfl) :
    WPE γ (.Call (.Attribute o name apos) (e :: es) [] pos) S Φ Ξ := fun N F hp' tk sat Q E C => by
  refine wpAny_Call_method_lateS hbase hok hline (h N F hp' tk sat _ E (C.then fun N₁ v₁ d₁ S₁ h₁ tk₁ le₁ sat₁ r₁ k₁ => ?_))
  obtain ⟨kT, k₁⟩ := k₁
  obtain ⟨z1, z2⟩ := kT N₁ v₁ F h₁ tk₁ r₁ sat₁
  refine ⟨T, id, attrs, slot, ty, z1, z2, Calls.callWith_builtin hp ?_⟩
  have h' := k₁ N₁ F h₁ tk₁ sat₁ _ E ((C.mono le₁).then (Q' := fun vs s' => wpAny (md γ.w) γ.A (call (.builtin id) (v₁ :: vs)) Q E s') fun N₂ vs ds S₂ h₂ tk₂ le₂ sat₂ r₂ k₂ => k₂ N₂ (v₁ :: vs) (.cons (VR.mono le₂ r₁) r₂) F h₂ tk₂ sat₂ Q E (C.mono (le₁.trans le₂)))
  rw [he] at h' ⊢
  exact Calls.evalArgs_plain h'
theorem E_meth0 {T id : String} (slot : Slot T name id) (attrs : PlainAttrs T) (ty : typeOf (.builtin id) = pure (.type "method_descriptor"))
    (h : WPE γ o S (fun d S₁ => Hand γ d S₁ T ∧ WPC γ (.builtin id) [d] S₁ Φ Ξ) Ξ)
    (hbase : attributeBase o name γ.env (eval o γ.env) = eval o γ.env := by rfl) (hline : (apos.endLine == pos.line) = true := by rfl) :
    WPE γ (.Call (.Attribute o name apos) [] [] pos) S Φ Ξ := fun N F hp' tk sat Q E C => by
  refine wpAny_Call_method_lateS hbase rfl hline (h N F hp' tk sat _ E (C.then fun N₁ v₁ d₁ S₁ h₁ tk₁ le₁ sat₁ r₁ k₁ => ?_))
  obtain ⟨kT, k₁⟩ := k₁
  obtain ⟨z1, z2⟩ := kT N₁ v₁ F h₁ tk₁ r₁ sat₁
  exact ⟨T, id, attrs, slot, ty, z1, z2, Calls.callWith_builtin rfl (PyProof.Rows.evalArgs_none (k₁ N₁ [v₁] (.cons r₁ .nil) F h₁ tk₁ sat₁ Q E (C.mono le₁)))⟩
theorem c_len_s (hl : x.length ≤ 10000000) (h : Φ (.int x.length) S) : WPC γ (.builtin "len") [.str x] S Φ Ξ := fun N vs rs F hp tk sat Q E C => by
  refine VRs.consE rs ?_
  · intro _ _ r rs
    (first | refine VRs.nilE rs ?_ | cases rs); (first | (refine VR.intE r ?_; intro _) | (refine VR.strE r ?_; intro _ _ _) | refine VR.boolE r ?_ | refine VR.noneE r ?_ | refine VR.refE r ?_ | refine VR.valE r ?_ | (refine VR.strxE r ?_; intro _) | cases r)
    refine len_str (by rw [tx_len]; omega) ?_
    rw [tx_len]
    exact C.go sat (.int _ _) h
theorem c_len_l (hl : ds.length ≤ 10000000) (h : Φ (.int ds.length) S) : WPC γ (.builtin "len") [.lst ds] S Φ Ξ := fun N vs rs F hp tk sat Q E C => by
  refine VRs.consE rs ?_
  · intro _ _ r rs
    (first | refine VRs.nilE rs ?_ | cases rs)
    refine absP fun _ kk => ?_
    obtain ⟨a, vs, rfl, il, rs⟩ := r.tyLst sat.fros
    refine kk ?_
    clear kk
    have e : vs.toArray.size = ds.length := by simp [rs.length]
    refine len_list il (by rw [e]; omega) ?_
    rw [e]
    exact C.go sat (.int _ _) h
theorem c_len_t (hl : ds.length ≤ 10000000) (h : Φ (.int ds.length) S) : WPC γ (.builtin "len") [.tup ds] S Φ Ξ := fun N vs rs F hp tk sat Q E C => by
  refine VRs.consE rs ?_
  · intro _ _ r rs
    (first | refine VRs.nilE rs ?_ | cases rs)
    refine absP fun _ kk => ?_
    obtain ⟨a, vs, rfl, il, rs⟩ := r.tyTup sat.fros
    refine kk ?_
    clear kk
    have e : vs.toArray.size = ds.length := by simp [rs.length]
    refine len_tuple il (by rw [e]; omega) ?_
    rw [e]
    exact C.go sat (.int _ _) h
theorem c_len_o {c : Addr} (hc : (c, .list ds) ∈ S.κ) (hl : ds.length ≤ 10000000) (h : Φ (.int ds.length) S) : WPC γ (.builtin "len") [.ref c] S Φ Ξ := fun N vs rs F hp tk sat Q E C => by
  refine VRs.consE rs ?_
  · intro _ _ r rs
    (first | refine VRs.nilE rs ?_ | cases rs); (first | (refine VR.intE r ?_; intro _) | (refine VR.strE r ?_; intro _ _ _) | refine VR.boolE r ?_ | refine VR.noneE r ?_ | refine VR.refE r ?_ | refine VR.valE r ?_ | (refine VR.strxE r ?_; intro _) | cases r)
    refine absP fun _ kk => ?_
    obtain ⟨o, ho, vs, n, rfl, rs⟩ := sat.cel hc
    refine kk ?_
    clear kk
    have il : hp.IsList c vs.toArray := ⟨_, ho, rfl, n, rfl⟩
    have e : vs.toArray.size = ds.length := by simp [rs.length]
    refine len_list il (by rw [e]; omega) ?_
    rw [e]
    exact C.go sat (.int _ _) h
theorem c_rng1 (h : Φ (.rng 0 a 1) S) : WPC γ (.type "range") [.int a] S Φ Ξ := fun N vs rs F hp tk sat Q E C => by
  refine VRs.consE rs ?_
  · intro _ _ r rs
    (first | refine VRs.nilE rs ?_ | cases rs)
    refine VR.intE r ?_
    · intro t; exact call_range_1 (C.ok _ _ _ S _ _ Le.cons ((sat.pushN { cls := .type "range", data := .fields #[.int 0 tk, .int a t, .int 1 (tk + 1)] }).tkTo (Nat.le_add_right _ 2)) (.rng (.head _)) h)
theorem c_rng3 {c : Int} (hc : c ≠ 0) (hq : Builtin.divisionGoesByPylong (b - a) c = false) (h : Φ (.rng a b c) S) : WPC γ (.type "range") [.int a, .int b, .int c] S Φ Ξ := fun N vs rs F hp tk sat Q E C => by
  refine VRs.consE rs ?_
  · intro _ _ r1 rs
    refine VRs.consE rs ?_
    · intro _ _ r2 rs
      refine VRs.consE rs ?_
      · intro _ _ r3 rs
        (first | refine VRs.nilE rs ?_ | cases rs)
        refine VR.intE r1 ?_
        · intro t1; refine VR.intE r2 ?_
          · intro t2; refine VR.intE r3 ?_
            · intro t3; exact call_range_3 hc (C.ok _ _ _ S _ _ Le.cons (sat.pushN { cls := .type "range", data := .fields #[.int a t1, .int b t2, .int c t3] }) (.rng (.head _)) h) (.inl hq)
noncomputable def startsW (x y : Wd) : Bool := Txt.startswith (tx x) (tx y)
noncomputable def lowerW (x : Wd) : Wd := (Txt.lower (tx x)).cps.toList
theorem m_starts (h : Φ (.bool (startsW x y)) S) : WPC γ (.builtin "str.startswith") [.str x, .str y] S Φ Ξ := fun N vs rs F hp tk sat Q E C => by
  refine VRs.consE rs ?_
  · intro _ _ r1 rs
    refine VRs.consE rs ?_
    · intro _ _ r2 rs
      (first | refine VRs.nilE rs ?_ | cases rs); (first | (refine VR.intE r1 ?_; intro _) | (refine VR.strE r1 ?_; intro _ _ _) | refine VR.boolE r1 ?_ | refine VR.noneE r1 ?_ | refine VR.refE r1 ?_ | refine VR.valE r1 ?_ | (refine VR.strxE r1 ?_; intro _) | cases r1); (first | (refine VR.intE r2 ?_; intro _) | (refine VR.strE r2 ?_; intro _ _ _) | refine VR.boolE r2 ?_ | refine VR.noneE r2 ?_ | refine VR.refE r2 ?_ | refine VR.valE r2 ?_ | (refine VR.strxE r2 ?_; intro _) | cases r2)
      exact SC.startswith (C.go sat (.bool _) h)
theorem m_lower (hl : (lowerW x).length ≤ 10000000) (h : Φ (.str (lowerW x)) S) : WPC γ (.builtin "str.lower") [.str x] S Φ Ξ := fun N vs rs F hp tk sat Q E C => by
  refine VRs.consE rs ?_
  · intro _ _ r1 rs
    (first | refine VRs.nilE rs ?_ | cases rs); (first | (refine VR.intE r1 ?_; intro _) | (refine VR.strE r1 ?_; intro _ _ _) | refine VR.boolE r1 ?_ | refine VR.noneE r1 ?_ | refine VR.refE r1 ?_ | refine VR.valE r1 ?_ | (refine VR.strxE r1 ?_; intro _) | cases r1)
    refine SC.lower ?_ (C.str sat h)
    have e : (Txt.lower (tx x)).length = (lowerW x).length := by unfold lowerW; simp [PySem.Str.length]
    rw [e]
    unfold Builtin.Str.tooLong
    simp [sizeLine_eq]
    omega
theorem m_find (h : Φ (.int (Txt.find (tx x) (tx y))) S) : WPC γ (.builtin "str.find") [.str x, .str y] S Φ Ξ := fun N vs rs F hp tk sat Q E C => by
  refine VRs.consE rs ?_
  · intro _ _ r1 rs
    refine VRs.consE rs ?_
    · intro _ _ r2 rs
      (first | refine VRs.nilE rs ?_ | cases rs); (first | (refine VR.intE r1 ?_; intro _) | (refine VR.strE r1 ?_; intro _ _ _) | refine VR.boolE r1 ?_ | refine VR.noneE r1 ?_ | refine VR.refE r1 ?_ | refine VR.valE r1 ?_ | (refine VR.strxE r1 ?_; intro _) | cases r1); (first | (refine VR.intE r2 ?_; intro _) | (refine VR.strE r2 ?_; intro _ _ _) | refine VR.boolE r2 ?_ | refine VR.noneE r2 ?_ | refine VR.refE r2 ?_ | refine VR.valE r2 ?_ | (refine VR.strxE r2 ?_; intro _) | cases r2)
      exact SC.find (C.go sat (.int _ _) h)
theorem m_find3 (h : Φ (.int (Txt.find3 (tx x) (tx y) i)) S) : WPC γ (.builtin "str.find") [.str x, .str y, .int i] S Φ Ξ := fun N vs rs F hp tk sat Q E C => by
  refine VRs.consE rs ?_
  · intro _ _ r1 rs
    refine VRs.consE rs ?_
    · intro _ _ r2 rs
      refine VRs.consE rs ?_
      · intro _ _ r3 rs
        (first | refine VRs.nilE rs ?_ | cases rs); (first | (refine VR.intE r1 ?_; intro _) | (refine VR.strE r1 ?_; intro _ _ _) | refine VR.boolE r1 ?_ | refine VR.noneE r1 ?_ | refine VR.refE r1 ?_ | refine VR.valE r1 ?_ | (refine VR.strxE r1 ?_; intro _) | cases r1); (first | (refine VR.intE r2 ?_; intro _) | (refine VR.strE r2 ?_; intro _ _ _) | refine VR.boolE r2 ?_ | refine VR.noneE r2 ?_ | refine VR.refE r2 ?_ | refine VR.valE r2 ?_ | (refine VR.strxE r2 ?_; intro _) | cases r2); (first | (refine VR.intE r3 ?_; intro _) | (refine VR.strE r3 ?_; intro _ _ _) | refine VR.boolE r3 ?_ | refine VR.noneE r3 ?_ | refine VR.refE r3 ?_ | refine VR.valE r3 ?_ | (refine VR.strxE r3 ?_; intro _) | cases r3)
        exact SC.find3 (C.go sat (.int _ _) h)
end
end

section
-- P4
inductive Upd (a : Addr) (m m' : MO) : Cells → Cells → Prop
  | here {κ : Cells} : Upd a m m' ((a, m) :: κ) ((a, m') :: κ)
  | there {p : Addr × MO} {κ κ' : Cells} : Upd a m m' κ κ' → Upd a m m' (p :: κ) (p :: κ')
theorem Upd.split {a : Addr} {m m' : MO} {κ κ' : Cells} (u : Upd a m m' κ κ') : ∃ κ₁ κ₂, κ = κ₁ ++ (a, m) :: κ₂ ∧ κ' = κ₁ ++ (a, m') :: κ₂ := by
  induction u with
  | here => exact ⟨[], _, rfl, rfl⟩
  | there _ ih => obtain ⟨k1, k2, e1, e2⟩ := ih; exact ⟨_ :: k1, k2, by rw [e1]; rfl, by rw [e2]; rfl⟩
theorem Upd.mem {a : Addr} {m m' : MO} {κ κ' : Cells} (u : Upd a m m' κ κ') : (a, m) ∈ κ := by
  refine absP fun _ kk => ?_
  obtain ⟨k1, k2, e1, e2⟩ := u.split
  refine kk ?_
  clear kk
  rw [e1]; exact List.mem_append_right _ (.head _)
inductive Del (a : Addr) (m : MO) : Cells → Cells → Prop
  | here {κ : Cells} : Del a m ((a, m) :: κ) κ
  | there {p : Addr × MO} {κ κ' : Cells} : Del a m κ κ' → Del a m (p :: κ) (p :: κ')
theorem Del.split {a : Addr} {m : MO} {κ κ' : Cells} (u : Del a m κ κ') : ∃ κ₁ κ₂, κ = κ₁ ++ (a, m) :: κ₂ ∧ κ' = κ₁ ++ κ₂ := by
  induction u with
  | here => exact ⟨[], _, rfl, rfl⟩
  | there _ ih => obtain ⟨k1, k2, e1, e2⟩ := ih; exact ⟨_ :: k1, k2, by rw [e1]; rfl, by rw [e2]; rfl⟩
theorem VRs.eraseIdx {N : Fz} {vs : List Value} {ds : List D} (r : VRs N vs ds) : ∀ k : Nat, VRs N (vs.eraseIdx k) (ds.eraseIdx k) :=
  VRs.ind (P := fun vs ds => ∀ k : Nat, VRs N (vs.eraseIdx k) (ds.eraseIdx k)) (fun _ => .nil) (fun h t ih k => by
    cases k with
    | zero => exact t
    | succ k => exact .cons h (ih k)) r
theorem VRs.set {N : Fz} {vs : List Value} {ds : List D} {v : Value} {d : D} (h : VR N v d) (r : VRs N vs ds) : ∀ k : Nat, VRs N (vs.set k v) (ds.set k d) :=
  VRs.ind (P := fun vs ds => ∀ k : Nat, VRs N (vs.set k v) (ds.set k d)) (fun _ => .nil) (fun h' t ih k => by
    cases k with
    | zero => exact .cons h t
    | succ k => exact .cons h' (ih k)) r
section
variable {γ : Fx} {N : Fz} {F : Rw} {S : St} {Ξ : Exc → Cells → Prop} {Φ : D → St → Prop} {Ψ : Bool → St → Prop} {a b i : Int} {x y : Wd} {name : PySem.Str} {o e : Expr} {args es : List Expr} {ds : List D} {d : D} {pos apos p1 : Pos} {c : Addr} {κ' : Cells}
theorem Sat.turn {hp h' : Heap} {tk : Nat} {mo mo' : MO} {o' : Obj} (sat : Sat γ N F S hp tk) (u : Upd c mo mo' S.κ κ') (hs : Heap.SameBut c hp h') (ho : h'.get? c = some o') (hm : MOk N o' mo') : Sat γ N F ⟨S.ρ, κ'⟩ h' tk := by
  refine absP fun _ kk => ?_
  obtain ⟨k1, k2, e1, e2⟩ := u.split
  refine kk ?_
  clear kk
  obtain ⟨m, H, hr⟩ := sat.m
  rw [e1] at H
  exact ⟨sat.ok, sat.tok, ⟨m, by rw [e2]; exact H.turn hs ho hm, hr⟩, sat.cv⟩
theorem c_append (u : Upd c (.list ds) (.list (ds ++ [d])) S.κ κ') (hl : ds.length ≤ 10000000) (h : Φ .none ⟨S.ρ, κ'⟩) : WPC γ (.builtin "list.append") [.ref c, d] S Φ Ξ := fun N vs rs F hp tk sat Q E C => by
  refine VRs.consE rs ?_
  · intro _ _ r rs
    refine VRs.consE rs ?_
    · intro _ _ r2 rs
      (first | refine VRs.nilE rs ?_ | cases rs); (first | (refine VR.intE r ?_; intro _) | (refine VR.strE r ?_; intro _ _ _) | refine VR.boolE r ?_ | refine VR.noneE r ?_ | refine VR.refE r ?_ | refine VR.valE r ?_ | (refine VR.strxE r ?_; intro _) | cases r)
      refine absP fun _ kk => ?_
      obtain ⟨o, ho, vs, n, rfl, rs⟩ := sat.cel u.mem
      refine kk ?_
      clear kk
      refine wpAny_list_append_plain (items := vs.toArray) ⟨n, ho⟩ (fun h' hp' hs => ?_) (by rw [sizeLine_eq]; simp [rs.length]; omega)
      obtain ⟨n', ho'⟩ := hp'
      exact C.ok N _ _ _ h' tk (Le.refl N) (sat.turn u hs ho' ⟨vs ++ [_], n', by simp [lstO], rs.append (.cons r2 .nil)⟩) .none h
theorem c_pop (u : Upd c (.list ds) (.list (ds.eraseIdx i.toNat)) S.κ κ') (h0 : 0 ≤ i) (hi : ds[i.toNat]? = some d) (hl : ds.length ≤ 10000000) (h : Φ d ⟨S.ρ, κ'⟩) : WPC γ (.builtin "list.pop") [.ref c, .int i] S Φ Ξ := fun N vs rs F hp tk sat Q E C => by
  refine VRs.consE rs ?_
  · intro _ _ r rs
    refine VRs.consE rs ?_
    · intro _ _ r2 rs
      (first | refine VRs.nilE rs ?_ | cases rs); (first | (refine VR.intE r ?_; intro _) | (refine VR.strE r ?_; intro _ _ _) | refine VR.boolE r ?_ | refine VR.noneE r ?_ | refine VR.refE r ?_ | refine VR.valE r ?_ | (refine VR.strxE r ?_; intro _) | cases r)
      refine absP fun _ kk => ?_
      obtain ⟨o, ho, vs, n, rfl, rs⟩ := sat.cel u.mem
      refine kk ?_
      clear kk
      (first | (refine VR.intE r2 ?_; intro _) | (refine VR.strE r2 ?_; intro _ _ _) | refine VR.boolE r2 ?_ | refine VR.noneE r2 ?_ | refine VR.refE r2 ?_ | refine VR.valE r2 ?_ | (refine VR.strxE r2 ?_; intro _) | cases r2)
      obtain ⟨x, hx, rx⟩ := rs.get' hi
      have hlt : i.toNat < ds.length := (List.getElem?_eq_some_iff.mp hi).1
      have e : vs.toArray.size = ds.length := by simp [rs.length]
      have hlv : i.toNat < vs.length := by rw [rs.length]; exact hlt
      refine call_meets (T := "list") PySem.F.slot_list_pop ⟨_, ho, rfl⟩ PySem.F.entry_list_pop (PySem.F.args_list_pop_2 _ _)
        (MeetsSeq.list_pop_at c vs.toArray n i _ i.toNat x (fitsIndex_of h0 (by omega)) (by rw [e, seqIx (by omega) (by omega), if_neg (by omega)]) hx (by rw [e, sizeLine_eq]; omega)) ⟨ho, ?_⟩
      have em : Obj.mapSeq (fun xs => xs.eraseIdxIfInBounds i.toNat) (lstO vs n) = lstO (vs.eraseIdx i.toNat) (if (vs.toArray.eraseIdxIfInBounds i.toNat).size == vs.toArray.size then n else n + 1) := by
        have : vs.toArray.eraseIdxIfInBounds i.toNat = (vs.eraseIdx i.toNat).toArray := by simp
        simp only [Obj.mapSeq, lstO, this]
      refine C.ok N _ _ _ _ tk (Le.refl N) (sat.turn u (Heap.SameBut.update ..) (by rw [Heap.get?_update_self _ ho (by rw [em]; rfl), em]) ⟨_, _, rfl, rs.eraseIdx _⟩) rx h
noncomputable def WPSet (γ : Fx) (o i d : D) (S : St) (Φ : St → Prop) (Ξ : Exc → Cells → Prop) : Prop := ∀ N v₁ v₂ v₃, VR N v₁ o → VR N v₂ i → VR N v₃ d → WPN γ N (setItem v₁ v₂ v₃) S RU (fun _ S' => Φ S') Ξ
theorem S_sub {t ix : Expr} {Φ : AF → St → Prop} {pos' : Pos} (h : WPE γ e S (fun d S₁ => WPE γ t S₁ (fun o S₂ => WPE γ ix S₂ (fun i S₃ => WPSet γ o i d S₃ (fun S₄ => Φ .next S₄) Ξ) Ξ) Ξ) Ξ)
    (hs : swapsWith e (some (.Subscript t ix pos')) pos.line γ.env = pure false := by rfl) : WPS γ (.Assign [.Subscript t ix pos'] e pos) S Φ Ξ := fun N F hp tk sat Q E C => by
  refine wpAny_Assign_Subscript (h N F hp tk sat _ E (C.then fun N₁ v₁ d₁ S₁ h₁ tk₁ le₁ sat₁ r₁ k₁ => ?_)) hs
  refine k₁ N₁ F h₁ tk₁ sat₁ _ E ((C.mono le₁).then fun N₂ v₂ d₂ S₂ h₂ tk₂ le₂ sat₂ r₂ k₂ => ?_)
  refine k₂ N₂ F h₂ tk₂ sat₂ _ E ((C.mono (le₁.trans le₂)).then fun N₃ v₃ d₃ S₃ h₃ tk₃ le₃ sat₃ r₃ k₃ => ?_)
  have le := (le₁.trans le₂).trans le₃
  refine k₃ N₃ v₂ v₃ v₁ (VR.mono le₃ r₂) r₃ (VR.mono (le₂.trans le₃) r₁) F h₃ tk₃ sat₃ _ E ((C.mono le).then fun N₄ x₄ d₄ S₄ h₄ tk₄ le₄ sat₄ r₄ k₄ => ?_)
  exact C.ok N₄ _ _ S₄ h₄ tk₄ (le.trans le₄) sat₄ .next k₄
theorem wpAny_setItem_own {prog : Program} {w : World} {A : Around} {E : Value → Shared → Prop} {s : Shared} {l : Addr} {vs : List Value} {n : Nat} {k : Int} {t : Tok} {v : Value} {Q : Unit → Shared → Prop} (ho : s.heap.get? l = some (lstO vs n)) (h0 : 0 ≤ k) (h1 : k < vs.length) (hf : k < 2 ^ 63)
    (hQ : ∀ h' n', h'.get? l = some (lstO (vs.set k.toNat v) n') → Heap.SameBut l s.heap h' → Q () { s with heap := h' }) : wpAny (model prog w) A (setItem (.ref l) (.int k t) v) Q E s := by
  have hT : s.TypeIs (.ref l) "list" := ⟨_, ho, rfl⟩
  unfold setItem
  try with_reducible refine wpAny_holding ?_
  first | refine wpAny_bind (wpAny_pure ?_) | skip
  refine wpAny_bind (wpAny_sequenceKey hT (by decide) ?_)
  refine wpAny_bind (wpAny_callSpecial?_slot (name := Str.ofString "__setitem__") hT slot_list_setitem (wpAny_call_entry slot_list_setitem hT entry_list_setitem ?_ (args_list_setitem _ _ _)))
  show wpAny _ _ (Builtin.List.listSubscript? (.int k t) >>= _) _ _ s
  refine wpAny_bind (wpAny_listSubscript_int (fitsIndex_of h0 hf) ?_)
  clear hf
  obtain ⟨j, rfl⟩ := Int.eq_ofNat_of_zero_le h0
  have hj : j < vs.length := by omega
  have hx : vs.toArray[j]? = some vs[j] := by simp [hj]
  have em : Obj.mapSeq (fun xs => xs.setIfInBounds j v) (lstO vs n) = lstO (vs.set j v) n := by simp [Obj.mapSeq, lstO]
  show wpAny _ _ ((seqItemAt l j >>= fun r => pure (r.map (j, ·))) >>= _) _ _ s
  refine wpAny_bind (wpAny_bind (wpAny_seqItemAt ho rfl (wpAny_pure ?_)))
  rw [hx]
  show wpAny _ _ (setSeqItemAt l j v >>= _) _ _ s
  have fin := hQ (s.heap.update l (Obj.mapSeq fun xs => xs.setIfInBounds j v)) n (by rw [Heap.get?_update_self _ ho (by rw [em]; rfl), em]; rfl) (Heap.SameBut.update ..)
  refine wpAny_bind (wpAny_setSeqItemAt ho rfl ?_)
  first
    | exact wpAny_bind (wpAny_pure (wpAny_pure ⟨.none, rfl, wpAny_pure fin⟩))
    | exact wpAny_pure ⟨.none, rfl, wpAny_pure fin⟩
theorem set_o {Φ : St → Prop} (u : Upd c (.list ds) (.list (ds.set i.toNat d)) S.κ κ') (h0 : 0 ≤ i) (h1 : i < ds.length) (hl : ds.length ≤ 10000000) (h : Φ ⟨S.ρ, κ'⟩) : WPSet γ (.ref c) (.int i) d S Φ Ξ := fun N v₁ v₂ v₃ r₁ r₂ r₃ F hp tk sat Q E C => by
  (first | (refine VR.intE r₁ ?_; intro _) | (refine VR.strE r₁ ?_; intro _ _ _) | refine VR.boolE r₁ ?_ | refine VR.noneE r₁ ?_ | refine VR.refE r₁ ?_ | refine VR.valE r₁ ?_ | (refine VR.strxE r₁ ?_; intro _) | cases r₁); (first | (refine VR.intE r₂ ?_; intro _) | (refine VR.strE r₂ ?_; intro _ _ _) | refine VR.boolE r₂ ?_ | refine VR.noneE r₂ ?_ | refine VR.refE r₂ ?_ | refine VR.valE r₂ ?_ | (refine VR.strxE r₂ ?_; intro _) | cases r₂)
  refine absP fun _ kk => ?_
  obtain ⟨o, ho, vs, n, rfl, rs⟩ := sat.cel u.mem
  refine kk ?_
  clear kk
  refine wpAny_setItem_own ho h0 (by rw [rs.length]; exact h1) (by omega) fun h' n' ho' hs => ?_
  exact C.ok N _ () _ h' tk (Le.refl N) (sat.turn u hs ho' ⟨_, n', rfl, rs.set r₃ _⟩) trivial h
noncomputable def insK (ks : List Int) (i : Int) : List Int := if ks.contains i then ks else ks ++ [i]
theorem stored_insK (ks : List Int) (i : Int) : stored (ks.map fun k => (k, Value.bool true)) i (.bool true) = (insK ks i).map fun k => (k, Value.bool true) := by
  unfold stored insK
  by_cases hc : ks.contains i = true
  · have h1 : ((ks.map fun k => (k, Value.bool true)).any fun kv => decide (kv.1 = i)) = true := by
      simp only [List.any_map, List.any_eq_true, Function.comp, decide_eq_true_eq]
      exact ⟨i, by simpa using hc, rfl⟩
    rw [if_pos h1, if_pos hc, List.map_map]
    refine List.map_congr_left fun k hk => ?_
    simp only [Function.comp]
    split <;> simp_all
  · have h1 : ¬ ((ks.map fun k => (k, Value.bool true)).any fun kv => decide (kv.1 = i)) = true := by
      simp only [List.any_map, List.any_eq_true, Function.comp, decide_eq_true_eq, not_exists, not_and]
      intro k hk e
      subst e
      exact hc (by simpa using hk)
    rw [if_neg h1, if_neg hc]
    simp
theorem KD.dictOf {w : World} {ks : List Int} {o : Obj} {h : Heap} (k : KD o ks) (ho : h.get? c = some o) : h.DictOf (intKind pw w) c (ks.map fun k => (k, Value.bool true)) := Heap.dictOf_iff.mpr ⟨o, ho, k w⟩
theorem Sat.sys {hp : Heap} {tk : Nat} {mo : MO} (sat : Sat γ N F S hp tk) (h : (c, mo) ∈ S.κ) : (c == sysModules) = false := by
  obtain ⟨m, H, _⟩ := sat.m
  obtain ⟨o, ho⟩ := sat.ok.gd.says.S
  have h2 : γ.B0.get? c = none := H.lowK _ h
  refine beq_eq_false_iff_ne.mpr fun e => ?_
  rw [e, ho] at h2
  cases h2
theorem set_k {Φ : St → Prop} {ks : List Int} (u : Upd c (.keys ks) (.keys (insK ks i)) S.κ κ') (hl : ks.length ≤ 10000000) (h : Φ ⟨S.ρ, κ'⟩) : WPSet γ (.ref c) (.int i) (.bool true) S Φ Ξ := fun N v₁ v₂ v₃ r₁ r₂ r₃ F hp tk sat Q E C => by
  (first | (refine VR.intE r₁ ?_; intro _) | (refine VR.strE r₁ ?_; intro _ _ _) | refine VR.boolE r₁ ?_ | refine VR.noneE r₁ ?_ | refine VR.refE r₁ ?_ | refine VR.valE r₁ ?_ | (refine VR.strxE r₁ ?_; intro _) | cases r₁); (first | (refine VR.intE r₂ ?_; intro _) | (refine VR.strE r₂ ?_; intro _ _ _) | refine VR.boolE r₂ ?_ | refine VR.noneE r₂ ?_ | refine VR.refE r₂ ?_ | refine VR.valE r₂ ?_ | (refine VR.strxE r₂ ?_; intro _) | cases r₂); (first | (refine VR.intE r₃ ?_; intro _) | (refine VR.strE r₃ ?_; intro _ _ _) | refine VR.boolE r₃ ?_ | refine VR.noneE r₃ ?_ | refine VR.refE r₃ ?_ | refine VR.valE r₃ ?_ | (refine VR.strxE r₃ ?_; intro _) | cases r₃)
  obtain ⟨o, ho, hk⟩ := sat.cel u.mem
  have hk : KD o ks := hk
  refine wpAny_setItem_pairs (knd := intKind pw γ.w) (PySem.intKind_is _ _ _ _) (hk.dictOf ho) (fun h' hd hs => ?_) (by rw [sizeLine_eq]; simp; omega)
  rw [stored_insK] at hd
  obtain ⟨o', ho', hk'⟩ := Heap.dictOf_iff.mp hd
  exact C.ok N _ () _ h' _ (Le.refl N) ((sat.turn u hs ho' (show MOk N o' (.keys _) from KD.of hk')).tkTo (Nat.le_succ _)) trivial h
theorem E_dict0 (h : ∀ a, Φ (.ref a) ⟨S.ρ, (a, .keys []) :: S.κ⟩) : WPE γ (.Dict [] [] pos) S Φ Ξ := fun N F hp tk sat Q E C => by
  refine wpAny_Dict_empty (C.ok N _ _ _ _ tk (Le.refl N) (sat.pushK (mo := .keys []) ?_) (.ref _) (h _))
  exact KD.of (w := γ.w) ⟨#[], 0, ⟨rfl, rfl, rfl⟩, rfl, fun e he => by simp at he, .nil, .nil⟩
theorem in_k {ks : List Int} (h : Φ (.bool (ks.contains i)) S) : WPCmp γ .In (.int i) (.keys ks) S Φ Ξ := fun N v₁ v₂ r₁ r₂ F hp tk sat Q E C => by
  (first | (refine VR.intE r₁ ?_; intro _) | (refine VR.strE r₁ ?_; intro _ _ _) | refine VR.boolE r₁ ?_ | refine VR.noneE r₁ ?_ | refine VR.refE r₁ ?_ | refine VR.valE r₁ ?_ | (refine VR.strxE r₁ ?_; intro _) | cases r₁)
  refine VR.keysE r₂ ?_
  · intro _ _ ho hsm hk
    refine wpAny_in_of (knd := intKind pw γ.w) (PySem.intKind_is _ _ _ _) hsm (hk.dictOf (sat.fro ho)).mapOf ?_
    have e : (valueAt (ks.map fun k => (k, Value.bool true)) i).isSome = ks.contains i := by
      unfold valueAt
      rw [Option.isSome_map, Bool.eq_iff_iff, List.find?_isSome]
      simp
      exact ⟨fun ⟨_, a, h1, h2, _⟩ => h2 ▸ h1, fun h1 => ⟨_, i, h1, rfl, rfl⟩⟩
    rw [e]
    exact C.go sat (.bool _) h
theorem tr_k {ks : List Int} (hl : ks.length ≤ 10000000) (h : Ψ (!ks.isEmpty) S) : WPTr γ (.keys ks) S Ψ Ξ := fun N v r F hp tk sat Q E C => by
  refine VR.keysE r ?_
  · intro _ _ ho hsm hk
    refine wpAny_truthy_dict (knd := intKind pw γ.w) hsm (hk.dictOf (sat.fro ho)) (by simp; omega) ?_
    have e : (ks.map fun k => (k, Value.bool true)).isEmpty = ks.isEmpty := by cases ks <;> rfl
    rw [e]
    exact C.go sat rfl h
end
end

section
-- P5
mutual
noncomputable def D.plain : D → Bool
  | .none => true
  | .bool _ => true
  | .int _ => true
  | .str _ => true
  | .strx _ => true
  | .tup ds => D.plains ds
  | _ => false
noncomputable def D.plains : List D → Bool
  | [] => true
  | d :: ds => d.plain && D.plains ds
end
mutual
noncomputable def D.depth : D → Nat
  | .tup ds => D.depths ds + 1
  | _ => 0
noncomputable def D.depths : List D → Nat
  | [] => 0
  | d :: ds => d.depth + D.depths ds
end
noncomputable abbrev Fros (N : Fz) (h : Heap) : Prop := ∀ p ∈ N.l, h.get? p.1 = some p.2
theorem VRs.each {N : Fz} {R : Value → Value → Prop} {ds : List D} (hR : ∀ d ∈ ds, ∀ v w, VR N v d → VR N w d → R v w) : ∀ {vs ws : List Value}, VRs N vs ds → VRs N ws ds → ∀ j (h1 : j < vs.length) (h2 : j < ws.length), R vs[j] ws[j] := by
  induction ds with
  | nil => intro vs ws r q j h1; cases r; exact absurd h1 (Nat.not_lt_zero _)
  | cons d ds ih =>
    intro vs ws r q j h1 h2
    cases r with
    | cons r rs => cases q with
      | cons q qs => cases j with
        | zero => exact hR d (.head _) _ _ r q
        | succ j => exact ih (fun d hd => hR d (.tail _ hd)) rs qs j (by simpa using h1) (by simpa using h2)
theorem D.plains_mem : ∀ {ds : List D}, D.plains ds = true → ∀ d ∈ ds, d.plain = true
  | d :: ds, h, x, hx => by
    simp only [D.plains, Bool.and_eq_true] at h
    rcases List.mem_cons.mp hx with rfl | hx
    · exact h.1
    · exact D.plains_mem h.2 x hx
theorem D.depths_mem : ∀ {ds : List D} {d : D}, d ∈ ds → d.depth ≤ D.depths ds
  | d :: ds, x, hx => by
    simp only [D.depths]
    rcases List.mem_cons.mp hx with rfl | hx
    · omega
    · have := D.depths_mem hx; omega
theorem VR.eqLeaf {N : Fz} {s : Shared} {d : D} {v w : Value} (hp : d.plain = true) (ht : ∀ ds, d ≠ .tup ds) (r : VR N v d) (q : VR N w d) {A : Around} : SeqAt.EqAt A s v w true := by
  cases d with
  | none => rw [VR.noneI r, VR.noneI q]; exact SeqAt.EqAt.same _
  | bool b => rw [VR.boolI r, VR.boolI q]; exact SeqAt.EqAt.same _
  | int i =>
    refine r.intE fun t => q.intE fun t' => ?_
    have := @SeqAt.EqAt.int_int A s i t i t'; rwa [beq_self_eq_true] at this
  | str x =>
    refine r.strE fun t _ _ => q.strE fun t' _ _ => ?_
    have := @SeqAt.EqAt.str_str A s (tx x) t (tx x) t'; rwa [beq_self_eq_true] at this
  | strx x =>
    refine r.strxE fun t => q.strxE fun t' => ?_
    have := @SeqAt.EqAt.str_str A s (tx x) t (tx x) t'; rwa [beq_self_eq_true] at this
  | tup ds => exact absurd rfl (ht ds)
  | _ => exact absurd hp Bool.false_ne_true
theorem D.tupOr (d : D) : (∃ ds, d = .tup ds) ∨ ∀ ds, d ≠ .tup ds := by
  cases d with
  | tup ds => exact .inl ⟨ds, rfl⟩
  | _ => exact .inr (fun _ h => nomatch h)
theorem VR.eqAt {N : Fz} {s : Shared} (hN : Fros N s.heap) : ∀ (k : Nat) {d : D} {v w : Value}, d.depth ≤ k → d.plain = true → VR N v d → VR N w d → ∀ {A : Around}, A.units + k < cLine → SeqAt.EqAt A s v w true := by
  intro k
  induction k with
  | zero =>
    intro d v w hd hp r q A hu
    rcases d.tupOr with ⟨ds, rfl⟩ | ht
    · exact absurd hd (Nat.not_succ_le_zero _)
    · exact r.eqLeaf hp ht q
  | succ k ih =>
    intro d v w hd hp r q A hu
    rcases d.tupOr with ⟨ds, rfl⟩ | ht
    · refine absP fun _ kk => ?_
      obtain ⟨a, vs, rfl, il, rs⟩ := r.tyTup hN
      refine kk ?_
      clear kk
      refine absP fun _ kk => ?_
      obtain ⟨a', vs', rfl, il', rs'⟩ := q.tyTup hN
      refine kk ?_
      clear kk
      by_cases e : a = a'
      · subst e; exact SeqAt.EqAt.same _
      · have hp : D.plains ds = true := hp
        have hd : D.depths ds ≤ k := Nat.le_of_succ_le_succ hd
        have z := SeqAt.RcAt.tuples (A := A) (s := s) (e := fun _ => true) il il' (by omega) (fun j j1 j2 => by
          have := VRs.each (R := fun v w => SeqAt.EqAt A.in1 s v w true) (fun d hm v w r q => ih (Nat.le_trans (D.depths_mem hm) hd) (D.plains_mem hp d hm) r q (A := A.in1) (by simp; omega)) rs rs' j (by simpa using j1) (by simpa using j2)
          simpa using this)
        have es : vs.toArray.size = vs'.toArray.size := by rw [List.size_toArray, List.size_toArray, rs.length, rs'.length]
        have e2 : ((List.range (min vs.toArray.size vs'.toArray.size)).all (fun _ => true) && vs.toArray.size == vs'.toArray.size) = true := by rw [es]; simp
        rw [e2] at z
        exact SeqAt.EqAt.of_refs e z
    · exact r.eqLeaf hp ht q
theorem VRs.eqAt {N : Fz} {s : Shared} (hN : Fros N s.heap) {ds : List D} (hp : D.plains ds = true) {vs ws : List Value} (r : VRs N vs ds) (q : VRs N ws ds) {A : Around} (hu : A.units + D.depths ds < cLine) : ∀ j (h1 : j < vs.length) (h2 : j < ws.length), SeqAt.EqAt A s vs[j] ws[j] true :=
  VRs.each (R := fun v w => SeqAt.EqAt A s v w true) (fun d hm v w r q => VR.eqAt hN _ (D.depths_mem hm) (D.plains_mem hp d hm) r q hu) r q
theorem all_true (n : Nat) : (List.range n).all (fun _ => true) = true := by simp
section
variable {γ : Fx} {N : Fz} {F : Rw} {S : St} {Ξ : Exc → Cells → Prop} {Φ : D → St → Prop} {Ψ : Bool → St → Prop} {a b i : Int} {x y : Wd} {name : PySem.Str} {o e : Expr} {args es : List Expr} {ds es : List D} {d : D} {pos apos p1 : Pos} {c : Addr} {κ' : Cells}
theorem Sat.room {hp : Heap} {tk : Nat} (sat : Sat γ N F S hp tk) : γ.A.units < cLine := Nat.lt_of_le_of_lt (Nat.le_add_right _ _) sat.ok.units
-- what is compared knows no marks
mutual
noncomputable def D.erase : D → D
  | .str x => .strx x
  | .tup ds => .tup (D.erases ds)
  | d => d
noncomputable def D.erases : List D → List D
  | [] => []
  | d :: ds => d.erase :: D.erases ds
end
theorem VR.er {N : Fz} {v : Value} {d : D} (r : VR N v d) : VR N v d.erase :=
  VR.rec (motive_1 := fun v d _ => VR N v d.erase) (motive_2 := fun vs ds _ => VRs N vs (D.erases ds)) .none .bool .int (fun s t _ _ => .strx s t) .strx .ref .val
    (fun h1 h2 h3 _ ih => .tup h1 h2 h3 ih) (fun h1 h2 h3 h4 h5 _ => .lst h1 h2 h3 h4 h5) .keys .rng
    (fun h1 h2 a z b c d e r f g i _ => .nest h1 h2 a z b c d e r f g i) .nil (fun _ _ ih1 ih2 => .cons ih1 ih2) r
theorem VRs.er {N : Fz} {vs : List Value} {ds : List D} (r : VRs N vs ds) : VRs N vs (D.erases ds) :=
  VRs.ind (P := fun vs ds => VRs N vs (D.erases ds)) .nil (fun h _ ih => .cons h.er ih) r
theorem eq_same (hp : D.plains ds = true) (hu : D.depths ds + 1 ≤ 32 * γ.n) (h : Φ (.bool true) S) : WPCmp γ .Eq (.tup ds) (.tup ds) S Φ Ξ := fun N v w r q F h' tk sat Q E C => by
  refine absP fun _ kk => ?_
  obtain ⟨a, vs, rfl, il, rs⟩ := r.tyTup sat.fros
  refine kk ?_
  clear kk
  refine absP fun _ kk => ?_
  obtain ⟨a', vs', rfl, il', rs'⟩ := q.tyTup sat.fros
  refine kk ?_
  clear kk
  have hr := sat.ok.units
  refine SeqAt.eq_tupleAt (s := γ.mk' h' tk) (e := fun _ => true) il il' sat.room (fun j j1 j2 => by
    have := VRs.eqAt (s := γ.mk' h' tk) sat.fros hp rs rs' (A := γ.A.in1) (by simp; omega) j (by simpa using j1) (by simpa using j2)
    simpa using this) ?_
  have es : vs.toArray.size = vs'.toArray.size := by simp [rs.length, rs'.length]
  have e2 : ((List.range (min vs.toArray.size vs'.toArray.size)).all (fun _ => true) && vs.toArray.size == vs'.toArray.size) = true := by rw [es]; simp
  rw [e2]
  exact C.go sat (.bool true) h
theorem ne_same (hp : D.plains ds = true) (hu : D.depths ds + 1 ≤ 32 * γ.n) (h : Φ (.bool false) S) : WPCmp γ .NotEq (.tup ds) (.tup ds) S Φ Ξ := fun N v w r q F h' tk sat Q E C => by
  refine absP fun _ kk => ?_
  obtain ⟨a, vs, rfl, il, rs⟩ := r.tyTup sat.fros
  refine kk ?_
  clear kk
  refine absP fun _ kk => ?_
  obtain ⟨a', vs', rfl, il', rs'⟩ := q.tyTup sat.fros
  refine kk ?_
  clear kk
  have hr := sat.ok.units
  have z := SeqAt.RcNeAt.tuples (A := γ.A) (s := γ.mk' h' tk) (e := fun _ => true) il il' sat.room (fun j j1 j2 => by
    have := VRs.eqAt (s := γ.mk' h' tk) sat.fros hp rs rs' (A := γ.A.in1) (by simp; omega) j (by simpa using j1) (by simpa using j2)
    simpa using this)
  refine z _ _ _ _ ?_
  have es : vs.toArray.size = vs'.toArray.size := by simp [rs.length, rs'.length]
  have e2 : ((List.range (min vs.toArray.size vs'.toArray.size)).all (fun _ => true) && vs.toArray.size == vs'.toArray.size) = true := by rw [es]; simp
  rw [e2]
  exact C.go sat (.bool false) h
theorem eq_er {es : List D} (he : D.erases ds = D.erases es) (hp : D.plains (D.erases ds) = true) (hu : D.depths (D.erases ds) + 1 ≤ 32 * γ.n) (h : Φ (.bool true) S) : WPCmp γ .Eq (.tup ds) (.tup es) S Φ Ξ := fun N v w r q =>
  eq_same hp hu h N v w (VR.er r) (by have := VR.er q; simp only [D.erase] at this; rw [he]; exact this)
theorem ne_er {es : List D} (he : D.erases ds = D.erases es) (hp : D.plains (D.erases ds) = true) (hu : D.depths (D.erases ds) + 1 ≤ 32 * γ.n) (h : Φ (.bool false) S) : WPCmp γ .NotEq (.tup ds) (.tup es) S Φ Ξ := fun N v w r q =>
  ne_same hp hu h N v w (VR.er r) (by have := VR.er q; simp only [D.erase] at this; rw [he]; exact this)
theorem eq_nil (h : Φ (.bool ds.isEmpty) S) : WPCmp γ .Eq (.lst ds) (.lst []) S Φ Ξ := fun N v w r q F h' tk sat Q E C => by
  refine absP fun _ kk => ?_
  obtain ⟨a, vs, rfl, il, rs⟩ := r.tyLst sat.fros
  refine kk ?_
  clear kk
  refine absP fun _ kk => ?_
  obtain ⟨a', vs', rfl, il', rs'⟩ := q.tyLst sat.fros
  refine kk ?_
  clear kk
  cases rs'
  cases rs with
  | nil =>
    refine SeqAt.eq_listAt (s := γ.mk' h' tk) (e := fun _ => true) il il' rfl sat.room (fun j j1 _ => by simp at j1) ?_
    exact C.go sat (.bool _) h
  | cons r rs =>
    refine SeqAt.eq_list_lengthsAt (s := γ.mk' h' tk) il il' (by simp) sat.room ?_
    exact C.go sat (.bool _) h
theorem ne_nil (h : Φ (.bool (!ds.isEmpty)) S) : WPCmp γ .NotEq (.lst ds) (.lst []) S Φ Ξ := fun N v w r q F h' tk sat Q E C => by
  refine absP fun _ kk => ?_
  obtain ⟨a, vs, rfl, il, rs⟩ := r.tyLst sat.fros
  refine kk ?_
  clear kk
  refine absP fun _ kk => ?_
  obtain ⟨a', vs', rfl, il', rs'⟩ := q.tyLst sat.fros
  refine kk ?_
  clear kk
  cases rs'
  cases rs with
  | nil =>
    have z := SeqAt.RcNeAt.lists (A := γ.A) (s := γ.mk' h' tk) (e := fun _ => true) il il' rfl sat.room (fun j j1 _ => by simp at j1)
    exact z _ _ _ _ (C.go sat (.bool _) h)
  | cons r rs =>
    have z := SeqAt.RcNeAt.lists_lengths (A := γ.A) (s := γ.mk' h' tk) il il' (by simp) sat.room
    exact z _ _ _ _ (C.go sat (.bool _) h)
noncomputable def eqS (x : Wd) : Value → Bool
  | .str z _ => z == tx x
  | _ => false
theorem VRs.anyS {vs : List Value} {ws : List Wd} (x : Wd) (r : VRs N vs (ws.map .str)) : vs.any (eqS x) = ws.contains x := by
  induction ws generalizing vs with
  | nil => (first | (refine VR.intE r ?_; intro _) | (refine VR.strE r ?_; intro _ _ _) | refine VR.boolE r ?_ | refine VR.noneE r ?_ | refine VR.refE r ?_ | refine VR.valE r ?_ | (refine VR.strxE r ?_; intro _) | cases r); rfl
  | cons w ws ih =>
    refine VRs.consE r ?_
    · intro _ _ r rs
      (first | (refine VR.intE r ?_; intro _) | (refine VR.strE r ?_; intro _ _ _) | refine VR.boolE r ?_ | refine VR.noneE r ?_ | refine VR.refE r ?_ | refine VR.valE r ?_ | (refine VR.strxE r ?_; intro _) | cases r)
      simp only [List.any_cons, List.contains_cons, ih rs, eqS, tx_beq]
      congr 1
      by_cases h : w = x
      · subst h; simp
      · rw [beq_eq_false_iff_ne.mpr h, beq_eq_false_iff_ne.mpr (Ne.symm h)]
theorem VRs.memS {vs : List Value} {ws : List Wd} (r : VRs N vs (ws.map .str)) : ∀ v ∈ vs, ∃ z t, v = .str z t := by
  induction ws generalizing vs with
  | nil => (first | (refine VR.intE r ?_; intro _) | (refine VR.strE r ?_; intro _ _ _) | refine VR.boolE r ?_ | refine VR.noneE r ?_ | refine VR.refE r ?_ | refine VR.valE r ?_ | (refine VR.strxE r ?_; intro _) | cases r); intro v hv; cases hv
  | cons w ws ih =>
    refine VRs.consE r ?_
    · intro _ _ r rs
      (first | (refine VR.intE r ?_; intro _) | (refine VR.strE r ?_; intro _ _ _) | refine VR.boolE r ?_ | refine VR.noneE r ?_ | refine VR.refE r ?_ | refine VR.valE r ?_ | (refine VR.strxE r ?_; intro _) | cases r)
      intro v hv
      rcases List.mem_cons.mp hv with rfl | hv
      · exact ⟨_, _, rfl⟩
      · exact ih rs v hv
theorem in_t {ws : List Wd} (h : Φ (.bool (ws.contains x)) S) : WPCmp γ .In (.str x) (.tup (ws.map .str)) S Φ Ξ := fun N v w r q F h' tk sat Q E C => by
  (first | (refine VR.intE r ?_; intro _) | (refine VR.strE r ?_; intro _ _ _) | refine VR.boolE r ?_ | refine VR.noneE r ?_ | refine VR.refE r ?_ | refine VR.valE r ?_ | (refine VR.strxE r ?_; intro _) | cases r)
  refine absP fun _ kk => ?_
  obtain ⟨a, vs, rfl, il, rs⟩ := q.tyTup sat.fros
  refine kk ?_
  clear kk
  refine SeqAt.in_tupleAt (s := γ.mk' h' tk) (eqS x) il (fun y hy => ?_) ?_
  · obtain ⟨z, t, rfl⟩ := rs.memS y (by simpa using hy)
    exact SeqAt.EqAt.str_str _ _ _ _
  · rw [List.any_toArray, rs.anyS]
    exact C.go sat (.bool _) h
theorem in_l {ws : List Wd} (h : Φ (.bool (ws.contains x)) S) : WPCmp γ .In (.str x) (.lst (ws.map .str)) S Φ Ξ := fun N v w r q F h' tk sat Q E C => by
  (first | (refine VR.intE r ?_; intro _) | (refine VR.strE r ?_; intro _ _ _) | refine VR.boolE r ?_ | refine VR.noneE r ?_ | refine VR.refE r ?_ | refine VR.valE r ?_ | (refine VR.strxE r ?_; intro _) | cases r)
  refine absP fun _ kk => ?_
  obtain ⟨a, vs, rfl, il, rs⟩ := q.tyLst sat.fros
  refine kk ?_
  clear kk
  refine SeqAt.in_listAt (s := γ.mk' h' tk) (eqS x) il (fun y hy => ?_) ?_
  · obtain ⟨z, t, rfl⟩ := rs.memS y (by simpa using hy)
    exact SeqAt.EqAt.str_str _ _ _ _
  · rw [List.any_toArray, rs.anyS]
    exact C.go sat (.bool _) h
theorem add_l (hl : ds.length + es.length ≤ 10000000) (h : Φ (.lst (ds ++ es)) S) : WPBin γ .Add (.lst ds) (.lst es) S Φ Ξ := fun N v w r q F h' tk sat Q E C => by
  refine absP fun _ kk => ?_
  obtain ⟨a, vs, rfl, il, rs⟩ := r.tyLst sat.fros
  refine kk ?_
  clear kk
  refine absP fun _ kk => ?_
  obtain ⟨a', vs', rfl, il', rs'⟩ := q.tyLst sat.fros
  refine kk ?_
  clear kk
  refine absP fun _ kk => ?_
  obtain ⟨⟨cls, dd, data, sl⟩, ho, hc, n, hd⟩ := id il
  refine kk ?_
  clear kk
  refine absP fun _ kk => ?_
  obtain ⟨⟨cls2, dd2, data2, sl2⟩, ho2, hc2, n2, hd2⟩ := id il'
  refine kk ?_
  clear kk
  simp only at hc hd hc2 hd2
  subst hc hd hc2 hd2
  refine concat_meets ⟨_, ho, rfl⟩ ⟨_, ho2, rfl⟩ noFill_list_add seq_list_add PySem.F.slot_list_add PySem.F.entry_list_add (PySem.F.args_list_add_2 _ _) (list_addW a a' vs.toArray vs'.toArray n n2 dd dd2 sl sl2 (by rw [sizeLine_eq]; simp [rs.length, rs'.length]; omega)) ⟨ho, ho2, ?_⟩
  have e : vs.toArray ++ vs'.toArray = (vs ++ vs').toArray := by simp
  rw [e]
  exact C.ok _ _ _ S _ tk Le.cons (sat.pushN { cls := .type "list", data := .seq (vs ++ vs').toArray }) (.lst (.head _) rfl rfl rfl ((rs.append rs').mono Le.cons)) h
theorem add_t (hne : es ≠ []) (hl : ds.length + es.length ≤ 10000000) (h : Φ (.tup (ds ++ es)) S) : WPBin γ .Add (.tup ds) (.tup es) S Φ Ξ := fun N v w r q F h' tk sat Q E C => by
  refine absP fun _ kk => ?_
  obtain ⟨a, vs, rfl, il, rs⟩ := r.tyTup sat.fros
  refine kk ?_
  clear kk
  refine VR.tupE q ?_
  · intro _ _ _ _ g1 g2 g3 rs'
    rename_i a' o' n' vs'
    have il' : h'.IsTuple a' vs'.toArray := ⟨_, sat.fro g1, g2, _, g3⟩
    refine absP fun _ kk => ?_
    obtain ⟨⟨cls, dd, data, sl⟩, ho, hc, n, hd⟩ := id il
    refine kk ?_
    clear kk
    refine absP fun _ kk => ?_
    obtain ⟨⟨cls2, dd2, data2, sl2⟩, ho2, hc2, n2, hd2⟩ := id il'
    refine kk ?_
    clear kk
    simp only at hc hd hc2 hd2
    subst hc hd hc2 hd2
    have hw : vs' ≠ [] := fun e => by subst e; (first | refine VRs.nilE rs' ?_ | cases rs'); exact hne rfl
    by_cases hv : vs = []
    · subst hv
      (first | refine VRs.nilE rs ?_ | cases rs)
      exact concat_meets ⟨_, ho, rfl⟩ ⟨_, ho2, rfl⟩ noFill_tuple_add seq_tuple_add PySem.F.slot_tuple_add PySem.F.entry_tuple_add (PySem.F.args_tuple_add_2 _ _)
        (tuple_addW0 a a' #[] vs'.toArray n n2 dd dd2 sl sl2 (by simp)) ⟨ho, ho2, C.go sat (.tup g1 g2 g3 rs') h⟩
    · refine concat_meets ⟨_, ho, rfl⟩ ⟨_, ho2, rfl⟩ noFill_tuple_add seq_tuple_add PySem.F.slot_tuple_add PySem.F.entry_tuple_add (PySem.F.args_tuple_add_2 _ _)
        (tuple_addW2 a a' vs.toArray vs'.toArray n n2 dd dd2 sl sl2 (by simpa using hv) (by simpa using hw) (by rw [sizeLine_eq]; simp [rs.length, rs'.length]; omega)) ⟨ho, ho2, ?_⟩
      have e : vs.toArray ++ vs'.toArray = (vs ++ vs').toArray := by simp
      rw [e]
      exact C.ok _ _ _ S _ tk Le.cons (sat.pushN { cls := .type "tuple", data := .seq (vs ++ vs').toArray }) (.tup (.head _) rfl rfl ((rs.append rs').mono Le.cons)) h
end
end

section
-- P6
section
variable {γ : Fx} {N : Fz} {F : Rw} {S : St} {Ξ : Exc → Cells → Prop} {Φ : D → St → Prop} {Ψ : Bool → St → Prop} {a b i : Int} {x y : Wd} {name : PySem.Str} {o e l r : Expr} {args es : List Expr} {ds : List D} {d : D} {pos apos p1 : Pos} {c : Addr} {κ' : Cells}
theorem X_nil {Φ : List D → St → Prop} (h : Φ [] S) : WPL γ (backTo pos (starEach [] γ.env)) S Φ Ξ := L_nil h
theorem X_cons {Φ : List D → St → Prop} (h : WPE γ e S (fun d S₁ => WPL γ (backTo pos (starEach es γ.env)) S₁ (fun ds S₂ => Φ (d :: ds) S₂) Ξ) Ξ)
    (he : starEach (e :: es) γ.env = (false, eval e γ.env) :: starEach es γ.env := by rfl) : WPL γ (backTo pos (starEach (e :: es) γ.env)) S Φ Ξ := by
  rw [he]
  exact L_cons h
theorem if_b {c : Bool} {P Q : Prop} (h : c = true → P) (h' : c = false → Q) : if c = true then P else Q := by cases c; exact h' rfl; exact h rfl
theorem if_t {P Q : Prop} (h : P) : if true = true then P else Q := h
theorem if_f {P Q : Prop} (h : Q) : if false = true then P else Q := h
theorem if_T {c : Bool} {P Q : Prop} (hc : c = true) (h : P) : if c = true then P else Q := by rw [hc]; exact h
theorem if_F {c : Bool} {P Q : Prop} (hc : c = false) (h : Q) : if c = true then P else Q := by rw [hc]; exact h
theorem B_next {Φ : AF → St → Prop} {rest : List Stmt} {S' : St} (h : WPB γ rest S' Φ Ξ) : (fun (f : AF) (S₁ : St) => match f with | .next => WPB γ rest S₁ Φ Ξ | f => Φ f S₁) .next S' := h
theorem E_and3 {m : Expr} (h : WPE γ l S (fun d S₁ => WPTr γ d S₁ (fun b S₂ => if b = true then WPE γ m S₂ (fun d S₃ => WPTr γ d S₃ (fun b S₄ => if b = true then WPE γ r S₄ Φ Ξ else Φ d S₄) Ξ) Ξ else Φ d S₂) Ξ) Ξ) : WPE γ (.BoolOp .And [l, m, r] pos) S Φ Ξ := fun N F hp tk sat Q E C => by
  show wpAny _ _ (do
    let v ← eval l γ.env
    standAt pos
    let t ← holding [v] (truthy v)
    match BoolOp.And, t with
    | .And, false | .Or, true => pure v
    | _, _ => boolOp pos .And [eval m γ.env, eval r γ.env]) Q E _
  refine wpAny_bind (h N F hp tk sat _ E (C.then fun N₁ v₁ d₁ S₁ h₁ tk₁ le₁ sat₁ r₁ k₁ => ?_))
  refine wpAny_bind (wpAny_standAt (wpAny_bind (wpAny_holding (k₁ N₁ v₁ r₁ F h₁ tk₁ sat₁ _ E ((C.mono le₁).then fun N₂ b c S₂ h₂ tk₂ le₂ sat₂ r₂ k₂ => ?_)))))
  obtain rfl : b = c := r₂
  cases b
  · exact wpAny_pure (C.ok N₂ v₁ d₁ S₂ h₂ tk₂ (le₁.trans le₂) sat₂ (VR.mono le₂ r₁) k₂)
  · have le := le₁.trans le₂
    show wpAny _ _ (do
      let v ← eval m γ.env
      standAt pos
      let t ← holding [v] (truthy v)
      match BoolOp.And, t with
      | .And, false | .Or, true => pure v
      | _, _ => boolOp pos .And [eval r γ.env]) Q E _
    refine wpAny_bind (k₂ N₂ F h₂ tk₂ sat₂ _ E ((C.mono le).then fun N₃ v₃ d₃ S₃ h₃ tk₃ le₃ sat₃ r₃ k₃ => ?_))
    refine wpAny_bind (wpAny_standAt (wpAny_bind (wpAny_holding (k₃ N₃ v₃ r₃ F h₃ tk₃ sat₃ _ E ((C.mono (le.trans le₃)).then fun N₄ b c S₄ h₄ tk₄ le₄ sat₄ r₄ k₄ => ?_)))))
    obtain rfl : b = c := r₄
    cases b
    · exact wpAny_pure (C.ok N₄ v₃ d₃ S₄ h₄ tk₄ ((le.trans le₃).trans le₄) sat₄ (VR.mono le₄ r₃) k₄)
    · exact k₄ N₄ F h₄ tk₄ sat₄ Q E (C.mono ((le.trans le₃).trans le₄))
theorem E_callF {fi : FnI} (hf : fi ∈ fns) (hK : ∀ P, (K P).lookup fi.a = some (fnObj fi.n (defAt fi.i) fi.a fi.m fi.t fi.d)) (hx : name = fi.n) (hk : γ.env.kindOf name = some .globalImplicit)
    (h : WPL γ (backTo pos (starEach (e :: es) γ.env)) S (fun ds S₁ => WPF γ (.ref fi.a) ds S₁.κ (fun d κ' => Φ d ⟨S₁.ρ, κ'⟩) Ξ) Ξ)
    (he : starEach (e :: es) γ.env = (false, eval e γ.env) :: starEach es γ.env := by rfl) (hd : (name == ("__debug__" : PySem.Str)) = false := by decide) : WPE γ (.Call (.Name name p1) (e :: es) [] pos) S Φ Ξ := by
  subst hx
  exact E_call (List.mem_append_right _ (List.mem_map.mpr ⟨fi, hf, rfl⟩)) hk hK rfl h he hd
theorem E_callF0 {fi : FnI} (hf : fi ∈ fns) (hK : ∀ P, (K P).lookup fi.a = some (fnObj fi.n (defAt fi.i) fi.a fi.m fi.t fi.d)) (hx : name = fi.n) (hk : γ.env.kindOf name = some .globalImplicit)
    (h : WPF γ (.ref fi.a) [] S.κ (fun d κ' => Φ d ⟨S.ρ, κ'⟩) Ξ) (hd : (name == ("__debug__" : PySem.Str)) = false := by decide) : WPE γ (.Call (.Name name p1) [] [] pos) S Φ Ξ := by
  subst hx
  exact E_call0 (List.mem_append_right _ (List.mem_map.mpr ⟨fi, hf, rfl⟩)) hk hK rfl h hd
noncomputable def toD (m : MO) : Option D := match m with
  | .list ds => some (.lst ds)
  | .keys ks => some (.keys ks)
  | _ => none
structure Frz (c : Addr) (m : MO) (d : D) (S S' : St) : Prop where
  hd : toD m = some d
  κ : Del c m S.κ S'.κ
  ρ : ∀ x d', S'.ρ.lookup x = some d' → S.ρ.lookup x = some d' ∨ (S.ρ.lookup x = some (.ref c) ∧ d' = d)
theorem Sat.frz {m : MO} {S' : St} {hp : Heap} {tk : Nat} (f : Frz c m d S S') (sat : Sat γ N F S hp tk) : ∃ o, Sat γ (N.put (c, o)) F S' hp tk := by
  have hc : (c, m) ∈ S.κ := by obtain ⟨k1, k2, e1, e2⟩ := f.κ.split; rw [e1]; exact List.mem_append_right _ (.head _)
  have hsys := sat.sys hc
  refine absP fun _ kk => ?_
  obtain ⟨k1, k2, e1, e2⟩ := f.κ.split
  refine kk ?_
  clear kk
  obtain ⟨mm, H, hr⟩ := sat.m
  rw [e1] at H
  obtain ⟨o, hm, H'⟩ := H.toN
  have key : VR (N.put (c, o)) (.ref c) d := by
    have hd := f.hd
    cases m with
    | list ds =>
      cases hd
      refine absP fun _ kk => ?_
      obtain ⟨vs, n, rfl, rs⟩ := hm
      refine kk ?_
      clear kk
      exact .lst (.head _) rfl rfl rfl (rs.mono Le.cons)
    | keys ks => cases hd; exact .keys (.head _) hsys hm
    | exc x => cases hd
  refine ⟨o, sat.ok, ⟨sat.tok.b1, sat.tok.b2⟩, ⟨mm, by rw [e2]; exact H', fun x d' e => ?_⟩, fun x d e => let ⟨c, o, v, a, b, f, g⟩ := sat.cv x d e; ⟨c, o, v, a, .tail _ b, f, g.mono Le.cons⟩⟩
  rcases f.ρ x d' e with h | ⟨h, rfl⟩
  · refine absP fun _ kk => ?_
    obtain ⟨a, v, b, r⟩ := hr x d' h
    refine kk ?_
    clear kk
    exact ⟨a, v, b, r.mono Le.cons⟩
  · refine absP fun _ kk => ?_
    obtain ⟨a, v, b, r⟩ := hr x _ h
    refine kk ?_
    clear kk
    cases r
    exact ⟨a, _, b, key⟩
theorem B_frz {m : MO} {S' : St} {Φ : AF → St → Prop} {body : List Stmt} (f : Frz c m d S S') (h : WPB γ body S' Φ Ξ) : WPB γ body S Φ Ξ := fun N F hp tk sat Q E C => by
  obtain ⟨o, sat'⟩ := sat.frz f
  exact h _ F hp tk sat' Q E (C.mono Le.cons)
theorem B_weak {S' : St} {Φ : AF → St → Prop} {body : List Stmt} (k : Wk S' S) (h : WPB γ body S' Φ Ξ) : WPB γ body S Φ Ξ := WP.weak h k
end
theorem F_in {γ : Fx} {fi : FnI} {names : List PySem.Str} {ds : List D} {κ : Cells} {ρ : Rho} {Φ : D → Cells → Prop} {Ξ : Exc → Cells → Prop} (hf : fi ∈ fns)
    (hK : ∀ P, (K P).lookup fi.a = some (fnObj fi.n (defAt fi.i) fi.a fi.m fi.t fi.d)) (hn : 1 ≤ γ.n) (hsc : scopeOk (defAt fi.i).2.2 names = true) (hl : names.length = ds.length) (hρ : (names.zip ds).reverse = ρ)
    (hb : ∀ (s : Shared) (vs : List Value), Says γ.w s.heap → vs.length = ds.length → BindsTo s (fnOf fi.n fi.n (defAt fi.i).1 (defAt fi.i).2.1 (defAt fi.i).2.2 fi.d .none .none (.str fi.m fi.t) none (.ref (fi.a - 1)) .none) ⟨vs, []⟩ (names.zip vs))
    (body : ∀ γ' : Fx, γ'.n = γ.n - 1 → γ'.env.scope = (defAt fi.i).2.2 → γ'.cv = [] → WPB γ' (defAt fi.i).2.1 ⟨ρ, κ⟩ (Post Φ) Ξ) : WPF γ (.ref fi.a) ds κ Φ Ξ :=
  F_inT hf hK hn hsc hl hρ hb (fun γ' _ _ a b c _ _ => body γ' a b c)
end

section
-- P7
theorem fm_range {α : Type} (l : List α) (a : Nat) : ∀ n, ((List.range n).map (fun k => a + k)).filterMap (l[·]?) = (l.drop a).take n
  | 0 => by rw [List.take_zero]; rfl
  | n + 1 => by
    rw [List.range_succ, List.map_append, List.filterMap_append, fm_range l a n, List.take_add_one, List.getElem?_drop]
    cases h : l[a + n]? with
    | none => rw [List.map_singleton, List.filterMap_cons_none h]; rfl
    | some x => rw [List.map_singleton, List.filterMap_cons_some h]; rfl
theorem rng1 (a b : Nat) : sliceRange a b 1 = (List.range (b - a)).map (fun k => a + k) := by
  have e : (if (a : Int) < b then ((b : Int) - a + 1 - 1) / 1 else 0).toNat = b - a := by
    by_cases h : (a : Int) < b
    · rw [if_pos h, Int.add_sub_cancel, Int.ediv_one, Int.toNat_sub]
    · rw [if_neg h, Nat.sub_eq_zero_of_le (Int.ofNat_le.mp (Int.not_lt.mp h))]; rfl
  show (List.range (if (a : Int) < b then ((b : Int) - a + 1 - 1) / 1 else 0).toNat).map (fun k : Nat => ((a : Int) + 1 * (k : Int)).toNat) = _
  rw [e]
  exact List.map_congr_left fun k _ => by rw [Int.one_mul]; rfl
theorem fm_clip {α : Type} (l : List α) (a b : Nat) : (sliceRange (min a l.length : Nat) (min b l.length : Nat) 1).filterMap (l[·]?) = (l.drop a).take (b - a) := by
  rw [rng1, fm_range]
  rcases Nat.le_total a l.length with h | h
  · rw [Nat.min_eq_left h]
    rcases Nat.le_total b l.length with h' | h'
    · rw [Nat.min_eq_left h']
    · rw [Nat.min_eq_right h', List.take_of_length_le (Nat.le_of_eq List.length_drop), List.take_of_length_le (Nat.le_trans (Nat.le_of_eq List.length_drop) (Nat.sub_le_sub_right h' a))]
  · rw [Nat.min_eq_right h, List.drop_length, List.drop_of_length_le h, List.take_nil, List.take_nil]
theorem fm_clipU {α : Type} (l : List α) (a : Nat) : (sliceRange (min a l.length : Nat) l.length 1).filterMap (l[·]?) = l.drop a := by
  have h := fm_clip l a l.length
  rwa [Nat.min_self, List.take_of_length_le (Nat.le_of_eq List.length_drop)] at h
theorem fm_all {α : Type} (l : List α) (a b : Nat) (h1 : b ≤ l.length) (hl : (sliceRange a b 1).length = l.length) : (sliceRange a b 1).filterMap (l[·]?) = l := by
  rw [rng1] at hl ⊢
  rw [fm_range]
  rw [List.length_map, List.length_range] at hl
  rw [hl]
  rcases Nat.eq_zero_or_pos a with rfl | h
  · rw [List.drop_zero, List.take_length]
  · have : l.length = 0 := by omega
    rw [List.length_eq_zero_iff.mp this, List.drop_nil, List.take_nil]
noncomputable def clipW (n : Nat) (v : Option Int) (dflt : Nat) : Int := match v with
  | none => dflt
  | some i => max 0 (min (if i < 0 then i + n else i) n)
theorem clipW_ge (n : Nat) (v : Option Int) (d : Nat) : ∃ k : Nat, clipW n v d = k := by
  cases v with
  | none => exact ⟨d, rfl⟩
  | some i => exact Int.eq_ofNat_of_zero_le (Int.le_max_left 0 _)
theorem clipW_le (n : Nat) (v : Option Int) (d : Nat) (h : d ≤ n) : clipW n v d ≤ n := by
  cases v with
  | none => exact Int.ofNat_le.mpr h
  | some i => exact Int.max_le.mpr ⟨Int.natCast_nonneg n, Int.min_le_right _ _⟩
theorem clipN (n a d : Nat) : clipW n (some a) d = (min a n : Nat) := by
  show max 0 (min (if (a : Int) < 0 then _ else (a : Int)) (n : Int)) = _
  rw [if_neg (Int.not_lt.mpr (Int.natCast_nonneg a))]
  rcases Nat.le_total a n with h | h
  · rw [Nat.min_eq_left h, Int.min_eq_left (Int.ofNat_le.mpr h), Int.max_eq_right (Int.natCast_nonneg a)]
  · rw [Nat.min_eq_right h, Int.min_eq_right (Int.ofNat_le.mpr h), Int.max_eq_right (Int.natCast_nonneg n)]
theorem lastN (n d : Nat) : clipW n (some (-1)) d = (min (n - 1) n : Nat) := by
  rw [← clipN n (n - 1) d]
  cases n with
  | zero => rfl
  | succ m =>
    show max 0 (min (-1 + ((m : Int) + 1)) _) = max 0 (min (if ((m : Nat) : Int) < 0 then _ else (m : Int)) _)
    rw [if_neg (Int.not_lt.mpr (Int.natCast_nonneg m)), Int.add_comm, Int.add_neg_cancel_right]
theorem idxW (n : Nat) (a b : Option Int) : Builtin.Str.strSliceIndices a b 1 n = sliceRange (clipW n a 0) (clipW n b n) 1 := by
  cases a <;> cases b <;> rfl
theorem sliceW_eq (x : Wd) (a b : Option Int) : sliceW x a b = (sliceRange (clipW x.length a 0) (clipW x.length b x.length) 1).filterMap (x[·]?) := by
  unfold sliceW Txt.slice
  have e : (tx x).length = x.length := tx_len x
  rw [e, idxW]
  obtain ⟨i, hi⟩ := clipW_ge x.length a 0
  obtain ⟨j, hj⟩ := clipW_ge x.length b x.length
  have h := clipW_le x.length b x.length (Nat.le_refl _)
  rw [hj] at h
  rw [hi, hj]
  by_cases hc : ((1 : Int) == 1 && (sliceRange i j 1).length == x.length) = true
  · rw [if_pos hc, fm_all x i j (Int.ofNat_le.mp h) (eq_of_beq (Bool.and_eq_true_iff.mp hc).2)]
    rfl
  · rw [if_neg hc]
    simp only [tx, List.getElem?_toArray]
theorem sliceW_ss (x : Wd) (a b : Int) (h0 : 0 ≤ a) (h1 : 0 ≤ b) : sliceW x (some a) (some b) = (x.drop a.toNat).take (b - a).toNat := by
  obtain ⟨a, rfl⟩ := Int.eq_ofNat_of_zero_le h0
  obtain ⟨b, rfl⟩ := Int.eq_ofNat_of_zero_le h1
  rw [sliceW_eq, clipN, clipN, fm_clip, Int.toNat_sub]; rfl
theorem sliceW_sn (x : Wd) (a : Int) (h0 : 0 ≤ a) : sliceW x (some a) none = x.drop a.toNat := by
  obtain ⟨a, rfl⟩ := Int.eq_ofNat_of_zero_le h0
  rw [sliceW_eq, clipN]
  exact fm_clipU x a
theorem sliceW_ns (x : Wd) (b : Int) (h1 : 0 ≤ b) : sliceW x none (some b) = x.take b.toNat := by
  obtain ⟨b, rfl⟩ := Int.eq_ofNat_of_zero_le h1
  rw [sliceW_eq, clipN]
  have h := fm_clip x 0 b
  rwa [Nat.zero_min] at h
theorem sliceW_last (x : Wd) : sliceW x (some (-1)) none = x.drop (x.length - 1) := by
  rw [sliceW_eq, lastN]
  exact fm_clipU x _
theorem bnd (n : Nat) (a b : Option Int) : sliceBounds a b none n = (clipW n a 0, clipW n b n, 1) := by
  cases a <;> cases b <;> rfl
theorem pickD_eq {α : Type} (l : List α) (a b : Option Int) : pickD l a b none = (sliceRange (clipW l.length a 0) (clipW l.length b l.length) 1).filterMap (l[·]?) := by
  unfold pickD; rw [bnd]
theorem pickD_sn {α : Type} (l : List α) (a : Int) (h0 : 0 ≤ a) : pickD l (some a) none none = l.drop a.toNat := by
  obtain ⟨a, rfl⟩ := Int.eq_ofNat_of_zero_le h0
  rw [pickD_eq, clipN]
  exact fm_clipU l a
theorem pickD_init {α : Type} (l : List α) : pickD l none (some (-1)) none = l.take (l.length - 1) := by
  rw [pickD_eq, lastN]
  have h := fm_clip l 0 (l.length - 1)
  rwa [Nat.zero_min] at h
noncomputable def evens {α : Type} : List α → List α
  | [] => []
  | [a] => [a]
  | a :: _ :: l => a :: evens l
end

section
-- P8
noncomputable def glueW (sep : Wd) : List Wd → Wd
  | [] => []
  | [x] => x
  | x :: rest => x ++ sep ++ glueW sep rest
theorem join_tx (sep : Wd) : ∀ ws : List Wd, PySem.Str.join (tx sep) (ws.map tx) = tx (glueW sep ws)
  | [] => rfl
  | [x] => rfl
  | x :: y :: r => by
    show tx x ++ tx sep ++ PySem.Str.join (tx sep) ((y :: r).map tx) = tx (x ++ sep ++ glueW sep (y :: r))
    rw [join_tx sep (y :: r), tx_add, tx_add]
theorem glueW_nil : ∀ ws : List Wd, glueW [] ws = ws.flatten
  | [] => rfl
  | [x] => by simp [glueW]
  | x :: y :: r => by
    show x ++ [] ++ glueW [] (y :: r) = _
    rw [glueW_nil (y :: r)]; simp
theorem VRs.strs {N : Fz} : ∀ {ws : List Wd} {vs : List Value}, VRs N vs (ws.map .str) → ∃ l : List (PySem.Str × Tok), vs = strValues l ∧ l.map (·.1) = ws.map tx ∧ ∀ p ∈ l, p.2 ≠ 0 ∧ p.2 < N.b
  | [], _, h => by cases h; exact ⟨[], rfl, rfl, fun p hp => by cases hp⟩
  | w :: ws, _, h => by
    cases h with
    | cons r rs =>
      refine absP fun _ kk => ?_
      obtain ⟨l, e1, e2, e3⟩ := VRs.strs rs
      refine kk ?_
      clear kk
      refine VR.strE r ?_
      · intro t h1 h2
        refine ⟨(tx w, t) :: l, by rw [e1]; rfl, by simp [e2], fun p hp => ?_⟩
        rcases List.mem_cons.mp hp with rfl | hp
        · exact ⟨h1, h2⟩
        · exact e3 p hp
section
variable {γ : Fx} {N : Fz} {F : Rw} {S : St} {Ξ : Exc → Cells → Prop} {Φ : D → St → Prop} {Ψ : Bool → St → Prop} {a b i : Int} {x y : Wd} {ws : List Wd} {ds : List D} {d : D} {c : Addr} {κ' : Cells}
noncomputable def total (sep : Wd) (ws : List Wd) : Nat := (ws.map List.length).sum + ws.length * sep.length
theorem join_fit {l : List (PySem.Str × Tok)} (e : l.map (·.1) = ws.map tx) (ht : total x ws ≤ 10000000) : Builtin.Str.tooLong ((l.map (·.1)).toArray.foldl (fun a p => a + p.length + (tx x).length) 0) = false := by
  rw [StrLaws.joinTotal, e]
  unfold total at ht
  have h1 : ((ws.map tx).map fun p => p.length) = ws.map List.length := by
    rw [List.map_map]
    exact List.map_congr_left fun w _ => tx_len w
  rw [h1, List.length_map, tx_len]
  unfold Builtin.Str.tooLong
  simp [sizeLine_eq]
  omega
theorem join_post {l : List (PySem.Str × Tok)} {hp : Heap} {tk : Nat} {Q E : Value → Shared → Prop} (sat : Sat γ N F S hp tk) (C : Cont γ N F RV Φ Ξ Q E) (e : l.map (·.1) = ws.map tx) (ht : total x ws ≤ 10000000) (hl : ∀ p ∈ l, p.2 ≠ 0 ∧ p.2 < N.b)
    (h : Φ (.str (glueW x ws)) S) : (joinMade (tx x) l).post Q (γ.mk' hp tk) := by
  have fit := joinFit_length (join_fit e ht)
  have e2 : Txt.join (tx x) (l.map (·.1)) = tx (glueW x ws) := by
    show Builtin.Str.glued _ _ = _
    rw [StrLaws.glued_eq_join, e, join_tx]
  rw [e2] at fit
  rcases l with _ | ⟨p, _ | ⟨q, r⟩⟩
  · show (Made.str (Builtin.Str.glued (tx x) [])).post Q _
    have e3 : Builtin.Str.glued (tx x) [] = tx (glueW x ws) := e2
    rw [e3]
    exact ⟨fit, C.str sat h⟩
  · cases ws with
    | nil => cases e
    | cons w r => cases r with
      | cons => simp at e
      | nil =>
        simp only [List.map_cons, List.map_nil, List.cons.injEq, and_true] at e
        obtain ⟨p1, p2⟩ := p
        simp only at e
        subst e
        exact C.go sat (.str _ _ (hl _ (.head _)).1 (hl _ (.head _)).2) h
  · show (Made.str (Builtin.Str.glued (tx x) ((p :: q :: r).map (·.1)))).post Q _
    have e3 : Builtin.Str.glued (tx x) ((p :: q :: r).map (·.1)) = tx (glueW x ws) := e2
    rw [e3]
    exact ⟨fit, C.str sat h⟩
theorem m_join_t (ht : total x ws ≤ 10000000) (h : Φ (.str (glueW x ws)) S) : WPC γ (.builtin "str.join") [.str x, .tup (ws.map .str)] S Φ Ξ := fun N vs rs F hp tk sat Q E C => by
  refine VRs.consE rs ?_
  · intro _ _ r1 rs; refine VRs.consE rs ?_
    · intro _ _ r2 rs
      (first | refine VRs.nilE rs ?_ | cases rs)
      refine absP fun _ kk => ?_
      obtain ⟨a, vs, rfl, il, rs⟩ := r2.tyTup sat.fros
      refine kk ?_
      clear kk
      (first | (refine VR.intE r1 ?_; intro _) | (refine VR.strE r1 ?_; intro _ _ _) | refine VR.boolE r1 ?_ | refine VR.noneE r1 ?_ | refine VR.refE r1 ?_ | refine VR.valE r1 ?_ | (refine VR.strxE r1 ?_; intro _) | cases r1)
      refine absP fun _ kk => ?_
      obtain ⟨l, rfl, e2, e3⟩ := rs.strs
      refine kk ?_
      clear kk
      refine absP fun _ kk => ?_
      obtain ⟨o, ho, hc, n, hd⟩ := il
      refine kk ?_
      clear kk
      exact call_meets PySem.F.slot_str_join (typeIs_str _ _ _) PySem.F.entry_str_join (PySem.F.args_str_join_2 _ _) (meets_str_join_tuple (tx x) _ a l (join_fit e2 ht)) ⟨⟨o, n, ho, hc, hd⟩, join_post sat C e2 ht e3 h⟩
theorem fdiv_i (hb : 0 < b) (hs : b < 1000) (h : Φ (.int (Int.fdiv a b)) S) : WPBin γ .FloorDiv (.int a) (.int b) S Φ Ξ := fun N v w r q F hp tk sat Q E C => by
  (first | (refine VR.intE r ?_; intro _) | (refine VR.strE r ?_; intro _ _ _) | refine VR.boolE r ?_ | refine VR.noneE r ?_ | refine VR.refE r ?_ | refine VR.valE r ?_ | (refine VR.strxE r ?_; intro _) | cases r); (first | (refine VR.intE q ?_; intro _) | (refine VR.strE q ?_; intro _ _ _) | refine VR.boolE q ?_ | refine VR.noneE q ?_ | refine VR.refE q ?_ | refine VR.valE q ?_ | (refine VR.strxE q ?_; intro _) | cases q)
  refine floordiv_int (by omega) (C.go sat (.int _ _) h) (.inl ?_)
  unfold Builtin.divisionGoesByPylong
  have : ¬ ((if (b == 0) = true then 0 else b.natAbs.log2 / 30 + 1) > 300) := by
    have h1 : b.natAbs.log2 < 10 := by
      rw [Nat.log2_lt (by omega)]
      omega
    split <;> omega
  simp only [decide_eq_false this, Bool.false_and]
end
end

section
-- P9
section
variable {prog : Program} {w : World} {A : Around} {E : Value → Shared → Prop} {s : Shared}
theorem slice_m1 {sl : Addr} {u : Tok} {Q : Int × Int × Nat → Shared → Prop} (hs : s.heap.IsSliceOf sl .none (.int (-1) u) .none) (h : Q (0, 1, 3) s) :
    wpAny (model prog w) A (Builtin.Slice.sliceApplied (.ref sl) (pure (4 : Int))) Q E s := by
  refine absP fun _ kk => ?_
  obtain ⟨os, hos, hcs, hds⟩ := id hs
  refine kk ?_
  clear kk
  unfold Builtin.Slice.sliceApplied Builtin.Slice.sliceFields
  refine wpAny_bind (wpAny_bind (wpAny_field hos hds (x := .none) rfl (wpAny_bind (wpAny_field hos hds (x := .int (-1) u) rfl (wpAny_bind (wpAny_field hos hds (x := .none) rfl (wpAny_pure ?_)))))))
  refine wpAny_bind (PyProof.Rows.slicePart_none ?_)
  show wpAny _ _ (if ((1 : Int) == 0) = true then _ else _) _ _ s
  rw [if_neg (by decide)]
  refine wpAny_bind (PyProof.Rows.slicePart_none (wpAny_bind (PyProof.Rows.slicePart_int (wpAny_bind (wpAny_pure ?_)))))
  have e1 : Builtin.Slice.sliceAdjust none (some (-1)) 1 4 = (0, 3) := by decide +kernel
  have e2 : Builtin.Slice.slicePlaces 0 3 1 = 3 := by decide +kernel
  show wpAny _ _ (match Builtin.Slice.sliceAdjust none (some (-1)) 1 4 with | (lo, hi) => pure (lo, (1 : Int), Builtin.Slice.slicePlaces lo hi 1)) _ _ s
  rw [e1]
  show wpAny _ _ (pure ((0 : Int), (1 : Int), Builtin.Slice.slicePlaces 0 3 1)) _ _ s
  rw [e2]
  exact wpAny_pure h
theorem getItem_m1 {t sl : Addr} {a b c d : Value} {u : Tok} {Q : Value → Shared → Prop} (ht : PyProof.Rows.IsTup s.heap t #[a, b, c, d]) (hs : s.heap.IsSliceOf sl .none (.int (-1) u) .none)
    (h : Q (.ref s.heap.objs.size) { s with heap := s.heap.push { cls := .type "tuple", data := .seq #[a, b, c] } }) : wpAny (model prog w) A (getItem (.ref t) (.ref sl)) Q E s := by
  refine absP fun _ kk => ?_
  obtain ⟨os, hos, hcs, hds⟩ := id hs
  refine kk ?_
  clear kk
  have hTs : s.TypeIs (.ref sl) "slice" := ⟨os, hos, hcs⟩
  unfold getItem
  try with_reducible refine wpAny_holding ?_
  first | refine wpAny_bind (wpAny_pure ?_) | skip
  refine wpAny_bind (wpAny_sequenceKey ht.typeIs (by decide) ?_)
  refine wpAny_bind (wpAny_callSpecial?_slot (name := Str.ofString "__getitem__") ht.typeIs slot_tuple_getitem
    (wpAny_call_entry slot_tuple_getitem ht.typeIs entry_tuple_getitem ?_ (args_tuple_getitem _ _)))
  show wpAny _ _ (Builtin.Tuple.tupleItemsOf (.ref t) >>= _) _ _ s
  refine wpAny_bind (PyProof.Rows.tupleItemsOf_ ht ?_)
  refine wpAny_bind (wpAny_typeOf hTs ?_)
  rw [if_pos (by decide)]
  refine wpAny_bind (slice_m1 hs ?_)
  have hdrop : sizeOk (.seq #[a, b, c]) := by
    show 3 ≤ sizeLine
    rw [sizeLine_eq]; decide
  show wpAny _ _ (if ((0 : Int) == 0 && (1 : Int) == 1 && 3 == 4) = true then _ else _) _ _ s
  rw [if_neg (by decide)]
  first
    | exact wpAny_bind (m := Builtin.Tuple.tupleExact _) (wpAny_newObj_type (wpAny_pure ⟨_, rfl, wpAny_pure h⟩) hdrop)
    | exact wpAny_bind (m := Builtin.Tuple.tupleExact _) (wpAny_newObj_type (wpAny_bind (wpAny_pure (wpAny_pure ⟨_, rfl, wpAny_pure h⟩))) hdrop)
    | exact wpAny_bind (wpAny_bind (m := Builtin.Tuple.tupleExact _) (wpAny_newObj_type (wpAny_pure (wpAny_pure ⟨_, rfl, wpAny_pure h⟩)) hdrop))
    | exact wpAny_bind (wpAny_bind (m := Builtin.Tuple.tupleExact _) (wpAny_newObj_type (wpAny_pure ⟨_, rfl, wpAny_pure h⟩) hdrop))
end
section
variable {γ : Fx} {N : Fz} {F : Rw} {S : St} {Ξ : Exc → Cells → Prop} {Φ : D → St → Prop} {pos p : Pos} {l : Expr} {hi : Expr}
@[elab_as_elim] theorem VR.tup4E {motive : Value → Prop} {N : Fz} {h : Heap} {v : Value} {d1 d2 d3 d4 : D} (r : VR N v (.tup [d1, d2, d3, d4])) (hN : ∀ p ∈ N.l, h.get? p.1 = some p.2)
    (f : ∀ a a1 a2 a3 a4, h.IsTuple a [a1, a2, a3, a4].toArray → VR N a1 d1 → VR N a2 d2 → VR N a3 d3 → VR N a4 d4 → motive (.ref a)) : motive v := by
  refine absP fun _ kk => ?_
  obtain ⟨a, vs, rfl, il, rs⟩ := r.tyTup hN
  refine kk ?_
  clear kk
  cases rs with
  | cons q1 rs => cases rs with
    | cons q2 rs => cases rs with
      | cons q3 rs => cases rs with
        | cons q4 rs => cases rs; exact f _ _ _ _ _ il q1 q2 q3 q4
theorem E_slice4 (h : WPE γ l S (fun d S₁ => WPP γ (some hi) S₁ (fun b S₂ => ∃ d₁ d₂ d₃ d₄, d = .tup [d₁, d₂, d₃, d₄] ∧ b = some (-1) ∧ Φ (.tup [d₁, d₂, d₃]) S₂) Ξ) Ξ) : WPE γ (.Subscript l (.Slice none (some hi) none p) pos) S Φ Ξ := fun N F hp tk sat Q E C => by
  refine Subscript_ (h N F hp tk sat _ E (C.then fun N₁ v₁ d₁ S₁ h₁ tk₁ le₁ sat₁ r₁ k₁ => ?_))
  refine wpAny_Slice ?_
  show wpAny _ _ (pure Value.none) _ _ _
  refine wpAny_pure ?_
  refine k₁ N₁ F h₁ tk₁ sat₁ _ E ((C.mono le₁).then fun N₃ v₃ d₃ S₃ h₃ tk₃ le₃ sat₃ r₃ k₃ => ?_)
  refine absP fun _ kk => ?_
  obtain ⟨e₁, e₂, e₃, e₄, rfl, rfl, k⟩ := k₃
  refine kk ?_
  clear kk
  show wpAny _ _ (pure Value.none) _ _ _
  refine wpAny_pure ?_
  have le := le₁.trans le₃
  have r := VR.mono le₃ r₁
  cases r₃ with
  | int _ t =>
    have sat₅ := sat₃.push { cls := .type "slice", data := .fields #[.none, .int (-1) t, .none] }
    refine r.tup4E sat₅.fros fun a a1 a2 a3 a4 il q1 q2 q3 q4 => ?_
    refine wp_tail (T := "tuple") (let ⟨o, ho, hc, _⟩ := il; ⟨o, ho, hc⟩) PySem.F.slot_tuple_getitem.lookup (getItem_m1 (u := t) (let ⟨o, ho, hc, n, hd⟩ := il; ⟨o, ho, hc, n, hd⟩) (Heap.IsSliceOf.new ..) ?_)
    exact C.ok _ _ _ S₃ _ tk₃ (le.trans Le.cons) (sat₅.pushN { cls := .type "tuple", data := .seq #[a1, a2, a3] }) (.tup (n := 0) (vs := [a1, a2, a3]) (.head _) rfl rfl ((VRs.cons q1 (.cons q2 (.cons q3 .nil))).mono Le.cons)) k
end
end

section
-- R1
theorem c33 {w : World} {h : Heap} (s : Says w h) : h.get? 33 = some (excClassObj "Raised" "Raised" 33 32 [.type "Exception"] [.type "Exception", .type "BaseException", .type "object"] true [] [] false none none (some (.ref 15)) none (some (.str "Raised" 189)) (some (.str "Raised" 197)) (some (.bool true)) "Exception.__new__") :=
  s.K 33 _ (by kernel_rfl)
theorem c54 {w : World} {h : Heap} (s : Says w h) : h.get? 54 = some (excClassObj "Nest" "Nest" 54 53 [.type "object"] [.type "object"] true [] [] false none none none none (some (.str "Nest" 233)) (some (.str "Nest" 241)) (some (.bool true)) "object.__new__") :=
  s.K 54 _ (by kernel_rfl)
noncomputable def es32 (P : Params) : Array DictEntry := #[ent P "__module__" 196 (.str "tclcore.faults" 187), ent P "__firstlineno__" 200 (.int 2 199), ent P "__init__" 215 (.ref 30), ent P "__static_attributes__" 225 (.ref 31), ent P "__weakref__" 227 (.ref 34), ent P "__doc__" 228 .none]
noncomputable def es53 (P : Params) : Array DictEntry := #[ent P "__module__" 240 (.str "tclcore.faults" 187), ent P "__firstlineno__" 244 (.int 15 243), ent P "__init__" 256 (.ref 51), ent P "__static_attributes__" 261 (.ref 52), ent P "__dict__" 263 (.ref 55), ent P "__weakref__" 265 (.ref 56), ent P "__doc__" 266 .none]
theorem strKeys32 (P : Params) : StrKeys (es32 P) := fun e he => by
  simp only [es32, Array.mem_def, List.mem_cons, List.not_mem_nil, or_false] at he
  rcases he with rfl | rfl | rfl | rfl | rfl | rfl <;> exact ⟨_, _, rfl⟩
theorem strKeys53 (P : Params) : StrKeys (es53 P) := fun e he => by
  simp only [es53, Array.mem_def, List.mem_cons, List.not_mem_nil, or_false] at he
  rcases he with rfl | rfl | rfl | rfl | rfl | rfl | rfl <;> exact ⟨_, _, rfl⟩
theorem n32 {w : World} {h : Heap} (s : Says w h) : h.Ns 32 fun x => nsFind (es32 w.params) x :=
  ⟨{ cls := .type "dict", data := .dict (es32 w.params) 3 }, es32 w.params, 3, s.K 32 _ (by kernel_rfl), rfl, strKeys32 _, fun _ => rfl⟩
theorem n53 {w : World} {h : Heap} (s : Says w h) : h.Ns 53 fun x => nsFind (es53 w.params) x :=
  ⟨{ cls := .type "dict", data := .dict (es53 w.params) 4 }, es53 w.params, 4, s.K 53 _ (by kernel_rfl), rfl, strKeys53 _, fun _ => rfl⟩
theorem i32 (P : Params) : nsFind (es32 P) "__init__" = some (.ref 30) := by kernel_rfl
theorem i53 (P : Params) : nsFind (es53 P) "__init__" = some (.ref 51) := by kernel_rfl
noncomputable abbrev oInitR : Obj := metObj "__init__" "Raised.__init__" (metAt 1) 30 "tclcore.faults" 187 (.ref 23)
noncomputable abbrev oInitN : Obj := metObj "__init__" "Nest.__init__" (metAt 2) 51 "tclcore.faults" 187 (.ref 44)
theorem f30 {w : World} {h : Heap} (s : Says w h) : h.get? 30 = some oInitR := s.K 30 _ (by kernel_rfl)
theorem f51 {w : World} {h : Heap} (s : Says w h) : h.get? 51 = some oInitN := s.K 51 _ (by kernel_rfl)
theorem enter_raw {γ : Fx} {N : Fz} {F : Rw} {ρ : Rho} {κ : Cells} {hp : Heap} {tk : Nat} (sat : Sat γ N F ⟨ρ, κ⟩ hp tk) {a : Addr} {n q : PySem.Str} {d : Arguments × List Stmt × Scope} {mm : PySem.Str} {mt : Tok} {dV : Value} {names : List PySem.Str} {vs bs : List Value} {ds : List D}
    (hn : 1 ≤ γ.n) (hobj : hp.get? a = some (metObj n q d a mm mt dV)) (hcode : hp.CodeRec (.ref (a - 1)) q) (hsc : scopeOk d.2.2 names = true)
    (hb : BindsTo (γ.mk' hp tk) (fnOf n q d.1 d.2.1 d.2.2 dV .none .none (.str mm mt) none (.ref (a - 1)) .none) ⟨vs, []⟩ (names.zip bs)) (rs : VRs N bs ds) {Q : Value → Shared → Prop} {E : Value → Shared → Prop}
    (go : ∀ γ' : Fx, γ'.n = γ.n - 1 → γ'.env.scope = d.2.2 → γ'.cv = [] → γ'.w = γ.w → γ'.B0 = γ.B0 → γ'.s0 = γ.s0 → ∀ h₁ tk₁, tk ≤ tk₁ → Sat γ' N F ⟨(names.zip ds).reverse, κ⟩ h₁ tk₁ →
      (∀ N' F' S' h' tk', Le N N' → Sat γ' N' F' S' h' tk' → Sat γ N' F' ⟨ρ, S'.κ⟩ h' tk') →
      wpAny (md γ'.w) γ'.A (execs d.2.1 γ'.env) (fun f s' => Q (match f with | .ret v => v | _ => .none) s') (fun _ _ => False) (γ'.mk' h₁ tk₁)) : wpAny (md γ.w) γ.A (call (.ref a) vs) Q E (γ.mk' hp tk) := by
  obtain ⟨m, H, hm⟩ := sat.m
  simp only [scopeOk, Bool.and_eq_true, beq_iff_eq, Bool.not_eq_true'] at hsc
  refine absP fun _ kk => ?_
  obtain ⟨⟨⟨⟨s1, s2⟩, s3⟩, s4⟩, s5⟩ := hsc
  refine kk ?_
  clear kk
  have hloc : ∀ x ∈ names, d.2.2.names.lookup x = some .local := fun x hx => by simpa using List.all_eq_true.mp s5 x hx
  have hroom : γ.A.depth < recursionLimit := Nat.lt_of_le_of_lt (Nat.le_add_right _ _) sat.ok.depth
  refine wpAny_call (codeAny_call_def (fd := fnOf n q d.1 d.2.1 d.2.2 dV .none .none (.str mm mt) none (.ref (a - 1)) .none) (body := d.2.1) (binds := names.zip bs) hroom hobj rfl (sat.ok.gd.lim.keeps H.base) hcode rfl hb
    (fun x hx => by simpa using List.all_eq_true.mp s4 x hx) (fun x hx => hloc _ (zip_names x hx)) (fun h₁ hns hk₁ => ?_) s2 s3 s1)
  generalize henv : callEnv (fnOf n q d.1 d.2.1 d.2.2 dV .none .none (.str mm mt) none (.ref (a - 1)) .none) hp.objs.size a = env'
  have hsc' : env'.scope = d.2.2 := by rw [← henv]; rfl
  have hlo' : env'.locals = hp.objs.size := by rw [← henv]; rfl
  have hfr' : env'.frame = some hp.objs.size := by rw [← henv]; rfl
  have hgl' : env'.globals = mainGlobals := by rw [← henv]; rfl
  have hbu' : env'.builtins = builtinsNs := by rw [← henv]; rfl
  have hok : Fx.Ok ⟨γ.w, γ.B0, γ.s0, γ.A.deeper env', env', (γ.env.locals, m) :: γ.outs, env' :: γ.envs, [], γ.n - 1⟩ := okDeep sat.ok hn (by rw [hsc']; exact s1) hgl' hbu' hlo' hfr'
  have sat' : ∀ tk', tk ≤ tk' → Sat ⟨γ.w, γ.B0, γ.s0, γ.A.deeper env', env', (γ.env.locals, m) :: γ.outs, env' :: γ.envs, [], γ.n - 1⟩ N F ⟨(names.zip ds).reverse, κ⟩ h₁ tk' := by
    intro tk' htk'
    refine ⟨hok, sat.tok.mono htk', ⟨_, by rw [hlo']; exact H.enter hk₁ hns, fun x d' e => ⟨?_, ?_⟩⟩, fun x d e => by cases e⟩
    · have hx : x ∈ names := zip_names' (List.mem_reverse.mp (mem_of_lookup e))
      show env'.scope.names.lookup x = _
      rw [hsc']; exact hloc x hx
    · have := zip_lookup (names := names) rs (v0 := []) (d0 := []) (fun _ _ e => by cases e) x d' (by simpa using e)
      simpa using this
  have back : ∀ N' F' S' h' tk', Le N N' → Sat ⟨γ.w, γ.B0, γ.s0, γ.A.deeper env', env', (γ.env.locals, m) :: γ.outs, env' :: γ.envs, [], γ.n - 1⟩ N' F' S' h' tk' → Sat γ N' F' ⟨ρ, S'.κ⟩ h' tk' := fun N' F' S' h' tk' le sat₁ => backDeep sat hm le sat₁ (.refl _)
  exact wpAny_mono (go ⟨γ.w, γ.B0, γ.s0, γ.A.deeper env', env', (γ.env.locals, m) :: γ.outs, env' :: γ.envs, [], γ.n - 1⟩ rfl hsc' rfl rfl rfl rfl h₁ _ (Nat.le_add_right _ _) (sat' _ (Nat.le_add_right _ _)) back) (fun f s' hq => hq) fun e s' (p : False) => p.elim
end

section
-- R2
open PySem.Builtin PySem.Builtin.ObjectAttr
section
variable {prog : Program} {w : World} {A : Around} {E : Value → Shared → Prop} {h : Heap} {g : Array GenState} {d : Drawn} {t : Nat} {os : OsState}
variable {nm q : PySem.Str} {C N x : Addr} {bs bm : List Value} {sn : List PySem.Str} {sub : List Value} {ab : Bool} {col : Option Bool} {dd : Option Addr} {k0 k1 k2 k3 k5 : Option Value} {B newId sa owner : String}
  {mN : PySem.Str → Option Value} {name : PySem.Str} {v : Value} {ox : Obj}
theorem set_first {Q : Unit → Shared → Prop} (SF : StoreFacts B bm sa owner)
    (hC : h.get? C = some (excClassObj nm q C N bs bm true sn sub ab col dd k0 k1 k2 k3 k5 newId)) (hn : h.Ns N mN) (hns : mN "__setattr__" = none) (hna : mN name = none)
    (hB : typeLookup (.type B) name = pure none) (hx : h.get? x = some ox) (hc : ox.cls = .ref C) (hnc : ∀ c, ox.data ≠ .cls c) (hd : ox.dict = none)
    (hq : ∀ h' tk' oD es ep, h'.get? x = some { ox with dict := some h.objs.size } → h'.get? h.objs.size = some oD → oD.data = .dict es ep → StrKeys es → UniqKeys es → (∀ y, nsFind es y = if y = name then some v else none) →
      (∀ b o, b ≠ x → h.get? b = some o → h'.get? b = some o) → Q () ⟨h', g, d, tk', os⟩) :
    wpAny (model prog w) A (setAttr (.ref x) name v) Q E ⟨h, g, d, t, os⟩ := by
  have f3 := SF.slot.bind (.ref x)
  have hpass := SF.passes (.ref x)
  unfold setAttr callSpecial? specialOf
  repeat (any_goals (first | assumption | (with_reducible refine wpAny_loadPart_at hx ?_; rw [hc]) | (with_reducible refine wpAny_typeLookup_exc hC hn SF.mro SF.slot.lookup ?_; rw [hns]) | wp_step))
  refine codeAny_call_builtin SF.slot.plain SF.entry (wpAny_check_sa SF hC hx hc ?_)
  unfold Builtin.«object.__setattr__»
  repeat (first | rw [refuse_eq] | (rw [refuseLoop_ref, hpass]) | (with_reducible refine wpAny_loadPart_at hx ?_; rw [hc]) | with_reducible refine wpAny_mroOf_exc hC ?_ | (with_reducible refine wpAny_typeLookup_exc hC hn SF.mro hB ?_; rw [hna]) | wp_step)
  rw [hd, if_neg (by simp [typeHasDict])]
  split
  · rename_i hcd
    cases hcd
  split
  · rename_i c hcd
    exact absurd hcd (hnc c)
  · have hx₁ : (h.push { cls := .type "dict", data := .dict #[] }).get? x = some ox := Heap.get?_push_of_some _ hx
    have hxs : x ≠ h.objs.size := Nat.ne_of_lt (Heap.lt_size hx)
    refine wpAny_bind (wpAny_alloc' ?_)
    refine wpAny_bind (wpAny_update' hx₁ ?_)
    refine wpAny_pure ?_
    generalize hH : (h.push { cls := .type "dict", data := .dict #[] }).update x (fun o => { cls := o.cls, dict := some h.objs.size, data := o.data, slots := o.slots }) = H
    have keep : ∀ b o, b ≠ x → h.get? b = some o → H.get? b = some o := fun b o hb e => by
      rw [← hH]
      exact (Heap.get?_update_ne _ _ _ _ hb).trans (Heap.get?_push_of_some _ e)
    have hgd : H.get? h.objs.size = some { cls := .type "dict", data := .dict #[] } := by
      rw [← hH]
      exact (Heap.get?_update_ne _ _ _ _ hxs.symm).trans (Heap.get?_push_at rfl rfl)
    have hnd : H.Ns h.objs.size (fun _ => none) := ⟨_, #[], _, hgd, rfl, fun e he => absurd he (by simp), fun _ => rfl⟩
    have hgx : H.get? x = some { ox with dict := some h.objs.size } := by
      rw [← hH]
      refine Heap.get?_update_self _ hx₁ ?_
      have hfr := (Heap.get?_some_iff.mp hx).2
      refine absP fun _ kk => ?_
      obtain ⟨oc, od, odt, osl⟩ := ox
      refine kk ?_
      clear kk
      cases odt <;> first | rfl | exact hfr
    show wpAny _ _ (storeInDict h.objs.size (.str name t) name v) _ _ _
    unfold storeInDict newKeyGuard
    refine wpAny_bind (wpAny_pure (wpAny_bind (wpAny_nsSet1 (Heap.Ns1.of_empty hnd) fun h' hn' hs => ?_)))
    refine absP fun _ kk => ?_
    obtain ⟨oD, esD, epD, hoD, hdD, hcD⟩ := hn'.count (Within.cons name v Within.nil)
    refine kk ?_
    clear kk
    refine wpAny_bind (wpAny_lookBehind hoD (by rw [hdD]; exact pastItsLine_dict (Nat.le_trans hcD (by rw [List.length_cons, List.length_nil, sizeLine_eq]; omega))) ?_)
    wp_walk
    refine absP fun _ kk => ?_
    obtain ⟨o', es, ep, e1, e2, e3, eu, e4⟩ := hn'
    refine kk ?_
    clear kk
    exact hq h' _ o' es ep ((hs.2 x hxs).trans hgx) e1 e2 e3 eu e4 (fun b o hb e => (hs.2 b (Nat.ne_of_lt (Heap.lt_size e))).trans (keep b o hb e))
end
end

section
-- R3
section
variable {B0 : Heap} {nss : Nss} {N : Fz} {F : Rw} {κ : Cells} {h h' : Heap}
theorem Hp.addF (H : Hp B0 nss N F κ h') {a : Addr} {o : Obj} (ha : h'.get? a = some o) (hl : B0.get? a = none) (h1 : ∀ p ∈ nss, p.1 ≠ a) (h2 : ∀ p ∈ N.l, p.1 ≠ a) (h3 : ∀ p ∈ F, p.1 ≠ a) (h4 : ∀ p ∈ κ, p.1 ≠ a) : Hp B0 nss N ((a, o) :: F) κ h' :=
  { H with
    frm := fun p hp => by rcases List.mem_cons.mp hp with rfl | hp; exact ha; exact H.frm p hp
    lowF := fun p hp => by rcases List.mem_cons.mp hp with rfl | hp; exact hl; exact H.lowF p hp
    frd := by
      rw [List.map_cons, List.nodup_cons]
      exact ⟨fun hm => by obtain ⟨q, hq, e⟩ := List.mem_map.mp hm; exact h3 q hq e, H.frd⟩
    nsF := fun p hp q hq => by rcases List.mem_cons.mp hq with rfl | hq; exact h1 p hp; exact H.nsF p hp q hq
    NF := fun p hp q hq => by rcases List.mem_cons.mp hq with rfl | hq; exact h2 p hp; exact H.NF p hp q hq
    FK := fun p hp q hq => by rcases List.mem_cons.mp hp with rfl | hp; exact (h4 q hq).symm; exact H.FK p hp q hq }
theorem Hp.first {x : Addr} {ox ox' oD : Obj} (H : Hp B0 nss N ((x, ox) :: F) κ h) (hk : ∀ b o, b ≠ x → h.get? b = some o → h'.get? b = some o) (hx : h'.get? x = some ox') (hd : h'.get? h.objs.size = some oD) :
    Hp B0 nss N ((h.objs.size, oD) :: (x, ox') :: F) κ h' := by
  have H' := H.turnF hk (Nat.le_of_lt (Heap.lt_size hd)) hx
  refine H'.addF hd (Heap.get?_none_of_le H.big) (fun p hp => Nat.ne_of_lt (H.nsLt hp)) (fun p hp => Nat.ne_of_lt (H.froLt hp)) (fun p hp => ?_) (fun p hp => Nat.ne_of_lt (H.celLt hp))
  rcases List.mem_cons.mp hp with rfl | hp
  · exact Nat.ne_of_lt (H.frmLt (p := (x, ox)) (.head _))
  · exact Nat.ne_of_lt (H.frmLt (.tail _ hp))
theorem Hp.swapF {p q : Addr × Obj} (H : Hp B0 nss N (p :: q :: F) κ h) : Hp B0 nss N (q :: p :: F) κ h :=
  have e : ∀ {r : Addr × Obj}, r ∈ q :: p :: F → r ∈ p :: q :: F := fun hr => by
    rcases List.mem_cons.mp hr with rfl | hr
    · exact .tail _ (.head _)
    · rcases List.mem_cons.mp hr with rfl | hr
      · exact .head _
      · exact .tail _ (.tail _ hr)
  { H with
    frm := fun r hr => H.frm r (e hr)
    lowF := fun r hr => H.lowF r (e hr)
    frd := by
      have := H.frd
      simp only [List.map_cons, List.nodup_cons, List.mem_cons, not_or] at this ⊢
      exact ⟨⟨Ne.symm this.1.1, this.2.1⟩, this.1.2, this.2.2⟩
    nsF := fun a ha r hr => H.nsF a ha r (e hr)
    NF := fun a ha r hr => H.NF a ha r (e hr)
    FK := fun r hr => H.FK r (e hr) }
theorem Hp.turn2F {x d : Addr} {ox ox' od od' : Obj} (H : Hp B0 nss N ((d, od) :: (x, ox) :: F) κ h) (hk : ∀ b o, b ≠ x → b ≠ d → h.get? b = some o → h'.get? b = some o) (hx : h'.get? x = some ox') (hd : h'.get? d = some od') (hz : B0.objs.size ≤ h'.objs.size) :
    Hp B0 nss N ((d, od') :: (x, ox') :: F) κ h' := by
  have hdx : d ≠ x := fun e => by
    have := H.frd
    simp only [List.map_cons, List.nodup_cons, List.mem_cons, not_or] at this
    exact this.1.1 e
  have Hf : ∀ p ∈ F, p.1 ≠ d ∧ p.1 ≠ x := fun p hp => by
    have := H.frd
    simp only [List.map_cons, List.nodup_cons, List.mem_cons, not_or] at this
    exact ⟨fun e => this.1.2 (List.mem_map.mpr ⟨p, hp, e⟩), fun e => this.2.1 (List.mem_map.mpr ⟨p, hp, e⟩)⟩
  have nB : ∀ b o, B0.get? b = some o → b ≠ x ∧ b ≠ d := fun b o e => by
    have h2 : B0.get? d = none := H.lowF (d, od) (.head _)
    have h3 : B0.get? x = none := H.lowF (x, ox) (.tail _ (.head _))
    exact ⟨fun q => (by rw [q, h3] at e; cases e), fun q => (by rw [q, h2] at e; cases e)⟩
  have base : Hp B0 nss N F κ h' :=
    { H.lessF.lessF with
      base := fun b o e => hk b o (nB b o e).1 (nB b o e).2 (H.base b o e)
      ns := fun p hp => let ⟨ob, es, ep, z, r⟩ := H.ns p hp; ⟨ob, es, ep, hk _ _ (H.nsF p hp (x, ox) (.tail _ (.head _))) (H.nsF p hp (d, od) (.head _)) z, r⟩
      fro := fun p hp => hk _ _ (H.NF p hp (x, ox) (.tail _ (.head _))) (H.NF p hp (d, od) (.head _)) (H.fro p hp)
      frm := fun p hp => hk _ _ (Hf p hp).2 (Hf p hp).1 (H.frm p (.tail _ (.tail _ hp)))
      cel := fun p hp => let ⟨ob, a, b⟩ := H.cel p hp; ⟨ob, hk _ _ (H.FK (x, ox) (.tail _ (.head _)) p hp).symm (H.FK (d, od) (.head _) p hp).symm a, b⟩
      big := hz }
  have H1 := base.addF hx (H.lowF (x, ox) (.tail _ (.head _))) (fun p hp => H.nsF p hp (x, ox) (.tail _ (.head _))) (fun p hp => H.NF p hp (x, ox) (.tail _ (.head _))) (fun p hp => (Hf p hp).2) (fun p hp => (H.FK (x, ox) (.tail _ (.head _)) p hp).symm)
  refine H1.addF hd (H.lowF (d, od) (.head _)) (fun p hp => H.nsF p hp (d, od) (.head _)) (fun p hp => H.NF p hp (d, od) (.head _)) (fun p hp => ?_) (fun p hp => (H.FK (d, od) (.head _) p hp).symm)
  rcases List.mem_cons.mp hp with rfl | hp
  · exact fun e => hdx e.symm
  · exact (Hf p hp).1
end
structure Cls (γ : Fx) (C : Addr) (mN : PySem.Str → Option Value) (B : String) : Prop where
  there : ∃ nm q Nn bs bm sn sub ab col dd k0 k1 k2 k3 k5 newId owner, StoreFacts B bm "object.__setattr__" owner ∧ γ.B0.get? C = some (excClassObj nm q C Nn bs bm true sn sub ab col dd k0 k1 k2 k3 k5 newId) ∧ γ.B0.Ns Nn mN
  sa : mN "__setattr__" = none
theorem cls33 {γ : Fx} (s : Says γ.w γ.B0) : Cls γ 33 (fun x => nsFind (es32 γ.w.params) x) "Exception" :=
  ⟨⟨_, _, _, _, _, _, _, _, _, _, _, _, _, _, _, _, _, PySem.F.store_Exception, c33 s, n32 s⟩, by kernel_rfl⟩
theorem cls54 {γ : Fx} (s : Says γ.w γ.B0) : Cls γ 54 (fun x => nsFind (es53 γ.w.params) x) "object" :=
  ⟨⟨_, _, _, _, _, _, _, _, _, _, _, _, _, _, _, _, _, PySem.F.store_object, c54 s, n53 s⟩, by kernel_rfl⟩
inductive Bld (γ : Fx) (N : Fz) (F : Rw) (S : St) (h : Heap) (tk : Nat) (x C : Addr) (dt : Data) (sl : Array (Option Value)) : (PySem.Str → Option Value) → List PySem.Str → Prop
  | bare {ox : Obj} : ox.cls = .ref C → ox.data = dt → ox.slots = sl → ox.dict = none → Sat γ N ((x, ox) :: F) S h tk → Bld γ N F S h tk x C dt sl (fun _ => none) []
  | full {ox od : Obj} {dx : Addr} {es : Array DictEntry} {ep : Nat} {mA : PySem.Str → Option Value} {ns : List PySem.Str} : ox.cls = .ref C → ox.data = dt → ox.slots = sl → ox.dict = some dx → od.data = .dict es ep → StrKeys es → UniqKeys es → (∀ y, nsFind es y = mA y) → Within mA ns →
      Sat γ N ((dx, od) :: (x, ox) :: F) S h tk → Bld γ N F S h tk x C dt sl mA ns
theorem kX {γ : Fx} {N : Fz} {F : Rw} {S : St} {h : Heap} {tk : Nat} {x C : Addr} {o : Obj} (sat : Sat γ N F S h tk) (hC : γ.B0.get? C = some o) (hx : γ.B0.get? x = none) : x ≠ C := fun e => by
  rw [e, hC] at hx; cases hx
theorem attr_step {γ : Fx} {N : Fz} {F : Rw} {S : St} {h : Heap} {tk : Nat} {x C : Addr} {dt : Data} {sl : Array (Option Value)} {mA mN : PySem.Str → Option Value} {ns : List PySem.Str} {B : String} {name : PySem.Str} {D₁ : D} {e : Expr} {p1 p2 pos : Pos} {Q : Flow → Shared → Prop}
    (bld : Bld γ N F S h tk x C dt sl mA ns) (cf : Cls γ C mN B) (hdt : ∀ c, dt ≠ .cls c) (hx : S.ρ.lookup (Str.ofString "self") = some (D.ref x)) (hna : mN name = none) (hB : typeLookup (.type B) name = pure none) (he : WPE γ e S (fun d S₁ => d = D₁ ∧ S₁ = S) NoX) (hns : ns.length ≤ 100)
    (hs : swapsWith e (some (.Attribute (.Name (Str.ofString "self") p1) name p2)) pos.line γ.env = pure false)
    (k : ∀ N' v h' tk', Le N N' → VR N' v D₁ → Bld γ N' F S h' tk' x C dt sl (fun y => if y = name then some v else mA y) (name :: ns) → Q .next (γ.mk' h' tk')) :
    wpAny (md γ.w) γ.A (exec (.Assign [.Attribute (.Name (Str.ofString "self") p1) name p2] e pos) γ.env) Q (fun _ _ => False) (γ.mk' h tk) := by
  refine absP fun _ kk => ?_
  obtain ⟨nm, q, Nn, bs, bm, sn, sub, ab, col, dd, k0, k1, k2, k3, k5, newId, owner, SF, hC, hn⟩ := cf.there
  refine kk ?_
  clear kk
  cases bld with
  | @bare ox c1 c2 c3 c4 sat =>
    refine plainObj_wpAny_Assign_Attribute (he N _ h tk sat _ _ ⟨PassesOwn.never, fun N₁ v d S₁ h₁ tk₁ le₁ sat₁ r₁ p₁ => ?_, fun _ _ _ _ _ _ _ _ _ p => p⟩) hs
    obtain ⟨rfl, rfl⟩ := p₁
    refine E_name hx (Φ := fun d S' => d = .ref x ∧ S' = S₁) ⟨rfl, rfl⟩ (by decide) N₁ _ h₁ tk₁ sat₁ _ _ ⟨PassesOwn.never, fun N₂ u d' S₂ h₂ tk₂ le₂ sat₂ r₂ p₂ => ?_, fun _ _ _ _ _ _ _ _ _ p => p⟩
    obtain ⟨rfl, rfl⟩ := p₂
    (first | (refine VR.intE r₂ ?_; intro _) | (refine VR.strE r₂ ?_; intro _ _ _) | refine VR.boolE r₂ ?_ | refine VR.noneE r₂ ?_ | refine VR.refE r₂ ?_ | refine VR.valE r₂ ?_ | (refine VR.strxE r₂ ?_; intro _) | cases r₂)
    have hxo : h₂.get? x = some ox := sat₂.frm (.head _)
    obtain ⟨m, H, hr⟩ := sat₂.m
    refine wpAny_with_toks (n := tk₂) (Nat.le_refl _) (set_first (t := tk₂) (h := h₂) SF (H.base _ _ hC) (hn.keeps H.base) cf.sa hna hB hxo c1 (fun c => by rw [c2]; exact hdt c) c4 fun h' tk' oD es ep z1 z2 z3 z4 z5 z6 z7 ht => ?_)
    refine k N₂ v h' tk' (le₁.trans le₂) (VR.mono le₂ r₁) ?_
    exact .full (ox := { ox with dict := some h₂.objs.size }) (od := oD) c1 c2 c3 rfl z3 z4 z5 z6 (Within.cons _ _ Within.nil) ⟨sat₂.ok, sat₂.tok.mono ht, ⟨m, H.first z7 z1 z2, hr⟩, sat₂.cv⟩
  | @full ox od dx es ep mA' ns' c1 c2 c3 c4 d1 d2 d3 d4 d5 sat =>
    refine plainObj_wpAny_Assign_Attribute (he N _ h tk sat _ _ ⟨PassesOwn.never, fun N₁ v d S₁ h₁ tk₁ le₁ sat₁ r₁ p₁ => ?_, fun _ _ _ _ _ _ _ _ _ p => p⟩) hs
    obtain ⟨rfl, rfl⟩ := p₁
    refine E_name hx (Φ := fun d S' => d = .ref x ∧ S' = S₁) ⟨rfl, rfl⟩ (by decide) N₁ _ h₁ tk₁ sat₁ _ _ ⟨PassesOwn.never, fun N₂ u d' S₂ h₂ tk₂ le₂ sat₂ r₂ p₂ => ?_, fun _ _ _ _ _ _ _ _ _ p => p⟩
    obtain ⟨rfl, rfl⟩ := p₂
    (first | (refine VR.intE r₂ ?_; intro _) | (refine VR.strE r₂ ?_; intro _ _ _) | refine VR.boolE r₂ ?_ | refine VR.noneE r₂ ?_ | refine VR.refE r₂ ?_ | refine VR.valE r₂ ?_ | (refine VR.strxE r₂ ?_; intro _) | cases r₂)
    have hxo : h₂.get? x = some ox := sat₂.frm (.tail _ (.head _))
    have hdo : h₂.get? dx = some od := sat₂.frm (.head _)
    obtain ⟨m, H, hr⟩ := sat₂.m
    have hdx : dx ≠ x := fun e => by
      have := H.frd
      simp only [List.map_cons, List.nodup_cons, List.mem_cons, not_or] at this
      exact this.1.1 e
    have hxB : γ.B0.get? x = none := H.lowF (x, ox) (.tail _ (.head _))
    refine wpAny_with_toks (n := tk₂) (Nat.le_refl _) (store_attr (t := tk₂) (h := h₂) (ns := ns) SF (H.base _ _ hC) (hn.keeps H.base) cf.sa hna hB (kX sat₂ hC hxB) ⟨ox, hxo, c1, (fun c => by rw [c2]; exact hdt c), .inr ⟨dx, c4, hdx, od, es, ep, hdo, d1, d2, d3, d4⟩⟩
      (fun h' tk' I' hk hsame ht => ?_) d5 (by rw [sizeLine_eq]; omega))
    have hL : γ.env.locals < h'.objs.size := by
      refine absP fun _ kk => ?_
      obtain ⟨ol, esl, epl, l1, _⟩ := H.ns (γ.env.locals, m) (.head _)
      refine kk ?_
      clear kk
      exact Heap.lt_size (hk _ _ (H.nsF _ (.head _) (x, ox) (.tail _ (.head _))) (fun o₀ d₀ e1 e2 => by rw [hxo] at e1; cases e1; rw [c4] at e2; cases e2; exact H.nsF _ (.head _) (dx, od) (.head _)) l1)
    refine absP fun _ kk => ?_
    obtain ⟨o₁, x1, x2, x3, x4, x5⟩ := hsame ox hxo
    refine kk ?_
    clear kk
    refine absP fun _ kk => ?_
    obtain ⟨o₂, y1, y2, y3, y4⟩ := I'
    refine kk ?_
    clear kk
    have : o₁ = o₂ := Option.some.inj (x1.symm.trans y1)
    subst this
    have hd' := x5 dx c4
    rcases y4 with ⟨y5, _⟩ | ⟨dx', y5, y6, y7⟩
    · rw [hd'] at y5; cases y5
    · have : dx = dx' := Option.some.inj (hd'.symm.trans y5)
      subst this
      refine absP fun _ kk => ?_
      obtain ⟨od', es', ep', w1, w2, w3, w4, w5⟩ := y7
      refine kk ?_
      clear kk
      refine k N₂ v h' tk' (le₁.trans le₂) (VR.mono le₂ r₁) ?_
      exact .full (ox := o₁) (od := od') (x2.trans c1) (x3.trans c2) (x4.trans c3) hd' w2 w3 w4 w5 (Within.cons _ _ d5) ⟨sat₂.ok, sat₂.tok.mono ht, ⟨m, H.turn2F (fun b o hb hb' eo => hk b o hb (fun o₀ d₀ e1 e2 => by rw [hxo] at e1; cases e1; rw [c4] at e2; cases e2; exact hb') eo) x1 w1 (Nat.le_trans (H.lowS _ (.head _)) (Nat.le_of_lt hL)), hr⟩, sat₂.cv⟩
end

section
-- T0
noncomputable abbrev fi_error : FnI := ⟨"error", 3, 67, "tclcore.faults", 187, .ref 60⟩
theorem fm_error : fi_error ∈ fns := List.mem_of_getElem? (show fns[0]? = some fi_error from rfl)
theorem fk_error : ∀ P, (K P).lookup fi_error.a = some (fnObj fi_error.n (defAt fi_error.i) fi_error.a fi_error.m fi_error.t fi_error.d) := fun P => by kernel_rfl
noncomputable abbrev fi_wrong_args : FnI := ⟨"wrong_args", 4, 74, "tclcore.faults", 187, .none⟩
theorem fm_wrong_args : fi_wrong_args ∈ fns := List.mem_of_getElem? (show fns[1]? = some fi_wrong_args from rfl)
theorem fk_wrong_args : ∀ P, (K P).lookup fi_wrong_args.a = some (fnObj fi_wrong_args.n (defAt fi_wrong_args.i) fi_wrong_args.a fi_wrong_args.m fi_wrong_args.t fi_wrong_args.d) := fun P => by kernel_rfl
noncomputable abbrev fi_listing : FnI := ⟨"listing", 5, 81, "tclcore.faults", 187, .none⟩
theorem fm_listing : fi_listing ∈ fns := List.mem_of_getElem? (show fns[2]? = some fi_listing from rfl)
theorem fk_listing : ∀ P, (K P).lookup fi_listing.a = some (fnObj fi_listing.n (defAt fi_listing.i) fi_listing.a fi_listing.m fi_listing.t fi_listing.d) := fun P => by kernel_rfl
noncomputable abbrev fi_pick : FnI := ⟨"pick", 6, 88, "tclcore.faults", 187, .none⟩
theorem fm_pick : fi_pick ∈ fns := List.mem_of_getElem? (show fns[3]? = some fi_pick from rfl)
theorem fk_pick : ∀ P, (K P).lookup fi_pick.a = some (fnObj fi_pick.n (defAt fi_pick.i) fi_pick.a fi_pick.m fi_pick.t fi_pick.d) := fun P => by kernel_rfl
noncomputable abbrev fi_in_set : FnI := ⟨"in_set", 8, 95, "tclcore.glob", 304, .none⟩
theorem fm_in_set : fi_in_set ∈ fns := List.mem_of_getElem? (show fns[4]? = some fi_in_set from rfl)
theorem fk_in_set : ∀ P, (K P).lookup fi_in_set.a = some (fnObj fi_in_set.n (defAt fi_in_set.i) fi_in_set.a fi_in_set.m fi_in_set.t fi_in_set.d) := fun P => by kernel_rfl
noncomputable abbrev fi_behind_one : FnI := ⟨"behind_one", 9, 102, "tclcore.glob", 304, .none⟩
theorem fm_behind_one : fi_behind_one ∈ fns := List.mem_of_getElem? (show fns[5]? = some fi_behind_one from rfl)
theorem fk_behind_one : ∀ P, (K P).lookup fi_behind_one.a = some (fnObj fi_behind_one.n (defAt fi_behind_one.i) fi_behind_one.a fi_behind_one.m fi_behind_one.t fi_behind_one.d) := fun P => by kernel_rfl
noncomputable abbrev fi_put_places : FnI := ⟨"put_places", 10, 109, "tclcore.glob", 304, .none⟩
theorem fm_put_places : fi_put_places ∈ fns := List.mem_of_getElem? (show fns[6]? = some fi_put_places from rfl)
theorem fk_put_places : ∀ P, (K P).lookup fi_put_places.a = some (fnObj fi_put_places.n (defAt fi_put_places.i) fi_put_places.a fi_put_places.m fi_put_places.t fi_put_places.d) := fun P => by kernel_rfl
noncomputable abbrev fi_folded : FnI := ⟨"folded", 11, 116, "tclcore.glob", 304, .none⟩
theorem fm_folded : fi_folded ∈ fns := List.mem_of_getElem? (show fns[7]? = some fi_folded from rfl)
theorem fk_folded : ∀ P, (K P).lookup fi_folded.a = some (fnObj fi_folded.n (defAt fi_folded.i) fi_folded.a fi_folded.m fi_folded.t fi_folded.d) := fun P => by kernel_rfl
noncomputable abbrev fi_fits : FnI := ⟨"fits", 12, 124, "tclcore.glob", 304, .ref 117⟩
theorem fm_fits : fi_fits ∈ fns := List.mem_of_getElem? (show fns[8]? = some fi_fits from rfl)
theorem fk_fits : ∀ P, (K P).lookup fi_fits.a = some (fnObj fi_fits.n (defAt fi_fits.i) fi_fits.a fi_fits.m fi_fits.t fi_fits.d) := fun P => by kernel_rfl
noncomputable abbrev fi_is_blank : FnI := ⟨"is_blank", 14, 131, "tclcore.numbers", 364, .none⟩
theorem fm_is_blank : fi_is_blank ∈ fns := List.mem_of_getElem? (show fns[9]? = some fi_is_blank from rfl)
theorem fk_is_blank : ∀ P, (K P).lookup fi_is_blank.a = some (fnObj fi_is_blank.n (defAt fi_is_blank.i) fi_is_blank.a fi_is_blank.m fi_is_blank.t fi_is_blank.d) := fun P => by kernel_rfl
noncomputable abbrev fi_backslash : FnI := ⟨"backslash", 19, 159, "tclcore.words", 381, .none⟩
theorem fm_backslash : fi_backslash ∈ fns := List.mem_of_getElem? (show fns[10]? = some fi_backslash from rfl)
theorem fk_backslash : ∀ P, (K P).lookup fi_backslash.a = some (fnObj fi_backslash.n (defAt fi_backslash.i) fi_backslash.a fi_backslash.m fi_backslash.t fi_backslash.d) := fun P => by kernel_rfl
noncomputable abbrev fi_check_behind : FnI := ⟨"check_behind", 21, 166, "tclcore.lists", 417, .none⟩
theorem fm_check_behind : fi_check_behind ∈ fns := List.mem_of_getElem? (show fns[11]? = some fi_check_behind from rfl)
theorem fk_check_behind : ∀ P, (K P).lookup fi_check_behind.a = some (fnObj fi_check_behind.n (defAt fi_check_behind.i) fi_check_behind.a fi_check_behind.m fi_check_behind.t fi_check_behind.d) := fun P => by kernel_rfl
noncomputable abbrev fi_braced_element : FnI := ⟨"braced_element", 22, 173, "tclcore.lists", 417, .none⟩
theorem fm_braced_element : fi_braced_element ∈ fns := List.mem_of_getElem? (show fns[12]? = some fi_braced_element from rfl)
theorem fk_braced_element : ∀ P, (K P).lookup fi_braced_element.a = some (fnObj fi_braced_element.n (defAt fi_braced_element.i) fi_braced_element.a fi_braced_element.m fi_braced_element.t fi_braced_element.d) := fun P => by kernel_rfl
noncomputable abbrev fi_quoted_element : FnI := ⟨"quoted_element", 23, 180, "tclcore.lists", 417, .none⟩
theorem fm_quoted_element : fi_quoted_element ∈ fns := List.mem_of_getElem? (show fns[13]? = some fi_quoted_element from rfl)
theorem fk_quoted_element : ∀ P, (K P).lookup fi_quoted_element.a = some (fnObj fi_quoted_element.n (defAt fi_quoted_element.i) fi_quoted_element.a fi_quoted_element.m fi_quoted_element.t fi_quoted_element.d) := fun P => by kernel_rfl
noncomputable abbrev fi_bare_element : FnI := ⟨"bare_element", 24, 187, "tclcore.lists", 417, .none⟩
theorem fm_bare_element : fi_bare_element ∈ fns := List.mem_of_getElem? (show fns[14]? = some fi_bare_element from rfl)
theorem fk_bare_element : ∀ P, (K P).lookup fi_bare_element.a = some (fnObj fi_bare_element.n (defAt fi_bare_element.i) fi_bare_element.a fi_bare_element.m fi_bare_element.t fi_bare_element.d) := fun P => by kernel_rfl
noncomputable abbrev fi_find_element : FnI := ⟨"find_element", 25, 194, "tclcore.lists", 417, .none⟩
theorem fm_find_element : fi_find_element ∈ fns := List.mem_of_getElem? (show fns[15]? = some fi_find_element from rfl)
theorem fk_find_element : ∀ P, (K P).lookup fi_find_element.a = some (fnObj fi_find_element.n (defAt fi_find_element.i) fi_find_element.a fi_find_element.m fi_find_element.t fi_find_element.d) := fun P => by kernel_rfl
noncomputable abbrev fi_split_list : FnI := ⟨"split_list", 26, 201, "tclcore.lists", 417, .none⟩
theorem fm_split_list : fi_split_list ∈ fns := List.mem_of_getElem? (show fns[16]? = some fi_split_list from rfl)
theorem fk_split_list : ∀ P, (K P).lookup fi_split_list.a = some (fnObj fi_split_list.n (defAt fi_split_list.i) fi_split_list.a fi_split_list.m fi_split_list.t fi_split_list.d) := fun P => by kernel_rfl
noncomputable abbrev fi_is_fit : FnI := ⟨"is_fit", 28, 208, "tclcore.switchcmd", 477, .none⟩
theorem fm_is_fit : fi_is_fit ∈ fns := List.mem_of_getElem? (show fns[17]? = some fi_is_fit from rfl)
theorem fk_is_fit : ∀ P, (K P).lookup fi_is_fit.a = some (fnObj fi_is_fit.n (defAt fi_is_fit.i) fi_is_fit.a fi_is_fit.m fi_is_fit.t fi_is_fit.d) := fun P => by kernel_rfl
noncomputable abbrev fi_chosen : FnI := ⟨"chosen", 29, 215, "tclcore.switchcmd", 477, .none⟩
theorem fm_chosen : fi_chosen ∈ fns := List.mem_of_getElem? (show fns[18]? = some fi_chosen from rfl)
theorem fk_chosen : ∀ P, (K P).lookup fi_chosen.a = some (fnObj fi_chosen.n (defAt fi_chosen.i) fi_chosen.a fi_chosen.m fi_chosen.t fi_chosen.d) := fun P => by kernel_rfl
noncomputable abbrev fi_options_of : FnI := ⟨"options_of", 30, 222, "tclcore.switchcmd", 477, .none⟩
theorem fm_options_of : fi_options_of ∈ fns := List.mem_of_getElem? (show fns[19]? = some fi_options_of from rfl)
theorem fk_options_of : ∀ P, (K P).lookup fi_options_of.a = some (fnObj fi_options_of.n (defAt fi_options_of.i) fi_options_of.a fi_options_of.m fi_options_of.t fi_options_of.d) := fun P => by kernel_rfl
noncomputable abbrev fi_odd_fault : FnI := ⟨"odd_fault", 31, 229, "tclcore.switchcmd", 477, .none⟩
theorem fm_odd_fault : fi_odd_fault ∈ fns := List.mem_of_getElem? (show fns[20]? = some fi_odd_fault from rfl)
theorem fk_odd_fault : ∀ P, (K P).lookup fi_odd_fault.a = some (fnObj fi_odd_fault.n (defAt fi_odd_fault.i) fi_odd_fault.a fi_odd_fault.m fi_odd_fault.t fi_odd_fault.d) := fun P => by kernel_rfl
noncomputable abbrev fi_pairs_of : FnI := ⟨"pairs_of", 32, 236, "tclcore.switchcmd", 477, .none⟩
theorem fm_pairs_of : fi_pairs_of ∈ fns := List.mem_of_getElem? (show fns[21]? = some fi_pairs_of from rfl)
theorem fk_pairs_of : ∀ P, (K P).lookup fi_pairs_of.a = some (fnObj fi_pairs_of.n (defAt fi_pairs_of.i) fi_pairs_of.a fi_pairs_of.m fi_pairs_of.t fi_pairs_of.d) := fun P => by kernel_rfl
noncomputable abbrev fi_switch_action : FnI := ⟨"switch_action", 33, 243, "tclcore.switchcmd", 477, .none⟩
theorem fm_switch_action : fi_switch_action ∈ fns := List.mem_of_getElem? (show fns[22]? = some fi_switch_action from rfl)
theorem fk_switch_action : ∀ P, (K P).lookup fi_switch_action.a = some (fnObj fi_switch_action.n (defAt fi_switch_action.i) fi_switch_action.a fi_switch_action.m fi_switch_action.t fi_switch_action.d) := fun P => by kernel_rfl
noncomputable abbrev fi_law_take : FnI := ⟨"_law_take", 35, 250, "law_oj0058_01", 549, .none⟩
theorem fm_law_take : fi_law_take ∈ fns := List.mem_of_getElem? (show fns[23]? = some fi_law_take from rfl)
theorem fk_law_take : ∀ P, (K P).lookup fi_law_take.a = some (fnObj fi_law_take.n (defAt fi_law_take.i) fi_law_take.a fi_law_take.m fi_law_take.t fi_law_take.d) := fun P => by kernel_rfl
noncomputable abbrev fi_law_base : FnI := ⟨"_law_base", 36, 257, "law_oj0058_01", 549, .none⟩
theorem fm_law_base : fi_law_base ∈ fns := List.mem_of_getElem? (show fns[24]? = some fi_law_base from rfl)
theorem fk_law_base : ∀ P, (K P).lookup fi_law_base.a = some (fnObj fi_law_base.n (defAt fi_law_base.i) fi_law_base.a fi_law_base.m fi_law_base.t fi_law_base.d) := fun P => by kernel_rfl
noncomputable abbrev fi_law_options : FnI := ⟨"_law_options", 37, 264, "law_oj0058_01", 549, .none⟩
theorem fm_law_options : fi_law_options ∈ fns := List.mem_of_getElem? (show fns[25]? = some fi_law_options from rfl)
theorem fk_law_options : ∀ P, (K P).lookup fi_law_options.a = some (fnObj fi_law_options.n (defAt fi_law_options.i) fi_law_options.a fi_law_options.m fi_law_options.t fi_law_options.d) := fun P => by kernel_rfl
noncomputable abbrev fi_law_texts : FnI := ⟨"_law_texts", 38, 271, "law_oj0058_01", 549, .none⟩
theorem fm_law_texts : fi_law_texts ∈ fns := List.mem_of_getElem? (show fns[26]? = some fi_law_texts from rfl)
theorem fk_law_texts : ∀ P, (K P).lookup fi_law_texts.a = some (fnObj fi_law_texts.n (defAt fi_law_texts.i) fi_law_texts.a fi_law_texts.m fi_law_texts.t fi_law_texts.d) := fun P => by kernel_rfl
noncomputable abbrev fi_law_patterns : FnI := ⟨"_law_patterns", 39, 278, "law_oj0058_01", 549, .none⟩
theorem fm_law_patterns : fi_law_patterns ∈ fns := List.mem_of_getElem? (show fns[27]? = some fi_law_patterns from rfl)
theorem fk_law_patterns : ∀ P, (K P).lookup fi_law_patterns.a = some (fnObj fi_law_patterns.n (defAt fi_law_patterns.i) fi_law_patterns.a fi_law_patterns.m fi_law_patterns.t fi_law_patterns.d) := fun P => by kernel_rfl
noncomputable abbrev fi_law_bodies : FnI := ⟨"_law_bodies", 40, 285, "law_oj0058_01", 549, .none⟩
theorem fm_law_bodies : fi_law_bodies ∈ fns := List.mem_of_getElem? (show fns[28]? = some fi_law_bodies from rfl)
theorem fk_law_bodies : ∀ P, (K P).lookup fi_law_bodies.a = some (fnObj fi_law_bodies.n (defAt fi_law_bodies.i) fi_law_bodies.a fi_law_bodies.m fi_law_bodies.t fi_law_bodies.d) := fun P => by kernel_rfl
noncomputable abbrev fi_law_spoilt : FnI := ⟨"_law_spoilt", 41, 292, "law_oj0058_01", 549, .none⟩
theorem fm_law_spoilt : fi_law_spoilt ∈ fns := List.mem_of_getElem? (show fns[29]? = some fi_law_spoilt from rfl)
theorem fk_law_spoilt : ∀ P, (K P).lookup fi_law_spoilt.a = some (fnObj fi_law_spoilt.n (defAt fi_law_spoilt.i) fi_law_spoilt.a fi_law_spoilt.m fi_law_spoilt.t fi_law_spoilt.d) := fun P => by kernel_rfl
noncomputable abbrev fi_law_spelled : FnI := ⟨"_law_spelled", 42, 299, "law_oj0058_01", 549, .none⟩
theorem fm_law_spelled : fi_law_spelled ∈ fns := List.mem_of_getElem? (show fns[30]? = some fi_law_spelled from rfl)
theorem fk_law_spelled : ∀ P, (K P).lookup fi_law_spelled.a = some (fnObj fi_law_spelled.n (defAt fi_law_spelled.i) fi_law_spelled.a fi_law_spelled.m fi_law_spelled.t fi_law_spelled.d) := fun P => by kernel_rfl
noncomputable abbrev fi_law_option : FnI := ⟨"_law_option", 43, 306, "law_oj0058_01", 549, .none⟩
theorem fm_law_option : fi_law_option ∈ fns := List.mem_of_getElem? (show fns[31]? = some fi_law_option from rfl)
theorem fk_law_option : ∀ P, (K P).lookup fi_law_option.a = some (fnObj fi_law_option.n (defAt fi_law_option.i) fi_law_option.a fi_law_option.m fi_law_option.t fi_law_option.d) := fun P => by kernel_rfl
noncomputable abbrev fi_law_ahead : FnI := ⟨"_law_ahead", 44, 313, "law_oj0058_01", 549, .none⟩
theorem fm_law_ahead : fi_law_ahead ∈ fns := List.mem_of_getElem? (show fns[32]? = some fi_law_ahead from rfl)
theorem fk_law_ahead : ∀ P, (K P).lookup fi_law_ahead.a = some (fnObj fi_law_ahead.n (defAt fi_law_ahead.i) fi_law_ahead.a fi_law_ahead.m fi_law_ahead.t fi_law_ahead.d) := fun P => by kernel_rfl
noncomputable abbrev fi_law_usage : FnI := ⟨"_law_usage", 45, 320, "law_oj0058_01", 549, .none⟩
theorem fm_law_usage : fi_law_usage ∈ fns := List.mem_of_getElem? (show fns[33]? = some fi_law_usage from rfl)
theorem fk_law_usage : ∀ P, (K P).lookup fi_law_usage.a = some (fnObj fi_law_usage.n (defAt fi_law_usage.i) fi_law_usage.a fi_law_usage.m fi_law_usage.t fi_law_usage.d) := fun P => by kernel_rfl
noncomputable abbrev fi_law_items : FnI := ⟨"_law_items", 46, 325, "law_oj0058_01", 549, .none⟩
theorem fm_law_items : fi_law_items ∈ fns := List.mem_of_getElem? (show fns[34]? = some fi_law_items from rfl)
theorem fk_law_items : ∀ P, (K P).lookup fi_law_items.a = some (fnObj fi_law_items.n (defAt fi_law_items.i) fi_law_items.a fi_law_items.m fi_law_items.t fi_law_items.d) := fun P => by kernel_rfl
noncomputable abbrev fi_law_pieces : FnI := ⟨"_law_pieces", 47, 332, "law_oj0058_01", 549, .none⟩
theorem fm_law_pieces : fi_law_pieces ∈ fns := List.mem_of_getElem? (show fns[35]? = some fi_law_pieces from rfl)
theorem fk_law_pieces : ∀ P, (K P).lookup fi_law_pieces.a = some (fnObj fi_law_pieces.n (defAt fi_law_pieces.i) fi_law_pieces.a fi_law_pieces.m fi_law_pieces.t fi_law_pieces.d) := fun P => by kernel_rfl
noncomputable abbrev fi_law_takes : FnI := ⟨"_law_takes", 48, 339, "law_oj0058_01", 549, .none⟩
theorem fm_law_takes : fi_law_takes ∈ fns := List.mem_of_getElem? (show fns[36]? = some fi_law_takes from rfl)
theorem fk_law_takes : ∀ P, (K P).lookup fi_law_takes.a = some (fnObj fi_law_takes.n (defAt fi_law_takes.i) fi_law_takes.a fi_law_takes.m fi_law_takes.t fi_law_takes.d) := fun P => by kernel_rfl
noncomputable abbrev fi_law_matches : FnI := ⟨"_law_matches", 49, 344, "law_oj0058_01", 549, .none⟩
theorem fm_law_matches : fi_law_matches ∈ fns := List.mem_of_getElem? (show fns[37]? = some fi_law_matches from rfl)
theorem fk_law_matches : ∀ P, (K P).lookup fi_law_matches.a = some (fnObj fi_law_matches.n (defAt fi_law_matches.i) fi_law_matches.a fi_law_matches.m fi_law_matches.t fi_law_matches.d) := fun P => by kernel_rfl
noncomputable abbrev fi_law_fits : FnI := ⟨"_law_fits", 50, 351, "law_oj0058_01", 549, .none⟩
theorem fm_law_fits : fi_law_fits ∈ fns := List.mem_of_getElem? (show fns[38]? = some fi_law_fits from rfl)
theorem fk_law_fits : ∀ P, (K P).lookup fi_law_fits.a = some (fnObj fi_law_fits.n (defAt fi_law_fits.i) fi_law_fits.a fi_law_fits.m fi_law_fits.t fi_law_fits.d) := fun P => by kernel_rfl
noncomputable abbrev fi_law_due : FnI := ⟨"_law_due", 51, 356, "law_oj0058_01", 549, .none⟩
theorem fm_law_due : fi_law_due ∈ fns := List.mem_of_getElem? (show fns[39]? = some fi_law_due from rfl)
theorem fk_law_due : ∀ P, (K P).lookup fi_law_due.a = some (fnObj fi_law_due.n (defAt fi_law_due.i) fi_law_due.a fi_law_due.m fi_law_due.t fi_law_due.d) := fun P => by kernel_rfl
noncomputable abbrev fi_law_got : FnI := ⟨"_law_got", 52, 363, "law_oj0058_01", 549, .none⟩
theorem fm_law_got : fi_law_got ∈ fns := List.mem_of_getElem? (show fns[40]? = some fi_law_got from rfl)
theorem fk_law_got : ∀ P, (K P).lookup fi_law_got.a = some (fnObj fi_law_got.n (defAt fi_law_got.i) fi_law_got.a fi_law_got.m fi_law_got.t fi_law_got.d) := fun P => by kernel_rfl
noncomputable abbrev fi_law_case_is_right : FnI := ⟨"_law_case_is_right", 53, 368, "law_oj0058_01", 549, .none⟩
theorem fm_law_case_is_right : fi_law_case_is_right ∈ fns := List.mem_of_getElem? (show fns[41]? = some fi_law_case_is_right from rfl)
theorem fk_law_case_is_right : ∀ P, (K P).lookup fi_law_case_is_right.a = some (fnObj fi_law_case_is_right.n (defAt fi_law_case_is_right.i) fi_law_case_is_right.a fi_law_case_is_right.m fi_law_case_is_right.t fi_law_case_is_right.d) := fun P => by kernel_rfl
noncomputable abbrev fi_law : FnI := ⟨"law", 54, 375, "law_oj0058_01", 549, .none⟩
theorem fm_law : fi_law ∈ fns := List.mem_of_getElem? (show fns[42]? = some fi_law from rfl)
theorem fk_law : ∀ P, (K P).lookup fi_law.a = some (fnObj fi_law.n (defAt fi_law.i) fi_law.a fi_law.m fi_law.t fi_law.d) := fun P => by kernel_rfl
end

section
-- S1
noncomputable def leW (a b : Wd) : Bool := !decide (b < a)
noncomputable def find3W (x y : Wd) (i : Int) : Int := Txt.find3 (tx x) (tx y) i
noncomputable def inEnd (p : Wd) (i : Int) : Bool × Int := if decide (i < (p.length : Int)) = true then (false, i + 1) else (false, (p.length : Int))
noncomputable def inHit (p c low high : Wd) (i : Int) (k : Bool × Int) : Bool × Int :=
  if (leW low c && leW c high || (leW high c && leW c low)) = true then
    if decide (find3W p (u "]") i < 0) = true then (true, (p.length : Int)) else (true, find3W p (u "]") i + 1)
  else k
noncomputable def inSetL (p c : Wd) : Nat → Int → Bool × Int
  | 0, _ => (false, 0)
  | n + 1, i =>
    if decide (i < (p.length : Int)) = true then
      if ([p.getD i.toNat 0] != u "]") = true then
        if ((p.drop (i + 1).toNat).take 1 == u "-") = true then
          if decide ((p.length : Int) ≤ i + 1 + 1) = true then (false, (p.length : Int))
          else inHit p c [p.getD i.toNat 0] [p.getD (i + 1 + 1).toNat 0] (i + 1 + 2) (inSetL p c n (i + 1 + 2))
        else inHit p c [p.getD i.toNat 0] [p.getD i.toNat 0] (i + 1) (inSetL p c n (i + 1))
      else inEnd p i
    else inEnd p i
noncomputable def inSet (p c : Wd) (i : Int) : Bool × Int := inSetL p c (p.length + 1) (i + 1)
noncomputable def behindOne (p c : Wd) (i : Int) : Int :=
  if ([p.getD i.toNat 0] == u "?") = true then i + 1
  else if ([p.getD i.toNat 0] == u "[") = true then (if (inSet p c i).1 = true then (inSet p c i).2 else -1)
  else if ([p.getD i.toNat 0] == u "\\") = true then (if ((p.drop (i + 1).toNat).take 1 == c) = true then i + 1 + 1 else -1)
  else (if ((p.drop i.toNat).take 1 == c) = true then i + 1 else -1)
noncomputable def putM (p : Wd) : Nat → Int → List Int → List Int
  | 0, _, ks => ks
  | n + 1, j, ks => if ((p.drop j.toNat).take 1 == u "*") = true then putM p n (j + 1) (insK ks (j + 1)) else ks
noncomputable def putPlaces (p : Wd) (i : Int) (ks : List Int) : List Int := putM p (p.length + 1) i (insK ks i)
theorem insK_le (ks : List Int) (i : Int) : (insK ks i).length ≤ ks.length + 1 := by
  unfold insK; split <;> simp
theorem putM_le (p : Wd) : ∀ (n : Nat) (j : Int) (ks : List Int), (putM p n j ks).length ≤ ks.length + n
  | 0, _, ks => Nat.le_refl _
  | n + 1, j, ks => by
    unfold putM
    split
    · have := putM_le p n (j + 1) (insK ks (j + 1)); have := insK_le ks (j + 1); omega
    · omega
theorem putPlaces_le (p : Wd) (i : Int) (ks : List Int) : (putPlaces p i ks).length ≤ ks.length + p.length + 2 := by
  have := putM_le p (p.length + 1) i (insK ks i); have := insK_le ks i; unfold putPlaces; omega
noncomputable def foldOne (c : Nat) : Wd := if ((lowerW [c]).length == 1) = true then lowerW [c] else [c]
noncomputable def foldedW (x : Wd) : Wd := x.flatMap foldOne
end

section
-- W0
-- how the scope is told: `hsc : γ.env.scope = …` is in the context
theorem kind_of {γ : Fx} {sc : Scope} {x : PySem.Str} {k : NameKind} (h : γ.env.scope = sc) (e : sc.names.lookup x = some k) : γ.env.kindOf x = some k := by
  unfold Env.kindOf; rw [h]; exact e
noncomputable def SubR : Rho → Rho → Prop
  | [], _ => True
  | (x, d) :: r, ρ => ρ.lookup x = some d ∧ SubR r ρ
theorem SubR.lookup {ρ : Rho} : ∀ {ρ' : Rho}, SubR ρ' ρ → ∀ x d, ρ'.lookup x = some d → ρ.lookup x = some d
  | [], _, x, d, h => by cases h
  | (y, e) :: r, hs, x, d, h => by
    simp only [List.lookup_cons] at h
    cases q : x == y with
    | true => rw [q] at h; cases h; rw [eq_of_beq q]; exact hs.1
    | false => rw [q] at h; exact SubR.lookup hs.2 x d h
theorem Wk.of {ρ' ρ : Rho} {κ' κ : Cells} (h : SubR ρ' ρ) (k : κ'.Sublist κ) : Wk ⟨ρ', κ'⟩ ⟨ρ, κ⟩ := ⟨h.lookup, k⟩
theorem post_ret {Φ : D → Cells → Prop} {d : D} {S : St} (h : Φ d S.κ) : Post Φ (.ret d) S := ⟨_, List.Sublist.refl _, h⟩
theorem post_nxt {Φ : D → Cells → Prop} {S : St} (h : Φ .none S.κ) : Post Φ .next S := ⟨_, List.Sublist.refl _, h⟩
theorem if_d {P A B : Prop} [Decidable P] (h : P → A) (h' : ¬ P → B) : if decide P = true then A else B := by
  by_cases hp : P
  · rw [if_pos (decide_eq_true hp)]; exact h hp
  · rw [if_neg (by simp [hp])]; exact h' hp
theorem gl_len : ((Str.ofString "len"), (none : Option Value)) ∈ glob := List.mem_of_getElem? (show glob[2]? = some _ from rfl)
theorem gl_range : ((Str.ofString "range"), (none : Option Value)) ∈ glob := List.mem_of_getElem? (show glob[3]? = some _ from rfl)
theorem gl_isinstance : ((Str.ofString "isinstance"), (none : Option Value)) ∈ glob := List.mem_of_getElem? (show glob[4]? = some _ from rfl)
theorem gl_sum : ((Str.ofString "sum"), (none : Option Value)) ∈ glob := List.mem_of_getElem? (show glob[5]? = some _ from rfl)
theorem gl_enumerate : ((Str.ofString "enumerate"), (none : Option Value)) ∈ glob := List.mem_of_getElem? (show glob[6]? = some _ from rfl)
theorem gl_Exception : ((Str.ofString "Exception"), (none : Option Value)) ∈ glob := List.mem_of_getElem? (show glob[7]? = some _ from rfl)
section
variable {γ : Fx} {S : St} {Ξ : Exc → Cells → Prop} {Φ : D → St → Prop} {e e2 e3 o : Expr} {p1 pos apos : Pos}
theorem E_len {es : List Expr} (hk : γ.env.kindOf (Str.ofString "len") = some .globalImplicit) (h : WPL γ (backTo pos (starEach (e :: es) γ.env)) S (fun ds S₁ => WPC γ (.builtin "len") ds S₁ Φ Ξ) Ξ) (he : starEach (e :: es) γ.env = (false, eval e γ.env) :: starEach es γ.env) (hp : (backTo pos (starEach es γ.env)).any (·.1) = false) :
    WPE γ (.Call (.Name (Str.ofString "len") p1) (e :: es) [] pos) S Φ Ξ := E_callB gl_len (by kernel_rfl) hk h he hp
theorem E_range {es : List Expr} (hk : γ.env.kindOf (Str.ofString "range") = some .globalImplicit) (h : WPL γ (backTo pos (starEach (e :: es) γ.env)) S (fun ds S₁ => WPC γ (.type "range") ds S₁ Φ Ξ) Ξ) (he : starEach (e :: es) γ.env = (false, eval e γ.env) :: starEach es γ.env) (hp : (backTo pos (starEach es γ.env)).any (·.1) = false) :
    WPE γ (.Call (.Name (Str.ofString "range") p1) (e :: es) [] pos) S Φ Ξ := E_callT gl_range (by kernel_rfl) hk h he hp
theorem E_ms {id : String} {name : PySem.Str} {es : List Expr} (slot : Slot "str" name id) (ty : typeOf (.builtin id) = pure (.type "method_descriptor"))
    (h : WPE γ o S (fun d S₁ => (∃ x, d = .str x) ∧ WPL γ (backTo pos (starEach (e :: es) γ.env)) S₁ (fun ds S₂ => WPC γ (.builtin id) (d :: ds) S₂ Φ Ξ) Ξ) Ξ)
    (hbase : attributeBase o name γ.env (eval o γ.env) = eval o γ.env)
    (hok : ((((backTo pos (starEach (e :: es) γ.env)).all fun x => !x.fst) && (backToKw pos (keywordEach [] γ.env)).all fun x => x.fst.isSome) && decide (((e :: es).length + ([] : List Keyword).length + if ([] : List Keyword).isEmpty = true then 0 else 1) < 30)) = true)
    (hline : (apos.endLine == pos.line) = true) (he : starEach (e :: es) γ.env = (false, eval e γ.env) :: starEach es γ.env) (hp : (backTo pos (starEach (e :: es) γ.env)).any (·.1) = false) :
    WPE γ (.Call (.Attribute o name apos) (e :: es) [] pos) S Φ Ξ :=
  E_meth slot PySem.F.plainAttrs_str ty (WP.mono h (fun d S₁ ⟨⟨x, hx⟩, k⟩ => ⟨by subst hx; exact hand_str, k⟩) fun _ _ k => k) hbase hok hline he hp
end
theorem sl_1 {x : Wd} {a : Int} {Φ : D → Prop} (h0 : 0 ≤ a) (hl : x.length ≤ 10000000) (h : Φ (.str ((x.drop a.toNat).take 1))) : ∃ d', slD (.str x) (some a) (some (a + 1)) none = some d' ∧ sizeD (.str x) ≤ 10000000 ∧ (none : Option Int) ≠ some 0 ∧ Φ d' :=
  ⟨_, rfl, hl, by simp, by rw [sliceW_ss x a (a + 1) h0 (by omega), show (a + 1 - a).toNat = 1 by omega]; exact h⟩
theorem sl_ss {x : Wd} {a b : Int} {Φ : D → Prop} (h0 : 0 ≤ a) (h1 : 0 ≤ b) (hl : x.length ≤ 10000000) (h : Φ (.str ((x.drop a.toNat).take (b - a).toNat))) : ∃ d', slD (.str x) (some a) (some b) none = some d' ∧ sizeD (.str x) ≤ 10000000 ∧ (none : Option Int) ≠ some 0 ∧ Φ d' :=
  ⟨_, rfl, hl, by simp, by rw [sliceW_ss x a b h0 h1]; exact h⟩
theorem sl_sn {x : Wd} {a : Int} {Φ : D → Prop} (h0 : 0 ≤ a) (hl : x.length ≤ 10000000) (h : Φ (.str (x.drop a.toNat))) : ∃ d', slD (.str x) (some a) none none = some d' ∧ sizeD (.str x) ≤ 10000000 ∧ (none : Option Int) ≠ some 0 ∧ Φ d' :=
  ⟨_, rfl, hl, by simp, by rw [sliceW_sn x a h0]; exact h⟩
theorem sl_ns {x : Wd} {b : Int} {Φ : D → Prop} (h0 : 0 ≤ b) (hl : x.length ≤ 10000000) (h : Φ (.str (x.take b.toNat))) : ∃ d', slD (.str x) none (some b) none = some d' ∧ sizeD (.str x) ≤ 10000000 ∧ (none : Option Int) ≠ some 0 ∧ Φ d' :=
  ⟨_, rfl, hl, by simp, by rw [sliceW_ns x b h0]; exact h⟩
theorem sl_last {x : Wd} {Φ : D → Prop} (hl : x.length ≤ 10000000) (h : Φ (.str (x.drop (x.length - 1)))) : ∃ d', slD (.str x) (some (-1)) none none = some d' ∧ sizeD (.str x) ≤ 10000000 ∧ (none : Option Int) ≠ some 0 ∧ Φ d' :=
  ⟨_, rfl, hl, by simp, by rw [sliceW_last x]; exact h⟩
theorem sl_lsn {ds : List D} {a : Int} {Φ : D → Prop} (h0 : 0 ≤ a) (hl : ds.length ≤ 10000000) (h : Φ (.lst (ds.drop a.toNat))) : ∃ d', slD (.lst ds) (some a) none none = some d' ∧ sizeD (.lst ds) ≤ 10000000 ∧ (none : Option Int) ≠ some 0 ∧ Φ d' :=
  ⟨_, rfl, hl, by simp, by rw [pickD_sn ds a h0]; exact h⟩
theorem sl_linit {ds : List D} {Φ : D → Prop} (hl : ds.length ≤ 10000000) (h : Φ (.lst (ds.take (ds.length - 1)))) : ∃ d', slD (.lst ds) none (some (-1)) none = some d' ∧ sizeD (.lst ds) ≤ 10000000 ∧ (none : Option Int) ≠ some 0 ∧ Φ d' :=
  ⟨_, rfl, hl, by simp, by rw [pickD_init ds]; exact h⟩
theorem of_eq {α : Type} {Φ : α → Cells → Prop} {a b : α} {κ : Cells} (h : Φ a κ) (e : a = b) : Φ b κ := e ▸ h
theorem S_whileW {γ : Fx} {S : St} {Ξ : Exc → Cells → Prop} {Ψ : AF → St → Prop} {pos : Pos} {test : Expr} {body : List Stmt} (I : Nat → St → Prop) (n : Nat) (h0 : ∃ S₀, Wk S₀ S ∧ I n S₀)
    (turn : ∀ n S, I n S → WPT γ test S (fun b S₁ => if b = true then WPB γ body S₁ (fun f S₂ => match f with
      | .next => ∃ m S₃, m < n ∧ Wk S₃ S₂ ∧ I m S₃
      | .cont => ∃ m S₃, m < n ∧ Wk S₃ S₂ ∧ I m S₃
      | .brk => Ψ .next S₂
      | .ret d => Ψ (.ret d) S₂) Ξ else Ψ .next S₁) Ξ) : WPS γ (.While test body [] pos) S Ψ Ξ :=
  let ⟨_, w, hi⟩ := h0
  WP.weak (S_while I n hi turn) w
theorem Upd.mid {a : Addr} {m m' : MO} {k2 : Cells} : ∀ (k1 : Cells), Upd a m m' (k1 ++ (a, m) :: k2) (k1 ++ (a, m') :: k2)
  | [] => .here
  | _ :: k1 => .there (Upd.mid k1)
theorem S_weak {γ : Fx} {S S' : St} {Ξ : Exc → Cells → Prop} {Ψ : AF → St → Prop} {s : Stmt} (k : Wk S' S) (h : WPS γ s S' Ψ Ξ) : WPS γ s S Ψ Ξ := WP.weak h k
theorem ForP.ind {γ : Fx} {x : PySem.Str} {body : List Stmt} {Ψ : AF → St → Prop} (I : List D → St → Prop)
    (hI : ∀ d ds S, I (d :: ds) S → WPB γ body ⟨(x, d) :: S.ρ, S.κ⟩ (fun f S' => match f with
      | .next => ∃ S₃, Wk S₃ S' ∧ I ds S₃
      | .cont => ∃ S₃, Wk S₃ S' ∧ I ds S₃
      | .brk => Ψ .next S'
      | .ret r => Ψ (.ret r) S') NoX) (hE : ∀ S, I [] S → Ψ .next S) : ∀ ds S, I ds S → ForP γ x body Ψ ds S
  | [], S, h => hE S h
  | d :: ds, S, h => by
    refine WP.mono (hI d ds S h) (fun f S' p => ?_) (fun _ _ p => p)
    cases f with
    | next => obtain ⟨S₃, a, b⟩ := p; exact ⟨S₃, a, ForP.ind I hI hE ds S₃ b⟩
    | cont => obtain ⟨S₃, a, b⟩ := p; exact ⟨S₃, a, ForP.ind I hI hE ds S₃ b⟩
    | brk => exact p
    | ret r => exact p
theorem S_forI {γ : Fx} {S : St} {Ξ : Exc → Cells → Prop} {Ψ : AF → St → Prop} {pos p1 : Pos} {x : PySem.Str} {iter : Expr} {body : List Stmt} (I : List D → St → Prop) (hk : γ.env.kindOf x = some .local)
    (h : WPE γ iter S (fun d S₁ => ∃ ds, Iter γ d ds ∧ I ds S₁) Ξ) (hs : ∀ v, foldedSetIterable iter γ.env v = pure v)
    (hI : ∀ d ds S, I (d :: ds) S → WPB γ body ⟨(x, d) :: S.ρ, S.κ⟩ (fun f S' => match f with
      | .next => ∃ S₃, Wk S₃ S' ∧ I ds S₃
      | .cont => ∃ S₃, Wk S₃ S' ∧ I ds S₃
      | .brk => Ψ .next S'
      | .ret r => Ψ (.ret r) S') NoX) (hE : ∀ S, I [] S → Ψ .next S) : WPS γ (.For (.Name x p1) iter body [] pos) S Ψ Ξ :=
  S_for hk (WP.mono h (fun d S₁ ⟨ds, a, b⟩ => ⟨ds, a, ForP.ind I hI hE ds S₁ b⟩) fun _ _ p => p) hs
theorem E_ms0 {γ : Fx} {S : St} {Ξ : Exc → Cells → Prop} {Φ : D → St → Prop} {o : Expr} {pos apos : Pos} {id : String} {name : PySem.Str} (slot : Slot "str" name id) (ty : typeOf (.builtin id) = pure (.type "method_descriptor"))
    (h : WPE γ o S (fun d S₁ => (∃ x, d = .str x) ∧ WPC γ (.builtin id) [d] S₁ Φ Ξ) Ξ) (hbase : attributeBase o name γ.env (eval o γ.env) = eval o γ.env) (hline : (apos.endLine == pos.line) = true) :
    WPE γ (.Call (.Attribute o name apos) [] [] pos) S Φ Ξ :=
  E_meth0 slot PySem.F.plainAttrs_str ty (WP.mono h (fun d S₁ ⟨⟨x, hx⟩, k⟩ => ⟨by subst hx; exact hand_str, k⟩) fun _ _ k => k) hbase hline
noncomputable def SubF (c : Addr) (d : D) : Rho → Rho → Prop
  | [], _ => True
  | (x, d') :: r, ρ => (ρ.lookup x = some d' ∨ (ρ.lookup x = some (.ref c) ∧ d' = d)) ∧ SubF c d r ρ
theorem SubF.lookup {c : Addr} {d : D} {ρ : Rho} : ∀ {ρ' : Rho}, SubF c d ρ' ρ → ∀ x d', ρ'.lookup x = some d' → ρ.lookup x = some d' ∨ (ρ.lookup x = some (.ref c) ∧ d' = d)
  | [], _, x, d', h => by cases h
  | (y, e) :: r, hs, x, d', h => by
    simp only [List.lookup_cons] at h
    cases q : x == y with
    | true => rw [q] at h; cases h; rw [eq_of_beq q]; exact hs.1
    | false => rw [q] at h; exact SubF.lookup hs.2 x d' h
theorem Frz.of {c : Addr} {m : MO} {d : D} {ρ ρ' : Rho} {κ κ' : Cells} (hd : toD m = some d) (k : Del c m κ κ') (h : SubF c d ρ' ρ) : Frz c m d ⟨ρ, κ⟩ ⟨ρ', κ'⟩ := ⟨hd, k, h.lookup⟩
end

section
-- R4
section
variable {prog : Program} {w : World} {A : Around} {E : Value → Shared → Prop} {h : Heap} {g : Array GenState} {d : Drawn} {t : Nat} {os : OsState}
variable {nm q : PySem.Str} {C N x : Addr} {bs bm : List Value} {hdct : Bool} {sn : List PySem.Str} {sub : List Value} {ab : Bool} {col : Option Bool} {dd : Option Addr} {k0 k1 k2 k3 k5 : Option Value} {B newId initId : String} {v : Value}
noncomputable abbrev excD (t : Addr) : Data := .fields #[.ref t, .none, .none, .none, .bool false, .none]
theorem exc_init_call {t0 : Addr} {Q : Value → Shared → Prop} (F : ExcBaseFacts B newId initId bm)
    (hC : h.get? C = some (excClassObj nm q C N bs bm hdct sn sub ab col dd k0 k1 k2 k3 k5 newId)) (hx : h.get? x = some { cls := .ref C, data := excD t0 })
    (hq : ∀ h', h'.get? x = some { cls := .ref C, data := excD h.objs.size } → Heap.SameBut x (h.push { cls := .type "tuple", data := .seq #[v] }) h' → Q .none ⟨h', g, d, t, os⟩) :
    wpAny (model prog w) A (call (.builtin initId) [.ref x, v]) Q E ⟨h, g, d, t, os⟩ := by
  refine wpAny_call (codeAny_call_builtin F.init.plain F.initEntry (wpAny_check_init_sub F hC hx rfl ?_))
  wp_walk
  have hx₁ : (h.push { cls := .type "tuple", data := .seq #[v] }).get? x = some { cls := .ref C, data := excD t0 } := Heap.get?_push_of_some _ hx
  refine hq _ ?_ (Heap.SameBut.update ..)
  rw [Heap.get?_update_self _ hx₁ rfl]
  rfl
end
theorem uw33 {γ : Fx} {rest : List Value} (ok : γ.Ok) (hn : 1 ≤ γ.n) (C : Addr) : Fx.Ok { γ with A := γ.A.under (.builtin "type.__call__" ⟨.ref C :: rest, []⟩), n := γ.n - 1 } := by
  have hd := ok.depth
  have hu := ok.units
  have hw : (Code.builtin "type.__call__" ⟨.ref C :: rest, []⟩).weight ≤ 4 := Nat.le_trans (Nat.le_of_eq (show _ = 1 by kernel_rfl)) (by decide)
  have hc : (Code.builtin "type.__call__" ⟨.ref C :: rest, []⟩).cUnits ≤ 32 := Nat.le_trans (Nat.le_of_eq (show _ = 1 by kernel_rfl)) (by decide)
  refine ⟨ok.gd, ok.kind, ok.glob, ok.bui, ok.hand, ?_, ?_, ?_, ok.framed⟩
  · have : (Code.builtin "type.__call__" ⟨.ref C :: rest, []⟩).envs = [] := by rfl
    show pushEnvs (Code.builtin "type.__call__" ⟨.ref C :: rest, []⟩).envs γ.A.frames = some γ.envs
    rw [this]; exact ok.fr
  · show γ.A.depth + (Code.builtin "type.__call__" ⟨.ref C :: rest, []⟩).weight + 4 * (γ.n - 1) < _; omega
  · show γ.A.units + (Code.builtin "type.__call__" ⟨.ref C :: rest, []⟩).cUnits + 32 * (γ.n - 1) < _; omega
end

section
-- R5
theorem call_form {M : Model} {A : Around} {E : Value → Shared → Prop} {s : Shared} {env : Env} {o : Expr} {name : PySem.Str} {apos pos : Pos} {args : List Expr} {Q : Value → Shared → Prop}
    (hbase : attributeBase o name env (eval o env) = eval o env)
    (hfew : ((backTo pos (starEach args env)).all (fun x => !x.1) && (backToKw pos (keywordEach [] env)).all (fun x => x.1.isSome) && decide (args.length + ([] : List Keyword).length + (if ([] : List Keyword).isEmpty then 0 else 1) < 30)) = true)
    (hline : (apos.endLine == pos.line) = true)
    (h : wpAny M A (eval o env) (fun ov s₁ => ∀ pl, wpAny M A (getMethod ov name pl) (fun fx s₂ => wpAny M A (callWith pos fx.1 fx.2 (backTo pos (starEach args env)) []) Q E s₂) E s₁) E s) :
    wpAny M A (eval (.Call (.Attribute o name apos) args [] pos) env) Q E s := by
  rw [arm_eval_Call, hbase]
  refine wpAny_bind (wpAny_mono h (fun ov s₁ h₁ => ?_) fun _ _ e => e)
  refine wpAny_bind (wpAny_standAt ?_)
  have hform : methodCallForm (args.length + ([] : List Keyword).length) (backTo pos (starEach args env)) (backToKw pos (keywordEach [] env)) = true := hfew
  have hpos : methodCallPos true o env apos pos = pure pos := by unfold methodCallPos; simp [hline]
  unfold methodCall
  rw [hform]
  refine wpAny_bind (wpAny_holding (show wpAny M A (calleeOf true o env ov name) _ E s₁ from by unfold calleeOf; rw [if_pos rfl]; exact wpAny_mono (h₁ _) (fun fx s₂ h₂ => wpAny_bind (wpAny_of_eq hpos h₂)) fun _ _ e => e))

theorem init_stmt {γ : Fx} {N : Fz} {F : Rw} {S : St} {h : Heap} {tk : Nat} {x t0 : Addr} {text : Wd} {p1 p2 p3 p4 p5 p6 : Pos} {Q : Flow → Shared → Prop} (hl : (p2.endLine == p5.line) = true)
    (sat : Sat γ N ((x, { cls := .ref 33, data := excD t0 }) :: F) S h tk) (hk : γ.env.kindOf (Str.ofString "Exception") = some .globalImplicit)
    (h1 : S.ρ.lookup (Str.ofString "self") = some (D.ref x)) (h2 : S.ρ.lookup (Str.ofString "value") = some (D.str text))
    (k : ∀ N' t1 h' tk', Le N N' → Sat γ N' ((x, { cls := .ref 33, data := excD t1 }) :: F) S h' tk' → Q .next (γ.mk' h' tk')) :
    wpAny (md γ.w) γ.A (exec (.Expr (.Call (.Attribute (.Name (Str.ofString "Exception") p1) (Str.ofString "__init__") p2) [.Name (Str.ofString "self") p3, .Name (Str.ofString "value") p4] [] p5) p6) γ.env) Q (fun _ _ => False) (γ.mk' h tk) := by
  refine wpAny_Expr_any ?_ (interactive_fn sat.ok.kind) rfl
  refine call_form (by rfl) (by rfl) hl ?_
  refine E_built gl_Exception (v := .type "Exception") (by kernel_rfl) (by decide) hk (Φ := fun d S' => d = .val (.type "Exception") ∧ S' = S) ⟨rfl, rfl⟩ (by decide) N _ h tk sat _ _ ⟨PassesOwn.never, fun N₁ u d' S₁ h₁ tk₁ le₁ sat₁ r₁ p₁ => ?_, fun _ _ _ _ _ _ _ _ _ p => p⟩
  obtain ⟨rfl, rfl⟩ := p₁
  (first | (refine VR.intE r₁ ?_; intro _) | (refine VR.strE r₁ ?_; intro _ _ _) | refine VR.boolE r₁ ?_ | refine VR.noneE r₁ ?_ | refine VR.refE r₁ ?_ | refine VR.valE r₁ ?_ | (refine VR.strxE r₁ ?_; intro _) | cases r₁)
  obtain ⟨m, H, hr⟩ := sat₁.m
  intro pl
  have b1 : Fr γ.B0 γ.env.locals h₁ m := ⟨H.ns _ (.head _), H.base, H.lowS _ (.head _)⟩
  have b2 : Frag.In [] γ.B0 := fun a o e => by cases e
  have b3 : typeOf (.type "Exception") = pure (.type "type") := by kernel_rfl
  have b4 : Manifest.isStub "Exception" = false := by kernel_rfl
  have b5 : findCls [] (.type "Exception") (.type "type") (Str.ofString "__init__") = some (.val (.builtin "Exception.__init__")) := by kernel_rfl
  have b6 : handedIn (.builtin "Exception.__init__") = true := by kernel_rfl
  with_reducible refine method_type b1 b2 b3 b4 b5 b6 ?_
  refine PyProof.Rows.callWith_builtin1 ?_ rfl rfl
  have sat₂ := sat₁.tkTo (Nat.le_succ tk₁)
  have hargs : WPL γ (backTo p5 (starEach [.Name (Str.ofString "self") p3, .Name (Str.ofString "value") p4] γ.env)) S₁ (fun ds S' => ds = [.ref x, .str text] ∧ S' = S₁) NoX :=
    X_cons (E_name h1 (X_cons (E_name h2 (X_nil ⟨rfl, rfl⟩) (by decide)) rfl) (by decide)) rfl
  refine hargs N₁ _ h₁ _ sat₂ _ _ ⟨PassesOwn.never, fun N₃ vs ds S₃ h₃ tk₃ le₃ sat₃ r₃ p₃ => ?_, fun _ _ _ _ _ _ _ _ _ p => p⟩
  obtain ⟨rfl, rfl⟩ := p₃
  refine VRs.consE r₃ ?_
  · intro _ _ r1 rs; refine VRs.consE rs ?_
    · intro _ _ r2 rs
      (first | refine VRs.nilE rs ?_ | cases rs)
      (first | (refine VR.intE r1 ?_; intro _) | (refine VR.strE r1 ?_; intro _ _ _) | refine VR.boolE r1 ?_ | refine VR.noneE r1 ?_ | refine VR.refE r1 ?_ | refine VR.valE r1 ?_ | (refine VR.strxE r1 ?_; intro _) | cases r1)
      have hxo := sat₃.frm (.head _)
      refine exc_init_call (h := h₃) (t := tk₃) PySem.F.excBase_Exception (c33 (sat₃.ok.gd.says.keeps sat₃.base)) hxo fun h' z1 z2 => ?_
      refine k N₃ h₃.objs.size h' tk₃ (le₁.trans le₃) ?_
      exact (sat₃.push _).turnF z2 z1
end

section
-- R6
theorem Sat.newF {γ : Fx} {N : Fz} {F : Rw} {S : St} {h h' : Heap} {tk : Nat} {e : Addr} {o : Obj} (s : Sat γ N F S h tk) (hk : ∀ b ob, h.get? b = some ob → h'.get? b = some ob) (hn : h.get? e = none) (he : h'.get? e = some o) : Sat γ N ((e, o) :: F) S h' tk := by
  obtain ⟨m, H, hr⟩ := s.m
  have ne : ∀ b ob, h.get? b = some ob → b ≠ e := fun b ob x q => by rw [q, hn] at x; cases x
  have hB : γ.B0.get? e = none := by
    cases q : γ.B0.get? e with
    | none => rfl
    | some o => rw [H.base _ _ q] at hn; cases hn
  refine ⟨s.ok, s.tok, ⟨m, (H.keeps' hk).addF he hB (fun p hp => ?_) (fun p hp => ne _ _ (H.fro p hp)) (fun p hp => ne _ _ (H.frm p hp)) (fun p hp => ?_), hr⟩, s.cv⟩
  · refine absP fun _ kk => ?_
    obtain ⟨ob, es, ep, x, _⟩ := H.ns p hp
    refine kk ?_
    clear kk
    exact ne _ _ x
  · obtain ⟨ob, x, _⟩ := H.cel p hp
    exact ne _ _ x
theorem Sat.F2N {γ : Fx} {N : Fz} {F : Rw} {S : St} {h : Heap} {tk : Nat} {e : Addr} {o : Obj} (s : Sat γ N ((e, o) :: F) S h tk) : Sat γ (N.put (e, o)) F S h tk := by
  obtain ⟨m, H, hr⟩ := s.m
  have hd : ∀ p ∈ F, p.1 ≠ e := fun p hp q => by
    have := H.frd
    rw [List.map_cons, List.nodup_cons] at this
    exact this.1 (List.mem_map.mpr ⟨p, hp, q⟩)
  exact ⟨s.ok, ⟨s.tok.b1, s.tok.b2⟩, ⟨m, H.lessF.freeze (H.frm (e, o) (.head _)) (fun p hp => H.nsF p hp (e, o) (.head _)) hd (fun p hp => (H.FK (e, o) (.head _) p hp).symm), fun x d e => let ⟨a, v, b, c⟩ := hr x d e; ⟨a, v, b, c.mono Le.cons⟩⟩,
    fun x d e => let ⟨c, o, v, a, b, f, g⟩ := s.cv x d e; ⟨c, o, v, a, .tail _ b, f, g.mono Le.cons⟩⟩
theorem Sat.F2K {γ : Fx} {N : Fz} {F : Rw} {S : St} {h : Heap} {tk : Nat} {e : Addr} {o : Obj} {mo : MO} (s : Sat γ N ((e, o) :: F) S h tk) (hm : MOk N o mo) : Sat γ N F ⟨S.ρ, (e, mo) :: S.κ⟩ h tk := by
  obtain ⟨m, H, hr⟩ := s.m
  have hd : ∀ p ∈ F, p.1 ≠ e := fun p hp q => by
    have := H.frd
    rw [List.map_cons, List.nodup_cons] at this
    exact this.1 (List.mem_map.mpr ⟨p, hp, q⟩)
  exact ⟨s.ok, s.tok, ⟨m, H.lessF.own (H.frm (e, o) (.head _)) hm (H.lowF (e, o) (.head _)) (fun p hp => H.nsF p hp (e, o) (.head _)) (fun p hp => H.NF p hp (e, o) (.head _)) hd (fun p hp => (H.FK (e, o) (.head _) p hp).symm), hr⟩, s.cv⟩
theorem Bld.all {γ : Fx} {N : Fz} {F : Rw} {S : St} {h : Heap} {tk : Nat} {x C : Addr} {dt : Data} {sl : Array (Option Value)} {mA : PySem.Str → Option Value} {ns : List PySem.Str} (b : Bld γ N F S h tk x C dt sl mA ns) (hns : ns ≠ []) :
    ∃ (od : Obj) (dx : Addr) (es : Array DictEntry) (ep : Nat), od.data = .dict es ep ∧ StrKeys es ∧ UniqKeys es ∧ (∀ y, nsFind es y = mA y) ∧ Sat γ N ((dx, od) :: (x, { cls := .ref C, dict := some dx, data := dt, slots := sl }) :: F) S h tk := by
  cases b with
  | bare => exact absurd rfl hns
  | @full ox od dx es ep mA ns c1 c2 c3 c4 d1 d2 d3 d4 d5 sat =>
    have hox : ox = { cls := .ref C, dict := some dx, data := dt, slots := sl } := by
      refine absP fun _ kk => ?_
      obtain ⟨a1, a2, a3, a4⟩ := ox
      refine kk ?_
      clear kk
      simp only at c1 c2 c3 c4
      subst c1 c2 c3 c4
      rfl
    subst hox
    exact ⟨od, dx, es, ep, d1, d2, d3, d4, sat⟩
theorem K23 : ∀ P, (K P).lookup 23 = some (tupO [.ref 22, .int 0 202, .int 0 203]) := fun P => by kernel_rfl
theorem raised_make {γ : Fx} {κ : Cells} {code : Int} {text : Wd} {ec : List Wd} {Φ : D → Cells → Prop} {Ξ : Exc → Cells → Prop} (hn : 3 ≤ γ.n) (h : ∀ e, Φ (.ref e) ((e, .exc ⟨code, text, ec⟩) :: κ)) :
    WPF γ (.ref 33) [.int code, .str text, .tup (ec.map .str)] κ Φ Ξ := by
  intro N F vs rs ρ hp tk sat Q E hQ hE
  refine VRs.consE rs ?_; intro v1 _ r1 rs
  refine VRs.consE rs ?_; intro v2 _ r2 rs
  refine VRs.consE rs ?_; intro v3 _ r3 rs
  refine VRs.nilE rs ?_
  have says := sat.ok.gd.says.keeps sat.base
  refine wpAny_call_exc_init (h := hp) (t := tk) PySem.F.excBase_Exception (c33 says) (n32 says) (i32 _) (f30 says) rfl (fun h' e hme => ?_) (by rw [sizeLine_eq]; simp)
  refine absP fun _ kk => ?_
  obtain ⟨t, he, _, _⟩ := hme.there
  refine kk ?_
  clear kk
  have sat₁ := sat.newF hme.keeps hme.new he
  have sat₂ : Sat { γ with A := γ.A.under (.builtin "type.__call__" ⟨.ref 33 :: [v1, v2, v3], []⟩), n := γ.n - 1 } N ((e, { cls := .ref 33, data := excD t }) :: F) ⟨ρ, κ⟩ h' tk := ⟨uw33 sat₁.ok (by omega) 33, sat₁.tok, sat₁.m, sat₁.cv⟩
  have says' := says.keeps hme.keeps
  refine enter_raw sat₂ (a := 30) (n := "__init__") (q := "Raised.__init__") (d := metAt 1) (names := ["self", "code", "value", "errorcode", "level", "ret"]) (vs := [.ref e, v1, v2, v3]) (bs := [.ref e, v1, v2, v3, .int 0 202, .int 0 203])
    (ds := [.ref e, .int code, .str text, .tup (ec.map .str), .int 0, .int 0]) (show 1 ≤ γ.n - 1 by omega) (f30 says') says'.CR (by decide +kernel) (BindsTo.of_defaults rfl (says'.K _ _ (K23 _)) rfl rfl rfl) (.cons (.ref e) (.cons r1 (.cons r2 (.cons r3 (.cons (.int _ _) (.cons (.int _ _) .nil))))))
    (fun γ' g1 g2 g3 g4 g5 g6 h₁ tk₁ ht sat₃ back => ?_)
  have hcl : Cls γ' 33 (fun x => nsFind (es32 γ'.w.params) x) "Exception" := cls33 sat₃.ok.gd.says
  refine wpAny_execs_cons (init_stmt (by rfl) sat₃ (kind_of g2 (by rfl)) rfl rfl fun N₁ t1 h₁ tk₁ le₁ sat₁ => ?_)
  refine wpAny_execs_cons (attr_step (.bare rfl rfl rfl rfl sat₁) hcl (fun c => by simp) rfl (by kernel_rfl) (by rw [typeLookup_type, builtinLookup_eq_fast]; kernel_rfl) (E_name (d := .int code) rfl ⟨rfl, rfl⟩ (by decide)) (by decide) (by rfl) fun N_0 w_0 h_0 tk_0 le_0 q_0 b_0 => ?_)
  refine wpAny_execs_cons (attr_step b_0 hcl (fun c => by simp) rfl (by kernel_rfl) (by rw [typeLookup_type, builtinLookup_eq_fast]; kernel_rfl) (E_name (d := .str text) rfl ⟨rfl, rfl⟩ (by decide)) (by decide) (by rfl) fun N_1 w_1 h_1 tk_1 le_1 q_1 b_1 => ?_)
  refine wpAny_execs_cons (attr_step b_1 hcl (fun c => by simp) rfl (by kernel_rfl) (by rw [typeLookup_type, builtinLookup_eq_fast]; kernel_rfl) (E_name (d := .tup (ec.map .str)) rfl ⟨rfl, rfl⟩ (by decide)) (by decide) (by rfl) fun N_2 w_2 h_2 tk_2 le_2 q_2 b_2 => ?_)
  refine wpAny_execs_cons (attr_step b_2 hcl (fun c => by simp) rfl (by kernel_rfl) (by rw [typeLookup_type, builtinLookup_eq_fast]; kernel_rfl) (E_name (d := .int 0) rfl ⟨rfl, rfl⟩ (by decide)) (by decide) (by rfl) fun N_3 w_3 h_3 tk_3 le_3 q_3 b_3 => ?_)
  refine wpAny_execs_cons (attr_step b_3 hcl (fun c => by simp) rfl (by kernel_rfl) (by rw [typeLookup_type, builtinLookup_eq_fast]; kernel_rfl) (E_name (d := .int 0) rfl ⟨rfl, rfl⟩ (by decide)) (by decide) (by rfl) fun N_4 w_4 h_4 tk_4 le_4 q_4 b_4 => ?_)
  refine wpAny_execs_cons (attr_step b_4 hcl (fun c => by simp) rfl (by kernel_rfl) (by rw [typeLookup_type, builtinLookup_eq_fast]; kernel_rfl) (E_str ⟨rfl, rfl⟩) (by decide) (by rfl) fun N_5 w_5 h_5 tk_5 le_5 q_5 b_5 => ?_)
  refine wpAny_execs_cons (attr_step b_5 hcl (fun c => by simp) rfl (by kernel_rfl) (by rw [typeLookup_type, builtinLookup_eq_fast]; kernel_rfl) (E_bool ⟨rfl, rfl⟩) (by decide) (by rfl) fun N_6 w_6 h_6 tk_6 le_6 q_6 b_6 => ?_)
  refine wpAny_execs_cons (attr_step b_6 hcl (fun c => by simp) rfl (by kernel_rfl) (by rw [typeLookup_type, builtinLookup_eq_fast]; kernel_rfl) (E_int ⟨rfl, rfl⟩) (by decide) (by rfl) fun N_7 w_7 h_7 tk_7 le_7 q_7 b_7 => ?_)
  refine wpAny_execs_cons (attr_step b_7 hcl (fun c => by simp) rfl (by kernel_rfl) (by rw [typeLookup_type, builtinLookup_eq_fast]; kernel_rfl) (E_lst (by decide) (X_nil ⟨rfl, rfl, rfl⟩)) (by decide) (by rfl) fun N_8 w_8 h_8 tk_8 le_8 q_8 b_8 => ?_)
  refine wpAny_execs_nil ?_
  refine absP fun _ kk => ?_
  obtain ⟨od, dx, es, ep, d1, d2, d3, d4, sat₄⟩ := b_8.all (by simp)
  refine kk ?_
  clear kk
  have sat₅ := sat₄.F2N
  have pay : Pay (N_8.put (dx, od)) dx ⟨code, text, ec⟩ := ⟨od, es, ep, w_0, w_1, w_2, .head _, d1, d2, (d4 _).trans (by kernel_rfl), (d4 _).trans (by kernel_rfl), (d4 _).trans (by kernel_rfl),
    ((((((((q_0.mono le_1).mono le_2).mono le_3).mono le_4).mono le_5).mono le_6).mono le_7).mono le_8).mono Le.cons, (((((((q_1.mono le_2).mono le_3).mono le_4).mono le_5).mono le_6).mono le_7).mono le_8).mono Le.cons,
    ((((((q_2.mono le_3).mono le_4).mono le_5).mono le_6).mono le_7).mono le_8).mono Le.cons⟩
  have sat₆ := sat₅.F2K (mo := .exc ⟨code, text, ec⟩) ⟨t1, dx, rfl, pay⟩
  have le : Le N (N_8.put (dx, od)) := ((((((((((le₁.trans le_0).trans le_1).trans le_2).trans le_3).trans le_4).trans le_5).trans le_6).trans le_7).trans le_8)).trans Le.cons
  have sat₇ := back _ _ _ _ _ le sat₆
  refine ⟨rfl, ?_⟩
  have e1 : γ'.mk' h_8 tk_8 = γ.mk' h_8 tk_8 := by
    show { γ'.s0 with heap := h_8, toks := tk_8 } = _
    rw [g6]
  rw [e1]
  exact hQ _ _ (.ref e) _ h_8 tk_8 le ⟨sat.ok, sat₇.tok, sat₇.m, sat₇.cv⟩ (.ref e) (h e)
theorem K44 : ∀ P, (K P).lookup 44 = some (tupO [.none, .bool false, .str "" 245]) := fun P => by kernel_rfl
theorem nest_new {p : Prop} {γ : Fx} {N : Fz} {F : Rw} {S : St} {hp h' : Heap} {tk : Nat} {e dx C : Addr} (sat : Sat γ N F S hp tk) (hme : Heap.MadeObj hp h' e dx C)
    (f : ∀ ox od es ep, ox.cls = .ref C → (∀ c, ox.data ≠ .cls c) → ox.dict = some dx → od.data = .dict es ep → StrKeys es → UniqKeys es → (∀ y, nsFind es y = none) → Sat γ N ((dx, od) :: (e, ox) :: F) S h' tk → p) : p := by
  refine absP fun _ kk => ?_
  obtain ⟨ox, he, hec, hed, hd⟩ := hme.inst
  refine kk ?_
  clear kk
  have hdx := hme.dict ox he
  rcases hd with ⟨hd, _⟩ | ⟨dx', hd1, hd2, od, es, ep, hd3, hd4, hd5, hd6, hd7⟩
  · rw [hd] at hdx; cases hdx
  have e1 : dx = dx' := Option.some.inj (hdx.symm.trans hd1)
  subst e1
  have sat₁ : Sat γ N ((dx, od) :: (e, ox) :: F) S h' tk := by
    have s1 := sat.newF hme.keeps hme.newX he
    obtain ⟨m, H, hr⟩ := s1.m
    have ne : ∀ b ob, hp.get? b = some ob → b ≠ dx := fun b ob x q => by rw [q, hme.newD] at x; cases x
    have hB : γ.B0.get? dx = none := by
      cases q : γ.B0.get? dx with
      | none => rfl
      | some o => have := sat.base _ _ q; rw [hme.newD] at this; cases this
    obtain ⟨m0, H0, _⟩ := sat.m
    refine ⟨s1.ok, s1.tok, ⟨m, H.addF hd3 hB (fun p hp => ?_) (fun p hp => ne _ _ (sat.fro hp)) (fun p hp => ?_) (fun p hp => ?_), hr⟩, s1.cv⟩
    · rcases List.mem_cons.mp hp with rfl | hp
      · refine absP fun _ kk => ?_
        obtain ⟨ob, es, ep, x, _⟩ := H0.ns _ (.head _)
        refine kk ?_
        clear kk
        exact ne _ _ x
      · refine absP fun _ kk => ?_
        obtain ⟨ob, es, ep, x, _⟩ := H0.ns p (.tail _ hp)
        refine kk ?_
        clear kk
        exact ne _ _ x
    · rcases List.mem_cons.mp hp with rfl | hp
      · exact fun q => hd2 q.symm
      · exact ne _ _ (H0.frm p hp)
    · obtain ⟨ob, x, _⟩ := H0.cel p hp
      exact ne _ _ x
  exact f _ _ _ _ hec hed hd1 hd4 hd5 hd6 hd7 sat₁
theorem nest_make {γ : Fx} {κ : Cells} {text : Wd} {Φ : D → Cells → Prop} {Ξ : Exc → Cells → Prop} (hn : 3 ≤ γ.n) (h : Φ (.nest text) κ) :
    WPF γ (.ref 54) [.str text] κ Φ Ξ := by
  intro N F vs rs ρ hp tk sat Q E hQ hE
  refine VRs.consE rs ?_; intro v1 _ r1 rs
  refine VRs.nilE rs ?_
  have says := sat.ok.gd.says.keeps sat.base
  refine wpAny_call_obj_init (h := hp) (t := tk) PySem.F.objNew (c54 says) (n53 says) (i53 _) (f51 says) rfl (fun h' e dx hme => ?_)
  refine nest_new sat hme fun ox od es ep hec hed hd1 hd4 hd5 hd6 hd7 sat₁ => ?_
  have sat₂ : Sat { γ with A := γ.A.under (.builtin "type.__call__" ⟨.ref 54 :: [v1], []⟩), n := γ.n - 1 } N ((dx, od) :: (e, ox) :: F) ⟨ρ, κ⟩ h' tk := ⟨uw33 sat₁.ok (by omega) 54, sat₁.tok, sat₁.m, sat₁.cv⟩
  have says' := says.keeps hme.keeps
  refine enter_raw sat₂ (a := 51) (n := "__init__") (q := "Nest.__init__") (d := metAt 2) (names := ["self", "script", "back", "is_proc", "label"]) (vs := [.ref e, v1]) (bs := [.ref e, v1, .none, .bool false, .str "" 245])
    (ds := [.ref e, .str text, .none, .bool false, .strx []]) (show 1 ≤ γ.n - 1 by omega) (f51 says') says'.CN (by decide +kernel) (BindsTo.of_defaults rfl (says'.K _ _ (K44 _)) rfl rfl rfl) (.cons (.ref e) (.cons r1 (.cons .none (.cons (.bool _) (.cons (.strx [] _) .nil)))))
    (fun γ' g1 g2 g3 g4 g5 g6 h₁ tk₁ ht sat₃ back => ?_)
  have hcl : Cls γ' 54 (fun x => nsFind (es53 γ'.w.params) x) "object" := cls54 sat₃.ok.gd.says
  have bld : Bld γ' N F ⟨_, κ⟩ h₁ tk₁ e 54 ox.data ox.slots (fun _ => none) [] := .full hec rfl rfl hd1 hd4 hd5 hd6 hd7 Within.nil sat₃
  refine wpAny_execs_cons (attr_step bld hcl hed rfl (by kernel_rfl) (by rw [typeLookup_type, builtinLookup_eq_fast]; kernel_rfl) (E_name (d := .str text) rfl ⟨rfl, rfl⟩ (by decide)) (by decide) (by rfl) fun N_0 w_0 h_0 tk_0 le_0 q_0 b_0 => ?_)
  refine wpAny_execs_cons (attr_step b_0 hcl hed rfl (by kernel_rfl) (by rw [typeLookup_type, builtinLookup_eq_fast]; kernel_rfl) (E_name (d := .none) rfl ⟨rfl, rfl⟩ (by decide)) (by decide) (by rfl) fun N_1 w_1 h_1 tk_1 le_1 q_1 b_1 => ?_)
  refine wpAny_execs_cons (attr_step b_1 hcl hed rfl (by kernel_rfl) (by rw [typeLookup_type, builtinLookup_eq_fast]; kernel_rfl) (E_name (d := .bool false) rfl ⟨rfl, rfl⟩ (by decide)) (by decide) (by rfl) fun N_2 w_2 h_2 tk_2 le_2 q_2 b_2 => ?_)
  refine wpAny_execs_cons (attr_step b_2 hcl hed rfl (by kernel_rfl) (by rw [typeLookup_type, builtinLookup_eq_fast]; kernel_rfl) (E_name (d := .strx []) rfl ⟨rfl, rfl⟩ (by decide)) (by decide) (by rfl) fun N_3 w_3 h_3 tk_3 le_3 q_3 b_3 => ?_)
  refine wpAny_execs_nil ?_
  refine absP fun _ kk => ?_
  obtain ⟨od', dx', es', ep', d1, d2, d3, d4, sat₄⟩ := b_3.all (by simp)
  refine kk ?_
  clear kk
  have sat₆ := sat₄.F2N.F2N
  have sat₇ := back _ _ _ _ _ ((((((le_0).trans le_1).trans le_2).trans le_3).trans Le.cons).trans Le.cons) sat₆
  refine ⟨rfl, ?_⟩
  have e1 : γ'.mk' h_3 tk_3 = γ.mk' h_3 tk_3 := by
    show { γ'.s0 with heap := h_3, toks := tk_3 } = _
    rw [g6]
  rw [e1]
  obtain ⟨u, e3⟩ := q_3.strxI
  refine hQ _ _ (.nest text) _ h_3 tk_3 ((((((le_0).trans le_1).trans le_2).trans le_3).trans Le.cons).trans Le.cons) ⟨sat.ok, sat₇.tok, sat₇.m, sat₇.cv⟩ ?_ h
  exact .nest (.head _) (.tail _ (.head _)) rfl hed rfl d1 d2 ((d4 _).trans (by kernel_rfl)) (((((q_0.mono le_1).mono le_2).mono le_3).mono Le.cons).mono Le.cons) (((d4 _).trans (show _ = some w_1 by kernel_rfl)).trans (congrArg some q_1.noneI)) (((d4 _).trans (show _ = some w_2 by kernel_rfl)).trans (congrArg some q_2.boolI)) ⟨u, ((d4 _).trans (show _ = some w_3 by kernel_rfl)).trans ((congrArg some e3).trans (by kernel_rfl))⟩
end

section
-- R7
section
variable {γ : Fx} {S : St} {Ξ : Exc → Cells → Prop} {Φ : D → St → Prop} {e : Expr} {es : List Expr} {p1 pos : Pos} {name : PySem.Str}
theorem E_callC {C : Addr} (hx : (name, some (.ref C)) ∈ glob) (hk : γ.env.kindOf name = some .globalImplicit) (hkeep : ∀ P, keepIn (K P) (.ref C) = true)
    (h : WPL γ (backTo pos (starEach (e :: es) γ.env)) S (fun ds S₁ => WPF γ (.ref C) ds S₁.κ (fun d κ' => Φ d ⟨S₁.ρ, κ'⟩) Ξ) Ξ)
    (he : starEach (e :: es) γ.env = (false, eval e γ.env) :: starEach es γ.env) (hp : (backTo pos (starEach (e :: es) γ.env)).any (·.1) = false) (hd : (name == ("__debug__" : PySem.Str)) = false) : WPE γ (.Call (.Name name p1) (e :: es) [] pos) S Φ Ξ := fun N F hp' tk sat Q E C' => by
  refine wpAny_Call_NameR (E_glob (v := .ref C) hx hk (Φ := fun d S₁ => d = .val (.ref C) ∧ S₁ = S) ⟨rfl, rfl⟩ hd N F hp' tk sat _ E (C'.then fun N₁ v₁ d₁ S₁ h₁ tk₁ le₁ sat₁ r₁ k₁ => ?_))
  obtain ⟨rfl, rfl⟩ := k₁
  (first | (refine VR.intE r₁ ?_; intro _) | (refine VR.strE r₁ ?_; intro _ _ _) | refine VR.boolE r₁ ?_ | refine VR.noneE r₁ ?_ | refine VR.refE r₁ ?_ | refine VR.valE r₁ ?_ | (refine VR.strxE r₁ ?_; intro _) | cases r₁)
  refine callWith_of (P := fun h => (K γ.w.params).In h) (by simpa using hp) (keeps_K (hkeep _)) ?_
  have h' := h N₁ F h₁ tk₁ sat₁ _ E ((C'.mono le₁).then (Q' := fun vs s' => (K γ.w.params).In s'.heap ∧ wpAny (md γ.w) γ.A (call (.ref C) vs) Q E s') fun N₂ vs ds S₂ h₂ tk₂ le₂ sat₂ r₂ k₂ => ?_)
  · rw [he] at h' ⊢
    exact Calls.evalArgs_plain h'
  · refine ⟨(sat₂.ok.gd.says.keeps sat₂.base).K, k₂ N₂ F vs r₂ S₂.ρ h₂ tk₂ sat₂ Q E (fun N' v d κ' h' tk' le s' r p => ?_) fun N' e x κ' h' tk' le R p => ?_⟩
    · exact C'.ok N' v d _ h' tk' ((le₁.trans le₂).trans le) s' r p
    · exact C'.ex N' e x κ' h' tk' ((le₁.trans le₂).trans le) sat₂.ok R p
theorem gl_Raised : ((Str.ofString "Raised"), some (Value.ref 33)) ∈ glob := List.mem_of_getElem? (show glob[0]? = some _ from rfl)
theorem gl_Nest : ((Str.ofString "Nest"), some (Value.ref 54)) ∈ glob := List.mem_of_getElem? (show glob[1]? = some _ from rfl)
theorem kp33 : ∀ P, keepIn (K P) (.ref 33) = true := fun P => by kernel_rfl
theorem kp54 : ∀ P, keepIn (K P) (.ref 54) = true := fun P => by kernel_rfl
theorem wp_raise {w : World} {M : Model} {A : Around} {E : Value → Shared → Prop} {env : Env} {s : Shared} {x : Sem Value} {Q : Flow → Shared → Prop} (hh : A.handled = none)
    (h : wpAny M A x (fun v s₁ => ∃ e t dx, v = .ref e ∧ Says w s₁.heap ∧ s₁.heap.get? e = some { cls := .ref 33, dict := some dx, data := excD t } ∧ E (.ref e) s₁) E s) :
    wpAny M A (raiseStmt env (some x) none) Q E s := by
  unfold raiseStmt
  refine wpAny_bind (wpAny_mono h (fun v s₁ h₁ => ?_) fun _ _ x => x)
  refine absP fun _ kk => ?_
  obtain ⟨e, t, dx, rfl, says, he, hE⟩ := h₁
  refine kk ?_
  clear kk
  have hC := c33 says
  have hcB : (Value.ref 33 :: [Value.type "Exception", .type "BaseException", .type "object"]).contains (.type "BaseException") = true := by decide +kernel
  refine absP fun _ kk => ?_
  obtain ⟨hp, g, d, tk, os⟩ := s₁
  refine kk ?_
  clear kk
  repeat (first | with_reducible refine wpAny_loadPart_at he ?_ | with_reducible refine wpAny_loadPart_at hC ?_ | (with_reducible refine wpAny_isSubtype_exc hC ?_; rw [hcB]) | wp_step)
  exact wpAny_raiseNew_none hh hE
noncomputable def gone : Obj := { cls := .none, data := .freed }
noncomputable def cut (h : Heap) : List Addr → Heap
  | [] => h
  | a :: l => (cut h l).update a fun _ => gone
theorem get_gone (h : Heap) (a : Addr) : (h.update a fun _ => gone).get? a = none := by
  obtain ⟨o, l⟩ := h
  simp only [Heap.update, Heap.get?, Array.getElem?_modify]
  simp only [if_true]
  cases o[a]? <;> rfl
theorem cut_in {h : Heap} {b : Addr} : ∀ {l : List Addr}, b ∈ l → (cut h l).get? b = none
  | a :: l, hb => by
    by_cases e : b = a
    · subst e; exact get_gone _ _
    · refine (Heap.get?_update_other _ _ (Ne.symm e)).trans (cut_in ?_)
      rcases List.mem_cons.mp hb with q | q
      · exact absurd q e
      · exact q
theorem cut_out {h : Heap} {b : Addr} : ∀ {l : List Addr}, b ∉ l → (cut h l).get? b = h.get? b
  | [], _ => rfl
  | a :: l, hb => by
    simp only [List.mem_cons, not_or] at hb
    exact (Heap.get?_update_other _ _ (Ne.symm hb.1)).trans (cut_out hb.2)
theorem cut_some {h : Heap} {l : List Addr} {b : Addr} {o : Obj} (e : (cut h l).get? b = some o) : h.get? b = some o := by
  by_cases hb : b ∈ l
  · rw [cut_in hb] at e; cases e
  · rw [cut_out hb] at e; exact e
theorem to_raised {B0 : Heap} {nss : Nss} {envs : List Env} {N : Fz} {F : Rw} {κ₁ κ₂ : Cells} {h : Heap} {a : Addr} {x : Exc} (H : Hp B0 nss N F (κ₁ ++ (a, .exc x) :: κ₂) h)
    (hf : ∀ e ∈ envs, e.scope.kind ≠ .module ∧ ∃ L ∈ nss.map (·.1), e.frame = some L) : RaisedH B0 nss envs N F a x (κ₁ ++ κ₂) h := by
  have hmem : (a, MO.exc x) ∈ κ₁ ++ (a, MO.exc x) :: κ₂ := List.mem_append_right _ (.head _)
  refine absP fun _ kk => ?_
  obtain ⟨o, ho, t, dx, rfl, pay⟩ := H.cel _ hmem
  refine kk ?_
  clear kk
  have H' := H.lessK (List.Sublist.append (List.Sublist.refl κ₁) (List.sublist_cons_self (a, MO.exc x) κ₂))
  have hap := H.apart
  have hout : ∀ b, b ≠ a → (∀ p ∈ nss, p.1 ≠ b) → b ∉ a :: nss.map (·.1) := fun b h1 h2 hm => by
    rcases List.mem_cons.mp hm with q | q
    · exact h1 q
    · obtain ⟨p, hp, e⟩ := List.mem_map.mp q
      exact h2 p hp e
  refine ⟨⟨cut h (a :: nss.map (·.1)), dx, fun b ob e => ?_, fun p hp => ?_, fun p hp => ?_, fun p hp => ?_, fun b ob e => cut_some e, cut_in (.head _), ?_, ⟨_, _, ho, rfl, rfl, rfl, .inl rfl⟩, pay⟩, H.ns, H.lowS, H'.lowK, H.lowF, H.big, H.nsd, H'.ced, H.frd, H.nsN, H.nsF, H'.nsK, H.NF, H'.NK, H'.FK⟩
  · refine (cut_out (hout b (fun q => ?_) fun p hp q => ?_)).trans (H.base b ob e)
    · have := H.lowK _ hmem
      rw [q] at e
      rw [this] at e
      cases e
    · have := H.lowS p hp
      rw [q] at this
      exact absurd (Heap.lt_size e) (Nat.not_lt.mpr this)
  · exact (cut_out (hout p.1 (H.NK p hp _ hmem) fun q hq e => H.nsN q hq p hp e)).trans (H.fro p hp)
  · exact (cut_out (hout p.1 (H.FK p hp _ hmem) fun q hq e => H.nsF q hq p hp e)).trans (H.frm p hp)
  · obtain ⟨ob, h1, h2⟩ := H'.cel p hp
    exact ⟨ob, (cut_out (hout p.1 (hap p hp) fun q hq e => H'.nsK q hq p hp e)).trans h1, h2⟩
  · induction envs with
    | nil => exact trivial
    | cons e envs ih =>
      refine absP fun _ kk => ?_
      obtain ⟨h1, L, h2, h3⟩ := hf e (.head _)
      refine kk ?_
      clear kk
      obtain ⟨p, hp, rfl⟩ := List.mem_map.mp h2
      refine absP fun _ kk => ?_
      obtain ⟨ob, es, ep, q1, q2, _⟩ := H.ns p hp
      refine kk ?_
      clear kk
      exact ⟨h1, ⟨p.1, ob, h3, cut_in (.tail _ h2), q1, fun vs e => by rw [q2] at e; cases e⟩, ih fun e he => hf e (.tail _ he)⟩
theorem S_raise {Ψ : AF → St → Prop} (h : WPE γ e S (fun d S₁ => ∃ a x κ₁ κ₂, d = .ref a ∧ S₁.κ = κ₁ ++ (a, .exc x) :: κ₂ ∧ Ξ x (κ₁ ++ κ₂)) Ξ) : WPS γ (.Raise (some e) none pos) S Ψ Ξ := fun N F hp tk sat Q E C => by
  rw [arm_exec_Raise]
  refine wpAny_bind (wpAny_standAt ?_)
  refine wp_raise (w := γ.w) sat.ok.hand ?_
  refine wpAny_bind ?_
  refine wpAny_mono (h N F hp tk sat (fun v s₁ => wpAny (md γ.w) γ.A (do standAt pos; pure v) _ E s₁) E ⟨C.pe, fun N₁ v d S₁ h₁ tk₁ le₁ sat₁ r₁ k₁ => ?_, C.ex⟩) (fun _ _ z => z) fun _ _ z => z
  refine absP fun _ kk => ?_
  obtain ⟨a, x, κ₁, κ₂, rfl, hκ, hx⟩ := k₁
  refine kk ?_
  clear kk
  (first | (refine VR.intE r₁ ?_; intro _) | (refine VR.strE r₁ ?_; intro _ _ _) | refine VR.boolE r₁ ?_ | refine VR.noneE r₁ ?_ | refine VR.refE r₁ ?_ | refine VR.valE r₁ ?_ | (refine VR.strxE r₁ ?_; intro _) | cases r₁)
  refine wpAny_bind (wpAny_standAt (wpAny_pure ?_))
  obtain ⟨m, H, hr⟩ := sat₁.m
  rw [hκ] at H
  refine absP fun _ kk => ?_
  obtain ⟨o, ho, t, dx, rfl, pay⟩ := H.cel (a, .exc x) (List.mem_append_right _ (.head _))
  refine kk ?_
  clear kk
  exact ⟨a, t, dx, rfl, sat₁.ok.gd.says.keeps sat₁.base, ho, C.ex N₁ a x (κ₁ ++ κ₂) h₁ tk₁ le₁ sat₁.ok ⟨sat₁.tok, m, to_raised H sat₁.ok.framed⟩ hx⟩
end
end

section
-- S2
theorem nodup_le : ∀ (n : Nat) (l : List Int), l.Nodup → (∀ x ∈ l, 0 ≤ x ∧ x < n) → l.length ≤ n
  | 0, l, _, h => by
    cases l with
    | nil => simp
    | cons a l => have := h a (.head _); omega
  | n + 1, l, hd, h => by
    by_cases hm : (n : Int) ∈ l
    · have h1 := nodup_le n (l.erase n) (hd.erase _) (fun x hx => by
        have hx' := (hd.mem_erase_iff).mp hx
        have := h x hx'.2
        have := hx'.1
        omega)
      rw [List.length_erase_of_mem hm] at h1
      omega
    · exact Nat.le_succ_of_le (nodup_le n l hd fun x hx => by
        have := h x hx
        have : x ≠ n := fun e => hm (e ▸ hx)
        omega)
structure Pl (p : Wd) (ks : List Int) : Prop where
  nd : ks.Nodup
  r : ∀ x ∈ ks, 0 ≤ x ∧ x ≤ p.length
theorem Pl.len {p : Wd} {ks : List Int} (h : Pl p ks) : ks.length ≤ p.length + 1 := nodup_le (p.length + 1) ks h.nd fun x hx => by have := h.r x hx; omega
theorem Pl.ins {p : Wd} {ks : List Int} (h : Pl p ks) {i : Int} (h0 : 0 ≤ i) (h1 : i ≤ p.length) : Pl p (insK ks i) := by
  unfold insK
  split
  · exact h
  · rename_i hc
    refine ⟨?_, fun x hx => ?_⟩
    · rw [List.nodup_append]
      exact ⟨h.nd, by simp, fun a ha b hb => by rw [List.mem_singleton.mp hb]; intro e; subst e; exact hc (by simpa using ha)⟩
    · rcases List.mem_append.mp hx with hx | hx
      · exact h.r x hx
      · rw [List.mem_singleton.mp hx]; exact ⟨h0, h1⟩
theorem star_lt {p c : Wd} {j : Int} (hc : c ≠ []) (h : ((p.drop j.toNat).take 1 == c) = true) : j.toNat < p.length := by
  rcases Nat.lt_or_ge j.toNat p.length with h' | h'
  · exact h'
  · rw [List.drop_of_length_le h'] at h
    simp at h
    exact absurd h hc
theorem Pl.putM {p : Wd} : ∀ (n : Nat) (j : Int) {ks : List Int}, Pl p ks → 0 ≤ j → Pl p (putM p n j ks)
  | 0, _, _, h, _ => h
  | n + 1, j, ks, h, h0 => by
    unfold Mine.putM
    split
    · rename_i e
      have := star_lt (c := u "*") (by decide +kernel) e
      exact Pl.putM n (j + 1) (h.ins (by omega) (by omega)) (by omega)
    · exact h
theorem Pl.put {p : Wd} {ks : List Int} (h : Pl p ks) {i : Int} (h0 : 0 ≤ i) (h1 : i ≤ p.length) : Pl p (putPlaces p i ks) := Pl.putM _ _ (h.ins h0 h1) h0
theorem find3_lt (p : Wd) (i : Int) : find3W p (u "]") i + 1 ≤ p.length := by
  unfold find3W Txt.find3
  split
  · rename_i k _ he
    have := (StrLaws.occ_spec (tx p) (tx (u "]")) _ (tx p).length 1 k (by rw [he]; exact .head _)).1
    rw [tx_len, tx_len, show (u "]").length = 1 by decide +kernel] at this
    omega
  · omega
theorem inEnd_le (p : Wd) (i : Int) : (inEnd p i).2 ≤ p.length := by unfold inEnd; split <;> simp_all <;> omega
theorem inSetL_le (p c : Wd) : ∀ (n : Nat) (i : Int), 0 ≤ i → 0 ≤ (inSetL p c n i).2 ∧ (inSetL p c n i).2 ≤ p.length
  | 0, _, _ => by simp [inSetL]
  | n + 1, i, h0 => by
    have hE : 0 ≤ (inEnd p i).2 ∧ (inEnd p i).2 ≤ p.length := by unfold inEnd; split <;> simp_all <;> omega
    have hH : ∀ (low high : Wd) (j : Int) (k : Bool × Int), (0 ≤ k.2 ∧ k.2 ≤ p.length) → 0 ≤ (inHit p c low high j k).2 ∧ (inHit p c low high j k).2 ≤ p.length := fun low high j k hk => by
      have := find3_lt p j
      unfold inHit
      split
      · split
        · simp
        · rename_i hh; simp only [decide_eq_true_eq] at hh; simp only; omega
      · exact hk
    unfold inSetL
    split
    · split
      · split
        · split
          · simp
          · exact hH _ _ _ _ (inSetL_le p c n _ (by omega))
        · exact hH _ _ _ _ (inSetL_le p c n _ (by omega))
      · exact hE
    · exact hE
theorem behindOne_le {p c : Wd} {i : Int} (hc : c ≠ []) (h0 : 0 ≤ i) (h1 : i < p.length) : behindOne p c i ≤ p.length := by
  unfold behindOne
  have := inSetL_le p c (p.length + 1) (i + 1) (by omega)
  split
  · omega
  · split
    · split
      · exact this.2
      · omega
    · split
      · split
        · rename_i e; have := star_lt hc e; omega
        · omega
      · split
        · omega
        · omega
noncomputable def stepOne (p c : Wd) (i : Int) (acc : List Int) : List Int :=
  if ((p.drop i.toNat).take 1 == u "*") = true then putPlaces p i acc
  else if decide (i < (p.length : Int)) = true then (if decide (0 ≤ behindOne p c i) = true then putPlaces p (behindOne p c i) acc else acc)
  else acc
noncomputable def stepAll (p c : Wd) (ks acc : List Int) : List Int := ks.foldl (fun acc i => stepOne p c i acc) acc
theorem Pl.step {p c : Wd} {ks : List Int} (h : Pl p ks) {i : Int} (hc : c ≠ []) (h0 : 0 ≤ i) (h1 : i ≤ p.length) : Pl p (stepOne p c i ks) := by
  unfold stepOne
  split
  · exact h.put h0 h1
  · split
    · rename_i hh
      simp only [decide_eq_true_eq] at hh
      split
      · rename_i hb
        simp only [decide_eq_true_eq] at hb
        exact h.put hb (behindOne_le hc h0 hh)
      · exact h
    · exact h
noncomputable def fitsL (p : Wd) : List Nat → List Int → Bool
  | [], ks => ks.contains (p.length : Int)
  | c :: l, ks =>
    if ((p.drop (p.length - 1) == u "*") && ks.contains ((p.length : Int) - 1)) = true then true
    else if (stepAll p [c] ks []).isEmpty = true then false else fitsL p l (stepAll p [c] ks [])
noncomputable def fitsW (p t : Wd) : Bool := fitsL p t (putPlaces p 0 [])
noncomputable def fits (nc : Bool) (p t : Wd) : Bool := if nc = true then fitsW (foldedW p) (foldedW t) else fitsW p t
end

section
-- S3
noncomputable def optNames : List Wd := [u "-exact", u "-glob", u "-nocase", u "--"]
noncomputable def pickBad (got : Wd) (begun : List Wd) : Exc :=
  ⟨1, (if 0 < begun.length then u "ambiguous " else u "bad ") ++ u "option" ++ u " \"" ++ got ++ u "\": must be " ++ u "-exact, -glob, -nocase, or --", [u "TCL", u "LOOKUP", u "INDEX", u "option", got]⟩
noncomputable def pickEnd (got : Wd) : List Wd → Wd ⊕ Exc
  | [x] => .inl x
  | b => .inr (pickBad got b)
noncomputable def pickL (got : Wd) : List Wd → List Wd → Wd ⊕ Exc
  | [], acc => pickEnd got acc
  | n :: l, acc => if (n == got) = true then .inl n else pickL got l (if (got != u "") = true then (if startsW n got = true then acc ++ [n] else acc) else acc)
noncomputable def pickS (got : Wd) : Wd ⊕ Exc := pickL got optNames []
end

section
-- M1
section
variable {γ : Fx} {S : St} {Ξ : Exc → Cells → Prop} {Φ : D → St → Prop} {e o : Expr} {es : List Expr} {pos apos p1 : Pos} {name : PySem.Str}
theorem E_mo {id : String} (slot : Slot "list" name id) (ty : typeOf (.builtin id) = pure (.type "method_descriptor"))
    (h : WPE γ o S (fun d S₁ => (∃ c ds, d = .ref c ∧ (c, MO.list ds) ∈ S₁.κ) ∧ WPL γ (backTo pos (starEach (e :: es) γ.env)) S₁ (fun ds S₂ => WPC γ (.builtin id) (d :: ds) S₂ Φ Ξ) Ξ) Ξ)
    (hbase : attributeBase o name γ.env (eval o γ.env) = eval o γ.env)
    (hok : ((((backTo pos (starEach (e :: es) γ.env)).all fun x => !x.fst) && (backToKw pos (keywordEach [] γ.env)).all fun x => x.fst.isSome) && decide (((e :: es).length + ([] : List Keyword).length + if ([] : List Keyword).isEmpty = true then 0 else 1) < 30)) = true)
    (hline : (apos.endLine == pos.line) = true) (he : starEach (e :: es) γ.env = (false, eval e γ.env) :: starEach es γ.env) (hp : (backTo pos (starEach (e :: es) γ.env)).any (·.1) = false) :
    WPE γ (.Call (.Attribute o name apos) (e :: es) [] pos) S Φ Ξ :=
  E_meth slot PySem.F.plainAttrs_list ty (WP.mono h (fun d S₁ ⟨⟨c, ds, hx, hm⟩, k⟩ => ⟨by subst hx; exact hand_own hm, k⟩) fun _ _ k => k) hbase hok hline he hp
end
theorem K60 : ∀ P, (K P).lookup 60 = some (tupO [.ref 59]) := fun P => by kernel_rfl
end

section
-- S4
structure At (t : Wd) (i : Int) (suf : Wd) : Prop where
  h0 : 0 ≤ i
  hl : i ≤ t.length
  hd : t.drop i.toNat = suf
theorem At.nil {t : Wd} {i : Int} (h : At t i []) : i = t.length := by
  have := h.hd
  rw [List.drop_eq_nil_iff] at this
  have := h.hl
  have := h.h0
  omega
theorem At.lt {t : Wd} {i : Int} {c : Nat} {r : Wd} (h : At t i (c :: r)) : i < t.length := by
  have := h.h0
  rcases Int.lt_or_le i t.length with h' | h'
  · exact h'
  · have e := h.hd
    rw [List.drop_of_length_le (by omega)] at e
    cases e
theorem At.get {t : Wd} {i : Int} {c : Nat} {r : Wd} (h : At t i (c :: r)) : t.getD i.toNat 0 = c := by
  have e := h.hd
  have h1 := h.lt
  have h2 := h.h0
  have h3 : i.toNat < t.length := by omega
  rw [List.drop_eq_getElem_cons h3] at e
  have := (List.cons.inj e).1
  simp [List.getD, List.getElem?_eq_getElem h3, this]
theorem At.next {t : Wd} {i : Int} {c : Nat} {r : Wd} (h : At t i (c :: r)) : At t (i + 1) r := by
  have h1 := h.lt
  have h2 := h.h0
  refine ⟨by omega, by omega, ?_⟩
  have h3 : i.toNat < t.length := by omega
  have e := h.hd
  rw [List.drop_eq_getElem_cons h3] at e
  rw [show (i + 1).toNat = i.toNat + 1 by omega]
  exact (List.cons.inj e).2
theorem At.eq {t : Wd} {i j : Int} {r : Wd} (h : At t i r) (e : i = j) : At t j r := e ▸ h
noncomputable def blanks : List Wd := [[32], [9], [10], [11], [12], [13]]
noncomputable def isB (c : Nat) : Bool := blanks.contains [c]
inductive Fd where
  | none
  | elem (w suf : Wd)
  | bad (x : Exc)
noncomputable def junkN : Nat → Wd → Nat
  | 0, _ => 0
  | _, [] => 0
  | n + 1, c :: r => if isB c = true then 0 else junkN n r + 1
noncomputable def junkX (what suf : Wd) : Exc := ⟨1, u "list element in " ++ what ++ u " followed by \"" ++ suf.take (junkN 20 suf) ++ u "\" instead of space", [u "TCL", u "VALUE", u "LIST", u "JUNK"]⟩
noncomputable def checkB (what : Wd) : Wd → Option Exc
  | [] => none
  | c :: r => if isB c = true then none else some (junkX what (c :: r))
noncomputable def listX (what code : Wd) : Exc := ⟨1, u "unmatched open " ++ what ++ u " in list", [u "TCL", u "VALUE", u "LIST", code]⟩
noncomputable def endE (what w suf : Wd) : Fd := match checkB what suf with
  | none => .elem w suf
  | some x => .bad x
noncomputable def braceL : Nat → Wd → Wd → Fd
  | _, [], _ => .bad (listX (u "brace") (u "BRACE"))
  | d, [c], acc => if ([c] == u "\\") = true then .bad (listX (u "brace") (u "BRACE")) else if ([c] == u "{") = true then .bad (listX (u "brace") (u "BRACE"))
      else if ([c] == u "}") = true then (if (d == 1) = true then endE (u "braces") acc [] else .bad (listX (u "brace") (u "BRACE"))) else .bad (listX (u "brace") (u "BRACE"))
  | d, c :: x :: r, acc => if ([c] == u "\\") = true then braceL d r (acc ++ [c, x]) else if ([c] == u "{") = true then braceL (d + 1) (x :: r) (acc ++ [c])
      else if ([c] == u "}") = true then (if (d == 1) = true then endE (u "braces") acc (x :: r) else braceL (d - 1) (x :: r) (acc ++ [c])) else braceL d (x :: r) (acc ++ [c])
noncomputable def quoteL : Wd → Wd → Option Fd
  | [], _ => some (.bad (listX (u "quote") (u "QUOTE")))
  | c :: r, acc => if ([c] == u "\\") = true then none else if ([c] == u "\"") = true then some (endE (u "quotes") acc r) else quoteL r (acc ++ [c])
noncomputable def bareL : Wd → Wd → Option Fd
  | [], acc => some (.elem acc [])
  | [c], acc => if isB c = true then some (.elem acc [c]) else if ([c] == u "\\") = true then none else some (.elem (acc ++ [c]) [])
  | c :: x :: r, acc => if isB c = true then some (.elem acc (c :: x :: r)) else if ([c] == u "\\") = true then (if (x == 42) = true then bareL r (acc ++ [42]) else none) else bareL (x :: r) (acc ++ [c])
noncomputable def findL : Wd → Option Fd
  | [] => some .none
  | c :: r => if isB c = true then findL r else if ([c] == u "{") = true then some (braceL 1 r []) else if ([c] == u "\"") = true then quoteL r [] else bareL (c :: r) []
inductive Split : Wd → List Wd ⊕ Exc → Prop
  | nil {s : Wd} : findL s = some .none → Split s (.inl [])
  | bad {s : Wd} {x : Exc} : findL s = some (.bad x) → Split s (.inr x)
  | cons {s w r : Wd} {ws : List Wd} : findL s = some (.elem w r) → r.length < s.length → Split r (.inl ws) → Split s (.inl (w :: ws))
  | consX {s w r : Wd} {x : Exc} : findL s = some (.elem w r) → r.length < s.length → Split r (.inr x) → Split s (.inr x)
end

section
-- M2
noncomputable def unS : D → Wd
  | .str x => x
  | _ => []
noncomputable def isS : D → Bool
  | .str _ => true
  | _ => false
theorem map_unS : ∀ {ds : List D}, ds.all isS = true → (ds.map unS).map D.str = ds
  | [], _ => rfl
  | d :: ds, h => by
    rw [List.all_cons, Bool.and_eq_true] at h
    cases d with
    | str x => rw [List.map_cons, List.map_cons, map_unS h.2]; rfl
    | _ => cases h.1
section
variable {γ : Fx} {S : St} {Ξ : Exc → Cells → Prop} {Φ : D → St → Prop} {x : Wd} {ds : List D}
theorem in_tu (hs : ds.all isS = true) (h : Φ (.bool ((ds.map unS).contains x)) S) : WPCmp γ .In (.str x) (.tup ds) S Φ Ξ := by
  rw [← map_unS hs]; exact in_t h
theorem in_lu (hs : ds.all isS = true) (h : Φ (.bool ((ds.map unS).contains x)) S) : WPCmp γ .In (.str x) (.lst ds) S Φ Ξ := by
  rw [← map_unS hs]; exact in_l h
end
theorem sl_is {x y : Wd} {a b : Int} {Φ : D → Prop} (h0 : 0 ≤ a) (h1 : 0 ≤ b) (hl : x.length ≤ 10000000) (he : (x.drop a.toNat).take (b - a).toNat = y) (h : Φ (.str y)) : ∃ d', slD (.str x) (some a) (some b) none = some d' ∧ sizeD (.str x) ≤ 10000000 ∧ (none : Option Int) ≠ some 0 ∧ Φ d' :=
  sl_ss h0 h1 hl (by rw [he]; exact h)
end

section
-- M3
theorem block_fn {env : Env} (h : env.scope.kind = .function) : env.blockKind = .function := by
  unfold Env.blockKind; rw [h]; rfl
noncomputable def strd : Expr → Bool
  | .Starred .. => true
  | _ => false
theorem sw2 {env : Env} {x y : PySem.Str} {p q tp vp : Pos} {k k2 : Nat} {v1 v2 : Expr} (hb : env.scope.kind = .function) (kx : env.kindOf x = some .local) (ky : env.kindOf y = some .local) (hl : (q.line == p.line) = true) (hxy : (y == x) = false)
    (hst : [v1, v2].any strd = false) (hf : [v1, v2].all (foldedForSure 8) = false) (hc : [v1, v2].all (constantsAlone 8) = false) : swappedStores [.Tuple [.Name x p, .Name y q] k tp] (.Tuple [v1, v2] k2 vp) env = pure (some [x, y]) := by
  have e1 : (env.kindOf x == some .local && p.line == p.line) = true := by rw [kx]; simp
  have e2 : (env.kindOf y == some .local && q.line == p.line) = true := by rw [ky, hl]; rfl
  have e3 : (!([Expr.Name x p, .Name y q].length == 2 || [Expr.Name x p, .Name y q].length == 3) || [v1, v2].length != [Expr.Name x p, .Name y q].length || env.blockKind != .function) = false := by rw [block_fn hb]; rfl
  have e4 : ([x, y].eraseDups.length != [x, y].length) = false := by simp [List.eraseDups_cons, hxy]
  show (if (!([Expr.Name x p, .Name y q].length == 2 || [Expr.Name x p, .Name y q].length == 3) || [v1, v2].length != [Expr.Name x p, .Name y q].length || env.blockKind != .function) = true then _ else _) = _
  rw [e3, if_neg (by decide)]
  show (if [v1, v2].any strd = true then _ else _) = _
  rw [hst, if_neg (by decide)]
  extract_lets line names
  have hl' : q.line = p.line := by simpa using hl
  have hn : names = [x, y] := by simp [names, line, kx, ky, hl', show (Expr.Name x p).pos = p from rfl]
  rw [hn]
  show (if (([x, y].length != 2) || ([x, y].eraseDups.length != [x, y].length)) = true then _ else _) = _
  rw [e4, if_neg (by simp)]
  show (if [v1, v2].all (foldedForSure 8) = true then _ else _) = _
  rw [hf, if_neg (by decide)]
  show (if [v1, v2].all (constantsAlone 8) = true then _ else _) = _
  rw [hc, if_neg (by decide)]
  show pure (some names) = _
  rw [hn]
theorem sw3 {env : Env} {x y z : PySem.Str} {p q r tp vp : Pos} {k k2 : Nat} {v1 v2 v3 : Expr} (hb : env.scope.kind = .function) (kx : env.kindOf x = some .local) (ky : env.kindOf y = some .local) (kz : env.kindOf z = some .local) (hl : (q.line == p.line) = true) (hl2 : (r.line == p.line) = true) (hxy : (y == x) = false) (hxz : (z == x) = false) (hyz : (z == y) = false)
    (hst : [v1, v2, v3].any strd = false) (hf : [v1, v2, v3].all (foldedForSure 8) = false) (hc : [v1, v2, v3].all (constantsAlone 8) = false) : swappedStores [.Tuple [.Name x p, .Name y q, .Name z r] k tp] (.Tuple [v1, v2, v3] k2 vp) env = pure (some [x, y, z]) := by
  have e1 : (env.kindOf x == some .local && p.line == p.line) = true := by rw [kx]; simp
  have e2 : (env.kindOf y == some .local && q.line == p.line) = true := by rw [ky, hl]; rfl
  have e5 : (env.kindOf z == some .local && r.line == p.line) = true := by rw [kz, hl2]; rfl
  have e3 : (!([Expr.Name x p, .Name y q, .Name z r].length == 2 || [Expr.Name x p, .Name y q, .Name z r].length == 3) || [v1, v2, v3].length != [Expr.Name x p, .Name y q, .Name z r].length || env.blockKind != .function) = false := by rw [block_fn hb]; rfl
  have e4 : ([x, y, z].eraseDups.length != [x, y, z].length) = false := by simp [List.eraseDups_cons, hxy, hxz, hyz]
  show (if (!([Expr.Name x p, .Name y q, .Name z r].length == 2 || [Expr.Name x p, .Name y q, .Name z r].length == 3) || [v1, v2, v3].length != [Expr.Name x p, .Name y q, .Name z r].length || env.blockKind != .function) = true then _ else _) = _
  rw [e3, if_neg (by decide)]
  show (if [v1, v2, v3].any strd = true then _ else _) = _
  rw [hst, if_neg (by decide)]
  extract_lets line names
  have hl' : q.line = p.line := by simpa using hl
  have hl2' : r.line = p.line := by simpa using hl2
  have hn : names = [x, y, z] := by simp [names, line, kx, ky, kz, hl', hl2', show (Expr.Name x p).pos = p from rfl]
  rw [hn]
  show (if (([x, y, z].length != 3) || ([x, y, z].eraseDups.length != [x, y, z].length)) = true then _ else _) = _
  rw [e4, if_neg (by simp)]
  show (if [v1, v2, v3].all (foldedForSure 8) = true then _ else _) = _
  rw [hf, if_neg (by decide)]
  show (if [v1, v2, v3].all (constantsAlone 8) = true then _ else _) = _
  rw [hc, if_neg (by decide)]
  show pure (some names) = _
  rw [hn]
theorem if_dT {P A B : Prop} [Decidable P] (h : P) (a : A) : if decide P = true then A else B := by rw [if_pos (decide_eq_true h)]; exact a
theorem if_dF {P A B : Prop} [Decidable P] (h : ¬ P) (a : B) : if decide P = true then A else B := by rw [if_neg (by simp [h])]; exact a
section
variable {γ : Fx} {N : Fz} {F : Rw} {S : St} {Ξ : Exc → Cells → Prop} {Φ : AF → St → Prop} {pos p1 p2 : Pos} {k : Nat} {e t o i : Expr} {x : PySem.Str}
theorem VRs.reverse {N : Fz} {vs : List Value} {ds : List D} (h : VRs N vs ds) : VRs N vs.reverse ds.reverse :=
  VRs.ind (P := fun vs ds => VRs N vs.reverse ds.reverse) .nil (fun a _ ih => by
    rw [List.reverse_cons, List.reverse_cons]
    exact ih.append (.cons a .nil)) h
theorem wp_binds {E : Value → Shared → Prop} : ∀ {xs : List PySem.Str} {ds : List D} {vs : List Value} {S : St} {hp : Heap} {tk : Nat} {Q : Unit → Shared → Prop}, (∀ x ∈ xs, γ.env.kindOf x = some .local) →
    xs.length = ds.length → Sat γ N F S hp tk → VRs N vs ds → (∀ h' tk', Sat γ N F ⟨setAll xs ds S.ρ, S.κ⟩ h' tk' → Q () (γ.mk' h' tk')) → wpAny (md γ.w) γ.A (assignInOrder (xs.map fun n => bindName γ.env n) vs) Q E (γ.mk' hp tk) := by
  intro xs
  induction xs with
  | nil =>
    intro ds vs S hp tk Q hk hl sat rs h
    cases ds with
    | nil => refine VRs.nilE rs ?_; exact wpAny_pure (h hp tk sat)
    | cons d ds => exact nomatch hl
  | cons x xs ih =>
    intro ds vs S hp tk Q hk hl sat rs h
    cases ds with
    | nil => exact nomatch hl
    | cons d ds =>
      refine VRs.consE rs ?_
      intro v vs r rs
      refine wpAny_assignInOrder_more ?_
      exact bindName_ (wp_store sat (hk x (.head _)) r fun h' tk' s' => ih (fun y hy => hk y (.tail _ hy)) (Nat.succ.inj hl) s' rs h)
theorem S_swap {ts : List Expr} {xs : List PySem.Str} {tp : Pos} (hk : ∀ x ∈ xs, γ.env.kindOf x = some .local)
    (h : WPE γ e S (fun d S₁ => ∃ ds, d = .tup ds ∧ ds.length = xs.length ∧ Φ .next ⟨setAll xs.reverse ds.reverse S₁.ρ, S₁.κ⟩) Ξ)
    (hs : swapsWithSole [.Tuple ts k tp] e pos.line γ.env = pure false) (hw : γ.env.scope.kind = .function → swappedStores [.Tuple ts k tp] e γ.env = pure (some xs)) : WPS γ (.Assign [.Tuple ts k tp] e pos) S Φ Ξ := fun N F hp tk sat Q E C => by
  refine Assign_Tuple_swapped (h N F hp tk sat _ E (C.then fun N₁ v d S₁ h₁ tk₁ le₁ sat₁ r₁ k₁ => ?_)) hs (hw sat.ok.kind)
  refine absP fun _ kk => ?_
  obtain ⟨ds, rfl, hl, k₁⟩ := k₁
  refine kk ?_
  clear kk
  refine VR.tupE r₁ ?_
  · intro _ _ _ _ ho hc hd rs
    rename_i a o n vs
    have hsz : xs.length = vs.toArray.size := by rw [List.size_toArray, VRs.length rs, hl]
    rw [hsz]
    refine unpackItems_tuple sat₁.ok.hand ⟨o, sat₁.fro ho, hc, n, hd⟩ fun h' hk' => ?_
    have s' : Sat γ N₁ F S₁ h' tk₁ := sat₁.keeps (fun b o e => hk' b o (Nat.ne_of_lt (Heap.lt_size e)) e)
    exact wp_binds (fun x hx => hk x (List.mem_reverse.mp hx)) (by simp [hl]) s' rs.reverse fun h'' tk'' s'' => C.ok N₁ _ _ _ h'' tk'' le₁ s'' .next k₁
theorem S_swap2 {x y : PySem.Str} {p q tp vp : Pos} {k k2 : Nat} {v1 v2 : Expr} (kx : γ.env.kindOf x = some .local) (ky : γ.env.kindOf y = some .local) (hl : (q.line == p.line) = true) (hxy : (y == x) = false)
    (hst : [v1, v2].any strd = false) (hf : [v1, v2].all (foldedForSure 8) = false) (hc : [v1, v2].all (constantsAlone 8) = false)
    (h : WPE γ (.Tuple [v1, v2] k2 vp) S (fun d S₁ => ∃ d1 d2, d = .tup [d1, d2] ∧ Φ .next ⟨(x, d1) :: (y, d2) :: S₁.ρ, S₁.κ⟩) Ξ) : WPS γ (.Assign [.Tuple [.Name x p, .Name y q] k tp] (.Tuple [v1, v2] k2 vp) pos) S Φ Ξ :=
  S_swap (xs := [x, y]) (fun z hz => by rcases List.mem_cons.mp hz with rfl | hz; exact kx; rw [List.mem_singleton.mp hz]; exact ky)
    (WP.mono h (fun d S₁ ⟨d1, d2, e, k⟩ => ⟨[d1, d2], e, rfl, k⟩) fun _ _ k => k) rfl fun hb => sw2 hb kx ky hl hxy hst hf hc
theorem S_swap3 {x y z : PySem.Str} {p q r tp vp : Pos} {k k2 : Nat} {v1 v2 v3 : Expr} (kx : γ.env.kindOf x = some .local) (ky : γ.env.kindOf y = some .local) (kz : γ.env.kindOf z = some .local) (hl : (q.line == p.line) = true) (hl2 : (r.line == p.line) = true) (hxy : (y == x) = false) (hxz : (z == x) = false) (hyz : (z == y) = false)
    (hst : [v1, v2, v3].any strd = false) (hf : [v1, v2, v3].all (foldedForSure 8) = false) (hc : [v1, v2, v3].all (constantsAlone 8) = false)
    (h : WPE γ (.Tuple [v1, v2, v3] k2 vp) S (fun d S₁ => ∃ d1 d2 d3, d = .tup [d1, d2, d3] ∧ Φ .next ⟨(x, d1) :: (y, d2) :: (z, d3) :: S₁.ρ, S₁.κ⟩) Ξ) : WPS γ (.Assign [.Tuple [.Name x p, .Name y q, .Name z r] k tp] (.Tuple [v1, v2, v3] k2 vp) pos) S Φ Ξ :=
  S_swap (xs := [x, y, z]) (fun a ha => by
      rcases List.mem_cons.mp ha with rfl | ha
      · exact kx
      · rcases List.mem_cons.mp ha with rfl | ha
        · exact ky
        · rw [List.mem_singleton.mp ha]; exact kz)
    (WP.mono h (fun d S₁ ⟨d1, d2, d3, e, k⟩ => ⟨[d1, d2, d3], e, rfl, k⟩) fun _ _ k => k) rfl fun hb => sw3 hb kx ky kz hl hl2 hxy hxz hyz hst hf hc
end
end

section
-- M4
noncomputable def XS (Ξ : Exc → Cells → Prop) (x : Exc) (κ : Cells) : Prop := ∃ κ', κ'.Sublist κ ∧ Ξ x κ'
theorem Raised.lessK {γ : Fx} {N : Fz} {F : Rw} {e : Addr} {x : Exc} {κ κ' : Cells} {h : Heap} {tk : Nat} (R : Raised γ N F e x κ h tk) (s : κ'.Sublist κ) : Raised γ N F e x κ' h tk :=
  let ⟨t, m, R⟩ := R
  ⟨t, m, { R with
    B := by
      refine absP fun _ kk => ?_
      refine absP fun _ kk => ?_
      obtain ⟨B, dx, b1, b2, b3, b4, b5⟩ := R.B
      refine kk ?_
      clear kk
      exact kk ⟨B, dx, b1, b2, b3, fun p hp => b4 p (s.subset hp), b5⟩
    lowK := fun p hp => R.lowK p (s.subset hp)
    ced := R.ced.sublist (s.map _)
    nsK := fun p hp q hq => R.nsK p hp q (s.subset hq)
    NK := fun p hp q hq => R.NK p hp q (s.subset hq)
    FK := fun p hp q hq => R.FK p hp q (s.subset hq) }⟩
theorem B_weakX {γ : Fx} {S : St} {Φ : AF → St → Prop} {Ξ : Exc → Cells → Prop} {body : List Stmt} (h : WPB γ body S Φ (XS Ξ)) : WPB γ body S Φ Ξ := fun N F hp tk sat Q E C =>
  h N F hp tk sat Q E ⟨C.pe, C.ok, fun N' e x κ' h' tk' l ok R ⟨κ'', s, hx⟩ => C.ex N' e x κ'' h' tk' l ok (R.lessK s) hx⟩
theorem m_join_o {γ : Fx} {S : St} {Φ : D → St → Prop} {Ξ : Exc → Cells → Prop} {x : Wd} {ws : List Wd} {c : Addr} (hc : (c, .list (ws.map .str)) ∈ S.κ) (ht : total x ws ≤ 10000000) (h : Φ (.str (glueW x ws)) S) : WPC γ (.builtin "str.join") [.str x, .ref c] S Φ Ξ := fun N vs rs F hp tk sat Q E C => by
  refine VRs.consE rs ?_
  · intro _ _ r1 rs; refine VRs.consE rs ?_
    · intro _ _ r2 rs
      (first | refine VRs.nilE rs ?_ | cases rs)
      (first | (refine VR.intE r1 ?_; intro _) | (refine VR.strE r1 ?_; intro _ _ _) | refine VR.boolE r1 ?_ | refine VR.noneE r1 ?_ | refine VR.refE r1 ?_ | refine VR.valE r1 ?_ | (refine VR.strxE r1 ?_; intro _) | cases r1); (first | (refine VR.intE r2 ?_; intro _) | (refine VR.strE r2 ?_; intro _ _ _) | refine VR.boolE r2 ?_ | refine VR.noneE r2 ?_ | refine VR.refE r2 ?_ | refine VR.valE r2 ?_ | (refine VR.strxE r2 ?_; intro _) | cases r2)
      refine absP fun _ kk => ?_
      obtain ⟨o, ho, vs, n, rfl, rs⟩ := sat.cel hc
      refine kk ?_
      clear kk
      have il : hp.IsList c vs.toArray := ⟨_, ho, rfl, n, rfl⟩
      refine absP fun _ kk => ?_
      obtain ⟨l, rfl, e2, e3⟩ := rs.strs
      refine kk ?_
      clear kk
      exact call_meets PySem.F.slot_str_join (typeIs_str _ _ _) PySem.F.entry_str_join (PySem.F.args_str_join_2 _ _) (meets_str_join_list (tx x) _ c l (join_fit e2 ht)) ⟨il, join_post sat C e2 ht e3 h⟩
theorem glue_one (w : Wd) : glueW [] (w.map fun c => [c]) = w := by
  rw [glueW_nil]
  induction w with
  | nil => rfl
  | cons c w ih => rw [List.map_cons, List.flatten_cons, ih]; rfl
theorem total_one (w : Wd) (h : w.length ≤ 100000) : total [] (w.map fun c => [c]) ≤ 10000000 := by
  have : ((w.map fun c => [c]).map List.length).sum = w.length := by
    clear h
    induction w with
    | nil => rfl
    | cons c w ih => simp only [List.map_cons, List.sum_cons, ih, List.length_cons, List.length_nil]; omega
  unfold total
  rw [this]
  simp
  omega
noncomputable def Fd.Ok (t : Wd) (i : Int) (κ : Cells) (Φ : D → Cells → Prop) (Ξ : Exc → Cells → Prop) : Fd → Prop
  | .elem w r => ∀ j, At t j r → i ≤ j → Φ (.tup [.str w, .int j]) κ
  | .bad x => Ξ x κ
  | .none => Φ .none κ
theorem S_frz {γ : Fx} {S S' : St} {Ξ : Exc → Cells → Prop} {m : MO} {c : Addr} {d : D} {Φ : AF → St → Prop} {st : Stmt} (f : Frz c m d S S') (h : WPS γ st S' Φ Ξ) : WPS γ st S Φ Ξ := fun N F hp tk sat Q E C => by
  obtain ⟨o, sat'⟩ := sat.frz f
  exact h _ F hp tk sat' Q E (C.mono Le.cons)
theorem post_drop2 {Φ : D → Cells → Prop} {d : D} {ρ : Rho} {p : Addr × MO} {κ : Cells} (h : Φ d κ) : Post Φ (.ret d) ⟨ρ, p :: κ⟩ := ⟨κ, List.sublist_cons_self _ _, h⟩
end

section
-- S5
structure Nice (w : Wd) : Prop where
  len : w.length ≤ 1000
  asc : ∀ c ∈ w, c < 128
theorem low1 : ∀ c < 128, (lowerW [c]).length = 1 := by decide +kernel
theorem Nice.low {w : Wd} (h : Nice w) : ∀ c ∈ w, (lowerW [c]).length ≤ 100 := fun c hc => by rw [low1 c (h.asc c hc)]; omega
theorem folded_len : ∀ {w : Wd}, (∀ c ∈ w, c < 128) → (foldedW w).length = w.length
  | [], _ => rfl
  | c :: w, h => by
    have ih := folded_len (w := w) fun c hc => h c (.tail _ hc)
    have h1 := low1 c (h c (.head _))
    show (foldOne c ++ foldedW w).length = _
    unfold foldOne
    rw [List.length_append, ih, h1, if_pos (by rfl), h1, List.length_cons]
    omega
theorem Nice.fold {w : Wd} (h : Nice w) : (foldedW w).length ≤ 1000 := by rw [folded_len h.asc]; exact h.len
noncomputable def isFit (mode : Wd) (nc : Bool) (t p : Wd) : Bool := if (mode == u "glob") = true then fits nc p t else if nc = true then foldedW t == foldedW p else t == p
noncomputable def chosenL (mode : Wd) (nc : Bool) (t : Wd) : List (Wd × Wd) → Bool → Option Wd
  | [], _ => none
  | (p, b) :: r, f =>
    if (f || (r.isEmpty && p == u "default") || isFit mode nc t p) = true then (if (b != u "-") = true then some b else chosenL mode nc t r true) else chosenL mode nc t r false
noncomputable def dblX (w m : Wd) : Exc := ⟨1, u "bad option \"" ++ w ++ u "\": -" ++ m ++ u " option already found", [u "TCL", u "OPERATION", u "SWITCH", u "DOUBLEOPT"]⟩
noncomputable def optsL : Wd → Bool → List Wd → (Wd × Bool × List Wd) ⊕ Exc
  | m, nc, [] => .inl (m, nc, [])
  | m, nc, w :: r =>
    if 2 ≤ r.length then
      if startsW w (u "-") = true then
        match pickS w with
        | .inr x => .inr x
        | .inl o => if (o == u "--") = true then .inl (m, nc, r) else if (o == u "-nocase") = true then optsL m true r else if (m == u "") = true then optsL (o.drop 1) nc r else .inr (dblX w m)
      else .inl (m, nc, w :: r)
    else .inl (m, nc, w :: r)
noncomputable def anyHash : List Wd → Bool
  | [] => false
  | [a] => startsW a (u "#")
  | a :: _ :: r => startsW a (u "#") || anyHash r
noncomputable def oddX (isList : Bool) (items : List Wd) : Exc :=
  if (isList && anyHash items) = true then ⟨1, u "extra switch pattern with no body" ++ u ", this may be due to a comment incorrectly placed outside of a switch body" ++ u " - see the \"switch\" documentation", [u "TCL", u "OPERATION", u "SWITCH", u "BADPAT", u "COMMENT?"]⟩
  else ⟨1, u "extra switch pattern with no body", [u "TCL", u "OPERATION", u "SWITCH", u "BADPAT"]⟩
noncomputable def usageX (usage : Wd) : Exc := ⟨1, u "wrong # args: should be \"" ++ usage ++ u "\"", [u "TCL", u "WRONGARGS"]⟩
noncomputable def noBodyX (w : Wd) : Exc := ⟨1, u "no body specified for pattern \"" ++ w ++ u "\"", [u "TCL", u "OPERATION", u "SWITCH", u "BADPAT", u "FALLTHROUGH"]⟩
noncomputable def pairL : List Wd → List (Wd × Wd)
  | a :: b :: r => (a, b) :: pairL r
  | _ => []
noncomputable def lastW (ws : List Wd) : Wd := ws.getD (ws.length - 1) []
noncomputable def prevW (ws : List Wd) : Wd := ws.getD (ws.length - 2) []
noncomputable def pairsI (isList : Bool) (items : List Wd) : List (Wd × Wd) ⊕ Exc :=
  if items.length % 2 = 1 then .inr (oddX isList items) else if (lastW items == u "-") = true then .inr (noBodyX (prevW items)) else .inl (pairL items)
noncomputable def pairsS (name : Wd) (ws : List Wd) (R : List Wd ⊕ Exc) : List (Wd × Wd) ⊕ Exc :=
  if ws.length = 1 then
    match R with
    | .inr x => .inr x
    | .inl items => if items.isEmpty = true then .inr (usageX (name ++ u " ?-option ...? string {?pattern body ...? ?default body?}")) else pairsI true items
  else pairsI false ws
inductive Out where
  | nest (b : Wd)
  | text
  | exc (x : Exc)
noncomputable def outO : Option Wd → Out
  | none => .text
  | some b => .nest b
noncomputable def actRest (name mode : Wd) (nc : Bool) (rest : List Wd) (R : List Wd ⊕ Exc) : Out :=
  match pairsS name (rest.drop 1) R with
  | .inr x => .exc x
  | .inl ps => outO (chosenL mode nc (rest.getD 0 []) ps false)
noncomputable def act (name : Wd) (ws : List Wd) (R : List Wd ⊕ Exc) : Out :=
  if ws.length < 2 then .exc (usageX (name ++ u " ?-option ...? string ?pattern body ...? ?default body?"))
  else match optsL [] false ws with
    | .inr x => .exc x
    | .inl (m, nc, rest) => actRest name m nc rest R
end

section
-- M5
theorem fitsL_ok {x : Int} (h0 : -1000000 ≤ x) (h1 : x ≤ 1000000) : Builtin.Range.rangeFitsLong x = true := by
  unfold Builtin.Range.rangeFitsLong
  simp
  omega
theorem rng_size1 {n : Nat} : Builtin.Range.rangeSize 0 n 1 = n := by
  unfold Builtin.Range.rangeSize
  rw [if_pos (by decide)]
  split <;> omega
theorem rng_size2 {n : Nat} : Builtin.Range.rangeSize 0 n 2 = ((n + 1) / 2 : Nat) := by
  unfold Builtin.Range.rangeSize
  rw [if_pos (by decide)]
  split <;> omega
theorem rng_size {n : Nat} : (Builtin.Range.rangeSize 0 n 1).toNat = n := by rw [rng_size1]; rfl
theorem small_rng {n : Nat} (h1 : n ≤ 100000) : Builtin.Range.small 0 n 1 = true := by
  unfold Builtin.Range.small
  rw [rng_size1, fitsL_ok (by omega) (by omega), fitsL_ok (by omega) (by omega), fitsL_ok (by omega) (by omega), if_pos (by decide), fitsL_ok (by omega) (by omega)]
  simp
theorem small_rng2 {n : Nat} (h1 : n ≤ 100000) : Builtin.Range.small 0 n 2 = true := by
  unfold Builtin.Range.small
  rw [rng_size2, fitsL_ok (by omega) (by omega), fitsL_ok (by omega) (by omega), fitsL_ok (by omega) (by omega), fitsL_ok (by omega) (by omega), if_pos (by decide), fitsL_ok (by omega) (by omega)]
  simp
end

section
-- CM
structure ItA (γ : Fx) (N : Fz) (I : Addr) (P : Nat → Obj → Prop) (ds : List D) : Prop extends It γ N I P ds where
  self : ∀ N' F i S hp tk o, Le N N' → P i o → Sat γ N' ((I, o) :: F) S hp tk → ∀ (Q : Value → Shared → Prop) (E : Value → Shared → Prop), Q (.ref I) (γ.mk' hp tk) → wpAny (md γ.w) γ.A (pyIter (.ref I)) Q E (γ.mk' hp tk)
noncomputable def IterA (γ : Fx) (d : D) (ds : List D) : Prop := ∀ N F S hp tk v, VR N v d → Sat γ N F S hp tk → ∀ (Q : Value → Shared → Prop) (E : Value → Shared → Prop),
  (∀ I P o h' tk', (∀ γ', ItA γ' N I P ds) → P 0 o → Sat γ N ((I, o) :: F) S h' tk' → Q (.ref I) (γ.mk' h' tk')) → wpAny (md γ.w) γ.A (pyIter v) Q E (γ.mk' hp tk)
theorem IA_lst {γ : Fx} {ds : List D} : IterA γ (.lst ds) ds := fun N F S hp tk v r sat Q E k => by
  refine VR.lstE r ?_
  · intro _ _ _ _ ho hc hdd hd rs
    rename_i a o n vs
    have hl : ∀ h' : Heap, h'.get? a = some o → h'.IsList a vs.toArray := fun h' e => ⟨o, e, hc, n, hd⟩
    refine wpAny_pyIter_list (hl _ (sat.fro ho)) (k hp.objs.size (fun i o' => o'.cls = .type "list_iterator" ∧ o'.data = .fields #[.ref a, .int i 0]) _ _ tk (fun γ' => ⟨⟨?_, ?_⟩, ?_⟩) ⟨rfl, rfl⟩ (sat.pushF _))
    · intro N' F i d S hp tk o' le hi hP sat Q E k
      obtain ⟨x, hx, rx⟩ := (rs.mono le).get' hi
      refine wpAny_pyNext_list_item ⟨o', sat.frm (.head _), hP.1, hP.2⟩ (hl _ (sat.fro (le.1 _ ho))) hx fun h' hit hs => ?_
      refine absP fun _ kk => ?_
      obtain ⟨o'', a1, a2, a3⟩ := hit
      refine kk ?_
      clear kk
      exact k _ x h' tk o'' (Le.refl _) rx ⟨a2, a3⟩ (sat.turnF hs a1)
    · intro N' F S hp tk o' le hP sat Q E k
      refine wpAny_pyNext_list_end sat.ok.hand ⟨o', sat.frm (.head _), hP.1, hP.2⟩ (hl _ (sat.fro (le.1 _ ho))) (by simp [rs.length]) fun h' hs => k h' tk (sat.offE hs)
    · intro N' F i S hp tk o' le hP sat Q E k
      exact wpAny_pyIter_listiter (l := a) (i := i) ⟨o', sat.frm (.head _), hP.1, hP.2⟩ k
theorem IA_rng {γ : Fx} {a b c : Int} (hs : Builtin.Range.small a b c = true) : IterA γ (.rng a b c) ((rngL a c (Builtin.Range.rangeSize a b c).toNat).map .int) := fun N F S hp tk v r sat Q E k => by
  refine VR.rngE r ?_
  · intro _ _ _ _ ho
    refine wpAny_pyIter_range (sat.fro ho) hs (k hp.objs.size (fun i o' => o' = { cls := .type "range_iterator", dict := none, data := .fields #[rawInt (a + i * c), rawInt ((Builtin.Range.rangeSize a b c) - i), rawInt c], slots := #[] }) _ _ tk (fun γ' => ⟨⟨?_, ?_⟩, ?_⟩) (by simp) (sat.pushF _))
    · intro N' F i d S hp tk o' le hi hP sat Q E k
      simp only [List.getElem?_map, Option.map_eq_some_iff] at hi
      obtain ⟨x, e1, rfl⟩ := hi
      obtain ⟨h1, rfl⟩ := rngL_get _ _ _ _ _ e1
      subst hP
      refine wpAny_pyNext_range_item (sat.frm (.head _)) (by omega) fun h' hit hs => ?_
      refine k _ _ h' _ _ (Le.refl _) (.int _ _) ?_ ((sat.turnF hs hit).tkTo (Nat.le_succ _))
      have z1 : a + ((i + 1 : Nat) : Int) * c = a + i * c + c := by rw [Int.natCast_add, Int.add_mul]; simp; omega
      have z2 : Builtin.Range.rangeSize a b c - ((i + 1 : Nat) : Int) = Builtin.Range.rangeSize a b c - i - 1 := by omega
      rw [z1, z2]
    · intro N' F S hp tk o' le hP sat Q E k
      subst hP
      refine wpAny_pyNext_range_end sat.ok.hand (sat.frm (.head _)) ?_ fun h' hs => k h' tk (sat.offE hs)
      simp [rngL_length]
      omega
    · intro N' F i S hp tk o' le hP sat Q E k
      subst hP
      exact wpAny_pyIter_rangeiter (sat.frm (.head _)) k
noncomputable def WPI (γ : Fx) (ifs : List Expr) (S : St) (Φ : Bool → St → Prop) (Ξ : Exc → Cells → Prop) : Prop :=
  WP γ (forIn ifs true fun c r => if r = true then do let ok ← isTrue c γ.env (eval c γ.env); pure (ForInStep.yield ok) else pure (ForInStep.yield r)) S RB Φ Ξ
theorem I_nil {γ : Fx} {S : St} {Φ : Bool → St → Prop} {Ξ : Exc → Cells → Prop} (h : Φ true S) : WPI γ [] S Φ Ξ := fun N F hp tk sat Q E C => wpAny_tests_nil (C.go sat rfl h)
theorem I_one {γ : Fx} {S : St} {c : Expr} {Φ : Bool → St → Prop} {Ξ : Exc → Cells → Prop} (h : WPT γ c S Φ Ξ) : WPI γ [c] S Φ Ξ := fun N F hp tk sat Q E C => wpAny_tests_one (h N F hp tk sat Q E C)
noncomputable def CompP (γ : Fx) (x : PySem.Str) (ifs : List Expr) (elt : Expr) (Ψ : List D → Cells → Prop) : List D → List D → Cells → Prop
  | [], acc, κ => Ψ acc κ
  | d :: ds, acc, κ => WPI γ ifs ⟨[(x, d)], κ⟩ (fun b S' => if b = true then WPE γ elt S' (fun e S'' => CompP γ x ifs elt Ψ ds (acc ++ [e]) S''.κ) NoX else CompP γ x ifs elt Ψ ds acc S'.κ) NoX
theorem Hp.offS {B0 : Heap} {nss : Nss} {N : Fz} {F : Rw} {κ : Cells} {h h' : Heap} {C : Addr} {m : PySem.Str → Option Value} (H : Hp B0 ((C, m) :: nss) N F κ h) (hs : Heap.SameBut C h h') : Hp B0 nss N F κ h' where
  base := fun b o e => (hs.2 b fun q => by
    have := H.lowS (C, m) (.head _)
    rw [q] at e
    exact absurd (Heap.lt_size e) (Nat.not_lt.mpr this)).trans (H.base b o e)
  ns := fun p hp => (H.ns p (.tail _ hp)).sameBut hs fun q => by
    have := H.nsd
    rw [List.map_cons, List.nodup_cons] at this
    exact this.1 (List.mem_map.mpr ⟨p, hp, q⟩)
  fro := fun p hp => (hs.2 p.1 (H.nsN (C, m) (.head _) p hp).symm).trans (H.fro p hp)
  frm := fun p hp => (hs.2 p.1 (H.nsF (C, m) (.head _) p hp).symm).trans (H.frm p hp)
  cel := fun p hp => let ⟨o, a, b⟩ := H.cel p hp; ⟨o, (hs.2 p.1 (H.nsK (C, m) (.head _) p hp).symm).trans a, b⟩
  lowS := fun p hp => H.lowS p (.tail _ hp)
  lowK := H.lowK
  lowF := H.lowF
  big := by rw [hs.1]; exact H.big
  nsd := by have := H.nsd; rw [List.map_cons, List.nodup_cons] at this; exact this.2
  ced := H.ced
  frd := H.frd
  nsN := fun p hp => H.nsN p (.tail _ hp)
  nsF := fun p hp => H.nsF p (.tail _ hp)
  nsK := fun p hp => H.nsK p (.tail _ hp)
  NF := H.NF
  NK := H.NK
  FK := H.FK
noncomputable abbrev Fx.comp (γ : Fx) (scope : Scope) (cl : List (PySem.Str × Addr)) (C : Addr) (m : PySem.Str → Option Value) : Fx := ⟨γ.w, γ.B0, γ.s0, γ.A, compEnvC scope cl C γ.env, (γ.env.locals, m) :: γ.outs, γ.envs, γ.cv, γ.n⟩
inductive CompInv (γc : Fx) (F : Rw) (N₁ : Fz) (x : PySem.Str) (ifs : List Expr) (elt : Expr) (Ψ : List D → Cells → Prop) (ds : List D) (P : Nat → Obj → Prop) (I L : Addr) (mk' : Heap → Nat → Shared) : Nat → Shared → Prop
  | mk {n i : Nat} {o : Obj} {accD : List D} {N' : Fz} {κ : Cells} {h' : Heap} {tk' : Nat} {vs : List Value} {k : Nat} : n + i = ds.length → Le N₁ N' → P i o → Sat γc N' ((I, o) :: (L, lstO vs k) :: F) ⟨[], κ⟩ h' tk' → VRs N' vs accD → accD.length ≤ i →
      CompP γc x ifs elt Ψ (ds.drop i) accD κ → CompInv γc F N₁ x ifs elt Ψ ds P I L mk' n (mk' h' tk')
theorem E_comp {γ : Fx} {S : St} {Ξ : Exc → Cells → Prop} {Φ : D → St → Prop} {elt iter : Expr} {x : PySem.Str} {px : Pos} {ifs : List Expr} {scope : Scope} {pos : Pos}
    (hclos : (∀ y d, γ.cv.lookup y = some d → ∃ c, γ.env.cells.lookup y = some c) → ∃ cl, closureFor scope γ.env = pure cl ∧ ∀ y d, γ.cv.lookup y = some d → cl.lookup y = γ.env.cells.lookup y := by exact clos0 (by decide +kernel) ‹_›)
    (hcell : ∀ y ∈ scope.names, y.2 ≠ .cell := by decide +kernel) (hkind : scope.kind = .function := by with_unfolding_all rfl) (hnames : ∀ y ∈ scope.names, y.2 = .local → scope.names.lookup y.1 = some .local := by decide +kernel) (hx : scope.names.lookup x = some .local := by with_unfolding_all rfl)
    (hs : ∀ v, foldedSetIterable iter γ.env v = pure v := by intro _; with_unfolding_all rfl)
    (h : WPE γ iter S (fun d S₁ => ∃ ds, IterA γ d ds ∧ ds.length ≤ 1000000 ∧ ∀ γc : Fx, γc.n = γ.n → γc.env.scope = relabel scope γ.env → γc.cv = γ.cv → CompP γc x ifs elt (fun ds' κ => Φ (.lst ds') ⟨S₁.ρ, κ⟩) ds [] S₁.κ) Ξ) :
    WPE γ (.ListComp elt [⟨.Name x px, iter, ifs, 0⟩] scope pos) S Φ Ξ := fun N F hp tk sat Q E C => by
  obtain ⟨cl, hcl, hcl'⟩ := hclos fun y d e => let ⟨c, o, v, a, _⟩ := sat.cv y d e; ⟨c, a⟩
  show wpAny _ _ (eval (.ListComp elt [⟨.Name x px, iter, ifs, 0⟩] scope pos) γ.env) _ _ _
  rw [eval_ListComp]
  refine wpAny_comprehension_free (use := none) rfl hs hcl hkind hnames ?_
  refine h N F hp tk sat _ E (C.then fun N₁ v d S₁ h₁ tk₁ le₁ sat₁ r₁ k₁ => ?_)
  refine absP fun _ kk => ?_
  obtain ⟨ds, hi, hlen, k₁⟩ := k₁
  refine kk ?_
  clear kk
  refine hi N₁ F S₁ h₁ tk₁ v r₁ sat₁ _ E fun I P o h₂ tk₂ it po sat₂ => ?_
  refine wpAny_newObj_type (wpAny_newFunctionEnv hcell (by intro y hy; simp at hy) (fun h₃ hns hsb => ?_) hkind)
  dsimp only at hns hsb ⊢
  have sat₃ := sat₂.pushF { cls := .type "list", dict := none, data := .seq ([] : List Value).toArray }
  generalize hH : h₂.push { cls := .type "list", dict := none, data := .seq ([] : List Value).toArray } = H₃ at hns hsb sat₃ ⊢
  obtain ⟨m, H, hr⟩ := sat₃.m
  have hk3 : ∀ b o, H₃.get? b = some o → h₃.get? b = some o := fun b o e => hsb.extBut b o (Nat.ne_of_lt (Heap.lt_size e)) (Heap.get?_push_of_some _ e)
  have Hc := H.enter hk3 hns
  have hok : (γ.comp scope cl H₃.objs.size m).Ok := by
    refine ⟨sat₁.ok.gd, by show (relabel scope γ.env).kind = _; simp [relabel, hkind], sat₁.ok.glob, sat₁.ok.bui, sat₁.ok.hand, sat₁.ok.fr, sat₁.ok.depth, sat₁.ok.units, fun e he => ?_⟩
    refine absP fun _ kk => ?_
    obtain ⟨a, L, hL, c⟩ := sat₁.ok.framed e he
    refine kk ?_
    clear kk
    exact ⟨a, L, .tail _ hL, c⟩
  have hcv : ∀ N', Le N₁ N' → ∀ y d, γ.cv.lookup y = some d → ∃ c o v, cl.lookup y = some c ∧ (c, o) ∈ N'.l ∧ o.data = .cell (some v) ∧ VR N' v d := fun N' le y d e => by
    refine absP fun _ kk => ?_
    obtain ⟨c, o, v, a1, a2, a3, a4⟩ := sat₁.cv y d e
    refine kk ?_
    clear kk
    exact ⟨c, o, v, (hcl' y d e).trans a1, le.1 _ a2, a3, a4.mono le⟩
  have satc : Sat (γ.comp scope cl H₃.objs.size m) N₁ ((I, o) :: (h₂.objs.size, lstO [] 0) :: F) ⟨[], S₁.κ⟩ h₃ tk₂ :=
    ⟨hok, sat₂.tok, ⟨_, Hc.swapF, fun y d e => by cases e⟩, hcv N₁ (Le.refl _)⟩
  have hcx : (γ.comp scope cl H₃.objs.size m).env.kindOf x = some .local := lookup_relabel_local hx
  have hkc := k₁ (γ.comp scope cl H₃.objs.size m) rfl rfl rfl
  have fin : ∀ N' κ h' tk' vs k accD, Le N₁ N' → Sat (γ.comp scope cl H₃.objs.size m) N' ((h₂.objs.size, lstO vs k) :: F) ⟨[], κ⟩ h' tk' → VRs N' vs accD → Φ (.lst accD) ⟨S₁.ρ, κ⟩ →
      compPost (md γ.w) γ.A E none Q (.ref h₂.objs.size) H₃.objs.size (.ok .next) (γ.mk' h' tk') := by
    intro N' κ h' tk' vs k accD le sat' rs hΦ
    obtain ⟨mc, H', _⟩ := sat'.m
    refine ⟨mc, H'.ns _ (.head _), fun h'' hs'' => ?_⟩
    have sat'' : Sat γ N' ((h₂.objs.size, lstO vs k) :: F) ⟨S₁.ρ, κ⟩ h'' tk' :=
      ⟨sat₁.ok, sat'.tok, ⟨m, H'.offS hs'', fun y d e => let ⟨a, v, b, c⟩ := hr y d e; ⟨a, v, b, c.mono le⟩⟩, fun y d e => let ⟨c, o, v, a1, a2, a3, a4⟩ := sat₁.cv y d e; ⟨c, o, v, a1, le.1 _ a2, a3, a4.mono le⟩⟩
    exact C.ok _ _ _ _ h'' tk' (le₁.trans (le.trans Le.cons)) sat''.F2N (.lst (.head _) rfl rfl rfl (rs.mono Le.cons)) hΦ
  let Inv : Nat → Shared → Prop := CompInv (γ.comp scope cl H₃.objs.size m) F N₁ x ifs elt (fun ds' κ => Φ (.lst ds') ⟨S₁.ρ, κ⟩) ds P I h₂.objs.size (fun h' tk' => γ.mk' h' tk')
  have loop : ∀ n s, Inv n s →
      codeAny (md γ.w) γ.A (.compLoop (.ListComp elt [⟨.Name x px, iter, ifs, 0⟩] scope pos) 0 (.ref I) (.ref h₂.objs.size) (compEnvC scope cl H₃.objs.size γ.env)) (compPost (md γ.w) γ.A E none Q (.ref h₂.objs.size) H₃.objs.size) s := by
    intro n s hI
    refine codeAny_compLoop_tests Inv ?_ n hI (ht := fun v => rfl)
    clear hI
    intro n s hI
    cases hI
    rename_i i o' accD N' κ h' tk' vs k hn le po' sat' rs hacc fp
    cases hd : ds[i]? with
    | none =>
      rw [dropN hd hn, List.drop_length] at fp
      rw [dropN hd hn] at po'
      exact (it _).done N' _ _ h' tk' o' le po' sat' _ _ fun h₄ tk₄ sat₄ => fin N' κ h₄ tk₄ vs k accD le sat₄ rs fp
    | some d' =>
      have hlt := dropL hd
      rw [dropS hd] at fp
      refine (it _).item N' _ i d' _ h' tk' o' le hd po' sat' _ _ fun N₃ v' h₃ tk₃ o₃ le₃ r₃ po₃ sat₃ => ?_
      refine wpAny_assign_Name (wp_store sat₃ hcx r₃ fun h₄ tk₄ sat₄ => ?_)
      refine wpAny_noRaise (fp N₃ _ h₄ tk₄ sat₄ _ _ ⟨PassesOwn.never, fun N₅ b c S₅ h₅ tk₅ le₅ sat₅ r₅ k₅ => ?_, fun _ _ _ _ _ _ _ _ _ p => p⟩)
      obtain rfl : b = c := r₅
      cases b with
      | false =>
        rw [if_neg (by decide)] at k₅ ⊢
        exact ⟨n - 1, cn1 hn hlt, CompInv.mk (i := i + 1) (cn2 hn hlt) ((le.trans le₃).trans le₅) po₃ (sat₅.weak ⟨fun y d e => (nomatch e), .refl _⟩) (rs.mono (le₃.trans le₅)) (Nat.le_succ_of_le hacc) k₅⟩
      | true =>
        rw [if_pos rfl] at k₅ ⊢
        refine wpAny_noRaise (k₅ N₅ _ h₅ tk₅ sat₅ _ _ ⟨PassesOwn.never, fun N₆ v₆ d₆ S₆ h₆ tk₆ le₆ sat₆ r₆ k₆ => ?_, fun _ _ _ _ _ _ _ _ _ p => p⟩)
        have sat₇ : Sat (γ.comp scope cl H₃.objs.size m) N₆ ((h₂.objs.size, lstO vs k) :: (I, o₃) :: F) S₆ h₆ tk₆ := ⟨sat₆.ok, sat₆.tok, let ⟨mm, Hm, hm⟩ := sat₆.m; ⟨mm, Hm.swapF, hm⟩, sat₆.cv⟩
        have rs' := rs.mono ((le₃.trans le₅).trans le₆)
        refine wpAny_list_append_plain (items := vs.toArray) ⟨k, sat₇.frm (.head _)⟩ (fun h₈ hp₈ hs₈ => ?_) (by rw [sizeLine_eq]; simp [rs.length]; omega)
        obtain ⟨k', ho'⟩ := hp₈
        have sat₉ := sat₇.turnF (o' := lstO (vs ++ [v₆]) k') hs₈ (by rw [ho']; simp [lstO])
        exact ⟨n - 1, cn1 hn hlt, CompInv.mk (i := i + 1) (cn2 hn hlt) (((le.trans le₃).trans le₅).trans le₆) po₃
          (⟨sat₉.ok, sat₉.tok, let ⟨mm, Hm, hm⟩ := sat₉.m; ⟨mm, Hm.swapF, fun y d e => by cases e⟩, sat₉.cv⟩ : Sat (γ.comp scope cl H₃.objs.size m) N₆ ((I, o₃) :: (h₂.objs.size, lstO (vs ++ [v₆]) k') :: F) ⟨[], S₆.κ⟩ h₈ tk₆) (rs'.append (.cons r₆ .nil)) (by rw [List.length_append, List.length_singleton]; exact Nat.succ_le_succ hacc) k₆⟩
  have start := loop ds.length _ (CompInv.mk (i := 0) rfl (Le.refl _) po satc .nil (Nat.le_refl _) hkc)
  exact codeAny_compStart_list start ((it (γ.comp scope cl H₃.objs.size m)).self N₁ _ 0 _ h₃ tk₂ o (Le.refl _) po satc _ _ start)
end

section
-- FC
theorem frzCells {B0 : Heap} {nss : Nss} {F : Rw} {κ : Cells} {h : Heap} : ∀ {N : Fz} (cs : List Addr), Hp B0 nss N F κ h → (∀ c ∈ cs, (∃ o, h.get? c = some o) ∧ (∀ p ∈ nss, p.1 ≠ c) ∧ (∀ p ∈ F, p.1 ≠ c) ∧ ∀ p ∈ κ, p.1 ≠ c) →
    ∃ N', Le N N' ∧ N'.b = N.b ∧ Hp B0 nss N' F κ h ∧ ∀ c ∈ cs, ∀ o, h.get? c = some o → (c, o) ∈ N'.l
  | N, [], H, _ => ⟨N, Le.refl _, rfl, H, fun c hc => (nomatch hc)⟩
  | N, c :: cs, H, hcs => by
    refine absP fun _ kk => ?_
    obtain ⟨⟨o, ho⟩, h1, h2, h3⟩ := hcs c (.head _)
    refine kk ?_
    clear kk
    refine absP fun _ kk => ?_
    obtain ⟨N', le, hb, H', k⟩ := frzCells cs (H.freeze ho h1 h2 h3) fun c hc => hcs c (.tail _ hc)
    refine kk ?_
    clear kk
    refine ⟨N', Le.cons.trans le, hb, H', fun d hd od e => ?_⟩
    rcases List.mem_cons.mp hd with rfl | hd
    · rw [ho] at e; cases e; exact le.1 _ (.head _)
    · exact k d hd od e
theorem bindC_cells {kindOf : PySem.Str → Option NameKind} : ∀ {binds : List (PySem.Str × Value)} {m : PySem.Str → Option Value} {y : PySem.Str} {v : Value}, (∀ x ∈ binds, kindOf x.1 ≠ some .local) → binds.reverse.lookup y = some v → bindC kindOf binds m y = some v
  | [], m, y, v, _, e => by cases e
  | (n, w) :: r, m, y, v, h, e => by
    unfold bindC
    rw [if_neg (h (n, w) (.head _))]
    rw [List.reverse_cons, List.lookup_append] at e
    cases hr : r.reverse.lookup y with
    | some v' =>
      rw [hr] at e
      cases e
      exact bindC_cells (fun x hx => h x (.tail _ hx)) hr
    | none =>
      rw [hr] at e
      simp only [Option.none_or, List.lookup_cons, List.lookup_nil] at e
      have hb : bindC kindOf r (fun z => if z = n then some w else m z) y = (fun z => if z = n then some w else m z) y := by
        clear e
        have hrn : ∀ z ∈ r, z.1 ≠ y := fun z hz q => by
          rw [List.lookup_eq_none_iff] at hr
          have := hr z (List.mem_reverse.mpr hz)
          simp at this
          exact this q.symm
        generalize (fun z => if z = n then some w else m z) = m'
        clear hr
        induction r generalizing m' with
        | nil => rfl
        | cons a r ih =>
          obtain ⟨a1, a2⟩ := a
          unfold bindC
          rw [if_neg (h (a1, a2) (.tail _ (.head _)))]
          rw [ih (fun x hx => by rcases List.mem_cons.mp hx with rfl | hx; exact h _ (.head _); exact h x (.tail _ (.tail _ hx))) (fun z hz => hrn z (.tail _ hz))]
          rw [if_neg fun q => hrn (a1, a2) (.head _) q.symm]
      rw [hb]
      cases q : y == n with
      | true => rw [q] at e; cases e; simp [eq_of_beq q]
      | false => rw [q] at e; cases e
noncomputable def scopeOkC (sc : Scope) (names : List PySem.Str) : Bool := sc.kind == .function && !sc.isCoroutine && !sc.isGenerator && names.all fun x => sc.names.lookup x == some .cell
theorem F_inC {γ : Fx} {fi : FnI} {names : List PySem.Str} {ds : List D} {κ : Cells} {Φ : D → Cells → Prop} {Ξ : Exc → Cells → Prop} {ρ : Rho} (hf : fi ∈ fns)
    (hK : ∀ P, (K P).lookup fi.a = some (fnObj fi.n (defAt fi.i) fi.a fi.m fi.t fi.d)) (hn : 1 ≤ γ.n) (hsc : scopeOkC (defAt fi.i).2.2 names = true) (hl : names.length = ds.length) (hρ : (names.zip ds).reverse = ρ)
    (hcl : ∀ n, ∀ x ∈ names, ((cellsFrom n (defAt fi.i).2.2.names []).lookup x).isSome = true)
    (hb : ∀ (s : Shared) (vs : List Value), Says γ.w s.heap → vs.length = ds.length → BindsTo s (fnOf fi.n fi.n (defAt fi.i).1 (defAt fi.i).2.1 (defAt fi.i).2.2 fi.d .none .none (.str fi.m fi.t) none (.ref (fi.a - 1)) .none) ⟨vs, []⟩ (names.zip vs))
    (body : ∀ γ' : Fx, γ'.n = γ.n - 1 → γ'.env.scope = (defAt fi.i).2.2 → γ'.cv = ρ → WPB γ' (defAt fi.i).2.1 ⟨[], κ⟩ (Post Φ) Ξ) : WPF γ (.ref fi.a) ds κ Φ Ξ := by
  intro N F vs rs ρ₀ hp tk sat Q E hQ hE
  obtain ⟨m, H, hm⟩ := sat.m
  simp only [scopeOkC, Bool.and_eq_true, beq_iff_eq, Bool.not_eq_true'] at hsc
  refine absP fun _ kk => ?_
  obtain ⟨⟨⟨s1, s2⟩, s3⟩, s5⟩ := hsc
  refine kk ?_
  clear kk
  have hcel : ∀ x ∈ names, (defAt fi.i).2.2.names.lookup x = some .cell := fun x hx => by simpa using List.all_eq_true.mp s5 x hx
  have hroom : γ.A.depth < recursionLimit := Nat.lt_of_le_of_lt (Nat.le_add_right _ _) sat.ok.depth
  have hlim := sat.ok.gd.lim.keeps H.base
  refine wpAny_call (codeAny_call_function (fd := fnOf fi.n fi.n (defAt fi.i).1 (defAt fi.i).2.1 (defAt fi.i).2.2 fi.d .none .none (.str fi.m fi.t) none (.ref (fi.a - 1)) .none) (body := (defAt fi.i).2.1) hroom
    (H.base _ _ (sat.ok.gd.says.K _ _ (hK _))) rfl s2 s3 rfl ((sat.ok.gd.says.C fi hf).keeps H.base) (hb _ vs (sat.ok.gd.says.keeps H.base) (VRs.length rs) _ _ _ _ ?_))
  refine wpAny_with_toks (n := tk) (Nat.le_refl _) (wpAny_newFunctionEnv_cells s1 (fun x hx => .inr ⟨hcel _ (zip_names x hx), hcl _ _ (zip_names x hx)⟩) fun env' he s' hin htk => ?_)
  obtain ⟨h₁, t₁, rfl⟩ := hin.toInCall.same
  have hsc' : env'.scope = (defAt fi.i).2.2 := by rw [he]; rfl
  have hlo' : env'.locals = hp.objs.size := by rw [he]; rfl
  have hfr' : env'.frame = some hp.objs.size := by rw [he]; rfl
  have hgl' : env'.globals = mainGlobals := by rw [he]; rfl
  have hbu' : env'.builtins = builtinsNs := by rw [he]; rfl
  have hce' : env'.cells = cellsFrom (hp.objs.size + 1) (defAt fi.i).2.2.names [] := by rw [he]; rfl
  have hns := hin.toInCall.ns
  have hk₁ : ∀ b o, hp.get? b = some o → h₁.get? b = some o := hin.toInCall.keep
  have htk : tk ≤ t₁ := htk
  rw [hlo'] at hns
  have H₁ := H.enter hk₁ hns
  have hnl : ∀ x ∈ names.zip vs, env'.kindOf x.1 ≠ some .local := fun x hx => by
    unfold Env.kindOf
    rw [hsc', hcel _ (zip_names x hx)]
    decide
  have habove : ∀ n c, (n, c) ∈ env'.cells → hp.objs.size < c := fun n c hc => hlo' ▸ hin.above n c hc
  obtain ⟨N₁, le₁, hb₁, H₂, hfz⟩ := frzCells ((names.filterMap fun x => env'.cells.lookup x)) H₁ fun c hc => by
    obtain ⟨x, hx, hxc⟩ := List.mem_filterMap.mp hc
    have ha := habove x c (mem_of_lookup hxc)
    obtain ⟨o, ho, _⟩ := hin.cell x c hxc
    refine ⟨⟨o, ho⟩, fun p hp' => ?_, fun p hp' => ?_, fun p hp' => ?_⟩
    · rcases List.mem_cons.mp hp' with rfl | hp'
      · exact Nat.ne_of_lt ha
      · exact Nat.ne_of_lt (Nat.lt_trans (H.nsLt hp') ha)
    · exact Nat.ne_of_lt (Nat.lt_trans (H.frmLt hp') ha)
    · exact Nat.ne_of_lt (Nat.lt_trans (H.celLt hp') ha)
  refine ⟨hlim.keeps hk₁, codeAny_func ?_⟩
  have hok : Fx.Ok ⟨γ.w, γ.B0, γ.s0, γ.A.deeper env', env', (γ.env.locals, m) :: γ.outs, env' :: γ.envs, ρ, γ.n - 1⟩ := okDeep sat.ok hn (by rw [hsc']; exact s1) hgl' hbu' hlo' hfr'
  have sat₁ : Sat ⟨γ.w, γ.B0, γ.s0, γ.A.deeper env', env', (γ.env.locals, m) :: γ.outs, env' :: γ.envs, ρ, γ.n - 1⟩ N₁ F ⟨[], κ⟩ h₁ t₁ := by
    refine ⟨hok, ⟨by rw [hb₁]; exact sat.tok.b1, by rw [hb₁]; exact Nat.le_trans sat.tok.b2 htk⟩, ⟨_, by rw [hlo']; exact H₂, fun x d e => by cases e⟩, fun x d e => ?_⟩
    rw [← hρ] at e
    have hx : x ∈ names := zip_names' (List.mem_reverse.mp (mem_of_lookup e))
    obtain ⟨c, hc⟩ := Option.isSome_iff_exists.mp (hcl (hp.objs.size + 1) x hx)
    rw [← hce'] at hc
    obtain ⟨o, ho, hd⟩ := hin.cell x c hc
    obtain ⟨v, hv, r⟩ := zip_lookup (names := names) rs (v0 := []) (d0 := []) (fun _ _ e => by cases e) x d (by simpa using e)
    have hv : (names.zip vs).reverse.lookup x = some v := by simpa using hv
    refine ⟨c, o, v, hc, hfz c (List.mem_filterMap.mpr ⟨x, hx, hc⟩) o ho, ?_, r.mono le₁⟩
    rw [hd, bindC_cells hnl hv]
  refine body _ rfl hsc' rfl N₁ F h₁ t₁ sat₁ _ _ ⟨PassesOwn.leaving, fun N' a b S' h' tk' le sat₁ r p => ?_, fun N' e x κ' h' tk' le ok R p => ?_⟩
  · have le := le₁.trans le
    have back : ∀ κ', κ'.Sublist S'.κ → Sat γ N' F ⟨ρ₀, κ'⟩ h' tk' := fun κ' hs => backDeep sat hm le sat₁ hs
    cases r with
    | next => obtain ⟨κ', hs, p⟩ := p; exact hQ N' _ _ κ' h' tk' le (back κ' hs) .none p
    | brk => exact p.elim
    | cont => exact p.elim
    | ret r => obtain ⟨κ', hs, p⟩ := p; exact hQ N' _ _ κ' h' tk' le (back κ' hs) r p
  · obtain ⟨htk, m₁, R⟩ := R
    refine R.lessS.left (l' := env' :: γ.envs) rfl (fun B dx b1 b2 b3 b4 k => wp_leave (Around.frames_deeper sat.ok.fr) b3 hfr' b4 b1 b2 k) fun h'' R' => ?_
    exact hE N' e x κ' h'' tk' (le₁.trans le) ⟨htk, m, R'.outer⟩ p
end

section
-- CL
theorem closureFree {scope : Scope} {env : Env} (h : ∀ x ∈ scope.names, x.2 = .free → ∃ c, env.cells.lookup x.1 = some c) :
    ∃ cl, closureFor scope env = pure cl ∧ ∀ y, (y, NameKind.free) ∈ scope.names → cl.lookup y = env.cells.lookup y := by
  have key : ∀ (names : List (PySem.Str × NameKind)) (acc : List (PySem.Str × Addr)), (∀ x ∈ names, x.2 = .free → ∃ c, env.cells.lookup x.1 = some c) → (∀ y c, acc.lookup y = some c → env.cells.lookup y = some c) →
      ∃ cl, (forIn names acc fun (x : PySem.Str × NameKind) (r : List (PySem.Str × Addr)) => if (x.2 == NameKind.free) = true then (do let a ← cellOf env x.1; pure (ForInStep.yield ((x.1, a) :: r)) : Sem _) else pure (ForInStep.yield r)) = pure cl ∧
        (∀ y c, cl.lookup y = some c → env.cells.lookup y = some c) ∧ ∀ y, ((y, NameKind.free) ∈ names ∨ (acc.lookup y).isSome = true) → (cl.lookup y).isSome = true := by
    intro names
    induction names with
    | nil => exact fun acc _ ha => ⟨acc, rfl, ha, fun y hy => hy.elim (fun q => nomatch q) id⟩
    | cons x r ih =>
      intro acc hn ha
      obtain ⟨n, k⟩ := x
      by_cases hk : k = .free
      · subst hk
        obtain ⟨c, hc⟩ := hn (n, .free) (.head _) rfl
        obtain ⟨cl, h1, h2, h3⟩ := ih ((n, c) :: acc) (fun x hx => hn x (.tail _ hx)) (fun y c' e => by
          simp only [List.lookup_cons] at e
          cases q : y == n with
          | true => rw [q] at e; cases e; rw [eq_of_beq q]; exact hc
          | false => rw [q] at e; exact ha y c' e)
        refine ⟨cl, ?_, h2, fun y hy => h3 y ?_⟩
        · rw [List.forIn_cons]
          have : cellOf env n = pure c := by unfold cellOf; rw [hc]
          simp only [this, beq_self_eq_true, if_true, pure_bind]
          exact h1
        · by_cases q : y = n
          · subst q; exact .inr (by simp)
          · rcases hy with hy | hy
            · rcases List.mem_cons.mp hy with e | hy
              · cases e; exact absurd rfl q
              · exact .inl hy
            · refine .inr ?_
              simp only [List.lookup_cons, show (y == n) = false by simpa using q]
              exact hy
      · refine absP fun _ kk => ?_
        obtain ⟨cl, h1, h2, h3⟩ := ih acc (fun x hx => hn x (.tail _ hx)) ha
        refine kk ?_
        clear kk
        refine ⟨cl, ?_, h2, fun y hy => h3 y ?_⟩
        · rw [List.forIn_cons]
          have : (k == NameKind.free) = false := by simpa using hk
          simp only [this, Bool.false_eq_true, if_false, pure_bind]
          exact h1
        · rcases hy with hy | hy
          · rcases List.mem_cons.mp hy with e | hy
            · cases e; exact absurd rfl hk
            · exact .inl hy
          · exact .inr hy
  refine absP fun _ kk => ?_
  obtain ⟨cl, h1, h2, h3⟩ := key scope.names [] h (fun y c e => by cases e)
  refine kk ?_
  clear kk
  refine ⟨cl, ?_, fun y hy => ?_⟩
  · unfold closureFor
    show (forIn scope.names [] _ >>= pure) = _
    rw [bind_pure]
    exact h1
  · obtain ⟨c, hc⟩ := Option.isSome_iff_exists.mp (h3 y (.inl hy))
    rw [hc, h2 y c hc]
theorem clos0 {γ : Fx} {scope : Scope} (h : ∀ x ∈ scope.names, x.2 ≠ .free) (hcv : γ.cv = []) :
    (∀ y d, γ.cv.lookup y = some d → ∃ c, γ.env.cells.lookup y = some c) → ∃ cl, closureFor scope γ.env = pure cl ∧ ∀ y d, γ.cv.lookup y = some d → cl.lookup y = γ.env.cells.lookup y :=
  fun _ => ⟨[], closureFor_none h, fun y d e => by rw [hcv] at e; cases e⟩
theorem clos1 {γ : Fx} {scope : Scope} (h : ∀ x ∈ scope.names, x.2 = .free → ∃ d, γ.cv.lookup x.1 = some d) (hcv : ∀ y d, γ.cv.lookup y = some d → (y, NameKind.free) ∈ scope.names) :
    (∀ y d, γ.cv.lookup y = some d → ∃ c, γ.env.cells.lookup y = some c) → ∃ cl, closureFor scope γ.env = pure cl ∧ ∀ y d, γ.cv.lookup y = some d → cl.lookup y = γ.env.cells.lookup y := fun k => by
  obtain ⟨cl, h1, h2⟩ := closureFree (scope := scope) (env := γ.env) fun x hx hf => let ⟨d, hd⟩ := h x hx hf; k x.1 d hd
  exact ⟨cl, h1, fun y d e => h2 y (hcv y d e)⟩
theorem CompP.ind {γ : Fx} {x : PySem.Str} {ifs : List Expr} {elt : Expr} {Ψ : List D → Cells → Prop} (I : List D → List D → Cells → Prop)
    (step : ∀ d ds acc κ, I (d :: ds) acc κ → WPI γ ifs ⟨[(x, d)], κ⟩ (fun b S' => if b = true then WPE γ elt S' (fun e S'' => I ds (acc ++ [e]) S''.κ) NoX else I ds acc S'.κ) NoX)
    (fin : ∀ acc κ, I [] acc κ → Ψ acc κ) : ∀ (ds acc : List D) (κ : Cells), I ds acc κ → CompP γ x ifs elt Ψ ds acc κ
  | [], acc, κ, h => fin acc κ h
  | d :: ds, acc, κ, h => by
    refine WP.mono (step d ds acc κ h) (fun b S' k => ?_) fun _ _ k => k
    cases b with
    | false => exact CompP.ind I step fin ds acc _ k
    | true => exact WP.mono k (fun e S'' k' => CompP.ind I step fin ds _ _ k') fun _ _ k => k
end

section
-- DC
inductive RK (N : Fz) : List (Value × Value) → List (Wd × D) → Prop
  | nil : RK N [] []
  | cons {w : Wd} {t : Tok} {v : Value} {e : D} {vs : List (Value × Value)} {ps : List (Wd × D)} : VR N v e → RK N vs ps → RK N ((.str (tx w) t, v) :: vs) ((w, e) :: ps)
theorem RK.carries {N : Fz} {w : World} : ∀ {vs : List (Value × Value)} {ps : List (Wd × D)}, RK N vs ps → ∃ kvs : List (PySem.Str × Value), Carries (strKind pw w) vs kvs ∧ kvs.map (·.1) = ps.map (fun p => tx p.1) ∧
    ∀ x, match ps.lookup x with | some e => ∃ v, valueAt kvs (tx x) = some v ∧ VR N v e | none => valueAt kvs (tx x) = none
  | _, _, .nil => ⟨[], trivial, rfl, fun x => rfl⟩
  | _, _, .cons (w := w) (t := t) (v := v) (e := e) (ps := ps) h r => by
    obtain ⟨kvs, h1, h2, h3⟩ := r.carries
    refine ⟨(tx w, v) :: kvs, ⟨PySem.strKind_is _ _ _ _, rfl, h1⟩, by rw [List.map_cons, List.map_cons, h2], fun x => ?_⟩
    have h3 := h3 x
    simp only [List.lookup_cons]
    cases q : x == w with
    | true =>
      have := eq_of_beq q
      subst this
      exact ⟨v, by simp [valueAt], h⟩
    | false =>
      have hne : ¬ tx w = tx x := fun e => by rw [tx_inj e] at q; simp at q
      have e1 : valueAt ((tx w, v) :: kvs) (tx x) = valueAt kvs (tx x) := by
        unfold valueAt
        rw [List.find?_cons_of_neg (by simpa using hne)]
      rw [e1]
      exact h3
noncomputable def pairsOf (env : Env) (pos : Pos) (kv : List (Expr × Expr)) : List (Sem Value × Sem Value) := kv.map fun p => (eval p.1 env, do let x ← eval p.2 env; standAt pos; pure x)
noncomputable def WPK (γ : Fx) (pos : Pos) (kv : List (Expr × Expr)) (S : St) (Φ : List (Wd × D) → St → Prop) : Prop := WP γ (evalPairs (pairsOf γ.env pos kv)) S RK Φ NoX
section
variable {γ : Fx} {N : Fz} {F : Rw} {S : St} {Ξ : Exc → Cells → Prop} {Φ : D → St → Prop} {pos dpos apos : Pos} {kv : List (Expr × Expr)} {k v idx : Expr} {keys : List (Option Expr)} {values : List Expr}
theorem K_nil {Φ : List (Wd × D) → St → Prop} (h : Φ [] S) : WPK γ pos [] S Φ := fun N F hp tk sat Q E C => evalPairs_nil (C.go sat .nil h)
theorem K_cons {Φ : List (Wd × D) → St → Prop} (h : WPE γ k S (fun d S₁ => ∃ w, d = .str w ∧ WPE γ v S₁ (fun e S₂ => WPK γ pos kv S₂ (fun ps S₃ => Φ ((w, e) :: ps) S₃)) NoX) NoX) : WPK γ pos ((k, v) :: kv) S Φ := fun N F hp tk sat Q E C => by
  refine evalPairs_cons (h N F hp tk sat _ E (C.then fun N₁ u d S₁ h₁ tk₁ le₁ sat₁ r₁ k₁ => ?_))
  obtain ⟨w, rfl, k₁⟩ := k₁
  refine VR.strE r₁ ?_
  · intro t a b
    refine wpAny_bind (k₁ N₁ F h₁ tk₁ sat₁ _ E ((C.mono le₁).then fun N₂ u₂ e S₂ h₂ tk₂ le₂ sat₂ r₂ k₂ => wpAny_bind (wpAny_standAt (wpAny_pure ?_))))
    exact k₂ N₂ F h₂ tk₂ sat₂ _ E ((C.mono (le₁.trans le₂)).then fun N₃ vs ps S₃ h₃ tk₃ le₃ sat₃ r₃ k₃ => C.ok N₃ _ _ S₃ h₃ tk₃ ((le₁.trans le₂).trans le₃) sat₃ (.cons (VR.mono le₃ r₂) r₃) k₃)
theorem disp_raw (hk : keys = kv.map fun p => some p.1) (hv : values = kv.map (·.2)) (h0 : kv ≠ []) (hlen : kv.length ≤ 15) {hp : Heap} {tk : Nat} {Q E : Value → Shared → Prop} (sat : Sat γ N F S hp tk) {Φ : List (Wd × D) → St → Prop} (h : WPK γ dpos kv S Φ)
    (k : ∀ N₁ a o kvs ps S₁ h₁ tk₁, Le N N₁ → Sat γ N₁ ((a, o) :: F) S₁ h₁ tk₁ → h₁.DictOf (strKind pw γ.w) a kvs → (a == sysModules) = false → (∀ x, match ps.lookup x with | some e => ∃ v, valueAt kvs (tx x) = some v ∧ VR N₁ v e | none => valueAt kvs (tx x) = none) → (ps.map (·.1)).Nodup → Φ ps S₁ → Q (.ref a) (γ.mk' h₁ tk₁))
    (hnd : ∀ ps S₁, Φ ps S₁ → (ps.map (·.1)).Nodup) : wpAny (md γ.w) γ.A (eval (.Dict keys values dpos) γ.env) Q E (γ.mk' hp tk) := by
  subst hk hv
  refine wpAny_Dict_pairs (knd := strKind pw γ.w) (pairs := pairsOf γ.env dpos kv) ?_ (by simpa [pairsOf] using h0) (by simpa [pairsOf] using hlen) ?_
  · clear h0 hlen h k
    unfold pairsOf
    induction kv with
    | nil => rfl
    | cons p kv ih => exact congrArg (List.cons _) ih
  · have sat₀ := sat.pushF { cls := .type "dict", data := .dict #[] }
    have hsys : (hp.objs.size == sysModules) = false := by
      obtain ⟨m, H, _⟩ := sat.m
      obtain ⟨o, ho⟩ := sat.ok.gd.says.S
      exact beq_eq_false_iff_ne.mpr fun e => by have := Heap.lt_size (H.base _ _ ho); rw [e] at this; exact Nat.lt_irrefl _ this
    refine wpAny_noRaise (h N _ _ tk sat₀ _ _ ⟨PassesOwn.never, fun N₁ vs ps S₁ h₁ tk₁ le₁ sat₁ rk k₁ => ?_, fun _ _ _ _ _ _ _ _ _ p => p⟩)
    refine absP fun _ kk => ?_
    obtain ⟨kvs, c1, c2, c3⟩ := RK.carries (w := γ.w) rk
    refine kk ?_
    clear kk
    have hno := hnd ps S₁ k₁
    have hnk : (kvs.map (·.1)).Nodup := by
      rw [c2, show ps.map (fun p => tx p.1) = (ps.map (·.1)).map tx by rw [List.map_map]; rfl]
      exact List.pairwise_map.mpr (hno.imp fun h e => h (tx_inj e))
    refine ⟨kvs, c1, Heap.dictOf_iff.mpr ⟨_, sat₁.frm (.head _), ⟨#[], 0, ⟨rfl, rfl, rfl⟩, rfl, fun e he => by simp at he, .nil, .nil⟩⟩, fun h' hd hs => ?_⟩
    rw [merged_nil_of_nodup kvs hnk] at hd
    obtain ⟨o', ho', _⟩ := Heap.dictOf_iff.mp hd
    exact k N₁ hp.objs.size o' kvs ps S₁ h' _ le₁ ((sat₁.turnF hs ho').tkTo (Nat.le_add_right _ _)) hd hsys c3 hno k₁
theorem E_dsub (hk : keys = kv.map fun p => some p.1 := by with_unfolding_all rfl) (hv : values = kv.map (·.2) := by with_unfolding_all rfl) (h0 : kv ≠ [] := by exact List.cons_ne_nil _ _) (hlen : kv.length ≤ 15 := by decide)
    (h : WPK γ dpos kv S (fun ps S₁ => (ps.map (·.1)).Nodup ∧ WPE γ idx S₁ (fun d S₂ => ∃ w e, d = .str w ∧ ps.lookup w = some e ∧ Φ e S₂) NoX)) : WPE γ (.Subscript (.Dict keys values dpos) idx pos) S Φ Ξ := fun N F hp tk sat Q E C => by
  refine Subscript_ (disp_raw hk hv h0 hlen sat h (fun N₁ a o kvs ps S₁ h₁ tk₁ le₁ sat₁ hd hsys hl hno k₁ => ?_) fun ps S₁ k => k.1)
  refine wpAny_noRaise (k₁.2 N₁ _ h₁ tk₁ sat₁ _ _ ⟨PassesOwn.never, fun N₂ u d S₂ h₂ tk₂ le₂ sat₂ r₂ k₂ => ?_, fun _ _ _ _ _ _ _ _ _ p => p⟩)
  refine absP fun _ kk => ?_
  obtain ⟨w, e, rfl, hw, k₂⟩ := k₂
  refine kk ?_
  clear kk
  have hlw := hl w
  rw [hw] at hlw
  obtain ⟨val, hval, rv⟩ := hlw
  have hd₂ : h₂.DictOf (strKind pw γ.w) a kvs := by
    obtain ⟨o', ho', hdd⟩ := Heap.dictOf_iff.mp hd
    have : o' = o := by have := sat₁.frm (.head _); rw [ho'] at this; exact Option.some.inj this
    subst this
    exact Heap.dictOf_iff.mpr ⟨_, sat₂.frm (.head _), hdd⟩
  refine VR.strE r₂ ?_
  · intro t _ _
    refine wp_tail (T := "dict") hd₂.typeIs PySem.F.slot_dict_getitem.lookup (wpAny_getItem_of (PySem.strKind_is _ _ _ _) hd₂.mapOf hval ?_)
    exact C.ok N₂ _ _ S₂ h₂ _ (le₁.trans le₂) (sat₂.offAny.tkTo (Nat.le_succ _)) (rv.mono le₂) k₂
theorem E_dget {dflt : Expr} (hk : keys = kv.map fun p => some p.1 := by with_unfolding_all rfl) (hv : values = kv.map (·.2) := by with_unfolding_all rfl) (h0 : kv ≠ [] := by exact List.cons_ne_nil _ _) (hlen : kv.length ≤ 15 := by decide)
    (h : WPK γ dpos kv S (fun ps S₁ => (ps.map (·.1)).Nodup ∧ WPE γ idx S₁ (fun d S₂ => ∃ w, d = .str w ∧ WPE γ dflt S₂ (fun e S₃ => Φ ((ps.lookup w).getD e) S₃) NoX) NoX))
    (hbase : attributeBase (.Dict keys values dpos) (PySem.Str.ofString "get") γ.env (eval (.Dict keys values dpos) γ.env) = eval (.Dict keys values dpos) γ.env := by with_unfolding_all rfl)
    (hok : ((((backTo pos (starEach [idx, dflt] γ.env)).all fun x => !x.fst) && (backToKw pos (keywordEach [] γ.env)).all fun x => x.fst.isSome) && decide (([idx, dflt] : List Expr).length + ([] : List Keyword).length + (if ([] : List Keyword).isEmpty = true then 0 else 1) < 30)) = true := by with_unfolding_all rfl)
    (hline : (apos.endLine == pos.line) = true := by with_unfolding_all rfl) (he : backTo pos (starEach [idx, dflt] γ.env) = [(false, eval idx γ.env), (false, eval dflt γ.env)] := by with_unfolding_all rfl) : WPE γ (.Call (.Attribute (.Dict keys values dpos) (PySem.Str.ofString "get") apos) [idx, dflt] [] pos) S Φ Ξ := fun N F hp tk sat Q E C => by
  refine wpAny_Call_method_lateS hbase hok hline (disp_raw hk hv h0 hlen sat h (fun N₁ a o kvs ps S₁ h₁ tk₁ le₁ sat₁ hd hsys hl hno k₁ => ?_) fun ps S₁ k => k.1)
  refine ⟨"dict", "dict.get", PySem.F.plainAttrs_dict, PySem.F.slot_dict_get, PySem.F.type_dict_get, hd.typeIs, hd.mapOf.noDict, ?_⟩
  rw [he]
  refine wpAny_dict_get2 (knd := strKind pw γ.w) hsys ?_
  refine wpAny_noRaise (k₁.2 N₁ _ h₁ tk₁ sat₁ _ _ ⟨PassesOwn.never, fun N₂ u d S₂ h₂ tk₂ le₂ sat₂ r₂ k₂ => ?_, fun _ _ _ _ _ _ _ _ _ p => p⟩)
  obtain ⟨w, rfl, k₂⟩ := k₂
  refine wpAny_noRaise (k₂ N₂ _ h₂ tk₂ sat₂ _ _ ⟨PassesOwn.never, fun N₃ u₃ d₃ S₃ h₃ tk₃ le₃ sat₃ r₃ k₃ => ?_, fun _ _ _ _ _ _ _ _ _ p => p⟩)
  have hd₂ : h₃.DictOf (strKind pw γ.w) a kvs := by
    obtain ⟨o', ho', hdd⟩ := Heap.dictOf_iff.mp hd
    have : o' = o := by have := sat₁.frm (.head _); rw [ho'] at this; exact Option.some.inj this
    subst this
    exact Heap.dictOf_iff.mpr ⟨_, sat₃.frm (.head _), hdd⟩
  have hlw := hl w
  refine VR.strE r₂ ?_
  · intro t _ _
    refine ⟨tx w, _, PySem.strKind_is _ _ _ _, hd₂.mapOf, ?_⟩
    have le := (le₁.trans le₂).trans le₃
    cases hq : ps.lookup w with
    | none =>
      rw [hq] at hlw k₃
      rw [hlw]
      exact C.ok N₃ _ _ S₃ h₃ _ le (sat₃.offAny.tkTo (Nat.le_succ _)) r₃ k₃
    | some e =>
      rw [hq] at hlw k₃
      obtain ⟨val, hval, rv⟩ := hlw
      rw [hval]
      exact C.ok N₃ _ _ S₃ h₃ _ le (sat₃.offAny.tkTo (Nat.le_succ _)) (rv.mono (le₂.trans le₃)) k₃
end
end

section
-- PR
open Builtin Builtin.Str in
theorem gives_str_index_from (x y : PySem.Str) (i : Int) (t u v : Tok) (h : 0 ≤ Txt.find3 x y i) : Gives (Builtin.«str.index» ⟨[.str x t, .str y u, .int i v], []⟩) (.int (Txt.find3 x y i)) := by
  show Gives (match Builtin.Str.occurrences x y (fromIndex x.length i) (min x.length x.length) 1 with | k :: _ => retInt k | [] => (do rule "str.index.not-found"; raiseError "ValueError" "substring not found")) _
  rw [Nat.min_self]
  unfold Txt.find3 at h ⊢
  cases hq : Builtin.Str.occurrences x y (fromIndex x.length i) x.length 1 with
  | nil => rw [hq] at h; simp at h
  | cons k _ => exact .of_eq rfl
section
variable {γ : Fx} {N : Fz} {F : Rw} {S : St} {Ξ : Exc → Cells → Prop} {Φ : D → St → Prop} {Ψ : Bool → St → Prop} {a b i : Int} {x y z : Wd} {ds es : List D} {d : D} {pos p1 p2 : Pos} {l r1 r2 : Expr}
theorem m_index3 (h0 : 0 ≤ Txt.find3 (tx x) (tx y) i) (h : Φ (.int (Txt.find3 (tx x) (tx y) i)) S) : WPC γ (.builtin "str.index") [.str x, .str y, .int i] S Φ Ξ := fun N vs rs F hp tk sat Q E C => by
  refine VRs.consE rs ?_
  · intro _ _ r1 rs; refine VRs.consE rs ?_
    · intro _ _ r2 rs; refine VRs.consE rs ?_
      · intro _ _ r3 rs
        (first | refine VRs.nilE rs ?_ | cases rs); (first | (refine VR.intE r1 ?_; intro _) | (refine VR.strE r1 ?_; intro _ _ _) | refine VR.boolE r1 ?_ | refine VR.noneE r1 ?_ | refine VR.refE r1 ?_ | refine VR.valE r1 ?_ | (refine VR.strxE r1 ?_; intro _) | cases r1); (first | (refine VR.intE r2 ?_; intro _) | (refine VR.strE r2 ?_; intro _ _ _) | refine VR.boolE r2 ?_ | refine VR.noneE r2 ?_ | refine VR.refE r2 ?_ | refine VR.valE r2 ?_ | (refine VR.strxE r2 ?_; intro _) | cases r2); (first | (refine VR.intE r3 ?_; intro _) | (refine VR.strE r3 ?_; intro _ _ _) | refine VR.boolE r3 ?_ | refine VR.noneE r3 ?_ | refine VR.refE r3 ?_ | refine VR.valE r3 ?_ | (refine VR.strxE r3 ?_; intro _) | cases r3)
        exact call_gives PySem.F.slot_str_index (typeIs_str _ _ _) PySem.F.entry_str_index (PySem.F.args_str_index_3 _ _ _) (gives_str_index_from _ _ _ _ _ _ h0) (C.go sat (.int _ _) h)
theorem m_index_l {ws : List Wd} {j : Nat} (hj : j < ws.length) (hl : ws.length ≤ 1000) (hx : ws[j] = x) (hno : ∀ m (hm : m < ws.length), m < j → ws[m] ≠ x) (h : Φ (.int j) S) : WPC γ (.builtin "list.index") [.lst (ws.map .str), .str x] S Φ Ξ := fun N vs rs F hp tk sat Q E C => by
  refine VRs.consE rs ?_
  · intro _ _ r1 rs; refine VRs.consE rs ?_
    · intro _ _ r2 rs
      (first | refine VRs.nilE rs ?_ | cases rs)
      refine absP fun _ kk => ?_
      obtain ⟨a, vs, rfl, il, rs⟩ := r1.tyLst sat.fros
      refine kk ?_
      clear kk
      refine VR.strE r2 ?_
      · intro t a1 a2
        have hlen : vs.length = ws.length := by rw [rs.length, List.length_map]
        have hat : ∀ m (hm : m < vs.length), ∃ t', vs[m] = .str (tx (ws[m]'(by omega))) t' := fun m hm => by
          obtain ⟨v, hv, rv⟩ := rs.get (i := m) (d := .str (ws[m]'(by omega))) (by rw [List.getElem?_map, List.getElem?_eq_getElem (by omega)]; rfl)
          rw [List.getElem?_eq_getElem hm] at hv
          cases hv
          generalize vs[m] = v at rv ⊢
          cases rv with
          | str _ t' _ _ => exact ⟨t', rfl⟩
        refine absP fun _ kk => ?_
        obtain ⟨⟨cls, dd, data, sl⟩, ho, hc, n, hd⟩ := id il
        refine kk ?_
        clear kk
        simp only at hc hd
        subst hc hd
        refine call_meets PySem.F.slot_list_index il.typeIs PySem.F.entry_list_index (PySem.F.args_list_index_2 _ _) (SeqAt.list_indexAt a vs.toArray n dd sl (.str (tx x) t) (eqS x) j (by simp [hlen]; omega) (by omega) ?_ ?_) ⟨ho, ?_, C.go sat (.int _ _) h⟩
        · obtain ⟨t', e⟩ := hat j (by omega)
          simp only [List.getElem_toArray]
          rw [e, hx]
          simp [eqS]
        · intro m hm hmj
          have hm' : m < vs.length := by simpa using hm
          obtain ⟨t', e⟩ := hat m hm'
          simp only [List.getElem_toArray]
          rw [e]
          simp only [eqS, tx_beq]
          exact beq_eq_false_iff_ne.mpr (hno m (by omega) hmj)
        · intro v hv
          obtain ⟨z', t', rfl⟩ := rs.memS v (by simpa using hv)
          exact SeqAt.EqAt.str_str _ _ _ _
theorem E_chain {op1 op2 : CmpOp} (h : WPE γ l S (fun d₁ S₁ => WPE γ r1 S₁ (fun d₂ S₂ => WPCmp γ op1 d₁ d₂ S₂ (fun c S₃ => WPTr γ c S₃ (fun b S₄ => if b = true then WPE γ r2 S₄ (fun d₃ S₅ => WPCmp γ op2 d₂ d₃ S₅ Φ Ξ) Ξ else Φ c S₄) Ξ) Ξ) Ξ) Ξ)
    (hm : lastMarks (op1 :: op2 :: []) (r1 :: r2 :: []) = false) : WPE γ (.Compare l [op1, op2] [r1, r2] pos) S Φ Ξ := fun N F hp tk sat Q E C => by
  refine Compare_chain (h N F hp tk sat _ E (C.then fun N₁ v₁ d₁ S₁ h₁ tk₁ le₁ sat₁ r₁ k₁ => chain_link ?_)) hm
  refine k₁ N₁ F h₁ tk₁ sat₁ _ E ((C.mono le₁).then fun N₂ v₂ d₂ S₂ h₂ tk₂ le₂ sat₂ r₂ k₂ => ?_)
  refine k₂ N₂ v₁ v₂ (VR.mono le₂ r₁) r₂ F h₂ tk₂ sat₂ _ E ((C.mono (le₁.trans le₂)).then fun N₃ v₃ d₃ S₃ h₃ tk₃ le₃ sat₃ r₃ k₃ => ?_)
  have le := (le₁.trans le₂).trans le₃
  refine k₃ N₃ v₃ r₃ F h₃ tk₃ sat₃ _ E ((C.mono le).then fun N₄ b c S₄ h₄ tk₄ le₄ sat₄ r₄ k₄ => ?_)
  obtain rfl : b = c := r₄
  have le' := le.trans le₄
  cases b with
  | false => exact C.ok N₄ _ _ S₄ h₄ tk₄ le' sat₄ (VR.mono le₄ r₃) k₄
  | true =>
    refine chain_last (k₄ N₄ F h₄ tk₄ sat₄ _ E ((C.mono le').then fun N₅ v₅ d₅ S₅ h₅ tk₅ le₅ sat₅ r₅ k₅ => ?_))
    exact k₅ N₅ v₂ v₅ (VR.mono ((le₃.trans le₄).trans le₅) r₂) r₅ F h₅ tk₅ sat₅ Q E (C.mono (le'.trans le₅))
theorem add_lo (hl : ds.length + es.length ≤ 10000000) (h : ∀ c, Φ (.ref c) ⟨S.ρ, (c, .list (ds ++ es)) :: S.κ⟩) : WPBin γ .Add (.lst ds) (.lst es) S Φ Ξ := fun N v w r q F h' tk sat Q E C => by
  refine absP fun _ kk => ?_
  obtain ⟨a, vs, rfl, il, rs⟩ := r.tyLst sat.fros
  refine kk ?_
  clear kk
  refine absP fun _ kk => ?_
  obtain ⟨a', vs', rfl, il', rs'⟩ := q.tyLst sat.fros
  refine kk ?_
  clear kk
  refine absP fun _ kk => ?_
  obtain ⟨⟨cls, dd, data, sl⟩, ho, hc, n, hd⟩ := id il
  refine kk ?_
  clear kk
  refine absP fun _ kk => ?_
  obtain ⟨⟨cls2, dd2, data2, sl2⟩, ho2, hc2, n2, hd2⟩ := id il'
  refine kk ?_
  clear kk
  simp only at hc hd hc2 hd2
  subst hc hd hc2 hd2
  refine concat_meets ⟨_, ho, rfl⟩ ⟨_, ho2, rfl⟩ noFill_list_add seq_list_add PySem.F.slot_list_add PySem.F.entry_list_add (PySem.F.args_list_add_2 _ _) (list_addW a a' vs.toArray vs'.toArray n n2 dd dd2 sl sl2 (by rw [sizeLine_eq]; simp [rs.length, rs'.length]; omega)) ⟨ho, ho2, ?_⟩
  have e : vs.toArray ++ vs'.toArray = (vs ++ vs').toArray := by simp
  rw [e]
  exact C.ok N _ _ _ _ tk (Le.refl N) (sat.pushK (o := lstO (vs ++ vs') 0) (mo := .list (ds ++ es)) ⟨vs ++ vs', 0, rfl, rs.append rs'⟩) (.ref _) (h _)
end
noncomputable def replaceW (x y z : Wd) : Wd := (Txt.replace (tx x) (tx y) (tx z)).cps.toList
theorem E_repl {γ : Fx} {S : St} {Ξ : Exc → Cells → Prop} {Φ : D → St → Prop} {o : Expr} {pp id : PySem.Str} {k : Nat} {p1 p2 apos pos : Pos}
    (h : WPE γ o S (fun d S₁ => ∃ x z r, d = .str x ∧ S₁.ρ.lookup id = some (.str z) ∧ (pp == tx z) = false ∧ x.length ≤ 1000 ∧ z.length ≤ 1000 ∧
      ((Builtin.Str.occurrences (tx x) pp 0 (tx x).length ((tx x).length + 1)).isEmpty || (pp.length == 0 && (tx z).length == 0)) = false ∧
      Builtin.Str.glued (tx z) (Builtin.Str.partsBetween (tx x) (Builtin.Str.occurrences (tx x) pp 0 (tx x).length ((tx x).length + 1)) pp.length) = tx r ∧ Φ (.str r) S₁) Ξ)
    (hbase : attributeBase o (PySem.Str.ofString "replace") γ.env (eval o γ.env) = eval o γ.env := by with_unfolding_all rfl)
    (hok : ((((backTo pos (starEach [.Constant (.str pp) k p1, .Name id p2] γ.env)).all fun x => !x.fst) && (backToKw pos (keywordEach [] γ.env)).all fun x => x.fst.isSome) && decide (([.Constant (.str pp) k p1, .Name id p2] : List Expr).length + ([] : List Keyword).length + (if ([] : List Keyword).isEmpty = true then 0 else 1) < 30)) = true := by with_unfolding_all rfl)
    (hline : (apos.endLine == pos.line) = true := by with_unfolding_all rfl) (he : backTo pos (starEach [.Constant (.str pp) k p1, .Name id p2] γ.env) = [(false, eval (.Constant (.str pp) k p1) γ.env), (false, eval (.Name id p2) γ.env)] := by with_unfolding_all rfl) (hd : (id == ("__debug__" : PySem.Str)) = false := by decide) :
    WPE γ (.Call (.Attribute o (PySem.Str.ofString "replace") apos) [.Constant (.str pp) k p1, .Name id p2] [] pos) S Φ Ξ := fun N F hp tk sat Q E C => by
  refine wpAny_Call_method_lateS hbase hok hline (h N F hp tk sat _ E (C.then fun N₁ v₁ d₁ S₁ h₁ tk₁ le₁ sat₁ r₁ k₁ => ?_))
  refine absP fun _ kk => ?_
  obtain ⟨x, z, r, rfl, hz, hpz, hx1, hz1, hoc, hr, hΦ⟩ := k₁
  refine kk ?_
  clear kk
  refine VR.strE r₁ ?_
  · intro t a1 a2
    refine ⟨"str", "str.replace", PySem.F.plainAttrs_str, PySem.F.slot_str_replace, PySem.F.type_str_replace, typeIs_str _ _ _, (fun a e => nomatch e), ?_⟩
    rw [he]
    refine Calls.callWith_builtin rfl (Calls.evalArgs_plain (Calls.spliced_cons (wpAny_Constant_str (Calls.spliced_cons ?_))))
    obtain ⟨m, H, hm⟩ := sat₁.m
    refine absP fun _ kk => ?_
    obtain ⟨hk, v, hv, rv⟩ := hm id _ hz
    refine kk ?_
    clear kk
    cases rv with
    | str _ t2 b1 b2 =>
      refine wpAny_Name (fun Γ p _ => ?_) hd
      rw [Sem.wp_loadName_local _ _ _ _ _ sat₁.ok.kind hk (H.ns _ (.head _)) hv]
      refine Calls.spliced_nil ?_
      have hne : tk₁ ≠ t2 := fun e => by
        have := sat₁.tok.b2
        subst e
        exact Nat.lt_irrefl _ (Nat.lt_of_lt_of_le b2 this)
      have h0 : tk₁ ≠ 0 := Nat.ne_of_gt (Nat.lt_of_lt_of_le (Nat.lt_of_lt_of_le Nat.zero_lt_one sat₁.tok.b1) sat₁.tok.b2)
      have hlen : (tx x).length + ((tx x).length + 1) * (tx z).length ≤ 16777216 := by
        rw [tx_len, tx_len]
        have : (x.length + 1) * z.length ≤ 1001 * 1000 := Nat.mul_le_mul (by omega) hz1
        omega
      have hl : Builtin.Str.tooLong ((tx x).length + (Builtin.Str.occurrences (tx x) pp 0 (tx x).length ((tx x).length + 1)).length * (tx z).length) = false := by
        have h1 := StrLaws.occ_length_le (tx x) pp 0 (tx x).length ((tx x).length + 1)
        have h2 : (Builtin.Str.occurrences (tx x) pp 0 (tx x).length ((tx x).length + 1)).length * (tx z).length ≤ ((tx x).length + 1) * (tx z).length := Nat.mul_le_mul_right _ h1
        unfold Builtin.Str.tooLong
        rw [sizeLine_eq]
        exact decide_eq_false (by omega)
      refine call_gives PySem.F.slot_str_replace (typeIs_str _ _ _) PySem.F.entry_str_replace (PySem.F.args_str_replace_3 _ _ _)
        (gives_str_replace (tx x) pp (tx z) t tk₁ t2 fun _ => ⟨by simp [h0, b1], by simpa using hne, hpz, hl⟩) ?_
      rw [if_neg (by rw [hoc]; decide)]
      refine ⟨fits_replaced pp hlen, ?_⟩
      rw [hr]
      have sat₂ := sat₁.upTo (Nat.le_succ tk₁)
      exact (C.mono (le₁.trans (sat₁.leUp (Nat.le_succ tk₁)))).str sat₂ hΦ
end

section
-- SL
theorem evens_fm {α : Type} (l : List α) : ∀ (n a : Nat), n = (l.length - a + 1) / 2 → ((List.range n).map fun k => a + 2 * k).filterMap (l[·]?) = evens (l.drop a)
  | 0, a, h => by rw [List.drop_of_length_le (by omega)]; rfl
  | n + 1, a, h => by
    have ha : a < l.length := by omega
    have ih := evens_fm l n (a + 2) (by omega)
    have e : ((fun k => a + 2 * k) ∘ Nat.succ) = fun k => (a + 2) + 2 * k := by funext k; exact (Nat.add_assoc a _ 2).symm.trans (Nat.add_right_comm a _ 2)
    rw [List.range_succ_eq_map, List.map_cons, List.map_map, e]
    rw [List.filterMap_cons_some (List.getElem?_eq_getElem (i := a + 2 * 0) ha), ih, List.drop_eq_getElem_cons ha]
    cases hd : l.drop (a + 1) with
    | nil =>
      have : l.drop (a + 2) = [] := by rw [← List.tail_drop (i := a + 1), hd]; rfl
      rw [this]; rfl
    | cons b r =>
      have : l.drop (a + 2) = r := by rw [← List.tail_drop (i := a + 1), hd]; rfl
      rw [this]; rfl
theorem bnd2 (n : Nat) (a b : Option Int) : sliceBounds a b (some 2) n = (clipW n a 0, clipW n b n, 2) := by
  cases a <;> cases b <;> rfl
theorem rng2 (a b : Nat) : sliceRange a b 2 = (List.range ((b - a + 1) / 2)).map (fun k => a + 2 * k) := by
  have e : (if (a : Int) < b then ((b : Int) - a + 2 - 1) / 2 else 0).toNat = (b - a + 1) / 2 := by
    by_cases h : (a : Int) < b
    · rw [if_pos h, ← Int.ofNat_sub (Int.ofNat_le.mp (Int.le_of_lt h)), Int.add_sub_assoc]; rfl
    · rw [if_neg h, Nat.sub_eq_zero_of_le (Int.ofNat_le.mp (Int.not_lt.mp h))]; rfl
  show (List.range (if (a : Int) < b then ((b : Int) - a + 2 - 1) / 2 else 0).toNat).map (fun k : Nat => ((a : Int) + 2 * (k : Int)).toNat) = _
  rw [e]; rfl
theorem pickD_sn2 {α : Type} (l : List α) (a : Int) (h0 : 0 ≤ a) : pickD l (some a) none (some 2) = evens (l.drop a.toNat) := by
  obtain ⟨a, rfl⟩ := Int.eq_ofNat_of_zero_le h0
  unfold pickD
  rw [bnd2, clipN]
  show (sliceRange (min a l.length : Nat) (l.length : Nat) 2).filterMap _ = _
  rw [rng2, evens_fm l _ _ rfl]
  show _ = evens (l.drop a)
  rcases Nat.le_total a l.length with h | h
  · rw [Nat.min_eq_left h]
  · rw [Nat.min_eq_right h, List.drop_length, List.drop_of_length_le h]
theorem pickD_nn2 {α : Type} (l : List α) : pickD l none none (some 2) = evens l := by
  have h := pickD_sn2 l 0 (Int.le_refl 0)
  rw [← show pickD l none none (some 2) = pickD l (some 0) none (some 2) by
    unfold pickD
    rw [bnd2, bnd2, show clipW l.length (some 0) 0 = clipW l.length none 0 from by rw [show (0 : Int) = ((0 : Nat) : Int) from rfl, clipN, Nat.zero_min]; rfl]] at h
  exact h
theorem sl_l2 {ds : List D} {a : Int} {Φ : D → Prop} (h0 : 0 ≤ a) (hl : ds.length ≤ 10000000) (h : Φ (.lst (evens (ds.drop a.toNat)))) : ∃ d', slD (.lst ds) (some a) none (some 2) = some d' ∧ sizeD (.lst ds) ≤ 10000000 ∧ (some 2 : Option Int) ≠ some 0 ∧ Φ d' :=
  ⟨_, rfl, hl, by simp, by rw [pickD_sn2 ds a h0]; exact h⟩
theorem sl_l2n {ds : List D} {Φ : D → Prop} (hl : ds.length ≤ 10000000) (h : Φ (.lst (evens ds))) : ∃ d', slD (.lst ds) none none (some 2) = some d' ∧ sizeD (.lst ds) ≤ 10000000 ∧ (some 2 : Option Int) ≠ some 0 ∧ Φ d' :=
  ⟨_, rfl, hl, by simp, by rw [pickD_nn2 ds]; exact h⟩
theorem evens_map {α β : Type} (f : α → β) : ∀ l : List α, evens (l.map f) = (evens l).map f
  | [] => rfl
  | [a] => rfl
  | a :: b :: l => by simp only [List.map_cons, evens, evens_map f l]
theorem repl1 (z : Wd) : Builtin.Str.glued (tx z) (Builtin.Str.partsBetween (tx (u "%")) (Builtin.Str.occurrences (tx (u "%")) (PySem.Str.ofString "%") 0 (tx (u "%")).length ((tx (u "%")).length + 1)) (PySem.Str.ofString "%").length) = tx z := by
  have e : Builtin.Str.partsBetween (tx (u "%")) (Builtin.Str.occurrences (tx (u "%")) (PySem.Str.ofString "%") 0 (tx (u "%")).length ((tx (u "%")).length + 1)) (PySem.Str.ofString "%").length = ([[], []] : List Wd).map tx := by decide +kernel
  rw [e, StrLaws.glued_eq_join, join_tx]
  simp [glueW]
theorem repl2 (z : Wd) : Builtin.Str.glued (tx z) (Builtin.Str.partsBetween (tx (u "\"%\"")) (Builtin.Str.occurrences (tx (u "\"%\"")) (PySem.Str.ofString "%") 0 (tx (u "\"%\"")).length ((tx (u "\"%\"")).length + 1)) (PySem.Str.ofString "%").length) = tx (u "\"" ++ z ++ u "\"") := by
  have e : Builtin.Str.partsBetween (tx (u "\"%\"")) (Builtin.Str.occurrences (tx (u "\"%\"")) (PySem.Str.ofString "%") 0 (tx (u "\"%\"")).length ((tx (u "\"%\"")).length + 1)) (PySem.Str.ofString "%").length = ([u "\"", u "\""] : List Wd).map tx := by decide +kernel
  rw [e, StrLaws.glued_eq_join, join_tx]
  simp [glueW]
theorem occ1 (z : Wd) : ((Builtin.Str.occurrences (tx (u "%")) (PySem.Str.ofString "%") 0 (tx (u "%")).length ((tx (u "%")).length + 1)).isEmpty || ((PySem.Str.ofString "%").length == 0 && (tx z).length == 0)) = false := by
  have e : (Builtin.Str.occurrences (tx (u "%")) (PySem.Str.ofString "%") 0 (tx (u "%")).length ((tx (u "%")).length + 1)).isEmpty = false := by decide +kernel
  have e2 : ((PySem.Str.ofString "%").length == 0) = false := by decide +kernel
  rw [e, e2]; rfl
theorem occ2 (z : Wd) : ((Builtin.Str.occurrences (tx (u "\"%\"")) (PySem.Str.ofString "%") 0 (tx (u "\"%\"")).length ((tx (u "\"%\"")).length + 1)).isEmpty || ((PySem.Str.ofString "%").length == 0 && (tx z).length == 0)) = false := by
  have e : (Builtin.Str.occurrences (tx (u "\"%\"")) (PySem.Str.ofString "%") 0 (tx (u "\"%\"")).length ((tx (u "\"%\"")).length + 1)).isEmpty = false := by decide +kernel
  have e2 : ((PySem.Str.ofString "%").length == 0) = false := by decide +kernel
  rw [e, e2]; rfl
theorem sw0 {env : Env} {ts vs : List Expr} {k k2 : Nat} {tp vp : Pos} (hf : vs.all (foldedForSure 8) = true) : swappedStores [.Tuple ts k tp] (.Tuple vs k2 vp) env = pure none := by
  show (if _ then _ else _) = _
  split
  · rfl
  · show (if _ then _ else _) = _
    split
    · rfl
    · extract_lets line names
      show (if _ then _ else _) = _
      split
      · rfl
      · first
          | rfl
          | (show (if vs.all (foldedForSure 8) = true then _ else _) = _; rw [hf]; rfl)
end

section
-- S6
noncomputable def optWs : List Wd := [u "-exact", u "-glob", u "-nocase", u "--", u "-e", u "-g", u "-n", u "-", u "-x", u "-gl", u "-regexp", u "-ex"]
noncomputable def textWs : List Wd := [u "a", u "ab", u "bc", u "B", u "*", u "", u "default", u "-", u "#x", u "-x", u "abab", u "c", u "-glob", u "b"]
noncomputable def patWs : List Wd := [u "a", u "a*", u "?", u "[ab]c", u "[A-C]", u "\\*", u "default", u "", u "*b*", u "-", u "#x", u "B", u "*"]
noncomputable def bodyWs : List Wd := [u "s0", u "s1", u "s2", u "-", u "", u "s3"]
noncomputable def allWs : List Wd := optWs ++ textWs ++ patWs ++ bodyWs
noncomputable def faultD (x : Exc) : D := .tup [.int x.code, .str x.value, .tup (x.ec.map .str)]
noncomputable def faultO : Option Exc → D
  | none => .none
  | some x => faultD x
noncomputable def optD : Wd ⊕ Exc → D
  | .inl o => .tup [.str (if (o == u "--") = true then o else o.drop 1), .none]
  | .inr x => .tup [.str [], faultD x]
noncomputable def spoilW (d : Nat) : Wd := if d < 4 then [] else [u "{e", u "\"e", u "{e}fg h", u "\"e\"f"].getD (d - 4) []
noncomputable def spoilX (d : Nat) : Option Exc := if d < 4 then none else some ([⟨1, u "unmatched open brace in list", [u "TCL", u "VALUE", u "LIST", u "BRACE"]⟩, ⟨1, u "unmatched open quote in list", [u "TCL", u "VALUE", u "LIST", u "QUOTE"]⟩,
  ⟨1, u "list element in braces followed by \"fg\" instead of space", [u "TCL", u "VALUE", u "LIST", u "JUNK"]⟩, ⟨1, u "list element in quotes followed by \"f\" instead of space", [u "TCL", u "VALUE", u "LIST", u "JUNK"]⟩].getD (d - 4) ⟨0, [], []⟩)
noncomputable def sepW (way : Nat) : Wd := [u " ", u "\n", u " \t "].getD way []
noncomputable def spellOne (way : Nat) : Wd → Wd
  | [] => u "{" ++ u "}"
  | c :: r => if (way == 2 || [c] == u "\\") = true then u "{" ++ (c :: r) ++ u "}" else if way = 0 then c :: r else u "\"" ++ (c :: r) ++ u "\""
noncomputable def spelled (way : Nat) (items : List Wd) : Wd := items.flatMap fun w => spellOne way w ++ sepW way
end

section
-- S7
noncomputable def sortW (c : Wd) : Wd := if (c == u "*") = true then u "star" else if (c == u "?") = true then u "any" else u "is"
noncomputable def piecesAt (p : Wd) : Nat → Int → Option (List (Wd × Wd))
  | 0, _ => none
  | n + 1, i =>
    if i < p.length then
      if ([p.getD i.toNat 0] == u "\\") = true then
        (if i + 1 < p.length then (match piecesAt p n (i + 2) with | none => none | some r => some ((sortW [p.getD i.toNat 0], [p.getD (i + 1).toNat 0]) :: r)) else none)
      else if ([p.getD i.toNat 0] == u "[") = true then
        (if 0 ≤ find3W p (u "]") i then (match piecesAt p n (find3W p (u "]") i + 1) with | none => none | some r => some ((u "in", (p.drop (i + 1).toNat).take (find3W p (u "]") i + 1 - 1 - (i + 1)).toNat) :: r)) else none)
      else (match piecesAt p n (i + 1) with | none => none | some r => some ((sortW [p.getD i.toNat 0], [p.getD i.toNat 0]) :: r))
    else some []
noncomputable def inW (x y : Wd) : Bool := !(Builtin.Str.occurrences (tx y) (tx x) 0 (tx y).length 1).isEmpty
noncomputable def takesW (q : Wd × Wd) (c : Wd) : Bool :=
  if (q.1 == u "in" && [q.2.getD 1 0] == u "-") = true then leW [q.2.getD 0 0] c && leW c [q.2.getD 2 0] else q.1 == u "any" || inW c q.2
noncomputable def matchS : List (Wd × Wd) → Wd → Bool
  | [], t => t == []
  | q :: ps, t => if (q.1 == u "star") = true then (List.range (t.length + 1)).any fun k => matchS ps (t.drop k) else t != [] && takesW q (t.take 1) && matchS ps (t.drop 1)
noncomputable def piecesS (p : Wd) : List (Wd × Wd) := (piecesAt p (p.length + 1) 0).getD []
noncomputable def lowIf (nc : Bool) (w : Wd) : Wd := if nc = true then lowerW w else w
noncomputable def lawFits (m : Wd) (nc : Bool) (t p : Wd) : Bool := if (m == u "glob") = true then matchS (piecesS (lowIf nc p)) (lowIf nc t) else lowIf nc p == lowIf nc t
noncomputable def allDs : List Wd := [u "-exact", u "-glob", u "-nocase", u "--", u "-e", u "-g", u "-n", u "-", u "-x", u "-gl", u "-regexp", u "-ex", u "a", u "ab", u "bc", u "B", u "*", u "", u "default", u "#x", u "abab", u "c", u "b", u "a*", u "?", u "[ab]c", u "[A-C]", u "\\*", u "*b*", u "s0", u "s1", u "s2", u "s3"]
theorem allDs_all : ∀ w ∈ allWs, w ∈ allDs := by decide +kernel
theorem glob_f : ∀ p ∈ allDs, (allDs.all fun t => matchS (piecesS p) t == fitsW p t) = true := of_decide_eq_true (by kernel_rfl)
theorem glob_t : ∀ p ∈ allDs, (allDs.all fun t => matchS (piecesS (lowerW p)) (lowerW t) == fitsW (foldedW p) (foldedW t)) = true := of_decide_eq_true (by kernel_rfl)
theorem same_t : ∀ p ∈ allDs, foldedW p = lowerW p := by decide +kernel
theorem beq_comm' (a b : Wd) : (a == b) = (b == a) := by rw [Bool.eq_iff_iff, beq_iff_eq, beq_iff_eq]; exact eq_comm
theorem fits_eq {m : Wd} {nc : Bool} {t p : Wd} (hp : p ∈ allWs) (ht : t ∈ allWs) : lawFits m nc t p = isFit m nc t p := by
  have hp := allDs_all p hp
  have ht := allDs_all t ht
  unfold lawFits isFit fits lowIf
  split
  · cases nc
    · exact eq_of_beq (List.all_eq_true.mp (glob_f p hp) t ht)
    · exact eq_of_beq (List.all_eq_true.mp (glob_t p hp) t ht)
  · cases nc
    · exact beq_comm' p t
    · show (lowerW p == lowerW t) = (foldedW t == foldedW p)
      rw [same_t p hp, same_t t ht]; exact beq_comm' _ _
noncomputable def okPiece (q : Wd × Wd) : Bool := (q.1 != u "in" || (decide (2 ≤ q.2.length) && ([q.2.getD 1 0] != u "-" || decide (3 ≤ q.2.length)))) && decide (q.2.length ≤ 10) && decide (q.1.length ≤ 10)
theorem ok_pieces : ∀ p ∈ allDs, (piecesAt p (p.length + 1) 0).isSome = true ∧ (piecesS p).all okPiece = true ∧ (piecesS p).length ≤ 8 ∧ (piecesAt (lowerW p) ((lowerW p).length + 1) 0).isSome = true ∧ (piecesS (lowerW p)).all okPiece = true ∧ (piecesS (lowerW p)).length ≤ 8 ∧ (lowerW p).length ≤ 10 := by decide +kernel
end

section
-- M6
theorem cv_of {γ : Fx} {ρ : Rho} {x : PySem.Str} {d : D} (h : γ.cv = ρ) (e : ρ.lookup x = some d) : γ.cv.lookup x = some d := by rw [h]; exact e
noncomputable def relabelS (scope sc : Scope) : Scope := { scope with names := scope.names.map fun (n, k) => if (k == .free && sc.kind == .function && sc.names.lookup n == some .cell) then (n, .cell) else (n, k) }
theorem relabel_eq (scope : Scope) (env : Env) : relabel scope env = relabelS scope env.scope := rfl
theorem clos2 {γ : Fx} {scope : Scope} {ρ : Rho} (g : γ.cv = ρ) (h : (scope.names.all fun x => x.2 != .free || (ρ.map (·.1)).contains x.1) = true) (h2 : ((ρ.map (·.1)).all fun y => scope.names.contains (y, NameKind.free)) = true) :
    (∀ y d, γ.cv.lookup y = some d → ∃ c, γ.env.cells.lookup y = some c) → ∃ cl, closureFor scope γ.env = pure cl ∧ ∀ y d, γ.cv.lookup y = some d → cl.lookup y = γ.env.cells.lookup y := by
  refine clos1 (fun x hx hf => ?_) (fun y d e => ?_)
  · have := List.all_eq_true.mp h x hx
    rw [hf] at this
    have hc : (ρ.map (·.1)).contains x.1 = true := by simpa using this
    rw [g]
    have hm : x.1 ∈ ρ.map (·.1) := by simpa using hc
    clear h h2 this hc g hx
    induction ρ with
    | nil => cases hm
    | cons p ρ ih =>
      obtain ⟨n, d⟩ := p
      simp only [List.lookup_cons]
      cases q : x.1 == n with
      | true => exact ⟨d, rfl⟩
      | false =>
        refine ih ?_
        rcases List.mem_cons.mp hm with e | e
        · rw [e] at q; simp at q
        · exact e
  · rw [g] at e
    have hm : y ∈ ρ.map (·.1) := List.mem_map.mpr ⟨(y, d), mem_of_lookup e, rfl⟩
    have := List.all_eq_true.mp h2 y hm
    simpa using this
theorem mem_here {α : Type} {k1 k2 : List α} {p : α} : p ∈ k1 ++ p :: k2 := List.mem_append_right _ (.head _)
section
variable {γ : Fx} {S : St} {Ξ : Exc → Cells → Prop} {Φ : D → St → Prop} {e o : Expr} {es : List Expr} {pos apos p1 : Pos} {name : PySem.Str}
theorem E_ml {id : String} (slot : Slot "list" name id) (ty : typeOf (.builtin id) = pure (.type "method_descriptor"))
    (h : WPE γ o S (fun d S₁ => (∃ ds, d = .lst ds) ∧ WPL γ (backTo pos (starEach (e :: es) γ.env)) S₁ (fun ds S₂ => WPC γ (.builtin id) (d :: ds) S₂ Φ Ξ) Ξ) Ξ)
    (hbase : attributeBase o name γ.env (eval o γ.env) = eval o γ.env)
    (hok : ((((backTo pos (starEach (e :: es) γ.env)).all fun x => !x.fst) && (backToKw pos (keywordEach [] γ.env)).all fun x => x.fst.isSome) && decide (((e :: es).length + ([] : List Keyword).length + if ([] : List Keyword).isEmpty = true then 0 else 1) < 30)) = true)
    (hline : (apos.endLine == pos.line) = true) (he : starEach (e :: es) γ.env = (false, eval e γ.env) :: starEach es γ.env) (hp : (backTo pos (starEach (e :: es) γ.env)).any (·.1) = false) :
    WPE γ (.Call (.Attribute o name apos) (e :: es) [] pos) S Φ Ξ :=
  E_meth slot PySem.F.plainAttrs_list ty (WP.mono h (fun d S₁ ⟨⟨ds, hx⟩, k⟩ => ⟨by subst hx; exact hand_lst, k⟩) fun _ _ k => k) hbase hok hline he hp
end
end

section
-- XP
theorem findL_blank {c : Nat} {s : Wd} (h : isB c = true) : findL (c :: s) = findL s := by
  show (if isB c = true then findL s else _) = _
  rw [if_pos h]
theorem Split.blank {c : Nat} {s : Wd} {R : List Wd ⊕ Exc} (h : isB c = true) (x : Split s R) : Split (c :: s) R := by
  have e := findL_blank (s := s) h
  cases x with
  | nil q => exact .nil (e.trans q)
  | bad q => exact .bad (e.trans q)
  | cons q l r => exact .cons (e.trans q) (Nat.lt_succ_of_lt l) r
  | consX q l r => exact .consX (e.trans q) (Nat.lt_succ_of_lt l) r
noncomputable def itemDs : List Wd := [u "a", u "a*", u "?", u "[ab]c", u "[A-C]", u "\\*", u "default", u "", u "*b*", u "-", u "#x", u "B", u "*", u "s0", u "s1", u "s2", u "s3"]
noncomputable def itemWs : List Wd := patWs ++ bodyWs
theorem itemDs_all : ∀ w ∈ itemWs, w ∈ itemDs := by decide +kernel
theorem Split.sep {way : Nat} (hw : way < 3) {s : Wd} {R : List Wd ⊕ Exc} (x : Split s R) : Split (sepW way ++ s) R := by
  have : way = 0 ∨ way = 1 ∨ way = 2 := by omega
  rcases this with rfl | rfl | rfl
  · exact Split.blank (c := 32) (by decide +kernel) x
  · exact Split.blank (c := 10) (by decide +kernel) x
  · exact Split.blank (c := 32) (by decide +kernel) (Split.blank (c := 9) (by decide +kernel) (Split.blank (c := 32) (by decide +kernel) x))
theorem one0 (s : Wd) : ∀ w ∈ itemDs, findL (spellOne 0 w ++ (sepW 0 ++ s)) = some (.elem w (sepW 0 ++ s)) := by
  intro w hw
  simp only [itemDs, List.mem_cons, List.not_mem_nil, or_false] at hw
  rcases hw with rfl | rfl | rfl | rfl | rfl | rfl | rfl | rfl | rfl | rfl | rfl | rfl | rfl | rfl | rfl | rfl | rfl <;> (cases s <;> kernel_rfl)
theorem one1 (s : Wd) : ∀ w ∈ itemDs, findL (spellOne 1 w ++ (sepW 1 ++ s)) = some (.elem w (sepW 1 ++ s)) := by
  intro w hw
  simp only [itemDs, List.mem_cons, List.not_mem_nil, or_false] at hw
  rcases hw with rfl | rfl | rfl | rfl | rfl | rfl | rfl | rfl | rfl | rfl | rfl | rfl | rfl | rfl | rfl | rfl | rfl <;> (cases s <;> kernel_rfl)
theorem one2 (s : Wd) : ∀ w ∈ itemDs, findL (spellOne 2 w ++ (sepW 2 ++ s)) = some (.elem w (sepW 2 ++ s)) := by
  intro w hw
  simp only [itemDs, List.mem_cons, List.not_mem_nil, or_false] at hw
  rcases hw with rfl | rfl | rfl | rfl | rfl | rfl | rfl | rfl | rfl | rfl | rfl | rfl | rfl | rfl | rfl | rfl | rfl <;> (cases s <;> kernel_rfl)
theorem spell_ne {way : Nat} (hw : way < 3) : ∀ w ∈ itemDs, 0 < (spellOne way w).length := by
  have : way = 0 ∨ way = 1 ∨ way = 2 := by omega
  rcases this with rfl | rfl | rfl
  · decide +kernel
  · decide +kernel
  · decide +kernel
noncomputable def listR (items : List Wd) : Option Exc → List Wd ⊕ Exc
  | none => .inl items
  | some x => .inr x
theorem lt8E {P : Nat → Prop} (h0 : P 0) (h1 : P 1) (h2 : P 2) (h3 : P 3) (h4 : P 4) (h5 : P 5) (h6 : P 6) (h7 : P 7) (d : Nat) (h : d < 8) : P d := by
  have st : ∀ n, ¬ n + 1 + 1 + 1 + 1 + 1 + 1 + 1 + 1 < 8 := fun n q => Nat.not_succ_le_zero n (Nat.le_of_add_le_add_right (b := 8) (Nat.le_trans q (Nat.le_refl 8)))
  cases d with
  | zero => exact h0
  | succ d => cases d with
    | zero => exact h1
    | succ d => cases d with
      | zero => exact h2
      | succ d => cases d with
        | zero => exact h3
        | succ d => cases d with
          | zero => exact h4
          | succ d => cases d with
            | zero => exact h5
            | succ d => cases d with
              | zero => exact h6
              | succ d => cases d with
                | zero => exact h7
                | succ d => exact absurd h (st d)
theorem split_spoil : ∀ d < 8, Split (spoilW d) (listR [] (spoilX d)) :=
  lt8E (.nil (by kernel_rfl)) (.nil (by kernel_rfl)) (.nil (by kernel_rfl)) (.nil (by kernel_rfl)) (.bad (by kernel_rfl)) (.bad (by kernel_rfl)) (.bad (by kernel_rfl)) (.bad (by kernel_rfl))
theorem split_spelled {way d : Nat} (hw : way < 3) (hd : d < 8) : ∀ {items : List Wd}, (∀ w ∈ items, w ∈ itemWs) → Split (spelled way items ++ spoilW d) (listR items (spoilX d))
  | [], _ => split_spoil d hd
  | w :: items, h => by
    have ih := split_spelled hw hd (items := items) fun x hx => h x (.tail _ hx)
    have hwd := itemDs_all w (h w (.head _))
    have e : spelled way (w :: items) ++ spoilW d = spellOne way w ++ (sepW way ++ (spelled way items ++ spoilW d)) := by simp [spelled, List.append_assoc]
    rw [e]
    generalize spelled way items ++ spoilW d = s at ih ⊢
    have hf : findL (spellOne way w ++ (sepW way ++ s)) = some (.elem w (sepW way ++ s)) := by
      have : way = 0 ∨ way = 1 ∨ way = 2 := by omega
      rcases this with rfl | rfl | rfl
      · exact one0 s w hwd
      · exact one1 s w hwd
      · exact one2 s w hwd
    have hl : (sepW way ++ s).length < (spellOne way w ++ (sepW way ++ s)).length := by
      have := spell_ne hw w hwd
      rw [List.length_append (as := spellOne way w)]; omega
    have ih := Split.sep hw ih
    cases hx : spoilX d with
    | none => rw [hx] at ih; exact .cons hf hl ih
    | some x => rw [hx] at ih; exact .consX hf hl ih
noncomputable def wordL (w : Wd) : List Wd := if (w == []) = true then [] else if (w == u "\\*") = true then [u "*"] else [w]
noncomputable def chkW (w : Wd) : Bool := match findL w with
  | some .none => wordL w == []
  | some (.elem w' []) => decide (0 < w.length) && wordL w == [w']
  | _ => false
theorem split_chk {w : Wd} (h : chkW w = true) : Split w (.inl (wordL w)) := by
  unfold chkW at h
  cases e : findL w with
  | none => rw [e] at h; cases h
  | some f =>
    rw [e] at h
    cases f with
    | none => rw [eq_of_beq h]; exact .nil e
    | bad x => cases h
    | elem w' r =>
      cases r with
      | cons => cases h
      | nil =>
        obtain ⟨h1, h2⟩ := Bool.and_eq_true_iff.mp h
        rw [eq_of_beq h2]; exact .cons e (of_decide_eq_true h1) (.nil rfl)
theorem split_word : ∀ w ∈ allDs, Split w (.inl (wordL w)) := fun w hw => split_chk (List.all_eq_true.mp (show allDs.all chkW = true by decide +kernel) w hw)
theorem spelled_len {way : Nat} (hw : way < 3) : ∀ {items : List Wd}, (∀ w ∈ items, w ∈ itemWs) → (spelled way items).length ≤ 20 * items.length
  | [], _ => by simp [spelled]
  | w :: items, h => by
    have ih := spelled_len hw (items := items) fun x hx => h x (.tail _ hx)
    have hwd := itemDs_all w (h w (.head _))
    have h1 : ∀ w ∈ itemDs, (spellOne way w ++ sepW way).length ≤ 20 := by
      have : way = 0 ∨ way = 1 ∨ way = 2 := by omega
      rcases this with rfl | rfl | rfl <;> decide +kernel
    have h1 := h1 w hwd
    have e : spelled way (w :: items) = (spellOne way w ++ sepW way) ++ spelled way items := by simp [spelled]
    rw [e, List.length_append, List.length_cons]
    omega
end


section
-- AR
section
variable {α β : Type}
theorem lec {a b x : Nat} (h : x ≤ a) (d : Nat.ble a b = true) : x ≤ b := Nat.le_trans h (Nat.le_of_ble_eq_true d)
theorem ltl {a b x : Nat} (h : x ≤ a) (d : Nat.ble (a + 1) b = true) : x < b := Nat.lt_of_le_of_lt h (Nat.le_of_ble_eq_true d)
theorem fu1 {a b x y : Nat} (g : x = y - 1) (h : a ≤ y) (d : Nat.ble (b + 1) a = true) : b ≤ x := g ▸ Nat.le_sub_of_add_le (Nat.le_trans (Nat.le_of_ble_eq_true d) h)
theorem fu2 {a b x y z : Nat} (e : z = x) (g : x = y - 1) (h : a ≤ y) (d : Nat.ble (b + 1) a = true) : b ≤ z := e ▸ fu1 g h d
theorem fu3 {a b x y : Nat} (e : x = y) (h : a ≤ y) (d : Nat.ble b a = true) : b ≤ x := e ▸ Nat.le_trans (Nat.le_of_ble_eq_true d) h
theorem mapc {l : List α} {f : α → β} {a b : Nat} (h : l.length ≤ a) (d : Nat.ble a b = true) : (l.map f).length ≤ b := by rw [List.length_map]; exact lec h d
theorem mapl {l : List α} {f : α → β} {a : Nat} (h : l.length ≤ a) : (l.map f).length ≤ a := by rw [List.length_map]; exact h
theorem eqc {x a : Nat} (h : x = a) : x ≤ a := Nat.le_of_eq h
theorem appc {x y : List α} {a b : Nat} (h1 : x.length ≤ a) (h2 : y.length ≤ b) : (x ++ y).length ≤ a + b := by rw [List.length_append]; exact Nat.add_le_add h1 h2
theorem addc {x y a b : Nat} (h1 : x ≤ a) (h2 : y ≤ b) : x + y ≤ a + b := Nat.add_le_add h1 h2
theorem minr {x y a : Nat} (h : y ≤ a) : min x y ≤ a := Nat.le_trans (Nat.min_le_right x y) h
theorem subc {x y a : Nat} (h : x ≤ a) : x - y ≤ a := Nat.le_trans (Nat.sub_le x y) h
theorem takec {l : List α} {n a : Nat} (h : l.length ≤ a) : (l.take n).length ≤ a := by rw [List.length_take]; exact minr h
theorem dropc {l : List α} {n a : Nat} (h : l.length ≤ a) : (l.drop n).length ≤ a := by rw [List.length_drop]; exact subc h
theorem consc {c : α} {l : List α} {a : Nat} (h : l.length ≤ a) : (c :: l).length ≤ a + 1 := Nat.succ_le_succ h
theorem intc {k n a : Nat} (h : k < n) (h2 : n ≤ a) (d : Nat.ble a 10000000 = true) : (k : Int) < 10000000 := Int.ofNat_lt.mpr (Nat.lt_of_lt_of_le h (Nat.le_trans h2 (Nat.le_of_ble_eq_true d)))
theorem intc1 {k n a : Nat} (h : k + 1 < n) (h2 : n ≤ a) (d : Nat.ble a 10000000 = true) : (k : Int) + 1 < 10000000 := intc (k := k + 1) h h2 d
theorem intz (k : Nat) : (0 : Int) ≤ k := Int.natCast_nonneg k
theorem intz1 (k : Nat) : (0 : Int) ≤ (k : Int) + 1 := Int.natCast_nonneg (k + 1)
theorem int1 {i : Int} (h : 0 ≤ i) : 0 ≤ i + 1 := Int.le_trans h (Int.le_of_lt (Int.lt_succ i))
theorem int2 {i j : Int} (h : i ≤ j) : i ≤ j + 1 := Int.le_trans h (Int.le_of_lt (Int.lt_succ j))
theorem tonat1 (k : Nat) : ((k : Int) + 1).toNat = k + 1 := rfl
theorem pred1 {n : Nat} (h : 0 < n) : n = n - 1 + 1 := (Nat.succ_pred_eq_of_pos h).symm
theorem pred0 {n : Nat} (h : ¬ n = 0) : n = n - 1 + 1 := pred1 (Nat.pos_of_ne_zero h)
theorem step1 {a k n : Nat} (h : a - k = n + 1) : a - (k + 1) = n := congrArg Nat.pred h
theorem ltsub {a k n : Nat} (h : a - k = n + 1) : k < a := Nat.lt_of_sub_pos (h ▸ Nat.succ_pos n)
theorem lesub {a k n : Nat} (h : a - k = n + 1) : k + 1 ≤ a := ltsub h
theorem hv2 {x n : Nat} (h : x / 2 = n + 1) : (x - 2) / 2 = n := by
  cases x with
  | zero => exact nomatch h
  | succ x =>
    cases x with
    | zero => exact nomatch h
    | succ x => exact Nat.succ.inj ((Nat.add_div_right x (Nat.succ_pos 1)).symm.trans h)
theorem step2 {a k n : Nat} (h : (a - k) / 2 = n + 1) : (a - (k + 2)) / 2 = n := hv2 h
theorem half1 {a : Nat} (h : a % 2 = 0) : ((((a + 1) / 2 : Nat) : Int)).toNat = (a - 0) / 2 := by
  have e := Nat.div_add_mod a 2
  rw [h] at e
  show (a + 1) / 2 = a / 2
  rw [← e]
  show (2 * (a / 2) + 1) / 2 = (2 * (a / 2) + 0) / 2
  rw [Nat.mul_add_div (Nat.succ_pos 1), Nat.mul_add_div (Nat.succ_pos 1)]
theorem odd0 {a : Nat} (h : ¬ a % 2 = 1) : a % 2 = 0 := (Nat.mod_two_eq_zero_or_one a).resolve_right h
theorem half2 {a : Nat} (h : ¬ a % 2 = 1) : ((((a + 1) / 2 : Nat) : Int)).toNat = (a - 0) / 2 := half1 (odd0 h)
theorem evn2 {a : Nat} (h : (a + 1 + 1) % 2 = 0) : a % 2 = 0 := (Nat.add_mod_right a 2).symm.trans h
theorem evnp {a : Nat} (h : a % 2 = 0) : (a + 2) % 2 = 0 := (Nat.add_mod_right a 2).trans h
theorem evs {a j : Nat} (h : a % 2 = 0) (h2 : j % 2 = 0) : (a - j) % 2 = 0 := Nat.mod_eq_zero_of_dvd (Nat.dvd_sub (Nat.dvd_of_mod_eq_zero h) (Nat.dvd_of_mod_eq_zero h2))
theorem evsub {a j : Nat} (h : a % 2 = 0) (h2 : j % 2 = 0) (h3 : j + 1 < a) : (a - (j + 2)) % 2 = 0 := evs h (evnp h2)
theorem evsub' {a j : Nat} (h : a % 2 = 0) (h2 : j % 2 = 0) (h3 : j + 1 < a) : (a - j) % 2 = 0 := evs h h2
theorem lt2 {n k : Nat} (h : k + 2 ≤ n) : k < n := Nat.le_of_succ_le h
theorem le2 {n k : Nat} (h : k + 1 < n) : k + 2 ≤ n := h
theorem lt21 {n k : Nat} (h : k + 2 ≤ n) : k + 1 < n := h
theorem nlt2 {n : Nat} (h : ¬ n < 2) : 2 ≤ n := Nat.le_of_not_lt h
theorem sub11 {a k : Nat} : a - (k + 1) = a - k - 1 := rfl
theorem dech {p j : Int} {n : Nat} (h : p - j < ((n + 1 : Nat) : Int)) : p - (j + 1) < n := by
  rw [← Int.sub_sub]; exact Int.sub_right_lt_of_lt_add h
theorem dech2 {i j : Int} {n : Nat} (h : 20 - (j - i) < ((n + 1 : Nat) : Int)) : 20 - (j + 1 - i) < n := by
  rw [show j + 1 - i = j - i + 1 from by rw [Int.sub_eq_add_neg, Int.add_right_comm]; rfl]; exact dech h
theorem decn {r n : Nat} (h : r + 1 < n + 1) : r < n := Nat.lt_of_succ_lt_succ h
theorem lelt {a b c : Int} (h : a ≤ b) (g : b ≤ c) : a ≤ c := Int.le_trans h g
theorem castn {k n : Nat} (h : k < n) : (k : Int) < n := Int.ofNat_lt.mpr h
theorem wayc {way : Nat} (h : way < 3) : way = 0 ∨ way = 1 ∨ way = 2 := by omega
theorem succm {l : List α} {a b n : Nat} (h : l.length = n) (h2 : n ≤ a) (d : Nat.ble a b = true) : l.length ≤ b := h ▸ lec h2 d
theorem half0 {a k : Nat} (h : a % 2 = 0) (h2 : k % 2 = 0) (e : (a - k) / 2 = 0) : a ≤ k := Nat.le_of_sub_eq_zero (by rw [← Nat.div_add_mod (a - k) 2, e, evs h h2])
theorem half0' {a k : Nat} (h : ¬ a % 2 = 1) (h2 : k % 2 = 0) (e : (a - k) / 2 = 0) : a ≤ k := half0 (odd0 h) h2 e
theorem halfs {a k n : Nat} (e : (a - k) / 2 = n + 1) : k + 1 < a := by
  refine Nat.lt_of_not_le fun h => ?_
  rw [Nat.div_eq_of_lt (Nat.lt_of_le_of_lt (Nat.sub_le_sub_right h k) (by rw [Nat.add_sub_cancel_left]; exact Nat.lt_succ_self 1))] at e
  exact nomatch e
theorem tn1 {i j : Int} (h : i ≤ j) : (j + 1 - i).toNat = (j - i).toNat + 1 := by
  rw [show j + 1 - i = j - i + 1 from by rw [Int.sub_eq_add_neg, Int.add_right_comm]; rfl, Int.toNat_add (Int.sub_nonneg_of_le h) (by decide)]; rfl
theorem tn2 {i j : Int} (h0 : 0 ≤ j) (h : j ≤ i) : j.toNat + (i - j).toNat = i.toNat := by
  rw [← Int.toNat_add h0 (Int.sub_nonneg_of_le h), Int.add_comm, Int.sub_add_cancel]
theorem tn3 {i : Int} {a r : Nat} (e : a - i.toNat = r) (h0 : 0 ≤ i) (h : i ≤ a) : (a : Int) = i + r := by
  obtain ⟨k, rfl⟩ := Int.eq_ofNat_of_zero_le h0
  rw [← e]
  exact congrArg Int.ofNat (Nat.add_sub_cancel' (Int.ofNat_le.mp h)).symm
theorem tn4 {i j : Int} (h : i ≤ j) (g : j < i + 20) : (j - i).toNat < 20 := (Int.toNat_lt (Int.sub_nonneg_of_le h)).mpr (Int.sub_left_lt_of_lt_add g)
theorem tn5 {i j : Int} {m : Nat} (h : i ≤ j) (e : 20 - (j - i).toNat = m + 1) : m = 20 - (j + 1 - i).toNat := by
  rw [tn1 h]; exact (congrArg Nat.pred e).symm
theorem tn6 {i : Int} {n : Nat} (h : i < n) (h0 : 0 ≤ i) : i.toNat < n := (Int.toNat_lt h0).mpr h
theorem tn7 {i : Int} (h0 : 0 ≤ i) : (i + 1).toNat = i.toNat + 1 := Int.toNat_add h0 (by decide)
@[elab_as_elim] theorem lenE0 {motive : List α → Prop} {l : List α} (h : l.length = 0) (f : motive []) : motive l := by
  cases l with
  | nil => exact f
  | cons a l => exact nomatch h
@[elab_as_elim] theorem lenE1 {motive : List α → Prop} {l : List α} (h : l.length = 1) (f : ∀ a, motive [a]) : motive l := by
  cases l with
  | nil => exact nomatch h
  | cons a l => exact lenE0 (Nat.succ.inj h) (motive := fun l => motive (a :: l)) (f a)
@[elab_as_elim] theorem lenE2 {motive : List α → Prop} {l : List α} (h : l.length = 2) (f : ∀ a b, motive [a, b]) : motive l := by
  cases l with
  | nil => exact nomatch h
  | cons a l => exact lenE1 (Nat.succ.inj h) (motive := fun l => motive (a :: l)) (f a)
@[elab_as_elim] theorem lenE3 {motive : List α → Prop} {l : List α} (h : l.length = 3) (f : ∀ a b c, motive [a, b, c]) : motive l := by
  cases l with
  | nil => exact nomatch h
  | cons a l => exact lenE2 (Nat.succ.inj h) (motive := fun l => motive (a :: l)) (f a)
@[elab_as_elim] theorem lenE4 {motive : List α → Prop} {l : List α} (h : l.length = 4) (f : ∀ a b c d, motive [a, b, c, d]) : motive l := by
  cases l with
  | nil => exact nomatch h
  | cons a l => exact lenE3 (Nat.succ.inj h) (motive := fun l => motive (a :: l)) (f a)
theorem nz1 {a b : Int} {n : Nat} (h : b ≤ a) (h2 : a - b < n) : n = n - 1 + 1 :=
  pred1 (Nat.pos_of_ne_zero fun e => by rw [e] at h2; exact absurd h2 (Int.not_lt.mpr (Int.sub_nonneg_of_le h)))
theorem nz2 {i j : Int} {n : Nat} (h : j ≤ i + 20) (h2 : 20 - (j - i) < n) : n = n - 1 + 1 := nz1 (Int.sub_left_le_of_le_add h) h2
@[elab_as_elim] theorem mapCE {f : α → β} {motive : β → List β → List α → Prop} {d : β} {ds : List β} {l : List α} (e : d :: ds = l.map f) (h : ∀ c l, motive (f c) (l.map f) (c :: l)) : motive d ds l := by
  cases l with
  | nil => cases e
  | cons c l => cases e; exact h c l
@[elab_as_elim] theorem mapNE {f : α → β} {motive : List α → Prop} {l : List α} (e : [] = l.map f) (h : motive []) : motive l := by
  cases l with
  | nil => exact h
  | cons c l => cases e
end
end

section
-- KW
section
variable (γ : Fx) (Ξ : Exc → Cells → Prop)
@[reducible] def kB (rest : List Stmt) (Φ : AF → St → Prop) : AF → St → Prop := fun f S => match f with | .next => WPB γ rest S Φ Ξ | f => Φ f S
@[reducible] def kRet (Φ : AF → St → Prop) : D → St → Prop := fun d S => Φ (.ret d) S
@[reducible] def kExp (Φ : AF → St → Prop) : D → St → Prop := fun _ S => Φ .next S
@[reducible] def kIf (a b : List Stmt) (Φ : AF → St → Prop) : Bool → St → Prop := fun c S => if c = true then WPB γ a S Φ Ξ else WPB γ b S Φ Ξ
@[reducible] def kIfJ (b : List Stmt) (P : Prop) (S : St) (Φ : AF → St → Prop) : Bool → St → Prop := fun c S₁ => if c = true then S₁ = S ∧ P else WPB γ b S₁ Φ Ξ
@[reducible] def kAsg (x : PySem.Str) (Φ : AF → St → Prop) : D → St → Prop := fun d S => Φ .next ⟨(x, d) :: S.ρ, S.κ⟩
@[reducible] def kAug (op : Operator) (x : PySem.Str) (d : D) (Φ : AF → St → Prop) : D → St → Prop := fun d₂ S => WPInp γ op d d₂ S (kAsg x Φ) Ξ
@[reducible] def kUnp (xs : List PySem.Str) (Φ : AF → St → Prop) : D → St → Prop := fun d S => ∃ ds, d = .tup ds ∧ ds.length = xs.length ∧ Φ .next ⟨setAll xs ds S.ρ, S.κ⟩
@[reducible] def kNxt (Φ : AF → St → Prop) : St → Prop := fun S => Φ .next S
@[reducible] def kSub3 (d o : D) (Φ : AF → St → Prop) : D → St → Prop := fun i S => WPSet γ o i d S (kNxt Φ) Ξ
@[reducible] def kSub2 (ix : Expr) (d : D) (Φ : AF → St → Prop) : D → St → Prop := fun o S => WPE γ ix S (kSub3 γ Ξ d o Φ) Ξ
@[reducible] def kSub1 (t ix : Expr) (Φ : AF → St → Prop) : D → St → Prop := fun d S => WPE γ t S (kSub2 γ Ξ ix d Φ) Ξ
@[reducible] def kRai (Ξ : Exc → Cells → Prop) : D → St → Prop := fun d S₁ => ∃ a x κ₁ κ₂, d = .ref a ∧ S₁.κ = κ₁ ++ (a, .exc x) :: κ₂ ∧ Ξ x (κ₁ ++ κ₂)
@[reducible] def kSw2 (x y : PySem.Str) (Φ : AF → St → Prop) : D → St → Prop := fun d S₁ => ∃ d1 d2, d = .tup [d1, d2] ∧ Φ .next ⟨(x, d1) :: (y, d2) :: S₁.ρ, S₁.κ⟩
@[reducible] def kSw3 (x y z : PySem.Str) (Φ : AF → St → Prop) : D → St → Prop := fun d S₁ => ∃ d1 d2 d3, d = .tup [d1, d2, d3] ∧ Φ .next ⟨(x, d1) :: (y, d2) :: (z, d3) :: S₁.ρ, S₁.κ⟩
@[reducible] def kBin2 (op : Operator) (d : D) (Φ : D → St → Prop) : D → St → Prop := fun e S => WPBin γ op d e S Φ Ξ
@[reducible] def kBin1 (op : Operator) (r : Expr) (Φ : D → St → Prop) : D → St → Prop := fun d S => WPE γ r S (kBin2 γ Ξ op d Φ) Ξ
@[reducible] def kCmp2 (op : CmpOp) (d : D) (Φ : D → St → Prop) : D → St → Prop := fun e S => WPCmp γ op d e S Φ Ξ
@[reducible] def kCmp1 (op : CmpOp) (r : Expr) (Φ : D → St → Prop) : D → St → Prop := fun d S => WPE γ r S (kCmp2 γ Ξ op d Φ) Ξ
@[reducible] def kUn (op : UnaryOp) (Φ : D → St → Prop) : D → St → Prop := fun d S => WPUn γ op d S Φ Ξ
@[reducible] def kIfE (l r : Expr) (Φ : D → St → Prop) : Bool → St → Prop := fun b S₁ => if b = true then WPE γ l S₁ Φ Ξ else WPE γ r S₁ Φ Ξ
@[reducible] def kAnd2 (r : Expr) (d : D) (Φ : D → St → Prop) : Bool → St → Prop := fun b S₂ => if b = true then WPE γ r S₂ Φ Ξ else Φ d S₂
@[reducible] def kAnd1 (r : Expr) (Φ : D → St → Prop) : D → St → Prop := fun d S₁ => WPTr γ d S₁ (kAnd2 γ Ξ r d Φ) Ξ
@[reducible] def kOr2 (r : Expr) (d : D) (Φ : D → St → Prop) : Bool → St → Prop := fun b S₂ => if b = true then Φ d S₂ else WPE γ r S₂ Φ Ξ
@[reducible] def kOr1 (r : Expr) (Φ : D → St → Prop) : D → St → Prop := fun d S₁ => WPTr γ d S₁ (kOr2 γ Ξ r d Φ) Ξ
@[reducible] def kAnd3 (m r : Expr) (d : D) (Φ : D → St → Prop) : Bool → St → Prop := fun b S₂ => if b = true then WPE γ m S₂ (kAnd1 γ Ξ r Φ) Ξ else Φ d S₂
@[reducible] def kAnd3' (m r : Expr) (Φ : D → St → Prop) : D → St → Prop := fun d S₁ => WPTr γ d S₁ (kAnd3 γ Ξ m r d Φ) Ξ
@[reducible] def kTr (Ψ : Bool → St → Prop) : D → St → Prop := fun d S => WPTr γ d S Ψ Ξ
@[reducible] def kNot (Ψ : Bool → St → Prop) : Bool → St → Prop := fun b S₁ => Ψ (!b) S₁
@[reducible] def kAa (es : List Expr) (Ψ : Bool → St → Prop) : Bool → St → Prop := fun b S₁ => if b = true then WPA γ .And es S₁ Ψ Ξ else Ψ false S₁
@[reducible] def kAo (es : List Expr) (Ψ : Bool → St → Prop) : Bool → St → Prop := fun b S₁ => if b = true then Ψ true S₁ else WPA γ .Or es S₁ Ψ Ξ
@[reducible] def kGet2 (l r : Expr) (d : D) (Φ : D → St → Prop) : D → St → Prop := fun e S => WPGet γ l r d e S Φ Ξ
@[reducible] def kGet1 (l r : Expr) (Φ : D → St → Prop) : D → St → Prop := fun d S => WPE γ r S (kGet2 γ Ξ l r d Φ) Ξ
@[reducible] def kTup (n : Nat) (Φ : D → St → Prop) : List D → St → Prop := fun ds S₁ => ds.length = n ∧ Φ (.tup ds) S₁
@[reducible] def kLst (n : Nat) (Φ : D → St → Prop) : List D → St → Prop := fun ds S₁ => ds.length = n ∧ Φ (.lst ds) S₁
@[reducible] def kX2 (d : D) (Φ : List D → St → Prop) : List D → St → Prop := fun ds S => Φ (d :: ds) S
@[reducible] def kX1 (pos : Pos) (es : List Expr) (Φ : List D → St → Prop) : D → St → Prop := fun d S => WPL γ (backTo pos (starEach es γ.env)) S (kX2 d Φ) Ξ
@[reducible] def kR (Φ : D → St → Prop) (ρ : Rho) : D → Cells → Prop := fun d κ => Φ d ⟨ρ, κ⟩
@[reducible] def kF (f : Value) (Φ : D → St → Prop) : List D → St → Prop := fun ds S => WPF γ f ds S.κ (kR Φ S.ρ) Ξ
@[reducible] def kC (f : Value) (Φ : D → St → Prop) : List D → St → Prop := fun ds S => WPC γ f ds S Φ Ξ
@[reducible] def kM2 (f : Value) (d : D) (Φ : D → St → Prop) : List D → St → Prop := fun ds S => WPC γ f (d :: ds) S Φ Ξ
@[reducible] def kMs (f : Value) (L : List (Bool × Sem Value)) (Φ : D → St → Prop) : D → St → Prop := fun d S₁ => (∃ x, d = .str x) ∧ WPL γ L S₁ (kM2 γ Ξ f d Φ) Ξ
@[reducible] def kMo (f : Value) (L : List (Bool × Sem Value)) (Φ : D → St → Prop) : D → St → Prop := fun d S₁ => (∃ c ds, d = .ref c ∧ (c, MO.list ds) ∈ S₁.κ) ∧ WPL γ L S₁ (kM2 γ Ξ f d Φ) Ξ
@[reducible] def kMl (f : Value) (L : List (Bool × Sem Value)) (Φ : D → St → Prop) : D → St → Prop := fun d S₁ => (∃ ds, d = .lst ds) ∧ WPL γ L S₁ (kM2 γ Ξ f d Φ) Ξ
@[reducible] def kSl4 (d : D) (a b : Option Int) (Φ : D → St → Prop) : Option Int → St → Prop := fun c S₄ => ∃ d', slD d a b c = some d' ∧ sizeD d ≤ 10000000 ∧ c ≠ some 0 ∧ Φ d' S₄
@[reducible] def kSl3 (st : Option Expr) (d : D) (a : Option Int) (Φ : D → St → Prop) : Option Int → St → Prop := fun b S => WPP γ st S (kSl4 d a b Φ) Ξ
@[reducible] def kSl2 (hi st : Option Expr) (d : D) (Φ : D → St → Prop) : Option Int → St → Prop := fun a S => WPP γ hi S (kSl3 γ Ξ st d a Φ) Ξ
@[reducible] def kSl1 (lo hi st : Option Expr) (Φ : D → St → Prop) : D → St → Prop := fun d S => WPP γ lo S (kSl2 γ Ξ hi st d Φ) Ξ
@[reducible] def kP (Φ : Option Int → St → Prop) : D → St → Prop := fun d S₁ => ∃ i, d = .int i ∧ Φ (some i) S₁
@[reducible] def kCh5 (op2 : CmpOp) (d : D) (Φ : D → St → Prop) : D → St → Prop := fun e S => WPCmp γ op2 d e S Φ Ξ
@[reducible] def kCh4 (op2 : CmpOp) (r2 : Expr) (d c : D) (Φ : D → St → Prop) : Bool → St → Prop := fun b S₄ => if b = true then WPE γ r2 S₄ (kCh5 γ Ξ op2 d Φ) Ξ else Φ c S₄
@[reducible] def kCh3 (op2 : CmpOp) (r2 : Expr) (d : D) (Φ : D → St → Prop) : D → St → Prop := fun c S => WPTr γ c S (kCh4 γ Ξ op2 r2 d c Φ) Ξ
@[reducible] def kCh2 (op1 op2 : CmpOp) (r2 : Expr) (d : D) (Φ : D → St → Prop) : D → St → Prop := fun e S => WPCmp γ op1 d e S (kCh3 γ Ξ op2 r2 e Φ) Ξ
@[reducible] def kCh1 (op1 op2 : CmpOp) (r1 r2 : Expr) (Φ : D → St → Prop) : D → St → Prop := fun d S => WPE γ r1 S (kCh2 γ Ξ op1 op2 r2 d Φ) Ξ
@[reducible] def kFo (I : List D → St → Prop) (ds : List D) (Ψ : AF → St → Prop) : AF → St → Prop := fun f S' => match f with
      | .next => ∃ S₃, Wk S₃ S' ∧ I ds S₃
      | .cont => ∃ S₃, Wk S₃ S' ∧ I ds S₃
      | .brk => Ψ .next S'
      | .ret r => Ψ (.ret r) S'
@[reducible] def kWh2 (I : Nat → St → Prop) (n : Nat) (Ψ : AF → St → Prop) : AF → St → Prop := fun f S₂ => match f with
      | .next => ∃ m S₃, m < n ∧ Wk S₃ S₂ ∧ I m S₃
      | .cont => ∃ m S₃, m < n ∧ Wk S₃ S₂ ∧ I m S₃
      | .brk => Ψ .next S₂
      | .ret d => Ψ (.ret d) S₂
@[reducible] def kWh (body : List Stmt) (I : Nat → St → Prop) (n : Nat) (Ψ : AF → St → Prop) : Bool → St → Prop := fun b S₁ => if b = true then WPB γ body S₁ (kWh2 I n Ψ) Ξ else Ψ .next S₁
end
section
variable {γ : Fx} {N : Fz} {F : Rw} {S : St} {Ξ : Exc → Cells → Prop} {Φ : D → St → Prop} {Ψ : Bool → St → Prop} {Θ : AF → St → Prop} {pos p1 apos : Pos} {k : Nat} {l r t e : Expr} {x name : PySem.Str} {es : List Expr} {test iter o : Expr} {body rest : List Stmt}
theorem kB_cons {s : Stmt} (h : WPS γ s S (kB γ Ξ rest Θ) Ξ) : WPB γ (s :: rest) S Θ Ξ := B_cons h
theorem kS_ret (h : WPE γ e S (kRet Θ) Ξ) : WPS γ (.Return (some e) pos) S Θ Ξ := S_ret h
theorem kS_expr' (h : WPE γ e S (kExp Θ) Ξ) (hs : swapsWith e none pos.line γ.env = pure false := by with_unfolding_all exact rfl) : WPS γ (.Expr e pos) S Θ Ξ := S_expr' h hs
theorem kS_if {a b : List Stmt} (h : WPT γ t S (kIf γ Ξ a b Θ) Ξ) : WPS γ (.If t a b pos) S Θ Ξ := S_if h
theorem kS_ifJ {a b : List Stmt} (P : Prop) (hT : P → WPB γ a S Θ Ξ) (h : WPT γ t S (kIfJ γ Ξ b P S Θ) Ξ) : WPS γ (.If t a b pos) S Θ Ξ :=
  S_if (WP.mono h (fun c S₁ q => by
    cases c with
    | false => exact q
    | true => obtain ⟨rfl, p⟩ := q; exact hT p) fun _ _ p => p)
theorem kS_asg (hk : γ.env.kindOf x = some .local := by exact kind_of ‹_› (by with_unfolding_all exact rfl)) (h : WPE γ e S (kAsg x Θ) Ξ) (hs : swapsWith e (some (.Name x p1)) pos.line γ.env = pure false := by with_unfolding_all exact rfl) : WPS γ (.Assign [.Name x p1] e pos) S Θ Ξ := S_asg hk h hs
theorem kS_aug {op : Operator} {d : D} (hx : S.ρ.lookup x = some d := by with_unfolding_all exact rfl) (h : WPE γ e S (kAug γ Ξ op x d Θ) Ξ) : WPS γ (.AugAssign (.Name x p1) op e pos) S Θ Ξ := S_aug hx h
theorem kS_unp2 {x1 x2 : PySem.Str} {q1 q2 tp : Pos} (h : WPE γ e S (kUnp [x1, x2] Θ) Ξ) (hx1 : γ.env.kindOf x1 = some .local := by exact kind_of ‹_› (by with_unfolding_all exact rfl)) (hx2 : γ.env.kindOf x2 = some .local := by exact kind_of ‹_› (by with_unfolding_all exact rfl))
    (hs : swapsWithSole [.Tuple [.Name x1 q1, .Name x2 q2] k tp] e pos.line γ.env = pure false := by with_unfolding_all exact rfl) (hw : swappedStores [.Tuple [.Name x1 q1, .Name x2 q2] k tp] e γ.env = pure none := by first | with_unfolding_all exact rfl | exact sw0 (by with_unfolding_all exact rfl)) : WPS γ (.Assign [.Tuple [.Name x1 q1, .Name x2 q2] k tp] e pos) S Θ Ξ := S_unpack (xs := [x1, x2]) (.cons hx1 (.cons hx2 .nil)) rfl rfl h hs hw
theorem kS_unp3 {x1 x2 x3 : PySem.Str} {q1 q2 q3 tp : Pos} (h : WPE γ e S (kUnp [x1, x2, x3] Θ) Ξ) (hx1 : γ.env.kindOf x1 = some .local := by exact kind_of ‹_› (by with_unfolding_all exact rfl)) (hx2 : γ.env.kindOf x2 = some .local := by exact kind_of ‹_› (by with_unfolding_all exact rfl)) (hx3 : γ.env.kindOf x3 = some .local := by exact kind_of ‹_› (by with_unfolding_all exact rfl))
    (hs : swapsWithSole [.Tuple [.Name x1 q1, .Name x2 q2, .Name x3 q3] k tp] e pos.line γ.env = pure false := by with_unfolding_all exact rfl) (hw : swappedStores [.Tuple [.Name x1 q1, .Name x2 q2, .Name x3 q3] k tp] e γ.env = pure none := by first | with_unfolding_all exact rfl | exact sw0 (by with_unfolding_all exact rfl)) : WPS γ (.Assign [.Tuple [.Name x1 q1, .Name x2 q2, .Name x3 q3] k tp] e pos) S Θ Ξ := S_unpack (xs := [x1, x2, x3]) (.cons hx1 (.cons hx2 (.cons hx3 .nil))) rfl rfl h hs hw
theorem kS_unp4 {x1 x2 x3 x4 : PySem.Str} {q1 q2 q3 q4 tp : Pos} (h : WPE γ e S (kUnp [x1, x2, x3, x4] Θ) Ξ) (hx1 : γ.env.kindOf x1 = some .local := by exact kind_of ‹_› (by with_unfolding_all exact rfl)) (hx2 : γ.env.kindOf x2 = some .local := by exact kind_of ‹_› (by with_unfolding_all exact rfl)) (hx3 : γ.env.kindOf x3 = some .local := by exact kind_of ‹_› (by with_unfolding_all exact rfl)) (hx4 : γ.env.kindOf x4 = some .local := by exact kind_of ‹_› (by with_unfolding_all exact rfl))
    (hs : swapsWithSole [.Tuple [.Name x1 q1, .Name x2 q2, .Name x3 q3, .Name x4 q4] k tp] e pos.line γ.env = pure false := by with_unfolding_all exact rfl) (hw : swappedStores [.Tuple [.Name x1 q1, .Name x2 q2, .Name x3 q3, .Name x4 q4] k tp] e γ.env = pure none := by first | with_unfolding_all exact rfl | exact sw0 (by with_unfolding_all exact rfl)) : WPS γ (.Assign [.Tuple [.Name x1 q1, .Name x2 q2, .Name x3 q3, .Name x4 q4] k tp] e pos) S Θ Ξ := S_unpack (xs := [x1, x2, x3, x4]) (.cons hx1 (.cons hx2 (.cons hx3 (.cons hx4 .nil)))) rfl rfl h hs hw
theorem kS_sub {t ix : Expr} {pos' : Pos} (h : WPE γ e S (kSub1 γ Ξ t ix Θ) Ξ)
    (hs : swapsWith e (some (.Subscript t ix pos')) pos.line γ.env = pure false := by with_unfolding_all exact rfl) : WPS γ (.Assign [.Subscript t ix pos'] e pos) S Θ Ξ := S_sub h hs
theorem kS_raise (h : WPE γ e S (kRai Ξ) Ξ) : WPS γ (.Raise (some e) none pos) S Θ Ξ := S_raise h
theorem kS_swap2 {x y : PySem.Str} {p q tp vp : Pos} {k k2 : Nat} {v1 v2 : Expr} (kx : γ.env.kindOf x = some .local := by exact kind_of ‹_› (by with_unfolding_all exact rfl)) (ky : γ.env.kindOf y = some .local := by exact kind_of ‹_› (by with_unfolding_all exact rfl)) (hl : (q.line == p.line) = true := by with_unfolding_all exact rfl) (hxy : (y == x) = false := by decide)
    (hst : [v1, v2].any strd = false := by with_unfolding_all exact rfl) (hf : [v1, v2].all (foldedForSure 8) = false := by with_unfolding_all exact rfl) (hc : [v1, v2].all (constantsAlone 8) = false := by with_unfolding_all exact rfl)
    (h : WPE γ (.Tuple [v1, v2] k2 vp) S (kSw2 x y Θ) Ξ) : WPS γ (.Assign [.Tuple [.Name x p, .Name y q] k tp] (.Tuple [v1, v2] k2 vp) pos) S Θ Ξ := S_swap2 kx ky hl hxy hst hf hc h
theorem kS_swap3 {x y z : PySem.Str} {p q r tp vp : Pos} {k k2 : Nat} {v1 v2 v3 : Expr} (kx : γ.env.kindOf x = some .local := by exact kind_of ‹_› (by with_unfolding_all exact rfl)) (ky : γ.env.kindOf y = some .local := by exact kind_of ‹_› (by with_unfolding_all exact rfl)) (kz : γ.env.kindOf z = some .local := by exact kind_of ‹_› (by with_unfolding_all exact rfl)) (hl : (q.line == p.line) = true := by with_unfolding_all exact rfl) (hl2 : (r.line == p.line) = true := by with_unfolding_all exact rfl) (hxy : (y == x) = false := by decide) (hxz : (z == x) = false := by decide) (hyz : (z == y) = false := by decide)
    (hst : [v1, v2, v3].any strd = false := by with_unfolding_all exact rfl) (hf : [v1, v2, v3].all (foldedForSure 8) = false := by with_unfolding_all exact rfl) (hc : [v1, v2, v3].all (constantsAlone 8) = false := by with_unfolding_all exact rfl)
    (h : WPE γ (.Tuple [v1, v2, v3] k2 vp) S (kSw3 x y z Θ) Ξ) : WPS γ (.Assign [.Tuple [.Name x p, .Name y q, .Name z r] k tp] (.Tuple [v1, v2, v3] k2 vp) pos) S Θ Ξ := S_swap3 kx ky kz hl hl2 hxy hxz hyz hst hf hc h
theorem kE_BinOp {op : Operator} (h : WPE γ l S (kBin1 γ Ξ op r Φ) Ξ) : WPE γ (.BinOp l op r pos) S Φ Ξ := E_BinOp h
theorem kE_Cmp {op : CmpOp} (h : WPE γ l S (kCmp1 γ Ξ op r Φ) Ξ) (hm : behindInMarks op r = false := by with_unfolding_all exact rfl) : WPE γ (.Compare l [op] [r] pos) S Φ Ξ := E_Cmp h hm
theorem kE_Un {op : UnaryOp} (h : WPE γ e S (kUn γ Ξ op Φ) Ξ) : WPE γ (.UnaryOp op e pos) S Φ Ξ := E_Un h
theorem kE_If (h : WPT γ t S (kIfE γ Ξ l r Φ) Ξ) : WPE γ (.IfExp t l r pos) S Φ Ξ := E_If h
theorem kE_and2 (h : WPE γ l S (kAnd1 γ Ξ r Φ) Ξ) : WPE γ (.BoolOp .And [l, r] pos) S Φ Ξ := E_and2 h
theorem kE_or2 (h : WPE γ l S (kOr1 γ Ξ r Φ) Ξ) : WPE γ (.BoolOp .Or [l, r] pos) S Φ Ξ := E_or2 h
theorem kE_and3 {m : Expr} (h : WPE γ l S (kAnd3' γ Ξ m r Φ) Ξ) : WPE γ (.BoolOp .And [l, m, r] pos) S Φ Ξ := E_and3 h
theorem kT_plain (h : WPE γ e S (kTr γ Ξ Ψ) Ξ) (hp : ∀ whole, isTrue e γ.env whole = (do let v ← whole; standAt e.pos; holding [v] (truthy v)) := by intro _; with_unfolding_all exact rfl) : WPT γ e S Ψ Ξ := T_plain h hp
theorem kT_cmp {op : CmpOp} (h : WPE γ l S (kCmp1 γ Ξ op r (kTr γ Ξ Ψ)) Ξ) (hm : behindInMarks op r = false := by with_unfolding_all exact rfl) : WPT γ (.Compare l [op] [r] pos) S Ψ Ξ := T_cmp h hm
theorem kT_not (h : WPT γ e S (kNot Ψ) Ξ) : WPT γ (.UnaryOp .Not e pos) S Ψ Ξ := T_not h
theorem kA_and (h : WPT γ e S (kAa γ Ξ es Ψ) Ξ) : WPA γ .And (e :: es) S Ψ Ξ := A_and h
theorem kA_or (h : WPT γ e S (kAo γ Ξ es Ψ) Ξ) : WPA γ .Or (e :: es) S Ψ Ξ := A_or h
theorem kE_Sub (h : WPE γ l S (kGet1 γ Ξ l r Φ) Ξ) : WPE γ (.Subscript l r pos) S Φ Ξ := E_Sub h
theorem kE_tup (h : WPL γ (backTo pos (starEach es γ.env)) S (kTup es.length Φ) Ξ) (hs : es.length ≤ 64 := by decide) : WPE γ (.Tuple es k pos) S Φ Ξ := E_tup hs h
theorem kE_lst (h : WPL γ (backTo pos (starEach (e :: es) γ.env)) S (kLst (e :: es).length Φ) Ξ) (hs : (e :: es).length ≤ 64 := by decide) : WPE γ (.List (e :: es) pos) S Φ Ξ := E_lst hs h
theorem kX_cons {Φ : List D → St → Prop} (h : WPE γ e S (kX1 γ Ξ pos es Φ) Ξ)
    (he : starEach (e :: es) γ.env = (false, eval e γ.env) :: starEach es γ.env := by with_unfolding_all exact rfl) : WPL γ (backTo pos (starEach (e :: es) γ.env)) S Φ Ξ := X_cons h he
theorem lookup_none' {a : Addr} : ∀ {L : Frag}, (L.map (·.1)).contains a = false → L.lookup a = none
  | [], _ => rfl
  | (b, o) :: L, h => by
    rw [List.map_cons, List.contains_cons, Bool.or_eq_false_iff] at h
    rw [List.lookup_cons, h.1]
    exact lookup_none' h.2
theorem lookup_fn {f : FnI} : ∀ {L : List FnI}, f ∈ L → (L.map (·.a)).Nodup → (L.map fun f => (f.a, fnObj f.n (defAt f.i) f.a f.m f.t f.d)).lookup f.a = some (fnObj f.n (defAt f.i) f.a f.m f.t f.d)
  | g :: L, h, n => by
    rw [List.map_cons, List.nodup_cons] at n
    rw [List.map_cons, List.lookup_cons]
    cases e : f.a == g.a with
    | true =>
      rcases List.mem_cons.mp h with rfl | h
      · rfl
      · exact absurd (by rw [← eq_of_beq e]; exact List.mem_map_of_mem h) n.1
    | false =>
      rcases List.mem_cons.mp h with rfl | h
      · rw [beq_self_eq_true] at e; exact absurd e.symm Bool.false_ne_true
      · exact lookup_fn h n.2
theorem fns_apart : fns.all (fun f => !(([33, 32, 30, 34, 22, 23, 54, 53, 51, 55, 56, 44, 59, 60, 117, 4] : List Addr).contains f.a)) = true := by decide +kernel
theorem fns_nodup : (fns.map (·.a)).Nodup := by decide +kernel
theorem fnK_all {f : FnI} (h : f ∈ fns) (P : Params) : (K P).lookup f.a = some (fnObj f.n (defAt f.i) f.a f.m f.t f.d) := by
  have e : (clsK P).lookup f.a = none := lookup_none' (by
    show ([33, 32, 30, 34, 22, 23, 54, 53, 51, 55, 56, 44, 59, 60, 117, 4] : List Addr).contains f.a = false
    exact (Bool.not_eq_true' _).mp (List.all_eq_true.mp fns_apart f h))
  show (clsK P ++ fnK).lookup f.a = _
  rw [List.lookup_append, e]
  exact lookup_fn h fns_nodup
noncomputable def fnAt (x : PySem.Str) : Option Addr := (fns.find? (·.n == x)).map (·.a)
theorem fnAt_get {x : PySem.Str} {a : Addr} (h : fnAt x = some a) : ∃ fi ∈ fns, fi.n = x ∧ fi.a = a := by
  unfold fnAt at h
  cases e : fns.find? (·.n == x) with
  | none => rw [e] at h; cases h
  | some fi =>
    rw [e] at h
    exact ⟨fi, List.mem_of_find?_eq_some e, eq_of_beq (by have z := List.find?_some e; exact z), Option.some.inj h⟩
theorem kE_fun {a : Addr} (ha : fnAt name = some a := by with_unfolding_all exact rfl) (hk : γ.env.kindOf name = some .globalImplicit := by exact kind_of ‹_› (by with_unfolding_all exact rfl))
    (h : WPL γ (backTo pos (starEach (e :: es) γ.env)) S (kF γ Ξ (.ref a) Φ) Ξ)
    (he : starEach (e :: es) γ.env = (false, eval e γ.env) :: starEach es γ.env := by with_unfolding_all exact rfl) (hd : (name == ("__debug__" : PySem.Str)) = false := by decide) : WPE γ (.Call (.Name name p1) (e :: es) [] pos) S Φ Ξ := by
  obtain ⟨fi, hf, rfl, rfl⟩ := fnAt_get ha
  exact E_callF hf (fun P => fnK_all hf P) rfl hk h he hd
theorem kE_fun0 {a : Addr} (ha : fnAt name = some a := by with_unfolding_all exact rfl) (hk : γ.env.kindOf name = some .globalImplicit := by exact kind_of ‹_› (by with_unfolding_all exact rfl))
    (h : WPF γ (.ref a) [] S.κ (kR Φ S.ρ) Ξ) (hd : (name == ("__debug__" : PySem.Str)) = false := by decide) : WPE γ (.Call (.Name name p1) [] [] pos) S Φ Ξ := by
  obtain ⟨fi, hf, rfl, rfl⟩ := fnAt_get ha
  exact E_callF0 hf (fun P => fnK_all hf P) rfl hk h hd
theorem kE_callC {C : Addr} (hx : (name, some (.ref C)) ∈ glob) (hk : γ.env.kindOf name = some .globalImplicit := by exact kind_of ‹_› (by with_unfolding_all exact rfl)) (hkeep : ∀ P, keepIn (K P) (.ref C) = true)
    (h : WPL γ (backTo pos (starEach (e :: es) γ.env)) S (kF γ Ξ (.ref C) Φ) Ξ)
    (he : starEach (e :: es) γ.env = (false, eval e γ.env) :: starEach es γ.env := by with_unfolding_all exact rfl) (hp : (backTo pos (starEach (e :: es) γ.env)).any (·.1) = false := by with_unfolding_all exact rfl) (hd : (name == ("__debug__" : PySem.Str)) = false := by decide) : WPE γ (.Call (.Name name p1) (e :: es) [] pos) S Φ Ξ := E_callC hx hk hkeep h he hp hd
theorem kE_callB {id : String} (hx : (name, none) ∈ glob) (hb : bootBuiltins name = some (.builtin id)) (h : WPL γ (backTo pos (starEach (e :: es) γ.env)) S (kC γ Ξ (.builtin id) Φ) Ξ) (hk : γ.env.kindOf name = some .globalImplicit := by exact kind_of ‹_› (by with_unfolding_all exact rfl))
    (he : starEach (e :: es) γ.env = (false, eval e γ.env) :: starEach es γ.env := by with_unfolding_all exact rfl) (hp : (backTo pos (starEach es γ.env)).any (·.1) = false := by with_unfolding_all exact rfl) (hn : name ≠ "__name__" := by decide) (hd : (name == ("__debug__" : PySem.Str)) = false := by decide) :
    WPE γ (.Call (.Name name p1) (e :: es) [] pos) S Φ Ξ := E_callB hx hb hk h he hp hn hd
theorem kE_glob {v : Value} (hx : (name, some v) ∈ glob) (h : Φ (.val v) S) (hk : γ.env.kindOf name = some .globalImplicit := by exact kind_of ‹_› (by with_unfolding_all exact rfl)) (hd : (name == ("__debug__" : PySem.Str)) = false := by decide) : WPE γ (.Name name pos) S Φ Ξ := E_glob hx hk h hd
theorem kE_slice {lo hi st : Option Expr} {p : Pos} (h : WPE γ l S (kSl1 γ Ξ lo hi st Φ) Ξ) : WPE γ (.Subscript l (.Slice lo hi st p) pos) S Φ Ξ := E_slice h
theorem kP_some {Φ : Option Int → St → Prop} (h : WPE γ e S (kP Φ) Ξ) : WPP γ (some e) S Φ Ξ := P_some h
theorem kE_chain {op1 op2 : CmpOp} {r1 r2 : Expr} (h : WPE γ l S (kCh1 γ Ξ op1 op2 r1 r2 Φ) Ξ) (hm : lastMarks (op1 :: op2 :: []) (r1 :: r2 :: []) = false := by with_unfolding_all exact rfl) : WPE γ (.Compare l [op1, op2] [r1, r2] pos) S Φ Ξ := E_chain h hm
theorem kE_mo {id : String} (slot : Slot "list" name id) (ty : typeOf (.builtin id) = pure (.type "method_descriptor"))
    (h : WPE γ o S (kMo γ Ξ (.builtin id) (backTo pos (starEach (e :: es) γ.env)) Φ) Ξ)
    (hbase : attributeBase o name γ.env (eval o γ.env) = eval o γ.env := by with_unfolding_all exact rfl)
    (hok : ((((backTo pos (starEach (e :: es) γ.env)).all fun x => !x.fst) && (backToKw pos (keywordEach [] γ.env)).all fun x => x.fst.isSome) && decide (((e :: es).length + ([] : List Keyword).length + if ([] : List Keyword).isEmpty = true then 0 else 1) < 30)) = true := by with_unfolding_all exact rfl)
    (hline : (apos.endLine == pos.line) = true := by with_unfolding_all exact rfl) (he : starEach (e :: es) γ.env = (false, eval e γ.env) :: starEach es γ.env := by with_unfolding_all exact rfl) (hp : (backTo pos (starEach (e :: es) γ.env)).any (·.1) = false := by with_unfolding_all exact rfl) :
    WPE γ (.Call (.Attribute o name apos) (e :: es) [] pos) S Φ Ξ := E_mo slot ty h hbase hok hline he hp
theorem kE_ml {id : String} (slot : Slot "list" name id) (ty : typeOf (.builtin id) = pure (.type "method_descriptor"))
    (h : WPE γ o S (kMl γ Ξ (.builtin id) (backTo pos (starEach (e :: es) γ.env)) Φ) Ξ)
    (hbase : attributeBase o name γ.env (eval o γ.env) = eval o γ.env := by with_unfolding_all exact rfl)
    (hok : ((((backTo pos (starEach (e :: es) γ.env)).all fun x => !x.fst) && (backToKw pos (keywordEach [] γ.env)).all fun x => x.fst.isSome) && decide (((e :: es).length + ([] : List Keyword).length + if ([] : List Keyword).isEmpty = true then 0 else 1) < 30)) = true := by with_unfolding_all exact rfl)
    (hline : (apos.endLine == pos.line) = true := by with_unfolding_all exact rfl) (he : starEach (e :: es) γ.env = (false, eval e γ.env) :: starEach es γ.env := by with_unfolding_all exact rfl) (hp : (backTo pos (starEach (e :: es) γ.env)).any (·.1) = false := by with_unfolding_all exact rfl) :
    WPE γ (.Call (.Attribute o name apos) (e :: es) [] pos) S Φ Ξ := E_ml slot ty h hbase hok hline he hp
theorem kE_len (hk : γ.env.kindOf (Str.ofString "len") = some .globalImplicit := by exact kind_of ‹_› (by with_unfolding_all exact rfl)) (h : WPL γ (backTo pos (starEach (e :: es) γ.env)) S (kC γ Ξ (.builtin "len") Φ) Ξ) (he : starEach (e :: es) γ.env = (false, eval e γ.env) :: starEach es γ.env := by with_unfolding_all exact rfl) (hp : (backTo pos (starEach es γ.env)).any (·.1) = false := by with_unfolding_all exact rfl) :
    WPE γ (.Call (.Name (Str.ofString "len") p1) (e :: es) [] pos) S Φ Ξ := E_len hk h he hp
theorem kE_range (hk : γ.env.kindOf (Str.ofString "range") = some .globalImplicit := by exact kind_of ‹_› (by with_unfolding_all exact rfl)) (h : WPL γ (backTo pos (starEach (e :: es) γ.env)) S (kC γ Ξ (.type "range") Φ) Ξ) (he : starEach (e :: es) γ.env = (false, eval e γ.env) :: starEach es γ.env := by with_unfolding_all exact rfl) (hp : (backTo pos (starEach es γ.env)).any (·.1) = false := by with_unfolding_all exact rfl) :
    WPE γ (.Call (.Name (Str.ofString "range") p1) (e :: es) [] pos) S Φ Ξ := E_range hk h he hp
theorem kS_whileW (I : Nat → St → Prop) (n : Nat) (h0 : ∃ S₀, Wk S₀ S ∧ I n S₀)
    (turn : ∀ n S, I n S → WPT γ test S (kWh γ Ξ body I n Θ) Ξ) : WPS γ (.While test body [] pos) S Θ Ξ := S_whileW I n h0 turn
theorem kS_forI (I : List D → St → Prop) (hk : γ.env.kindOf x = some .local)
    (h : WPE γ iter S (fun d S₁ => ∃ ds, Iter γ d ds ∧ I ds S₁) Ξ) (hs : ∀ v, foldedSetIterable iter γ.env v = pure v)
    (hI : ∀ d ds S, I (d :: ds) S → WPB γ body ⟨(x, d) :: S.ρ, S.κ⟩ (kFo I ds Θ) NoX) (hE : ∀ S, I [] S → Θ .next S) : WPS γ (.For (.Name x p1) iter body [] pos) S Θ Ξ :=
  S_forI I hk h hs hI hE
theorem kE_ms {id : String} (slot : Slot "str" name id) (ty : typeOf (.builtin id) = pure (.type "method_descriptor"))
    (h : WPE γ o S (kMs γ Ξ (.builtin id) (backTo pos (starEach (e :: es) γ.env)) Φ) Ξ)
    (hbase : attributeBase o name γ.env (eval o γ.env) = eval o γ.env := by with_unfolding_all exact rfl)
    (hok : ((((backTo pos (starEach (e :: es) γ.env)).all fun x => !x.fst) && (backToKw pos (keywordEach [] γ.env)).all fun x => x.fst.isSome) && decide (((e :: es).length + ([] : List Keyword).length + if ([] : List Keyword).isEmpty = true then 0 else 1) < 30)) = true := by with_unfolding_all exact rfl)
    (hline : (apos.endLine == pos.line) = true := by with_unfolding_all exact rfl) (he : starEach (e :: es) γ.env = (false, eval e γ.env) :: starEach es γ.env := by with_unfolding_all exact rfl) (hp : (backTo pos (starEach (e :: es) γ.env)).any (·.1) = false := by with_unfolding_all exact rfl) :
    WPE γ (.Call (.Attribute o name apos) (e :: es) [] pos) S Φ Ξ := E_ms slot ty h hbase hok hline he hp
theorem kE_name {d : D} (h : Φ d S) (hx : S.ρ.lookup x = some d := by with_unfolding_all exact rfl) (hd : (x == ("__debug__" : PySem.Str)) = false := by decide) : WPE γ (.Name x pos) S Φ Ξ := E_name hx h hd
theorem kE_cell {d : D} (h : Φ d S) (hx : γ.cv.lookup x = some d := by exact cv_of ‹_› (by with_unfolding_all exact rfl)) (hk : γ.env.kindOf x = some .cell := by exact kind_of ‹_› (by with_unfolding_all exact rfl)) (hd : (x == ("__debug__" : PySem.Str)) = false := by decide) : WPE γ (.Name x pos) S Φ Ξ := E_cell hx hk h hd
theorem kE_ms0 {id : String} (slot : Slot "str" name id) (ty : typeOf (.builtin id) = pure (.type "method_descriptor"))
    (h : WPE γ o S (fun d S₁ => (∃ x, d = .str x) ∧ WPC γ (.builtin id) [d] S₁ Φ Ξ) Ξ) (hbase : attributeBase o name γ.env (eval o γ.env) = eval o γ.env := by with_unfolding_all exact rfl) (hline : (apos.endLine == pos.line) = true := by with_unfolding_all exact rfl) :
    WPE γ (.Call (.Attribute o name apos) [] [] pos) S Φ Ξ := E_ms0 slot ty h hbase hline
end
end

local macro_rules | `(tactic| wtm_at "len") => `(tactic| first
  | ((with_reducible first
    | apply addc
    | assumption
    | apply appc
    | apply takec
    | apply dropc
    | apply mapl
    | apply consc
    | exact Nat.le_refl _) <;> wtm_at "len"))
local macro_rules | `(tactic| wtm_at "om") => `(tactic| first
  | (with_reducible first
    | assumption)
  | decide +kernel
  | (with_reducible first
    | exact fu1 ‹_› ‹_› (by decide)
    | exact lec ‹_› (by decide)
    | exact mapc ‹_› (by decide)
    | exact intz _
    | exact intz1 _
    | exact int1 ‹_›
    | exact int2 ‹_›
    | exact intc ‹_› ‹_› (by decide)
    | exact step1 ‹_›
    | exact lesub ‹_›
    | exact step2 ‹_›
    | exact evn2 ‹_›
    | exact evnp ‹_›
    | exact odd0 ‹_›
    | exact dech ‹_›
    | exact decn ‹_›)
  | ((with_reducible refine' lec (b := OfNat.ofNat _) ?p ?q); (case p => wtm_at "len"); (case q => decide +kernel))
  | omega)
local macro_rules | `(tactic| wtm_at "m_sd") => `(tactic| first
  | wtm_at "om"
  | assumption
  | decide
  | (simp only [List.length_cons, List.length_nil, List.length_map, List.length_append, List.length_drop, List.length_take]; omega)
  | ((simp only [List.length_append, List.length_cons, List.length_nil, List.length_map, u, *]) <;> omega)
  | decide +kernel)
local macro_rules | `(tactic| wtm_at "side") => `(tactic| all_goals first
  | fail_if_success (with_reducible first | show LE.le _ _ | show LT.lt _ _ | show Ne _ _ | show Eq _ _ | show Membership.mem _ _ | show Upd _ _ _ _ _)
  | ((with_reducible show Eq _ _); first | rfl | assumption)
  | exact List.cons_ne_nil _ _
  | ((with_reducible show Membership.mem _ _); wtm_at "m_mem")
  | ((with_reducible show Upd _ _ _ _ _); wtm_at "m_upd")
  | wtm_at "m_sd")
local macro_rules | `(tactic| wtm_at "m_if") => `(tactic| first
  | (with_reducible first
    | refine if_T rfl ?_
    | refine if_F rfl ?_)
  | ((with_reducible refine' if_T ?k0 ?_); (case k0 => assumption))
  | ((with_reducible refine' if_F ?k0 ?_); (case k0 => assumption))
  | ((with_reducible refine' if_dT ?k0 ?_); (case k0 => omega))
  | ((with_reducible refine' if_dF ?k0 ?_); (case k0 => omega))
  | (with_reducible first
    | refine if_d (fun e => ?_) (fun e => ?_)
    | refine if_b (fun e => ?_) (fun e => ?_)))
local macro_rules | `(tactic| wtm_at "m_bin") => `(tactic| first
  | ((with_reducible first
    | refine' add_i ?_
    | refine' sub_i ?_
    | refine' mod_i ?_ ?_
    | refine' fdiv_i ?_ ?_ ?_
    | refine' add_t ?_ ?_ ?_
    | refine' add_s ?_ ?_); wtm_at "side"))
local macro_rules | `(tactic| wtm_at "m_inp") => `(tactic| first
  | ((with_reducible first
    | refine' iadd_i ?_
    | refine' isub_i ?_
    | refine' iadd_s ?_ ?_); wtm_at "side"))
local macro_rules | `(tactic| wtm_at "m_cmp") => `(tactic| first
  | ((with_reducible first
    | refine' eq_s ?_
    | refine' lt_i ?_
    | refine' eq_i ?_
    | refine' ge_i ?_
    | refine' ne_s ?_
    | refine' is_none ?_ ?_
    | refine' isnot_none ?_ ?_
    | refine' gt_i ?_
    | refine' le_s ?_
    | refine' in_s ?_
    | refine' in_k ?_
    | refine' eq_nil ?_
    | refine' ne_nil ?_
    | refine' in_tu ?_ ?_
    | refine' in_lu ?_ ?_); wtm_at "side"))
local macro_rules | `(tactic| wtm_at "m_c") => `(tactic| first
  | ((with_reducible first
    | refine' c_len_s ?_ ?_
    | refine' c_len_l ?_ ?_
    | refine' c_len_t ?_ ?_
    | refine' c_len_o ?_ ?_ ?_
    | refine' m_lower ?_ ?_
    | refine' m_find ?_
    | refine' m_find3 ?_
    | refine' m_starts ?_
    | refine' c_rng1 ?_
    | refine' c_rng3 ?_ ?_ ?_
    | refine' c_pop ?_ ?_ ?_ ?_ ?_
    | refine' c_append ?_ ?_ ?_); wtm_at "side"))
local macro_rules | `(tactic| wtm_at "m_get") => `(tactic| first
  | ((with_reducible first
    | refine' get_s ?_ ?_ ?_ ?_
    | refine' get_t ?_ ?_ ?_ ?_ ?_
    | refine' get_o ?_ ?_ ?_ ?_ ?_); wtm_at "side")
  | ((with_reducible first
    | refine' get_l ?_ ?_ ?_ ?_); wtm_at "side")
  | ((with_reducible first
    | refine' get_ln ?_ ?_ ?_ ?_ ?_); wtm_at "side"))
local macro_rules | `(tactic| wtm_at "m_sl") => `(tactic| first
  | ((with_reducible first
    | refine' sl_1 ?_ ?_ ?_
    | refine' sl_last ?_ ?_
    | refine' sl_sn ?_ ?_ ?_
    | refine' sl_ns ?_ ?_ ?_
    | refine' sl_l2 ?_ ?_ ?_
    | refine' sl_l2n ?_ ?_
    | refine' sl_linit ?_ ?_
    | refine' sl_lsn ?_ ?_ ?_
    | refine' sl_ss ?_ ?_ ?_ ?_); wtm_at "side"))
local macro_rules | `(tactic| wtm_at "m_prim") => `(tactic| first
  | ((with_reducible show ite _ _ _); wtm_at "m_if")
  | ((with_reducible show WPTr _ _ _ _ _); first | with_reducible refine Tr_bool ?_ | ((with_reducible refine' tr_k ?_ ?_); wtm_at "side"))
  | ((with_reducible show WPCmp _ _ _ _ _ _ _); wtm_at "m_cmp")
  | ((with_reducible show WPGet _ _ _ _ _ _ _ _); wtm_at "m_get")
  | ((with_reducible show WPBin _ _ _ _ _ _ _); wtm_at "m_bin")
  | ((with_reducible show WPInp _ _ _ _ _ _ _); wtm_at "m_inp")
  | ((with_reducible show WPC _ _ _ _ _ _); wtm_at "m_c")
  | ((with_reducible refine' set_o ?_ ?_ ?_ ?_ ?_); wtm_at "side")
  | ((with_reducible show WPUn _ _ _ _ _ _); first | with_reducible refine neg_i ?_ | with_reducible refine not_d ?_)
  | ((with_reducible show And (List.Nodup _) _); refine And.intro (by decide +kernel) ?_)
  | with_reducible refine post_ret ?_ | with_reducible refine post_nxt ?_
  | (with_reducible first | refine ⟨_, rfl, rfl, ?_⟩ | refine ⟨_, _, rfl, ?_⟩ | refine ⟨_, _, _, rfl, ?_⟩ | refine ⟨⟨_, rfl⟩, ?_⟩) | ((with_reducible refine' ⟨⟨_, _, rfl, ?k1⟩, ?_⟩); (case k1 => wtm_at "m_mem")) | ((with_reducible show And _ _); refine And.intro rfl ?_) | wtm_at "m_sl" | with_reducible refine ⟨_, rfl, ?_⟩ | ((with_reducible refine' ⟨_, _, rfl, ?k1, ?_⟩); (case k1 => rfl)))
local macro_rules | `(tactic| wtm_at "m_mem") => `(tactic| first
  | exact .head _
  | exact .tail _ (.head _)
  | exact .tail _ (.tail _ (.head _))
  | exact mem_here)
local macro_rules | `(tactic| wtm_at "m_upd") => `(tactic| first
  | exact .here
  | exact .there .here
  | exact .there (.there .here)
  | exact Upd.mid _)
local macro_rules | `(tactic| wtm_at "m_e") => `(tactic| first
  | (with_reducible first
    | refine kE_name ?_
    | refine kE_cell ?_
    | refine E_int ?_
    | refine E_str ?_
    | refine E_bool ?_
    | refine E_none ?_
    | refine kE_BinOp ?_
    | refine kE_chain ?_
    | refine kE_Cmp ?_
    | refine kE_Un ?_
    | refine kE_slice ?_
    | refine E_dsub (kv := [(_, _), (_, _), (_, _), (_, _)]) (h := ?_)
    | refine kE_Sub ?_
    | refine kE_If ?_
    | refine kE_and2 ?_
    | refine kE_or2 ?_
    | refine kE_and3 ?_
    | refine E_dget (kv := [(_, _), (_, _)]) (h := ?_)
    | refine kE_mo PySem.F.slot_list_pop PySem.F.type_list_pop ?_
    | refine kE_ml PySem.F.slot_list_index PySem.F.type_list_index ?_
    | refine kE_mo PySem.F.slot_list_append PySem.F.type_list_append ?_
    | refine E_repl (h := ?_)
    | refine kE_ms PySem.F.slot_str_join PySem.F.type_str_join ?_
    | refine kE_ms0 PySem.F.slot_str_lower PySem.F.type_str_lower ?_
    | refine kE_ms PySem.F.slot_str_find PySem.F.type_str_find ?_
    | refine kE_ms PySem.F.slot_str_startswith PySem.F.type_str_startswith ?_
    | refine kE_fun (h := ?_)
    | refine kE_fun0 (h := ?_)
    | refine kE_len (h := ?_)
    | refine kE_range (h := ?_)
    | refine kE_callC gl_Raised (hkeep := kp33) (h := ?_)
    | refine kE_callC gl_Nest (hkeep := kp54) (h := ?_)
    | refine E_comp (h := ?_)
    | refine E_dict0 (fun a => ?_)
    | refine kE_tup ?_
    | refine kE_lst ?_))
local macro_rules | `(tactic| wtm_at "m_t") => `(tactic| first
  | (with_reducible first
    | refine kT_cmp ?_
    | refine kT_not ?_
    | refine T_bool ?_
    | refine kT_plain ?_))
local macro_rules | `(tactic| wtm_at "m_a") => `(tactic| first
  | (with_reducible first
    | refine kA_and ?_
    | refine kA_or ?_
    | refine A_and_nil ?_
    | refine A_or_nil ?_))
local macro_rules | `(tactic| wtm_at "m_s") => `(tactic| first
  | (with_reducible first
    | refine kS_asg (h := ?_)
    | refine kS_swap2 (h := ?_)
    | refine kS_swap3 (h := ?_)
    | refine kS_unp2 ?_
    | refine kS_unp3 ?_
    | refine kS_unp4 ?_
    | refine kS_sub ?_
    | refine kS_expr' ?_
    | refine kS_raise ?_
    | refine kS_if ?_
    | refine kS_ret ?_
    | refine S_ret0 ?_
    | refine S_brk ?_
    | refine kS_aug (h := ?_)))
local macro_rules | `(tactic| wtm_at "m_1") => `(tactic| first
  | ((with_reducible show WPE _ _ _ _ _); wtm_at "m_e")
  | ((with_reducible show WPB _ _ _ _ _); first | with_reducible refine kB_cons ?_ | with_reducible refine B_nil ?_)
  | ((with_reducible show WPS _ _ _ _ _); wtm_at "m_s")
  | ((with_reducible show WPT _ _ _ _ _); wtm_at "m_t")
  | ((with_reducible show WPL _ _ _ _ _); first | with_reducible refine kX_cons ?_ | with_reducible refine X_nil ?_)
  | ((with_reducible show WPA _ _ _ _ _ _); wtm_at "m_a")
  | ((with_reducible show WPK _ _ _ _ _); first | with_reducible refine K_cons ?_ | with_reducible refine K_nil ?_)
  | ((with_reducible show WPP _ _ _ _ _); first | with_reducible refine P_none ?_ | with_reducible refine kP_some ?_)
  | wtm_at "m_prim")
local macro_rules | `(tactic| wtm_at "m") => `(tactic| repeat' (first | wtm_at "m_1" | fail))
local macro_rules | `(tactic| wtm_at "m_simp") => `(tactic| first
  | simp only [*, if_true, if_false, ite_true, ite_false, Bool.true_and, Bool.and_true, Bool.false_or, Bool.or_false, Bool.false_and, Bool.and_false, Bool.true_or, Bool.or_true, Bool.false_eq_true, decide_true, decide_false, decide_eq_true_eq, not_true_eq_false, not_false_eq_true, Bool.not_true, Bool.not_false])

section
-- W1
theorem of_pair {Φ : D → Cells → Prop} {κ : Cells} {b : Bool} {k : Int} {r : Bool × Int} (h : Φ (.tup [.bool r.1, .int r.2]) κ) (e : (b, k) = r) : Φ (.tup [.bool b, .int k]) κ := by subst e; exact h
theorem itTb {α : Type} {b : Bool} {X A B : α} (h : b = true) (e : X = A) : X = if b = true then A else B := e.trans (if_pos h).symm
theorem itFb {α : Type} {b : Bool} {X A B : α} (h : b = false) (e : X = B) : X = if b = true then A else B := e.trans (if_neg (by rw [h]; exact Bool.false_ne_true)).symm
theorem itTd {α : Type} {P : Prop} [Decidable P] {X A B : α} (h : P) (e : X = A) : X = if decide P = true then A else B := itTb (decide_eq_true h) e
theorem itFd {α : Type} {P : Prop} [Decidable P] {X A B : α} (h : ¬ P) (e : X = B) : X = if decide P = true then A else B := itFb (decide_eq_false h) e
theorem bcT {a b c d : Bool} (h : a = true) (g : b = true) : (a && b || (c && d)) = true := by rw [h, g]; rfl
theorem bcU {a b c d : Bool} (h : c = true) (g : d = true) : (a && b || (c && d)) = true := by rw [h, g]; exact Bool.or_true _
theorem bcF1 {a b c d : Bool} (h : a = false) (g : c = false) : (a && b || (c && d)) = false := by rw [h, g]; rfl
theorem bcF2 {a b c d : Bool} (h : a = false) (g : d = false) : (a && b || (c && d)) = false := by rw [h, g, Bool.and_false]; rfl
theorem bcF3 {a b c d : Bool} (h : b = false) (g : c = false) : (a && b || (c && d)) = false := by rw [h, g, Bool.and_false]; rfl
theorem bcF4 {a b c d : Bool} (h : b = false) (g : d = false) : (a && b || (c && d)) = false := by rw [h, g, Bool.and_false, Bool.and_false]; rfl
theorem in_set_ok {γ : Fx} {κ : Cells} {p c : Wd} {i : Int} {Φ : D → Cells → Prop} {Ξ : Exc → Cells → Prop} (hn : 1 ≤ γ.n) (h0 : 0 ≤ i) (h1 : i < p.length) (hp : p.length ≤ 1000)
    (h : Φ (.tup [.bool (inSet p c i).1, .int (inSet p c i).2]) κ) : WPF γ (.ref 95) [.str p, .int i, .str c] κ Φ Ξ := by
  refine F_in fm_in_set fk_in_set (names := ["pattern", "at", "c"]) (ρ := [("c", .str c), ("at", .int i), ("pattern", .str p)]) hn (by decide +kernel) rfl rfl (fun s vs hS hl => ?_) (fun γ' g1 g2 g3 => ?_)
  · refine lenE3 hl (fun _ _ _ => ?_)
    exact BindsTo.of_eq (by rfl)
  · refine kB_cons ?_
    wtm_at "m"
    let I : Nat → St → Prop := fun n S => ∃ j, S = ⟨[("at", .int j), ("size", .int p.length), ("c", .str c), ("pattern", .str p)], κ⟩ ∧ 0 ≤ j ∧ j ≤ p.length ∧ p.length - j < n ∧ inSetL p c n j = inSet p c i
    refine kS_whileW I (n := p.length + 1) ?_ ?_
    · exact ⟨⟨[("at", .int (i + 1)), ("size", .int p.length), ("c", .str c), ("pattern", .str p)], κ⟩, Wk.of ⟨rfl, rfl, rfl, rfl, trivial⟩ (.refl _), i + 1, rfl, by wtm_at "om", by wtm_at "om", by wtm_at "om", rfl⟩
    · intro n S hh
      refine absP fun _ kk => ?_
      obtain ⟨j, rfl, j0, j1, j2, hj⟩ := hh
      refine kk ?_
      clear kk
      obtain ⟨n, rfl⟩ : ∃ m, n = m + 1 := ⟨n - 1, nz1 j1 j2⟩
      unfold inSetL at hj
      wtm_at "m"
      all_goals first
        | (refine of_pair h (Eq.trans ?_ hj); (repeat' (first | with_reducible rfl | refine itTd ‹_› ?_ | refine itFd ‹_› ?_ | refine itTb ‹_› ?_ | refine itFb ‹_› ?_ | refine itTb (bcT ‹_› ‹_›) ?_ | refine itTb (bcU ‹_› ‹_›) ?_ | refine itFb (bcF1 ‹_› ‹_›) ?_ | refine itFb (bcF2 ‹_› ‹_›) ?_ | refine itFb (bcF3 ‹_› ‹_›) ?_ | refine itFb (bcF4 ‹_› ‹_›) ?_ | rfl)); done)
        | exact ⟨n, ⟨[("at", .int _), ("size", .int p.length), ("c", .str c), ("pattern", .str p)], κ⟩, Nat.lt_succ_self _, Wk.of ⟨rfl, rfl, rfl, rfl, trivial⟩ (.refl _), _, rfl, by wtm_at "om", by wtm_at "om", by wtm_at "om", by refine Eq.trans ?_ hj; repeat' (first | with_reducible rfl | refine itTd ‹_› ?_ | refine itFd ‹_› ?_ | refine itTb ‹_› ?_ | refine itFb ‹_› ?_ | refine itTb (bcT ‹_› ‹_›) ?_ | refine itTb (bcU ‹_› ‹_›) ?_ | refine itFb (bcF1 ‹_› ‹_›) ?_ | refine itFb (bcF2 ‹_› ‹_›) ?_ | refine itFb (bcF3 ‹_› ‹_›) ?_ | refine itFb (bcF4 ‹_› ‹_›) ?_ | rfl)⟩
        | (exfalso; clear hj h; simp_all; done)
end

section
-- W2
theorem behind_one_ok {γ : Fx} {κ : Cells} {p c : Wd} {i : Int} {Φ : D → Cells → Prop} {Ξ : Exc → Cells → Prop} (hn : 2 ≤ γ.n) (h0 : 0 ≤ i) (h1 : i < p.length) (hp : p.length ≤ 1000)
    (h : Φ (.int (behindOne p c i)) κ) : WPF γ (.ref 102) [.str p, .int i, .str c] κ Φ Ξ := by
  refine F_in fm_behind_one fk_behind_one (names := ["pattern", "at", "c"]) (ρ := [("c", .str c), ("at", .int i), ("pattern", .str p)]) (by wtm_at "om") (by decide +kernel) rfl rfl (fun s vs hS hl => ?_) (fun γ' g1 g2 g3 => ?_)
  · refine lenE3 hl (fun _ _ _ => ?_)
    exact BindsTo.of_eq (by rfl)
  · unfold behindOne at h
    refine kB_cons ?_
    wtm_at "m"
    all_goals first
      | (refine of_eq h ?_; wtm_at "m_simp"; done)
      | skip
    refine in_set_ok (by wtm_at "om") (by wtm_at "om") (by wtm_at "om") (by wtm_at "om") ?_
    wtm_at "m"
    all_goals (refine of_eq h ?_; wtm_at "m_simp"; done)
end

section
-- W3
theorem put_places_ok {γ : Fx} {k1 k2 : Cells} {a : Addr} {ks : List Int} {p : Wd} {i : Int} {Φ : D → Cells → Prop} {Ξ : Exc → Cells → Prop} (hn : 1 ≤ γ.n) (h0 : 0 ≤ i) (h1 : i ≤ p.length) (hp : p.length ≤ 1000) (hk : ks.length ≤ 100000)
    (h : Φ .none (k1 ++ (a, .keys (putPlaces p i ks)) :: k2)) : WPF γ (.ref 109) [.str p, .int i, .ref a] (k1 ++ (a, .keys ks) :: k2) Φ Ξ := by
  refine F_in fm_put_places fk_put_places (names := ["pattern", "at", "places"]) (ρ := [("places", .ref a), ("at", .int i), ("pattern", .str p)]) (by wtm_at "om") (by decide +kernel) rfl rfl (fun s vs hS hl => ?_) (fun γ' g1 g2 g3 => ?_)
  · refine lenE3 hl (fun _ _ _ => ?_)
    exact BindsTo.of_eq (by rfl)
  · refine kB_cons ?_
    wtm_at "m"
    refine set_k (Upd.mid k1) (by wtm_at "om") ?_
    wtm_at "m"
    let I : Nat → St → Prop := fun n S => ∃ j ks', S = ⟨[("at", .int j), ("places", .ref a), ("pattern", .str p)], k1 ++ (a, .keys ks') :: k2⟩ ∧ 0 ≤ j ∧ j ≤ p.length ∧ p.length - j < n ∧ ks'.length + n ≤ 110000 ∧ putM p n j ks' = putPlaces p i ks
    refine kS_whileW I (n := p.length + 1) ?_ ?_
    · have := insK_le ks i
      exact ⟨⟨[("at", .int i), ("places", .ref a), ("pattern", .str p)], _⟩, Wk.of ⟨rfl, rfl, rfl, trivial⟩ (.refl _), i, _, rfl, by wtm_at "om", by wtm_at "om", by wtm_at "om", by wtm_at "om", rfl⟩
    · intro n S hh
      refine absP fun _ kk => ?_
      obtain ⟨j, ks', rfl, j0, j1, j2, j3, hj⟩ := hh
      refine kk ?_
      clear kk
      obtain ⟨n, rfl⟩ : ∃ m, n = m + 1 := ⟨n - 1, nz1 j1 j2⟩
      unfold putM at hj
      wtm_at "m"
      · refine set_k (Upd.mid k1) (by wtm_at "om") ?_
        have := insK_le ks' (j + 1)
        rename_i e
        have hlt : j < p.length := by
          rcases Int.lt_or_le j p.length with h | h
          · exact h
          · rw [List.drop_of_length_le (by wtm_at "om")] at e
            exact absurd e (by decide +kernel)
        wtm_at "m"
        exact ⟨n, ⟨[("at", .int _), ("places", .ref a), ("pattern", .str p)], _⟩, Nat.lt_succ_self _, Wk.of ⟨rfl, rfl, rfl, trivial⟩ (.refl _), _, _, rfl, by wtm_at "om", by wtm_at "om", by wtm_at "om", by wtm_at "om", by rw [← hj]; wtm_at "m_simp"⟩
      · have e : ks' = putPlaces p i ks := by rw [← hj]; wtm_at "m_simp"
        rw [e]
        exact h
theorem folded_ok {γ : Fx} {κ : Cells} {x : Wd} {Φ : D → Cells → Prop} {Ξ : Exc → Cells → Prop} (hn : 1 ≤ γ.n) (hp : x.length ≤ 1000) (hc : ∀ c ∈ x, (lowerW [c]).length ≤ 100)
    (h : Φ (.str (foldedW x)) κ) : WPF γ (.ref 116) [.str x] κ Φ Ξ := by
  refine F_in fm_folded fk_folded (names := ["text"]) (ρ := [("text", .str x)]) (by wtm_at "om") (by decide +kernel) rfl rfl (fun s vs hS hl => ?_) (fun γ' g1 g2 g3 => ?_)
  · refine lenE1 hl (fun _ => ?_)
    exact BindsTo.of_eq (by rfl)
  · refine kB_cons ?_
    wtm_at "m"
    refine S_weak (Wk.of (ρ' := [("made", .str []), ("text", .str x)]) ⟨rfl, rfl, trivial⟩ (.refl _)) ?_
    let I : List D → St → Prop := fun ds S => ∃ made l, ds = l.map (fun c => D.str [c]) ∧ S = ⟨[("made", .str made), ("text", .str x)], κ⟩ ∧ made ++ foldedW l = foldedW x ∧ made.length + 100 * l.length ≤ 100000 ∧ ∀ c ∈ l, c ∈ x
    refine kS_forI I ?_ ?_ ?_ ?_ ?_
    · exact kind_of g2 (by rfl)
    · wtm_at "m"
      exact ⟨_, I_str, [], x, rfl, rfl, rfl, by simp; wtm_at "om", fun _ h => h⟩
    · intro _; rfl
    · intro d ds S hh
      refine absP fun _ kk => ?_
      obtain ⟨made, l, e1, rfl, e3, e4, e5⟩ := hh
      refine kk ?_
      clear kk
      cases l with
      | nil => cases e1
      | cons c l =>
        cases e1
        have hc1 := hc c (e5 c (.head _))
        have e6 : (c :: l).length = l.length + 1 := rfl
        rw [e6] at e4
        wtm_at "m"
        · refine ⟨⟨[("made", .str _), ("text", .str x)], κ⟩, Wk.of ⟨rfl, rfl, trivial⟩ (.refl _), _, l, rfl, rfl, ?_, ?_, fun y hy => e5 y (.tail _ hy)⟩
          · rename_i e
            rw [← e3, List.append_assoc]
            show _ = made ++ (foldOne c ++ foldedW l)
            unfold foldOne
            have e' : ((lowerW [c]).length == 1) = true := by simp at e ⊢; wtm_at "om"
            rw [if_pos e']
          · rw [List.length_append]; wtm_at "om"
        · refine ⟨⟨[("made", .str _), ("text", .str x)], κ⟩, Wk.of ⟨rfl, rfl, trivial⟩ (.refl _), _, l, rfl, rfl, ?_, ?_, fun y hy => e5 y (.tail _ hy)⟩
          · rename_i e
            rw [← e3, List.append_assoc]
            show _ = made ++ (foldOne c ++ foldedW l)
            unfold foldOne
            have e' : ((lowerW [c]).length == 1) = false := by simp at e ⊢; wtm_at "om"
            rw [if_neg (by rw [e']; decide)]
          · rw [List.length_append, List.length_singleton]; wtm_at "om"
    · intro S hh
      refine absP fun _ kk => ?_
      obtain ⟨made, l, e1, rfl, e3, e4, e5⟩ := hh
      refine kk ?_
      clear kk
      cases l with
      | cons => cases e1
      | nil =>
        wtm_at "m"
        refine of_eq h ?_
        rw [← e3]
        simp [foldedW]
end

section
-- W4
theorem K117 : ∀ P, (K P).lookup 117 = some (tupO [.bool false]) := fun P => by kernel_rfl
theorem fits_tail {γ' : Fx} {κ : Cells} {p t : Wd} {Φ : D → Cells → Prop} {Ξ : Exc → Cells → Prop} (hn : 3 ≤ γ'.n) (g2 : γ'.env.scope = (defAt 12).2.2) (hp : p.length ≤ 1000) (ht : t.length ≤ 1000)
    (h : Φ (.bool (fitsW p t)) κ) : WPB γ' ((defAt 12).2.1.drop 1) ⟨[("text", .str t), ("pattern", .str p)], κ⟩ (Post Φ) Ξ := by
  unfold fitsW at h
  refine kB_cons ?_
  wtm_at "m"
  refine put_places_ok (k1 := []) (by wtm_at "om") (by wtm_at "om") (by wtm_at "om") (by wtm_at "om") (by simp) ?_
  have hP : Pl p (putPlaces p 0 []) := Pl.put ⟨.nil, fun x hx => by cases hx⟩ (by wtm_at "om") (by wtm_at "om")
  have hPl := hP.len
  generalize putPlaces p 0 [] = ks at hP h hPl
  refine B_frz (Frz.of (ρ' := [("places", .keys ks), ("size", .int p.length), ("text", .str t), ("pattern", .str p)]) rfl .here ⟨.inr ⟨rfl, rfl⟩, .inl rfl, .inl rfl, .inl rfl, trivial⟩) ?_
  wtm_at "m"
  let I : List D → St → Prop := fun ds S => ∃ l ks, ds = l.map (fun c => D.str [c]) ∧ S = ⟨[("places", .keys ks), ("size", .int p.length), ("text", .str t), ("pattern", .str p)], κ⟩ ∧ Pl p ks ∧ Φ (.bool (fitsL p l ks)) κ
  refine kS_forI I ?_ ?_ ?_ ?_ ?_
  · exact kind_of g2 (by rfl)
  · wtm_at "m"
    exact ⟨_, I_str, t, ks, rfl, rfl, hP, h⟩
  · intro _; rfl
  · clear h hP hPl
    intro d ds S hh
    refine absP fun _ kk => ?_
    obtain ⟨l, ks, e1, rfl, hP, h⟩ := hh
    refine kk ?_
    clear kk
    have hPl := hP.len
    cases l with
    | nil => cases e1
    | cons c l =>
      cases e1
      unfold fitsL at h
      wtm_at "m"
      · refine of_eq h ?_
        wtm_at "m_simp"
      all_goals
        have h' : Φ (.bool (if (stepAll p [c] ks []).isEmpty = true then false else fitsL p l (stepAll p [c] ks []))) κ := by
          refine of_eq h ?_
          wtm_at "m_simp"
        clear h
        rename_i a2
        refine S_weak (Wk.of (ρ' := [("after", .ref a2), ("c", .str [c]), ("places", .keys ks), ("size", .int p.length), ("text", .str t), ("pattern", .str p)]) ⟨rfl, rfl, rfl, rfl, rfl, rfl, trivial⟩ (.refl _)) ?_
        let I : List D → St → Prop := fun ds S => ∃ (k : List Int) (acc : List Int), ds = k.map D.int ∧ S = ⟨[("after", .ref a2), ("c", .str [c]), ("places", .keys ks), ("size", .int p.length), ("text", .str t), ("pattern", .str p)], (a2, .keys acc) :: κ⟩ ∧ Pl p acc ∧ (∀ x ∈ k, 0 ≤ x ∧ x ≤ (p.length : Int)) ∧ stepAll p [c] k acc = stepAll p [c] ks []
        refine kS_forI I ?_ ?_ ?_ ?_ ?_
        · exact kind_of g2 (by rfl)
        · wtm_at "m"
          exact ⟨_, I_keys, ks, [], rfl, rfl, ⟨.nil, fun x hx => by cases hx⟩, hP.r, rfl⟩
        · intro _; rfl
        · intro d ds S hh
          refine absP fun _ kk => ?_
          obtain ⟨k, acc, f1, rfl, f2, f3, f4⟩ := hh
          refine kk ?_
          clear kk
          cases k with
          | nil => cases f1
          | cons i k =>
            cases f1
            have f5 := f3 i (.head _)
            have f6 := f2.len
            have f7 : stepAll p [c] k (stepOne p [c] i acc) = stepAll p [c] ks [] := f4
            have f8 : Pl p (stepOne p [c] i acc) := f2.step (by simp) f5.1 f5.2
            unfold stepOne at f7 f8
            wtm_at "m"
            · refine put_places_ok (k1 := []) (by wtm_at "om") (by wtm_at "om") (by wtm_at "om") (by wtm_at "om") (by wtm_at "om") ?_
              wtm_at "m"
              refine ⟨⟨[("after", .ref a2), ("c", .str [c]), ("places", .keys ks), ("size", .int p.length), ("text", .str t), ("pattern", .str p)], _⟩, Wk.of ⟨rfl, rfl, rfl, rfl, rfl, rfl, trivial⟩ (.refl _), k, _, rfl, rfl, f2.put f5.1 f5.2, fun x hx => f3 x (.tail _ hx), ?_⟩
              rw [← f7]
              wtm_at "m_simp"
            · refine behind_one_ok (by wtm_at "om") (by wtm_at "om") (by wtm_at "om") (by wtm_at "om") ?_
              wtm_at "m"
              · rename_i e3
                refine put_places_ok (k1 := []) (by wtm_at "om") (by wtm_at "om") (behindOne_le (by simp) (by wtm_at "om") (by wtm_at "om")) (by wtm_at "om") (by wtm_at "om") ?_
                wtm_at "m"
                refine ⟨⟨[("after", .ref a2), ("c", .str [c]), ("places", .keys ks), ("size", .int p.length), ("text", .str t), ("pattern", .str p)], _⟩, Wk.of ⟨rfl, rfl, rfl, rfl, rfl, rfl, trivial⟩ (.refl _), k, _, rfl, rfl, f2.put e3 (behindOne_le (by simp) (by wtm_at "om") (by wtm_at "om")), fun x hx => f3 x (.tail _ hx), ?_⟩
                rw [← f7]
                wtm_at "m_simp"
              · refine ⟨⟨[("after", .ref a2), ("c", .str [c]), ("places", .keys ks), ("size", .int p.length), ("text", .str t), ("pattern", .str p)], _⟩, Wk.of ⟨rfl, rfl, rfl, rfl, rfl, rfl, trivial⟩ (.refl _), k, _, rfl, rfl, f2, fun x hx => f3 x (.tail _ hx), ?_⟩
                rw [← f7]
                wtm_at "m_simp"
            · refine ⟨⟨[("after", .ref a2), ("c", .str [c]), ("places", .keys ks), ("size", .int p.length), ("text", .str t), ("pattern", .str p)], _⟩, Wk.of ⟨rfl, rfl, rfl, rfl, rfl, rfl, trivial⟩ (.refl _), k, _, rfl, rfl, f2, fun x hx => f3 x (.tail _ hx), ?_⟩
              rw [← f7]
              wtm_at "m_simp"
        · intro S hh
          refine absP fun _ kk => ?_
          obtain ⟨k, acc, f1, rfl, f2, f3, f4⟩ := hh
          refine kk ?_
          clear kk
          cases k with
          | cons => cases f1
          | nil =>
            have f4 : acc = stepAll p [c] ks [] := f4
            have f6 := f2.len
            rw [← f4] at h'
            refine B_frz (Frz.of (ρ' := [("after", .keys acc), ("places", .keys ks), ("size", .int p.length), ("text", .str t), ("pattern", .str p)]) rfl .here ⟨.inr ⟨rfl, rfl⟩, .inl rfl, .inl rfl, .inl rfl, .inl rfl, trivial⟩) ?_
            clear f4 f1 f3
            wtm_at "m"
            · rename_i e
              rw [Bool.not_not] at e
              rw [if_pos e] at h'
              exact h'
            · rename_i e
              rw [Bool.not_not] at e
              rw [if_neg (by rw [e]; decide)] at h'
              exact ⟨⟨[("places", .keys acc), ("size", .int p.length), ("text", .str t), ("pattern", .str p)], _⟩, Wk.of ⟨rfl, rfl, rfl, rfl, trivial⟩ (.refl _), l, acc, rfl, rfl, f2, h'⟩
  · intro S hh
    refine absP fun _ kk => ?_
    obtain ⟨l, ks, e1, rfl, hP, h⟩ := hh
    refine kk ?_
    clear kk
    cases l with
    | cons => cases e1
    | nil =>
      wtm_at "m"
      exact h
theorem fits_ok {γ : Fx} {κ : Cells} {p t : Wd} {nc : Bool} {Φ : D → Cells → Prop} {Ξ : Exc → Cells → Prop} (hn : 4 ≤ γ.n) (hp : p.length ≤ 1000) (ht : t.length ≤ 1000) (hp' : (foldedW p).length ≤ 1000) (ht' : (foldedW t).length ≤ 1000) (hlp : ∀ c ∈ p, (lowerW [c]).length ≤ 100) (hlt : ∀ c ∈ t, (lowerW [c]).length ≤ 100)
    (h : Φ (.bool (fits nc p t)) κ) : WPF γ (.ref 124) [.str p, .str t, .bool nc] κ Φ Ξ := by
  refine F_in fm_fits fk_fits (names := ["pattern", "text", "is_nocase"]) (ρ := [("is_nocase", .bool nc), ("text", .str t), ("pattern", .str p)]) (by wtm_at "om") (by decide +kernel) rfl rfl (fun s vs hS hl => ?_) (fun γ' g1 g2 g3 => ?_)
  · refine lenE3 hl (fun _ _ _ => ?_)
    exact BindsTo.of_defaults rfl (hS.K _ _ (K117 _)) rfl rfl rfl
  · unfold fits at h
    refine kB_cons ?_
    refine kS_if ?_
    wtm_at "m_1"
    wtm_at "m_1"
    wtm_at "m_1"
    refine if_b (fun e => ?_) (fun e => ?_)
    · wtm_at "m"
      refine folded_ok (by wtm_at "om") hp hlp ?_
      wtm_at "m"
      refine folded_ok (by wtm_at "om") ht hlt ?_
      refine B_nil ?_
      refine B_weak (Wk.of (ρ' := [("text", .str (foldedW t)), ("pattern", .str (foldedW p))]) ⟨rfl, rfl, trivial⟩ (.refl _)) ?_
      rw [if_pos e] at h
      exact fits_tail (by wtm_at "om") g2 hp' ht' h
    · refine B_nil ?_
      refine B_weak (Wk.of (ρ' := [("text", .str t), ("pattern", .str p)]) ⟨rfl, rfl, trivial⟩ (.refl _)) ?_
      rw [if_neg (by rw [e]; decide)] at h
      exact fits_tail (by wtm_at "om") g2 hp ht h
end

section
-- W5
theorem error_ok {γ : Fx} {κ : Cells} {text : Wd} {code : List Wd} {Φ : D → Cells → Prop} {Ξ : Exc → Cells → Prop} (hn : 4 ≤ γ.n)
    (h : ∀ e, Φ (.ref e) ((e, .exc ⟨1, text, code⟩) :: κ)) : WPF γ (.ref 67) [.str text, .tup (code.map .str)] κ Φ Ξ := by
  refine F_in fm_error fk_error (names := ["text", "errorcode"]) (ρ := [("errorcode", .tup (code.map .str)), ("text", .str text)]) (by wtm_at "om") (by decide +kernel) rfl rfl (fun s vs hS hl => ?_) (fun γ' g1 g2 g3 => ?_)
  · refine lenE2 hl (fun _ _ => ?_)
    exact BindsTo.of_defaults rfl (hS.K _ _ (K60 _)) rfl rfl rfl
  · refine kB_cons ?_
    wtm_at "m"
    refine raised_make (by wtm_at "om") fun e => ?_
    wtm_at "m"
    exact h e
theorem wrong_args_ok {γ : Fx} {κ : Cells} {usage : Wd} {Φ : D → Cells → Prop} {Ξ : Exc → Cells → Prop} (hn : 5 ≤ γ.n) (hl : usage.length ≤ 1000)
    (h : ∀ e, Φ (.ref e) ((e, .exc ⟨1, u "wrong # args: should be \"" ++ usage ++ u "\"", [u "TCL", u "WRONGARGS"]⟩) :: κ)) : WPF γ (.ref 74) [.str usage] κ Φ Ξ := by
  refine F_in fm_wrong_args fk_wrong_args (names := ["usage"]) (ρ := [("usage", .str usage)]) (by wtm_at "om") (by decide +kernel) rfl rfl (fun s vs hS hl => ?_) (fun γ' g1 g2 g3 => ?_)
  · refine lenE1 hl (fun _ => ?_)
    exact BindsTo.of_eq (by rfl)
  · refine kB_cons ?_
    have l1 : (PySem.Str.ofString "wrong # args: should be \"").cps.toList.length = 25 := by decide +kernel
    have l2 : (PySem.Str.ofString "\"").cps.toList.length = 1 := by decide +kernel
    wtm_at "m"
    refine error_ok (text := u "wrong # args: should be \"" ++ usage ++ u "\"") (code := [u "TCL", u "WRONGARGS"]) (by wtm_at "om") fun e => ?_
    wtm_at "m"
    exact h e
section
local macro_rules | `(tactic| wtm_at "m_e") => `(tactic| with_reducible refine E_slice4 ?_)
theorem listing_ok {γ : Fx} {κ : Cells} {Φ : D → Cells → Prop} {Ξ : Exc → Cells → Prop} (hn : 1 ≤ γ.n)
    (h : Φ (.str (u "-exact, -glob, -nocase, or --")) κ) : WPF γ (.ref 81) [.tup (optNames.map .str)] κ Φ Ξ := by
  refine F_in fm_listing fk_listing (names := ["names"]) (ρ := [("names", .tup (optNames.map .str))]) (by wtm_at "om") (by decide +kernel) rfl rfl (fun s vs hS hl => ?_) (fun γ' g1 g2 g3 => ?_)
  · refine lenE1 hl (fun _ => ?_)
    exact BindsTo.of_eq (by rfl)
  · refine kB_cons ?_
    wtm_at "m"
    refine ⟨_, _, _, _, rfl, rfl, ?_⟩
    wtm_at "m"
    refine m_join_t (ws := [u "-exact", u "-glob", u "-nocase"]) (by decide +kernel) ?_
    wtm_at "m"
    first | refine get_t (d := .str (u "--")) (by decide) (by decide) rfl (by decide) ?_ | skip
    wtm_at "m"
    exact of_eq h (congrArg D.str (by decide +kernel))
end
end

section
-- W6
theorem ll (s : String) (n : Nat) (h : (PySem.Str.ofString s).cps.toList.length = n := by decide +kernel) : (PySem.Str.ofString s).cps.toList.length = n := h
theorem post_drop {Φ : D → Cells → Prop} {d : D} {ρ : Rho} {p : Addr × MO} {κ : Cells} (h : Φ d κ) : Post Φ (.ret d) ⟨ρ, p :: κ⟩ := ⟨κ, List.sublist_cons_self _ _, h⟩
section
local macro_rules | `(tactic| wtm_at "m_prim") => `(tactic| with_reducible refine post_drop ?_)
theorem pick_ok {γ : Fx} {κ : Cells} {got : Wd} {Φ : D → Cells → Prop} {Ξ : Exc → Cells → Prop} (hn : 6 ≤ γ.n) (hl : got.length ≤ 1000)
    (h : match pickS got with | .inl w => Φ (.str w) κ | .inr x => Ξ x κ) : WPF γ (.ref 88) [.str (u "option"), .str got, .tup (optNames.map .str)] κ Φ Ξ := by
  refine F_in fm_pick fk_pick (names := ["what", "got", "names"]) (ρ := [("names", .tup (optNames.map .str)), ("got", .str got), ("what", .str (u "option"))]) (by wtm_at "om") (by decide +kernel) rfl rfl (fun s vs hS hl => ?_) (fun γ' g1 g2 g3 => ?_)
  · refine lenE3 hl (fun _ _ _ => ?_)
    exact BindsTo.of_eq (by rfl)
  · refine kB_cons ?_
    wtm_at "m_1"
    refine E_own fun b => ?_
    wtm_at "m"
    refine S_weak (Wk.of (ρ' := [("begun", .ref b), ("names", .tup (optNames.map .str)), ("got", .str got), ("what", .str (u "option"))]) ⟨rfl, rfl, rfl, rfl, trivial⟩ (.refl _)) ?_
    let I : List D → St → Prop := fun ds S => ∃ (l acc : List Wd), ds = l.map D.str ∧ S = ⟨[("begun", .ref b), ("names", .tup (optNames.map .str)), ("got", .str got), ("what", .str (u "option"))], (b, .list (acc.map .str)) :: κ⟩ ∧ acc.length + l.length ≤ 1000 ∧ pickL got l acc = pickS got
    refine kS_forI I ?_ ?_ ?_ ?_ ?_
    · exact kind_of g2 (by rfl)
    · wtm_at "m"
      exact ⟨_, I_tup, optNames, [], rfl, rfl, by decide, rfl⟩
    · intro _; rfl
    · intro d ds S hh
      refine absP fun _ kk => ?_
      obtain ⟨l, acc, e1, rfl, e2, e3⟩ := hh
      refine kk ?_
      clear kk
      cases l with
      | nil => cases e1
      | cons n l =>
        cases e1
        unfold pickL at e3
        wtm_at "m"
        · rw [← e3, if_pos ‹_›] at h
          exact h
        all_goals refine ⟨⟨[("begun", .ref b), ("names", .tup (optNames.map .str)), ("got", .str got), ("what", .str (u "option"))], _⟩, Wk.of ⟨rfl, rfl, rfl, rfl, trivial⟩ (.refl _), l, _, rfl, by first | rfl | (rw [show acc.map D.str ++ [D.str n] = (acc ++ [n]).map D.str by simp]), by simp only [List.length_cons, List.length_append, List.length_nil] at e2 ⊢; wtm_at "om", by rw [← e3]; wtm_at "m_simp"⟩
    · intro S hh
      refine absP fun _ kk => ?_
      obtain ⟨l, acc, e1, rfl, e2, e3⟩ := hh
      refine kk ?_
      clear kk
      cases l with
      | cons => cases e1
      | nil =>
        refine B_frz (Frz.of (ρ' := [("begun", .lst (acc.map .str)), ("names", .tup (optNames.map .str)), ("got", .str got), ("what", .str (u "option"))]) rfl .here ⟨.inr ⟨rfl, rfl⟩, .inl rfl, .inl rfl, .inl rfl, trivial⟩) ?_
        rw [← e3] at h
        have l1 := ll "ambiguous " 10
        have l2 := ll "bad " 4
        have l3 := ll "option" 6
        have l4 := ll " \"" 2
        have l5 := ll "\": must be " 11
        have l6 := ll "-exact, -glob, -nocase, or --" 29
        rcases acc with _ | ⟨x, _ | ⟨y, acc⟩⟩
        · wtm_at "m"
          · refine listing_ok (by wtm_at "om") ?_
            wtm_at "m"
            refine error_ok (code := [u "TCL", u "LOOKUP", u "INDEX", u "option", got]) (by wtm_at "om") fun e => ?_
            wtm_at "m"
            exact ⟨e, _, [], κ, rfl, rfl, h⟩
        · wtm_at "m"
          · first | refine get_l (d := .str x) (by wtm_at "om") rfl (by wtm_at "om") ?_ | skip
            wtm_at "m"
            exact h
        · have l7 : ((x :: y :: acc).map D.str).length ≤ 1000 := by simp only [List.length_map, List.length_nil] at e2 ⊢; wtm_at "om"
          wtm_at "m"
          · refine listing_ok (by wtm_at "om") ?_
            wtm_at "m"
            refine error_ok (code := [u "TCL", u "LOOKUP", u "INDEX", u "option", got]) (by wtm_at "om") fun e => ?_
            wtm_at "m"
            exact ⟨e, _, [], κ, rfl, rfl, h⟩
          · rename_i e
            exact absurd (show (0 : Int) < (((x :: y :: acc).map D.str).length : Int) by simp only [List.length_map, List.length_cons]; wtm_at "om") e
end
end

section
-- W7
theorem is_blank_ok {γ : Fx} {κ : Cells} {c : Nat} {Φ : D → Cells → Prop} {Ξ : Exc → Cells → Prop} (hn : 1 ≤ γ.n) (h : Φ (.bool (isB c)) κ) : WPF γ (.ref 131) [.str [c]] κ Φ Ξ := by
  refine F_in fm_is_blank fk_is_blank (names := ["c"]) (ρ := [("c", .str [c])]) (by wtm_at "om") (by decide +kernel) rfl rfl (fun s vs hS hl => ?_) (fun γ' g1 g2 g3 => ?_)
  · refine lenE1 hl (fun _ => ?_)
    exact BindsTo.of_eq (by rfl)
  · refine kB_cons ?_
    wtm_at "m"
    exact h
section
local macro_rules | `(tactic| wtm_at "m_sl") => `(tactic| ((with_reducible refine' sl_is ?k1 ?k2 ?k3 ?k4 ?_); (case k1 => wtm_at "m_sd"); (case k2 => wtm_at "m_sd"); (case k3 => wtm_at "m_sd"); (case k4 => assumption)))
theorem backslash_ok {γ : Fx} {κ : Cells} {t : Wd} {i : Int} {r : Wd} {Φ : D → Cells → Prop} {Ξ : Exc → Cells → Prop} (hn : 1 ≤ γ.n) (hl : t.length ≤ 1000) (ha : At t (i + 1) (42 :: r)) (h0 : 0 ≤ i) (h : Φ (.tup [.str [42], .int (i + 2)]) κ) : WPF γ (.ref 159) [.str t, .int i] κ Φ Ξ := by
  refine F_in fm_backslash fk_backslash (names := ["text", "at"]) (ρ := [("at", .int i), ("text", .str t)]) (by wtm_at "om") (by decide +kernel) rfl rfl (fun s vs hS hl => ?_) (fun γ' g1 g2 g3 => ?_)
  · refine lenE2 hl (fun _ _ => ?_)
    exact BindsTo.of_eq (by rfl)
  · refine kB_cons ?_
    have hs : (t.drop (i + 1).toNat).take (i + 2 - (i + 1)).toNat = [42] := by
      rw [ha.hd, show (i + 2 - (i + 1)).toNat = 1 by wtm_at "om"]; rfl
    wtm_at "m"
    · rename_i e
      exact absurd e (by decide +kernel)
    · exact h
end
theorem At.len {t : Wd} {i : Int} {r : Wd} (h : At t i r) : (t.length : Int) = i + r.length := by
  have := congrArg List.length h.hd
  rw [List.length_drop] at this
  exact tn3 this h.h0 h.hl
theorem At.last {t : Wd} {i : Int} {c : Nat} {r : Wd} (h : At t i (c :: r)) {acc : Wd} {j : Int} (hj : 0 ≤ j) (hk : j ≤ i) (ha : (t.drop j.toNat).take (i - j).toNat = acc) : (t.drop j.toNat).take (i + 1 - j).toNat = acc ++ [c] := by
  have h1 := h.lt
  have h2 := h.h0
  have h3 := h.get
  have e : (i + 1 - j).toNat = (i - j).toNat + 1 := tn1 hk
  rw [e, List.take_add_one, ha]
  congr 1
  rw [List.getElem?_drop, show j.toNat + (i - j).toNat = i.toNat from tn2 hj hk]
  have h4 : i.toNat < t.length := tn6 h1 h2
  rw [List.getElem?_eq_getElem h4]
  simp [List.getD, List.getElem?_eq_getElem h4] at h3
  simp [h3]
theorem junkN_le : ∀ (n : Nat) (s : Wd), junkN n s ≤ n
  | 0, s => by unfold junkN; wtm_at "om"
  | n + 1, [] => by unfold junkN; wtm_at "om"
  | n + 1, c :: r => by
    have := junkN_le n r
    unfold junkN
    split <;> wtm_at "om"
theorem check_ok {γ : Fx} {κ : Cells} {t what suf : Wd} {i : Int} {Φ : D → Cells → Prop} {Ξ : Exc → Cells → Prop} (hn : 5 ≤ γ.n) (hl : t.length ≤ 1000) (hw : what.length ≤ 1000) (ha : At t i suf)
    (h : match checkB what suf with | none => Φ .none κ | some x => Ξ x κ) : WPF γ (.ref 166) [.str t, .int i, .str what] κ Φ Ξ := by
  refine F_in fm_check_behind fk_check_behind (names := ["text", "at", "what"]) (ρ := [("what", .str what), ("at", .int i), ("text", .str t)]) (by wtm_at "om") (by decide +kernel) rfl rfl (fun s vs hS hl => ?_) (fun γ' g1 g2 g3 => ?_)
  · refine lenE3 hl (fun _ _ _ => ?_)
    exact BindsTo.of_eq (by rfl)
  · refine kB_cons ?_
    have l1 := ll "list element in " 16
    have l2 := ll " followed by \"" 14
    have l3 := ll "\" instead of space" 18
    cases suf with
    | nil =>
      have f1 := ha.nil
      wtm_at "m"
      all_goals first | (exfalso; wtm_at "om") | skip
      exact h
    | cons c r =>
      have f1 := ha.lt
      have f2 := ha.get
      have f3 := ha.h0
      wtm_at "m"
      all_goals first | (exfalso; wtm_at "om") | skip
      rw [f2]
      refine is_blank_ok (by wtm_at "om") ?_
      wtm_at "m"
      · rename_i e
        rw [show checkB what (c :: r) = none from by simp only [checkB, e, if_true]] at h; exact h
      · rename_i e
        rw [show checkB what (c :: r) = some (junkX what (c :: r)) from by simp only [checkB, e, Bool.false_eq_true, if_false]] at h
        let I : Nat → St → Prop := fun n S => ∃ (j : Int) (s : Wd), S = ⟨[("end", .int j), ("what", .str what), ("at", .int i), ("text", .str t)], κ⟩ ∧ At t j s ∧ i ≤ j ∧ j ≤ i + 20 ∧ 20 - (j - i) < n ∧ (j - i).toNat + junkN (20 - (j - i).toNat) s = junkN 20 (c :: r)
        refine kS_whileW I (n := 21) ?_ ?_
        · exact ⟨⟨[("end", .int i), ("what", .str what), ("at", .int i), ("text", .str t)], κ⟩, Wk.of ⟨rfl, rfl, rfl, rfl, trivial⟩ (.refl _), i, c :: r, rfl, ha, by wtm_at "om", by wtm_at "om", by wtm_at "om", by rw [show i - i = 0 by wtm_at "om"]; simp⟩
        · intro n S hh
          refine absP fun _ kk => ?_
          obtain ⟨j, s, rfl, hj, j1, j2, j3, j4⟩ := hh
          refine kk ?_
          clear kk
          obtain ⟨n, rfl⟩ : ∃ m, n = m + 1 := ⟨n - 1, nz2 j2 j3⟩
          have hend : (j - i).toNat = junkN 20 (c :: r) → (t.drop i.toNat).take (j - i).toNat = (c :: r).take (junkN 20 (c :: r)) := fun hj4 => by rw [ha.hd, hj4]
          have fin : ∀ {ρ : Rho} {o : Wd}, (j - i).toNat = junkN 20 (c :: r) → o = u "list element in " ++ what ++ u " followed by \"" ++ (t.drop i.toNat).take (j - i).toNat ++ u "\" instead of space" →
              WPF γ' (.ref 67) [.str o, .tup [.str (u "TCL"), .str (u "VALUE"), .str (u "LIST"), .str (u "JUNK")]] κ (fun d κ' => ∃ a x κ₁ κ₂, d = .ref a ∧ κ' = κ₁ ++ (a, .exc x) :: κ₂ ∧ Ξ x (κ₁ ++ κ₂)) Ξ := fun hj4 ho => by
            refine error_ok (code := [u "TCL", u "VALUE", u "LIST", u "JUNK"]) (by wtm_at "om") fun e => ?_
            refine ⟨e, _, [], κ, rfl, rfl, ?_⟩
            rw [ho, hend hj4]
            exact h
          cases s with
          | nil =>
            have := hj.nil
            have q : ∀ n, junkN n [] = 0 := fun n => by cases n <;> rfl
            rw [q] at j4
            wtm_at "m"
            all_goals first | (exfalso; wtm_at "om") | skip
            · exact fin (ρ := []) j4 rfl
          | cons d s =>
            have f5 := hj.lt
            have f6 := hj.get
            have f7 := hj.h0
            wtm_at "m"
            all_goals first | (exfalso; wtm_at "om") | skip
            · rw [f6]
              refine is_blank_ok (by wtm_at "om") ?_
              obtain ⟨m, hm⟩ : ∃ m, 20 - (j - i).toNat = m + 1 := ⟨20 - (j - i).toNat - 1, pred1 (Nat.sub_pos_of_lt (tn4 j1 ‹_›))⟩
              rw [hm] at j4
              rw [show junkN (m + 1) (d :: s) = if isB d = true then 0 else junkN m s + 1 from rfl] at j4
              wtm_at "m"
              · rename_i e
                rw [Bool.not_eq_true'] at e
                rw [e, if_neg (by decide), tn5 j1 hm] at j4
                exact ⟨n, ⟨[("end", .int (j + 1)), ("what", .str what), ("at", .int i), ("text", .str t)], κ⟩, Nat.lt_succ_self _, Wk.of ⟨rfl, rfl, rfl, rfl, trivial⟩ (.refl _), j + 1, s, rfl, hj.next, int2 j1, ‹j < i + 20›, dech2 j3, by rw [tn1 j1] at j4 ⊢; rw [Nat.add_right_comm]; exact j4⟩
              · rename_i e
                rw [Bool.not_eq_false'] at e
                rw [e, if_pos rfl] at j4
                exact fin (ρ := []) j4 rfl
            · rw [show 20 - (j - i).toNat = 0 by wtm_at "om", show junkN 0 (d :: s) = 0 by rfl] at j4
              exact fin (ρ := []) j4 rfl
end

section
-- W8
theorem braceL_cons (d c : Nat) (s acc : Wd) : braceL d (c :: s) acc = if ([c] == u "\\") = true then (match s with | [] => .bad (listX (u "brace") (u "BRACE")) | x :: r => braceL d r (acc ++ [c, x]))
    else if ([c] == u "{") = true then braceL (d + 1) s (acc ++ [c]) else if ([c] == u "}") = true then (if (d == 1) = true then endE (u "braces") acc s else braceL (d - 1) s (acc ++ [c])) else braceL d s (acc ++ [c]) := by
  cases s <;> simp only [braceL]
theorem braced_ok {γ : Fx} {κ : Cells} {t suf : Wd} {i : Int} {Φ : D → Cells → Prop} {Ξ : Exc → Cells → Prop} (hn : 6 ≤ γ.n) (hl : t.length ≤ 1000) (ha : At t i suf)
    (h : match braceL 1 suf [] with | .elem w r => ∀ j, At t j r → i ≤ j → Φ (.tup [.str w, .int j]) κ | .bad x => Ξ x κ | .none => True) : WPF γ (.ref 173) [.str t, .int i] κ Φ Ξ := by
  refine F_in fm_braced_element fk_braced_element (names := ["text", "first"]) (ρ := [("first", .int i), ("text", .str t)]) (by wtm_at "om") (by decide +kernel) rfl rfl (fun s vs hS hl => ?_) (fun γ' g1 g2 g3 => ?_)
  · refine lenE2 hl (fun _ _ => ?_)
    exact BindsTo.of_eq (by rfl)
  · refine kB_cons ?_
    have i0 := ha.h0
    have i1 := ha.hl
    wtm_at "m"
    let I : Nat → St → Prop := fun n S => ∃ (j : Int) (s acc : Wd) (d : Nat), S = ⟨[("at", .int j), ("depth", .int d), ("first", .int i), ("text", .str t)], κ⟩ ∧ (At t j s ∧ 1 ≤ d ∧ braceL d s acc = braceL 1 suf [] ∧ (t.drop i.toNat).take (j - i).toNat = acc ∨ t.length < j ∧ braceL 1 suf [] = .bad (listX (u "brace") (u "BRACE"))) ∧ i ≤ j ∧ j ≤ t.length + 1 ∧ t.length + 1 - j < n
    refine kS_whileW I (n := t.length + 2) ?_ ?_
    · exact ⟨⟨[("at", .int i), ("depth", .int 1), ("first", .int i), ("text", .str t)], κ⟩, Wk.of ⟨rfl, rfl, rfl, rfl, trivial⟩ (.refl _), i, suf, [], 1, rfl, .inl ⟨ha, by wtm_at "om", rfl, by rw [show (i - i).toNat = 0 by wtm_at "om"]; rfl⟩, by wtm_at "om", by wtm_at "om", by wtm_at "om"⟩
    · intro n S hh
      refine absP fun _ kk => ?_
      obtain ⟨j, s, acc, d, rfl, hj, j1, j3, j2⟩ := hh
      refine kk ?_
      clear kk
      obtain ⟨n, rfl⟩ : ∃ m, n = m + 1 := ⟨n - 1, by wtm_at "om"⟩
      have fin : braceL 1 suf [] = .bad (listX (u "brace") (u "BRACE")) → WPF γ' (.ref 67) [.str (u "unmatched open brace in list"), .tup [.str (u "TCL"), .str (u "VALUE"), .str (u "LIST"), .str (u "BRACE")]] κ (fun d κ' => ∃ a x κ₁ κ₂, d = .ref a ∧ κ' = κ₁ ++ (a, .exc x) :: κ₂ ∧ Ξ x (κ₁ ++ κ₂)) Ξ := fun hb => by
        rw [hb] at h
        refine error_ok (code := [u "TCL", u "VALUE", u "LIST", u "BRACE"]) (by wtm_at "om") fun e => ⟨e, _, [], κ, rfl, rfl, ?_⟩
        have : (⟨1, u "unmatched open brace in list", [u "TCL", u "VALUE", u "LIST", u "BRACE"]⟩ : Exc) = listX (u "brace") (u "BRACE") := by unfold listX; congr 1
        rw [this]
        exact h
      rcases hj with ⟨hj, d1, hb, hacc⟩ | ⟨hj, hb⟩
      · cases s with
        | nil =>
          have f1 := hj.nil
          wtm_at "m"
          exact fin (by rw [← hb]; rfl)
        | cons c s =>
          have f5 := hj.lt
          have f6 := hj.get
          have f7 := hj.h0
          have f8 := hj.last i0 j1 hacc
          rw [braceL_cons] at hb
          wtm_at "m"
          · rename_i e
            rw [f6] at e
            rw [if_pos e] at hb
            cases s with
            | nil => exact ⟨n, ⟨[("at", .int (j + 1 + 1)), ("depth", .int d), ("first", .int i), ("text", .str t)], κ⟩, Nat.lt_succ_self _, Wk.of ⟨rfl, rfl, rfl, rfl, trivial⟩ (.refl _), _, [], [], d, rfl, .inr ⟨by have := hj.len; simp only [List.length_cons, List.length_nil] at this; wtm_at "om", hb.symm⟩, by wtm_at "om", by wtm_at "om", by wtm_at "om"⟩
            | cons x r => 
              have f9 := hj.next.last i0 (by wtm_at "om") f8
              have := hj.next.lt
              exact ⟨n, ⟨[("at", .int (j + 1 + 1)), ("depth", .int d), ("first", .int i), ("text", .str t)], κ⟩, Nat.lt_succ_self _, Wk.of ⟨rfl, rfl, rfl, rfl, trivial⟩ (.refl _), _, r, acc ++ [c] ++ [x], d, rfl, .inl ⟨hj.next.next, d1, by rw [← hb, List.append_assoc]; rfl, f9⟩, by wtm_at "om", by wtm_at "om", by wtm_at "om"⟩
          · rename_i e1 e2
            rw [f6] at e1 e2
            rw [if_neg (by rw [e1]; decide), if_pos e2] at hb
            exact ⟨n, ⟨[("at", .int (j + 1)), ("depth", .int (d + 1 : Int)), ("first", .int i), ("text", .str t)], κ⟩, Nat.lt_succ_self _, Wk.of ⟨rfl, rfl, rfl, rfl, trivial⟩ (.refl _), _, s, acc ++ [c], d + 1, rfl, .inl ⟨hj.next, by wtm_at "om", hb, f8⟩, by wtm_at "om", by wtm_at "om", by wtm_at "om"⟩
          · rename_i e1 e2 e3 e4
            rw [f6] at e1 e2 e3
            have e4 : d = 1 := by simp at e4; wtm_at "om"
            subst e4
            rw [if_neg (by rw [e1]; decide), if_neg (by rw [e2]; decide), if_pos e3, if_pos (show ((1 : Nat) == 1) = true from rfl)] at hb
            refine check_ok (what := u "braces") (by wtm_at "om") (by wtm_at "om") (by decide +kernel) hj.next ?_
            rw [← hb] at h
            unfold endE at h
            cases hc : checkB (u "braces") s with
            | none =>
              rw [hc] at h
              wtm_at "m"
              rw [hacc]
              exact h _ hj.next (by wtm_at "om")
            | some x =>
              rw [hc] at h
              exact h
          · rename_i e1 e2 e3 e4
            rw [f6] at e1 e2 e3
            rw [if_neg (by rw [e1]; decide), if_neg (by rw [e2]; decide), if_pos e3, if_neg (by simp at e4 ⊢; wtm_at "om")] at hb
            exact ⟨n, ⟨[("at", .int (j + 1)), ("depth", .int ((d - 1 : Nat) : Int)), ("first", .int i), ("text", .str t)], κ⟩, Nat.lt_succ_self _, Wk.of ⟨rfl, by rw [show ((d - 1 : Nat) : Int) = d - 1 by wtm_at "om"]; rfl, rfl, rfl, trivial⟩ (.refl _), _, s, acc ++ [c], d - 1, rfl, .inl ⟨hj.next, by simp at e4; wtm_at "om", hb, f8⟩, by wtm_at "om", by wtm_at "om", by wtm_at "om"⟩
          · rename_i e1 e2 e3
            rw [f6] at e1 e2 e3
            rw [if_neg (by rw [e1]; decide), if_neg (by rw [e2]; decide), if_neg (by rw [e3]; decide)] at hb
            exact ⟨n, ⟨[("at", .int (j + 1)), ("depth", .int d), ("first", .int i), ("text", .str t)], κ⟩, Nat.lt_succ_self _, Wk.of ⟨rfl, rfl, rfl, rfl, trivial⟩ (.refl _), _, s, acc ++ [c], d, rfl, .inl ⟨hj.next, d1, hb, f8⟩, by wtm_at "om", by wtm_at "om", by wtm_at "om"⟩
      · wtm_at "m"
        exact fin hb
end

section
-- W9
section
local macro_rules | `(tactic| wtm_at "m_prim") => `(tactic| with_reducible refine post_drop ?_)
theorem quoted_ok {γ : Fx} {κ : Cells} {t suf : Wd} {i : Int} {res : Fd} {Φ : D → Cells → Prop} {Ξ : Exc → Cells → Prop} (hn : 6 ≤ γ.n) (hl : t.length ≤ 1000) (ha : At t i suf) (hr : quoteL suf [] = some res)
    (h : res.Ok t i κ Φ Ξ) : WPF γ (.ref 180) [.str t, .int i] κ Φ Ξ := by
  refine F_in fm_quoted_element fk_quoted_element (names := ["text", "at"]) (ρ := [("at", .int i), ("text", .str t)]) (by wtm_at "om") (by decide +kernel) rfl rfl (fun s vs hS hl => ?_) (fun γ' g1 g2 g3 => ?_)
  · refine lenE2 hl (fun _ _ => ?_)
    exact BindsTo.of_eq (by rfl)
  · refine B_weakX (kB_cons ?_)
    have i0 := ha.h0
    have i1 := ha.hl
    wtm_at "m_1"
    refine E_own fun o => ?_
    wtm_at "m"
    let I : Nat → St → Prop := fun n S => ∃ (j : Int) (s acc : Wd), S = ⟨[("at", .int j), ("out", .ref o), ("text", .str t)], (o, .list (acc.map fun c => D.str [c])) :: κ⟩ ∧ At t j s ∧ quoteL s acc = some res ∧ i ≤ j ∧ t.length - j < n ∧ (acc.length : Int) ≤ j
    refine kS_whileW I (n := t.length + 1) ?_ ?_
    · exact ⟨⟨[("at", .int i), ("out", .ref o), ("text", .str t)], (o, .list []) :: κ⟩, Wk.of ⟨rfl, rfl, rfl, trivial⟩ (.refl _), i, suf, [], rfl, ha, hr, by wtm_at "om", by wtm_at "om", by simpa using i0⟩
    · intro n S hh
      refine absP fun _ kk => ?_
      obtain ⟨j, s, acc, rfl, hj, hb, j1, j2, j4⟩ := hh
      refine kk ?_
      clear kk
      have j3 := hj.hl
      obtain ⟨n, rfl⟩ : ∃ m, n = m + 1 := ⟨n - 1, by wtm_at "om"⟩
      have ll : (acc.map fun c => D.str [c]).length ≤ 1000 := by rw [List.length_map]; wtm_at "om"
      cases s with
      | nil =>
        have f1 := hj.nil
        wtm_at "m"
        refine error_ok (code := [u "TCL", u "VALUE", u "LIST", u "QUOTE"]) (by wtm_at "om") fun e => ?_
        unfold quoteL at hb
        cases hb
        refine ⟨e, _, [], _, rfl, rfl, κ, .cons _ (.refl _), ?_⟩
        exact h
      | cons c s =>
        have f5 := hj.lt
        have f6 := hj.get
        have f7 := hj.h0
        unfold quoteL at hb
        wtm_at "m"
        · rename_i e
          rw [f6] at e
          rw [if_pos e] at hb
          cases hb
        · rename_i e1 e2
          rw [f6] at e1 e2
          rw [if_neg (by rw [e1]; decide), if_pos e2] at hb
          cases hb
          refine check_ok (what := u "quotes") (by wtm_at "om") (by wtm_at "om") (by decide +kernel) hj.next ?_
          unfold endE at h
          cases hc : checkB (u "quotes") s with
          | none =>
            rw [hc] at h
            have h : Fd.Ok t i κ Φ Ξ (.elem acc s) := h
            wtm_at "m"
            refine m_join_o (ws := acc.map fun c => [c]) (by rw [List.map_map]; exact .head _) (total_one acc (by wtm_at "om")) ?_
            rw [show glueW (PySem.Str.ofString "").cps.toList (acc.map fun c => [c]) = acc from glue_one acc]
            wtm_at "m"
            exact h _ hj.next (by wtm_at "om")
          | some x =>
            rw [hc] at h
            exact ⟨κ, .cons _ (.refl _), h⟩
        · rename_i e1 e2
          rw [f6] at e1 e2
          rw [if_neg (by rw [e1]; decide), if_neg (by rw [e2]; decide)] at hb
          rw [f6]
          exact ⟨n, ⟨[("at", .int (j + 1)), ("out", .ref o), ("text", .str t)], (o, .list ((acc ++ [c]).map fun c => D.str [c])) :: κ⟩, Nat.lt_succ_self _, Wk.of ⟨rfl, rfl, rfl, trivial⟩ (by rw [List.map_append]; exact .refl _), _, s, acc ++ [c], rfl, hj.next, hb, by wtm_at "om", by wtm_at "om", by rw [List.length_append, List.length_singleton]; wtm_at "om"⟩
theorem bareL_cons (c : Nat) (s acc : Wd) : bareL (c :: s) acc = if isB c = true then some (.elem acc (c :: s)) else if ([c] == u "\\") = true then (match s with | [] => none | x :: r => if (x == 42) = true then bareL r (acc ++ [42]) else none) else bareL s (acc ++ [c]) := by
  cases s <;> simp only [bareL]
theorem bare_ok {γ : Fx} {κ : Cells} {t suf : Wd} {i : Int} {res : Fd} {Φ : D → Cells → Prop} {Ξ : Exc → Cells → Prop} (hn : 2 ≤ γ.n) (hl : t.length ≤ 1000) (ha : At t i suf) (hr : bareL suf [] = some res)
    (h : res.Ok t i κ Φ Ξ) : WPF γ (.ref 187) [.str t, .int i] κ Φ Ξ := by
  refine F_in fm_bare_element fk_bare_element (names := ["text", "at"]) (ρ := [("at", .int i), ("text", .str t)]) (by wtm_at "om") (by decide +kernel) rfl rfl (fun s vs hS hl => ?_) (fun γ' g1 g2 g3 => ?_)
  · refine lenE2 hl (fun _ _ => ?_)
    exact BindsTo.of_eq (by rfl)
  · refine B_weakX (kB_cons ?_)
    have i0 := ha.h0
    have i1 := ha.hl
    wtm_at "m_1"
    refine E_own fun o => ?_
    wtm_at "m"
    let I : Nat → St → Prop := fun n S => ∃ (j : Int) (s acc : Wd), S = ⟨[("at", .int j), ("out", .ref o), ("text", .str t)], (o, .list (acc.map fun c => D.str [c])) :: κ⟩ ∧ At t j s ∧ bareL s acc = some res ∧ i ≤ j ∧ t.length - j < n ∧ (acc.length : Int) ≤ j
    refine kS_whileW I (n := t.length + 1) ?_ ?_
    · exact ⟨⟨[("at", .int i), ("out", .ref o), ("text", .str t)], (o, .list []) :: κ⟩, Wk.of ⟨rfl, rfl, rfl, trivial⟩ (.refl _), i, suf, [], rfl, ha, hr, by wtm_at "om", by wtm_at "om", by simpa using i0⟩
    · intro n S hh
      refine absP fun _ kk => ?_
      obtain ⟨j, s, acc, rfl, hj, hb, j1, j2, j4⟩ := hh
      refine kk ?_
      clear kk
      have j3 := hj.hl
      obtain ⟨n, rfl⟩ : ∃ m, n = m + 1 := ⟨n - 1, by wtm_at "om"⟩
      have ll : (acc.map fun c => D.str [c]).length ≤ 1000 := by rw [List.length_map]; wtm_at "om"
      cases s with
      | nil =>
        have f1 := hj.nil
        wtm_at "m"
        refine m_join_o (ws := acc.map fun c => [c]) (by rw [List.map_map]; exact .head _) (total_one acc (by wtm_at "om")) ?_
        rw [show glueW (PySem.Str.ofString "").cps.toList (acc.map fun c => [c]) = acc from glue_one acc]
        wtm_at "m"
        unfold bareL at hb
        cases hb
        exact h _ hj j1
      | cons c s =>
        have f5 := hj.lt
        have f6 := hj.get
        have f7 := hj.h0
        rw [bareL_cons] at hb
        wtm_at "m"
        rw [f6]
        refine is_blank_ok (by wtm_at "om") ?_
        wtm_at "m"
        · rename_i e1 e2
          rw [Bool.not_eq_true'] at e1
          rw [f6] at e2
          rw [if_neg (by rw [e1]; decide), if_pos e2] at hb
          cases s with
          | nil => cases hb
          | cons x r =>
            simp only at hb
            split at hb
            · rename_i ex
              have ex : x = 42 := by simpa using ex
              subst ex
              refine backslash_ok (by wtm_at "om") (by wtm_at "om") hj.next f7 ?_
              wtm_at "m"
              have := hj.next.lt
              exact ⟨n, ⟨[("at", .int (j + 2)), ("out", .ref o), ("text", .str t)], (o, .list ((acc ++ [42]).map fun c => D.str [c])) :: κ⟩, Nat.lt_succ_self _, Wk.of ⟨rfl, rfl, rfl, trivial⟩ (by rw [List.map_append]; exact .refl _), _, r, acc ++ [42], rfl, hj.next.next.eq (by wtm_at "om"), hb, by wtm_at "om", by wtm_at "om", by rw [List.length_append, List.length_singleton]; wtm_at "om"⟩
            · cases hb
        · rename_i e1 e2
          rw [Bool.not_eq_true'] at e1
          rw [f6] at e2
          rw [if_neg (by rw [e1]; decide), if_neg (by rw [e2]; decide)] at hb
          rw [f6]
          exact ⟨n, ⟨[("at", .int (j + 1)), ("out", .ref o), ("text", .str t)], (o, .list ((acc ++ [c]).map fun c => D.str [c])) :: κ⟩, Nat.lt_succ_self _, Wk.of ⟨rfl, rfl, rfl, trivial⟩ (by rw [List.map_append]; exact .refl _), _, s, acc ++ [c], rfl, hj.next, hb, by wtm_at "om", by wtm_at "om", by rw [List.length_append, List.length_singleton]; wtm_at "om"⟩
        · rename_i e1
          rw [Bool.not_eq_false'] at e1
          rw [if_pos e1] at hb
          cases hb
          refine m_join_o (ws := acc.map fun c => [c]) (by rw [List.map_map]; exact .head _) (total_one acc (by wtm_at "om")) ?_
          rw [show glueW (PySem.Str.ofString "").cps.toList (acc.map fun c => [c]) = acc from glue_one acc]
          wtm_at "m"
          exact h _ hj j1
end
end

section
-- WA
theorem Fd.Ok.mono {t : Wd} {i i' : Int} {κ κ' : Cells} {Φ Φ' : D → Cells → Prop} {Ξ Ξ' : Exc → Cells → Prop} {res : Fd} (h : res.Ok t i κ Φ Ξ) (hi : i ≤ i') (h1 : ∀ d, Φ d κ → Φ' d κ') (h2 : ∀ x, Ξ x κ → Ξ' x κ') : res.Ok t i' κ' Φ' Ξ' := by
  cases res with
  | none => exact h1 _ h
  | elem w r => exact fun j a b => h1 _ (h j a (by wtm_at "om"))
  | bad x => exact h2 _ h
theorem find_ok {γ : Fx} {κ : Cells} {t suf : Wd} {i : Int} {res : Fd} {Φ : D → Cells → Prop} {Ξ : Exc → Cells → Prop} (hn : 7 ≤ γ.n) (hl : t.length ≤ 1000) (ha : At t i suf) (hr : findL suf = some res)
    (h : res.Ok t i κ Φ Ξ) : WPF γ (.ref 194) [.str t, .int i] κ Φ Ξ := by
  refine F_in fm_find_element fk_find_element (names := ["text", "at"]) (ρ := [("at", .int i), ("text", .str t)]) (by wtm_at "om") (by decide +kernel) rfl rfl (fun s vs hS hl => ?_) (fun γ' g1 g2 g3 => ?_)
  · refine lenE2 hl (fun _ _ => ?_)
    exact BindsTo.of_eq (by rfl)
  · refine kB_cons ?_
    have i0 := ha.h0
    have i1 := ha.hl
    let I : Nat → St → Prop := fun n S => ∃ (j : Int) (s : Wd), S = ⟨[("at", .int j), ("text", .str t)], κ⟩ ∧ At t j s ∧ findL s = some res ∧ i ≤ j ∧ t.length - j < n
    refine kS_whileW I (n := t.length + 1) ?_ ?_
    · exact ⟨⟨[("at", .int i), ("text", .str t)], κ⟩, Wk.of ⟨rfl, rfl, trivial⟩ (.refl _), i, suf, rfl, ha, hr, by wtm_at "om", by wtm_at "om"⟩
    · intro n S hh
      refine absP fun _ kk => ?_
      obtain ⟨j, s, rfl, hj, hb, j1, j2⟩ := hh
      refine kk ?_
      clear kk
      have j3 := hj.hl
      obtain ⟨n, rfl⟩ : ∃ m, n = m + 1 := ⟨n - 1, by wtm_at "om"⟩
      cases s with
      | nil =>
        have f1 := hj.nil
        unfold findL at hb
        cases hb
        wtm_at "m"
        exact h
      | cons c s =>
        have f5 := hj.lt
        have f6 := hj.get
        have f7 := hj.h0
        unfold findL at hb
        wtm_at "m"
        rw [f6]
        refine is_blank_ok (by wtm_at "om") ?_
        wtm_at "m"
        · rename_i e
          rw [if_pos e] at hb
          exact ⟨n, ⟨[("at", .int (j + 1)), ("text", .str t)], κ⟩, Nat.lt_succ_self _, Wk.of ⟨rfl, rfl, trivial⟩ (.refl _), _, s, rfl, hj.next, hb, by wtm_at "om", by wtm_at "om"⟩
        · rename_i e1 e2
          rw [f6] at e2
          rw [if_neg (by rw [e1]; decide), if_pos e2] at hb
          cases hb
          refine braced_ok (by wtm_at "om") hl hj.next ?_
          have h' := h.mono (i' := j + 1) (κ' := κ) (Φ' := fun d κ' => Post Φ (.ret d) ⟨[("at", .int j), ("text", .str t)], κ'⟩) (Ξ' := Ξ) (by wtm_at "om") (fun d hd => post_ret hd) (fun _ hx => hx)
          cases hq : braceL 1 s [] with
          | none => exact trivial
          | elem w r => rw [hq] at h'; exact h'
          | bad x => rw [hq] at h'; exact h'
        · rename_i e1 e2 e3
          rw [f6] at e2 e3
          rw [if_neg (by rw [e1]; decide), if_neg (by rw [e2]; decide), if_pos e3] at hb
          refine quoted_ok (by wtm_at "om") hl hj.next hb ?_
          exact h.mono (by wtm_at "om") (fun d hd => post_ret hd) (fun _ hx => hx)
        · rename_i e1 e2 e3
          rw [f6] at e2 e3
          rw [if_neg (by rw [e1]; decide), if_neg (by rw [e2]; decide), if_neg (by rw [e3]; decide)] at hb
          refine bare_ok (by wtm_at "om") hl hj hb ?_
          exact h.mono (by wtm_at "om") (fun d hd => post_ret hd) (fun _ hx => hx)
noncomputable def joinR (acc : List Wd) : List Wd ⊕ Exc → List Wd ⊕ Exc
  | .inl ws => .inl (acc ++ ws)
  | .inr x => .inr x
noncomputable def outL (κ : Cells) (Φ : D → Cells → Prop) (Ξ : Exc → Cells → Prop) : List Wd ⊕ Exc → Prop
  | .inl ws => Φ (.lst (ws.map .str)) κ
  | .inr x => Ξ x κ
noncomputable def Fnd (t : Wd) (R : List Wd ⊕ Exc) (acc : List Wd) (n : Nat) (d : D) : Prop :=
  (d = .none ∧ R = .inl acc ∧ 1 ≤ n) ∨ ∃ w j r R', d = .tup [.str w, .int j] ∧ At t j r ∧ Split r R' ∧ R = joinR (acc ++ [w]) R' ∧ acc.length + 1 ≤ j ∧ r.length + 2 ≤ n
theorem split_step {t s : Wd} {R R' : List Wd ⊕ Exc} {acc : List Wd} {j : Int} {κ κ' : Cells} {Φ Φ' : D → Cells → Prop} {Ξ : Exc → Cells → Prop} (h : outL κ Φ Ξ R) (hj : At t j s) (hs : Split s R') (hR : R = joinR acc R') (hlen : acc.length ≤ j) (hκ : κ.Sublist κ') :
    ∃ res, findL s = some res ∧ ((∀ d, Fnd t R acc (s.length + 1) d → Φ' d κ') → res.Ok t j κ' Φ' (XS Ξ)) := by
  cases hs with
  | nil hf => exact ⟨_, hf, fun k => k _ (.inl ⟨rfl, by rw [hR]; simp [joinR], by wtm_at "om"⟩)⟩
  | bad hf => exact ⟨_, hf, fun k => ⟨κ, hκ, by rw [hR] at h; exact h⟩⟩
  | cons hf hlt hs =>
    rename_i w r ws
    refine ⟨_, hf, fun k => fun j' ha' hj' => k _ (.inr ⟨w, j', r, _, rfl, ha', hs, by rw [hR]; simp [joinR], ?_, by wtm_at "om"⟩)⟩
    have := ha'.len
    have := hj.len
    wtm_at "om"
  | consX hf hlt hs =>
    rename_i w r ws
    refine ⟨_, hf, fun k => fun j' ha' hj' => k _ (.inr ⟨w, j', r, _, rfl, ha', hs, by rw [hR]; simp [joinR], ?_, by wtm_at "om"⟩)⟩
    have := ha'.len
    have := hj.len
    wtm_at "om"
theorem split_ok {γ : Fx} {κ : Cells} {t : Wd} {R : List Wd ⊕ Exc} {Φ : D → Cells → Prop} {Ξ : Exc → Cells → Prop} (hn : 8 ≤ γ.n) (hl : t.length ≤ 1000) (hr : Split t R) (h : outL κ Φ Ξ R) : WPF γ (.ref 201) [.str t] κ Φ Ξ := by
  refine F_in fm_split_list fk_split_list (names := ["text"]) (ρ := [("text", .str t)]) (by wtm_at "om") (by decide +kernel) rfl rfl (fun s vs hS hl => ?_) (fun γ' g1 g2 g3 => ?_)
  · refine lenE1 hl (fun _ => ?_)
    exact BindsTo.of_eq (by rfl)
  · refine B_weakX (kB_cons ?_)
    wtm_at "m_1"
    refine E_own fun o => ?_
    have ha : At t 0 t := ⟨by wtm_at "om", by wtm_at "om", rfl⟩
    wtm_at "m"
    obtain ⟨res, hf, k⟩ := split_step (acc := []) (κ' := (o, .list []) :: κ) (Φ' := fun d κ' => (fun (f : AF) (S₁ : St) => match f with | .next => WPB γ' ((defAt 26).2.1.drop 2) S₁ (Post Φ) (XS Ξ) | f => Post Φ f S₁) .next ⟨[("found", d), ("items", .ref o), ("text", .str t)], κ'⟩) h ha hr (by cases R <;> rfl) (by simp) (.cons _ (.refl _))
    refine find_ok (by wtm_at "om") hl ha hf (k fun d hd => ?_)
    show WPB γ' _ _ _ _
    refine kB_cons ?_
    let I : Nat → St → Prop := fun n S => ∃ (acc : List Wd) (d : D), S = ⟨[("found", d), ("items", .ref o), ("text", .str t)], (o, .list (acc.map .str)) :: κ⟩ ∧ Fnd t R acc n d ∧ acc.length ≤ t.length
    refine kS_whileW I (n := t.length + 1) ?_ ?_
    · exact ⟨⟨[("found", d), ("items", .ref o), ("text", .str t)], (o, .list []) :: κ⟩, Wk.of ⟨rfl, rfl, rfl, trivial⟩ (.refl _), [], d, rfl, hd, by simp⟩
    · clear hd k hf res
      intro n S hh
      refine absP fun _ kk => ?_
      obtain ⟨acc, d, rfl, hd, hc⟩ := hh
      refine kk ?_
      clear kk
      have ll : (acc.map D.str).length ≤ 1000 := by rw [List.length_map]; wtm_at "om"
      rcases hd with ⟨rfl, hR, hn1⟩ | ⟨w, j, r, R', rfl, hj, hs, hR, hj1, hn1⟩
      · wtm_at "m_1"
        wtm_at "m_1"
        wtm_at "m_1"
        wtm_at "m_1"
        wtm_at "m_1"
        wtm_at "m_1"
        wtm_at "m_1"
        refine S_frz (Frz.of (ρ' := [("items", .lst (acc.map .str))]) rfl .here ⟨.inr ⟨rfl, rfl⟩, trivial⟩) ?_
        rw [hR] at h
        wtm_at "m"
        exact h
      · wtm_at "m"
        rw [show acc.map D.str ++ [D.str w] = (acc ++ [w]).map D.str by simp]
        obtain ⟨res, hf, k⟩ := split_step (acc := acc ++ [w]) (κ' := (o, .list ((acc ++ [w]).map .str)) :: κ) (Φ' := fun d κ' => κ' = (o, .list ((acc ++ [w]).map .str)) :: κ ∧ Fnd t R (acc ++ [w]) (r.length + 1) d) h hj hs hR (by rw [List.length_append, List.length_singleton]; wtm_at "om") (.cons _ (.refl _))
        refine find_ok (by wtm_at "om") hl hj hf ((k fun d hd => ?_).mono (Int.le_refl _) (fun d hd => ?_) fun _ hx => hx)
        · exact ⟨rfl, hd⟩
        · obtain ⟨e1, hd⟩ := hd
          have := hj.hl
          wtm_at "m"
          exact ⟨r.length + 1, ⟨[("found", d), ("items", .ref o), ("text", .str t)], _⟩, by wtm_at "om", Wk.of ⟨rfl, rfl, rfl, trivial⟩ (.refl _), acc ++ [w], d, rfl, hd, by rw [List.length_append, List.length_singleton]; wtm_at "om"⟩
end

section
-- WB
theorem is_fit_ok {γ : Fx} {κ : Cells} {m t p : Wd} {nc : Bool} {Φ : D → Cells → Prop} {Ξ : Exc → Cells → Prop} (hn : 5 ≤ γ.n) (hp : Nice p) (ht : Nice t) (h : Φ (.bool (isFit m nc t p)) κ) : WPF γ (.ref 208) [.str m, .bool nc, .str t, .str p] κ Φ Ξ := by
  refine F_in fm_is_fit fk_is_fit (names := ["mode", "is_nocase", "text", "pattern"]) (ρ := [("pattern", .str p), ("text", .str t), ("is_nocase", .bool nc), ("mode", .str m)]) (by wtm_at "om") (by decide +kernel) rfl rfl (fun s vs hS hl => ?_) (fun γ' g1 g2 g3 => ?_)
  · refine lenE4 hl (fun _ _ _ _ => ?_)
    exact BindsTo.of_eq (by rfl)
  · refine kB_cons ?_
    have p1 := hp.len
    have t1 := ht.len
    have p2 := hp.fold
    have t2 := ht.fold
    unfold isFit at h
    wtm_at "m"
    · rename_i e
      rw [if_pos e] at h
      refine fits_ok (by wtm_at "om") p1 t1 p2 t2 hp.low ht.low ?_
      wtm_at "m"
      exact h
    · rename_i e1 e2
      rw [if_neg (by rw [e1]; decide), if_pos e2] at h
      refine folded_ok (by wtm_at "om") t1 ht.low ?_
      wtm_at "m"
      refine folded_ok (by wtm_at "om") p1 hp.low ?_
      wtm_at "m"
      exact h
    · rename_i e1 e2
      rw [if_neg (by rw [e1]; decide), if_neg (by rw [e2]; decide)] at h
      exact h
theorem chosen_ok {γ : Fx} {κ : Cells} {m t : Wd} {nc : Bool} {ps : List (Wd × Wd)} {Φ : D → Cells → Prop} {Ξ : Exc → Cells → Prop} (hn : 6 ≤ γ.n) (hps : ps.length ≤ 1000) (hp : ∀ p ∈ ps, Nice p.1) (ht : Nice t)
    (h : Φ (match chosenL m nc t ps false with | none => .none | some b => .str b) κ) : WPF γ (.ref 215) [.str m, .bool nc, .str t, .lst (ps.map fun p => .tup [.str p.1, .str p.2])] κ Φ Ξ := by
  refine F_in fm_chosen fk_chosen (names := ["mode", "is_nocase", "text", "pairs"]) (ρ := [("pairs", .lst (ps.map fun p => .tup [.str p.1, .str p.2])), ("text", .str t), ("is_nocase", .bool nc), ("mode", .str m)]) (by wtm_at "om") (by decide +kernel) rfl rfl (fun s vs hS hl => ?_) (fun γ' g1 g2 g3 => ?_)
  · refine lenE4 hl (fun _ _ _ _ => ?_)
    exact BindsTo.of_eq (by rfl)
  · refine kB_cons ?_
    generalize hC : chosenL m nc t ps false = C at h
    have l1 : (ps.map fun p => D.tup [.str p.1, .str p.2]).length = ps.length := List.length_map ..
    wtm_at "m"
    rw [l1]
    refine S_weak (Wk.of (ρ' := [("last", .int (ps.length - 1)), ("is_found", .bool false), ("pairs", .lst (ps.map fun p => .tup [.str p.1, .str p.2])), ("text", .str t), ("is_nocase", .bool nc), ("mode", .str m)]) ⟨rfl, rfl, rfl, rfl, rfl, rfl, trivial⟩ (.refl _)) ?_
    let I : List D → St → Prop := fun ds S => ∃ (k : Nat) (f : Bool), k ≤ ps.length ∧ ds = (rngL k 1 (ps.length - k)).map D.int ∧ S = ⟨[("last", .int (ps.length - 1)), ("is_found", .bool f), ("pairs", .lst (ps.map fun p => .tup [.str p.1, .str p.2])), ("text", .str t), ("is_nocase", .bool nc), ("mode", .str m)], κ⟩ ∧ chosenL m nc t (ps.drop k) f = C
    refine kS_forI I ?_ ?_ ?_ ?_ ?_
    · exact kind_of g2 (by rfl)
    · wtm_at "m"
      rw [l1]
      exact ⟨_, I_rng (small_rng (by wtm_at "om")), 0, false, by wtm_at "om", by rw [rng_size]; rfl, rfl, hC⟩
    · intro _; rfl
    · intro d ds S hh
      refine absP fun _ kk => ?_
      obtain ⟨k, f, hk, e1, rfl, e3⟩ := hh
      refine kk ?_
      clear kk
      cases hm : ps.length - k with
      | zero => rw [hm] at e1; cases e1
      | succ n =>
        rw [hm] at e1
        cases e1
        have hk1 : k < ps.length := by wtm_at "om"
        obtain ⟨⟨p, b⟩, hpb⟩ : ∃ q, ps[k]? = some q := ⟨ps[k], List.getElem?_eq_getElem hk1⟩
        have hd : ps.drop k = (p, b) :: ps.drop (k + 1) := by
          rw [List.drop_eq_getElem_cons hk1]
          rw [List.getElem?_eq_getElem hk1] at hpb
          rw [Option.some.inj hpb]
        rw [hd] at e3
        unfold chosenL at e3
        have hg : (ps.map fun p => D.tup [.str p.1, .str p.2])[(k : Int).toNat]? = some (.tup [.str p, .str b]) := by
          rw [Int.toNat_natCast, List.getElem?_map, hpb]; rfl
        have hmem : Nice p := hp (p, b) (List.mem_of_getElem? hpb)
        have hE : (ps.drop (k + 1)).isEmpty = ((k : Int) == (ps.length : Int) - 1) := by
          rw [Bool.eq_iff_iff, List.isEmpty_iff, List.drop_eq_nil_iff, beq_iff_eq]
          wtm_at "om"
        rw [hE] at e3
        have nx : ∀ (f' : Bool) (S' : St), chosenL m nc t (ps.drop (k + 1)) f' = C → Wk ⟨[("last", .int (ps.length - 1)), ("is_found", .bool f'), ("pairs", .lst (ps.map fun p => .tup [.str p.1, .str p.2])), ("text", .str t), ("is_nocase", .bool nc), ("mode", .str m)], κ⟩ S' →
            ∃ S₃, Wk S₃ S' ∧ ∃ (k' : Nat) (f : Bool), k' ≤ ps.length ∧ (rngL ((k : Int) + 1) 1 n).map D.int = (rngL k' 1 (ps.length - k')).map D.int ∧ S₃ = ⟨[("last", .int (ps.length - 1)), ("is_found", .bool f), ("pairs", .lst (ps.map fun p => .tup [.str p.1, .str p.2])), ("text", .str t), ("is_nocase", .bool nc), ("mode", .str m)], κ⟩ ∧ chosenL m nc t (ps.drop k') f = C := fun f' S' e w =>
          ⟨_, w, k + 1, f', by wtm_at "om", by rw [show ps.length - (k + 1) = n by wtm_at "om"]; rfl, rfl, e⟩
        cases f with
        | true =>
          rw [Bool.true_or, Bool.true_or, if_pos rfl] at e3
          wtm_at "m"
          first | refine get_l (by wtm_at "om") hg (by wtm_at "om") ?_ | skip
          wtm_at "m"
          · rw [← e3, if_pos ‹_›] at h
            exact h
          · rename_i e
            rw [if_neg (by rw [e]; decide)] at e3
            exact nx true _ e3 (Wk.of ⟨rfl, rfl, rfl, rfl, rfl, rfl, trivial⟩ (.refl _))
        | false =>
          rw [Bool.false_or] at e3
          wtm_at "m"
          first | refine get_l (by wtm_at "om") hg (by wtm_at "om") ?_ | skip
          wtm_at "m"
          · rename_i e1 e2 e4
            rw [e1, e2, Bool.true_and, Bool.true_or, if_pos rfl, if_pos e4] at e3
            rw [← e3] at h
            exact h
          · rename_i e1 e2 e4
            rw [e1, e2, Bool.true_and, Bool.true_or, if_pos rfl, if_neg (by rw [e4]; decide)] at e3
            exact nx true _ e3 (Wk.of ⟨rfl, by rw [e2]; rfl, rfl, rfl, rfl, rfl, trivial⟩ (.refl _))
          all_goals
            refine is_fit_ok (by wtm_at "om") hmem ht ?_
            have e5 : ((((k : Int) == (ps.length : Int) - 1) && p == u "default") || isFit m nc t p) = isFit m nc t p := by simp [*]
            rw [e5] at e3
            wtm_at "m"
            · rename_i e6 e7
              rw [if_pos e6, if_pos e7] at e3
              rw [← e3] at h
              exact h
            · rename_i e6 e7
              rw [if_pos e6, if_neg (by rw [e7]; decide)] at e3
              exact nx true _ e3 (Wk.of ⟨rfl, by rw [e6]; rfl, rfl, rfl, rfl, rfl, trivial⟩ (.refl _))
            · rename_i e6
              rw [if_neg (by rw [e6]; decide)] at e3
              exact nx false _ e3 (Wk.of ⟨rfl, by rw [e6]; rfl, rfl, rfl, rfl, rfl, trivial⟩ (.refl _))
    · intro S hh
      refine absP fun _ kk => ?_
      obtain ⟨k, f, hk, e1, rfl, e3⟩ := hh
      refine kk ?_
      clear kk
      cases hm : ps.length - k with
      | zero =>
        rw [List.drop_of_length_le (by wtm_at "om")] at e3
        unfold chosenL at e3
        rw [← e3] at h
        wtm_at "m"
        exact h
      | succ n => rw [hm] at e1; cases e1
end

section
-- WC
noncomputable def optsOk (W : List Wd) (κ : Cells) (Φ : D → Cells → Prop) (Ξ : Exc → Cells → Prop) : (Wd × Bool × List Wd) ⊕ Exc → Prop
  | .inr x => Ξ x κ
  | .inl (m, nc, rest) => Φ (.tup [.str m, .bool nc, .int ((W.length : Int) - rest.length)]) κ
theorem pickL_mem {got : Wd} : ∀ {l acc : List Wd} {o : Wd}, pickL got l acc = .inl o → o ∈ l ++ acc
  | [], acc, o, h => by
    rcases acc with _ | ⟨x, _ | ⟨y, acc⟩⟩
    · cases h
    · cases h; exact .head _
    · cases h
  | n :: l, acc, o, h => by
    unfold pickL at h
    split at h
    · cases h; exact .head _
    · have := pickL_mem h
      rcases List.mem_append.mp this with q | q
      · exact .tail _ (List.mem_append_left _ q)
      · split at q
        · split at q
          · rcases List.mem_append.mp q with q | q
            · exact List.mem_append_right _ q
            · rw [List.mem_singleton.mp q]; exact .head _
          · exact List.mem_append_right _ q
        · exact List.mem_append_right _ q
theorem pickS_len {got o : Wd} (h : pickS got = .inl o) : o.length ≤ 7 := by
  have := pickL_mem h
  rw [List.append_nil] at this
  revert this
  have : ∀ x ∈ optNames, x.length ≤ 7 := by decide +kernel
  exact this o
theorem options_ok {γ : Fx} {κ : Cells} {W ws : List Wd} {name : Wd} {Φ : D → Cells → Prop} {Ξ : Exc → Cells → Prop} (hn : 7 ≤ γ.n) (hW : W = name :: ws) (hl : W.length ≤ 1000) (hw : ∀ w ∈ W, w.length ≤ 1000)
    (h : optsOk W κ Φ Ξ (optsL [] false ws)) : WPF γ (.ref 222) [.lst (W.map .str)] κ Φ Ξ := by
  refine F_in fm_options_of fk_options_of (names := ["words"]) (ρ := [("words", .lst (W.map .str))]) (by wtm_at "om") (by decide +kernel) rfl rfl (fun s vs hS hl => ?_) (fun γ' g1 g2 g3 => ?_)
  · refine lenE1 hl (fun _ => ?_)
    exact BindsTo.of_eq (by rfl)
  · refine kB_cons ?_
    have l1 : (W.map D.str).length = W.length := List.length_map ..
    generalize hC : optsL [] false ws = C at h
    wtm_at "m"
    let I : Nat → St → Prop := fun n S => ∃ (i : Int) (m : Wd) (nc : Bool) (rest : List Wd), S = ⟨[("at", .int i), ("is_nocase", .bool nc), ("mode", .str m), ("words", .lst (W.map .str))], κ⟩ ∧ 1 ≤ i ∧ W.drop i.toNat = rest ∧ (W.length : Int) = i + rest.length ∧ m.length ≤ 10 ∧ optsL m nc rest = C ∧ rest.length < n
    refine kS_whileW I (n := W.length + 1) ?_ ?_
    · exact ⟨⟨[("at", .int 1), ("is_nocase", .bool false), ("mode", .str []), ("words", .lst (W.map .str))], κ⟩, Wk.of ⟨rfl, rfl, rfl, rfl, trivial⟩ (.refl _), 1, [], false, ws, rfl, by wtm_at "om", by rw [hW]; rfl, by rw [hW, List.length_cons]; wtm_at "om", by decide, hC, by rw [hW, List.length_cons]; wtm_at "om"⟩
    · intro n S hh
      refine absP fun _ kk => ?_
      obtain ⟨i, m, nc, rest, rfl, i1, hd, hi, hm, hr, hn1⟩ := hh
      refine kk ?_
      clear kk
      obtain ⟨n, rfl⟩ : ∃ k, n = k + 1 := ⟨n - 1, by wtm_at "om"⟩
      cases rest with
      | nil =>
        rw [List.length_nil] at hi
        unfold optsL at hr
        rw [← hr] at h
        wtm_at "m"
        exact of_eq h (by rw [show (W.length : Int) = i from by wtm_at "om"]; exact congrArg (fun x : Int => D.tup [.str m, .bool nc, .int x]) (Int.sub_zero i))
      | cons w r =>
        rw [List.length_cons] at hi
        have hlt : i.toNat < W.length := by wtm_at "om"
        have hgw : W[i.toNat]? = some w := by
          rw [List.drop_eq_getElem_cons hlt] at hd
          rw [List.getElem?_eq_getElem hlt, (List.cons.inj hd).1]
        have hnx : W.drop (i + 1).toNat = r := by
          rw [List.drop_eq_getElem_cons hlt] at hd
          rw [show (i + 1).toNat = i.toNat + 1 by wtm_at "om", (List.cons.inj hd).2]
        have hwl := hw w (List.mem_of_getElem? hgw)
        have hg : (W.map D.str)[i.toNat]? = some (.str w) := by rw [List.getElem?_map, hgw]; rfl
        have hg2 : (W.map D.str)[(i + 1 - 1).toNat]? = some (.str w) := by rw [show i + 1 - 1 = i by wtm_at "om"]; exact hg
        have l2 := ll "bad option \"" 12
        have l3 := ll "\": -" 4
        have l4 := ll " option already found" 21
        unfold optsL at hr
        wtm_at "m"
        · rename_i e1 e2
          rw [if_pos (by wtm_at "om"), if_pos e2] at hr
          refine pick_ok (by wtm_at "om") (by wtm_at "om") ?_
          cases hp : pickS w with
          | inr x =>
            rw [hp] at hr
            rw [← hr] at h
            exact h
          | inl o =>
            rw [hp] at hr
            have ho := pickS_len hp
            simp only at hr
            wtm_at "m"
            · rename_i e3
              rw [if_pos e3] at hr
              rw [← hr] at h
              refine of_eq h ?_
              rw [show i + 1 = (W.length : Int) - r.length by wtm_at "om"]
            · rename_i e3 e4
              rw [if_neg (by rw [e3]; decide), if_pos e4] at hr
              exact ⟨n, ⟨[("at", .int (i + 1)), ("is_nocase", .bool true), ("mode", .str m), ("words", .lst (W.map .str))], κ⟩, Nat.lt_succ_self _, Wk.of ⟨rfl, rfl, rfl, rfl, trivial⟩ (.refl _), _, m, true, r, rfl, by wtm_at "om", hnx, by wtm_at "om", hm, hr, by rw [List.length_cons] at hn1; wtm_at "om"⟩
            · rename_i e3 e4 e5
              rw [if_neg (by rw [e3]; decide), if_neg (by rw [e4]; decide), if_pos e5] at hr
              exact ⟨n, ⟨[("at", .int (i + 1)), ("is_nocase", .bool nc), ("mode", .str (o.drop 1)), ("words", .lst (W.map .str))], κ⟩, Nat.lt_succ_self _, Wk.of ⟨rfl, rfl, rfl, rfl, trivial⟩ (.refl _), _, o.drop 1, nc, r, rfl, by wtm_at "om", hnx, by wtm_at "om", by rw [List.length_drop]; wtm_at "om", hr, by rw [List.length_cons] at hn1; wtm_at "om"⟩
            · rename_i e3 e4 e5
              rw [if_neg (by rw [e3]; decide), if_neg (by rw [e4]; decide), if_neg (by rw [e5]; decide)] at hr
              rw [← hr] at h
              refine error_ok (code := [u "TCL", u "OPERATION", u "SWITCH", u "DOUBLEOPT"]) (by wtm_at "om") fun e => ?_
              wtm_at "m"
              exact ⟨e, _, [], κ, rfl, rfl, h⟩
        · rename_i e1 e2
          rw [if_pos (by wtm_at "om"), if_neg (by rw [e2]; decide)] at hr
          rw [← hr] at h
          refine of_eq h ?_
          rw [show i = (W.length : Int) - (w :: r).length by rw [List.length_cons]; wtm_at "om"]
        · rename_i e1
          rw [if_neg (by wtm_at "om")] at hr
          rw [← hr] at h
          refine of_eq h ?_
          rw [show i = (W.length : Int) - (w :: r).length by rw [List.length_cons]; wtm_at "om"]
end

section
-- WD
theorem anyHash_drop {ws : List Wd} {k : Nat} {w : Wd} (h : ws[k]? = some w) : anyHash (ws.drop k) = (startsW w (u "#") || anyHash (ws.drop (k + 2))) := by
  have hk := (List.getElem?_eq_some_iff.mp h).1
  have hw := (List.getElem?_eq_some_iff.mp h).2
  rw [List.drop_eq_getElem_cons hk, hw, show k + 2 = (k + 1) + 1 by wtm_at "om", ← List.tail_drop (i := k + 1)]
  cases ws.drop (k + 1) with
  | nil => simp [anyHash]
  | cons b r => rfl
theorem odd_ok {γ : Fx} {κ : Cells} {ws : List Wd} {b : Bool} {Φ : D → Cells → Prop} {Ξ : Exc → Cells → Prop} (hn : 5 ≤ γ.n) (hl : ws.length ≤ 1000) (h : ∀ e, Φ (.ref e) ((e, .exc (oddX b ws)) :: κ)) : WPF γ (.ref 229) [.lst (ws.map .str), .bool b] κ Φ Ξ := by
  refine F_in fm_odd_fault fk_odd_fault (names := ["items", "is_list"]) (ρ := [("is_list", .bool b), ("items", .lst (ws.map .str))]) (by wtm_at "om") (by decide +kernel) rfl rfl (fun s vs hS hl => ?_) (fun γ' g1 g2 g3 => ?_)
  · refine lenE2 hl (fun _ _ => ?_)
    exact BindsTo.of_eq (by rfl)
  · refine kB_cons ?_
    have l1 : (ws.map D.str).length = ws.length := List.length_map ..
    cases b with
    | false =>
      wtm_at "m"
      refine error_ok (code := [u "TCL", u "OPERATION", u "SWITCH", u "BADPAT"]) (by wtm_at "om") fun e => ?_
      wtm_at "m"
      exact h e
    | true =>
      generalize hC : anyHash ws = C at h
      have hX : oddX true ws = if C = true then ⟨1, u "extra switch pattern with no body" ++ u ", this may be due to a comment incorrectly placed outside of a switch body" ++ u " - see the \"switch\" documentation", [u "TCL", u "OPERATION", u "SWITCH", u "BADPAT", u "COMMENT?"]⟩
          else ⟨1, u "extra switch pattern with no body", [u "TCL", u "OPERATION", u "SWITCH", u "BADPAT"]⟩ := by rw [← hC]; rfl
      rw [hX] at h
      wtm_at "m"
      refine S_weak (Wk.of (ρ' := [("what", .str (u "extra switch pattern with no body")), ("items", .lst (ws.map .str))]) ⟨rfl, rfl, trivial⟩ (.refl _)) ?_
      let I : List D → St → Prop := fun ds S => ∃ (k : Nat), k ≤ ws.length + 1 ∧ ds = (rngL k 2 ((ws.length + 1 - k) / 2)).map D.int ∧ S = ⟨[("what", .str (u "extra switch pattern with no body")), ("items", .lst (ws.map .str))], κ⟩ ∧ anyHash (ws.drop k) = C
      refine kS_forI I ?_ ?_ ?_ ?_ ?_
      · exact kind_of g2 (by rfl)
      · wtm_at "m"
        rw [l1]
        exact ⟨_, I_rng (small_rng2 (by wtm_at "om")), 0, by wtm_at "om", by rw [rng_size2]; rfl, rfl, hC⟩
      · intro _; rfl
      · intro d ds S hh
        refine absP fun _ kk => ?_
        obtain ⟨k, hk, e1, rfl, e3⟩ := hh
        refine kk ?_
        clear kk
        cases hm : (ws.length + 1 - k) / 2 with
        | zero => rw [hm] at e1; cases e1
        | succ n =>
          rw [hm] at e1
          cases e1
          have hk1 : k < ws.length := Nat.lt_of_succ_lt_succ (halfs hm)
          have hw := List.getElem?_eq_getElem hk1
          generalize ws[k] = w at hw
          rw [anyHash_drop hw] at e3
          have hg : (ws.map D.str)[(k : Int).toNat]? = some (.str w) := by
            rw [Int.toNat_natCast, List.getElem?_map, hw]; rfl
          wtm_at "m"
          · rename_i e4
            rw [e4, Bool.true_or] at e3
            rw [← e3, if_pos rfl] at h
            refine error_ok (code := [u "TCL", u "OPERATION", u "SWITCH", u "BADPAT", u "COMMENT?"]) (by wtm_at "om") fun e => ?_
            wtm_at "m"
            exact h e
          · rename_i e4
            rw [e4, Bool.false_or] at e3
            exact ⟨⟨[("what", .str (u "extra switch pattern with no body")), ("items", .lst (ws.map .str))], κ⟩, Wk.of ⟨rfl, rfl, trivial⟩ (.refl _), k + 2, Nat.succ_le_succ hk1, by rw [step2 hm]; rfl, rfl, e3⟩
      · intro S hh
        refine absP fun _ kk => ?_
        obtain ⟨k, hk, e1, rfl, e3⟩ := hh
        refine kk ?_
        clear kk
        cases hm : (ws.length + 1 - k) / 2 with
        | zero =>
          rw [List.drop_of_length_le (by wtm_at "om")] at e3
          rw [← e3, show anyHash [] = false from rfl, if_neg (by decide)] at h
          wtm_at "m"
          refine error_ok (code := [u "TCL", u "OPERATION", u "SWITCH", u "BADPAT"]) (by wtm_at "om") fun e => ?_
          wtm_at "m"
          exact h e
        | succ n => rw [hm] at e1; cases e1
end

section
-- WE
theorem fmod2 (n : Nat) : Int.fmod n 2 = ((n % 2 : Nat) : Int) := by
  rw [Int.fmod_eq_emod_of_nonneg _ (by decide)]; wtm_at "om"
theorem map_get {ws : List Wd} {i : Nat} (h : i < ws.length) : (ws.map D.str)[i]? = some (.str (ws.getD i [])) := by
  rw [List.getElem?_map, List.getElem?_eq_getElem h]
  simp [List.getD, List.getElem?_eq_getElem h]
noncomputable def tup2 (p : Wd × Wd) : D := .tup [.str p.1, .str p.2]
noncomputable def pairsOk (κ : Cells) (Φ : D → Cells → Prop) (Ξ : Exc → Cells → Prop) : (List (Wd × Wd)) ⊕ Exc → Prop
  | .inl ps => Φ (.lst (ps.map tup2)) κ
  | .inr x => Ξ x κ
theorem pairL_drop {ws : List Wd} {k : Nat} (h : k + 1 < ws.length) : pairL (ws.drop k) = (ws.getD k [], ws.getD (k + 1) []) :: pairL (ws.drop (k + 2)) := by
  have h0 : k < ws.length := by wtm_at "om"
  rw [List.drop_eq_getElem_cons h0, List.drop_eq_getElem_cons h]
  simp [pairL, List.getD, List.getElem?_eq_getElem h0, List.getElem?_eq_getElem h]
section
local macro_rules | `(tactic| wtm_at "m_prim") => `(tactic| with_reducible refine post_drop ?_)
theorem pairs_tail {γ' : Fx} {κ : Cells} {name : Wd} {wsD : D} {ws : List Wd} {b : Bool} {Φ : D → Cells → Prop} {Ξ : Exc → Cells → Prop} (hn : 7 ≤ γ'.n) (g2 : γ'.env.scope = (defAt 32).2.2) (hl : ws.length ≤ 1000) (h0 : 1 ≤ ws.length) (hw : ∀ w ∈ ws, w.length ≤ 1000)
    (h : pairsOk κ Φ Ξ (pairsI b ws)) : WPB γ' ((defAt 32).2.1.drop 3) ⟨[("items", .lst (ws.map .str)), ("is_list", .bool b)], κ⟩ (Post Φ) Ξ := by
  have l1 : (ws.map D.str).length = ws.length := List.length_map ..
  have hg1 : (ws.map D.str)[(-1 + ((ws.map D.str).length : Int)).toNat]? = some (.str (lastW ws)) := by
    rw [l1, show (-1 + (ws.length : Int)).toNat = ws.length - 1 by wtm_at "om"]; exact map_get (by wtm_at "om")
  have hlast : lastW ws ∈ ws := by
    unfold lastW
    simp [List.getD, List.getElem?_eq_getElem (show ws.length - 1 < ws.length by wtm_at "om")]
  unfold pairsI at h
  refine kB_cons ?_
  wtm_at "m"
  · rename_i e
    rw [l1, fmod2] at e
    have e : ws.length % 2 = 1 := by have e := eq_of_beq e; wtm_at "om"
    rw [if_pos e] at h
    refine odd_ok (by wtm_at "om") hl fun e => ?_
    wtm_at "m"
    exact ⟨e, _, [], κ, rfl, rfl, h⟩
  · rename_i e1 e2
    rw [l1, fmod2] at e1
    have e1 : ¬ ws.length % 2 = 1 := by have e1 := ne_of_beq_false e1; wtm_at "om"
    rw [if_neg e1, if_pos e2] at h
    have hg2 : (ws.map D.str)[(-2 + ((ws.map D.str).length : Int)).toNat]? = some (.str (prevW ws)) := by
      rw [l1, show (-2 + (ws.length : Int)).toNat = ws.length - 2 by wtm_at "om"]; exact map_get (by wtm_at "om")
    have hprev : (prevW ws).length ≤ 1000 := by
      refine hw _ ?_
      unfold prevW
      simp [List.getD, List.getElem?_eq_getElem (show ws.length - 2 < ws.length by wtm_at "om")]
    have l2 := ll "no body specified for pattern \"" 31
    have l3 := ll "\"" 1
    wtm_at "m"
    refine error_ok (code := [u "TCL", u "OPERATION", u "SWITCH", u "BADPAT", u "FALLTHROUGH"]) (by wtm_at "om") fun e => ?_
    wtm_at "m"
    exact ⟨e, _, [], κ, rfl, rfl, h⟩
  · rename_i e1 e2
    rw [l1, fmod2] at e1
    have e1 : ¬ ws.length % 2 = 1 := by have e1 := ne_of_beq_false e1; wtm_at "om"
    rw [if_neg e1, if_neg (by rw [e2]; decide)] at h
    refine E_own fun o => ?_
    wtm_at "m"
    refine S_weak (Wk.of (ρ' := [("pairs", .ref o), ("items", .lst (ws.map .str))]) ⟨rfl, rfl, trivial⟩ (.refl _)) ?_
    let I : List D → St → Prop := fun ds S => ∃ (k : Nat) (acc : List (Wd × Wd)), k ≤ ws.length ∧ k % 2 = 0 ∧ ds = (rngL k 2 ((ws.length - k) / 2)).map D.int ∧ S = ⟨[("pairs", .ref o), ("items", .lst (ws.map .str))], (o, .list (acc.map tup2)) :: κ⟩ ∧ acc ++ pairL (ws.drop k) = pairL ws ∧ acc.length ≤ k
    refine kS_forI I ?_ ?_ ?_ ?_ ?_
    · exact kind_of g2 (by rfl)
    · wtm_at "m"
      rw [l1]
      exact ⟨_, I_rng (small_rng2 (by wtm_at "om")), 0, [], by wtm_at "om", rfl, by rw [rng_size2, show ((((ws.length + 1) / 2 : Nat) : Int)).toNat = (ws.length - 0) / 2 from half2 e1]; rfl, rfl, rfl, by simp⟩
    · intro _; rfl
    · intro d ds S hh
      refine absP fun _ kk => ?_
      obtain ⟨k, acc, hk, k2, f1, rfl, f3, f4⟩ := hh
      refine kk ?_
      clear kk
      cases hm : (ws.length - k) / 2 with
      | zero => rw [hm] at f1; cases f1
      | succ n =>
        rw [hm] at f1
        cases f1
        have hk1 : k + 1 < ws.length := halfs hm
        have hg3 : (ws.map D.str)[(k : Int).toNat]? = some (.str (ws.getD k [])) := by rw [Int.toNat_natCast]; exact map_get (Nat.lt_of_succ_lt hk1)
        have hg4 : (ws.map D.str)[((k : Int) + 1).toNat]? = some (.str (ws.getD (k + 1) [])) := by exact map_get hk1
        have l4 : (acc.map tup2).length ≤ 1000 := by rw [List.length_map]; wtm_at "om"
        rw [pairL_drop hk1] at f3
        wtm_at "m"
        refine ⟨⟨[("pairs", .ref o), ("items", .lst (ws.map .str))], (o, .list ((acc ++ [(ws.getD k [], ws.getD (k + 1) [])]).map tup2)) :: κ⟩, Wk.of ⟨rfl, rfl, trivial⟩ (by rw [List.map_append]; exact .refl _), k + 2, _, hk1, evnp k2, by rw [step2 hm]; rfl, rfl, by rw [← f3, List.append_assoc]; rfl, by rw [List.length_append, List.length_singleton]; exact Nat.le_succ_of_le (Nat.succ_le_succ f4)⟩
    · intro S hh
      refine absP fun _ kk => ?_
      obtain ⟨k, acc, hk, k2, f1, rfl, f3, f4⟩ := hh
      refine kk ?_
      clear kk
      cases hm : (ws.length - k) / 2 with
      | zero =>
        refine B_frz (Frz.of (ρ' := [("pairs", .lst (acc.map tup2))]) rfl .here ⟨.inr ⟨rfl, rfl⟩, trivial⟩) ?_
        rw [List.drop_of_length_le (half0' e1 k2 hm), show pairL [] = [] from rfl, List.append_nil] at f3
        rw [← f3] at h
        wtm_at "m"
        exact h
      | succ n => rw [hm] at f1; cases f1
end
theorem pairs_ok {γ : Fx} {κ : Cells} {name : Wd} {ws : List Wd} {R : List Wd ⊕ Exc} {Φ : D → Cells → Prop} {Ξ : Exc → Cells → Prop} (hn : 9 ≤ γ.n) (hl : ws.length ≤ 1000) (h0 : 1 ≤ ws.length) (hw : ∀ w ∈ ws, w.length ≤ 1000) (hnm : name.length ≤ 100)
    (hR : ∀ w, ws = [w] → Split w R) (hR2 : ∀ is, R = .inl is → is.length ≤ 1000 ∧ ∀ w ∈ is, w.length ≤ 1000)
    (h : pairsOk κ Φ Ξ (pairsS name ws R)) : WPF γ (.ref 236) [.str name, .lst (ws.map .str)] κ Φ Ξ := by
  refine F_in fm_pairs_of fk_pairs_of (names := ["name", "words"]) (ρ := [("words", .lst (ws.map .str)), ("name", .str name)]) (by wtm_at "om") (by decide +kernel) rfl rfl (fun s vs hS hl => ?_) (fun γ' g1 g2 g3 => ?_)
  · refine lenE2 hl (fun _ _ => ?_)
    exact BindsTo.of_eq (by rfl)
  · refine kB_cons ?_
    have l1 : (ws.map D.str).length = ws.length := List.length_map ..
    have tail : ∀ (is : List Wd) (b : Bool) (S : St), pairsOk κ Φ Ξ (pairsI b is) → is.length ≤ 1000 → 1 ≤ is.length → (∀ w ∈ is, w.length ≤ 1000) → Wk ⟨[("items", .lst (is.map .str)), ("is_list", .bool b)], κ⟩ S → WPB γ' ((defAt 32).2.1.drop 3) S (Post Φ) Ξ :=
      fun is b S h1 h2 h3 h4 w => B_weak w (pairs_tail (name := name) (wsD := .none) (by wtm_at "om") g2 h2 h3 h4 h1)
    by_cases hl1 : ws.length = 1
    · obtain ⟨w, rfl⟩ := List.length_eq_one_iff.mp hl1
      have hs := hR w rfl
      have hw1 := hw w (.head _)
      have l2 := ll " ?-option ...? string {?pattern body ...? ?default body?}" 57
      unfold pairsS at h
      rw [if_pos hl1] at h
      (repeat' ((fail_if_success (with_reducible show WPB _ [_, _, _, _, _] _ _ _)); first | wtm_at "m_1" | fail))
      refine split_ok (by wtm_at "om") hw1 hs ?_
      cases R with
      | inr x => exact h
      | inl is =>
        obtain ⟨hi1, hi2⟩ := hR2 is rfl
        have l3 : (is.map D.str).length = is.length := List.length_map ..
        unfold outL
        cases is with
        | nil =>
          (repeat' ((fail_if_success (with_reducible show WPB _ [_, _, _, _, _] _ _ _)); first | wtm_at "m_1" | fail))
          refine wrong_args_ok (by wtm_at "om") (by rw [List.length_append]; wtm_at "om") fun e => ?_
          (repeat' ((fail_if_success (with_reducible show WPB _ [_, _, _, _, _] _ _ _)); first | wtm_at "m_1" | fail))
          exact ⟨e, _, [], κ, rfl, rfl, h⟩
        | cons a is =>
          (repeat' ((fail_if_success (with_reducible show WPB _ [_, _, _, _, _] _ _ _)); first | wtm_at "m_1" | fail))
          exact tail (a :: is) true _ h hi1 (by simp) hi2 (Wk.of ⟨rfl, rfl, trivial⟩ (.refl _))
    · have hws : ∃ a b r, ws = a :: b :: r := by
        rcases ws with _ | ⟨a, _ | ⟨b, r⟩⟩
        · simp at h0
        · simp at hl1
        · exact ⟨a, b, r, rfl⟩
      refine absP fun _ kk => ?_
      obtain ⟨a, b, r, rfl⟩ := hws
      refine kk ?_
      clear kk
      unfold pairsS at h
      rw [if_neg hl1] at h
      (repeat' ((fail_if_success (with_reducible show WPB _ [_, _, _, _, _] _ _ _)); first | wtm_at "m_1" | fail))
      exact tail (a :: b :: r) false _ h hl (by simp) hw (Wk.of ⟨rfl, rfl, trivial⟩ (.refl _))
end

section
-- WF
noncomputable def outOk (κ : Cells) (Φ : D → Cells → Prop) (Ξ : Exc → Cells → Prop) : Out → Prop
  | .nest b => Φ (.nest b) κ
  | .text => Φ (.str []) κ
  | .exc x => Ξ x κ
theorem optsOk_inl {W rest : List Wd} {κ : Cells} {Φ : D → Cells → Prop} {Ξ : Exc → Cells → Prop} {m : Wd} {nc : Bool} {i : Int} (e : (W.length : Int) - rest.length = i) (h : Φ (.tup [.str m, .bool nc, .int i]) κ) : optsOk W κ Φ Ξ (.inl (m, nc, rest)) := by
  subst e; exact h
theorem optsL_suf : ∀ {ws : List Wd} {m m' : Wd} {nc nc' : Bool} {rest : List Wd}, 2 ≤ ws.length → optsL m nc ws = .inl (m', nc', rest) → 2 ≤ rest.length ∧ ∃ k, rest = ws.drop k
  | [], m, m', nc, nc', rest, h, _ => by simp at h
  | w :: r, m, m', nc, nc', rest, h, e => by
    unfold optsL at e
    split at e
    · rename_i h2
      split at e
      · split at e
        · cases e
        · split at e
          · cases e; exact ⟨h2, 1, rfl⟩
          · split at e
            · obtain ⟨a, k, b⟩ := optsL_suf h2 e; exact ⟨a, k + 1, b⟩
            · split at e
              · obtain ⟨a, k, b⟩ := optsL_suf h2 e; exact ⟨a, k + 1, b⟩
              · cases e
      · cases e; exact ⟨h, 0, rfl⟩
    · cases e; exact ⟨h, 0, rfl⟩
theorem pairL_mem : ∀ {l : List Wd} {p : Wd × Wd}, p ∈ pairL l → p.1 ∈ l ∧ p.2 ∈ l
  | [], p, h => by simp [pairL] at h
  | [_], p, h => by simp [pairL] at h
  | a :: b :: r, p, h => by
    rcases List.mem_cons.mp h with rfl | h
    · exact ⟨.head _, .tail _ (.head _)⟩
    · have := pairL_mem h; exact ⟨.tail _ (.tail _ this.1), .tail _ (.tail _ this.2)⟩
theorem pairL_len : ∀ (l : List Wd), (pairL l).length ≤ l.length
  | [] => Nat.le_refl _
  | [_] => by simp [pairL]
  | a :: b :: r => by have := pairL_len r; simp only [pairL, List.length_cons]; wtm_at "om"
theorem pairsI_in {b : Bool} {is : List Wd} {ps : List (Wd × Wd)} (h : pairsI b is = .inl ps) : ps = pairL is := by
  unfold pairsI at h
  split at h
  · cases h
  · split at h
    · cases h
    · cases h; rfl
theorem pairsS_in {name : Wd} {ws : List Wd} {R : List Wd ⊕ Exc} {ps : List (Wd × Wd)} (h : pairsS name ws R = .inl ps) : ps = pairL ws ∨ ∃ is, R = .inl is ∧ ps = pairL is := by
  unfold pairsS at h
  split at h
  · cases R with
    | inr x => cases h
    | inl is =>
      simp only at h
      split at h
      · cases h
      · exact .inr ⟨is, rfl, pairsI_in h⟩
  · exact .inl (pairsI_in h)
theorem switch_ok {γ : Fx} {κ : Cells} {name : Wd} {ws : List Wd} {R : List Wd ⊕ Exc} {Φ : D → Cells → Prop} {Ξ : Exc → Cells → Prop} (hn : 10 ≤ γ.n) (hl : ws.length ≤ 900) (hnm : name.length ≤ 100)
    (hN : ∀ w ∈ ws, Nice w) (hR : ∀ w, ws.getLast? = some w → Split w R) (hR2 : ∀ is, R = .inl is → is.length ≤ 1000 ∧ ∀ w ∈ is, Nice w)
    (h : outOk κ Φ Ξ (act name ws R)) : WPF γ (.ref 243) [.none, .lst ((name :: ws).map .str)] κ Φ Ξ := by
  refine F_in fm_switch_action fk_switch_action (names := ["host", "words"]) (ρ := [("words", .lst ((name :: ws).map .str)), ("host", .none)]) (by wtm_at "om") (by decide +kernel) rfl rfl (fun s vs hS hl => ?_) (fun γ' g1 g2 g3 => ?_)
  · refine lenE2 hl (fun _ _ => ?_)
    exact BindsTo.of_eq (by rfl)
  · refine kB_cons ?_
    have l1 : ((name :: ws).map D.str).length = ws.length + 1 := by rw [List.length_map, List.length_cons]
    have l2 := ll " ?-option ...? string ?pattern body ...? ?default body?" 55
    have hW : ∀ w ∈ name :: ws, w.length ≤ 1000 := fun w hw => by
      rcases List.mem_cons.mp hw with rfl | hw
      · wtm_at "om"
      · exact (hN w hw).len
    unfold act at h
    wtm_at "m"
    · rename_i e
      rw [if_pos (by wtm_at "om")] at h
      refine wrong_args_ok (by wtm_at "om") (by rw [List.length_append]; wtm_at "om") fun e => ?_
      wtm_at "m"
      exact ⟨e, _, [], κ, rfl, rfl, h⟩
    · rename_i e
      rw [if_neg (by wtm_at "om")] at h
      refine options_ok (by wtm_at "om") rfl (by rw [List.length_cons]; wtm_at "om") hW ?_
      cases ho : optsL [] false ws with
      | inr x => rw [ho] at h; exact h
      | inl o =>
        obtain ⟨m, nc, rest⟩ := o
        rw [ho] at h
        have h : outOk κ Φ Ξ (actRest name m nc rest R) := h
        obtain ⟨h2, k, rfl⟩ := optsL_suf (by wtm_at "om") ho
        have hk : k + 2 ≤ ws.length := by rw [List.length_drop] at h2; wtm_at "om"
        have hat : (((name :: ws).length : Int) - (ws.drop k).length) = (k : Int) + 1 := by rw [List.length_drop, List.length_cons]; wtm_at "om"
        refine optsOk_inl hat ?_
        have hg : ((name :: ws).map D.str)[((k : Int) + 1).toNat]? = some (.str (ws.getD k [])) := by
          exact map_get (i := k + 1) (ws := name :: ws) (by rw [List.length_cons]; wtm_at "om")
        unfold actRest at h
        have hdr : ((name :: ws).map D.str).drop ((k : Int) + 1 + 1).toNat = ((ws.drop k).drop 1).map D.str := by
          rw [show ((k : Int) + 1 + 1).toNat = (k + 1) + 1 from rfl, List.map_cons, List.drop_succ_cons, List.drop_drop, List.map_drop]
        have hsub : ∀ w ∈ (ws.drop k).drop 1, w ∈ ws := fun w hw => List.mem_of_mem_drop (List.mem_of_mem_drop hw)
        have hlen : ((ws.drop k).drop 1).length = ws.length - k - 1 := by simp; wtm_at "om"
        have ht : (ws.drop k).getD 0 [] = ws.getD k [] := by
          simp [List.getD]
        have htm : ws.getD k [] ∈ ws := by
          simp [List.getD, List.getElem?_eq_getElem (show k < ws.length by wtm_at "om")]
        wtm_at "m"
        rw [hdr]
        refine pairs_ok (R := R) (by wtm_at "om") (by wtm_at "om") (by wtm_at "om") (fun w hw => (hN w (hsub w hw)).len) (by wtm_at "om") (fun w hw => hR w ?_) (fun is hi => ⟨(hR2 is hi).1, fun w hw => ((hR2 is hi).2 w hw).len⟩) ?_
        · have e : (ws.drop (k + 1)).getLast? = some w := by rw [show ws.drop (k + 1) = (ws.drop k).drop 1 by rw [List.drop_drop], hw]; rfl
          rw [List.getLast?_drop] at e
          split at e
          · cases e
          · exact e
        · cases hp : pairsS name ((ws.drop k).drop 1) R with
          | inr x =>
            rw [hp] at h
            exact h
          | inl ps =>
            rw [hp] at h
            have h : outOk κ Φ Ξ (outO (chosenL m nc ((ws.drop k).getD 0 []) ps false)) := h
            rw [ht] at h
            have hps : ps.length ≤ 1000 ∧ ∀ p ∈ ps, Nice p.1 := by
              rcases pairsS_in hp with rfl | ⟨is, hi, rfl⟩
              · refine ⟨Nat.le_trans (pairL_len _) (by wtm_at "om"), fun p hp => hN _ (hsub _ (pairL_mem hp).1)⟩
              · exact ⟨Nat.le_trans (pairL_len _) (hR2 is hi).1, fun p hp => (hR2 is hi).2 _ (pairL_mem hp).1⟩
            unfold pairsOk
            wtm_at "m"
            refine chosen_ok (by wtm_at "om") hps.1 hps.2 (hN _ htm) ?_
            cases hc : chosenL m nc (ws.getD k []) ps false with
            | none =>
              rw [hc] at h
              wtm_at "m"
              exact h
            | some b =>
              rw [hc] at h
              wtm_at "m"
              refine nest_make (by wtm_at "om") ?_
              wtm_at "m"
              exact h
end

section
-- LA
theorem fault_eq {x : Exc} {v : Wd} {ec : List Wd} (hv : x.value = v) (hc : x.code = 1) (he : x.ec = ec) : faultD x = .tup [.int 1, .str v, .tup (ec.map .str)] := by
  unfold faultD; rw [hv, hc, he]
theorem usage_ok {γ : Fx} {κ : Cells} {b : Bool} {Φ : D → Cells → Prop} {Ξ : Exc → Cells → Prop} (hn : 1 ≤ γ.n)
    (h : Φ (faultD (usageX (u "switch" ++ (if b = true then u " ?-option ...? string {?pattern body ...? ?default body?}" else u " ?-option ...? string ?pattern body ...? ?default body?")))) κ) : WPF γ (.ref 320) [.str (if b = true then u "{" else u "")] κ Φ Ξ := by
  refine F_in fm_law_usage fk_law_usage (names := ["more"]) (ρ := [("more", .str (if b = true then u "{" else u ""))]) (by wtm_at "om") (by decide +kernel) rfl rfl (fun s vs hS hl => ?_) (fun γ' g1 g2 g3 => ?_)
  · refine lenE1 hl (fun _ => ?_)
    exact BindsTo.of_eq (by rfl)
  · refine kB_cons ?_
    cases b
    · wtm_at "m"
      exact of_eq h (fault_eq (ec := [u "TCL", u "WRONGARGS"]) (by decide +kernel) rfl rfl)
    · wtm_at "m"
      exact of_eq h (fault_eq (ec := [u "TCL", u "WRONGARGS"]) (by decide +kernel) rfl rfl)
theorem take_ok {γ : Fx} {k1 k2 : Cells} {a : Addr} {x : Int} {r : List Int} {m : Int} {Φ : D → Cells → Prop} {Ξ : Exc → Cells → Prop} (hn : 1 ≤ γ.n) (h0 : 0 < m) (h1 : m < 1000) (hr : r.length ≤ 1000)
    (h : ∀ (d : Nat) (x' : Int) (r' : List Int), (d : Int) < m → r'.length ≤ 1000 → Φ (.int d) (k1 ++ (a, .list ((x' :: r').map .int)) :: k2)) : WPF γ (.ref 250) [.ref a, .int m] (k1 ++ (a, .list ((x :: r).map .int)) :: k2) Φ Ξ := by
  refine F_in fm_law_take fk_law_take (names := ["pen", "many"]) (ρ := [("many", .int m), ("pen", .ref a)]) (by wtm_at "om") (by decide +kernel) rfl rfl (fun s vs hS hl => ?_) (fun γ' g1 g2 g3 => ?_)
  · refine lenE2 hl (fun _ _ => ?_)
    exact BindsTo.of_eq (by rfl)
  · refine kB_cons ?_
    have hm : ∀ {p : MO}, (a, p) ∈ k1 ++ (a, p) :: k2 := List.mem_append_right _ (.head _)
    have fin : ∀ (b x : Int), 0 ≤ Int.fmod (b + x) m ∧ Int.fmod (b + x) m < m := fun b x => ⟨Int.fmod_nonneg_of_pos _ h0, Int.fmod_lt_of_pos _ h0⟩
    cases r with
    | nil =>
      wtm_at "m"
      have := fin 0 x
      obtain ⟨d, hd⟩ : ∃ d : Nat, Int.fmod (0 + x) m = d := ⟨(Int.fmod (0 + x) m).toNat, by wtm_at "om"⟩
      rw [hd]
      exact h d (x.fdiv m) [] (by wtm_at "om") (by simp)
    | cons y r =>
      have hr' : r.length ≤ 999 := by rw [List.length_cons] at hr; wtm_at "om"
      wtm_at "m"
      have := fin y x
      obtain ⟨d, hd⟩ : ∃ d : Nat, Int.fmod (y + x) m = d := ⟨(Int.fmod (y + x) m).toNat, by wtm_at "om"⟩
      rw [hd]
      refine set_o (ds := (x :: r).map .int) (Upd.mid _) (by decide) (by simp) (by simp; wtm_at "om") ?_
      wtm_at "m"
      exact h d (x.fdiv m) r (by wtm_at "om") (by wtm_at "om")
      rename_i e
      exact absurd (show (1 : Int) < (((x :: y :: r).map D.int).length : Int) by simp; wtm_at "om") e
theorem options_l {γ : Fx} {κ : Cells} {Φ : D → Cells → Prop} {Ξ : Exc → Cells → Prop} (hn : 1 ≤ γ.n) (h : Φ (.lst (optWs.map .str)) κ) : WPF γ (.ref 264) [] κ Φ Ξ := by
  refine F_in fm_law_options fk_law_options (names := []) (ρ := []) (by wtm_at "om") (by decide +kernel) rfl rfl (fun s vs hS hl => ?_) (fun γ' g1 g2 g3 => ?_)
  · refine lenE0 hl ?_
    exact BindsTo.of_eq (by rfl)
  · refine kB_cons ?_
    wtm_at "m"
    exact h
theorem texts_l {γ : Fx} {κ : Cells} {Φ : D → Cells → Prop} {Ξ : Exc → Cells → Prop} (hn : 1 ≤ γ.n) (h : Φ (.lst (textWs.map .str)) κ) : WPF γ (.ref 271) [] κ Φ Ξ := by
  refine F_in fm_law_texts fk_law_texts (names := []) (ρ := []) (by wtm_at "om") (by decide +kernel) rfl rfl (fun s vs hS hl => ?_) (fun γ' g1 g2 g3 => ?_)
  · refine lenE0 hl ?_
    exact BindsTo.of_eq (by rfl)
  · refine kB_cons ?_
    wtm_at "m"
    exact h
theorem patterns_l {γ : Fx} {κ : Cells} {Φ : D → Cells → Prop} {Ξ : Exc → Cells → Prop} (hn : 1 ≤ γ.n) (h : Φ (.lst (patWs.map .str)) κ) : WPF γ (.ref 278) [] κ Φ Ξ := by
  refine F_in fm_law_patterns fk_law_patterns (names := []) (ρ := []) (by wtm_at "om") (by decide +kernel) rfl rfl (fun s vs hS hl => ?_) (fun γ' g1 g2 g3 => ?_)
  · refine lenE0 hl ?_
    exact BindsTo.of_eq (by rfl)
  · refine kB_cons ?_
    wtm_at "m"
    exact h
theorem bodies_l {γ : Fx} {κ : Cells} {Φ : D → Cells → Prop} {Ξ : Exc → Cells → Prop} (hn : 1 ≤ γ.n) (h : Φ (.lst (bodyWs.map .str)) κ) : WPF γ (.ref 285) [] κ Φ Ξ := by
  refine F_in fm_law_bodies fk_law_bodies (names := []) (ρ := []) (by wtm_at "om") (by decide +kernel) rfl rfl (fun s vs hS hl => ?_) (fun γ' g1 g2 g3 => ?_)
  · refine lenE0 hl ?_
    exact BindsTo.of_eq (by rfl)
  · refine kB_cons ?_
    wtm_at "m"
    exact h
theorem opt_tab : ∀ w ∈ optWs, (w = u "-" ∨ w = u "-x" ∨ w = u "-regexp") ∨ ((([D.str (u "-"), D.str (u "-x"), D.str (u "-regexp")] : List D).map unS).contains w = false ∧ 2 ≤ w.length ∧ w.length ≤ 10000000 ∧
    ∃ x, List.lookup [w.getD (1 : Int).toNat 0] [(u "e", D.str (u "exact")), (u "g", D.str (u "glob")), (u "n", D.str (u "nocase")), (u "-", D.str (u "--"))] = some (.str x) ∧ optD (pickS w) = .tup [.str x, .none]) := by
  have g : ∀ {P : Wd → Prop} {a b c d e f h i j k l m : Wd}, P a → P b → P c → P d → P e → P f → P h → P i → P j → P k → P l → P m → ∀ w ∈ [a, b, c, d, e, f, h, i, j, k, l, m], P w := by
    intro P a b c d e f h i j k l m h1 h2 h3 h4 h5 h6 h7 h8 h9 h10 h11 h12 w hw
    simp only [List.mem_cons, List.not_mem_nil, or_false] at hw
    rcases hw with rfl | rfl | rfl | rfl | rfl | rfl | rfl | rfl | rfl | rfl | rfl | rfl <;> assumption
  refine g (P := fun w => (w = u "-" ∨ w = u "-x" ∨ w = u "-regexp") ∨ ((([D.str (u "-"), D.str (u "-x"), D.str (u "-regexp")] : List D).map unS).contains w = false ∧ 2 ≤ w.length ∧ w.length ≤ 10000000 ∧
    ∃ x, List.lookup [w.getD (1 : Int).toNat 0] [(u "e", D.str (u "exact")), (u "g", D.str (u "glob")), (u "n", D.str (u "nocase")), (u "-", D.str (u "--"))] = some (.str x) ∧ optD (pickS w) = .tup [.str x, .none]))
    (.inr ⟨by decide +kernel, by decide +kernel, by decide +kernel, u "exact", by kernel_rfl, by kernel_rfl⟩) (.inr ⟨by decide +kernel, by decide +kernel, by decide +kernel, u "glob", by kernel_rfl, by kernel_rfl⟩) (.inr ⟨by decide +kernel, by decide +kernel, by decide +kernel, u "nocase", by kernel_rfl, by kernel_rfl⟩) (.inr ⟨by decide +kernel, by decide +kernel, by decide +kernel, u "--", by kernel_rfl, by kernel_rfl⟩)
    (.inr ⟨by decide +kernel, by decide +kernel, by decide +kernel, u "exact", by kernel_rfl, by kernel_rfl⟩) (.inr ⟨by decide +kernel, by decide +kernel, by decide +kernel, u "glob", by kernel_rfl, by kernel_rfl⟩) (.inr ⟨by decide +kernel, by decide +kernel, by decide +kernel, u "nocase", by kernel_rfl, by kernel_rfl⟩) (.inl (.inl rfl)) (.inl (.inr (.inl rfl)))
    (.inr ⟨by decide +kernel, by decide +kernel, by decide +kernel, u "glob", by kernel_rfl, by kernel_rfl⟩) (.inl (.inr (.inr rfl))) (.inr ⟨by decide +kernel, by decide +kernel, by decide +kernel, u "exact", by kernel_rfl, by kernel_rfl⟩)
theorem option_ok {γ : Fx} {κ : Cells} {w : Wd} {Φ : D → Cells → Prop} {Ξ : Exc → Cells → Prop} (hn : 1 ≤ γ.n) (hw : w ∈ optWs) (h : Φ (optD (pickS w)) κ) : WPF γ (.ref 306) [.str w] κ Φ Ξ := by
  refine F_in fm_law_option fk_law_option (names := ["got"]) (ρ := [("got", .str w)]) (by wtm_at "om") (by decide +kernel) rfl rfl (fun s vs hS hl => ?_) (fun γ' g1 g2 g3 => ?_)
  · refine lenE1 hl (fun _ => ?_)
    exact BindsTo.of_eq (by rfl)
  · refine kB_cons ?_
    rcases opt_tab w hw with hw | ⟨hc, h2, hl7, x, hx, hd⟩
    · rcases hw with rfl | rfl | rfl
      all_goals wtm_at "m"
      · refine m_index_l (ws := [u "-", u "-x", u "-regexp"]) (j := 0) (by decide) (by decide) rfl (by decide +kernel) ?_
        wtm_at "m"
        exact of_eq h (by kernel_rfl)
      · refine m_index_l (ws := [u "-", u "-x", u "-regexp"]) (j := 1) (by decide) (by decide) rfl (by decide +kernel) ?_
        wtm_at "m"
        exact of_eq h (by kernel_rfl)
      · refine m_index_l (ws := [u "-", u "-x", u "-regexp"]) (j := 2) (by decide) (by decide) rfl (by decide +kernel) ?_
        wtm_at "m"
        exact of_eq h (by kernel_rfl)
    · rw [hd] at h
      have h2' : (1 : Int) < w.length := Int.ofNat_lt.mpr h2
      have hl : w.length ≤ 10000000 := hl7
      wtm_at "m"
      refine ⟨_, .str x, rfl, hx, ?_⟩
      wtm_at "m"
      exact h
end

section
-- LB
theorem spell_esc {way c : Nat} {r : Wd} (h : (way == 2 || [c] == u "\\") = true) : spellOne way (c :: r) = u "{" ++ (c :: r) ++ u "}" := if_pos h
theorem spell_0 {c : Nat} {r : Wd} (h : ([c] == u "\\") = false) : spellOne 0 (c :: r) = c :: r := by
  show (if (false || [c] == u "\\") = true then _ else _) = _
  rw [h, if_neg (by decide)]; rfl
theorem spell_1 {c : Nat} {r : Wd} (h : ([c] == u "\\") = false) : spellOne 1 (c :: r) = u "\"" ++ (c :: r) ++ u "\"" := by
  show (if (false || [c] == u "\\") = true then _ else _) = _
  rw [h, if_neg (by decide)]; rfl
theorem spoil_row : ∀ d : Nat, d < 8 → 4 ≤ d → ∃ a b c, ([D.tup [.str (u "{e"), .str (u "unmatched open brace in list"), .str (u "BRACE")], D.tup [.str (u "\"e"), .str (u "unmatched open quote in list"), .str (u "QUOTE")], D.tup [.str (u "{e}fg h"), .str (u "list element in braces followed by \"fg\" instead of space"), .str (u "JUNK")], D.tup [.str (u "\"e\"f"), .str (u "list element in quotes followed by \"f\" instead of space"), .str (u "JUNK")]] : List D)[((d : Int) - 4).toNat]? = some (.tup [.str a, .str b, .str c]) ∧ D.tup [.str (spoilW d), faultO (spoilX d)] = .tup [.str a, .tup [.int 1, .str b, .tup [.str (u "TCL"), .str (u "VALUE"), .str (u "LIST"), .str c]]] :=
  lt8E (P := fun d : Nat => 4 ≤ d → ∃ a b c, ([D.tup [.str (u "{e"), .str (u "unmatched open brace in list"), .str (u "BRACE")], D.tup [.str (u "\"e"), .str (u "unmatched open quote in list"), .str (u "QUOTE")], D.tup [.str (u "{e}fg h"), .str (u "list element in braces followed by \"fg\" instead of space"), .str (u "JUNK")], D.tup [.str (u "\"e\"f"), .str (u "list element in quotes followed by \"f\" instead of space"), .str (u "JUNK")]] : List D)[((d : Int) - 4).toNat]? = some (.tup [.str a, .str b, .str c]) ∧ D.tup [.str (spoilW d), faultO (spoilX d)] = .tup [.str a, .tup [.int 1, .str b, .tup [.str (u "TCL"), .str (u "VALUE"), .str (u "LIST"), .str c]]]) (fun h => absurd h (by decide)) (fun h => absurd h (by decide)) (fun h => absurd h (by decide)) (fun h => absurd h (by decide)) (fun _ => ⟨_, _, _, rfl, by kernel_rfl⟩) (fun _ => ⟨_, _, _, rfl, by kernel_rfl⟩) (fun _ => ⟨_, _, _, rfl, by kernel_rfl⟩) (fun _ => ⟨_, _, _, rfl, by kernel_rfl⟩)
theorem spoilt_ok {γ : Fx} {κ : Cells} {d : Nat} {Φ : D → Cells → Prop} {Ξ : Exc → Cells → Prop} (hn : 1 ≤ γ.n) (hd : d < 8) (h : Φ (.tup [.str (spoilW d), faultO (spoilX d)]) κ) : WPF γ (.ref 292) [.int d] κ Φ Ξ := by
  refine F_in fm_law_spoilt fk_law_spoilt (names := ["which"]) (ρ := [("which", .int d)]) (by wtm_at "om") (by decide +kernel) rfl rfl (fun s vs hS hl => ?_) (fun γ' g1 g2 g3 => ?_)
  · refine lenE1 hl (fun _ => ?_)
    exact BindsTo.of_eq (by rfl)
  · refine kB_cons ?_
    by_cases h4 : d < 4
    · unfold spoilW spoilX at h
      rw [if_pos h4, if_pos h4] at h
      wtm_at "m"
      exact h
    · have h5 := Nat.le_of_not_lt h4
      refine absP fun _ kk => ?_
      obtain ⟨a, b, c, hi, hd'⟩ := spoil_row d hd h5
      refine kk ?_
      clear kk
      rw [hd'] at h
      have h0 : (0 : Int) ≤ (d : Int) - 4 := Int.sub_nonneg_of_le (Int.ofNat_le.mpr h5)
      have hl : (d : Int) - 4 < 10000000 := Int.lt_of_le_of_lt (Int.sub_le_self _ (by decide)) (Int.lt_trans (Int.ofNat_lt.mpr hd) (by decide))
      wtm_at "m"
      exact h
theorem spelled_ok {γ : Fx} {κ : Cells} {way : Nat} {items : List Wd} {Φ : D → Cells → Prop} {Ξ : Exc → Cells → Prop} (hn : 1 ≤ γ.n) (hw : way < 3) (hi : items.length ≤ 100) (hl : ∀ w ∈ items, w.length ≤ 100 ∧ (PySem.Str.ofString "%" == tx w) = false) (h : Φ (.str (spelled way items)) κ) : WPF γ (.ref 299) [.lst (items.map .str), .int way] κ Φ Ξ := by
  refine F_in fm_law_spelled fk_law_spelled (names := ["items", "way"]) (ρ := [("way", .int way), ("items", .lst (items.map .str))]) (by wtm_at "om") (by decide +kernel) rfl rfl (fun s vs hS hl => ?_) (fun γ' g1 g2 g3 => ?_)
  · refine lenE2 hl (fun _ _ => ?_)
    exact BindsTo.of_eq (by rfl)
  · refine kB_cons ?_
    wtm_at "m"
    generalize hC : spelled way items = C at h
    refine S_weak (Wk.of (ρ' := [("text", .str []), ("way", .int way), ("items", .lst (items.map .str))]) ⟨rfl, rfl, rfl, trivial⟩ (.refl _)) ?_
    let I : List D → St → Prop := fun ds S => ∃ (t : Wd) (l : List Wd), ds = l.map D.str ∧ S = ⟨[("text", .str t), ("way", .int way), ("items", .lst (items.map .str))], κ⟩ ∧ (∀ w ∈ l, w ∈ items) ∧ t ++ spelled way l = C ∧ t.length + 200 * l.length ≤ 30000
    refine kS_forI I ?_ ?_ ?_ ?_ ?_
    · exact kind_of g2 (by rfl)
    · wtm_at "m"
      exact ⟨_, I_lst, [], items, rfl, rfl, fun _ h => h, hC, by simp; wtm_at "om"⟩
    · intro _; rfl
    · intro d ds S hh
      refine absP fun _ kk => ?_
      obtain ⟨t, l, e1, rfl, e2, e3, e4⟩ := hh
      refine kk ?_
      clear kk
      cases l with
      | nil => cases e1
      | cons w l =>
        cases e1
        obtain ⟨hw1, hw2⟩ := hl w (e2 w (.head _))
        rw [List.length_cons] at e4
        have e5 : t ++ (spellOne way w ++ sepW way) ++ spelled way l = C := by rw [← e3]; simp [spelled]
        have nx : ∀ (t' : Wd) (S' : St), t' = t ++ (spellOne way w ++ sepW way) → t'.length ≤ t.length + 200 → Wk ⟨[("text", .str t'), ("way", .int way), ("items", .lst (items.map .str))], κ⟩ S' →
            ∃ S₃, Wk S₃ S' ∧ ∃ (t : Wd) (l' : List Wd), l.map D.str = l'.map D.str ∧ S₃ = ⟨[("text", .str t), ("way", .int way), ("items", .lst (items.map .str))], κ⟩ ∧ (∀ w ∈ l', w ∈ items) ∧ t ++ spelled way l' = C ∧ t.length + 200 * l'.length ≤ 30000 :=
          fun t' S' ht hlen w => ⟨_, w, t', l, rfl, rfl, fun x hx => e2 x (.tail _ hx), by rw [ht]; exact e5, by wtm_at "om"⟩
        have l1 := ll "{" 1
        have l2 := ll "}" 1
        have l3 := ll "\"" 1
        have l4 := ll " " 1
        have l5 := ll "\n" 1
        have l6 := ll " \t " 3
        have l7 := ll "%" 1
        have l8 := ll "\"%\"" 3
        have l0 : (PySem.Str.ofString "").cps.toList = [] := by decide +kernel
        have s0 : sepW 0 = (PySem.Str.ofString " ").cps.toList := rfl
        have s1 : sepW 1 = (PySem.Str.ofString "\n").cps.toList := rfl
        have s2 : sepW 2 = (PySem.Str.ofString " \t ").cps.toList := rfl
        cases w with
        | nil =>
          have : way = 0 ∨ way = 1 ∨ way = 2 := by wtm_at "om"
          rcases this with rfl | rfl | rfl
          all_goals wtm_at "m"
          all_goals
            refine nx _ _ ?_ ?_ (Wk.of ⟨rfl, rfl, rfl, trivial⟩ (.refl _))
            · simp only [spellOne, s0, s1, s2, l0, List.append_assoc, List.append_nil, List.nil_append, u]
            · simp only [List.length_append, l1, l2, l4, l5, l6, l0, List.length_nil]; wtm_at "om"
        | cons c r =>
          have hr : r.length ≤ 99 := by rw [List.length_cons] at hw1; wtm_at "om"
          have hq : (c :: r).getD (0 : Int).toNat 0 = c := rfl
          have : way = 0 ∨ way = 1 ∨ way = 2 := by wtm_at "om"
          rcases this with rfl | rfl | rfl
          · wtm_at "m"
            · rename_i e
              rw [hq] at e
              refine nx _ _ ?_ ?_ (Wk.of ⟨rfl, rfl, rfl, trivial⟩ (.refl _))
              · rw [spell_esc (by rw [e]; rfl)]
                simp only [s0, List.append_assoc, u]
              · simp only [List.length_append, List.length_cons, l1, l2, l4]; wtm_at "om"
            · rename_i e
              rw [hq] at e
              refine ⟨u "%", c :: r, c :: r, rfl, rfl, hw2, by decide +kernel, by rw [List.length_cons]; wtm_at "om", occ1 _, repl1 _, ?_⟩
              wtm_at "m"
              refine nx _ _ ?_ ?_ (Wk.of ⟨rfl, rfl, rfl, trivial⟩ (.refl _))
              · rw [spell_0 e]
                simp only [s0, List.append_assoc, u]
              · simp only [List.length_append, List.length_cons, l4]; wtm_at "om"
          · wtm_at "m"
            · rename_i e
              rw [hq] at e
              refine nx _ _ ?_ ?_ (Wk.of ⟨rfl, rfl, rfl, trivial⟩ (.refl _))
              · rw [spell_esc (by rw [e]; rfl)]
                simp only [s1, List.append_assoc, u]
              · simp only [List.length_append, List.length_cons, l1, l2, l5]; wtm_at "om"
            · rename_i e
              rw [hq] at e
              refine ⟨u "\"%\"", c :: r, u "\"" ++ (c :: r) ++ u "\"", rfl, rfl, hw2, by decide +kernel, by rw [List.length_cons]; wtm_at "om", occ2 _, repl2 _, ?_⟩
              wtm_at "m"
              refine nx _ _ ?_ ?_ (Wk.of ⟨rfl, rfl, rfl, trivial⟩ (.refl _))
              · rw [spell_1 e]
                simp only [s1, List.append_assoc, u]
              · simp only [List.length_append, List.length_cons, l3, l5, u]; wtm_at "om"
          · wtm_at "m"
            refine nx _ _ ?_ ?_ (Wk.of ⟨rfl, rfl, rfl, trivial⟩ (.refl _))
            · rw [spell_esc (by rfl)]
              simp only [s2, List.append_assoc, u]
            · simp only [List.length_append, List.length_cons, l1, l2, l6]; wtm_at "om"
    · intro S hh
      refine absP fun _ kk => ?_
      obtain ⟨t, l, e1, rfl, e2, e3, e4⟩ := hh
      refine kk ?_
      clear kk
      cases l with
      | cons => cases e1
      | nil =>
        wtm_at "m"
        rw [← e3, show spelled way [] = [] from rfl, List.append_nil] at h
        exact h
end

section
-- LC
noncomputable def aheadOk (κ : Cells) (Φ : D → Cells → Prop) : (Wd × Bool × List Wd) ⊕ Exc → Prop
  | .inr x => ∀ (m : Wd) (nc : Bool) (r : List Wd), Φ (.tup [.str m, .bool nc, .lst (r.map .str), faultD x]) κ
  | .inl (m, nc, rest) => Φ (.tup [.str m, .bool nc, .lst (rest.map .str), .none]) κ
theorem starts_tab : ∀ w ∈ allWs, startsW w (u "-") = (w.take 1 == u "-") := by decide +kernel
theorem dash_tab : ∀ w ∈ allWs, startsW w (u "-") = true → w ∈ optWs := by decide +kernel
theorem all_len : ∀ w ∈ allWs, w.length ≤ 10 := by decide +kernel
theorem ahead_ok {γ : Fx} {κ : Cells} {ws : List Wd} {Φ : D → Cells → Prop} {Ξ : Exc → Cells → Prop} (hn : 2 ≤ γ.n) (hl : ws.length ≤ 1000) (hw : ∀ w ∈ ws.dropLast, w ∈ allWs) (h : aheadOk κ Φ (optsL [] false ws)) : WPF γ (.ref 313) [.lst (ws.map .str)] κ Φ Ξ := by
  refine F_in fm_law_ahead fk_law_ahead (names := ["rest"]) (ρ := [("rest", .lst (ws.map .str))]) (by wtm_at "om") (by decide +kernel) rfl rfl (fun s vs hS hl => ?_) (fun γ' g1 g2 g3 => ?_)
  · refine lenE1 hl (fun _ => ?_)
    exact BindsTo.of_eq (by rfl)
  · refine kB_cons ?_
    generalize hC : optsL [] false ws = C at h
    wtm_at "m"
    let I : Nat → St → Prop := fun n S => ∃ (m : Wd) (nc : Bool) (rest : List Wd) (opt : Wd), S = ⟨[("option", .str opt), ("is_folded", .bool nc), ("mode", .str m), ("rest", .lst (rest.map .str))], κ⟩ ∧ rest.length ≤ 1000 ∧ (∀ w ∈ rest.dropLast, w ∈ allWs) ∧ m.length ≤ 10 ∧
      (opt ≠ u "--" ∧ optsL m nc rest = C ∨ opt = u "--" ∧ C = .inl (m, nc, rest)) ∧ rest.length < n
    refine kS_whileW I (n := ws.length + 1) ?_ ?_
    · exact ⟨⟨[("option", .str []), ("is_folded", .bool false), ("mode", .str []), ("rest", .lst (ws.map .str))], κ⟩, Wk.of ⟨rfl, rfl, rfl, rfl, trivial⟩ (.refl _), [], false, ws, [], rfl, hl, hw, by decide, .inl ⟨by decide +kernel, hC⟩, by wtm_at "om"⟩
    · intro n S hh
      refine absP fun _ kk => ?_
      obtain ⟨m, nc, rest, opt, rfl, r1, r2, r3, r4, r5⟩ := hh
      refine kk ?_
      clear kk
      obtain ⟨n, rfl⟩ : ∃ k, n = k + 1 := ⟨n - 1, by wtm_at "om"⟩
      have lr : (rest.map D.str).length = rest.length := List.length_map ..
      by_cases hlen : 2 < rest.length
      · obtain ⟨w, a, b, r, rfl⟩ : ∃ w a b r, rest = w :: a :: b :: r := by
          rcases rest with _ | ⟨w, _ | ⟨a, _ | ⟨b, r⟩⟩⟩
          · simp at hlen
          · simp at hlen
          · simp at hlen
          · exact ⟨w, a, b, r, rfl⟩
        have hwa : w ∈ allWs := r2 w (.head _)
        have hwl := all_len w hwa
        have r2' : ∀ x ∈ (a :: b :: r).dropLast, x ∈ allWs := fun x hx => r2 x (.tail _ hx)
        have hst := starts_tab w hwa
        have l2 := ll "bad option \"" 12
        have l3 := ll "\": -" 4
        have l4 := ll " option already found" 21
        wtm_at "m"
        · rename_i e1 e2
          have e2 : opt ≠ u "--" := by simpa using e2
          have hr : optsL m nc (w :: a :: b :: r) = C := r4.elim (fun q => q.2) fun q => absurd q.1 e2
          have e1 : startsW w (u "-") = true := by rw [hst]; exact e1
          unfold optsL at hr
          rw [if_pos (by simp), if_pos e1] at hr
          refine option_ok (by wtm_at "om") (dash_tab w hwa e1) ?_
          cases hp : pickS w with
          | inr x =>
            rw [hp] at hr
            rw [← hr] at h
            rw [show optD (.inr x) = .tup [.str [], .tup [.int x.code, .str x.value, .tup (x.ec.map .str)]] from rfl]
            wtm_at "m"
            exact h m nc (a :: b :: r)
          | inl o =>
            rw [hp] at hr
            simp only at hr
            have hm := pickL_mem hp
            rw [List.append_nil] at hm
            simp only [optNames, List.mem_cons, List.not_mem_nil, or_false] at hm
            rcases hm with rfl | rfl | rfl | rfl
            · rw [if_neg (by decide +kernel), if_neg (by decide +kernel)] at hr
              rw [show optD (.inl (u "-exact")) = .tup [.str (u "exact"), .none] by kernel_rfl]
              wtm_at "m"
              · rename_i e3
                have e3 : ¬ (m == u "") = true := by simpa using e3
                rw [if_neg e3] at hr
                rw [← hr] at h
                exact h m nc (a :: b :: r)
              · rename_i e3
                have e3 : (m == u "") = true := by simpa using e3
                rw [if_pos e3, show (u "-exact").drop 1 = u "exact" by decide +kernel] at hr
                exact ⟨n, ⟨[("option", .str (u "exact")), ("is_folded", .bool nc), ("mode", .str (u "exact")), ("rest", .lst ((a :: b :: r).map .str))], κ⟩, Nat.lt_succ_self _, Wk.of ⟨rfl, rfl, rfl, rfl, trivial⟩ (.refl _), u "exact", nc, a :: b :: r, u "exact", rfl, by rw [List.length_cons] at r1; wtm_at "om", r2', by decide +kernel, .inl ⟨by decide +kernel, hr⟩, by rw [List.length_cons] at r5; wtm_at "om"⟩
            · rw [if_neg (by decide +kernel), if_neg (by decide +kernel)] at hr
              rw [show optD (.inl (u "-glob")) = .tup [.str (u "glob"), .none] by kernel_rfl]
              wtm_at "m"
              · rename_i e3
                have e3 : ¬ (m == u "") = true := by simpa using e3
                rw [if_neg e3] at hr
                rw [← hr] at h
                exact h m nc (a :: b :: r)
              · rename_i e3
                have e3 : (m == u "") = true := by simpa using e3
                rw [if_pos e3, show (u "-glob").drop 1 = u "glob" by decide +kernel] at hr
                exact ⟨n, ⟨[("option", .str (u "glob")), ("is_folded", .bool nc), ("mode", .str (u "glob")), ("rest", .lst ((a :: b :: r).map .str))], κ⟩, Nat.lt_succ_self _, Wk.of ⟨rfl, rfl, rfl, rfl, trivial⟩ (.refl _), u "glob", nc, a :: b :: r, u "glob", rfl, by rw [List.length_cons] at r1; wtm_at "om", r2', by decide +kernel, .inl ⟨by decide +kernel, hr⟩, by rw [List.length_cons] at r5; wtm_at "om"⟩
            · rw [if_neg (by decide +kernel), if_pos (by decide +kernel)] at hr
              rw [show optD (.inl (u "-nocase")) = .tup [.str (u "nocase"), .none] by kernel_rfl]
              wtm_at "m"
              exact ⟨n, ⟨[("option", .str (u "nocase")), ("is_folded", .bool true), ("mode", .str m), ("rest", .lst ((a :: b :: r).map .str))], κ⟩, Nat.lt_succ_self _, Wk.of ⟨rfl, rfl, rfl, rfl, trivial⟩ (.refl _), m, true, a :: b :: r, u "nocase", rfl, by rw [List.length_cons] at r1; wtm_at "om", r2', r3, .inl ⟨by decide +kernel, hr⟩, by rw [List.length_cons] at r5; wtm_at "om"⟩
            · rw [if_pos (by decide +kernel)] at hr
              rw [show optD (.inl (u "--")) = .tup [.str (u "--"), .none] by kernel_rfl]
              wtm_at "m"
              exact ⟨n, ⟨[("option", .str (u "--")), ("is_folded", .bool nc), ("mode", .str m), ("rest", .lst ((a :: b :: r).map .str))], κ⟩, Nat.lt_succ_self _, Wk.of ⟨rfl, rfl, rfl, rfl, trivial⟩ (.refl _), m, nc, a :: b :: r, u "--", rfl, by rw [List.length_cons] at r1; wtm_at "om", r2', r3, .inr ⟨rfl, hr.symm⟩, by rw [List.length_cons] at r5; wtm_at "om"⟩
        · rename_i e1 e2
          have e2 : opt = u "--" := by simpa using e2
          have hr := r4.elim (fun q => absurd e2 q.1) fun q => q.2
          rw [hr] at h
          exact h
        · rename_i e1
          have hr : C = .inl (m, nc, w :: a :: b :: r) := r4.elim (fun q => by
            rw [← q.2]
            unfold optsL
            rw [if_pos (by simp), if_neg (by rw [hst]; rw [show (w.take 1 == u "-") = false from e1]; decide)]) fun q => q.2
          rw [hr] at h
          exact h
      · wtm_at "m"
        have hr : C = .inl (m, nc, rest) := r4.elim (fun q => by
          rw [← q.2]
          cases rest with
          | nil => rfl
          | cons x xs =>
            unfold optsL
            rw [if_neg (by rw [List.length_cons] at hlen; wtm_at "om")]) fun q => q.2
        rw [hr] at h
        exact h
end

section
-- LD
theorem evens_sub {α : Type} : ∀ {l : List α} {x : α}, x ∈ evens l → x ∈ l
  | [], _, h => by cases h
  | [a], _, h => h
  | a :: b :: l, x, h => by
    rcases List.mem_cons.mp h with rfl | h
    · exact .head _
    · exact .tail _ (.tail _ (evens_sub h))
theorem evens_le {α : Type} : ∀ (l : List α), (evens l).length ≤ l.length
  | [] => Nat.le_refl _
  | [a] => Nat.le_refl _
  | a :: b :: l => by have := evens_le l; simp only [evens, List.length_cons]; wtm_at "om"
theorem hash_tab : ∀ w ∈ allWs, startsW w (u "#") = (w.take 1 == u "#") := by decide +kernel
theorem anyHash_ev : ∀ {l : List Wd}, (∀ w ∈ l, w ∈ allWs) → anyHash l = !((evens l).filter fun w => w.take 1 == u "#").isEmpty
  | [], _ => rfl
  | [a], h => by
    have := hash_tab a (h a (.head _))
    unfold anyHash evens
    rw [this]
    cases hq : (a.take 1 == u "#") <;> simp [hq]
  | a :: b :: l, h => by
    have ih := anyHash_ev (l := l) fun w hw => h w (.tail _ (.tail _ hw))
    have := hash_tab a (h a (.head _))
    unfold anyHash evens
    rw [this, ih]
    cases hq : (a.take 1 == u "#") <;> simp [hq]
noncomputable def outI (b : Bool) (is : List Wd) : List (Wd × Wd) ⊕ Exc := if is.isEmpty = true then .inr (usageX (u "switch" ++ u " ?-option ...? string {?pattern body ...? ?default body?}")) else pairsI b is
structure ItemsOk (κ : Cells) (Φ : D → Cells → Prop) (R : List (Wd × Wd) ⊕ Exc) : Prop where
  bad : ∀ x d, R = .inr x → Φ (.tup [d, faultD x]) κ
  good : ∀ ps is, R = .inl ps → ps = pairL is → is.length % 2 = 0 → is.length ≤ 1000 → Φ (.tup [.lst (is.map .str), .none]) κ
section
local macro_rules | `(tactic| wtm_at "m_e") => `(tactic| ((with_reducible refine' E_lst (es := []) ?k1 ?_); (case k1 => decide)))
theorem items_tail {γ' : Fx} {κ : Cells} {ws is : List Wd} {b : Bool} {Φ : D → Cells → Prop} {Ξ : Exc → Cells → Prop} (hn : 2 ≤ γ'.n) (g2 : γ'.env.scope = (defAt 46).2.2) (g3 : γ'.cv = []) (hl : is.length ≤ 900) (hw : ws.length ≤ 900) (hb : b = (ws.length == 1)) (hi : ∀ w ∈ is, w.length ≤ 1000) (ha : b = true → ∀ w ∈ is, w ∈ allWs)
    (h : ItemsOk κ Φ (outI b is)) : WPB γ' ((defAt 46).2.1.drop 1) ⟨[("items", .lst (is.map .str)), ("fault", .none), ("rest", .lst (ws.map .str))], κ⟩ (Post Φ) Ξ := by
  have l1 : (is.map D.str).length = is.length := List.length_map ..
  have l2 : (ws.map D.str).length = ws.length := List.length_map ..
  refine kB_cons ?_
  cases is with
  | nil =>
    wtm_at "m"
    refine usage_ok (b := true) (by wtm_at "om") ?_
    unfold faultD
    wtm_at "m"
    exact h.bad _ (.lst []) rfl
  | cons a is =>
    have h : ItemsOk κ Φ (pairsI b (a :: is)) := h
    have hln : ((a :: is).map D.str).length = (a :: is).length := l1
    have hg1 : ((a :: is).map D.str)[((((a :: is).map D.str).length : Int) - 1).toNat]? = some (.str (lastW (a :: is))) := by
      rw [l1, show (((a :: is).length : Int) - 1).toNat = (a :: is).length - 1 by wtm_at "om"]; exact map_get (by rw [List.length_cons]; wtm_at "om")
    generalize hA : a :: is = as at *
    have h0 : 1 ≤ as.length := by rw [← hA, List.length_cons]; wtm_at "om"
    unfold pairsI at h
    have hne : (as.map D.str).isEmpty = false := by rw [List.isEmpty_eq_false_iff]; intro e; rw [← l1, e] at h0; simp at h0
    have hbs : (((ws.map D.str).length : Int) == 1) = b := by
      rw [hb, l2, Bool.eq_iff_iff, beq_iff_eq, beq_iff_eq]; wtm_at "om"
    have hX : ∀ X : Exc, X = oddX b as → as.length % 2 = 1 → ∀ d, Φ (.tup [d, faultD X]) κ := fun X hX ho d => h.bad X d (by rw [if_pos ho, hX])
    have hprev : (prevW as).length ≤ 1000 ∨ as.length < 2 := by
      by_cases h2 : as.length < 2
      · exact .inr h2
      · refine .inl (hi _ ?_)
        unfold prevW
        simp [List.getD, List.getElem?_eq_getElem (show as.length - 2 < as.length by wtm_at "om")]
    have l3 := ll "no body specified for pattern \"" 31
    have l4 := ll "\"" 1
    wtm_at "m"
    · rename_i e2 e3
      have hodd : as.length % 2 = 1 := by rw [l1, fmod2] at e2; have e2 := eq_of_beq e2; wtm_at "om"
      rw [hbs] at e3
      subst e3
      have hhash := anyHash_ev (ha rfl)
      rw [evens_map]
      have hel : (evens as).length ≤ 900 := Nat.le_trans (evens_le as) hl
      refine ⟨_, IA_lst, by rw [List.length_map]; wtm_at "om", fun γc c1 c2 c3 => ?_⟩
      let I : List D → List D → Cells → Prop := fun ds acc κ' => κ' = κ ∧ ∃ l : List Wd, ds = l.map .str ∧ (∀ w ∈ l, w ∈ allWs) ∧ acc ++ (l.filter fun w => w.take 1 == u "#").map .str = ((evens as).filter fun w => w.take 1 == u "#").map .str
      refine CompP.ind I ?_ ?_ _ _ _ ?_
      · intro d ds acc κ' hh
        refine absP fun _ kk => ?_
        obtain ⟨rfl, l, q1, q2, q3⟩ := hh
        refine kk ?_
        clear kk
        cases l with
        | nil => cases q1
        | cons w l =>
          cases q1
          have hwl := all_len w (q2 w (.head _))
          refine I_one ?_
          wtm_at "m"
          · rename_i e
            exact ⟨fun x hx => q2 x (.tail _ hx), by rw [← q3, List.filter_cons_of_pos (by exact e), List.map_cons, List.append_assoc]; rfl⟩
          · rename_i e
            exact ⟨fun x hx => q2 x (.tail _ hx), by rw [← q3, List.filter_cons_of_neg (by rw [show (w.take 1 == u "#") = false from e]; decide)]⟩
      · intro acc κ' hh
        refine absP fun _ kk => ?_
        obtain ⟨rfl, l, q1, q2, q3⟩ := hh
        refine kk ?_
        clear kk
        cases l with
        | cons => cases q1
        | nil =>
          rw [List.filter_nil, List.map_nil, List.append_nil] at q3
          have hae : acc.isEmpty = !anyHash as := by rw [hhash, q3, Bool.not_not, List.isEmpty_map]
          wtm_at "m"
          · rename_i e
            rw [hae, Bool.not_not] at e
            exact of_eq (hX _ rfl hodd _) (by
              unfold oddX
              rw [e, if_pos (show (true && true) = true from rfl)]
              rfl)
          · rename_i e
            rw [hae, Bool.not_not] at e
            exact of_eq (hX _ rfl hodd _) (by
              unfold oddX
              rw [e, if_neg (by decide)]
              rfl)
      · exact ⟨rfl, evens as, rfl, fun w hw => ha rfl w (evens_sub hw), rfl⟩
    · rename_i e2 e3
      have hodd : as.length % 2 = 1 := by rw [l1, fmod2] at e2; have e2 := eq_of_beq e2; wtm_at "om"
      rw [hbs] at e3
      subst e3
      exact of_eq (hX _ rfl hodd _) (by rw [fault_eq (ec := [u "TCL", u "OPERATION", u "SWITCH", u "BADPAT"]) rfl rfl rfl]; rfl)
    · rename_i e2 e3
      have hev : ¬ as.length % 2 = 1 := by rw [l1, fmod2] at e2; have e2 := ne_of_beq_false e2; wtm_at "om"
      have h2 : 2 ≤ as.length := by wtm_at "om"
      have hg2 : (as.map D.str)[(((as.map D.str).length : Int) - 2).toNat]? = some (.str (prevW as)) := by
        rw [l1, show ((as.length : Int) - 2).toNat = as.length - 2 by wtm_at "om"]; exact map_get (by wtm_at "om")
      have hprev : (prevW as).length ≤ 1000 := hprev.elim id fun q => by wtm_at "om"
      wtm_at "m"
      exact of_eq (h.bad (noBodyX (prevW as)) (.lst (as.map .str)) (by rw [if_neg hev, if_pos e3])) rfl
    · rename_i e2 e3
      have hev : ¬ as.length % 2 = 1 := by rw [l1, fmod2] at e2; have e2 := ne_of_beq_false e2; wtm_at "om"
      exact h.good (pairL as) as (by rw [if_neg hev, if_neg (by rw [e3]; decide)]) rfl (by wtm_at "om") (by wtm_at "om")
end
noncomputable def lawR (w L : Wd) (Li : List Wd) (f : Option Exc) : List Wd ⊕ Exc :=
  if (w == L) = true then (match f with | none => .inl Li | some x => .inr x)
  else if (w == []) = true then .inl [] else if (w == u "\\*") = true then .inl [u "*"] else .inl [w]
theorem items_ok {γ : Fx} {κ : Cells} {ws : List Wd} {L : Wd} {Li : List Wd} {f : Option Exc} {Φ : D → Cells → Prop} {Ξ : Exc → Cells → Prop} (hn : 4 ≤ γ.n) (hw : ws.length ≤ 900) (h1 : 1 ≤ ws.length) (hi : ∀ w ∈ ws, w.length ≤ 1000) (hLi : Li.length ≤ 900 ∧ ∀ w ∈ Li, w ∈ allWs) (hone : ∀ w, ws = [w] → w ≠ L → w ∈ allWs)
    (h : ItemsOk κ Φ (pairsS (u "switch") ws (lawR (ws.headD []) L Li f))) : WPF γ (.ref 325) [.lst (ws.map .str), .tup [.str L, .lst (Li.map .str), faultO f]] κ Φ Ξ := by
  refine F_in fm_law_items fk_law_items (names := ["rest", "listed"]) (ρ := [("listed", .tup [.str L, .lst (Li.map .str), faultO f]), ("rest", .lst (ws.map .str))]) (by wtm_at "om") (by decide +kernel) rfl rfl (fun s vs hS hl => ?_) (fun γ' g1 g2 g3 => ?_)
  · refine lenE2 hl (fun _ _ => ?_)
    exact BindsTo.of_eq (by rfl)
  · refine kB_cons ?_
    have l1 : (ws.map D.str).length = ws.length := List.length_map ..
    have tail : ∀ (is : List Wd) (S : St), is.length ≤ 900 → (∀ w ∈ is, w.length ≤ 1000) → ((ws.length == 1) = true → ∀ w ∈ is, w ∈ allWs) → ItemsOk κ Φ (outI (ws.length == 1) is) → Wk ⟨[("items", .lst (is.map .str)), ("fault", .none), ("rest", .lst (ws.map .str))], κ⟩ S → WPB γ' ((defAt 46).2.1.drop 1) S (Post Φ) Ξ :=
      fun is S a1 a2 a3 a4 w => B_weak w (items_tail (by wtm_at "om") g2 g3 a1 hw rfl a2 a3 a4)
    by_cases h2 : ws.length = 1
    · obtain ⟨w, rfl⟩ := List.length_eq_one_iff.mp h2
      have hwl := hi w (.head _)
      unfold pairsS at h
      rw [if_pos h2] at h
      have h : ItemsOk κ Φ (match lawR w L Li f with | .inr x => .inr x | .inl is => outI true is) := h
      have t1 : (([w] : List Wd).length == 1) = true := rfl
      (repeat' ((fail_if_success (with_reducible show WPB _ [_, _, _, _] _ _ _)); first | wtm_at "m_1" | fail))
      · rename_i e
        unfold lawR at h
        rw [if_pos e] at h
        cases f with
        | none => exact tail Li _ hLi.1 (fun x hx => Nat.le_trans (all_len x (hLi.2 x hx)) (by decide)) (fun _ => hLi.2) h (Wk.of ⟨rfl, rfl, rfl, trivial⟩ (.refl _))
        | some x =>
          unfold faultO faultD
          wtm_at "m"
          exact h.bad x (.lst (Li.map .str)) rfl
      · rename_i e
        have hwa : w ∈ allWs := hone w rfl (by simpa using e)
        unfold lawR at h
        rw [if_neg (by rw [e]; decide)] at h
        refine E_lst (es := []) (by decide) ?_
        (repeat' ((fail_if_success (with_reducible show WPB _ [_, _, _, _] _ _ _)); first | wtm_at "m_1" | fail))
        obtain ⟨is, his⟩ : ∃ is : List Wd, is = if (w == []) = true then [] else if (w == u "\\*") = true then [u "*"] else [w] := ⟨_, rfl⟩
        have h : ItemsOk κ Φ (outI true is) := by
          rw [his]
          cases q1 : (w == []) with
          | true => rw [q1] at h; exact h
          | false =>
            rw [q1] at h
            cases q2 : (w == u "\\*") with
            | true => rw [q2] at h; exact h
            | false => rw [q2] at h; exact h
        have hd : ((([((PySem.Str.ofString "").cps.toList, D.lst []), ((PySem.Str.ofString "\\*").cps.toList, D.lst [D.str (PySem.Str.ofString "*").cps.toList])] : List (Wd × D)).lookup w).getD (.lst [.str w])) = .lst (is.map .str) := by
          rw [his, show (PySem.Str.ofString "").cps.toList = [] by decide +kernel]
          simp only [List.lookup_cons, List.lookup_nil]
          cases h1 : (w == []) with
          | true => rfl
          | false =>
            rw [if_neg (by decide)]
            cases h2 : (w == u "\\*") with
            | true => rfl
            | false => rfl
        have hin : ∀ x ∈ is, x ∈ allWs := fun x hx => by
          rw [his] at hx
          split at hx
          · cases hx
          · split at hx
            · rw [List.mem_singleton.mp hx]; decide +kernel
            · rw [List.mem_singleton.mp hx]; exact hwa
        have hil : is.length ≤ 900 := by
          rw [his]
          split
          · simp
          · split <;> simp
        exact tail is _ hil (fun x hx => Nat.le_trans (all_len x (hin x hx)) (by decide)) (fun _ => hin) h (Wk.of ⟨congrArg some hd, rfl, rfl, trivial⟩ (.refl _))
    · obtain ⟨a, b, r, rfl⟩ : ∃ a b r, ws = a :: b :: r := by
        rcases ws with _ | ⟨a, _ | ⟨b, r⟩⟩
        · simp at h1
        · simp at h2
        · exact ⟨a, b, r, rfl⟩
      have hr : r.length ≤ 898 := by simp only [List.length_cons] at hw; wtm_at "om"
      unfold pairsS at h
      rw [if_neg h2] at h
      have t1 : ((a :: b :: r).length == 1) = false := by simp
      (repeat' ((fail_if_success (with_reducible show WPB _ [_, _, _, _] _ _ _)); first | wtm_at "m_1" | fail))
      exact tail (a :: b :: r) _ hw hi (fun q => by rw [t1] at q; cases q) (by rw [t1]; exact h) (Wk.of ⟨rfl, rfl, rfl, trivial⟩ (.refl _))
end

section
-- LE
section
local macro_rules | `(tactic| wtm_at "m_e") => `(tactic| first
  | with_reducible refine kE_ms PySem.F.slot_str_index PySem.F.type_str_index ?_
  | with_reducible refine E_own (fun _ => ?_))
theorem sort_get (c : Wd) : (([((PySem.Str.ofString "*").cps.toList, D.str (PySem.Str.ofString "star").cps.toList), ((PySem.Str.ofString "?").cps.toList, D.str (PySem.Str.ofString "any").cps.toList)] : List (Wd × D)).lookup c).getD (D.str (PySem.Str.ofString "is").cps.toList) = D.str (sortW c) := by
  simp only [List.lookup_cons, List.lookup_nil]
  unfold sortW
  cases h1 : (c == u "*") with
  | true => rfl
  | false =>
    cases h2 : (c == u "?") with
    | true => rfl
    | false => rfl
theorem pieces_ok {γ : Fx} {κ : Cells} {p : Wd} {ps : List (Wd × Wd)} {Φ : D → Cells → Prop} {Ξ : Exc → Cells → Prop} (hn : 1 ≤ γ.n) (hl : p.length ≤ 1000) (hps : ps.length ≤ 900) (hp : piecesAt p (p.length + 1) 0 = some ps) (h : Φ (.lst (ps.map tup2)) κ) : WPF γ (.ref 332) [.str p] κ Φ Ξ := by
  refine F_in fm_law_pieces fk_law_pieces (names := ["pattern"]) (ρ := [("pattern", .str p)]) (by wtm_at "om") (by decide +kernel) rfl rfl (fun s vs hS hl => ?_) (fun γ' g1 g2 g3 => ?_)
  · refine lenE1 hl (fun _ => ?_)
    exact BindsTo.of_eq (by rfl)
  · refine kB_cons ?_
    wtm_at "m"
    rename_i o
    let I : Nat → St → Prop := fun n S => ∃ (i : Int) (acc qs : List (Wd × Wd)), S = ⟨[("pieces", .ref o), ("at", .int i), ("pattern", .str p)], (o, .list (acc.map tup2)) :: κ⟩ ∧ 0 ≤ i ∧ i ≤ p.length ∧ piecesAt p n i = some qs ∧ acc ++ qs = ps
    refine kS_whileW I (n := p.length + 1) ?_ ?_
    · exact ⟨⟨[("pieces", .ref o), ("at", .int 0), ("pattern", .str p)], (o, .list []) :: κ⟩, Wk.of ⟨rfl, rfl, rfl, trivial⟩ (.refl _), 0, [], ps, rfl, by wtm_at "om", by wtm_at "om", hp, rfl⟩
    · intro n S hh
      refine absP fun _ kk => ?_
      obtain ⟨i, acc, qs, rfl, i0, i1, hq, ha⟩ := hh
      refine kk ?_
      clear kk
      cases n with
      | zero => cases hq
      | succ n =>
      unfold piecesAt at hq
      have l1 : (acc.map tup2).length ≤ 1000 := by
        have := congrArg List.length ha
        rw [List.length_append] at this
        rw [List.length_map]; wtm_at "om"
      by_cases hi : i < p.length
      · rw [if_pos hi] at hq
        have hs := sort_get [p.getD i.toNat 0]
        have ht : ∀ a, D.tup [((([((PySem.Str.ofString "*").cps.toList, D.str (PySem.Str.ofString "star").cps.toList), ((PySem.Str.ofString "?").cps.toList, D.str (PySem.Str.ofString "any").cps.toList)] : List (Wd × D)).lookup [p.getD i.toNat 0]).getD (D.str (PySem.Str.ofString "is").cps.toList)), .str a] = tup2 (sortW [p.getD i.toNat 0], a) := fun a => by unfold tup2; rw [hs]
        have nx : ∀ (i' : Int) (q : Wd × Wd) (qs' : List (Wd × Wd)) (S' : St), piecesAt p n i' = some qs' → qs = q :: qs' → 0 ≤ i' → i' ≤ p.length → Wk ⟨[("pieces", .ref o), ("at", .int i'), ("pattern", .str p)], (o, .list (acc.map tup2 ++ [tup2 q])) :: κ⟩ S' →
            ∃ m S₃, m < n + 1 ∧ Wk S₃ S' ∧ ∃ (i : Int) (acc qs : List (Wd × Wd)), S₃ = ⟨[("pieces", .ref o), ("at", .int i), ("pattern", .str p)], (o, .list (acc.map tup2)) :: κ⟩ ∧ 0 ≤ i ∧ i ≤ p.length ∧ piecesAt p m i = some qs ∧ acc ++ qs = ps :=
          fun i' q qs' S' a1 a2 a3 a4 w => ⟨n, _, Nat.lt_succ_self _, w, i', acc ++ [q], qs', by rw [List.map_append]; rfl, a3, a4, a1, by rw [← ha, a2, List.append_assoc]; rfl⟩
        by_cases c1 : ([p.getD i.toNat 0] == u "\\") = true
        · rw [if_pos c1] at hq
          split at hq
          · rename_i hi2
            split at hq
            · cases hq
            · rename_i r hr
              cases hq
              have c2 : ([p.getD i.toNat 0] == u "[") = false := by rw [eq_of_beq c1]; decide +kernel
              have c1' : ([p.getD i.toNat 0] == (PySem.Str.ofString "\\").cps.toList) = true := c1
              have c2' : ([p.getD i.toNat 0] == (PySem.Str.ofString "[").cps.toList) = false := c2
              wtm_at "m"
              exact nx (i + 2) _ r _ hr rfl (by wtm_at "om") (by wtm_at "om") (Wk.of ⟨rfl, rfl, rfl, trivial⟩ (by rw [← ht]; exact .refl _))
          · cases hq
        · rw [if_neg c1] at hq
          have c1' : ([p.getD i.toNat 0] == (PySem.Str.ofString "\\").cps.toList) = false := by simpa using c1
          by_cases c2 : ([p.getD i.toNat 0] == u "[") = true
          · rw [if_pos c2] at hq
            have c2' : ([p.getD i.toNat 0] == (PySem.Str.ofString "[").cps.toList) = true := c2
            split at hq
            · rename_i hf
              split at hq
              · cases hq
              · rename_i r hr
                cases hq
                have hle := find3_lt p i
                wtm_at "m"
                refine m_index3 hf ?_
                have hf' : 0 ≤ Txt.find3 (tx p) (tx (PySem.Str.ofString "]").cps.toList) i := hf
                wtm_at "m"
                exact nx (find3W p (u "]") i + 1) _ r _ hr rfl (by wtm_at "om") (by wtm_at "om") (Wk.of ⟨rfl, rfl, rfl, trivial⟩ (.refl _))
            · cases hq
          · rw [if_neg c2] at hq
            have c2' : ([p.getD i.toNat 0] == (PySem.Str.ofString "[").cps.toList) = false := by simpa using c2
            split at hq
            · cases hq
            · rename_i r hr
              cases hq
              wtm_at "m"
              exact nx (i + 1) _ r _ hr rfl (by wtm_at "om") (by wtm_at "om") (Wk.of ⟨rfl, rfl, rfl, trivial⟩ (by rw [← ht]; exact .refl _))
      · rw [if_neg hi] at hq
        cases hq
        rw [List.append_nil] at ha
        subst ha
        (repeat' ((fail_if_success (with_reducible show WPS _ (Stmt.Return _ _) _ _ _)); first | wtm_at "m_1" | fail))
        refine S_frz (Frz.of (ρ' := [("pieces", .lst (acc.map tup2))]) rfl .here ⟨.inr ⟨rfl, rfl⟩, trivial⟩) ?_
        wtm_at "m"
        exact h
end
end

section
-- LF
theorem takes_ok {γ : Fx} {κ : Cells} {s a : Wd} {c : Nat} {Φ : D → Cells → Prop} {Ξ : Exc → Cells → Prop} (hn : 1 ≤ γ.n) (hk : okPiece (s, a) = true) (h : Φ (.bool (takesW (s, a) [c])) κ) : WPF γ (.ref 339) [.tup [.str s, .str a], .str [c]] κ Φ Ξ := by
  refine F_in fm_law_takes fk_law_takes (names := ["piece", "sign"]) (ρ := [("sign", .str [c]), ("piece", .tup [.str s, .str a])]) (by wtm_at "om") (by decide +kernel) rfl rfl (fun s vs hS hl => ?_) (fun γ' g1 g2 g3 => ?_)
  · refine lenE2 hl (fun _ _ => ?_)
    exact BindsTo.of_eq (by rfl)
  · refine kB_cons ?_
    unfold okPiece at hk
    simp only [Bool.and_eq_true, Bool.or_eq_true, decide_eq_true_eq] at hk
    obtain ⟨⟨hk, hl1⟩, hl2⟩ := hk
    unfold takesW at h
    by_cases hin : (s == u "in") = true
    · have hin' : (s == (PySem.Str.ofString "in").cps.toList) = true := hin
      have hk := hk.elim (fun q => by rw [show (s != u "in") = !(s == u "in") from rfl, hin] at q; cases q) id
      have hk1 := hk.1
      rw [hin, Bool.true_and] at h
      by_cases hd : ([a.getD 1 0] == u "-") = true
      · have hk2 := hk.2.elim (fun q => by rw [show ([a.getD 1 0] != u "-") = !([a.getD 1 0] == u "-") from rfl, hd] at q; cases q) id
        rw [if_pos hd] at h
        have hd' : ([a.getD (1 : Int).toNat 0] == (PySem.Str.ofString "-").cps.toList) = true := hd
        wtm_at "m"
        · rename_i e
          refine of_eq h ?_
          rw [show leW [a.getD 0 0] [c] = true from e, Bool.true_and]
          rfl
        · rename_i e
          refine of_eq h ?_
          rw [show leW [a.getD 0 0] [c] = false from e, Bool.false_and]
          exact congrArg D.bool e.symm
      · rw [if_neg hd] at h
        have hd' : ([a.getD (1 : Int).toNat 0] == (PySem.Str.ofString "-").cps.toList) = false := by simpa using hd
        wtm_at "m"
        all_goals (refine of_eq h ?_; simp only [leW, inW]; wtm_at "m_simp"; done)
    · have hin' : (s == (PySem.Str.ofString "in").cps.toList) = false := by simpa using hin
      rw [show (s == u "in") = false from hin', Bool.false_and, if_neg (by decide)] at h
      wtm_at "m"
      all_goals (refine of_eq h ?_; simp only [leW, inW]; wtm_at "m_simp"; done)
section
local macro_rules | `(tactic| wtm_at "m_e") => `(tactic| ((with_reducible refine' E_lst (es := []) ?k1 ?_); (case k1 => decide)))
theorem matches_ok : ∀ {ps : List (Wd × Wd)} {γ : Fx} {κ : Cells} {t : Wd} {Φ : D → Cells → Prop} {Ξ : Exc → Cells → Prop}, ps.length + 3 ≤ γ.n → ps.length ≤ 900 → t.length ≤ 1000 → ps.all okPiece = true → Φ (.bool (matchS ps t)) κ → WPF γ (.ref 344) [.lst (ps.map tup2), .str t] κ Φ Ξ
  | [], γ, κ, t, Φ, Ξ, hn, hl, ht, hk, h => by
    refine F_inC fm_law_matches fk_law_matches (names := ["pieces", "text"]) (ρ := [("text", .str t), ("pieces", .lst (([] : List (Wd × Wd)).map tup2))]) (by wtm_at "om") (by decide +kernel) rfl rfl (fun n x hx => ?_) (fun s vs hS hl => ?_) (fun γ' g1 g2 g3 => ?_)
    · simp only [List.mem_cons, List.not_mem_nil, or_false] at hx
      rcases hx with rfl | rfl <;> rfl
    · refine lenE2 hl (fun _ _ => ?_)
      exact BindsTo.of_eq (by rfl)
    · refine kB_cons ?_
      wtm_at "m"
      rw [show (PySem.Str.ofString "").cps.toList = [] by decide +kernel]
      exact h
  | (s, a) :: ps, γ, κ, t, Φ, Ξ, hn, hl, ht, hk, h => by
    refine F_inC fm_law_matches fk_law_matches (names := ["pieces", "text"]) (ρ := [("text", .str t), ("pieces", .lst (.tup [.str s, .str a] :: ps.map tup2))]) (by wtm_at "om") (by decide +kernel) rfl rfl (fun n x hx => ?_) (fun s vs hS hl => ?_) (fun γ' g1 g2 g3 => ?_)
    · simp only [List.mem_cons, List.not_mem_nil, or_false] at hx
      rcases hx with rfl | rfl <;> rfl
    · refine lenE2 hl (fun _ _ => ?_)
      exact BindsTo.of_eq (by rfl)
    · refine kB_cons ?_
      have l1 : (ps.map tup2).length = ps.length := List.length_map ..
      rw [List.length_cons] at hn hl
      rw [List.all_cons, Bool.and_eq_true] at hk
      unfold matchS at h
      have le0 : (PySem.Str.ofString "").cps.toList = [] := by decide +kernel
      by_cases hst : (s == u "star") = true
      · have hst' : (s == (PySem.Str.ofString "star").cps.toList) = true := hst
        rw [if_pos hst] at h
        wtm_at "m"
        refine E_comp (clos2 g3 rfl rfl) (by decide +kernel) rfl (by decide +kernel) rfl (fun _ => rfl) ?_
        wtm_at "m"
        refine ⟨_, IA_rng (small_rng (n := t.length + 1) (by wtm_at "om")), ?_, fun γc c1 c2 c3 => ?_⟩
        · rw [List.length_map, rngL_length, show ((t.length : Int) + 1) = ((t.length + 1 : Nat) : Int) from rfl, rng_size]; wtm_at "om"
        rw [show ((t.length : Int) + 1) = ((t.length + 1 : Nat) : Int) from rfl, rng_size]
        rw [relabel_eq, g2] at c2
        rw [g3] at c3
        let I : List D → List D → Cells → Prop := fun ds acc κ' => κ' = κ ∧ ∃ k : Nat, k ≤ t.length + 1 ∧ ds = (rngL k 1 (t.length + 1 - k)).map .int ∧ acc.isEmpty = !((List.range k).any fun j => matchS ps (t.drop j))
        refine CompP.ind I ?_ ?_ _ _ _ ?_
        · intro d ds acc κ' hh
          refine absP fun _ kk => ?_
          obtain ⟨rfl, k, k1, e1, e2⟩ := hh
          refine kk ?_
          clear kk
          cases hm : t.length + 1 - k with
          | zero => rw [hm] at e1; cases e1
          | succ n =>
            rw [hm] at e1
            cases e1
            refine I_one ?_
            wtm_at "m"
            refine matches_ok (ps := ps) (by rw [c1]; wtm_at "om") (by wtm_at "om") (by rw [List.length_drop]; wtm_at "om") hk.2 ?_
            wtm_at "m"
            · rename_i e
              exact ⟨k + 1, by wtm_at "om", by rw [show t.length + 1 - (k + 1) = n by wtm_at "om"]; rfl, by rw [List.range_succ, List.any_append, List.any_cons, show matchS ps (t.drop k) = true from e]; simp⟩
            · rename_i e
              exact ⟨k + 1, by wtm_at "om", by rw [show t.length + 1 - (k + 1) = n by wtm_at "om"]; rfl, by rw [List.range_succ, List.any_append, List.any_cons, show matchS ps (t.drop k) = false from e]; simpa using e2⟩
        · intro acc κ' hh
          refine absP fun _ kk => ?_
          obtain ⟨rfl, k, k1, e1, e2⟩ := hh
          refine kk ?_
          clear kk
          cases hm : t.length + 1 - k with
          | succ n => rw [hm] at e1; cases e1
          | zero =>
            have hk : k = t.length + 1 := by wtm_at "om"
            subst hk
            wtm_at "m"
            rw [e2, Bool.not_not]
            exact h
        · exact ⟨rfl, 0, by wtm_at "om", rfl, rfl⟩
      · have hst' : (s == (PySem.Str.ofString "star").cps.toList) = false := by simpa using hst
        rw [if_neg hst] at h
        cases t with
        | nil =>
          have hne : (([] : Wd) != (PySem.Str.ofString "").cps.toList) = false := by rw [le0]; rfl
          wtm_at "m"
          rw [hne]
          exact h
        | cons c r =>
          have hne : ((c :: r) != (PySem.Str.ofString "").cps.toList) = true := by rw [le0]; rfl
          wtm_at "m"
          refine takes_ok (c := c) (by wtm_at "om") hk.1 ?_
          have h : Φ (.bool (takesW (s, a) [c] && matchS ps r)) κ := h
          wtm_at "m"
          · rename_i e
            refine matches_ok (ps := ps) (t := r) (by wtm_at "om") (by wtm_at "om") (by rw [List.length_cons] at ht; wtm_at "om") hk.2 ?_
            rw [e, Bool.true_and] at h
            wtm_at "m"
            exact h
          · rename_i e
            rw [e, Bool.false_and] at h
            rw [e]
            exact h
end
theorem lfits_ok {γ : Fx} {κ : Cells} {m t p : Wd} {nc : Bool} {Φ : D → Cells → Prop} {Ξ : Exc → Cells → Prop} (hn : 13 ≤ γ.n) (hp : p ∈ allWs) (ht : t ∈ allWs) (h : Φ (.bool (lawFits m nc t p)) κ) : WPF γ (.ref 351) [.str m, .bool nc, .str p, .str t] κ Φ Ξ := by
  refine F_in fm_law_fits fk_law_fits (names := ["mode", "is_folded", "pattern", "text"]) (ρ := [("text", .str t), ("pattern", .str p), ("is_folded", .bool nc), ("mode", .str m)]) (by wtm_at "om") (by decide +kernel) rfl rfl (fun s vs hS hl => ?_) (fun γ' g1 g2 g3 => ?_)
  · refine lenE4 hl (fun _ _ _ _ => ?_)
    exact BindsTo.of_eq (by rfl)
  · refine kB_cons ?_
    have hp' := allDs_all p hp
    refine absP fun _ kk => ?_
    obtain ⟨o1, o2, o3, o4, o5, o6, o7⟩ := ok_pieces p hp'
    refine kk ?_
    clear kk
    refine absP fun _ kk => ?_
    obtain ⟨_, _, _, _, _, _, t7⟩ := ok_pieces t (allDs_all t ht)
    refine kk ?_
    clear kk
    have pl := all_len p hp
    have tl := all_len t ht
    have e1 : piecesAt p (p.length + 1) 0 = some (piecesS p) := by
      unfold piecesS
      cases hq : piecesAt p (p.length + 1) 0 with
      | none => rw [hq] at o1; cases o1
      | some r => rfl
    have e2 : piecesAt (lowerW p) ((lowerW p).length + 1) 0 = some (piecesS (lowerW p)) := by
      unfold piecesS
      cases hq : piecesAt (lowerW p) ((lowerW p).length + 1) 0 with
      | none => rw [hq] at o4; cases o4
      | some r => rfl
    unfold lawFits lowIf at h
    cases nc with
    | false =>
      wtm_at "m"
      · rename_i e
        rw [if_pos e] at h
        refine pieces_ok (by wtm_at "om") (by wtm_at "om") (by wtm_at "om") e1 ?_
        wtm_at "m"
        refine matches_ok (by wtm_at "om") (by wtm_at "om") (by wtm_at "om") o2 ?_
        wtm_at "m"
        exact h
      · rename_i e
        rw [if_neg (by rw [e]; decide)] at h
        exact h
    | true =>
      wtm_at "m"
      · rename_i e
        rw [if_pos e] at h
        refine pieces_ok (by wtm_at "om") (by wtm_at "om") (by wtm_at "om") e2 ?_
        wtm_at "m"
        refine matches_ok (by wtm_at "om") (by wtm_at "om") (by wtm_at "om") o5 ?_
        wtm_at "m"
        exact h
      · rename_i e
        rw [if_neg (by rw [e]; decide)] at h
        exact h
end

section
-- LG
noncomputable def outD : Out → D
  | .nest b => .tup [.str (u "nest"), .str b, .tup [.none, .bool false, .str []]]
  | .text => .tup [.str (u "text"), .str [], .tup []]
  | .exc x => faultD x
theorem pairL_dom : ∀ {l : List Wd}, l.length % 2 = 0 → ∀ p ∈ pairL l, p.1 ∈ l.dropLast
  | [], _, p, h => by simp [pairL] at h
  | [_], _, p, h => by simp [pairL] at h
  | [a, b], _, p, h => by
    have h : p = (a, b) := by simpa [pairL] using h
    subst h; exact .head _
  | [a, b, c], he, p, h => by simp at he
  | a :: b :: c :: d :: r, he, p, h => by
    rcases List.mem_cons.mp h with rfl | h
    · exact .head _
    · exact .tail _ (.tail _ (pairL_dom (l := c :: d :: r) (by simp only [List.length_cons] at he ⊢; wtm_at "om") p h))
theorem pairsI_dom {b : Bool} {is : List Wd} {ps : List (Wd × Wd)} (h : pairsI b is = .inl ps) : is.length % 2 = 0 ∧ (lastW is == u "-") = false ∧ ps = pairL is := by
  unfold pairsI at h
  split at h
  · cases h
  · split at h
    · cases h
    · rename_i h1 h2
      cases h; exact ⟨by wtm_at "om", by simpa using h2, rfl⟩
theorem pairsS_dom {name : Wd} {ws : List Wd} {R : List Wd ⊕ Exc} {ps : List (Wd × Wd)} (h : pairsS name ws R = .inl ps) (hw : ∀ w ∈ ws.dropLast, w ∈ allWs) (hR : ∀ is, R = .inl is → ∀ w ∈ is, w ∈ allWs) :
    ∃ is, ps = pairL is ∧ is.length % 2 = 0 ∧ (lastW is == u "-") = false ∧ ∀ p ∈ ps, p.1 ∈ allWs := by
  unfold pairsS at h
  split at h
  · cases R with
    | inr x => cases h
    | inl is =>
      simp only at h
      split at h
      · cases h
      · obtain ⟨a, b, rfl⟩ := pairsI_dom h
        exact ⟨is, rfl, a, b, fun p hp => hR is rfl _ (pairL_mem hp).1⟩
  · obtain ⟨a, b, rfl⟩ := pairsI_dom h
    exact ⟨ws, rfl, a, b, fun p hp => hw _ (pairL_dom a p hp)⟩
theorem pairL_inj : ∀ {a b : List Wd}, a.length % 2 = 0 → b.length % 2 = 0 → pairL a = pairL b → a = b
  | [], [], _, _, _ => rfl
  | [], [_], _, h, _ => by simp at h
  | [], _ :: _ :: _, _, _, h => by simp [pairL] at h
  | [_], _, h, _, _ => by simp at h
  | _ :: _ :: _, [], _, _, h => by simp [pairL] at h
  | _ :: _ :: _, [_], _, h, _ => by simp at h
  | x :: y :: a, z :: w :: b, h1, h2, h => by
    simp only [pairL, List.cons.injEq, Prod.mk.injEq] at h
    obtain ⟨⟨rfl, rfl⟩, h⟩ := h
    rw [pairL_inj (by simp only [List.length_cons] at h1; wtm_at "om") (by simp only [List.length_cons] at h2; wtm_at "om") h]
theorem bodies_ev : ∀ {l : List Wd}, l.length % 2 = 0 → evens (l.drop 1) = (pairL l).map (·.2)
  | [], _ => rfl
  | [_], h => by simp at h
  | [a, b], _ => rfl
  | [_, _, _], h => by simp at h
  | a :: b :: c :: d :: r, h => by
    have ih := bodies_ev (l := c :: d :: r) (by simp only [List.length_cons] at h ⊢; wtm_at "om")
    show b :: evens (d :: r) = b :: (pairL (c :: d :: r)).map (·.2)
    rw [← ih]; rfl
theorem lastW_cons2 (a b : Wd) (l : List Wd) (h : l ≠ []) : lastW (a :: b :: l) = lastW l := by
  cases l with
  | nil => exact absurd rfl h
  | cons c l => simp [lastW]
theorem last_body : ∀ {l : List Wd}, l.length % 2 = 0 → l ≠ [] → lastW l ∈ (pairL l).map (·.2)
  | [], _, h => absurd rfl h
  | [_], h, _ => by simp at h
  | [a, b], _, _ => .head _
  | [_, _, _], h, _ => by simp at h
  | a :: b :: c :: d :: r, h, _ => by
    have ih := last_body (l := c :: d :: r) (by simp only [List.length_cons] at h ⊢; wtm_at "om") (by simp)
    rw [lastW_cons2 a b _ (by simp)]
    exact .tail _ ih
theorem lastW_drop {l : List Wd} {k : Nat} (h : k < l.length) : lastW (l.drop k) = lastW l := by
  unfold lastW
  rw [List.length_drop]
  simp only [List.getD, List.getElem?_drop]
  rw [show k + (l.length - k - 1) = l.length - 1 by wtm_at "om"]
theorem chosen_true {m : Wd} {nc : Bool} {t : Wd} : ∀ {ps : List (Wd × Wd)} {b : Wd} {bs : List Wd}, ((ps.map (·.2)).filter fun w => w != u "-") = b :: bs → chosenL m nc t ps true = some b
  | [], b, bs, h => by simp at h
  | (p, c) :: ps, b, bs, h => by
    unfold chosenL
    rw [Bool.true_or, Bool.true_or, if_pos rfl]
    cases hc : (c != u "-") with
    | true =>
      rw [List.map_cons, List.filter_cons_of_pos (by exact hc)] at h
      rw [if_pos rfl]
      exact congrArg some (List.cons.inj h).1
    | false =>
      rw [List.map_cons, List.filter_cons_of_neg (by rw [show ((p, c).2 != u "-") = false from hc]; decide)] at h
      rw [if_neg (by decide)]
      exact chosen_true h
theorem due_ok {γ : Fx} {κ : Cells} {ws : List Wd} {L : Wd} {Li : List Wd} {f : Option Exc} {Φ : D → Cells → Prop} {Ξ : Exc → Cells → Prop} (hn : 15 ≤ γ.n) (hl : ws.length ≤ 900) (hdl : ∀ w ∈ ws.dropLast, w ∈ allWs) (hla : ∀ w ∈ ws, w.length ≤ 1000) (hlast : ∀ w, ws.getLast? = some w → w ≠ L → w ∈ allWs) (hLi : Li.length ≤ 900 ∧ ∀ w ∈ Li, w ∈ allWs)
    (h : Φ (outD (act (u "switch") ws (lawR (ws.getLastD []) L Li f))) κ) : WPF γ (.ref 356) [.lst ((u "switch" :: ws).map .str), .tup [.str L, .lst (Li.map .str), faultO f]] κ Φ Ξ := by
  refine F_in fm_law_due fk_law_due (names := ["words", "listed"]) (ρ := [("listed", .tup [.str L, .lst (Li.map .str), faultO f]), ("words", .lst ((u "switch" :: ws).map .str))]) (by wtm_at "om") (by decide +kernel) rfl rfl (fun s vs hS hl => ?_) (fun γ' g1 g2 g3 => ?_)
  · refine lenE2 hl (fun _ _ => ?_)
    exact BindsTo.of_eq (by rfl)
  · refine kB_cons ?_
    have l1 : ((u "switch" :: ws).map D.str).length = ws.length + 1 := by rw [List.length_map, List.length_cons]
    unfold act at h
    by_cases h2 : ws.length < 2
    · rw [if_pos h2] at h
      wtm_at "m"
      refine usage_ok (b := false) (by wtm_at "om") ?_
      wtm_at "m"
      exact h
    · rw [if_neg h2] at h
      have hdr : ((u "switch" :: ws).map D.str).drop (1 : Int).toNat = ws.map D.str := rfl
      wtm_at "m"
      rw [hdr]
      refine ahead_ok (by wtm_at "om") (by wtm_at "om") hdl ?_
      cases ho : optsL [] false ws with
      | inr x =>
        rw [ho] at h
        intro m nc r
        wtm_at "m"
        exact h
      | inl o =>
        obtain ⟨m, nc, rest⟩ := o
        rw [ho] at h
        obtain ⟨hr2, k, rfl⟩ := optsL_suf (by wtm_at "om") ho
        have hk : k + 2 ≤ ws.length := by rw [List.length_drop] at hr2; wtm_at "om"
        have h : Φ (outD (actRest (u "switch") m nc (ws.drop k) (lawR (ws.getLastD []) L Li f))) κ := h
        unfold actRest at h
        unfold aheadOk
        have hdr2 : ((ws.drop k).map D.str).drop (1 : Int).toNat = ((ws.drop k).drop 1).map D.str := by rw [List.map_drop (i := 1)]; rfl
        have hlr : ((ws.drop k).map D.str).length ≤ 1000 := by rw [List.length_map, List.length_drop]; wtm_at "om"
        wtm_at "m"
        rw [hdr2]
        have hW1 : ((ws.drop k).drop 1).length = ws.length - k - 1 := by simp; wtm_at "om"
        have hsub : ∀ w ∈ (ws.drop k).drop 1, w ∈ ws := fun w hw => List.mem_of_mem_drop (List.mem_of_mem_drop hw)
        have hone : ∀ w, (ws.drop k).drop 1 = [w] → ws.getLast? = some w := fun w hw => by
          have e : (ws.drop (k + 1)).getLast? = some w := by rw [show ws.drop (k + 1) = (ws.drop k).drop 1 by rw [List.drop_drop], hw]; rfl
          rw [List.getLast?_drop] at e
          split at e
          · cases e
          · exact e
        have hdl2 : ∀ w ∈ ((ws.drop k).drop 1).dropLast, w ∈ allWs := fun w hw => by
          refine hdl w ?_
          rw [List.drop_drop, List.dropLast_eq_take, List.length_drop] at hw
          obtain ⟨i, hi, e⟩ := List.mem_iff_getElem.mp hw
          rw [List.length_take, List.length_drop] at hi
          rw [List.getElem_take, List.getElem_drop] at e
          rw [List.dropLast_eq_take]
          refine List.mem_iff_getElem.mpr ⟨k + 1 + i, by rw [List.length_take]; wtm_at "om", ?_⟩
          rw [List.getElem_take]
          exact e
        have hpR : pairsS (u "switch") ((ws.drop k).drop 1) (lawR (((ws.drop k).drop 1).headD []) L Li f) = pairsS (u "switch") ((ws.drop k).drop 1) (lawR (ws.getLastD []) L Li f) := by
          by_cases h1 : ((ws.drop k).drop 1).length = 1
          · obtain ⟨w, hw⟩ := List.length_eq_one_iff.mp h1
            have := hone w hw
            rw [hw, List.getLastD_eq_getLast?, this]
            rfl
          · unfold pairsS
            rw [if_neg h1, if_neg h1]
        have hRin : ∀ is, lawR (ws.getLastD []) L Li f = .inl is → ∀ w ∈ is, w ∈ allWs := fun is e w hw => by
          unfold lawR at e
          split at e
          · cases f with
            | none => cases e; exact hLi.2 w hw
            | some x => cases e
          · rename_i hne
            split at e
            · cases e; cases hw
            · split at e
              · cases e
                rw [List.mem_singleton.mp hw]; decide +kernel
              · cases e
                rw [List.mem_singleton.mp hw]
                have hge : ws.getLast? = some (ws.getLastD []) := by
                  rw [List.getLastD_eq_getLast?]
                  cases hq : ws.getLast? with
                  | none => rw [List.getLast?_eq_none_iff] at hq; rw [hq] at hk; simp at hk
                  | some y => rfl
                exact hlast _ hge (by simpa using hne)
        have htm : (ws.drop k).getD 0 [] ∈ allWs := by
          refine hdl _ ?_
          rw [List.dropLast_eq_take]
          refine List.mem_iff_getElem.mpr ⟨k, by rw [List.length_take]; wtm_at "om", ?_⟩
          rw [List.getElem_take]
          simp [List.getD, List.getElem?_eq_getElem (show k < ws.length by wtm_at "om")]
        refine items_ok (L := L) (Li := Li) (f := f) (by wtm_at "om") (by wtm_at "om") (by wtm_at "om") (fun w hw => hla w (hsub w hw)) hLi (fun w hw hne => hlast w (hone w hw) hne) ?_
        rw [hpR]
        cases hp : pairsS (u "switch") ((ws.drop k).drop 1) (lawR (ws.getLastD []) L Li f) with
        | inr x =>
          rw [hp] at h
          refine ⟨fun x' d e => ?_, fun ps is e => (nomatch e)⟩
          cases e
          wtm_at "m"
          exact h
        | inl ps =>
          rw [hp] at h
          refine ⟨fun x' d e => (nomatch e), fun ps' is e1 e2 e3 e4 => ?_⟩
          cases e1
          have h : Φ (outD (outO (chosenL m nc ((ws.drop k).getD 0 []) ps false))) κ := h
          refine absP fun _ kk => ?_
          obtain ⟨is', q1, q2, q3, q4⟩ := pairsS_dom hp hdl2 hRin
          refine kk ?_
          clear kk
          obtain rfl : is' = is := pairL_inj q2 e3 (q1.symm.trans e2)
          generalize htx : (ws.drop k).getD 0 [] = t at h htm
          have hgt : ((ws.drop k).map D.str)[(0 : Int).toNat]? = some (.str t) := by rw [← htx]; exact map_get (by rw [List.length_drop]; wtm_at "om")
          have li : (is'.map D.str).length = is'.length := List.length_map ..
          generalize hC : chosenL m nc t ps false = C at h
          rw [q1] at hC q4
          wtm_at "m"
          refine S_weak (Wk.of (ρ' := [("last", .int ((is'.length : Int) - 2)), ("items", .lst (is'.map .str)), ("rest", .lst ((ws.drop k).map .str)), ("is_folded", .bool nc), ("mode", .str m)]) ⟨by rw [← li]; rfl, rfl, rfl, rfl, rfl, trivial⟩ (.refl _)) ?_
          let I : List D → St → Prop := fun ds S => ∃ j : Nat, j ≤ is'.length ∧ j % 2 = 0 ∧ ds = (rngL j 2 ((is'.length - j) / 2)).map D.int ∧ S = ⟨[("last", .int ((is'.length : Int) - 2)), ("items", .lst (is'.map .str)), ("rest", .lst ((ws.drop k).map .str)), ("is_folded", .bool nc), ("mode", .str m)], κ⟩ ∧ chosenL m nc t (pairL (is'.drop j)) false = C ∧ ∀ x ∈ pairL (is'.drop j), x.1 ∈ allWs
          refine kS_forI I ?_ ?_ ?_ ?_ ?_
          · exact kind_of g2 (by rfl)
          · wtm_at "m"
            rw [li]
            exact ⟨_, I_rng (small_rng2 (by wtm_at "om")), 0, by wtm_at "om", rfl, by rw [rng_size2, show ((((is'.length + 1) / 2 : Nat) : Int)).toNat = (is'.length - 0) / 2 from half1 q2]; rfl, rfl, hC, q4⟩
          · intro _; rfl
          · intro d ds S hh
            refine absP fun _ kk => ?_
            obtain ⟨j, hj, j2, f1, rfl, f3, f4⟩ := hh
            refine kk ?_
            clear kk
            cases hm : (is'.length - j) / 2 with
            | zero => rw [hm] at f1; cases f1
            | succ n =>
              rw [hm] at f1
              cases f1
              have hj1 : j + 1 < is'.length := halfs hm
              have hgp : (is'.map D.str)[(j : Int).toNat]? = some (.str (is'.getD j [])) := by rw [Int.toNat_natCast]; exact map_get (Nat.lt_of_succ_lt hj1)
              rw [pairL_drop hj1] at f3 f4
              have hpm := f4 _ (.head _)
              simp only at hpm
              have f4' : ∀ x ∈ pairL (is'.drop (j + 2)), x.1 ∈ allWs := fun x hx => f4 x (.tail _ hx)
              have hE : (pairL (is'.drop (j + 2))).isEmpty = ((j : Int) == (is'.length : Int) - 2) := by
                rw [Bool.eq_iff_iff, beq_iff_eq, List.isEmpty_iff]
                constructor
                · intro e
                  have he : (is'.drop (j + 2)).length % 2 = 0 := by rw [List.length_drop]; exact evs q2 (evnp j2)
                  have : is'.drop (j + 2) = [] := pairL_inj he rfl e
                  rw [List.drop_eq_nil_iff] at this
                  wtm_at "om"
                · intro e
                  rw [List.drop_of_length_le (by wtm_at "om")]; rfl
              have hde : (is'.drop j).length % 2 = 0 := by rw [List.length_drop]; exact evs q2 j2
              have hev : evens ((is'.map D.str).drop ((j : Int) + 1).toNat) = ((pairL (is'.drop j)).map (·.2)).map .str := by
                rw [← bodies_ev hde, ← evens_map, List.drop_drop, List.map_drop]; rfl
              have hbl : ((pairL (is'.drop j)).map (·.2)).length ≤ 1000000 := by
                have := pairL_len (is'.drop j)
                rw [List.length_drop] at this
                rw [List.length_map]; wtm_at "om"
              obtain ⟨b, bs, hb⟩ : ∃ b bs, ((pairL (is'.drop j)).map (·.2)).filter (fun w => w != u "-") = b :: bs := by
                have hmem : lastW (is'.drop j) ∈ (pairL (is'.drop j)).map (·.2) := last_body hde (by intro e; rw [List.drop_eq_nil_iff] at e; wtm_at "om")
                rw [lastW_drop (by wtm_at "om")] at hmem
                have : lastW is' ∈ ((pairL (is'.drop j)).map (·.2)).filter (fun w => w != u "-") := List.mem_filter.mpr ⟨hmem, by rw [show (lastW is' != u "-") = !(lastW is' == u "-") from rfl, q3]; rfl⟩
                cases hq : ((pairL (is'.drop j)).map (·.2)).filter (fun w => w != u "-") with
                | nil => rw [hq] at this; cases this
                | cons b bs => exact ⟨b, bs, rfl⟩
              have hct := chosen_true (m := m) (nc := nc) (t := t) hb
              have hfin : (((pairL (is'.drop (j + 2))).isEmpty && is'.getD j [] == u "default") || isFit m nc t (is'.getD j [])) = true → C = some b := fun hc => by
                rw [← f3, ← hct, pairL_drop hj1]
                unfold chosenL
                rw [Bool.false_or, hc, Bool.true_or, Bool.true_or]
              refine kB_cons ?_
              refine kS_ifJ (C = some b) (fun hCb => ?_) ?_
              · rw [hCb] at h
                wtm_at "m"
                rw [hev]
                refine ⟨_, IA_lst, by rw [List.length_map]; exact hbl, fun γc c1 c2 c3 => ?_⟩
                let I : List D → List D → Cells → Prop := fun ds acc κ' => κ' = κ ∧ ∃ l : List Wd, ds = l.map .str ∧ acc ++ (l.filter fun w => w != u "-").map .str = (b :: bs).map .str
                refine CompP.ind I ?_ ?_ _ _ _ ?_
                · intro d ds acc κ' hh
                  refine absP fun _ kk => ?_
                  obtain ⟨rfl, l, q1, q3⟩ := hh
                  refine kk ?_
                  clear kk
                  cases l with
                  | nil => cases q1
                  | cons w l =>
                    cases q1
                    refine I_one ?_
                    wtm_at "m"
                    · rename_i e
                      rw [← q3, List.filter_cons_of_pos (by exact e), List.map_cons, List.append_assoc]; rfl
                    · rename_i e
                      rw [← q3, List.filter_cons_of_neg (by rw [show (w != u "-") = false from e]; decide)]
                · intro acc κ' hh
                  refine absP fun _ kk => ?_
                  obtain ⟨rfl, l, q1, q3⟩ := hh
                  refine kk ?_
                  clear kk
                  cases l with
                  | cons => cases q1
                  | nil =>
                    rw [List.filter_nil, List.map_nil, List.append_nil] at q3
                    subst q3
                    wtm_at "m"
                    exact h
                · exact ⟨rfl, _, rfl, by rw [hb]; rfl⟩
              · wtm_at "m"
                · rename_i e1 e2
                  exact hfin (by rw [hE, e2, show (is'.getD j [] == u "default") = true from e1]; rfl)
                · rename_i e1 e2
                  refine lfits_ok (by wtm_at "om") hpm htm ?_
                  rw [fits_eq hpm htm]
                  wtm_at "m"
                  · rename_i e3
                    exact hfin (by rw [e3, Bool.or_true])
                  · rename_i e3
                    have hcnd : ((pairL (is'.drop (j + 2))).isEmpty && is'.getD j [] == u "default") = false := by rw [hE]; rw [e2]; rfl
                    refine ⟨⟨[("last", .int ((is'.length : Int) - 2)), ("items", .lst (is'.map .str)), ("rest", .lst ((ws.drop k).map .str)), ("is_folded", .bool nc), ("mode", .str m)], κ⟩, Wk.of ⟨rfl, rfl, rfl, rfl, rfl, trivial⟩ (.refl _), j + 2, hj1, evnp j2, by rw [step2 hm]; rfl, rfl, ?_, f4'⟩
                    unfold chosenL at f3
                    rw [hcnd, e3, Bool.false_or, Bool.false_or, if_neg (by decide)] at f3
                    exact f3
                · rename_i e1
                  refine lfits_ok (by wtm_at "om") hpm htm ?_
                  rw [fits_eq hpm htm]
                  wtm_at "m"
                  · rename_i e3
                    exact hfin (by rw [e3, Bool.or_true])
                  · rename_i e3
                    have hcnd : ((pairL (is'.drop (j + 2))).isEmpty && is'.getD j [] == u "default") = false := by rw [hE]; rw [show (is'.getD j [] == u "default") = false from e1, Bool.and_false]
                    refine ⟨⟨[("last", .int ((is'.length : Int) - 2)), ("items", .lst (is'.map .str)), ("rest", .lst ((ws.drop k).map .str)), ("is_folded", .bool nc), ("mode", .str m)], κ⟩, Wk.of ⟨rfl, rfl, rfl, rfl, rfl, trivial⟩ (.refl _), j + 2, hj1, evnp j2, by rw [step2 hm]; rfl, rfl, ?_, f4'⟩
                    unfold chosenL at f3
                    rw [hcnd, e3, Bool.false_or, Bool.false_or, if_neg (by decide)] at f3
                    exact f3
          · intro S hh
            refine absP fun _ kk => ?_
            obtain ⟨j, hj, j2, f1, rfl, f3, f4⟩ := hh
            refine kk ?_
            clear kk
            cases hm : (is'.length - j) / 2 with
            | zero =>
              rw [List.drop_of_length_le (half0 q2 j2 hm)] at f3
              rw [← f3] at h
              wtm_at "m"
              exact h
            | succ n => rw [hm] at f1; cases f1
end

section
-- XA
section
variable {B0 : Heap} {nss : Nss} {l l' : List Env} {N : Fz} {F : Rw} {e : Addr} {x : Exc} {κ : Cells} {h : Heap}
theorem RaisedH.hp (R : RaisedH B0 nss l N F e x κ h) : Hp B0 nss N F κ h := by
  refine absP fun _ kk => ?_
  obtain ⟨B, dx, b1, b2, b3, b4, b5, b6⟩ := R.B
  refine kk ?_
  clear kk
  exact ⟨fun b o eo => b5 _ _ (b1 _ _ eo), R.ns, fun p hp => b5 _ _ (b2 p hp), fun p hp => b5 _ _ (b3 p hp), fun p hp => let ⟨o, a, c⟩ := b4 p hp; ⟨o, b5 _ _ a, c⟩, R.lowS, R.lowK, R.lowF, R.big, R.nsd, R.ced, R.frd, R.nsN, R.nsF, R.nsK, R.NF, R.NK, R.FK⟩
structure ExcIs (N : Fz) (h : Heap) (e : Addr) (x : Exc) : Prop where
  there : ∃ oe vs dx od es ep, h.get? e = some oe ∧ oe.cls = .ref 33 ∧ oe.dict = some dx ∧ oe.data = .fields vs ∧ (dx, od) ∈ N.l ∧ od.data = .dict es ep ∧ StrKeys es ∧
    ∃ v1 v2 v3, nsFind es "code" = some v1 ∧ nsFind es "value" = some v2 ∧ nsFind es "errorcode" = some v3 ∧ VR N v1 (.int x.code) ∧ VR N v2 (.str x.value) ∧ VR N v3 (.tup (x.ec.map .str))
theorem ExcIs.elim {p : Prop} (X : ExcIs N h e x) (f : ∀ oe vs dx od es ep, h.get? e = some oe → oe.cls = .ref 33 → oe.dict = some dx → oe.data = .fields vs → (dx, od) ∈ N.l → od.data = .dict es ep → StrKeys es →
    ∀ v1 v2 v3, nsFind es "code" = some v1 → nsFind es "value" = some v2 → nsFind es "errorcode" = some v3 → VR N v1 (.int x.code) → VR N v2 (.str x.value) → VR N v3 (.tup (x.ec.map .str)) → p) : p := by
  refine absP fun _ kk => ?_
  obtain ⟨oe, vs, dx, od, es, ep, a1, a2, a3, a4, c1, c2, c3, v1, v2, v3, c4, c5, c6, c7, c8, c9⟩ := X.there
  refine kk ?_
  clear kk
  exact f _ _ _ _ _ _ a1 a2 a3 a4 c1 c2 c3 _ _ _ c4 c5 c6 c7 c8 c9
theorem RaisedH.is (R : RaisedH B0 nss l N F e x κ h) : ExcIs N h e x := by
  refine absP fun _ kk => ?_
  obtain ⟨B, dx, b1, b2, b3, b4, b5, b6, b7, ⟨oe, vs, a1, a2, a3, a4, _⟩, ⟨od, es, ep, v1, v2, v3, c1, c2, c3, c4, c5, c6, c7, c8, c9⟩⟩ := R.B
  refine kk ?_
  clear kk
  exact ⟨oe, vs, dx, od, es, ep, a1, a2, a3, a4, c1, c2, c3, v1, v2, v3, c4, c5, c6, c7, c8, c9⟩
theorem ExcIs.mono {N' : Fz} {h' : Heap} (l : Le N N') (X : ExcIs N h e x) (k : ∀ o, h.get? e = some o → h'.get? e = some o) : ExcIs N' h' e x := by
  refine X.elim fun oe vs dx od es ep a1 a2 a3 a4 c1 c2 c3 v1 v2 v3 c4 c5 c6 c7 c8 c9 => ?_
  exact ⟨oe, vs, dx, od, es, ep, k _ a1, a2, a3, a4, l.1 _ c1, c2, c3, v1, v2, v3, c4, c5, c6, c7.mono l, c8.mono l, c9.mono l⟩
end
theorem lookIn_ns {name : PySem.Str} {od : Obj} {es : Array DictEntry} {ep : Nat} {v : Value} (hd : od.data = .dict es ep) (hv : nsFind es name = some v) : lookIn name od = some (some v) := by
  unfold lookIn
  rw [hd]
  unfold nsFind findBy at hv
  rw [← Array.find?_toList] at hv
  cases hq : es.toList.find? (fun e => e.key.isStr name) with
  | none => rw [hq] at hv; cases hv
  | some e => rw [hq] at hv; cases hv; simp only [hq]
theorem VR.handed {N : Fz} {v : Value} {d : D} (r : VR N v d) (h : ∀ w, d ≠ .val w) : handedIn v = true := by
  cases r <;> first | rfl | exact absurd rfl (h _)
section
variable {w : World} {A : Around} {E : Value → Shared → Prop} {s : Shared} {name : PySem.Str} {expr : Bool} {Q : Value → Shared → Prop} {x dx C : Addr} {ox od : Obj} {es : Array DictEntry} {ep : Nat} {v : Value}
theorem field_get (says : Says w s.heap) (hx : s.heap.get? x = some ox) (hc : ox.cls = .ref C) (hn : notCls ox = true) (hdx : ox.dict = some dx) (hd : s.heap.get? dx = some od) (hdd : od.data = .dict es ep) (hv : nsFind es name = some v) (hh : handedIn v = true)
    (hK : ∀ P, plainGet (K P) C name = true ∧ hasDictIn (K P) C = true ∧ findIn (K P) (.ref C) name = some none) (h : Q v { s with toks := s.toks + 1 }) : wpAny (md w) A (getAttr (.ref x) name expr) Q E s := by
  refine absP fun _ kk => ?_
  obtain ⟨k1, k2, k3⟩ := hK w.params
  refine kk ?_
  clear kk
  refine get_value (od := some od) says.K ⟨hx, hc, hn, ?_⟩ (plainGet_of k1).1 (findObj_own k2 k3 rfl (lookIn_ns hdd hv)) hh h
  rw [hdx]; exact hd
end
noncomputable abbrev exGa (P : Params) : Prop := findIn (K P) (.ref 33) "__getattribute__" = some (some (.builtin "BaseException.__getattribute__")) ∧ findIn (K P) (.ref 33) "__getattr__" = some none ∧ hasDictIn (K P) 33 = true
theorem exGa_all : ∀ P, exGa P := fun P => ⟨by kernel_rfl, by kernel_rfl, by kernel_rfl⟩
section
variable {w : World} {A : Around} {E : Value → Shared → Prop} {s : Shared} {name : PySem.Str} {expr : Bool} {Q : Value → Shared → Prop} {x dx : Addr} {ox od : Obj} {es : Array DictEntry} {ep : Nat} {v : Value}
theorem exc_field_get (says : Says w s.heap) (hx : s.heap.get? x = some ox) (hc : ox.cls = .ref 33) (hn : notCls ox = true) (hdx : ox.dict = some dx) (hd : s.heap.get? dx = some od) (hdd : od.data = .dict es ep) (hv : nsFind es name = some v) (hh : handedIn v = true)
    (hK : ∀ P, findIn (K P) (.ref 33) name = some none) (h : Q v { s with toks := s.toks + 1 }) : wpAny (md w) A (getAttr (.ref x) name expr) Q E s := by
  refine absP fun _ kk => ?_
  obtain ⟨k1, k2, k3⟩ := exGa_all w.params
  refine kk ?_
  clear kk
  have I : PySem.W.InstAt s.heap x ox 33 (some od) := ⟨hx, hc, hn, by rw [hdx]; exact hd⟩
  have hf := findObj_own k3 (hK w.params) rfl (lookIn_ns hdd hv)
  refine absP fun _ kk => ?_
  obtain ⟨hp, g, d, t, os⟩ := s
  refine kk ?_
  clear kk
  have X := says.K
  have L0 := I.type (M := md w)
  have L1 := looks_findIn (M := md w) X k1
  have L2 := looks_findIn (M := md w) X k2
  have L3 := looks_find (M := md w) X I hf
  have f3 := PySem.F.attr_Exception.ga.bind (.ref x)
  have hx0 : (expr && onTheHeap (Value.builtin "BaseException.__getattribute__")) = false := by cases expr <;> rfl
  have hx2 : (Value.builtin "BaseException.__getattribute__" == Value.builtin "object.__getattribute__") = false := by decide +kernel
  have hx1 : (onTheHeap (Value.ref 33) && Value.builtin "BaseException.__getattribute__" == Value.builtin "object.__getattribute__") = false := by rw [hx2]; rfl
  unfold getAttr getAttrBy
  refine wpAny_bind (wpAny_mkText (wpAny_holding (wpAny_bind (L0.at (wpAny_bind (L1.at ?_))))))
  simp only [hx1, Bool.false_eq_true, if_false]
  unfold getAttrByItsOwn hookBefore
  rw [show onTheHeap (Value.ref 33) = true from rfl, if_pos rfl]
  refine wpAny_bind (L2.at (wpAny_bind (wpAny_attempt (wpAny_holding ?_))))
  unfold callGetattribute
  rw [if_neg (by rw [hx0]; decide)]
  unfold boundAndCalled
  rw [f3]
  refine wpAny_bind (wpAny_pure ?_)
  refine wpAny_call (codeAny_call_builtin PySem.F.attr_Exception.ga.plain PySem.F.entry_bexc_ga (wpAny_check_ga_own PySem.F.attrBase_Exception (c33 says) .base hx hc ?_))
  refine wpAny_bind (wpAny_pure (wpAny_bind (wpAny_pure (wpAny_bind (L0.at (wpAny_bind (L3.at ?_)))))))
  refine wpAny_pure ?_
  show wpAny _ _ (handedOut v) _ _ _
  rw [handedOut_of hh]; exact wpAny_pure h
end
theorem k_code : ∀ P, findIn (K P) (.ref 33) "code" = some none := fun P => by kernel_rfl
theorem k_value : ∀ P, findIn (K P) (.ref 33) "value" = some none := fun P => by kernel_rfl
theorem k_errorcode : ∀ P, findIn (K P) (.ref 33) "errorcode" = some none := fun P => by kernel_rfl
theorem K54 (name : PySem.Str) (h : ∀ P, findIn (K P) (.ref 54) name = some none) : ∀ P, plainGet (K P) 54 name = true ∧ hasDictIn (K P) 54 = true ∧ findIn (K P) (.ref 54) name = some none :=
  fun P => ⟨by kernel_rfl, by kernel_rfl, h P⟩
theorem k_script : ∀ P, plainGet (K P) 54 "script" = true ∧ hasDictIn (K P) 54 = true ∧ findIn (K P) (.ref 54) "script" = some none := K54 _ fun P => by kernel_rfl
theorem k_back : ∀ P, plainGet (K P) 54 "back" = true ∧ hasDictIn (K P) 54 = true ∧ findIn (K P) (.ref 54) "back" = some none := K54 _ fun P => by kernel_rfl
theorem k_is_proc : ∀ P, plainGet (K P) 54 "is_proc" = true ∧ hasDictIn (K P) 54 = true ∧ findIn (K P) (.ref 54) "is_proc" = some none := K54 _ fun P => by kernel_rfl
theorem k_label : ∀ P, plainGet (K P) 54 "label" = true ∧ hasDictIn (K P) 54 = true ∧ findIn (K P) (.ref 54) "label" = some none := K54 _ fun P => by kernel_rfl
section
variable {γ : Fx} {S : St} {Ξ : Exc → Cells → Prop} {Φ : D → St → Prop} {x name : PySem.Str} {p1 pos : Pos} {t : Wd}
theorem E_field {d : D} (hx : S.ρ.lookup x = some (.nest t)) (hk : ∀ P, plainGet (K P) 54 name = true ∧ hasDictIn (K P) 54 = true ∧ findIn (K P) (.ref 54) name = some none) (hnd : ∀ w, d ≠ .val w)
    (hf : ∀ N' es v, nsFind es "script" = some v → VR N' v (.str t) → nsFind es "back" = some .none → nsFind es "is_proc" = some (.bool false) → (∃ u, nsFind es "label" = some (.str "" u)) → ∃ v', nsFind es name = some v' ∧ VR N' v' d)
    (h : Φ d S) (hd : (x == ("__debug__" : PySem.Str)) = false := by decide) : WPE γ (.Attribute (.Name x p1) name pos) S Φ Ξ := fun N F hp tk sat Q E C => by
  refine Attribute_name ?_
  refine E_name hx (Φ := fun d' S' => d' = .nest t ∧ S' = S) ⟨rfl, rfl⟩ hd N F hp tk sat _ E (C.then fun N₁ v₁ d₁ S₁ h₁ tk₁ le₁ sat₁ r₁ k₁ => ?_)
  obtain ⟨rfl, rfl⟩ := k₁
  cases r₁ with
  | nest h1 h2 a z b c d1 e r f g i =>
    refine absP fun _ kk => ?_
    obtain ⟨v', q1, q2⟩ := hf N₁ _ _ e r f g i
    refine kk ?_
    clear kk
    exact field_get (sat₁.ok.gd.says.keeps sat₁.base) (sat₁.fro h1) a (by unfold notCls; split <;> first | (rename_i cd e; exact absurd e (z _)) | rfl) b (sat₁.fro h2) c q1 (q2.handed hnd) hk ((C.mono le₁).go sat₁ q2 h)
end
end

section
-- XB
theorem gl_Raised' : ((Str.ofString "Raised"), some (Value.ref 33)) ∈ glob := .head _
theorem S_tryF {γ : Fx} {S : St} {Ξ : Exc → Cells → Prop} {Ψ : AF → St → Prop} {body : List Stmt} {outer : List Env} {L : Addr} {k : Nat} {p1 p2 p3 p4 p5 p6 p7 p8 p9 pa pos : Pos}
    (he : γ.envs = γ.env :: outer) (hf : γ.env.frame = some L) (hkR : γ.env.kindOf (Str.ofString "Raised") = some .globalImplicit) (hkf : γ.env.kindOf (Str.ofString "fault") = some .local)
    (h : WPB γ body S Ψ (fun x κ => Ψ (.ret (faultD x)) ⟨[], κ⟩)) :
    WPS γ (.Try body [.ExceptHandler (some (.Name (Str.ofString "Raised") p1)) (some (Str.ofString "fault")) [.Return (some (.Tuple [.Attribute (.Name (Str.ofString "fault") p2) (Str.ofString "code") p3, .Attribute (.Name (Str.ofString "fault") p4) (Str.ofString "value") p5, .Attribute (.Name (Str.ofString "fault") p6) (Str.ofString "errorcode") p7] k p8)) p9] pa] [] [] pos) S Ψ Ξ := fun N F hp tk sat Q E C => by
  refine wpAny_Try_except ?_
  refine h N F hp tk sat _ _ ⟨?_, fun N' a b S' h' tk' le sat' r p => ?_, fun N' e x κ' h' tk' le ok R p => ?_⟩
  · exact PassesOwn.looking (K := fun e s₂ => wpAny (md γ.w) γ.A (setFlight e none) (fun _ s₃ => wpAny (md γ.w) γ.A (handleBy e γ.env _) Q E s₃) E s₂) (E₁ := E)
  · cases r with
    | next => exact wpAny_execs_nil (C.ok N' _ _ S' h' tk' le sat' .next p)
    | brk => exact C.ok N' _ _ S' h' tk' le sat' .brk p
    | cont => exact C.ok N' _ _ S' h' tk' le sat' .cont p
    | ret r => exact C.ok N' _ _ S' h' tk' le sat' (.ret r) p
  · refine absP fun _ kk => ?_
    obtain ⟨htk, m, R⟩ := R
    refine kk ?_
    clear kk
    have hfr : γ.A.frames = some (γ.env :: outer) := by rw [← he]; exact ok.fr
    refine absP fun _ kk => ?_
    obtain ⟨B, dx, b1, b2, b3, b4, b5, b6, b7, b8, b9⟩ := id R.B
    refine kk ?_
    clear kk
    rw [he] at b7
    refine wp_note hfr b7 hf b8 b5 b6 fun h₁ y₁ => ?_
    refine wp_flightOff (s := γ.mk' h₁ tk') y₁ b6 fun h₂ y₂ => ?_
    have says₂ : Says γ.w h₂ := ok.gd.says.keeps fun b o eo => y₂.stays _ _ (b1 _ _ eo)
    refine absP fun _ kk => ?_
    obtain ⟨oe, vs, T, oT, ts, a1, a2, a3, a4, _⟩ := id y₂.there
    refine kk ?_
    clear kk
    refine wpAny_handleBy_cons (codeAny_handlers_test ?_) (by intro q; (first | (refine VR.intE q ?_; intro _) | (refine VR.strE q ?_; intro _ _ _) | refine VR.boolE q ?_ | refine VR.noneE q ?_ | refine VR.refE q ?_ | refine VR.valE q ?_ | (refine VR.strxE q ?_; intro _) | cases q))
    refine absP fun _ kk => ?_
    obtain ⟨mg, hg, hG⟩ := says₂.G
    refine kk ?_
    clear kk
    refine Name_function_global ok.kind hkR (loadGlobal_global (by rw [ok.glob]; exact hg) (hG _ gl_Raised') ?_)
    refine wpAny_excMatches_sub_self (h := h₂) (c33 says₂) a1 a2 (by decide) ?_
    refine codeAny_handlers_suite_as ?_
    refine wp_flightOff (s := γ.mk' h₂ tk') y₂ b6 fun h₃ y₃ => ?_
    have R₃ : RaisedH γ.B0 ((γ.env.locals, m) :: γ.outs) γ.envs N' F e x κ' h₃ :=
      ⟨⟨B, dx, b1, b2, b3, b4, y₃.stays, b6, by rw [he]; exact y₃.frames, y₃.exc, b9⟩, fun p hp => y₃.slots.ns (R.ns p hp), R.lowS, R.lowK, R.lowF, Nat.le_trans R.big y₃.size, R.nsd, R.ced, R.frd, R.nsN, R.nsF, R.nsK, R.NF, R.NK, R.FK⟩
    have H₃ := R₃.hp
    refine wpAny_storeName_local (s := γ.mk' h₃ tk') hkf (H₃.ns _ (.head _)) (fun h₄ hn₄ hs₄ => ?_) (store_fn ok.kind)
    have X₃ := R₃.is
    have hne : e ≠ γ.env.locals := fun q => by
      refine X₃.elim fun oe vs dx od es ep z1 z2 z3 z4 _ _ _ _ _ _ _ _ _ _ _ _ => ?_
      refine absP fun _ kk => ?_
      obtain ⟨oL, esL, epL, l1, l2, _⟩ := H₃.ns _ (.head _)
      refine kk ?_
      clear kk
      rw [q] at z1
      have : oe = oL := Option.some.inj (z1.symm.trans l1)
      subst this
      rw [z4] at l2; cases l2
    have X₄ : ExcIs N' h₄ e x := X₃.mono (Le.refl _) fun o eo => (hs₄.2 e hne).trans eo
    have sat₄ : Sat γ N' F ⟨[((Str.ofString "fault"), .ref e)], κ'⟩ h₄ (tk' + 1) := by
      refine ⟨ok, htk.mono (Nat.le_succ _), ⟨_, H₃.store hn₄ hs₄, fun y d ey => ?_⟩, fun y d ey => ?_⟩
      · simp only [List.lookup_cons, List.lookup_nil] at ey
        cases q : y == Str.ofString "fault" with
        | true =>
          rw [q] at ey; cases ey
          have := eq_of_beq q
          subst this
          exact ⟨hkf, .ref e, by simp, .ref e⟩
        | false => rw [q] at ey; cases ey
      · refine absP fun _ kk => ?_
        obtain ⟨c, o, v, q1, q2, q3, q4⟩ := sat.cv y d ey
        refine kk ?_
        clear kk
        exact ⟨c, o, v, q1, le.1 _ q2, q3, q4.mono le⟩
    have says₄ := ok.gd.says.keeps sat₄.base
    refine X₄.elim fun oe vs dx od es ep z1 z2 z3 z4 z5 z6 z7 v1 v2 v3 w1 w2 w3 r1 r2 r3 => ?_
    have get : ∀ {A : Around} {Q' : Value → Shared → Prop} {E' : Value → Shared → Prop} {name : PySem.Str} {q1 q2 : Pos} {tk₁ : Nat} {v : Value} {d : D}, tk' + 1 ≤ tk₁ →
        (∀ P, findIn (K P) (.ref 33) name = some none) → nsFind es name = some v → VR N' v d → (∀ w, d ≠ .val w) →
        Q' v (γ.mk' h₄ (tk₁ + 1)) → wpAny (md γ.w) A (eval (.Attribute (.Name (Str.ofString "fault") q1) name q2) γ.env) Q' E' (γ.mk' h₄ tk₁) := by
      intro A Q' E' name q1 q2 tk₁ v d ht hk hv rv hnd hq
      refine Attribute_name ?_
      refine absP fun _ kk => ?_
      obtain ⟨m₄, H₄, hm₄⟩ := sat₄.m
      refine kk ?_
      clear kk
      refine absP fun _ kk => ?_
      obtain ⟨_, v', hv', rv'⟩ := hm₄ _ _ (show List.lookup (Str.ofString "fault") [((Str.ofString "fault"), D.ref e)] = some (.ref e) from by simp)
      refine kk ?_
      clear kk
      cases rv'
      refine wpAny_Name (fun Γ p _ => ?_) (by decide)
      rw [Sem.wp_loadName_local _ _ _ _ _ ok.kind hkf (H₄.ns _ (.head _)) hv']
      exact exc_field_get (s := γ.mk' h₄ tk₁) says₄ z1 z2 (by unfold notCls; rw [z4]) z3 (sat₄.fro z5) z6 hv (rv.handed hnd) hk hq
    refine wpAny_execs_cons (wpAny_Return_some (wpAny_Tuple ?_))
    refine Calls.spliced_cons (get (Nat.le_refl _) k_code w1 r1 (fun w => by simp) ?_)
    refine Calls.spliced_cons (get (Nat.le_succ _) k_value w2 r2 (fun w => by simp) ?_)
    refine Calls.spliced_cons (get (Nat.le_trans (Nat.le_succ _) (Nat.le_succ _)) k_errorcode w3 r3 (fun w => by simp) ?_)
    refine Calls.spliced_nil ⟨by rw [sizeLine_eq]; simp, ?_⟩
    have sat₅ := (sat₄.pushN { cls := .type "tuple", data := .seq #[v1, v2, v3] }).tkTo (show tk' + 1 ≤ tk' + 1 + 1 + 1 + 1 by omega)
    refine absP fun _ kk => ?_
    obtain ⟨m₅, H₅, _⟩ := id sat₅.m
    refine kk ?_
    clear kk
    refine wpAny_nameGoes hkf (H₅.ns _ (.head _)) (store_fn ok.kind) fun h₆ m₆ hn₆ hs₆ => ?_
    have sat₆ : Sat γ _ F ⟨[], κ'⟩ h₆ (tk' + 1 + 1 + 1 + 1 + 1) := ⟨ok, sat₅.tok.mono (Nat.le_succ _), ⟨m₆, H₅.store hn₆ hs₆, fun y d ey => by cases ey⟩, sat₅.cv⟩
    refine C.ok _ _ (.ret (faultD x)) _ h₆ _ (le.trans Le.cons) sat₆ (.ret ?_) p
    exact .tup (.head _) rfl rfl (.cons (r1.mono Le.cons) (.cons (r2.mono Le.cons) (.cons (r3.mono Le.cons) .nil)))
end

section
-- XC
theorem isIn54 : ∀ P, isIn (K P) (.ref 54) 54 = true := fun P => by kernel_rfl
theorem isNot54 : ∀ P, isNotIn (K P) "str" 54 = true := fun P => by kernel_rfl
section
variable {γ : Fx} {S : St} {Ξ : Exc → Cells → Prop} {Φ : D → St → Prop} {t : Wd}
theorem isi_nest (h : Φ (.bool true) S) : WPC γ (.builtin "isinstance") [.nest t, .val (.ref 54)] S Φ Ξ := fun N vs rs F hp tk sat Q E C => by
  cases rs with | cons r1 rs => cases rs with | cons r2 rs =>
  (first | refine VRs.nilE rs ?_ | cases rs); (first | (refine VR.intE r2 ?_; intro _) | (refine VR.strE r2 ?_; intro _ _ _) | refine VR.boolE r2 ?_ | refine VR.noneE r2 ?_ | refine VR.refE r2 ?_ | refine VR.valE r2 ?_ | (refine VR.strxE r2 ?_; intro _) | cases r2)
  cases r1 with
  | nest h1 h2 a z b c d1 e r f g i =>
    exact isi_call (K := K γ.w.params) (t := .ref 54) (sat.ok.gd.says.keeps sat.base).K (fun M => by rw [← a]; exact (Looks.ld (sat.fro h1)).andThen .now) (isIn54 _) (by intro q; (first | (refine VR.intE q ?_; intro _) | (refine VR.strE q ?_; intro _ _ _) | refine VR.boolE q ?_ | refine VR.noneE q ?_ | refine VR.refE q ?_ | refine VR.valE q ?_ | (refine VR.strxE q ?_; intro _) | cases q)) (C.go sat (.bool true) h)
theorem isi_str (h : Φ (.bool false) S) : WPC γ (.builtin "isinstance") [.str t, .val (.ref 54)] S Φ Ξ := fun N vs rs F hp tk sat Q E C => by
  cases rs with | cons r1 rs => cases rs with | cons r2 rs =>
  (first | refine VRs.nilE rs ?_ | cases rs); (first | (refine VR.intE r2 ?_; intro _) | (refine VR.strE r2 ?_; intro _ _ _) | refine VR.boolE r2 ?_ | refine VR.noneE r2 ?_ | refine VR.refE r2 ?_ | refine VR.valE r2 ?_ | (refine VR.strxE r2 ?_; intro _) | cases r2)
  refine VR.strE r1 ?_
  · intro u _ _
    exact isn_call (K := K γ.w.params) (T := "str") (P := fun _ => True) (sat.ok.gd.says.keeps sat.base).K (fun M => Looks.of_pure rfl) (isNot54 _) (by intro q; (first | (refine VR.intE q ?_; intro _) | (refine VR.strE q ?_; intro _ _ _) | refine VR.boolE q ?_ | refine VR.noneE q ?_ | refine VR.refE q ?_ | refine VR.valE q ?_ | (refine VR.strxE q ?_; intro _) | cases q)) trivial str_cls (C.go sat (.bool false) h)
end
end

section
-- XD
noncomputable def gotD : Out → D
  | .nest b => .tup [.str (u "nest"), .str b, .tup [.none, .bool false, .strx []]]
  | .text => .tup [.str (u "text"), .str [], .tup []]
  | .exc x => faultD x
theorem bb_isinstance : bootBuiltins (Str.ofString "isinstance") = some (.builtin "isinstance") := by kernel_rfl
section
local macro_rules | `(tactic| wtm_at "m_e") => `(tactic| first
  | with_reducible refine kE_callB gl_isinstance bb_isinstance ?_
  | with_reducible refine kE_glob gl_Nest ?_)
theorem got_ok {γ : Fx} {κ : Cells} {name : Wd} {ws : List Wd} {R : List Wd ⊕ Exc} {Φ : D → Cells → Prop} {Ξ : Exc → Cells → Prop} (hn : 11 ≤ γ.n) (hl : ws.length ≤ 900) (hnm : name.length ≤ 100)
    (hN : ∀ w ∈ ws, Nice w) (hR : ∀ w, ws.getLast? = some w → Split w R) (hR2 : ∀ is, R = .inl is → is.length ≤ 1000 ∧ ∀ w ∈ is, Nice w)
    (h : Φ (gotD (act name ws R)) κ) : WPF γ (.ref 363) [.lst ((name :: ws).map .str)] κ Φ Ξ := by
  refine F_inT fm_law_got fk_law_got (names := ["words"]) (ρ := [("words", .lst ((name :: ws).map .str))]) (by wtm_at "om") (by decide +kernel) rfl rfl (fun s vs hS hl => ?_) (fun γ' outer L g1 g2 g3 g4 g5 => ?_)
  · refine lenE1 hl (fun _ => ?_)
    exact BindsTo.of_eq (by rfl)
  · refine kB_cons ?_
    refine S_tryF g4 g5 (kind_of g2 (by rfl)) (kind_of g2 (by rfl)) ?_
    refine kB_cons ?_
    wtm_at "m"
    refine switch_ok (R := R) (by wtm_at "om") hl hnm hN hR hR2 ?_
    cases ho : act name ws R with
    | nest b =>
      rw [ho] at h
      unfold outOk
      wtm_at "m"
      refine isi_nest ?_
      wtm_at "m"
      refine E_field (d := .str b) rfl k_script (fun w => by simp) (fun N' es v a1 a2 a3 a4 a5 => ⟨v, a1, a2⟩) ?_ (by decide)
      wtm_at "m"
      refine E_field (d := .none) rfl k_back (fun w => by simp) (fun N' es v a1 a2 a3 a4 a5 => ⟨_, a3, .none⟩) ?_ (by decide)
      wtm_at "m"
      refine E_field (d := .bool false) rfl k_is_proc (fun w => by simp) (fun N' es v a1 a2 a3 a4 a5 => ⟨_, a4, .bool _⟩) ?_ (by decide)
      wtm_at "m"
      refine E_field (d := .strx []) rfl k_label (fun w => by simp) (fun N' es v a1 a2 a3 a4 a5 => let ⟨u, a5⟩ := a5; ⟨_, a5, .strx [] u⟩) ?_ (by decide)
      wtm_at "m"
      exact h
    | text =>
      rw [ho] at h
      unfold outOk
      wtm_at "m"
      refine isi_str ?_
      wtm_at "m"
      exact h
    | exc x =>
      rw [ho] at h
      exact ⟨κ, .refl _, h⟩
end
end

section
-- XE
noncomputable def baseL : List (List Int) := [[1, 1, 1, 4, 3, 0, 1, 3, 2, 1, 6, 2, 0, 0, 0], [1, 2, 3, 3, 0, 0, 5, 1, 11, 2, 0, 1, 0], [0, 0, 2, 6, 0, 0, 1, 0, 2, 0], [2, 5, 6, 2, 2, 2, 0, 8, 3, 0, 0, 0], [3, 6, 4, 9, 0, 1, 0, 0, 0, 0, 0], [0, 2, 2, 0, 0, 10, 1, 3, 2, 0], [2, 1, 3, 9, 2, 12, 0, 6, 1, 0, 0, 0], [0, 5, 2, 7, 4, 1, 1, 0, 1, 5]]
theorem base_ok {γ : Fx} {κ : Cells} {Φ : D → Cells → Prop} {Ξ : Exc → Cells → Prop} (hn : 1 ≤ γ.n) (h : Φ (.lst (baseL.map fun l => .lst (l.map .int))) κ) : WPF γ (.ref 257) [] κ Φ Ξ := by
  refine F_in fm_law_base fk_law_base (names := []) (ρ := []) (by wtm_at "om") (by decide +kernel) rfl rfl (fun s vs hS hl => ?_) (fun γ' g1 g2 g3 => ?_)
  · refine lenE0 hl ?_
    exact BindsTo.of_eq (by rfl)
  · refine kB_cons ?_
    wtm_at "m"
    exact h
end

section
-- XF
theorem erases_str : ∀ ec : List Wd, D.erases (ec.map .str) = ec.map .strx
  | [] => rfl
  | w :: ec => by rw [List.map_cons, List.map_cons, D.erases, erases_str ec]; rfl
theorem plains_strx : ∀ ec : List Wd, D.plains (ec.map .strx) = true
  | [] => rfl
  | w :: ec => by rw [List.map_cons, D.plains, plains_strx ec]; rfl
theorem depths_strx : ∀ ec : List Wd, D.depths (ec.map .strx) = 0
  | [] => rfl
  | w :: ec => by rw [List.map_cons, D.depths, depths_strx ec]; rfl
theorem got_due (o : Out) : ∃ ds es, gotD o = .tup ds ∧ outD o = .tup es ∧ D.erases ds = D.erases es ∧ D.plains (D.erases ds) = true ∧ D.depths (D.erases ds) ≤ 2 := by
  cases o with
  | nest b => exact ⟨_, _, rfl, rfl, rfl, rfl, by simp [D.erases, D.erase, D.depths, D.depth]⟩
  | text => exact ⟨_, _, rfl, rfl, rfl, rfl, by simp [D.erases, D.erase, D.depths, D.depth]⟩
  | exc x =>
    refine ⟨_, _, rfl, rfl, rfl, ?_, ?_⟩
    · simp only [D.erases, D.erase, erases_str, D.plains, D.plain, plains_strx, Bool.and_self]
    · simp only [D.erases, D.erase, erases_str, D.depths, D.depth, depths_strx]; decide
section
variable {γ : Fx} {S : St} {Ξ : Exc → Cells → Prop} {Φ : D → St → Prop}
theorem cmp_ne {o : Out} (hn : 1 ≤ γ.n) (h : Φ (.bool false) S) : WPCmp γ .NotEq (gotD o) (outD o) S Φ Ξ := by
  refine absP fun _ kk => ?_
  obtain ⟨ds, es, a, b, c, d, e⟩ := got_due o
  refine kk ?_
  clear kk
  rw [a, b]
  exact ne_er c d (by omega) h
theorem cmp_eq {o : Out} (hn : 1 ≤ γ.n) (h : Φ (.bool true) S) : WPCmp γ .Eq (gotD o) (outD o) S Φ Ξ := by
  refine absP fun _ kk => ?_
  obtain ⟨ds, es, a, b, c, d, e⟩ := got_due o
  refine kk ?_
  clear kk
  rw [a, b]
  exact eq_er c d (by omega) h
end
theorem nice_tab : ∀ w ∈ allDs, w.length ≤ 1000 ∧ ∀ c ∈ w, c < 128 := by decide +kernel
theorem nice_all {w : Wd} (h : w ∈ allWs) : Nice w := ⟨(nice_tab w (allDs_all w h)).1, (nice_tab w (allDs_all w h)).2⟩
theorem item_all : ∀ w ∈ itemWs, w ∈ allWs := by decide +kernel
theorem opt_all : ∀ w ∈ optWs, w ∈ allWs := by decide +kernel
theorem text_all : ∀ w ∈ textWs, w ∈ allWs := by decide +kernel
theorem pat_item : ∀ w ∈ patWs, w ∈ itemWs := by decide +kernel
theorem body_item : ∀ w ∈ bodyWs, w ∈ itemWs := by decide +kernel
theorem spoil_tab : ∀ d < 8, (spoilW d).length ≤ 10 ∧ ∀ c ∈ spoilW d, c < 128 := by decide +kernel
theorem spell_asc {way : Nat} (hw : way < 3) : ∀ w ∈ itemDs, ∀ c ∈ spellOne way w ++ sepW way, c < 128 := by
  have : way = 0 ∨ way = 1 ∨ way = 2 := by omega
  rcases this with rfl | rfl | rfl <;> decide +kernel
theorem spelled_asc {way : Nat} (hw : way < 3) : ∀ {items : List Wd}, (∀ w ∈ items, w ∈ itemWs) → ∀ c ∈ spelled way items, c < 128
  | [], _, c, h => by simp [spelled] at h
  | w :: items, hi, c, h => by
    have e : spelled way (w :: items) = (spellOne way w ++ sepW way) ++ spelled way items := by simp [spelled]
    rw [e] at h
    rcases List.mem_append.mp h with h | h
    · exact spell_asc hw w (itemDs_all w (hi w (.head _))) c h
    · exact spelled_asc hw (items := items) (fun x hx => hi x (.tail _ hx)) c h
theorem nice_L {way d : Nat} {items : List Wd} (hw : way < 3) (hd : d < 8) (hi : ∀ w ∈ items, w ∈ itemWs) (hl : items.length ≤ 40) : Nice (spelled way items ++ spoilW d) := by
  refine ⟨?_, fun c hc => ?_⟩
  · have := spelled_len hw hi
    have := (spoil_tab d hd).1
    rw [List.length_append]; omega
  · rcases List.mem_append.mp hc with h | h
    · exact spelled_asc hw hi c h
    · exact (spoil_tab d hd).2 c h
theorem lawR_split {w L : Wd} {items : List Wd} {f : Option Exc} (hL : Split L (listR items f)) (hw : w ≠ L → w ∈ allWs) : Split w (lawR w L items f) := by
  unfold lawR
  by_cases e : w = L
  · subst e
    rw [if_pos (by simp)]
    exact hL
  · rw [if_neg (by simpa using e)]
    have := split_word w (allDs_all w (hw e))
    unfold wordL at this
    split
    · rename_i q; rw [if_pos q] at this; exact this
    · rename_i q
      rw [if_neg q] at this
      split
      · rename_i q2; rw [if_pos q2] at this; exact this
      · rename_i q2; rw [if_neg q2] at this; exact this
theorem lawR_in {w L : Wd} {items is : List Wd} {f : Option Exc} (hi : items.length ≤ 900 ∧ ∀ x ∈ items, x ∈ allWs) (hw : w ≠ L → w ∈ allWs) (e : lawR w L items f = .inl is) : is.length ≤ 1000 ∧ ∀ x ∈ is, Nice x := by
  unfold lawR at e
  split at e
  · cases f with
    | none => cases e; exact ⟨by omega, fun x hx => nice_all (hi.2 x hx)⟩
    | some x => cases e
  · rename_i q
    split at e
    · cases e; exact ⟨by simp, fun x hx => by cases hx⟩
    · split at e
      · cases e; exact ⟨by simp, fun x hx => by rw [List.mem_singleton.mp hx]; exact nice_all (by decide +kernel)⟩
      · cases e; exact ⟨by simp, fun x hx => by rw [List.mem_singleton.mp hx]; exact nice_all (hw (by simpa using q))⟩
structure WordsOk (W : List Wd) (L : Wd) (items : List Wd) (f : Option Exc) : Prop where
  len : W.length ≤ 900
  most : ∀ w ∈ W.dropLast, w ∈ allWs
  last : ∀ w, W.getLast? = some w → w ≠ L → w ∈ allWs
  nice : Nice L
  its : items.length ≤ 900 ∧ ∀ w ∈ items, w ∈ allWs
  split : Split L (listR items f)
theorem mem_last {W : List Wd} {w : Wd} (h : w ∈ W) : w ∈ W.dropLast ∨ W.getLast? = some w := by
  rcases List.eq_nil_or_concat W with rfl | ⟨i, x, rfl⟩
  · cases h
  · rw [List.concat_eq_append] at h ⊢
    rcases List.mem_append.mp h with h | h
    · left; simpa using h
    · right; rw [List.mem_singleton.mp h]; simp
theorem WordsOk.niceAll {W : List Wd} {L : Wd} {items : List Wd} {f : Option Exc} (x : WordsOk W L items f) : ∀ w ∈ W, Nice w := fun w hw => by
  rcases mem_last hw with h | h
  · exact nice_all (x.most w h)
  · by_cases e : w = L
    · rw [e]; exact x.nice
    · exact nice_all (x.last w h e)
theorem getLastD_of {W : List Wd} {w : Wd} (h : W.getLast? = some w) : W.getLastD [] = w := by rw [List.getLastD_eq_getLast?, h]; rfl
theorem got_case {γ : Fx} {κ : Cells} {W : List Wd} {L : Wd} {items : List Wd} {f : Option Exc} {Φ : D → Cells → Prop} {Ξ : Exc → Cells → Prop} (hn : 11 ≤ γ.n) (x : WordsOk W L items f) (hne : W ≠ [])
    (h : Φ (gotD (act (u "switch") W (lawR (W.getLastD []) L items f))) κ) : WPF γ (.ref 363) [.lst ((u "switch" :: W).map .str)] κ Φ Ξ := by
  have hg : W.getLast? = some (W.getLastD []) := by
    rw [List.getLastD_eq_getLast?]
    cases hq : W.getLast? with
    | none => rw [List.getLast?_eq_none_iff] at hq; exact absurd hq hne
    | some y => rfl
  refine got_ok (R := lawR (W.getLastD []) L items f) hn x.len (by decide +kernel) x.niceAll (fun w hw => ?_) (fun is e => lawR_in x.its (x.last _ hg) e) h
  rw [getLastD_of hw]
  exact lawR_split x.split (x.last w hw)
theorem due_case {γ : Fx} {κ : Cells} {W : List Wd} {L : Wd} {items : List Wd} {f : Option Exc} {Φ : D → Cells → Prop} {Ξ : Exc → Cells → Prop} (hn : 15 ≤ γ.n) (x : WordsOk W L items f)
    (h : Φ (outD (act (u "switch") W (lawR (W.getLastD []) L items f))) κ) : WPF γ (.ref 356) [.lst ((u "switch" :: W).map .str), .tup [.str L, .lst (items.map .str), faultO f]] κ Φ Ξ :=
  due_ok hn x.len x.most (fun w hw => (x.niceAll w hw).len) x.last x.its h
theorem words1 {way d : Nat} {ws items : List Wd} (hw : way < 3) (hd : d < 8) (hi : ∀ w ∈ items, w ∈ itemWs) (hl : items.length ≤ 40) (hws : ∀ w ∈ ws, w ∈ allWs) (hwl : ws.length ≤ 40) : WordsOk (ws ++ items) (spelled way items ++ spoilW d) items (spoilX d) := by
  have hm : ∀ w ∈ ws ++ items, w ∈ allWs := fun w h => (List.mem_append.mp h).elim (hws w) fun h => item_all w (hi w h)
  exact ⟨by rw [List.length_append]; omega, fun w h => hm w (List.dropLast_subset _ h), fun w h _ => hm w (List.mem_of_getLast? h), nice_L hw hd hi hl, ⟨by omega, fun w h => item_all w (hi w h)⟩, split_spelled hw hd hi⟩
theorem words2 {way d : Nat} {ws items : List Wd} (hw : way < 3) (hd : d < 8) (hi : ∀ w ∈ items, w ∈ itemWs) (hl : items.length ≤ 40) (hws : ∀ w ∈ ws, w ∈ allWs) (hwl : ws.length ≤ 40) : WordsOk (ws ++ [spelled way items ++ spoilW d]) (spelled way items ++ spoilW d) items (spoilX d) :=
  ⟨by rw [List.length_append]; simp; omega, fun w h => by rw [List.dropLast_concat] at h; exact hws w h, fun w h e => by rw [List.getLast?_concat] at h; exact absurd (Option.some.inj h).symm e, nice_L hw hd hi hl, ⟨by omega, fun w h => item_all w (hi w h)⟩, split_spelled hw hd hi⟩
end

section
-- XG
section
local macro_rules | `(tactic| wtm_at "m_bin") => `(tactic| ((with_reducible refine' add_l ?k1 ?_); (case k1 => wtm_at "m_sd")))
theorem item_tab : ∀ w ∈ itemDs, w.length ≤ 100 ∧ (PySem.Str.ofString "%" == tx w) = false := by decide +kernel
theorem case_tail {γ' : Fx} {κ : Cells} {a : Addr} {x : Int} {r : List Int} {ws items : List Wd} {Φ : D → Cells → Prop} {Ξ : Exc → Cells → Prop} (hn : 17 ≤ γ'.n) (g2 : γ'.env.scope = (defAt 53).2.2) (g3 : γ'.cv = [((Str.ofString "pen"), D.ref a)]) (hr : r.length ≤ 1000)
    (hi : ∀ w ∈ items, w ∈ itemWs) (hl : items.length ≤ 10) (hws : ∀ w ∈ ws, w ∈ allWs) (hwl : ws.length ≤ 10) (hne : ws ≠ []) (h : ∀ l, Φ (.bool true) ((a, .list l) :: κ)) : WPB γ' ((defAt 53).2.1.drop 5) ⟨[("items", .lst (items.map .str)), ("words", .lst ((u "switch" :: ws).map .str))], (a, .list ((x :: r).map .int)) :: κ⟩ (Post Φ) Ξ := by
  have li : (items.map D.str).length = items.length := List.length_map ..
  have lw : ((u "switch" :: ws).map D.str).length = ws.length + 1 := by rw [List.length_map, List.length_cons]
  refine kB_cons ?_
  wtm_at "m"
  refine take_ok (k1 := []) (by wtm_at "om") (by decide) (by decide) hr fun way x1 r1 hway hr1 => ?_
  wtm_at "m"
  have hw1 : ∀ w ∈ items, w.length ≤ 100 ∧ (PySem.Str.ofString "%" == tx w) = false := fun w hw => item_tab w (itemDs_all w (hi w hw))
  refine spelled_ok (way := way) (by wtm_at "om") (by wtm_at "om") (by wtm_at "om") hw1 ?_
  wtm_at "m"
  refine take_ok (k1 := []) (by wtm_at "om") (by decide) (by decide) hr1 fun d x2 r2 hd hr2 => ?_
  wtm_at "m"
  refine spoilt_ok (d := d) (by wtm_at "om") (by wtm_at "om") ?_
  have hs1 := spelled_len (way := way) (by wtm_at "om") hi
  have hs2 := (spoil_tab d (by wtm_at "om")).1
  have hL := nice_L (way := way) (d := d) (by wtm_at "om") (by wtm_at "om") hi (by wtm_at "om")
  have W1 := words1 (way := way) (d := d) (by wtm_at "om") (by wtm_at "om") hi (by wtm_at "om") hws (by wtm_at "om")
  have W2 := words2 (way := way) (d := d) (by wtm_at "om") (by wtm_at "om") hi (by wtm_at "om") hws (by wtm_at "om")
  have e1 : (u "switch" :: ws).map D.str ++ items.map D.str = (u "switch" :: (ws ++ items)).map D.str := by rw [← List.map_append]; rfl
  have e2 : (u "switch" :: ws).map D.str ++ [D.str (spelled way items ++ spoilW d)] = (u "switch" :: (ws ++ [spelled way items ++ spoilW d])).map D.str := by
    rw [show [D.str (spelled way items ++ spoilW d)] = [spelled way items ++ spoilW d].map D.str from rfl, ← List.map_append]; rfl
  wtm_at "m"
  rw [e1]
  refine got_case (by wtm_at "om") W1 (by simp [hne]) ?_
  wtm_at "m"
  rw [e1]
  refine due_case (by wtm_at "om") W1 ?_
  refine cmp_ne (by wtm_at "om") ?_
  wtm_at "m"
  rw [e2]
  refine got_case (by wtm_at "om") W2 (by simp) ?_
  wtm_at "m"
  rw [e2]
  refine due_case (by wtm_at "om") W2 ?_
  refine cmp_eq (by wtm_at "om") ?_
  wtm_at "m"
  exact h _
end
theorem getD_mem {l : List Wd} {i : Nat} (h : i < l.length) : l.getD i [] ∈ l := by simp [List.getD, List.getElem?_eq_getElem h]
theorem case_mid {γ' : Fx} {κ : Cells} {a c : Addr} {x : Int} {r : List Int} {ws : List Wd} {Φ : D → Cells → Prop} {Ξ : Exc → Cells → Prop} (hn : 17 ≤ γ'.n) (g2 : γ'.env.scope = (defAt 53).2.2) (g3 : γ'.cv = [((Str.ofString "pen"), D.ref a)]) (hr : r.length ≤ 1000)
    (hws : ∀ w ∈ ws, w ∈ allWs) (hwl : ws.length ≤ 10) (hne : ws ≠ []) (h : ∀ l, Φ (.bool true) ((a, .list l) :: κ)) : WPB γ' ((defAt 53).2.1.drop 2) ⟨[("words", .ref c)], (c, .list ((u "switch" :: ws).map .str)) :: (a, .list ((x :: r).map .int)) :: κ⟩ (Post Φ) Ξ := by
  refine kB_cons ?_
  wtm_at "m"
  refine E_own fun o => ?_
  wtm_at "m"
  refine S_weak (Wk.of (ρ' := [("items", .ref o), ("words", .ref c)]) ⟨rfl, rfl, trivial⟩ (.refl _)) ?_
  let I : List D → St → Prop := fun ds S => ∃ (k n : Nat) (its : List Wd) (y : Int) (q : List Int), n < 5 ∧ k ≤ n ∧ ds = (rngL k 1 (n - k)).map .int ∧ S = ⟨[("items", .ref o), ("words", .ref c)], (o, .list (its.map .str)) :: (c, .list ((u "switch" :: ws).map .str)) :: (a, .list ((y :: q).map .int)) :: κ⟩ ∧ (∀ w ∈ its, w ∈ itemWs) ∧ its.length = 2 * k ∧ q.length ≤ 1000
  refine kS_forI I ?_ ?_ ?_ ?_ ?_
  · exact kind_of g2 (by rfl)
  · wtm_at "m"
    refine take_ok (k1 := [(o, .list []), (c, .list ((u "switch" :: ws).map .str))]) (by wtm_at "om") (by decide) (by decide) hr fun n x1 r1 hn1 hr1 => ?_
    wtm_at "m"
    exact ⟨_, I_rng (small_rng (n := n) (by wtm_at "om")), 0, n, [], x1, r1, by wtm_at "om", by wtm_at "om", by rw [rng_size]; rfl, rfl, (fun w hw => by cases hw), rfl, hr1⟩
  · intro _; rfl
  · intro d ds S hh
    refine absP fun _ kk => ?_
    obtain ⟨k, n, its, y, q, n5, k1, e1, rfl, e3, e4, e6⟩ := hh
    refine kk ?_
    clear kk
    cases hm : n - k with
    | zero => rw [hm] at e1; cases e1
    | succ m =>
      rw [hm] at e1
      cases e1
      have li : (its.map D.str).length ≤ 100 := by rw [List.length_map]; wtm_at "om"
      have lo : (patWs.map D.str).length = 13 := rfl
      have lo2 : (bodyWs.map D.str).length = 6 := rfl
      wtm_at "m"
      refine patterns_l (by wtm_at "om") ?_
      wtm_at "m"
      refine take_ok (k1 := [(o, .list (its.map .str)), (c, .list ((u "switch" :: ws).map .str))]) (by wtm_at "om") (by decide) (by decide) e6 fun i y1 q1 hi1 hq1 => ?_
      have hi2 : i < patWs.length := by rw [show patWs.length = 13 from rfl]; wtm_at "om"
      have hg : (patWs.map D.str)[((i : Nat) : Int).toNat]? = some (.str (patWs.getD i [])) := by rw [Int.toNat_natCast]; exact map_get hi2
      wtm_at "m"
      refine bodies_l (by wtm_at "om") ?_
      wtm_at "m"
      refine take_ok (k1 := [_, _]) (by wtm_at "om") (by decide) (by decide) hq1 fun i' y2 q2 hi3 hq2 => ?_
      have hi4 : i' < bodyWs.length := by rw [show bodyWs.length = 6 from rfl]; wtm_at "om"
      have hg2 : (bodyWs.map D.str)[((i' : Nat) : Int).toNat]? = some (.str (bodyWs.getD i' [])) := by rw [Int.toNat_natCast]; exact map_get hi4
      have li2 : (its.map D.str ++ [D.str (patWs.getD i [])]).length ≤ 101 := by rw [List.length_append]; simp only [List.length_singleton]; wtm_at "om"
      wtm_at "m"
      refine ⟨⟨[("items", .ref o), ("words", .ref c)], (o, .list ((its ++ [patWs.getD i [], bodyWs.getD i' []]).map .str)) :: (c, .list ((u "switch" :: ws).map .str)) :: (a, .list ((y2 :: q2).map .int)) :: κ⟩, Wk.of ⟨rfl, rfl, trivial⟩ (by rw [List.map_append]; simp), k + 1, n, _, y2, q2, n5, by wtm_at "om", by rw [show n - (k + 1) = m by wtm_at "om"]; rfl, rfl, ?_, ?_, hq2⟩
      · intro w hw
        rcases List.mem_append.mp hw with hw | hw
        · exact e3 w hw
        · simp only [List.mem_cons, List.not_mem_nil, or_false] at hw
          rcases hw with rfl | rfl
          · exact pat_item _ (getD_mem hi2)
          · exact body_item _ (getD_mem hi4)
      · rw [List.length_append, e4]; simp; wtm_at "om"
  · intro S hh
    refine absP fun _ kk => ?_
    obtain ⟨k, n, its, y, q, n5, k1, e1, rfl, e3, e4, e6⟩ := hh
    refine kk ?_
    clear kk
    refine B_frz (Frz.of (ρ' := [("items", .lst (its.map .str)), ("words", .ref c)]) rfl .here ⟨.inr ⟨rfl, rfl⟩, .inl rfl, trivial⟩) ?_
    refine B_frz (Frz.of (ρ' := [("items", .lst (its.map .str)), ("words", .lst ((u "switch" :: ws).map .str))]) rfl .here ⟨.inl rfl, .inr ⟨rfl, rfl⟩, trivial⟩) ?_
    have li : (its.map D.str).length ≤ 10 := by rw [List.length_map]; wtm_at "om"
    (repeat' ((fail_if_success (with_reducible show WPB _ [_, _, _, _, _] _ _ _)); first | wtm_at "m_1" | fail))
    refine take_ok (k1 := []) (by wtm_at "om") (by decide) (by decide) e6 fun i y1 q1 hi1 hq1 => ?_
    have tail : ∀ (is : List Wd) (S : St), (∀ w ∈ is, w ∈ itemWs) → is.length ≤ 10 → Wk ⟨[("items", .lst (is.map .str)), ("words", .lst ((u "switch" :: ws).map .str))], (a, .list ((y1 :: q1).map .int)) :: κ⟩ S → WPB γ' ((defAt 53).2.1.drop 5) S (Post Φ) Ξ :=
      fun is S a1 a2 w => B_weak w (case_tail (x := y1) (r := q1) hn g2 g3 hq1 a1 a2 hws hwl hne h)
    (repeat' ((fail_if_success (with_reducible show WPB _ [_, _, _, _, _] _ _ _)); first | wtm_at "m_1" | fail))
    · refine tail (its.take (its.length - 1)) _ (fun w hw => e3 w (List.mem_of_mem_take hw)) (by rw [List.length_take]; wtm_at "om") (Wk.of ⟨?_, rfl, trivial⟩ (.refl _))
      rw [← List.map_take, List.length_map]; rfl
    · exact tail its _ e3 (by wtm_at "om") (Wk.of ⟨rfl, rfl, trivial⟩ (.refl _))
section
theorem case_ok {γ : Fx} {κ : Cells} {a : Addr} {x : Int} {r : List Int} {Φ : D → Cells → Prop} {Ξ : Exc → Cells → Prop} (hn : 18 ≤ γ.n) (hr : r.length ≤ 1000) (h : ∀ l, Φ (.bool true) ((a, .list l) :: κ)) : WPF γ (.ref 368) [.ref a] ((a, .list ((x :: r).map .int)) :: κ) Φ Ξ := by
  refine F_inC fm_law_case_is_right fk_law_case_is_right (names := ["pen"]) (ρ := [((Str.ofString "pen"), D.ref a)]) (by wtm_at "om") (by decide +kernel) rfl rfl (fun n x hx => ?_) (fun s vs hS hl => ?_) (fun γ' g1 g2 g3 => ?_)
  · simp only [List.mem_cons, List.not_mem_nil, or_false] at hx
    rcases hx with rfl; rfl
  · refine lenE1 hl (fun _ => ?_)
    exact BindsTo.of_eq (by rfl)
  · refine kB_cons ?_
    wtm_at "m"
    refine E_comp (clos2 g3 rfl rfl) (by decide +kernel) rfl (by decide +kernel) rfl (fun _ => rfl) ?_
    wtm_at "m"
    refine take_ok (k1 := []) (by wtm_at "om") (by decide) (by decide) hr fun n x1 r1 hn1 hr1 => ?_
    wtm_at "m"
    have hn2 : n < 4 := by wtm_at "om"
    refine ⟨_, IA_rng (small_rng (n := n) (by wtm_at "om")), ?_, fun γc c1 c2 c3 => ?_⟩
    · rw [List.length_map, rngL_length, rng_size]; wtm_at "om"
    rw [rng_size]
    rw [relabel_eq, g2] at c2
    rw [g3] at c3
    let I : List D → List D → Cells → Prop := fun ds acc κ' => ∃ (k : Nat) (l : List Wd) (y : Int) (q : List Int), k ≤ n ∧ ds = (rngL k 1 (n - k)).map .int ∧ acc = l.map .str ∧ (∀ w ∈ l, w ∈ optWs) ∧ l.length = k ∧ κ' = (a, .list ((y :: q).map .int)) :: κ ∧ q.length ≤ 1000
    refine CompP.ind I ?_ ?_ _ _ _ ?_
    · intro d ds acc κ' hh
      refine absP fun _ kk => ?_
      obtain ⟨k, l, y, q, k1, e1, rfl, e3, e4, rfl, e6⟩ := hh
      refine kk ?_
      clear kk
      cases hm : n - k with
      | zero => rw [hm] at e1; cases e1
      | succ m =>
        rw [hm] at e1
        cases e1
        refine I_nil ?_
        wtm_at "m"
        refine options_l (by wtm_at "om") ?_
        wtm_at "m"
        refine take_ok (k1 := []) (by wtm_at "om") (by decide) (by decide) e6 fun i y1 q1 hi1 hq1 => ?_
        have hi2 : i < optWs.length := by rw [show optWs.length = 12 from rfl]; wtm_at "om"
        have hg : (optWs.map D.str)[((i : Nat) : Int).toNat]? = some (.str (optWs.getD i [])) := by rw [Int.toNat_natCast]; exact map_get hi2
        have lo : (optWs.map D.str).length = 12 := rfl
        wtm_at "m"
        exact ⟨k + 1, l ++ [optWs.getD i []], y1, q1, by wtm_at "om", by rw [show n - (k + 1) = m by wtm_at "om"]; rfl, by rw [List.map_append]; rfl, fun w hw => (List.mem_append.mp hw).elim (e3 w) fun hw => by rw [List.mem_singleton.mp hw]; exact getD_mem hi2, by rw [List.length_append, e4]; rfl, rfl, hq1⟩
    · intro acc κ' hh
      refine absP fun _ kk => ?_
      obtain ⟨k, l, y, q, k1, e1, rfl, e3, e4, rfl, e6⟩ := hh
      refine kk ?_
      clear kk
      have hl4 : l.length ≤ 4 := by wtm_at "om"
      have ll4 : (l.map D.str).length = l.length := List.length_map ..
      refine add_lo (by rw [ll4]; simp; wtm_at "om") fun c => ?_
      have e0 : [D.str (PySem.Str.ofString "switch").cps.toList] ++ l.map D.str = (u "switch" :: l).map D.str := rfl
      rw [e0]
      have l0 : ((u "switch" :: l).map D.str).length ≤ 1000 := by rw [List.length_map, List.length_cons]; wtm_at "om"
      wtm_at "m"
      refine texts_l (by wtm_at "om") ?_
      wtm_at "m"
      refine take_ok (k1 := [(c, .list ((u "switch" :: l).map D.str))]) (by wtm_at "om") (by decide) (by decide) e6 fun i y1 q1 hi1 hq1 => ?_
      have hi2 : i < textWs.length := by rw [show textWs.length = 14 from rfl]; wtm_at "om"
      have hg : (textWs.map D.str)[((i : Nat) : Int).toNat]? = some (.str (textWs.getD i [])) := by rw [Int.toNat_natCast]; exact map_get hi2
      have lo : (textWs.map D.str).length = 14 := rfl
      have e5 : (u "switch" :: l).map D.str ++ [D.str (textWs.getD i [])] = (u "switch" :: (l ++ [textWs.getD i []])).map D.str := by rw [← List.cons_append, List.map_append]; rfl
      (repeat' ((fail_if_success (with_reducible show WPB _ [_, _, _, _, _, _, _, _] _ _ _)); first | wtm_at "m_1" | fail))
      rw [e5]
      refine B_weak ?_ (case_mid (c := c) (x := y1) (r := q1) (ws := l ++ [textWs.getD i []]) (by wtm_at "om") g2 g3 hq1 ?_ ?_ (by simp) h)
      · exact Wk.of ⟨rfl, trivial⟩ (.refl _)
      · intro w hw
        rcases List.mem_append.mp hw with hw | hw
        · exact opt_all w (e3 w hw)
        · rw [List.mem_singleton.mp hw]; exact text_all _ (getD_mem hi2)
      · rw [List.length_append]; simp; wtm_at "om"
    · exact ⟨0, [], x1, r1, by wtm_at "om", rfl, rfl, (fun w hw => by cases hw), rfl, rfl, hr1⟩
end
end

section
-- XH
noncomputable def ForE (γ : Fx) (k b : PySem.Str) (body : List Stmt) (Ψ : AF → St → Prop) : Nat → List D → St → Prop
  | _, [], S => Ψ .next S
  | i, d :: ds, S => WPB γ body ⟨(b, d) :: (k, .int i) :: S.ρ, S.κ⟩ (fun f S' => match f with
    | .next => ∃ S₃, Wk S₃ S' ∧ ForE γ k b body Ψ (i + 1) ds S₃
    | .cont => ∃ S₃, Wk S₃ S' ∧ ForE γ k b body Ψ (i + 1) ds S₃
    | .brk => Ψ .next S'
    | .ret r => Ψ (.ret r) S') NoX
noncomputable abbrev enO (it : Addr) (i : Int) (old : Value) : Obj := { cls := .type "enumerate", dict := none, data := .fields #[.none, .bool false, .ref it, rawInt i, .none, old], slots := #[] }
theorem Sat.turn2F {γ : Fx} {N : Fz} {F : Rw} {S : St} {x d : Addr} {ox ox' od od' : Obj} {h h' : Heap} {tk tk' : Nat} (s : Sat γ N ((d, od) :: (x, ox) :: F) S h tk) (ht : tk ≤ tk') (hk : ∀ b o, b ≠ x → b ≠ d → h.get? b = some o → h'.get? b = some o) (hx : h'.get? x = some ox') (hd : h'.get? d = some od') (hz : h.objs.size ≤ h'.objs.size) :
    Sat γ N ((d, od') :: (x, ox') :: F) S h' tk' :=
  ⟨s.ok, s.tok.mono ht, let ⟨m, H, hm⟩ := s.m; ⟨m, H.turn2F hk hx hd (Nat.le_trans H.big hz), hm⟩, s.cv⟩
inductive ForEInv (γ : Fx) (F : Rw) (N₂ : Fz) (l it₀ e₀ : Addr) (ds : List D) (k b : PySem.Str) (body : List Stmt) (Ψ : AF → St → Prop) : Nat → Shared → Prop
  | mk {n i : Nat} {old : Value} {oi : Obj} {N' : Fz} {S' : St} {h' : Heap} {tk' : Nat} : n + i = ds.length → Le N₂ N' → oi.cls = .type "list_iterator" → oi.data = .fields #[.ref l, .int (i : Nat) 0] →
      Sat γ N' ((e₀, enO it₀ (i : Nat) old) :: (it₀, oi) :: F) S' h' tk' → ForE γ k b body Ψ i (ds.drop i) S' → ForEInv γ F N₂ l it₀ e₀ ds k b body Ψ n (γ.mk' h' tk')
theorem S_forE {γ : Fx} {S : St} {Ξ : Exc → Cells → Prop} {Ψ : AF → St → Prop} {p1 p2 p3 p4 pt pos : Pos} {kk : Nat} {k b : PySem.Str} {e : Expr} {body : List Stmt} (hkk : γ.env.kindOf k = some .local) (hkb : γ.env.kindOf b = some .local) (hke : γ.env.kindOf (Str.ofString "enumerate") = some .globalImplicit)
    (h : WPL γ (backTo p4 (starEach [e] γ.env)) S (fun ds' S₁ => ∃ ds, ds' = [.lst ds] ∧ ForE γ k b body Ψ 0 ds S₁) Ξ)
    (he : starEach [e] γ.env = (false, eval e γ.env) :: starEach [] γ.env) (hs : ∀ v, foldedSetIterable (.Call (.Name (Str.ofString "enumerate") p3) [e] [] p4) γ.env v = pure v) :
    WPS γ (.For (.Tuple [.Name k p1, .Name b p2] kk pt) (.Call (.Name (Str.ofString "enumerate") p3) [e] [] p4) body [] pos) S Ψ Ξ := fun N F hp tk sat Q E C => by
  refine wpAny_For ?_ hs
  refine wpAny_Call_NameR (E_built (v := .type "enumerate") gl_enumerate (by kernel_rfl) (by decide) hke (Φ := fun d S₁ => d = .val (.type "enumerate") ∧ S₁ = S) ⟨rfl, rfl⟩ (by decide) N F hp tk sat _ E (C.then fun N₁ v₁ d₁ S₁ h₁ tk₁ le₁ sat₁ r₁ k₁ => ?_))
  obtain ⟨rfl, rfl⟩ := k₁
  (first | (refine VR.intE r₁ ?_; intro _) | (refine VR.strE r₁ ?_; intro _ _ _) | refine VR.boolE r₁ ?_ | refine VR.noneE r₁ ?_ | refine VR.refE r₁ ?_ | refine VR.valE r₁ ?_ | (refine VR.strxE r₁ ?_; intro _) | cases r₁)
  suffices h' : wpAny (md γ.w) γ.A (spliced (backTo p4 (starEach [e] γ.env))) (fun vs s₂ => wpAny (md γ.w) γ.A (call (.type "enumerate") vs) (fun x s₁ => wpAny (md γ.w) γ.A (pyIter x) (fun it s₂ => codeAny (md γ.w) γ.A (.forLoop (.Tuple [.Name k p1, .Name b p2] kk pt) it body [] γ.env) (fun r s' => match r with | .ok f => Q f s' | .error e => cameBackBy (md γ.w) γ.A γ.env E e s') s₂) E s₁) E s₂) E (γ.mk' h₁ tk₁) by
    rw [he] at h' ⊢
    exact PyProof.Rows.callWith_type (by rfl) (Calls.evalArgs_plain h')
  refine h N₁ F h₁ tk₁ sat₁ _ E ((C.mono le₁).then fun N₂ vs ds S₂ h₂ tk₂ le₂ sat₂ r₂ k₂ => ?_)
  clear h
  refine absP fun _ kk => ?_
  obtain ⟨ds, rfl, fp⟩ := k₂
  refine kk ?_
  clear kk
  refine VRs.consE r₂ ?_; intro _ _ r₂ rs
  refine VRs.nilE rs ?_
  refine VR.lstE r₂ ?_
  · intro _ _ _ _ ho hc hdd hd rs
    rename_i l ol n vs
    have hl : ∀ h' : Heap, h'.get? l = some ol → h'.IsList l vs.toArray := fun h' e => ⟨ol, e, hc, n, hd⟩
    refine call_enumerate_list (hl _ (sat₂.fro ho)) fun h₃ en₃ it₃ sz₃ k₃ => ?_
    have hen := en₃
    refine wpAny_pyIter_enum (s := γ.mk' h₃ tk₂) en₃ ?_
    refine absP fun _ kk => ?_
    obtain ⟨oi, i1, i2, i3⟩ := it₃
    refine kk ?_
    clear kk
    have sat₃ : Sat γ N₂ ((h₂.objs.size + 1, enO h₂.objs.size ((0 : Nat) : Int) .none) :: (h₂.objs.size, oi) :: F) S₂ h₃ tk₂ := by
      refine absP fun _ kk => ?_
      obtain ⟨m, H, hm⟩ := sat₂.m
      refine kk ?_
      clear kk
      have lt : ∀ b o, h₂.get? b = some o → b < h₂.objs.size := fun b o e => Heap.lt_size e
      have H1 := (H.keeps k₃ (by rw [sz₃]; exact Nat.le_add_right h₂.objs.size 2)).addF i1 (Heap.get?_none_of_le H.big) (fun p hp => Nat.ne_of_lt (H.nsLt hp)) (fun p hp => Nat.ne_of_lt (H.froLt hp)) (fun p hp => Nat.ne_of_lt (H.frmLt hp)) (fun p hp => Nat.ne_of_lt (H.celLt hp))
      have H2 := H1.addF hen (Heap.get?_none_of_le (Nat.le_succ_of_le H.big)) (fun p hp => Nat.ne_of_lt (Nat.lt_succ_of_lt (H.nsLt hp))) (fun p hp => Nat.ne_of_lt (Nat.lt_succ_of_lt (H.froLt hp))) (fun p hp => by
        rcases List.mem_cons.mp hp with rfl | hp
        · exact Nat.ne_of_lt (Nat.lt_succ_self _)
        · exact Nat.ne_of_lt (Nat.lt_succ_of_lt (H.frmLt hp))) (fun p hp => Nat.ne_of_lt (Nat.lt_succ_of_lt (H.celLt hp)))
      exact ⟨sat₂.ok, sat₂.tok, ⟨m, H2, hm⟩, sat₂.cv⟩
    have hne : h₂.objs.size + 1 ≠ h₂.objs.size := Nat.succ_ne_self _
    generalize h₂.objs.size + 1 = e₀ at sat₃ hne ⊢
    generalize h₂.objs.size = it₀ at sat₃ hne i1 i3 ⊢
    clear hen en₃ i1 k₃ sz₃ sat₂
    refine codeAny_forLoop_any (ForEInv γ F N₂ l it₀ e₀ ds k b body Ψ) ?_ ds.length (.mk (i := 0) rfl (Le.refl _) i2 i3 sat₃ fp)
    clear i2 i3 sat₃ fp
    intro n s hI
    cases hI
    rename_i i old oi N' S' h' tk' hn le j1 j2 sat' fp'
    have en' : IsEnum (γ.mk' h' tk').heap e₀ it₀ (i : Nat) old := sat'.frm (.head _)
    have ite : h'.IsListIter it₀ l i := ⟨oi, sat'.frm (.tail _ (.head _)), j1, j2⟩
    have hl' := hl h' (sat'.fro (le.1 _ ho))
    cases hdi : ds[i]? with
    | none =>
      rw [dropN hdi hn, List.drop_length] at fp'
      refine wpAny_pyNext_enum_end sat'.ok.hand en' ite hl' (by rw [List.getElem?_toArray]; exact List.getElem?_eq_none (by rw [rs.length]; exact Nat.le_of_eq (dropN hdi hn).symm)) fun h₄ hs₄ => wpAny_execs_nil ?_
      exact C.ok N' _ _ S' h₄ tk' ((le₁.trans le₂).trans le) (sat'.offAny.offE hs₄) .next fp'
    | some d' =>
      refine absP fun _ kk => ?_
      obtain ⟨x, hx, rx⟩ := (rs.mono le).get' hdi
      refine kk ?_
      clear kk
      have hlt := dropL hdi
      rw [dropS hdi] at fp'
      have heH : e₀ < h'.objs.size := Heap.lt_size (sat'.frm (.head _))
      have hiH : it₀ < h'.objs.size := Heap.lt_size (sat'.frm (.tail _ (.head _)))
      refine wpAny_pyNext_enum_item en' ite hl' hx hne fun h₅ heo hit₁ ht₁ hz₁ hk₁ => ?_
      refine wpAny_letOwnedTupleGo_enum heo fun h₆ he₂ hs₂ => ?_
      replace hs₂ : Heap.SameBut e₀ h₅ h₆ := hs₂
      have ht₂ : h₆.IsTuple h'.objs.size #[.int i tk', x] := ⟨_, (hs₂.2 _ (Nat.ne_of_gt heH)).trans ht₁, rfl, _, rfl⟩
      have hz₂ : h₆.objs.size = h'.objs.size + 1 := hs₂.1.trans hz₁
      refine wpAny_assign_Tuple sat'.ok.hand ht₂ rfl rfl fun h₇ hx₃ => ?_
      replace hx₃ : Heap.ExtBut h₆.objs.size h₆ h₇ := hx₃
      have old₃ : ∀ b o, b < h'.objs.size → h₆.get? b = some o → h₇.get? b = some o := fun b o hb x => hx₃ b o (by rw [hz₂]; exact Nat.ne_of_lt (Nat.lt_succ_of_lt hb)) x
      refine absP fun _ kk => ?_
      obtain ⟨oi', z1, z2, z3⟩ := hit₁
      refine kk ?_
      clear kk
      have hsz : h'.objs.size ≤ h₇.objs.size := by
        have hL := (hl _ (sat'.fro (le.1 _ ho)))
        have := ht₂
        refine absP fun _ kk => ?_
        obtain ⟨ot, ht, _⟩ := this
        refine kk ?_
        clear kk
        have hmem := hx₃ _ _ (by rw [hz₂]; exact Nat.ne_of_lt (Nat.lt_succ_self _)) ht
        exact Nat.le_of_lt (Heap.lt_size hmem)
      have sat₇ : Sat γ N' ((e₀, enO it₀ ((i + 1 : Nat) : Int) x) :: (it₀, oi') :: F) S' h₇ (tk' + 1) := by
        refine sat'.turn2F (Nat.le_succ _) (fun b o hb1 hb2 eo => ?_) ?_ ?_ hsz
        · exact old₃ b o (Heap.lt_size eo) ((hs₂.2 b hb2).trans (hk₁ b o hb2 hb1 eo))
        · exact old₃ _ _ hiH ((hs₂.2 _ (Ne.symm hne)).trans z1)
        · exact old₃ _ _ heH he₂
      show wpAny _ _ (do holding [x] (assign (.Name k p1) γ.env (.int i tk')); do holding [] (assign (.Name b p2) γ.env x); pure ()) _ _ (γ.mk' h₇ (tk' + 1))
      refine wpAny_bind (wpAny_holding (wpAny_assign_Name (wp_store sat₇ hkk (.int i tk') fun h₈ tk₈ sat₈ => ?_)))
      refine wpAny_bind (wpAny_holding (wpAny_assign_Name (wp_store sat₈ hkb rx fun h₉ tk₉ sat₉ => wpAny_pure ?_)))
      refine wpAny_noRaise (fp' N' _ h₉ tk₉ sat₉ _ _ ⟨PassesOwn.never, fun N₅ f a S₅ h₅ tk₅ le₅ sat₅ r₅ k₅ => ?_, fun _ _ _ _ _ _ _ _ _ p => p⟩)
      cases r₅ with
      | next =>
        refine absP fun _ kk => ?_
        obtain ⟨S₆, w6, k₆⟩ := k₅
        refine kk ?_
        clear kk
        exact ⟨n - 1, cn1 hn hlt, .mk (i := i + 1) (cn2 hn hlt) (le.trans le₅) z2 z3 (sat₅.weak w6) k₆⟩
      | cont =>
        refine absP fun _ kk => ?_
        obtain ⟨S₆, w6, k₆⟩ := k₅
        refine kk ?_
        clear kk
        exact ⟨n - 1, cn1 hn hlt, .mk (i := i + 1) (cn2 hn hlt) (le.trans le₅) z2 z3 (sat₅.weak w6) k₆⟩
      | brk => exact C.ok N₅ _ _ S₅ h₅ tk₅ (((le₁.trans le₂).trans le).trans le₅) sat₅.offAny.offAny .next k₅
      | ret r => exact C.ok N₅ _ _ S₅ h₅ tk₅ (((le₁.trans le₂).trans le).trans le₅) sat₅.offAny.offAny (.ret r) k₅
end

section
-- XI
theorem VRs.allInts {N : Fz} {vs : List Value} {js : List Int} (r : VRs N vs (js.map .int)) : ∀ v ∈ vs, ∃ a t, v = Value.int a t := by
  have key : ∀ {vs : List Value} {ds : List D}, VRs N vs ds → (∀ d ∈ ds, ∃ i, d = D.int i) → ∀ v ∈ vs, ∃ a t, v = Value.int a t := fun rs =>
    VRs.ind (P := fun vs ds => (∀ d ∈ ds, ∃ i, d = D.int i) → ∀ v ∈ vs, ∃ a t, v = Value.int a t) (fun _ v hv => nomatch hv) (fun {v d _ _} r _ ih hd w hw => by
      rcases List.mem_cons.mp hw with rfl | hw
      · obtain ⟨i, rfl⟩ := hd d (.head _)
        exact ⟨i, r.intI⟩
      · exact ih (fun d h => hd d (.tail _ h)) w hw) rs
  exact key r fun d hd => let ⟨i, _, e⟩ := List.mem_map.mp hd; ⟨i, e.symm⟩
section
variable {γ : Fx} {S : St} {Ξ : Exc → Cells → Prop} {Φ : D → St → Prop} {js : List Int}
theorem sum_any (h : ∀ x, Φ (.int x) S) : WPC γ (.builtin "sum") [.lst (js.map .int)] S Φ Ξ := fun N vs rs F hp tk sat Q E C => by
  cases rs with | cons r1 rs =>
  (first | refine VRs.nilE rs ?_ | cases rs)
  refine absP fun _ kk => ?_
  obtain ⟨a, vs, rfl, il, rs⟩ := r1.tyLst sat.fros
  refine kk ?_
  clear kk
  have ha : AllInts vs.toArray := fun v hv => VRs.allInts rs v (by simpa using hv)
  obtain ⟨xs, hxs⟩ := ha.items
  rw [hxs] at il
  refine wpAny_with_toks (n := tk) (Nat.le_refl _) (sum_intListG (s := γ.mk' hp tk) sat.ok.hand il fun h' tk' t' hk ht => ?_)
  exact C.ok N _ _ S h' tk' (Le.refl N) ((sat.keeps hk).tkTo ht) (.int _ _) (h _)
end
theorem pick_ints (is : List Int) (a b c : Option Int) : pickD (is.map D.int) a b c = (pickD is a b c).map .int := by
  unfold pickD
  rw [List.length_map, List.map_filterMap]
  congr 1
  funext j
  rw [List.getElem?_map]
theorem ForE.ind {γ : Fx} {k b : PySem.Str} {body : List Stmt} {Ψ : AF → St → Prop} (I : Nat → List D → St → Prop)
    (hI : ∀ i d ds S, I i (d :: ds) S → WPB γ body ⟨(b, d) :: (k, .int i) :: S.ρ, S.κ⟩ (fun f S' => match f with
      | .next => ∃ S₃, Wk S₃ S' ∧ I (i + 1) ds S₃
      | .cont => ∃ S₃, Wk S₃ S' ∧ I (i + 1) ds S₃
      | .brk => Ψ .next S'
      | .ret r => Ψ (.ret r) S') NoX) (hE : ∀ i S, I i [] S → Ψ .next S) : ∀ ds i S, I i ds S → ForE γ k b body Ψ i ds S
  | [], i, S, h => hE i S h
  | d :: ds, i, S, h => by
    refine WP.mono (hI i d ds S h) (fun f S' p => ?_) (fun _ _ p => p)
    cases f with
    | next => obtain ⟨S₃, a, b⟩ := p; exact ⟨S₃, a, ForE.ind I hI hE ds _ S₃ b⟩
    | cont => obtain ⟨S₃, a, b⟩ := p; exact ⟨S₃, a, ForE.ind I hI hE ds _ S₃ b⟩
    | brk => exact p
    | ret r => exact p
end

section
-- XJ
theorem bb_sum : bootBuiltins (Str.ofString "sum") = some (.builtin "sum") := by kernel_rfl
section
local macro_rules | `(tactic| wtm_at "m_e") => `(tactic| with_reducible refine kE_callB gl_sum bb_sum ?_)
theorem law_body {γ' : Fx} {κ : Cells} {is : List Int} {Φ : D → Cells → Prop} {Ξ : Exc → Cells → Prop} (hn : 19 ≤ γ'.n) (g2 : γ'.env.scope = (defAt 54).2.2) (g3 : γ'.cv = []) (hl : is.length ≤ 1000) (h : Φ (.bool true) κ) : WPB γ' (defAt 54).2.1 ⟨[((Str.ofString "script"), D.lst (is.map .int))], κ⟩ (Post Φ) Ξ := by
  · refine kB_cons ?_
    refine S_forE (kind_of g2 (by rfl)) (kind_of g2 (by rfl)) (kind_of g2 (by rfl)) ?_ (by rfl) (by intro _; rfl)
    wtm_at "m"
    refine base_ok (by wtm_at "om") ?_
    wtm_at "m"
    let I : Nat → List D → St → Prop := fun i ds S => ∃ l : List (List Int), ds = l.map (fun q => D.lst (q.map .int)) ∧ S = ⟨[((Str.ofString "script"), D.lst (is.map .int))], κ⟩ ∧ ∀ q ∈ l, q.length ≤ 100
    refine ForE.ind I ?_ ?_ _ _ _ ?_
    · intro i d ds S hh
      refine absP fun _ kk => ?_
      obtain ⟨l, e1, rfl, e2⟩ := hh
      refine kk ?_
      clear kk
      cases l with
      | nil => cases e1
      | cons q l =>
        cases e1
        have hq := e2 q (.head _)
        wtm_at "m"
        refine ⟨by show (is.map D.int).length ≤ _; rw [List.length_map]; wtm_at "om", by simp, ?_⟩
        rw [pick_ints]
        wtm_at "m"
        refine sum_any fun x => ?_
        wtm_at "m"
        refine pow_i (by decide) (by decide) (by decide) ?_
        wtm_at "m"
        refine add_lo (by simp; wtm_at "om") fun c => ?_
        wtm_at "m"
        refine case_ok (by wtm_at "om") (by wtm_at "om") fun l' => ?_
        wtm_at "m"
        exact ⟨⟨[((Str.ofString "script"), D.lst (is.map .int))], κ⟩, Wk.of ⟨rfl, trivial⟩ (.cons _ (.refl _)), l, rfl, rfl, fun x hx => e2 x (.tail _ hx)⟩
    · intro i S hh
      refine absP fun _ kk => ?_
      obtain ⟨l, e1, rfl, e2⟩ := hh
      refine kk ?_
      clear kk
      wtm_at "m"
      exact h
    · exact ⟨baseL, rfl, rfl, by decide⟩
end
end

section
-- XK
theorem wellInts {P : Params} {h : Heap} {N : Fz} : ∀ {xs : List WData} {vs : List Value}, WellAll P h vs xs → WShape.hasItems [] xs .int = true → ∃ is : List Int, is.length = xs.length ∧ VRs N vs (is.map .int) := by
  intro xs
  induction xs with
  | nil =>
    intro vs w _
    cases w
    exact ⟨[], rfl, .nil⟩
  | cons d ds ih =>
    intro vs w hh
    cases w with
    | cons w ws =>
      obtain ⟨h1, h2⟩ := Bool.and_eq_true_iff.mp (show (WShape.has [] d .int && WShape.hasItems [] _ .int) = true from hh)
      refine absP fun _ kk => ?_
      obtain ⟨is, e, r⟩ := ih ws h2
      refine kk ?_
      clear kk
      obtain ⟨i, rfl⟩ := hasW_int h1
      cases w with
      | int i t => exact ⟨i :: is, congrArg Nat.succ e, .cons (.int i t) r⟩
theorem preIs {args : List WData} (h : rw58.row.toRowW.claim.pre args = true) : ∃ xs, args = [.list xs] ∧ WShape.hasItems [] xs .int = true ∧ xs.length ≤ 63 := by
  obtain ⟨h1, h2⟩ := pre_splitW h
  refine absP fun _ kk => ?_
  obtain ⟨d, r, rfl, h4, h3⟩ := hasAllW_cons (show WShape.hasAll [] args [.list .int] = true from h1)
  refine kk ?_
  clear kk
  obtain rfl := hasAllW_nil h3
  refine absP fun _ kk => ?_
  obtain ⟨xs, rfl, h5⟩ := hasW_list h4
  refine kk ?_
  clear kk
  refine ⟨xs, rfl, h5, ?_⟩
  have h6 := (holds_andW (show WTm.holds [] (.and (.not (.lt (.lit (.int 63)) (.len (.arg 0)))) (.lit (.bool true))) { args := [.list xs] } = true from h2)).1
  rw [holdsW_of_value (show WTm.value [] (.not (.lt (.lit (.int 63)) (.len (.arg 0)))) { args := [.list xs] } = some (.bool (!(decide ((63 : Int) < xs.length)))) from rfl)] at h6
  have h7 := of_decide_eq_false (Bool.not_eq_true' _ ▸ h6 : decide ((63 : Int) < xs.length) = false)
  omega
theorem well1 {P : Params} {h : Heap} {vals : List Value} {xs : List WData} (w : WellAll P h vals [.list xs]) : ∃ l vs, vals = [.ref l] ∧ h.get? l = some { cls := .type "list", data := .seq (List.toArray vs) } ∧ WellAll P h vs xs := by
  cases w with | cons hw hws =>
    cases hws
    cases hw with | list hl hws => exact ⟨_, _, rfl, hl, hws⟩
theorem walk : WalkO q loose (XL q []) Says rw58.row.toRowW lawRec [] fun f vs => PySem.call f vs := by
  intro w s₀ s₁ mg mb G Y a o pm cd doc dV kV ho hod hcode hd hmg hg args vals as hpre hlay hreads hwell hsys
  refine absP fun _ kk => ?_
  obtain ⟨mg', hg', hG⟩ := Y.G
  refine kk ?_
  clear kk
  have hmm : mg = mg' := by rw [G.T.g.eq_nsMap, hg'.eq_nsMap]
  have ha : a = 375 := by
    have e1 : mg' (Str.ofString "law") = some (.ref 375) := hG (Str.ofString "law", some (.ref 375)) (by decide +kernel)
    have e2 : mg (Str.ofString "law") = some (.ref a) := hmg
    rw [hmm, e1] at e2
    exact (Value.ref.inj (Option.some.inj e2)).symm
  refine absP fun _ kk => ?_
  obtain ⟨xs, ex, hx, hlen⟩ := preIs hpre
  refine kk ?_
  clear kk
  clear ho hod hcode hd hmg hpre hlay hreads hsys hmm hG hg'
  clear mg'
  subst ha ex
  refine absP fun _ kk => ?_
  obtain ⟨l, vs, ev, hl, hws⟩ := well1 hwell
  refine kk ?_
  clear kk
  clear hwell
  subst ev
  refine absP fun _ kk => ?_
  obtain ⟨is, hil, rs⟩ := wellInts (N := ⟨[(l, { cls := .type "list", data := .seq vs.toArray })], 1⟩) hws hx
  refine kk ?_
  clear kk
  have gd : Gd w s₁.heap := ⟨Y, ⟨mb, G.T.b, G.T.builtins⟩, G.T.nolimit⟩
  refine absP fun _ kk => ?_
  obtain ⟨heap, gens, drawn, toks, os⟩ := s₁
  refine kk ?_
  clear kk
  refine wpAny_call (codeAny_call_def (fd := fnOf "law" "law" (defAt 54).1 (defAt 54).2.1 (defAt 54).2.2 .none .none .none (.str "law_oj0058_01" 549) none (.ref 374) .none) (body := (defAt 54).2.1) (binds := [((Str.ofString "script"), .ref l)]) (by decide)
    (Y.K _ _ (fk_law _)) rfl G.T.nolimit (Y.C fi_law fm_law) rfl (BindsTo.of_eq (by rfl)) (by decide +kernel) (fun x hx => by rw [List.mem_singleton.mp hx]; rfl) (fun h₁ hns hk₁ => ?_) (by rfl) (by rfl) (by rfl))
  generalize henv : callEnv (fnOf "law" "law" (defAt 54).1 (defAt 54).2.1 (defAt 54).2.2 .none .none .none (.str "law_oj0058_01" 549) none (.ref 374) .none) heap.objs.size 375 = env'
  have hsc' : env'.scope = (defAt 54).2.2 := by rw [← henv]; rfl
  have hlo' : env'.locals = heap.objs.size := by rw [← henv]; rfl
  have hfr' : env'.frame = some heap.objs.size := by rw [← henv]; rfl
  have hgl' : env'.globals = mainGlobals := by rw [← henv]; rfl
  have hbu' : env'.builtins = builtinsNs := by rw [← henv]; rfl
  have hok : Fx.Ok ⟨w, heap, ⟨heap, gens, drawn, toks, os⟩, callerA.deeper env', env', [], [env'], [], 60⟩ := by
    refine ⟨gd, by rw [hsc']; rfl, hgl', hbu', rfl, Around.frames_deeper rfl, (by show callerA.depth + 1 + 4 * 60 < recursionLimit; decide), (by show callerA.units + 3 + 32 * 60 < cLine; decide), fun e he => ?_⟩
    obtain rfl := List.mem_singleton.mp he
    exact ⟨by rw [hsc']; decide, heap.objs.size, by rw [hlo']; exact .head _, hfr'⟩
  have sat : Sat ⟨w, heap, ⟨heap, gens, drawn, toks, os⟩, callerA.deeper env', env', [], [env'], [], 60⟩ ⟨[(l, { cls := .type "list", data := .seq vs.toArray })], 1⟩ [] ⟨[((Str.ofString "script"), D.lst (is.map .int))], []⟩ h₁ (toks + 1) := by
    have hlt : l < heap.objs.size := Heap.lt_size hl
    refine ⟨hok, ⟨Nat.le_refl _, Nat.le_add_left 1 toks⟩, ⟨(fun x => ([((Str.ofString "script"), Value.ref l)] : List (PySem.Str × Value)).reverse.lookup x), ⟨hk₁, fun p hp => ?_, fun p hp => ?_, fun p hp => (nomatch hp), fun p hp => (nomatch hp), fun p hp => ?_, fun p hp => (nomatch hp), fun p hp => (nomatch hp), Nat.le_of_lt hns.lt, by simp, List.nodup_nil, List.nodup_nil, fun p hp q hq => ?_, fun p hp q hq => (nomatch hq), fun p hp q hq => (nomatch hq), fun p hp q hq => (nomatch hq), fun p hp q hq => (nomatch hq), fun p hp => (nomatch hp)⟩, fun x d e => ?_⟩, fun x d e => by cases e⟩
    · obtain rfl := List.mem_singleton.mp hp
      show h₁.Ns env'.locals _
      rw [hlo']; exact hns
    · obtain rfl := List.mem_singleton.mp hp
      exact hk₁ _ _ hl
    · obtain rfl := List.mem_singleton.mp hp
      show heap.objs.size ≤ env'.locals
      rw [hlo']; exact Nat.le_refl _
    · obtain rfl := List.mem_singleton.mp hp
      obtain rfl := List.mem_singleton.mp hq
      show env'.locals ≠ l
      rw [hlo']; exact (Nat.ne_of_lt hlt).symm
    · simp only [List.lookup_cons, List.lookup_nil] at e
      cases q : x == Str.ofString "script" with
      | true =>
        rw [q] at e; cases e
        have := eq_of_beq q
        subst this
        refine ⟨?_, .ref l, by simp, .lst (.head _) rfl rfl rfl rs⟩
        show env'.scope.names.lookup _ = _
        rw [hsc']; rfl
      | false => rw [q] at e; cases e
  refine law_body (γ' := ⟨w, heap, ⟨heap, gens, drawn, toks, os⟩, callerA.deeper env', env', [], [env'], [], 60⟩) (κ := []) (is := is) (Φ := fun d _ => d = .bool true) (Ξ := NoX) (show 19 ≤ 60 by decide) hsc' rfl (by omega) rfl _ [] h₁ (toks + 1) sat _ _ ⟨PassesOwn.leaving, fun N' a b S' h' tk' le sat₁ r p => ?_, fun N' e x κ' h' tk' le ok R p => p.elim⟩
  have fin : GoodWG rw58.row.toRowW.claim (classAt s₀.heap) (ExcName.means s₀.heap) [.list xs] ⟨heap, gens, drawn, toks, os⟩ (.ok (.ret (.bool true))) ⟨h', gens, drawn, tk', os⟩ := by
    refine GoodW.toG ⟨.inl ⟨.bool true, .bool true, [], rfl, fun cls => rfl, .bool true, ?_, fun _ => ⟨List.nodup_nil, fun a ha => (nomatch ha)⟩⟩, fun b o e => sat₁.base b o e, rfl, hg⟩
    kernel_rfl
  cases r with
  | ret r =>
    refine absP fun _ kk => ?_
    obtain ⟨κ', _, q⟩ := p
    refine kk ?_
    clear kk
    have q : _ = D.bool true := q
    subst q
    cases r
    exact fin
  | next => obtain ⟨κ', _, q⟩ := p; cases q
  | brk => exact p.elim
  | cont => exact p.elim
end

end Mine

set_option maxHeartbeats 8000000 in
theorem PySem.Challenge.cw_oj0058_01_holds : PySem.Challenge.rw_oj0058_01.Holds :=
  Mine.head Mine.walk Mine.witness
