import PyProof.Rows.All
import Wide.All
import OpenK.AllK
import Wide.FinOn
import Lean
import PySem.Challenge.RW_rr0016_01
open PySem PySem.W PyProof.Rows PyProof.V
set_option Elab.async false
set_option compiler.extract_closed false
namespace Mine
section
local macro_rules | `(tactic| o_head $_) => `(tactic| assumption)
theorem topK (h : PySem.Challenge.rw_rr0016_01.row.Holds) : PySem.Challenge.rw_rr0016_01.row.Holds := by k_head
end
abbrev rW : RowW := PySem.Challenge.rw_rr0016_01.row.toRowW
noncomputable def vw : Program := view PySem.Challenge.pw_rr0016_01 [0, 2, 3, 5, 6, 7, 8, 9, 11, 12, 13, 14, 15, 16]
noncomputable def addrs : List Addr := [2, 3, 15, 17, 18, 20, 21, 22, 23, 25, 26, 28, 29, 37, 39, 40, 42, 43, 44, 45, 46, 47, 48, 58, 60, 61, 63, 64, 65, 67, 68, 70, 71, 72, 73, 74, 75, 76, 86, 88, 89, 91, 92, 93, 95, 96, 98, 99, 100, 102, 103, 105, 106, 107, 109, 110, 112, 113, 114, 116, 117, 119, 120, 121, 123, 124, 126, 127, 128, 130, 131, 133, 134, 135, 137, 138, 140, 141, 142, 144, 145, 147, 148, 149, 151, 152, 154, 155, 156, 158, 159, 161, 162, 163, 164, 165, 166, 167, 170, 172, 173, 175, 176, 177, 179, 180, 182, 183, 184, 186, 187, 189, 190, 191, 193, 194, 196, 197, 198, 200, 201, 203, 204, 205, 207, 208, 210, 211, 212, 214, 215, 217, 218, 219, 221, 222, 224, 225]
theorem addrs_ok : ∀ P, addrs = (topK.heap_1 P).map (·.1) := fun _ => by kernel_rfl
noncomputable def hk : Hook := kHook topK.heap_1 addrs addrs_ok
theorem left_run {p q : Program} {loose : List Str} {Xt : Shared → Bool} {α : Type} {Yf : Shared → α} {Ya : World → α} {N : Nat} {g0 : Bool}
    (e : opening p = plainProg p.main.scope.names) (hN : Nat.ble 600 N = true) (f : ∀ s, fenceModules? p s = some s)
    (h : ∀ w os, (topFrom treeTable p w N ⟨boot_heap w.params, Array.mk [], boot_drawn, boot_toks, os⟩).map (fun s => (openSeen q loose (importedModules p.main.body) Xt g0 s, Yf s)) = some (openGood q loose, Ya w)) :
    LeftO p q loose Xt Yf Ya N g0 := fun w => by
  obtain ⟨⟨hh, gs, d, k, os⟩, e1, e2⟩ := Option.map_eq_some_iff.mp (boot_open e hN f w)
  obtain ⟨rfl, rfl, rfl, rfl⟩ : hh = boot_heap w.params ∧ gs = Array.mk [] ∧ d = boot_drawn ∧ k = boot_toks := by simpa using e2
  unfold openEnds
  rw [e1]
  exact h w os
theorem left : LeftO PySem.Challenge.pw_rr0016_01 vw [] (fun s => xlAt vw [] s && recOk (RowW.records rW) s) (Hook.obs hk) (Hook.val hk) 3018 := by
  refine left_run (by kernel_rfl) (by decide) (fun s => by kernel_rfl) fun w os => ?_
  unfold topFrom
  rw [PySem.W.Fast.te14082659384304107361, PySem.W.Fast.te14364793385576792824, PySem.W.Fast.te4187177175401517315]
  kernel_rfl
theorem wit : PySem.Challenge.rw_rr0016_01.row.toRowW.promised := by w_witness2
theorem oks : (chainsOk vw && opensWell rW.prog && (frees rW && rW.within.isEmpty)) = true := by decide +kernel
/-! generic lemmas: ledgers -/
/-- the ledger without some addresses -/
noncomputable def off (as : List Nat) (news : List (Addr × Obj)) : List (Addr × Obj) := news.filter fun p => !as.contains p.1
theorem mem_off {as : List Nat} {news : List (Addr × Obj)} {p : Addr × Obj} (h : p ∈ news) (hn : p.1 ∉ as) : p ∈ off as news := by
  unfold off
  rw [List.mem_filter]
  exact ⟨h, by simpa using hn⟩
theorem of_off {as : List Nat} {news : List (Addr × Obj)} {p : Addr × Obj} (h : p ∈ off as news) : p ∈ news ∧ p.1 ∉ as := by
  unfold off at h
  rw [List.mem_filter] at h
  exact ⟨h.1, by simpa using h.2⟩
theorem off_ne {as : List Nat} {news : List (Addr × Obj)} {a : Nat} (ha : a ∈ as) : ∀ p ∈ off as news, p.1 ≠ a := fun p hp e => (of_off hp).2 (by rw [e]; exact ha)
theorem news_sub {h₀ h : Heap} {L : Addr} {news news' : List (Addr × Obj)} (N : News h₀ L h news) (hs : ∀ p ∈ news', p ∈ news) : News h₀ L h news' := fun p hp => N p (hs p hp)
theorem news_off {h₀ h : Heap} {L : Addr} {news : List (Addr × Obj)} {as : List Nat} (N : News h₀ L h news) : News h₀ L h (off as news) := news_sub N fun _ hp => (of_off hp).1
theorem news_cons {h₀ h : Heap} {L : Addr} {news : List (Addr × Obj)} {p : Addr × Obj} {l : List (Addr × Obj)} (N : News h₀ L h news) (hp : p ∈ news) (N' : News h₀ L h l) : News h₀ L h (p :: l) := fun q hq => by
  rcases List.mem_cons.mp hq with rfl | hq
  · exact N _ hp
  · exact N' q hq
theorem news_same {h₀ h : Heap} {L a : Addr} {o o' : Obj} {news : List (Addr × Obj)} (N : News h₀ L h news) (h1 : (a, o) ∈ news) (h2 : (a, o') ∈ news) : o = o' := by
  have e1 := (N _ h1).1
  have e2 := (N _ h2).1
  exact Option.some.inj (e1.symm.trans e2)
/-- what the caller hands on: all but the heap and the ledger -/
structure Cx (w : World) (A₀ A : Around) (base h₀ : Heap) (outer : List Env) (env : Env) (L : Addr) (mean : ExcName → Option Value) (mg mb : Str → Option Value) (D : Nat) : Prop where
  B : Below A₀ base outer h₀
  X : (topK.heap_1 w.params).In h₀
  T : Top vw (looseW vw []) mean mg mb h₀
  hA : A.frames = some (env :: outer)
  hf : env.frame = some L
  hke : env.scope.kind = .function
  hroom : A.depth < D
  hunits : A.units < 3 * D
  hh : A.handled = none
theorem Cx.inner {w : World} {A : Around} {base g' : Heap} {outer : List Env} {env : Env} {mean : ExcName → Option Value} {mg mb : Str → Option Value} {D D' : Nat} {nm : Str} {sc : Scope} {L' f : Addr} {cd : Value}
    (B' : Below A base (env :: outer) g') (X' : (topK.heap_1 w.params).In g') (T' : Top vw (looseW vw []) mean mg mb g') (hroom : A.depth < D) (hunits : A.units < 3 * D) (hh : A.handled = none) (hD : D + 1 ≤ D') (hk : sc.kind = .function := by rfl) :
    Cx w A (A.deeper (envOf nm sc L' f cd)) base g' (env :: outer) (envOf nm sc L' f cd) L' mean mg mb D' :=
  ⟨B', X', T', Around.frames_deeper B'.stack, rfl, hk, by show A.depth + 1 < D'; omega, by show A.units + 3 < 3 * D'; omega, hh⟩
def withK (_ : OpenLaw) (_ : Params → Frag) : Prop := True
/-- the script's cut -/
noncomputable def cutv (ns : List Int) (k : Int) (lim : Int) : Int := if k < ns.length then (((ns.getD k.toNat 0).natAbs : Nat) : Int) % lim else 0
theorem fr_under {A : Around} {id : String} {args : Args} {l : List Env} (h : A.frames = some l) (he : (Code.builtin id args).envs = [] := by rfl) : (A.under (.builtin id args)).frames = some l := by
  show pushEnvs (Code.builtin id args).envs A.frames = some l
  rw [he]; exact h
theorem fr_in1 {A : Around} {l : List Env} (h : A.frames = some l) : A.in1.frames = some l := h
theorem fr_mark {A : Around} {x : Option Value} {l : List Env} (h : A.frames = some l) : (A.mark x).frames = some l := h
theorem kda_get {prog : Program} {w : World} {A : Around} {E : Value → Shared → Prop} {s : Shared} {h₀ : Heap} {L d : Addr} {news : List (Addr × Obj)} {o : Obj} {kvs : List (Int × Value)} {k : Int} {t : Tok} {v : Value} {Q : Value → Shared → Prop}
    (N : News h₀ L s.heap news) (hp : (d, o) ∈ news) (hd : o.IsDictOf (intKind prog w) kvs) (hl : valueAt kvs k = some v) (h : Q v { s with toks := s.toks + 1 }) : wpAny (model prog w) A (getItem (.ref d) (.int k t)) Q E s :=
  wpAny_getItem_of (intKind_is prog w k t) (kda_dict N hp hd).mapOf hl h
theorem kda_tail {prog : Program} {w : World} {A : Around} {E : Value → Shared → Prop} {s : Shared} {h₀ : Heap} {L d : Addr} {news : List (Addr × Obj)} {o : Obj} {kvs : List (Int × Value)} {key : Value} {value slice : PySem.Expr} {Q : Value → Shared → Prop}
    (N : News h₀ L s.heap news) (hp : (d, o) ∈ news) (hd : o.IsDictOf (intKind prog w) kvs) (h : wpAny (model prog w) A (getItem (.ref d) key) Q E s)
    (hs : subscripted slice false (.ref d) key = operate [.ref d, key] (getItem (.ref d) key)) : wpAny (model prog w) A (subscriptTail value slice (.ref d) key) Q E s :=
  tail_any (kda_dict N hp hd).typeIs slot_dict_getitem.lookup h hs
theorem newTuple_mine {M : Model} {A : Around} {E : Value → Shared → Prop} {s : Shared} {h₀ : Heap} {L : Addr} {m : Str → Option Value} {news : List (Addr × Obj)} {vs : List Value} {Q : Value → Shared → Prop} (F : Fr h₀ L s.heap m) (N : News h₀ L s.heap news)
    (h : ∀ l h', Fr h₀ L h' m → News h₀ L h' ((l, ({ cls := .type "tuple", data := .seq vs.toArray } : Obj)) :: news) → (∀ p ∈ news, p.1 < l) → Q (.ref l) { s with heap := h' }) (hsz : vs.length ≤ sizeLine := by size_fits) : wpAny M A (newTuple vs) Q E s :=
  newTuple_N F N (fun h' F' N' => h _ h' F' N' fun p hp => Heap.lt_size (N p hp).1) hsz
theorem len_mem {prog : Program} {w : World} {A : Around} {E : Value → Shared → Prop} {s : Shared} {h₀ : Heap} {L : Addr} {D : Nat} {news : List (Addr × Obj)} {vs : List Value} {n : Nat} {ns : List Int} {Q : Value → Shared → Prop}
    (N : News h₀ L s.heap news) (hm : (D, listOf vs.toArray n) ∈ news) (hi : IntsAre vs ns) (hz : ns.length ≤ 1000) (h : Q (.int (ns.length : Nat) (s.toks + 1)) { s with toks := s.toks + 1 + 1 }) :
    wpAny (model prog w) A (call (.builtin "len") [.ref D]) Q E s := len_ints_fit (PySem.IsL.isList (n := n) (N _ hm).1) hi (by omega) h
theorem list_meth {M : Model} {A : Around} {E : Value → Shared → Prop} {s : Shared} {h₀ : Heap} {L : Addr} {D : Nat} {news : List (Addr × Obj)} {its : Array Value} {n : Nat} {name : Str} {id : String} {pl : Sem Bool} {Q : Value × List Value → Shared → Prop}
    (slot : Slot "list" name id) (ty : typeOf (.builtin id) = pure (.type "method_descriptor")) (N : News h₀ L s.heap news) (hm : (D, listOf its n) ∈ news) (h : Q (.builtin id, [.ref D]) s) : wpAny M A (getMethod (.ref D) name pl) Q E s :=
  getMethod_builtin (PySem.IsL.isList (n := n) (N _ hm).1).typeIs PySem.F.plainAttrs_list slot ty (fun a e => by cases e; exact ⟨_, (N _ hm).1, rfl⟩) h
/-- the goal behind a name: what is taken apart ahead of it is written small -/
theorem viaG {P : Prop} (h : ∀ G : Prop, (P → G) → G) : P := h P id
/-! rules with their premises' own tactics, so that the walk's lines stay short -/
noncomputable def stops : List Nat := [29, 74, 99, 106, 113, 127, 134, 141, 155, 165, 176, 183, 190, 197, 204, 211, 218]
section
variable {M : Model} {A : Around} {E : Value → Shared → Prop} {s : Shared}
theorem atCall {k : Addr} {as : List Value} {kw : List (Str × Value)} {Q : Value → Shared → Prop} (h : stops.contains k = true) (g : wpAny M A (call (.ref k) as kw) Q E s) : wpAny M A (call (.ref k) as kw) Q E s := g
theorem atIter {v : Value} {Q : Value → Shared → Prop} (g : wpAny M A (pyIter v) Q E s) : wpAny M A (pyIter v) Q E s := g
theorem atFor {t i b o c} {env : Env} {Q : Flow → Shared → Prop} (g : wpAny M A (exec (Stmt.For t i b o c) env) Q E s) : wpAny M A (exec (Stmt.For t i b o c) env) Q E s := g
theorem atWhile {t b o c} {env : Env} {Q : Flow → Shared → Prop} (g : wpAny M A (exec (Stmt.While t b o c) env) Q E s) : wpAny M A (exec (Stmt.While t b o c) env) Q E s := g
theorem atSlice {a b c d e f g' : _} {p q : Value} {Q : Value → Shared → Prop} (g : wpAny M A (subscriptTail (PySem.Expr.Subscript a b c) (PySem.Expr.Slice d e f g') p q) Q E s) : wpAny M A (subscriptTail (PySem.Expr.Subscript a b c) (PySem.Expr.Slice d e f g') p q) Q E s := g
theorem atBin {o : Operator} {a b : Addr} {Q : Value → Shared → Prop} (g : wpAny M A (binaryOp o (.ref a) (.ref b)) Q E s) : wpAny M A (binaryOp o (.ref a) (.ref b)) Q E s := g
theorem atNe {a b : Addr} {Q : Value → Shared → Prop} (g : wpAny M A (compareOp .NotEq (.ref a) (.ref b)) Q E s) : wpAny M A (compareOp .NotEq (.ref a) (.ref b)) Q E s := g
theorem atEq {a b : Addr} {Q : Value → Shared → Prop} (g : wpAny M A (compareOp .Eq (.ref a) (.ref b)) Q E s) : wpAny M A (compareOp .Eq (.ref a) (.ref b)) Q E s := g
theorem atApp {as : List Value} {kw : List (Str × Value)} {Q : Value → Shared → Prop} (g : wpAny M A (call (.builtin "list.append") as kw) Q E s) : wpAny M A (call (.builtin "list.append") as kw) Q E s := g
theorem atIns {as : List Value} {kw : List (Str × Value)} {Q : Value → Shared → Prop} (g : wpAny M A (call (.builtin "list.insert") as kw) Q E s) : wpAny M A (call (.builtin "list.insert") as kw) Q E s := g
theorem atMGet {a : Addr} {pl : Sem Bool} {Q : Value × List Value → Shared → Prop} (g : wpAny M A (getMethod (.ref a) (Str.ofString "get") pl) Q E s) : wpAny M A (getMethod (.ref a) (Str.ofString "get") pl) Q E s := g
theorem atMApp {a : Addr} {pl : Sem Bool} {Q : Value × List Value → Shared → Prop} (g : wpAny M A (getMethod (.ref a) (Str.ofString "append") pl) Q E s) : wpAny M A (getMethod (.ref a) (Str.ofString "append") pl) Q E s := g
theorem atMIns {a : Addr} {pl : Sem Bool} {Q : Value × List Value → Shared → Prop} (g : wpAny M A (getMethod (.ref a) (Str.ofString "insert") pl) Q E s) : wpAny M A (getMethod (.ref a) (Str.ofString "insert") pl) Q E s := g
theorem atExec {x : Stmt} {env : Env} {Q : Flow → Shared → Prop} (g : wpAny M A (exec x env) Q E s) : wpAny M A (exec x env) Q E s := g
end
section
variable {prog : Program} {w : World} {A : Around} {E : Value → Shared → Prop} {s : Shared} {h₀ : Heap} {L d D : Addr} {m : Str → Option Value} {news : List (Addr × Obj)} {o : Obj} {kvs : List (Int × Value)} {k : Int} {t : Tok} {v : Value} {its : Array Value} {n : Nat}
theorem setA {g : Obj → List (Addr × Obj)} {Q : Unit → Shared → Prop} (F : Fr h₀ L s.heap m := by k_asm) (N : News h₀ L s.heap news := by k_asm) (U : UpdF d o news g := by k_updF) (hd : o.IsDictOf (intKind prog w) kvs := by k_asm)
    (hsz : kvs.length ≤ sizeLine := by first | assumption | (rw [sizeLine_eq]; exact Nat.le_of_ble_eq_true (by with_unfolding_all rfl)))
    (h : ∀ h' o', Fr h₀ L h' m → News h₀ L h' (g o') → o'.IsDictOf (intKind prog w) (stored kvs k v) → Q () { s with heap := h', toks := s.toks + 1 }) : wpAny (model prog w) A (setItem (.ref d) (.int k t) v) Q E s :=
  kda_set F N U hd (intKind_is _ _ _ _) hsz h
theorem tailA {key : Int} {value slice : PySem.Expr} {Q : Value → Shared → Prop} (N : News h₀ L s.heap news := by k_asm) (hp : (d, o) ∈ news := by k_mem) (hd : o.IsDictOf (intKind prog w) kvs := by k_asm)
    (hs : subscripted slice false (.ref d) (.int key t) = operate [.ref d, .int key t] (getItem (.ref d) (.int key t)) := by with_unfolding_all rfl) (h : wpAny (model prog w) A (getItem (.ref d) (.int key t)) Q E s) : wpAny (model prog w) A (subscriptTail value slice (.ref d) (.int key t)) Q E s :=
  kda_tail N hp hd h hs
theorem getA {Q : Value → Shared → Prop} (N : News h₀ L s.heap news := by k_asm) (hp : (d, o) ∈ news := by k_mem) (hd : o.IsDictOf (intKind prog w) kvs := by k_asm) (hl : valueAt kvs k = some v := by first | assumption | apply_assumption)
    (h : Q v { s with toks := s.toks + 1 }) : wpAny (model prog w) A (getItem (.ref d) (.int k t)) Q E s := kda_get N hp hd hl h
theorem methA {pl : Sem Bool} {Q : Value × List Value → Shared → Prop} (N : News h₀ L s.heap news := by k_asm) (hp : (d, o) ∈ news := by k_mem) (hd : o.IsDictOf (intKind prog w) kvs := by k_asm) (h : Q (.builtin "dict.get", [.ref d]) s) :
    wpAny (model prog w) A (getMethod (.ref d) (Str.ofString "get") pl) Q E s := kdg_method N hp hd h
theorem dgetA {x : Option Value} {Q : Value → Shared → Prop} (N : News h₀ L s.heap news := by k_asm) (hp : (d, o) ∈ news := by k_mem) (hd : o.IsDictOf (intKind prog w) kvs := by k_asm) (lo : (d == sysModules) = false := by assumption)
    (hl : valueAt kvs k = x := by first | assumption | apply_assumption) (h : Q (x.getD .none) { s with toks := s.toks + 1 }) : wpAny (model prog w) A (call (.builtin "dict.get") [.ref d, .int k t]) Q E s := kdg_get1 N hp hd lo (intKind_is _ _ _ _) _ hl h
theorem inA {b : Bool} {Q : Value → Shared → Prop} (N : News h₀ L s.heap news := by k_asm) (hp : (d, o) ∈ news := by k_mem) (hd : o.IsDictOf (intKind prog w) kvs := by k_asm) (lo : (d == sysModules) = false := by assumption)
    (hb : (valueAt kvs k).isSome = b := by first | assumption | apply_assumption) (h : Q (.bool b) { s with toks := s.toks + 1 }) : wpAny (model prog w) A (compareOp .In (.int k t) (.ref d)) Q E s := kda_in N hp hd lo (intKind_is _ _ _ _) b hb h
theorem lenA {vs : List Value} {ns : List Int} {Q : Value → Shared → Prop} (N : News h₀ L s.heap news := by k_asm) (hm : (D, listOf vs.toArray n) ∈ news := by k_mem) (hi : IntsAre vs ns := by assumption) (hz : ns.length ≤ 1000 := by first | assumption | omega)
    (h : Q (.int (ns.length : Nat) (s.toks + 1)) { s with toks := s.toks + 1 + 1 }) : wpAny (model prog w) A (call (.builtin "len") [.ref D]) Q E s := len_mem N hm hi hz h
theorem appA {pl : Sem Bool} {Q : Value × List Value → Shared → Prop} (N : News h₀ L s.heap news := by k_asm) (hm : (D, listOf its n) ∈ news := by k_mem) (h : Q (.builtin "list.append", [.ref D]) s) : wpAny (model prog w) A (getMethod (.ref D) (Str.ofString "append") pl) Q E s := list_meth PySem.F.slot_list_append PySem.F.type_list_append N hm h
theorem insA {pl : Sem Bool} {Q : Value × List Value → Shared → Prop} (N : News h₀ L s.heap news := by k_asm) (hm : (D, listOf its n) ∈ news := by k_mem) (h : Q (.builtin "list.insert", [.ref D]) s) : wpAny (model prog w) A (getMethod (.ref D) (Str.ofString "insert") pl) Q E s := list_meth PySem.F.slot_list_insert PySem.F.type_list_insert N hm h
theorem tupA {vs : List Value} {Q : Value → Shared → Prop} (F : Fr h₀ L s.heap m := by k_asm) (N : News h₀ L s.heap news := by k_asm)
    (h : ∀ l h', Fr h₀ L h' m → News h₀ L h' ((l, ({ cls := .type "tuple", data := .seq vs.toArray } : Obj)) :: news) → (∀ p ∈ news, p.1 < l) → Q (.ref l) { s with heap := h' }) (hsz : vs.length ≤ sizeLine := by size_fits) : wpAny (model prog w) A (newTuple vs) Q E s := newTuple_mine F N h hsz
end
local macro_rules | `(tactic| ktr_unf) => `(tactic| first | with_reducible assumption | (refine' Around.frames_deeper ?kk; (case kk => ktr_unf)) | (refine' fr_under ?kk; (case kk => ktr_unf)) | (refine' fr_in1 ?kk; (case kk => ktr_unf)) | (refine' fr_mark ?kk; (case kk => ktr_unf)))
local macro_rules | `(tactic| k_all) => `(tactic| first | assumption | exact off_ne (by simp))
local macro_rules | `(tactic| k_mem) => `(tactic| first | with_reducible assumption | assumption | exact List.Mem.head _ | (refine' List.Mem.tail _ ?_; k_mem))
local macro_rules | `(tactic| k_room) => `(tactic| ((try simp only [depth_under_make, depth_under_kw, depth_in1, depth_deeper, depth_caller, recursionLimit]); omega))
local macro_rules | `(tactic| k_enter) => `(tactic|
  (refine' code_def ?k1 ?k2 ?k3 ?k4 ?k5 ?kA ?kF ?kK ?k6 ?k7 ?k8 ?k9 ?kB ?_ ?c2 ?c3 ?c4 ?c5; (case kA => ktr_unf); (case kF => first | exact rfl | assumption); (case kK => first | exact rfl | assumption); (case k1 => k_asm); (case k2 => k_asm); (case k3 => k_asm); (case k4 => k_asm); (case k5 => k_asm); (case k6 => k_is); (case k7 => k_is); (case k8 => k_room); (case k9 => first | exact BindsTo.of_eq rfl | exact binds_K (by k_in) rfl (by k_is) rfl rfl rfl | fail "k_enter: no rule for these arguments"); (case c5 => decide); (case kB => exact locs rfl); (case c2 => exact rfl); (case c3 => exact rfl); (case c4 => exact rfl); k_whole; intro g' L' h' FG' F' N' B' X' T'; (try dsimp only); (try k_lift B'); (try k_fold)))
local macro_rules | `(tactic| walk_at "call type:range") => `(tactic| (k_here; (rename Fr _ _ _ _ => F'); (rename News _ _ _ _ => N'); (with_unfolding_all refine range1_rows F' N' ?_); intro _ _ _ _ _ _ _ _ _; (try k_sweep)))
local macro_rules | `(tactic| kwd_rel) => `(tactic| fail_if_success (with_reducible first | refine atIter ?_ | refine atFor ?_ | refine atWhile ?_ | refine atSlice ?_ | refine atBin ?_ | refine atNe ?_ | refine atEq ?_ | refine atApp ?_ | refine atIns ?_ | (refine atCall ?_ ?_; with_unfolding_all decide)))
local macro_rules | `(tactic| k_steps) => `(tactic| repeat' (first | (k_unfold; (try dsimp only)) | ((with_reducible refine atExec ?_); k_fold) | (kwd_rel; walk1) | (kwd_rel; dsimp only; walk1)))
local macro_rules | `(tactic| walk_at "setItem ref int") => `(tactic| (k_here; k_dflt (refine setA (h := ?_)); intro h' o' F' N' hd'; (try dsimp only at N'); (try k_sweep)))
local macro_rules | `(tactic| walk_at "subscriptTail") => `(tactic| (k_here; (with_reducible show wpAny _ _ (subscriptTail _ _ (Value.ref _) (Value.int _ _)) _ _ _); k_dflt (refine tailA (h := ?_))))
local macro_rules | `(tactic| walk_at "getItem ref int") => `(tactic| (k_here; k_dflt (refine getA (h := ?_))))
local macro_rules | `(tactic| walk_at "getMethod ref") => `(tactic| (k_here; first | (with_reducible refine atMGet ?_; k_dflt (refine methA (h := ?_))) | (with_reducible refine atMApp ?_; k_dflt (refine appA (h := ?_))) | (with_reducible refine atMIns ?_; k_dflt (refine insA (h := ?_)))))
local macro_rules | `(tactic| walk_at "call builtin:dict.get") => `(tactic| (k_here; k_dflt (refine dgetA (h := ?_)); try dsimp only [Option.getD]))
local macro_rules | `(tactic| walk_at "compareOp In int ref") => `(tactic| (k_here; k_dflt (refine inA (h := ?_))))
local macro_rules | `(tactic| walk_at "newTuple") => `(tactic| (k_here; k_dflt (refine tupA (h := ?_)); intro l' h' F' N' l1; (try k_lt l1); (try k_sweep)))
local macro_rules | `(tactic| walk_at "call builtin:len") => `(tactic| (k_here; (with_reducible show wpAny _ _ (call (Value.builtin "len") [Value.ref _]) _ _ _); k_dflt (refine lenA (h := ?_))))
section
set_option maxRecDepth 100000 in
set_option maxHeartbeats 4000000 in
theorem cut_spec {prog : Program} {w : World} {A₀ A : Around} {s : Shared} {base h₀ : Heap} {outer : List Env} {env : Env} {L : Addr} {m : Str → Option Value} {news : List (Addr × Obj)}
   {mean : ExcName → Option Value} {mg mb : Str → Option Value} {R : Result → Shared → Prop} {rope xs : Nat} {vs : List Value} {ns : List Int} {k lim : Int} {tk tl : Tok} {n1 n2 : Nat}
   (C : Cx w A₀ A base h₀ outer env L mean mg mb 400) (F : Fr h₀ L s.heap m) (N : News h₀ L s.heap news)
   (hrope : (rope, listOf #[.ref xs, .int k tk] n1) ∈ news) (hxs : (xs, listOf vs.toArray n2) ∈ news) (hne : @Ne Nat xs rope)
   (hI : IntsAre vs ns) (hlen : ns.length ≤ 40) (h0 : 0 ≤ k) (h1 : k ≤ 100) (hl : 0 < lim) (hl2 : lim ≤ 100)
   (post : ∀ h' tk' news' t t2, Fr h₀ L h' m → News h₀ L h' news' → (rope, listOf #[.ref xs, .int (k+1) t] n1) ∈ news' → (∀ p ∈ news, p.1 ≠ rope → p ∈ news') → R (.ok (.ret (.int (cutv ns k lim) t2))) {s with heap := h', toks := tk'}) :
   codeAny (model prog w) A (.call (.ref 190) ⟨[.ref rope, .int lim tl], []⟩) R s := by
  have kk : withK PySem.Challenge.rw_rr0016_01 topK.heap_1 := by k_fill; trivial
  w_top off
  obtain ⟨B, X, T, hA, hf, hke, hroom, hunits, hh⟩ := C
  have N1 : News h₀ L s.heap ((rope, listOf #[.ref xs, .int k tk] n1) :: (xs, listOf vs.toArray n2) :: off [rope] news) := news_cons N hrope (news_cons N hxs (news_off N))
  have fin : ∀ h' tk' t t2 v, v = cutv ns k lim → Fr h₀ L h' m → News h₀ L h' ((rope, listOf #[.ref xs, .int (k+1) t] n1) :: (xs, listOf vs.toArray n2) :: off [rope] news) → R (.ok (.ret (.int v t2))) {s with heap := h', toks := tk'} := by
    intro h' tk' t t2 v hv F' N'
    subst hv
    exact post h' tk' _ t t2 F' N' (.head _) fun p hp hn => .tail _ (.tail _ (mem_off hp (by simpa using hn)))
  clear post N hrope hxs
  w_strict (k_enter; k_steps)
  all_goals (try k_data)
  all_goals (refine fin _ _ _ _ _ ?_ (by assumption) (by assumption))
  all_goals (try k_data)
  · unfold cutv
    rw [if_neg (by omega)]
  · have hk : k < ns.length := by omega
    unfold cutv
    rw [if_pos hk, Int.fmod_eq_emod_of_nonneg _ (by omega), Int.add_sub_cancel]
    congr 1
    split <;> omega
end
section
/-- a record's values -/
structure RecV where
  key : Int
  fn : Int
  kd : Nat
  birth : Int
  death : Int
  next : Int
structure RecT where
  (tm : Nat) (t0 t1 t2 t3 t4 t5 t6 t7 t8 t9 ta tb tc td : Tok)
structure StoT where
  (t0 t1 t2 t3 t4 : Tok)
structure ProT where
  (c1 c2 : Nat) (t0 t1 t2 t3 t4 t5 t6 t7 t8 t9 ta tb tc td te : Tok)
/-- a record's dict -/
noncomputable abbrev recO (P : Params) (r : RecV) (ki : Nat) (τ : RecT) : Obj := dictOf [⟨PyData.keyHash P (Str.ofString "key"), .str (Str.ofString "key") τ.t0, .int r.key τ.t1⟩,
  ⟨PyData.keyHash P (Str.ofString "functor"), .str (Str.ofString "functor") τ.t2, .int r.fn τ.t3⟩, ⟨PyData.keyHash P (Str.ofString "term"), .str (Str.ofString "term") τ.t4, .ref τ.tm⟩,
  ⟨PyData.keyHash P (Str.ofString "index_key"), .str (Str.ofString "index_key") τ.t5, .ref ki⟩, ⟨PyData.keyHash P (Str.ofString "birth"), .str (Str.ofString "birth") τ.t6, .int r.birth τ.t7⟩,
  ⟨PyData.keyHash P (Str.ofString "death"), .str (Str.ofString "death") τ.t8, .int r.death τ.t9⟩, ⟨PyData.keyHash P (Str.ofString "next_key"), .str (Str.ofString "next_key") τ.ta, .int r.next τ.tb⟩,
  ⟨PyData.keyHash P (Str.ofString "entry"), .str (Str.ofString "entry") τ.tc, .int 0 τ.td⟩] 8
noncomputable abbrev stoO (P : Params) (rd : Nat) (n g : Int) (τ : StoT) : Obj := dictOf [⟨PyData.keyHash P (Str.ofString "records"), .str (Str.ofString "records") τ.t0, .ref rd⟩,
  ⟨PyData.keyHash P (Str.ofString "next_record"), .str (Str.ofString "next_record") τ.t1, .int n τ.t2⟩, ⟨PyData.keyHash P (Str.ofString "generation"), .str (Str.ofString "generation") τ.t3, .int g τ.t4⟩] 3
noncomputable abbrev proO (P : Params) (n f l : Int) (τ : ProT) : Obj := dictOf [⟨PyData.keyHash P (Str.ofString "functor"), .str (Str.ofString "functor") τ.t0, .int n τ.t1⟩,
  ⟨PyData.keyHash P (Str.ofString "kind"), .str (Str.ofString "kind") τ.t2, .str (Str.ofString "dynamic") τ.t3⟩, ⟨PyData.keyHash P (Str.ofString "entry"), .str (Str.ofString "entry") τ.t4, .int (-1) τ.t5⟩,
  ⟨PyData.keyHash P (Str.ofString "codes"), .str (Str.ofString "codes") τ.t6, .ref τ.c1⟩, ⟨PyData.keyHash P (Str.ofString "terms"), .str (Str.ofString "terms") τ.t7, .ref τ.c2⟩,
  ⟨PyData.keyHash P (Str.ofString "first_key"), .str (Str.ofString "first_key") τ.t8, .int f τ.t9⟩, ⟨PyData.keyHash P (Str.ofString "last_key"), .str (Str.ofString "last_key") τ.ta, .int l τ.tb⟩,
  ⟨PyData.keyHash P (Str.ofString "library"), .str (Str.ofString "library") τ.tc, .bool false⟩, ⟨PyData.keyHash P (Str.ofString "helper"), .str (Str.ofString "helper") τ.td, .bool false⟩, ⟨PyData.keyHash P (Str.ofString "pending"), .str (Str.ofString "pending") τ.te, .bool false⟩] 10
def IsRec (P : Params) (o : Obj) (r : RecV) (ki : Nat) : Prop := ∃ τ, o = recO P r ki τ
def IsStore (P : Params) (o : Obj) (rd : Nat) (n g : Int) : Prop := ∃ τ, o = stoO P rd n g τ
def IsProc (P : Params) (o : Obj) (n f l : Int) : Prop := ∃ τ, o = proO P n f l τ
theorem isRec_mk {P : Params} {r : RecV} {ki tm : Nat} {ky fn bi de nx : Int} {t0 t1 t2 t3 t4 t5 t6 t7 t8 t9 ta tb tc td : Tok} (e : r.key = ky ∧ r.fn = fn ∧ r.birth = bi ∧ r.death = de ∧ r.next = nx) : IsRec P (dictOf [⟨PyData.keyHash P (Str.ofString "key"), .str (Str.ofString "key") t0, .int ky t1⟩, ⟨PyData.keyHash P (Str.ofString "functor"), .str (Str.ofString "functor") t2, .int fn t3⟩, ⟨PyData.keyHash P (Str.ofString "term"), .str (Str.ofString "term") t4, .ref tm⟩, ⟨PyData.keyHash P (Str.ofString "index_key"), .str (Str.ofString "index_key") t5, .ref ki⟩, ⟨PyData.keyHash P (Str.ofString "birth"), .str (Str.ofString "birth") t6, .int bi t7⟩, ⟨PyData.keyHash P (Str.ofString "death"), .str (Str.ofString "death") t8, .int de t9⟩, ⟨PyData.keyHash P (Str.ofString "next_key"), .str (Str.ofString "next_key") ta, .int nx tb⟩, ⟨PyData.keyHash P (Str.ofString "entry"), .str (Str.ofString "entry") tc, .int 0 td⟩] 8) r ki := by
  obtain ⟨rfl, rfl, rfl, rfl, rfl⟩ := e
  exact ⟨⟨tm, t0, t1, t2, t3, t4, t5, t6, t7, t8, t9, ta, tb, tc, td⟩, rfl⟩
theorem isSto_mk {P : Params} {rd : Nat} {n g : Int} {t0 t1 t2 t3 t4 : Tok} : IsStore P (dictOf [⟨PyData.keyHash P (Str.ofString "records"), .str (Str.ofString "records") t0, .ref rd⟩, ⟨PyData.keyHash P (Str.ofString "next_record"), .str (Str.ofString "next_record") t1, .int n t2⟩, ⟨PyData.keyHash P (Str.ofString "generation"), .str (Str.ofString "generation") t3, .int g t4⟩] 3) rd n g := ⟨⟨t0, t1, t2, t3, t4⟩, rfl⟩
theorem isPro_mk {P : Params} {c1 c2 : Nat} {n f l : Int} {t0 t1 t2 t3 t4 t5 t6 t7 t8 t9 ta tb tc td te : Tok} : IsProc P (dictOf [⟨PyData.keyHash P (Str.ofString "functor"), .str (Str.ofString "functor") t0, .int n t1⟩, ⟨PyData.keyHash P (Str.ofString "kind"), .str (Str.ofString "kind") t2, .str (Str.ofString "dynamic") t3⟩, ⟨PyData.keyHash P (Str.ofString "entry"), .str (Str.ofString "entry") t4, .int (-1) t5⟩, ⟨PyData.keyHash P (Str.ofString "codes"), .str (Str.ofString "codes") t6, .ref c1⟩, ⟨PyData.keyHash P (Str.ofString "terms"), .str (Str.ofString "terms") t7, .ref c2⟩, ⟨PyData.keyHash P (Str.ofString "first_key"), .str (Str.ofString "first_key") t8, .int f t9⟩, ⟨PyData.keyHash P (Str.ofString "last_key"), .str (Str.ofString "last_key") ta, .int l tb⟩, ⟨PyData.keyHash P (Str.ofString "library"), .str (Str.ofString "library") tc, .bool false⟩, ⟨PyData.keyHash P (Str.ofString "helper"), .str (Str.ofString "helper") td, .bool false⟩, ⟨PyData.keyHash P (Str.ofString "pending"), .str (Str.ofString "pending") te, .bool false⟩] 10) n f l := ⟨⟨c1, c2, t0, t1, t2, t3, t4, t5, t6, t7, t8, t9, ta, tb, tc, td, te⟩, rfl⟩
noncomputable def soundP (r : RecV) (g place f : Int) : Bool := decide (r.key = place ∧ r.fn = f ∧ 1 ≤ r.birth ∧ r.birth ≤ g ∧ (r.death < 0 ∨ (r.birth < r.death ∧ r.death ≤ g)))

set_option maxRecDepth 100000 in
set_option maxHeartbeats 4000000 in
theorem sound_spec {prog : Program} {w : World} {A₀ A : Around} {s : Shared} {base h₀ : Heap} {outer : List Env} {env : Env} {L : Addr} {m : Str → Option Value} {news : List (Addr × Obj)}
   {mean : ExcName → Option Value} {mg mb : Str → Option Value} {R : Result → Shared → Prop} {st dst rd x d ki : Nat} {ost od : Obj} {n g place f : Int} {r : RecV} {t1 t2 : Tok}
   (C : Cx w A₀ A base h₀ outer env L mean mg mb 400) (F : Fr h₀ L s.heap m) (N : News h₀ L s.heap news)
   (hst : (st, instObj 165 dst) ∈ news) (hdst : (dst, ost) ∈ news) (iS : IsStore w.params ost rd n g) (hx : (x, instObj 46 d) ∈ news) (hd : (d, od) ∈ news) (iR : IsRec w.params od r ki)
   (post : ∀ h' tk', Fr h₀ L h' m → News h₀ L h' news → R (.ok (.ret (.bool (soundP r g place f)))) {s with heap := h', toks := tk'}) :
   codeAny (model prog w) A (.call (.ref 176) ⟨[.ref st, .ref x, .int place t1, .int f t2], []⟩) R s := by
  have kk : withK PySem.Challenge.rw_rr0016_01 topK.heap_1 := by k_fill; trivial
  w_top off
  obtain ⟨B, X, T, hA, hf, hke, hroom, hunits, hh⟩ := C
  obtain ⟨τs, rfl⟩ := iS
  obtain ⟨τr, rfl⟩ := iR
  have fin : ∀ h' tk' v, v = soundP r g place f → Fr h₀ L h' m → News h₀ L h' news → R (.ok (.ret (.bool v))) {s with heap := h', toks := tk'} := by
    intro h' tk' v hv F' N'
    subst hv
    exact post h' tk' F' N'
  clear post
  w_strict (k_enter; k_steps)
  all_goals (try k_data)
  all_goals (refine fin _ _ _ ?_ (by assumption) (by assumption))
  all_goals (unfold soundP; first | (symm; rw [decide_eq_false_iff_not]; omega) | (symm; rw [decide_eq_true_iff]; omega) | (rw [decide_eq_decide]; omega))
end
section
/-! the made world, in plain data and on the ledger -/
structure Wd where
  recs : List RecV
  gen : Int
  fst : Int → Int
  lst : Int → Int
  row : Int → List Int
structure Ad where
  st : Nat
  dst : Nat
  rd : Nat
  pr : Nat
  rw : Nat
  p : Int → Nat
  d : Int → Nat
  l : Int → Nat
  ra : List (Nat × Nat × Nat)
inductive Sl where
  | st | dst | rd | pr | rw
  | p (n : Int) | d (n : Int) | l (n : Int)
  | x (i : Nat) | e (i : Nat) | k (i : Nat)
abbrev Two (n : Int) : Prop := n = 3 ∨ n = 4
noncomputable def Ad.at (a : Ad) : Sl → Option Nat
  | .st => some a.st
  | .dst => some a.dst
  | .rd => some a.rd
  | .pr => some a.pr
  | .rw => some a.rw
  | .p n => if Two n then some (a.p n) else none
  | .d n => if Two n then some (a.d n) else none
  | .l n => if Two n then some (a.l n) else none
  | .x i => (a.ra[i]?).map (·.1)
  | .e i => (a.ra[i]?).map (·.2.1)
  | .k i => (a.ra[i]?).map (·.2.2)
def Ad.In (a : Ad) (v : Nat) : Prop := ∃ s, a.at s = some v
noncomputable def recKvs (ra : List (Nat × Nat × Nat)) : List (Int × Value) := ra.zipIdx.map fun q => ((q.2 : Int), Value.ref q.1.1)
noncomputable def keyVals (kd : Nat) (t t' : Tok) : List Value := match kd with
  | 0 => [.str (Str.ofString "var") t]
  | 1 => [.str (Str.ofString "list") t]
  | 2 => [.str (Str.ofString "struct") t, .int 9 t']
  | _ => [.str (Str.ofString "struct") t, .int 8 t']
def IsKey (o : Obj) (kd : Nat) : Prop := ∃ t t' n, o = { cls := .type "tuple", data := .seq (keyVals kd t t').toArray n }
structure Has (prog : Program) (w : World) (news : List (Addr × Obj)) (a : Ad) (W : Wd) : Prop where
  nd : ∀ s t v, a.at s = some v → a.at t = some v → s = t
  st : (a.st, instObj 165 a.dst) ∈ news
  dst : ∃ o, (a.dst, o) ∈ news ∧ IsStore w.params o a.rd (W.recs.length : Int) W.gen
  rd : ∃ o, (a.rd, o) ∈ news ∧ o.IsDictOf (intKind prog w) (recKvs a.ra)
  rdlo : (a.rd == sysModules) = false ∧ (a.pr == sysModules) = false
  p : ∀ n, Two n → (a.p n, instObj 74 (a.d n)) ∈ news
  d : ∀ n, Two n → ∃ o, (a.d n, o) ∈ news ∧ IsProc w.params o n (W.fst n) (W.lst n)
  pr : ∃ o, (a.pr, o) ∈ news ∧ o.IsDictOf (intKind prog w) [(3, .ref (a.p 3)), (4, .ref (a.p 4))]
  rw : ∃ o, (a.rw, o) ∈ news ∧ o.IsDictOf (intKind prog w) [(3, .ref (a.l 3)), (4, .ref (a.l 4))]
  l : ∀ n, Two n → ∃ vs e, (a.l n, listOf vs.toArray e) ∈ news ∧ IntsAre vs (W.row n)
  len : a.ra.length = W.recs.length
  recs : ∀ (i x d k : Nat) (r : RecV), a.ra[i]? = some (x, d, k) → W.recs[i]? = some r → (x, instObj 46 d) ∈ news ∧ (∃ o, (d, o) ∈ news ∧ IsRec w.params o r k) ∧ ∃ ok, (k, ok) ∈ news ∧ IsKey ok r.kd
section
variable {prog : Program} {w : World} {news news' : List (Addr × Obj)} {a : Ad} {W : Wd}
theorem Has.ne (H : Has prog w news a W) (s t : Sl) {u v : Nat} (hs : a.at s = some u) (ht : a.at t = some v) (hn : s ≠ t) : @Ne Nat u v := fun e => hn (H.nd s t v (e ▸ hs) ht)
theorem Has.keep (H : Has prog w news a W) (T : List Nat) (hT : ∀ t ∈ T, ¬ a.In t) (hk : ∀ p ∈ news, p.1 ∉ T → p ∈ news') : Has prog w news' a W := by
  have go : ∀ {v : Nat} {o : Obj} (s : Sl), a.at s = some v → (v, o) ∈ news → (v, o) ∈ news' := fun s hs hm => hk _ hm fun hv => hT _ hv ⟨s, hs⟩
  refine ⟨H.nd, go .st rfl H.st, ?_, ?_, H.rdlo, ?_, ?_, ?_, ?_, ?_, H.len, ?_⟩
  · obtain ⟨o, h1, h2⟩ := H.dst; exact ⟨o, go .dst rfl h1, h2⟩
  · obtain ⟨o, h1, h2⟩ := H.rd; exact ⟨o, go .rd rfl h1, h2⟩
  · intro n hn; exact go (.p n) (by simp [Ad.at, hn]) (H.p n hn)
  · intro n hn; obtain ⟨o, h1, h2⟩ := H.d n hn; exact ⟨o, go (.d n) (by simp [Ad.at, hn]) h1, h2⟩
  · obtain ⟨o, h1, h2⟩ := H.pr; exact ⟨o, go .pr rfl h1, h2⟩
  · obtain ⟨o, h1, h2⟩ := H.rw; exact ⟨o, go .rw rfl h1, h2⟩
  · intro n hn; obtain ⟨vs, e, h1, h2⟩ := H.l n hn; exact ⟨vs, e, go (.l n) (by simp [Ad.at, hn]) h1, h2⟩
  · intro i x d k r hi hr
    obtain ⟨h1, ⟨o, h2, h3⟩, ok, h4, h5⟩ := H.recs i x d k r hi hr
    exact ⟨go (.x i) (by simp [Ad.at, hi]) h1, ⟨o, go (.e i) (by simp [Ad.at, hi]) h2, h3⟩, ok, go (.k i) (by simp [Ad.at, hi]) h4, h5⟩
theorem Has.mono (H : Has prog w news a W) (hk : ∀ p ∈ news, p ∈ news') : Has prog w news' a W := H.keep [] (by simp) fun p hp _ => hk p hp
/-- one place of the ledger turned: what lies at the other places stands -/
theorem Has.other (H : Has prog w news a W) {s : Sl} {v : Nat} {o' : Obj} (hs : a.at s = some v) (t : Sl) {u : Nat} {o : Obj} (ht : a.at t = some u) (hn : t ≠ s) (hm : (u, o) ∈ news) : (u, o) ∈ (v, o') :: off [v] news :=
  .tail _ (mem_off hm (by simpa using H.ne t s ht hs hn))
theorem Has.setStore (H : Has prog w news a W) {o' : Obj} {g : Int} (ho : IsStore w.params o' a.rd (W.recs.length : Int) g) : Has prog w ((a.dst, o') :: off [a.dst] news) a { W with gen := g } := by
  have go : ∀ {v : Nat} {o : Obj} (s : Sl), a.at s = some v → s ≠ .dst → (v, o) ∈ news → (v, o) ∈ (a.dst, o') :: off [a.dst] news := fun s hs hn hm => H.other (s := .dst) rfl s hs hn hm
  refine ⟨H.nd, go .st rfl (by simp) H.st, ⟨o', .head _, ho⟩, ?_, H.rdlo, ?_, ?_, ?_, ?_, ?_, H.len, ?_⟩
  · obtain ⟨o, h1, h2⟩ := H.rd; exact ⟨o, go .rd rfl (by simp) h1, h2⟩
  · intro n hn; exact go (.p n) (by simp [Ad.at, hn]) (by simp) (H.p n hn)
  · intro n hn; obtain ⟨o, h1, h2⟩ := H.d n hn; exact ⟨o, go (.d n) (by simp [Ad.at, hn]) (by simp) h1, h2⟩
  · obtain ⟨o, h1, h2⟩ := H.pr; exact ⟨o, go .pr rfl (by simp) h1, h2⟩
  · obtain ⟨o, h1, h2⟩ := H.rw; exact ⟨o, go .rw rfl (by simp) h1, h2⟩
  · intro n hn; obtain ⟨vs, e, h1, h2⟩ := H.l n hn; exact ⟨vs, e, go (.l n) (by simp [Ad.at, hn]) (by simp) h1, h2⟩
  · intro i x d k r hi hr
    obtain ⟨h1, ⟨o, h2, h3⟩, ok, h4, h5⟩ := H.recs i x d k r hi hr
    exact ⟨go (.x i) (by simp [Ad.at, hi]) (by simp) h1, ⟨o, go (.e i) (by simp [Ad.at, hi]) (by simp) h2, h3⟩, ok, go (.k i) (by simp [Ad.at, hi]) (by simp) h4, h5⟩
theorem Has.setProc (H : Has prog w news a W) {o' : Obj} {n : Int} {f l : Int} (hn : Two n) (ho : IsProc w.params o' n f l) :
    Has prog w ((a.d n, o') :: off [a.d n] news) a { W with fst := fun j => if j = n then f else W.fst j, lst := fun j => if j = n then l else W.lst j } := by
  have hs : a.at (.d n) = some (a.d n) := by simp [Ad.at, hn]
  have go : ∀ {v : Nat} {o : Obj} (s : Sl), a.at s = some v → s ≠ .d n → (v, o) ∈ news → (v, o) ∈ (a.d n, o') :: off [a.d n] news := fun s hs' hn' hm => H.other (s := .d n) hs s hs' hn' hm
  refine ⟨H.nd, go .st rfl (by simp) H.st, ?_, ?_, H.rdlo, ?_, ?_, ?_, ?_, ?_, H.len, ?_⟩
  · obtain ⟨o, h1, h2⟩ := H.dst; exact ⟨o, go .dst rfl (by simp) h1, h2⟩
  · obtain ⟨o, h1, h2⟩ := H.rd; exact ⟨o, go .rd rfl (by simp) h1, h2⟩
  · intro j hj; exact go (.p j) (by simp [Ad.at, hj]) (by simp) (H.p j hj)
  · intro j hj
    by_cases e : j = n
    · subst e
      exact ⟨o', .head _, by simpa using ho⟩
    · obtain ⟨o, h1, h2⟩ := H.d j hj
      exact ⟨o, go (.d j) (by simp [Ad.at, hj]) (by simpa using e) h1, by simpa [e] using h2⟩
  · obtain ⟨o, h1, h2⟩ := H.pr; exact ⟨o, go .pr rfl (by simp) h1, h2⟩
  · obtain ⟨o, h1, h2⟩ := H.rw; exact ⟨o, go .rw rfl (by simp) h1, h2⟩
  · intro n hn; obtain ⟨vs, e, h1, h2⟩ := H.l n hn; exact ⟨vs, e, go (.l n) (by simp [Ad.at, hn]) (by simp) h1, h2⟩
  · intro i x d k r hi hr
    obtain ⟨h1, ⟨o, h2, h3⟩, ok, h4, h5⟩ := H.recs i x d k r hi hr
    exact ⟨go (.x i) (by simp [Ad.at, hi]) (by simp) h1, ⟨o, go (.e i) (by simp [Ad.at, hi]) (by simp) h2, h3⟩, ok, go (.k i) (by simp [Ad.at, hi]) (by simp) h4, h5⟩
theorem Has.setRow (H : Has prog w news a W) {n : Int} {vs : List Value} {e : Nat} {ns : List Int} (hn : Two n) (ho : IntsAre vs ns) :
    Has prog w ((a.l n, listOf vs.toArray e) :: off [a.l n] news) a { W with row := fun j => if j = n then ns else W.row j } := by
  have hs : a.at (.l n) = some (a.l n) := by simp [Ad.at, hn]
  have go : ∀ {v : Nat} {o : Obj} (s : Sl), a.at s = some v → s ≠ .l n → (v, o) ∈ news → (v, o) ∈ (a.l n, listOf vs.toArray e) :: off [a.l n] news := fun s hs' hn' hm => H.other (s := .l n) hs s hs' hn' hm
  refine ⟨H.nd, go .st rfl (by simp) H.st, ?_, ?_, H.rdlo, ?_, ?_, ?_, ?_, ?_, H.len, ?_⟩
  · obtain ⟨o, h1, h2⟩ := H.dst; exact ⟨o, go .dst rfl (by simp) h1, h2⟩
  · obtain ⟨o, h1, h2⟩ := H.rd; exact ⟨o, go .rd rfl (by simp) h1, h2⟩
  · intro j hj; exact go (.p j) (by simp [Ad.at, hj]) (by simp) (H.p j hj)
  · intro n hn; obtain ⟨o, h1, h2⟩ := H.d n hn; exact ⟨o, go (.d n) (by simp [Ad.at, hn]) (by simp) h1, h2⟩
  · obtain ⟨o, h1, h2⟩ := H.pr; exact ⟨o, go .pr rfl (by simp) h1, h2⟩
  · obtain ⟨o, h1, h2⟩ := H.rw; exact ⟨o, go .rw rfl (by simp) h1, h2⟩
  · intro j hj
    by_cases e' : j = n
    · subst e'
      exact ⟨vs, e, .head _, by simpa using ho⟩
    · obtain ⟨vs', e2, h1, h2⟩ := H.l j hj
      exact ⟨vs', e2, go (.l j) (by simp [Ad.at, hj]) (by simpa using e') h1, by simpa [e'] using h2⟩
  · intro i x d k r hi hr
    obtain ⟨h1, ⟨o, h2, h3⟩, ok, h4, h5⟩ := H.recs i x d k r hi hr
    exact ⟨go (.x i) (by simp [Ad.at, hi]) (by simp) h1, ⟨o, go (.e i) (by simp [Ad.at, hi]) (by simp) h2, h3⟩, ok, go (.k i) (by simp [Ad.at, hi]) (by simp) h4, h5⟩
theorem Has.setRec (H : Has prog w news a W) {i x d k : Nat} {o' : Obj} {r r' : RecV} (hi : a.ra[i]? = some (x, d, k)) (hr : W.recs[i]? = some r) (hk : r'.kd = r.kd) (ho : IsRec w.params o' r' k) :
    Has prog w ((d, o') :: off [d] news) a { W with recs := W.recs.set i r' } := by
  have hs : a.at (.e i) = some d := by simp [Ad.at, hi]
  have go : ∀ {v : Nat} {o : Obj} (s : Sl), a.at s = some v → s ≠ .e i → (v, o) ∈ news → (v, o) ∈ (d, o') :: off [d] news := fun s hs' hn' hm => H.other (s := .e i) hs s hs' hn' hm
  refine ⟨H.nd, go .st rfl (by simp) H.st, ?_, ?_, H.rdlo, ?_, ?_, ?_, ?_, ?_, by rw [List.length_set]; exact H.len, ?_⟩
  · obtain ⟨o, h1, h2⟩ := H.dst; exact ⟨o, go .dst rfl (by simp) h1, by rw [List.length_set]; exact h2⟩
  · obtain ⟨o, h1, h2⟩ := H.rd; exact ⟨o, go .rd rfl (by simp) h1, h2⟩
  · intro j hj; exact go (.p j) (by simp [Ad.at, hj]) (by simp) (H.p j hj)
  · intro n hn; obtain ⟨o, h1, h2⟩ := H.d n hn; exact ⟨o, go (.d n) (by simp [Ad.at, hn]) (by simp) h1, h2⟩
  · obtain ⟨o, h1, h2⟩ := H.pr; exact ⟨o, go .pr rfl (by simp) h1, h2⟩
  · obtain ⟨o, h1, h2⟩ := H.rw; exact ⟨o, go .rw rfl (by simp) h1, h2⟩
  · intro n hn; obtain ⟨vs, e, h1, h2⟩ := H.l n hn; exact ⟨vs, e, go (.l n) (by simp [Ad.at, hn]) (by simp) h1, h2⟩
  · intro j x' d' k' q hj hq
    by_cases e : j = i
    · subst e
      rw [hi] at hj
      obtain ⟨rfl, rfl, rfl⟩ : x = x' ∧ d = d' ∧ k = k' := by simpa using hj
      have hlt : j < W.recs.length := (List.getElem?_eq_some_iff.mp hr).1
      have hq' : r' = q := by simpa [hlt] using hq
      subst hq'
      obtain ⟨h1, ⟨o, h2, h3⟩, ok, h4, h5⟩ := H.recs j x d k r hi hr
      exact ⟨go (.x j) (by simp [Ad.at, hi]) (by simp) h1, ⟨o', .head _, ho⟩, ok, go (.k j) (by simp [Ad.at, hi]) (by simp) h4, hk ▸ h5⟩
    · rw [List.getElem?_set_ne (Ne.symm e)] at hq
      obtain ⟨h1, ⟨o, h2, h3⟩, ok, h4, h5⟩ := H.recs j x' d' k' q hj hq
      exact ⟨go (.x j) (by simp [Ad.at, hj]) (by simp) h1, ⟨o, go (.e j) (by simp [Ad.at, hj]) (by simpa using e) h2, h3⟩, ok, go (.k j) (by simp [Ad.at, hj]) (by simp) h4, h5⟩
end
end
section
noncomputable def Ad.add (a : Ad) (q : Nat × Nat × Nat) : Ad := { a with ra := a.ra ++ [q] }
theorem Ad.at_add {a : Ad} {x d k : Nat} {s : Sl} {v : Nat} (h : (a.add (x, d, k)).at s = some v) :
    a.at s = some v ∨ (s = .x a.ra.length ∧ v = x) ∨ (s = .e a.ra.length ∧ v = d) ∨ (s = .k a.ra.length ∧ v = k) := by
  have key : ∀ i q, (a.ra ++ [(x, d, k)])[i]? = some q → a.ra[i]? = some q ∨ (i = a.ra.length ∧ q = (x, d, k)) := by
    intro i q hq
    by_cases hlt : i < a.ra.length
    · rw [List.getElem?_append_left hlt] at hq; exact .inl hq
    · rw [List.getElem?_append_right (by omega)] at hq
      have h0 : i - a.ra.length = 0 := by
        by_cases h1 : i - a.ra.length = 0
        · exact h1
        · rw [List.getElem?_eq_none (by simp; omega)] at hq; cases hq
      rw [h0] at hq
      right
      exact ⟨by omega, by simpa using hq.symm⟩
  cases s with
  | x i =>
    simp only [Ad.at, Ad.add, Option.map_eq_some_iff] at h
    obtain ⟨q, hq, rfl⟩ := h
    rcases key i q hq with h1 | ⟨rfl, rfl⟩
    · left; simp [Ad.at, h1]
    · right; left; exact ⟨rfl, rfl⟩
  | e i =>
    simp only [Ad.at, Ad.add, Option.map_eq_some_iff] at h
    obtain ⟨q, hq, rfl⟩ := h
    rcases key i q hq with h1 | ⟨rfl, rfl⟩
    · left; simp [Ad.at, h1]
    · right; right; left; exact ⟨rfl, rfl⟩
  | k i =>
    simp only [Ad.at, Ad.add, Option.map_eq_some_iff] at h
    obtain ⟨q, hq, rfl⟩ := h
    rcases key i q hq with h1 | ⟨rfl, rfl⟩
    · left; simp [Ad.at, h1]
    · right; right; right; exact ⟨rfl, rfl⟩
  | _ => exact .inl h
theorem Ad.at_old {a : Ad} {q : Nat × Nat × Nat} {s : Sl} {v : Nat} (h : a.at s = some v) : (a.add q).at s = some v := by
  have key : ∀ (i : Nat) (q' : Nat × Nat × Nat), a.ra[i]? = some q' → (a.ra ++ [q])[i]? = some q' := by
    intro i q' hq
    rw [List.getElem?_append_left (List.getElem?_eq_some_iff.mp hq).1]; exact hq
  cases s with
  | x i => simp only [Ad.at, Ad.add, Option.map_eq_some_iff] at h ⊢; obtain ⟨q', hq, rfl⟩ := h; exact ⟨q', key i q' hq, rfl⟩
  | e i => simp only [Ad.at, Ad.add, Option.map_eq_some_iff] at h ⊢; obtain ⟨q', hq, rfl⟩ := h; exact ⟨q', key i q' hq, rfl⟩
  | k i => simp only [Ad.at, Ad.add, Option.map_eq_some_iff] at h ⊢; obtain ⟨q', hq, rfl⟩ := h; exact ⟨q', key i q' hq, rfl⟩
  | _ => exact h
theorem recKvs_add (ra : List (Nat × Nat × Nat)) (x d k : Nat) : recKvs (ra ++ [(x, d, k)]) = recKvs ra ++ [((ra.length : Int), Value.ref x)] := by
  unfold recKvs
  rw [List.zipIdx_append]
  simp
section
variable {prog : Program} {w : World} {news news' : List (Addr × Obj)} {a : Ad} {W : Wd}
theorem Has.addRec (H : Has prog w news a W) {o1 o2 o' ok : Obj} {x d k : Nat} {r : RecV} {g : Int} (h1 : IsStore w.params o1 a.rd ((W.recs.length : Int) + 1) g) (h2 : o2.IsDictOf (intKind prog w) (recKvs a.ra ++ [((a.ra.length : Int), .ref x)]))
    (hx : ¬ a.In x) (hd : ¬ a.In d) (hk : ¬ a.In k) (hxd : @Ne Nat x d) (hxk : @Ne Nat x k) (hdk : @Ne Nat d k) (ho : IsRec w.params o' r k) (hok : IsKey ok r.kd) :
    Has prog w ((x, instObj 46 d) :: (d, o') :: (k, ok) :: (a.dst, o1) :: (a.rd, o2) :: off [a.dst, a.rd] news) (a.add (x, d, k)) { W with recs := W.recs ++ [r], gen := g } := by
  have go : ∀ {v : Nat} {o : Obj} (s : Sl), a.at s = some v → s ≠ .dst → s ≠ .rd → (v, o) ∈ news → (v, o) ∈ (x, instObj 46 d) :: (d, o') :: (k, ok) :: (a.dst, o1) :: (a.rd, o2) :: off [a.dst, a.rd] news := fun s hs h3 h4 hm =>
    .tail _ (.tail _ (.tail _ (.tail _ (.tail _ (mem_off hm (by
      have e1 := H.ne s .dst hs rfl h3
      have e2 := H.ne s .rd hs rfl h4
      simp [e1, e2]))))))
  refine ⟨?_, go .st rfl (by simp) (by simp) H.st, ⟨o1, ?_, ?_⟩, ⟨o2, ?_, ?_⟩, H.rdlo, ?_, ?_, ?_, ?_, ?_, ?_, ?_⟩
  · intro s t v hs ht
    rcases Ad.at_add hs with h | ⟨rfl, rfl⟩ | ⟨rfl, rfl⟩ | ⟨rfl, rfl⟩ <;> rcases Ad.at_add ht with h' | ⟨rfl, h'⟩ | ⟨rfl, h'⟩ | ⟨rfl, h'⟩
    · exact H.nd s t v h h'
    · exact absurd ⟨s, h' ▸ h⟩ hx
    · exact absurd ⟨s, h' ▸ h⟩ hd
    · exact absurd ⟨s, h' ▸ h⟩ hk
    · exact absurd ⟨t, h'⟩ hx
    · rfl
    · exact absurd h' hxd
    · exact absurd h' hxk
    · exact absurd ⟨t, h'⟩ hd
    · exact absurd h'.symm hxd
    · rfl
    · exact absurd h' hdk
    · exact absurd ⟨t, h'⟩ hk
    · exact absurd h'.symm hxk
    · exact absurd h'.symm hdk
    · rfl
  · exact .tail _ (.tail _ (.tail _ (.head _)))
  · simpa [Ad.add] using h1
  · exact .tail _ (.tail _ (.tail _ (.tail _ (.head _))))
  · show o2.IsDictOf (intKind prog w) (recKvs (a.ra ++ [(x, d, k)]))
    rw [recKvs_add]; exact h2
  · intro n hn; exact go (.p n) (if_pos hn) (by simp) (by simp) (H.p n hn)
  · intro n hn; obtain ⟨o, h1, h2⟩ := H.d n hn; exact ⟨o, go (.d n) (if_pos hn) (by simp) (by simp) h1, h2⟩
  · obtain ⟨o, h1, h2⟩ := H.pr; exact ⟨o, go .pr rfl (by simp) (by simp) h1, h2⟩
  · obtain ⟨o, h1, h2⟩ := H.rw; exact ⟨o, go .rw rfl (by simp) (by simp) h1, h2⟩
  · intro n hn; obtain ⟨vs, e, h1, h2⟩ := H.l n hn; exact ⟨vs, e, go (.l n) (if_pos hn) (by simp) (by simp) h1, h2⟩
  · show (a.ra ++ [(x, d, k)]).length = (W.recs ++ [r]).length
    simp [H.len]
  · intro i x' d' k' q hi hq
    have hi' : (a.ra ++ [(x, d, k)])[i]? = some (x', d', k') := hi
    have hq' : (W.recs ++ [r])[i]? = some q := hq
    by_cases hlt : i < a.ra.length
    · rw [List.getElem?_append_left hlt] at hi'
      rw [List.getElem?_append_left (H.len ▸ hlt)] at hq'
      obtain ⟨h1, ⟨o, h2, h3⟩, ok', h4, h5⟩ := H.recs i x' d' k' q hi' hq'
      exact ⟨go (.x i) (by simp [Ad.at, hi']) (by simp) (by simp) h1, ⟨o, go (.e i) (by simp [Ad.at, hi']) (by simp) (by simp) h2, h3⟩, ok', go (.k i) (by simp [Ad.at, hi']) (by simp) (by simp) h4, h5⟩
    · have hie : i = a.ra.length := by
        have := (List.getElem?_eq_some_iff.mp hi').1
        rw [List.length_append, List.length_singleton] at this
        omega
      have e1 : (a.ra ++ [(x, d, k)])[i]? = some (x, d, k) := by rw [hie]; simp
      have e2 : (W.recs ++ [r])[i]? = some r := by rw [hie, H.len]; simp
      rw [e1] at hi'
      rw [e2] at hq'
      obtain ⟨rfl, rfl, rfl⟩ : x = x' ∧ d = d' ∧ k = k' := by simpa using hi'
      obtain rfl : r = q := by simpa using hq'
      exact ⟨.head _, ⟨o', .tail _ (.head _), ho⟩, ok, .tail _ (.tail _ (.head _)), hok⟩
theorem recKvs_at : ∀ (ra : List (Nat × Nat × Nat)) (i : Nat) (q : Nat × Nat × Nat), ra[i]? = some q → (recKvs ra)[i]? = some ((i : Int), Value.ref q.1) := by
  intro ra i q h
  unfold recKvs
  rw [List.getElem?_map, List.getElem?_zipIdx, h]
  simp
theorem recKvs_len (ra : List (Nat × Nat × Nat)) : (recKvs ra).length = ra.length := by unfold recKvs; simp
theorem recKvs_keys (ra : List (Nat × Nat × Nat)) : (recKvs ra).map (·.1) = (List.range ra.length).map (fun (i : Nat) => (i : Int)) := by
  apply List.ext_getElem?
  intro i
  rw [List.getElem?_map, List.getElem?_map]
  by_cases h : i < ra.length
  · rw [recKvs_at ra i ra[i] (List.getElem?_eq_getElem h)]
    simp [h]
  · rw [List.getElem?_eq_none (by rw [recKvs_len]; omega), List.getElem?_eq_none (by simp; omega)]
    rfl
theorem recKvs_nodup (ra : List (Nat × Nat × Nat)) : ((recKvs ra).map (·.1)).Nodup := by
  rw [recKvs_keys]
  unfold List.Nodup
  rw [List.pairwise_map]
  exact List.Pairwise.imp (fun h e => h (by omega)) (List.nodup_range (n := ra.length))
theorem recKvs_val {ra : List (Nat × Nat × Nat)} {i : Nat} {q : Nat × Nat × Nat} (h : ra[i]? = some q) : valueAt (recKvs ra) (i : Int) = some (.ref q.1) :=
  valueAt_of_get (recKvs_nodup ra) (recKvs_at ra i q h)
theorem recKvs_none {ra : List (Nat × Nat × Nat)} {k : Int} (h : k < 0 ∨ (ra.length : Int) ≤ k) : valueAt (recKvs ra) k = none := by
  apply valueAt_none_of_not_mem
  rw [recKvs_keys]
  simp only [List.mem_map, List.mem_range, not_exists, not_and]
  intro i hi e
  omega
end
end
section
set_option maxRecDepth 100000 in
set_option maxHeartbeats 8000000 in
theorem proc_new {prog : Program} {w : World} {A₀ A : Around} {s : Shared} {base h₀ : Heap} {outer : List Env} {env : Env} {L : Addr} {m : Str → Option Value} {news : List (Addr × Obj)}
   {mean : ExcName → Option Value} {mg mb : Str → Option Value} {Q : Value → Shared → Prop} {E : Value → Shared → Prop} {f : Int} {t1 t2 : Tok}
   (C : Cx w A₀ A base h₀ outer env L mean mg mb 380) (F : Fr h₀ L s.heap m) (N : News h₀ L s.heap news)
   (post : ∀ h' tk' p d od, Fr h₀ L h' m → News h₀ L h' ((p, instObj 74 d) :: (d, od) :: news) → IsProc w.params od f (-1) (-1) → (∀ q ∈ news, @LT.lt Nat _ q.1 d) → @LT.lt Nat _ d p → Q (.ref p) {s with heap := h', toks := tk'}) :
   wpAny (model prog w) A (call (.ref 74) [.int f t1, .str (Str.ofString "dynamic") t2]) Q E s := by
  have kk : withK PySem.Challenge.rw_rr0016_01 topK.heap_1 := by k_fill; trivial
  w_top off
  obtain ⟨B, X, T, hA, hf, hke, hroom, hunits, hh⟩ := C
  w_strict (walk1; k_steps)
  all_goals (try k_data)
  (rename News _ _ _ _ => nE)
  exact post _ _ _ _ _ (by assumption) (news_sub nE fun q hq => .tail _ (.tail _ hq)) isPro_mk (by assumption) (by assumption)
set_option maxRecDepth 100000 in
set_option maxHeartbeats 8000000 in
theorem store_new {prog : Program} {w : World} {A₀ A : Around} {s : Shared} {base h₀ : Heap} {outer : List Env} {env : Env} {L : Addr} {m : Str → Option Value} {news : List (Addr × Obj)}
   {mean : ExcName → Option Value} {mg mb : Str → Option Value} {Q : Value → Shared → Prop} {E : Value → Shared → Prop}
   (C : Cx w A₀ A base h₀ outer env L mean mg mb 380) (F : Fr h₀ L s.heap m) (N : News h₀ L s.heap news)
   (post : ∀ h' tk' st dst rd ost ord, Fr h₀ L h' m → News h₀ L h' ((rd, ord) :: (st, instObj 165 dst) :: (dst, ost) :: news) → IsStore w.params ost rd 0 0 → ord.IsDictOf (intKind prog w) [] → (rd == sysModules) = false →
     (∀ q ∈ news, @LT.lt Nat _ q.1 dst) → @LT.lt Nat _ dst st → @LT.lt Nat _ st rd → Q (.ref st) {s with heap := h', toks := tk'}) :
   wpAny (model prog w) A (call (.ref 165) []) Q E s := by
  have kk : withK PySem.Challenge.rw_rr0016_01 topK.heap_1 := by k_fill; trivial
  w_top off
  obtain ⟨B, X, T, hA, hf, hke, hroom, hunits, hh⟩ := C
  w_strict (walk1; k_steps)
  all_goals (try k_data)
  (rename News _ _ _ _ => nE)
  exact post _ _ _ _ _ _ _ (by assumption) nE isSto_mk (by assumption) (by assumption) (by assumption) (by assumption) (by omega)
end
section
noncomputable def Wd.append (W : Wd) (n : Int) (kd : Nat) : Wd :=
  { recs := if W.fst n < 0 then W.recs ++ [RecV.mk W.recs.length n kd (W.gen + 1) (-1) (-1)] else (W.recs ++ [RecV.mk W.recs.length n kd (W.gen + 1) (-1) (-1)]).modify (W.lst n).toNat fun q => { q with next := W.recs.length }
    gen := W.gen + 1
    fst := fun j => if j = n then (if W.fst n < 0 then (W.recs.length : Int) else W.fst n) else W.fst j
    lst := fun j => if j = n then (W.recs.length : Int) else W.lst j
    row := W.row }
theorem allLt_to {d : Nat} {l : List (Addr × Obj)} (h : AllLt d l) : ∀ p ∈ l, @LT.lt Nat _ p.1 d := by
  induction l with
  | nil => intro p hp; cases hp
  | cons q r ih =>
    intro p hp
    rcases List.mem_cons.mp hp with rfl | hp
    · exact h.1
    · exact ih h.2 p hp

noncomputable def Wd.prepend (W : Wd) (n : Int) (kd : Nat) : Wd :=
  { recs := W.recs ++ [RecV.mk W.recs.length n kd (W.gen + 1) (-1) (W.fst n)]
    gen := W.gen + 1
    fst := fun j => if j = n then (W.recs.length : Int) else W.fst j
    lst := fun j => if j = n then (if W.fst n < 0 then (W.recs.length : Int) else W.lst n) else W.lst j
    row := W.row }
theorem modify_eq_set {α : Type} {l : List α} {i : Nat} {f : α → α} {q : α} (h : l[i]? = some q) : l.modify i f = l.set i (f q) := by
  apply List.ext_getElem?
  intro j
  rw [List.getElem?_modify, List.getElem?_set]
  by_cases e : i = j
  · subst e
    obtain ⟨h1, h2⟩ := List.getElem?_eq_some_iff.mp h
    simp [h1, h2]
  · simp [e]
section
variable {prog : Program} {w : World} {news : List (Addr × Obj)} {a : Ad} {W : Wd}
theorem Has.lt_size (H : Has prog w news a W) (hlen : W.recs.length ≤ 100) : (recKvs a.ra).length ≤ sizeLine := by
  rw [recKvs_len, H.len, sizeLine_eq]; omega
theorem Has.mem_of_in (H : Has prog w news a W) {v : Nat} (hv : a.In v) : ∃ o, (v, o) ∈ news := by
  obtain ⟨s', hs'⟩ := hv
  cases s' with
  | st => cases hs'; exact ⟨_, H.st⟩
  | dst => cases hs'; obtain ⟨o, h1, _⟩ := H.dst; exact ⟨_, h1⟩
  | rd => cases hs'; obtain ⟨o, h1, _⟩ := H.rd; exact ⟨_, h1⟩
  | pr => cases hs'; obtain ⟨o, h1, _⟩ := H.pr; exact ⟨_, h1⟩
  | rw => cases hs'; obtain ⟨o, h1, _⟩ := H.rw; exact ⟨_, h1⟩
  | p j => simp only [Ad.at] at hs'; split at hs' <;> cases hs'; exact ⟨_, H.p j (by assumption)⟩
  | d j => simp only [Ad.at] at hs'; split at hs' <;> cases hs'; obtain ⟨o, h1, _⟩ := H.d j (by assumption); exact ⟨_, h1⟩
  | l j => simp only [Ad.at] at hs'; split at hs' <;> cases hs'; obtain ⟨vs, e', h1, _⟩ := H.l j (by assumption); exact ⟨_, h1⟩
  | x i =>
    simp only [Ad.at, Option.map_eq_some_iff] at hs'; obtain ⟨⟨x', d', k'⟩, h1, rfl⟩ := hs'
    have h2 : i < W.recs.length := H.len ▸ (List.getElem?_eq_some_iff.mp h1).1
    exact ⟨_, (H.recs i x' d' k' _ h1 (List.getElem?_eq_getElem h2)).1⟩
  | e i =>
    simp only [Ad.at, Option.map_eq_some_iff] at hs'; obtain ⟨⟨x', d', k'⟩, h1, rfl⟩ := hs'
    have h2 : i < W.recs.length := H.len ▸ (List.getElem?_eq_some_iff.mp h1).1
    obtain ⟨_, ⟨o, h3, _⟩, _⟩ := H.recs i x' d' k' _ h1 (List.getElem?_eq_getElem h2)
    exact ⟨_, h3⟩
  | k i =>
    simp only [Ad.at, Option.map_eq_some_iff] at hs'; obtain ⟨⟨x', d', k'⟩, h1, rfl⟩ := hs'
    have h2 : i < W.recs.length := H.len ▸ (List.getElem?_eq_some_iff.mp h1).1
    obtain ⟨_, _, o, h3, _⟩ := H.recs i x' d' k' _ h1 (List.getElem?_eq_getElem h2)
    exact ⟨_, h3⟩
end


noncomputable def Wd.more (W : Wd) (n : Int) (kd : Nat) : Wd := { W with recs := W.recs ++ [RecV.mk W.recs.length n kd (W.gen + 1) (-1) (-1)], gen := W.gen + 1 }
set_option maxRecDepth 100000 in
set_option maxHeartbeats 8000000 in
theorem new_spec {prog : Program} {w : World} {A₀ A : Around} {s : Shared} {base h₀ : Heap} {outer : List Env} {env : Env} {L : Addr} {m : Str → Option Value} {rest : List (Addr × Obj)}
   {mean : ExcName → Option Value} {mg mb : Str → Option Value} {R : Result → Shared → Prop} {st dst rd p d tt ka : Nat} {ost ord od : Obj} {n c g f l : Int} {t0 : Tok} {kvs : List (Int × Value)}
   (C : Cx w A₀ A base h₀ outer env L mean mg mb 390) (F : Fr h₀ L s.heap m) (N : News h₀ L s.heap ((dst, ost) :: (rd, ord) :: rest))
   (hst : (st, instObj 165 dst) ∈ rest) (iS : IsStore w.params ost rd c g) (iD : ord.IsDictOf (intKind prog w) kvs) (hp : (p, instObj 74 d) ∈ rest) (hd : (d, od) ∈ rest) (iP : IsProc w.params od n f l)
   (h1 : @Ne Nat dst rd) (o1 : ∀ p ∈ rest, p.1 ≠ dst) (o2 : ∀ p ∈ rest, p.1 ≠ rd)
   (hsz : kvs.length ≤ sizeLine) (hc0 : 0 ≤ c) (hc : c ≤ 100) (hg0 : 0 ≤ g) (hg : g ≤ 100)
   (post : ∀ h' tk' x e ost' ord' oe, Fr h₀ L h' m → News h₀ L h' ((x, instObj 46 e) :: (e, oe) :: (dst, ost') :: (rd, ord') :: rest) → (∀ p ∈ rest, @LT.lt Nat _ p.1 e) → @LT.lt Nat _ e x → @LT.lt Nat _ dst e → @LT.lt Nat _ rd e →
     IsStore w.params ost' rd (c + 1) (g + 1) → ord'.IsDictOf (intKind prog w) (stored kvs c (.ref x)) → (∀ kd, IsRec w.params oe (RecV.mk c n kd (g + 1) (-1) (-1)) ka) →
     R (.ok (.ret (.ref x))) {s with heap := h', toks := tk'}) :
   codeAny (model prog w) A (.call (.ref 99) ⟨[.ref st, .ref p, .ref tt, .ref ka, .int 0 t0], []⟩) R s := by
  have kk : withK PySem.Challenge.rw_rr0016_01 topK.heap_1 := by k_fill; trivial
  w_top off
  obtain ⟨B, X, T, hA, hf, hke, hroom, hunits, hh⟩ := C
  obtain ⟨τs, rfl⟩ := iS
  obtain ⟨τp, rfl⟩ := iP
  w_strict (k_enter; k_steps)
  all_goals (try k_data)
  (rename News _ _ _ _ => nE)
  (rename (_ ∧ _ ∧ AllLt _ rest) => hl)
  have hlt := allLt_to hl.2.2
  exact post _ _ _ _ _ _ _ (by assumption) nE hlt (by omega) (by omega) (by omega) isSto_mk (by assumption) (fun kd => isRec_mk ⟨rfl, rfl, rfl, rfl, rfl⟩)
end
section
set_option maxHeartbeats 2000000 in
theorem new_H {prog : Program} {w : World} {A₀ A : Around} {s : Shared} {base h₀ : Heap} {outer : List Env} {env : Env} {L : Addr} {m : Str → Option Value} {news : List (Addr × Obj)}
   {mean : ExcName → Option Value} {mg mb : Str → Option Value} {R : Result → Shared → Prop} {a : Ad} {W : Wd} {tt ka kd : Nat} {ok : Obj} {n : Int} {t0 : Tok}
   (C : Cx w A₀ A base h₀ outer env L mean mg mb 390) (F : Fr h₀ L s.heap m) (N : News h₀ L s.heap news) (H : Has prog w news a W) (hn : Two n)
   (hka : (ka, ok) ∈ news) (hok : IsKey ok kd) (hkn : ¬ a.In ka) (hlen : W.recs.length ≤ 20) (hg0 : 0 ≤ W.gen) (hg : W.gen ≤ 100)
   (post : ∀ (h' : Heap) (tk' : Nat) (news' : List (Addr × Obj)) (x d : Nat), Fr h₀ L h' m → News h₀ L h' news' → Has prog w news' (a.add (x, d, ka)) (W.more n kd) → (∀ p ∈ news, ¬ a.In p.1 → p ∈ news') → (∀ p ∈ news, @LT.lt Nat _ p.1 d) → d < x → R (.ok (.ret (.ref x))) {s with heap := h', toks := tk'}) :
   codeAny (model prog w) A (.call (.ref 99) ⟨[.ref a.st, .ref (a.p n), .ref tt, .ref ka, .int 0 t0], []⟩) R s := by
  refine viaG fun G hG => ?_
  obtain ⟨ost, hdst, iS⟩ := H.dst
  obtain ⟨ord, hrd, iD⟩ := H.rd
  obtain ⟨od, hd, iP⟩ := H.d n hn
  have sd : a.at (.d n) = some (a.d n) := by simp [Ad.at, hn]
  have sp : a.at (.p n) = some (a.p n) := by simp [Ad.at, hn]
  have nd : ∀ (t : Sl) {u : Nat} {o : Obj}, a.at t = some u → t ≠ .dst → t ≠ .rd → (u, o) ∈ news → (u, o) ∈ off [a.dst, a.rd] news := fun t u o ht h1 h2 hm => mem_off hm (by simp [H.ne t .dst ht rfl h1, H.ne t .rd ht rfl h2])
  have ik : ∀ {v : Nat}, a.In v → @Ne Nat ka v := fun hv e => hkn (e ▸ hv)
  have hlenE : (a.ra.length : Int) = W.recs.length := by rw [H.len]
  have N1 : News h₀ L s.heap ((a.dst, ost) :: (a.rd, ord) :: off [a.dst, a.rd] news) := news_cons N hdst (news_cons N hrd (news_off N))
  refine hG (new_spec (kvs := recKvs a.ra) C F N1 (nd .st rfl (by simp) (by simp) H.st) iS iD (nd _ sp (by simp) (by simp) (H.p n hn)) (nd _ sd (by simp) (by simp) hd) iP (H.ne .dst .rd rfl rfl (by simp)) (off_ne (by simp)) (off_ne (by simp))
      (H.lt_size (by omega)) (by omega) (by omega) hg0 hg ?_)
  clear hG
  intro h' tk' x e ost' ord' oe F' N' hlt hex he1 he2 iS' iD' iR'
  have fresh : ∀ p ∈ news, @LT.lt Nat _ p.1 e := by
    intro p hp
    by_cases hm : p.1 ∈ [a.dst, a.rd]
    · simp only [List.mem_cons, List.not_mem_nil, or_false] at hm
      rcases hm with h | h <;> (rw [h]; assumption)
    · exact hlt p (mem_off hp hm)
  have inl : ∀ {v : Nat}, a.In v → @LT.lt Nat _ v e := fun hv => by
    obtain ⟨o, h⟩ := H.mem_of_in hv
    exact fresh _ h
  have hke : @LT.lt Nat _ ka e := fresh _ hka
  have ha : stored (recKvs a.ra) (W.recs.length : Int) (.ref x) = recKvs a.ra ++ [((a.ra.length : Int), .ref x)] := by
    rw [stored_absent (recKvs_none (.inr (by omega))), hlenE]
  rw [ha] at iD'
  have H1 := H.addRec (r := RecV.mk W.recs.length n kd (W.gen + 1) (-1) (-1)) iS' iD' (x := x) (d := e) (k := ka) (fun hv => absurd (inl hv) (by omega)) (fun hv => absurd (inl hv) (by omega)) hkn (by omega) (by omega) (by omega) (iR' kd) hok
  refine post h' tk' _ x e F' N' (H1.mono ?_) ?_ fresh hex
  · intro p hp
    simp only [List.mem_cons] at hp
    rcases hp with rfl | rfl | rfl | rfl | rfl | hp
    · simp
    · simp
    · exact .tail _ (.tail _ (.tail _ (.tail _ (mem_off hka (by simp [ik ⟨.dst, rfl⟩, ik ⟨.rd, rfl⟩])))))
    · simp
    · simp
    · exact .tail _ (.tail _ (.tail _ (.tail _ hp)))
  · intro p hp hpn
    refine .tail _ (.tail _ (.tail _ (.tail _ (mem_off hp ?_))))
    simp only [List.mem_cons, List.not_mem_nil, or_false, not_or]
    exact ⟨fun e => hpn (e ▸ ⟨.dst, rfl⟩), fun e => hpn (e ▸ ⟨.rd, rfl⟩)⟩
theorem Wd.append_neg {W : Wd} {n : Int} {kd : Nat} (h : W.fst n < 0) : ({ W.more n kd with fst := fun j => if j = n then (W.recs.length : Int) else W.fst j, lst := fun j => if j = n then (W.recs.length : Int) else W.lst j } : Wd) = W.append n kd := by
  simp [Wd.append, Wd.more, h]
theorem Wd.append_pos {W : Wd} {n : Int} {kd i : Nat} {rl : RecV} (h : ¬ W.fst n < 0) (hli : W.lst n = (i : Int)) (hrl : W.recs[i]? = some rl) :
    ({ W.more n kd with recs := (W.more n kd).recs.set i { rl with next := W.recs.length }, fst := fun j => if j = n then W.fst n else W.fst j, lst := fun j => if j = n then (W.recs.length : Int) else W.lst j } : Wd) = W.append n kd := by
  have hilt := (List.getElem?_eq_some_iff.mp hrl).1
  have e3 : (W.recs ++ [RecV.mk W.recs.length n kd (W.gen + 1) (-1) (-1)])[i]? = some rl := by rw [List.getElem?_append_left hilt]; exact hrl
  simp only [Wd.append, Wd.more, h, if_false, hli, Int.toNat_natCast, modify_eq_set e3]
theorem Wd.prepend_is {W : Wd} {n : Int} {kd : Nat} : ({ W.more n kd with recs := (W.more n kd).recs.set W.recs.length { RecV.mk W.recs.length n kd (W.gen + 1) (-1) (-1) with next := W.fst n }, fst := fun j => if j = n then (W.recs.length : Int) else W.fst j, lst := fun j => if j = n then (if W.fst n < 0 then (W.recs.length : Int) else W.lst n) else W.lst j } : Wd) = W.prepend n kd := by
  simp [Wd.prepend, Wd.more]
end
section
theorem more_at {W : Wd} {n : Int} {kd : Nat} : (W.more n kd).recs[W.recs.length]? = some (RecV.mk W.recs.length n kd (W.gen + 1) (-1) (-1)) := by simp [Wd.more]
theorem add_ra {a : Ad} {q : Nat × Nat × Nat} {N : Nat} (h : a.ra.length = N) : (a.add q).ra[N]? = some q := by
  subst h; simp [Ad.add]
theorem add_old {a : Ad} {q q' : Nat × Nat × Nat} {i : Nat} (h : a.ra[i]? = some q') : (a.add q).ra[i]? = some q' := by
  show (a.ra ++ [q])[i]? = _
  rw [List.getElem?_append_left (List.getElem?_eq_some_iff.mp h).1]; exact h
theorem more_old {W : Wd} {n : Int} {kd i : Nat} {r : RecV} (h : W.recs[i]? = some r) : (W.more n kd).recs[i]? = some r := by
  show (W.recs ++ [_])[i]? = _
  rw [List.getElem?_append_left (List.getElem?_eq_some_iff.mp h).1]; exact h
set_option maxRecDepth 100000 in
set_option maxHeartbeats 8000000 in
theorem append_H {prog : Program} {w : World} {A₀ A : Around} {s : Shared} {base h₀ : Heap} {outer : List Env} {env : Env} {L : Addr} {m : Str → Option Value} {news : List (Addr × Obj)}
   {mean : ExcName → Option Value} {mg mb : Str → Option Value} {R : Result → Shared → Prop} {a : Ad} {W : Wd} {tt ka kd : Nat} {ok : Obj} {n : Int} {t0 : Tok}
   (C : Cx w A₀ A base h₀ outer env L mean mg mb 380) (F : Fr h₀ L s.heap m) (N : News h₀ L s.heap news) (H : Has prog w news a W) (hn : Two n)
   (hka : (ka, ok) ∈ news) (hok : IsKey ok kd) (hkn : ¬ a.In ka) (hlen : W.recs.length ≤ 20) (hg0 : 0 ≤ W.gen) (hg : W.gen ≤ 100)
   (hlast : 0 ≤ W.fst n → ∃ i : Nat, W.lst n = (i : Int) ∧ i < W.recs.length)
   (post : ∀ (h' : Heap) (tk' : Nat) (news' : List (Addr × Obj)) (x d : Nat), Fr h₀ L h' m → News h₀ L h' news' → Has prog w news' (a.add (x, d, ka)) (W.append n kd) → (∀ p ∈ news, ¬ a.In p.1 → p ∈ news') → (∀ p ∈ news, @LT.lt Nat _ p.1 d) → d < x → R (.ok (.ret (.ref x))) {s with heap := h', toks := tk'}) :
   codeAny (model prog w) A (.call (.ref 106) ⟨[.ref a.st, .ref (a.p n), .ref tt, .ref ka, .int 0 t0], []⟩) R s := by
  have kk : withK PySem.Challenge.rw_rr0016_01 topK.heap_1 := by k_fill; trivial
  w_top off
  obtain ⟨B, X, T, hA, hf, hke, hroom, hunits, hh⟩ := C
  have mst := H.st
  refine viaG fun G hG => ?_
  obtain ⟨ost, mdst, τs, rfl⟩ := H.dst
  refine hG ?_; clear hG
  w_strict k_enter
  (rename Below A _ _ _ => B1)
  (rename (topK.heap_1 w.params).In _ => X1)
  (rename Top _ _ _ _ _ _ => T1)
  w_strict k_steps
  all_goals (try k_data)
  (rename Fr _ _ _ _ => fE)
  (rename News _ _ _ _ => nE)
  refine wpAny_call (new_H (Cx.inner B1 X1 T1 (by omega) (by omega) hh (by omega)) fE nE H hn hka hok hkn hlen hg0 hg ?_)
  clear fE nE mst mdst
  intro h1 tk1 nw1 x e F1 N1 H1 keep1 fresh1 hex
  try dsimp only
  refine viaG fun G hG => ?_
  have sd : (a.add (x, e, ka)).at (.d n) = some (a.d n) := by simp [Ad.at, Ad.add, hn]
  obtain ⟨od, hd, τp, rfl⟩ : ∃ o, (a.d n, o) ∈ nw1 ∧ IsProc w.params o n (W.fst n) (W.lst n) := H1.d n hn
  have hp : (a.p n, instObj 74 (a.d n)) ∈ nw1 := H1.p n hn
  have sp : (a.add (x, e, ka)).at (.p n) = some (a.p n) := by simp [Ad.at, Ad.add, hn]
  have hxa : (a.add (x, e, ka)).ra[W.recs.length]? = some (x, e, ka) := add_ra H.len
  obtain ⟨mx, ⟨oe, me, τr, rfl⟩, -⟩ := H1.recs W.recs.length x e ka _ hxa more_at
  have sx : (a.add (x, e, ka)).at (.x W.recs.length) = some x := by simp [Ad.at, hxa]
  have se : (a.add (x, e, ka)).at (.e W.recs.length) = some e := by simp [Ad.at, hxa]
  by_cases hneg : W.fst n < 0
  · have go : ∀ (t : Sl) {u : Nat} {o : Obj}, (a.add (x, e, ka)).at t = some u → t ≠ .d n → (u, o) ∈ nw1 → (u, o) ∈ off [a.d n] nw1 := fun t u o ht h1 hm => mem_off hm (by simpa using H1.ne t (.d n) ht sd h1)
    have N2 : News _ _ h1 ((a.d n, proO w.params n (W.fst n) (W.lst n) τp) :: off [a.d n] nw1) := news_cons N1 hd (news_off N1)
    replace hp := go _ sp (by simp) hp
    replace mx := go _ sx (by simp) mx
    replace me := go _ se (by simp) me
    clear N1 hd
    refine hG ?_; clear hG
    w_strict k_steps
    all_goals (try k_data)
    refine post _ _ _ x e (by assumption) (by assumption) (Wd.append_neg hneg ▸ H1.setProc (n := n) hn isPro_mk) (fun p hp hpn => ?_) fresh1 hex
    exact .tail _ (mem_off (keep1 p hp hpn) (by rw [List.mem_singleton]; exact fun e => hpn ((show p.1 = a.d n from e) ▸ ⟨.d n, by simp [Ad.at, hn]⟩)))
  · obtain ⟨i, hli, hilt⟩ := hlast (by omega)
    obtain ⟨rl, hrl⟩ : ∃ rl, W.recs[i]? = some rl := ⟨_, List.getElem?_eq_getElem hilt⟩
    obtain ⟨⟨xl, dl, kl⟩, hal⟩ : ∃ q, a.ra[i]? = some q := ⟨_, List.getElem?_eq_getElem (H.len ▸ hilt)⟩
    have hal' : (a.add (x, e, ka)).ra[i]? = some (xl, dl, kl) := add_old hal
    obtain ⟨mxl, ⟨odl, mdl, τl, rfl⟩, -⟩ := H1.recs i xl dl kl rl hal' (more_old hrl)
    have sl : (a.add (x, e, ka)).at (.e i) = some dl := by simp [Ad.at, hal']
    have sxl : (a.add (x, e, ka)).at (.x i) = some xl := by simp [Ad.at, hal']
    have go : ∀ (t : Sl) {u : Nat} {o : Obj}, (a.add (x, e, ka)).at t = some u → t ≠ .d n → t ≠ .e i → (u, o) ∈ nw1 → (u, o) ∈ off [a.d n, dl] nw1 := fun t u o ht h1 h2 hm => mem_off hm (by simp [H1.ne t (.d n) ht sd h1, H1.ne t (.e i) ht sl h2])
    have N2 : News _ _ h1 ((a.d n, proO w.params n (W.fst n) (W.lst n) τp) :: (dl, recO w.params rl kl τl) :: off [a.d n, dl] nw1) := news_cons N1 hd (news_cons N1 mdl (news_off N1))
    have hne1 := H1.ne (.d n) (.e i) sd sl (by simp)
    have hve : valueAt (recKvs (a.add (x, e, ka)).ra) (W.lst n) = some (.ref xl) := by rw [hli]; exact recKvs_val hal'
    replace hp := go _ sp (by simp) (by simp) hp
    replace mx := go _ sx (by simp) (by simp) mx
    have hie : i ≠ W.recs.length := by omega
    replace me := go _ se (by simp) (by simpa using Ne.symm hie) me
    replace mxl := go _ sxl (by simp) (by simp) mxl
    have mst := go .st rfl (by simp) (by simp) H1.st
    obtain ⟨ost, mdst, τs, rfl⟩ := H1.dst
    replace mdst := go .dst rfl (by simp) (by simp) mdst
    obtain ⟨ord, mrd, ird⟩ := H1.rd
    have lord := H1.rdlo.1
    replace mrd := go .rd rfl (by simp) (by simp) mrd
    clear N1 hd mdl
    have fin : ∀ (h' : Heap) (tk' : Nat) (o1 o2 : Obj), IsProc w.params o1 n (W.fst n) (W.recs.length : Int) → IsRec w.params o2 { rl with next := W.recs.length } kl → Fr h₀ L h' m → News h₀ L h' ((a.d n, o1) :: (dl, o2) :: off [a.d n, dl] nw1) → R (.ok (.ret (.ref x))) {s with heap := h', toks := tk'} := by
      intro h' tk' o1 o2 i1 i2 F' N'
      refine post h' tk' _ x e F' N' ?_ (fun p hp hpn => ?_) fresh1 hex
      · refine Wd.append_pos hneg hli hrl ▸ ((H1.setRec (r' := { rl with next := W.recs.length }) hal' (more_old hrl) rfl i2).setProc (n := n) hn i1).mono ?_
        intro p hp
        rcases List.mem_cons.mp hp with rfl | hp
        · exact .head _
        · obtain ⟨hp, h2⟩ := of_off hp
          rcases List.mem_cons.mp hp with rfl | hp
          · exact .tail _ (.head _)
          · obtain ⟨hp, h3⟩ := of_off hp
            refine .tail _ (.tail _ (mem_off hp ?_))
            simp only [List.mem_cons, List.not_mem_nil, or_false, not_or] at h2 h3 ⊢
            exact ⟨h2, h3⟩
      · refine .tail _ (.tail _ (mem_off (keep1 p hp hpn) ?_))
        simp only [List.mem_cons, List.not_mem_nil, or_false, not_or]
        exact ⟨fun e => hpn (e ▸ ⟨.d n, by simp [Ad.at, hn]⟩), fun e => hpn (e ▸ ⟨.e i, by simp [Ad.at, hal]⟩)⟩
    clear post
    refine hG ?_; clear hG
    w_strict k_steps
    all_goals (try k_data)
    exact fin _ _ _ _ isPro_mk (isRec_mk ⟨rfl, rfl, rfl, rfl, rfl⟩) (by assumption) (by assumption)

set_option maxRecDepth 100000 in
set_option maxHeartbeats 8000000 in
theorem prepend_H {prog : Program} {w : World} {A₀ A : Around} {s : Shared} {base h₀ : Heap} {outer : List Env} {env : Env} {L : Addr} {m : Str → Option Value} {news : List (Addr × Obj)}
   {mean : ExcName → Option Value} {mg mb : Str → Option Value} {R : Result → Shared → Prop} {a : Ad} {W : Wd} {tt ka kd : Nat} {ok : Obj} {n : Int} {t0 : Tok}
   (C : Cx w A₀ A base h₀ outer env L mean mg mb 380) (F : Fr h₀ L s.heap m) (N : News h₀ L s.heap news) (H : Has prog w news a W) (hn : Two n)
   (hka : (ka, ok) ∈ news) (hok : IsKey ok kd) (hkn : ¬ a.In ka) (hlen : W.recs.length ≤ 20) (hg0 : 0 ≤ W.gen) (hg : W.gen ≤ 100)
   (post : ∀ (h' : Heap) (tk' : Nat) (news' : List (Addr × Obj)) (x d : Nat), Fr h₀ L h' m → News h₀ L h' news' → Has prog w news' (a.add (x, d, ka)) (W.prepend n kd) → (∀ p ∈ news, ¬ a.In p.1 → p ∈ news') → (∀ p ∈ news, @LT.lt Nat _ p.1 d) → d < x → R (.ok (.ret (.ref x))) {s with heap := h', toks := tk'}) :
   codeAny (model prog w) A (.call (.ref 113) ⟨[.ref a.st, .ref (a.p n), .ref tt, .ref ka, .int 0 t0], []⟩) R s := by
  have kk : withK PySem.Challenge.rw_rr0016_01 topK.heap_1 := by k_fill; trivial
  w_top off
  obtain ⟨B, X, T, hA, hf, hke, hroom, hunits, hh⟩ := C
  have mst := H.st
  refine viaG fun G hG => ?_
  obtain ⟨ost, mdst, τs, rfl⟩ := H.dst
  refine hG ?_; clear hG
  w_strict k_enter
  (rename Below A _ _ _ => B1)
  (rename (topK.heap_1 w.params).In _ => X1)
  (rename Top _ _ _ _ _ _ => T1)
  w_strict k_steps
  all_goals (try k_data)
  (rename Fr _ _ _ _ => fE)
  (rename News _ _ _ _ => nE)
  refine wpAny_call (new_H (Cx.inner B1 X1 T1 (by omega) (by omega) hh (by omega)) fE nE H hn hka hok hkn hlen hg0 hg ?_)
  clear fE nE mst mdst
  intro h1 tk1 nw1 x e F1 N1 H1 keep1 fresh1 hex
  try dsimp only
  refine viaG fun G hG => ?_
  have sd : (a.add (x, e, ka)).at (.d n) = some (a.d n) := by simp [Ad.at, Ad.add, hn]
  obtain ⟨od, hd, τp, rfl⟩ : ∃ o, (a.d n, o) ∈ nw1 ∧ IsProc w.params o n (W.fst n) (W.lst n) := H1.d n hn
  have hp : (a.p n, instObj 74 (a.d n)) ∈ nw1 := H1.p n hn
  have sp : (a.add (x, e, ka)).at (.p n) = some (a.p n) := by simp [Ad.at, Ad.add, hn]
  have hxa : (a.add (x, e, ka)).ra[W.recs.length]? = some (x, e, ka) := add_ra H.len
  obtain ⟨mx, ⟨oe, me, τr, rfl⟩, -⟩ := H1.recs W.recs.length x e ka _ hxa more_at
  have sx : (a.add (x, e, ka)).at (.x W.recs.length) = some x := by simp [Ad.at, hxa]
  have se : (a.add (x, e, ka)).at (.e W.recs.length) = some e := by simp [Ad.at, hxa]
  have go : ∀ (t : Sl) {u : Nat} {o : Obj}, (a.add (x, e, ka)).at t = some u → t ≠ .d n → t ≠ .e W.recs.length → (u, o) ∈ nw1 → (u, o) ∈ off [a.d n, e] nw1 := fun t u o ht h1 h2 hm => mem_off hm (by simp [H1.ne t (.d n) ht sd h1, H1.ne t (.e W.recs.length) ht se h2])
  have N2 : News _ _ h1 ((a.d n, proO w.params n (W.fst n) (W.lst n) τp) :: (e, recO w.params (RecV.mk W.recs.length n kd (W.gen + 1) (-1) (-1)) ka τr) :: off [a.d n, e] nw1) := news_cons N1 hd (news_cons N1 me (news_off N1))
  have hne1 := H1.ne (.d n) (.e W.recs.length) sd se (by simp)
  replace hp := go _ sp (by simp) (by simp) hp
  replace mx := go _ sx (by simp) (by simp) mx
  clear N1 hd me
  have fin : ∀ (h' : Heap) (tk' : Nat) (o1 o2 : Obj) (l : Int), l = (if W.fst n < 0 then (W.recs.length : Int) else W.lst n) → IsProc w.params o1 n (W.recs.length : Int) l → IsRec w.params o2 { RecV.mk W.recs.length n kd (W.gen + 1) (-1) (-1) with next := W.fst n } ka → Fr h₀ L h' m → News h₀ L h' ((a.d n, o1) :: (e, o2) :: off [a.d n, e] nw1) → R (.ok (.ret (.ref x))) {s with heap := h', toks := tk'} := by
    intro h' tk' o1 o2 l hl i1 i2 F' N'
    subst hl
    refine post h' tk' _ x e F' N' ?_ (fun p hp hpn => ?_) fresh1 hex
    · refine Wd.prepend_is (kd := kd) ▸ ((H1.setRec (r' := { RecV.mk W.recs.length n kd (W.gen + 1) (-1) (-1) with next := W.fst n }) hxa more_at rfl i2).setProc (n := n) hn i1).mono ?_
      intro p hp
      rcases List.mem_cons.mp hp with rfl | hp
      · exact .head _
      · obtain ⟨hp, h2⟩ := of_off hp
        rcases List.mem_cons.mp hp with rfl | hp
        · exact .tail _ (.head _)
        · obtain ⟨hp, h3⟩ := of_off hp
          refine .tail _ (.tail _ (mem_off hp ?_))
          simp only [List.mem_cons, List.not_mem_nil, or_false, not_or] at h2 h3 ⊢
          exact ⟨h2, h3⟩
    · refine .tail _ (.tail _ (mem_off (keep1 p hp hpn) ?_))
      simp only [List.mem_cons, List.not_mem_nil, or_false, not_or]
      exact ⟨fun e => hpn (e ▸ ⟨.d n, by simp [Ad.at, hn]⟩), Nat.ne_of_lt (fresh1 p hp)⟩
  clear post
  refine hG ?_; clear hG
  w_strict k_steps
  all_goals (try k_data)
  all_goals (refine fin _ _ _ _ _ ?_ isPro_mk (isRec_mk ⟨rfl, rfl, rfl, rfl, rfl⟩) (by assumption) (by assumption))
  · exact (if_pos (by assumption)).symm
  · exact (if_neg (by assumption)).symm
end
section
set_option maxRecDepth 100000 in
set_option maxHeartbeats 8000000 in
theorem erase_none {prog : Program} {w : World} {A₀ A : Around} {s : Shared} {base h₀ : Heap} {outer : List Env} {env : Env} {L : Addr} {m : Str → Option Value} {news : List (Addr × Obj)}
   {mean : ExcName → Option Value} {mg mb : Str → Option Value} {R : Result → Shared → Prop} {st dst rd : Nat} {ost ord : Obj} {c g j : Int} {t0 : Tok} {kvs : List (Int × Value)}
   (C : Cx w A₀ A base h₀ outer env L mean mg mb 380) (F : Fr h₀ L s.heap m) (N : News h₀ L s.heap news)
   (hst : (st, instObj 165 dst) ∈ news) (hdst : (dst, ost) ∈ news) (iS : IsStore w.params ost rd c g) (hrd : (rd, ord) ∈ news) (iD : ord.IsDictOf (intKind prog w) kvs) (lo : (rd == sysModules) = false) (hval : valueAt kvs j = none)
   (post : ∀ h' tk', Fr h₀ L h' m → News h₀ L h' news → R (.ok (.ret (.bool false))) {s with heap := h', toks := tk'}) :
   codeAny (model prog w) A (.call (.ref 155) ⟨[.ref st, .int j t0], []⟩) R s := by
  have kk : withK PySem.Challenge.rw_rr0016_01 topK.heap_1 := by k_fill; trivial
  w_top off
  obtain ⟨B, X, T, hA, hf, hke, hroom, hunits, hh⟩ := C
  obtain ⟨τs, rfl⟩ := iS
  w_strict (k_enter; k_steps)
  all_goals (try k_data)
  exact post _ _ (by assumption) (by assumption)

set_option maxRecDepth 100000 in
set_option maxHeartbeats 8000000 in
theorem erase_some {prog : Program} {w : World} {A₀ A : Around} {s : Shared} {base h₀ : Heap} {outer : List Env} {env : Env} {L : Addr} {m : Str → Option Value} {rest : List (Addr × Obj)}
   {mean : ExcName → Option Value} {mg mb : Str → Option Value} {R : Result → Shared → Prop} {st dst rd x d k : Nat} {ost ord od : Obj} {c g j : Int} {t0 : Tok} {kvs : List (Int × Value)} {r : RecV}
   (C : Cx w A₀ A base h₀ outer env L mean mg mb 380) (F : Fr h₀ L s.heap m) (N : News h₀ L s.heap ((dst, ost) :: (d, od) :: rest))
   (hst : (st, instObj 165 dst) ∈ rest) (iS : IsStore w.params ost rd c g) (hrd : (rd, ord) ∈ rest) (iD : ord.IsDictOf (intKind prog w) kvs) (lo : (rd == sysModules) = false) (hval : valueAt kvs j = some (.ref x))
   (hx : (x, instObj 46 d) ∈ rest) (iR : IsRec w.params od r k) (hg0 : 0 ≤ g) (hg : g ≤ 100)
   (h1 : @Ne Nat dst d) (o1 : ∀ p ∈ rest, p.1 ≠ dst) (o2 : ∀ p ∈ rest, p.1 ≠ d)
   (post : ∀ h' tk' ost' od' b, Fr h₀ L h' m → News h₀ L h' ((dst, ost') :: (d, od') :: rest) → IsStore w.params ost' rd c (if r.death < 0 then g + 1 else g) → IsRec w.params od' (if r.death < 0 then { r with death := g + 1 } else r) k → R (.ok (.ret (.bool b))) {s with heap := h', toks := tk'}) :
   codeAny (model prog w) A (.call (.ref 155) ⟨[.ref st, .int j t0], []⟩) R s := by
  have kk : withK PySem.Challenge.rw_rr0016_01 topK.heap_1 := by k_fill; trivial
  w_top off
  obtain ⟨B, X, T, hA, hf, hke, hroom, hunits, hh⟩ := C
  obtain ⟨τs, rfl⟩ := iS
  obtain ⟨τr, rfl⟩ := iR
  w_strict (k_enter; k_steps)
  all_goals (try k_data)
  all_goals (refine post _ _ _ _ _ (by assumption) (by assumption) ?_ ?_)
  · rw [if_neg (by omega)]; exact isSto_mk
  · rw [if_neg (by omega)]; exact (isRec_mk ⟨rfl, rfl, rfl, rfl, rfl⟩)
  · rw [if_pos (by omega)]; exact isSto_mk
  · rw [if_pos (by omega)]; exact (isRec_mk ⟨rfl, rfl, rfl, rfl, rfl⟩)

noncomputable def Wd.erase (W : Wd) (j : Int) : Wd := match (if 0 ≤ j then W.recs[j.toNat]? else none) with
  | none => W
  | some r => { W with recs := W.recs.set j.toNat (if r.death < 0 then { r with death := W.gen + 1 } else r), gen := if r.death < 0 then W.gen + 1 else W.gen }
set_option maxHeartbeats 2000000 in
theorem erase_H {prog : Program} {w : World} {A₀ A : Around} {s : Shared} {base h₀ : Heap} {outer : List Env} {env : Env} {L : Addr} {m : Str → Option Value} {news : List (Addr × Obj)}
   {mean : ExcName → Option Value} {mg mb : Str → Option Value} {R : Result → Shared → Prop} {a : Ad} {W : Wd} {j : Int} {t0 : Tok}
   (C : Cx w A₀ A base h₀ outer env L mean mg mb 380) (F : Fr h₀ L s.heap m) (N : News h₀ L s.heap news) (H : Has prog w news a W)
   (hg0 : 0 ≤ W.gen) (hg : W.gen ≤ 100)
   (post : ∀ (h' : Heap) (tk' : Nat) (news' : List (Addr × Obj)) (b : Bool), Fr h₀ L h' m → News h₀ L h' news' → Has prog w news' a (W.erase j) → (∀ p ∈ news, ¬ a.In p.1 → p ∈ news') → R (.ok (.ret (.bool b))) {s with heap := h', toks := tk'}) :
   codeAny (model prog w) A (.call (.ref 155) ⟨[.ref a.st, .int j t0], []⟩) R s := by
  obtain ⟨ost, hdst, iS⟩ := H.dst
  obtain ⟨ord, hrd, iD⟩ := H.rd
  cases hr : (if 0 ≤ j then W.recs[j.toNat]? else none) with
  | none =>
    have e : W.erase j = W := by simp only [Wd.erase, hr]
    refine erase_none C F N H.st hdst iS hrd iD H.rdlo.1 (recKvs_none ?_) fun h' tk' F' N' => post h' tk' news false F' N' (e.symm ▸ H) fun p hp _ => hp
    split at hr
    · right
      have := List.getElem?_eq_none_iff.mp hr
      rw [H.len]; omega
    · left; omega
  | some r =>
    have hj : 0 ≤ j := by
      false_or_by_contra
      rename_i hc
      rw [if_neg hc] at hr; cases hr
    rw [if_pos hj] at hr
    have e : W.erase j = { W with recs := W.recs.set j.toNat (if r.death < 0 then { r with death := W.gen + 1 } else r), gen := if r.death < 0 then W.gen + 1 else W.gen } := by
      simp only [Wd.erase, if_pos hj, hr]
    have hlt : j.toNat < W.recs.length := (List.getElem?_eq_some_iff.mp hr).1
    obtain ⟨⟨x, d, k⟩, ha⟩ : ∃ q, a.ra[j.toNat]? = some q := ⟨_, List.getElem?_eq_getElem (H.len ▸ hlt)⟩
    obtain ⟨hx, ⟨od, hd, iR⟩, _⟩ := H.recs _ x d k r ha hr
    have sl : a.at (.e j.toNat) = some d := by simp [Ad.at, ha]
    have sx : a.at (.x j.toNat) = some x := by simp [Ad.at, ha]
    have r1 := H.ne .dst (.e j.toNat) rfl sl (by simp)
    have r2 := H.ne .st .dst rfl rfl (by simp)
    have r3 := H.ne .st (.e j.toNat) rfl sl (by simp)
    have r4 := H.ne .rd .dst rfl rfl (by simp)
    have r5 := H.ne .rd (.e j.toNat) rfl sl (by simp)
    have r6 := H.ne (.x j.toNat) .dst sx rfl (by simp)
    have r7 := H.ne (.x j.toNat) (.e j.toNat) sx sl (by simp)
    have N1 : News h₀ L s.heap ((a.dst, ost) :: (d, od) :: off [a.dst, d] news) := news_cons N hdst (news_cons N hd (news_off N))
    have hv : valueAt (recKvs a.ra) j = some (.ref x) := by
      have := recKvs_val ha
      rwa [Int.toNat_of_nonneg hj] at this
    refine erase_some C F N1 (mem_off H.st (by simp [r2, r3])) iS (mem_off hrd (by simp [r4, r5])) iD H.rdlo.1 hv (mem_off hx (by simp [r6, r7])) iR hg0 hg r1 (off_ne (by simp)) (off_ne (by simp)) ?_
    intro h' tk' ost' od' b F' N' iS' iR'
    have H1 := H.setStore iS'
    have H2 := H1.setRec (i := j.toNat) (x := x) (d := d) (k := k) (r := r) (r' := if r.death < 0 then { r with death := W.gen + 1 } else r) ha hr (by split <;> rfl) iR'
    refine post h' tk' _ b F' N' (e ▸ H2.mono ?_) ?_
    · intro p hp
      rcases List.mem_cons.mp hp with rfl | hp
      · simp
      · obtain ⟨hp, hpd⟩ := of_off hp
        have hpd' : p.1 ≠ d := by simpa using hpd
        rcases List.mem_cons.mp hp with rfl | hp
        · simp
        · obtain ⟨hp, hpq⟩ := of_off hp
          exact .tail _ (.tail _ (mem_off hp (by simp only [List.mem_cons, List.not_mem_nil, or_false, not_or] at hpq ⊢; exact ⟨hpq, hpd'⟩)))
    · intro p hp hpn
      refine .tail _ (.tail _ (mem_off hp ?_))
      simp only [List.mem_cons, List.not_mem_nil, or_false, not_or]
      exact ⟨fun e => hpn (e ▸ ⟨.dst, rfl⟩), fun e => hpn (e ▸ ⟨_, sl⟩)⟩
end
section
/-! loops over an opaque ledger -/
section
variable {prog : Program} {w : World} {A : Around} {E : Value → Shared → Prop} {s : Shared} {env : Env} {h₀ : Heap} {x : Str} {body : List Stmt} {Q : Flow → Shared → Prop}
def TurnPost (h₀ : Heap) (L : Addr) (I : Addr) (own : List (Addr × Obj)) (J : (Str → Option Value) → List (Addr × Obj) → Prop) (s₁ : Shared) (Q : Flow → Shared → Prop) (f : Flow) (s₂ : Shared) : Prop :=
  match f with
  | .ret v => Q (.ret v) s₂
  | .brk => Q .next s₂
  | _ => ∃ h' tk m' news', s₂ = { s₁ with heap := h', toks := tk } ∧ Fr h₀ L h' m' ∧ News h₀ L h' news' ∧ (∀ p ∈ own, p ∈ news') ∧ J m' (off [I] news')
theorem TurnPost.done {L I : Addr} {own : List (Addr × Obj)} {J : (Str → Option Value) → List (Addr × Obj) → Prop} {s₁ : Shared} {h' : Heap} {tk : Nat} {m' : Str → Option Value} {news' : List (Addr × Obj)}
    (F : Fr h₀ L h' m') (N : News h₀ L h' news') (ho : ∀ p ∈ own, p ∈ news') (hj : J m' (off [I] news')) :
    ∃ h'' tk' m'' news'', ({ s₁ with heap := h', toks := tk } : Shared) = { s₁ with heap := h'', toks := tk' } ∧ Fr h₀ L h'' m'' ∧ News h₀ L h'' news'' ∧ (∀ p ∈ own, p ∈ news'') ∧ J m'' (off [I] news'') := ⟨h', tk, m', news', rfl, F, N, ho, hj⟩
theorem loopO {I : Addr} {fp : List Addr} {n : Nat} {P : Nat → Value → Prop} {St : Nat → Heap → Prop} {m₀ : Str → Option Value} {news : List (Addr × Obj)} (J : Nat → (Str → Option Value) → List (Addr × Obj) → Prop)
    (W : Walks prog w A I fp [I] n P St) (hLf : env.locals ∉ fp) (hIf : I ∈ fp) (hI : h₀.get? I = none) (hSI : ∀ i h, St i h → ∃ o, h.get? I = some o) (hnw : ∀ p ∈ news, p.1 ≠ I) (hst : St 0 s.heap)
    (F : Fr h₀ env.locals s.heap m₀) (N : News h₀ env.locals s.heap news) (hj : J 0 m₀ news)
    (turn : ∀ i v m₁ news₁ h tk own, i < n → P i v → J i m₁ news₁ → (∀ p ∈ news₁, p.1 ≠ I) → (∃ o, (I, o) ∈ own) → (∀ p ∈ own, p.1 ∈ fp) → St (i + 1) h → Fr h₀ env.locals h (fun y => if y = x then some v else m₁ y) → News h₀ env.locals h (own ++ news₁) →
      wpAny (model prog w) A (execs body env) (TurnPost h₀ env.locals I own (J (i + 1)) { s with heap := h, toks := tk } Q) E { s with heap := h, toks := tk })
    (done : ∀ m₁ news₁ h tk, J n m₁ news₁ → Fr h₀ env.locals h m₁ → News h₀ env.locals h news₁ → Q .next { s with heap := h, toks := tk }) :
    LoopAtV prog w A h₀ env x body Q E (.ref I) s := by
  refine ⟨I, fp, [I], n, P, St, m₀, news, J, rfl, W, hLf, ?_, ?_, hst, F, N, hj, ?_, ?_⟩
  · intro b hb; rw [List.mem_singleton.mp hb]; exact hI
  · intro p hp hb; exact hnw p hp (List.mem_singleton.mp hb)
  · rintro i v m₁ news₁ s₁ own ⟨hh', tk', rfl⟩ hin hP hJ hoff hown _ hall hst' F₁ N₁
    obtain ⟨oI, hoI⟩ := hSI _ _ hst'
    refine wpAny_mono (turn i v m₁ news₁ hh' tk' own hin hP hJ (fun p hp e => hoff p hp (List.mem_singleton.mpr e)) ⟨oI, hall I hIf hI oI hoI⟩ hown hst' F₁ N₁) (fun f s₂ p => ?_) fun _ _ e => e
    have fin : (∃ h' tk m' news', s₂ = { s with heap := h', toks := tk } ∧ Fr h₀ env.locals h' m' ∧ News h₀ env.locals h' news' ∧ (∀ p ∈ own, p ∈ news') ∧ J (i + 1) m' (off [I] news')) →
        LoopStepU h₀ env.locals [I] own (J (i + 1)) { s with heap := hh', toks := tk' } .next s₂ := by
      rintro ⟨h', tk, m', news', e, F', N', ho, hm⟩
      refine ⟨rfl, h', tk, m', off [I] news', e, F', fun p hp => N' p ((List.mem_append.mp hp).elim (ho p) fun h => (of_off h).1), fun p hp => (of_off hp).2, hm⟩
    cases f with
    | ret v => exact .ret p
    | brk => exact .brk p
    | next => exact .next (fin p)
    | cont => exact .cont (fin p)
  · rintro h' tk m' news' F' N' _ hJ
    exact done m' news' h' tk hJ F' N'
theorem iterRange {r : Addr} {a₀ b₀ : Int} {t₀ u₀ v₀ : Tok} {n : Nat} {m₀ : Str → Option Value} {news : List (Addr × Obj)} (J : Nat → (Str → Option Value) → List (Addr × Obj) → Prop)
    (hh : A.handled = none) (hr : IsRange s.heap r a₀ b₀ 1 t₀ u₀ v₀) (hsmall : Builtin.Range.small a₀ b₀ 1 = true) (hn : Builtin.Range.rangeSize a₀ b₀ 1 = (n : Int))
    (F : Fr h₀ env.locals s.heap m₀) (N : News h₀ env.locals s.heap news) (hj : J 0 m₀ news)
    (turn : ∀ i t m₁ news₁ h tk (I : Nat) own, i < n → J i m₁ news₁ → (∀ p ∈ news₁, p.1 ≠ I) → (∃ o, (I, o) ∈ own) → (∀ p ∈ own, p.1 = I) → Fr h₀ env.locals h (fun y => if y = x then some (.int (a₀ + (i : Int)) t) else m₁ y) → News h₀ env.locals h (own ++ news₁) →
      wpAny (model prog w) A (execs body env) (TurnPost h₀ env.locals I own (J (i + 1)) { s with heap := h, toks := tk } Q) E { s with heap := h, toks := tk })
    (done : ∀ m₁ news₁ h tk, J n m₁ news₁ → Fr h₀ env.locals h m₁ → News h₀ env.locals h news₁ → Q .next { s with heap := h, toks := tk }) :
    wpAny (model prog w) A (pyIter (.ref r)) (fun it s₂ => LoopAtV prog w A h₀ env x body Q E it s₂) E s := by
  refine wpAny_pyIter_range hr hsmall ?_
  refine loopO J (fp := [s.heap.objs.size]) (n := n) (Walks.range hh _ a₀ 1 n) ?_ (by simp) (next_is_new F) ?_ ?_ (by show IsRangeIter _ _ _ _ _; rw [hn]; simpa using Heap.get?_push_size _ rfl) (F.push _) (fun p hp => ⟨Heap.get?_push_of_some _ (N p hp).1, (N p hp).2⟩) hj ?_ ?_
  · intro hm
    exact absurd F.ns.lt ((List.mem_singleton.mp hm) ▸ Nat.lt_irrefl _)
  · intro i h hst; exact ⟨_, hst⟩
  · intro p hp hI
    exact absurd (Heap.lt_size (N p hp).1) (hI ▸ Nat.lt_irrefl _)
  · rintro i v m₁ news₁ h tk own hi ⟨t, rfl⟩ hJ hnI ho hfp _ F₁ N₁
    have e1 : a₀ + (i : Int) * 1 = a₀ + (i : Int) := by omega
    rw [e1] at F₁
    exact turn i t m₁ news₁ h tk _ own hi hJ hnI ho (fun p hp => List.mem_singleton.mp (hfp p hp)) F₁ N₁
  · exact fun m₁ news₁ h tk hJ F₁ N₁ => done m₁ news₁ h tk hJ F₁ N₁
theorem iterInts {l : Addr} {vs : List Value} {ns : List Int} {e : Nat} {m₀ : Str → Option Value} {news : List (Addr × Obj)} (J : Nat → (Str → Option Value) → List (Addr × Obj) → Prop)
    (hh : A.handled = none) (hl : (l, listOf vs.toArray e) ∈ news) (hi : IntsAre vs ns)
    (F : Fr h₀ env.locals s.heap m₀) (N : News h₀ env.locals s.heap news) (hj : J 0 m₀ news)
    (turn : ∀ i k t m₁ news₁ h tk (I : Nat) own, ns[i]? = some k → J i m₁ news₁ → (∀ p ∈ news₁, p.1 ≠ I) → (∃ o, (I, o) ∈ own) → (∀ p ∈ own, p.1 = I ∨ p = (l, listOf vs.toArray e)) → Fr h₀ env.locals h (fun y => if y = x then some (.int k t) else m₁ y) → News h₀ env.locals h (own ++ news₁) →
      wpAny (model prog w) A (execs body env) (TurnPost h₀ env.locals I own (J (i + 1)) { s with heap := h, toks := tk } Q) E { s with heap := h, toks := tk })
    (done : ∀ m₁ news₁ h tk, J ns.length m₁ news₁ → Fr h₀ env.locals h m₁ → News h₀ env.locals h news₁ → Q .next { s with heap := h, toks := tk }) :
    wpAny (model prog w) A (pyIter (.ref l)) (fun it s₂ => LoopAtV prog w A h₀ env x body Q E it s₂) E s := by
  have hls : s.heap.IsList l vs.toArray := PySem.IsL.isList (n := e) (N _ hl).1
  have hne : l ≠ s.heap.objs.size := Nat.ne_of_lt (Heap.lt_size (N _ hl).1)
  refine wpAny_pyIter_list hls ?_
  have W0 := Walks.list (prog := prog) (w := w) hh s.heap.objs.size l hne vs.toArray
  have hlen : vs.toArray.size = ns.length := by simp [hi.length]
  rw [hlen] at W0
  -- the list's own object is held fast, epoch and all
  have W : Walks prog w A s.heap.objs.size [s.heap.objs.size, l] [s.heap.objs.size] ns.length (fun i v => vs.toArray[i]? = some v) (fun i h => h.IsListIter s.heap.objs.size l i ∧ h.get? l = some (listOf vs.toArray e)) := by
    refine ⟨W0.sub, fun i h h' st hk => ⟨st.1.at fun o e => hk _ (by simp) o e, hk l (by simp) _ st.2⟩, fun i s Q E hi st hQ => ?_, fun s Q E st hQ => ?_, fun i s Q E st hQ => ?_⟩
    · exact W0.item i s Q E hi ⟨st.1, PySem.IsL.isList (n := e) st.2⟩ fun v h' tk hP hst hk => hQ v h' tk hP ⟨hst.1, hk l _ (by simpa using hne) st.2⟩ hk
    · exact W0.done s Q E ⟨st.1, PySem.IsL.isList (n := e) st.2⟩ hQ
    · exact W0.self i s Q E ⟨st.1, PySem.IsL.isList (n := e) st.2⟩ hQ
  refine loopO J W ?_ (by simp) (next_is_new F) ?_ ?_ ⟨⟨_, Heap.get?_push_size _ rfl, rfl, rfl⟩, Heap.get?_push_of_some _ (N _ hl).1⟩ (F.push _) (fun p hp => ⟨Heap.get?_push_of_some _ (N p hp).1, (N p hp).2⟩) hj ?_ ?_
  · intro hm
    rcases List.mem_cons.mp hm with e | hm
    · exact absurd F.ns.lt (e ▸ Nat.lt_irrefl _)
    · exact (N _ hl).2.1 (List.mem_singleton.mp hm).symm
  · intro i h hst
    obtain ⟨o, ho, _⟩ := hst.1
    exact ⟨o, ho⟩
  · intro p hp hI
    exact absurd (Heap.lt_size (N p hp).1) (hI ▸ Nat.lt_irrefl _)
  · rintro i v m₁ news₁ h tk own hin hP hJ hnI ho hfp hst F₁ N₁
    obtain ⟨t, hx⟩ := hi.get i ns[i] (by simp [hin])
    have hv : v = .int ns[i] t := by
      have hP' : vs[i]? = some v := by simpa using hP
      rw [hx] at hP'; exact (Option.some.inj hP').symm
    subst hv
    refine turn i ns[i] t m₁ news₁ h tk _ own (by simp [hin]) hJ hnI ho (fun p hp => ?_) F₁ N₁
    rcases List.mem_cons.mp (hfp p hp) with h1 | h1
    · exact .inl h1
    · right
      have e1 := List.mem_singleton.mp h1
      have e2 := (N₁ p (List.mem_append_left _ hp)).1
      rw [e1, hst.2] at e2
      exact Prod.ext e1 (Option.some.inj e2).symm
  · exact fun m₁ news₁ h tk hJ F₁ N₁ => done m₁ news₁ h tk hJ F₁ N₁
theorem iterKeys {d : Addr} {o : Obj} {kvs : List (Int × Value)} {m₀ : Str → Option Value} {news : List (Addr × Obj)} (J : Nat → (Str → Option Value) → List (Addr × Obj) → Prop)
    (hh : A.handled = none) (lo : (d == sysModules) = false) (hd : (d, o) ∈ news) (hi : o.IsDictOf (intKind prog w) kvs)
    (F : Fr h₀ env.locals s.heap m₀) (N : News h₀ env.locals s.heap news) (hj : J 0 m₀ news)
    (turn : ∀ i k v t m₁ news₁ h tk (I : Nat) own, kvs[i]? = some (k, v) → J i m₁ news₁ → (∀ p ∈ news₁, p.1 ≠ I) → (∃ o, (I, o) ∈ own) → (∀ p ∈ own, p.1 = I ∨ p = (d, o)) → Fr h₀ env.locals h (fun y => if y = x then some (.int k t) else m₁ y) → News h₀ env.locals h (own ++ news₁) →
      wpAny (model prog w) A (execs body env) (TurnPost h₀ env.locals I own (J (i + 1)) { s with heap := h, toks := tk } Q) E { s with heap := h, toks := tk })
    (done : ∀ m₁ news₁ h tk, J kvs.length m₁ news₁ → Fr h₀ env.locals h m₁ → News h₀ env.locals h news₁ → Q .next { s with heap := h, toks := tk }) :
    wpAny (model prog w) A (pyIter (.ref d)) (fun it s₂ => LoopAtV prog w A h₀ env x body Q E it s₂) E s := by
  have hdo : s.heap.DictOf (intKind prog w) d kvs := kda_dict N hd hi
  obtain ⟨ep, hat⟩ := hdo.dictAt
  refine wpAny_pyIter_dict lo hat ?_
  have hne : d ≠ s.heap.objs.size := Nat.ne_of_lt (Heap.lt_size (N _ hd).1)
  have W0 := Walks.dictKeys (prog := prog) (w := w) (A := A) (knd := intKind prog w) hh s.heap.objs.size d hne kvs ep
  have dat : ∀ h : Heap, h.get? d = some o → h.DictAt (intKind prog w) d kvs ep := by
    intro h ho
    obtain ⟨o', es, ho', r⟩ := hat
    have e : o' = o := Option.some.inj (ho'.symm.trans (N _ hd).1)
    exact ⟨o', es, e ▸ ho, r⟩
  have W : Walks prog w A s.heap.objs.size [s.heap.objs.size, d] [s.heap.objs.size] kvs.length (fun i v => ∃ k x, kvs[i]? = some (k, x) ∧ (intKind prog w).is k v = true) (fun i h => h.IsKeyIter s.heap.objs.size d i kvs.length ep ∧ h.get? d = some o) := by
    refine ⟨W0.sub, fun i h h' st hk => ⟨st.1.at fun o e => hk _ (by simp) o e, hk d (by simp) _ st.2⟩, fun i s Q E hi st hQ => ?_, fun s Q E st hQ => ?_, fun i s Q E st hQ => ?_⟩
    · exact W0.item i s Q E hi ⟨st.1, dat _ st.2⟩ fun v h' tk hP hst hk => hQ v h' tk hP ⟨hst.1, hk d _ (by simpa using hne) st.2⟩ hk
    · exact W0.done s Q E ⟨st.1, dat _ st.2⟩ hQ
    · exact W0.self i s Q E ⟨st.1, dat _ st.2⟩ hQ
  refine loopO J W ?_ (by simp) (next_is_new F) ?_ ?_ ⟨⟨_, Heap.get?_push_size _ rfl, rfl, rfl⟩, Heap.get?_push_of_some _ (N _ hd).1⟩ (F.push _) (fun p hp => ⟨Heap.get?_push_of_some _ (N p hp).1, (N p hp).2⟩) hj ?_ ?_
  · intro hm
    rcases List.mem_cons.mp hm with e | hm
    · exact absurd F.ns.lt (e ▸ Nat.lt_irrefl _)
    · exact (N _ hd).2.1 (List.mem_singleton.mp hm).symm
  · intro i h hst
    obtain ⟨o, ho, _⟩ := hst.1
    exact ⟨o, ho⟩
  · intro p hp hI
    exact absurd (Heap.lt_size (N p hp).1) (hI ▸ Nat.lt_irrefl _)
  · rintro i v m₁ news₁ h tk own hin ⟨k, x', hx, hkey⟩ hJ hnI ho hfp hst F₁ N₁
    obtain ⟨t, rfl⟩ := Value.isInt_shape hkey
    refine turn i k x' t m₁ news₁ h tk _ own hx hJ hnI ho (fun p hp => ?_) F₁ N₁
    rcases List.mem_cons.mp (hfp p hp) with h1 | h1
    · exact .inl h1
    · right
      have e1 := List.mem_singleton.mp h1
      have e2 := (N₁ p (List.mem_append_left _ hp)).1
      rw [e1, hst.2] at e2
      exact Prod.ext e1 (Option.some.inj e2).symm
  · exact fun m₁ news₁ h tk hJ F₁ N₁ => done m₁ news₁ h tk hJ F₁ N₁
end
end
section
section
variable {prog : Program} {w : World} {A : Around} {E : Value → Shared → Prop} {s : Shared} {h₀ : Heap} {L : Addr} {D : Nat} {m : Str → Option Value} {news : List (Addr × Obj)} {vs : List Value} {n : Nat} {ns : List Int}
theorem append_mem {y : Value} {Q : Value → Shared → Prop} (F : Fr h₀ L s.heap m) (N : News h₀ L s.heap news) (hm : (D, listOf vs.toArray n) ∈ news) (hz : vs.length ≤ 1000)
    (h : ∀ h', Fr h₀ L h' m → News h₀ L h' ((D, listOf (vs ++ [y]).toArray (n + 1)) :: off [D] news) → Q .none { s with heap := h' }) : wpAny (model prog w) A (call (.builtin "list.append") [.ref D, y]) Q E s := by
  have N1 : News h₀ L s.heap ((D, listOf vs.toArray n) :: off [D] news) := news_cons N hm (news_off N)
  refine append_K F N1 (.head (off_ne (by simp))) (fun h' F' N' => h h' F' ?_) (by rw [sizeLine_eq, List.size_toArray]; omega)
  rw [List.push_toArray] at N'
  exact N'
theorem insert_mem {u : Tok} {y : Value} {Q : Value → Shared → Prop} (F : Fr h₀ L s.heap m) (N : News h₀ L s.heap news) (hm : (D, listOf vs.toArray n) ∈ news) (hz : vs.length ≤ 1000)
    (h : ∀ h', Fr h₀ L h' m → News h₀ L h' ((D, listOf (y :: vs).toArray (n + 1)) :: off [D] news) → Q .none { s with heap := h' }) : wpAny (model prog w) A (call (.builtin "list.insert") [.ref D, .int 0 u, y]) Q E s := by
  have N1 : News h₀ L s.heap ((D, listOf vs.toArray n) :: off [D] news) := news_cons N hm (news_off N)
  exact kl_insert F N1 rfl (by simp [kl_ins]) (.head (off_ne (by simp))) (by rw [sizeLine_eq]; simp; omega) h
theorem item_mem {k : Int} {t : Tok} {x : Value} {Q : Value → Shared → Prop} (N : News h₀ L s.heap news) (hm : (D, listOf vs.toArray n) ∈ news) (h0 : 0 ≤ k) (h1 : k < 2 ^ 63) (hx : vs[k.toNat]? = some x) (h : Q x s) :
    wpAny (model prog w) A (getItem (.ref D) (.int k t)) Q E s := wpAny_getItem_list (PySem.IsL.isList (n := n) (N _ hm).1) h0 h1 (by simpa using hx) h
theorem tail_mem {key : Value} {value slice : PySem.Expr} {Q : Value → Shared → Prop} (N : News h₀ L s.heap news) (hm : (D, listOf vs.toArray n) ∈ news) (h : wpAny (model prog w) A (getItem (.ref D) key) Q E s)
    (hs : subscripted slice false (.ref D) key = operate [.ref D, key] (getItem (.ref D) key)) : wpAny (model prog w) A (subscriptTail value slice (.ref D) key) Q E s :=
  tail_any (PySem.IsL.isList (n := n) (N _ hm).1).typeIs slot_list_getitem.lookup h hs
end
/-! the made world in plain data -/
noncomputable def Wd.zero : Wd := ⟨[], 0, fun _ => -1, fun _ => -1, fun _ => []⟩
noncomputable def setRowP (W : Wd) (n : Int) (l : List Int) : Wd := { W with row := fun j => if j = n then l else W.row j }
noncomputable def lapStep (ns : List Int) (q : Wd × Int) : Wd × Int :=
  if (q.1.row (3 + cutv ns q.2 2)).length = 5 then (q.1, q.2 + 1 + 1)
  else if cutv ns (q.2 + 1 + 1) 3 = 2 then (setRowP (q.1.prepend (3 + cutv ns q.2 2) (cutv ns (q.2 + 1) 3).toNat) (3 + cutv ns q.2 2) ((q.1.recs.length : Int) :: q.1.row (3 + cutv ns q.2 2)), q.2 + 1 + 1 + 1)
  else (setRowP (q.1.append (3 + cutv ns q.2 2) (cutv ns (q.2 + 1) 3).toNat) (3 + cutv ns q.2 2) (q.1.row (3 + cutv ns q.2 2) ++ [(q.1.recs.length : Int)]), q.2 + 1 + 1 + 1)
noncomputable def laps (ns : List Int) : Nat → Wd × Int
  | 0 => (Wd.zero, 1)
  | i + 1 => lapStep ns (laps ns i)
noncomputable def lapCount (ns : List Int) : Nat := (2 + cutv ns 0 9 % 4 * 2).toNat
noncomputable def ers (ns : List Int) (q : Wd × Int) : Nat → Wd × Int
  | 0 => (q.1, q.2 + 1)
  | i + 1 => ((ers ns q i).1.erase (cutv ns (ers ns q i).2 10), (ers ns q i).2 + 1)
noncomputable def madeOf (ns : List Int) : Wd := (ers ns (laps ns (lapCount ns)) (cutv ns (laps ns (lapCount ns)).2 3).toNat).1
noncomputable def made (script : List Int) : Wd := madeOf (script.take 40)
theorem cutv_range {ns : List Int} {k lim : Int} (h : 0 < lim) : 0 ≤ cutv ns k lim ∧ cutv ns k lim < lim := by
  unfold cutv
  split
  · exact ⟨Int.emod_nonneg _ (by omega), Int.emod_lt_of_pos _ h⟩
  · omega
theorem two_cut (ns : List Int) (k : Int) : Two (3 + cutv ns k 2) := by
  have := cutv_range (ns := ns) (k := k) (lim := 2) (by omega)
  unfold Two; omega
noncomputable def madeAd (st dst rd pr rw p3 d3 l3 p4 d4 l4 : Nat) : Ad := ⟨st, dst, rd, pr, rw, fun n => if n = 3 then p3 else p4, fun n => if n = 3 then d3 else d4, fun n => if n = 3 then l3 else l4, []⟩
/-- the slots of the world as made first, in the order of their addresses -/
noncomputable def slots : List Sl := [.dst, .st, .rd, .pr, .d 3, .p 3, .d 4, .p 4, .rw, .l 3, .l 4]
theorem madeAd_at {st dst rd pr rw p3 d3 l3 p4 d4 l4 : Nat} {s : Sl} {v : Nat} (hs : (madeAd st dst rd pr rw p3 d3 l3 p4 d4 l4).at s = some v) : ∃ i : Nat, slots[i]? = some s ∧ [dst, st, rd, pr, d3, p3, d4, p4, rw, l3, l4][i]? = some v := by
  cases s with
  | x i => simp [Ad.at, madeAd] at hs
  | e i => simp [Ad.at, madeAd] at hs
  | k i => simp [Ad.at, madeAd] at hs
  | p n => simp only [Ad.at, madeAd] at hs; split at hs <;> cases hs; rename_i h; rcases h with rfl | rfl; (· exact ⟨5, rfl, rfl⟩); (· exact ⟨7, rfl, rfl⟩)
  | d n => simp only [Ad.at, madeAd] at hs; split at hs <;> cases hs; rename_i h; rcases h with rfl | rfl; (· exact ⟨4, rfl, rfl⟩); (· exact ⟨6, rfl, rfl⟩)
  | l n => simp only [Ad.at, madeAd] at hs; split at hs <;> cases hs; rename_i h; rcases h with rfl | rfl; (· exact ⟨9, rfl, rfl⟩); (· exact ⟨10, rfl, rfl⟩)
  | st => cases hs; exact ⟨1, rfl, rfl⟩
  | dst => cases hs; exact ⟨0, rfl, rfl⟩
  | rd => cases hs; exact ⟨2, rfl, rfl⟩
  | pr => cases hs; exact ⟨3, rfl, rfl⟩
  | rw => cases hs; exact ⟨8, rfl, rfl⟩
theorem chain_inj {l : List Nat} (h : l.Pairwise (· < ·)) {i j v : Nat} (hi : l[i]? = some v) (hj : l[j]? = some v) : i = j := by
  obtain ⟨h1, e1⟩ := List.getElem?_eq_some_iff.mp hi
  obtain ⟨h2, e2⟩ := List.getElem?_eq_some_iff.mp hj
  have q := List.pairwise_iff_getElem.mp h
  rcases Nat.lt_trichotomy i j with h3 | h3 | h3
  · have := q i j h1 h2 h3; omega
  · exact h3
  · have := q j i h2 h1 h3; omega
theorem pw {a b : Nat} {l : List Nat} (h : a < b) (hl : (b :: l).Pairwise (· < ·)) : (a :: b :: l).Pairwise (· < ·) := by
  refine List.pairwise_cons.mpr ⟨fun c hc => ?_, hl⟩
  rcases List.mem_cons.mp hc with rfl | hc
  · exact h
  · exact Nat.lt_trans h ((List.pairwise_cons.mp hl).1 c hc)
theorem made_enter {prog : Program} {w : World} {news : List (Addr × Obj)} {l4 l3 rw p4 d4 p3 d3 pr rd st dst rope xs : Nat} {orw od4 od3 opr ord ost oR oX : Obj} {u1 u2 : Nat} {h₀ h : Heap} {L : Addr}
    (N : News h₀ L h ((l4, listOf #[] u1) :: (l3, listOf #[] u2) :: (rw, orw) :: (p4, instObj 74 d4) :: (d4, od4) :: (p3, instObj 74 d3) :: (d3, od3) :: (pr, opr) :: (rd, ord) :: (st, instObj 165 dst) :: (dst, ost) :: (rope, oR) :: (xs, oX) :: news))
    (i1 : orw.IsDictOf (intKind prog w) [(3, .ref l3), (4, .ref l4)]) (i2 : opr.IsDictOf (intKind prog w) [(3, .ref p3), (4, .ref p4)]) (i3 : IsProc w.params od3 3 (-1) (-1)) (i4 : IsProc w.params od4 4 (-1) (-1)) (i5 : ord.IsDictOf (intKind prog w) []) (i6 : IsStore w.params ost rd 0 0)
    (lo : (rd == sysModules) = false) (hlt : xs < rope ∧ rope < dst ∧ dst < st ∧ st < rd ∧ rd < pr ∧ pr < d3 ∧ d3 < p3 ∧ p3 < d4 ∧ d4 < p4 ∧ p4 < rw ∧ rw < l3 ∧ l3 < l4) (hnews : ∀ p ∈ news, p.1 < xs) :
    ∃ (a : Ad) (nw : List (Addr × Obj)), a.st = st ∧ a.pr = pr ∧ a.rw = rw ∧ News h₀ L h nw ∧ Has prog w nw a Wd.zero ∧ (rope, oR) ∈ nw ∧ (xs, oX) ∈ nw ∧ (∀ p ∈ news, p ∈ nw) ∧ ¬ a.In rope ∧ ¬ a.In xs ∧ (∀ p ∈ news, ¬ a.In p.1) ∧ @Ne Nat xs rope ∧ (∀ p ∈ news, p.1 ≠ rope) := by
  have hch : [dst, st, rd, pr, d3, p3, d4, p4, rw, l3, l4].Pairwise (· < ·) := by
    obtain ⟨-, -, b1, b2, b3, b4, b5, b6, b7, b8, b9, b10⟩ := hlt
    exact pw b1 (pw b2 (pw b3 (pw b4 (pw b5 (pw b6 (pw b7 (pw b8 (pw b9 (pw b10 (List.pairwise_singleton _ _))))))))))
  have inv : ∀ s v, (madeAd st dst rd pr rw p3 d3 l3 p4 d4 l4).at s = some v → rope < v := by
    intro s v hs
    obtain ⟨i, -, hi⟩ := madeAd_at hs
    have hm : v ∈ dst :: [st, rd, pr, d3, p3, d4, p4, rw, l3, l4] := List.mem_of_getElem? hi
    rcases List.mem_cons.mp hm with rfl | hm
    · omega
    · have := (List.pairwise_cons.mp hch).1 v hm
      omega
  refine ⟨madeAd st dst rd pr rw p3 d3 l3 p4 d4 l4, _, rfl, rfl, rfl, N, ?_, (by repeat (first | exact List.Mem.head _ | apply List.Mem.tail)), (by repeat (first | exact List.Mem.head _ | apply List.Mem.tail)), (fun p hp => .tail _ (.tail _ (.tail _ (.tail _ (.tail _ (.tail _ (.tail _ (.tail _ (.tail _ (.tail _ (.tail _ (.tail _ (.tail _ hp))))))))))))), ?_, ?_, ?_, by omega, (fun p hp e => absurd (e ▸ hnews p hp : @LT.lt Nat _ rope xs) (by omega))⟩
  · refine ⟨?_, (by repeat (first | exact List.Mem.head _ | apply List.Mem.tail)), ⟨ost, (by repeat (first | exact List.Mem.head _ | apply List.Mem.tail)), i6⟩, ⟨ord, (by repeat (first | exact List.Mem.head _ | apply List.Mem.tail)), i5⟩, ⟨lo, by show (pr == sysModules) = false; rw [beq_eq_false_iff_ne]; unfold sysModules; omega⟩, ?_, ?_, ⟨opr, (by repeat (first | exact List.Mem.head _ | apply List.Mem.tail)), i2⟩, ⟨orw, (by repeat (first | exact List.Mem.head _ | apply List.Mem.tail)), i1⟩, ?_, by simp [Wd.zero, madeAd], ?_⟩
    · intro s t v hs ht
      obtain ⟨i, hi, hiv⟩ := madeAd_at hs
      obtain ⟨j, hj, hjv⟩ := madeAd_at ht
      obtain rfl := chain_inj hch hiv hjv
      exact Option.some.inj (hi.symm.trans hj)
    · rintro n (rfl | rfl)
      · exact (by repeat (first | exact List.Mem.head _ | apply List.Mem.tail))
      · exact (by repeat (first | exact List.Mem.head _ | apply List.Mem.tail))
    · rintro n (rfl | rfl)
      · exact ⟨od3, (by repeat (first | exact List.Mem.head _ | apply List.Mem.tail)), i3⟩
      · exact ⟨od4, (by repeat (first | exact List.Mem.head _ | apply List.Mem.tail)), i4⟩
    · rintro n (rfl | rfl)
      · exact ⟨[], u2, (by repeat (first | exact List.Mem.head _ | apply List.Mem.tail)), .nil⟩
      · exact ⟨[], u1, (by repeat (first | exact List.Mem.head _ | apply List.Mem.tail)), .nil⟩
    · intro i x d k r hi; simp [madeAd] at hi
  · rintro ⟨s, hs⟩; exact absurd (inv s _ hs) (by omega)
  · rintro ⟨s, hs⟩; exact absurd (inv s _ hs) (by omega)
  · rintro p hp ⟨s, hs⟩
    have h1 := inv s _ hs
    have h2 := hnews p hp
    exact absurd (Nat.lt_trans (h1 : @LT.lt Nat _ rope p.1) (h2 : @LT.lt Nat _ p.1 xs)) (by omega)
section
variable {prog : Program} {w : World} {A : Around} {E : Value → Shared → Prop} {s : Shared} {env : Env} {h₀ : Heap} {x : Str} {body : List Stmt} {Q : Flow → Shared → Prop}
theorem iterR {r : Addr} {b : Int} {t₀ u₀ v₀ : Tok} {m₀ : Str → Option Value} {news : List (Addr × Obj)} (J : Nat → (Str → Option Value) → List (Addr × Obj) → Prop)
    (hr : IsRange s.heap r 0 b 1 t₀ u₀ v₀) (hh : A.handled = none) (hb0 : -1000 ≤ b) (hb : b ≤ 1000)
    (F : Fr h₀ env.locals s.heap m₀) (N : News h₀ env.locals s.heap news) (hj : J 0 m₀ news)
    (turn : ∀ i t m₁ news₁ h tk (I : Nat) own, i < b.toNat → J i m₁ news₁ → (∀ p ∈ news₁, p.1 ≠ I) → (∃ o, (I, o) ∈ own) → (∀ p ∈ own, p.1 = I) → Fr h₀ env.locals h (fun y => if y = x then some (.int (i : Int) t) else m₁ y) → News h₀ env.locals h (own ++ news₁) →
      wpAny (model prog w) A (execs body env) (TurnPost h₀ env.locals I own (J (i + 1)) { s with heap := h, toks := tk } Q) E { s with heap := h, toks := tk })
    (done : ∀ m₁ news₁ h tk, J b.toNat m₁ news₁ → Fr h₀ env.locals h m₁ → News h₀ env.locals h news₁ → Q .next { s with heap := h, toks := tk }) :
    wpAny (model prog w) A (pyIter (.ref r)) (fun it s₂ => LoopAtV prog w A h₀ env x body Q E it s₂) E s := by
  refine iterRange (n := b.toNat) J hh hr (small_one (by omega) (by omega) (by omega) (by omega)) (by rw [rangeSize_nat]; simp) F N hj ?_ done
  intro i t m₁ news₁ h tk I own h1 h2 h3 h4 h5 h6 h7
  rw [Int.zero_add] at h6
  exact turn i t m₁ news₁ h tk I own h1 h2 h3 h4 h5 h6 h7
end
/-- what stands between the laps of the making loops -/
def MadeJ (prog : Program) (w : World) (ns : List Int) (news : List (Addr × Obj)) (W : Wd) (k : Int) (m : Str → Option Value) (nws : List (Addr × Obj)) : Prop :=
  ∃ (a : Ad) (rope xs : Nat) (vs : List Value) (t : Tok) (e e2 : Nat), m (Str.ofString "held") = some (.ref a.st) ∧ m (Str.ofString "procs") = some (.ref a.pr) ∧ m (Str.ofString "rows") = some (.ref a.rw) ∧ m (Str.ofString "rope") = some (.ref rope) ∧
    Has prog w nws a W ∧ (rope, listOf #[.ref xs, .int k t] e) ∈ nws ∧ (xs, listOf vs.toArray e2) ∈ nws ∧ IntsAre vs ns ∧ ¬ a.In rope ∧ ¬ a.In xs ∧ @Ne Nat xs rope ∧ (∀ p ∈ news, p ∈ nws) ∧ (∀ p ∈ news, ¬ a.In p.1) ∧ (∀ p ∈ news, p.1 ≠ rope)
theorem m_put {m : Str → Option Value} {x : Str} {v : Value} (k : m x = some v) : (fun y => if y = x then some v else m y) = m := by
  funext y
  by_cases h : y = x
  · rw [if_pos h, h, k]
  · rw [if_neg h]
theorem m_put2 {m m' : Str → Option Value} {x : Str} {v : Value} (e : m' = m) (k : m x = some v) : (fun y => if y = x then some v else m' y) = m := by
  subst e; exact m_put k
theorem fr_in {h₀ h : Heap} {L : Addr} {m m' : Str → Option Value} {x : Str} {v : Option Value} (F : Fr h₀ L h (fun y => if y = x then v else m y)) (e : m' = m) : Fr h₀ L h (fun y => if y = x then v else m' y) := by
  subst e; exact F
theorem fr_to {h₀ h : Heap} {L : Addr} {m m' : Str → Option Value} (F : Fr h₀ L h m) (e : m' = m) : Fr h₀ L h m' := by
  subst e; exact F
end
section
/-! the made world: what holds of it, in plain data -/
structure Wf (W : Wd) (N : Nat) : Prop where
  len : W.recs.length ≤ N
  g0 : 0 ≤ W.gen
  g : W.gen ≤ N
  fst : ∀ n, Two n → W.fst n = (W.row n)[0]?.getD (-1)
  lst : ∀ n, Two n → W.lst n = (W.row n).getLast?.getD (-1)
  row : ∀ n, Two n → ∀ p k, (W.row n)[p]? = some k → ∃ (i : Nat) (r : RecV), k = (i : Int) ∧ W.recs[i]? = some r ∧ r.fn = n ∧ r.next = (W.row n)[p + 1]?.getD (-1)
  nd : ∀ n, Two n → (W.row n).Nodup
  each : ∀ (i : Nat) (r : RecV), W.recs[i]? = some r → r.key = (i : Int) ∧ 1 ≤ r.birth ∧ r.birth ≤ W.gen ∧ (r.death = -1 ∨ (r.birth < r.death ∧ r.death ≤ W.gen)) ∧ r.kd ≤ 2
  five : ∀ n, Two n → (W.row n).length ≤ 5
theorem Wf.zero : Wf Wd.zero 0 := by
  refine ⟨by simp [Wd.zero], by simp [Wd.zero], by simp [Wd.zero], by simp [Wd.zero], by simp [Wd.zero], by simp [Wd.zero], by simp [Wd.zero], by simp [Wd.zero], by simp [Wd.zero]⟩
theorem Wf.more {W : Wd} {N N' : Nat} (h : Wf W N) (hN : N ≤ N') : Wf W N' := { h with len := Nat.le_trans h.len hN, g := by have := h.g; omega }
theorem Wf.mem {W : Wd} {N : Nat} (h : Wf W N) {n : Int} (hn : Two n) {k : Int} (hk : k ∈ W.row n) : ∃ (i : Nat) (r : RecV), k = (i : Int) ∧ W.recs[i]? = some r ∧ r.fn = n := by
  obtain ⟨p, hp⟩ := List.mem_iff_getElem?.mp hk
  obtain ⟨i, r, e, hr, hf, _⟩ := h.row n hn p k hp
  exact ⟨i, r, e, hr, hf⟩
theorem Wf.new {W : Wd} {N : Nat} (h : Wf W N) {n : Int} (hn : Two n) : (W.recs.length : Int) ∉ W.row n := by
  intro hk
  obtain ⟨i, r, e, hr, _⟩ := h.mem hn hk
  have := (List.getElem?_eq_some_iff.mp hr).1
  omega
theorem Wf.last {W : Wd} {N : Nat} (h : Wf W N) {n : Int} (hn : Two n) (hf : 0 ≤ W.fst n) : ∃ i : Nat, W.lst n = (i : Int) ∧ i < W.recs.length := by
  rw [h.fst n hn] at hf
  rw [h.lst n hn]
  cases hr : W.row n with
  | nil => rw [hr] at hf; simp at hf
  | cons a l =>
    have hm : (a :: l).getLast (by simp) ∈ W.row n := by rw [hr]; exact List.getLast_mem _
    obtain ⟨i, r, e, hi, _⟩ := h.mem hn hm
    refine ⟨i, ?_, (List.getElem?_eq_some_iff.mp hi).1⟩
    rw [List.getLast?_eq_some_getLast (by simp)]
    simpa using e
theorem row_neg {W : Wd} {N : Nat} (h : Wf W N) {n : Int} (hn : Two n) : W.fst n < 0 ↔ W.row n = [] := by
  rw [h.fst n hn]
  cases hr : W.row n with
  | nil => simp
  | cons a l =>
    obtain ⟨i, r, e, _⟩ := h.mem hn (k := a) (by rw [hr]; simp)
    simp only [List.getElem?_cons_zero, Option.getD_some, reduceCtorEq, iff_false]
    omega
theorem Wf.prepend {W : Wd} {N : Nat} (h : Wf W N) {n : Int} (hn : Two n) {kd : Nat} (hk : kd ≤ 2) (h5 : (W.row n).length ≠ 5) : Wf (setRowP (W.prepend n kd) n ((W.recs.length : Int) :: W.row n)) (N + 1) := by
  have g0 := h.g0
  have g := h.g
  refine ⟨by simp [setRowP, Wd.prepend, h.len], by simp [setRowP, Wd.prepend]; omega, by simp [setRowP, Wd.prepend]; omega, ?_, ?_, ?_, ?_, ?_, ?_⟩
  · intro j hj
    by_cases e : j = n
    · subst e; simp [setRowP, Wd.prepend]
    · simp [setRowP, Wd.prepend, e, h.fst j hj]
  · intro j hj
    by_cases e : j = n
    · subst e
      simp only [setRowP, Wd.prepend, if_true]
      cases hr : W.row j with
      | nil => rw [if_pos ((row_neg h hj).mpr hr)]; simp
      | cons a l =>
        rw [if_neg (fun hc => by have := (row_neg h hj).mp hc; rw [hr] at this; cases this), h.lst j hj, hr]
        simp [List.getLast?_cons_cons]
    · simp [setRowP, Wd.prepend, e, h.lst j hj]
  · intro j hj p k hp
    by_cases e : j = n
    · subst e
      simp only [setRowP, Wd.prepend, if_true] at hp ⊢
      cases p with
      | zero =>
        simp only [List.getElem?_cons_zero, Option.some.injEq] at hp
        subst hp
        refine ⟨W.recs.length, _, rfl, by rw [List.getElem?_append_right (Nat.le_refl _)]; simp; rfl, rfl, ?_⟩
        simp [h.fst j hj]
      | succ p =>
        simp only [List.getElem?_cons_succ] at hp ⊢
        obtain ⟨i, r, e1, hr, hf, hx⟩ := h.row j hj p k hp
        exact ⟨i, r, e1, by rw [List.getElem?_append_left (List.getElem?_eq_some_iff.mp hr).1]; exact hr, hf, hx⟩
    · simp only [setRowP, Wd.prepend, if_neg e] at hp ⊢
      obtain ⟨i, r, e1, hr, hf, hx⟩ := h.row j hj p k hp
      exact ⟨i, r, e1, by rw [List.getElem?_append_left (List.getElem?_eq_some_iff.mp hr).1]; exact hr, hf, hx⟩
  · intro j hj
    by_cases e : j = n
    · subst e
      simp only [setRowP, Wd.prepend, if_true]
      exact List.nodup_cons.mpr ⟨h.new hj, h.nd j hj⟩
    · simp only [setRowP, Wd.prepend, if_neg e]; exact h.nd j hj
  · intro i r hr
    simp only [setRowP, Wd.prepend] at hr ⊢
    by_cases hlt : i < W.recs.length
    · rw [List.getElem?_append_left hlt] at hr
      obtain ⟨a1, a2, a3, a4, a5⟩ := h.each i r hr
      exact ⟨a1, a2, by omega, by omega, a5⟩
    · have hie : i = W.recs.length := by
        have := (List.getElem?_eq_some_iff.mp hr).1
        rw [List.length_append, List.length_singleton] at this
        omega
      subst hie
      rw [List.getElem?_append_right (Nat.le_refl _)] at hr
      simp only [Nat.sub_self, List.getElem?_cons_zero, Option.some.injEq] at hr
      subst hr
      exact ⟨rfl, by show 1 ≤ W.gen + 1; omega, Int.le_refl _, .inl rfl, hk⟩
  · intro j hj
    have := h.five j hj
    by_cases e : j = n
    · subst e; simp only [setRowP, if_true, List.length_cons]; omega
    · simp only [setRowP, if_neg e, Wd.prepend]; exact this
theorem getLast_at {l : List Int} (h : l ≠ []) : l[l.length - 1]? = some (l.getLast?.getD (-1)) := by
  cases l with
  | nil => exact absurd rfl h
  | cons a r =>
    rw [List.getLast?_eq_some_getLast (by simp), List.getLast_eq_getElem]
    simp
theorem nodup_at {l : List Int} (h : l.Nodup) {p q : Nat} {k : Int} (hp : l[p]? = some k) (hq : l[q]? = some k) : p = q := by
  obtain ⟨h1, e1⟩ := List.getElem?_eq_some_iff.mp hp
  obtain ⟨h2, e2⟩ := List.getElem?_eq_some_iff.mp hq
  have hpw := List.pairwise_iff_getElem.mp h
  rcases Nat.lt_trichotomy p q with hl | he | hl
  · exact absurd (e1.trans e2.symm) (hpw p q h1 h2 hl)
  · exact he
  · exact absurd (e2.trans e1.symm) (hpw q p h2 h1 hl)
theorem Wf.append {W : Wd} {N : Nat} (h : Wf W N) {n : Int} (hn : Two n) {kd : Nat} (hk : kd ≤ 2) (h5 : (W.row n).length ≠ 5) : Wf (setRowP (W.append n kd) n (W.row n ++ [(W.recs.length : Int)])) (N + 1) := by
  have g0 := h.g0
  have g := h.g
  have hlen := h.len
  by_cases hneg : W.fst n < 0
  · have hr0 : W.row n = [] := (row_neg h hn).mp hneg
    have e0 : setRowP (W.append n kd) n (W.row n ++ [(W.recs.length : Int)]) = setRowP (W.prepend n kd) n ((W.recs.length : Int) :: W.row n) := by
      have hf : W.fst n = -1 := by rw [h.fst n hn, hr0]; rfl
      have hm : (-1 : Int) < 0 := by decide
      simp [setRowP, Wd.append, Wd.prepend, hr0, hf, hm]
    rw [e0]
    exact h.prepend hn hk h5
  · have hrne : W.row n ≠ [] := fun e => hneg ((row_neg h hn).mpr e)
    obtain ⟨i, hli, hilt⟩ := h.last hn (by omega)
    obtain ⟨rl, hrl⟩ : ∃ rl, W.recs[i]? = some rl := ⟨_, List.getElem?_eq_getElem hilt⟩
    have hlast : (W.row n)[(W.row n).length - 1]? = some (i : Int) := by rw [getLast_at hrne, ← h.lst n hn, hli]
    obtain ⟨i', r', ei, hr', hfn, _⟩ := h.row n hn _ _ hlast
    have ei' : i' = i := by omega
    subst ei'
    rw [hrl] at hr'
    obtain rfl : rl = r' := by simpa using hr'
    have e3 : (W.recs ++ [RecV.mk W.recs.length n kd (W.gen + 1) (-1) (-1)])[i']? = some rl := by rw [List.getElem?_append_left hilt]; exact hrl
    have e0 : setRowP (W.append n kd) n (W.row n ++ [(W.recs.length : Int)]) =
        { recs := (W.recs ++ [RecV.mk W.recs.length n kd (W.gen + 1) (-1) (-1)]).set i' { rl with next := W.recs.length }, gen := W.gen + 1, fst := fun j => if j = n then W.fst n else W.fst j, lst := fun j => if j = n then (W.recs.length : Int) else W.lst j, row := fun j => if j = n then W.row n ++ [(W.recs.length : Int)] else W.row j } := by
      simp only [setRowP, Wd.append, if_neg hneg, hli, Int.toNat_natCast, modify_eq_set e3]
    rw [e0]
    have at_ : ∀ (q : Nat) (r : RecV), q ≠ i' → W.recs[q]? = some r → ((W.recs ++ [RecV.mk W.recs.length n kd (W.gen + 1) (-1) (-1)]).set i' { rl with next := W.recs.length })[q]? = some r := by
      intro q r hq hr
      rw [List.getElem?_set_ne (Ne.symm hq), List.getElem?_append_left (List.getElem?_eq_some_iff.mp hr).1]
      exact hr
    have atNew : ((W.recs ++ [RecV.mk W.recs.length n kd (W.gen + 1) (-1) (-1)]).set i' { rl with next := W.recs.length })[W.recs.length]? = some (RecV.mk W.recs.length n kd (W.gen + 1) (-1) (-1)) := by
      rw [List.getElem?_set_ne (by omega), List.getElem?_append_right (Nat.le_refl _)]; simp
    have atL : ((W.recs ++ [RecV.mk W.recs.length n kd (W.gen + 1) (-1) (-1)]).set i' { rl with next := W.recs.length })[i']? = some { rl with next := W.recs.length } := by
      rw [List.getElem?_set_self (by simp; omega)]
    refine ⟨by simp; omega, by show 0 ≤ W.gen + 1; omega, by show W.gen + 1 ≤ ((N + 1 : Nat) : Int); omega, ?_, ?_, ?_, ?_, ?_, ?_⟩
    · intro j hj
      by_cases e : j = n
      · subst e
        simp only [if_true]
        rw [h.fst j hj, List.getElem?_append_left (List.length_pos_iff.mpr hrne)]
      · simp only [if_neg e]; exact h.fst j hj
    · intro j hj
      by_cases e : j = n
      · subst e
        simp
      · simp only [if_neg e]; exact h.lst j hj
    · intro j hj p k hp
      by_cases e : j = n
      · subst e
        simp only [if_true] at hp ⊢
        by_cases hpl : p < (W.row j).length
        · rw [List.getElem?_append_left hpl] at hp
          obtain ⟨q, r, e1, hr, hf, hx⟩ := h.row j hj p k hp
          by_cases hq : q = i'
          · subst hq
            have hpe : p = (W.row j).length - 1 := nodup_at (h.nd j hj) (by rw [hp, e1]) hlast
            rw [hrl] at hr
            obtain rfl : rl = r := by simpa using hr
            refine ⟨q, _, e1, atL, hf, ?_⟩
            have hp1 : p + 1 = (W.row j).length := by omega
            rw [hp1, List.getElem?_append_right (Nat.le_refl _)]
            simp
          · refine ⟨q, r, e1, at_ q r hq hr, hf, ?_⟩
            have hp1 : p + 1 < (W.row j).length := by
              false_or_by_contra
              rename_i hc
              have hpe : p = (W.row j).length - 1 := by omega
              rw [hpe, hlast] at hp
              have : (i' : Int) = k := by simpa using hp
              omega
            rw [List.getElem?_append_left hp1]; exact hx
        · have hpe : p = (W.row j).length := by
            have := (List.getElem?_eq_some_iff.mp hp).1
            rw [List.length_append, List.length_singleton] at this
            omega
          subst hpe
          rw [List.getElem?_append_right (Nat.le_refl _)] at hp
          simp only [Nat.sub_self, List.getElem?_cons_zero, Option.some.injEq] at hp
          subst hp
          refine ⟨W.recs.length, _, rfl, atNew, rfl, ?_⟩
          rw [List.getElem?_eq_none (by simp)]
          rfl
      · simp only [if_neg e] at hp ⊢
        obtain ⟨q, r, e1, hr, hf, hx⟩ := h.row j hj p k hp
        refine ⟨q, r, e1, at_ q r ?_ hr, hf, hx⟩
        intro hq
        subst hq
        rw [hrl] at hr
        obtain rfl : rl = r := by simpa using hr
        exact e (hf.symm.trans hfn)
    · intro j hj
      by_cases e : j = n
      · subst e
        simp only [if_true]
        rw [List.nodup_append]
        refine ⟨h.nd j hj, by simp, ?_⟩
        intro a ha b hb
        rw [List.mem_singleton.mp hb]
        intro e; exact h.new hj (e ▸ ha)
      · simp only [if_neg e]; exact h.nd j hj
    · intro q r hr
      have key : ∀ (q : Nat) (r : RecV), (W.recs ++ [RecV.mk W.recs.length n kd (W.gen + 1) (-1) (-1)])[q]? = some r → r.key = (q : Int) ∧ 1 ≤ r.birth ∧ r.birth ≤ W.gen + 1 ∧ (r.death = -1 ∨ (r.birth < r.death ∧ r.death ≤ W.gen + 1)) ∧ r.kd ≤ 2 := by
        intro q r hr
        by_cases hlt : q < W.recs.length
        · rw [List.getElem?_append_left hlt] at hr
          obtain ⟨a1, a2, a3, a4, a5⟩ := h.each q r hr
          exact ⟨a1, a2, by omega, by omega, a5⟩
        · have hie : q = W.recs.length := by
            have := (List.getElem?_eq_some_iff.mp hr).1
            rw [List.length_append, List.length_singleton] at this
            omega
          subst hie
          rw [List.getElem?_append_right (Nat.le_refl _)] at hr
          simp only [Nat.sub_self, List.getElem?_cons_zero, Option.some.injEq] at hr
          subst hr
          exact ⟨rfl, by show 1 ≤ W.gen + 1; omega, Int.le_refl _, .inl rfl, hk⟩
      by_cases hq : q = i'
      · subst hq
        have hr' := hr
        rw [atL] at hr'
        obtain rfl : { rl with next := (W.recs.length : Int) } = r := by simpa using hr'
        exact key q rl e3
      · rw [List.getElem?_set_ne (Ne.symm hq)] at hr
        exact key q r hr
    · intro j hj
      have := h.five j hj
      by_cases e : j = n
      · subst e; simp only [if_true, List.length_append, List.length_singleton]; omega
      · simp only [if_neg e]; exact this
theorem Wf.erase {W : Wd} {N : Nat} (h : Wf W N) (j : Int) : Wf (W.erase j) (N + 1) := by
  have g0 := h.g0
  have g := h.g
  unfold Wd.erase
  cases hr : (if 0 ≤ j then W.recs[j.toNat]? else none) with
  | none => exact h.more (by omega)
  | some r =>
    have hr' : W.recs[j.toNat]? = some r := by
      split at hr
      · exact hr
      · cases hr
    have hlt := (List.getElem?_eq_some_iff.mp hr').1
    simp only
    refine ⟨by simp; have := h.len; omega, by dsimp only; split <;> omega, by dsimp only; split <;> omega, h.fst, h.lst, ?_, h.nd, ?_, h.five⟩
    · intro n hn p k hp
      obtain ⟨i, q, e1, hq, hf, hx⟩ := h.row n hn p k hp
      by_cases e : j.toNat = i
      · subst e
        rw [hr'] at hq
        obtain rfl : r = q := by simpa using hq
        exact ⟨_, _, e1, List.getElem?_set_self hlt, by split <;> exact hf, by split <;> exact hx⟩
      · exact ⟨i, q, e1, by rw [List.getElem?_set_ne e]; exact hq, hf, hx⟩
    · intro i q hq
      by_cases e : j.toNat = i
      · subst e
        rw [List.getElem?_set_self hlt] at hq
        obtain ⟨a1, a2, a3, a4, a5⟩ := h.each _ r hr'
        have hq' : (if r.death < 0 then { r with death := W.gen + 1 } else r) = q := by simpa using hq
        subst hq'
        by_cases hd : r.death < 0
        · simp only [if_pos hd]; exact ⟨a1, a2, by omega, by right; exact ⟨by omega, Int.le_refl _⟩, a5⟩
        · simp only [if_neg hd]; exact ⟨a1, a2, by omega, by omega, a5⟩
      · rw [List.getElem?_set_ne e] at hq
        obtain ⟨a1, a2, a3, a4, a5⟩ := h.each i q hq
        exact ⟨a1, a2, by dsimp only; split <;> omega, by dsimp only; split <;> omega, a5⟩
theorem laps_wf (ns : List Int) : ∀ i, Wf (laps ns i).1 i ∧ 1 ≤ (laps ns i).2 ∧ (laps ns i).2 ≤ 1 + 3 * i
  | 0 => ⟨Wf.zero, by simp [laps], by simp [laps]⟩
  | i + 1 => by
    obtain ⟨h, h1, h2⟩ := laps_wf ns i
    have c2 := cutv_range (ns := ns) (k := (laps ns i).2 + 1) (lim := 3) (by omega)
    have hkd : (cutv ns ((laps ns i).2 + 1) 3).toNat ≤ 2 := by omega
    show Wf (lapStep ns (laps ns i)).1 (i + 1) ∧ 1 ≤ (lapStep ns (laps ns i)).2 ∧ (lapStep ns (laps ns i)).2 ≤ 1 + 3 * ((i + 1 : Nat) : Int)
    unfold lapStep
    split
    · exact ⟨h.more (by omega), by show 1 ≤ (laps ns i).2 + 1 + 1; omega, by show (laps ns i).2 + 1 + 1 ≤ _; omega⟩
    · split
      · exact ⟨h.prepend (two_cut ns _) hkd (by assumption), by show 1 ≤ (laps ns i).2 + 1 + 1 + 1; omega, by show (laps ns i).2 + 1 + 1 + 1 ≤ _; omega⟩
      · exact ⟨h.append (two_cut ns _) hkd (by assumption), by show 1 ≤ (laps ns i).2 + 1 + 1 + 1; omega, by show (laps ns i).2 + 1 + 1 + 1 ≤ _; omega⟩
theorem ers_wf (ns : List Int) {q : Wd × Int} {N : Nat} (h : Wf q.1 N) (h1 : 1 ≤ q.2) : ∀ i, Wf (ers ns q i).1 (N + i) ∧ 1 ≤ (ers ns q i).2 ∧ (ers ns q i).2 ≤ q.2 + 1 + i
  | 0 => ⟨h, by show 1 ≤ q.2 + 1; omega, by show q.2 + 1 ≤ _; simp⟩
  | i + 1 => by
    obtain ⟨h', h2, h3⟩ := ers_wf ns h h1 i
    exact ⟨h'.erase _, by show 1 ≤ (ers ns q i).2 + 1; omega, by show (ers ns q i).2 + 1 ≤ _; omega⟩
theorem lapCount_le (ns : List Int) : lapCount ns ≤ 8 := by
  have := cutv_range (ns := ns) (k := 0) (lim := 9) (by omega)
  unfold lapCount; omega
theorem made_wf (script : List Int) : Wf (made script) 10 := by
  obtain ⟨h, h1, _⟩ := laps_wf (script.take 40) (lapCount (script.take 40))
  have c := cutv_range (ns := script.take 40) (k := (laps (script.take 40) (lapCount (script.take 40))).2) (lim := 3) (by omega)
  have l := lapCount_le (script.take 40)
  exact (ers_wf (script.take 40) h h1 _).1.more (by omega)
end
section
/-- what stands within a lap of the making loops -/
structure Mid (prog : Program) (w : World) (ns : List Int) (news own : List (Addr × Obj)) (a : Ad) (rope xs : Nat) (W : Wd) (k : Int) (nw : List (Addr × Obj)) : Prop where
  H : Has prog w nw a W
  mro : ∃ t e, (rope, listOf #[.ref xs, .int k t] e) ∈ nw
  mxs : ∃ vs e, (xs, listOf vs.toArray e) ∈ nw ∧ IntsAre vs ns
  mown : ∀ p ∈ own, p ∈ nw
  mnews : ∀ p ∈ news, p ∈ nw
  hro : ¬ a.In rope
  hxs : ¬ a.In xs
  hne : @Ne Nat xs rope
  hnews : ∀ p ∈ news, ¬ a.In p.1
  hown : ∀ p ∈ own, ¬ a.In p.1
  nnews : ∀ p ∈ news, p.1 ≠ rope
  nown : ∀ p ∈ own, p.1 ≠ rope
section
variable {prog : Program} {w : World} {ns : List Int} {news own : List (Addr × Obj)} {a : Ad} {rope xs : Nat} {W : Wd} {k : Int} {nw nw' : List (Addr × Obj)}
theorem Mid.mono (M : Mid prog w ns news own a rope xs W k nw) (h : ∀ p ∈ nw, p ∈ nw') : Mid prog w ns news own a rope xs W k nw' :=
  { M with H := M.H.mono h, mro := let ⟨t, e, m⟩ := M.mro; ⟨t, e, h _ m⟩, mxs := let ⟨vs, e, m, i⟩ := M.mxs; ⟨vs, e, h _ m, i⟩, mown := fun p hp => h _ (M.mown p hp), mnews := fun p hp => h _ (M.mnews p hp) }
theorem Mid.cut (M : Mid prog w ns news own a rope xs W k nw) {t : Tok} {e : Nat} (hr : (rope, listOf #[.ref xs, .int (k + 1) t] e) ∈ nw') (h : ∀ p ∈ nw, p.1 ≠ rope → p ∈ nw') : Mid prog w ns news own a rope xs W (k + 1) nw' :=
  { M with H := M.H.keep [rope] (by simpa using M.hro) (fun p hp hn => h p hp (by simpa using hn)), mro := ⟨t, e, hr⟩, mxs := let ⟨vs, e, m, i⟩ := M.mxs; ⟨vs, e, h _ m M.hne, i⟩, mown := fun p hp => h _ (M.mown p hp) (M.nown p hp), mnews := fun p hp => h _ (M.mnews p hp) (M.nnews p hp) }
theorem Ad.in_add {a : Ad} {x d k v : Nat} (h : (a.add (x, d, k)).In v) : a.In v ∨ v = x ∨ v = d ∨ v = k := by
  obtain ⟨s, hs⟩ := h
  rcases Ad.at_add hs with h | ⟨_, h⟩ | ⟨_, h⟩ | ⟨_, h⟩
  · exact .inl ⟨s, h⟩
  · exact .inr (.inl h)
  · exact .inr (.inr (.inl h))
  · exact .inr (.inr (.inr h))
theorem Mid.grow (M : Mid prog w ns news own a rope xs W k nw) {W' : Wd} {x d ka : Nat} (H' : Has prog w nw' (a.add (x, d, ka)) W') (h : ∀ p ∈ nw, ¬ a.In p.1 → p ∈ nw') (hd : ∀ p ∈ nw, @LT.lt Nat _ p.1 d) (hx : d < x)
    (hk1 : @Ne Nat rope ka) (hk2 : @Ne Nat xs ka) (hk3 : ∀ p ∈ news, p.1 ≠ ka) (hk4 : ∀ p ∈ own, p.1 ≠ ka) : Mid prog w ns news own (a.add (x, d, ka)) rope xs W' k nw' := by
  have off : ∀ {v : Nat}, ¬ a.In v → @LT.lt Nat _ v d → @Ne Nat v ka → ¬ (a.add (x, d, ka)).In v := by
    intro v h1 h2 h3 h4
    rcases Ad.in_add h4 with h | h | h | h
    · exact h1 h
    · omega
    · omega
    · exact h3 h
  obtain ⟨t, e, mro⟩ := M.mro
  obtain ⟨vs, e2, mxs, i⟩ := M.mxs
  exact { H := H', mro := ⟨t, e, h _ mro M.hro⟩, mxs := ⟨vs, e2, h _ mxs M.hxs, i⟩, mown := fun p hp => h _ (M.mown p hp) (M.hown p hp), mnews := fun p hp => h _ (M.mnews p hp) (M.hnews p hp),
          hro := off M.hro (hd _ mro) hk1, hxs := off M.hxs (hd _ mxs) hk2, hne := M.hne, hnews := fun p hp => off (M.hnews p hp) (hd _ (M.mnews p hp)) (hk3 p hp), hown := fun p hp => off (M.hown p hp) (hd _ (M.mown p hp)) (hk4 p hp),
          nnews := M.nnews, nown := M.nown }
theorem Mid.row (M : Mid prog w ns news own a rope xs W k nw) {n : Int} {vs : List Value} {e : Nat} {l : List Int} (hn : Two n) (ho : IntsAre vs l) :
    Mid prog w ns news own a rope xs (setRowP W n l) k ((a.l n, listOf vs.toArray e) :: off [a.l n] nw) := by
  have hl : a.In (a.l n) := ⟨.l n, if_pos hn⟩
  have go : ∀ {v : Nat} {o : Obj}, ¬ a.In v → (v, o) ∈ nw → (v, o) ∈ (a.l n, listOf vs.toArray e) :: off [a.l n] nw := fun h1 h2 => .tail _ (mem_off h2 (by intro h3; have e3 : _ = a.l n := List.mem_singleton.mp h3; dsimp only at e3; exact h1 (by rw [e3]; exact hl)))
  obtain ⟨t, e', mro⟩ := M.mro
  obtain ⟨vs', e2, mxs, i⟩ := M.mxs
  exact { M with H := M.H.setRow hn ho, mro := ⟨t, e', go M.hro mro⟩, mxs := ⟨vs', e2, go M.hxs mxs, i⟩, mown := fun p hp => go (M.hown p hp) (M.mown p hp), mnews := fun p hp => go (M.hnews p hp) (M.mnews p hp) }
theorem Mid.erase (M : Mid prog w ns news own a rope xs W k nw) {W' : Wd} (H' : Has prog w nw' a W') (h : ∀ p ∈ nw, ¬ a.In p.1 → p ∈ nw') : Mid prog w ns news own a rope xs W' k nw' := by
  obtain ⟨t, e, mro⟩ := M.mro
  obtain ⟨vs, e2, mxs, i⟩ := M.mxs
  exact { M with H := H', mro := ⟨t, e, h _ mro M.hro⟩, mxs := ⟨vs, e2, h _ mxs M.hxs, i⟩, mown := fun p hp => h _ (M.mown p hp) (M.hown p hp), mnews := fun p hp => h _ (M.mnews p hp) (M.hnews p hp) }
/-- a turn begins -/
theorem MadeJ.mid {m : Str → Option Value} {nws : List (Addr × Obj)} {I : Nat} (hJ : MadeJ prog w ns news W k m nws) (hnI : ∀ p ∈ nws, p.1 ≠ I) (hown : ∀ p ∈ own, p.1 = I) :
    ∃ (a : Ad) (rope xs : Nat), m (Str.ofString "held") = some (.ref a.st) ∧ m (Str.ofString "procs") = some (.ref a.pr) ∧ m (Str.ofString "rows") = some (.ref a.rw) ∧ m (Str.ofString "rope") = some (.ref rope) ∧ Mid prog w ns news own a rope xs W k (own ++ nws) ∧ ¬ a.In I ∧ (∀ p ∈ news, p.1 ≠ I) ∧ @Ne Nat xs I := by
  obtain ⟨a, rope, xs, vs', t, e, e2, k1, k2, k3, k4, H, mro, mxs, iX, hro, hxs, hne, mnews, hnews, hnro⟩ := hJ
  have hI : ¬ a.In I := fun hi => by
    obtain ⟨o, ho⟩ := H.mem_of_in hi
    exact hnI _ ho rfl
  refine ⟨a, rope, xs, k1, k2, k3, k4, ⟨H.mono fun p hp => List.mem_append_right _ hp, ⟨t, e, List.mem_append_right _ mro⟩, ⟨vs', e2, List.mem_append_right _ mxs, iX⟩, fun p hp => List.mem_append_left _ hp, fun p hp => List.mem_append_right _ (mnews p hp), hro, hxs, hne, hnews, ?_, hnro, ?_⟩, hI, fun p hp => hnI p (mnews p hp), hnI _ mxs⟩
  · intro p hp; rw [hown p hp]; exact hI
  · intro p hp; rw [hown p hp]; exact fun e => hnI _ mro e.symm
/-- a turn ends -/
theorem Mid.ends {m : Str → Option Value} {I : Nat} (M : Mid prog w ns news own a rope xs W k nw) (k1 : m (Str.ofString "held") = some (.ref a.st)) (k2 : m (Str.ofString "procs") = some (.ref a.pr)) (k3 : m (Str.ofString "rows") = some (.ref a.rw)) (k4 : m (Str.ofString "rope") = some (.ref rope))
    (hI : ∃ o, (I, o) ∈ own) (hxI : @Ne Nat xs I) (hnI : ∀ p ∈ news, p.1 ≠ I) : MadeJ prog w ns news W k m (off [I] nw) := by
  obtain ⟨o, ho⟩ := hI
  obtain ⟨t, e, mro⟩ := M.mro
  obtain ⟨vs, e2, mxs, i⟩ := M.mxs
  have h1 := M.hown _ ho
  have h2 := M.nown _ ho
  refine ⟨a, rope, xs, vs, t, e, e2, k1, k2, k3, k4, M.H.keep [I] (by simpa using h1) (fun p hp hn => mem_off hp hn), mem_off mro ?_, mem_off mxs ?_, i, M.hro, M.hxs, M.hne, fun p hp => mem_off (M.mnews p hp) ?_, M.hnews, M.nnews⟩
  · intro h; exact h2 (List.mem_singleton.mp h).symm
  · intro h; exact hxI (List.mem_singleton.mp h)
  · intro h; exact hnI p hp (List.mem_singleton.mp h)
end
section
variable {prog : Program} {w : World} {ns : List Int} {news own : List (Addr × Obj)} {a : Ad} {rope xs : Nat} {W : Wd} {k : Int} {nw nw' : List (Addr × Obj)}
def Fresh (news own : List (Addr × Obj)) (a : Ad) (rope xs T : Nat) : Prop := ¬ a.In T ∧ @Ne Nat rope T ∧ @Ne Nat xs T ∧ (∀ p ∈ news, p.1 ≠ T) ∧ (∀ p ∈ own, p.1 ≠ T)
theorem Mid.fresh (M : Mid prog w ns news own a rope xs W k nw) {T : Nat} (hT : ∀ p ∈ nw, @LT.lt Nat _ p.1 T) : Fresh news own a rope xs T := by
  obtain ⟨t, e, mro⟩ := M.mro
  obtain ⟨vs, e2, mxs, i⟩ := M.mxs
  refine ⟨fun h => ?_, Nat.ne_of_lt (hT _ mro), Nat.ne_of_lt (hT _ mxs), fun p hp => Nat.ne_of_lt (hT _ (M.mnews p hp)), fun p hp => Nat.ne_of_lt (hT _ (M.mown p hp))⟩
  obtain ⟨o, ho⟩ := M.H.mem_of_in h
  exact Nat.lt_irrefl _ (hT _ ho)
theorem menu3 {T1 T2 T3 : Nat} {o1 o2 o3 : Obj} {c : Int} {nw : List (Addr × Obj)} (hc0 : 0 ≤ c) (hc : c < 3) (f1 : Fresh news own a rope xs T1) (f2 : Fresh news own a rope xs T2) (f3 : Fresh news own a rope xs T3) (m1 : (T1, o1) ∈ nw) (m2 : (T2, o2) ∈ nw) (m3 : (T3, o3) ∈ nw)
    (i1 : IsKey o1 0) (i2 : IsKey o2 1) (i3 : IsKey o3 2) : ∃ (ka : Nat) (ok : Obj), [Value.ref T1, Value.ref T2, Value.ref T3][c.toNat]? = some (.ref ka) ∧ (ka, ok) ∈ nw ∧ IsKey ok c.toNat ∧ Fresh news own a rope xs ka := by
  have : c = 0 ∨ c = 1 ∨ c = 2 := by omega
  rcases this with rfl | rfl | rfl
  · exact ⟨T1, o1, rfl, m1, i1, f1⟩
  · exact ⟨T2, o2, rfl, m2, i2, f2⟩
  · exact ⟨T3, o3, rfl, m3, i3, f3⟩
end
theorem Mid.menu {prog : Program} {w : World} {ns : List Int} {news own : List (Addr × Obj)} {a : Ad} {rope xs : Nat} {W : Wd} {k : Int} {nw : List (Addr × Obj)} (M : Mid prog w ns news own a rope xs W k nw)
    {h₀ h : Heap} {L : Addr} {lst T1 T2 T3 : Nat} {o1 o2 o3 : Obj} {e : Nat} (N : News h₀ L h ((lst, listOf [Value.ref T1, .ref T2, .ref T3].toArray e) :: (T3, o3) :: (T2, o2) :: (T1, o1) :: nw))
    (l1 : ∀ p ∈ nw, p.1 < T1) (l2 : @LT.lt Nat _ T1 T2 ∧ AllLt T2 nw) (l3 : @LT.lt Nat _ T2 T3 ∧ @LT.lt Nat _ T1 T3 ∧ AllLt T3 nw) (l4 : @LT.lt Nat _ T3 lst ∧ @LT.lt Nat _ T2 lst ∧ @LT.lt Nat _ T1 lst ∧ AllLt lst nw) (i1 : IsKey o1 0) (i2 : IsKey o2 1) (i3 : IsKey o3 2) :
    ∃ nw2, News h₀ L h nw2 ∧ Mid prog w ns news own a rope xs W k nw2 ∧ (lst, listOf [Value.ref T1, .ref T2, .ref T3].toArray e) ∈ nw2 ∧ @Ne Nat lst rope ∧
      ∀ c : Int, 0 ≤ c → c < 3 → ∃ (ka : Nat) (ok : Obj), [Value.ref T1, Value.ref T2, Value.ref T3][c.toNat]? = some (.ref ka) ∧ (ka, ok) ∈ nw2 ∧ IsKey ok c.toNat ∧ Fresh news own a rope xs ka := by
  have f1 := M.fresh l1
  have f2 := M.fresh (allLt_to l2.2)
  have f3 := M.fresh (allLt_to l3.2.2)
  have f4 := M.fresh (allLt_to l4.2.2.2)
  refine ⟨_, N, M.mono (fun p hp => .tail _ (.tail _ (.tail _ (.tail _ hp)))), .head _, Ne.symm f4.2.1, fun c h0 h3 => menu3 h0 h3 f1 f2 f3 (by simp) (by simp) (by simp) i1 i2 i3⟩
theorem append_new (W : Wd) (n : Int) (kd : Nat) : ∃ r, (W.append n kd).recs[W.recs.length]? = some r ∧ r.key = (W.recs.length : Int) := by
  unfold Wd.append
  by_cases h : W.fst n < 0
  · simp only [if_pos h]
    exact ⟨_, by rw [List.getElem?_append_right (Nat.le_refl _)]; simp; rfl, rfl⟩
  · simp only [if_neg h]
    rw [List.getElem?_modify, List.getElem?_append_right (Nat.le_refl _)]
    simp only [Nat.sub_self, List.getElem?_cons_zero, Option.map_eq_map, Option.map_some]
    exact ⟨_, rfl, by split <;> rfl⟩
theorem prepend_new (W : Wd) (n : Int) (kd : Nat) : ∃ r, (W.prepend n kd).recs[W.recs.length]? = some r ∧ r.key = (W.recs.length : Int) := by
  unfold Wd.prepend
  exact ⟨_, by rw [List.getElem?_append_right (Nat.le_refl _)]; simp; rfl, rfl⟩
theorem add_at {a : Ad} {q : Nat × Nat × Nat} {n : Nat} (h : a.ra.length = n) : (a.add q).ra[n]? = some q := by
  subst h
  show (a.ra ++ [q])[a.ra.length]? = some q
  rw [List.getElem?_append_right (Nat.le_refl _)]; simp
theorem MadeJ.mid0 {prog : Program} {w : World} {ns : List Int} {news : List (Addr × Obj)} {W : Wd} {k : Int} {m : Str → Option Value} {nws : List (Addr × Obj)} (hJ : MadeJ prog w ns news W k m nws) :
    ∃ (a : Ad) (rope xs : Nat), m (Str.ofString "held") = some (.ref a.st) ∧ m (Str.ofString "procs") = some (.ref a.pr) ∧ m (Str.ofString "rows") = some (.ref a.rw) ∧ m (Str.ofString "rope") = some (.ref rope) ∧ Mid prog w ns news [] a rope xs W k nws := by
  obtain ⟨a, rope, xs, vs', t, e, e2, k1, k2, k3, k4, H, mro, mxs, iX, hro, hxs, hne, mnews, hnews, hnro⟩ := hJ
  exact ⟨a, rope, xs, k1, k2, k3, k4, ⟨H, ⟨t, e, mro⟩, ⟨vs', e2, mxs, iX⟩, by simp, mnews, hro, hxs, hne, hnews, by simp, hnro, by simp⟩⟩
theorem Mid.start {prog : Program} {w : World} {ns : List Int} {news : List (Addr × Obj)} {a : Ad} {rope xs : Nat} {W : Wd} {k : Int} {nw : List (Addr × Obj)} {m : Str → Option Value} (M : Mid prog w ns news [] a rope xs W k nw) (k1 : m (Str.ofString "held") = some (.ref a.st)) (k2 : m (Str.ofString "procs") = some (.ref a.pr)) (k3 : m (Str.ofString "rows") = some (.ref a.rw)) (k4 : m (Str.ofString "rope") = some (.ref rope)) :
    MadeJ prog w ns news W k m nw := by
  obtain ⟨t, e, mro⟩ := M.mro
  obtain ⟨vs, e2, mxs, i⟩ := M.mxs
  exact ⟨a, rope, xs, vs, t, e, e2, k1, k2, k3, k4, M.H, mro, mxs, i, M.hro, M.hxs, M.hne, M.mnews, M.hnews, M.nnews⟩
end
section
set_option maxRecDepth 100000 in
set_option maxHeartbeats 16000000 in
theorem made_spec {prog : Program} {w : World} {A₀ A : Around} {s : Shared} {base h₀ : Heap} {outer : List Env} {env : Env} {L : Addr} {m : Str → Option Value} {news : List (Addr × Obj)}
   {mean : ExcName → Option Value} {mg mb : Str → Option Value} {R : Result → Shared → Prop} {l : Nat} {vs : List Value} {ns : List Int}
   (C : Cx w A₀ A base h₀ outer env L mean mg mb 350) (F : Fr h₀ L s.heap m) (N : News h₀ L s.heap news)
   (hl : base.IsList l vs.toArray) (hI : IntsAre vs ns) (hlen : ns.length ≤ 63)
   (post : ∀ (h' : Heap) (tk' : Nat) (news' : List (Addr × Obj)) (T : Nat) (a : Ad) (n : Nat), Fr h₀ L h' m → News h₀ L h' news' → (∀ p ∈ news, p ∈ news') → Has prog w news' a (made ns) → (T, ({ cls := .type "tuple", data := .seq #[.ref a.st, .ref a.pr, .ref a.rw] n } : Obj)) ∈ news' →
     (∀ p ∈ news, ¬ a.In p.1) → ¬ a.In T → R (.ok (.ret (.ref T))) {s with heap := h', toks := tk'}) :
   codeAny (model prog w) A (.call (.ref 197) ⟨[.ref l], []⟩) R s := by
  have kk : withK PySem.Challenge.rw_rr0016_01 topK.heap_1 := by k_fill; trivial
  w_top off
  refine viaG fun G hG => ?_
  obtain ⟨B, X, T, hA, hf, hke, hroom, hunits, hh⟩ := C
  refine hG ?_; clear hG
  w_strict k_enter
  (rename Below A _ _ _ => B1)
  (rename (topK.heap_1 w.params).In _ => X1)
  (rename Top _ _ _ _ _ _ => T1)
  w_strict k_steps
  (rename News _ _ _ _ => nE)
  (rename Fr _ _ _ _ => fE)
  refine store_new (Cx.inner B1 X1 T1 (by omega) (by omega) hh (by omega)) fE nE ?_
  clear fE nE
  intro h1 tk1 st dst rd ost ord F1 N1 iS iD lo l1 l2 l3
  k_lt l1
  try dsimp only
  w_strict k_steps
  (rename News _ _ _ _ => nE)
  (rename Fr _ _ _ _ => fE)
  refine proc_new (Cx.inner B1 X1 T1 (by omega) (by omega) hh (by omega)) fE nE ?_
  clear fE nE
  intro h2 tk2 p3 d3 od3 F2 N2 iP3 l4 l5
  k_lt l4
  try dsimp only
  w_strict k_steps
  (rename News _ _ _ _ => nE)
  (rename Fr _ _ _ _ => fE)
  refine proc_new (Cx.inner B1 X1 T1 (by omega) (by omega) hh (by omega)) fE nE ?_
  clear fE nE
  intro h3 tk3 p4 d4 od4 F3 N3 iP4 l6 l7
  k_lt l6
  try dsimp only
  w_strict k_steps
  all_goals (try k_data)
  (rename News _ _ _ _ => nE)
  (rename Fr _ _ _ _ => fE)
  refine viaG fun G hG => ?_
  obtain ⟨a, nw, ea1, ea2, ea3, nF, H, mro, mxs, mnews, hro, hxs, hnews, hne, hnro⟩ := made_enter (prog := prog) (w := w) nE (by assumption) (by assumption) iP3 iP4 iD iS lo (by refine ⟨?_, ?_, ?_, ?_, ?_, ?_, ?_, ?_, ?_, ?_, ?_, ?_⟩ <;> omega) (by assumption)
  refine hG ?_; clear hG
  (with_unfolding_all refine' For_invVF fE ?k1 ?k2 ?_; (case k1 => exact rfl); (case k2 => exact rfl))
  w_strict k_steps
  refine wpAny_call (cut_spec (Cx.inner B1 X1 T1 (by omega) (by omega) hh (by omega)) fE nF mro mxs hne (ns := ns.take 40) (by assumption) (List.length_take_le ..) (by omega) (by omega) (by omega) (by omega) ?_)
  intro h1 tk1 nw1 t1 t2 F1 N1 mro1 keep1
  dsimp only
  have H1 := H.keep (news' := nw1) [_] (by simpa using hro) (fun p hp hn => keep1 p hp (by simpa using hn))
  w_strict k_steps
  have c0 := cutv_range (ns := ns.take 40) (k := 0) (lim := 9) (by omega)
  have c1 : (cutv (ns.take 40) 0 9).fmod 4 = cutv (ns.take 40) 0 9 % 4 := Int.fmod_eq_emod_of_nonneg _ (by omega)
  (rename News _ _ _ _ => nE)
  (rename Fr _ _ _ _ => fE)
  refine iterR (fun i m nws => MadeJ prog w (ns.take 40) news (laps (ns.take 40) i).1 (laps (ns.take 40) i).2 m nws) (by assumption) hh (by omega) (by omega) fE nE ?_ ?_ ?_
  · exact ⟨a, _, _, _, _, _, _, by rw [ea1]; rfl, by rw [ea2]; rfl, by rw [ea3]; rfl, rfl, H1, mro1, keep1 _ mxs hne, by assumption, hro, hxs, hne, fun p hp => keep1 p (mnews p hp) (hnro p hp), hnews, hnro⟩
  · clear fE nE
    intro i ti m₁ news₁ hp tk I own hi hJ hnI hoI hown F₁ N₁
    refine viaG fun G hG => ?_
    obtain ⟨a, rope, xs, k1, k2, k3, k4, M, haI, hnewsI, hxI⟩ := hJ.mid hnI hown
    have F₂ := fr_in F₁ (m_put2 (m_put2 (m_put2 (m_put k1) k2) k3) k4)
    clear F₁ hJ
    obtain ⟨hW, hk1, hk2⟩ := laps_wf (ns.take 40) i
    have hi8 := lapCount_le (ns.take 40)
    have hiL : i < 8 := by
      have : (2 + (cutv (ns.take 40) 0 9).fmod 4 * 2).toNat = lapCount (ns.take 40) := by rw [c1]; rfl
      omega
    refine hG ?_; clear hG
    w_strict k_steps
    all_goals (try k_data)
    refine viaG fun G hG => ?_
    obtain ⟨tr, er, mro⟩ := M.mro
    obtain ⟨vx, ex, mxs, iX⟩ := M.mxs
    (rename Fr _ _ _ _ => fE)
    (rename News _ _ _ _ => nE)
    refine hG ?_; clear hG
    refine wpAny_call (cut_spec (Cx.inner B1 X1 T1 (by omega) (by omega) hh (by omega)) fE nE mro mxs M.hne iX (List.length_take_le ..) (by omega) (by omega) (by omega) (by omega) ?_)
    intro h1 tk1 nw1 t1 u1 F1 N1 mro1 keep1
    replace M := M.cut mro1 keep1
    clear mro mxs iX fE nE keep1 mro1
    dsimp only
    w_strict k_steps
    (rename Fr _ _ _ _ => fE)
    (rename News _ _ _ _ => nE)
    refine viaG fun G hG => ?_
    obtain ⟨nw2, nF, M, mlst, nlst, menu⟩ := M.menu nE (by assumption) (by assumption) (by assumption) (by assumption) ⟨_, 0, _, rfl⟩ ⟨_, 0, _, rfl⟩ ⟨_, _, _, rfl⟩
    obtain ⟨tr, er, mro⟩ := M.mro
    obtain ⟨vx, ex, mxs, iX⟩ := M.mxs
    refine hG ?_; clear hG
    refine wpAny_call (cut_spec (Cx.inner B1 X1 T1 (by omega) (by omega) hh (by omega)) fE nF mro mxs M.hne iX (List.length_take_le ..) (by omega) (by omega) (by omega) (by omega) ?_)
    intro h2 tk2 nw3 t2 u2 F2 N2 mro2 keep2
    have c2 := cutv_range (ns := ns.take 40) (k := (laps (ns.take 40) i).2 + 1) (lim := 3) (by omega)
    refine viaG fun G hG => ?_
    obtain ⟨ka, ok, hxa, mka, hok, fka⟩ := menu _ c2.1 c2.2
    replace M := M.cut mro2 keep2
    replace mlst := keep2 _ mlst nlst
    replace mka := keep2 _ mka (Ne.symm fka.2.1)
    clear mro mxs iX fE nE keep2 mro2 nF
    refine hG ?_; clear hG
    dsimp only
    refine tail_mem N2 mlst (item_mem N2 mlst c2.1 (by omega) hxa ?_) (by with_unfolding_all rfl)
    have hnum : Two (3 + cutv (ns.take 40) (laps (ns.take 40) i).2 2) := two_cut _ _
    refine viaG fun G hG => ?_
    obtain ⟨orw, mrw, irw⟩ := M.H.rw
    obtain ⟨opr, mpr, ipr⟩ := M.H.pr
    obtain ⟨vl, el, ml, il⟩ := M.H.l _ hnum
    have h5 := hW.five _ hnum
    have h1000 : ((laps (ns.take 40) i).1.row (3 + cutv (ns.take 40) (laps (ns.take 40) i).2 2)).length ≤ 1000 := by omega
    have vrw : valueAt [((3 : Int), Value.ref (a.l 3)), (4, .ref (a.l 4))] (3 + cutv (ns.take 40) (laps (ns.take 40) i).2 2) = some (.ref (a.l (3 + cutv (ns.take 40) (laps (ns.take 40) i).2 2))) := by
      rcases hnum with e | e <;> rw [e] <;> rfl
    have vpr : valueAt [((3 : Int), Value.ref (a.p 3)), (4, .ref (a.p 4))] (3 + cutv (ns.take 40) (laps (ns.take 40) i).2 2) = some (.ref (a.p (3 + cutv (ns.take 40) (laps (ns.take 40) i).2 2))) := by
      rcases hnum with e | e <;> rw [e] <;> rfl
    refine hG ?_; clear hG
    w_strict k_steps
    all_goals (try k_data)
    · refine TurnPost.done (by assumption) (by assumption) M.mown ?_
      have e : laps (ns.take 40) (i + 1) = ((laps (ns.take 40) i).1, (laps (ns.take 40) i).2 + 1 + 1) := by
        show lapStep _ _ = _
        unfold lapStep
        rw [if_pos (by omega)]
      rw [e]
      exact M.ends rfl rfl rfl rfl hoI hxI hnewsI
    have h5n : ((laps (ns.take 40) i).1.row (3 + cutv (ns.take 40) (laps (ns.take 40) i).2 2)).length ≠ 5 := by omega
    refine viaG fun G hG => ?_
    obtain ⟨tr, er, mro⟩ := M.mro
    obtain ⟨vx, ex, mxs, iX⟩ := M.mxs
    (rename Fr _ _ _ _ => fE)
    (rename News _ _ _ _ => nE)
    refine hG ?_; clear hG
    refine wpAny_call (cut_spec (Cx.inner B1 X1 T1 (by omega) (by omega) hh (by omega)) fE nE mro mxs M.hne iX (List.length_take_le ..) (by omega) (by omega) (by omega) (by omega) ?_)
    intro h3 tk3 nw4 t3 u3 F3 N3 mro3 keep3
    replace M := M.cut mro3 keep3
    replace mka := keep3 _ mka (Ne.symm fka.2.1)
    refine viaG fun G hG => ?_
    obtain ⟨orw, mrw, irw⟩ := M.H.rw
    obtain ⟨opr, mpr, ipr⟩ := M.H.pr
    obtain ⟨vl, el, ml, il⟩ := M.H.l _ hnum
    have mst := M.H.st
    obtain ⟨ost, mdst, τs, rfl⟩ := M.H.dst
    clear mro mxs iX fE nE keep3 mro3
    refine hG ?_; clear hG
    dsimp only
    w_strict k_steps
    all_goals (try k_data)
    · (rename Fr _ _ _ _ => fE)
      (rename News _ _ _ _ => nE)
      refine viaG fun G hG => ?_
      obtain ⟨nwT, nT, up⟩ : ∃ l, News _ _ _ l ∧ (∀ p ∈ nw4, p ∈ l) := ⟨_, nE, fun p hp => .tail _ hp⟩
      have M4 := M.mono up
      clear nE
      refine hG ?_; clear hG
      refine wpAny_call (prepend_H (Cx.inner B1 X1 T1 (by omega) (by omega) hh (by omega)) fE nT M4.H hnum (up _ mka) hok fka.1 (by have := hW.len; omega) hW.g0 (by have := hW.g; omega) ?_)
      intro h4 tk4 nw5 x d F4 N4 H4 keep4 fresh4 hdx
      have M5 := M4.grow H4 keep4 fresh4 hdx fka.2.1 fka.2.2.1 fka.2.2.2.1 fka.2.2.2.2
      refine viaG fun G hG => ?_
      obtain ⟨rn, hrn, hrk⟩ := prepend_new (laps (ns.take 40) i).1 (3 + cutv (ns.take 40) (laps (ns.take 40) i).2 2) (cutv (ns.take 40) ((laps (ns.take 40) i).2 + 1) 3).toNat
      obtain ⟨mx, ⟨od, md, τr, rfl⟩, _⟩ := H4.recs _ x d ka rn (add_at M.H.len) hrn
      obtain ⟨v5, e5, m5, i5⟩ := M5.H.l _ hnum
      have hl5 : v5.length ≤ 1000 := by rw [i5.length]; exact h1000
      refine hG ?_; clear hG
      dsimp only
      w_strict k_steps
      all_goals (try k_data)
      (rename Fr _ _ _ _ => fG)
      (rename News _ _ _ _ => nG)
      refine insert_mem fG nG m5 hl5 ?_
      intro h6 F6 N6
      have M6 := M5.row (e := e5 + 1) (vs := .int rn.key τr.t1 :: v5) hnum (.cons _ _ i5)
      dsimp only
      w_strict k_steps
      all_goals (try k_data)
      refine TurnPost.done (by assumption) (by assumption) M6.mown ?_
      have e : laps (ns.take 40) (i + 1) = (setRowP ((laps (ns.take 40) i).1.prepend (3 + cutv (ns.take 40) (laps (ns.take 40) i).2 2) (cutv (ns.take 40) ((laps (ns.take 40) i).2 + 1) 3).toNat) (3 + cutv (ns.take 40) (laps (ns.take 40) i).2 2) (rn.key :: (laps (ns.take 40) i).1.row (3 + cutv (ns.take 40) (laps (ns.take 40) i).2 2)), (laps (ns.take 40) i).2 + 1 + 1 + 1) := by
        show lapStep _ _ = _
        unfold lapStep
        rw [if_neg h5n, if_pos (by omega), hrk]
      rw [e]
      exact M6.ends rfl rfl rfl rfl hoI hxI hnewsI
    · (rename Fr _ _ _ _ => fE)
      (rename News _ _ _ _ => nE)
      refine viaG fun G hG => ?_
      obtain ⟨nwT, nT, up⟩ : ∃ l, News _ _ _ l ∧ (∀ p ∈ nw4, p ∈ l) := ⟨_, nE, fun p hp => .tail _ hp⟩
      have M4 := M.mono up
      clear nE
      refine hG ?_; clear hG
      refine wpAny_call (append_H (Cx.inner B1 X1 T1 (by omega) (by omega) hh (by omega)) fE nT M4.H hnum (up _ mka) hok fka.1 (by have := hW.len; omega) hW.g0 (by have := hW.g; omega) (fun hf => hW.last hnum hf) ?_)
      intro h4 tk4 nw5 x d F4 N4 H4 keep4 fresh4 hdx
      have M5 := M4.grow H4 keep4 fresh4 hdx fka.2.1 fka.2.2.1 fka.2.2.2.1 fka.2.2.2.2
      refine viaG fun G hG => ?_
      obtain ⟨rn, hrn, hrk⟩ := append_new (laps (ns.take 40) i).1 (3 + cutv (ns.take 40) (laps (ns.take 40) i).2 2) (cutv (ns.take 40) ((laps (ns.take 40) i).2 + 1) 3).toNat
      obtain ⟨mx, ⟨od, md, τr, rfl⟩, _⟩ := H4.recs _ x d ka rn (add_at M.H.len) hrn
      obtain ⟨v5, e5, m5, i5⟩ := M5.H.l _ hnum
      have hl5 : v5.length ≤ 1000 := by rw [i5.length]; exact h1000
      refine hG ?_; clear hG
      dsimp only
      w_strict k_steps
      all_goals (try k_data)
      (rename Fr _ _ _ _ => fG)
      (rename News _ _ _ _ => nG)
      refine append_mem fG nG m5 hl5 ?_
      intro h6 F6 N6
      have M6 := M5.row (e := e5 + 1) (vs := v5 ++ [.int rn.key τr.t1]) hnum (i5.append (.cons _ _ .nil))
      dsimp only
      w_strict k_steps
      all_goals (try k_data)
      refine TurnPost.done (by assumption) (by assumption) M6.mown ?_
      have e : laps (ns.take 40) (i + 1) = (setRowP ((laps (ns.take 40) i).1.append (3 + cutv (ns.take 40) (laps (ns.take 40) i).2 2) (cutv (ns.take 40) ((laps (ns.take 40) i).2 + 1) 3).toNat) (3 + cutv (ns.take 40) (laps (ns.take 40) i).2 2) ((laps (ns.take 40) i).1.row (3 + cutv (ns.take 40) (laps (ns.take 40) i).2 2) ++ [rn.key]), (laps (ns.take 40) i).2 + 1 + 1 + 1) := by
        show lapStep _ _ = _
        unfold lapStep
        rw [if_neg h5n, if_neg (by omega), hrk]
      rw [e]
      exact M6.ends rfl rfl rfl rfl hoI hxI hnewsI
  · intro m₁ news₁ hp tk hJ F₁ N₁
    have eL : (2 + (cutv (ns.take 40) 0 9).fmod 4 * 2).toNat = lapCount (ns.take 40) := by rw [c1]; rfl
    rw [eL] at hJ
    refine viaG fun G hG => ?_
    obtain ⟨a, rope, xs, k1, k2, k3, k4, M⟩ := hJ.mid0
    have F₂ := fr_to F₁ (m_put2 (m_put2 (m_put2 (m_put k1) k2) k3) k4)
    clear F₁ hJ
    obtain ⟨hW, hk1, hk2⟩ := laps_wf (ns.take 40) (lapCount (ns.take 40))
    have hi8 := lapCount_le (ns.take 40)
    refine hG ?_; clear hG
    generalize hq : laps (ns.take 40) (lapCount (ns.take 40)) = q at *
    w_strict k_steps
    all_goals (try k_data)
    refine viaG fun G hG => ?_
    obtain ⟨tr, er, mro⟩ := M.mro
    obtain ⟨vx, ex, mxs, iX⟩ := M.mxs
    (rename Fr _ _ _ _ => fE)
    (rename News _ _ _ _ => nE)
    refine hG ?_; clear hG
    (with_unfolding_all refine' For_invVF fE ?k1 ?k2 ?_; (case k1 => exact rfl); (case k2 => exact rfl))
    w_strict k_steps
    refine wpAny_call (cut_spec (Cx.inner B1 X1 T1 (by omega) (by omega) hh (by omega)) fE nE mro mxs M.hne iX (List.length_take_le ..) (by omega) (by omega) (by omega) (by omega) ?_)
    intro h2 tk2 nw2 t2 u2 F2 N2 mro2 keep2
    replace M := M.cut mro2 keep2
    have c3 := cutv_range (ns := ns.take 40) (k := q.2) (lim := 3) (by omega)
    clear mro mxs iX fE nE keep2 mro2
    dsimp only
    w_strict k_steps
    all_goals (try k_data)
    (rename News _ _ _ _ => nE)
    (rename Fr _ _ _ _ => fE)
    refine iterR (fun i m nws => MadeJ prog w (ns.take 40) news (ers (ns.take 40) q i).1 (ers (ns.take 40) q i).2 m nws) (by assumption) hh (by omega) (by omega) fE nE ?_ ?_ ?_
    · exact M.start rfl rfl rfl rfl
    · clear fE nE M
      intro i ti m₁ news₁ hp tk I own hi hJ hnI hoI hown F₁ N₁
      refine viaG fun G hG => ?_
      obtain ⟨a, rope, xs, k1, k2, k3, k4, M, haI, hnewsI, hxI⟩ := hJ.mid hnI hown
      have F₂ := fr_in F₁ (m_put2 (m_put2 (m_put2 (m_put k1) k2) k3) k4)
      clear F₁ hJ
      obtain ⟨hW, hk1, hk2⟩ := ers_wf (ns.take 40) (q := q) hW hk1 i
      have mst := M.H.st
      obtain ⟨ost, mdst, τs, rfl⟩ := M.H.dst
      refine hG ?_; clear hG
      w_strict k_steps
      all_goals (try k_data)
      refine viaG fun G hG => ?_
      obtain ⟨tr, er, mro⟩ := M.mro
      obtain ⟨vx, ex, mxs, iX⟩ := M.mxs
      (rename Fr _ _ _ _ => fE)
      (rename News _ _ _ _ => nE)
      refine hG ?_; clear hG
      refine wpAny_call (cut_spec (Cx.inner B1 X1 T1 (by omega) (by omega) hh (by omega)) fE nE mro mxs M.hne iX (List.length_take_le ..) (by omega) (by omega) (by omega) (by omega) ?_)
      intro h3 tk3 nw3 t3 u3 F3 N3 mro3 keep3
      replace M := M.cut mro3 keep3
      clear mro mxs iX fE nE keep3 mro3
      dsimp only
      w_strict k_steps
      all_goals (try k_data)
      (rename Fr _ _ _ _ => fE)
      (rename News _ _ _ _ => nE)
      refine wpAny_call (erase_H (Cx.inner B1 X1 T1 (by omega) (by omega) hh (by omega)) fE nE M.H hW.g0 (by have := hW.g; omega) ?_)
      intro h4 tk4 nw4 b F4 N4 H4 keep4
      have M4 := M.erase H4 keep4
      dsimp only
      w_strict k_steps
      all_goals (try k_data)
      refine TurnPost.done (by assumption) (by assumption) M4.mown ?_
      exact M4.ends rfl rfl rfl rfl hoI hxI hnewsI
    · clear fE nE M
      intro m₁ news₁ hp tk hJ F₁ N₁
      refine viaG fun G hG => ?_
      obtain ⟨a, rope, xs, k1, k2, k3, k4, M⟩ := hJ.mid0
      have F₂ := fr_to F₁ (m_put2 (m_put2 (m_put2 (m_put k1) k2) k3) k4)
      clear F₁ hJ
      have hmade : made ns = (ers (ns.take 40) q (cutv (ns.take 40) q.2 3).toNat).1 := by subst hq; rfl
      refine hG ?_; clear hG
      w_strict k_steps
      all_goals (try k_data)
      refine post _ _ _ _ a 0 (by assumption) (by assumption) (fun p hp => .tail _ (M.mnews p hp)) (hmade ▸ M.H.mono fun p hp => .tail _ hp) (.head _) M.hnews (M.fresh (by assumption)).1
end
section
/-! check_records in plain data -/
noncomputable def walkC (recs : List RecV) (g f : Int) : Nat → List Int → Int → Int → Option (List Int × Int)
  | 0, _, _, _ => none
  | n + 1, met, last, place =>
    if place < 0 then some (met, last)
    else match recs[place.toNat]? with
      | none => none
      | some r => if place ∈ met then none else if soundP r g place f then walkC recs g f n (met ++ [place]) place r.next else none
noncomputable def cs (W : Wd) : Nat → Option (List Int)
  | 0 => some []
  | i + 1 => (cs W i).bind fun met => (walkC W.recs W.gen (3 + (i : Int)) (W.recs.length + 1) met (-1) (W.fst (3 + (i : Int)))).bind fun q => if q.2 = W.lst (3 + (i : Int)) then some q.1 else none
noncomputable def checkP (W : Wd) : Bool := (cs W 2).isSome
theorem cs_fail {W : Wd} {i : Nat} (hi : i < 2) (h : cs W (i + 1) = none) : checkP W = false := by
  have : i = 0 ∨ i = 1 := by omega
  rcases this with rfl | rfl
  · unfold checkP; rw [cs, h]; rfl
  · unfold checkP; rw [h]; rfl
noncomputable def metKvs (met : List Int) : List (Int × Value) := met.map fun k => (k, Value.bool true)
theorem metKvs_val {met : List Int} {k : Int} : (valueAt (metKvs met) k).isSome = decide (k ∈ met) := by
  unfold valueAt metKvs
  induction met with
  | nil => simp
  | cons a l ih =>
    simp only [List.map_cons, List.find?_cons]
    by_cases h : a = k
    · simp [h]
    · have h' : ¬ k = a := fun e => h e.symm
      simp only [h, decide_false]
      rw [ih]
      simp [h']
theorem metKvs_stored {met : List Int} {k : Int} (h : k ∉ met) : stored (metKvs met) k (.bool true) = metKvs (met ++ [k]) := by
  have hv : valueAt (metKvs met) k = none := by
    have := metKvs_val (met := met) (k := k)
    rw [decide_eq_false h] at this
    cases e : valueAt (metKvs met) k with
    | none => rfl
    | some v => rw [e] at this; cases this
  rw [stored_absent hv]
  unfold metKvs
  simp
theorem met_len {met : List Int} {N : Nat} (hn : met.Nodup) (hr : ∀ k ∈ met, 0 ≤ k ∧ k < N) : met.length ≤ N := by
  have h1 : (met.map Int.toNat).Nodup := by
    unfold List.Nodup
    rw [List.pairwise_map]
    refine List.Pairwise.imp_of_mem (fun {a b} ha hb hab e => ?_) hn
    have := hr a ha
    have := hr b hb
    exact hab (by omega)
  have h2 : ∀ x ∈ met.map Int.toNat, x ∈ List.range N := by
    intro x hx
    obtain ⟨k, hk, rfl⟩ := List.mem_map.mp hx
    have := hr k hk
    rw [List.mem_range]; omega
  have h3 := List.Nodup.length_le_of_subset h1 h2
  simpa using h3
end
section
set_option maxRecDepth 100000 in
set_option maxHeartbeats 4000000 in
theorem sound_none {prog : Program} {w : World} {A₀ A : Around} {s : Shared} {base h₀ : Heap} {outer : List Env} {env : Env} {L : Addr} {m : Str → Option Value} {news : List (Addr × Obj)}
   {mean : ExcName → Option Value} {mg mb : Str → Option Value} {R : Result → Shared → Prop} {st : Nat} {place f : Int} {t1 t2 : Tok}
   (C : Cx w A₀ A base h₀ outer env L mean mg mb 400) (F : Fr h₀ L s.heap m) (N : News h₀ L s.heap news)
   (post : ∀ h' tk', Fr h₀ L h' m → News h₀ L h' news → R (.ok (.ret (.bool false))) {s with heap := h', toks := tk'}) :
   codeAny (model prog w) A (.call (.ref 176) ⟨[.ref st, .none, .int place t1, .int f t2], []⟩) R s := by
  have kk : withK PySem.Challenge.rw_rr0016_01 topK.heap_1 := by k_fill; trivial
  w_top off
  obtain ⟨B, X, T, hA, hf, hke, hroom, hunits, hh⟩ := C
  w_strict (k_enter; k_steps)
  all_goals (try k_data)
  exact post _ _ (by assumption) (by assumption)

/-- what stands between the turns of the inner while of check_records -/
def ChkJ (prog : Program) (w : World) (news : List (Addr × Obj)) (a : Ad) (W : Wd) (f : Int) (RES : Option (List Int × Int)) (n : Nat) (m : Str → Option Value) (nws : List (Addr × Obj)) : Prop :=
  ∃ (met : List Int) (last place : Int) (dm : Nat) (om : Obj) (tl tp tf : Tok), m (Str.ofString "store") = some (.ref a.st) ∧ m (Str.ofString "procs") = some (.ref a.pr) ∧ m (Str.ofString "proc") = some (.ref (a.p f)) ∧ m (Str.ofString "f") = some (.int f tf) ∧
    m (Str.ofString "met") = some (.ref dm) ∧ m (Str.ofString "last") = some (.int last tl) ∧ m (Str.ofString "place") = some (.int place tp) ∧ (∀ p ∈ news, p ∈ nws) ∧ (dm, om) ∈ nws ∧ om.IsDictOf (intKind prog w) (metKvs met) ∧ (dm == sysModules) = false ∧ (∀ p ∈ news, p.1 ≠ dm) ∧
    met.Nodup ∧ (∀ k ∈ met, 0 ≤ k ∧ k < W.recs.length) ∧ W.recs.length + 1 ≤ n + met.length ∧ walkC W.recs W.gen f n met last place = RES

/-- what stands between the turns of the outer loop of check_records -/
def ChkO (prog : Program) (w : World) (news : List (Addr × Obj)) (a : Ad) (W : Wd) (i : Nat) (m : Str → Option Value) (nws : List (Addr × Obj)) : Prop :=
  ∃ (met : List Int) (dm : Nat) (om : Obj), m (Str.ofString "store") = some (.ref a.st) ∧ m (Str.ofString "procs") = some (.ref a.pr) ∧ m (Str.ofString "met") = some (.ref dm) ∧ (∀ p ∈ news, p ∈ nws) ∧ (dm, om) ∈ nws ∧
      om.IsDictOf (intKind prog w) (metKvs met) ∧ (dm == sysModules) = false ∧ (∀ p ∈ news, p.1 ≠ dm) ∧ met.Nodup ∧ (∀ k ∈ met, 0 ≤ k ∧ k < W.recs.length) ∧ cs W i = some met
theorem TurnPost.nxt {h₀ : Heap} {L I : Addr} {own : List (Addr × Obj)} {J : (Str → Option Value) → List (Addr × Obj) → Prop} {s₁ : Shared} {Q : Flow → Shared → Prop} {h' : Heap} {tk : Nat} {m' : Str → Option Value} {news' : List (Addr × Obj)}
    (F : Fr h₀ L h' m') (N : News h₀ L h' news') (ho : ∀ p ∈ own, p ∈ news') (hj : J m' (off [I] news')) : TurnPost h₀ L I own J s₁ Q .next { s₁ with heap := h', toks := tk } := ⟨h', tk, m', news', rfl, F, N, ho, hj⟩
end
section
set_option maxRecDepth 100000 in
set_option maxHeartbeats 16000000 in
theorem check_spec {prog : Program} {w : World} {A₀ A : Around} {s : Shared} {base h₀ : Heap} {outer : List Env} {env : Env} {L : Addr} {m : Str → Option Value} {news : List (Addr × Obj)}
   {mean : ExcName → Option Value} {mg mb : Str → Option Value} {R : Result → Shared → Prop} {a : Ad} {W : Wd}
   (C : Cx w A₀ A base h₀ outer env L mean mg mb 350) (F : Fr h₀ L s.heap m) (N : News h₀ L s.heap news) (H : Has prog w news a W) (hlen : W.recs.length ≤ 20) (lopr : (a.pr == sysModules) = false)
   (post : ∀ h' tk', Fr h₀ L h' m → News h₀ L h' news → R (.ok (.ret (.bool (checkP W)))) {s with heap := h', toks := tk'}) :
   codeAny (model prog w) A (.call (.ref 183) ⟨[.ref a.st, .ref a.pr], []⟩) R s := by
  have kk : withK PySem.Challenge.rw_rr0016_01 topK.heap_1 := by k_fill; trivial
  w_top off
  obtain ⟨B, X, T, hA, hf, hke, hroom, hunits, hh⟩ := C
  w_strict k_enter
  (rename Below A _ _ _ => B1)
  (rename (topK.heap_1 w.params).In _ => X1)
  (rename Top _ _ _ _ _ _ => T1)
  have fin : ∀ h' tk' v news', v = checkP W → Fr h₀ L h' m → News h₀ L h' news' → (∀ p ∈ news, p ∈ news') → R (.ok (.ret (.bool v))) {s with heap := h', toks := tk'} := by
    intro h' tk' v news' hv F' N' hs
    subst hv
    exact post h' tk' F' (news_sub N' hs)
  clear post
  w_strict k_steps
  all_goals (try k_data)
  (rename Fr _ _ _ _ => fE)
  (rename News _ _ _ _ => nE)
  (rename (∀ p ∈ news, p.1 < _) => lt0)
  (with_unfolding_all refine' For_invVF fE ?k1 ?k2 ?_; (case k1 => exact rfl); (case k2 => exact rfl))
  w_strict k_steps
  all_goals (try k_data)
  refine viaG fun G hG => ?_
  obtain ⟨opr, mpr, ipr⟩ := H.pr
  refine hG ?_; clear hG
  refine iterKeys (fun i m nws => ChkO prog w news a W i m nws) hh lopr (.tail _ mpr) ipr fE nE ?_ ?_ ?_
  · exact ⟨[], _, _, rfl, rfl, rfl, fun p hp => .tail _ hp, .head _, by assumption, by assumption, fun p hp => Nat.ne_of_lt (lt0 p hp), .nil, by simp, rfl⟩
  · clear fE nE
    intro i k v t m₁ news₁ hp tk I own hkv hJ hnI hoI hown F₁ N₁
    refine viaG fun G hG => ?_
    obtain ⟨met, dm, om, k1, k2, k3, mn, mdm, imet, lom, fdm, ndm, rdm, hcs⟩ := hJ
    have hi : (i = 0 ∧ k = 3) ∨ (i = 1 ∧ k = 4) := by
      match i, hkv with
      | 0, hkv => left; simp at hkv; exact ⟨rfl, hkv.1.symm⟩
      | 1, hkv => right; simp at hkv; exact ⟨rfl, hkv.1.symm⟩
      | i + 2, hkv => simp at hkv
    have hi2 : i < 2 := by omega
    have hek : k = 3 + (i : Int) := by omega
    have hk : Two k := by unfold Two; omega
    have vpr : valueAt [((3 : Int), Value.ref (a.p 3)), (4, .ref (a.p 4))] k = some (.ref (a.p k)) := by
      rcases hk with e | e <;> rw [e] <;> rfl
    obtain ⟨led, nL, up, upo⟩ : ∃ l, News _ _ _ l ∧ (∀ p ∈ news₁, p ∈ l) ∧ (∀ p ∈ own, p ∈ l) := ⟨_, N₁, fun p hp => List.mem_append_right _ hp, fun p hp => List.mem_append_left _ hp⟩
    have F₂ := fr_in F₁ (m_put2 (m_put2 (m_put k1) k2) k3)
    clear F₁ N₁
    have HL : Has prog w led a W := H.mono (fun p hp => up _ (mn p hp))
    have mst := HL.st
    obtain ⟨ost, mdst, τs, rfl⟩ := HL.dst
    obtain ⟨ord, mrd, ird⟩ := HL.rd
    have lord := HL.rdlo.1
    have mp := HL.p k hk
    obtain ⟨od, md, τp, rfl⟩ := HL.d k hk
    have mpr0 := mpr
    replace mpr := up _ (mn _ mpr)
    refine hG ?_; clear hG
    w_strict k_steps
    all_goals (try k_data)
    (rename Fr _ _ _ _ => fE)
    (rename News _ _ _ _ => nE)
    generalize hRES : walkC W.recs W.gen k (W.recs.length + 1) met (-1) (W.fst k) = RES
    have hcs1 : cs W (i + 1) = RES.bind fun q => if q.2 = W.lst k then some q.1 else none := by
      show (cs W i).bind _ = _
      rw [hcs, ← hek]
      show (walkC W.recs W.gen k (W.recs.length + 1) met (-1) (W.fst k)).bind _ = _
      rw [hRES]
    refine While_inv2 (fun n m nws => ChkJ prog w (off [dm] led) a W k RES n m nws) (n₀ := W.recs.length + 1) fE nE ⟨met, -1, W.fst k, dm, om, _, _, _, rfl, rfl, rfl, rfl, rfl, rfl, rfl, (fun p hp => (of_off hp).1), up _ mdm, imet, lom, off_ne (by simp), ndm, rdm, by omega, hRES⟩ ?_
    clear fE nE
    intro n m₂ nws h₂ tk₂ F₂ N₂ hJ
    refine viaG fun G hG => ?_
    obtain ⟨met', last, place, dm', om', tl, tp, tf, e1, e2, e3, e4, e5, e6, e7, mn', mdm', imet', lom', fdm', ndm', rdm', hlen', hw⟩ := hJ
    replace F₂ := fr_to F₂ (m_put2 (m_put2 (m_put2 (m_put2 (m_put2 (m_put2 (m_put e1) e2) e3) e4) e5) e6) e7)
    have sub : ∀ p ∈ news, p ∈ nws := fun p hp => mn' _ (mem_off (up _ (mn p hp)) (by simpa using fdm p hp))
    have HL := H.mono sub
    clear mst mdst mrd ird lord mp md mpr
    have mst := HL.st
    obtain ⟨ost, mdst, τs, rfl⟩ := HL.dst
    obtain ⟨ord, mrd, ird⟩ := HL.rd
    have lord := HL.rdlo.1
    have mp := HL.p k hk
    obtain ⟨od, md, τp, rfl⟩ := HL.d k hk
    have inl : ∀ p ∈ news, p ∈ off [dm] led := fun p hp => mem_off (up _ (mn p hp)) (by simpa using fdm p hp)
    have ino : ∀ p ∈ own, p ∈ off [dm] led := fun p hp => by
      rcases hown p hp with h | h
      · exact mem_off (upo p hp) (by rw [h]; simpa using (hnI _ mdm).symm)
      · subst h; exact mem_off (upo _ hp) (by simpa using fdm _ mpr0)
    obtain ⟨oI, hoI'⟩ := hoI
    have hIdm : @Ne Nat dm' I := (fdm' _ (ino _ hoI')).symm
    obtain ⟨n, rfl⟩ : ∃ n', n = n' + 1 := by
      have := met_len ndm' rdm'
      cases n with
      | zero => omega
      | succ n => exact ⟨n, rfl⟩
    by_cases hpl : place < 0
    · have hw1 : RES = some (met', last) := by rw [← hw, walkC, if_pos hpl]
      refine hG ?_; clear hG
      w_strict k_steps
      all_goals (try k_data)
      · dsimp only [TurnPost]
        w_strict k_steps
        all_goals (try k_data)
        refine fin _ _ _ _ (cs_fail hi2 ?_).symm (by assumption) (by assumption) sub
        rw [hcs1, hw1, Option.bind_some, if_neg (by assumption)]
      · refine TurnPost.nxt (by assumption) (by assumption) (fun p hp => mn' _ (ino p hp)) ?_
        refine ⟨met', dm', om', rfl, rfl, rfl, fun p hp => mem_off (sub p hp) (by simpa using hnI _ (mn p hp)), mem_off mdm' (by simpa using hIdm), imet', lom', fun p hp => fdm' _ (inl p hp), ndm', rdm', ?_⟩
        rw [hcs1, hw1, Option.bind_some, if_pos (by omega)]
    · rw [walkC, if_neg hpl] at hw
      cases hr : W.recs[place.toNat]? with
      | none =>
        rw [hr] at hw
        have hv : valueAt (recKvs a.ra) place = none := recKvs_none (.inr (by have := List.getElem?_eq_none_iff.mp hr; rw [H.len]; omega))
        by_cases hm : place ∈ met'
        · have hb : (valueAt (metKvs met') place).isSome = true := by rw [metKvs_val]; exact decide_eq_true hm
          refine hG ?_; clear hG
          w_strict k_steps
          all_goals (try k_data)
          dsimp only [WhileStep2]
          w_strict k_steps
          dsimp only [TurnPost]
          w_strict k_steps
          all_goals (try k_data)
          refine fin _ _ _ _ (cs_fail hi2 ?_).symm (by assumption) (by assumption) sub
          rw [hcs1, ← hw]; rfl
        · have hb : (valueAt (metKvs met') place).isSome = false := by rw [metKvs_val]; exact decide_eq_false hm
          refine hG ?_; clear hG
          w_strict k_steps
          all_goals (try k_data)
          refine wpAny_call (sound_none (Cx.inner B1 X1 T1 (by omega) (by omega) hh (by omega)) (by assumption) (by assumption) ?_)
          intro h₃ tk₃ F₃ N₃
          dsimp only
          w_strict k_steps
          all_goals (try k_data)
          dsimp only [WhileStep2]
          w_strict k_steps
          dsimp only [TurnPost]
          w_strict k_steps
          all_goals (try k_data)
          refine fin _ _ _ _ (cs_fail hi2 ?_).symm (by assumption) (by assumption) sub
          rw [hcs1, ← hw]; rfl
      | some r =>
        rw [hr] at hw
        dsimp only at hw
        have hlt := (List.getElem?_eq_some_iff.mp hr).1
        have ep : ((place.toNat : Nat) : Int) = place := Int.toNat_of_nonneg (by omega)
        obtain ⟨⟨x, d, kx⟩, hxa⟩ : ∃ q, a.ra[place.toNat]? = some q := ⟨_, List.getElem?_eq_getElem (by rw [H.len]; exact hlt)⟩
        have hv : valueAt (recKvs a.ra) place = some (.ref x) := by
          have := recKvs_val hxa
          rw [ep] at this; exact this
        obtain ⟨hx0, ⟨od2, hd0, iR⟩, -⟩ := H.recs _ x d kx r hxa hr
        have mx := sub _ hx0
        have me := sub _ hd0
        have iR2 := iR
        obtain ⟨τr, rfl⟩ := iR2
        by_cases hm : place ∈ met'
        · have hb : (valueAt (metKvs met') place).isSome = true := by rw [metKvs_val]; exact decide_eq_true hm
          rw [if_pos hm] at hw
          refine hG ?_; clear hG
          w_strict k_steps
          all_goals (try k_data)
          dsimp only [WhileStep2]
          w_strict k_steps
          dsimp only [TurnPost]
          w_strict k_steps
          all_goals (try k_data)
          refine fin _ _ _ _ (cs_fail hi2 ?_).symm (by assumption) (by assumption) sub
          rw [hcs1, ← hw]; rfl
        · rw [if_neg hm] at hw
          have hb : (valueAt (metKvs met') place).isSome = false := by rw [metKvs_val]; exact decide_eq_false hm
          refine hG ?_; clear hG
          w_strict k_steps
          all_goals (try k_data)
          refine wpAny_call (sound_spec (Cx.inner B1 X1 T1 (by omega) (by omega) hh (by omega)) (by assumption) (by assumption) mst mdst isSto_mk mx me iR ?_)
          intro h₃ tk₃ F₃ N₃
          by_cases hs : soundP r W.gen place k = true
          · rw [if_pos hs] at hw
            rw [hs]
            dsimp only
            (rename News _ _ h₃ _ => N₃)
            have N4 : News _ _ h₃ ((dm', om') :: off [dm'] nws) := news_cons N₃ mdm' (news_off N₃)
            have mx2 := mem_off (as := [dm']) mx (by simpa using fdm' _ (inl _ hx0))
            have md2 := mem_off (as := [dm']) me (by simpa using fdm' _ (inl _ hd0))
            have hz : (metKvs met').length ≤ sizeLine := by
              have := met_len ndm' rdm'
              rw [sizeLine_eq]; unfold metKvs; rw [List.length_map]; omega
            clear N₃ mst mdst mrd mp md mx me
            w_strict k_steps
            all_goals (try k_data)
            refine ⟨_, _, _, _, n, rfl, by assumption, by assumption, Nat.lt_succ_self n, ?_⟩
            refine ⟨met' ++ [place], place, r.next, dm', _, _, _, _, rfl, rfl, rfl, rfl, rfl, rfl, rfl, fun p hp => .tail _ (mem_off (mn' p hp) (by simpa using fdm' p hp)), .head _, ?_, lom', fdm', ?_, ?_, ?_, hw⟩
            · rw [← metKvs_stored hm]; assumption
            · rw [List.nodup_append]
              refine ⟨ndm', by simp, fun u hu v hv e => ?_⟩
              rw [List.mem_singleton] at hv
              subst hv; subst e; exact hm hu
            · intro k' hk'
              rcases List.mem_append.mp hk' with h | h
              · exact rdm' k' h
              · rw [List.mem_singleton] at h; omega
            · rw [List.length_append, List.length_singleton]; omega
          · rw [if_neg hs] at hw
            rw [Bool.not_eq_true] at hs
            rw [hs]
            dsimp only
            w_strict k_steps
            all_goals (try k_data)
            dsimp only [WhileStep2]
            w_strict k_steps
            dsimp only [TurnPost]
            w_strict k_steps
            all_goals (try k_data)
            refine fin _ _ _ _ (cs_fail hi2 ?_).symm (by assumption) (by assumption) sub
            rw [hcs1, ← hw]; rfl
  · clear fE nE
    intro m₁ nws h tk hJ F₁ N₁
    obtain ⟨met, dm, om, k1, k2, k3, mn, mdm, imet, lom, fdm, ndm, rdm, hcs⟩ := hJ
    w_strict k_steps
    all_goals (try k_data)
    refine fin _ _ _ _ ?_ (by assumption) (by assumption) mn
    unfold checkP
    rw [show cs W 2 = some met from hcs]; rfl
end
section
section
variable {prog : Program} {w : World} {A : Around} {E : Value → Shared → Prop} {s : Shared} {h₀ : Heap} {L : Addr} {D : Nat} {m : Str → Option Value} {news : List (Addr × Obj)} {vs : List Value} {n : Nat} {ns : List Int}
theorem item_neg {k : Int} {t : Tok} {x : Value} {Q : Value → Shared → Prop} (N : News h₀ L s.heap news) (hm : (D, listOf vs.toArray n) ∈ news) (h0 : k < 0) (h1 : -(vs.length : Int) ≤ k) (hfit : -(2 ^ 63) ≤ k) (hx : vs[(k + vs.length).toNat]? = some x) (h : Q x s) :
    wpAny (model prog w) A (getItem (.ref D) (.int k t)) Q E s := wpAny_getItem_list_neg (PySem.IsL.isList (n := n) (N _ hm).1) h0 (by simpa using h1) hfit (by simpa using hx) h
theorem ne_mem {D' : Nat} {us : List Value} {n' : Nat} {ms : List Int} {Q : Value → Shared → Prop} (N : News h₀ L s.heap news) (hm : (D, listOf vs.toArray n) ∈ news) (hi : IntsAre vs ns) (hm' : (D', listOf us.toArray n') ∈ news) (hi' : IntsAre us ms) (hu : A.units < 9000)
    (h : Q (.bool (!decide (ns = ms))) s) : wpAny (model prog w) A (compareOp .NotEq (.ref D) (.ref D')) Q E s :=
  ne_intsK (PySem.IsL.isList (n := n) (N _ hm).1) hi (PySem.IsL.isList (n := n') (N _ hm').1) hi' (by rw [cLine_is]; omega) h
theorem ne_nil {D' : Nat} {n' : Nat} {Q : Value → Shared → Prop} (N : News h₀ L s.heap news) (hm : (D, listOf vs.toArray n) ∈ news) (hi : IntsAre vs ns) (hm' : (D', listOf #[] n') ∈ news) (hu : A.units < 9000)
    (h : Q (.bool (!decide (ns = []))) s) : wpAny (model prog w) A (compareOp .NotEq (.ref D) (.ref D')) Q E s := ne_mem (us := []) N hm hi hm' .nil hu h
end
section
variable {prog : Program} {w : World} {A : Around} {E : Value → Shared → Prop} {s : Shared} {h₀ : Heap} {L : Addr} {D : Addr} {news : List (Addr × Obj)} {vs : List Value} {n : Nat}
theorem ltailA {key : Int} {t : Tok} {value slice : PySem.Expr} {Q : Value → Shared → Prop} (N : News h₀ L s.heap news := by k_asm) (hm : (D, listOf vs.toArray n) ∈ news := by k_mem)
    (hs : subscripted slice false (.ref D) (.int key t) = operate [.ref D, .int key t] (getItem (.ref D) (.int key t)) := by with_unfolding_all rfl) (h : wpAny (model prog w) A (getItem (.ref D) (.int key t)) Q E s) : wpAny (model prog w) A (subscriptTail value slice (.ref D) (.int key t)) Q E s := tail_mem N hm h hs
theorem itemA {k : Int} {t : Tok} {x : Value} {Q : Value → Shared → Prop} (N : News h₀ L s.heap news := by k_asm) (hm : (D, listOf vs.toArray n) ∈ news := by k_mem) (h0 : 0 ≤ k := by omega) (h1 : k < 2 ^ 63 := by omega) (hx : vs[k.toNat]? = some x := by assumption) (h : Q x s) :
    wpAny (model prog w) A (getItem (.ref D) (.int k t)) Q E s := item_mem N hm h0 h1 hx h
theorem itemNegA {k : Int} {t : Tok} {x : Value} {Q : Value → Shared → Prop} (N : News h₀ L s.heap news := by k_asm) (hm : (D, listOf vs.toArray n) ∈ news := by k_mem) (h0 : k < 0 := by omega) (h1 : -(vs.length : Int) ≤ k := by omega) (hfit : -(2 ^ 63) ≤ k := by omega)
    (hx : vs[(k + vs.length).toNat]? = some x := by assumption) (h : Q x s) : wpAny (model prog w) A (getItem (.ref D) (.int k t)) Q E s := item_neg N hm h0 h1 hfit hx h
end
local macro_rules | `(tactic| walk_at "subscriptTail") => `(tactic| (k_here; (with_reducible show wpAny _ _ (subscriptTail _ _ (Value.ref _) (Value.int _ _)) _ _ _); k_dflt (refine ltailA (h := ?_))))
local macro_rules | `(tactic| walk_at "getItem ref int") => `(tactic| (k_here; k_dflt (first | refine itemA (h := ?_) | refine itemNegA (h := ?_))))
/-- the record as it stands after a spoiling, none when the way does not apply -/
noncomputable def spoilR (W : Wd) (n : Int) (spot : Nat) (way : Int) (r : RecV) : Option RecV :=
  if way = 0 then some { r with key := r.key + 20 }
  else if way = 1 then some { r with fn := 7 - n }
  else if way = 2 then some { r with birth := -1 }
  else if way = 3 then some { r with birth := W.gen + 5 }
  else if way = 4 then some { r with death := W.gen + 1 }
  else if way = 5 then some { r with death := r.birth }
  else if way = 6 then some { r with next := r.key }
  else if way = 7 then some { r with next := (W.row n).getD 0 0 }
  else if way = 8 ∧ W.row (7 - n) ≠ [] then some { r with next := (W.row (7 - n)).getLastD 0 }
  else if way = 9 then some { r with next := 77 }
  else if way = 10 ∧ spot + 1 ≠ (W.row n).length then some { r with next := -1 }
  else none
section
variable {W : Wd} {n way : Int} {spot : Nat} {r : RecV}
theorem sp0 (h : way = 0) : spoilR W n spot way r = some { r with key := r.key + 20 } := by subst h; rfl
theorem sp1 (h : way = 1) : spoilR W n spot way r = some { r with fn := 7 - n } := by subst h; rfl
theorem sp2 (h : way = 2) : spoilR W n spot way r = some { r with birth := -1 } := by subst h; rfl
theorem sp3 (h : way = 3) : spoilR W n spot way r = some { r with birth := W.gen + 5 } := by subst h; rfl
theorem sp4 (h : way = 4) : spoilR W n spot way r = some { r with death := W.gen + 1 } := by subst h; rfl
theorem sp5 (h : way = 5) : spoilR W n spot way r = some { r with death := r.birth } := by subst h; rfl
theorem sp6 (h : way = 6) : spoilR W n spot way r = some { r with next := r.key } := by subst h; rfl
theorem sp7 (h : way = 7) : spoilR W n spot way r = some { r with next := (W.row n).getD 0 0 } := by subst h; rfl
theorem sp8 (h : way = 8) (hne : W.row (7 - n) ≠ []) : spoilR W n spot way r = some { r with next := (W.row (7 - n)).getLastD 0 } := by subst h; simp [spoilR, hne]
theorem sp8n (h : way = 8) (hne : W.row (7 - n) = []) : spoilR W n spot way r = none := by subst h; simp [spoilR, hne]
theorem sp9 (h : way = 9) : spoilR W n spot way r = some { r with next := 77 } := by subst h; simp [spoilR]
theorem sp10 (h : way = 10) (hl : spot + 1 ≠ (W.row n).length) : spoilR W n spot way r = some { r with next := -1 } := by subst h; simp [spoilR, hl]
theorem sp10n (h : way = 10) (hl : spot + 1 = (W.row n).length) : spoilR W n spot way r = none := by subst h; simp [spoilR, hl]
theorem spx (h0 : way ≠ 0) (h1 : way ≠ 1) (h2 : way ≠ 2) (h3 : way ≠ 3) (h4 : way ≠ 4) (h5 : way ≠ 5) (h6 : way ≠ 6) (h7 : way ≠ 7) (h8 : way ≠ 8) (h9 : way ≠ 9) (h10 : way ≠ 10) : spoilR W n spot way r = none := by
  simp [spoilR, h0, h1, h2, h3, h4, h5, h6, h7, h8, h9, h10]
end
set_option maxRecDepth 100000 in
set_option maxHeartbeats 16000000 in
theorem spoil_spec {prog : Program} {w : World} {A₀ A : Around} {s : Shared} {base h₀ : Heap} {outer : List Env} {env : Env} {L : Addr} {m : Str → Option Value} {news : List (Addr × Obj)}
   {mean : ExcName → Option Value} {mg mb : Str → Option Value} {R : Result → Shared → Prop} {a : Ad} {W : Wd} {n way : Int} {spot i : Nat} {r : RecV} {t1 t2 t3 : Tok}
   (C : Cx w A₀ A base h₀ outer env L mean mg mb 350) (F : Fr h₀ L s.heap m) (N : News h₀ L s.heap news) (H : Has prog w news a W) (hn : Two n) (hsp : (W.row n)[spot]? = some (i : Int)) (hr : W.recs[i]? = some r) (hlen : (W.row n).length ≤ 20) (hlen2 : (W.row (7 - n)).length ≤ 20)
   (post : ∀ h' tk' news' v W', Fr h₀ L h' m → News h₀ L h' news' → (v = (spoilR W n spot way r).isSome) → (∀ r', spoilR W n spot way r = some r' → W' = { W with recs := W.recs.set i r' }) → Has prog w news' a W' → (∀ p ∈ news, ¬ a.In p.1 → p ∈ news') → R (.ok (.ret (.bool v))) {s with heap := h', toks := tk'}) :
   codeAny (model prog w) A (.call (.ref 204) ⟨[.ref a.st, .ref a.rw, .int n t1, .int (spot : Int) t2, .int way t3], []⟩) R s := by
  have kk : withK PySem.Challenge.rw_rr0016_01 topK.heap_1 := by k_fill; trivial
  w_top off
  refine viaG fun G hG => ?_
  obtain ⟨B, X, T, hA, hf, hke, hroom, hunits, hh⟩ := C
  have hn7 : Two (7 - n) := by unfold Two at *; omega
  have hlt := (List.getElem?_eq_some_iff.mp hsp).1
  obtain ⟨⟨x, d, kx⟩, hxa⟩ : ∃ q, a.ra[i]? = some q := ⟨_, List.getElem?_eq_getElem (by rw [H.len]; exact (List.getElem?_eq_some_iff.mp hr).1)⟩
  obtain ⟨mx, ⟨od, md, iR⟩, -⟩ := H.recs i x d kx r hxa hr
  have sd : a.at (.e i) = some d := by simp [Ad.at, hxa]
  have go : ∀ (t : Sl) (u : Nat) (o : Obj), a.at t = some u → t ≠ .e i → (u, o) ∈ news → (u, o) ∈ off [d] news := fun t u o ht hne hm => mem_off hm (by simpa using H.ne t (.e i) ht sd hne)
  have N1 : News h₀ L s.heap ((d, od) :: off [d] news) := news_cons N md (news_off N)
  obtain ⟨orw, mrw, irw⟩ := H.rw
  obtain ⟨ost, mdst, τs, rfl⟩ := H.dst
  obtain ⟨ord, mrd, ird⟩ := H.rd
  have lord := H.rdlo.1
  obtain ⟨vs, e1, ml1, il1⟩ := H.l n hn
  obtain ⟨us, e2, ml2, il2⟩ := H.l (7 - n) hn7
  have mst := go .st _ _ rfl (by simp) H.st
  replace mdst := go .dst _ _ rfl (by simp) mdst
  replace mrd := go .rd _ _ rfl (by simp) mrd
  replace mrw := go .rw _ _ rfl (by simp) mrw
  replace ml1 := go (.l n) _ _ (by simp [Ad.at, hn]) (by simp) ml1
  replace ml2 := go (.l (7 - n)) _ _ (by simp [Ad.at, hn7]) (by simp) ml2
  replace mx := go (.x i) _ _ (by simp [Ad.at, hxa]) (by simp) mx
  have v1 : valueAt [((3 : Int), Value.ref (a.l 3)), (4, .ref (a.l 4))] n = some (.ref (a.l n)) := by rcases hn with e | e <;> rw [e] <;> rfl
  have v2 : valueAt [((3 : Int), Value.ref (a.l 3)), (4, .ref (a.l 4))] (7 - n) = some (.ref (a.l (7 - n))) := by rcases hn with e | e <;> rw [e] <;> rfl
  have v3 : valueAt (recKvs a.ra) (i : Int) = some (.ref x) := recKvs_val hxa
  obtain ⟨ti, hx1⟩ := il1.get spot _ hsp
  obtain ⟨t0, hx0⟩ := il1.get 0 ((W.row n).getD 0 0) (by rw [List.getD_eq_getElem?_getD, List.getElem?_eq_getElem (by omega)]; rfl)
  have hx1' : vs[((spot : Nat) : Int).toNat]? = some (.int (i : Int) ti) := hx1
  have hx0' : vs[(0 : Int).toNat]? = some (.int ((W.row n).getD 0 0) t0) := hx0
  have hl1 := il1.length
  have hl2 := il2.length
  have hz1 : (W.row n).length ≤ 1000 := by omega
  have hb : @LT.lt Nat _ spot 20 := by omega
  have iRr := iR
  have finN : ∀ h' tk' nws, spoilR W n spot way r = none → (∀ p ∈ off [d] news, p ∈ nws) → (d, od) ∈ nws → Fr h₀ L h' m → News h₀ L h' nws → R (.ok (.ret (.bool false))) {s with heap := h', toks := tk'} := by
    intro h' tk' nws e1 e3 e4 F' N'
    have hk : ∀ p ∈ news, p ∈ nws := by
      intro p hp
      by_cases e : p.1 = d
      · have : p = (d, od) := Prod.ext e (news_same N hp (e ▸ md))
        rw [this]; exact e4
      · exact e3 p (mem_off hp (by simpa using e))
    exact post h' tk' _ false W F' N' (by rw [e1]; rfl) (fun q hq => by rw [e1] at hq; cases hq) (H.mono hk) (fun p hp _ => hk p hp)
  obtain ⟨τr, rfl⟩ := iR
  have hlast : W.row (7 - n) ≠ [] → -(us.length : Int) ≤ -1 ∧ ∃ t, us[(-1 + (us.length : Int)).toNat]? = some (.int ((W.row (7 - n)).getLastD 0) t) := by
    intro hne
    have hp := List.length_pos_iff.mpr hne
    have e3 : (-1 + (us.length : Int)).toNat = (W.row (7 - n)).length - 1 := by omega
    refine ⟨by omega, ?_⟩
    rw [e3]
    refine il2.get _ _ ?_
    rw [← List.getLast?_eq_getElem?, List.getLastD_eq_getLast?, List.getLast?_eq_some_getLast hne]; rfl
  have fin : ∀ h' tk' nd r', spoilR W n spot way r = some r' → r'.kd = r.kd → IsRec w.params nd r' kx → Fr h₀ L h' m → News h₀ L h' ((d, nd) :: off [d] news) → R (.ok (.ret (.bool true))) {s with heap := h', toks := tk'} := by
    intro h' tk' nd r' e1 e3 e4 F' N'
    refine post h' tk' _ true _ F' N' (by rw [e1]; rfl) ?_ (H.setRec (i := i) hxa hr e3 e4) ?_
    · intro q hq; rw [e1] at hq; cases hq; rfl
    · intro p hp hpn
      refine .tail _ (mem_off hp ?_)
      simp only [List.mem_singleton]
      exact fun e => hpn (e ▸ ⟨_, sd⟩)
  clear post hx1 hx0 md N
  refine hG ?_; clear hG
  w_strict (k_enter; k_steps)
  all_goals (try k_data)
  all_goals (try (first
    | exact fin _ _ _ _ (sp0 (by assumption)) rfl (isRec_mk ⟨rfl, rfl, rfl, rfl, rfl⟩) (by assumption) (by assumption)
    | exact fin _ _ _ _ (sp1 (by assumption)) rfl (isRec_mk ⟨rfl, rfl, rfl, rfl, rfl⟩) (by assumption) (by assumption)
    | exact fin _ _ _ _ (sp2 (by assumption)) rfl (isRec_mk ⟨rfl, rfl, rfl, rfl, rfl⟩) (by assumption) (by assumption)
    | exact fin _ _ _ _ (sp3 (by assumption)) rfl (isRec_mk ⟨rfl, rfl, rfl, rfl, rfl⟩) (by assumption) (by assumption)
    | exact fin _ _ _ _ (sp4 (by assumption)) rfl (isRec_mk ⟨rfl, rfl, rfl, rfl, rfl⟩) (by assumption) (by assumption)
    | exact fin _ _ _ _ (sp5 (by assumption)) rfl (isRec_mk ⟨rfl, rfl, rfl, rfl, rfl⟩) (by assumption) (by assumption)
    | exact fin _ _ _ _ (sp6 (by assumption)) rfl (isRec_mk ⟨rfl, rfl, rfl, rfl, rfl⟩) (by assumption) (by assumption)
    | exact fin _ _ _ _ (sp7 (by assumption)) rfl (isRec_mk ⟨rfl, rfl, rfl, rfl, rfl⟩) (by assumption) (by assumption)
    | exact fin _ _ _ _ (sp9 (by assumption)) rfl (isRec_mk ⟨rfl, rfl, rfl, rfl, rfl⟩) (by assumption) (by assumption)
    | exact fin _ _ _ _ (sp10 (by assumption) (by omega)) rfl (isRec_mk ⟨rfl, rfl, rfl, rfl, rfl⟩) (by assumption) (by assumption)
    | exact finN _ _ _ (sp10n (by assumption) (by omega)) (fun p hp => .tail _ hp) (.head _) (by assumption) (by assumption)
    | exact finN _ _ _ (spx (by assumption) (by assumption) (by assumption) (by assumption) (by assumption) (by assumption) (by assumption) (by assumption) (by assumption) (by assumption) (by assumption)) (fun p hp => .tail _ hp) (.head _) (by assumption) (by assumption)))
  refine' ne_nil ?N ?M ?i ?O ?u ?_
  case N => k_asm
  case M => k_mem
  case i => assumption
  case O => k_mem
  case u => exact (show A.units + 3 < 9000 by omega)
  k_whole
  by_cases hne : W.row (7 - n) = []
  · w_strict k_steps
    all_goals (first | (exfalso; omega) | exact finN _ _ _ (sp8n (by assumption) hne) (fun p hp => .tail _ (.tail _ hp)) (.tail _ (.head _)) (by assumption) (by assumption))
  · obtain ⟨q1, tl, q2⟩ := hlast hne
    w_strict k_steps
    (rename News _ _ _ _ => nE)
    exact fin _ _ _ _ (sp8 (by assumption) hne) rfl (isRec_mk ⟨rfl, rfl, rfl, rfl, rfl⟩) (by assumption) (news_sub nE (fun p hp => .tail _ hp))
end
section
/-! the index keys compared -/
noncomputable def keyData (kd : Nat) : PyData := match kd with
  | 0 => .tuple [.str (Str.ofString "var")]
  | 1 => .tuple [.str (Str.ofString "list")]
  | 2 => .tuple [.str (Str.ofString "struct"), .int 9]
  | _ => .tuple [.str (Str.ofString "struct"), .int 8]
theorem key_reads {h : Heap} {k : Nat} {o : Obj} {kd : Nat} (hg : h.get? k = some o) (hk : IsKey o kd) : Reads h (.ref k) (keyData kd) [] := by
  obtain ⟨t, t', n, rfl⟩ := hk
  match kd with
  | 0 => exact Reads.tuple hg rfl rfl (ReadsAll.cons (.str _ _) .nil)
  | 1 => exact Reads.tuple hg rfl rfl (ReadsAll.cons (.str _ _) .nil)
  | 2 => exact Reads.tuple hg rfl rfl (ReadsAll.cons (.str _ _) (ReadsAll.cons (.int _ _) .nil))
  | _ + 3 => exact Reads.tuple hg rfl rfl (ReadsAll.cons (.str _ _) (ReadsAll.cons (.int _ _) .nil))
theorem key_cases {k : Nat} (h : k ≤ 3) : k = 0 ∨ k = 1 ∨ k = 2 ∨ k = 3 := by omega
theorem key_shaped (kd : Nat) : PySem.SeqAt.shaped (keyData kd) = true := by
  match kd with
  | 0 => simp [keyData, PySem.SeqAt.shaped, PyData.canLay0, PyData.canLayAll0, PyData.depth, PyData.depthAll]; with_unfolding_all rfl
  | 1 => simp [keyData, PySem.SeqAt.shaped, PyData.canLay0, PyData.canLayAll0, PyData.depth, PyData.depthAll]; with_unfolding_all rfl
  | 2 => simp [keyData, PySem.SeqAt.shaped, PyData.canLay0, PyData.canLayAll0, PyData.depth, PyData.depthAll]; with_unfolding_all rfl
  | _ + 3 => simp [keyData, PySem.SeqAt.shaped, PyData.canLay0, PyData.canLayAll0, PyData.depth, PyData.depthAll]; with_unfolding_all rfl
theorem key_noMix {a b : Nat} (ha : a ≤ 3) (hb : b ≤ 3) : PySem.SeqAt.noMix (keyData a) (keyData b) = true := by
  rcases key_cases ha with rfl | rfl | rfl | rfl <;> rcases key_cases hb with rfl | rfl | rfl | rfl <;> decide
theorem key_same {a b : Nat} (ha : a ≤ 3) (hb : b ≤ 3) : PySem.Spec.same (keyData a) (keyData b) = decide (a = b) := by
  rcases key_cases ha with rfl | rfl | rfl | rfl <;> rcases key_cases hb with rfl | rfl | rfl | rfl <;> decide
theorem eq_key {prog : Program} {w : World} {A : Around} {E : Value → Shared → Prop} {s : Shared} {k1 k2 : Nat} {o1 o2 : Obj} {a b : Nat} {Q : Value → Shared → Prop} (h1 : s.heap.get? k1 = some o1) (h2 : s.heap.get? k2 = some o2) (i1 : IsKey o1 a) (i2 : IsKey o2 b) (ha : a ≤ 3) (hb : b ≤ 3) (hu : A.units < 9000)
    (h : Q (.bool (decide (a = b))) s) : wpAny (model prog w) A (compareOp .Eq (.ref k1) (.ref k2)) Q E s :=
  eq_dataH_same (key_reads h1 i1) (key_reads h2 i2) (key_shaped a) (key_shaped b) (by rw [cLine_is]; omega) (key_noMix ha hb) (by rw [key_same ha hb]; exact h)
theorem var_22 (P : Params) : ∃ o, (topK.heap_1 P).lookup 22 = some o ∧ IsKey o 0 := ⟨_, rfl, _, (0 : Nat), _, rfl⟩
noncomputable def matP (a b : Nat) : Bool := decide (a = 0 ∨ b = 0 ∨ a = b)
set_option maxRecDepth 100000 in
set_option maxHeartbeats 4000000 in
theorem match_spec {prog : Program} {w : World} {A₀ A : Around} {s : Shared} {base h₀ : Heap} {outer : List Env} {env : Env} {L : Addr} {m : Str → Option Value} {news : List (Addr × Obj)}
   {mean : ExcName → Option Value} {mg mb : Str → Option Value} {R : Result → Shared → Prop} {k1 k2 : Nat} {o1 o2 : Obj} {a b : Nat}
   (C : Cx w A₀ A base h₀ outer env L mean mg mb 500) (F : Fr h₀ L s.heap m) (N : News h₀ L s.heap news)
   (h1 : (k1, o1) ∈ news) (h2 : (k2, o2) ∈ news) (i1 : IsKey o1 a) (i2 : IsKey o2 b) (ha : a ≤ 3) (hb : b ≤ 3)
   (post : ∀ h' tk', Fr h₀ L h' m → News h₀ L h' news → R (.ok (.ret (.bool (matP a b)))) {s with heap := h', toks := tk'}) :
   codeAny (model prog w) A (.call (.ref 29) ⟨[.ref k1, .ref k2], []⟩) R s := by
  have kk : withK PySem.Challenge.rw_rr0016_01 topK.heap_1 := by k_fill; trivial
  w_top off
  obtain ⟨B, X, T, hA, hf, hke, hroom, hunits, hh⟩ := C
  obtain ⟨ov, hov, iv⟩ := var_22 w.params
  have fin : ∀ h' tk' v, v = matP a b → Fr h₀ L h' m → News h₀ L h' news → R (.ok (.ret (.bool v))) {s with heap := h', toks := tk'} := by
    intro h' tk' v hv F' N'
    subst hv
    exact post h' tk' F' N'
  clear post
  have hu : A.units + 3 < 9000 := by omega
  w_strict k_enter
  (rename (topK.heap_1 w.params).In _ => X1)
  w_strict k_steps
  (rename Fr _ _ _ _ => fE)
  (rename News _ _ _ _ => nE)
  refine eq_key (nE _ h1).1 (fE.keep _ _ (X1 _ _ hov)) i1 iv ha (by omega) hu ?_
  by_cases e1 : a = 0
  · rw [decide_eq_true e1]
    try dsimp only
    w_strict k_steps
    all_goals (try k_data)
    exact fin _ _ _ (by unfold matP; rw [decide_eq_true (.inl e1)]) (by assumption) (by assumption)
  · rw [decide_eq_false e1]
    try dsimp only
    w_strict k_steps
    (rename Fr _ _ _ _ => fE)
    (rename News _ _ _ _ => nE)
    refine eq_key (nE _ h2).1 (fE.keep _ _ (X1 _ _ hov)) i2 iv hb (by omega) hu ?_
    by_cases e2 : b = 0
    · rw [decide_eq_true e2]
      try dsimp only
      w_strict k_steps
      all_goals (try k_data)
      exact fin _ _ _ (by unfold matP; rw [decide_eq_true (.inr (.inl e2))]) (by assumption) (by assumption)
    · rw [decide_eq_false e2]
      try dsimp only
      w_strict k_steps
      (rename Fr _ _ _ _ => fE)
      (rename News _ _ _ _ => nE)
      refine eq_key (nE _ h1).1 (nE _ h2).1 i1 i2 ha hb hu ?_
      w_strict k_steps
      all_goals (try k_data)
      refine fin _ _ _ ?_ (by assumption) (by assumption)
      unfold matP
      rw [decide_eq_decide]
      omega
end
section
/-! the live chain in plain data -/
noncomputable def visP (r : RecV) (g : Int) : Bool := decide (r.birth ≤ g ∧ (r.death < 0 ∨ r.death > g))
noncomputable def aliveP (W : Wd) (g : Int) (c : Nat) (k : Int) : Bool := match W.recs[k.toNat]? with
  | some r => visP r g && matP r.kd c
  | none => false
noncomputable def firstP (W : Wd) (g : Int) (c : Nat) (l : List Int) : Int := (l.filter (aliveP W g c)).head?.getD (-1)
theorem firstP_nil {W : Wd} {g : Int} {c : Nat} : firstP W g c [] = -1 := rfl
theorem firstP_pos {W : Wd} {g : Int} {c : Nat} {k : Int} {l : List Int} (h : aliveP W g c k = true) : firstP W g c (k :: l) = k := by
  unfold firstP; rw [List.filter_cons_of_pos h]; rfl
theorem firstP_neg {W : Wd} {g : Int} {c : Nat} {k : Int} {l : List Int} (h : aliveP W g c k = false) : firstP W g c (k :: l) = firstP W g c l := by
  unfold firstP; rw [List.filter_cons_of_neg (by rw [h]; simp)]
def LiveJ (news : List (Addr × Obj)) (a : Ad) (W : Wd) (f g : Int) (c : Nat) (kc : Nat) (RES : Int) (n : Nat) (m : Str → Option Value) (nws : List (Addr × Obj)) : Prop :=
  ∃ (q : Nat) (place : Int) (tp tg : Tok), nws = news ∧ m (Str.ofString "self") = some (.ref a.st) ∧ m (Str.ofString "place") = some (.int place tp) ∧ m (Str.ofString "g") = some (.int g tg) ∧ m (Str.ofString "cell_key") = some (.ref kc) ∧
    place = (W.row f)[q]?.getD (-1) ∧ q ≤ (W.row f).length ∧ n = (W.row f).length - q ∧ firstP W g c ((W.row f).drop q) = RES
set_option maxRecDepth 100000 in
set_option maxHeartbeats 16000000 in
theorem live_spec {prog : Program} {w : World} {A₀ A : Around} {s : Shared} {base h₀ : Heap} {outer : List Env} {env : Env} {L : Addr} {m : Str → Option Value} {news : List (Addr × Obj)}
   {mean : ExcName → Option Value} {mg mb : Str → Option Value} {R : Result → Shared → Prop} {a : Ad} {W : Wd} {n0 p c kc : Nat} {f g place : Int} {okc : Obj} {t1 t2 : Tok}
   (C : Cx w A₀ A base h₀ outer env L mean mg mb 450) (F : Fr h₀ L s.heap m) (N : News h₀ L s.heap news) (H : Has prog w news a W) (hW : Wf W n0) (hn : Two f) (hp : p ≤ (W.row f).length) (hpl : place = (W.row f)[p]?.getD (-1))
   (hkc : (kc, okc) ∈ news) (ikc : IsKey okc c) (hc : c ≤ 3)
   (post : ∀ h' tk' t, Fr h₀ L h' m → News h₀ L h' news → R (.ok (.ret (.int (firstP W g c ((W.row f).drop p)) t))) {s with heap := h', toks := tk'}) :
   codeAny (model prog w) A (.call (.ref 127) ⟨[.ref a.st, .int place t1, .int g t2, .ref kc], []⟩) R s := by
  have kk : withK PySem.Challenge.rw_rr0016_01 topK.heap_1 := by k_fill; trivial
  w_top off
  refine viaG fun G hG => ?_
  obtain ⟨B, X, T, hA, hf, hke, hroom, hunits, hh⟩ := C
  have fin : ∀ h' tk' v t, v = firstP W g c ((W.row f).drop p) → Fr h₀ L h' m → News h₀ L h' news → R (.ok (.ret (.int v t))) {s with heap := h', toks := tk'} := by
    intro h' tk' v t hv F' N'
    subst hv
    exact post h' tk' t F' N'
  clear post
  obtain ⟨ost, mdst, τs, rfl⟩ := H.dst
  obtain ⟨ord, mrd, ird⟩ := H.rd
  have lord := H.rdlo.1
  have mst := H.st
  refine hG ?_; clear hG
  w_strict k_enter
  (rename Below A _ _ _ => B1)
  (rename (topK.heap_1 w.params).In _ => X1)
  (rename Top _ _ _ _ _ _ => T1)
  w_strict k_steps
  all_goals (try k_data)
  (rename Fr _ _ _ _ => fE)
  (rename News _ _ _ _ => nE)
  refine While_inv2 (fun n m nws => LiveJ news a W f g c kc (firstP W g c ((W.row f).drop p)) n m nws) (n₀ := (W.row f).length - p) fE nE ⟨p, place, _, _, rfl, rfl, rfl, rfl, rfl, hpl, hp, rfl, rfl⟩ ?_
  clear fE nE
  intro n m₂ nws h₂ tk₂ F₂ N₂ hJ
  obtain ⟨q, place', tp, tg, rfl, e1, e2, e3, e4, hpl', hq, hn', hR⟩ := hJ
  replace F₂ := fr_to F₂ (m_put2 (m_put2 (m_put2 (m_put e1) e2) e3) e4)
  cases hx : (W.row f)[q]? with
  | none =>
    rw [hx] at hpl'
    refine viaG fun G hG => ?_
    obtain rfl : place' = -1 := hpl'
    have hd' : (W.row f).drop q = [] := List.drop_eq_nil_of_le (List.getElem?_eq_none_iff.mp hx)
    rw [hd'] at hR
    refine hG ?_; clear hG
    w_strict k_steps
    all_goals (try k_data)
    exact fin _ _ _ _ hR (by assumption) (by assumption)
  | some k =>
    refine viaG fun G hG => ?_
    obtain ⟨i, r, rfl, hr, hfn, hnx⟩ := hW.row f hn q k hx
    rw [hx] at hpl'
    obtain rfl : place' = (i : Int) := hpl'
    have hlt := (List.getElem?_eq_some_iff.mp hx).1
    have hd' : (W.row f).drop q = (i : Int) :: (W.row f).drop (q + 1) := by rw [List.drop_eq_getElem_cons hlt, (List.getElem?_eq_some_iff.mp hx).2]
    rw [hd'] at hR
    obtain ⟨⟨x, d, kx⟩, hxa⟩ : ∃ q, a.ra[i]? = some q := ⟨_, List.getElem?_eq_getElem (by rw [H.len]; exact (List.getElem?_eq_some_iff.mp hr).1)⟩
    have hv : valueAt (recKvs a.ra) (i : Int) = some (.ref x) := recKvs_val hxa
    obtain ⟨mx, ⟨od, md, iR⟩, okx, mkx, ikx⟩ := H.recs i x d kx r hxa hr
    obtain ⟨τr, rfl⟩ := iR
    have hal : aliveP W g c (i : Int) = (visP r g && matP r.kd c) := by
      unfold aliveP; rw [Int.toNat_natCast, hr]
    have nxt : aliveP W g c (i : Int) = false → firstP W g c ((W.row f).drop (q + 1)) = firstP W g c ((W.row f).drop p) := fun h => by rw [← hR, firstP_neg h]
    have now : aliveP W g c (i : Int) = true → (i : Int) = firstP W g c ((W.row f).drop p) := fun h => by rw [← hR, firstP_pos h]
    have hkd := (hW.each i r hr).2.2.2.2
    refine hG ?_; clear hG
    w_strict k_steps
    all_goals (try k_data)
    iterate 2
      · have hvis : visP r g = true := decide_eq_true (by omega)
        refine wpAny_call (match_spec (Cx.inner B1 X1 T1 (by omega) (by omega) hh (by omega)) (by assumption) (by assumption) mkx hkc ikx ikc (by omega) hc ?_)
        intro h₃ tk₃ F₃ N₃
        by_cases hm : matP r.kd c = true
        · rw [hm]
          try dsimp only
          w_strict k_steps
          all_goals (try k_data)
          dsimp only [WhileStep2]
          w_strict k_steps
          all_goals (try k_data)
          exact fin _ _ _ _ (now (by rw [hal, hvis, hm]; rfl)) (by assumption) (by assumption)
        · rw [Bool.not_eq_true] at hm
          rw [hm]
          try dsimp only
          w_strict k_steps
          all_goals (try k_data)
          exact ⟨_, _, _, _, (W.row f).length - (q + 1), rfl, by assumption, by assumption, by omega, q + 1, r.next, _, _, rfl, rfl, rfl, rfl, rfl, hnx, hlt, rfl, nxt (by rw [hal, hm, Bool.and_false])⟩
    all_goals (exact ⟨_, _, _, _, (W.row f).length - (q + 1), rfl, by assumption, by assumption, by omega, q + 1, r.next, _, _, rfl, rfl, rfl, rfl, rfl, hnx, hlt, rfl, nxt (by rw [hal, show visP r g = false from decide_eq_false (by omega), Bool.false_and])⟩)
end
section
set_option maxRecDepth 100000 in
set_option maxHeartbeats 16000000 in
theorem first_spec {prog : Program} {w : World} {A₀ A : Around} {s : Shared} {base h₀ : Heap} {outer : List Env} {env : Env} {L : Addr} {m : Str → Option Value} {news : List (Addr × Obj)}
   {mean : ExcName → Option Value} {mg mb : Str → Option Value} {R : Result → Shared → Prop} {a : Ad} {W : Wd} {n0 c kc : Nat} {f g : Int} {okc : Obj} {t2 : Tok}
   (C : Cx w A₀ A base h₀ outer env L mean mg mb 400) (F : Fr h₀ L s.heap m) (N : News h₀ L s.heap news) (H : Has prog w news a W) (hW : Wf W n0) (hn : Two f)
   (hkc : (kc, okc) ∈ news) (ikc : IsKey okc c) (hc : c ≤ 3)
   (post : ∀ h' tk' t, Fr h₀ L h' m → News h₀ L h' news → R (.ok (.ret (.int (firstP W g c (W.row f)) t))) {s with heap := h', toks := tk'}) :
   codeAny (model prog w) A (.call (.ref 134) ⟨[.ref a.st, .ref (a.p f), .int g t2, .ref kc], []⟩) R s := by
  have kk : withK PySem.Challenge.rw_rr0016_01 topK.heap_1 := by k_fill; trivial
  w_top off
  refine viaG fun G hG => ?_
  obtain ⟨B, X, T, hA, hf, hke, hroom, hunits, hh⟩ := C
  obtain ⟨ost, mdst, τs, rfl⟩ := H.dst
  have mst := H.st
  have mp := H.p f hn
  obtain ⟨od, md, τp, rfl⟩ := H.d f hn
  have hfst := hW.fst f hn
  refine hG ?_; clear hG
  w_strict k_enter
  (rename Below A _ _ _ => B1)
  (rename (topK.heap_1 w.params).In _ => X1)
  (rename Top _ _ _ _ _ _ => T1)
  w_strict k_steps
  all_goals (try k_data)
  refine wpAny_call (live_spec (Cx.inner B1 X1 T1 (by omega) (by omega) hh (by omega)) (by assumption) (by assumption) H hW hn (Nat.zero_le _) hfst hkc ikc hc ?_)
  intro h₃ tk₃ t₃ F₃ N₃
  try dsimp only
  w_strict k_steps
  all_goals (try k_data)
  exact post _ _ _ (by assumption) (by assumption)
set_option maxRecDepth 100000 in
set_option maxHeartbeats 16000000 in
theorem next_spec {prog : Program} {w : World} {A₀ A : Around} {s : Shared} {base h₀ : Heap} {outer : List Env} {env : Env} {L : Addr} {m : Str → Option Value} {news : List (Addr × Obj)}
   {mean : ExcName → Option Value} {mg mb : Str → Option Value} {R : Result → Shared → Prop} {a : Ad} {W : Wd} {n0 q c kc : Nat} {f g k : Int} {okc : Obj} {t1 t2 : Tok}
   (C : Cx w A₀ A base h₀ outer env L mean mg mb 400) (F : Fr h₀ L s.heap m) (N : News h₀ L s.heap news) (H : Has prog w news a W) (hW : Wf W n0) (hn : Two f) (hx : (W.row f)[q]? = some k)
   (hkc : (kc, okc) ∈ news) (ikc : IsKey okc c) (hc : c ≤ 3)
   (post : ∀ h' tk' t, Fr h₀ L h' m → News h₀ L h' news → R (.ok (.ret (.int (firstP W g c ((W.row f).drop (q + 1))) t))) {s with heap := h', toks := tk'}) :
   codeAny (model prog w) A (.call (.ref 141) ⟨[.ref a.st, .int k t1, .int g t2, .ref kc], []⟩) R s := by
  have kk : withK PySem.Challenge.rw_rr0016_01 topK.heap_1 := by k_fill; trivial
  w_top off
  refine viaG fun G hG => ?_
  obtain ⟨B, X, T, hA, hf, hke, hroom, hunits, hh⟩ := C
  obtain ⟨ost, mdst, τs, rfl⟩ := H.dst
  obtain ⟨ord, mrd, ird⟩ := H.rd
  have lord := H.rdlo.1
  have mst := H.st
  obtain ⟨i, r, rfl, hr, hfn, hnx⟩ := hW.row f hn q k hx
  have hlt := (List.getElem?_eq_some_iff.mp hx).1
  obtain ⟨⟨x, d, kx⟩, hxa⟩ : ∃ q, a.ra[i]? = some q := ⟨_, List.getElem?_eq_getElem (by rw [H.len]; exact (List.getElem?_eq_some_iff.mp hr).1)⟩
  have hv : valueAt (recKvs a.ra) (i : Int) = some (.ref x) := recKvs_val hxa
  obtain ⟨mx, ⟨od, md, iR⟩, okx, mkx, ikx⟩ := H.recs i x d kx r hxa hr
  obtain ⟨τr, rfl⟩ := iR
  refine hG ?_; clear hG
  w_strict k_enter
  (rename Below A _ _ _ => B1)
  (rename (topK.heap_1 w.params).In _ => X1)
  (rename Top _ _ _ _ _ _ => T1)
  w_strict k_steps
  all_goals (try k_data)
  refine wpAny_call (live_spec (Cx.inner B1 X1 T1 (by omega) (by omega) hh (by omega)) (by assumption) (by assumption) H hW hn hlt hnx hkc ikc hc ?_)
  intro h₃ tk₃ t₃ F₃ N₃
  try dsimp only
  w_strict k_steps
  all_goals (try k_data)
  exact post _ _ _ (by assumption) (by assumption)
theorem pick_lt {news : List (Addr × Obj)} {l : Addr} (_ : ∀ p ∈ news, p.1 < l) : ∃ x : Addr, x = l := ⟨_, rfl⟩
theorem filter_split {P : Int → Bool} : ∀ {l : List Int} {k : Int} {t : List Int}, l.filter P = k :: t → ∃ j, l[j]? = some k ∧ (l.drop (j + 1)).filter P = t ∧ j < l.length
  | [], _, _, h => by simp at h
  | a :: l, k, t, h => by
    by_cases ha : P a = true
    · rw [List.filter_cons_of_pos ha] at h
      obtain ⟨rfl, rfl⟩ := List.cons.inj h
      exact ⟨0, rfl, rfl, by simp⟩
    · rw [List.filter_cons_of_neg ha] at h
      obtain ⟨j, h1, h2, h3⟩ := filter_split h
      exact ⟨j + 1, by simpa using h1, by simpa using h2, by simp; omega⟩
def WalkJ (news : List (Addr × Obj)) (a : Ad) (W : Wd) (f g : Int) (c kc l : Nat) (n : Nat) (m : Str → Option Value) (nws : List (Addr × Obj)) : Prop :=
  ∃ (q : Nat) (place : Int) (tp tg : Tok) (us : List Value) (e : Nat) (ms : List Int), m (Str.ofString "held") = some (.ref a.st) ∧ m (Str.ofString "found") = some (.ref l) ∧ m (Str.ofString "place") = some (.int place tp) ∧ m (Str.ofString "generation") = some (.int g tg) ∧ m (Str.ofString "key") = some (.ref kc) ∧
    (l, listOf us.toArray e) ∈ nws ∧ IntsAre us ms ∧ (∀ p ∈ news, p ∈ nws) ∧ place = firstP W g c ((W.row f).drop q) ∧ q ≤ (W.row f).length ∧ n = (W.row f).length - q ∧ ms ++ ((W.row f).drop q).filter (aliveP W g c) = (W.row f).filter (aliveP W g c)
set_option maxRecDepth 100000 in
set_option maxHeartbeats 16000000 in
theorem walked_spec {prog : Program} {w : World} {A₀ A : Around} {s : Shared} {base h₀ : Heap} {outer : List Env} {env : Env} {L : Addr} {m : Str → Option Value} {news : List (Addr × Obj)}
   {mean : ExcName → Option Value} {mg mb : Str → Option Value} {R : Result → Shared → Prop} {a : Ad} {W : Wd} {n0 c kc : Nat} {f g : Int} {okc : Obj} {t2 : Tok}
   (C : Cx w A₀ A base h₀ outer env L mean mg mb 350) (F : Fr h₀ L s.heap m) (N : News h₀ L s.heap news) (H : Has prog w news a W) (hW : Wf W n0) (hn : Two f)
   (hkc : (kc, okc) ∈ news) (ikc : IsKey okc c) (hc : c ≤ 3)
   (post : ∀ h' tk' news' l us e, Fr h₀ L h' m → News h₀ L h' news' → (∀ p ∈ news, p ∈ news') → (l, listOf us.toArray e) ∈ news' → IntsAre us ((W.row f).filter (aliveP W g c)) → R (.ok (.ret (.ref l))) {s with heap := h', toks := tk'}) :
   codeAny (model prog w) A (.call (.ref 218) ⟨[.ref a.st, .ref (a.p f), .int g t2, .ref kc], []⟩) R s := by
  have kk : withK PySem.Challenge.rw_rr0016_01 topK.heap_1 := by k_fill; trivial
  w_top off
  refine viaG fun G hG => ?_
  obtain ⟨B, X, T, hA, hf, hke, hroom, hunits, hh⟩ := C
  obtain ⟨ost, mdst, τs, rfl⟩ := H.dst
  have mst := H.st
  have h5 := hW.five f hn
  refine hG ?_; clear hG
  w_strict k_enter
  (rename Below A _ _ _ => B1)
  (rename (topK.heap_1 w.params).In _ => X1)
  (rename Top _ _ _ _ _ _ => T1)
  w_strict k_steps
  all_goals (try k_data)
  (rename Fr _ _ _ _ => fE)
  (rename News _ _ _ _ => nE)
  (rename (∀ p ∈ news, p.1 < _) => lt0)
  refine viaG fun G hG => ?_
  obtain ⟨lA, hlA⟩ := pick_lt lt0
  subst hlA
  obtain ⟨nw, nE2, ml, sub0⟩ : ∃ nw, News _ _ _ nw ∧ (lA, listOf ([] : List Value).toArray 0) ∈ nw ∧ (∀ p ∈ news, p ∈ nw ∧ @Ne Nat p.1 lA) := ⟨_, nE, .head _, fun p hp => ⟨.tail _ hp, Nat.ne_of_lt (lt0 p hp)⟩⟩
  have H1 : Has prog w nw a W := H.mono fun p hp => (sub0 p hp).1
  clear nE mdst mst
  refine hG ?_; clear hG
  refine wpAny_call (first_spec (Cx.inner B1 X1 T1 (by omega) (by omega) hh (by omega)) fE nE2 H1 hW hn (sub0 _ hkc).1 ikc hc ?_)
  intro h₃ tk₃ t₃ F₃ N₃
  try dsimp only
  clear fE nE2
  w_strict k_steps
  all_goals (try k_data)
  (rename Fr _ _ _ _ => fE)
  (rename News _ _ _ _ => nE)
  refine While_inv2 (fun n m nws => WalkJ news a W f g c kc lA n m nws) (n₀ := (W.row f).length - 0) fE nE ⟨0, _, _, _, [], _, [], rfl, rfl, rfl, rfl, rfl, ml, .nil, fun p hp => (sub0 p hp).1, rfl, Nat.zero_le _, rfl, rfl⟩ ?_
  clear fE nE
  intro n m₂ nws h₂ tk₂ F₂ N₂ hJ
  obtain ⟨q, place, tp, tg, us, e, ms, e1, e2, e3, e4, e5, ml2, iu, sub, hpl, hq, hn', hR⟩ := hJ
  replace F₂ := fr_to F₂ (m_put2 (m_put2 (m_put2 (m_put2 (m_put e1) e2) e3) e4) e5)
  have hul : us.length ≤ 1000 := by
    have h1 := congrArg List.length hR
    have h2 := List.length_filter_le (aliveP W g c) (W.row f)
    rw [List.length_append] at h1
    rw [iu.length]; omega
  have H2 := H.mono sub
  have mst := H2.st
  obtain ⟨ost2, mdst, τs, rfl⟩ := H2.dst
  cases hfl : ((W.row f).drop q).filter (aliveP W g c) with
  | nil =>
    have hp1 : place = -1 := by rw [hpl]; unfold firstP; rw [hfl]; rfl
    subst hp1
    rw [hfl, List.append_nil] at hR
    w_strict k_steps
    all_goals (try k_data)
    exact post _ _ _ _ _ _ (by assumption) (by assumption) sub ml2 (hR ▸ iu)
  | cons k t =>
    refine viaG fun G hG => ?_
    obtain ⟨j, hj1, hj2, hj3⟩ := filter_split hfl
    rw [List.getElem?_drop] at hj1
    rw [List.drop_drop] at hj2
    rw [List.length_drop] at hj3
    have hp1 : place = k := by rw [hpl]; unfold firstP; rw [hfl]; rfl
    subst hp1
    obtain ⟨i, r, hki, -⟩ := hW.row f hn _ _ hj1
    have hne1 : place ≠ -1 := by omega
    clear hpl
    refine hG ?_; clear hG
    w_strict k_steps
    all_goals (try k_data)
    (rename Fr _ _ _ _ => fE)
    (rename News _ _ _ _ => nE)
    refine append_mem fE nE ml2 hul ?_
    intro h4 F4 N4
    try dsimp only
    clear fE nE
    refine viaG fun G hG => ?_
    obtain ⟨nw4, nE4, ml4, sub4⟩ : ∃ nw, News _ _ _ nw ∧ (lA, listOf (us ++ [Value.int place tp]).toArray (e + 1)) ∈ nw ∧ (∀ p ∈ news, p ∈ nw) := ⟨_, N4, .head _, fun p hp => .tail _ (mem_off (sub p hp) (by simpa using (sub0 p hp).2))⟩
    clear N4 mst mdst ml2
    have H4 := H.mono sub4
    have mst := H4.st
    obtain ⟨ost4, mdst, τs, rfl⟩ := H4.dst
    refine hG ?_; clear hG
    w_strict k_steps
    all_goals (try k_data)
    refine wpAny_call (next_spec (Cx.inner B1 X1 T1 (by omega) (by omega) hh (by omega)) (by assumption) (by assumption) H4 hW hn hj1 (sub4 _ hkc) ikc hc ?_)
    intro h5 tk5 t5 F5 N5
    try dsimp only
    w_strict k_steps
    all_goals (try k_data)
    refine ⟨_, _, _, _, (W.row f).length - (q + j + 1), rfl, by assumption, by assumption, by omega, q + j + 1, _, _, _, _, _, ms ++ [place], rfl, rfl, rfl, rfl, rfl, ml4, iu.append (.cons _ _ .nil), sub4, rfl, by omega, rfl, ?_⟩
    rw [← hR, hfl, List.append_assoc, List.singleton_append, ← hj2, Nat.add_assoc]
    exfalso; omega
end
section
def SeenJ (news : List (Addr × Obj)) (a : Ad) (W : Wd) (g : Int) (c kc l : Nat) (ns : List Int) (i : Nat) (m : Str → Option Value) (nws : List (Addr × Obj)) : Prop :=
  ∃ (tg : Tok) (us : List Value) (e : Nat), m (Str.ofString "held") = some (.ref a.st) ∧ m (Str.ofString "found") = some (.ref l) ∧ m (Str.ofString "generation") = some (.int g tg) ∧ m (Str.ofString "key") = some (.ref kc) ∧
    (l, listOf us.toArray e) ∈ nws ∧ IntsAre us ((ns.take i).filter (aliveP W g c)) ∧ (∀ p ∈ news, p ∈ nws)
theorem take_filter_pos {P : Int → Bool} {ns : List Int} {i : Nat} {k : Int} (h : ns[i]? = some k) (hp : P k = true) : (ns.take (i + 1)).filter P = (ns.take i).filter P ++ [k] := by
  rw [List.take_add_one, h, List.filter_append]; simp [hp]
theorem take_filter_neg {P : Int → Bool} {ns : List Int} {i : Nat} {k : Int} (h : ns[i]? = some k) (hp : P k = false) : (ns.take (i + 1)).filter P = (ns.take i).filter P := by
  rw [List.take_add_one, h, List.filter_append]; simp [hp]
set_option maxRecDepth 100000 in
set_option maxHeartbeats 16000000 in
theorem seen_spec {prog : Program} {w : World} {A₀ A : Around} {s : Shared} {base h₀ : Heap} {outer : List Env} {env : Env} {L : Addr} {m : Str → Option Value} {news : List (Addr × Obj)}
   {mean : ExcName → Option Value} {mg mb : Str → Option Value} {R : Result → Shared → Prop} {a : Ad} {W : Wd} {n0 c kc lr e0 : Nat} {f g : Int} {okc : Obj} {t2 : Tok} {vs : List Value} {ns : List Int}
   (C : Cx w A₀ A base h₀ outer env L mean mg mb 350) (F : Fr h₀ L s.heap m) (N : News h₀ L s.heap news) (H : Has prog w news a W) (hW : Wf W n0) (hn : Two f)
   (hkc : (kc, okc) ∈ news) (ikc : IsKey okc c) (hc : c ≤ 3) (hlr : (lr, listOf vs.toArray e0) ∈ news) (ilr : IntsAre vs ns) (hns : ∀ k ∈ ns, k ∈ W.row f) (hl5 : ns.length ≤ 5)
   (post : ∀ h' tk' news' l us e, Fr h₀ L h' m → News h₀ L h' news' → (∀ p ∈ news, p ∈ news') → (l, listOf us.toArray e) ∈ news' → IntsAre us (ns.filter (aliveP W g c)) → R (.ok (.ret (.ref l))) {s with heap := h', toks := tk'}) :
   codeAny (model prog w) A (.call (.ref 211) ⟨[.ref a.st, .ref lr, .int g t2, .ref kc], []⟩) R s := by
  have kk : withK PySem.Challenge.rw_rr0016_01 topK.heap_1 := by k_fill; trivial
  w_top off
  refine viaG fun G hG => ?_
  obtain ⟨B, X, T, hA, hf, hke, hroom, hunits, hh⟩ := C
  have hil : ∃ _ : Unit, IntsAre vs ns := ⟨(), ilr⟩
  refine hG ?_; clear hG
  w_strict k_enter
  (rename Below A _ _ _ => B1)
  (rename (topK.heap_1 w.params).In _ => X1)
  (rename Top _ _ _ _ _ _ => T1)
  w_strict k_steps
  all_goals (try k_data)
  (rename Fr _ _ _ _ => fE)
  (rename News _ _ _ _ => nE)
  (rename (∀ p ∈ news, p.1 < _) => lt0)
  refine viaG fun G hG => ?_
  obtain ⟨lA, hlA⟩ := pick_lt lt0
  subst hlA
  obtain ⟨nw, nE2, ml, sub0⟩ : ∃ nw, News _ _ _ nw ∧ (lA, listOf ([] : List Value).toArray 0) ∈ nw ∧ (∀ p ∈ news, p ∈ nw ∧ @Ne Nat p.1 lA) := ⟨_, nE, .head _, fun p hp => ⟨.tail _ hp, Nat.ne_of_lt (lt0 p hp)⟩⟩
  clear nE
  obtain ⟨_, hil⟩ := hil
  refine hG ?_; clear hG
  (with_unfolding_all refine' For_invVF fE ?k1 ?k2 ?_; (case k1 => exact rfl); (case k2 => exact rfl))
  w_strict k_steps
  refine iterInts (fun i m nws => SeenJ news a W g c kc lA ns i m nws) hh (sub0 _ hlr).1 hil fE nE2 ⟨_, [], _, rfl, rfl, rfl, rfl, ml, .nil, fun p hp => (sub0 p hp).1⟩ ?_ ?_
  · clear fE nE2
    intro i k t m₁ news₁ h tk I own hkv hJ hnI hoI hown F₁ N₁
    refine viaG fun G hG => ?_
    obtain ⟨tg, us, e, e1, e2, e3, e4, ml2, iu, sub⟩ := hJ
    obtain ⟨led, nL, up, upo⟩ : ∃ l, News _ _ _ l ∧ (∀ p ∈ news₁, p ∈ l) ∧ (∀ p ∈ own, p ∈ l) := ⟨_, N₁, fun p hp => List.mem_append_right _ hp, fun p hp => List.mem_append_left _ hp⟩
    have F₂ := fr_in F₁ (m_put2 (m_put2 (m_put2 (m_put e1) e2) e3) e4)
    clear F₁ N₁
    have HL : Has prog w led a W := H.mono (fun p hp => up _ (sub p hp))
    have mst := HL.st
    obtain ⟨ost, mdst, τs, rfl⟩ := HL.dst
    obtain ⟨ord, mrd, ird⟩ := HL.rd
    have lord := HL.rdlo.1
    have hul : us.length ≤ 1000 := by
      have h2 := List.length_filter_le (aliveP W g c) (ns.take i)
      have h3 := List.length_take_le i ns
      have h4 := List.length_take_le' i ns
      rw [iu.length]; omega
    obtain ⟨i0, r, rfl, hr, hfn⟩ := hW.mem hn (hns k (List.mem_of_getElem? hkv))
    obtain ⟨⟨x, d, kx⟩, hxa⟩ : ∃ q, a.ra[i0]? = some q := ⟨_, List.getElem?_eq_getElem (by rw [H.len]; exact (List.getElem?_eq_some_iff.mp hr).1)⟩
    have hv : valueAt (recKvs a.ra) (i0 : Int) = some (.ref x) := recKvs_val hxa
    obtain ⟨mx, ⟨od, md, iR⟩, okx, mkx, ikx⟩ := HL.recs i0 x d kx r hxa hr
    obtain ⟨τr, rfl⟩ := iR
    have hal : aliveP W g c (i0 : Int) = (visP r g && matP r.kd c) := by
      unfold aliveP; rw [Int.toNat_natCast, hr]
    obtain ⟨-, hb1, hb2, hdth, hkd⟩ := hW.each i0 r hr
    obtain ⟨oI, hoI'⟩ := hoI
    have hu : A.units + 3 < 9000 := by omega
    have hIl := hnI _ ml2
    have mkc := up _ (sub _ hkc)
    have mlr := up _ (sub _ hlr)
    have ml3 := up _ ml2
    have nxt : ∀ {h' tk' m' L' hx s₁ Q}, aliveP W g c (i0 : Int) = false → m' (Str.ofString "held") = some (.ref a.st) → m' (Str.ofString "found") = some (.ref lA) → m' (Str.ofString "generation") = some (.int g tg) → m' (Str.ofString "key") = some (.ref kc) → Fr hx L' h' m' → ∀ nws, News hx L' h' nws → (∀ p ∈ led, p ∈ nws) →
        TurnPost hx L' I own (SeenJ news a W g c kc lA ns (i + 1)) s₁ Q .next { s₁ with heap := h', toks := tk' } := by
      intro h' tk' m' L' hx s₁ Q ha q1 q2 q3 q4 F' nws N' hs
      refine TurnPost.nxt F' N' (fun p hp => hs _ (upo p hp)) ⟨tg, us, e, q1, q2, q3, q4, mem_off (hs _ ml3) (by simpa using hIl), ?_, fun p hp => mem_off (hs _ (up _ (sub p hp))) (by simpa using hnI _ (sub p hp))⟩
      rw [take_filter_neg hkv ha]; exact iu
    have add : ∀ {h' tk' m' L' hx s₁ Q}, aliveP W g c (i0 : Int) = true → m' (Str.ofString "held") = some (.ref a.st) → m' (Str.ofString "found") = some (.ref lA) → m' (Str.ofString "generation") = some (.int g tg) → m' (Str.ofString "key") = some (.ref kc) → Fr hx L' h' m' → ∀ nws, News hx L' h' ((lA, listOf (us ++ [Value.int (i0 : Int) t]).toArray (e + 1)) :: off [lA] nws) → (∀ p ∈ led, p ∈ nws) →
        TurnPost hx L' I own (SeenJ news a W g c kc lA ns (i + 1)) s₁ Q .next { s₁ with heap := h', toks := tk' } := by
      intro h' tk' m' L' hx s₁ Q ha q1 q2 q3 q4 F' nws N' hs
      have hk : ∀ p ∈ led, @Ne Nat p.1 lA → p ∈ (lA, listOf (us ++ [Value.int (i0 : Int) t]).toArray (e + 1)) :: off [lA] nws := fun p hp hne => .tail _ (mem_off (hs p hp) (by simpa using hne))
      refine TurnPost.nxt F' N' (fun p hp => hk _ (upo p hp) ?_) ⟨tg, _, _, q1, q2, q3, q4, mem_off (.head _) (by simpa using hIl), ?_, fun p hp => mem_off (hk _ (up _ (sub p hp)) (sub0 p hp).2) (by simpa using hnI _ (sub p hp))⟩
      · rcases hown p hp with h | h
        · rw [h]; exact Ne.symm hIl
        · rw [h]; exact (sub0 _ hlr).2
      · rw [take_filter_pos hkv ha]; exact iu.append (.cons _ _ .nil)
    refine hG ?_; clear hG
    w_strict k_steps
    all_goals (try k_data)
    all_goals (try (exact nxt (by rw [hal, show visP r g = false from decide_eq_false (by omega), Bool.false_and]) rfl rfl rfl rfl (by assumption) _ (by assumption) (fun p hp => hp)))
    all_goals (try (exfalso; omega))
    all_goals (
      have hvis : visP r g = true := decide_eq_true (by omega)
      (rename Fr _ _ _ _ => fE)
      (rename News _ _ _ _ => nE)
      refine eq_key (nE _ (show (kc, okc) ∈ _ by k_mem)).1 (nE _ (.head _)).1 ikc (b := 0) ⟨_, (0 : Nat), _, rfl⟩ hc (Nat.zero_le _) ?_ ?_
      · exact hu
      by_cases q1 : c = 0
      · have hmt : aliveP W g c (i0 : Int) = true := by rw [hal, hvis]; unfold matP; rw [decide_eq_true (.inr (.inl q1))]; rfl
        rw [decide_eq_true q1]
        try dsimp only
        w_strict k_steps
        all_goals (try k_data)
        (rename Fr _ _ _ _ => fE)
        (rename News _ _ _ _ => nE)
        refine append_mem fE nE (show (lA, listOf us.toArray e) ∈ _ by k_mem) hul ?_
        intro h4 F4 N4
        try dsimp only
        w_strict k_steps
        all_goals (try k_data)
        exact add hmt rfl rfl rfl rfl (by assumption) _ (by assumption) (fun p hp => by k_mem)
      · rw [decide_eq_false q1]
        try dsimp only
        w_strict k_steps
        all_goals (try k_data)
        (rename Fr _ _ _ _ => fE)
        (rename News _ _ _ _ => nE)
        refine eq_key (nE _ (show (kx, okx) ∈ _ by k_mem)).1 (nE _ (.head _)).1 ikx (b := 0) ⟨_, (0 : Nat), _, rfl⟩ (by omega) (Nat.zero_le _) ?_ ?_
        · exact hu
        by_cases q2 : r.kd = 0
        · have hmt : aliveP W g c (i0 : Int) = true := by rw [hal, hvis]; unfold matP; rw [decide_eq_true (.inl q2)]; rfl
          rw [decide_eq_true q2]
          try dsimp only
          w_strict k_steps
          all_goals (try k_data)
          (rename Fr _ _ _ _ => fE)
          (rename News _ _ _ _ => nE)
          refine append_mem fE nE (show (lA, listOf us.toArray e) ∈ _ by k_mem) hul ?_
          intro h4 F4 N4
          try dsimp only
          clear fE nE
          w_strict k_steps
          all_goals (try k_data)
          exact add hmt rfl rfl rfl rfl (by assumption) _ (by assumption) (fun p hp => by k_mem)
        · rw [decide_eq_false q2]
          try dsimp only
          w_strict k_steps
          all_goals (try k_data)
          (rename Fr _ _ _ _ => fE)
          (rename News _ _ _ _ => nE)
          refine eq_key (nE _ (show (kx, okx) ∈ _ by k_mem)).1 (nE _ (show (kc, okc) ∈ _ by k_mem)).1 ikx ikc (by omega) hc ?_ ?_
          · exact hu
          by_cases q3 : r.kd = c
          · have hmt : aliveP W g c (i0 : Int) = true := by rw [hal, hvis]; unfold matP; rw [decide_eq_true (.inr (.inr q3))]; rfl
            rw [decide_eq_true q3]
            try dsimp only
            w_strict k_steps
            all_goals (try k_data)
            (rename Fr _ _ _ _ => fE)
            (rename News _ _ _ _ => nE)
            refine append_mem fE nE (show (lA, listOf us.toArray e) ∈ _ by k_mem) hul ?_
            intro h4 F4 N4
            try dsimp only
            clear fE nE
            w_strict k_steps
            all_goals (try k_data)
            exact add hmt rfl rfl rfl rfl (by assumption) _ (by assumption) (fun p hp => by k_mem)
          · have hmt : aliveP W g c (i0 : Int) = false := by rw [hal, hvis]; unfold matP; rw [decide_eq_false (by omega)]; rfl
            rw [decide_eq_false q3]
            try dsimp only
            w_strict k_steps
            all_goals (try k_data)
            exact nxt hmt rfl rfl rfl rfl (by assumption) _ (by assumption) (fun p hp => by k_mem))
  · clear fE nE2
    intro m₁ nws h tk hJ F₁ N₁
    refine viaG fun G hG => ?_
    obtain ⟨tg, us, e, e1, e2, e3, e4, ml2, iu, sub⟩ := hJ
    have F₂ := fr_to F₁ (m_put2 (m_put2 (m_put2 (m_put e1) e2) e3) e4)
    clear F₁
    rw [List.take_length] at iu
    refine hG ?_; clear hG
    w_strict k_steps
    all_goals (try k_data)
    exact post _ _ _ _ _ _ (by assumption) (by assumption) sub ml2 iu
end
section
/-! the plain laws on the made world -/
theorem wf_at {W : Wd} {N : Nat} (h : Wf W N) {n : Int} (hn : Two n) {q : Nat} {k : Int} (hx : (W.row n)[q]? = some k) : ∃ (i : Nat) (r : RecV), k = (i : Int) ∧ W.recs[i]? = some r ∧ r.fn = n ∧ r.next = (W.row n)[q + 1]?.getD (-1) ∧ soundP r W.gen k n = true := by
  obtain ⟨i, r, rfl, hr, hf, hnx⟩ := h.row n hn q k hx
  obtain ⟨h1, h2, h3, h4, -⟩ := h.each i r hr
  exact ⟨i, r, rfl, hr, hf, hnx, decide_eq_true ⟨h1, hf, h2, h3, by omega⟩⟩
theorem walk_row {W : Wd} {N : Nat} (h : Wf W N) {f : Int} (hn : Two f) {recs : List RecV} (hag : ∀ k ∈ W.row f, recs[k.toNat]? = W.recs[k.toNat]?) :
    ∀ (fuel q : Nat) (met : List Int) (last : Int), (W.row f).length - q < fuel → (∀ k ∈ (W.row f).drop q, k ∉ met) → walkC recs W.gen f fuel met last ((W.row f)[q]?.getD (-1)) = some (met ++ (W.row f).drop q, ((W.row f).drop q).getLast?.getD last)
  | 0, q, met, last, hf, _ => by omega
  | fuel + 1, q, met, last, hf, hd => by
    cases hx : (W.row f)[q]? with
    | none =>
      have e := List.drop_eq_nil_of_le (List.getElem?_eq_none_iff.mp hx)
      rw [walkC, if_pos (by simp), e]; simp
    | some k =>
      obtain ⟨i, r, rfl, hr, hfn, hnx, hs⟩ := wf_at h hn hx
      have hlt := (List.getElem?_eq_some_iff.mp hx).1
      have e : (W.row f).drop q = (i : Int) :: (W.row f).drop (q + 1) := by rw [List.drop_eq_getElem_cons hlt, (List.getElem?_eq_some_iff.mp hx).2]
      have hm := hd (i : Int) (by rw [e]; exact .head _)
      have ha := hag (i : Int) (List.mem_of_getElem? hx)
      rw [Int.toNat_natCast] at ha
      rw [Option.getD_some, walkC, if_neg (by omega), Int.toNat_natCast, ha, hr]
      dsimp only
      rw [if_neg hm, if_pos hs, hnx, walk_row h hn hag fuel (q + 1) (met ++ [(i : Int)]) i (by omega) ?_, e]
      · rw [List.append_assoc, List.singleton_append]
        cases hz : (W.row f).drop (q + 1) with
        | nil => simp
        | cons b l => rw [List.getLast?_cons_cons, List.getLast?_eq_some_getLast (List.cons_ne_nil b l)]; rfl
      · intro k hk hk'
        rcases List.mem_append.mp hk' with h1 | h1
        · exact hd k (by rw [e]; exact .tail _ hk) h1
        · rw [List.mem_singleton] at h1
          subst h1
          have hnd := (h.nd f hn).sublist (List.drop_sublist q _)
          rw [e] at hnd
          exact (List.nodup_cons.mp hnd).1 hk
theorem rows_apart {W : Wd} {N : Nat} (h : Wf W N) {n n' : Int} (hn : Two n) (hn' : Two n') (hne : n ≠ n') {k : Int} (hk : k ∈ W.row n) : k ∉ W.row n' := by
  intro hk'
  obtain ⟨i, r, rfl, hr, hf⟩ := h.mem hn hk
  obtain ⟨i', r', e, hr', hf'⟩ := h.mem hn' hk'
  obtain rfl : i = i' := by omega
  rw [hr] at hr'
  cases hr'
  exact hne (hf.symm.trans hf')
theorem row_len {W : Wd} {N : Nat} (h : Wf W N) {n : Int} (hn : Two n) : (W.row n).length ≤ W.recs.length := by
  refine met_len (h.nd n hn) fun k hk => ?_
  obtain ⟨i, r, rfl, hr, _⟩ := h.mem hn hk
  have := (List.getElem?_eq_some_iff.mp hr).1
  omega
theorem two3 : Two 3 := .inl rfl
theorem two4 : Two 4 := .inr rfl
theorem check_true {W : Wd} {N : Nat} (h : Wf W N) : checkP W = true := by
  have l3 := row_len h two3
  have l4 := row_len h two4
  have c1 : cs W 1 = some (W.row 3) := by
    show (walkC W.recs W.gen 3 (W.recs.length + 1) [] (-1) (W.fst 3)).bind _ = _
    rw [h.fst 3 two3, walk_row h two3 (fun _ _ => rfl) _ 0 [] (-1) (by omega) (by simp)]
    rw [Option.bind_some, if_pos (by rw [List.drop_zero]; exact (h.lst 3 two3).symm)]
    simp
  have c2 : cs W 2 = some (W.row 3 ++ W.row 4) := by
    show (cs W 1).bind _ = _
    rw [c1, Option.bind_some]
    show (walkC W.recs W.gen 4 (W.recs.length + 1) (W.row 3) (-1) (W.fst 4)).bind _ = _
    rw [h.fst 4 two4, walk_row h two4 (fun _ _ => rfl) _ 0 _ (-1) (by omega) (fun k hk hk' => rows_apart h two3 two4 (by omega) hk' (by simpa using hk))]
    rw [Option.bind_some, if_pos (by rw [List.drop_zero]; exact (h.lst 4 two4).symm)]
    simp
  unfold checkP
  rw [c2]; rfl
noncomputable def ends (l : Int) (x : Option (List Int × Int)) : Option (List Int) := x.bind fun q => if q.2 = l then some q.1 else none
theorem spoil_next {W : Wd} {N : Nat} (h : Wf W N) (hN : N ≤ 10) {n way : Int} (hn : Two n) {spot i : Nat} {r r' : RecV} (hx : (W.row n)[spot]? = some (i : Int)) (hr : W.recs[i]? = some r) (hs : spoilR W n spot way r = some r')
    (hso : soundP r' W.gen i n = true) (met : List Int) (hm : ∀ p k, p ≤ spot → (W.row n)[p]? = some k → k ∈ met) (fuel : Nat) : ends (W.lst n) (walkC (W.recs.set i r') W.gen n fuel met i r'.next) = none := by
  obtain ⟨h1, h2, h3, h4, -⟩ := h.each i r hr
  have hg0 := h.g0
  have hlen := h.len
  have hin : ∀ k, k ∈ met → 0 ≤ k → ends (W.lst n) (walkC (W.recs.set i r') W.gen n fuel met i k) = none := by
    intro k hk h0
    cases fuel with
    | zero => rfl
    | succ fuel =>
      rw [walkC, if_neg (by omega)]
      cases hz : (W.recs.set i r')[k.toNat]? with
      | none => rfl
      | some rz => dsimp only; rw [if_pos hk]; rfl
  have hso' := of_decide_eq_true hso
  by_cases w0 : way = 0
  · rw [sp0 w0] at hs; cases hs
    dsimp only at hso'; omega
  by_cases w1 : way = 1
  · rw [sp1 w1] at hs; cases hs
    dsimp only at hso'; unfold Two at hn; omega
  by_cases w2 : way = 2
  · rw [sp2 w2] at hs; cases hs
    dsimp only at hso'; omega
  by_cases w3 : way = 3
  · rw [sp3 w3] at hs; cases hs
    dsimp only at hso'; omega
  by_cases w4 : way = 4
  · rw [sp4 w4] at hs; cases hs
    dsimp only at hso'; omega
  by_cases w5 : way = 5
  · rw [sp5 w5] at hs; cases hs
    dsimp only at hso'; omega
  by_cases w6 : way = 6
  · rw [sp6 w6] at hs; cases hs
    dsimp only; exact hin _ (by rw [h1]; exact hm spot _ (Nat.le_refl _) hx) (by omega)
  by_cases w7 : way = 7
  · rw [sp7 w7] at hs; cases hs
    dsimp only
    have hlt := (List.getElem?_eq_some_iff.mp hx).1
    have h00 : (W.row n)[0]? = some ((W.row n).getD 0 0) := by rw [List.getD_eq_getElem?_getD, List.getElem?_eq_getElem (by omega)]; rfl
    obtain ⟨j, _, e, _⟩ := wf_at h hn h00
    exact hin _ (hm 0 _ (Nat.zero_le _) h00) (by omega)
  by_cases w8 : way = 8
  · by_cases hne : W.row (7 - n) = []
    · rw [sp8n w8 hne] at hs; cases hs
    rw [sp8 w8 hne] at hs; cases hs
    dsimp only
    have hn7 : Two (7 - n) := by unfold Two at *; omega
    have hmem : (W.row (7 - n)).getLastD 0 ∈ W.row (7 - n) := by rw [List.getLastD_eq_getLast?, List.getLast?_eq_some_getLast hne]; exact List.getLast_mem hne
    obtain ⟨j, rj, ej, hrj, hfj⟩ := h.mem hn7 hmem
    rw [ej]
    have hij : i ≠ j := by
      intro e; subst e
      exact rows_apart h hn hn7 (by omega) (List.mem_of_getElem? hx) (ej ▸ hmem)
    cases fuel with
    | zero => rfl
    | succ fuel =>
      rw [walkC, if_neg (by omega), Int.toNat_natCast, List.getElem?_set_ne hij, hrj]
      dsimp only
      split
      · rfl
      · rw [if_neg (by intro hc; have := of_decide_eq_true hc; omega)]; rfl
  by_cases w9 : way = 9
  · rw [sp9 w9] at hs; cases hs
    dsimp only
    cases fuel with
    | zero => rfl
    | succ fuel =>
      rw [walkC, if_neg (by omega), List.getElem?_eq_none (by rw [List.length_set]; show W.recs.length ≤ 77; omega)]; rfl
  by_cases w10 : way = 10
  · by_cases hl : spot + 1 = (W.row n).length
    · rw [sp10n w10 hl] at hs; cases hs
    rw [sp10 w10 hl] at hs; cases hs
    dsimp only
    cases fuel with
    | zero => rfl
    | succ fuel =>
      rw [walkC, if_pos (by omega)]
      show (if (i : Int) = W.lst n then some met else none) = none
      rw [if_neg]
      intro e
      rw [h.lst n hn] at e
      have hlt := (List.getElem?_eq_some_iff.mp hx).1
      have hne : W.row n ≠ [] := by intro e0; rw [e0] at hlt; simp at hlt
      have := getLast_at hne
      rw [← e] at this
      have := nodup_at (h.nd n hn) hx this
      omega
  rw [spx w0 w1 w2 w3 w4 w5 w6 w7 w8 w9 w10] at hs; cases hs
theorem spoil_walk {W : Wd} {N : Nat} (h : Wf W N) (hN : N ≤ 10) {n way : Int} (hn : Two n) {spot i : Nat} {r r' : RecV} (hx : (W.row n)[spot]? = some (i : Int)) (hr : W.recs[i]? = some r) (hs : spoilR W n spot way r = some r') :
    ∀ (fuel q : Nat) (met : List Int) (last : Int), q ≤ spot → (∀ p k, p < q → (W.row n)[p]? = some k → k ∈ met) → ends (W.lst n) (walkC (W.recs.set i r') W.gen n fuel met last ((W.row n)[q]?.getD (-1))) = none
  | 0, _, _, _, _, _ => rfl
  | fuel + 1, q, met, last, hq, hm => by
    have hlt := (List.getElem?_eq_some_iff.mp hx).1
    obtain ⟨k, hk⟩ : ∃ k, (W.row n)[q]? = some k := ⟨_, List.getElem?_eq_getElem (by omega)⟩
    obtain ⟨j, rj, rfl, hrj, hfj, hnx, hsj⟩ := wf_at h hn hk
    have hm' : ∀ p k, p ≤ q → (W.row n)[p]? = some k → k ∈ met ++ [(j : Int)] := by
      intro p k hp hpk
      by_cases e : p = q
      · subst e
        rw [hk] at hpk; cases hpk
        simp
      · exact List.mem_append_left _ (hm p k (by omega) hpk)
    rw [hk, Option.getD_some, walkC, if_neg (by omega), Int.toNat_natCast]
    by_cases e : q = spot
    · subst e
      rw [hx] at hk
      obtain rfl : i = j := by have := Option.some.inj hk; omega
      rw [List.getElem?_set_self (List.getElem?_eq_some_iff.mp hr).1]
      dsimp only
      split
      · rfl
      · split
        · rename_i hso
          exact spoil_next h hN hn hx hr hs hso _ hm' fuel
        · rfl
    · have hij : i ≠ j := by
        intro e'; subst e'
        exact e (nodup_at (h.nd n hn) hk hx)
      rw [List.getElem?_set_ne hij, hrj]
      dsimp only
      split
      · rfl
      · try rw [if_pos hsj]
        rw [hnx]
        exact spoil_walk h hN hn hx hr hs fuel (q + 1) _ _ (by omega) fun p k hp hpk => hm' p k (by omega) hpk
theorem spoil_false {W : Wd} {N : Nat} (h : Wf W N) (hN : N ≤ 10) {n way : Int} (hn : Two n) {spot i : Nat} {r r' : RecV} (hx : (W.row n)[spot]? = some (i : Int)) (hr : W.recs[i]? = some r) (hs : spoilR W n spot way r = some r') :
    checkP { W with recs := W.recs.set i r' } = false := by
  obtain ⟨idx, hi, rfl⟩ : ∃ idx : Nat, idx < 2 ∧ n = 3 + (idx : Int) := by
    rcases hn with e | e
    · exact ⟨0, by omega, by omega⟩
    · exact ⟨1, by omega, by omega⟩
  refine cs_fail hi ?_
  show (cs _ idx).bind _ = none
  cases hc : cs { W with recs := W.recs.set i r' } idx with
  | none => rfl
  | some met =>
    rw [Option.bind_some]
    have := spoil_walk h hN hn hx hr hs ((W.recs.set i r').length + 1) 0 met (-1) (Nat.zero_le _) (fun p k hp => by omega)
    rw [← h.fst _ hn] at this
    exact this
end
section
theorem short_walk {W : Wd} {N : Nat} (h : Wf W N) {n : Int} (hn : Two n) (hl : 2 < (W.row n).length) {i : Nat} {r : RecV} (h0 : (W.row n)[0]? = some (i : Int)) (hr : W.recs[i]? = some r) (met : List Int) (hm : ∀ k ∈ W.row n, k ∉ met) (last : Int) (fuel : Nat) :
    walkC (W.recs.set i { r with next := (W.row n).getLastD 0 }) W.gen n (fuel + 3) met last (W.fst n) = some (met ++ [(i : Int)] ++ [W.lst n], W.lst n) := by
  obtain ⟨i', r', e, hr', _, _, hs⟩ := wf_at h hn h0
  obtain rfl : i = i' := by omega
  rw [hr] at hr'
  obtain rfl := Option.some.inj hr'
  have hne : W.row n ≠ [] := by intro e0; rw [e0] at hl; simp at hl
  have hlast := getLast_at hne
  rw [← h.lst n hn] at hlast
  have hld : (W.row n).getLastD 0 = W.lst n := by
    rw [h.lst n hn, List.getLastD_eq_getLast?, List.getLast?_eq_some_getLast hne]; rfl
  obtain ⟨j, rj, ej, hrj, _, hnx, hsj⟩ := wf_at h hn hlast
  have hij : i ≠ j := by
    intro e'; subst e'
    rw [ej] at hlast
    have := nodup_at (h.nd n hn) h0 hlast
    omega
  have m1 := hm _ (List.mem_of_getElem? h0)
  have m2 := hm _ (List.mem_of_getElem? hlast)
  rw [hld, h.fst n hn, h0, Option.getD_some, walkC, if_neg (by omega), Int.toNat_natCast, List.getElem?_set_self (List.getElem?_eq_some_iff.mp hr).1]
  dsimp only
  rw [if_neg m1, if_pos (show soundP { r with next := W.lst n } W.gen i n = true from hs), ej, walkC, if_neg (by omega), Int.toNat_natCast, List.getElem?_set_ne hij, hrj]
  dsimp only
  rw [ej] at hsj m2
  have m3 : ¬ (j : Int) ∈ met ++ [(i : Int)] := by
    intro hc
    rcases List.mem_append.mp hc with h1 | h1
    · exact m2 h1
    · rw [List.mem_singleton] at h1; omega
  rw [if_neg m3, if_pos hsj, hnx, walkC, if_pos (by rw [show (W.row n).length - 1 + 1 = (W.row n).length by omega, List.getElem?_eq_none (Nat.le_refl _)]; simp)]
theorem short_true {W : Wd} {N : Nat} (h : Wf W N) {n : Int} (hn : Two n) (hl : 2 < (W.row n).length) {i : Nat} {r : RecV} (h0 : (W.row n)[0]? = some (i : Int)) (hr : W.recs[i]? = some r) :
    checkP { W with recs := W.recs.set i { r with next := (W.row n).getLastD 0 } } = true := by
  have l3 := row_len h two3
  have l4 := row_len h two4
  have ln := row_len h hn
  obtain ⟨fu, hfu⟩ : ∃ fu, W.recs.length + 1 = fu + 3 := ⟨W.recs.length - 2, by omega⟩
  have hne : W.row n ≠ [] := by intro e0; rw [e0] at hl; simp at hl
  have hi := List.mem_of_getElem? h0
  have hlm : W.lst n ∈ W.row n := by
    have := getLast_at hne
    rw [← h.lst n hn] at this
    exact List.mem_of_getElem? this
  have hag : ∀ f, Two f → n ≠ f → ∀ k ∈ W.row f, (W.recs.set i { r with next := (W.row n).getLastD 0 })[k.toNat]? = W.recs[k.toNat]? := by
    intro f hf hnf k hk
    refine List.getElem?_set_ne fun e => ?_
    obtain ⟨j, rj, rfl, _⟩ := h.mem hf hk
    rw [Int.toNat_natCast] at e
    subst e
    exact rows_apart h hn hf hnf hi hk
  unfold checkP
  rcases hn with rfl | rfl
  · have c1 : cs { W with recs := W.recs.set i { r with next := (W.row 3).getLastD 0 } } 1 = some ([(i : Int)] ++ [W.lst 3]) := by
      show (walkC _ W.gen 3 ((W.recs.set i _).length + 1) [] (-1) (W.fst 3)).bind _ = _
      rw [List.length_set, hfu, short_walk h two3 hl h0 hr [] (by simp) (-1) fu, Option.bind_some]; exact if_pos rfl
    have c2 : cs { W with recs := W.recs.set i { r with next := (W.row 3).getLastD 0 } } 2 = some ([(i : Int)] ++ [W.lst 3] ++ W.row 4) := by
      show (cs _ 1).bind _ = _
      rw [c1, Option.bind_some]
      show (walkC _ W.gen 4 ((W.recs.set i _).length + 1) _ (-1) (W.fst 4)).bind _ = _
      rw [List.length_set, h.fst 4 two4, walk_row h two4 (hag 4 two4 (by omega)) _ 0 _ (-1) (by omega) ?_]
      · rw [Option.bind_some, if_pos (by rw [List.drop_zero]; exact (h.lst 4 two4).symm)]; simp
      · intro k hk hk'
        have hk4 : k ∈ W.row 4 := by simpa using hk
        rcases List.mem_append.mp hk' with h1 | h1
        · rw [List.mem_singleton] at h1; subst h1
          exact rows_apart h two3 two4 (by omega) hi hk4
        · rw [List.mem_singleton] at h1; subst h1
          exact rows_apart h two3 two4 (by omega) hlm hk4
    rw [c2]; rfl
  · have c1 : cs { W with recs := W.recs.set i { r with next := (W.row 4).getLastD 0 } } 1 = some (W.row 3) := by
      show (walkC _ W.gen 3 ((W.recs.set i _).length + 1) [] (-1) (W.fst 3)).bind _ = _
      rw [List.length_set, h.fst 3 two3, walk_row h two3 (hag 3 two3 (by omega)) _ 0 [] (-1) (by omega) (by simp)]
      rw [Option.bind_some, if_pos (by rw [List.drop_zero]; exact (h.lst 3 two3).symm)]; simp
    have c2 : cs { W with recs := W.recs.set i { r with next := (W.row 4).getLastD 0 } } 2 = some (W.row 3 ++ [(i : Int)] ++ [W.lst 4]) := by
      show (cs _ 1).bind _ = _
      rw [c1, Option.bind_some]
      show (walkC _ W.gen 4 ((W.recs.set i _).length + 1) _ (-1) (W.fst 4)).bind _ = _
      rw [List.length_set, hfu, short_walk h two4 hl h0 hr (W.row 3) (fun k hk => rows_apart h two4 two3 (by omega) hk) (-1) fu, Option.bind_some]; exact if_pos rfl
    rw [c2]; rfl
end
section
/-! loops over an opaque ledger -/
section
variable {prog : Program} {w : World} {A : Around} {E : Value → Shared → Prop} {s : Shared} {env : Env} {h₀ : Heap} {x : Str} {body : List Stmt} {Q : Flow → Shared → Prop}
theorem iterVals {l : Addr} {vs : List Value} {e : Nat} {m₀ : Str → Option Value} {news : List (Addr × Obj)} (J : Nat → (Str → Option Value) → List (Addr × Obj) → Prop)
    (hh : A.handled = none) (hl : (l, listOf vs.toArray e) ∈ news) 
    (F : Fr h₀ env.locals s.heap m₀) (N : News h₀ env.locals s.heap news) (hj : J 0 m₀ news)
    (turn : ∀ i v m₁ news₁ h tk (I : Nat) own, vs[i]? = some v → J i m₁ news₁ → (∀ p ∈ news₁, p.1 ≠ I) → (∃ o, (I, o) ∈ own) → (∀ p ∈ own, p.1 = I ∨ p = (l, listOf vs.toArray e)) → Fr h₀ env.locals h (fun y => if y = x then some v else m₁ y) → News h₀ env.locals h (own ++ news₁) →
      wpAny (model prog w) A (execs body env) (TurnPost h₀ env.locals I own (J (i + 1)) { s with heap := h, toks := tk } Q) E { s with heap := h, toks := tk })
    (done : ∀ m₁ news₁ h tk, J vs.length m₁ news₁ → Fr h₀ env.locals h m₁ → News h₀ env.locals h news₁ → Q .next { s with heap := h, toks := tk }) :
    wpAny (model prog w) A (pyIter (.ref l)) (fun it s₂ => LoopAtV prog w A h₀ env x body Q E it s₂) E s := by
  have hls : s.heap.IsList l vs.toArray := PySem.IsL.isList (n := e) (N _ hl).1
  have hne : l ≠ s.heap.objs.size := Nat.ne_of_lt (Heap.lt_size (N _ hl).1)
  refine wpAny_pyIter_list hls ?_
  have W0 := Walks.list (prog := prog) (w := w) hh s.heap.objs.size l hne vs.toArray
  have hlen : vs.toArray.size = vs.length := by simp
  rw [hlen] at W0
  -- the list's own object is held fast, epoch and all
  have W : Walks prog w A s.heap.objs.size [s.heap.objs.size, l] [s.heap.objs.size] vs.length (fun i v => vs.toArray[i]? = some v) (fun i h => h.IsListIter s.heap.objs.size l i ∧ h.get? l = some (listOf vs.toArray e)) := by
    refine ⟨W0.sub, fun i h h' st hk => ⟨st.1.at fun o e => hk _ (by simp) o e, hk l (by simp) _ st.2⟩, fun i s Q E hi st hQ => ?_, fun s Q E st hQ => ?_, fun i s Q E st hQ => ?_⟩
    · exact W0.item i s Q E hi ⟨st.1, PySem.IsL.isList (n := e) st.2⟩ fun v h' tk hP hst hk => hQ v h' tk hP ⟨hst.1, hk l _ (by simpa using hne) st.2⟩ hk
    · exact W0.done s Q E ⟨st.1, PySem.IsL.isList (n := e) st.2⟩ hQ
    · exact W0.self i s Q E ⟨st.1, PySem.IsL.isList (n := e) st.2⟩ hQ
  refine loopO J W ?_ (by simp) (next_is_new F) ?_ ?_ ⟨⟨_, Heap.get?_push_size _ rfl, rfl, rfl⟩, Heap.get?_push_of_some _ (N _ hl).1⟩ (F.push _) (fun p hp => ⟨Heap.get?_push_of_some _ (N p hp).1, (N p hp).2⟩) hj ?_ ?_
  · intro hm
    rcases List.mem_cons.mp hm with e | hm
    · exact absurd F.ns.lt (e ▸ Nat.lt_irrefl _)
    · exact (N _ hl).2.1 (List.mem_singleton.mp hm).symm
  · intro i h hst
    obtain ⟨o, ho, _⟩ := hst.1
    exact ⟨o, ho⟩
  · intro p hp hI
    exact absurd (Heap.lt_size (N p hp).1) (hI ▸ Nat.lt_irrefl _)
  · rintro i v m₁ news₁ h tk own hin hP hJ hnI ho hfp hst F₁ N₁
    have hP' : vs[i]? = some v := by simpa using hP
    refine turn i v m₁ news₁ h tk _ own hP' hJ hnI ho (fun p hp => ?_) F₁ N₁
    rcases List.mem_cons.mp (hfp p hp) with h1 | h1
    · exact .inl h1
    · right
      have e1 := List.mem_singleton.mp h1
      have e2 := (N₁ p (List.mem_append_left _ hp)).1
      rw [e1, hst.2] at e2
      exact Prod.ext e1 (Option.some.inj e2).symm
  · exact fun m₁ news₁ h tk hJ F₁ N₁ => done m₁ news₁ h tk hJ F₁ N₁
end
end
section
local macro_rules | `(tactic| walk_at "subscriptTail") => `(tactic| (k_here; (with_reducible show wpAny _ _ (subscriptTail _ _ (Value.ref _) (Value.int _ _)) _ _ _); k_dflt (refine ltailA (h := ?_))))
local macro_rules | `(tactic| walk_at "getItem ref int") => `(tactic| (k_here; k_dflt (first | refine itemA (h := ?_) | refine itemNegA (h := ?_))))
theorem Cx.law {w : World} {g' : Heap} {mean : ExcName → Option Value} {mg mb : Str → Option Value} {nm : Str} {sc : Scope} {L' f : Addr} {cd : Value}
    (X' : (topK.heap_1 w.params).In g') (T' : Top vw (looseW vw []) mean mg mb g') (hk : sc.kind = .function := by rfl) :
    Cx w callerA (callerA.deeper (envOf nm sc L' f cd)) g' g' [] (envOf nm sc L' f cd) L' mean mg mb 350 :=
  ⟨below_caller g', X', T', Around.frames_deeper rfl, rfl, hk, by show callerA.depth + 1 < 350; decide, by show callerA.units + 3 < 1050; decide, rfl⟩
theorem slice1_mem {prog : Program} {w : World} {A : Around} {E : Value → Shared → Prop} {s : Shared} {h₀ : Heap} {L D : Addr} {m : Str → Option Value} {news : List (Addr × Obj)} {value slice : PySem.Expr} {vs : List Value} {ns : List Int} {n : Nat} {t : Tok} {Q : Value → Shared → Prop}
    (F : Fr h₀ L s.heap m) (N : News h₀ L s.heap news) (hm : (D, listOf vs.toArray n) ∈ news) (hi : IntsAre vs ns) (hz : ns.length ≤ 1000)
    (h : ∀ D' ws h', Fr h₀ L h' m → News h₀ L h' ((D', listOf (List.toArray ws) 0) :: news) → (∀ p ∈ news, p.1 < D') → IntsAre ws (ns.drop 1) → Q (.ref D') { s with heap := h' })
    (hs : subscripted slice false (.ref D) (.ref s.heap.objs.size) = operate [.ref s.heap.objs.size, .ref D] (getItem (.ref D) (.ref s.heap.objs.size)) := by with_unfolding_all rfl) :
    wpAny (model prog w) A (subscriptTail value slice (.ref D) (.ref s.heap.objs.size)) Q E { s with heap := s.heap.push { cls := .type "slice", data := .fields #[.int 1 t, .none, .none] } } := by
  have hl : s.heap.IsList D vs.toArray := PySem.IsL.isList (n := n) (N _ hm).1
  refine tail_any (Heap.IsList.typeIs (s := { s with heap := s.heap.push { cls := .type "slice", data := .fields #[.int 1 t, .none, .none] } }) (hl.push _)) slot_list_getitem.lookup
    (wpAny_getItem_list_slice (hl.push _) (Heap.IsSliceOf.new ..) (.int _ _) .none .none (by simp) ?_ (by rw [sizeLine_eq, List.size_toArray, hi.length]; omega)) hs
  have N1 := News.push (F.push { cls := .type "slice", data := .fields #[.int 1 t, .none, .none] }) (N.grown fun _ _ e => Heap.get?_push_of_some _ e) { cls := .type "list", data := .seq (slicePick vs.toArray (some 1) none none) }
  refine h _ (slicePick vs.toArray (some 1) none none).toList _ ((F.push _).push _) ?_ (fun p hp => ?_) (kmk_from hi (by omega))
  · rw [Array.toArray_toList]; exact N1
  · rw [Heap.size_push]; exact Nat.lt_succ_of_lt (Heap.lt_size (N p hp).1)
theorem add_first {prog : Program} {w : World} {A : Around} {E : Value → Shared → Prop} {s : Shared} {h₀ : Heap} {L D D' : Addr} {m : Str → Option Value} {news : List (Addr × Obj)} {vs : List Value} {ns : List Int} {n n' : Nat} {t : Tok} {Q : Value → Shared → Prop}
    (F : Fr h₀ L s.heap m) (N : News h₀ L s.heap news) (hm : (D, listOf vs.toArray n) ∈ news) (hi : IntsAre vs ns) (hm' : (D', listOf #[.int (-1) t] n') ∈ news) (hz : ns.length ≤ 1000)
    (h : ∀ x zs tz h', Fr h₀ L h' m → News h₀ L h' ((x, listOf (List.toArray zs) 0) :: news) → (∀ p ∈ news, p.1 < x) → zs[(0 : Int).toNat]? = some (.int (ns.head?.getD (-1)) tz) → Q (.ref x) { s with heap := h' }) :
    wpAny (model prog w) A (binaryOp .Add (.ref D) (.ref D')) Q E s := by
  have e : ∃ tz, (vs ++ [Value.int (-1) t])[(0 : Int).toNat]? = some (.int (ns.head?.getD (-1)) tz) := by
    cases hi with
    | nil => exact ⟨t, rfl⟩
    | cons k tk hi => exact ⟨tk, rfl⟩
  obtain ⟨tz, e⟩ := e
  refine add_lists (ws := [.int (-1) t]) (hsz := by rw [sizeLine_eq, hi.length]; simp; omega) F N (PySem.IsL.isList (n := n) (N _ hm).1) (PySem.IsL.isList (n := n') (N _ hm').1) fun h' F' N' => ?_
  exact h _ _ tz h' F' N' (fun p hp => Heap.lt_size (N p hp).1) e
def KeyVals (vs : List Value) (nw : List (Addr × Obj)) : Prop := ∀ (i : Nat) (v : Value), vs[i]? = some v → ∃ kc okc c, v = .ref kc ∧ (kc, okc) ∈ nw ∧ IsKey okc c ∧ c ≤ 3
theorem keys4 {h₀ h : Heap} {L : Addr} {kl k0 k1 k2 k3 : Addr} {o0 o1 o2 o3 : Obj} {led : List (Addr × Obj)} (N : News h₀ L h ((kl, listOf #[.ref k0, .ref k1, .ref k2, .ref k3] 0) :: (k3, o3) :: (k2, o2) :: (k1, o1) :: (k0, o0) :: led))
    (i0 : IsKey o0 0) (i1 : IsKey o1 1) (i2 : IsKey o2 2) (i3 : IsKey o3 3) : ∃ led' vs, News h₀ L h led' ∧ (kl, listOf (vs : List Value).toArray 0) ∈ led' ∧ KeyVals vs led' ∧ (∀ p ∈ led, p ∈ led') := by
  refine ⟨_, [.ref k0, .ref k1, .ref k2, .ref k3], N, .head _, ?_, fun p hp => by simp [hp]⟩
  intro i v hv
  match i, hv with
  | 0, hv => cases hv; exact ⟨k0, o0, 0, rfl, by simp, i0, by omega⟩
  | 1, hv => cases hv; exact ⟨k1, o1, 1, rfl, by simp, i1, by omega⟩
  | 2, hv => cases hv; exact ⟨k2, o2, 2, rfl, by simp, i2, by omega⟩
  | 3, hv => cases hv; exact ⟨k3, o3, 3, rfl, by simp, i3, by omega⟩
  | i + 4, hv => simp at hv
theorem Cx.up {w : World} {A₀ A : Around} {base h₀ : Heap} {outer : List Env} {env : Env} {L : Addr} {mean : ExcName → Option Value} {mg mb : Str → Option Value} {D D' : Nat} (C : Cx w A₀ A base h₀ outer env L mean mg mb D) (h : D ≤ D') : Cx w A₀ A base h₀ outer env L mean mg mb D' := by
  obtain ⟨B, X, T, hA, hf, hke, hroom, hunits, hh⟩ := C
  exact ⟨B, X, T, hA, hf, hke, by omega, by omega, hh⟩
def LawJ (l : Nat) (a : Ad) (led : List (Addr × Obj)) (m : Str → Option Value) (nws : List (Addr × Obj)) : Prop :=
  m (Str.ofString "script") = some (.ref l) ∧ m (Str.ofString "held") = some (.ref a.st) ∧ m (Str.ofString "procs") = some (.ref a.pr) ∧ m (Str.ofString "rows") = some (.ref a.rw) ∧ ∀ p ∈ led, p ∈ nws
set_option maxRecDepth 100000 in
set_option maxHeartbeats 16000000 in
theorem X : PySem.Challenge.rw_rr0016_01.Holds := (by
  w_on
  o_law
  refine holds_open (q := vw) (loose := []) (Xt := fun s => xlAt vw [] s && recOk (RowW.records rW) s) (XP := XL vw []) (Yf := Hook.obs hk) (Ya := Hook.val hk) (YP := Hook.says hk) (N := 3018) left (Hook.of hk) (Hook.keeps hk) (fun s e => xl_of s (Bool.and_eq_true_iff.mp e).1) XL.keeps (by rfl) (by rfl) (by rfl) (fun s e => recFacts_of (Bool.and_eq_true_iff.mp e).2) (by rfl) (by assumption) oks ⟨rfl, rfl, rfl, rfl, rfl, by decide +kernel⟩ wit ?_
  w_top on
  w_strict (k_go0; (all_goals try k_fold))
  w_strict k_steps
  (rename Fr _ _ _ _ => fE)
  (rename News _ _ _ _ => nE)
  (rename (topK.heap_1 _).In _ => X1)
  (rename Top _ _ _ _ _ _ => T1)
  (rename IntsAre _ _ => hI)
  (rename Heap.IsList _ _ _ => hL)
  refine viaG fun G hG => ?_
  obtain ⟨ns, vs, l, jI, jL, h63, els⟩ : ∃ (ns : List Int) (vs : List Value) (l : Nat), IntsAre vs ns ∧ Heap.IsList _ l vs.toArray ∧ ns.length ≤ 63 ∧ l = _ := ⟨_, _, _, hI, hL, by omega, rfl⟩
  subst els
  refine hG ?_; clear hG
  refine wpAny_call (made_spec (Cx.law X1 T1) fE nE jL jI h63 ?_)
  intro h1 tk1 nw1 T a n1 F1 N1 sub1 H1 mT fresh1 nT
  have hWf := made_wf ns
  generalize hWe : made ns = W at H1 hWf
  try dsimp only
  clear fE nE
  w_strict k_steps
  (rename Fr _ _ _ _ => fE)
  (rename News _ _ _ _ => nE)
  have hlen := hWf.len
  refine wpAny_call (check_spec (Cx.law X1 T1) fE nE H1 (by omega) H1.rdlo.2 ?_)
  intro h2 tk2 F2 N2
  rw [check_true hWf]
  try dsimp only
  clear fE nE
  w_strict k_steps
  (rename Fr _ _ _ _ => fE)
  (with_unfolding_all refine' For_invVF fE ?k1 ?k2 ?_; (case k1 => exact rfl); (case k2 => exact rfl))
  w_strict k_steps
  (rename Fr _ _ _ _ => fE)
  (rename News _ _ _ _ => nE)
  refine iterInts (fun i m nws => LawJ l a nw1 m nws) rfl (.head _) (.cons _ _ (.cons _ _ .nil)) fE nE ⟨rfl, rfl, rfl, rfl, fun p hp => .tail _ hp⟩ ?_ ?_
  · clear fE nE
    intro i number tn m₁ news₁ h tk I own hkv hJ hnI hoI hown F₁ N₁
    refine viaG fun G hG => ?_
    obtain ⟨k1, k2, k3, k4, sub⟩ := hJ
    have hn : Two number := by
      match i, hkv with
      | 0, hkv => left; simp at hkv; exact hkv.symm
      | 1, hkv => right; simp at hkv; exact hkv.symm
      | i + 2, hkv => simp at hkv
    obtain ⟨led, nL, up, upo⟩ : ∃ l, News _ _ _ l ∧ (∀ p ∈ news₁, p ∈ l) ∧ (∀ p ∈ own, p ∈ l) := ⟨_, N₁, fun p hp => List.mem_append_right _ hp, fun p hp => List.mem_append_left _ hp⟩
    have F₂ := fr_in F₁ (m_put2 (m_put2 (m_put2 (m_put k1) k2) k3) k4)
    clear F₁ N₁
    have HL : Has _ _ led a W := H1.mono (fun p hp => up _ (sub p hp))
    obtain ⟨orw, mrw, irw⟩ := HL.rw
    obtain ⟨vl, el, ml, il⟩ := HL.l _ hn
    have h5 := hWf.five _ hn
    have h1000 : (W.row number).length ≤ 1000 := by omega
    have vrw : valueAt [((3 : Int), Value.ref (a.l 3)), (4, .ref (a.l 4))] number = some (.ref (a.l number)) := by rcases hn with e | e <;> rw [e] <;> rfl
    refine hG ?_; clear hG
    w_strict k_steps
    (rename Fr _ _ _ _ => fE)
    (rename News _ _ _ _ => nE)
    (with_unfolding_all refine' For_invVF fE ?k1 ?k2 ?_; (case k1 => exact rfl); (case k2 => exact rfl))
    w_strict k_steps
    (rename IsRange _ _ _ _ _ _ _ _ => hR)
    (rename Fr _ _ _ _ => fE)
    (rename News _ _ _ _ => nE)
    refine iterR (fun i m nws => LawJ l a led m nws ∧ m (Str.ofString "number") = some (.int number tn)) hR rfl (by omega) (by omega) fE nE ⟨⟨rfl, rfl, rfl, rfl, fun p hp => hp⟩, rfl⟩ ?_ ?_
    · clear fE nE
      intro spot ts m₂ news₂ h₂ tk₂ I₂ own₂ hsp hJ₂ hnI₂ hoI₂ hown₂ F₃ N₃
      refine viaG fun G hG => ?_
      obtain ⟨⟨j1, j2, j3, j4, sub₂⟩, j5⟩ := hJ₂
      have hsl : spot < (W.row number).length := by omega
      obtain ⟨i0, r0, ek0, hr0, -⟩ := wf_at hWf hn (List.getElem?_eq_getElem hsl)
      have hx0 : (W.row number)[spot]? = some (i0 : Int) := by rw [List.getElem?_eq_getElem hsl, ek0]
      obtain ⟨led2, nL2, up2, upo2⟩ : ∃ l, News _ _ _ l ∧ (∀ p ∈ news₂, p ∈ l) ∧ (∀ p ∈ own₂, p ∈ l) := ⟨_, N₃, fun p hp => List.mem_append_right _ hp, fun p hp => List.mem_append_left _ hp⟩
      have F₄ := fr_in F₃ (m_put2 (m_put2 (m_put2 (m_put2 (m_put j1) j2) j3) j4) j5)
      clear F₃ N₃
      refine hG ?_; clear hG
      w_strict k_steps
      (rename Fr _ _ _ _ => fE)
      (with_unfolding_all refine' For_invVF fE ?k1 ?k2 ?_; (case k1 => exact rfl); (case k2 => exact rfl))
      w_strict k_steps
      (rename IsRange _ _ _ _ _ _ _ _ => hR2)
      (rename Fr _ _ _ _ => fE)
      (rename News _ _ _ _ => nE)
      refine iterR (fun i m nws => LawJ l a led2 m nws ∧ m (Str.ofString "number") = some (.int number tn) ∧ m (Str.ofString "spot") = some (.int (spot : Int) ts)) hR2 rfl (by omega) (by omega) fE nE ⟨⟨rfl, rfl, rfl, rfl, fun p hp => hp⟩, rfl, rfl⟩ ?_ ?_
      · clear fE nE
        intro way tw m₃ news₃ h₃ tk₃ I₃ own₃ hwy hJ₃ hnI₃ hoI₃ hown₃ F₅ N₅
        refine viaG fun G hG => ?_
        obtain ⟨⟨y1, y2, y3, y4, sub₃⟩, y5, y6⟩ := hJ₃
        obtain ⟨led3, nL3, up3, upo3⟩ : ∃ l, News _ _ _ l ∧ (∀ p ∈ news₃, p ∈ l) ∧ (∀ p ∈ own₃, p ∈ l) := ⟨_, N₅, fun p hp => List.mem_append_right _ hp, fun p hp => List.mem_append_left _ hp⟩
        have F₆ := fr_in F₅ (m_put2 (m_put2 (m_put2 (m_put2 (m_put2 (m_put y1) y2) y3) y4) y5) y6)
        clear F₅ N₅
        refine hG ?_; clear hG
        w_strict k_steps
        (rename Fr _ _ _ _ => fE)
        (rename News _ _ _ _ => nE)
        refine wpAny_call (made_spec (Cx.law X1 T1) fE nE jL jI h63 ?_)
        intro h4 tk4 nw4 T4 a2 n4 F7 N7 sub4 H4 mT4 fresh4 nT4
        rw [hWe] at H4
        try dsimp only
        clear fE nE
        w_strict k_steps
        (rename Fr _ _ _ _ => fE)
        (rename News _ _ _ _ => nE)
        have hn7 : Two (7 - number) := by unfold Two at *; omega
        have h57 := hWf.five _ hn7
        refine wpAny_call (spoil_spec (Cx.law X1 T1) fE nE H4 hn hx0 hr0 (by omega) (by omega) ?_)
        intro h5 tk5 nw5 v W' F8 N8 hv hW' H5 keep5
        have sub5 : ∀ p ∈ led3, p ∈ nw5 := fun p hp => keep5 p (sub4 p hp) (fresh4 p hp)
        clear fE nE
        cases hs : spoilR W number spot (way : Int) r0 with
        | none =>
          rw [hs] at hv
          refine viaG fun G hG => ?_
          obtain rfl : v = false := hv
          refine hG ?_; clear hG
          try dsimp only
          w_strict k_steps
          exact TurnPost.nxt (by assumption) (by assumption) (fun p hp => sub5 _ (upo3 p hp)) ⟨⟨rfl, rfl, rfl, rfl, fun p hp => mem_off (sub5 _ (up3 _ (sub₃ p hp))) (by simpa using hnI₃ _ (sub₃ p hp))⟩, rfl, rfl⟩
        | some r' =>
          rw [hs] at hv
          refine viaG fun G hG => ?_
          obtain rfl : v = true := hv
          have hW2 := hW' r' hs
          refine hG ?_; clear hG
          try dsimp only
          w_strict k_steps
          (rename Fr _ _ _ _ => fE)
          (rename News _ _ _ _ => nE)
          refine wpAny_call (check_spec (Cx.law X1 T1) fE nE H5 (by rw [hW2]; show (W.recs.set i0 r').length ≤ 20; rw [List.length_set]; omega) H5.rdlo.2 ?_)
          intro h6 tk6 F9 N9
          rw [hW2, spoil_false hWf (Nat.le_refl _) hn hx0 hr0 hs]
          try dsimp only
          clear fE nE
          w_strict k_steps
          exact TurnPost.nxt (by assumption) (by assumption) (fun p hp => sub5 _ (upo3 p hp)) ⟨⟨rfl, rfl, rfl, rfl, fun p hp => mem_off (sub5 _ (up3 _ (sub₃ p hp))) (by simpa using hnI₃ _ (sub₃ p hp))⟩, rfl, rfl⟩
      · clear fE nE
        intro m₃ news₃ h₃ tk₃ hJ₃ F₅ N₅
        refine viaG fun G hG => ?_
        obtain ⟨⟨y1, y2, y3, y4, sub₃⟩, y5, y6⟩ := hJ₃
        refine hG ?_; clear hG
        w_strict k_steps
        exact TurnPost.nxt F₅ N₅ (fun p hp => sub₃ _ (upo2 p hp)) ⟨⟨y1, y2, y3, y4, fun p hp => mem_off (sub₃ _ (up2 _ (sub₂ p hp))) (by simpa using hnI₂ _ (sub₂ p hp))⟩, y5⟩
    · clear fE nE
      intro m₂ news₂ h₂ tk₂ hJ₂ F₃ N₃
      refine viaG fun G hG => ?_
      obtain ⟨⟨j1, j2, j3, j4, sub₂⟩, j5⟩ := hJ₂
      have F₄ := fr_to F₃ (m_put2 (m_put2 (m_put2 (m_put2 (m_put j1) j2) j3) j4) j5)
      clear F₃
      have H6 : Has _ _ news₂ a W := HL.mono sub₂
      have mst := H6.st
      obtain ⟨ost, mdst, τs, rfl⟩ := H6.dst
      refine hG ?_; clear hG
      w_strict k_steps
      (rename Fr _ _ _ _ => fE)
      (with_unfolding_all refine' For_invVF fE ?k1 ?k2 ?_; (case k1 => exact rfl); (case k2 => exact rfl))
      w_strict k_steps
      (rename Fr _ _ _ _ => fE)
      (rename News _ _ _ _ => nE)
      refine iterInts (fun i m nws => LawJ l a news₂ m nws ∧ m (Str.ofString "number") = some (.int number tn)) rfl (.head _) (.cons _ _ (.cons _ _ (.cons _ _ .nil))) fE nE ⟨⟨rfl, rfl, rfl, rfl, fun p hp => .tail _ hp⟩, rfl⟩ ?_ ?_
      · clear fE nE
        intro gi gen tg m₃ news₃ h₃ tk₃ I₃ own₃ hgk hJ₃ hnI₃ hoI₃ hown₃ F₅ N₅
        refine viaG fun G hG => ?_
        obtain ⟨⟨y1, y2, y3, y4, sub₃⟩, y5⟩ := hJ₃
        obtain ⟨led3, nL3, up3, upo3⟩ : ∃ l, News _ _ _ l ∧ (∀ p ∈ news₃, p ∈ l) ∧ (∀ p ∈ own₃, p ∈ l) := ⟨_, N₅, fun p hp => List.mem_append_right _ hp, fun p hp => List.mem_append_left _ hp⟩
        have F₆ := fr_in F₅ (m_put2 (m_put2 (m_put2 (m_put2 (m_put y1) y2) y3) y4) y5)
        clear F₅ N₅
        refine hG ?_; clear hG
        w_strict k_steps
        (rename Fr _ _ _ _ => fE)
        (with_unfolding_all refine' For_invVF fE ?k1 ?k2 ?_; (case k1 => exact rfl); (case k2 => exact rfl))
        w_strict k_steps
        (rename Fr _ _ _ _ => fE)
        (rename News _ _ _ _ => nE)
        refine viaG fun G hG => ?_
        obtain ⟨led4, vk, nK, mkl, hKV, sub4⟩ := keys4 nE ⟨_, (0 : Nat), _, rfl⟩ ⟨_, (0 : Nat), _, rfl⟩ ⟨_, _, _, rfl⟩ ⟨_, _, _, rfl⟩
        refine hG ?_; clear hG
        refine iterVals (fun i m nws => LawJ l a led4 m nws ∧ m (Str.ofString "number") = some (.int number tn) ∧ m (Str.ofString "generation") = some (.int gen tg)) rfl mkl fE nK ⟨⟨rfl, rfl, rfl, rfl, fun p hp => hp⟩, rfl, rfl⟩ ?_ ?_
        · clear fE nE nK
          intro ki v m₄ news₄ h₄ tk₄ I₄ own₄ hvk hJ₄ hnI₄ hoI₄ hown₄ F₇ N₇
          refine viaG fun G hG => ?_
          obtain ⟨⟨z1, z2, z3, z4, sub₅⟩, z5, z6⟩ := hJ₄
          obtain ⟨kc, okc, c, rfl, mkc, ikc, hc⟩ := hKV ki v hvk
          obtain ⟨led5, nL5, up5, upo5⟩ : ∃ l, News _ _ _ l ∧ (∀ p ∈ news₄, p ∈ l) ∧ (∀ p ∈ own₄, p ∈ l) := ⟨_, N₇, fun p hp => List.mem_append_right _ hp, fun p hp => List.mem_append_left _ hp⟩
          have F₈ := fr_in F₇ (m_put2 (m_put2 (m_put2 (m_put2 (m_put2 (m_put z1) z2) z3) z4) z5) z6)
          clear F₇ N₇
          have HL5 : Has _ _ led5 a W := H6.mono (fun p hp => up5 _ (sub₅ _ (sub4 _ (up3 _ (sub₃ _ hp)))))
          clear mst mdst ml mrw
          obtain ⟨orw5, mrw, irw5⟩ := HL5.rw
          obtain ⟨opr5, mpr, ipr5⟩ := HL5.pr
          have lopr := HL5.rdlo.2
          obtain ⟨vl5, el5, ml, il5⟩ := HL5.l _ hn
          have vpr : valueAt [((3 : Int), Value.ref (a.p 3)), (4, .ref (a.p 4))] number = some (.ref (a.p number)) := by rcases hn with e | e <;> rw [e] <;> rfl
          have mkc5 := up5 _ (sub₅ _ mkc)
          refine hG ?_; clear hG
          w_strict k_steps
          (rename Fr _ _ _ _ => fE)
          (rename News _ _ _ _ => nE)
          refine wpAny_call (walked_spec (Cx.law X1 T1) fE nE HL5 hWf hn mkc5 ikc hc ?_)
          intro h6 tk6 nw6 lw uw ew F9 N9 sub6 mlw iuw
          try dsimp only
          clear fE nE
          have mrw6 := sub6 _ mrw
          have ml6 := sub6 _ ml
          w_strict k_steps
          (rename Fr _ _ _ _ => fE)
          (rename News _ _ _ _ => nE)
          refine wpAny_call (seen_spec (Cx.law X1 T1) fE nE (HL5.mono sub6) hWf hn (sub6 _ mkc5) ikc hc (sub6 _ ml) il5 (fun k hk => hk) h5 ?_)
          intro h7 tk7 nw7 ls us es F10 N10 sub7 mls ius
          try dsimp only
          clear fE nE
          w_strict k_steps
          (rename Fr _ _ _ _ => fE)
          (rename News _ _ _ _ => nE)
          refine ne_mem nE (sub7 _ mlw) iuw mls ius (by show callerA.units + 3 < 9000; decide) ?_
          rw [decide_eq_true rfl]
          try dsimp only
          have mrw7 := sub7 _ mrw6
          have ml7 := sub7 _ ml6
          w_strict k_steps
          k_here
          (rename Fr _ _ _ _ => fE)
          (rename News _ _ _ _ => nE)
          refine slice1_mem fE nE ml7 il5 h1000 ?_
          intro D8 ws8 h8 F11 N11 l8 iw8
          try dsimp only
          clear fE nE
          w_strict k_steps
          (rename Fr _ _ _ _ => fE)
          (rename News _ _ _ _ => nE)
          refine viaG fun G hG => ?_
          obtain ⟨nw8, nE8, mD8, sub8⟩ : ∃ nw, News _ _ _ nw ∧ (D8, listOf ws8.toArray 0) ∈ nw ∧ (∀ p ∈ nw7, p ∈ nw) := ⟨_, nE, .head _, fun p hp => .tail _ hp⟩
          clear nE
          have H8 : Has _ _ nw8 a W := HL5.mono fun p hp => sub8 _ (sub7 _ (sub6 _ hp))
          refine hG ?_; clear hG
          refine wpAny_call (seen_spec (Cx.law X1 T1) fE nE8 H8 hWf hn (sub8 _ (sub7 _ (sub6 _ mkc5))) ikc hc mD8 iw8 (fun k hk => List.mem_of_mem_drop hk) (by rw [List.length_drop]; omega) ?_)
          intro h9 tk9 nw9 ld ud ed F12 N12 sub9 mld iud
          try dsimp only
          clear fE nE8
          have H9 : Has _ _ nw9 a W := H8.mono sub9
          have mst9 := H9.st
          refine viaG fun G hG => ?_
          obtain ⟨ost9, mdst9, τs, rfl⟩ := H9.dst
          have mD9 := sub9 _ mD8
          refine hG ?_; clear hG
          w_strict k_steps
          (rename Fr _ _ _ _ => fE)
          (rename News _ _ _ _ => nE)
          refine ne_nil nE (show (D8, listOf ws8.toArray 0) ∈ _ by k_mem) iw8 (.head _) (by show callerA.units + 3 < 9000; decide) ?_
          by_cases hd0 : (W.row number).drop 1 = []
          · rw [decide_eq_true hd0]
            try dsimp only
            w_strict k_steps
            exact TurnPost.nxt (by assumption) (by assumption) (fun p hp => .tail _ (sub9 _ (sub8 _ (sub7 _ (sub6 _ (upo5 p hp)))))) ⟨⟨rfl, rfl, rfl, rfl, fun p hp => mem_off (.tail _ (sub9 _ (sub8 _ (sub7 _ (sub6 _ (up5 _ (sub₅ p hp))))))) (by simpa using hnI₄ _ (sub₅ p hp))⟩, rfl, rfl⟩
          · rw [decide_eq_false hd0]
            try dsimp only
            refine viaG fun G hG => ?_
            obtain ⟨k1', hk1'⟩ : ∃ k, (W.row number)[1]? = some k := by
              cases hz : (W.row number)[1]? with
              | none => exact absurd (List.drop_eq_nil_of_le (List.getElem?_eq_none_iff.mp hz)) hd0
              | some k => exact ⟨k, rfl⟩
            obtain ⟨tk1', hws⟩ := iw8.get 0 k1' (by rw [List.getElem?_drop]; exact hk1')
            have hws' : ws8[(0 : Int).toNat]? = some (.int k1' tk1') := hws
            have hlt1 := (List.getElem?_eq_some_iff.mp hk1').1
            refine hG ?_; clear hG
            w_strict k_steps
            refine wpAny_call (live_spec ((Cx.law X1 T1).up (by omega)) (by assumption) nE (H9.mono fun p hp => .tail _ hp) hWf hn (p := 1) (by omega) (by rw [hk1']; rfl) (.tail _ (sub9 _ (sub8 _ (sub7 _ (sub6 _ mkc5))))) ikc hc ?_)
            intro h10 tk10 t10 F13 N13
            try dsimp only
            w_strict k_steps
            (rename Fr _ _ _ _ => fE)
            (rename News _ _ _ _ => nE)
            refine add_first fE nE (.tail _ (.tail _ mld)) iud (.head _) (by have h1 := List.length_filter_le (aliveP W gen c) (List.drop 1 (W.row number)); rw [List.length_drop] at h1; omega) ?_
            intro D11 zs tz h11 F14 N14 l11 hzs
            replace hzs : zs[(0 : Int).toNat]? = some (.int (firstP W gen c (List.drop 1 (W.row number))) tz) := hzs
            try dsimp only
            clear fE nE
            generalize firstP W gen c (List.drop 1 (W.row number)) = fp at hzs ⊢
            w_strict k_steps
            · exfalso; omega
            · exact TurnPost.nxt (by assumption) (by assumption) (fun p hp => .tail _ (.tail _ (.tail _ (sub9 _ (sub8 _ (sub7 _ (sub6 _ (upo5 p hp)))))))) ⟨⟨rfl, rfl, rfl, rfl, fun p hp => mem_off (.tail _ (.tail _ (.tail _ (sub9 _ (sub8 _ (sub7 _ (sub6 _ (up5 _ (sub₅ p hp))))))))) (by simpa using hnI₄ _ (sub₅ p hp))⟩, rfl, rfl⟩
        · clear fE nE
          intro m₄ news₄ h₄ tk₄ hJ₄ F₇ N₇
          refine viaG fun G hG => ?_
          obtain ⟨⟨z1, z2, z3, z4, sub₅⟩, z5, z6⟩ := hJ₄
          refine hG ?_; clear hG
          w_strict k_steps
          exact TurnPost.nxt F₇ N₇ (fun p hp => sub₅ _ (sub4 _ (upo3 p hp))) ⟨⟨z1, z2, z3, z4, fun p hp => mem_off (sub₅ _ (sub4 _ (up3 _ (sub₃ p hp)))) (by simpa using hnI₃ _ (sub₃ p hp))⟩, z5⟩
      · clear fE nE
        intro m₃ news₃ h₃ tk₃ hJ₃ F₅ N₅
        refine viaG fun G hG => ?_
        obtain ⟨⟨y1, y2, y3, y4, sub₃⟩, y5⟩ := hJ₃
        have F₆ := fr_to F₅ (m_put2 (m_put2 (m_put2 (m_put2 (m_put y1) y2) y3) y4) y5)
        clear F₅
        have H7 : Has _ _ news₃ a W := H6.mono sub₃
        clear mst mdst ml mrw
        obtain ⟨orw7, mrw, irw7⟩ := H7.rw
        obtain ⟨vl7, el7, ml, il7⟩ := H7.l _ hn
        refine hG ?_; clear hG
        w_strict k_steps
        · (rename Fr _ _ _ _ => fE)
          (rename News _ _ _ _ => nE)
          refine wpAny_call (made_spec (Cx.law X1 T1) fE nE jL jI h63 ?_)
          intro h4 tk4 nw4 T4 a2 n4 F7 N7 sub4 H4 mT4 fresh4 nT4
          rw [hWe] at H4
          try dsimp only
          clear fE nE
          have hl2 : 2 < (W.row number).length := by omega
          refine viaG fun G hG => ?_
          obtain ⟨k0, hk0⟩ : ∃ k, (W.row number)[0]? = some k := ⟨_, List.getElem?_eq_getElem (by omega)⟩
          obtain ⟨i0, r0, rfl, hr0, -⟩ := wf_at hWf hn hk0
          obtain ⟨⟨x, d, kx⟩, hxa⟩ : ∃ q, a2.ra[i0]? = some q := ⟨_, List.getElem?_eq_getElem (by rw [H4.len]; exact (List.getElem?_eq_some_iff.mp hr0).1)⟩
          obtain ⟨mx, ⟨od, md, iR⟩, -⟩ := H4.recs i0 x d kx r0 hxa hr0
          have sd : a2.at (.e i0) = some d := by simp [Ad.at, hxa]
          have go : ∀ (t : Sl) (u : Nat) (o : Obj), a2.at t = some u → t ≠ .e i0 → (u, o) ∈ nw4 → (u, o) ∈ off [d] nw4 := fun t u o ht hne hm => mem_off hm (by simpa using H4.ne t (.e i0) ht sd hne)
          have old : ∀ p ∈ news₃, p ∈ off [d] nw4 := fun p hp => mem_off (sub4 p hp) (by simp only [List.mem_singleton]; exact fun e => fresh4 p hp (e ▸ ⟨_, sd⟩))
          have N1 : News _ _ _ ((d, od) :: off [d] nw4) := news_cons N7 md (news_off N7)
          clear N7
          replace mT4 := mem_off (as := [d]) mT4 (by simp only [List.mem_singleton]; exact fun e => nT4 (e ▸ ⟨_, sd⟩))
          have mrw4 := old _ mrw
          have ml4 := old _ ml
          have mst4 := go .st _ _ rfl (by simp) H4.st
          obtain ⟨ost4, mdst4, τs, rfl⟩ := H4.dst
          replace mdst4 := go .dst _ _ rfl (by simp) mdst4
          obtain ⟨ord4, mrd4, ird4⟩ := H4.rd
          have lord4 := H4.rdlo.1
          replace mrd4 := go .rd _ _ rfl (by simp) mrd4
          replace mx := go (.x i0) _ _ (by simp [Ad.at, hxa]) (by simp) mx
          have v3 : valueAt (recKvs a2.ra) (i0 : Int) = some (.ref x) := recKvs_val hxa
          obtain ⟨τr, rfl⟩ := iR
          obtain ⟨ti, hx1⟩ := il7.get 0 _ hk0
          have hx1' : vl7[(0 : Int).toNat]? = some (.int (i0 : Int) ti) := hx1
          have hl7 := il7.length
          obtain ⟨tl, hx2⟩ : ∃ t, vl7[(-1 + (vl7.length : Int)).toNat]? = some (.int ((W.row number).getLastD 0) t) := by
            have e3 : (-1 + (vl7.length : Int)).toNat = (W.row number).length - 1 := by omega
            rw [e3]
            refine il7.get _ _ ?_
            have hne : W.row number ≠ [] := by intro e; rw [e] at hl2; simp at hl2
            rw [← List.getLast?_eq_getElem?, List.getLastD_eq_getLast?, List.getLast?_eq_some_getLast hne]; rfl
          refine hG ?_; clear hG
          w_strict k_steps
          (rename Fr _ _ _ _ => fE)
          (rename News _ _ _ _ => nE)
          refine wpAny_call (check_spec (Cx.law X1 T1) fE nE (H4.setRec (i := i0) (r' := { r0 with next := (W.row number).getLastD 0 }) hxa hr0 rfl (isRec_mk ⟨rfl, rfl, rfl, rfl, rfl⟩)) (by show (W.recs.set i0 _).length ≤ 20; rw [List.length_set]; omega) H4.rdlo.2 ?_)
          intro h6 tk6 F9 N9
          rw [short_true hWf hn hl2 hk0 hr0]
          try dsimp only
          clear fE nE
          w_strict k_steps
          exact TurnPost.nxt (by assumption) (by assumption) (fun p hp => .tail _ (old _ (sub₃ _ (sub₂ _ (upo p hp))))) ⟨rfl, rfl, rfl, rfl, fun p hp => mem_off (.tail _ (old _ (sub₃ _ (sub₂ _ (up _ (sub p hp)))))) (by simpa using hnI _ (sub p hp))⟩
        · exact TurnPost.nxt (by assumption) (by assumption) (fun p hp => sub₃ _ (sub₂ _ (upo p hp))) ⟨rfl, rfl, rfl, rfl, fun p hp => mem_off (sub₃ _ (sub₂ _ (up _ (sub p hp)))) (by simpa using hnI _ (sub p hp))⟩
  · clear fE nE
    intro m₁ news₁ h tk hJ F₁ N₁
    w_strict k_steps
    try dsimp only
    exact goodW_bool F₁ (by assumption) (raisesW_false (by wrow_none_raised)) (by wrow_post))
end
end Mine
theorem PySem.Challenge.cw_rr0016_01_holds : PySem.Challenge.rw_rr0016_01.Holds := by
  exact Mine.X
