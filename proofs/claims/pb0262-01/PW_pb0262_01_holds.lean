import PyProof.Rows.All
import Wide.All
import OpenK.AllK
import Wide.FinOn
import Lean
import PySem.Challenge.RW_pb0262_01
section SLook
open PySem PySem.W PyProof.Rows
set_option Elab.async false
set_option maxRecDepth 100000
namespace Mine
theorem lss_cons (lk : Look) (s : Stmt) (r : List Stmt) : noRoadLSs lk (s :: r) = (noRoadLS lk s && noRoadLSs lk r) := rfl
theorem lss_append (lk : Look) : ∀ a b : List Stmt, noRoadLSs lk (a ++ b) = (noRoadLSs lk a && noRoadLSs lk b)
  | [], b => (Bool.true_and _).symm
  | s :: r, b => by rw [List.cons_append, lss_cons, lss_cons, lss_append lk r b, Bool.and_assoc]
abbrev body : List Stmt := PySem.Challenge.rw_pb0262_01.row.prog.main.body
abbrev lk0 : Look := { strict := !(importedModules PySem.Challenge.rw_pb0262_01.row.prog.main.body).all cThrough.contains, foot := none, bare := (["vars", "dir", "locals"] : List Str).filter (readsOut PySem.Challenge.rw_pb0262_01.row.prog PySem.Challenge.rw_pb0262_01.row.prog.main.body) }
theorem not_in {x : Str} (hx : x.cps[0]? = some 32) {l : List Str} (hl : (l.all fun y => y.cps[0]? != some 32) = true) : l.contains x = false := by
  rw [Bool.eq_false_iff]
  intro h
  have h2 := List.contains_iff_mem.mp h
  have h3 := List.all_eq_true.mp hl x h2
  rw [hx] at h3
  simp at h3
theorem str_stmt (lk : Look) (n : Str) (p1 p2 p3 : Pos) (x : Str) (k : Nat) (h1 : lk.foot = none) (h2 : lk.strict = false) (hb : lk.but = none) (hn : lk.name n = true) (hx : x.cps[0]? = some 32) (ho : x.opensWith "__" = false) (hr : roadStr x = false) :
    noRoadLS lk (.Assign [.Name n p1] (.Constant (.str x) k p2) p3) = true := by
  have a : attrL x = true := by
    unfold attrL
    rw [not_in hx (by decide +kernel), ho]
    rfl
  have w : lk.word x = true := by
    unfold Look.word
    rw [a, h1, h2, hb]
    rfl
  have s : lk.str x = true := by
    unfold Look.str
    rw [w, hr, Bool.or_true]
    rfl
  have g : (lk.stores [.Name n p1] && (lk.name n && true) && lk.str x) = true := by
    rw [hn, s]
    unfold Look.stores
    rw [h1]
    rfl
  exact g
theorem any_free (l : List Char) (p : Nat → Bool) (h : (l.all fun c => !p c.toNat) = true) : (Array.any (l.map Char.toNat).toArray p) = false := by
  rw [← Array.any_toList]
  rw [List.any_map, List.any_eq_false]
  intro c hc
  have := List.all_eq_true.mp h c hc
  simpa using this
theorem text_ok (x : String) (l : List Char) (e : x = String.ofList (' ' :: l)) (h : (l.all fun c => !(c.toNat == 123 || c.toNat == 125) && !(c.toNat == 46)) = true) :
    (Str.ofString x).cps[0]? = some 32 ∧ (Str.ofString x).opensWith "__" = false ∧ roadStr (Str.ofString x) = false := by
  subst e
  rw [PySem.W.Fast.ofString_ofList]
  have hh : ∀ c ∈ l, (c.toNat == 123 || c.toNat == 125) = false ∧ (c.toNat == 46) = false := fun c hc => by
    have := List.all_eq_true.mp h c hc
    simp only [Bool.and_eq_true, Bool.not_eq_true'] at this
    exact this
  refine ⟨rfl, ?_, ?_⟩
  · rw [Bool.eq_false_iff]
    intro h
    unfold PySem.Str.opensWith at h
    have h' := congrArg (fun a : Array Nat => a[0]?) (beq_iff_eq.mp h)
    have e2 : (Str.ofString "__").cps = #[95, 95] := by decide +kernel
    rw [e2] at h'
    simp [Array.getElem?_extract] at h'
  · unfold roadStr
    rw [any_free (p := fun c => c == 123 || c == 125), any_free (p := fun c => c == 46)]
    · rfl
    · rw [List.all_eq_true]
      intro c hc
      rcases List.mem_cons.mp hc with rfl | hc
      · rfl
      · rw [(hh c hc).2]; rfl
    · rw [List.all_eq_true]
      intro c hc
      rcases List.mem_cons.mp hc with rfl | hc
      · rfl
      · rw [(hh c hc).1]; rfl
theorem at31 : ∃ (n : Str) (p1 p2 p3 : Pos) (x : String) (l : List Char), body = body.take 31 ++ PySem.Stmt.Assign [PySem.Expr.Name n p1] (PySem.Expr.Constant (PySem.Const.str (Str.ofString x)) 0 p2) p3 :: body.drop 32 ∧
    lk0.name n = true ∧ x = String.ofList (' ' :: l) ∧ (l.all fun c => !(c.toNat == 123 || c.toNat == 125) && !(c.toNat == 46)) = true := by
  refine ⟨_, _, _, _, _, _, rfl, ?_, rfl, ?_⟩
  · decide +kernel
  · decide +kernel
theorem heavy : noRoadLSs lk0 body = true := by
  obtain ⟨n, p1, p2, p3, x, l, e, hn, hx, hl⟩ := at31
  obtain ⟨t1, t2, t3⟩ := text_ok x l hx hl
  rw [e, lss_append, lss_cons, str_stmt lk0 n p1 p2 p3 _ 0 rfl (by decide +kernel) rfl hn t1 t2 t3]
  have a : noRoadLSs lk0 (body.take 31) = true := by decide +kernel
  have b : noRoadLSs lk0 (body.drop 32) = true := by decide +kernel
  rw [a, b]
  rfl
theorem look : PySem.Challenge.rw_pb0262_01.wellSaid = true := by
  unfold OpenLaw.wellSaid OpenRow.wellSaid OpenRow.partSaid looksOpen
  repeat' (first | with_reducible exact heavy | (with_reducible refine look_both ?_ ?_))
  all_goals (first | decide +kernel | kernel_rfl)
end Mine
end SLook
section SHead4
open PySem PySem.W PyProof.Rows
set_option Elab.async false
set_option maxRecDepth 100000
set_option maxHeartbeats 0
namespace Mine
def keepIdx : List Nat := [41]
abbrev pG : Program := PySem.Challenge.rw_pb0262_01.row.prog
abbrev vG (p : Program) : Program := PySem.W.view p keepIdx
abbrev ls : List PySem.Str := [PySem.Str.ofString "_wall", PySem.Str.ofString "MOST_SUBSCRIPTS", PySem.Str.ofString "FIGURE_NAMES", PySem.Str.ofString "is_part_next", PySem.Str.ofString "read_subscripts", PySem.Str.ofString "read_part", PySem.Str.ofString "read_ref", PySem.Str.ofString "read_all", PySem.Str.ofString "read_figure", PySem.Str.ofString "read_operand", PySem.Str.ofString "no_expression", PySem.Str.ofString "read_literal", PySem.Str.ofString "read_worths", PySem.Str.ofString "LedgerError", PySem.Str.ofString "TokenFault", PySem.Str.ofString "GrammarFault", PySem.Str.ofString "FIGURES", PySem.Str.ofString "cut_quotient", PySem.Str.ofString "decimal", PySem.Str.ofString "negated", PySem.Str.ofString "units_at", PySem.Str.ofString "is_whole", PySem.Str.ofString "whole_of", PySem.Str.ofString "worth_of", PySem.Str.ofString "read_decimal", PySem.Str.ofString "MOST_OCTET", PySem.Str.ofString "RESERVED", PySem.Str.ofString "is_reserved", PySem.Str.ofString "octets_of_text", PySem.Str.ofString "Reader", PySem.Str.ofString "Token", PySem.Str.ofString "_law_worths", PySem.Str.ofString "_law_draw", PySem.Str.ofString "_law_told"]
def textOf : List Stmt → PySem.Str
  | .Assign _ (.Constant (.str x) _ _) _ :: _ => x
  | _ => PySem.Str.empty
def resOf (p : Program) : PySem.Str := textOf (p.main.body.drop 31)
def fixE (R : PySem.Str) (e : DictEntry) : DictEntry := if e.key.isStr "RESERVED" then ⟨e.hash, e.key, match e.val with | .str _ t => .str R t | v => v⟩ else e
def fixO (R : PySem.Str) (a : Addr) (o : Obj) : Obj := match Nat.beq a 3 with
  | true => ⟨o.cls, o.dict, match o.data with | .dict es n => .dict (es.toList.map (fixE R)).toArray n | d => d, o.slots⟩
  | false => o
end Mine
local macro_rules | `(tactic| o_head (kHook $k $a $e)) => `(tactic| assumption)
namespace Mine
/-- this proof lays the written part of the heap, frag.heap_1 -/
theorem frag (h : PySem.Challenge.rw_pb0262_01.row.Holds) : PySem.Challenge.rw_pb0262_01.row.Holds := by k_head
theorem fixed : ∀ P : Params, (frag.heap_1 P).map (fun p => fixO (resOf pG) p.1 p.2) = (frag.heap_1 P).map (·.2) := fun P => by kernel_rfl
theorem in_of {h : Heap} {g : Addr → Obj → Obj} : ∀ {K : Frag}, K.map (fun p => h.get? p.1) = K.map (fun p => some (g p.1 p.2)) → K.map (fun p => g p.1 p.2) = K.map (·.2) → ∀ p ∈ K, h.get? p.1 = some p.2
  | [], _, _, _, hp => nomatch hp
  | q :: K, e, f, p, hp => by
    rw [List.map_cons, List.map_cons] at e f
    injection e with e1 e2
    injection f with f1 f2
    rcases List.mem_cons.mp hp with rfl | hp
    · rw [e1, f1]
    · exact in_of e2 f2 p hp
noncomputable def obsG (s : Shared) : Params → List (Option Obj) := fun P => (frag.heap_1 P).map fun p => s.heap.get? p.1
noncomputable def valG (R : PySem.Str) (w : World) : Params → List (Option Obj) := fun _ => (frag.heap_1 w.params).map fun p => some (fixO R p.1 p.2)
theorem lookup_mem {a : Addr} {o : Obj} : ∀ {K : Frag}, K.lookup a = some o → (a, o) ∈ K
  | [], h => by cases h
  | (b, x) :: K, h => by
    rw [List.lookup_cons] at h
    cases e : a == b with
    | true =>
      rw [e] at h
      cases h
      rw [beq_iff_eq.mp e]
      exact List.mem_cons_self ..
    | false =>
      rw [e] at h
      exact List.mem_cons_of_mem _ (lookup_mem h)
theorem hk_of (w : World) (s : Shared) (e : obsG s = valG (resOf pG) w) : InK frag.heap_1 w s.heap := fun a o h =>
  in_of (congrFun e w.params) (fixed w.params) (a, o) (lookup_mem h)
noncomputable def Hk : Hook := ⟨Params → List (Option Obj), obsG, valG (resOf pG), InK frag.heap_1, hk_of, InK.keeps⟩
abbrev XtG (p : Program) (s : Shared) : Bool := xlAt (vG p) [] s && recOk (RowW.records PySem.Challenge.rw_pb0262_01.row.toRowW) s
theorem run_f (w : World) : (fencedOpening treeTable pG w 6114).bind (fun s₀ => (topFrom treeTable pG (w.withFollow "special-get-raises" false) 6114 s₀).map fun s => (openSeen (vG pG) ls (importedModules pG.main.body) (XtG pG) true s, obsG s)) =
    some (openGood (vG pG) ls, valG (resOf pG) (w.withFollow "special-get-raises" false)) := by
  unfold fencedOpening topFrom
  rw [PySem.W.Fast.te4187177175401517315, PySem.W.Fast.te5923862056798008813, PySem.W.Fast.te10274390034422433532, PySem.W.Fast.te14364793385576792824, PySem.W.Fast.te1435165496053646825, PySem.W.Fast.te14289696077712309145, PySem.W.Fast.te14082659384304107361, PySem.W.Fast.te8920871248978507458]
  kernel_rfl
theorem run_t (w : World) : (fencedOpening treeTable pG w 6114).bind (fun s₀ => (topFrom treeTable pG (w.withFollow "special-get-raises" true) 6114 s₀).map fun s => (openSeen (vG pG) ls (importedModules pG.main.body) (XtG pG) true s, obsG s)) =
    some (openGood (vG pG) ls, valG (resOf pG) (w.withFollow "special-get-raises" true)) := by
  unfold fencedOpening topFrom
  rw [PySem.W.Fast.te4187177175401517315, PySem.W.Fast.te5923862056798008813, PySem.W.Fast.te10274390034422433532, PySem.W.Fast.te14364793385576792824, PySem.W.Fast.te1435165496053646825, PySem.W.Fast.te14289696077712309145, PySem.W.Fast.te14082659384304107361, PySem.W.Fast.te8920871248978507458]
  kernel_rfl
theorem pair {α β : Type} {x : Option α} {g1 g2 : α → Option β} {a b : β} (h1 : x.bind g1 = some a) (h2 : x.bind g2 = some b) : x.map (fun s => (g1 s, g2 s)) = some (some a, some b) := by
  cases x with
  | none => cases h1
  | some s =>
    have h1' : g1 s = some a := h1
    have h2' : g2 s = some b := h2
    rw [Option.map_some, h1', h2']
theorem left : LeftO pG (vG pG) ls (XtG pG) Hk.obs Hk.val 6114 :=
  LeftO.of_split "special-get-raises" fun w => pair (run_f w) (run_t w)
end Mine
end SHead4
section SFly1
open PySem PySem.W PyProof.Rows PySem.Calls
set_option Elab.async false
set_option maxRecDepth 100000
set_option hygiene false
set_option linter.unusedVariables false
set_option maxHeartbeats 8000000
namespace Mine
theorem filledF : (fun (_ : OpenLaw) (_ : Params → Frag) => True) PySem.Challenge.rw_pb0262_01 frag.heap_1 := by
  k_fill
  trivial
abbrev gfTail : List Value := [.ref 118, .type "Exception", .type "BaseException", .type "object"]
theorem gf_cls (P : Params) : ∃ nm q N bs hdct sn sub ab col dd k0 k1 k2 k3 k5, (frag.heap_1 P).lookup 143 = some (excClassObj nm q 143 N bs gfTail hdct sn sub ab col dd k0 k1 k2 k3 k5 "Exception.__new__") :=
  ⟨_, _, _, _, _, _, _, _, _, _, _, _, _, _, _, rfl⟩
theorem gf_init (P : Params) : findIn (frag.heap_1 P) (.ref 143) "__init__" = some (some (.ref 108)) := by k_is
abbrev excObj (dd : Option Addr) (t : Addr) : Obj := { cls := .ref 143, dict := dd, data := .fields #[.ref t, .none, .none, .none, .bool false, .none] }
abbrev tupObj (vs : List Value) : Obj := { cls := .type "tuple", data := .seq vs.toArray }
section
variable {M : Model} {prog : Program} {w : World} {A : Around} {E : Value → Shared → Prop} {h : Heap} {g : Array GenState} {d : Drawn} {t : Nat} {os : OsState}
variable {nm q : Str} {N : Addr} {bs : List Value} {hdct : Bool} {sn : List Str} {sub : List Value} {ab : Bool} {col : Option Bool} {dd : Option Addr} {k0 k1 k2 k3 k5 : Option Value}
theorem gf_check_new {rest : List Value} {Q : Unit → Shared → Prop} (hC : h.get? 143 = some (excClassObj nm q 143 N bs gfTail hdct sn sub ab col dd k0 k1 k2 k3 k5 "Exception.__new__")) (hq : Q () ⟨h, g, d, t, os⟩) :
    wpAny M A (checkBuiltinCall "Exception.__new__" ⟨.ref 143 :: rest, []⟩) Q E ⟨h, g, d, t, os⟩ := by
  have B := PySem.F.excBase_Exception
  have star := B.noStar
  simp only [checkBuiltinCall, B.newKind, B.newSplit, B.newRow]
  repeat (first | refine wpAny_loadPart_at hC ?_ | refine wpAny_isSubtype_exc hC ?_ | refine wpAny_staticBase_exc hC ?_ | refine wpAny_madeBy_exc hC ?_ | simp only [bne_self_eq_false, Bool.false_eq_true, if_false] | wp_step)
  exact hq
theorem gf_new {rest : List Value} {R : Result → Shared → Prop} (hC : h.get? 143 = some (excClassObj nm q 143 N bs gfTail hdct sn sub ab col dd k0 k1 k2 k3 k5 "Exception.__new__"))
    (hq : R (.ok (.ret (.ref (h.objs.size + 1)))) ⟨(h.push (tupObj rest)).push (excObj none h.objs.size), g, d, t, os⟩) (hrest : rest.length ≤ sizeLine) :
    codeAny (model prog w) A (.builtin "Exception.__new__" ⟨.ref 143 :: rest, []⟩) R ⟨h, g, d, t, os⟩ := by
  have B := PySem.F.excBase_Exception
  have ends := B.ends
  refine codeAny_builtinAt B.entry ?_
  unfold Builtin.«BaseException.__new__»
  refine PySem.wpAt_bind ?_
  show PySem.wpAt _ _ _ (stack >>= _) _ _ _
  refine PySem.wpAt_bind (PySem.wpAt_stack fun p below => PySem.wpAt_of_wpAny ?_)
  wp_walk
  refine PySem.wpAt_of_wpAny ?_
  rw [B.owner]
  repeat (first | with_reducible refine wpAny_madeHere_exc B.canon hC ?_ | with_reducible refine wpAny_loadPart_at hC ?_ | with_reducible refine wpAny_isSubtype_exc hC ?_ | wp_step)
  show R _ _
  rw [Heap.size_push]
  exact hq
end
section
variable {prog : Program} {w : World} {A : Around} {E : Value → Shared → Prop} {s : Shared} {h₀ : Heap} {L : Addr} {m : Str → Option Value} {news : List (Addr × Obj)}
theorem make_gf {rest : List Value} {Q : Value → Shared → Prop} (F : Fr h₀ L s.heap m) (N : News h₀ L s.heap news) (X : (frag.heap_1 w.params).In s.heap) (hrest : rest.length ≤ sizeLine)
    (k : ∀ e t h', Fr h₀ L h' m → News h₀ L h' ((e, excObj none t) :: (t, tupObj rest) :: news) → (∀ p ∈ news, p.1 < t) → t < e →
      wpAny (model prog w) (A.under (.builtin "type.__call__" ⟨.ref 143 :: rest, []⟩)) (call (.ref 108) (.ref e :: rest)) (fun r s' => r = .none ∧ Q (.ref e) s') E { s with heap := h' }) :
    wpAny (model prog w) A (call (.ref 143) rest) Q E s := by
  obtain ⟨h, g, d, t, os⟩ := s
  obtain ⟨nm, q, NN, bs, hdct, sn, sub, ab, col, dd, k0, k1, k2, k3, k5, hK⟩ := gf_cls w.params
  have hC := X _ _ hK
  have f1 := tc_lookup
  have f2 := tc_bind (.ref 143)
  have hT : (⟨h, g, d, t, os⟩ : Shared).TypeIs (.ref 143) "type" := ⟨_, hC, rfl⟩
  refine wpAny_call (codeAny_of_tree ?_)
  show wpAny _ _ (callAny (.ref 143) _) _ _ _
  repeat (any_goals (first | assumption | with_reducible refine wpAny_loadPart_at hC ?_ | wp_step))
  refine ⟨rfl, ?_⟩
  refine codeAny_call_builtin_at (Code.quiet_builtin _ (by decide +kernel)) entry_typeCall (wpAny_check_type_call_sub hC ?_)
  repeat (first | with_reducible refine wpAny_loadPart_at hC ?_ | with_reducible refine wpAny_madeBy_exc hC ?_ | wp_step)
  refine codeAny_call_builtin_code (Code.quiet_builtin _ PySem.F.excBase_Exception.quiet) (gf_check_new hC ?_)
  refine gf_new hC ?_ hrest
  show wpAny _ _ _ _ _ ⟨(h.push (tupObj rest)).push (excObj none h.objs.size), g, d, t, os⟩
  have N' := (N.push F (tupObj rest)).push (F.push _) (excObj none h.objs.size)
  rw [Heap.size_push] at N'
  have F' := (F.push (tupObj rest)).push (excObj none h.objs.size)
  have X' : (frag.heap_1 w.params).In ((h.push (tupObj rest)).push (excObj none h.objs.size)) := X.keeps fun b o e => Heap.get?_push_of_some _ (Heap.get?_push_of_some _ e)
  have hC' := X' _ _ hK
  have he : ((h.push (tupObj rest)).push (excObj none h.objs.size)).get? (h.objs.size + 1) = some (excObj none h.objs.size) := (N' _ (.head _)).1
  unfold isInstance
  repeat (first | with_reducible refine wpAny_loadPart_at he ?_ | with_reducible refine wpAny_isSubtype_exc hC' ?_ | wp_step)
  show wpAny _ _ (typeLookup (.ref 143) "__init__") _ _ _
  refine (looks_findIn (M := model prog w) X' (gf_init w.params)).here ?_
  refine wpAny_holding (wpAny_bind ((bind_fn (M := model prog w) (f := 108) X' (.ref (h.objs.size + 1)) (by k_is)).here ?_))
  have k' := k _ _ _ F' N' (fun p hp => Heap.lt_size (N p hp).1) (Nat.lt_succ_self _)
  refine wpAny_bind (show wpAny _ (A.under (.builtin "type.__call__" ⟨.ref 143 :: rest, []⟩)) (call (.ref 108) (.ref (h.objs.size + 1) :: rest)) _ _ ⟨(h.push (tupObj rest)).push (excObj none h.objs.size), g, d, t, os⟩ from wpAny_mono k' (fun r s' hr => ?_) fun _ _ x => x)
  obtain ⟨rfl, hQ⟩ := hr
  wp_walk
  exact hQ
end
end Mine
end SFly1
section SFly2
open PySem PySem.W PyProof.Rows PySem.Calls
open Builtin Builtin.ObjectAttr
set_option Elab.async false
set_option maxRecDepth 100000
set_option hygiene false
set_option linter.unusedVariables false
set_option maxHeartbeats 8000000
namespace Mine
theorem gf_clsIn (P : Params) : ∃ cd, clsIn (frag.heap_1 P) 143 = some cd ∧ cd.mro = .ref 143 :: gfTail ∧ cd.hasDict = true := ⟨_, rfl, rfl, rfl⟩
theorem gf_sa (P : Params) : findIn (frag.heap_1 P) (.ref 143) "__setattr__" = some (some (.builtin "object.__setattr__")) := by k_is
theorem gf_what (P : Params) : findIn (frag.heap_1 P) (.ref 143) "what" = some none := by k_is
theorem gf_at (P : Params) : findIn (frag.heap_1 P) (.ref 143) "at" = some none := by k_is
section
variable {prog : Program} {w : World} {A : Around} {E : Value → Shared → Prop} {s : Shared} {h₀ : Heap} {L x t : Addr} {m : Str → Option Value} {news pre post : List (Addr × Obj)} {od : Option Obj} {ox : Obj} {name : Str} {tk : Tok} {v : Value}
theorem gf_osa {R : Result → Shared → Prop} (X : (frag.heap_1 w.params).In s.heap) (I : InstAt s.heap x ox 143 od) (hf : findIn (frag.heap_1 w.params) (.ref 143) name = some none)
    (h : wpAny (model prog w) A.in1 (storeInOwnDict (.ref x) (.ref 143) (.str name tk) name v false)
      (fun fin s' => match fin with | .done f => R (.ok f) s' | .again c' => c'.quiet = true ∧ codeAny (model prog w) A c' R s') (fun e s' => R (.error e) s') s) :
    codeAny (model prog w) A (.call (.builtin "object.__setattr__") ⟨[.ref x, .str name tk, v], []⟩) R s := by
  have SF := PySem.F.store_Exception
  obtain ⟨cd, hc, hm, _⟩ := gf_clsIn w.params
  have sub : Looks (model prog w) s.heap (isInstance (.ref x) (.type "object")) true := I.type.andThen (looks_mroIn X (by unfold mroIn; rw [hc, Option.bind_some, hm]; rfl))
  refine codeAny_call_builtin SF.slot.plain SF.entry (@check_slot (model prog w) _ _ s "object.__setattr__" "object" "__setattr__" (.ref x) [.str name tk, v] [] _ SF.kind SF.split sub (SF.args (.ref x) (.str name tk) v) ?_)
  have hmro : Looks (model prog w) s.heap (mroOf (.ref 143)) (.ref 143 :: gfTail) := hm ▸ (looks_clsIn X hc).andThen .now
  rw [osa_eq, refuse_eq]
  refine wpAny_bind (wpAny_bind (I.type.here (wpAny_bind (hmro.here ?_))))
  rw [refuseLoop_ref, refuseLoop_ref, SF.passes]
  exact wpAny_pure (wpAny_bind (I.type.here (wpAny_bind ((looks_findIn X hf).here (wpAny_bind (wpAny_pure h))))))
theorem gf_put {d : Addr} {es es' : List DictEntry} {n n' : Nat} {Q : PySem.Fin → Shared → Prop} (F : Fr h₀ L s.heap m) (N : News h₀ L s.heap (pre ++ (d, dictOf es n) :: post))
    (hl : (getL name es).isSome = true) (h1 : ∀ p ∈ pre, p.1 ≠ d) (h2 : ∀ p ∈ post, p.1 ≠ d) (e : (putL name (PyData.keyHash w.params name) (.str name s.toks) v es, putN name es n) = (es', n')) (hz : es'.length ≤ 1000)
    (h : ∀ h', Fr h₀ L h' m → News h₀ L h' (pre ++ (d, dictOf es' n') :: post) → Q (.done (.ret .none)) { s with heap := h', toks := s.toks + 1 }) :
    wpAny (model prog w) A (storeInDict d (.str name tk) name v) Q E s := by
  obtain ⟨e1, e2⟩ := Prod.mk.inj e
  obtain ⟨U1, U2⟩ := news_upd (f := Obj.putName name (PyData.keyHash w.params name) (.str name s.toks) v) (o' := dictOf es' n') F N h1 h2 (by rw [putName_dict, e1, e2]) rfl
  have D := (N (d, dictOf es n) (by simp)).1
  have D' := (U2 (d, dictOf es' n') (by simp)).1
  unfold storeInDict nsSet
  refine wpAny_bind (wpAny_pure (wpAny_bind ?_))
  refine wpAny_bind (wpAny_bind (wpAny_askSetting (wpAny_pure (wpAny_bind (wpAny_mkText (wpAny_bind (wpAny_loadPart D ?_)))))))
  have c : (!es.toArray.any (·.key.isStr name) && es.toArray.any (·.refKey)) = false := by
    rw [← Array.any_toList, ← Array.any_toList]
    unfold getL at hl
    split at hl
    · rename_i en he
      rw [List.any_eq_true.mpr ⟨en, List.mem_of_find?_eq_some he, List.find?_some he⟩]; rfl
    · split at hl
      · cases hl
      · rename_i z; rw [Bool.not_eq_true] at z; rw [z, Bool.and_false]
  dsimp only
  rw [aRefKeyMayBeTheName_at, c]
  refine wpAny_updatePart D ?_
  refine wpAny_bind (wpAny_lookBehind D' (pastItsLine_dict (by rw [List.size_toArray, sizeLine_eq]; omega)) ?_)
  exact wpAny_pure (h _ U1 U2)
theorem gf_set1 {d : Addr} {es es' : List DictEntry} {n n' : Nat} {news' : List (Addr × Obj)} {Q : Unit → Shared → Prop} (F : Fr h₀ L s.heap m) (X₀ : (frag.heap_1 w.params).In h₀) (N : News h₀ L s.heap news)
    (hx : (x, excObj (some d) t) ∈ news) (hd : (d, dictOf es n) ∈ news) (hf : findIn (frag.heap_1 w.params) (.ref 143) name = some none) (hl : (getL name es).isSome = true)
    (e : (putL name (PyData.keyHash w.params name) (.str name (s.toks + 1)) v es, putN name es n) = (es', n')) (U : Upd d (dictOf es n) (dictOf es' n') news news') (hz : es'.length ≤ 1000)
    (h : ∀ h', Fr h₀ L h' m → News h₀ L h' news' → Q () { s with heap := h', toks := s.toks + 2 }) :
    wpAny (model prog w) A (setAttr (.ref x) name v) Q E s := by
  have X := X₀.keeps F.keep
  have I : InstAt s.heap x (excObj (some d) t) 143 (some (dictOf es n)) := ⟨(N _ hx).1, rfl, rfl, (N _ hd).1⟩
  obtain ⟨pre, post, rfl, rfl, a, b⟩ := U.split
  obtain ⟨cd, hc, _, hh⟩ := gf_clsIn w.params
  refine set_plain X I (gf_sa w.params) (gf_osa (s := { s with toks := s.toks + 1 }) X I hf ?_)
  refine wpAny_bind (wpAny_pure (wpAny_bind (wpAny_bind (wpAny_loadPart I.at_ (wpAny_bind (looks_clsIn (M := model prog w) X hc _ _ _ _ (fun _ _ e => e) ?_))))))
  rw [hh]
  refine wpAny_pure (a := some d) ?_
  exact gf_put (s := { s with toks := s.toks + 1 }) F N hl a b e hz fun h' F' N' => h h' F' N'
theorem gf_set0 {nw : Addr → List (Addr × Obj)} {Q : Unit → Shared → Prop} (F : Fr h₀ L s.heap m) (X₀ : (frag.heap_1 w.params).In h₀) (N : News h₀ L s.heap news)
    (hx : (x, excObj none t) ∈ news) (hf : findIn (frag.heap_1 w.params) (.ref 143) name = some none) (U : ∀ D, Upd x (excObj none t) (excObj (some D) t) news (nw D))
    (h : ∀ D h', Fr h₀ L h' m → News h₀ L h' ((D, dictOf [⟨PyData.keyHash w.params name, .str name (s.toks + 1), v⟩] 1) :: nw D) → (∀ p ∈ news, p.1 < D) → Q () { s with heap := h', toks := s.toks + 2 }) :
    wpAny (model prog w) A (setAttr (.ref x) name v) Q E s := by
  have X := X₀.keeps F.keep
  have I : InstAt s.heap x (excObj none t) 143 none := ⟨(N _ hx).1, rfl, rfl, trivial⟩
  obtain ⟨cd, hc, _, hh⟩ := gf_clsIn w.params
  refine set_plain X I (gf_sa w.params) (gf_osa (s := { s with toks := s.toks + 1 }) X I hf ?_)
  refine wpAny_bind (wpAny_pure (wpAny_bind (wpAny_bind (wpAny_loadPart I.at_ (wpAny_bind (looks_clsIn (M := model prog w) X hc _ _ _ _ (fun _ _ e => e) ?_))))))
  rw [hh]
  obtain ⟨hp, g, d, tk0, os⟩ := s
  have F1 := F.push (dictOf [] 0)
  have N1 := N.push F (dictOf [] 0)
  obtain ⟨pre, post, e1, e2, a, b⟩ := (U hp.objs.size).split
  subst e1
  obtain ⟨F2, N2⟩ := news_upd (f := fun o => { o with dict := some hp.objs.size }) (pre := (hp.objs.size, dictOf [] 0) :: pre) (d := x) (o' := excObj (some hp.objs.size) t) F1 N1 (fun p q => (List.mem_cons.mp q).elim (fun z => by rw [z]; exact Nat.ne_of_gt (Heap.lt_size (N _ hx).1)) (a p)) b rfl rfl
  show wpAny _ _ (alloc (dictOf [] 0) >>= _) _ _ _
  refine wpAny_bind (wpAny_alloc ?_)
  refine wpAny_bind (wpAny_update (o := excObj none t) (N1 (x, excObj none t) (List.mem_cons_of_mem _ hx)).1 ?_)
  refine wpAny_pure ?_
  refine gf_put (s := ⟨_, g, d, tk0 + 1, os⟩) (pre := []) F2 N2 rfl (fun _ z => nomatch z) ?_ rfl (show (1 : Nat) ≤ 1000 by decide) fun h' F' N' => h hp.objs.size h' F' ?_ fun p q => Heap.lt_size (N p q).1
  · intro p q
    rcases List.mem_append.mp q with q | q
    · exact Nat.ne_of_lt (Heap.lt_size (N p (List.mem_append_left _ q)).1)
    · rcases List.mem_cons.mp q with q | q
      · rw [q]; exact Nat.ne_of_lt (Heap.lt_size (N _ hx).1)
      · exact Nat.ne_of_lt (Heap.lt_size (N p (List.mem_append_right _ (List.mem_cons_of_mem _ q))).1)
  · rw [e2]; exact N'
end
end Mine
end SFly2
section SFly3
open PySem PySem.W PyProof.Rows PySem.Calls
open Builtin Builtin.ObjectAttr
set_option Elab.async false
set_option maxRecDepth 100000
set_option hygiene false
set_option linter.unusedVariables false
set_option maxHeartbeats 8000000
namespace Mine
section
variable {prog : Program} {w : World} {A : Around} {E : Value → Shared → Prop} {s : Shared} {h₀ : Heap} {L x t : Addr} {m : Str → Option Value} {news : List (Addr × Obj)} {v : Value}
theorem gf_einit {nw : Addr → List (Addr × Obj)} {Q : Value → Shared → Prop} (F : Fr h₀ L s.heap m) (X₀ : (frag.heap_1 w.params).In h₀) (N : News h₀ L s.heap news)
    (hx : (x, excObj none t) ∈ news) (U : ∀ T, Upd x (excObj none t) (excObj none T) news (nw T))
    (h : ∀ T h', Fr h₀ L h' m → News h₀ L h' ((T, tupObj [v]) :: nw T) → (∀ p ∈ news, p.1 < T) → Q .none { s with heap := h' }) :
    wpAny (model prog w) A (call (.builtin "Exception.__init__") [.ref x, v]) Q E s := by
  have B := PySem.F.excBase_Exception
  have short := B.noStar
  obtain ⟨hp, g, d, tk0, os⟩ := s
  have X := X₀.keeps F.keep
  obtain ⟨nm, q, NN, bs, hdct, sn, sub, ab, col, dd, k0, k1, k2, k3, k5, hK⟩ := gf_cls w.params
  have hC := X _ _ hK
  have he := (N _ hx).1
  refine wpAny_call (codeAny_call_builtin B.init.plain B.initEntry ?_)
  simp only [checkBuiltinCall, B.initKind, B.initSplit, B.initRow]
  repeat (first | with_reducible refine wpAny_loadPart_at he ?_ | with_reducible refine wpAny_loadPart_at hC ?_ | with_reducible refine wpAny_isSubtype_exc hC ?_ | wp_step)
  have F1 := F.push (tupObj [v])
  have N1 := N.push F (tupObj [v])
  obtain ⟨pre, post, e1, e2, a, b⟩ := (U hp.objs.size).split
  subst e1
  obtain ⟨F2, N2⟩ := news_upd (f := Obj.mapFields (·.setIfInBounds 0 (Value.ref hp.objs.size))) (pre := (hp.objs.size, tupObj [v]) :: pre) (d := x) (o' := excObj none hp.objs.size) F1 N1 (fun p q => (List.mem_cons.mp q).elim (fun z => by rw [z]; exact Nat.ne_of_gt (Heap.lt_size (N _ hx).1)) (a p)) b rfl rfl
  exact h hp.objs.size _ F2 (e2 ▸ N2) fun p q => Heap.lt_size (N p q).1
end
end Mine
end SFly3
section SFly4
open PySem PySem.W PyProof.Rows PySem.Calls
set_option Elab.async false
set_option maxRecDepth 100000
set_option hygiene false
set_option linter.unusedVariables false
set_option maxHeartbeats 8000000
namespace Mine
/-- the own exception with its dict and a traceback T -/
abbrev exT (D : Addr) (a0 T : Value) : Obj := { cls := .ref 143, dict := some D, data := .fields #[a0, T, .none, .none, .bool false, .none] }
structure FlyD (B : Heap) (l : List Env) (e D : Addr) (fl : Value) (h : Heap) : Prop where
  stays : B.StaysIn h
  fresh : B.get? e = none
  frames : h.FunFrames B l
  there : ∃ a0 T oT ts, h.get? e = some (exT D a0 (.ref T)) ∧ B.get? T = none ∧ T ≠ e ∧ h.get? T = some oT ∧ oT.data = .fields ts ∧ ts[3]? = some fl
section
variable {M : Model} {A : Around} {E : Value → Shared → Prop} {s : Shared} {B : Heap} {l outer : List Env} {env : Env} {e D L : Addr} {fl a0 t0 : Value}
theorem entry_core {head : Value} {hadNext : Bool} {Q : Unit → Shared → Prop}
    (hfr : A.frames = some (env :: outer)) (hl : s.heap.FunFrames B (env :: outer)) (hf : env.frame = some L) (he : s.heap.get? e = some (exT D a0 t0)) (hB : B.StaysIn s.heap) (hen : B.get? e = none)
    (h : ∀ h', FlyD B (env :: outer) e D (rawInt L) h' → s.heap.UpToSlots h' → Q () { s with heap := h' }) :
    wpAny M A (do let a ← frameOf env; let pl ← entryPlaceOf L hadNext; let b ← EntryCells.newEntry head a .none (rawInt L) .none pl; setField (.ref e) 1 b) Q E s := by
  have notFrame : ∀ b o, s.heap.get? b = some o → (∃ vs, o.data = .fields vs) → b ∉ (env :: outer).filterMap (·.frame) := fun b o hb ⟨vs, hd⟩ hm => by
    obtain ⟨_, o', ho, hn⟩ := hl.mem hm
    rw [hb] at ho
    cases ho
    exact hn vs hd
  refine wpAny_bind (wpAny_frameOf_fun hfr hl hf fun h1 so => ?_)
  refine wpAny_bind (wpAny_entryPlaceOf fun pl hpl => ?_)
  unfold EntryCells.newEntry newFields
  refine wpAny_bind (wpAny_newObj_type ?_ (hpl.sizeOk5 _ _ _ _ _))
  have he1 : h1.get? e = some (exT D a0 t0) := (so.2.1 e (notFrame e _ he ⟨_, rfl⟩)).trans he
  have hB1 : B.StaysIn h1 := fun b o hb => (so.2.1 b fun hm => by rw [(hl.mem hm).1] at hb; cases hb).trans (hB b o hb)
  generalize hoT : ({ cls := .type "traceback", dict := none, data := .fields ([head, .ref L, .none, rawInt L, .none] ++ (if pl.isEmpty then List.replicate 6 Value.none else pl)).toArray } : Obj) = oT
  have hdT : oT.data = .fields ([head, .ref L, .none, rawInt L, .none] ++ (if pl.isEmpty then List.replicate 6 Value.none else pl)).toArray := by rw [← hoT]
  have free : oT.isFreed = false := by rw [← hoT]; rfl
  have he2 := Heap.get?_push_of_some (h := h1) oT he1
  refine wpAny_setField he2 rfl (by simp) ?_
  have lt : h1.objs.size ≠ e := Nat.ne_of_gt (Heap.lt_size he1)
  have he3 := Heap.get?_update_self (Obj.mapFields (·.setIfInBounds 1 (Value.ref h1.objs.size))) he2 rfl
  have hT3 := (Heap.get?_update_other (h1.push oT) (Obj.mapFields (·.setIfInBounds 1 (Value.ref h1.objs.size))) (Ne.symm lt)).trans (Heap.get?_push_size h1 free)
  have keep : ∀ b o, b ≠ e → h1.get? b = some o → ((h1.push oT).update e (Obj.mapFields (·.setIfInBounds 1 (Value.ref h1.objs.size)))).get? b = some o := fun b o ne hb =>
    (Heap.get?_update_other _ _ (Ne.symm ne)).trans (Heap.get?_push_of_some _ hb)
  have ne : ∀ b o, s.heap.get? b = some o → (∀ vs, o.data ≠ .fields vs) → b ≠ e := fun b o hb hn q => by
    rw [q, he] at hb
    cases hb
    exact hn _ rfl
  refine h _ ⟨fun b o hb => keep b o (fun q => by rw [q, hen] at hb; cases hb) (hB1 b o hb), hen, hl.of_keeps fun b o hb hn => ?_, ⟨a0, h1.objs.size, oT, _, he3, hB1.fresh, lt, hT3, hdT, ?_⟩⟩ fun b o hb hn => ?_
  · obtain ⟨sl, q⟩ := so.2.2 b o hb
    exact ⟨_, keep b _ (ne b o hb hn) q, rfl⟩
  · simp
  · obtain ⟨sl, q⟩ := so.2.2 b o hb
    exact ⟨sl, keep b _ (ne b o hb hn) q⟩
theorem land {Q : Unit → Shared → Prop} (f : FlyD B l e D fl s.heap) (h : ∀ h', FlyD B l e D .none h' → s.heap.UpToSlots h' → Q () { s with heap := h' }) : wpAny M A (setFlight (.ref e) none) Q E s := by
  obtain ⟨f1, f2, f3, a0, T, oT, ts, he, hT0, ne, hT, hd, h3⟩ := f
  have other : ∀ b, b ≠ T → (s.heap.update T (Obj.mapFields (·.setIfInBounds 3 ((none : Option Addr).elim Value.none fun f => rawInt f)))).get? b = s.heap.get? b := fun b q => Heap.get?_update_other _ _ (Ne.symm q)
  have off : ∀ b o, s.heap.get? b = some o → (∀ vs, o.data ≠ .fields vs) → b ≠ T := fun b o hb hn q => by
    rw [q, hT] at hb
    cases hb
    exact hn ts hd
  unfold setFlight
  refine wpAny_bind (wpAny_field he rfl (x := .ref T) rfl ?_)
  rw [if_pos (show (Value.ref T != Value.none) = true from by simp)]
  have hsz : 3 < ts.size := (Array.getElem?_eq_some_iff.mp h3).1
  refine wpAny_setField hT hd hsz (h _ ⟨fun b o hb => (other b fun q => by rw [q, hT0] at hb; cases hb).trans (f1 b o hb), f2, f3.of_keeps fun b o hb hn => ⟨o, (other b (off b o hb hn)).trans hb, rfl⟩,
    ⟨a0, T, _, _, (other e (Ne.symm ne)).trans he, hT0, ne, Heap.get?_update_self _ hT (Obj.isFreed_of_fields (Obj.data_mapFields hd _)), Obj.data_mapFields hd _, by simp [hsz]⟩⟩ fun b o hb hn => ⟨o.slots, (other b (off b o hb hn)).trans hb⟩)
theorem note_first {Q : Unit → Shared → Prop} (hfr : A.frames = some (env :: outer)) (hl : s.heap.FunFrames B (env :: outer)) (hf : env.frame = some L) (he : s.heap.get? e = some (exT D a0 .none)) (hB : B.StaysIn s.heap) (hen : B.get? e = none)
    (h : ∀ h', FlyD B (env :: outer) e D (rawInt L) h' → s.heap.UpToSlots h' → Q () { s with heap := h' }) : wpAny M A (noteFrame (.ref e) env) Q E s := by
  unfold noteFrame
  simp only [hf]
  refine wpAny_bind (wpAny_field he rfl (x := .none) rfl ?_)
  rw [if_neg (by decide)]
  exact entry_core hfr hl hf he hB hen h
theorem note_next {Q : Unit → Shared → Prop} (hfr : A.frames = some (env :: outer)) (hf : env.frame = some L) (f : FlyD B (env :: outer) e D .none s.heap)
    (h : ∀ h', FlyD B (env :: outer) e D (rawInt L) h' → s.heap.UpToSlots h' → Q () { s with heap := h' }) : wpAny M A (noteFrame (.ref e) env) Q E s := by
  obtain ⟨f1, f2, f3, a0, T, oT, ts, he, hT0, ne, hT, hd, h3⟩ := f
  have other : ∀ b, b ≠ T → (s.heap.update T (Obj.mapFields (·.setIfInBounds 3 Value.none))).get? b = s.heap.get? b := fun b q => Heap.get?_update_other _ _ (Ne.symm q)
  have off : ∀ b o, s.heap.get? b = some o → (∀ vs, o.data ≠ .fields vs) → b ≠ T := fun b o hb hn q => by
    rw [q, hT] at hb
    cases hb
    exact hn ts hd
  unfold noteFrame
  simp only [hf]
  refine wpAny_bind (wpAny_field he rfl (x := .ref T) rfl ?_)
  rw [if_pos (show (Value.ref T != Value.none) = true from by simp)]
  refine wpAny_bind (wpAny_field hT hd h3 ?_)
  rw [if_neg (show ¬ ((Value.none == rawInt L) = true) from by simp [rawInt])]
  refine wpAny_bind (wpAny_setField hT hd (Array.getElem?_eq_some_iff.mp h3).1 ?_)
  refine entry_core hfr (f3.of_keeps fun b o hb hn => ⟨o, (other b (off b o hb hn)).trans hb, rfl⟩) hf ((other e (Ne.symm ne)).trans he) (fun b o hb => (other b fun q => by rw [q, hT0] at hb; cases hb).trans (f1 b o hb)) f2
    fun h' k u => h h' k fun b o hb hn => u b o ((other b (off b o hb hn)).trans hb) hn
theorem leave_first {Q : Unit → Shared → Prop} (hfr : A.frames = some (env :: outer)) (hl : s.heap.FunFrames B (env :: outer)) (hf : env.frame = some L) (he : s.heap.get? e = some (exT D a0 .none)) (hB : B.StaysIn s.heap) (hen : B.get? e = none)
    (h : ∀ h', FlyD B outer e D .none h' → s.heap.UpToSlots h' → Q () { s with heap := h' }) : wpAny M A (leaving env (.ref e)) Q E s := by
  unfold leaving
  refine wpAny_bind (note_first hfr hl hf he hB hen fun h1 f1 u1 => land f1 fun h2 f2 u2 => h h2 ⟨f2.stays, f2.fresh, f2.frames.2.2, f2.there⟩ (u1.trans u2))
theorem leave_next {Q : Unit → Shared → Prop} (hfr : A.frames = some (env :: outer)) (hf : env.frame = some L) (f : FlyD B (env :: outer) e D .none s.heap)
    (h : ∀ h', FlyD B outer e D .none h' → s.heap.UpToSlots h' → Q () { s with heap := h' }) : wpAny M A (leaving env (.ref e)) Q E s := by
  unfold leaving
  refine wpAny_bind (note_next hfr hf f fun h1 f1 u1 => land f1 fun h2 f2 u2 => h h2 ⟨f2.stays, f2.fresh, f2.frames.2.2, f2.there⟩ (u1.trans u2))
end
end Mine
end SFly4
section SFly5
open PySem PySem.W PyProof.Rows PySem.Calls
set_option Elab.async false
set_option maxRecDepth 100000
set_option hygiene false
set_option linter.unusedVariables false
set_option maxHeartbeats 8000000
namespace Mine
/-- the exception flies: news as it left them -/
def Flt (base G : Heap) (l : List Env) (e D : Addr) (news : List (Addr × Obj)) (h : Heap) : Prop :=
  ∃ B, base.StaysIn B ∧ (∀ b o, G.get? b = some o → b ∉ l.filterMap (·.frame) → B.get? b = some o) ∧ (∀ q ∈ news, B.get? q.1 = some q.2 ∧ G.get? q.1 = none ∧ base.get? q.1 = none) ∧ FlyD B l e D .none h
theorem Flt.sub {base G h : Heap} {l : List Env} {e D : Addr} {news more : List (Addr × Obj)} (R : Flt base G l e D more h) (sub : ∀ p ∈ news, p ∈ more) : Flt base G l e D news h := by
  obtain ⟨B, a, b, c, d⟩ := R
  exact ⟨B, a, b, fun q hq => c q (sub q hq), d⟩
section
variable {M : Model} {A : Around} {E : Value → Shared → Prop} {s' : Shared} {base g g₂ h : Heap} {outer : List Env} {L a e D t : Addr} {m : Str → Option Value} {name : Str} {scope : Scope} {cd : Value} {Q : Unit → Shared → Prop} {news : List (Addr × Obj)}
theorem lv_raise (K : Below A base outer g) (F : Fr g L s'.heap m) (N : News g L s'.heap news) (hx : (e, excObj (some D) t) ∈ news) {keep : List (Addr × Obj)} (hk2 : ∀ p ∈ keep, p ∈ news ∧ p.1 ≠ e)
    (hQ : ∀ h', Flt base g outer e D keep h' → g.UpToSlots h' → Q () { s' with heap := h' }) (hk : scope.kind = .function := by rfl) :
    wpAny M (A.deeper (envOf name scope L a cd)) (leaving (envOf name scope L a cd) (.ref e)) Q E s' := by
  have K' := K.push (name := name) (a := a) (cd := cd) F hk
  have hfr : ∀ b, b ∈ (envOf name scope L a cd :: outer).filterMap (·.frame) → b ∈ e :: (envOf name scope L a cd :: outer).filterMap (·.frame) := fun b q => List.mem_cons_of_mem _ q
  have gone_e : g.get? e = none := (N _ hx).2.2
  have base_e : base.get? e = none := fresh_of_stays K.stays gone_e
  have st : base.StaysIn (hideAll s'.heap (e :: (envOf name scope L a cd :: outer).filterMap (·.frame))) := fun b o q => hideAll_get _ (K'.stays b o q) fun hm => by
    rcases List.mem_cons.mp hm with z | hm
    · rw [z, base_e] at q; cases q
    · rw [(K'.frames.mem hm).1] at q; cases q
  have sg : ∀ b o, g.get? b = some o → b ∉ outer.filterMap (·.frame) → (hideAll s'.heap (e :: (envOf name scope L a cd :: outer).filterMap (·.frame))).get? b = some o := fun b o q nm => hideAll_get _ (F.keep b o q) fun hm => by
    rcases List.mem_cons.mp hm with z | hm
    · rw [z, gone_e] at q; cases q
    · rcases kts_mem hm with z | z
      · rw [z, kts_self F] at q; cases q
      · exact nm z
  have hl : ∀ q ∈ keep, (hideAll s'.heap (e :: (envOf name scope L a cd :: outer).filterMap (·.frame))).get? q.1 = some q.2 ∧ g.get? q.1 = none ∧ base.get? q.1 = none := fun q hq => by
    obtain ⟨hq, ne⟩ := hk2 q hq
    refine ⟨hideAll_get _ (N q hq).1 fun hm => ?_, (N q hq).2.2, fresh_of_stays K.stays (N q hq).2.2⟩
    rcases List.mem_cons.mp hm with z | hm
    · exact ne z
    · obtain ⟨env, he, hf⟩ := List.mem_filterMap.mp hm
      rcases List.mem_cons.mp he with rfl | he
      · exact (N q hq).2.1 (Option.some.inj hf).symm
      · obtain ⟨o, ho, _⟩ := (K.frames.mem (List.mem_filterMap.mpr ⟨env, he, hf⟩)).2
        rw [(N q hq).2.2] at ho; cases ho
  refine leave_first (B := hideAll s'.heap (e :: (envOf name scope L a cd :: outer).filterMap (·.frame))) K'.stack (funFrames_hide K'.frames fun env he b hb => hfr b (List.mem_filterMap.mpr ⟨env, he, hb⟩)) rfl (N _ hx).1 (fun b o q => of_hideAll _ q) (hideAll_none _ (List.mem_cons_self ..)) fun h' f u => ?_
  exact hQ h' ⟨_, st, sg, hl, f⟩ ((Heap.UpToSlots.of_keeps F.keep).trans u)
theorem lv_on (K : Below A base outer g) (F : Fr g L g₂ m) (R : Flt base g₂ (envOf name scope L a cd :: outer) e D news s'.heap) (hsm : g₂.UpToSlots s'.heap)
    (hQ : ∀ h', Flt base g outer e D news h' → g.UpToSlots h' → Q () { s' with heap := h' }) :
    wpAny M (A.deeper (envOf name scope L a cd)) (leaving (envOf name scope L a cd) (.ref e)) Q E s' := by
  obtain ⟨B, hB, hBG, hl, hfl⟩ := R
  refine leave_next (Around.frames_deeper K.stack) rfl hfl fun h' x1 x2 => hQ h' ⟨B, hB, fun b o q nm => hBG b o (F.keep b o q) (fun hm => ?_), fun q hq => ⟨(hl q hq).1, kts_none F.keep (hl q hq).2.1, (hl q hq).2.2⟩, x1⟩ ((Heap.UpToSlots.of_keeps F.keep).trans (hsm.trans x2))
  rcases kts_mem hm with z | z
  · rw [z, kts_self F] at q
    cases q
  · exact nm z
end
section
variable {prog : Program} {w : World} {A₀ : Around} {E : Value → Shared → Prop} {s' : Shared} {base g G : Heap} {outer : List Env} {L a e D : Addr} {m : Str → Option Value} {name : Str} {scope : Scope} {cd : Value}
  {n x : Str} {b₀ : Stmt} {suite : List Stmt} {pos np : Pos} {rest : List ExceptHandler} {Q : Flow → Shared → Prop} {news : List (Addr × Obj)} {p : Program} {loose : List Str} {mean : ExcName → Option Value} {mg mb : Str → Option Value}
theorem caught_gf (R : Flt base G (envOf name scope L a cd :: outer) e D news s'.heap) (F : Fr g L G m) (K : Below A₀ base outer g) (hsm : G.UpToSlots s'.heap) (XB : (frag.heap_1 w.params).In base) (TB : Top p loose mean mg mb base)
    (DD : KtsDicts (outer.filterMap (·.frame)) g) (ex : nsIn (frag.heap_1 w.params) mainGlobals x = some (some (.ref 143)))
    (k : ∀ h' g' tk a0 T, KtsTurn (outer.filterMap (·.frame)) g g' → Fr g' L h' (fun y => if y = n then some (.ref e) else m y) → News g' L h' ((e, exT D a0 (.ref T)) :: news) → Below A₀ base outer g' → (frag.heap_1 w.params).In g' → Top p loose mean mg mb g' → KtsDicts (outer.filterMap (·.frame)) g' →
      wpAny (model prog w) ((A₀.deeper (envOf name scope L a cd)).mark (some (.ref e))) (execs (b₀ :: suite) (envOf name scope L a cd))
        (fun f s₄ => wpAny (model prog w) (A₀.deeper (envOf name scope L a cd)) (do bindName (envOf name scope L a cd) n .none; unbindBehindTheSuite (envOf name scope L a cd) n pos) (fun _ s₅ => Q f s₅) E s₄)
        (AsSuiteRaised (model prog w) ((A₀.deeper (envOf name scope L a cd)).mark (some (.ref e))) (envOf name scope L a cd) n pos (notedBy (model prog w) ((A₀.deeper (envOf name scope L a cd)).mark (some (.ref e))) (envOf name scope L a cd) (cameBackBy (model prog w) (A₀.deeper (envOf name scope L a cd)) (envOf name scope L a cd) E)))
        { s' with heap := h', toks := tk })
    (hk : scope.kind = .function := by rfl) (hlo : (envOf name scope L a cd).kindOf n = some .local := by rfl) (hx : (envOf name scope L a cd).kindOf x = some .globalImplicit := by rfl) (hd : (x == ("__debug__" : Str)) = false := by decide) :
    wpAny (model prog w) (A₀.deeper (envOf name scope L a cd)) (noteFrame (.ref e) (envOf name scope L a cd))
      (fun _ s₂ => wpAny (model prog w) (A₀.deeper (envOf name scope L a cd)) (setFlight (.ref e) none) (fun _ s₃ =>
        wpAny (model prog w) (A₀.deeper (envOf name scope L a cd)) (handleBy (.ref e) (envOf name scope L a cd) (.ExceptHandler (some (.Name x np)) (some n) (b₀ :: suite) pos :: rest)) Q E s₃) E s₂) E s' := by
  obtain ⟨B, hB, hBG, hl, hfl⟩ := R
  have hL : B.get? L = none := by
    obtain ⟨_, ⟨L', _, hf, hn', _⟩, _⟩ := hfl.frames
    obtain rfl : L = L' := Option.some.inj hf
    exact hn'
  obtain ⟨nm, q', NN, bs, hdct, sn, sub, ab, col, dd, k0, k1, k2, k3, k5, hK⟩ := gf_cls w.params
  refine note_next (Around.frames_deeper K.stack) rfl hfl fun h₄ f₄ u₄ => ?_
  refine land f₄ fun h₅ f₅ u₅' => ?_
  have u₅ := hsm.trans (u₄.trans u₅')
  obtain ⟨g₅, T₅, F₅, K₅⟩ := kts_ground K F hBG f₅.stays u₅
  have X₅ : (frag.heap_1 w.params).In g₅ := XB.keeps K₅.stays
  have P₅ : TopRead p loose mg mb g₅ := topRead_of (TB.keeps K₅.stays)
  obtain ⟨a5, T5, oT5, ts5, he5, _⟩ := f₅.there
  have hC₅ := F₅.keep _ _ (X₅ _ _ hK)
  refine wpAny_handleBy_cons (codeAny_handlers_test (name_K F₅ X₅ P₅ ex ?_ hk hx hd)) (by intro q; cases q)
  refine wpAny_excMatches_sub_self hC₅ he5 rfl (by decide +kernel) (codeAny_handlers_suite_as ?_)
  refine land (s := { s' with heap := h₅ }) f₅ fun h₆ f₆ u₆' => ?_
  have u₆ := u₅.trans u₆'
  obtain ⟨g₆, T₆, F₆, K₆⟩ := kts_ground K F hBG f₆.stays u₆
  obtain ⟨a6, T6, oT6, ts6, he6, _⟩ := f₆.there
  have ne₆ : g₆.get? e = none := T₆.none_ _ (kts_fresh F hBG f₆.fresh fun o ho m => by
    obtain ⟨_, o', ho', hd⟩ := K.frames.mem m
    rw [ho] at ho'
    cases ho'
    obtain ⟨sl, hs⟩ := u₆ _ _ (F.keep _ _ ho) hd
    rw [he6] at hs
    exact hd _ (congrArg Obj.data (Option.some.inj hs)).symm)
  have N₆ := News.more F₆ (news := news) (fun q hq => ⟨f₆.stays _ _ (hl q hq).1, (fun z => by have := (hl q hq).1; rw [z, hL] at this; cases this), T₆.none_ _ (kts_none F.keep (hl q hq).2.1)⟩) he6 (fun es n q => by cases q) ne₆
  have X₆ : (frag.heap_1 w.params).In g₆ := XB.keeps K₆.stays
  have P₆ : Top p loose mean mg mb g₆ := TB.keeps K₆.stays
  have D₆ : KtsDicts (outer.filterMap (·.frame)) g₆ := DD.turn T₆
  refine stN F₆ N₆ (fun h₇ F₇ N₇ => ?_) hk hlo
  exact k h₇ g₆ _ a6 T6 T₆ F₇ N₇ K₆ X₆ P₆ D₆
end
end Mine
end SFly5
section SFly6
open PySem PySem.W PyProof.Rows PySem.Calls
set_option Elab.async false
set_option maxRecDepth 100000
set_option hygiene false
set_option linter.unusedVariables false
set_option maxHeartbeats 8000000
namespace Mine
theorem ei_find (P : Params) : findCls (frag.heap_1 P) (.type "Exception") (.type "type") "__init__" = some (.val (.builtin "Exception.__init__")) := by kernel_rfl
section
variable {prog : Program} {w : World} {A : Around} {E : Value → Shared → Prop} {s : Shared} {h₀ : Heap} {L : Addr} {m : PySem.Str → Option Value}
theorem getm_einit {pl : Sem Bool} {Q : Value × List Value → Shared → Prop} (F : Fr h₀ L s.heap m) (X₀ : (frag.heap_1 w.params).In h₀) (h : Q (.builtin "Exception.__init__", []) { s with toks := s.toks + 1 }) :
    wpAny (model prog w) A (getMethod (.type "Exception") "__init__" pl) Q E s := by
  have X := X₀.keeps F.keep
  have stub : opaqueClassAbove (.type "Exception") = pure none := by unfold opaqueClassAbove; dsimp only; rw [show Manifest.isStub "Exception" = false by decide +kernel]; rfl
  have L0 : Looks (model prog w) s.heap (typeOf (.type "Exception")) (.type "type") := Looks.of_pure (by first | rfl | kernel_rfl)
  have hg : findIn (frag.heap_1 w.params) (.type "type") "__getattribute__" = some (some (.builtin "type.__getattribute__")) := type_tga
  unfold getMethod specialOf
  refine wpAny_bind (wpAny_bind (L0.here ((looks_findIn X hg).here ?_)))
  dsimp only
  rw [if_pos canon_tga]
  refine wpAny_bind (wpAny_mono (Q := fun v => Q (v, [])) (E := E) ?_ (fun _ _ z => wpAny_pure z) fun _ _ z => z)
  refine cls_open (mc := .type "type") X (Looks.of_pure stub) L0 hg (looks_hook X (r := none) (by rfl)) (by show subIn _ _ _ = _; rfl) (ei_find w.params) ?_
  refine wpAny_pure ?_
  show wpAny _ _ (handedOut (.builtin "Exception.__init__")) _ _ _
  rw [handedOut_of (by decide +kernel)]
  exact wpAny_pure h
end
end Mine
end SFly6
section SFly7
open PySem PySem.W PyProof.Rows PySem.Calls
set_option Elab.async false
set_option maxRecDepth 100000
set_option hygiene false
set_option linter.unusedVariables false
set_option maxHeartbeats 8000000
namespace Mine
/-- what is behind the value of a raise -/
def RaiseGf (E : Value → Shared → Prop) (w : World) (v : Value) (s : Shared) : Prop := ∃ e D t, v = .ref e ∧ (frag.heap_1 w.params).In s.heap ∧ s.heap.get? e = some (excObj (some D) t) ∧ E (.ref e) s
theorem RaiseGf.intro {E : Value → Shared → Prop} {w : World} {s : Shared} {h₀ : Heap} {L e D t : Addr} {m : PySem.Str → Option Value} {news : List (Addr × Obj)} (F : Fr h₀ L s.heap m) (X₀ : (frag.heap_1 w.params).In h₀) (N : News h₀ L s.heap news) (hx : (e, excObj (some D) t) ∈ news) (k : E (.ref e) s) : RaiseGf E w (.ref e) s :=
  ⟨e, D, t, rfl, X₀.keeps F.keep, (N _ hx).1, k⟩
theorem gf_exc (P : Params) : ∃ nm q N bs hdct sn sub ab col dd k0 k1 k2 k3 k5, (frag.heap_1 P).lookup 143 = some (excClassObj nm q 143 N bs gfTail hdct sn sub ab col dd k0 k1 k2 k3 k5 "Exception.__new__") := gf_cls P
theorem raise_gf {prog : Program} {w : World} {A : Around} {E : Value → Shared → Prop} {s : Shared} {env : Env} {ex : PySem.Expr} {pos : Pos} {Q : Flow → Shared → Prop} (hh : A.handled = none)
    (h : wpAny (model prog w) A (eval ex env) (RaiseGf E w) E s) : wpAny (model prog w) A (exec (.Raise (some ex) none pos) env) Q E s := by
  rw [arm_exec_Raise]
  refine wpAny_bind (wpAny_standAt ?_)
  unfold raiseStmt
  simp only [evalOpt, Option.map]
  refine wpAny_bind (wpAny_bind (wpAny_mono h (fun v s₁ h₁ => ?_) fun _ _ x => x))
  obtain ⟨e, D, t, rfl, X, he, hE⟩ := h₁
  obtain ⟨hp, g, d, tk, os⟩ := s₁
  obtain ⟨nm, q, NN, bs, hdct, sn, sub, ab, col, dd, k0, k1, k2, k3, k5, hK⟩ := gf_cls w.params
  have hC := X _ _ hK
  repeat (first | with_reducible refine wpAny_loadPart_at he ?_ | with_reducible refine wpAny_loadPart_at hC ?_ | with_reducible refine wpAny_isSubtype_exc hC ?_ | wp_step)
  exact wpAny_raiseNew_none hh hE
abbrev fdict (w : World) (what : PySem.Str) (p : Addr) (a b c : Tok) : Obj := dictOf [⟨PyData.keyHash w.params "what", .str "what" a, .str what b⟩, ⟨PyData.keyHash w.params "at", .str "at" c, .ref p⟩] 2
abbrev ptup (k : Int) (v1 v2 : Tok) (z : Nat) : Obj := { cls := .type "tuple", data := .seq [Value.int k v1, .int 12 v2].toArray z }
def FlownL (w : World) (base g : Heap) (l : List Env) (rest : List (Addr × Obj)) (k : Int) (e : Addr) (h' : Heap) : Prop :=
  ∃ D what a b c p v1 v2 z, (p, ptup k v1 v2 z) ∈ rest ∧ Flt base g l e D ((D, fdict w what p a b c) :: rest) h' ∧ g.UpToSlots h'
def Flown (w : World) (base h₀ : Heap) (L : Addr) (m : PySem.Str → Option Value) (l : List Env) (rest : List (Addr × Obj)) (k : Int) (e : Addr) (h' : Heap) : Prop :=
  ∃ g₂, Fr h₀ L g₂ m ∧ FlownL w base g₂ l rest k e h'
section
variable {M : Model} {w : World} {A : Around} {E : Value → Shared → Prop} {s' : Shared} {base g h : Heap} {outer : List Env} {L a e D t p : Addr} {m : PySem.Str → Option Value} {name : PySem.Str} {scope : Scope} {cd : Value} {Q : Unit → Shared → Prop} {news rest : List (Addr × Obj)} {k : Int} {what : PySem.Str} {b1 b2 b3 v1 v2 : Tok} {z : Nat}
theorem flown_first (K : Below A base outer g) (F : Fr g L s'.heap m) (N : News g L s'.heap news) (hx : (e, excObj (some D) t) ∈ news) (hD : (D, fdict w what p b1 b2 b3) ∈ news) (hDe : D ≠ e) (hr : ∀ q ∈ rest, q ∈ news ∧ q.1 ≠ e) (hp : (p, ptup k v1 v2 z) ∈ rest)
    (hQ : ∀ h', FlownL w base g outer rest k e h' → Q () { s' with heap := h' }) (hk : scope.kind = .function := by rfl) :
    wpAny M (A.deeper (envOf name scope L a cd)) (leaving (envOf name scope L a cd) (.ref e)) Q E s' :=
  lv_raise (keep := (D, fdict w what p b1 b2 b3) :: rest) K F N hx (fun q hq => (List.mem_cons.mp hq).elim (fun z => by rw [z]; exact ⟨hD, hDe⟩) (hr q)) (fun h' R u => hQ h' ⟨D, what, b1, b2, b3, p, v1, v2, z, hp, R, u⟩) hk
theorem flown_on (K : Below A base outer g) (R : Flown w base g L m (envOf name scope L a cd :: outer) rest k e s'.heap) (hQ : ∀ h', FlownL w base g outer rest k e h' → Q () { s' with heap := h' }) :
    wpAny M (A.deeper (envOf name scope L a cd)) (leaving (envOf name scope L a cd) (.ref e)) Q E s' := by
  obtain ⟨g₂, F, D, what, b1, b2, b3, p, v1, v2, z, hp, R, u⟩ := R
  exact lv_on K F R u fun h' R' u' => hQ h' ⟨D, what, b1, b2, b3, p, v1, v2, z, hp, R', u'⟩
end
end Mine
end SFly7
section SFly8
open PySem PySem.W PyProof.Rows PySem.Calls
set_option Elab.async false
set_option maxRecDepth 100000
set_option hygiene false
set_option linter.unusedVariables false
set_option maxHeartbeats 8000000
namespace Mine
section
variable {prog : Program} {w : World} {A₀ : Around} {E : Value → Shared → Prop} {s' : Shared} {base g G : Heap} {outer : List Env} {L a e D : Addr} {m : PySem.Str → Option Value} {name : PySem.Str} {scope : Scope} {cd : Value} {cl : List (PySem.Str × Addr)}
  {n x : PySem.Str} {b₀ : Stmt} {suite : List Stmt} {pos np : Pos} {rest : List ExceptHandler} {Q : Flow → Shared → Prop} {news : List (Addr × Obj)} {p : Program} {loose : List PySem.Str} {mean : ExcName → Option Value} {mg mb : PySem.Str → Option Value}
theorem caught_gfX (R : Flt base G (envX name scope L a cd cl :: outer) e D news s'.heap) (F : Fr g L G m) (K : Below A₀ base outer g) (hsm : G.UpToSlots s'.heap) (XB : (frag.heap_1 w.params).In base) (TB : Top p loose mean mg mb base)
    (DD : KtsDicts (outer.filterMap (·.frame)) g) (ex : nsIn (frag.heap_1 w.params) mainGlobals x = some (some (.ref 143)))
    (k : ∀ h' g' tk a0 T, KtsTurn (outer.filterMap (·.frame)) g g' → Fr g' L h' (fun y => if y = n then some (.ref e) else m y) → News g' L h' ((e, exT D a0 (.ref T)) :: news) → Below A₀ base outer g' → (frag.heap_1 w.params).In g' → Top p loose mean mg mb g' → KtsDicts (outer.filterMap (·.frame)) g' →
      wpAny (model prog w) ((A₀.deeper (envX name scope L a cd cl)).mark (some (.ref e))) (execs (b₀ :: suite) (envX name scope L a cd cl))
        (fun f s₄ => wpAny (model prog w) (A₀.deeper (envX name scope L a cd cl)) (do bindName (envX name scope L a cd cl) n .none; unbindBehindTheSuite (envX name scope L a cd cl) n pos) (fun _ s₅ => Q f s₅) E s₄)
        (AsSuiteRaised (model prog w) ((A₀.deeper (envX name scope L a cd cl)).mark (some (.ref e))) (envX name scope L a cd cl) n pos (notedBy (model prog w) ((A₀.deeper (envX name scope L a cd cl)).mark (some (.ref e))) (envX name scope L a cd cl) (cameBackBy (model prog w) (A₀.deeper (envX name scope L a cd cl)) (envX name scope L a cd cl) E)))
        { s' with heap := h', toks := tk })
    (hk : scope.kind = .function := by rfl) (hlo : (envX name scope L a cd cl).kindOf n = some .local := by rfl) (hx : (envX name scope L a cd cl).kindOf x = some .globalImplicit := by rfl) (hd : (x == ("__debug__" : PySem.Str)) = false := by decide) :
    wpAny (model prog w) (A₀.deeper (envX name scope L a cd cl)) (noteFrame (.ref e) (envX name scope L a cd cl))
      (fun _ s₂ => wpAny (model prog w) (A₀.deeper (envX name scope L a cd cl)) (setFlight (.ref e) none) (fun _ s₃ =>
        wpAny (model prog w) (A₀.deeper (envX name scope L a cd cl)) (handleBy (.ref e) (envX name scope L a cd cl) (.ExceptHandler (some (.Name x np)) (some n) (b₀ :: suite) pos :: rest)) Q E s₃) E s₂) E s' := by
  obtain ⟨B, hB, hBG, hl, hfl⟩ := R
  have hL : B.get? L = none := by
    obtain ⟨_, ⟨L', _, hf, hn', _⟩, _⟩ := hfl.frames
    obtain rfl : L = L' := Option.some.inj hf
    exact hn'
  have fs : (envX name scope L a cd cl :: outer).filterMap (·.frame) = (envOf name scope L a cd :: outer).filterMap (·.frame) := rfl
  rw [fs] at hBG
  obtain ⟨nm, q', NN, bs, hdct, sn, sub, ab, col, dd, k0, k1, k2, k3, k5, hK⟩ := gf_cls w.params
  refine note_next (Around.frames_deeper K.stack) rfl hfl fun h₄ f₄ u₄ => ?_
  refine land f₄ fun h₅ f₅ u₅' => ?_
  have u₅ := hsm.trans (u₄.trans u₅')
  obtain ⟨g₅, T₅, F₅, K₅⟩ := kts_ground K F hBG f₅.stays u₅
  have X₅ : (frag.heap_1 w.params).In g₅ := XB.keeps K₅.stays
  have P₅ : TopRead p loose mg mb g₅ := topRead_of (TB.keeps K₅.stays)
  obtain ⟨a5, T5, oT5, ts5, he5, _⟩ := f₅.there
  have hC₅ := F₅.keep _ _ (X₅ _ _ hK)
  refine wpAny_handleBy_cons (codeAny_handlers_test (nameX_K F₅ X₅ P₅ ex ?_ hk hx hd)) (by intro q; cases q)
  refine wpAny_excMatches_sub_self hC₅ he5 rfl (by decide +kernel) (codeAny_handlers_suite_as ?_)
  refine land (s := { s' with heap := h₅ }) f₅ fun h₆ f₆ u₆' => ?_
  have u₆ := u₅.trans u₆'
  obtain ⟨g₆, T₆, F₆, K₆⟩ := kts_ground K F hBG f₆.stays u₆
  obtain ⟨a6, T6, oT6, ts6, he6, _⟩ := f₆.there
  have ne₆ : g₆.get? e = none := T₆.none_ _ (kts_fresh F hBG f₆.fresh fun o ho m => by
    obtain ⟨_, o', ho', hd⟩ := K.frames.mem m
    rw [ho] at ho'
    cases ho'
    obtain ⟨sl, hs⟩ := u₆ _ _ (F.keep _ _ ho) hd
    rw [he6] at hs
    exact hd _ (congrArg Obj.data (Option.some.inj hs)).symm)
  have N₆ := News.more F₆ (news := news) (fun q hq => ⟨f₆.stays _ _ (hl q hq).1, (fun z => by have := (hl q hq).1; rw [z, hL] at this; cases this), T₆.none_ _ (kts_none F.keep (hl q hq).2.1)⟩) he6 (fun es n q => by cases q) ne₆
  have X₆ : (frag.heap_1 w.params).In g₆ := XB.keeps K₆.stays
  have P₆ : Top p loose mean mg mb g₆ := TB.keeps K₆.stays
  have D₆ : KtsDicts (outer.filterMap (·.frame)) g₆ := DD.turn T₆
  refine storeX_L F₆ N₆ (fun h₇ F₇ N₇ => ?_) hk hlo
  exact k h₇ g₆ _ a6 T6 T₆ F₇ N₇ K₆ X₆ P₆ D₆
end
section
variable {prog : Program} {w : World} {A₀ A : Around} {s : Shared} {base h₀ : Heap} {L a : Addr} {m : PySem.Str → Option Value} {cn : PySem.Str} {cs : Scope} {ccd : Value} {news : List (Addr × Obj)} {K : Frag} {p : Program} {loose : List PySem.Str} {mean : ExcName → Option Value} {mg mb : PySem.Str → Option Value}
    {R : Result → Shared → Prop} {name qual : PySem.Str} {params : Arguments} {body : List Stmt} {scope : Scope} {dV kV doc pm cdv ct oc : Value} {an od : Option Addr} {osl : Array (Option Value)} {f : Addr} {args : Args} {binds : List (PySem.Str × Value)}
theorem code_cellS0 (B : Below A₀ base [] h₀) (F : Fr h₀ L s.heap m) (X₀ : K.In h₀) (N : News h₀ L s.heap news) (T : Top p loose mean mg mb h₀) (hA : A.frames = some [envOf cn cs L a ccd])
    (ho : K.lookup f = some ⟨oc, od, .func (fnOf name qual params body scope dV kV doc pm an cdv ct), osl⟩) (hcd : codeIn K cdv qual = true) (hroom : A.depth < recursionLimit)
    (hbind : BindsTo s (fnOf name qual params body scope dV kV doc pm an cdv ct) args binds) (hkind : (binds.all fun y => scope.names.lookup y.1 == some .local || scope.names.lookup y.1 == some .cell) = true)
    (hnd : ((cellsFrom 0 scope.names []).map (·.1)).Nodup)
    (h : ∀ g L' h₁ tk cells, Fr h₀ L g m → Fr g L' h₁ (bindL (envOfC qual scope L' f cdv).kindOf binds fun _ => none) → News g L' h₁ (cells ++ news) →
      CellsAre (bindC (envOfC qual scope L' f cdv).kindOf binds fun _ => none) (cellsFrom (L' + 1) scope.names []) cells → Below A base [envOf cn cs L a ccd] g → K.In g → Top p loose mean mg mb g → KtsDicts ([envOf cn cs L a ccd].filterMap (·.frame)) g → (∀ p ∈ news, p.1 < L') →
      wpAny (model prog w) (A.deeper (envOfC qual scope L' f cdv)) (execs body (envOfC qual scope L' f cdv))
        (fun fl s' => LeaveS0 ([envOf cn cs L a ccd].filterMap (·.frame)) h₀ L m g R (match fl with | .ret v => v | _ => .none) s')
        (fun e s' => wpAny (model prog w) (A.deeper (envOfC qual scope L' f cdv)) (leaving (envOfC qual scope L' f cdv) e) (fun _ s'' => R (.error e) s'') (fun e' s'' => R (.error e') s'') s')
        { s with heap := h₁, toks := tk })
    (hck : cs.kind = .function) (hco : scope.isCoroutine = false) (hgen : scope.isGenerator = false) (hk : scope.kind = .function) : codeAny (model prog w) A (.call (.ref f) args) R s := by
  have X := X₀.keeps F.keep
  obtain ⟨oL, es, ep, hLg, hLd, hN, hNs, st, B₂⟩ := kts_enter B F N hA hck
  refine codeAny_call_function hroom (X _ _ ho) rfl hco hgen rfl (codeRec_of X hcd) (hbind _ _ _ _ ?_)
  refine wpAny_newFunctionEnv_cells hk (kindsX hkind _) fun env' he s' x => ?_
  subst he
  refine ⟨(T.nolimit.keeps F.keep).keeps x.toInCall.keep, codeAny_func ?_⟩
  obtain ⟨h₁, tk, rfl, _⟩ := x.done
  have hk₁ := x.toInCall.keep
  obtain ⟨cells, NC, Y⟩ := Cl.news (h₀ := s.heap) (Nat.le_refl _) fun n c hm => ⟨x.cell n c (lookup_of_mem_nodup (cellsFrom_names scope.names 0 (s.heap.objs.size + 1) [] [] rfl ▸ hnd) hm), x.above n c hm⟩
  refine wpAny_mono (h _ s.heap.objs.size h₁ tk cells ⟨hN _ hLg, st, F.above⟩ ⟨x.toInCall.ns, fun b o e => hk₁ b o (of_hideAll _ e), Nat.le_of_eq (hideAll_size _ _)⟩ (fun p hp => ?_) Y B₂ (X₀.keeps st) (T.keeps st) (fun b hb => by
      rcases kts_mem hb with rfl | z
      · exact ⟨oL, es, ep, hLg, hLd⟩
      · simp at z) (fun p hp => Heap.lt_size (N p hp).1)) (fun fl s' hl => ?_) fun _ _ y => y
  · rcases List.mem_append.mp hp with hp | hp
    · refine ⟨(NC p hp).1, (NC p hp).2.1, ?_⟩
      cases q : (hideAll s.heap (news.map (·.1))).get? p.1 with
      | none => rfl
      | some o => have := of_hideAll _ q; rw [(NC p hp).2.2] at this; cases this
    · exact ⟨hk₁ _ _ (N p hp).1, Nat.ne_of_lt (Heap.lt_size (N p hp).1), hideAll_none _ (List.mem_map_of_mem hp)⟩
  · obtain ⟨g', L', m', news', T', F', N', k⟩ := hl
    have nL₀ : h₀.get? L = none := kts_self F
    obtain ⟨sl, hs⟩ := T'.up hLg
    refine k ⟨hNs sl _ (F'.keep _ _ hs), fun b o e => F'.keep b o (T'.other b o (st b o e) (fun q => ?_)), F.above⟩ fun p hp => ⟨(N' p hp).1, fun q => ?_, ?_⟩
    · rcases kts_mem q with z | z
      · rw [z, nL₀] at e; cases e
      · simp at z
    · have := (N' p hp).2.2
      rw [q, hs] at this
      cases this
    · cases q : h₀.get? p.1 with
      | none => rfl
      | some o =>
        obtain ⟨sl', hs'⟩ := T'.up (st _ _ q)
        have := (N' p hp).2.2
        rw [hs'] at this
        cases this
end
end Mine
end SFly8
section SFly9
open PySem PySem.W PyProof.Rows PySem.Calls
open Builtin Builtin.ObjectAttr
set_option Elab.async false
set_option maxRecDepth 100000
set_option hygiene false
set_option linter.unusedVariables false
set_option maxHeartbeats 8000000
namespace Mine
theorem slot_bga : Slot "BaseException" "__getattribute__" "BaseException.__getattribute__" :=
  .of (owner := "BaseException") (n := "__getattribute__") (by rw [typeLookup_type, builtinLookup_eq_fast]; kernel_rfl) (by decide +kernel) (by decide +kernel) (by decide +kernel)
    (by first | exact .inl (by decide +kernel) | exact .inr (by decide +kernel)) (by rw [isSubtype_type]; kernel_rfl)
theorem entry_bga : entryFor table "BaseException.__getattribute__" = some Builtin.«object.__getattribute__» := entryFor_alias (id' := "object.__getattribute__") (by rw [fastTable_eq_tree]; kernel_rfl) (by first | rfl | decide +kernel) (by decide +kernel) (by rw [fastTable_eq_tree]; kernel_rfl)
theorem args_bga (a b : Value) : argsOk "BaseException.__getattribute__" ⟨[a, b], []⟩ := by unfold argsOk; kernel_rfl
theorem gf_ga (P : Params) : findIn (frag.heap_1 P) (.ref 143) "__getattribute__" = some (some (.builtin "BaseException.__getattribute__")) := by k_is
theorem gf_nga (P : Params) : findIn (frag.heap_1 P) (.ref 143) "__getattr__" = some none := by k_is
theorem gf_hd (P : Params) : hasDictIn (frag.heap_1 P) 143 = true := by k_is
theorem gf_atF (P : Params) : findIn (frag.heap_1 P) (.ref 143) "at" = some none := by k_is
theorem gf_get {prog : Program} {w : World} {A : Around} {E : Value → Shared → Prop} {s : Shared} {h₀ : Heap} {L e D p : Addr} {m : PySem.Str → Option Value} {news : List (Addr × Obj)} {a0 T : Value} {what : PySem.Str} {a b c : Tok} {expr : Bool} {Q : Value → Shared → Prop}
    (F : Fr h₀ L s.heap m) (X₀ : (frag.heap_1 w.params).In h₀) (N : News h₀ L s.heap news) (hx : (e, exT D a0 T) ∈ news) (hd : (D, fdict w what p a b c) ∈ news) (h : Q (.ref p) { s with toks := s.toks + 1 }) : wpAny (model prog w) A (getAttr (.ref e) "at" expr) Q E s := by
  have X := X₀.keeps F.keep
  have I : InstAt s.heap e (exT D a0 T) 143 (some (fdict w what p a b c)) := ⟨(N _ hx).1, rfl, rfl, (N _ hd).1⟩
  obtain ⟨cd, hc, hm, _⟩ := gf_clsIn w.params
  have hf : findObj (frag.heap_1 w.params) 143 (some (fdict w what p a b c)) "at" = some (.value (.ref p)) := findObj_own (attr := none) (gf_hd w.params) (gf_atF w.params) rfl rfl
  have sub : Looks (model prog w) s.heap (isInstance (.ref e) (.type "BaseException")) true := I.type.andThen (looks_mroIn X (by unfold mroIn; rw [hc, Option.bind_some, hm]; rfl))
  have L0 : Looks (model prog w) s.heap (typeOf (.ref e)) (.ref 143) := I.type
  have L1 : Looks (model prog w) s.heap (find (.ref e) (.ref 143) "at") (.value (.ref p)) := looks_find X I hf
  refine wpAny_bind (wpAny_mkText (wpAny_holding (wpAny_bind (L0 _ _ _ _ (fun _ _ e => e) (wpAny_bind (looks_findIn X (gf_ga w.params) _ _ _ _ (fun _ _ e => e) ?_))))))
  show wpAny _ _ (getAttrByItsOwn _ _ _ _ _ _) _ _ _
  unfold getAttrByItsOwn
  refine wpAny_bind (looks_hook (mc := .ref 143) X (r := none) (gf_nga w.params) _ _ _ _ (fun _ _ e => e) (wpAny_bind (wpAny_attempt (wpAny_holding ?_))))
  unfold callGetattribute
  rw [show (expr && onTheHeap (Value.builtin "BaseException.__getattribute__")) = false from Bool.and_false _, if_neg (by decide)]
  unfold boundAndCalled
  rw [slot_bga.bind]
  refine wpAny_bind (wpAny_pure ?_)
  show wpAny _ _ (call (.builtin "BaseException.__getattribute__") [.ref e, .str "at" s.toks]) _ _ _
  refine wpAny_call ?_
  refine codeAny_call_builtin slot_bga.plain entry_bga ?_
  refine @check_slot (model prog w) _ _ { s with toks := s.toks + 1 } "BaseException.__getattribute__" "BaseException" "__getattribute__" (.ref e) [.str "at" s.toks] [] _ (by decide +kernel) (by decide +kernel) sub (args_bga _ _) ?_
  unfold Builtin.«object.__getattribute__»
  refine wpAny_bind (wpAny_pure (wpAny_bind (wpAny_pure (wpAny_bind (L0 _ _ _ _ (fun _ _ e => e) (wpAny_bind (L1 _ _ _ _ (fun _ _ e => e) (wpAny_pure ?_))))))))
  show wpAny _ _ (handedOut (.ref p)) _ _ _
  rw [handedOut_of rfl]
  exact wpAny_pure h
end Mine
end SFly9
section SOct1
open PySem PySem.W PyProof.Rows PySem.Calls PySem.Spec
open PyProof.Rows.LCg
set_option Elab.async false
set_option maxRecDepth 100000
set_option hygiene false
set_option linter.unusedVariables false
set_option maxHeartbeats 8000000
namespace Mine
section
variable {prog : Program} {w : World} {A : Around} {E : Value → Shared → Prop} {s : Shared} {h₀ : Heap} {L : Addr} {m : PySem.Str → Option Value} {env : Env}
def TextSrc (prog : Program) (w : World) (A : Around) (h₀ : Heap) (L : Addr) (m : PySem.Str → Option Value) (env : Env) (elt : PySem.Expr) (x : PySem.Str) (scope : Scope) (cl : List (PySem.Str × Addr)) (Fin : Shared → List Value → List (Addr × Obj) → Prop) (xv : Value) (s₁ : Shared) : Prop :=
  ∃ z t n news, xv = .str z t ∧ A.handled = none ∧ Fr h₀ L s₁.heap m ∧ News h₀ L s₁.heap news ∧ z.cps.all (· < 128) = true ∧ z.cps.size = n ∧ n ≤ sizeLine ∧
    ∀ g, CompRest prog w A h₀ L m env elt x scope cl { s₁ with heap := g } (fun _ => True) (SignAt z) (Fin { s₁ with heap := g }) n 0 [] news
theorem TextSrc.intro {elt : PySem.Expr} {x : PySem.Str} {scope : Scope} {cl : List (PySem.Str × Addr)} {Fin : Shared → List Value → List (Addr × Obj) → Prop} {z : PySem.Str} {t : Tok} {n : Nat} {news : List (Addr × Obj)} {s₁ : Shared}
    (hh : A.handled = none) (F : Fr h₀ L s₁.heap m) (N : News h₀ L s₁.heap news) (ha : z.cps.all (· < 128) = true) (hn : z.cps.size = n) (hsz : n ≤ sizeLine)
    (k : ∀ g, CompRest prog w A h₀ L m env elt x scope cl { s₁ with heap := g } (fun _ => True) (SignAt z) (Fin { s₁ with heap := g }) n 0 [] news) : TextSrc prog w A h₀ L m env elt x scope cl Fin (.str z t) s₁ :=
  ⟨z, t, n, news, rfl, hh, F, N, ha, hn, hsz, k⟩
theorem assign_comp_text {elt iter : PySem.Expr} {x y : PySem.Str} {px py : Pos} {scope : Scope} {cl : List (PySem.Str × Addr)} {pos spos : Pos} {Q : Flow → Shared → Prop} (F₀ : Fr h₀ L s.heap m) (hLe : env.locals = L)
    (hsw : swapsWith (.ListComp elt [⟨.Name x px, iter, [], 0⟩] scope pos) (some (.Name y py)) spos.line env = pure true)
    (hclos : closureFor scope env = pure cl) (hcell : ∀ z ∈ scope.names, z.2 ≠ .cell) (hkind : scope.kind = .function)
    (hnames : ∀ z ∈ scope.names, z.2 = .local → scope.names.lookup z.1 = some .local) (hx : scope.names.lookup x = some .local)
    (hy : env.kindOf y = some .local) (hp : (env.scope.kind == .class || (env.scope.kind == .module && env.locals != env.globals)) = false)
    (h : wpAny (model prog w) A (eval iter env) (TextSrc prog w A h₀ L m env elt x scope cl (fun s₂ => FinA h₀ L m s₂ y Q)) E s)
    (hs : ∀ x, foldedSetIterable iter env x = pure x := by intro _; rfl) :
    wpAny (model prog w) A (exec (.Assign [.Name y py] (.ListComp elt [⟨.Name x px, iter, [], 0⟩] scope pos) spos) env) Q E s := by
  subst hLe
  rw [exec_Assign_Name_used _ _ _ _ hsw]
  refine wpAny_bind (wpAny_standAt (wpAny_bind ?_))
  show wpAny _ A (do let _ ← comprehension (.ListComp elt [⟨.Name x px, iter, [], 0⟩] scope pos) scope env _ (newList []) false (eval iter env) (some (assign (.Name y py) env))) _ _ s
  refine wpAny_bind (wpAny_mono (wpAny_comprehension_free (use := some (assign (.Name y py) env)) (Q := fun _ s' => Q .next s') rfl hs hclos hkind hnames
    (wpAny_mono h (fun xv s₁ h₁ => ?_) fun _ _ e => e)) (fun _ s' hq => wpAny_pure (wpAny_pure hq)) fun _ _ e => e)
  obtain ⟨z, t, n, news, rfl, hh, F, N, ha, rfl, hsz, R⟩ := h₁
  refine wpAny_pyIter_ascii ha ?_
  refine block_U (Walks.strAscii hh s₁.heap.objs.size z t) hsz (fun i h st => ?_) (fun i h h' o nw st e e' _ _ _ => ?_) hcell hkind hx ?_ (fun b hb => ?_)
      (F.keeps fun _ _ e => Heap.get?_push_of_some _ e) (N.grown fun _ _ e => Heap.get?_push_of_some _ e) (Nat.ne_of_lt F.ns.lt) (next_is_new F) (fun p hp => Nat.ne_of_lt (Heap.lt_size (N p hp).1)) trivial (R _) ?_
  · obtain ⟨o, q, _⟩ := st
    exact ⟨o, q⟩
  · obtain ⟨o', q, r⟩ := st
    rw [e] at q
    cases q
    exact ⟨o, e', r⟩
  · exact ⟨_, Heap.get?_push_size _ rfl, rfl, rfl⟩
  · rw [List.mem_singleton.mp hb]
    show s₁.heap.objs.size < (s₁.heap.push _).objs.size
    rw [Heap.size_push]
    exact Nat.lt_succ_self _
  · intro D C h' tk m' ys news' F' N' o1 hn hC₀ hD₀ hCL hDL hCD offC fin
    show wpAny _ A (assign (.Name y py) env (.ref D)) _ _ _
    refine wpAny_assign_Name (wpAny_storeName_local hy F'.ns (fun h₂ hn₂ hs₂ => ?_) hp)
    have hL₀ : h₀.get? env.locals = none := Heap.get?_none_of_le F'.above
    have F₂ : Fr h₀ env.locals h₂ (fun z => if z = y then some (.ref D) else m z) := ⟨hn₂, fun b o e => hs₂.extBut b o (fun q => by rw [q, hL₀] at e; cases e) (F'.keep b o e), F'.above⟩
    refine ⟨m', hn.sameBut hs₂ hCL, fun h'' hs'' => fin D h'' _ (F₂.change hs'' hCL hC₀) (fun p hp => ?_) o1⟩
    have z : h₂.get? p.1 = some p.2 := hs₂.extBut _ _ (N' p hp).2.1 (N' p hp).1
    refine ⟨hs''.extBut _ _ ?_ z, (N' p hp).2⟩
    rcases List.mem_cons.mp hp with rfl | hp
    · exact Ne.symm hCD
    · exact offC p hp
end
end Mine
end SOct1
section Parts1
open PySem PySem.W PyProof.Rows PySem.Calls
set_option Elab.async false
set_option maxRecDepth 100000
set_option hygiene false
set_option linter.unusedVariables false
set_option maxHeartbeats 8000000
set_option compiler.extract_closed false
namespace Mine
local macro_rules | `(tactic| walk_at "Z0") => `(tactic| (walk_at "US"; walk_at "UM"; (intro jz tz; k_upd); (assumption); (assumption)))
local macro_rules | `(tactic| walk_at "Z1") => `(tactic| ((case k1 => k_asm); (case k2 => k_asm); (case k3 => k_asm)))
local macro_rules | `(tactic| walk_at "Z2") => `(tactic| (walk_at "US"; walk_at "UM"; (assumption); (assumption)))
local macro_rules | `(tactic| walk_at "Z3") => `(tactic| ((first | assumption | exact rfl); walk_at "Z6"))
local macro_rules | `(tactic| walk_at "Z4") => `(tactic| ((case k5 => with_unfolding_all rfl); walk_at "Z1"; (case k4 => (intro p9 hp9; repeat (first | exact hp9 | refine List.mem_cons_of_mem _ ?_))); k_whole; intro t9))
local macro_rules | `(tactic| walk_at "Z5") => `(tactic| ((first | assumption | decide +kernel)))
local macro_rules | `(tactic| walk_at "Z6") => `(tactic| (walk_at "UR"; intro h9 tk9 F9 N9; ktr_unf))
local macro_rules | `(tactic| tb_start) => `(tactic| (walk_at "Z1"; (case k4 => k_asm); (case k5 => k_asm); (case kk => first | exact rfl | assumption); (try (case kS => assumption)); (try (case kd => k_mem)); (try (case ks => (intro p9 hp9; first | exact hsub p9 hp9 | exact hp9 | (repeat (first | exact hsub p9 hp9 | exact hp9 | exact Upd.sub (hU _ _) (hsub p9 hp9) (S.off p9 hp9) | (refine List.mem_cons_of_mem _ ?_)))))); (try (case qU => (intro jz tz; k_upd)))))
local macro_rules | `(tactic| tb_rel) => `(tactic| ((case kp => ktr_room); (case ku => ktr_units); k_whole))
local macro_rules | `(tactic| ktr_unf) => `(tactic| ((try k_sweep); (try dsimp only); (try k_fold)))
local macro_rules | `(tactic| k_caught0) => `(tactic| (refine' code_def ?k1 ?k2 ?k3 ?k4 ?k5 ?kA ?kF ?kK ?k6 ?k7 ?k8 ?k9 ?kB ?_ ?c2 ?c3 ?c4 ?c5; (case kA => exact rfl); (case kF => exact rfl); (case kK => first | assumption | exact rfl); walk_at "Z1"; (case k4 => k_asm); (case k5 => k_asm); (case k6 => k_is); (case k7 => k_is); (case k8 => ktr_room); (case k9 => first | exact BindsTo.of_eq rfl | exact binds_K (by k_in) rfl (by k_is) rfl rfl rfl); (case c5 => decide); (case kB => exact locs rfl); (case c2 => exact rfl); (case c3 => exact rfl); (case c4 => exact rfl); k_whole; intro g' L' h' FG' F' N' B' X' T'; (try dsimp only [List.reverse, List.reverseAux] at F'); (try dsimp only); (try k_fold)))
local macro_rules | `(tactic| walk_at "US") => `(tactic| (k_asm; k_asm; k_asm; k_asm; k_asm; (first | exact rfl | assumption)))
local macro_rules | `(tactic| walk_at "UM") => `(tactic| (assumption; k_mem; (intro p9 hp9; first | exact hsub p9 hp9 | exact hp9 | (repeat (first | exact hsub p9 hp9 | exact hp9 | exact Upd.sub (hU _ _) (hsub p9 hp9) (S.off p9 hp9) | (refine List.mem_cons_of_mem _ ?_))))))
local macro_rules | `(tactic| walk_at "UR") => `(tactic| (ktr_room; ktr_units; k_whole))
local macro_rules | `(tactic| walk_at "U0") => `(tactic| (walk_at "Z2"; (assumption); walk_at "Z6"))
local macro_rules | `(tactic| walk_at "U1") => `(tactic| (walk_at "Z2"; (exact rfl); walk_at "Z6"))
local macro_rules | `(tactic| walk_at "U2") => `(tactic| (walk_at "US"; walk_at "UM"; (assumption); (omega); (assumption); walk_at "Z6"))
local macro_rules | `(tactic| walk_at "U3") => `(tactic| (walk_at "Z2"; walk_at "Z3"))
local macro_rules | `(tactic| walk_at "U4") => `(tactic| (walk_at "US"; (first | assumption | decide); walk_at "Z3"))
local macro_rules | `(tactic| walk_at "U5") => `(tactic| (walk_at "US"; walk_at "UM"; (walk_at "W7"); (assumption); (assumption); walk_at "Z3"))
local macro_rules | `(tactic| walk_at "U6") => `(tactic| (walk_at "Z2"; (first | assumption | decide); walk_at "Z3"))
local macro_rules | `(tactic| walk_at "U7") => `(tactic| (walk_at "US"; walk_at "UM"; (walk_at "W7"); (assumption); (assumption); walk_at "Z5"; walk_at "Z6"))
local macro_rules | `(tactic| walk_at "U8") => `(tactic| (walk_at "US"; walk_at "UM"; (intro jz tz; k_upd); (walk_at "W7"); (assumption); (assumption); walk_at "UR"; intro h9 tk9 ti9 F9 N9; ktr_unf))
local macro_rules | `(tactic| walk_at "U9") => `(tactic| (walk_at "Z0"; walk_at "UR"; intro h9 tk9 ti9 tv9 F9 N9; ktr_unf))
local macro_rules | `(tactic| walk_at "U10") => `(tactic| (walk_at "Z2"; walk_at "Z5"; walk_at "Z5"; walk_at "UR"; intro h9 tk9 tv9 F9 N9; ktr_unf))
local macro_rules | `(tactic| walk_at "U11") => `(tactic| (walk_at "Z2"; walk_at "Z5"; walk_at "Z6"))
local macro_rules | `(tactic| walk_at "U12") => `(tactic| (walk_at "Z0"; walk_at "Z5"; walk_at "UR"; intro h9 tk9 ti9 F9 N9; ktr_unf))
local macro_rules | `(tactic| walk_at "U13") => `(tactic| (walk_at "Z0"; walk_at "UR"; intro h9 tk9 ti9 F9 N9; ktr_unf))
local macro_rules | `(tactic| walk_at "U14") => `(tactic| (walk_at "Z2"; walk_at "Z5"; walk_at "Z5"; walk_at "Z3"))
local macro_rules | `(tactic| walk_at "U15") => `(tactic| (walk_at "Z2"; (assumption); walk_at "Z3"))
local macro_rules | `(tactic| walk_at "U16") => `(tactic| (walk_at "US"; walk_at "UR"; intro h9 tk9 D9 u8 u9 F9 N9 l9; ktr_unf))
local macro_rules | `(tactic| walk_at "U17") => `(tactic| (walk_at "US"; (k_mem); walk_at "UR"; intro h9 tk9 D9 u8 u9 F9 N9 l9; ktr_unf))
local macro_rules | `(tactic| walk_at "U18") => `(tactic| (walk_at "US"; walk_at "UR"; intro h9 tk9 tv9 F9 N9; ktr_unf))
local macro_rules | `(tactic| walk_at "U19") => `(tactic| (walk_at "Z0"; walk_at "UR"; intro h9 tk9 ti9 D9 u8 u9 F9 N9 l9; ktr_unf))
local macro_rules | `(tactic| walk_at "U20") => `(tactic| (walk_at "Z0"; (assumption); walk_at "UR"; intro h9 tk9 ti9 D9 u8 u9 F9 N9 l9; ktr_unf))
local macro_rules | `(tactic| walk_at "U21") => `(tactic| (walk_at "Z0"; walk_at "UR"; intro h9 tk9 ti9 D9 nn9 F9 N9 dd9 l9; ktr_unf))
local macro_rules | `(tactic| walk_at "U22") => `(tactic| (walk_at "Z0"; (assumption); walk_at "UR"; intro h9 tk9 ti9 D9 nn9 F9 N9 dd9 l9; ktr_unf))
local macro_rules | `(tactic| walk_at "U23") => `(tactic| (walk_at "Z2"; (assumption); (assumption); walk_at "UR"; intro h9 tk9 e9 R9; ktr_unf))
local macro_rules | `(tactic| walk_at "U24") => `(tactic| (walk_at "Z2"; walk_at "UR"; intro h9 tk9 e9 R9; ktr_unf))
local macro_rules | `(tactic| walk_at "U25") => `(tactic| (walk_at "Z0"; walk_at "UR"; intro h9 tk9 ti9 tv9 x9 hx9 F9 N9; ktr_unf))
local macro_rules | `(tactic| walk_at "U26") => `(tactic| (walk_at "Z0"; (omega); walk_at "UR"; intro h9 tk9 ti9 tv9 x9 F9 N9; ktr_unf))
/-- the reader's own dict -/
abbrev RD (w : World) (t1 t2 t3 : Tok) (tl : Addr) (i : Int) (ti : Tok) (nd : Addr) : Obj :=
  dictOf [⟨PyData.keyHash w.params "tokens", .str "tokens" t1, .ref tl⟩, ⟨PyData.keyHash w.params "at", .str "at" t2, .int i ti⟩, ⟨PyData.keyHash w.params "named", .str "named" t3, .ref nd⟩] 3
/-- a token's dict -/
abbrev TD (w : World) (u1 u2 u3 u4 u5 u6 : Tok) (κ ω : PySem.Str) (p : Addr) : Obj :=
  dictOf [⟨PyData.keyHash w.params "kind", .str "kind" u1, .str κ u2⟩, ⟨PyData.keyHash w.params "worth", .str "worth" u3, .str ω u4⟩, ⟨PyData.keyHash w.params "at", .str "at" u5, .ref p⟩, ⟨PyData.keyHash w.params "is_in_a", .str "is_in_a" u6, .bool false⟩] 4
abbrev tupOf (vs : List Value) (n : Nat) : Obj := { cls := .type "tuple", data := .seq vs.toArray n }
/-- the token at a place, as the ledger bears it -/
def TokAt (w : World) (rest : List (Addr × Obj)) (v : Value) (j : Nat) (κ ω : PySem.Str) : Prop :=
  ∃ (t d p : Addr) (u1 u2 u3 u4 u5 u6 v1 v2 : Tok) (k : Nat), v = .ref t ∧ (t, instObj 413 d) ∈ rest ∧ (d, TD w u1 u2 u3 u4 u5 u6 κ ω p) ∈ rest ∧ (p, tupOf [.int (j + 1) v1, .int 12 v2] k) ∈ rest
/-- a reader over tokens -/
structure RS (w : World) (rest : List (Addr × Obj)) (r dr tl nd : Addr) (n : Nat) (vs : List Value) (toks : List (PySem.Str × PySem.Str)) : Prop where
  hr : (r, instObj 383 dr) ∈ rest
  hl : (tl, listOf vs.toArray n) ∈ rest
  len : vs.length = toks.length
  few : toks.length < 1000
  at_ : ∀ (j : Nat) (κ ω : PySem.Str), toks[j]? = some (κ, ω) → ∃ v, vs[j]? = some v ∧ TokAt w rest v j κ ω
  off : ∀ p ∈ rest, p.1 ≠ dr
theorem end_b {h₀ h' : Heap} {L : Addr} {m : PySem.Str → Option Value} {news : List (Addr × Obj)} {s : Shared} {Q : Value → Shared → Prop} {tk' : Nat} {b c : Bool}
    (ret : ∀ h' tk', Fr h₀ L h' m → News h₀ L h' news → Q (.bool b) { s with heap := h', toks := tk' }) (F : Fr h₀ L h' m) (N : News h₀ L h' news) (e : c = b) : Q (.bool c) { s with heap := h', toks := tk' } := by
  subst e
  exact ret h' tk' F N
section
variable {prog : Program} {w : World} {A : Around} {E : Value → Shared → Prop} {s : Shared} {h₀ : Heap} {L tl : Addr} {m : PySem.Str → Option Value} {news : List (Addr × Obj)} {vs : List Value} {n : Nat} {Q : Value → Shared → Prop}
theorem len_mem (N : News h₀ L s.heap news) (hm : (tl, listOf vs.toArray n) ∈ news) (hlen : vs.length < 1000) (h : Q (.int (vs.length : Int) (s.toks + 1)) { s with toks := s.toks + 1 + 1 }) : wpAny (model prog w) A (call (.builtin "len") [.ref tl]) Q E s :=
  len_list (N.isList hm) (by rw [List.size_toArray]; omega) (by rw [List.size_toArray]; exact h)
theorem item_mem {value slice : PySem.Expr} {k : Int} {u : Tok} {v : Value} (N : News h₀ L s.heap news) (hm : (tl, listOf vs.toArray n) ∈ news) (h0 : 0 ≤ k) (hfit : k < 1000) (hx : vs[k.toNat]? = some v) (h : Q v s)
    (hs : subscripted slice false (.ref tl) (.int k u) = operate [.ref tl, .int k u] (getItem (.ref tl) (.int k u)) := by with_unfolding_all rfl) :
    wpAny (model prog w) A (subscriptTail value slice (.ref tl) (.int k u)) Q E s :=
  tail_any (N.isList hm).typeIs slot_list_getitem.lookup (wpAny_getItem_list (N.isList hm) h0 (by omega) (by simpa using hx) h) hs
end
local macro_rules | `(tactic| walk_at "call builtin:len") => `(tactic| (k_here; (with_reducible show wpAny _ _ (call (Value.builtin "len") [Value.ref _]) _ _ _); k_dflt (refine' len_mem ?k1 ?k2 ?k3 ?_; (case k1 => k_asm); (case k2 => k_mem); (case k3 => omega); k_whole)))
local macro_rules | `(tactic| walk_at "subscriptTail") => `(tactic| (k_here; (with_reducible show wpAny _ _ (subscriptTail _ _ (Value.ref _) (Value.int _ _)) _ _ _); (with_unfolding_all refine' item_mem ?k1 ?k2 ?k3 ?k4 ?k5 ?_ ?k6; (case k1 => k_asm); (case k2 => k_mem); (case k5 => assumption); (case k3 => omega); (case k4 => omega); (case k6 => with_unfolding_all rfl); k_whole)))

section
variable {w : World} {mean : ExcName → Option Value} {mg mb : PySem.Str → Option Value} {dp un : Nat} {gd : Option (List Code)} {cn : PySem.Str} {cs : Scope} {a : Addr} {ccd : Value} {cl : List (PySem.Str × Addr)} {outer : List Env} {A₀ : Around} {base h₀ : Heap} {L : Addr} {m : PySem.Str → Option Value} {news rest : List (Addr × Obj)} {s : Shared} {Q E : Value → Shared → Prop} {r dr tl nd : Addr} {t1 t2 t3 ti : Tok} {i : Int} {n : Nat} {vs : List Value} {toks : List (PySem.Str × PySem.Str)}
theorem peek_in (B : Below A₀ base outer h₀) (F : Fr h₀ L s.heap m) (X : (frag.heap_1 w.params).In h₀) (N : News h₀ L s.heap news) (T : Top (vG pG) (looseW (vG pG) ls) mean mg mb h₀) (hk : cs.kind = .function) (S : RS w rest r dr tl nd n vs toks) (hdr : (dr, RD w t1 t2 t3 tl i ti nd) ∈ news) (hsub : ∀ p ∈ rest, p ∈ news) {k : Int} {tk : Tok} {v : Value} (h0 : 0 ≤ i + k) (hik : i + k < vs.length) (hat : vs[(i + k).toNat]? = some v)
    (hdp : dp + 1 < recursionLimit) (hun : un + 8 < cLine) (ret : ∀ h' tk', Fr h₀ L h' m → News h₀ L h' news → Q v { s with heap := h', toks := tk' }) :
    wpAny (model PySem.Challenge.rw_pb0262_01.row.prog w) (ktrTop dp un gd cn cs L a ccd cl outer) (call (.ref 237) [.ref r, .int k tk]) Q E s := by
  have hr := hsub _ S.hr
  have hl := hsub _ S.hl
  have hlen : vs.length < 1000 := by have := S.len; have := S.few; omega
  refine wpAny_call ?_
  k_dflt (refine' code_def (binds := [("self", .ref r), ("ahead", .int k tk)]) ?k1 ?k2 ?k3 ?k4 ?k5 ?kA ?kF ?kK ?k6 ?k7 ?k8 ?k9 ?kB ?_ ?c2 ?c3 ?c4 ?c5; (case kA => exact rfl); (case kF => exact rfl); (case kK => first | assumption | exact rfl); (case k1 => k_asm); (case k2 => k_asm); (case k3 => k_asm); (case k4 => k_asm); (case k5 => k_asm); (case k6 => k_is); (case k7 => k_is); (case k8 => ktr_room); (case k9 => first | exact BindsTo.of_eq rfl | exact binds_K (by k_in) rfl (by k_is) rfl rfl rfl); (case c5 => decide); (case kB => exact locs rfl); (case c2 => exact rfl); (case c3 => exact rfl); (case c4 => exact rfl); k_whole; intro g' L' h' FG' F' N' B' X' T'; (try dsimp only [List.reverse, List.reverseAux] at F'); (try dsimp only); (try k_fold))
  k_steps
  all_goals exact ret _ _ (by k_asm) (by k_asm)
end
local macro_rules | `(tactic| k_mem) => `(tactic| (first | assumption | exact hsub _ (by assumption)))
local macro_rules | `(tactic| walk_at "call ref") => `(tactic| (k_here; (with_reducible show wpAny _ _ (call (Value.ref 237) [_, _]) _ _ _); k_dflt (apply peek_in; walk_at "U0")))
section
variable {w : World} {mean : ExcName → Option Value} {mg mb : PySem.Str → Option Value} {dp un : Nat} {gd : Option (List Code)} {cn : PySem.Str} {cs : Scope} {a : Addr} {ccd : Value} {cl : List (PySem.Str × Addr)} {outer : List Env} {A₀ : Around} {base h₀ : Heap} {L : Addr} {m : PySem.Str → Option Value} {news rest : List (Addr × Obj)} {s : Shared} {Q E : Value → Shared → Prop} {r dr tl nd : Addr} {t1 t2 t3 ti : Tok} {i : Int} {n : Nat} {vs : List Value} {toks : List (PySem.Str × PySem.Str)}
theorem is_kind2 (B : Below A₀ base outer h₀) (F : Fr h₀ L s.heap m) (X : (frag.heap_1 w.params).In h₀) (N : News h₀ L s.heap news) (T : Top (vG pG) (looseW (vG pG) ls) mean mg mb h₀) (hk : cs.kind = .function) (S : RS w rest r dr tl nd n vs toks) (hdr : (dr, RD w t1 t2 t3 tl i ti nd) ∈ news) (hsub : ∀ p ∈ rest, p ∈ news) {k : Int} {tk tk' : Tok} {κ ω kind : PySem.Str} {b : Bool} (hat : toks[(i + k).toNat]? = some (κ, ω)) (h0 : 0 ≤ i + k) (hb : (κ == kind) = b)
    (hdp : dp + 2 < recursionLimit) (hun : un + 16 < cLine) (ret : ∀ h' tk', Fr h₀ L h' m → News h₀ L h' news → Q (.bool b) { s with heap := h', toks := tk' }) :
    wpAny (model PySem.Challenge.rw_pb0262_01.row.prog w) (ktrTop dp un gd cn cs L a ccd cl outer) (call (.ref 266) [.ref r, .str kind tk', .int k tk]) Q E s := by
  have hr := hsub _ S.hr
  obtain ⟨v, hv, t, d, p, u1, u2, u3, u4, u5, u6, v1, v2, z, rfl, ht, hd, hp⟩ := S.at_ _ _ _ hat
  have hik : i + k < vs.length := by have := (List.getElem?_eq_some_iff.mp hv).1; omega
  have ht' := hsub _ ht
  have hd' := hsub _ hd
  refine wpAny_call ?_
  k_dflt (refine' code_def (binds := [("self", .ref r), ("kind", .str kind tk'), ("ahead", .int k tk)]) ?k1 ?k2 ?k3 ?k4 ?k5 ?kA ?kF ?kK ?k6 ?k7 ?k8 ?k9 ?kB ?_ ?c2 ?c3 ?c4 ?c5; (case kA => exact rfl); (case kF => exact rfl); (case kK => first | assumption | exact rfl); (case k1 => k_asm); (case k2 => k_asm); (case k3 => k_asm); (case k4 => k_asm); (case k5 => k_asm); (case k6 => k_is); (case k7 => k_is); (case k8 => ktr_room); (case k9 => first | exact BindsTo.of_eq rfl | exact binds_K (by k_in) rfl (by k_is) rfl rfl rfl); (case c5 => decide); (case kB => exact locs rfl); (case c2 => exact rfl); (case c3 => exact rfl); (case c4 => exact rfl); k_whole; intro g' L' h' FG' F' N' B' X' T'; (try dsimp only [List.reverse, List.reverseAux] at F'); (try dsimp only); (try k_fold))
  k_steps
  all_goals (subst hb; exact ret _ _ (by k_asm) (by k_asm))
end
local macro_rules | `(tactic| walk_at "call ref") => `(tactic| (k_here; (with_reducible show wpAny _ _ (call (Value.ref 266) [_, _, _]) _ _ _); k_dflt (apply is_kind2; walk_at "U1")))
section
variable {w : World} {mean : ExcName → Option Value} {mg mb : PySem.Str → Option Value} {dp un : Nat} {gd : Option (List Code)} {cn : PySem.Str} {cs : Scope} {a : Addr} {ccd : Value} {cl : List (PySem.Str × Addr)} {outer : List Env} {A₀ : Around} {base h₀ : Heap} {L : Addr} {m : PySem.Str → Option Value} {news rest : List (Addr × Obj)} {s : Shared} {Q E : Value → Shared → Prop} {r dr tl nd : Addr} {t1 t2 t3 ti : Tok} {i : Int} {n : Nat} {vs : List Value} {toks : List (PySem.Str × PySem.Str)}
theorem peek0 (B : Below A₀ base outer h₀) (F : Fr h₀ L s.heap m) (X : (frag.heap_1 w.params).In h₀) (N : News h₀ L s.heap news) (T : Top (vG pG) (looseW (vG pG) ls) mean mg mb h₀) (hk : cs.kind = .function) (S : RS w rest r dr tl nd n vs toks) (hdr : (dr, RD w t1 t2 t3 tl i ti nd) ∈ news) (hsub : ∀ p ∈ rest, p ∈ news) {v : Value} (h0 : 0 ≤ i) (hik : i < vs.length) (hat : vs[i.toNat]? = some v)
    (hdp : dp + 1 < recursionLimit) (hun : un + 8 < cLine) (ret : ∀ h' tk', Fr h₀ L h' m → News h₀ L h' news → Q v { s with heap := h', toks := tk' }) :
    wpAny (model PySem.Challenge.rw_pb0262_01.row.prog w) (ktrTop dp un gd cn cs L a ccd cl outer) (call (.ref 237) [.ref r]) Q E s := by
  have hr := hsub _ S.hr
  have hl := hsub _ S.hl
  have hlen : vs.length < 1000 := by have := S.len; have := S.few; omega
  have e0 : i + 0 = i := Int.add_zero i
  have hat0 : vs[(i + 0).toNat]? = some v := by rw [e0]; exact hat
  refine wpAny_call ?_
  k_dflt (refine' code_def (binds := [("self", .ref r), ("ahead", .int 0 512)]) ?k1 ?k2 ?k3 ?k4 ?k5 ?kA ?kF ?kK ?k6 ?k7 ?k8 ?k9 ?kB ?_ ?c2 ?c3 ?c4 ?c5; (case kA => exact rfl); (case kF => exact rfl); (case kK => first | assumption | exact rfl); (case k1 => k_asm); (case k2 => k_asm); (case k3 => k_asm); (case k4 => k_asm); (case k5 => k_asm); (case k6 => k_is); (case k7 => k_is); (case k8 => ktr_room); (case k9 => first | exact BindsTo.of_eq rfl | exact binds_K (by k_in) rfl (by k_is) rfl rfl rfl); (case c5 => decide); (case kB => exact locs rfl); (case c2 => exact rfl); (case c3 => exact rfl); (case c4 => exact rfl); k_whole; intro g' L' h' FG' F' N' B' X' T'; (try dsimp only [List.reverse, List.reverseAux] at F'); (try dsimp only); (try k_fold))
  k_steps
  all_goals exact ret _ _ (by k_asm) (by k_asm)
theorem is_kind1 (B : Below A₀ base outer h₀) (F : Fr h₀ L s.heap m) (X : (frag.heap_1 w.params).In h₀) (N : News h₀ L s.heap news) (T : Top (vG pG) (looseW (vG pG) ls) mean mg mb h₀) (hk : cs.kind = .function) (S : RS w rest r dr tl nd n vs toks) (hdr : (dr, RD w t1 t2 t3 tl i ti nd) ∈ news) (hsub : ∀ p ∈ rest, p ∈ news) {tk' : Tok} {κ ω kind : PySem.Str} {b : Bool} (hat : toks[i.toNat]? = some (κ, ω)) (h0 : 0 ≤ i) (hb : (κ == kind) = b)
    (hdp : dp + 2 < recursionLimit) (hun : un + 16 < cLine) (ret : ∀ h' tk', Fr h₀ L h' m → News h₀ L h' news → Q (.bool b) { s with heap := h', toks := tk' }) :
    wpAny (model PySem.Challenge.rw_pb0262_01.row.prog w) (ktrTop dp un gd cn cs L a ccd cl outer) (call (.ref 266) [.ref r, .str kind tk']) Q E s := by
  have hr := hsub _ S.hr
  obtain ⟨v, hv, t, d, p, u1, u2, u3, u4, u5, u6, v1, v2, z, rfl, ht, hd, hp⟩ := S.at_ _ _ _ hat
  have hik : i + 0 < vs.length := by have := (List.getElem?_eq_some_iff.mp hv).1; omega
  have ht' := hsub _ ht
  have hd' := hsub _ hd
  have e0 : i + 0 = i := Int.add_zero i
  have h00 : 0 ≤ i + 0 := by rw [e0]; exact h0
  have hv0 : vs[(i + 0).toNat]? = some (.ref t) := by rw [e0]; exact hv
  refine wpAny_call ?_
  k_dflt (refine' code_def (binds := [("self", .ref r), ("kind", .str kind tk'), ("ahead", .int 0 544)]) ?k1 ?k2 ?k3 ?k4 ?k5 ?kA ?kF ?kK ?k6 ?k7 ?k8 ?k9 ?kB ?_ ?c2 ?c3 ?c4 ?c5; (case kA => exact rfl); (case kF => exact rfl); (case kK => first | assumption | exact rfl); (case k1 => k_asm); (case k2 => k_asm); (case k3 => k_asm); (case k4 => k_asm); (case k5 => k_asm); (case k6 => k_is); (case k7 => k_is); (case k8 => ktr_room); (case k9 => first | exact BindsTo.of_eq rfl | exact binds_K (by k_in) rfl (by k_is) rfl rfl rfl); (case c5 => decide); (case kB => exact locs rfl); (case c2 => exact rfl); (case c3 => exact rfl); (case c4 => exact rfl); k_whole; intro g' L' h' FG' F' N' B' X' T'; (try dsimp only [List.reverse, List.reverseAux] at F'); (try dsimp only); (try k_fold))
  k_steps
  all_goals (subst hb; exact ret _ _ (by k_asm) (by k_asm))
end
local macro_rules | `(tactic| walk_at "call ref") => `(tactic| (k_here; (show wpAny _ _ (call (Value.ref 237) [_]) _ _ _); k_dflt (apply peek0; walk_at "U2")))
local macro_rules | `(tactic| walk_at "call ref") => `(tactic| (k_here; (with_reducible show wpAny _ _ (call (Value.ref 266) [_, _]) _ _ _); k_dflt (apply is_kind1; walk_at "U1")))
section
variable {w : World} {mean : ExcName → Option Value} {mg mb : PySem.Str → Option Value} {dp un : Nat} {gd : Option (List Code)} {cn : PySem.Str} {cs : Scope} {a : Addr} {ccd : Value} {cl : List (PySem.Str × Addr)} {outer : List Env} {A₀ : Around} {base h₀ : Heap} {L : Addr} {m : PySem.Str → Option Value} {news rest : List (Addr × Obj)} {s : Shared} {Q E : Value → Shared → Prop} {r dr tl nd : Addr} {t1 t2 t3 ti : Tok} {i : Int} {n : Nat} {vs : List Value} {toks : List (PySem.Str × PySem.Str)}
theorem is_sign2 (B : Below A₀ base outer h₀) (F : Fr h₀ L s.heap m) (X : (frag.heap_1 w.params).In h₀) (N : News h₀ L s.heap news) (T : Top (vG pG) (looseW (vG pG) ls) mean mg mb h₀) (hk : cs.kind = .function) (S : RS w rest r dr tl nd n vs toks) (hdr : (dr, RD w t1 t2 t3 tl i ti nd) ∈ news) (hsub : ∀ p ∈ rest, p ∈ news) {k : Int} {tk tk' : Tok} {κ ω sign : PySem.Str} {b : Bool} (hat : toks[(i + k).toNat]? = some (κ, ω)) (h0 : 0 ≤ i + k) (hb : (κ == "sign" && ω == sign) = b)
    (hdp : dp + 3 < recursionLimit) (hun : un + 24 < cLine) (ret : ∀ h' tk', Fr h₀ L h' m → News h₀ L h' news → Q (.bool b) { s with heap := h', toks := tk' }) :
    wpAny (model PySem.Challenge.rw_pb0262_01.row.prog w) (ktrTop dp un gd cn cs L a ccd cl outer) (call (.ref 331) [.ref r, .str sign tk', .int k tk]) Q E s := by
  have hr := hsub _ S.hr
  obtain ⟨v, hv, t, d, p, u1, u2, u3, u4, u5, u6, v1, v2, z, rfl, ht, hd, hp⟩ := S.at_ _ _ _ hat
  have hik : i + k < vs.length := by have := (List.getElem?_eq_some_iff.mp hv).1; omega
  have ht' := hsub _ ht
  have hd' := hsub _ hd
  refine wpAny_call ?_
  k_dflt (refine' code_def (binds := [("self", .ref r), ("sign", .str sign tk'), ("ahead", .int k tk)]) ?k1 ?k2 ?k3 ?k4 ?k5 ?kA ?kF ?kK ?k6 ?k7 ?k8 ?k9 ?kB ?_ ?c2 ?c3 ?c4 ?c5; (case kA => exact rfl); (case kF => exact rfl); (case kK => first | assumption | exact rfl); (case k1 => k_asm); (case k2 => k_asm); (case k3 => k_asm); (case k4 => k_asm); (case k5 => k_asm); (case k6 => k_is); (case k7 => k_is); (case k8 => ktr_room); (case k9 => first | exact BindsTo.of_eq rfl | exact binds_K (by k_in) rfl (by k_is) rfl rfl rfl); (case c5 => decide); (case kB => exact locs rfl); (case c2 => exact rfl); (case c3 => exact rfl); (case c4 => exact rfl); k_whole; intro g' L' h' FG' F' N' B' X' T'; (try dsimp only [List.reverse, List.reverseAux] at F'); (try dsimp only); (try k_fold))
  k_steps
  all_goals (refine end_b ret (by k_asm) (by (first | k_asm | (rename News _ _ _ _ => lN9; intro p9 hp9; exact lN9 p9 (by first | exact hp9 | (repeat (first | exact hp9 | refine List.mem_cons_of_mem _ ?_)))))) ?_; first | exact hb | (subst hb; simp [*]; done) | (subst hb; simp_all; done))
end

local macro_rules | `(tactic| walk_at "call ref") => `(tactic| (k_here; (with_reducible show wpAny _ _ (call (Value.ref 331) [_, _, _]) _ _ _); k_dflt (apply is_sign2; walk_at "U1")))
theorem allLt_mem {d : Addr} {l : List (Addr × Obj)} (h : AllLt d l) : ∀ {p : Addr × Obj}, p ∈ l → p.1 < d := by
  induction l with
  | nil => intro p hp; cases hp
  | cons q r ih =>
    intro p hp
    rcases List.mem_cons.mp hp with e | hp
    · rw [e]; exact h.1
    · exact ih h.2 hp
local macro_rules | `(tactic| walk_at "pyIter ref") => `(tactic| (k_here; (with_reducible show wpAny _ _ (pyIter (Value.ref _)) (fun it s₂ => LoopAtV _ _ _ _ _ _ _ _ _ it s₂) _ _); (rename Fr _ _ _ _ => lF'); (rename News _ _ _ _ => lN'); (with_unfolding_all refine iter_listUnr (by rfl) lF' lN' (List.mem_cons_self ..) (by rfl) (by rfl) ?_); clear lF'; intro i' l1'))
local macro_rules | `(tactic| walk_at "UnrEnd") => `(tactic| (k_here; (rename News _ _ _ _ => lN'); first | refine UnrEnd.intro (by k_asm) lN' _ (fun p hp => hp) (fun p hp => Nat.ne_of_lt (l1' p hp)) ⟨by k_mem, ?_⟩ | refine UnrEnd.intro (by k_asm) lN' _ (fun p hp => hp) (fun p hp => Nat.ne_of_lt (allLt_mem (by assumption) hp)) ?_))
/-- the long text of the reserved words, out of the program itself -/
def resStr : PySem.Str := resOf pG
def isRes (x y : PySem.Str) : Bool := !(Builtin.Str.occurrences x y 0 x.length 1).isEmpty
def inB : List Nat → List Nat → Bool
  | [], p => p.isEmpty
  | c :: r, p => p.isPrefixOf (c :: r) || inB r p
theorem inB_iff (p : List Nat) : ∀ l : List Nat, inB l p = true ↔ ∃ i, i + p.length ≤ l.length ∧ (l.drop i).take p.length = p
  | [] => by
    constructor
    · intro h
      have : p = [] := by simpa [inB] using h
      subst this
      exact ⟨0, by simp, by simp⟩
    · rintro ⟨i, h, _⟩
      have : p = [] := List.eq_nil_of_length_eq_zero (by rw [List.length_nil] at h; omega)
      subst this
      rfl
  | c :: r => by
    rw [inB, Bool.or_eq_true, inB_iff p r, List.isPrefixOf_iff_prefix]
    constructor
    · rintro (h | ⟨i, h, e⟩)
      · exact ⟨0, by simpa using h.length_le, by simpa using (List.prefix_iff_eq_take.mp h).symm⟩
      · exact ⟨i + 1, by simp only [List.length_cons]; omega, by simpa using e⟩
    · rintro ⟨i, h, e⟩
      cases i with
      | zero => exact .inl (List.prefix_iff_eq_take.mpr (by simpa using e.symm))
      | succ i => exact .inr ⟨i, by simp only [List.length_cons] at h; omega, by simpa using e⟩
theorem isRes_eq (x y : PySem.Str) : isRes x y = inB x.cps.toList y.cps.toList := by
  rw [Bool.eq_iff_iff, inB_iff]
  refine (PySem.StrLaws.found_iff x y).trans ?_
  have lx : x.length = x.cps.toList.length := by simp [PySem.Str.length]
  have ly : y.length = y.cps.toList.length := by simp [PySem.Str.length]
  refine exists_congr fun i => ?_
  rw [PySem.StrLaws.subAt_eq, beq_iff_eq, lx, ly]
theorem res_words : ∃ l : List Char, resStr = PySem.Str.ofString (String.ofList l) ∧ inB (l.map Char.toNat) [32, 78, 65, 77, 69, 32] = false ∧ inB (l.map Char.toNat) [32, 83, 80, 65, 67, 69, 83, 32] = true ∧
    inB (l.map Char.toNat) [32, 65, 76, 76, 32] = true ∧ inB (l.map Char.toNat) [32, 72, 73, 71, 72, 45, 86, 65, 76, 85, 69, 32] = true :=
  ⟨_, rfl, by decide +kernel, by decide +kernel, by decide +kernel, by decide +kernel⟩
theorem isRes_list {ω : PySem.Str} {p : List Nat} {b : Bool} (hp : (PySem.Str.ofString " " ++ ω ++ PySem.Str.ofString " ").cps.toList = p) {l : List Char} (e : resStr = PySem.Str.ofString (String.ofList l)) (h : inB (l.map Char.toNat) p = b) :
    isRes resStr (PySem.Str.ofString " " ++ ω ++ PySem.Str.ofString " ") = b := by
  rw [isRes_eq, hp, e, PySem.W.Fast.ofString_ofList]
  exact h
theorem res_NAME : isRes resStr (PySem.Str.ofString " " ++ PySem.Str.ofString "NAME" ++ PySem.Str.ofString " ") = false := by
  obtain ⟨l, e, h, _⟩ := res_words
  exact isRes_list (by decide +kernel) e h
theorem res_SPACES : isRes resStr (PySem.Str.ofString " " ++ PySem.Str.ofString "SPACES" ++ PySem.Str.ofString " ") = true := by
  obtain ⟨l, e, _, h, _⟩ := res_words
  exact isRes_list (by decide +kernel) e h
theorem res_ALL : isRes resStr (PySem.Str.ofString " " ++ PySem.Str.ofString "ALL" ++ PySem.Str.ofString " ") = true := by
  obtain ⟨l, e, _, _, h, _⟩ := res_words
  exact isRes_list (by decide +kernel) e h
theorem res_HIGH : isRes resStr (PySem.Str.ofString " " ++ PySem.Str.ofString "HIGH-VALUE" ++ PySem.Str.ofString " ") = true := by
  obtain ⟨l, e, _, _, _, h⟩ := res_words
  exact isRes_list (by decide +kernel) e h
section
variable {w : World} {mean : ExcName → Option Value} {mg mb : PySem.Str → Option Value} {dp un : Nat} {gd : Option (List Code)} {cn : PySem.Str} {cs : Scope} {a : Addr} {ccd : Value} {cl : List (PySem.Str × Addr)} {outer : List Env} {A₀ : Around} {base h₀ : Heap} {L : Addr} {m : PySem.Str → Option Value} {news rest : List (Addr × Obj)} {s : Shared} {Q E : Value → Shared → Prop} {r dr tl nd : Addr} {t1 t2 t3 ti : Tok} {i : Int} {n : Nat} {vs : List Value} {toks : List (PySem.Str × PySem.Str)}
theorem is_sign1 (B : Below A₀ base outer h₀) (F : Fr h₀ L s.heap m) (X : (frag.heap_1 w.params).In h₀) (N : News h₀ L s.heap news) (T : Top (vG pG) (looseW (vG pG) ls) mean mg mb h₀) (hk : cs.kind = .function) (S : RS w rest r dr tl nd n vs toks) (hdr : (dr, RD w t1 t2 t3 tl i ti nd) ∈ news) (hsub : ∀ p ∈ rest, p ∈ news) {tk' : Tok} {κ ω sign : PySem.Str} {b : Bool} (hat : toks[i.toNat]? = some (κ, ω)) (h0 : 0 ≤ i) (hb : (κ == "sign" && ω == sign) = b)
    (hdp : dp + 3 < recursionLimit) (hun : un + 24 < cLine) (ret : ∀ h' tk', Fr h₀ L h' m → News h₀ L h' news → Q (.bool b) { s with heap := h', toks := tk' }) :
    wpAny (model PySem.Challenge.rw_pb0262_01.row.prog w) (ktrTop dp un gd cn cs L a ccd cl outer) (call (.ref 331) [.ref r, .str sign tk']) Q E s := by
  have hr := hsub _ S.hr
  obtain ⟨v, hv, t, d, p, u1, u2, u3, u4, u5, u6, v1, v2, z, rfl, ht, hd, hp⟩ := S.at_ _ _ _ hat
  have hik : i + 0 < vs.length := by have := (List.getElem?_eq_some_iff.mp hv).1; omega
  have ht' := hsub _ ht
  have hd' := hsub _ hd
  have e0 : i + 0 = i := Int.add_zero i
  have h00 : 0 ≤ i + 0 := by rw [e0]; exact h0
  have hv0 : vs[(i + 0).toNat]? = some (.ref t) := by rw [e0]; exact hv
  have hat0 : toks[(i + 0).toNat]? = some (κ, ω) := by rw [e0]; exact hat
  refine wpAny_call ?_
  k_dflt (refine' code_def (binds := [("self", .ref r), ("sign", .str sign tk'), ("ahead", .int 0 620)]) ?k1 ?k2 ?k3 ?k4 ?k5 ?kA ?kF ?kK ?k6 ?k7 ?k8 ?k9 ?kB ?_ ?c2 ?c3 ?c4 ?c5; (case kA => exact rfl); (case kF => exact rfl); (case kK => first | assumption | exact rfl); (case k1 => k_asm); (case k2 => k_asm); (case k3 => k_asm); (case k4 => k_asm); (case k5 => k_asm); (case k6 => k_is); (case k7 => k_is); (case k8 => ktr_room); (case k9 => first | exact BindsTo.of_eq rfl | exact binds_K (by k_in) rfl (by k_is) rfl rfl rfl); (case c5 => decide); (case kB => exact locs rfl); (case c2 => exact rfl); (case c3 => exact rfl); (case c4 => exact rfl); k_whole; intro g' L' h' FG' F' N' B' X' T'; (try dsimp only [List.reverse, List.reverseAux] at F'); (try dsimp only); (try k_fold))
  k_steps
  all_goals (refine end_b ret (by k_asm) (by (first | k_asm | (rename News _ _ _ _ => lN9; intro p9 hp9; exact lN9 p9 (by first | exact hp9 | (repeat (first | exact hp9 | refine List.mem_cons_of_mem _ ?_)))))) ?_; first | exact hb | (subst hb; simp [*]; done) | (subst hb; simp_all; done))
theorem is_reserved_c (B : Below A₀ base outer h₀) (F : Fr h₀ L s.heap m) (X : (frag.heap_1 w.params).In h₀) (N : News h₀ L s.heap news) (T : Top (vG pG) (looseW (vG pG) ls) mean mg mb h₀) (hk : cs.kind = .function) {tk' : Tok} {ω : PySem.Str} {b : Bool} (hω : ω.length ≤ 64) (hb : isRes resStr (PySem.Str.ofString " " ++ ω ++ PySem.Str.ofString " ") = b)
    (hdp : dp + 1 < recursionLimit) (hun : un + 8 < cLine) (ret : ∀ h' tk', Fr h₀ L h' m → News h₀ L h' news → Q (.bool b) { s with heap := h', toks := tk' }) :
    wpAny (model PySem.Challenge.rw_pb0262_01.row.prog w) (ktrTop dp un gd cn cs L a ccd cl outer) (call (.ref 209) [.str ω tk']) Q E s := by
  refine wpAny_call ?_
  k_dflt (refine' code_def (binds := [("word", .str ω tk')]) ?k1 ?k2 ?k3 ?k4 ?k5 ?kA ?kF ?kK ?k6 ?k7 ?k8 ?k9 ?kB ?_ ?c2 ?c3 ?c4 ?c5; (case kA => exact rfl); (case kF => exact rfl); (case kK => first | assumption | exact rfl); (case k1 => k_asm); (case k2 => k_asm); (case k3 => k_asm); (case k4 => k_asm); (case k5 => k_asm); (case k6 => k_is); (case k7 => k_is); (case k8 => ktr_room); (case k9 => first | exact BindsTo.of_eq rfl | exact binds_K (by k_in) rfl (by k_is) rfl rfl rfl); (case c5 => decide); (case kB => exact locs rfl); (case c2 => exact rfl); (case c3 => exact rfl); (case c4 => exact rfl); k_whole; intro g' L' h' FG' F' N' B' X' T'; (try dsimp only [List.reverse, List.reverseAux] at F'); (try dsimp only); (try k_fold))
  k_steps
  all_goals (refine end_b ret (by k_asm) (by k_asm) ?_; exact hb)
end
local macro_rules | `(tactic| walk_at "call ref") => `(tactic| (k_here; (with_reducible show wpAny _ _ (call (Value.ref 331) [_, _]) _ _ _); k_dflt (apply is_sign1; walk_at "U3")))
local macro_rules | `(tactic| walk_at "call ref") => `(tactic| (k_here; (show wpAny _ _ (call (Value.ref 209) _) _ _ _); k_dflt (apply is_reserved_c; walk_at "U4")))
/-- one of the seven words, in whatever form it is written -/
def Is7 (y x : PySem.Str) : Prop := y = x ∧ (x = PySem.Str.ofString "VALUE" ∨ x = PySem.Str.ofString "VALUES" ∨ x = PySem.Str.ofString "IS" ∨ x = PySem.Str.ofString "ARE" ∨ x = PySem.Str.ofString "THRU" ∨ x = PySem.Str.ofString "THROUGH" ∨ x = PySem.Str.ofString "ALL")
theorem is7_VALUE {y : PySem.Str} (h : y = PySem.Str.ofString "VALUE") : Is7 y (PySem.Str.ofString "VALUE") := ⟨h, .inl rfl⟩
theorem is7_VALUES {y : PySem.Str} (h : y = PySem.Str.ofString "VALUES") : Is7 y (PySem.Str.ofString "VALUES") := ⟨h, .inr (.inl rfl)⟩
theorem is7_IS {y : PySem.Str} (h : y = PySem.Str.ofString "IS") : Is7 y (PySem.Str.ofString "IS") := ⟨h, .inr (.inr (.inl rfl))⟩
theorem is7_ARE {y : PySem.Str} (h : y = PySem.Str.ofString "ARE") : Is7 y (PySem.Str.ofString "ARE") := ⟨h, .inr (.inr (.inr (.inl rfl)))⟩
theorem is7_THRU {y : PySem.Str} (h : y = PySem.Str.ofString "THRU") : Is7 y (PySem.Str.ofString "THRU") := ⟨h, .inr (.inr (.inr (.inr (.inl rfl))))⟩
theorem is7_THROUGH {y : PySem.Str} (h : y = PySem.Str.ofString "THROUGH") : Is7 y (PySem.Str.ofString "THROUGH") := ⟨h, .inr (.inr (.inr (.inr (.inr (.inl rfl)))))⟩
theorem is7_ALL {y : PySem.Str} (h : y = PySem.Str.ofString "ALL") : Is7 y (PySem.Str.ofString "ALL") := ⟨h, .inr (.inr (.inr (.inr (.inr (.inr (rfl))))))⟩
theorem Is7.parts {x y : PySem.Str} (h : Is7 y x) : Txt.split y (PySem.Str.ofString " ") = [y] ∧ y.length + 2 ≤ sizeLine := by
  obtain ⟨rfl, h⟩ := h
  rw [sizeLine_eq]
  rcases h with rfl | rfl | rfl | rfl | rfl | rfl | rfl <;> decide +kernel
local macro_rules | `(tactic| walk_at "call builtin:str.split") => `(tactic| (k_here; (have hsp9 := hsp); (refine KSpl.split1 (by k_asm) (by k_asm) (by decide) ?_ hsl); intro D' l' h' k' e' a' F' N' l1; (try k_lt l1); rw [hsp9] at e'; (obtain ⟨tS, lS, ksR, ksE⟩ := KSpl.cons_of e'); subst ksR; (have ksN := KSpl.nil_of ksE); subst ksN; (simp only [strValues, List.map_cons, List.map_nil] at N' a')))
local macro_rules | `(tactic| walk_at "W7") => `(tactic| first | assumption | exact is7_VALUE (by decide +kernel) | exact is7_VALUES (by decide +kernel) | exact is7_IS (by decide +kernel) | exact is7_ARE (by decide +kernel) | exact is7_THRU (by decide +kernel) | exact is7_THROUGH (by decide +kernel) | exact is7_ALL (by decide +kernel))
section
variable {w : World} {mean : ExcName → Option Value} {mg mb : PySem.Str → Option Value} {dp un : Nat} {gd : Option (List Code)} {cn : PySem.Str} {cs : Scope} {a : Addr} {ccd : Value} {cl : List (PySem.Str × Addr)} {outer : List Env} {A₀ : Around} {base h₀ : Heap} {L : Addr} {m : PySem.Str → Option Value} {news rest : List (Addr × Obj)} {s : Shared} {Q E : Value → Shared → Prop} {r dr tl nd : Addr} {t1 t2 t3 ti : Tok} {i : Int} {n : Nat} {vs : List Value} {toks : List (PySem.Str × PySem.Str)}
theorem is_word_g (B : Below A₀ base outer h₀) (F : Fr h₀ L s.heap m) (X : (frag.heap_1 w.params).In h₀) (N : News h₀ L s.heap news) (T : Top (vG pG) (looseW (vG pG) ls) mean mg mb h₀) (hk : cs.kind = .function) (S : RS w rest r dr tl nd n vs toks) (hdr : (dr, RD w t1 t2 t3 tl i ti nd) ∈ news) (hsub : ∀ p ∈ rest, p ∈ news) {tk' : Tok} {κ ω x y : PySem.Str} {b : Bool} (h7 : Is7 y x) (hat : toks[i.toNat]? = some (κ, ω)) (h0 : 0 ≤ i) (hb : (κ == "word" && ω == x) = b)
    (hdp : dp + 3 < recursionLimit) (hun : un + 24 < cLine) (ret : ∀ h' tk', Fr h₀ L h' m → News h₀ L h' news → Q (.bool b) { s with heap := h', toks := tk' }) :
    wpAny (model PySem.Challenge.rw_pb0262_01.row.prog w) (ktrTop dp un gd cn cs L a ccd cl outer) (call (.ref 273) [.ref r, .str y tk']) Q E s := by
  obtain ⟨hsp, hsl⟩ := h7.parts
  obtain ⟨rfl, _⟩ := h7
  have hr := hsub _ S.hr
  obtain ⟨v, hv, t, d, p, u1, u2, u3, u4, u5, u6, v1, v2, z, rfl, ht, hd, hp⟩ := S.at_ _ _ _ hat
  have hik : i + 0 < vs.length := by have := (List.getElem?_eq_some_iff.mp hv).1; omega
  have ht' := hsub _ ht
  have hd' := hsub _ hd
  have e0 : i + 0 = i := Int.add_zero i
  have h00 : 0 ≤ i + 0 := by rw [e0]; exact h0
  have hv0 : vs[(i + 0).toNat]? = some (.ref t) := by rw [e0]; exact hv
  have hat0 : toks[(i + 0).toNat]? = some (κ, ω) := by rw [e0]; exact hat
  refine wpAny_call ?_
  k_dflt (refine' code_def (binds := [("self", .ref r), ("words", .str y tk')]) ?k1 ?k2 ?k3 ?k4 ?k5 ?kA ?kF ?kK ?k6 ?k7 ?k8 ?k9 ?kB ?_ ?c2 ?c3 ?c4 ?c5; (case kA => exact rfl); (case kF => exact rfl); (case kK => first | assumption | exact rfl); (case k1 => k_asm); (case k2 => k_asm); (case k3 => k_asm); (case k4 => k_asm); (case k5 => k_asm); (case k6 => k_is); (case k7 => k_is); (case k8 => ktr_room); (case k9 => first | exact BindsTo.of_eq rfl | exact binds_K (by k_in) rfl (by k_is) rfl rfl rfl); (case c5 => decide); (case kB => exact locs rfl); (case c2 => exact rfl); (case c3 => exact rfl); (case c4 => exact rfl); k_whole; intro g' L' h' FG' F' N' B' X' T'; (try dsimp only [List.reverse, List.reverseAux] at F'); (try dsimp only); (try k_fold))
  k_steps
  all_goals (refine end_b ret (by k_asm) (by (first | k_asm | (rename News _ _ _ _ => lN9; intro p9 hp9; exact lN9 p9 (by first | exact hp9 | (repeat (first | exact hp9 | refine List.mem_cons_of_mem _ ?_)))))) ?_; first | exact hb | (subst hb; simp [*]; done) | (subst hb; simp_all; done))
end
local macro_rules | `(tactic| walk_at "call ref") => `(tactic| (k_here; (with_reducible show wpAny _ _ (call (Value.ref 273) _) _ _ _); k_dflt (apply is_word_g; walk_at "U5")))
section
variable {w : World} {mean : ExcName → Option Value} {mg mb : PySem.Str → Option Value} {dp un : Nat} {gd : Option (List Code)} {cn : PySem.Str} {cs : Scope} {a : Addr} {ccd : Value} {cl : List (PySem.Str × Addr)} {outer : List Env} {A₀ : Around} {base h₀ : Heap} {L : Addr} {m : PySem.Str → Option Value} {news rest : List (Addr × Obj)} {s : Shared} {Q E : Value → Shared → Prop} {r dr tl nd : Addr} {t1 t2 t3 ti : Tok} {i : Int} {n : Nat} {vs : List Value} {toks : List (PySem.Str × PySem.Str)}
theorem is_name1 (B : Below A₀ base outer h₀) (F : Fr h₀ L s.heap m) (X : (frag.heap_1 w.params).In h₀) (N : News h₀ L s.heap news) (T : Top (vG pG) (looseW (vG pG) ls) mean mg mb h₀) (hk : cs.kind = .function) (S : RS w rest r dr tl nd n vs toks) (hdr : (dr, RD w t1 t2 t3 tl i ti nd) ∈ news) (hsub : ∀ p ∈ rest, p ∈ news) {κ ω : PySem.Str} {b : Bool} (hat : toks[i.toNat]? = some (κ, ω)) (h0 : 0 ≤ i) (hω : ω.length ≤ 64) (hb : (κ == "word" && !isRes resStr (PySem.Str.ofString " " ++ ω ++ PySem.Str.ofString " ")) = b)
    (hdp : dp + 3 < recursionLimit) (hun : un + 24 < cLine) (ret : ∀ h' tk', Fr h₀ L h' m → News h₀ L h' news → Q (.bool b) { s with heap := h', toks := tk' }) :
    wpAny (model PySem.Challenge.rw_pb0262_01.row.prog w) (ktrTop dp un gd cn cs L a ccd cl outer) (call (.ref 309) [.ref r]) Q E s := by
  have hr := hsub _ S.hr
  obtain ⟨v, hv, t, d, p, u1, u2, u3, u4, u5, u6, v1, v2, z, rfl, ht, hd, hp⟩ := S.at_ _ _ _ hat
  have hik : i + 0 < vs.length := by have := (List.getElem?_eq_some_iff.mp hv).1; omega
  have ht' := hsub _ ht
  have hd' := hsub _ hd
  have e0 : i + 0 = i := Int.add_zero i
  have h00 : 0 ≤ i + 0 := by rw [e0]; exact h0
  have hv0 : vs[(i + 0).toNat]? = some (.ref t) := by rw [e0]; exact hv
  have hat0 : toks[(i + 0).toNat]? = some (κ, ω) := by rw [e0]; exact hat
  refine wpAny_call ?_
  k_dflt (refine' code_def (binds := [("self", .ref r), ("ahead", .int 0 597)]) ?k1 ?k2 ?k3 ?k4 ?k5 ?kA ?kF ?kK ?k6 ?k7 ?k8 ?k9 ?kB ?_ ?c2 ?c3 ?c4 ?c5; (case kA => exact rfl); (case kF => exact rfl); (case kK => first | assumption | exact rfl); (case k1 => k_asm); (case k2 => k_asm); (case k3 => k_asm); (case k4 => k_asm); (case k5 => k_asm); (case k6 => k_is); (case k7 => k_is); (case k8 => ktr_room); (case k9 => first | exact BindsTo.of_eq rfl | exact binds_K (by k_in) rfl (by k_is) rfl rfl rfl); (case c5 => decide); (case kB => exact locs rfl); (case c2 => exact rfl); (case c3 => exact rfl); (case c4 => exact rfl); k_whole; intro g' L' h' FG' F' N' B' X' T'; (try dsimp only [List.reverse, List.reverseAux] at F'); (try dsimp only); (try k_fold))
  k_steps
  all_goals (refine end_b ret (by k_asm) (by (first | k_asm | (rename News _ _ _ _ => lN9; intro p9 hp9; exact lN9 p9 (by first | exact hp9 | (repeat (first | exact hp9 | refine List.mem_cons_of_mem _ ?_)))))) ?_; first | exact hb | (subst hb; simp [*]; done) | (subst hb; simp_all; done))
end

local macro_rules | `(tactic| walk_at "call ref") => `(tactic| (k_here; (show wpAny _ _ (call (Value.ref 309) _) _ _ _); k_dflt (apply is_name1; walk_at "U6")))
theorem Upd.mem {d : Addr} {o o' : Obj} {l l' : List (Addr × Obj)} (h : Upd d o o' l l') : (d, o') ∈ l' := by
  induction h with
  | head _ => exact List.mem_cons_self ..
  | tail _ _ ih => exact List.mem_cons_of_mem _ ih
theorem Upd.sub {d : Addr} {o o' : Obj} {l l' : List (Addr × Obj)} (h : Upd d o o' l l') : ∀ {p : Addr × Obj}, p ∈ l → p.1 ≠ d → p ∈ l' := by
  induction h with
  | head _ =>
    intro p hp hd
    rcases List.mem_cons.mp hp with e | hp
    · rw [e] at hd; exact absurd rfl hd
    · exact List.mem_cons_of_mem _ hp
  | tail _ _ ih =>
    intro p hp hd
    rcases List.mem_cons.mp hp with e | hp
    · rw [e]; exact List.mem_cons_self ..
    · exact List.mem_cons_of_mem _ (ih hp hd)
theorem Upd.chain {d : Addr} {o o' o'' : Obj} {l l1 l2 : List (Addr × Obj)} (h : Upd d o o' l l1) (k : Upd d o o'' l l2) : Upd d o' o'' l1 l2 := by
  induction h generalizing l2 with
  | head hr =>
    cases k with
    | head _ => exact .head hr
    | tail hn _ => exact absurd rfl hn
  | tail hn _ ih =>
    cases k with
    | head _ => exact absurd rfl hn
    | tail _ k => exact .tail hn (ih k)
theorem lt_fact {D : Addr} {l : List (Addr × Obj)} {p : Addr × Obj} (h : ∀ p ∈ l, p.1 < D) (hp : p ∈ l) : p.1 < D := h p hp
local macro_rules | `(tactic| k_ne) => `(tactic| (refine neN ?_; (try dsimp only); first | exact Nat.ne_of_gt (lt_fact (p := (dr, _)) (by assumption) (by k_mem)) | exact Nat.ne_of_gt (l1' _ (by k_mem)) | exact Nat.ne_of_gt (allLt_mem (by assumption) hdr)))
local macro_rules | `(tactic| k_mem) => `(tactic| (first | exact Upd.mem (hU _ _) | exact Upd.sub (hU _ _) (hsub _ (by assumption)) (S.off _ (by assumption))))
local macro_rules | `(tactic| k_upd) => `(tactic| first | exact hU _ _ | exact Upd.chain (hU _ _) (hU _ _) | (refine' Upd.tail ?a ?b; (case a => k_ne); (case b => k_upd)))
section
variable {w : World} {mean : ExcName → Option Value} {mg mb : PySem.Str → Option Value} {dp un : Nat} {gd : Option (List Code)} {cn : PySem.Str} {cs : Scope} {a : Addr} {ccd : Value} {cl : List (PySem.Str × Addr)} {outer : List Env} {A₀ : Around} {base h₀ : Heap} {L : Addr} {m : PySem.Str → Option Value} {news rest : List (Addr × Obj)} {s : Shared} {Q E : Value → Shared → Prop} {r dr tl nd : Addr} {t1 t2 t3 ti : Tok} {i : Int} {n : Nat} {vs : List Value} {toks : List (PySem.Str × PySem.Str)} {nw : Int → Tok → List (Addr × Obj)}
theorem skip_miss (B : Below A₀ base outer h₀) (F : Fr h₀ L s.heap m) (X : (frag.heap_1 w.params).In h₀) (N : News h₀ L s.heap news) (T : Top (vG pG) (looseW (vG pG) ls) mean mg mb h₀) (hk : cs.kind = .function) (S : RS w rest r dr tl nd n vs toks) (hdr : (dr, RD w t1 t2 t3 tl i ti nd) ∈ news) (hsub : ∀ p ∈ rest, p ∈ news) {tk' : Tok} {κ ω x y : PySem.Str} (h7 : Is7 y x) (hat : toks[i.toNat]? = some (κ, ω)) (h0 : 0 ≤ i) (hm : (κ == "word" && ω == x) = false)
    (hdp : dp + 4 < recursionLimit) (hun : un + 32 < cLine) (ret : ∀ h' tk', Fr h₀ L h' m → News h₀ L h' news → Q (.bool false) { s with heap := h', toks := tk' }) :
    wpAny (model PySem.Challenge.rw_pb0262_01.row.prog w) (ktrTop dp un gd cn cs L a ccd cl outer) (call (.ref 280) [.ref r, .str y tk']) Q E s := by
  have hr0 := S.hr
  have hl0 := S.hl
  have hr := hsub _ S.hr
  have hl := hsub _ S.hl
  have hlen : vs.length < 1000 := by have := S.len; have := S.few; omega
  obtain ⟨v, hv, t, d, p, u1, u2, u3, u4, u5, u6, v1, v2, z, rfl, ht, hd, hp⟩ := S.at_ _ _ _ hat
  have hik : i + 0 < vs.length := by have := (List.getElem?_eq_some_iff.mp hv).1; omega
  have ht' := hsub _ ht
  have hd' := hsub _ hd
  refine wpAny_call ?_
  k_dflt (refine' code_def (binds := [("self", .ref r), ("words", .str y tk')]) ?k1 ?k2 ?k3 ?k4 ?k5 ?kA ?kF ?kK ?k6 ?k7 ?k8 ?k9 ?kB ?_ ?c2 ?c3 ?c4 ?c5; (case kA => exact rfl); (case kF => exact rfl); (case kK => first | assumption | exact rfl); (case k1 => k_asm); (case k2 => k_asm); (case k3 => k_asm); (case k4 => k_asm); (case k5 => k_asm); (case k6 => k_is); (case k7 => k_is); (case k8 => ktr_room); (case k9 => first | exact BindsTo.of_eq rfl | exact binds_K (by k_in) rfl (by k_is) rfl rfl rfl); (case c5 => decide); (case kB => exact locs rfl); (case c2 => exact rfl); (case c3 => exact rfl); (case c4 => exact rfl); k_whole; intro g' L' h' FG' F' N' B' X' T'; (try dsimp only [List.reverse, List.reverseAux] at F'); (try dsimp only); (try k_fold))
  k_steps
  all_goals (exact ret _ _ (by k_asm) (by (first | k_asm | (rename News _ _ _ _ => lN9; intro p9 hp9; exact lN9 p9 (by first | exact hp9 | (repeat (first | exact hp9 | refine List.mem_cons_of_mem _ ?_)))))))
theorem skip_hit (B : Below A₀ base outer h₀) (F : Fr h₀ L s.heap m) (X : (frag.heap_1 w.params).In h₀) (N : News h₀ L s.heap news) (T : Top (vG pG) (looseW (vG pG) ls) mean mg mb h₀) (hk : cs.kind = .function) (S : RS w rest r dr tl nd n vs toks) (hdr : (dr, RD w t1 t2 t3 tl i ti nd) ∈ news) (hsub : ∀ p ∈ rest, p ∈ news) (hU : ∀ j tj, Upd dr (RD w t1 t2 t3 tl i ti nd) (RD w t1 t2 t3 tl j tj nd) news (nw j tj)) {tk' : Tok} {x y : PySem.Str} (h7 : Is7 y x) (hat : toks[i.toNat]? = some (PySem.Str.ofString "word", x)) (h0 : 0 ≤ i)
    (hdp : dp + 4 < recursionLimit) (hun : un + 32 < cLine) (ret : ∀ h' tk' ti', Fr h₀ L h' m → News h₀ L h' (nw (i + 1) ti') → Q (.bool true) { s with heap := h', toks := tk' }) :
    wpAny (model PySem.Challenge.rw_pb0262_01.row.prog w) (ktrTop dp un gd cn cs L a ccd cl outer) (call (.ref 280) [.ref r, .str y tk']) Q E s := by
  obtain ⟨hsp, hsl⟩ := h7.parts
  have hr0 := S.hr
  have hl0 := S.hl
  have hr := hsub _ S.hr
  have hl := hsub _ S.hl
  have hlen : vs.length < 1000 := by have := S.len; have := S.few; omega
  obtain ⟨v, hv, t, d, p, u1, u2, u3, u4, u5, u6, v1, v2, z, rfl, ht, hd, hp⟩ := S.at_ _ _ _ hat
  have hik : i + 0 < vs.length := by have := (List.getElem?_eq_some_iff.mp hv).1; omega
  have ht' := hsub _ ht
  have hd' := hsub _ hd
  have hm : ((PySem.Str.ofString "word") == (PySem.Str.ofString "word") && x == x) = true := by rw [beq_self_eq_true, beq_self_eq_true]; rfl
  refine wpAny_call ?_
  k_dflt (refine' code_def (binds := [("self", .ref r), ("words", .str y tk')]) ?k1 ?k2 ?k3 ?k4 ?k5 ?kA ?kF ?kK ?k6 ?k7 ?k8 ?k9 ?kB ?_ ?c2 ?c3 ?c4 ?c5; (case kA => exact rfl); (case kF => exact rfl); (case kK => first | assumption | exact rfl); (case k1 => k_asm); (case k2 => k_asm); (case k3 => k_asm); (case k4 => k_asm); (case k5 => k_asm); (case k6 => k_is); (case k7 => k_is); (case k8 => ktr_room); (case k9 => first | exact BindsTo.of_eq rfl | exact binds_K (by k_in) rfl (by k_is) rfl rfl rfl); (case c5 => decide); (case kB => exact locs rfl); (case c2 => exact rfl); (case c3 => exact rfl); (case c4 => exact rfl); k_whole; intro g' L' h' FG' F' N' B' X' T'; (try dsimp only [List.reverse, List.reverseAux] at F'); (try dsimp only); (try k_fold))
  k_steps
  all_goals (exact ret _ _ _ (by k_asm) (by (first | k_asm | (rename News _ _ _ _ => lN9; intro p9 hp9; exact lN9 p9 (by first | exact hp9 | (repeat (first | exact hp9 | refine List.mem_cons_of_mem _ ?_)))))))
end

local macro_rules | `(tactic| walk_at "call ref") => `(tactic| (k_here; (with_reducible show wpAny _ _ (call (Value.ref 280) _) _ _ _); k_dflt (first | (apply skip_hit; walk_at "U8") | (apply skip_miss; walk_at "U7"))))
section
variable {w : World} {mean : ExcName → Option Value} {mg mb : PySem.Str → Option Value} {dp un : Nat} {gd : Option (List Code)} {cn : PySem.Str} {cs : Scope} {a : Addr} {ccd : Value} {cl : List (PySem.Str × Addr)} {outer : List Env} {A₀ : Around} {base h₀ : Heap} {L : Addr} {m : PySem.Str → Option Value} {news rest : List (Addr × Obj)} {s : Shared} {Q E : Value → Shared → Prop} {r dr tl nd : Addr} {t1 t2 t3 ti : Tok} {i : Int} {n : Nat} {vs : List Value} {toks : List (PySem.Str × PySem.Str)} {nw : Int → Tok → List (Addr × Obj)}
theorem one_of_VALUE (B : Below A₀ base outer h₀) (F : Fr h₀ L s.heap m) (X : (frag.heap_1 w.params).In h₀) (N : News h₀ L s.heap news) (T : Top (vG pG) (looseW (vG pG) ls) mean mg mb h₀) (hk : cs.kind = .function) (S : RS w rest r dr tl nd n vs toks) (hdr : (dr, RD w t1 t2 t3 tl i ti nd) ∈ news) (hsub : ∀ p ∈ rest, p ∈ news) (hU : ∀ j tj, Upd dr (RD w t1 t2 t3 tl i ti nd) (RD w t1 t2 t3 tl j tj nd) news (nw j tj)) {tk' : Tok} (hat : toks[i.toNat]? = some (PySem.Str.ofString "word", PySem.Str.ofString "VALUE")) (h0 : 0 ≤ i)
    (hdp : dp + 5 < recursionLimit) (hun : un + 40 < cLine) (ret : ∀ h' tk' ti' tv', Fr h₀ L h' m → News h₀ L h' (nw (i + 1) ti') → Q (.str ⟨#[86, 65, 76, 85, 69]⟩ tv') { s with heap := h', toks := tk' }) :
    wpAny (model PySem.Challenge.rw_pb0262_01.row.prog w) (ktrTop dp un gd cn cs L a ccd cl outer) (call (.ref 294) [.ref r, .str "VALUE VALUES" tk']) Q E s := by
  have hr0 := S.hr
  have hl0 := S.hl
  have hr := hsub _ S.hr
  have hl := hsub _ S.hl
  have hlen : vs.length < 1000 := by have := S.len; have := S.few; omega
  obtain ⟨v, hv, t, d, p, u1, u2, u3, u4, u5, u6, v1, v2, z, rfl, ht, hd, hp⟩ := S.at_ _ _ _ hat
  have hik : i + 0 < vs.length := by have := (List.getElem?_eq_some_iff.mp hv).1; omega
  have ht' := hsub _ ht
  have hd' := hsub _ hd
  refine wpAny_call ?_
  k_dflt (refine' code_def (binds := [("self", .ref r), ("words", .str "VALUE VALUES" tk')]) ?k1 ?k2 ?k3 ?k4 ?k5 ?kA ?kF ?kK ?k6 ?k7 ?k8 ?k9 ?kB ?_ ?c2 ?c3 ?c4 ?c5; (case kA => exact rfl); (case kF => exact rfl); (case kK => first | assumption | exact rfl); (case k1 => k_asm); (case k2 => k_asm); (case k3 => k_asm); (case k4 => k_asm); (case k5 => k_asm); (case k6 => k_is); (case k7 => k_is); (case k8 => ktr_room); (case k9 => first | exact BindsTo.of_eq rfl | exact binds_K (by k_in) rfl (by k_is) rfl rfl rfl); (case c5 => decide); (case kB => exact locs rfl); (case c2 => exact rfl); (case c3 => exact rfl); (case c4 => exact rfl); k_whole; intro g' L' h' FG' F' N' B' X' T'; (try dsimp only [List.reverse, List.reverseAux] at F'); (try dsimp only); (try k_fold))
  k_steps
  all_goals (exact ret _ _ _ _ (by k_asm) (by (first | k_asm | (rename News _ _ _ _ => lN9; intro p9 hp9; exact lN9 p9 (by first | exact hp9 | (repeat (first | exact hp9 | refine List.mem_cons_of_mem _ ?_)))))))
theorem one_of_VALUES (B : Below A₀ base outer h₀) (F : Fr h₀ L s.heap m) (X : (frag.heap_1 w.params).In h₀) (N : News h₀ L s.heap news) (T : Top (vG pG) (looseW (vG pG) ls) mean mg mb h₀) (hk : cs.kind = .function) (S : RS w rest r dr tl nd n vs toks) (hdr : (dr, RD w t1 t2 t3 tl i ti nd) ∈ news) (hsub : ∀ p ∈ rest, p ∈ news) (hU : ∀ j tj, Upd dr (RD w t1 t2 t3 tl i ti nd) (RD w t1 t2 t3 tl j tj nd) news (nw j tj)) {tk' : Tok} (hat : toks[i.toNat]? = some (PySem.Str.ofString "word", PySem.Str.ofString "VALUES")) (h0 : 0 ≤ i)
    (hdp : dp + 5 < recursionLimit) (hun : un + 40 < cLine) (ret : ∀ h' tk' ti' tv', Fr h₀ L h' m → News h₀ L h' (nw (i + 1) ti') → Q (.str ⟨#[86, 65, 76, 85, 69, 83]⟩ tv') { s with heap := h', toks := tk' }) :
    wpAny (model PySem.Challenge.rw_pb0262_01.row.prog w) (ktrTop dp un gd cn cs L a ccd cl outer) (call (.ref 294) [.ref r, .str "VALUE VALUES" tk']) Q E s := by
  have hr0 := S.hr
  have hl0 := S.hl
  have hr := hsub _ S.hr
  have hl := hsub _ S.hl
  have hlen : vs.length < 1000 := by have := S.len; have := S.few; omega
  obtain ⟨v, hv, t, d, p, u1, u2, u3, u4, u5, u6, v1, v2, z, rfl, ht, hd, hp⟩ := S.at_ _ _ _ hat
  have hik : i + 0 < vs.length := by have := (List.getElem?_eq_some_iff.mp hv).1; omega
  have ht' := hsub _ ht
  have hd' := hsub _ hd
  refine wpAny_call ?_
  k_dflt (refine' code_def (binds := [("self", .ref r), ("words", .str "VALUE VALUES" tk')]) ?k1 ?k2 ?k3 ?k4 ?k5 ?kA ?kF ?kK ?k6 ?k7 ?k8 ?k9 ?kB ?_ ?c2 ?c3 ?c4 ?c5; (case kA => exact rfl); (case kF => exact rfl); (case kK => first | assumption | exact rfl); (case k1 => k_asm); (case k2 => k_asm); (case k3 => k_asm); (case k4 => k_asm); (case k5 => k_asm); (case k6 => k_is); (case k7 => k_is); (case k8 => ktr_room); (case k9 => first | exact BindsTo.of_eq rfl | exact binds_K (by k_in) rfl (by k_is) rfl rfl rfl); (case c5 => decide); (case kB => exact locs rfl); (case c2 => exact rfl); (case c3 => exact rfl); (case c4 => exact rfl); k_whole; intro g' L' h' FG' F' N' B' X' T'; (try dsimp only [List.reverse, List.reverseAux] at F'); (try dsimp only); (try k_fold))
  k_steps
  all_goals (exact ret _ _ _ _ (by k_asm) (by (first | k_asm | (rename News _ _ _ _ => lN9; intro p9 hp9; exact lN9 p9 (by first | exact hp9 | (repeat (first | exact hp9 | refine List.mem_cons_of_mem _ ?_)))))))
theorem one_of_noVALUE (B : Below A₀ base outer h₀) (F : Fr h₀ L s.heap m) (X : (frag.heap_1 w.params).In h₀) (N : News h₀ L s.heap news) (T : Top (vG pG) (looseW (vG pG) ls) mean mg mb h₀) (hk : cs.kind = .function) (S : RS w rest r dr tl nd n vs toks) (hdr : (dr, RD w t1 t2 t3 tl i ti nd) ∈ news) (hsub : ∀ p ∈ rest, p ∈ news) {tk' : Tok} {κ ω : PySem.Str} (hat : toks[i.toNat]? = some (κ, ω)) (h0 : 0 ≤ i) (hm : (κ == "word" && ω == "VALUE") = false) (hm' : (κ == "word" && ω == "VALUES") = false)
    (hdp : dp + 5 < recursionLimit) (hun : un + 40 < cLine) (ret : ∀ h' tk' tv', Fr h₀ L h' m → News h₀ L h' news → Q (.str (PySem.Str.ofString "") tv') { s with heap := h', toks := tk' }) :
    wpAny (model PySem.Challenge.rw_pb0262_01.row.prog w) (ktrTop dp un gd cn cs L a ccd cl outer) (call (.ref 294) [.ref r, .str "VALUE VALUES" tk']) Q E s := by
  have hr0 := S.hr
  have hl0 := S.hl
  have hr := hsub _ S.hr
  have hl := hsub _ S.hl
  have hlen : vs.length < 1000 := by have := S.len; have := S.few; omega
  obtain ⟨v, hv, t, d, p, u1, u2, u3, u4, u5, u6, v1, v2, z, rfl, ht, hd, hp⟩ := S.at_ _ _ _ hat
  have hik : i + 0 < vs.length := by have := (List.getElem?_eq_some_iff.mp hv).1; omega
  have ht' := hsub _ ht
  have hd' := hsub _ hd
  refine wpAny_call ?_
  k_dflt (refine' code_def (binds := [("self", .ref r), ("words", .str "VALUE VALUES" tk')]) ?k1 ?k2 ?k3 ?k4 ?k5 ?kA ?kF ?kK ?k6 ?k7 ?k8 ?k9 ?kB ?_ ?c2 ?c3 ?c4 ?c5; (case kA => exact rfl); (case kF => exact rfl); (case kK => first | assumption | exact rfl); (case k1 => k_asm); (case k2 => k_asm); (case k3 => k_asm); (case k4 => k_asm); (case k5 => k_asm); (case k6 => k_is); (case k7 => k_is); (case k8 => ktr_room); (case k9 => first | exact BindsTo.of_eq rfl | exact binds_K (by k_in) rfl (by k_is) rfl rfl rfl); (case c5 => decide); (case kB => exact locs rfl); (case c2 => exact rfl); (case c3 => exact rfl); (case c4 => exact rfl); k_whole; intro g' L' h' FG' F' N' B' X' T'; (try dsimp only [List.reverse, List.reverseAux] at F'); (try dsimp only); (try k_fold))
  k_steps
  all_goals (exact ret _ _ _ (by k_asm) (by (first | k_asm | (rename News _ _ _ _ => lN9; intro p9 hp9; exact lN9 p9 (by first | exact hp9 | (repeat (first | exact hp9 | refine List.mem_cons_of_mem _ ?_)))))))
theorem one_of_IS (B : Below A₀ base outer h₀) (F : Fr h₀ L s.heap m) (X : (frag.heap_1 w.params).In h₀) (N : News h₀ L s.heap news) (T : Top (vG pG) (looseW (vG pG) ls) mean mg mb h₀) (hk : cs.kind = .function) (S : RS w rest r dr tl nd n vs toks) (hdr : (dr, RD w t1 t2 t3 tl i ti nd) ∈ news) (hsub : ∀ p ∈ rest, p ∈ news) (hU : ∀ j tj, Upd dr (RD w t1 t2 t3 tl i ti nd) (RD w t1 t2 t3 tl j tj nd) news (nw j tj)) {tk' : Tok} (hat : toks[i.toNat]? = some (PySem.Str.ofString "word", PySem.Str.ofString "IS")) (h0 : 0 ≤ i)
    (hdp : dp + 5 < recursionLimit) (hun : un + 40 < cLine) (ret : ∀ h' tk' ti' tv', Fr h₀ L h' m → News h₀ L h' (nw (i + 1) ti') → Q (.str ⟨#[73, 83]⟩ tv') { s with heap := h', toks := tk' }) :
    wpAny (model PySem.Challenge.rw_pb0262_01.row.prog w) (ktrTop dp un gd cn cs L a ccd cl outer) (call (.ref 294) [.ref r, .str "IS ARE" tk']) Q E s := by
  have hr0 := S.hr
  have hl0 := S.hl
  have hr := hsub _ S.hr
  have hl := hsub _ S.hl
  have hlen : vs.length < 1000 := by have := S.len; have := S.few; omega
  obtain ⟨v, hv, t, d, p, u1, u2, u3, u4, u5, u6, v1, v2, z, rfl, ht, hd, hp⟩ := S.at_ _ _ _ hat
  have hik : i + 0 < vs.length := by have := (List.getElem?_eq_some_iff.mp hv).1; omega
  have ht' := hsub _ ht
  have hd' := hsub _ hd
  refine wpAny_call ?_
  k_dflt (refine' code_def (binds := [("self", .ref r), ("words", .str "IS ARE" tk')]) ?k1 ?k2 ?k3 ?k4 ?k5 ?kA ?kF ?kK ?k6 ?k7 ?k8 ?k9 ?kB ?_ ?c2 ?c3 ?c4 ?c5; (case kA => exact rfl); (case kF => exact rfl); (case kK => first | assumption | exact rfl); (case k1 => k_asm); (case k2 => k_asm); (case k3 => k_asm); (case k4 => k_asm); (case k5 => k_asm); (case k6 => k_is); (case k7 => k_is); (case k8 => ktr_room); (case k9 => first | exact BindsTo.of_eq rfl | exact binds_K (by k_in) rfl (by k_is) rfl rfl rfl); (case c5 => decide); (case kB => exact locs rfl); (case c2 => exact rfl); (case c3 => exact rfl); (case c4 => exact rfl); k_whole; intro g' L' h' FG' F' N' B' X' T'; (try dsimp only [List.reverse, List.reverseAux] at F'); (try dsimp only); (try k_fold))
  k_steps
  all_goals (exact ret _ _ _ _ (by k_asm) (by (first | k_asm | (rename News _ _ _ _ => lN9; intro p9 hp9; exact lN9 p9 (by first | exact hp9 | (repeat (first | exact hp9 | refine List.mem_cons_of_mem _ ?_)))))))
theorem one_of_ARE (B : Below A₀ base outer h₀) (F : Fr h₀ L s.heap m) (X : (frag.heap_1 w.params).In h₀) (N : News h₀ L s.heap news) (T : Top (vG pG) (looseW (vG pG) ls) mean mg mb h₀) (hk : cs.kind = .function) (S : RS w rest r dr tl nd n vs toks) (hdr : (dr, RD w t1 t2 t3 tl i ti nd) ∈ news) (hsub : ∀ p ∈ rest, p ∈ news) (hU : ∀ j tj, Upd dr (RD w t1 t2 t3 tl i ti nd) (RD w t1 t2 t3 tl j tj nd) news (nw j tj)) {tk' : Tok} (hat : toks[i.toNat]? = some (PySem.Str.ofString "word", PySem.Str.ofString "ARE")) (h0 : 0 ≤ i)
    (hdp : dp + 5 < recursionLimit) (hun : un + 40 < cLine) (ret : ∀ h' tk' ti' tv', Fr h₀ L h' m → News h₀ L h' (nw (i + 1) ti') → Q (.str ⟨#[65, 82, 69]⟩ tv') { s with heap := h', toks := tk' }) :
    wpAny (model PySem.Challenge.rw_pb0262_01.row.prog w) (ktrTop dp un gd cn cs L a ccd cl outer) (call (.ref 294) [.ref r, .str "IS ARE" tk']) Q E s := by
  have hr0 := S.hr
  have hl0 := S.hl
  have hr := hsub _ S.hr
  have hl := hsub _ S.hl
  have hlen : vs.length < 1000 := by have := S.len; have := S.few; omega
  obtain ⟨v, hv, t, d, p, u1, u2, u3, u4, u5, u6, v1, v2, z, rfl, ht, hd, hp⟩ := S.at_ _ _ _ hat
  have hik : i + 0 < vs.length := by have := (List.getElem?_eq_some_iff.mp hv).1; omega
  have ht' := hsub _ ht
  have hd' := hsub _ hd
  refine wpAny_call ?_
  k_dflt (refine' code_def (binds := [("self", .ref r), ("words", .str "IS ARE" tk')]) ?k1 ?k2 ?k3 ?k4 ?k5 ?kA ?kF ?kK ?k6 ?k7 ?k8 ?k9 ?kB ?_ ?c2 ?c3 ?c4 ?c5; (case kA => exact rfl); (case kF => exact rfl); (case kK => first | assumption | exact rfl); (case k1 => k_asm); (case k2 => k_asm); (case k3 => k_asm); (case k4 => k_asm); (case k5 => k_asm); (case k6 => k_is); (case k7 => k_is); (case k8 => ktr_room); (case k9 => first | exact BindsTo.of_eq rfl | exact binds_K (by k_in) rfl (by k_is) rfl rfl rfl); (case c5 => decide); (case kB => exact locs rfl); (case c2 => exact rfl); (case c3 => exact rfl); (case c4 => exact rfl); k_whole; intro g' L' h' FG' F' N' B' X' T'; (try dsimp only [List.reverse, List.reverseAux] at F'); (try dsimp only); (try k_fold))
  k_steps
  all_goals (exact ret _ _ _ _ (by k_asm) (by (first | k_asm | (rename News _ _ _ _ => lN9; intro p9 hp9; exact lN9 p9 (by first | exact hp9 | (repeat (first | exact hp9 | refine List.mem_cons_of_mem _ ?_)))))))
theorem one_of_noIS (B : Below A₀ base outer h₀) (F : Fr h₀ L s.heap m) (X : (frag.heap_1 w.params).In h₀) (N : News h₀ L s.heap news) (T : Top (vG pG) (looseW (vG pG) ls) mean mg mb h₀) (hk : cs.kind = .function) (S : RS w rest r dr tl nd n vs toks) (hdr : (dr, RD w t1 t2 t3 tl i ti nd) ∈ news) (hsub : ∀ p ∈ rest, p ∈ news) {tk' : Tok} {κ ω : PySem.Str} (hat : toks[i.toNat]? = some (κ, ω)) (h0 : 0 ≤ i) (hm : (κ == "word" && ω == "IS") = false) (hm' : (κ == "word" && ω == "ARE") = false)
    (hdp : dp + 5 < recursionLimit) (hun : un + 40 < cLine) (ret : ∀ h' tk' tv', Fr h₀ L h' m → News h₀ L h' news → Q (.str (PySem.Str.ofString "") tv') { s with heap := h', toks := tk' }) :
    wpAny (model PySem.Challenge.rw_pb0262_01.row.prog w) (ktrTop dp un gd cn cs L a ccd cl outer) (call (.ref 294) [.ref r, .str "IS ARE" tk']) Q E s := by
  have hr0 := S.hr
  have hl0 := S.hl
  have hr := hsub _ S.hr
  have hl := hsub _ S.hl
  have hlen : vs.length < 1000 := by have := S.len; have := S.few; omega
  obtain ⟨v, hv, t, d, p, u1, u2, u3, u4, u5, u6, v1, v2, z, rfl, ht, hd, hp⟩ := S.at_ _ _ _ hat
  have hik : i + 0 < vs.length := by have := (List.getElem?_eq_some_iff.mp hv).1; omega
  have ht' := hsub _ ht
  have hd' := hsub _ hd
  refine wpAny_call ?_
  k_dflt (refine' code_def (binds := [("self", .ref r), ("words", .str "IS ARE" tk')]) ?k1 ?k2 ?k3 ?k4 ?k5 ?kA ?kF ?kK ?k6 ?k7 ?k8 ?k9 ?kB ?_ ?c2 ?c3 ?c4 ?c5; (case kA => exact rfl); (case kF => exact rfl); (case kK => first | assumption | exact rfl); (case k1 => k_asm); (case k2 => k_asm); (case k3 => k_asm); (case k4 => k_asm); (case k5 => k_asm); (case k6 => k_is); (case k7 => k_is); (case k8 => ktr_room); (case k9 => first | exact BindsTo.of_eq rfl | exact binds_K (by k_in) rfl (by k_is) rfl rfl rfl); (case c5 => decide); (case kB => exact locs rfl); (case c2 => exact rfl); (case c3 => exact rfl); (case c4 => exact rfl); k_whole; intro g' L' h' FG' F' N' B' X' T'; (try dsimp only [List.reverse, List.reverseAux] at F'); (try dsimp only); (try k_fold))
  k_steps
  all_goals (exact ret _ _ _ (by k_asm) (by (first | k_asm | (rename News _ _ _ _ => lN9; intro p9 hp9; exact lN9 p9 (by first | exact hp9 | (repeat (first | exact hp9 | refine List.mem_cons_of_mem _ ?_)))))))
theorem one_of_THRU (B : Below A₀ base outer h₀) (F : Fr h₀ L s.heap m) (X : (frag.heap_1 w.params).In h₀) (N : News h₀ L s.heap news) (T : Top (vG pG) (looseW (vG pG) ls) mean mg mb h₀) (hk : cs.kind = .function) (S : RS w rest r dr tl nd n vs toks) (hdr : (dr, RD w t1 t2 t3 tl i ti nd) ∈ news) (hsub : ∀ p ∈ rest, p ∈ news) (hU : ∀ j tj, Upd dr (RD w t1 t2 t3 tl i ti nd) (RD w t1 t2 t3 tl j tj nd) news (nw j tj)) {tk' : Tok} (hat : toks[i.toNat]? = some (PySem.Str.ofString "word", PySem.Str.ofString "THRU")) (h0 : 0 ≤ i)
    (hdp : dp + 5 < recursionLimit) (hun : un + 40 < cLine) (ret : ∀ h' tk' ti' tv', Fr h₀ L h' m → News h₀ L h' (nw (i + 1) ti') → Q (.str ⟨#[84, 72, 82, 85]⟩ tv') { s with heap := h', toks := tk' }) :
    wpAny (model PySem.Challenge.rw_pb0262_01.row.prog w) (ktrTop dp un gd cn cs L a ccd cl outer) (call (.ref 294) [.ref r, .str "THRU THROUGH" tk']) Q E s := by
  have hr0 := S.hr
  have hl0 := S.hl
  have hr := hsub _ S.hr
  have hl := hsub _ S.hl
  have hlen : vs.length < 1000 := by have := S.len; have := S.few; omega
  obtain ⟨v, hv, t, d, p, u1, u2, u3, u4, u5, u6, v1, v2, z, rfl, ht, hd, hp⟩ := S.at_ _ _ _ hat
  have hik : i + 0 < vs.length := by have := (List.getElem?_eq_some_iff.mp hv).1; omega
  have ht' := hsub _ ht
  have hd' := hsub _ hd
  refine wpAny_call ?_
  k_dflt (refine' code_def (binds := [("self", .ref r), ("words", .str "THRU THROUGH" tk')]) ?k1 ?k2 ?k3 ?k4 ?k5 ?kA ?kF ?kK ?k6 ?k7 ?k8 ?k9 ?kB ?_ ?c2 ?c3 ?c4 ?c5; (case kA => exact rfl); (case kF => exact rfl); (case kK => first | assumption | exact rfl); (case k1 => k_asm); (case k2 => k_asm); (case k3 => k_asm); (case k4 => k_asm); (case k5 => k_asm); (case k6 => k_is); (case k7 => k_is); (case k8 => ktr_room); (case k9 => first | exact BindsTo.of_eq rfl | exact binds_K (by k_in) rfl (by k_is) rfl rfl rfl); (case c5 => decide); (case kB => exact locs rfl); (case c2 => exact rfl); (case c3 => exact rfl); (case c4 => exact rfl); k_whole; intro g' L' h' FG' F' N' B' X' T'; (try dsimp only [List.reverse, List.reverseAux] at F'); (try dsimp only); (try k_fold))
  k_steps
  all_goals (exact ret _ _ _ _ (by k_asm) (by (first | k_asm | (rename News _ _ _ _ => lN9; intro p9 hp9; exact lN9 p9 (by first | exact hp9 | (repeat (first | exact hp9 | refine List.mem_cons_of_mem _ ?_)))))))
theorem one_of_THROUGH (B : Below A₀ base outer h₀) (F : Fr h₀ L s.heap m) (X : (frag.heap_1 w.params).In h₀) (N : News h₀ L s.heap news) (T : Top (vG pG) (looseW (vG pG) ls) mean mg mb h₀) (hk : cs.kind = .function) (S : RS w rest r dr tl nd n vs toks) (hdr : (dr, RD w t1 t2 t3 tl i ti nd) ∈ news) (hsub : ∀ p ∈ rest, p ∈ news) (hU : ∀ j tj, Upd dr (RD w t1 t2 t3 tl i ti nd) (RD w t1 t2 t3 tl j tj nd) news (nw j tj)) {tk' : Tok} (hat : toks[i.toNat]? = some (PySem.Str.ofString "word", PySem.Str.ofString "THROUGH")) (h0 : 0 ≤ i)
    (hdp : dp + 5 < recursionLimit) (hun : un + 40 < cLine) (ret : ∀ h' tk' ti' tv', Fr h₀ L h' m → News h₀ L h' (nw (i + 1) ti') → Q (.str ⟨#[84, 72, 82, 79, 85, 71, 72]⟩ tv') { s with heap := h', toks := tk' }) :
    wpAny (model PySem.Challenge.rw_pb0262_01.row.prog w) (ktrTop dp un gd cn cs L a ccd cl outer) (call (.ref 294) [.ref r, .str "THRU THROUGH" tk']) Q E s := by
  have hr0 := S.hr
  have hl0 := S.hl
  have hr := hsub _ S.hr
  have hl := hsub _ S.hl
  have hlen : vs.length < 1000 := by have := S.len; have := S.few; omega
  obtain ⟨v, hv, t, d, p, u1, u2, u3, u4, u5, u6, v1, v2, z, rfl, ht, hd, hp⟩ := S.at_ _ _ _ hat
  have hik : i + 0 < vs.length := by have := (List.getElem?_eq_some_iff.mp hv).1; omega
  have ht' := hsub _ ht
  have hd' := hsub _ hd
  refine wpAny_call ?_
  k_dflt (refine' code_def (binds := [("self", .ref r), ("words", .str "THRU THROUGH" tk')]) ?k1 ?k2 ?k3 ?k4 ?k5 ?kA ?kF ?kK ?k6 ?k7 ?k8 ?k9 ?kB ?_ ?c2 ?c3 ?c4 ?c5; (case kA => exact rfl); (case kF => exact rfl); (case kK => first | assumption | exact rfl); (case k1 => k_asm); (case k2 => k_asm); (case k3 => k_asm); (case k4 => k_asm); (case k5 => k_asm); (case k6 => k_is); (case k7 => k_is); (case k8 => ktr_room); (case k9 => first | exact BindsTo.of_eq rfl | exact binds_K (by k_in) rfl (by k_is) rfl rfl rfl); (case c5 => decide); (case kB => exact locs rfl); (case c2 => exact rfl); (case c3 => exact rfl); (case c4 => exact rfl); k_whole; intro g' L' h' FG' F' N' B' X' T'; (try dsimp only [List.reverse, List.reverseAux] at F'); (try dsimp only); (try k_fold))
  k_steps
  all_goals (exact ret _ _ _ _ (by k_asm) (by (first | k_asm | (rename News _ _ _ _ => lN9; intro p9 hp9; exact lN9 p9 (by first | exact hp9 | (repeat (first | exact hp9 | refine List.mem_cons_of_mem _ ?_)))))))
theorem one_of_noTHRU (B : Below A₀ base outer h₀) (F : Fr h₀ L s.heap m) (X : (frag.heap_1 w.params).In h₀) (N : News h₀ L s.heap news) (T : Top (vG pG) (looseW (vG pG) ls) mean mg mb h₀) (hk : cs.kind = .function) (S : RS w rest r dr tl nd n vs toks) (hdr : (dr, RD w t1 t2 t3 tl i ti nd) ∈ news) (hsub : ∀ p ∈ rest, p ∈ news) {tk' : Tok} {κ ω : PySem.Str} (hat : toks[i.toNat]? = some (κ, ω)) (h0 : 0 ≤ i) (hm : (κ == "word" && ω == "THRU") = false) (hm' : (κ == "word" && ω == "THROUGH") = false)
    (hdp : dp + 5 < recursionLimit) (hun : un + 40 < cLine) (ret : ∀ h' tk' tv', Fr h₀ L h' m → News h₀ L h' news → Q (.str (PySem.Str.ofString "") tv') { s with heap := h', toks := tk' }) :
    wpAny (model PySem.Challenge.rw_pb0262_01.row.prog w) (ktrTop dp un gd cn cs L a ccd cl outer) (call (.ref 294) [.ref r, .str "THRU THROUGH" tk']) Q E s := by
  have hr0 := S.hr
  have hl0 := S.hl
  have hr := hsub _ S.hr
  have hl := hsub _ S.hl
  have hlen : vs.length < 1000 := by have := S.len; have := S.few; omega
  obtain ⟨v, hv, t, d, p, u1, u2, u3, u4, u5, u6, v1, v2, z, rfl, ht, hd, hp⟩ := S.at_ _ _ _ hat
  have hik : i + 0 < vs.length := by have := (List.getElem?_eq_some_iff.mp hv).1; omega
  have ht' := hsub _ ht
  have hd' := hsub _ hd
  refine wpAny_call ?_
  k_dflt (refine' code_def (binds := [("self", .ref r), ("words", .str "THRU THROUGH" tk')]) ?k1 ?k2 ?k3 ?k4 ?k5 ?kA ?kF ?kK ?k6 ?k7 ?k8 ?k9 ?kB ?_ ?c2 ?c3 ?c4 ?c5; (case kA => exact rfl); (case kF => exact rfl); (case kK => first | assumption | exact rfl); (case k1 => k_asm); (case k2 => k_asm); (case k3 => k_asm); (case k4 => k_asm); (case k5 => k_asm); (case k6 => k_is); (case k7 => k_is); (case k8 => ktr_room); (case k9 => first | exact BindsTo.of_eq rfl | exact binds_K (by k_in) rfl (by k_is) rfl rfl rfl); (case c5 => decide); (case kB => exact locs rfl); (case c2 => exact rfl); (case c3 => exact rfl); (case c4 => exact rfl); k_whole; intro g' L' h' FG' F' N' B' X' T'; (try dsimp only [List.reverse, List.reverseAux] at F'); (try dsimp only); (try k_fold))
  k_steps
  all_goals (exact ret _ _ _ (by k_asm) (by (first | k_asm | (rename News _ _ _ _ => lN9; intro p9 hp9; exact lN9 p9 (by first | exact hp9 | (repeat (first | exact hp9 | refine List.mem_cons_of_mem _ ?_)))))))
end

local macro_rules | `(tactic| walk_at "call ref") => `(tactic| (k_here; (with_reducible show wpAny _ _ (call (Value.ref 294) [_, Value.str (PySem.Str.ofString "VALUE VALUES") _]) _ _ _); k_dflt (first | (apply one_of_noVALUE; walk_at "U10") | (apply one_of_VALUES; walk_at "U9") | (apply one_of_VALUE; walk_at "U9"))))
local macro_rules | `(tactic| walk_at "call ref") => `(tactic| (k_here; (with_reducible show wpAny _ _ (call (Value.ref 294) [_, Value.str (PySem.Str.ofString "IS ARE") _]) _ _ _); k_dflt (first | (apply one_of_noIS; walk_at "U10") | (apply one_of_ARE; walk_at "U9") | (apply one_of_IS; walk_at "U9"))))
local macro_rules | `(tactic| walk_at "call ref") => `(tactic| (k_here; (with_reducible show wpAny _ _ (call (Value.ref 294) [_, Value.str (PySem.Str.ofString "THRU THROUGH") _]) _ _ _); k_dflt (first | (apply one_of_noTHRU; walk_at "U10") | (apply one_of_THROUGH; walk_at "U9") | (apply one_of_THRU; walk_at "U9"))))
section
variable {w : World} {mean : ExcName → Option Value} {mg mb : PySem.Str → Option Value} {dp un : Nat} {gd : Option (List Code)} {cn : PySem.Str} {cs : Scope} {a : Addr} {ccd : Value} {cl : List (PySem.Str × Addr)} {outer : List Env} {A₀ : Around} {base h₀ : Heap} {L : Addr} {m : PySem.Str → Option Value} {news rest : List (Addr × Obj)} {s : Shared} {Q E : Value → Shared → Prop} {r dr tl nd : Addr} {t1 t2 t3 ti : Tok} {i : Int} {n : Nat} {vs : List Value} {toks : List (PySem.Str × PySem.Str)} {nw : Int → Tok → List (Addr × Obj)}
theorem skip_sign_miss (B : Below A₀ base outer h₀) (F : Fr h₀ L s.heap m) (X : (frag.heap_1 w.params).In h₀) (N : News h₀ L s.heap news) (T : Top (vG pG) (looseW (vG pG) ls) mean mg mb h₀) (hk : cs.kind = .function) (S : RS w rest r dr tl nd n vs toks) (hdr : (dr, RD w t1 t2 t3 tl i ti nd) ∈ news) (hsub : ∀ p ∈ rest, p ∈ news) {tk' : Tok} {κ ω sign : PySem.Str} (hat : toks[i.toNat]? = some (κ, ω)) (h0 : 0 ≤ i) (hm : (κ == "sign" && ω == sign) = false)
    (hdp : dp + 4 < recursionLimit) (hun : un + 32 < cLine) (ret : ∀ h' tk', Fr h₀ L h' m → News h₀ L h' news → Q (.bool false) { s with heap := h', toks := tk' }) :
    wpAny (model PySem.Challenge.rw_pb0262_01.row.prog w) (ktrTop dp un gd cn cs L a ccd cl outer) (call (.ref 338) [.ref r, .str sign tk']) Q E s := by
  have hr0 := S.hr
  have hl0 := S.hl
  have hr := hsub _ S.hr
  have hl := hsub _ S.hl
  have hlen : vs.length < 1000 := by have := S.len; have := S.few; omega
  obtain ⟨v, hv, t, d, p, u1, u2, u3, u4, u5, u6, v1, v2, z, rfl, ht, hd, hp⟩ := S.at_ _ _ _ hat
  have hik : i + 0 < vs.length := by have := (List.getElem?_eq_some_iff.mp hv).1; omega
  have ht' := hsub _ ht
  have hd' := hsub _ hd
  refine wpAny_call ?_
  k_dflt (refine' code_def (binds := [("self", .ref r), ("sign", .str sign tk')]) ?k1 ?k2 ?k3 ?k4 ?k5 ?kA ?kF ?kK ?k6 ?k7 ?k8 ?k9 ?kB ?_ ?c2 ?c3 ?c4 ?c5; (case kA => exact rfl); (case kF => exact rfl); (case kK => first | assumption | exact rfl); (case k1 => k_asm); (case k2 => k_asm); (case k3 => k_asm); (case k4 => k_asm); (case k5 => k_asm); (case k6 => k_is); (case k7 => k_is); (case k8 => ktr_room); (case k9 => first | exact BindsTo.of_eq rfl | exact binds_K (by k_in) rfl (by k_is) rfl rfl rfl); (case c5 => decide); (case kB => exact locs rfl); (case c2 => exact rfl); (case c3 => exact rfl); (case c4 => exact rfl); k_whole; intro g' L' h' FG' F' N' B' X' T'; (try dsimp only [List.reverse, List.reverseAux] at F'); (try dsimp only); (try k_fold))
  k_steps
  all_goals (exact ret _ _ (by k_asm) (by (first | k_asm | (rename News _ _ _ _ => lN9; intro p9 hp9; exact lN9 p9 (by first | exact hp9 | (repeat (first | exact hp9 | refine List.mem_cons_of_mem _ ?_)))))))
theorem skip_sign_hit (B : Below A₀ base outer h₀) (F : Fr h₀ L s.heap m) (X : (frag.heap_1 w.params).In h₀) (N : News h₀ L s.heap news) (T : Top (vG pG) (looseW (vG pG) ls) mean mg mb h₀) (hk : cs.kind = .function) (S : RS w rest r dr tl nd n vs toks) (hdr : (dr, RD w t1 t2 t3 tl i ti nd) ∈ news) (hsub : ∀ p ∈ rest, p ∈ news) (hU : ∀ j tj, Upd dr (RD w t1 t2 t3 tl i ti nd) (RD w t1 t2 t3 tl j tj nd) news (nw j tj)) {tk' : Tok} {κ ω sign : PySem.Str} (hat : toks[i.toNat]? = some (κ, ω)) (h0 : 0 ≤ i) (hm : (κ == "sign" && ω == sign) = true)
    (hdp : dp + 4 < recursionLimit) (hun : un + 32 < cLine) (ret : ∀ h' tk' ti', Fr h₀ L h' m → News h₀ L h' (nw (i + 1) ti') → Q (.bool true) { s with heap := h', toks := tk' }) :
    wpAny (model PySem.Challenge.rw_pb0262_01.row.prog w) (ktrTop dp un gd cn cs L a ccd cl outer) (call (.ref 338) [.ref r, .str sign tk']) Q E s := by
  have hr0 := S.hr
  have hl0 := S.hl
  have hr := hsub _ S.hr
  have hl := hsub _ S.hl
  have hlen : vs.length < 1000 := by have := S.len; have := S.few; omega
  obtain ⟨v, hv, t, d, p, u1, u2, u3, u4, u5, u6, v1, v2, z, rfl, ht, hd, hp⟩ := S.at_ _ _ _ hat
  have hik : i + 0 < vs.length := by have := (List.getElem?_eq_some_iff.mp hv).1; omega
  have ht' := hsub _ ht
  have hd' := hsub _ hd
  refine wpAny_call ?_
  k_dflt (refine' code_def (binds := [("self", .ref r), ("sign", .str sign tk')]) ?k1 ?k2 ?k3 ?k4 ?k5 ?kA ?kF ?kK ?k6 ?k7 ?k8 ?k9 ?kB ?_ ?c2 ?c3 ?c4 ?c5; (case kA => exact rfl); (case kF => exact rfl); (case kK => first | assumption | exact rfl); (case k1 => k_asm); (case k2 => k_asm); (case k3 => k_asm); (case k4 => k_asm); (case k5 => k_asm); (case k6 => k_is); (case k7 => k_is); (case k8 => ktr_room); (case k9 => first | exact BindsTo.of_eq rfl | exact binds_K (by k_in) rfl (by k_is) rfl rfl rfl); (case c5 => decide); (case kB => exact locs rfl); (case c2 => exact rfl); (case c3 => exact rfl); (case c4 => exact rfl); k_whole; intro g' L' h' FG' F' N' B' X' T'; (try dsimp only [List.reverse, List.reverseAux] at F'); (try dsimp only); (try k_fold))
  k_steps
  all_goals (exact ret _ _ _ (by k_asm) (by (first | k_asm | (rename News _ _ _ _ => lN9; intro p9 hp9; exact lN9 p9 (by first | exact hp9 | (repeat (first | exact hp9 | refine List.mem_cons_of_mem _ ?_)))))))
theorem take_c (B : Below A₀ base outer h₀) (F : Fr h₀ L s.heap m) (X : (frag.heap_1 w.params).In h₀) (N : News h₀ L s.heap news) (T : Top (vG pG) (looseW (vG pG) ls) mean mg mb h₀) (hk : cs.kind = .function) (S : RS w rest r dr tl nd n vs toks) (hdr : (dr, RD w t1 t2 t3 tl i ti nd) ∈ news) (hsub : ∀ p ∈ rest, p ∈ news) (hU : ∀ j tj, Upd dr (RD w t1 t2 t3 tl i ti nd) (RD w t1 t2 t3 tl j tj nd) news (nw j tj)) {t : Addr} (hv : vs[i.toNat]? = some (.ref t)) (h0 : 0 ≤ i)
    (hdp : dp + 3 < recursionLimit) (hun : un + 24 < cLine) (ret : ∀ h' tk' ti', Fr h₀ L h' m → News h₀ L h' (nw (i + 1) ti') → Q (.ref t) { s with heap := h', toks := tk' }) :
    wpAny (model PySem.Challenge.rw_pb0262_01.row.prog w) (ktrTop dp un gd cn cs L a ccd cl outer) (call (.ref 258) [.ref r]) Q E s := by
  have hr := hsub _ S.hr
  have hl := hsub _ S.hl
  have hlen : vs.length < 1000 := by have := S.len; have := S.few; omega
  have hik : i + 0 < vs.length := by have := (List.getElem?_eq_some_iff.mp hv).1; omega
  refine wpAny_call ?_
  k_dflt (refine' code_def (binds := [("self", .ref r)]) ?k1 ?k2 ?k3 ?k4 ?k5 ?kA ?kF ?kK ?k6 ?k7 ?k8 ?k9 ?kB ?_ ?c2 ?c3 ?c4 ?c5; (case kA => exact rfl); (case kF => exact rfl); (case kK => first | assumption | exact rfl); (case k1 => k_asm); (case k2 => k_asm); (case k3 => k_asm); (case k4 => k_asm); (case k5 => k_asm); (case k6 => k_is); (case k7 => k_is); (case k8 => ktr_room); (case k9 => first | exact BindsTo.of_eq rfl | exact binds_K (by k_in) rfl (by k_is) rfl rfl rfl); (case c5 => decide); (case kB => exact locs rfl); (case c2 => exact rfl); (case c3 => exact rfl); (case c4 => exact rfl); k_whole; intro g' L' h' FG' F' N' B' X' T'; (try dsimp only [List.reverse, List.reverseAux] at F'); (try dsimp only); (try k_fold))
  k_steps
  all_goals (exact ret _ _ _ (by k_asm) (by (first | k_asm | (rename News _ _ _ _ => lN9; intro p9 hp9; exact lN9 p9 (by first | exact hp9 | (repeat (first | exact hp9 | refine List.mem_cons_of_mem _ ?_)))))))
theorem is_number_a (B : Below A₀ base outer h₀) (F : Fr h₀ L s.heap m) (X : (frag.heap_1 w.params).In h₀) (N : News h₀ L s.heap news) (T : Top (vG pG) (looseW (vG pG) ls) mean mg mb h₀) (hk : cs.kind = .function) (S : RS w rest r dr tl nd n vs toks) (hdr : (dr, RD w t1 t2 t3 tl i ti nd) ∈ news) (hsub : ∀ p ∈ rest, p ∈ news) {κ ω : PySem.Str} {b : Bool} (hat : toks[i.toNat]? = some (κ, ω)) (h0 : 0 ≤ i) (hp : (κ == "sign" && ω == "+") = false) (hm : (κ == "sign" && ω == "-") = false) (hb : (κ == "number") = b)
    (hdp : dp + 4 < recursionLimit) (hun : un + 32 < cLine) (ret : ∀ h' tk', Fr h₀ L h' m → News h₀ L h' news → Q (.bool b) { s with heap := h', toks := tk' }) :
    wpAny (model PySem.Challenge.rw_pb0262_01.row.prog w) (ktrTop dp un gd cn cs L a ccd cl outer) (call (.ref 352) [.ref r]) Q E s := by
  have hr0 := S.hr
  have hl0 := S.hl
  have hr := hsub _ S.hr
  have hl := hsub _ S.hl
  have hlen : vs.length < 1000 := by have := S.len; have := S.few; omega
  obtain ⟨v, hv, t, d, p, u1, u2, u3, u4, u5, u6, v1, v2, z, rfl, ht, hd, hp⟩ := S.at_ _ _ _ hat
  have hik : i + 0 < vs.length := by have := (List.getElem?_eq_some_iff.mp hv).1; omega
  have ht' := hsub _ ht
  have hd' := hsub _ hd
  refine wpAny_call ?_
  k_dflt (refine' code_def (binds := [("self", .ref r)]) ?k1 ?k2 ?k3 ?k4 ?k5 ?kA ?kF ?kK ?k6 ?k7 ?k8 ?k9 ?kB ?_ ?c2 ?c3 ?c4 ?c5; (case kA => exact rfl); (case kF => exact rfl); (case kK => first | assumption | exact rfl); (case k1 => k_asm); (case k2 => k_asm); (case k3 => k_asm); (case k4 => k_asm); (case k5 => k_asm); (case k6 => k_is); (case k7 => k_is); (case k8 => ktr_room); (case k9 => first | exact BindsTo.of_eq rfl | exact binds_K (by k_in) rfl (by k_is) rfl rfl rfl); (case c5 => decide); (case kB => exact locs rfl); (case c2 => exact rfl); (case c3 => exact rfl); (case c4 => exact rfl); k_whole; intro g' L' h' FG' F' N' B' X' T'; (try dsimp only [List.reverse, List.reverseAux] at F'); (try dsimp only); (try k_fold))
  k_steps
  all_goals (refine end_b ret (by k_asm) (by (first | k_asm | (rename News _ _ _ _ => lN9; intro p9 hp9; exact lN9 p9 (by first | exact hp9 | (repeat (first | exact hp9 | refine List.mem_cons_of_mem _ ?_)))))) ?_; first | exact hb | (subst hb; simp [*]; done) | (subst hb; simp_all; done))
theorem is_number_p (B : Below A₀ base outer h₀) (F : Fr h₀ L s.heap m) (X : (frag.heap_1 w.params).In h₀) (N : News h₀ L s.heap news) (T : Top (vG pG) (looseW (vG pG) ls) mean mg mb h₀) (hk : cs.kind = .function) (S : RS w rest r dr tl nd n vs toks) (hdr : (dr, RD w t1 t2 t3 tl i ti nd) ∈ news) (hsub : ∀ p ∈ rest, p ∈ news) {κ ω : PySem.Str} {b : Bool} (hat : toks[i.toNat]? = some (PySem.Str.ofString "sign", PySem.Str.ofString "+")) (hat1 : toks[(i + 1).toNat]? = some (κ, ω)) (h0 : 0 ≤ i) (hb : (κ == "number") = b)
    (hdp : dp + 4 < recursionLimit) (hun : un + 32 < cLine) (ret : ∀ h' tk', Fr h₀ L h' m → News h₀ L h' news → Q (.bool b) { s with heap := h', toks := tk' }) :
    wpAny (model PySem.Challenge.rw_pb0262_01.row.prog w) (ktrTop dp un gd cn cs L a ccd cl outer) (call (.ref 352) [.ref r]) Q E s := by
  have hr0 := S.hr
  have hl0 := S.hl
  have hr := hsub _ S.hr
  have hl := hsub _ S.hl
  have hlen : vs.length < 1000 := by have := S.len; have := S.few; omega
  obtain ⟨v, hv, t, d, p, u1, u2, u3, u4, u5, u6, v1, v2, z, rfl, ht, hd, hp⟩ := S.at_ _ _ _ hat
  have hik : i + 0 < vs.length := by have := (List.getElem?_eq_some_iff.mp hv).1; omega
  have ht' := hsub _ ht
  have hd' := hsub _ hd
  have h01 : 0 ≤ i + 1 := by omega
  have hp : ((PySem.Str.ofString "sign") == (PySem.Str.ofString "sign") && (PySem.Str.ofString "+") == (PySem.Str.ofString "+")) = true := by decide +kernel
  refine wpAny_call ?_
  k_dflt (refine' code_def (binds := [("self", .ref r)]) ?k1 ?k2 ?k3 ?k4 ?k5 ?kA ?kF ?kK ?k6 ?k7 ?k8 ?k9 ?kB ?_ ?c2 ?c3 ?c4 ?c5; (case kA => exact rfl); (case kF => exact rfl); (case kK => first | assumption | exact rfl); (case k1 => k_asm); (case k2 => k_asm); (case k3 => k_asm); (case k4 => k_asm); (case k5 => k_asm); (case k6 => k_is); (case k7 => k_is); (case k8 => ktr_room); (case k9 => first | exact BindsTo.of_eq rfl | exact binds_K (by k_in) rfl (by k_is) rfl rfl rfl); (case c5 => decide); (case kB => exact locs rfl); (case c2 => exact rfl); (case c3 => exact rfl); (case c4 => exact rfl); k_whole; intro g' L' h' FG' F' N' B' X' T'; (try dsimp only [List.reverse, List.reverseAux] at F'); (try dsimp only); (try k_fold))
  k_steps
  all_goals (refine end_b ret (by k_asm) (by (first | k_asm | (rename News _ _ _ _ => lN9; intro p9 hp9; exact lN9 p9 (by first | exact hp9 | (repeat (first | exact hp9 | refine List.mem_cons_of_mem _ ?_)))))) ?_; first | exact hb | (subst hb; simp [*]; done) | (subst hb; simp_all; done))
theorem is_number_m (B : Below A₀ base outer h₀) (F : Fr h₀ L s.heap m) (X : (frag.heap_1 w.params).In h₀) (N : News h₀ L s.heap news) (T : Top (vG pG) (looseW (vG pG) ls) mean mg mb h₀) (hk : cs.kind = .function) (S : RS w rest r dr tl nd n vs toks) (hdr : (dr, RD w t1 t2 t3 tl i ti nd) ∈ news) (hsub : ∀ p ∈ rest, p ∈ news) {κ ω : PySem.Str} {b : Bool} (hat : toks[i.toNat]? = some (PySem.Str.ofString "sign", PySem.Str.ofString "-")) (hat1 : toks[(i + 1).toNat]? = some (κ, ω)) (h0 : 0 ≤ i) (hb : (κ == "number") = b)
    (hdp : dp + 4 < recursionLimit) (hun : un + 32 < cLine) (ret : ∀ h' tk', Fr h₀ L h' m → News h₀ L h' news → Q (.bool b) { s with heap := h', toks := tk' }) :
    wpAny (model PySem.Challenge.rw_pb0262_01.row.prog w) (ktrTop dp un gd cn cs L a ccd cl outer) (call (.ref 352) [.ref r]) Q E s := by
  have hr0 := S.hr
  have hl0 := S.hl
  have hr := hsub _ S.hr
  have hl := hsub _ S.hl
  have hlen : vs.length < 1000 := by have := S.len; have := S.few; omega
  obtain ⟨v, hv, t, d, p, u1, u2, u3, u4, u5, u6, v1, v2, z, rfl, ht, hd, hp⟩ := S.at_ _ _ _ hat
  have hik : i + 0 < vs.length := by have := (List.getElem?_eq_some_iff.mp hv).1; omega
  have ht' := hsub _ ht
  have hd' := hsub _ hd
  have h01 : 0 ≤ i + 1 := by omega
  have hp : ((PySem.Str.ofString "sign") == (PySem.Str.ofString "sign") && (PySem.Str.ofString "-") == (PySem.Str.ofString "+")) = false := by decide +kernel
  have hm : ((PySem.Str.ofString "sign") == (PySem.Str.ofString "sign") && (PySem.Str.ofString "-") == (PySem.Str.ofString "-")) = true := by decide +kernel
  refine wpAny_call ?_
  k_dflt (refine' code_def (binds := [("self", .ref r)]) ?k1 ?k2 ?k3 ?k4 ?k5 ?kA ?kF ?kK ?k6 ?k7 ?k8 ?k9 ?kB ?_ ?c2 ?c3 ?c4 ?c5; (case kA => exact rfl); (case kF => exact rfl); (case kK => first | assumption | exact rfl); (case k1 => k_asm); (case k2 => k_asm); (case k3 => k_asm); (case k4 => k_asm); (case k5 => k_asm); (case k6 => k_is); (case k7 => k_is); (case k8 => ktr_room); (case k9 => first | exact BindsTo.of_eq rfl | exact binds_K (by k_in) rfl (by k_is) rfl rfl rfl); (case c5 => decide); (case kB => exact locs rfl); (case c2 => exact rfl); (case c3 => exact rfl); (case c4 => exact rfl); k_whole; intro g' L' h' FG' F' N' B' X' T'; (try dsimp only [List.reverse, List.reverseAux] at F'); (try dsimp only); (try k_fold))
  k_steps
  all_goals (refine end_b ret (by k_asm) (by (first | k_asm | (rename News _ _ _ _ => lN9; intro p9 hp9; exact lN9 p9 (by first | exact hp9 | (repeat (first | exact hp9 | refine List.mem_cons_of_mem _ ?_)))))) ?_; first | exact hb | (subst hb; simp [*]; done) | (subst hb; simp_all; done))
end

local macro_rules | `(tactic| walk_at "call ref") => `(tactic| (k_here; (with_reducible show wpAny _ _ (call (Value.ref 338) _) _ _ _); k_dflt (first | (apply skip_sign_hit; walk_at "U12") | (apply skip_sign_miss; walk_at "U11"))))
local macro_rules | `(tactic| walk_at "call ref") => `(tactic| (k_here; (show wpAny _ _ (call (Value.ref 258) _) _ _ _); k_dflt (apply take_c; walk_at "U13")))
local macro_rules | `(tactic| walk_at "call ref") => `(tactic| (k_here; (show wpAny _ _ (call (Value.ref 352) _) _ _ _); k_dflt (first | (apply is_number_m; walk_at "U15") | (apply is_number_p; walk_at "U15") | (apply is_number_a; walk_at "U14"))))
local macro_rules | `(tactic| walk_at "compareOp NotIn str") => `(tactic| (k_here; ktx_write))
local macro_rules | `(tactic| walk_at "pyIter str") => `(tactic| (k_here; (with_reducible show wpAny _ _ (pyIter (Value.str _ _)) (fun it s₂ => LoopAtV _ _ _ _ _ _ _ _ _ it s₂) _ _); k_strUnr))
local macro_rules | `(tactic| walk_at "pyIter str") => `(tactic| (k_here; ktx_write))
local macro_rules | `(tactic| walk_at "exec For") => `(tactic| (k_here; (with_reducible show wpAny _ _ (exec (Stmt.For _ (PySem.Expr.Name _ _) _ [] _) _) _ _ _); (rename Fr _ _ _ _ => lF'); (with_unfolding_all refine' For_invVF lF' ?k1 ?k2 ?_; (case k1 => exact rfl); (case k2 => exact rfl); k_whole)))
local macro_rules | `(tactic| walk_at "call ref") => `(tactic| (k_here; (first | (with_reducible show wpAny _ _ (call (Value.ref 195) _) _ _ _) | (with_reducible show wpAny _ _ (call (Value.ref 160) _) _ _ _)); refine wpAny_call ?_; k_dflt k_caught0))
local macro_rules | `(tactic| walk_at "call ref") => `(tactic| (k_here; ktx_write))
local macro_rules | `(tactic| walk_at "call builtin:len") => `(tactic| (k_here; ktx_write))
theorem if_t {c : Prop} [Decidable c] {P Q : Prop} (hc : c) (h : P) : if c then P else Q := by rw [if_pos hc]; exact h
theorem if_f {c : Prop} [Decidable c] {P Q : Prop} (hc : ¬ c) (h : Q) : if c then P else Q := by rw [if_neg hc]; exact h
local macro_rules | `(tactic| walk_at "ite") => `(tactic| (k_here; first | (refine if_t (by decide +kernel) ?_) | (refine if_f (by decide +kernel) ?_)))
local macro_rules | `(tactic| walk_at "pyIter ref") => `(tactic| (k_here; exfalso; (rename ((_ : Int) = _) => q9); exact absurd q9 (by decide)))
theorem end_dec {h₀ h' : Heap} {L : Addr} {m : PySem.Str → Option Value} {news more : List (Addr × Obj)} {s : Shared} {Q : Value → Shared → Prop} {tk' : Nat} {D : Addr} {u1 u2 : Tok} {x y X Y : Int}
    (ret : ∀ h' tk' D u1 u2, Fr h₀ L h' m → News h₀ L h' ((D, tupOf [.int X u1, .int Y u2] 0) :: news) → (∀ p ∈ news, p.1 < D) → Q (.ref D) { s with heap := h', toks := tk' })
    (F : Fr h₀ L h' m) (N : News h₀ L h' ((D, tupOf [.int x u1, .int y u2] 0) :: more)) (sub : ∀ p ∈ news, p ∈ more) (lt : AllLt D more) (ex : x = X) (ey : y = Y) : Q (.ref D) { s with heap := h', toks := tk' } := by
  subst ex ey
  exact ret h' tk' D u1 u2 F (fun p hp => N p ((List.mem_cons.mp hp).elim (fun e => e ▸ List.mem_cons_self ..) fun hp => List.mem_cons_of_mem _ (sub p hp))) fun p hp => allLt_mem lt (sub p hp)
section
variable {w : World} {mean : ExcName → Option Value} {mg mb : PySem.Str → Option Value} {dp un : Nat} {gd : Option (List Code)} {cn : PySem.Str} {cs : Scope} {a : Addr} {ccd : Value} {cl : List (PySem.Str × Addr)} {outer : List Env} {A₀ : Around} {base h₀ : Heap} {L : Addr} {m : PySem.Str → Option Value} {news rest : List (Addr × Obj)} {s : Shared} {Q E : Value → Shared → Prop} {r dr tl nd : Addr} {t1 t2 t3 ti : Tok} {i : Int} {n : Nat} {vs : List Value} {toks : List (PySem.Str × PySem.Str)} {nw : Int → Tok → List (Addr × Obj)}
theorem dec_a (B : Below A₀ base outer h₀) (F : Fr h₀ L s.heap m) (X : (frag.heap_1 w.params).In h₀) (N : News h₀ L s.heap news) (T : Top (vG pG) (looseW (vG pG) ls) mean mg mb h₀) (hk : cs.kind = .function) {tk' : Tok}
    (hdp : dp + 3 < recursionLimit) (hun : un + 24 < cLine) (ret : ∀ h' tk' D u1 u2, Fr h₀ L h' m → News h₀ L h' ((D, tupOf [.int 5 u1, .int 0 u2] 0) :: news) → (∀ p ∈ news, p.1 < D) → Q (.ref D) { s with heap := h', toks := tk' }) :
    wpAny (model PySem.Challenge.rw_pb0262_01.row.prog w) (ktrTop dp un gd cn cs L a ccd cl outer) (call (.ref 202) [.str "5" tk']) Q E s := by
  refine wpAny_call ?_
  k_dflt (refine' code_def (binds := [("text", .str "5" tk')]) ?k1 ?k2 ?k3 ?k4 ?k5 ?kA ?kF ?kK ?k6 ?k7 ?k8 ?k9 ?kB ?_ ?c2 ?c3 ?c4 ?c5; (case kA => exact rfl); (case kF => exact rfl); (case kK => first | assumption | exact rfl); (case k1 => k_asm); (case k2 => k_asm); (case k3 => k_asm); (case k4 => k_asm); (case k5 => k_asm); (case k6 => k_is); (case k7 => k_is); (case k8 => ktr_room); (case k9 => first | exact BindsTo.of_eq rfl | exact binds_K (by k_in) rfl (by k_is) rfl rfl rfl); (case c5 => decide); (case kB => exact locs rfl); (case c2 => exact rfl); (case c3 => exact rfl); (case c4 => exact rfl); k_whole; intro g' L' h' FG' F' N' B' X' T'; (try dsimp only [List.reverse, List.reverseAux] at F'); (try dsimp only); (try k_fold))
  k_steps
  all_goals (first
    | (exfalso; rename (_ ∨ _) => q9; revert q9; decide +kernel)
    | (exfalso; rename (Txt.find _ _ = _) => q9; revert q9; decide +kernel)
    | (refine end_dec ret (by k_asm) (by k_asm) ?_ (by assumption) (by decide +kernel) (by decide +kernel); intro p9 hp9; repeat (first | exact hp9 | refine List.mem_cons_of_mem _ ?_)))
theorem dec_b (B : Below A₀ base outer h₀) (F : Fr h₀ L s.heap m) (X : (frag.heap_1 w.params).In h₀) (N : News h₀ L s.heap news) (T : Top (vG pG) (looseW (vG pG) ls) mean mg mb h₀) (hk : cs.kind = .function) {tk' : Tok}
    (hdp : dp + 3 < recursionLimit) (hun : un + 24 < cLine) (ret : ∀ h' tk' D u1 u2, Fr h₀ L h' m → News h₀ L h' ((D, tupOf [.int 25 u1, .int 1 u2] 0) :: news) → (∀ p ∈ news, p.1 < D) → Q (.ref D) { s with heap := h', toks := tk' }) :
    wpAny (model PySem.Challenge.rw_pb0262_01.row.prog w) (ktrTop dp un gd cn cs L a ccd cl outer) (call (.ref 202) [.str "2.50" tk']) Q E s := by
  refine wpAny_call ?_
  k_dflt (refine' code_def (binds := [("text", .str "2.50" tk')]) ?k1 ?k2 ?k3 ?k4 ?k5 ?kA ?kF ?kK ?k6 ?k7 ?k8 ?k9 ?kB ?_ ?c2 ?c3 ?c4 ?c5; (case kA => exact rfl); (case kF => exact rfl); (case kK => first | assumption | exact rfl); (case k1 => k_asm); (case k2 => k_asm); (case k3 => k_asm); (case k4 => k_asm); (case k5 => k_asm); (case k6 => k_is); (case k7 => k_is); (case k8 => ktr_room); (case k9 => first | exact BindsTo.of_eq rfl | exact binds_K (by k_in) rfl (by k_is) rfl rfl rfl); (case c5 => decide); (case kB => exact locs rfl); (case c2 => exact rfl); (case c3 => exact rfl); (case c4 => exact rfl); k_whole; intro g' L' h' FG' F' N' B' X' T'; (try dsimp only [List.reverse, List.reverseAux] at F'); (try dsimp only); (try k_fold))
  k_steps
  all_goals (first
    | (exfalso; rename (_ ∨ _) => q9; revert q9; decide +kernel)
    | (exfalso; rename (Txt.find _ _ = _) => q9; revert q9; decide +kernel)
    | (refine end_dec ret (by k_asm) (by k_asm) ?_ (by assumption) (by decide +kernel) (by decide +kernel); intro p9 hp9; repeat (first | exact hp9 | refine List.mem_cons_of_mem _ ?_)))
theorem dec_c (B : Below A₀ base outer h₀) (F : Fr h₀ L s.heap m) (X : (frag.heap_1 w.params).In h₀) (N : News h₀ L s.heap news) (T : Top (vG pG) (looseW (vG pG) ls) mean mg mb h₀) (hk : cs.kind = .function) {tk' : Tok}
    (hdp : dp + 3 < recursionLimit) (hun : un + 24 < cLine) (ret : ∀ h' tk' D u1 u2, Fr h₀ L h' m → News h₀ L h' ((D, tupOf [.int 7 u1, .int 0 u2] 0) :: news) → (∀ p ∈ news, p.1 < D) → Q (.ref D) { s with heap := h', toks := tk' }) :
    wpAny (model PySem.Challenge.rw_pb0262_01.row.prog w) (ktrTop dp un gd cn cs L a ccd cl outer) (call (.ref 202) [.str "007" tk']) Q E s := by
  refine wpAny_call ?_
  k_dflt (refine' code_def (binds := [("text", .str "007" tk')]) ?k1 ?k2 ?k3 ?k4 ?k5 ?kA ?kF ?kK ?k6 ?k7 ?k8 ?k9 ?kB ?_ ?c2 ?c3 ?c4 ?c5; (case kA => exact rfl); (case kF => exact rfl); (case kK => first | assumption | exact rfl); (case k1 => k_asm); (case k2 => k_asm); (case k3 => k_asm); (case k4 => k_asm); (case k5 => k_asm); (case k6 => k_is); (case k7 => k_is); (case k8 => ktr_room); (case k9 => first | exact BindsTo.of_eq rfl | exact binds_K (by k_in) rfl (by k_is) rfl rfl rfl); (case c5 => decide); (case kB => exact locs rfl); (case c2 => exact rfl); (case c3 => exact rfl); (case c4 => exact rfl); k_whole; intro g' L' h' FG' F' N' B' X' T'; (try dsimp only [List.reverse, List.reverseAux] at F'); (try dsimp only); (try k_fold))
  k_steps
  all_goals (first
    | (exfalso; rename (_ ∨ _) => q9; revert q9; decide +kernel)
    | (exfalso; rename (Txt.find _ _ = _) => q9; revert q9; decide +kernel)
    | (refine end_dec ret (by k_asm) (by k_asm) ?_ (by assumption) (by decide +kernel) (by decide +kernel); intro p9 hp9; repeat (first | exact hp9 | refine List.mem_cons_of_mem _ ?_)))
end

local macro_rules | `(tactic| walk_at "call ref") => `(tactic| (k_here; (with_reducible show wpAny _ _ (call (Value.ref 202) [Value.str (PySem.Str.ofString "5") _]) _ _ _); k_dflt (apply dec_a; walk_at "U16")))
local macro_rules | `(tactic| walk_at "call ref") => `(tactic| (k_here; (with_reducible show wpAny _ _ (call (Value.ref 202) [Value.str (PySem.Str.ofString "2.50") _]) _ _ _); k_dflt (apply dec_b; walk_at "U16")))
local macro_rules | `(tactic| walk_at "call ref") => `(tactic| (k_here; (with_reducible show wpAny _ _ (call (Value.ref 202) [Value.str (PySem.Str.ofString "007") _]) _ _ _); k_dflt (apply dec_c; walk_at "U16")))
theorem news_mid {h₀ h : Heap} {L D : Addr} {o : Obj} {more tgt : List (Addr × Obj)} (N : News h₀ L h ((D, o) :: more)) (sub : ∀ p ∈ tgt, p ∈ more) : News h₀ L h ((D, o) :: tgt) :=
  fun p hp => N p ((List.mem_cons.mp hp).elim (fun e => e ▸ List.mem_cons_self ..) fun hp => List.mem_cons_of_mem _ (sub p hp))
section
variable {w : World} {mean : ExcName → Option Value} {mg mb : PySem.Str → Option Value} {dp un : Nat} {gd : Option (List Code)} {cn : PySem.Str} {cs : Scope} {a : Addr} {ccd : Value} {cl : List (PySem.Str × Addr)} {outer : List Env} {A₀ : Around} {base h₀ : Heap} {L : Addr} {m : PySem.Str → Option Value} {news rest : List (Addr × Obj)} {s : Shared} {Q E : Value → Shared → Prop} {r dr tl nd : Addr} {t1 t2 t3 ti : Tok} {i : Int} {n : Nat} {vs : List Value} {toks : List (PySem.Str × PySem.Str)} {nw : Int → Tok → List (Addr × Obj)}
theorem neg_c (B : Below A₀ base outer h₀) (F : Fr h₀ L s.heap m) (X : (frag.heap_1 w.params).In h₀) (N : News h₀ L s.heap news) (T : Top (vG pG) (looseW (vG pG) ls) mean mg mb h₀) (hk : cs.kind = .function) {D : Addr} {u1 u2 : Tok} {x y : Int} {z : Nat} (hD : (D, tupOf [.int x u1, .int y u2] z) ∈ news)
    (hdp : dp + 1 < recursionLimit) (hun : un + 8 < cLine) (ret : ∀ h' tk' D u1 u2, Fr h₀ L h' m → News h₀ L h' ((D, tupOf [.int (-x) u1, .int y u2] 0) :: news) → (∀ p ∈ news, p.1 < D) → Q (.ref D) { s with heap := h', toks := tk' }) :
    wpAny (model PySem.Challenge.rw_pb0262_01.row.prog w) (ktrTop dp un gd cn cs L a ccd cl outer) (call (.ref 167) [.ref D]) Q E s := by
  refine wpAny_call ?_
  k_dflt (refine' code_def (binds := [("a", .ref D)]) ?k1 ?k2 ?k3 ?k4 ?k5 ?kA ?kF ?kK ?k6 ?k7 ?k8 ?k9 ?kB ?_ ?c2 ?c3 ?c4 ?c5; (case kA => exact rfl); (case kF => exact rfl); (case kK => first | assumption | exact rfl); (case k1 => k_asm); (case k2 => k_asm); (case k3 => k_asm); (case k4 => k_asm); (case k5 => k_asm); (case k6 => k_is); (case k7 => k_is); (case k8 => ktr_room); (case k9 => first | exact BindsTo.of_eq rfl | exact binds_K (by k_in) rfl (by k_is) rfl rfl rfl); (case c5 => decide); (case kB => exact locs rfl); (case c2 => exact rfl); (case c3 => exact rfl); (case c4 => exact rfl); k_whole; intro g' L' h' FG' F' N' B' X' T'; (try dsimp only [List.reverse, List.reverseAux] at F'); (try dsimp only); (try k_fold))
  k_steps
  all_goals exact ret _ _ _ _ _ (by k_asm) (by k_asm) (by assumption)
end
local macro_rules | `(tactic| walk_at "call ref") => `(tactic| (k_here; (show wpAny _ _ (call (Value.ref 167) _) _ _ _); k_dflt (apply neg_c; walk_at "U17")))
section
variable {w : World} {mean : ExcName → Option Value} {mg mb : PySem.Str → Option Value} {dp un : Nat} {gd : Option (List Code)} {cn : PySem.Str} {cs : Scope} {a : Addr} {ccd : Value} {cl : List (PySem.Str × Addr)} {outer : List Env} {A₀ : Around} {base h₀ : Heap} {L : Addr} {m : PySem.Str → Option Value} {news rest : List (Addr × Obj)} {s : Shared} {Q E : Value → Shared → Prop} {r dr tl nd : Addr} {t1 t2 t3 ti : Tok} {i : Int} {n : Nat} {vs : List Value} {toks : List (PySem.Str × PySem.Str)} {nw : Int → Tok → List (Addr × Obj)}
theorem signed_a (B : Below A₀ base outer h₀) (F : Fr h₀ L s.heap m) (X : (frag.heap_1 w.params).In h₀) (N : News h₀ L s.heap news) (T : Top (vG pG) (looseW (vG pG) ls) mean mg mb h₀) (hk : cs.kind = .function) (S : RS w rest r dr tl nd n vs toks) (hdr : (dr, RD w t1 t2 t3 tl i ti nd) ∈ news) (hsub : ∀ p ∈ rest, p ∈ news) (hU : ∀ j tj, Upd dr (RD w t1 t2 t3 tl i ti nd) (RD w t1 t2 t3 tl j tj nd) news (nw j tj)) (hat : toks[i.toNat]? = some (PySem.Str.ofString "number", PySem.Str.ofString "5")) (h0 : 0 ≤ i)
    (hdp : dp + 5 < recursionLimit) (hun : un + 40 < cLine) (ret : ∀ h' tk' ti' D u1 u2, Fr h₀ L h' m → News h₀ L h' ((D, tupOf [.int 5 u1, .int 0 u2] 0) :: nw (i + 1) ti') → (∀ p ∈ nw (i + 1) ti', p.1 < D) → Q (.ref D) { s with heap := h', toks := tk' }) :
    wpAny (model PySem.Challenge.rw_pb0262_01.row.prog w) (ktrTop dp un gd cn cs L a ccd cl outer) (call (.ref 359) [.ref r]) Q E s := by
  have hr0 := S.hr
  have hl0 := S.hl
  have hr := hsub _ S.hr
  have hl := hsub _ S.hl
  have hlen : vs.length < 1000 := by have := S.len; have := S.few; omega
  obtain ⟨v, hv, t, d, p, u1, u2, u3, u4, u5, u6, v1, v2, z, rfl, ht, hd, hp⟩ := S.at_ _ _ _ hat
  have hik : i + 0 < vs.length := by have := (List.getElem?_eq_some_iff.mp hv).1; omega
  have ht' := hsub _ ht
  have hd' := hsub _ hd
  refine wpAny_call ?_
  k_dflt (refine' code_def (binds := [("self", .ref r)]) ?k1 ?k2 ?k3 ?k4 ?k5 ?kA ?kF ?kK ?k6 ?k7 ?k8 ?k9 ?kB ?_ ?c2 ?c3 ?c4 ?c5; (case kA => exact rfl); (case kF => exact rfl); (case kK => first | assumption | exact rfl); (case k1 => k_asm); (case k2 => k_asm); (case k3 => k_asm); (case k4 => k_asm); (case k5 => k_asm); (case k6 => k_is); (case k7 => k_is); (case k8 => ktr_room); (case k9 => first | exact BindsTo.of_eq rfl | exact binds_K (by k_in) rfl (by k_is) rfl rfl rfl); (case c5 => decide); (case kB => exact locs rfl); (case c2 => exact rfl); (case c3 => exact rfl); (case c4 => exact rfl); k_whole; intro g' L' h' FG' F' N' B' X' T'; (try dsimp only [List.reverse, List.reverseAux] at F'); (try dsimp only); (try k_fold))
  k_steps
  all_goals exact ret _ _ _ _ _ _ (by k_asm) (by k_asm) (by assumption)
theorem signed_b (B : Below A₀ base outer h₀) (F : Fr h₀ L s.heap m) (X : (frag.heap_1 w.params).In h₀) (N : News h₀ L s.heap news) (T : Top (vG pG) (looseW (vG pG) ls) mean mg mb h₀) (hk : cs.kind = .function) (S : RS w rest r dr tl nd n vs toks) (hdr : (dr, RD w t1 t2 t3 tl i ti nd) ∈ news) (hsub : ∀ p ∈ rest, p ∈ news) (hU : ∀ j tj, Upd dr (RD w t1 t2 t3 tl i ti nd) (RD w t1 t2 t3 tl j tj nd) news (nw j tj)) (hat : toks[i.toNat]? = some (PySem.Str.ofString "sign", PySem.Str.ofString "-")) (hat1 : toks[(i + 1).toNat]? = some (PySem.Str.ofString "number", PySem.Str.ofString "2.50")) (h0 : 0 ≤ i)
    (hdp : dp + 5 < recursionLimit) (hun : un + 40 < cLine) (ret : ∀ h' tk' ti' D u1 u2, Fr h₀ L h' m → News h₀ L h' ((D, tupOf [.int (-25) u1, .int 1 u2] 0) :: nw (i + 1 + 1) ti') → (∀ p ∈ nw (i + 1 + 1) ti', p.1 < D) → Q (.ref D) { s with heap := h', toks := tk' }) :
    wpAny (model PySem.Challenge.rw_pb0262_01.row.prog w) (ktrTop dp un gd cn cs L a ccd cl outer) (call (.ref 359) [.ref r]) Q E s := by
  have hr0 := S.hr
  have hl0 := S.hl
  have hr := hsub _ S.hr
  have hl := hsub _ S.hl
  have hlen : vs.length < 1000 := by have := S.len; have := S.few; omega
  obtain ⟨v, hv, t, d, p, u1, u2, u3, u4, u5, u6, v1, v2, z, rfl, ht, hd, hp⟩ := S.at_ _ _ _ hat
  have hik : i + 0 < vs.length := by have := (List.getElem?_eq_some_iff.mp hv).1; omega
  have ht' := hsub _ ht
  have hd' := hsub _ hd
  obtain ⟨vB, hvB, tB, dB, pB, w1, w2, w3, w4, w5, w6, x1, x2, zB, rfl, htB, hdB, hpB⟩ := S.at_ _ _ _ hat1
  have htB' := hsub _ htB
  have hdB' := hsub _ hdB
  have h01 : 0 ≤ i + 1 := by omega
  have hikB : i + 1 < vs.length := by have := (List.getElem?_eq_some_iff.mp hvB).1; omega
  refine wpAny_call ?_
  k_dflt (refine' code_def (binds := [("self", .ref r)]) ?k1 ?k2 ?k3 ?k4 ?k5 ?kA ?kF ?kK ?k6 ?k7 ?k8 ?k9 ?kB ?_ ?c2 ?c3 ?c4 ?c5; (case kA => exact rfl); (case kF => exact rfl); (case kK => first | assumption | exact rfl); (case k1 => k_asm); (case k2 => k_asm); (case k3 => k_asm); (case k4 => k_asm); (case k5 => k_asm); (case k6 => k_is); (case k7 => k_is); (case k8 => ktr_room); (case k9 => first | exact BindsTo.of_eq rfl | exact binds_K (by k_in) rfl (by k_is) rfl rfl rfl); (case c5 => decide); (case kB => exact locs rfl); (case c2 => exact rfl); (case c3 => exact rfl); (case c4 => exact rfl); k_whole; intro g' L' h' FG' F' N' B' X' T'; (try dsimp only [List.reverse, List.reverseAux] at F'); (try dsimp only); (try k_fold))
  k_steps
  all_goals (rename News _ _ _ _ => lN9; exact ret _ _ _ _ _ _ (by k_asm) (news_mid lN9 (fun p hp => List.mem_cons_of_mem _ hp)) (fun p hp => l9 p (List.mem_cons_of_mem _ hp)))
theorem signed_c (B : Below A₀ base outer h₀) (F : Fr h₀ L s.heap m) (X : (frag.heap_1 w.params).In h₀) (N : News h₀ L s.heap news) (T : Top (vG pG) (looseW (vG pG) ls) mean mg mb h₀) (hk : cs.kind = .function) (S : RS w rest r dr tl nd n vs toks) (hdr : (dr, RD w t1 t2 t3 tl i ti nd) ∈ news) (hsub : ∀ p ∈ rest, p ∈ news) (hU : ∀ j tj, Upd dr (RD w t1 t2 t3 tl i ti nd) (RD w t1 t2 t3 tl j tj nd) news (nw j tj)) (hat : toks[i.toNat]? = some (PySem.Str.ofString "sign", PySem.Str.ofString "+")) (hat1 : toks[(i + 1).toNat]? = some (PySem.Str.ofString "number", PySem.Str.ofString "007")) (h0 : 0 ≤ i)
    (hdp : dp + 5 < recursionLimit) (hun : un + 40 < cLine) (ret : ∀ h' tk' ti' D u1 u2, Fr h₀ L h' m → News h₀ L h' ((D, tupOf [.int 7 u1, .int 0 u2] 0) :: nw (i + 1 + 1) ti') → (∀ p ∈ nw (i + 1 + 1) ti', p.1 < D) → Q (.ref D) { s with heap := h', toks := tk' }) :
    wpAny (model PySem.Challenge.rw_pb0262_01.row.prog w) (ktrTop dp un gd cn cs L a ccd cl outer) (call (.ref 359) [.ref r]) Q E s := by
  have hr0 := S.hr
  have hl0 := S.hl
  have hr := hsub _ S.hr
  have hl := hsub _ S.hl
  have hlen : vs.length < 1000 := by have := S.len; have := S.few; omega
  obtain ⟨v, hv, t, d, p, u1, u2, u3, u4, u5, u6, v1, v2, z, rfl, ht, hd, hp⟩ := S.at_ _ _ _ hat
  have hik : i + 0 < vs.length := by have := (List.getElem?_eq_some_iff.mp hv).1; omega
  have ht' := hsub _ ht
  have hd' := hsub _ hd
  obtain ⟨vB, hvB, tB, dB, pB, w1, w2, w3, w4, w5, w6, x1, x2, zB, rfl, htB, hdB, hpB⟩ := S.at_ _ _ _ hat1
  have htB' := hsub _ htB
  have hdB' := hsub _ hdB
  have h01 : 0 ≤ i + 1 := by omega
  have hikB : i + 1 < vs.length := by have := (List.getElem?_eq_some_iff.mp hvB).1; omega
  refine wpAny_call ?_
  k_dflt (refine' code_def (binds := [("self", .ref r)]) ?k1 ?k2 ?k3 ?k4 ?k5 ?kA ?kF ?kK ?k6 ?k7 ?k8 ?k9 ?kB ?_ ?c2 ?c3 ?c4 ?c5; (case kA => exact rfl); (case kF => exact rfl); (case kK => first | assumption | exact rfl); (case k1 => k_asm); (case k2 => k_asm); (case k3 => k_asm); (case k4 => k_asm); (case k5 => k_asm); (case k6 => k_is); (case k7 => k_is); (case k8 => ktr_room); (case k9 => first | exact BindsTo.of_eq rfl | exact binds_K (by k_in) rfl (by k_is) rfl rfl rfl); (case c5 => decide); (case kB => exact locs rfl); (case c2 => exact rfl); (case c3 => exact rfl); (case c4 => exact rfl); k_whole; intro g' L' h' FG' F' N' B' X' T'; (try dsimp only [List.reverse, List.reverseAux] at F'); (try dsimp only); (try k_fold))
  k_steps
  all_goals exact ret _ _ _ _ _ _ (by k_asm) (by k_asm) (by assumption)
end

theorem call_gf {prog : Program} {w : World} {A : Around} {E : Value → Shared → Prop} {s : Shared} {h₀ : Heap} {L : Addr} {m : PySem.Str → Option Value} {news : List (Addr × Obj)} {rest : List Value} {Q : Value → Shared → Prop}
    (F : Fr h₀ L s.heap m) (X₀ : (frag.heap_1 w.params).In h₀) (N : News h₀ L s.heap news) (hrest : rest.length ≤ 2)
    (k : ∀ e t h', Fr h₀ L h' m → News h₀ L h' ((e, excObj none t) :: (t, tupObj rest) :: news) → (∀ p ∈ news, p.1 < t) → t < e →
      codeAny (model prog w) (A.under (.builtin "type.__call__" ⟨.ref 143 :: rest, []⟩)) (.call (.ref 108) ⟨.ref e :: rest, []⟩) (InitBack e fun r s' => match r with | .ok (.ret v) => Q v s' | .ok _ => False | .error e => E e s') { s with heap := h' }) :
    wpAny (model prog w) A (call (.ref 143) rest) Q E s :=
  make_gf F N (X₀.keeps F.keep) (by rw [sizeLine_eq]; omega) fun e t h' F' N' l1 l2 => wpAny_call (codeAny_mono (k e t h' F' N' l1 l2) fun r s' z => by
    rcases r with e | (v | _ | _ | _) <;> first | exact z | exact z.elim)
local macro_rules | `(tactic| walk_at "call ref") => `(tactic| (k_here; (with_reducible show wpAny _ _ (call (Value.ref 143) _) _ _ _); k_dflt (refine' call_gf ?k1 ?k2 ?k3 ?kz ?_; walk_at "Z1"; (case kz => exact Nat.le_of_ble_eq_true rfl); k_whole); intro e9 t9 h' F' N' l1 l2; (try k_lt l1); (try k_lt2 l2); (try k_sweep); k_dflt k_caught0))
theorem truthy_mem {prog : Program} {w : World} {A : Around} {E : Value → Shared → Prop} {s : Shared} {h₀ : Heap} {L tl : Addr} {news : List (Addr × Obj)} {vs : List Value} {n : Nat} {Q : Bool → Shared → Prop}
    (N : News h₀ L s.heap news) (hm : (tl, listOf vs.toArray n) ∈ news) (hlen : vs.length < 1000) (h0 : 0 < vs.length) (h : Q true { s with toks := s.toks + 1 + 1 }) : wpAny (model prog w) A (truthy (.ref tl)) Q E s :=
  wpAny_truthy_list (N.isList hm) (by rw [List.size_toArray]; omega) (by
    have e : (!vs.toArray.isEmpty) = true := by
      cases vs with
      | nil => exact absurd h0 (Nat.lt_irrefl _)
      | cons _ _ => rfl
    rw [e]; exact h)
local macro_rules | `(tactic| walk_at "truthy ref") => `(tactic| (k_here; (with_reducible show wpAny _ _ (truthy (Value.ref _)) _ _ _); k_dflt (refine' truthy_mem ?k1 ?k2 ?k3 ?k4 ?_; (case k1 => k_asm); (case k2 => k_mem); (case k3 => omega); (case k4 => omega); k_whole)))
theorem item_min {prog : Program} {w : World} {A : Around} {E : Value → Shared → Prop} {s : Shared} {h₀ : Heap} {L tl : Addr} {news : List (Addr × Obj)} {vs : List Value} {n : Nat} {Q : Value → Shared → Prop} {value slice : PySem.Expr} {i : Int} {u : Tok} {v : Value}
    (N : News h₀ L s.heap news) (hm : (tl, listOf vs.toArray n) ∈ news) (h0 : 0 ≤ i) (hik : i + 0 < vs.length) (hlen : vs.length < 1000) (hx : vs[i.toNat]? = some v) (h : Q v s)
    (hs : subscripted slice false (.ref tl) (.int i u) = operate [.ref tl, .int i u] (getItem (.ref tl) (.int i u)) := by with_unfolding_all rfl) :
    wpAny (model prog w) A (subscriptTail value slice (.ref tl) (.int (if (vs.length : Int) - 1 < i then (vs.length : Int) - 1 else i) u)) Q E s := by
  rw [if_neg (by omega)]
  exact item_mem N hm h0 (by omega) hx h hs
local macro_rules | `(tactic| walk_at "subscriptTail") => `(tactic| (k_here; (with_reducible show wpAny _ _ (subscriptTail _ _ (Value.ref _) (Value.int (ite _ _ _) _)) _ _ _); (with_unfolding_all refine' item_min ?k1 ?k2 ?k3 ?k4 ?k5 ?k6 ?_ ?k7; (case k1 => k_asm); (case k2 => k_mem); (case k6 => assumption); (case k3 => omega); (case k4 => omega); (case k5 => omega); (case k7 => with_unfolding_all rfl); k_whole)))
local macro_rules | `(tactic| walk_at "getMethod type:Exception") => `(tactic| (k_here; k_dflt (refine' getm_einit ?k1 ?k2 ?_; (case k1 => k_asm); (case k2 => k_asm); k_whole)))
local macro_rules | `(tactic| walk_at "call builtin:Exception.__init__") => `(tactic| (k_here; k_dflt (refine' gf_einit ?k1 ?k2 ?k3 ?k4 ?k5 ?_; walk_at "Z1"; (case k4 => k_mem); (case k5 => (intro jz; k_upd)); k_whole); intro T9 h' F' N' l1; (try k_lt l1); (try k_sweep)))
local macro_rules | `(tactic| walk_at "setAttr ref") => `(tactic| (k_here; k_dflt (first | (refine' gf_set0 ?k1 ?k2 ?k3 ?k4 ?k5 ?k6 ?_; walk_at "Z1"; (case k4 => k_mem); (case k5 => first | exact gf_what _ | exact gf_at _); (case k6 => (intro jz; k_upd)); k_whole; intro D9 h' F' N' l1; (try k_lt l1); (try k_sweep)) | (refine' gf_set1 ?k1 ?k2 ?k3 ?k4 ?k5 ?k6 ?k7 ?k8 ?k9 ?kz ?_; walk_at "Z1"; (case k4 => k_mem); (case k5 => k_mem); (case k6 => first | exact gf_what _ | exact gf_at _); (case k7 => exact rfl); (case k8 => exact rfl); (case k9 => k_upd); (case kz => exact Nat.le_of_ble_eq_true rfl); k_whole; intro h' F' N'; (try k_sweep)))))
theorem lt_ne {a b c : Nat} (h : a < b) (k : b < c) : a ≠ c := Nat.ne_of_lt (Nat.lt_trans h k)
local macro_rules | `(tactic| k_all) => `(tactic| first | exact fun p hp => lt_ne (lt_fact (by assumption) hp) (ltN (by (try dsimp only); omega)) | exact fun p hp => Nat.ne_of_lt (lt_fact (by assumption) hp) | exact fun p hp => lt_ne (allLt_mem (by assumption) hp) (ltN (by (try dsimp only); omega)) | exact fun p hp => Nat.ne_of_lt (allLt_mem (by assumption) hp))
theorem end_fault {w : World} {h₀ h' : Heap} {L : Addr} {m : PySem.Str → Option Value} {news rest : List (Addr × Obj)} {s : Shared} {Q : Value → Shared → Prop} {what : PySem.Str} {i : Int} {tk' : Nat} {e D T t p : Addr} {oT ot : Obj} {a b c v1 v2 : Tok} {z : Nat}
    (ret : ∀ h' tk' e D t2 a b c p v1 v2 z, (p, tupOf [.int ((i.toNat : Int) + 1) v1, .int 12 v2] z) ∈ rest → Fr h₀ L h' m → News h₀ L h' ((e, excObj (some D) t2) :: (D, dictOf [⟨PyData.keyHash w.params "what", .str "what" a, .str what b⟩, ⟨PyData.keyHash w.params "at", .str "at" c, .ref p⟩] 2) :: news) → (∀ q ∈ news, q.1 < D ∧ q.1 < e) → D ≠ e → Q (.ref e) { s with heap := h', toks := tk' }) (hp : (p, tupOf [.int ((i.toNat : Int) + 1) v1, .int 12 v2] z) ∈ rest) (F : Fr h₀ L h' m)
    (N : News h₀ L h' ((D, dictOf [⟨PyData.keyHash w.params "what", .str "what" a, .str what b⟩, ⟨PyData.keyHash w.params "at", .str "at" c, .ref p⟩] 2) :: (T, oT) :: (e, excObj (some D) T) :: (t, ot) :: news)) (l : ∀ q ∈ news, q.1 < D ∧ q.1 < e) (ne : D ≠ e) : Q (.ref e) { s with heap := h', toks := tk' } :=
  ret _ _ e D T a b c p v1 v2 z hp F (fun q hq => N q (by
    rcases List.mem_cons.mp hq with rfl | hq
    · exact List.mem_cons_of_mem _ (List.mem_cons_of_mem _ (List.mem_cons_self ..))
    · rcases List.mem_cons.mp hq with rfl | hq
      · exact List.mem_cons_self ..
      · exact List.mem_cons_of_mem _ (List.mem_cons_of_mem _ (List.mem_cons_of_mem _ (List.mem_cons_of_mem _ hq))))) l ne
section
variable {w : World} {mean : ExcName → Option Value} {mg mb : PySem.Str → Option Value} {dp un : Nat} {gd : Option (List Code)} {cn : PySem.Str} {cs : Scope} {a : Addr} {ccd : Value} {cl : List (PySem.Str × Addr)} {outer : List Env} {A₀ : Around} {base h₀ : Heap} {L : Addr} {m : PySem.Str → Option Value} {news rest : List (Addr × Obj)} {s : Shared} {Q E : Value → Shared → Prop} {r dr tl nd : Addr} {t1 t2 t3 ti : Tok} {i : Int} {n : Nat} {vs : List Value} {toks : List (PySem.Str × PySem.Str)}
theorem fault_c (B : Below A₀ base outer h₀) (F : Fr h₀ L s.heap m) (X : (frag.heap_1 w.params).In h₀) (N : News h₀ L s.heap news) (T : Top (vG pG) (looseW (vG pG) ls) mean mg mb h₀) (hk : cs.kind = .function) (S : RS w rest r dr tl nd n vs toks) (hdr : (dr, RD w t1 t2 t3 tl i ti nd) ∈ news) (hsub : ∀ p ∈ rest, p ∈ news) {what : PySem.Str} {tw : Tok} {κ ω : PySem.Str} (hat : toks[i.toNat]? = some (κ, ω)) (h0 : 0 ≤ i)
    (hdp : dp + 3 < recursionLimit) (hun : un + 24 < cLine) (ret : ∀ h' tk' e D t2 a b c p v1 v2 z, (p, tupOf [.int ((i.toNat : Int) + 1) v1, .int 12 v2] z) ∈ rest → Fr h₀ L h' m → News h₀ L h' ((e, excObj (some D) t2) :: (D, dictOf [⟨PyData.keyHash w.params "what", .str "what" a, .str what b⟩, ⟨PyData.keyHash w.params "at", .str "at" c, .ref p⟩] 2) :: news) → (∀ q ∈ news, q.1 < D ∧ q.1 < e) → D ≠ e → Q (.ref e) { s with heap := h', toks := tk' }) :
    wpAny (model PySem.Challenge.rw_pb0262_01.row.prog w) (ktrTop dp un gd cn cs L a ccd cl outer) (call (.ref 251) [.ref r, .str what tw]) Q E s := by
  have hr0 := S.hr
  have hl0 := S.hl
  have hr := hsub _ S.hr
  have hl := hsub _ S.hl
  have hlen : vs.length < 1000 := by have := S.len; have := S.few; omega
  obtain ⟨v, hv, t, d, p, u1, u2, u3, u4, u5, u6, v1, v2, z, rfl, ht, hd, hp⟩ := S.at_ _ _ _ hat
  have hik : i + 0 < vs.length := by have := (List.getElem?_eq_some_iff.mp hv).1; omega
  have ht' := hsub _ ht
  have hd' := hsub _ hd
  refine wpAny_call ?_
  k_dflt (refine' code_def (binds := [("self", .ref r), ("what", .str what tw)]) ?k1 ?k2 ?k3 ?k4 ?k5 ?kA ?kF ?kK ?k6 ?k7 ?k8 ?k9 ?kB ?_ ?c2 ?c3 ?c4 ?c5; (case kA => exact rfl); (case kF => exact rfl); (case kK => first | assumption | exact rfl); (case k1 => k_asm); (case k2 => k_asm); (case k3 => k_asm); (case k4 => k_asm); (case k5 => k_asm); (case k6 => k_is); (case k7 => k_is); (case k8 => ktr_room); (case k9 => first | exact BindsTo.of_eq rfl | exact binds_K (by k_in) rfl (by k_is) rfl rfl rfl); (case c5 => decide); (case kB => exact locs rfl); (case c2 => exact rfl); (case c3 => exact rfl); (case c4 => exact rfl); k_whole; intro g' L' h' FG' F' N' B' X' T'; (try dsimp only [List.reverse, List.reverseAux] at F'); (try dsimp only); (try k_fold))
  k_steps
  all_goals (refine end_fault ret hp (by k_asm) (by k_asm) (fun q9 hq9 => ?_) (neN (by omega)); have h9 := ltN (lt_fact (by assumption) hq9); exact ⟨ltN (by omega), ltN (by omega)⟩)
end

local macro_rules | `(tactic| walk_at "call ref") => `(tactic| (k_here; (with_reducible show wpAny _ _ (call (Value.ref 251) [_, _]) _ _ _); k_dflt (refine' fault_c ?k1 ?k2 ?k3 ?k4 ?k5 ?kk ?kS ?kd ?ks ?q0 ?q1 ?kp ?ku ?_; tb_start; (case q0 => assumption); (case q1 => assumption); tb_rel; intro h9 tk9 e9 D9 t9 a9 b9 c9 p9 v8 v9 z9 hp9 F9 N9 l9 ne9; ktr_unf)))
local macro_rules | `(tactic| walk_at "exec Raise some none") => `(tactic| (k_here; (with_reducible show wpAny _ _ (exec (Stmt.Raise (some (PySem.Expr.Call (PySem.Expr.Attribute _ _ _) _ _ _)) none _) _) _ _ _); k_dflt (refine' raise_gf ?hh ?_; (case hh => exact rfl); k_whole)))
local macro_rules | `(tactic| walk_at "RaiseGf") => `(tactic| (k_here; k_dflt (refine' RaiseGf.intro ?k1 ?k2 ?k3 ?k4 ?_; walk_at "Z1"; (case k4 => k_mem); k_whole)))
local macro_rules | `(tactic| walk_at "leaving ref") => `(tactic| (k_here; k_dflt (first | ((with_reducible rename Flown _ _ _ _ _ _ _ _ _ _ => fl9); refine' flown_on ?k1 ?k2 ?_; (case k2 => exact fl9); (case k1 => k_asm); k_whole; intro h' R'; (try dsimp only)) | (refine' flown_first ?k1 ?k2 ?k3 ?k4 ?k5 ?k6 ?k7 ?k8 ?_; (case k2 => k_asm); (case k1 => k_asm); (case k3 => k_asm); (case k4 => k_mem); (case k5 => exact List.Mem.tail _ (List.Mem.head _)); (case k6 => assumption); (case k8 => exact hp9); (case k7 => (intro q7 hq7; first | exact ⟨List.mem_cons_of_mem _ (List.mem_cons_of_mem _ (hsub _ hq7)), Nat.ne_of_lt (l9 q7 (hsub _ hq7)).2⟩ | exact ⟨List.mem_cons_of_mem _ (List.mem_cons_of_mem _ (Upd.sub (hU _ _) (hsub _ hq7) (S.off _ hq7))), Nat.ne_of_lt (l9 q7 (Upd.sub (hU _ _) (hsub _ hq7) (S.off _ hq7))).2⟩)); k_whole; intro h' R'; (try dsimp only)))))
section
variable {w : World} {mean : ExcName → Option Value} {mg mb : PySem.Str → Option Value} {dp un : Nat} {gd : Option (List Code)} {cn : PySem.Str} {cs : Scope} {a : Addr} {ccd : Value} {cl : List (PySem.Str × Addr)} {outer : List Env} {A₀ : Around} {base h₀ : Heap} {L : Addr} {m : PySem.Str → Option Value} {news rest : List (Addr × Obj)} {s : Shared} {Q E : Value → Shared → Prop} {r dr tl nd : Addr} {t1 t2 t3 ti : Tok} {i : Int} {n : Nat} {vs : List Value} {toks : List (PySem.Str × PySem.Str)}
theorem name_raise (B : Below A₀ base outer h₀) (F : Fr h₀ L s.heap m) (X : (frag.heap_1 w.params).In h₀) (N : News h₀ L s.heap news) (T : Top (vG pG) (looseW (vG pG) ls) mean mg mb h₀) (hk : cs.kind = .function) (S : RS w rest r dr tl nd n vs toks) (hdr : (dr, RD w t1 t2 t3 tl i ti nd) ∈ news) (hsub : ∀ p ∈ rest, p ∈ news) {κ ω : PySem.Str} (hat : toks[i.toNat]? = some (κ, ω)) (h0 : 0 ≤ i) (hω : ω.length ≤ 64) (hb : (κ == "word" && !isRes resStr (PySem.Str.ofString " " ++ ω ++ PySem.Str.ofString " ")) = false)
    (hdp : dp + 4 < recursionLimit) (hun : un + 32 < cLine) (retE : ∀ h' tk' e, Flown w base h₀ L m (envX cn cs L a ccd cl :: outer) rest ((i.toNat : Int) + 1) e h' → E (.ref e) { s with heap := h', toks := tk' }) :
    wpAny (model PySem.Challenge.rw_pb0262_01.row.prog w) (ktrTop dp un gd cn cs L a ccd cl outer) (call (.ref 316) [.ref r]) Q E s := by
  have hr0 := S.hr
  have hl0 := S.hl
  have hr := hsub _ S.hr
  have hl := hsub _ S.hl
  have hlen : vs.length < 1000 := by have := S.len; have := S.few; omega
  obtain ⟨v, hv, t, d, p, u1, u2, u3, u4, u5, u6, v1, v2, z, rfl, ht, hd, hp⟩ := S.at_ _ _ _ hat
  have hik : i + 0 < vs.length := by have := (List.getElem?_eq_some_iff.mp hv).1; omega
  have ht' := hsub _ ht
  have hd' := hsub _ hd
  refine wpAny_call ?_
  k_dflt (refine' code_def (binds := [("self", .ref r)]) ?k1 ?k2 ?k3 ?k4 ?k5 ?kA ?kF ?kK ?k6 ?k7 ?k8 ?k9 ?kB ?_ ?c2 ?c3 ?c4 ?c5; (case kA => exact rfl); (case kF => exact rfl); (case kK => first | assumption | exact rfl); (case k1 => k_asm); (case k2 => k_asm); (case k3 => k_asm); (case k4 => k_asm); (case k5 => k_asm); (case k6 => k_is); (case k7 => k_is); (case k8 => ktr_room); (case k9 => first | exact BindsTo.of_eq rfl | exact binds_K (by k_in) rfl (by k_is) rfl rfl rfl); (case c5 => decide); (case kB => exact locs rfl); (case c2 => exact rfl); (case c3 => exact rfl); (case c4 => exact rfl); k_whole; intro g' L' h' FG' F' N' B' X' T'; (try dsimp only [List.reverse, List.reverseAux] at F'); (try dsimp only); (try k_fold))
  k_steps
  all_goals (exact retE _ _ _ ⟨_, FG', R'⟩)
end

local macro_rules | `(tactic| walk_at "exec Assign cons ListComp") => `(tactic| (k_here; (with_reducible show wpAny _ _ (exec (Stmt.Assign _ (PySem.Expr.ListComp (PySem.Expr.Call (PySem.Expr.Name _ _) _ _ _) _ _ _) _) _) _ _ _); k_dflt (refine assign_comp_text (F₀ := by k_asm) (by rfl) (by with_unfolding_all rfl) (by rfl) (by decide) (by rfl) (by decide) (by rfl) (by rfl) (by rfl) ?_)))
local macro_rules | `(tactic| walk_at "TextSrc") => `(tactic| (k_here; k_dflt (first | (refine TextSrc.intro (n := 3) (by rfl) (by k_asm) (by k_asm) (by decide +kernel) (by rfl) (by decide +kernel) ?_; intro g') | (refine TextSrc.intro (n := 1) (by rfl) (by k_asm) (by k_asm) (by decide +kernel) (by rfl) (by decide +kernel) ?_; intro g'))))
local macro_rules | `(tactic| walk_at "CompRest") => `(tactic| (with_unfolding_all (refine LCg.CompRest.succ ?_; intro v' I' oI' C' oC' D' m' h' tk' E' hv' hC' hx' F' N' off' ne'; obtain ⟨c9, u9, hc9, hv9⟩ := hv'; (have q9 := Option.some.inj hc9); subst q9; subst hv9)))
local macro_rules | `(tactic| walk_at "CompEnd") => `(tactic| (k_dflt (refine' LCg.CompEnd.intro ?k1 ?k2 _ (fun p9 hp9 => hp9) ?k3 ?k4 ?_; (case k1 => assumption); (case k2 => assumption); (case k3 => first | assumption | lcg_off); (case k4 => first | exact True.intro | lcg_src))))
theorem in_small {l : List Int} (h : (l.all fun n => decide (0 ≤ n) && decide (n < 256)) = true) : KBa.In l := fun n hn => by
  have := List.all_eq_true.mp h n hn
  simpa using this
local macro_rules | `(tactic| walk_at "call type:bytes") => `(tactic| (k_here; (with_reducible show wpAny _ _ (call (Value.type "bytes") [Value.ref _]) _ _ _); k_dflt (refine' KBa.make_K ?k1 ?k2 ?k3 ?k4 ?k5 ?k6 ?k7 ?_; (case k1 => k_asm); (case k2 => k_asm); (case k3 => exact rfl); (case k4 => exact News.isList (by k_asm) (by k_mem)); (case k5 => first | exact .cons _ _ (.cons _ _ (.cons _ _ .nil)) | exact .cons _ _ .nil); (case k6 => exact in_small (by decide)); (case k7 => decide); intro h' t9 k9 F' N' in9)))
section
variable {w : World} {mean : ExcName → Option Value} {mg mb : PySem.Str → Option Value} {dp un : Nat} {gd : Option (List Code)} {cn : PySem.Str} {cs : Scope} {a : Addr} {ccd : Value} {cl : List (PySem.Str × Addr)} {outer : List Env} {A₀ : Around} {base h₀ : Heap} {L : Addr} {m : PySem.Str → Option Value} {news rest : List (Addr × Obj)} {s : Shared} {Q E : Value → Shared → Prop} {r dr tl nd : Addr} {t1 t2 t3 ti : Tok} {i : Int} {n : Nat} {vs : List Value} {toks : List (PySem.Str × PySem.Str)} {nw : Int → Tok → List (Addr × Obj)}
theorem oot_ab (B : Below A₀ base outer h₀) (F : Fr h₀ L s.heap m) (X : (frag.heap_1 w.params).In h₀) (N : News h₀ L s.heap news) (T : Top (vG pG) (looseW (vG pG) ls) mean mg mb h₀) (hk : cs.kind = .function) {tk' : Tok}
    (hdp : dp + 1 < recursionLimit) (hun : un + 8 < cLine) (ret : ∀ h' tk' tv', Fr h₀ L h' m → News h₀ L h' news → Q (.bytes #[97, 32, 98] tv') { s with heap := h', toks := tk' }) :
    wpAny (model PySem.Challenge.rw_pb0262_01.row.prog w) (ktrTop dp un gd cn cs L a ccd cl outer) (call (.ref 214) [.str "a b" tk']) Q E s := by
  have eT : PySem.Str.ofString "a b" = ⟨#[97, 32, 98]⟩ := by decide +kernel
  have eB : PySem.byteArr [97, 32, 98] = #[97, 32, 98] := by decide +kernel
  rw [eT]
  rw [← eB] at ret
  refine wpAny_call ?_
  k_dflt (refine' code_def (binds := [("text", .str ⟨#[97, 32, 98]⟩ tk')]) ?k1 ?k2 ?k3 ?k4 ?k5 ?kA ?kF ?kK ?k6 ?k7 ?k8 ?k9 ?kB ?_ ?c2 ?c3 ?c4 ?c5; (case kA => exact rfl); (case kF => exact rfl); (case kK => first | assumption | exact rfl); (case k1 => k_asm); (case k2 => k_asm); (case k3 => k_asm); (case k4 => k_asm); (case k5 => k_asm); (case k6 => k_is); (case k7 => k_is); (case k8 => ktr_room); (case k9 => first | exact BindsTo.of_eq rfl | exact binds_K (by k_in) rfl (by k_is) rfl rfl rfl); (case c5 => decide); (case kB => exact locs rfl); (case c2 => exact rfl); (case c3 => exact rfl); (case c4 => exact rfl); k_whole; intro g' L' h' FG' F' N' B' X' T'; (try dsimp only [List.reverse, List.reverseAux] at F'); (try dsimp only); (try k_fold))
  k_steps
  all_goals (exact ret _ _ _ (by k_asm) (by (first | k_asm | (rename News _ _ _ _ => lN9; intro p9 hp9; exact lN9 p9 (by first | exact hp9 | (repeat (first | exact hp9 | refine List.mem_cons_of_mem _ ?_)))))))
theorem oot_x (B : Below A₀ base outer h₀) (F : Fr h₀ L s.heap m) (X : (frag.heap_1 w.params).In h₀) (N : News h₀ L s.heap news) (T : Top (vG pG) (looseW (vG pG) ls) mean mg mb h₀) (hk : cs.kind = .function) {tk' : Tok}
    (hdp : dp + 1 < recursionLimit) (hun : un + 8 < cLine) (ret : ∀ h' tk' tv', Fr h₀ L h' m → News h₀ L h' news → Q (.bytes #[120] tv') { s with heap := h', toks := tk' }) :
    wpAny (model PySem.Challenge.rw_pb0262_01.row.prog w) (ktrTop dp un gd cn cs L a ccd cl outer) (call (.ref 214) [.str "x" tk']) Q E s := by
  have eT : PySem.Str.ofString "x" = ⟨#[120]⟩ := by decide +kernel
  have eB : PySem.byteArr [120] = #[120] := by decide +kernel
  rw [eT]
  rw [← eB] at ret
  refine wpAny_call ?_
  k_dflt (refine' code_def (binds := [("text", .str ⟨#[120]⟩ tk')]) ?k1 ?k2 ?k3 ?k4 ?k5 ?kA ?kF ?kK ?k6 ?k7 ?k8 ?k9 ?kB ?_ ?c2 ?c3 ?c4 ?c5; (case kA => exact rfl); (case kF => exact rfl); (case kK => first | assumption | exact rfl); (case k1 => k_asm); (case k2 => k_asm); (case k3 => k_asm); (case k4 => k_asm); (case k5 => k_asm); (case k6 => k_is); (case k7 => k_is); (case k8 => ktr_room); (case k9 => first | exact BindsTo.of_eq rfl | exact binds_K (by k_in) rfl (by k_is) rfl rfl rfl); (case c5 => decide); (case kB => exact locs rfl); (case c2 => exact rfl); (case c3 => exact rfl); (case c4 => exact rfl); k_whole; intro g' L' h' FG' F' N' B' X' T'; (try dsimp only [List.reverse, List.reverseAux] at F'); (try dsimp only); (try k_fold))
  k_steps
  all_goals (exact ret _ _ _ (by k_asm) (by (first | k_asm | (rename News _ _ _ _ => lN9; intro p9 hp9; exact lN9 p9 (by first | exact hp9 | (repeat (first | exact hp9 | refine List.mem_cons_of_mem _ ?_)))))))
theorem oot_z (B : Below A₀ base outer h₀) (F : Fr h₀ L s.heap m) (X : (frag.heap_1 w.params).In h₀) (N : News h₀ L s.heap news) (T : Top (vG pG) (looseW (vG pG) ls) mean mg mb h₀) (hk : cs.kind = .function) {tk' : Tok}
    (hdp : dp + 1 < recursionLimit) (hun : un + 8 < cLine) (ret : ∀ h' tk' tv', Fr h₀ L h' m → News h₀ L h' news → Q (.bytes #[122] tv') { s with heap := h', toks := tk' }) :
    wpAny (model PySem.Challenge.rw_pb0262_01.row.prog w) (ktrTop dp un gd cn cs L a ccd cl outer) (call (.ref 214) [.str "z" tk']) Q E s := by
  have eT : PySem.Str.ofString "z" = ⟨#[122]⟩ := by decide +kernel
  have eB : PySem.byteArr [122] = #[122] := by decide +kernel
  rw [eT]
  rw [← eB] at ret
  refine wpAny_call ?_
  k_dflt (refine' code_def (binds := [("text", .str ⟨#[122]⟩ tk')]) ?k1 ?k2 ?k3 ?k4 ?k5 ?kA ?kF ?kK ?k6 ?k7 ?k8 ?k9 ?kB ?_ ?c2 ?c3 ?c4 ?c5; (case kA => exact rfl); (case kF => exact rfl); (case kK => first | assumption | exact rfl); (case k1 => k_asm); (case k2 => k_asm); (case k3 => k_asm); (case k4 => k_asm); (case k5 => k_asm); (case k6 => k_is); (case k7 => k_is); (case k8 => ktr_room); (case k9 => first | exact BindsTo.of_eq rfl | exact binds_K (by k_in) rfl (by k_is) rfl rfl rfl); (case c5 => decide); (case kB => exact locs rfl); (case c2 => exact rfl); (case c3 => exact rfl); (case c4 => exact rfl); k_whole; intro g' L' h' FG' F' N' B' X' T'; (try dsimp only [List.reverse, List.reverseAux] at F'); (try dsimp only); (try k_fold))
  k_steps
  all_goals (exact ret _ _ _ (by k_asm) (by (first | k_asm | (rename News _ _ _ _ => lN9; intro p9 hp9; exact lN9 p9 (by first | exact hp9 | (repeat (first | exact hp9 | refine List.mem_cons_of_mem _ ?_)))))))
end

local macro_rules | `(tactic| walk_at "call ref") => `(tactic| (k_here; (with_reducible show wpAny _ _ (call (Value.ref 214) [Value.str (PySem.Str.ofString "a b") _]) _ _ _); k_dflt (apply oot_ab; walk_at "U18")))
local macro_rules | `(tactic| walk_at "call ref") => `(tactic| (k_here; (with_reducible show wpAny _ _ (call (Value.ref 214) [Value.str (PySem.Str.ofString "x") _]) _ _ _); k_dflt (apply oot_x; walk_at "U18")))
local macro_rules | `(tactic| walk_at "call ref") => `(tactic| (k_here; (with_reducible show wpAny _ _ (call (Value.ref 214) [Value.str (PySem.Str.ofString "z") _]) _ _ _); k_dflt (apply oot_z; walk_at "U18")))
theorem top_notin {prog : Program} {w : World} {A : Around} {E : Value → Shared → Prop} {s : Shared} {K : Frag} {h₀ : Heap} {L a : Addr} {m : PySem.Str → Option Value} {es : Array DictEntry} {n : Nat} {x : PySem.Str} {t : Tok} {r : Option Value} {Q : Value → Shared → Prop}
    (F : Fr h₀ L s.heap m) (X₀ : K.In h₀) (hl : K.lookup a = some ⟨.type "dict", none, .dict es n, #[]⟩) (hk : KeysLit w.params es.toList) (e : nsIn K a x = some r) (lo : (a == sysModules) = false)
    (h : Q (.bool (!r.isSome)) { s with toks := s.toks + 1 }) : wpAny (model prog w) A (compareOp .NotIn (.str x t) (.ref a)) Q E s :=
  wpAny_notIn_of (strKind_is prog w x t) lo (mapOf_K (prog := prog) (X₀.keeps F.keep) hl hk) (by rw [find_K hl e]; exact h)
local macro_rules | `(tactic| walk_at "compareOp NotIn str ref") => `(tactic| (k_here; k_dflt (refine' top_notin ?F ?X ?l ?k ?e ?o ?_; (case F => k_asm); (case X => k_asm); (case l => k_is); (case k => k_keys); (case e => k_is); (case o => decide))))
section
variable {w : World} {mean : ExcName → Option Value} {mg mb : PySem.Str → Option Value} {dp un : Nat} {gd : Option (List Code)} {cn : PySem.Str} {cs : Scope} {a : Addr} {ccd : Value} {cl : List (PySem.Str × Addr)} {outer : List Env} {A₀ : Around} {base h₀ : Heap} {L : Addr} {m : PySem.Str → Option Value} {news rest : List (Addr × Obj)} {s : Shared} {Q E : Value → Shared → Prop} {r dr tl nd : Addr} {t1 t2 t3 ti : Tok} {i : Int} {n : Nat} {vs : List Value} {toks : List (PySem.Str × PySem.Str)} {nw : Int → Tok → List (Addr × Obj)}
theorem octets_ab (B : Below A₀ base outer h₀) (F : Fr h₀ L s.heap m) (X : (frag.heap_1 w.params).In h₀) (N : News h₀ L s.heap news) (T : Top (vG pG) (looseW (vG pG) ls) mean mg mb h₀) (hk : cs.kind = .function) (S : RS w rest r dr tl nd n vs toks) (hdr : (dr, RD w t1 t2 t3 tl i ti nd) ∈ news) (hsub : ∀ p ∈ rest, p ∈ news) (hU : ∀ j tj, Upd dr (RD w t1 t2 t3 tl i ti nd) (RD w t1 t2 t3 tl j tj nd) news (nw j tj)) (hat : toks[i.toNat]? = some (PySem.Str.ofString "literal", PySem.Str.ofString "a b")) (h0 : 0 ≤ i)
    (hdp : dp + 3 < recursionLimit) (hun : un + 24 < cLine) (ret : ∀ h' tk' ti' tv', Fr h₀ L h' m → News h₀ L h' (nw (i + 1) ti') → Q (.bytes #[97, 32, 98] tv') { s with heap := h', toks := tk' }) :
    wpAny (model PySem.Challenge.rw_pb0262_01.row.prog w) (ktrTop dp un gd cn cs L a ccd cl outer) (call (.ref 380) [.ref r]) Q E s := by
  have hr0 := S.hr
  have hl0 := S.hl
  have hr := hsub _ S.hr
  have hl := hsub _ S.hl
  have hlen : vs.length < 1000 := by have := S.len; have := S.few; omega
  obtain ⟨v, hv, t, d, p, u1, u2, u3, u4, u5, u6, v1, v2, z, rfl, ht, hd, hp⟩ := S.at_ _ _ _ hat
  have hik : i + 0 < vs.length := by have := (List.getElem?_eq_some_iff.mp hv).1; omega
  have ht' := hsub _ ht
  have hd' := hsub _ hd
  refine wpAny_call ?_
  k_dflt (refine' code_def (binds := [("self", .ref r)]) ?k1 ?k2 ?k3 ?k4 ?k5 ?kA ?kF ?kK ?k6 ?k7 ?k8 ?k9 ?kB ?_ ?c2 ?c3 ?c4 ?c5; (case kA => exact rfl); (case kF => exact rfl); (case kK => first | assumption | exact rfl); (case k1 => k_asm); (case k2 => k_asm); (case k3 => k_asm); (case k4 => k_asm); (case k5 => k_asm); (case k6 => k_is); (case k7 => k_is); (case k8 => ktr_room); (case k9 => first | exact BindsTo.of_eq rfl | exact binds_K (by k_in) rfl (by k_is) rfl rfl rfl); (case c5 => decide); (case kB => exact locs rfl); (case c2 => exact rfl); (case c3 => exact rfl); (case c4 => exact rfl); k_whole; intro g' L' h' FG' F' N' B' X' T'; (try dsimp only [List.reverse, List.reverseAux] at F'); (try dsimp only); (try k_fold))
  k_steps
  all_goals (exact ret _ _ _ _ (by k_asm) (by (first | k_asm | (rename News _ _ _ _ => lN9; intro p9 hp9; exact lN9 p9 (by first | exact hp9 | (repeat (first | exact hp9 | refine List.mem_cons_of_mem _ ?_)))))))
theorem octets_x (B : Below A₀ base outer h₀) (F : Fr h₀ L s.heap m) (X : (frag.heap_1 w.params).In h₀) (N : News h₀ L s.heap news) (T : Top (vG pG) (looseW (vG pG) ls) mean mg mb h₀) (hk : cs.kind = .function) (S : RS w rest r dr tl nd n vs toks) (hdr : (dr, RD w t1 t2 t3 tl i ti nd) ∈ news) (hsub : ∀ p ∈ rest, p ∈ news) (hU : ∀ j tj, Upd dr (RD w t1 t2 t3 tl i ti nd) (RD w t1 t2 t3 tl j tj nd) news (nw j tj)) (hat : toks[i.toNat]? = some (PySem.Str.ofString "literal", PySem.Str.ofString "x")) (h0 : 0 ≤ i)
    (hdp : dp + 3 < recursionLimit) (hun : un + 24 < cLine) (ret : ∀ h' tk' ti' tv', Fr h₀ L h' m → News h₀ L h' (nw (i + 1) ti') → Q (.bytes #[120] tv') { s with heap := h', toks := tk' }) :
    wpAny (model PySem.Challenge.rw_pb0262_01.row.prog w) (ktrTop dp un gd cn cs L a ccd cl outer) (call (.ref 380) [.ref r]) Q E s := by
  have hr0 := S.hr
  have hl0 := S.hl
  have hr := hsub _ S.hr
  have hl := hsub _ S.hl
  have hlen : vs.length < 1000 := by have := S.len; have := S.few; omega
  obtain ⟨v, hv, t, d, p, u1, u2, u3, u4, u5, u6, v1, v2, z, rfl, ht, hd, hp⟩ := S.at_ _ _ _ hat
  have hik : i + 0 < vs.length := by have := (List.getElem?_eq_some_iff.mp hv).1; omega
  have ht' := hsub _ ht
  have hd' := hsub _ hd
  refine wpAny_call ?_
  k_dflt (refine' code_def (binds := [("self", .ref r)]) ?k1 ?k2 ?k3 ?k4 ?k5 ?kA ?kF ?kK ?k6 ?k7 ?k8 ?k9 ?kB ?_ ?c2 ?c3 ?c4 ?c5; (case kA => exact rfl); (case kF => exact rfl); (case kK => first | assumption | exact rfl); (case k1 => k_asm); (case k2 => k_asm); (case k3 => k_asm); (case k4 => k_asm); (case k5 => k_asm); (case k6 => k_is); (case k7 => k_is); (case k8 => ktr_room); (case k9 => first | exact BindsTo.of_eq rfl | exact binds_K (by k_in) rfl (by k_is) rfl rfl rfl); (case c5 => decide); (case kB => exact locs rfl); (case c2 => exact rfl); (case c3 => exact rfl); (case c4 => exact rfl); k_whole; intro g' L' h' FG' F' N' B' X' T'; (try dsimp only [List.reverse, List.reverseAux] at F'); (try dsimp only); (try k_fold))
  k_steps
  all_goals (exact ret _ _ _ _ (by k_asm) (by (first | k_asm | (rename News _ _ _ _ => lN9; intro p9 hp9; exact lN9 p9 (by first | exact hp9 | (repeat (first | exact hp9 | refine List.mem_cons_of_mem _ ?_)))))))
theorem octets_z (B : Below A₀ base outer h₀) (F : Fr h₀ L s.heap m) (X : (frag.heap_1 w.params).In h₀) (N : News h₀ L s.heap news) (T : Top (vG pG) (looseW (vG pG) ls) mean mg mb h₀) (hk : cs.kind = .function) (S : RS w rest r dr tl nd n vs toks) (hdr : (dr, RD w t1 t2 t3 tl i ti nd) ∈ news) (hsub : ∀ p ∈ rest, p ∈ news) (hU : ∀ j tj, Upd dr (RD w t1 t2 t3 tl i ti nd) (RD w t1 t2 t3 tl j tj nd) news (nw j tj)) (hat : toks[i.toNat]? = some (PySem.Str.ofString "literal", PySem.Str.ofString "z")) (h0 : 0 ≤ i)
    (hdp : dp + 3 < recursionLimit) (hun : un + 24 < cLine) (ret : ∀ h' tk' ti' tv', Fr h₀ L h' m → News h₀ L h' (nw (i + 1) ti') → Q (.bytes #[122] tv') { s with heap := h', toks := tk' }) :
    wpAny (model PySem.Challenge.rw_pb0262_01.row.prog w) (ktrTop dp un gd cn cs L a ccd cl outer) (call (.ref 380) [.ref r]) Q E s := by
  have hr0 := S.hr
  have hl0 := S.hl
  have hr := hsub _ S.hr
  have hl := hsub _ S.hl
  have hlen : vs.length < 1000 := by have := S.len; have := S.few; omega
  obtain ⟨v, hv, t, d, p, u1, u2, u3, u4, u5, u6, v1, v2, z, rfl, ht, hd, hp⟩ := S.at_ _ _ _ hat
  have hik : i + 0 < vs.length := by have := (List.getElem?_eq_some_iff.mp hv).1; omega
  have ht' := hsub _ ht
  have hd' := hsub _ hd
  refine wpAny_call ?_
  k_dflt (refine' code_def (binds := [("self", .ref r)]) ?k1 ?k2 ?k3 ?k4 ?k5 ?kA ?kF ?kK ?k6 ?k7 ?k8 ?k9 ?kB ?_ ?c2 ?c3 ?c4 ?c5; (case kA => exact rfl); (case kF => exact rfl); (case kK => first | assumption | exact rfl); (case k1 => k_asm); (case k2 => k_asm); (case k3 => k_asm); (case k4 => k_asm); (case k5 => k_asm); (case k6 => k_is); (case k7 => k_is); (case k8 => ktr_room); (case k9 => first | exact BindsTo.of_eq rfl | exact binds_K (by k_in) rfl (by k_is) rfl rfl rfl); (case c5 => decide); (case kB => exact locs rfl); (case c2 => exact rfl); (case c3 => exact rfl); (case c4 => exact rfl); k_whole; intro g' L' h' FG' F' N' B' X' T'; (try dsimp only [List.reverse, List.reverseAux] at F'); (try dsimp only); (try k_fold))
  k_steps
  all_goals (exact ret _ _ _ _ (by k_asm) (by (first | k_asm | (rename News _ _ _ _ => lN9; intro p9 hp9; exact lN9 p9 (by first | exact hp9 | (repeat (first | exact hp9 | refine List.mem_cons_of_mem _ ?_)))))))
theorem figure_SPACE (B : Below A₀ base outer h₀) (F : Fr h₀ L s.heap m) (X : (frag.heap_1 w.params).In h₀) (N : News h₀ L s.heap news) (T : Top (vG pG) (looseW (vG pG) ls) mean mg mb h₀) (hk : cs.kind = .function) (S : RS w rest r dr tl nd n vs toks) (hdr : (dr, RD w t1 t2 t3 tl i ti nd) ∈ news) (hsub : ∀ p ∈ rest, p ∈ news) (hU : ∀ j tj, Upd dr (RD w t1 t2 t3 tl i ti nd) (RD w t1 t2 t3 tl j tj nd) news (nw j tj)) (hat : toks[i.toNat]? = some (PySem.Str.ofString "word", PySem.Str.ofString "SPACES")) (h0 : 0 ≤ i)
    (hdp : dp + 4 < recursionLimit) (hun : un + 32 < cLine) (ret : ∀ h' tk' ti' D u1 u2, Fr h₀ L h' m → News h₀ L h' ((D, tupOf [.str "figure" u1, .str "SPACE" u2] 0) :: nw (i + 1) ti') → (∀ p ∈ nw (i + 1) ti', p.1 < D) → Q (.ref D) { s with heap := h', toks := tk' }) :
    wpAny (model PySem.Challenge.rw_pb0262_01.row.prog w) (ktrTop dp un gd cn cs L a ccd cl outer) (call (.ref 64) [.ref r]) Q E s := by
  have hr0 := S.hr
  have hl0 := S.hl
  have hr := hsub _ S.hr
  have hl := hsub _ S.hl
  have hlen : vs.length < 1000 := by have := S.len; have := S.few; omega
  obtain ⟨v, hv, t, d, p, u1, u2, u3, u4, u5, u6, v1, v2, z, rfl, ht, hd, hp⟩ := S.at_ _ _ _ hat
  have hik : i + 0 < vs.length := by have := (List.getElem?_eq_some_iff.mp hv).1; omega
  have ht' := hsub _ ht
  have hd' := hsub _ hd
  refine wpAny_call ?_
  k_dflt (refine' code_def (binds := [("reader", .ref r)]) ?k1 ?k2 ?k3 ?k4 ?k5 ?kA ?kF ?kK ?k6 ?k7 ?k8 ?k9 ?kB ?_ ?c2 ?c3 ?c4 ?c5; (case kA => exact rfl); (case kF => exact rfl); (case kK => first | assumption | exact rfl); (case k1 => k_asm); (case k2 => k_asm); (case k3 => k_asm); (case k4 => k_asm); (case k5 => k_asm); (case k6 => k_is); (case k7 => k_is); (case k8 => ktr_room); (case k9 => first | exact BindsTo.of_eq rfl | exact binds_K (by k_in) rfl (by k_is) rfl rfl rfl); (case c5 => decide); (case kB => exact locs rfl); (case c2 => exact rfl); (case c3 => exact rfl); (case c4 => exact rfl); k_whole; intro g' L' h' FG' F' N' B' X' T'; (try dsimp only [List.reverse, List.reverseAux] at F'); (try dsimp only); (try k_fold))
  k_steps
  all_goals exact ret _ _ _ _ _ _ (by k_asm) (by k_asm) (by assumption)
theorem figure_HIGH (B : Below A₀ base outer h₀) (F : Fr h₀ L s.heap m) (X : (frag.heap_1 w.params).In h₀) (N : News h₀ L s.heap news) (T : Top (vG pG) (looseW (vG pG) ls) mean mg mb h₀) (hk : cs.kind = .function) (S : RS w rest r dr tl nd n vs toks) (hdr : (dr, RD w t1 t2 t3 tl i ti nd) ∈ news) (hsub : ∀ p ∈ rest, p ∈ news) (hU : ∀ j tj, Upd dr (RD w t1 t2 t3 tl i ti nd) (RD w t1 t2 t3 tl j tj nd) news (nw j tj)) (hat : toks[i.toNat]? = some (PySem.Str.ofString "word", PySem.Str.ofString "HIGH-VALUE")) (h0 : 0 ≤ i)
    (hdp : dp + 4 < recursionLimit) (hun : un + 32 < cLine) (ret : ∀ h' tk' ti' D u1 u2, Fr h₀ L h' m → News h₀ L h' ((D, tupOf [.str "figure" u1, .str "HIGH" u2] 0) :: nw (i + 1) ti') → (∀ p ∈ nw (i + 1) ti', p.1 < D) → Q (.ref D) { s with heap := h', toks := tk' }) :
    wpAny (model PySem.Challenge.rw_pb0262_01.row.prog w) (ktrTop dp un gd cn cs L a ccd cl outer) (call (.ref 64) [.ref r]) Q E s := by
  have hr0 := S.hr
  have hl0 := S.hl
  have hr := hsub _ S.hr
  have hl := hsub _ S.hl
  have hlen : vs.length < 1000 := by have := S.len; have := S.few; omega
  obtain ⟨v, hv, t, d, p, u1, u2, u3, u4, u5, u6, v1, v2, z, rfl, ht, hd, hp⟩ := S.at_ _ _ _ hat
  have hik : i + 0 < vs.length := by have := (List.getElem?_eq_some_iff.mp hv).1; omega
  have ht' := hsub _ ht
  have hd' := hsub _ hd
  refine wpAny_call ?_
  k_dflt (refine' code_def (binds := [("reader", .ref r)]) ?k1 ?k2 ?k3 ?k4 ?k5 ?kA ?kF ?kK ?k6 ?k7 ?k8 ?k9 ?kB ?_ ?c2 ?c3 ?c4 ?c5; (case kA => exact rfl); (case kF => exact rfl); (case kK => first | assumption | exact rfl); (case k1 => k_asm); (case k2 => k_asm); (case k3 => k_asm); (case k4 => k_asm); (case k5 => k_asm); (case k6 => k_is); (case k7 => k_is); (case k8 => ktr_room); (case k9 => first | exact BindsTo.of_eq rfl | exact binds_K (by k_in) rfl (by k_is) rfl rfl rfl); (case c5 => decide); (case kB => exact locs rfl); (case c2 => exact rfl); (case c3 => exact rfl); (case c4 => exact rfl); k_whole; intro g' L' h' FG' F' N' B' X' T'; (try dsimp only [List.reverse, List.reverseAux] at F'); (try dsimp only); (try k_fold))
  k_steps
  all_goals exact ret _ _ _ _ _ _ (by k_asm) (by k_asm) (by assumption)
theorem figure_none (B : Below A₀ base outer h₀) (F : Fr h₀ L s.heap m) (X : (frag.heap_1 w.params).In h₀) (N : News h₀ L s.heap news) (T : Top (vG pG) (looseW (vG pG) ls) mean mg mb h₀) (hk : cs.kind = .function) (S : RS w rest r dr tl nd n vs toks) (hdr : (dr, RD w t1 t2 t3 tl i ti nd) ∈ news) (hsub : ∀ p ∈ rest, p ∈ news) {κ ω : PySem.Str} (hat : toks[i.toNat]? = some (κ, ω)) (h0 : 0 ≤ i) (hm : (κ == "word") = false)
    (hdp : dp + 4 < recursionLimit) (hun : un + 32 < cLine) (ret : ∀ h' tk', Fr h₀ L h' m → News h₀ L h' news → Q .none { s with heap := h', toks := tk' }) :
    wpAny (model PySem.Challenge.rw_pb0262_01.row.prog w) (ktrTop dp un gd cn cs L a ccd cl outer) (call (.ref 64) [.ref r]) Q E s := by
  have hr0 := S.hr
  have hl0 := S.hl
  have hr := hsub _ S.hr
  have hl := hsub _ S.hl
  have hlen : vs.length < 1000 := by have := S.len; have := S.few; omega
  obtain ⟨v, hv, t, d, p, u1, u2, u3, u4, u5, u6, v1, v2, z, rfl, ht, hd, hp⟩ := S.at_ _ _ _ hat
  have hik : i + 0 < vs.length := by have := (List.getElem?_eq_some_iff.mp hv).1; omega
  have ht' := hsub _ ht
  have hd' := hsub _ hd
  refine wpAny_call ?_
  k_dflt (refine' code_def (binds := [("reader", .ref r)]) ?k1 ?k2 ?k3 ?k4 ?k5 ?kA ?kF ?kK ?k6 ?k7 ?k8 ?k9 ?kB ?_ ?c2 ?c3 ?c4 ?c5; (case kA => exact rfl); (case kF => exact rfl); (case kK => first | assumption | exact rfl); (case k1 => k_asm); (case k2 => k_asm); (case k3 => k_asm); (case k4 => k_asm); (case k5 => k_asm); (case k6 => k_is); (case k7 => k_is); (case k8 => ktr_room); (case k9 => first | exact BindsTo.of_eq rfl | exact binds_K (by k_in) rfl (by k_is) rfl rfl rfl); (case c5 => decide); (case kB => exact locs rfl); (case c2 => exact rfl); (case c3 => exact rfl); (case c4 => exact rfl); k_whole; intro g' L' h' FG' F' N' B' X' T'; (try dsimp only [List.reverse, List.reverseAux] at F'); (try dsimp only); (try k_fold))
  k_steps
  all_goals (exact ret _ _ (by k_asm) (by (first | k_asm | (rename News _ _ _ _ => lN9; intro p9 hp9; exact lN9 p9 (by first | exact hp9 | (repeat (first | exact hp9 | refine List.mem_cons_of_mem _ ?_)))))))
end
local macro_rules | `(tactic| walk_at "call ref") => `(tactic| (k_here; (show wpAny _ _ (call (Value.ref 380) _) _ _ _); k_dflt (first | (apply octets_z; walk_at "U9") | (apply octets_x; walk_at "U9") | (apply octets_ab; walk_at "U9"))))
section
variable {w : World} {mean : ExcName → Option Value} {mg mb : PySem.Str → Option Value} {dp un : Nat} {gd : Option (List Code)} {cn : PySem.Str} {cs : Scope} {a : Addr} {ccd : Value} {cl : List (PySem.Str × Addr)} {outer : List Env} {A₀ : Around} {base h₀ : Heap} {L : Addr} {m : PySem.Str → Option Value} {news rest : List (Addr × Obj)} {s : Shared} {Q E : Value → Shared → Prop} {r dr tl nd : Addr} {t1 t2 t3 ti : Tok} {i : Int} {n : Nat} {vs : List Value} {toks : List (PySem.Str × PySem.Str)} {nw : Int → Tok → List (Addr × Obj)}
theorem all_x (B : Below A₀ base outer h₀) (F : Fr h₀ L s.heap m) (X : (frag.heap_1 w.params).In h₀) (N : News h₀ L s.heap news) (T : Top (vG pG) (looseW (vG pG) ls) mean mg mb h₀) (hk : cs.kind = .function) (S : RS w rest r dr tl nd n vs toks) (hdr : (dr, RD w t1 t2 t3 tl i ti nd) ∈ news) (hsub : ∀ p ∈ rest, p ∈ news) (hU : ∀ j tj, Upd dr (RD w t1 t2 t3 tl i ti nd) (RD w t1 t2 t3 tl j tj nd) news (nw j tj)) (hat : toks[i.toNat]? = some (PySem.Str.ofString "literal", PySem.Str.ofString "x")) (h0 : 0 ≤ i)
    (hdp : dp + 4 < recursionLimit) (hun : un + 32 < cLine) (ret : ∀ h' tk' ti' D u1 u2, Fr h₀ L h' m → News h₀ L h' ((D, tupOf [.str "all" u1, .bytes #[120] u2] 0) :: nw (i + 1) ti') → (∀ p ∈ nw (i + 1) ti', p.1 < D) → Q (.ref D) { s with heap := h', toks := tk' }) :
    wpAny (model PySem.Challenge.rw_pb0262_01.row.prog w) (ktrTop dp un gd cn cs L a ccd cl outer) (call (.ref 57) [.ref r]) Q E s := by
  have hr0 := S.hr
  have hl0 := S.hl
  have hr := hsub _ S.hr
  have hl := hsub _ S.hl
  have hlen : vs.length < 1000 := by have := S.len; have := S.few; omega
  obtain ⟨v, hv, t, d, p, u1, u2, u3, u4, u5, u6, v1, v2, z, rfl, ht, hd, hp⟩ := S.at_ _ _ _ hat
  have hik : i + 0 < vs.length := by have := (List.getElem?_eq_some_iff.mp hv).1; omega
  have ht' := hsub _ ht
  have hd' := hsub _ hd
  refine wpAny_call ?_
  k_dflt (refine' code_def (binds := [("reader", .ref r)]) ?k1 ?k2 ?k3 ?k4 ?k5 ?kA ?kF ?kK ?k6 ?k7 ?k8 ?k9 ?kB ?_ ?c2 ?c3 ?c4 ?c5; (case kA => exact rfl); (case kF => exact rfl); (case kK => first | assumption | exact rfl); (case k1 => k_asm); (case k2 => k_asm); (case k3 => k_asm); (case k4 => k_asm); (case k5 => k_asm); (case k6 => k_is); (case k7 => k_is); (case k8 => ktr_room); (case k9 => first | exact BindsTo.of_eq rfl | exact binds_K (by k_in) rfl (by k_is) rfl rfl rfl); (case c5 => decide); (case kB => exact locs rfl); (case c2 => exact rfl); (case c3 => exact rfl); (case c4 => exact rfl); k_whole; intro g' L' h' FG' F' N' B' X' T'; (try dsimp only [List.reverse, List.reverseAux] at F'); (try dsimp only); (try k_fold))
  k_steps
  all_goals exact ret _ _ _ _ _ _ (by k_asm) (by k_asm) (by assumption)
end

/-- the tokens of a worth, by its number; 7 is the literal z -/
def LT : Nat → List (PySem.Str × PySem.Str)
  | 0 => [("number", "5")]
  | 1 => [("sign", "-"), ("number", "2.50")]
  | 2 => [("literal", "a b")]
  | 3 => [("word", "SPACES")]
  | 4 => [("word", "ALL"), ("literal", "x")]
  | 5 => [("word", "HIGH-VALUE")]
  | 6 => [("sign", "+"), ("number", "007")]
  | _ => [("literal", "z")]
/-- what is read of it -/
def LD : Nat → Dat
  | 0 => .tuple [.str "number", .tuple [.int 5, .int 0]]
  | 1 => .tuple [.str "number", .tuple [.int (-25), .int 1]]
  | 2 => .tuple [.str "text", .bytes #[97, 32, 98]]
  | 3 => .tuple [.str "figure", .str "SPACE"]
  | 4 => .tuple [.str "all", .bytes #[120]]
  | 5 => .tuple [.str "figure", .str "HIGH"]
  | 6 => .tuple [.str "number", .tuple [.int 7, .int 0]]
  | _ => .tuple [.str "text", .bytes #[122]]
section
variable {h₀ h' : Heap} {L D D2 : Addr} {m : PySem.Str → Option Value} {s : Shared} {Q : Value → Shared → Prop} {nwk : Tok → List (Addr × Obj)} {d d2 : Dat} {tk' : Nat} {ti' : Tok} {k x y : PySem.Str} {u1 u2 u3 u4 : Tok} {z1 z2 : Nat} {a b : Int} {bs : Array UInt8} {base : List (Addr × Obj)}
theorem end_lit1 (ret : ∀ h' tk' ti' D nn, Fr h₀ L h' m → News h₀ L h' (nn ++ nwk ti') → DatIn nn (.ref D) d → (∀ q ∈ nwk ti', ∀ p ∈ nn, q.1 < p.1) → Q (.ref D) { s with heap := h', toks := tk' })
    (F : Fr h₀ L h' m) (hb : nwk ti' = base) {v1 v2 : Value} {e1 e2 : Dat} (N : News h₀ L h' ((D, tupOf [v1, v2] z1) :: base)) (h1 : DatIn [] v1 e1) (h2 : DatIn [] v2 e2) (hd : Dat.tuple [e1, e2] = d) (l : ∀ q ∈ base, q.1 < D) : Q (.ref D) { s with heap := h', toks := tk' } := by
  subst hd hb
  exact ret h' tk' ti' D [(D, tupOf [v1, v2] z1)] F N (.tuple (n := z1) (vs := [v1, v2]) (List.mem_cons_self ..) (.cons (DatIn.mono (news := []) (fun p hp => absurd hp List.not_mem_nil) h1) (.cons (DatIn.mono (news := []) (fun p hp => absurd hp List.not_mem_nil) h2) .nil))) (fun q hq p hp => by rw [List.mem_singleton.mp hp]; exact l q hq)
theorem end_lit2 (ret : ∀ h' tk' ti' D nn, Fr h₀ L h' m → News h₀ L h' (nn ++ nwk ti') → DatIn nn (.ref D) d → (∀ q ∈ nwk ti', ∀ p ∈ nn, q.1 < p.1) → Q (.ref D) { s with heap := h', toks := tk' })
    (F : Fr h₀ L h' m) (hb : nwk ti' = base) (N : News h₀ L h' ((D, tupOf [.str k u1, .ref D2] z1) :: (D2, tupOf [.int a u2, .int b u3] z2) :: base)) (hd : Dat.tuple [.str k, .tuple [.int a, .int b]] = d) (l : ∀ q ∈ base, q.1 < D2) (lt : D2 < D) : Q (.ref D) { s with heap := h', toks := tk' } := by
  subst hd hb
  refine ret h' tk' ti' D [(D, tupOf [.str k u1, .ref D2] z1), (D2, tupOf [.int a u2, .int b u3] z2)] F N (.tuple (n := z1) (vs := [.str k u1, .ref D2]) (List.mem_cons_self ..) (.cons (.str k u1) (.cons (.tuple (n := z2) (vs := [.int a u2, .int b u3]) (List.mem_cons_of_mem _ (List.mem_cons_self ..)) (.cons (.int a u2) (.cons (.int b u3) .nil))) .nil))) (fun q hq p hp => ?_)
  rcases List.mem_cons.mp hp with rfl | hp
  · exact Nat.lt_trans (l q hq) lt
  · rw [List.mem_singleton.mp hp]; exact l q hq
end
local macro_rules | `(tactic| walk_at "call ref") => `(tactic| (k_here; (show wpAny _ _ (call (Value.ref 359) _) _ _ _); k_dflt (first | (apply signed_c; walk_at "U20") | (apply signed_b; walk_at "U20") | (apply signed_a; walk_at "U19"))))
local macro_rules | `(tactic| walk_at "call ref") => `(tactic| (k_here; (show wpAny _ _ (call (Value.ref 64) _) _ _ _); k_dflt (first | (apply figure_none; walk_at "U11") | (apply figure_HIGH; walk_at "U19") | (apply figure_SPACE; walk_at "U19"))))
local macro_rules | `(tactic| walk_at "call ref") => `(tactic| (k_here; (show wpAny _ _ (call (Value.ref 57) _) _ _ _); k_dflt (apply all_x; walk_at "U19")))
section
variable {w : World} {mean : ExcName → Option Value} {mg mb : PySem.Str → Option Value} {dp un : Nat} {gd : Option (List Code)} {cn : PySem.Str} {cs : Scope} {a : Addr} {ccd : Value} {cl : List (PySem.Str × Addr)} {outer : List Env} {A₀ : Around} {base h₀ : Heap} {L : Addr} {m : PySem.Str → Option Value} {news rest : List (Addr × Obj)} {s : Shared} {Q E : Value → Shared → Prop} {r dr tl nd : Addr} {t1 t2 t3 ti : Tok} {i : Int} {n : Nat} {vs : List Value} {toks : List (PySem.Str × PySem.Str)} {nw : Int → Tok → List (Addr × Obj)}
theorem operand_0 (B : Below A₀ base outer h₀) (F : Fr h₀ L s.heap m) (X : (frag.heap_1 w.params).In h₀) (N : News h₀ L s.heap news) (T : Top (vG pG) (looseW (vG pG) ls) mean mg mb h₀) (hk : cs.kind = .function) (S : RS w rest r dr tl nd n vs toks) (hdr : (dr, RD w t1 t2 t3 tl i ti nd) ∈ news) (hsub : ∀ p ∈ rest, p ∈ news) (hU : ∀ j tj, Upd dr (RD w t1 t2 t3 tl i ti nd) (RD w t1 t2 t3 tl j tj nd) news (nw j tj)) (hat : toks[i.toNat]? = some (PySem.Str.ofString "number", PySem.Str.ofString "5")) (h0 : 0 ≤ i)
    (hdp : dp + 6 < recursionLimit) (hun : un + 48 < cLine) (ret : ∀ h' tk' ti' D nn, Fr h₀ L h' m → News h₀ L h' (nn ++ nw (i + 1) ti') → DatIn nn (.ref D) (LD 0) → (∀ q ∈ nw (i + 1) ti', ∀ p ∈ nn, q.1 < p.1) → Q (.ref D) { s with heap := h', toks := tk' }) :
    wpAny (model PySem.Challenge.rw_pb0262_01.row.prog w) (ktrTop dp un gd cn cs L a ccd cl outer) (call (.ref 71) [.ref r, .ref 78]) Q E s := by
  have hr0 := S.hr
  have hl0 := S.hl
  have hr := hsub _ S.hr
  have hl := hsub _ S.hl
  have hlen : vs.length < 1000 := by have := S.len; have := S.few; omega
  obtain ⟨v, hv, t, d, p, u1, u2, u3, u4, u5, u6, v1, v2, z, rfl, ht, hd, hp⟩ := S.at_ _ _ _ hat
  have hik : i + 0 < vs.length := by have := (List.getElem?_eq_some_iff.mp hv).1; omega
  have ht' := hsub _ ht
  have hd' := hsub _ hd
  refine wpAny_call ?_
  k_dflt (refine' code_def (binds := [("reader", .ref r), ("read_expr", .ref 78)]) ?k1 ?k2 ?k3 ?k4 ?k5 ?kA ?kF ?kK ?k6 ?k7 ?k8 ?k9 ?kB ?_ ?c2 ?c3 ?c4 ?c5; (case kA => exact rfl); (case kF => exact rfl); (case kK => first | assumption | exact rfl); (case k1 => k_asm); (case k2 => k_asm); (case k3 => k_asm); (case k4 => k_asm); (case k5 => k_asm); (case k6 => k_is); (case k7 => k_is); (case k8 => ktr_room); (case k9 => first | exact BindsTo.of_eq rfl | exact binds_K (by k_in) rfl (by k_is) rfl rfl rfl); (case c5 => decide); (case kB => exact locs rfl); (case c2 => exact rfl); (case c3 => exact rfl); (case c4 => exact rfl); k_whole; intro g' L' h' FG' F' N' B' X' T'; (try dsimp only [List.reverse, List.reverseAux] at F'); (try dsimp only); (try k_fold))
  k_steps
  all_goals exact end_lit2 ret (by k_asm) rfl (by k_asm) rfl l9 (ltN (by omega))
theorem operand_1 (B : Below A₀ base outer h₀) (F : Fr h₀ L s.heap m) (X : (frag.heap_1 w.params).In h₀) (N : News h₀ L s.heap news) (T : Top (vG pG) (looseW (vG pG) ls) mean mg mb h₀) (hk : cs.kind = .function) (S : RS w rest r dr tl nd n vs toks) (hdr : (dr, RD w t1 t2 t3 tl i ti nd) ∈ news) (hsub : ∀ p ∈ rest, p ∈ news) (hU : ∀ j tj, Upd dr (RD w t1 t2 t3 tl i ti nd) (RD w t1 t2 t3 tl j tj nd) news (nw j tj)) (hat : toks[i.toNat]? = some (PySem.Str.ofString "sign", PySem.Str.ofString "-")) (hat1 : toks[(i + 1).toNat]? = some (PySem.Str.ofString "number", PySem.Str.ofString "2.50")) (h0 : 0 ≤ i)
    (hdp : dp + 6 < recursionLimit) (hun : un + 48 < cLine) (ret : ∀ h' tk' ti' D nn, Fr h₀ L h' m → News h₀ L h' (nn ++ nw (i + 1 + 1) ti') → DatIn nn (.ref D) (LD 1) → (∀ q ∈ nw (i + 1 + 1) ti', ∀ p ∈ nn, q.1 < p.1) → Q (.ref D) { s with heap := h', toks := tk' }) :
    wpAny (model PySem.Challenge.rw_pb0262_01.row.prog w) (ktrTop dp un gd cn cs L a ccd cl outer) (call (.ref 71) [.ref r, .ref 78]) Q E s := by
  have hr0 := S.hr
  have hl0 := S.hl
  have hr := hsub _ S.hr
  have hl := hsub _ S.hl
  have hlen : vs.length < 1000 := by have := S.len; have := S.few; omega
  obtain ⟨v, hv, t, d, p, u1, u2, u3, u4, u5, u6, v1, v2, z, rfl, ht, hd, hp⟩ := S.at_ _ _ _ hat
  have hik : i + 0 < vs.length := by have := (List.getElem?_eq_some_iff.mp hv).1; omega
  have ht' := hsub _ ht
  have hd' := hsub _ hd
  obtain ⟨vB, hvB, tB, dB, pB, w1, w2, w3, w4, w5, w6, x1, x2, zB, rfl, htB, hdB, hpB⟩ := S.at_ _ _ _ hat1
  have htB' := hsub _ htB
  have hdB' := hsub _ hdB
  have h01 : 0 ≤ i + 1 := by omega
  have hikB : i + 1 < vs.length := by have := (List.getElem?_eq_some_iff.mp hvB).1; omega
  refine wpAny_call ?_
  k_dflt (refine' code_def (binds := [("reader", .ref r), ("read_expr", .ref 78)]) ?k1 ?k2 ?k3 ?k4 ?k5 ?kA ?kF ?kK ?k6 ?k7 ?k8 ?k9 ?kB ?_ ?c2 ?c3 ?c4 ?c5; (case kA => exact rfl); (case kF => exact rfl); (case kK => first | assumption | exact rfl); (case k1 => k_asm); (case k2 => k_asm); (case k3 => k_asm); (case k4 => k_asm); (case k5 => k_asm); (case k6 => k_is); (case k7 => k_is); (case k8 => ktr_room); (case k9 => first | exact BindsTo.of_eq rfl | exact binds_K (by k_in) rfl (by k_is) rfl rfl rfl); (case c5 => decide); (case kB => exact locs rfl); (case c2 => exact rfl); (case c3 => exact rfl); (case c4 => exact rfl); k_whole; intro g' L' h' FG' F' N' B' X' T'; (try dsimp only [List.reverse, List.reverseAux] at F'); (try dsimp only); (try k_fold))
  k_steps
  all_goals exact end_lit2 ret (by k_asm) rfl (by k_asm) rfl l9 (ltN (by omega))
theorem operand_2 (B : Below A₀ base outer h₀) (F : Fr h₀ L s.heap m) (X : (frag.heap_1 w.params).In h₀) (N : News h₀ L s.heap news) (T : Top (vG pG) (looseW (vG pG) ls) mean mg mb h₀) (hk : cs.kind = .function) (S : RS w rest r dr tl nd n vs toks) (hdr : (dr, RD w t1 t2 t3 tl i ti nd) ∈ news) (hsub : ∀ p ∈ rest, p ∈ news) (hU : ∀ j tj, Upd dr (RD w t1 t2 t3 tl i ti nd) (RD w t1 t2 t3 tl j tj nd) news (nw j tj)) (hat : toks[i.toNat]? = some (PySem.Str.ofString "literal", PySem.Str.ofString "a b")) (h0 : 0 ≤ i)
    (hdp : dp + 6 < recursionLimit) (hun : un + 48 < cLine) (ret : ∀ h' tk' ti' D nn, Fr h₀ L h' m → News h₀ L h' (nn ++ nw (i + 1) ti') → DatIn nn (.ref D) (LD 2) → (∀ q ∈ nw (i + 1) ti', ∀ p ∈ nn, q.1 < p.1) → Q (.ref D) { s with heap := h', toks := tk' }) :
    wpAny (model PySem.Challenge.rw_pb0262_01.row.prog w) (ktrTop dp un gd cn cs L a ccd cl outer) (call (.ref 71) [.ref r, .ref 78]) Q E s := by
  have hr0 := S.hr
  have hl0 := S.hl
  have hr := hsub _ S.hr
  have hl := hsub _ S.hl
  have hlen : vs.length < 1000 := by have := S.len; have := S.few; omega
  obtain ⟨v, hv, t, d, p, u1, u2, u3, u4, u5, u6, v1, v2, z, rfl, ht, hd, hp⟩ := S.at_ _ _ _ hat
  have hik : i + 0 < vs.length := by have := (List.getElem?_eq_some_iff.mp hv).1; omega
  have ht' := hsub _ ht
  have hd' := hsub _ hd
  refine wpAny_call ?_
  k_dflt (refine' code_def (binds := [("reader", .ref r), ("read_expr", .ref 78)]) ?k1 ?k2 ?k3 ?k4 ?k5 ?kA ?kF ?kK ?k6 ?k7 ?k8 ?k9 ?kB ?_ ?c2 ?c3 ?c4 ?c5; (case kA => exact rfl); (case kF => exact rfl); (case kK => first | assumption | exact rfl); (case k1 => k_asm); (case k2 => k_asm); (case k3 => k_asm); (case k4 => k_asm); (case k5 => k_asm); (case k6 => k_is); (case k7 => k_is); (case k8 => ktr_room); (case k9 => first | exact BindsTo.of_eq rfl | exact binds_K (by k_in) rfl (by k_is) rfl rfl rfl); (case c5 => decide); (case kB => exact locs rfl); (case c2 => exact rfl); (case c3 => exact rfl); (case c4 => exact rfl); k_whole; intro g' L' h' FG' F' N' B' X' T'; (try dsimp only [List.reverse, List.reverseAux] at F'); (try dsimp only); (try k_fold))
  k_steps
  all_goals exact end_lit1 ret (by k_asm) rfl (by k_asm) (.str _ _) (.bytes _ _) rfl (by assumption)
theorem operand_3 (B : Below A₀ base outer h₀) (F : Fr h₀ L s.heap m) (X : (frag.heap_1 w.params).In h₀) (N : News h₀ L s.heap news) (T : Top (vG pG) (looseW (vG pG) ls) mean mg mb h₀) (hk : cs.kind = .function) (S : RS w rest r dr tl nd n vs toks) (hdr : (dr, RD w t1 t2 t3 tl i ti nd) ∈ news) (hsub : ∀ p ∈ rest, p ∈ news) (hU : ∀ j tj, Upd dr (RD w t1 t2 t3 tl i ti nd) (RD w t1 t2 t3 tl j tj nd) news (nw j tj)) (hat : toks[i.toNat]? = some (PySem.Str.ofString "word", PySem.Str.ofString "SPACES")) (h0 : 0 ≤ i)
    (hdp : dp + 6 < recursionLimit) (hun : un + 48 < cLine) (ret : ∀ h' tk' ti' D nn, Fr h₀ L h' m → News h₀ L h' (nn ++ nw (i + 1) ti') → DatIn nn (.ref D) (LD 3) → (∀ q ∈ nw (i + 1) ti', ∀ p ∈ nn, q.1 < p.1) → Q (.ref D) { s with heap := h', toks := tk' }) :
    wpAny (model PySem.Challenge.rw_pb0262_01.row.prog w) (ktrTop dp un gd cn cs L a ccd cl outer) (call (.ref 71) [.ref r, .ref 78]) Q E s := by
  have hr0 := S.hr
  have hl0 := S.hl
  have hr := hsub _ S.hr
  have hl := hsub _ S.hl
  have hlen : vs.length < 1000 := by have := S.len; have := S.few; omega
  obtain ⟨v, hv, t, d, p, u1, u2, u3, u4, u5, u6, v1, v2, z, rfl, ht, hd, hp⟩ := S.at_ _ _ _ hat
  have hik : i + 0 < vs.length := by have := (List.getElem?_eq_some_iff.mp hv).1; omega
  have ht' := hsub _ ht
  have hd' := hsub _ hd
  refine wpAny_call ?_
  k_dflt (refine' code_def (binds := [("reader", .ref r), ("read_expr", .ref 78)]) ?k1 ?k2 ?k3 ?k4 ?k5 ?kA ?kF ?kK ?k6 ?k7 ?k8 ?k9 ?kB ?_ ?c2 ?c3 ?c4 ?c5; (case kA => exact rfl); (case kF => exact rfl); (case kK => first | assumption | exact rfl); (case k1 => k_asm); (case k2 => k_asm); (case k3 => k_asm); (case k4 => k_asm); (case k5 => k_asm); (case k6 => k_is); (case k7 => k_is); (case k8 => ktr_room); (case k9 => first | exact BindsTo.of_eq rfl | exact binds_K (by k_in) rfl (by k_is) rfl rfl rfl); (case c5 => decide); (case kB => exact locs rfl); (case c2 => exact rfl); (case c3 => exact rfl); (case c4 => exact rfl); k_whole; intro g' L' h' FG' F' N' B' X' T'; (try dsimp only [List.reverse, List.reverseAux] at F'); (try dsimp only); (try k_fold))
  k_steps
  all_goals exact end_lit1 ret (by k_asm) rfl (by k_asm) (.str _ _) (.str _ _) rfl (by assumption)
theorem operand_4 (B : Below A₀ base outer h₀) (F : Fr h₀ L s.heap m) (X : (frag.heap_1 w.params).In h₀) (N : News h₀ L s.heap news) (T : Top (vG pG) (looseW (vG pG) ls) mean mg mb h₀) (hk : cs.kind = .function) (S : RS w rest r dr tl nd n vs toks) (hdr : (dr, RD w t1 t2 t3 tl i ti nd) ∈ news) (hsub : ∀ p ∈ rest, p ∈ news) (hU : ∀ j tj, Upd dr (RD w t1 t2 t3 tl i ti nd) (RD w t1 t2 t3 tl j tj nd) news (nw j tj)) (hat : toks[i.toNat]? = some (PySem.Str.ofString "word", PySem.Str.ofString "ALL")) (hat1 : toks[(i + 1).toNat]? = some (PySem.Str.ofString "literal", PySem.Str.ofString "x")) (h0 : 0 ≤ i)
    (hdp : dp + 6 < recursionLimit) (hun : un + 48 < cLine) (ret : ∀ h' tk' ti' D nn, Fr h₀ L h' m → News h₀ L h' (nn ++ nw (i + 1 + 1) ti') → DatIn nn (.ref D) (LD 4) → (∀ q ∈ nw (i + 1 + 1) ti', ∀ p ∈ nn, q.1 < p.1) → Q (.ref D) { s with heap := h', toks := tk' }) :
    wpAny (model PySem.Challenge.rw_pb0262_01.row.prog w) (ktrTop dp un gd cn cs L a ccd cl outer) (call (.ref 71) [.ref r, .ref 78]) Q E s := by
  have hr0 := S.hr
  have hl0 := S.hl
  have hr := hsub _ S.hr
  have hl := hsub _ S.hl
  have hlen : vs.length < 1000 := by have := S.len; have := S.few; omega
  obtain ⟨v, hv, t, d, p, u1, u2, u3, u4, u5, u6, v1, v2, z, rfl, ht, hd, hp⟩ := S.at_ _ _ _ hat
  have hik : i + 0 < vs.length := by have := (List.getElem?_eq_some_iff.mp hv).1; omega
  have ht' := hsub _ ht
  have hd' := hsub _ hd
  obtain ⟨vB, hvB, tB, dB, pB, w1, w2, w3, w4, w5, w6, x1, x2, zB, rfl, htB, hdB, hpB⟩ := S.at_ _ _ _ hat1
  have htB' := hsub _ htB
  have hdB' := hsub _ hdB
  have h01 : 0 ≤ i + 1 := by omega
  have hikB : i + 1 < vs.length := by have := (List.getElem?_eq_some_iff.mp hvB).1; omega
  refine wpAny_call ?_
  k_dflt (refine' code_def (binds := [("reader", .ref r), ("read_expr", .ref 78)]) ?k1 ?k2 ?k3 ?k4 ?k5 ?kA ?kF ?kK ?k6 ?k7 ?k8 ?k9 ?kB ?_ ?c2 ?c3 ?c4 ?c5; (case kA => exact rfl); (case kF => exact rfl); (case kK => first | assumption | exact rfl); (case k1 => k_asm); (case k2 => k_asm); (case k3 => k_asm); (case k4 => k_asm); (case k5 => k_asm); (case k6 => k_is); (case k7 => k_is); (case k8 => ktr_room); (case k9 => first | exact BindsTo.of_eq rfl | exact binds_K (by k_in) rfl (by k_is) rfl rfl rfl); (case c5 => decide); (case kB => exact locs rfl); (case c2 => exact rfl); (case c3 => exact rfl); (case c4 => exact rfl); k_whole; intro g' L' h' FG' F' N' B' X' T'; (try dsimp only [List.reverse, List.reverseAux] at F'); (try dsimp only); (try k_fold))
  k_steps
  all_goals exact end_lit1 ret (by k_asm) rfl (by k_asm) (.str _ _) (.bytes _ _) rfl (by assumption)
theorem operand_5 (B : Below A₀ base outer h₀) (F : Fr h₀ L s.heap m) (X : (frag.heap_1 w.params).In h₀) (N : News h₀ L s.heap news) (T : Top (vG pG) (looseW (vG pG) ls) mean mg mb h₀) (hk : cs.kind = .function) (S : RS w rest r dr tl nd n vs toks) (hdr : (dr, RD w t1 t2 t3 tl i ti nd) ∈ news) (hsub : ∀ p ∈ rest, p ∈ news) (hU : ∀ j tj, Upd dr (RD w t1 t2 t3 tl i ti nd) (RD w t1 t2 t3 tl j tj nd) news (nw j tj)) (hat : toks[i.toNat]? = some (PySem.Str.ofString "word", PySem.Str.ofString "HIGH-VALUE")) (h0 : 0 ≤ i)
    (hdp : dp + 6 < recursionLimit) (hun : un + 48 < cLine) (ret : ∀ h' tk' ti' D nn, Fr h₀ L h' m → News h₀ L h' (nn ++ nw (i + 1) ti') → DatIn nn (.ref D) (LD 5) → (∀ q ∈ nw (i + 1) ti', ∀ p ∈ nn, q.1 < p.1) → Q (.ref D) { s with heap := h', toks := tk' }) :
    wpAny (model PySem.Challenge.rw_pb0262_01.row.prog w) (ktrTop dp un gd cn cs L a ccd cl outer) (call (.ref 71) [.ref r, .ref 78]) Q E s := by
  have hr0 := S.hr
  have hl0 := S.hl
  have hr := hsub _ S.hr
  have hl := hsub _ S.hl
  have hlen : vs.length < 1000 := by have := S.len; have := S.few; omega
  obtain ⟨v, hv, t, d, p, u1, u2, u3, u4, u5, u6, v1, v2, z, rfl, ht, hd, hp⟩ := S.at_ _ _ _ hat
  have hik : i + 0 < vs.length := by have := (List.getElem?_eq_some_iff.mp hv).1; omega
  have ht' := hsub _ ht
  have hd' := hsub _ hd
  refine wpAny_call ?_
  k_dflt (refine' code_def (binds := [("reader", .ref r), ("read_expr", .ref 78)]) ?k1 ?k2 ?k3 ?k4 ?k5 ?kA ?kF ?kK ?k6 ?k7 ?k8 ?k9 ?kB ?_ ?c2 ?c3 ?c4 ?c5; (case kA => exact rfl); (case kF => exact rfl); (case kK => first | assumption | exact rfl); (case k1 => k_asm); (case k2 => k_asm); (case k3 => k_asm); (case k4 => k_asm); (case k5 => k_asm); (case k6 => k_is); (case k7 => k_is); (case k8 => ktr_room); (case k9 => first | exact BindsTo.of_eq rfl | exact binds_K (by k_in) rfl (by k_is) rfl rfl rfl); (case c5 => decide); (case kB => exact locs rfl); (case c2 => exact rfl); (case c3 => exact rfl); (case c4 => exact rfl); k_whole; intro g' L' h' FG' F' N' B' X' T'; (try dsimp only [List.reverse, List.reverseAux] at F'); (try dsimp only); (try k_fold))
  k_steps
  all_goals exact end_lit1 ret (by k_asm) rfl (by k_asm) (.str _ _) (.str _ _) rfl (by assumption)
theorem operand_6 (B : Below A₀ base outer h₀) (F : Fr h₀ L s.heap m) (X : (frag.heap_1 w.params).In h₀) (N : News h₀ L s.heap news) (T : Top (vG pG) (looseW (vG pG) ls) mean mg mb h₀) (hk : cs.kind = .function) (S : RS w rest r dr tl nd n vs toks) (hdr : (dr, RD w t1 t2 t3 tl i ti nd) ∈ news) (hsub : ∀ p ∈ rest, p ∈ news) (hU : ∀ j tj, Upd dr (RD w t1 t2 t3 tl i ti nd) (RD w t1 t2 t3 tl j tj nd) news (nw j tj)) (hat : toks[i.toNat]? = some (PySem.Str.ofString "sign", PySem.Str.ofString "+")) (hat1 : toks[(i + 1).toNat]? = some (PySem.Str.ofString "number", PySem.Str.ofString "007")) (h0 : 0 ≤ i)
    (hdp : dp + 6 < recursionLimit) (hun : un + 48 < cLine) (ret : ∀ h' tk' ti' D nn, Fr h₀ L h' m → News h₀ L h' (nn ++ nw (i + 1 + 1) ti') → DatIn nn (.ref D) (LD 6) → (∀ q ∈ nw (i + 1 + 1) ti', ∀ p ∈ nn, q.1 < p.1) → Q (.ref D) { s with heap := h', toks := tk' }) :
    wpAny (model PySem.Challenge.rw_pb0262_01.row.prog w) (ktrTop dp un gd cn cs L a ccd cl outer) (call (.ref 71) [.ref r, .ref 78]) Q E s := by
  have hr0 := S.hr
  have hl0 := S.hl
  have hr := hsub _ S.hr
  have hl := hsub _ S.hl
  have hlen : vs.length < 1000 := by have := S.len; have := S.few; omega
  obtain ⟨v, hv, t, d, p, u1, u2, u3, u4, u5, u6, v1, v2, z, rfl, ht, hd, hp⟩ := S.at_ _ _ _ hat
  have hik : i + 0 < vs.length := by have := (List.getElem?_eq_some_iff.mp hv).1; omega
  have ht' := hsub _ ht
  have hd' := hsub _ hd
  obtain ⟨vB, hvB, tB, dB, pB, w1, w2, w3, w4, w5, w6, x1, x2, zB, rfl, htB, hdB, hpB⟩ := S.at_ _ _ _ hat1
  have htB' := hsub _ htB
  have hdB' := hsub _ hdB
  have h01 : 0 ≤ i + 1 := by omega
  have hikB : i + 1 < vs.length := by have := (List.getElem?_eq_some_iff.mp hvB).1; omega
  refine wpAny_call ?_
  k_dflt (refine' code_def (binds := [("reader", .ref r), ("read_expr", .ref 78)]) ?k1 ?k2 ?k3 ?k4 ?k5 ?kA ?kF ?kK ?k6 ?k7 ?k8 ?k9 ?kB ?_ ?c2 ?c3 ?c4 ?c5; (case kA => exact rfl); (case kF => exact rfl); (case kK => first | assumption | exact rfl); (case k1 => k_asm); (case k2 => k_asm); (case k3 => k_asm); (case k4 => k_asm); (case k5 => k_asm); (case k6 => k_is); (case k7 => k_is); (case k8 => ktr_room); (case k9 => first | exact BindsTo.of_eq rfl | exact binds_K (by k_in) rfl (by k_is) rfl rfl rfl); (case c5 => decide); (case kB => exact locs rfl); (case c2 => exact rfl); (case c3 => exact rfl); (case c4 => exact rfl); k_whole; intro g' L' h' FG' F' N' B' X' T'; (try dsimp only [List.reverse, List.reverseAux] at F'); (try dsimp only); (try k_fold))
  k_steps
  all_goals exact end_lit2 ret (by k_asm) rfl (by k_asm) rfl l9 (ltN (by omega))
theorem operand_7 (B : Below A₀ base outer h₀) (F : Fr h₀ L s.heap m) (X : (frag.heap_1 w.params).In h₀) (N : News h₀ L s.heap news) (T : Top (vG pG) (looseW (vG pG) ls) mean mg mb h₀) (hk : cs.kind = .function) (S : RS w rest r dr tl nd n vs toks) (hdr : (dr, RD w t1 t2 t3 tl i ti nd) ∈ news) (hsub : ∀ p ∈ rest, p ∈ news) (hU : ∀ j tj, Upd dr (RD w t1 t2 t3 tl i ti nd) (RD w t1 t2 t3 tl j tj nd) news (nw j tj)) (hat : toks[i.toNat]? = some (PySem.Str.ofString "literal", PySem.Str.ofString "z")) (h0 : 0 ≤ i)
    (hdp : dp + 6 < recursionLimit) (hun : un + 48 < cLine) (ret : ∀ h' tk' ti' D nn, Fr h₀ L h' m → News h₀ L h' (nn ++ nw (i + 1) ti') → DatIn nn (.ref D) (LD 7) → (∀ q ∈ nw (i + 1) ti', ∀ p ∈ nn, q.1 < p.1) → Q (.ref D) { s with heap := h', toks := tk' }) :
    wpAny (model PySem.Challenge.rw_pb0262_01.row.prog w) (ktrTop dp un gd cn cs L a ccd cl outer) (call (.ref 71) [.ref r, .ref 78]) Q E s := by
  have hr0 := S.hr
  have hl0 := S.hl
  have hr := hsub _ S.hr
  have hl := hsub _ S.hl
  have hlen : vs.length < 1000 := by have := S.len; have := S.few; omega
  obtain ⟨v, hv, t, d, p, u1, u2, u3, u4, u5, u6, v1, v2, z, rfl, ht, hd, hp⟩ := S.at_ _ _ _ hat
  have hik : i + 0 < vs.length := by have := (List.getElem?_eq_some_iff.mp hv).1; omega
  have ht' := hsub _ ht
  have hd' := hsub _ hd
  refine wpAny_call ?_
  k_dflt (refine' code_def (binds := [("reader", .ref r), ("read_expr", .ref 78)]) ?k1 ?k2 ?k3 ?k4 ?k5 ?kA ?kF ?kK ?k6 ?k7 ?k8 ?k9 ?kB ?_ ?c2 ?c3 ?c4 ?c5; (case kA => exact rfl); (case kF => exact rfl); (case kK => first | assumption | exact rfl); (case k1 => k_asm); (case k2 => k_asm); (case k3 => k_asm); (case k4 => k_asm); (case k5 => k_asm); (case k6 => k_is); (case k7 => k_is); (case k8 => ktr_room); (case k9 => first | exact BindsTo.of_eq rfl | exact binds_K (by k_in) rfl (by k_is) rfl rfl rfl); (case c5 => decide); (case kB => exact locs rfl); (case c2 => exact rfl); (case c3 => exact rfl); (case c4 => exact rfl); k_whole; intro g' L' h' FG' F' N' B' X' T'; (try dsimp only [List.reverse, List.reverseAux] at F'); (try dsimp only); (try k_fold))
  k_steps
  all_goals exact end_lit1 ret (by k_asm) rfl (by k_asm) (.str _ _) (.bytes _ _) rfl (by assumption)
end

local macro_rules | `(tactic| walk_at "call ref") => `(tactic| (k_here; (with_reducible show wpAny _ _ (call (Value.ref 71) _) _ _ _); k_dflt (first | (apply operand_7; walk_at "U21") | (apply operand_6; walk_at "U22") | (apply operand_5; walk_at "U21") | (apply operand_4; walk_at "U22") | (apply operand_3; walk_at "U21") | (apply operand_2; walk_at "U21") | (apply operand_1; walk_at "U22") | (apply operand_0; walk_at "U21"))))
local macro_rules | `(tactic| walk_at "call ref") => `(tactic| (k_here; (show wpAny _ _ (call (Value.ref 316) _) _ _ _); k_dflt (apply name_raise; walk_at "U23")))
section
variable {w : World} {mean : ExcName → Option Value} {mg mb : PySem.Str → Option Value} {dp un : Nat} {gd : Option (List Code)} {cn : PySem.Str} {cs : Scope} {a : Addr} {ccd : Value} {cl : List (PySem.Str × Addr)} {outer : List Env} {A₀ : Around} {base h₀ : Heap} {L : Addr} {m : PySem.Str → Option Value} {news rest : List (Addr × Obj)} {s : Shared} {Q E : Value → Shared → Prop} {r dr tl nd : Addr} {t1 t2 t3 ti : Tok} {i : Int} {n : Nat} {vs : List Value} {toks : List (PySem.Str × PySem.Str)} {nw : Int → Tok → List (Addr × Obj)}
theorem literal_0 (B : Below A₀ base outer h₀) (F : Fr h₀ L s.heap m) (X : (frag.heap_1 w.params).In h₀) (N : News h₀ L s.heap news) (T : Top (vG pG) (looseW (vG pG) ls) mean mg mb h₀) (hk : cs.kind = .function) (S : RS w rest r dr tl nd n vs toks) (hdr : (dr, RD w t1 t2 t3 tl i ti nd) ∈ news) (hsub : ∀ p ∈ rest, p ∈ news) (hU : ∀ j tj, Upd dr (RD w t1 t2 t3 tl i ti nd) (RD w t1 t2 t3 tl j tj nd) news (nw j tj)) (hat : toks[i.toNat]? = some (PySem.Str.ofString "number", PySem.Str.ofString "5")) (h0 : 0 ≤ i)
    (hdp : dp + 7 < recursionLimit) (hun : un + 56 < cLine) (ret : ∀ h' tk' ti' D nn, Fr h₀ L h' m → News h₀ L h' (nn ++ nw (i + 1) ti') → DatIn nn (.ref D) (LD 0) → (∀ q ∈ nw (i + 1) ti', ∀ p ∈ nn, q.1 < p.1) → Q (.ref D) { s with heap := h', toks := tk' }) :
    wpAny (model PySem.Challenge.rw_pb0262_01.row.prog w) (ktrTop dp un gd cn cs L a ccd cl outer) (call (.ref 85) [.ref r]) Q E s := by
  have hr0 := S.hr
  have hl0 := S.hl
  have hr := hsub _ S.hr
  have hl := hsub _ S.hl
  have hlen : vs.length < 1000 := by have := S.len; have := S.few; omega
  obtain ⟨v, hv, t, d, p, u1, u2, u3, u4, u5, u6, v1, v2, z, rfl, ht, hd, hp⟩ := S.at_ _ _ _ hat
  have hik : i + 0 < vs.length := by have := (List.getElem?_eq_some_iff.mp hv).1; omega
  have ht' := hsub _ ht
  have hd' := hsub _ hd
  have hω : (PySem.Str.ofString "5").length ≤ 64 := by decide +kernel
  have hb : ((PySem.Str.ofString "number") == (PySem.Str.ofString "word") && !isRes resStr (PySem.Str.ofString " " ++ (PySem.Str.ofString "5") ++ PySem.Str.ofString " ")) = false := by rw [show ((PySem.Str.ofString "number") == (PySem.Str.ofString "word")) = false from by decide +kernel, Bool.false_and]
  refine wpAny_call ?_
  k_dflt (refine' code_def (binds := [("reader", .ref r)]) ?k1 ?k2 ?k3 ?k4 ?k5 ?kA ?kF ?kK ?k6 ?k7 ?k8 ?k9 ?kB ?_ ?c2 ?c3 ?c4 ?c5; (case kA => exact rfl); (case kF => exact rfl); (case kK => first | assumption | exact rfl); (case k1 => k_asm); (case k2 => k_asm); (case k3 => k_asm); (case k4 => k_asm); (case k5 => k_asm); (case k6 => k_is); (case k7 => k_is); (case k8 => ktr_room); (case k9 => first | exact BindsTo.of_eq rfl | exact binds_K (by k_in) rfl (by k_is) rfl rfl rfl); (case c5 => decide); (case kB => exact locs rfl); (case c2 => exact rfl); (case c3 => exact rfl); (case c4 => exact rfl); k_whole; intro g' L' h' FG' F' N' B' X' T'; (try dsimp only [List.reverse, List.reverseAux] at F'); (try dsimp only); (try k_fold))
  k_steps
  all_goals exact ret _ _ _ _ _ (by k_asm) (by k_asm) dd9 l9
theorem literal_1 (B : Below A₀ base outer h₀) (F : Fr h₀ L s.heap m) (X : (frag.heap_1 w.params).In h₀) (N : News h₀ L s.heap news) (T : Top (vG pG) (looseW (vG pG) ls) mean mg mb h₀) (hk : cs.kind = .function) (S : RS w rest r dr tl nd n vs toks) (hdr : (dr, RD w t1 t2 t3 tl i ti nd) ∈ news) (hsub : ∀ p ∈ rest, p ∈ news) (hU : ∀ j tj, Upd dr (RD w t1 t2 t3 tl i ti nd) (RD w t1 t2 t3 tl j tj nd) news (nw j tj)) (hat : toks[i.toNat]? = some (PySem.Str.ofString "sign", PySem.Str.ofString "-")) (hat1 : toks[(i + 1).toNat]? = some (PySem.Str.ofString "number", PySem.Str.ofString "2.50")) (h0 : 0 ≤ i)
    (hdp : dp + 7 < recursionLimit) (hun : un + 56 < cLine) (ret : ∀ h' tk' ti' D nn, Fr h₀ L h' m → News h₀ L h' (nn ++ nw (i + 1 + 1) ti') → DatIn nn (.ref D) (LD 1) → (∀ q ∈ nw (i + 1 + 1) ti', ∀ p ∈ nn, q.1 < p.1) → Q (.ref D) { s with heap := h', toks := tk' }) :
    wpAny (model PySem.Challenge.rw_pb0262_01.row.prog w) (ktrTop dp un gd cn cs L a ccd cl outer) (call (.ref 85) [.ref r]) Q E s := by
  have hr0 := S.hr
  have hl0 := S.hl
  have hr := hsub _ S.hr
  have hl := hsub _ S.hl
  have hlen : vs.length < 1000 := by have := S.len; have := S.few; omega
  obtain ⟨v, hv, t, d, p, u1, u2, u3, u4, u5, u6, v1, v2, z, rfl, ht, hd, hp⟩ := S.at_ _ _ _ hat
  have hik : i + 0 < vs.length := by have := (List.getElem?_eq_some_iff.mp hv).1; omega
  have ht' := hsub _ ht
  have hd' := hsub _ hd
  have hω : (PySem.Str.ofString "-").length ≤ 64 := by decide +kernel
  have hb : ((PySem.Str.ofString "sign") == (PySem.Str.ofString "word") && !isRes resStr (PySem.Str.ofString " " ++ (PySem.Str.ofString "-") ++ PySem.Str.ofString " ")) = false := by rw [show ((PySem.Str.ofString "sign") == (PySem.Str.ofString "word")) = false from by decide +kernel, Bool.false_and]
  refine wpAny_call ?_
  k_dflt (refine' code_def (binds := [("reader", .ref r)]) ?k1 ?k2 ?k3 ?k4 ?k5 ?kA ?kF ?kK ?k6 ?k7 ?k8 ?k9 ?kB ?_ ?c2 ?c3 ?c4 ?c5; (case kA => exact rfl); (case kF => exact rfl); (case kK => first | assumption | exact rfl); (case k1 => k_asm); (case k2 => k_asm); (case k3 => k_asm); (case k4 => k_asm); (case k5 => k_asm); (case k6 => k_is); (case k7 => k_is); (case k8 => ktr_room); (case k9 => first | exact BindsTo.of_eq rfl | exact binds_K (by k_in) rfl (by k_is) rfl rfl rfl); (case c5 => decide); (case kB => exact locs rfl); (case c2 => exact rfl); (case c3 => exact rfl); (case c4 => exact rfl); k_whole; intro g' L' h' FG' F' N' B' X' T'; (try dsimp only [List.reverse, List.reverseAux] at F'); (try dsimp only); (try k_fold))
  k_steps
  all_goals exact ret _ _ _ _ _ (by k_asm) (by k_asm) dd9 l9
theorem literal_2 (B : Below A₀ base outer h₀) (F : Fr h₀ L s.heap m) (X : (frag.heap_1 w.params).In h₀) (N : News h₀ L s.heap news) (T : Top (vG pG) (looseW (vG pG) ls) mean mg mb h₀) (hk : cs.kind = .function) (S : RS w rest r dr tl nd n vs toks) (hdr : (dr, RD w t1 t2 t3 tl i ti nd) ∈ news) (hsub : ∀ p ∈ rest, p ∈ news) (hU : ∀ j tj, Upd dr (RD w t1 t2 t3 tl i ti nd) (RD w t1 t2 t3 tl j tj nd) news (nw j tj)) (hat : toks[i.toNat]? = some (PySem.Str.ofString "literal", PySem.Str.ofString "a b")) (h0 : 0 ≤ i)
    (hdp : dp + 7 < recursionLimit) (hun : un + 56 < cLine) (ret : ∀ h' tk' ti' D nn, Fr h₀ L h' m → News h₀ L h' (nn ++ nw (i + 1) ti') → DatIn nn (.ref D) (LD 2) → (∀ q ∈ nw (i + 1) ti', ∀ p ∈ nn, q.1 < p.1) → Q (.ref D) { s with heap := h', toks := tk' }) :
    wpAny (model PySem.Challenge.rw_pb0262_01.row.prog w) (ktrTop dp un gd cn cs L a ccd cl outer) (call (.ref 85) [.ref r]) Q E s := by
  have hr0 := S.hr
  have hl0 := S.hl
  have hr := hsub _ S.hr
  have hl := hsub _ S.hl
  have hlen : vs.length < 1000 := by have := S.len; have := S.few; omega
  obtain ⟨v, hv, t, d, p, u1, u2, u3, u4, u5, u6, v1, v2, z, rfl, ht, hd, hp⟩ := S.at_ _ _ _ hat
  have hik : i + 0 < vs.length := by have := (List.getElem?_eq_some_iff.mp hv).1; omega
  have ht' := hsub _ ht
  have hd' := hsub _ hd
  have hω : (PySem.Str.ofString "a b").length ≤ 64 := by decide +kernel
  have hb : ((PySem.Str.ofString "literal") == (PySem.Str.ofString "word") && !isRes resStr (PySem.Str.ofString " " ++ (PySem.Str.ofString "a b") ++ PySem.Str.ofString " ")) = false := by rw [show ((PySem.Str.ofString "literal") == (PySem.Str.ofString "word")) = false from by decide +kernel, Bool.false_and]
  refine wpAny_call ?_
  k_dflt (refine' code_def (binds := [("reader", .ref r)]) ?k1 ?k2 ?k3 ?k4 ?k5 ?kA ?kF ?kK ?k6 ?k7 ?k8 ?k9 ?kB ?_ ?c2 ?c3 ?c4 ?c5; (case kA => exact rfl); (case kF => exact rfl); (case kK => first | assumption | exact rfl); (case k1 => k_asm); (case k2 => k_asm); (case k3 => k_asm); (case k4 => k_asm); (case k5 => k_asm); (case k6 => k_is); (case k7 => k_is); (case k8 => ktr_room); (case k9 => first | exact BindsTo.of_eq rfl | exact binds_K (by k_in) rfl (by k_is) rfl rfl rfl); (case c5 => decide); (case kB => exact locs rfl); (case c2 => exact rfl); (case c3 => exact rfl); (case c4 => exact rfl); k_whole; intro g' L' h' FG' F' N' B' X' T'; (try dsimp only [List.reverse, List.reverseAux] at F'); (try dsimp only); (try k_fold))
  k_steps
  all_goals exact ret _ _ _ _ _ (by k_asm) (by k_asm) dd9 l9
theorem literal_3 (B : Below A₀ base outer h₀) (F : Fr h₀ L s.heap m) (X : (frag.heap_1 w.params).In h₀) (N : News h₀ L s.heap news) (T : Top (vG pG) (looseW (vG pG) ls) mean mg mb h₀) (hk : cs.kind = .function) (S : RS w rest r dr tl nd n vs toks) (hdr : (dr, RD w t1 t2 t3 tl i ti nd) ∈ news) (hsub : ∀ p ∈ rest, p ∈ news) (hU : ∀ j tj, Upd dr (RD w t1 t2 t3 tl i ti nd) (RD w t1 t2 t3 tl j tj nd) news (nw j tj)) (hat : toks[i.toNat]? = some (PySem.Str.ofString "word", PySem.Str.ofString "SPACES")) (h0 : 0 ≤ i)
    (hdp : dp + 7 < recursionLimit) (hun : un + 56 < cLine) (ret : ∀ h' tk' ti' D nn, Fr h₀ L h' m → News h₀ L h' (nn ++ nw (i + 1) ti') → DatIn nn (.ref D) (LD 3) → (∀ q ∈ nw (i + 1) ti', ∀ p ∈ nn, q.1 < p.1) → Q (.ref D) { s with heap := h', toks := tk' }) :
    wpAny (model PySem.Challenge.rw_pb0262_01.row.prog w) (ktrTop dp un gd cn cs L a ccd cl outer) (call (.ref 85) [.ref r]) Q E s := by
  have hr0 := S.hr
  have hl0 := S.hl
  have hr := hsub _ S.hr
  have hl := hsub _ S.hl
  have hlen : vs.length < 1000 := by have := S.len; have := S.few; omega
  obtain ⟨v, hv, t, d, p, u1, u2, u3, u4, u5, u6, v1, v2, z, rfl, ht, hd, hp⟩ := S.at_ _ _ _ hat
  have hik : i + 0 < vs.length := by have := (List.getElem?_eq_some_iff.mp hv).1; omega
  have ht' := hsub _ ht
  have hd' := hsub _ hd
  have hω : (PySem.Str.ofString "SPACES").length ≤ 64 := by decide +kernel
  have hb : ((PySem.Str.ofString "word") == (PySem.Str.ofString "word") && !isRes resStr (PySem.Str.ofString " " ++ (PySem.Str.ofString "SPACES") ++ PySem.Str.ofString " ")) = false := by rw [res_SPACES]; decide +kernel
  refine wpAny_call ?_
  k_dflt (refine' code_def (binds := [("reader", .ref r)]) ?k1 ?k2 ?k3 ?k4 ?k5 ?kA ?kF ?kK ?k6 ?k7 ?k8 ?k9 ?kB ?_ ?c2 ?c3 ?c4 ?c5; (case kA => exact rfl); (case kF => exact rfl); (case kK => first | assumption | exact rfl); (case k1 => k_asm); (case k2 => k_asm); (case k3 => k_asm); (case k4 => k_asm); (case k5 => k_asm); (case k6 => k_is); (case k7 => k_is); (case k8 => ktr_room); (case k9 => first | exact BindsTo.of_eq rfl | exact binds_K (by k_in) rfl (by k_is) rfl rfl rfl); (case c5 => decide); (case kB => exact locs rfl); (case c2 => exact rfl); (case c3 => exact rfl); (case c4 => exact rfl); k_whole; intro g' L' h' FG' F' N' B' X' T'; (try dsimp only [List.reverse, List.reverseAux] at F'); (try dsimp only); (try k_fold))
  k_steps
  all_goals exact ret _ _ _ _ _ (by k_asm) (by k_asm) dd9 l9
theorem literal_4 (B : Below A₀ base outer h₀) (F : Fr h₀ L s.heap m) (X : (frag.heap_1 w.params).In h₀) (N : News h₀ L s.heap news) (T : Top (vG pG) (looseW (vG pG) ls) mean mg mb h₀) (hk : cs.kind = .function) (S : RS w rest r dr tl nd n vs toks) (hdr : (dr, RD w t1 t2 t3 tl i ti nd) ∈ news) (hsub : ∀ p ∈ rest, p ∈ news) (hU : ∀ j tj, Upd dr (RD w t1 t2 t3 tl i ti nd) (RD w t1 t2 t3 tl j tj nd) news (nw j tj)) (hat : toks[i.toNat]? = some (PySem.Str.ofString "word", PySem.Str.ofString "ALL")) (hat1 : toks[(i + 1).toNat]? = some (PySem.Str.ofString "literal", PySem.Str.ofString "x")) (h0 : 0 ≤ i)
    (hdp : dp + 7 < recursionLimit) (hun : un + 56 < cLine) (ret : ∀ h' tk' ti' D nn, Fr h₀ L h' m → News h₀ L h' (nn ++ nw (i + 1 + 1) ti') → DatIn nn (.ref D) (LD 4) → (∀ q ∈ nw (i + 1 + 1) ti', ∀ p ∈ nn, q.1 < p.1) → Q (.ref D) { s with heap := h', toks := tk' }) :
    wpAny (model PySem.Challenge.rw_pb0262_01.row.prog w) (ktrTop dp un gd cn cs L a ccd cl outer) (call (.ref 85) [.ref r]) Q E s := by
  have hr0 := S.hr
  have hl0 := S.hl
  have hr := hsub _ S.hr
  have hl := hsub _ S.hl
  have hlen : vs.length < 1000 := by have := S.len; have := S.few; omega
  obtain ⟨v, hv, t, d, p, u1, u2, u3, u4, u5, u6, v1, v2, z, rfl, ht, hd, hp⟩ := S.at_ _ _ _ hat
  have hik : i + 0 < vs.length := by have := (List.getElem?_eq_some_iff.mp hv).1; omega
  have ht' := hsub _ ht
  have hd' := hsub _ hd
  have hω : (PySem.Str.ofString "ALL").length ≤ 64 := by decide +kernel
  have hb : ((PySem.Str.ofString "word") == (PySem.Str.ofString "word") && !isRes resStr (PySem.Str.ofString " " ++ (PySem.Str.ofString "ALL") ++ PySem.Str.ofString " ")) = false := by rw [res_ALL]; decide +kernel
  refine wpAny_call ?_
  k_dflt (refine' code_def (binds := [("reader", .ref r)]) ?k1 ?k2 ?k3 ?k4 ?k5 ?kA ?kF ?kK ?k6 ?k7 ?k8 ?k9 ?kB ?_ ?c2 ?c3 ?c4 ?c5; (case kA => exact rfl); (case kF => exact rfl); (case kK => first | assumption | exact rfl); (case k1 => k_asm); (case k2 => k_asm); (case k3 => k_asm); (case k4 => k_asm); (case k5 => k_asm); (case k6 => k_is); (case k7 => k_is); (case k8 => ktr_room); (case k9 => first | exact BindsTo.of_eq rfl | exact binds_K (by k_in) rfl (by k_is) rfl rfl rfl); (case c5 => decide); (case kB => exact locs rfl); (case c2 => exact rfl); (case c3 => exact rfl); (case c4 => exact rfl); k_whole; intro g' L' h' FG' F' N' B' X' T'; (try dsimp only [List.reverse, List.reverseAux] at F'); (try dsimp only); (try k_fold))
  k_steps
  all_goals exact ret _ _ _ _ _ (by k_asm) (by k_asm) dd9 l9
theorem literal_5 (B : Below A₀ base outer h₀) (F : Fr h₀ L s.heap m) (X : (frag.heap_1 w.params).In h₀) (N : News h₀ L s.heap news) (T : Top (vG pG) (looseW (vG pG) ls) mean mg mb h₀) (hk : cs.kind = .function) (S : RS w rest r dr tl nd n vs toks) (hdr : (dr, RD w t1 t2 t3 tl i ti nd) ∈ news) (hsub : ∀ p ∈ rest, p ∈ news) (hU : ∀ j tj, Upd dr (RD w t1 t2 t3 tl i ti nd) (RD w t1 t2 t3 tl j tj nd) news (nw j tj)) (hat : toks[i.toNat]? = some (PySem.Str.ofString "word", PySem.Str.ofString "HIGH-VALUE")) (h0 : 0 ≤ i)
    (hdp : dp + 7 < recursionLimit) (hun : un + 56 < cLine) (ret : ∀ h' tk' ti' D nn, Fr h₀ L h' m → News h₀ L h' (nn ++ nw (i + 1) ti') → DatIn nn (.ref D) (LD 5) → (∀ q ∈ nw (i + 1) ti', ∀ p ∈ nn, q.1 < p.1) → Q (.ref D) { s with heap := h', toks := tk' }) :
    wpAny (model PySem.Challenge.rw_pb0262_01.row.prog w) (ktrTop dp un gd cn cs L a ccd cl outer) (call (.ref 85) [.ref r]) Q E s := by
  have hr0 := S.hr
  have hl0 := S.hl
  have hr := hsub _ S.hr
  have hl := hsub _ S.hl
  have hlen : vs.length < 1000 := by have := S.len; have := S.few; omega
  obtain ⟨v, hv, t, d, p, u1, u2, u3, u4, u5, u6, v1, v2, z, rfl, ht, hd, hp⟩ := S.at_ _ _ _ hat
  have hik : i + 0 < vs.length := by have := (List.getElem?_eq_some_iff.mp hv).1; omega
  have ht' := hsub _ ht
  have hd' := hsub _ hd
  have hω : (PySem.Str.ofString "HIGH-VALUE").length ≤ 64 := by decide +kernel
  have hb : ((PySem.Str.ofString "word") == (PySem.Str.ofString "word") && !isRes resStr (PySem.Str.ofString " " ++ (PySem.Str.ofString "HIGH-VALUE") ++ PySem.Str.ofString " ")) = false := by rw [res_HIGH]; decide +kernel
  refine wpAny_call ?_
  k_dflt (refine' code_def (binds := [("reader", .ref r)]) ?k1 ?k2 ?k3 ?k4 ?k5 ?kA ?kF ?kK ?k6 ?k7 ?k8 ?k9 ?kB ?_ ?c2 ?c3 ?c4 ?c5; (case kA => exact rfl); (case kF => exact rfl); (case kK => first | assumption | exact rfl); (case k1 => k_asm); (case k2 => k_asm); (case k3 => k_asm); (case k4 => k_asm); (case k5 => k_asm); (case k6 => k_is); (case k7 => k_is); (case k8 => ktr_room); (case k9 => first | exact BindsTo.of_eq rfl | exact binds_K (by k_in) rfl (by k_is) rfl rfl rfl); (case c5 => decide); (case kB => exact locs rfl); (case c2 => exact rfl); (case c3 => exact rfl); (case c4 => exact rfl); k_whole; intro g' L' h' FG' F' N' B' X' T'; (try dsimp only [List.reverse, List.reverseAux] at F'); (try dsimp only); (try k_fold))
  k_steps
  all_goals exact ret _ _ _ _ _ (by k_asm) (by k_asm) dd9 l9
theorem literal_6 (B : Below A₀ base outer h₀) (F : Fr h₀ L s.heap m) (X : (frag.heap_1 w.params).In h₀) (N : News h₀ L s.heap news) (T : Top (vG pG) (looseW (vG pG) ls) mean mg mb h₀) (hk : cs.kind = .function) (S : RS w rest r dr tl nd n vs toks) (hdr : (dr, RD w t1 t2 t3 tl i ti nd) ∈ news) (hsub : ∀ p ∈ rest, p ∈ news) (hU : ∀ j tj, Upd dr (RD w t1 t2 t3 tl i ti nd) (RD w t1 t2 t3 tl j tj nd) news (nw j tj)) (hat : toks[i.toNat]? = some (PySem.Str.ofString "sign", PySem.Str.ofString "+")) (hat1 : toks[(i + 1).toNat]? = some (PySem.Str.ofString "number", PySem.Str.ofString "007")) (h0 : 0 ≤ i)
    (hdp : dp + 7 < recursionLimit) (hun : un + 56 < cLine) (ret : ∀ h' tk' ti' D nn, Fr h₀ L h' m → News h₀ L h' (nn ++ nw (i + 1 + 1) ti') → DatIn nn (.ref D) (LD 6) → (∀ q ∈ nw (i + 1 + 1) ti', ∀ p ∈ nn, q.1 < p.1) → Q (.ref D) { s with heap := h', toks := tk' }) :
    wpAny (model PySem.Challenge.rw_pb0262_01.row.prog w) (ktrTop dp un gd cn cs L a ccd cl outer) (call (.ref 85) [.ref r]) Q E s := by
  have hr0 := S.hr
  have hl0 := S.hl
  have hr := hsub _ S.hr
  have hl := hsub _ S.hl
  have hlen : vs.length < 1000 := by have := S.len; have := S.few; omega
  obtain ⟨v, hv, t, d, p, u1, u2, u3, u4, u5, u6, v1, v2, z, rfl, ht, hd, hp⟩ := S.at_ _ _ _ hat
  have hik : i + 0 < vs.length := by have := (List.getElem?_eq_some_iff.mp hv).1; omega
  have ht' := hsub _ ht
  have hd' := hsub _ hd
  have hω : (PySem.Str.ofString "+").length ≤ 64 := by decide +kernel
  have hb : ((PySem.Str.ofString "sign") == (PySem.Str.ofString "word") && !isRes resStr (PySem.Str.ofString " " ++ (PySem.Str.ofString "+") ++ PySem.Str.ofString " ")) = false := by rw [show ((PySem.Str.ofString "sign") == (PySem.Str.ofString "word")) = false from by decide +kernel, Bool.false_and]
  refine wpAny_call ?_
  k_dflt (refine' code_def (binds := [("reader", .ref r)]) ?k1 ?k2 ?k3 ?k4 ?k5 ?kA ?kF ?kK ?k6 ?k7 ?k8 ?k9 ?kB ?_ ?c2 ?c3 ?c4 ?c5; (case kA => exact rfl); (case kF => exact rfl); (case kK => first | assumption | exact rfl); (case k1 => k_asm); (case k2 => k_asm); (case k3 => k_asm); (case k4 => k_asm); (case k5 => k_asm); (case k6 => k_is); (case k7 => k_is); (case k8 => ktr_room); (case k9 => first | exact BindsTo.of_eq rfl | exact binds_K (by k_in) rfl (by k_is) rfl rfl rfl); (case c5 => decide); (case kB => exact locs rfl); (case c2 => exact rfl); (case c3 => exact rfl); (case c4 => exact rfl); k_whole; intro g' L' h' FG' F' N' B' X' T'; (try dsimp only [List.reverse, List.reverseAux] at F'); (try dsimp only); (try k_fold))
  k_steps
  all_goals exact ret _ _ _ _ _ (by k_asm) (by k_asm) dd9 l9
theorem literal_7 (B : Below A₀ base outer h₀) (F : Fr h₀ L s.heap m) (X : (frag.heap_1 w.params).In h₀) (N : News h₀ L s.heap news) (T : Top (vG pG) (looseW (vG pG) ls) mean mg mb h₀) (hk : cs.kind = .function) (S : RS w rest r dr tl nd n vs toks) (hdr : (dr, RD w t1 t2 t3 tl i ti nd) ∈ news) (hsub : ∀ p ∈ rest, p ∈ news) (hU : ∀ j tj, Upd dr (RD w t1 t2 t3 tl i ti nd) (RD w t1 t2 t3 tl j tj nd) news (nw j tj)) (hat : toks[i.toNat]? = some (PySem.Str.ofString "literal", PySem.Str.ofString "z")) (h0 : 0 ≤ i)
    (hdp : dp + 7 < recursionLimit) (hun : un + 56 < cLine) (ret : ∀ h' tk' ti' D nn, Fr h₀ L h' m → News h₀ L h' (nn ++ nw (i + 1) ti') → DatIn nn (.ref D) (LD 7) → (∀ q ∈ nw (i + 1) ti', ∀ p ∈ nn, q.1 < p.1) → Q (.ref D) { s with heap := h', toks := tk' }) :
    wpAny (model PySem.Challenge.rw_pb0262_01.row.prog w) (ktrTop dp un gd cn cs L a ccd cl outer) (call (.ref 85) [.ref r]) Q E s := by
  have hr0 := S.hr
  have hl0 := S.hl
  have hr := hsub _ S.hr
  have hl := hsub _ S.hl
  have hlen : vs.length < 1000 := by have := S.len; have := S.few; omega
  obtain ⟨v, hv, t, d, p, u1, u2, u3, u4, u5, u6, v1, v2, z, rfl, ht, hd, hp⟩ := S.at_ _ _ _ hat
  have hik : i + 0 < vs.length := by have := (List.getElem?_eq_some_iff.mp hv).1; omega
  have ht' := hsub _ ht
  have hd' := hsub _ hd
  have hω : (PySem.Str.ofString "z").length ≤ 64 := by decide +kernel
  have hb : ((PySem.Str.ofString "literal") == (PySem.Str.ofString "word") && !isRes resStr (PySem.Str.ofString " " ++ (PySem.Str.ofString "z") ++ PySem.Str.ofString " ")) = false := by rw [show ((PySem.Str.ofString "literal") == (PySem.Str.ofString "word")) = false from by decide +kernel, Bool.false_and]
  refine wpAny_call ?_
  k_dflt (refine' code_def (binds := [("reader", .ref r)]) ?k1 ?k2 ?k3 ?k4 ?k5 ?kA ?kF ?kK ?k6 ?k7 ?k8 ?k9 ?kB ?_ ?c2 ?c3 ?c4 ?c5; (case kA => exact rfl); (case kF => exact rfl); (case kK => first | assumption | exact rfl); (case k1 => k_asm); (case k2 => k_asm); (case k3 => k_asm); (case k4 => k_asm); (case k5 => k_asm); (case k6 => k_is); (case k7 => k_is); (case k8 => ktr_room); (case k9 => first | exact BindsTo.of_eq rfl | exact binds_K (by k_in) rfl (by k_is) rfl rfl rfl); (case c5 => decide); (case kB => exact locs rfl); (case c2 => exact rfl); (case c3 => exact rfl); (case c4 => exact rfl); k_whole; intro g' L' h' FG' F' N' B' X' T'; (try dsimp only [List.reverse, List.reverseAux] at F'); (try dsimp only); (try k_fold))
  k_steps
  all_goals exact ret _ _ _ _ _ (by k_asm) (by k_asm) dd9 l9
theorem literal_name (B : Below A₀ base outer h₀) (F : Fr h₀ L s.heap m) (X : (frag.heap_1 w.params).In h₀) (N : News h₀ L s.heap news) (T : Top (vG pG) (looseW (vG pG) ls) mean mg mb h₀) (hk : cs.kind = .function) (S : RS w rest r dr tl nd n vs toks) (hdr : (dr, RD w t1 t2 t3 tl i ti nd) ∈ news) (hsub : ∀ p ∈ rest, p ∈ news) (hat : toks[i.toNat]? = some (PySem.Str.ofString "word", PySem.Str.ofString "NAME")) (h0 : 0 ≤ i)
    (hdp : dp + 5 < recursionLimit) (hun : un + 40 < cLine) (retE : ∀ h' tk' e, Flown w base h₀ L m (envX cn cs L a ccd cl :: outer) rest ((i.toNat : Int) + 1) e h' → E (.ref e) { s with heap := h', toks := tk' }) :
    wpAny (model PySem.Challenge.rw_pb0262_01.row.prog w) (ktrTop dp un gd cn cs L a ccd cl outer) (call (.ref 85) [.ref r]) Q E s := by
  have hr0 := S.hr
  have hl0 := S.hl
  have hr := hsub _ S.hr
  have hl := hsub _ S.hl
  have hlen : vs.length < 1000 := by have := S.len; have := S.few; omega
  obtain ⟨v, hv, t, d, p, u1, u2, u3, u4, u5, u6, v1, v2, z, rfl, ht, hd, hp⟩ := S.at_ _ _ _ hat
  have hik : i + 0 < vs.length := by have := (List.getElem?_eq_some_iff.mp hv).1; omega
  have ht' := hsub _ ht
  have hd' := hsub _ hd
  have hω : (PySem.Str.ofString "NAME").length ≤ 64 := by decide +kernel
  have hb : ((PySem.Str.ofString "word") == (PySem.Str.ofString "word") && !isRes resStr (PySem.Str.ofString " " ++ (PySem.Str.ofString "NAME") ++ PySem.Str.ofString " ")) = true := by rw [res_NAME]; decide +kernel
  refine wpAny_call ?_
  k_dflt (refine' code_def (binds := [("reader", .ref r)]) ?k1 ?k2 ?k3 ?k4 ?k5 ?kA ?kF ?kK ?k6 ?k7 ?k8 ?k9 ?kB ?_ ?c2 ?c3 ?c4 ?c5; (case kA => exact rfl); (case kF => exact rfl); (case kK => first | assumption | exact rfl); (case k1 => k_asm); (case k2 => k_asm); (case k3 => k_asm); (case k4 => k_asm); (case k5 => k_asm); (case k6 => k_is); (case k7 => k_is); (case k8 => ktr_room); (case k9 => first | exact BindsTo.of_eq rfl | exact binds_K (by k_in) rfl (by k_is) rfl rfl rfl); (case c5 => decide); (case kB => exact locs rfl); (case c2 => exact rfl); (case c3 => exact rfl); (case c4 => exact rfl); k_whole; intro g' L' h' FG' F' N' B' X' T'; (try dsimp only [List.reverse, List.reverseAux] at F'); (try dsimp only); (try k_fold))
  k_steps
  all_goals (exact retE _ _ _ ⟨_, FG', R'⟩)
theorem ref_dot (B : Below A₀ base outer h₀) (F : Fr h₀ L s.heap m) (X : (frag.heap_1 w.params).In h₀) (N : News h₀ L s.heap news) (T : Top (vG pG) (looseW (vG pG) ls) mean mg mb h₀) (hk : cs.kind = .function) (S : RS w rest r dr tl nd n vs toks) (hdr : (dr, RD w t1 t2 t3 tl i ti nd) ∈ news) (hsub : ∀ p ∈ rest, p ∈ news) (hat : toks[i.toNat]? = some (PySem.Str.ofString "sign", PySem.Str.ofString ".")) (h0 : 0 ≤ i)
    (hdp : dp + 5 < recursionLimit) (hun : un + 40 < cLine) (retE : ∀ h' tk' e, Flown w base h₀ L m (envX cn cs L a ccd cl :: outer) rest ((i.toNat : Int) + 1) e h' → E (.ref e) { s with heap := h', toks := tk' }) :
    wpAny (model PySem.Challenge.rw_pb0262_01.row.prog w) (ktrTop dp un gd cn cs L a ccd cl outer) (call (.ref 50) [.ref r, .ref 78]) Q E s := by
  have hr0 := S.hr
  have hl0 := S.hl
  have hr := hsub _ S.hr
  have hl := hsub _ S.hl
  have hlen : vs.length < 1000 := by have := S.len; have := S.few; omega
  obtain ⟨v, hv, t, d, p, u1, u2, u3, u4, u5, u6, v1, v2, z, rfl, ht, hd, hp⟩ := S.at_ _ _ _ hat
  have hik : i + 0 < vs.length := by have := (List.getElem?_eq_some_iff.mp hv).1; omega
  have ht' := hsub _ ht
  have hd' := hsub _ hd
  have hω : (PySem.Str.ofString ".").length ≤ 64 := by decide +kernel
  have hb : ((PySem.Str.ofString "sign") == (PySem.Str.ofString "word") && !isRes resStr (PySem.Str.ofString " " ++ (PySem.Str.ofString ".") ++ PySem.Str.ofString " ")) = false := by rw [show ((PySem.Str.ofString "sign") == (PySem.Str.ofString "word")) = false from by decide +kernel, Bool.false_and]
  refine wpAny_call ?_
  k_dflt (refine' code_def (binds := [("reader", .ref r), ("read_expr", .ref 78)]) ?k1 ?k2 ?k3 ?k4 ?k5 ?kA ?kF ?kK ?k6 ?k7 ?k8 ?k9 ?kB ?_ ?c2 ?c3 ?c4 ?c5; (case kA => exact rfl); (case kF => exact rfl); (case kK => first | assumption | exact rfl); (case k1 => k_asm); (case k2 => k_asm); (case k3 => k_asm); (case k4 => k_asm); (case k5 => k_asm); (case k6 => k_is); (case k7 => k_is); (case k8 => ktr_room); (case k9 => first | exact BindsTo.of_eq rfl | exact binds_K (by k_in) rfl (by k_is) rfl rfl rfl); (case c5 => decide); (case kB => exact locs rfl); (case c2 => exact rfl); (case c3 => exact rfl); (case c4 => exact rfl); k_whole; intro g' L' h' FG' F' N' B' X' T'; (try dsimp only [List.reverse, List.reverseAux] at F'); (try dsimp only); (try k_fold))
  k_steps
  all_goals (exact retE _ _ _ ⟨_, FG', R'⟩)
end
local macro_rules | `(tactic| walk_at "call ref") => `(tactic| (k_here; (with_reducible show wpAny _ _ (call (Value.ref 50) _) _ _ _); k_dflt (apply ref_dot; walk_at "U24")))
section
variable {w : World} {mean : ExcName → Option Value} {mg mb : PySem.Str → Option Value} {dp un : Nat} {gd : Option (List Code)} {cn : PySem.Str} {cs : Scope} {a : Addr} {ccd : Value} {cl : List (PySem.Str × Addr)} {outer : List Env} {A₀ : Around} {base h₀ : Heap} {L : Addr} {m : PySem.Str → Option Value} {news rest : List (Addr × Obj)} {s : Shared} {Q E : Value → Shared → Prop} {r dr tl nd : Addr} {t1 t2 t3 ti : Tok} {i : Int} {n : Nat} {vs : List Value} {toks : List (PySem.Str × PySem.Str)} {nw : Int → Tok → List (Addr × Obj)}
theorem operand_dot (B : Below A₀ base outer h₀) (F : Fr h₀ L s.heap m) (X : (frag.heap_1 w.params).In h₀) (N : News h₀ L s.heap news) (T : Top (vG pG) (looseW (vG pG) ls) mean mg mb h₀) (hk : cs.kind = .function) (S : RS w rest r dr tl nd n vs toks) (hdr : (dr, RD w t1 t2 t3 tl i ti nd) ∈ news) (hsub : ∀ p ∈ rest, p ∈ news) (hat : toks[i.toNat]? = some (PySem.Str.ofString "sign", PySem.Str.ofString ".")) (h0 : 0 ≤ i)
    (hdp : dp + 6 < recursionLimit) (hun : un + 48 < cLine) (retE : ∀ h' tk' e, Flown w base h₀ L m (envX cn cs L a ccd cl :: outer) rest ((i.toNat : Int) + 1) e h' → E (.ref e) { s with heap := h', toks := tk' }) :
    wpAny (model PySem.Challenge.rw_pb0262_01.row.prog w) (ktrTop dp un gd cn cs L a ccd cl outer) (call (.ref 71) [.ref r, .ref 78]) Q E s := by
  have hr0 := S.hr
  have hl0 := S.hl
  have hr := hsub _ S.hr
  have hl := hsub _ S.hl
  have hlen : vs.length < 1000 := by have := S.len; have := S.few; omega
  obtain ⟨v, hv, t, d, p, u1, u2, u3, u4, u5, u6, v1, v2, z, rfl, ht, hd, hp⟩ := S.at_ _ _ _ hat
  have hik : i + 0 < vs.length := by have := (List.getElem?_eq_some_iff.mp hv).1; omega
  have ht' := hsub _ ht
  have hd' := hsub _ hd
  refine wpAny_call ?_
  k_dflt (refine' code_def (binds := [("reader", .ref r), ("read_expr", .ref 78)]) ?k1 ?k2 ?k3 ?k4 ?k5 ?kA ?kF ?kK ?k6 ?k7 ?k8 ?k9 ?kB ?_ ?c2 ?c3 ?c4 ?c5; (case kA => exact rfl); (case kF => exact rfl); (case kK => first | assumption | exact rfl); (case k1 => k_asm); (case k2 => k_asm); (case k3 => k_asm); (case k4 => k_asm); (case k5 => k_asm); (case k6 => k_is); (case k7 => k_is); (case k8 => ktr_room); (case k9 => first | exact BindsTo.of_eq rfl | exact binds_K (by k_in) rfl (by k_is) rfl rfl rfl); (case c5 => decide); (case kB => exact locs rfl); (case c2 => exact rfl); (case c3 => exact rfl); (case c4 => exact rfl); k_whole; intro g' L' h' FG' F' N' B' X' T'; (try dsimp only [List.reverse, List.reverseAux] at F'); (try dsimp only); (try k_fold))
  k_steps
  all_goals (exact retE _ _ _ ⟨_, FG', R'⟩)
end
local macro_rules | `(tactic| walk_at "call ref") => `(tactic| (k_here; (with_reducible show wpAny _ _ (call (Value.ref 71) _) _ _ _); k_dflt (apply operand_dot; walk_at "U24")))
section
variable {w : World} {mean : ExcName → Option Value} {mg mb : PySem.Str → Option Value} {dp un : Nat} {gd : Option (List Code)} {cn : PySem.Str} {cs : Scope} {a : Addr} {ccd : Value} {cl : List (PySem.Str × Addr)} {outer : List Env} {A₀ : Around} {base h₀ : Heap} {L : Addr} {m : PySem.Str → Option Value} {news rest : List (Addr × Obj)} {s : Shared} {Q E : Value → Shared → Prop} {r dr tl nd : Addr} {t1 t2 t3 ti : Tok} {i : Int} {n : Nat} {vs : List Value} {toks : List (PySem.Str × PySem.Str)} {nw : Int → Tok → List (Addr × Obj)}
theorem literal_dot (B : Below A₀ base outer h₀) (F : Fr h₀ L s.heap m) (X : (frag.heap_1 w.params).In h₀) (N : News h₀ L s.heap news) (T : Top (vG pG) (looseW (vG pG) ls) mean mg mb h₀) (hk : cs.kind = .function) (S : RS w rest r dr tl nd n vs toks) (hdr : (dr, RD w t1 t2 t3 tl i ti nd) ∈ news) (hsub : ∀ p ∈ rest, p ∈ news) (hat : toks[i.toNat]? = some (PySem.Str.ofString "sign", PySem.Str.ofString ".")) (h0 : 0 ≤ i)
    (hdp : dp + 7 < recursionLimit) (hun : un + 56 < cLine) (retE : ∀ h' tk' e, Flown w base h₀ L m (envX cn cs L a ccd cl :: outer) rest ((i.toNat : Int) + 1) e h' → E (.ref e) { s with heap := h', toks := tk' }) :
    wpAny (model PySem.Challenge.rw_pb0262_01.row.prog w) (ktrTop dp un gd cn cs L a ccd cl outer) (call (.ref 85) [.ref r]) Q E s := by
  have hr0 := S.hr
  have hl0 := S.hl
  have hr := hsub _ S.hr
  have hl := hsub _ S.hl
  have hlen : vs.length < 1000 := by have := S.len; have := S.few; omega
  obtain ⟨v, hv, t, d, p, u1, u2, u3, u4, u5, u6, v1, v2, z, rfl, ht, hd, hp⟩ := S.at_ _ _ _ hat
  have hik : i + 0 < vs.length := by have := (List.getElem?_eq_some_iff.mp hv).1; omega
  have ht' := hsub _ ht
  have hd' := hsub _ hd
  have hω : (PySem.Str.ofString ".").length ≤ 64 := by decide +kernel
  have hb : ((PySem.Str.ofString "sign") == (PySem.Str.ofString "word") && !isRes resStr (PySem.Str.ofString " " ++ (PySem.Str.ofString ".") ++ PySem.Str.ofString " ")) = false := by rw [show ((PySem.Str.ofString "sign") == (PySem.Str.ofString "word")) = false from by decide +kernel, Bool.false_and]
  refine wpAny_call ?_
  k_dflt (refine' code_def (binds := [("reader", .ref r)]) ?k1 ?k2 ?k3 ?k4 ?k5 ?kA ?kF ?kK ?k6 ?k7 ?k8 ?k9 ?kB ?_ ?c2 ?c3 ?c4 ?c5; (case kA => exact rfl); (case kF => exact rfl); (case kK => first | assumption | exact rfl); (case k1 => k_asm); (case k2 => k_asm); (case k3 => k_asm); (case k4 => k_asm); (case k5 => k_asm); (case k6 => k_is); (case k7 => k_is); (case k8 => ktr_room); (case k9 => first | exact BindsTo.of_eq rfl | exact binds_K (by k_in) rfl (by k_is) rfl rfl rfl); (case c5 => decide); (case kB => exact locs rfl); (case c2 => exact rfl); (case c3 => exact rfl); (case c4 => exact rfl); k_whole; intro g' L' h' FG' F' N' B' X' T'; (try dsimp only [List.reverse, List.reverseAux] at F'); (try dsimp only); (try k_fold))
  k_steps
  all_goals (exact retE _ _ _ ⟨_, FG', R'⟩)
end

theorem Upd.same {d : Addr} {o : Obj} {l l' : List (Addr × Obj)} (h : Upd d o o l l') : l' = l := by
  induction h with
  | head _ => rfl
  | tail _ _ ih => rw [ih]
theorem cases8 {f : Nat} (h : f < 8) : f = 0 ∨ f = 1 ∨ f = 2 ∨ f = 3 ∨ f = 4 ∨ f = 5 ∨ f = 6 ∨ f = 7 := by
  rcases f with _ | _ | _ | _ | _ | _ | _ | _ | f
  · exact .inl rfl
  · exact .inr (.inl rfl)
  · exact .inr (.inr (.inl rfl))
  · exact .inr (.inr (.inr (.inl rfl)))
  · exact .inr (.inr (.inr (.inr (.inl rfl))))
  · exact .inr (.inr (.inr (.inr (.inr (.inl rfl)))))
  · exact .inr (.inr (.inr (.inr (.inr (.inr (.inl rfl))))))
  · exact .inr (.inr (.inr (.inr (.inr (.inr (.inr (rfl)))))))
  · exact absurd h (Nat.not_lt.mpr (Nat.le_add_left 8 f))
section
variable {w : World} {mean : ExcName → Option Value} {mg mb : PySem.Str → Option Value} {dp un : Nat} {gd : Option (List Code)} {cn : PySem.Str} {cs : Scope} {a : Addr} {ccd : Value} {cl : List (PySem.Str × Addr)} {outer : List Env} {A₀ : Around} {base h₀ : Heap} {L : Addr} {m : PySem.Str → Option Value} {news rest : List (Addr × Obj)} {s : Shared} {Q E : Value → Shared → Prop} {r dr tl nd : Addr} {t1 t2 t3 ti : Tok} {i : Int} {n : Nat} {vs : List Value} {toks : List (PySem.Str × PySem.Str)} {nw : Int → Tok → List (Addr × Obj)}
theorem literal_any (B : Below A₀ base outer h₀) (F : Fr h₀ L s.heap m) (X : (frag.heap_1 w.params).In h₀) (N : News h₀ L s.heap news) (T : Top (vG pG) (looseW (vG pG) ls) mean mg mb h₀) (hk : cs.kind = .function) (S : RS w rest r dr tl nd n vs toks) (hdr : (dr, RD w t1 t2 t3 tl i ti nd) ∈ news) (hsub : ∀ p ∈ rest, p ∈ news) (hU : ∀ j tj, Upd dr (RD w t1 t2 t3 tl i ti nd) (RD w t1 t2 t3 tl j tj nd) news (nw j tj)) {f : Nat} (hf : f < 8) (hat : ∀ j p, (LT f)[j]? = some p → toks[i.toNat + j]? = some p) (h0 : 0 ≤ i)
    (hdp : dp + 7 < recursionLimit) (hun : un + 56 < cLine) (ret : ∀ h' tk' ti' D nn, Fr h₀ L h' m → News h₀ L h' (nn ++ nw (i + ((LT f).length : Nat)) ti') → DatIn nn (.ref D) (LD f) → (∀ q ∈ nw (i + ((LT f).length : Nat)) ti', ∀ p ∈ nn, q.1 < p.1) → Q (.ref D) { s with heap := h', toks := tk' }) :
    wpAny (model PySem.Challenge.rw_pb0262_01.row.prog w) (ktrTop dp un gd cn cs L a ccd cl outer) (call (.ref 85) [.ref r]) Q E s := by
  have e1 : (i + 1).toNat = i.toNat + 1 := by omega
  have e2 : i + 1 + 1 = i + ((2 : Nat) : Int) := by omega
  obtain rfl | rfl | rfl | rfl | rfl | rfl | rfl | rfl := cases8 hf
  · exact literal_0 B F X N T hk S hdr hsub hU (hat 0 _ rfl) h0 hdp hun ret
  · exact literal_1 B F X N T hk S hdr hsub hU (hat 0 _ rfl) (by rw [e1]; exact hat 1 _ rfl) h0 hdp hun (by rw [e2]; exact ret)
  · exact literal_2 B F X N T hk S hdr hsub hU (hat 0 _ rfl) h0 hdp hun ret
  · exact literal_3 B F X N T hk S hdr hsub hU (hat 0 _ rfl) h0 hdp hun ret
  · exact literal_4 B F X N T hk S hdr hsub hU (hat 0 _ rfl) (by rw [e1]; exact hat 1 _ rfl) h0 hdp hun (by rw [e2]; exact ret)
  · exact literal_5 B F X N T hk S hdr hsub hU (hat 0 _ rfl) h0 hdp hun ret
  · exact literal_6 B F X N T hk S hdr hsub hU (hat 0 _ rfl) (by rw [e1]; exact hat 1 _ rfl) h0 hdp hun (by rw [e2]; exact ret)
  · exact literal_7 B F X N T hk S hdr hsub hU (hat 0 _ rfl) h0 hdp hun ret
theorem hit_VALUE (B : Below A₀ base outer h₀) (F : Fr h₀ L s.heap m) (X : (frag.heap_1 w.params).In h₀) (N : News h₀ L s.heap news) (T : Top (vG pG) (looseW (vG pG) ls) mean mg mb h₀) (hk : cs.kind = .function) (S : RS w rest r dr tl nd n vs toks) (hdr : (dr, RD w t1 t2 t3 tl i ti nd) ∈ news) (hsub : ∀ p ∈ rest, p ∈ news) (hU : ∀ j tj, Upd dr (RD w t1 t2 t3 tl i ti nd) (RD w t1 t2 t3 tl j tj nd) news (nw j tj)) {tk' : Tok} (hat : toks[i.toNat]? = some (PySem.Str.ofString "word", PySem.Str.ofString "VALUE") ∨ toks[i.toNat]? = some (PySem.Str.ofString "word", PySem.Str.ofString "VALUES")) (h0 : 0 ≤ i)
    (hdp : dp + 5 < recursionLimit) (hun : un + 40 < cLine) (ret : ∀ h' tk' ti' tv' x, (x == PySem.Str.ofString "") = false → Fr h₀ L h' m → News h₀ L h' (nw (i + 1) ti') → Q (.str x tv') { s with heap := h', toks := tk' }) :
    wpAny (model PySem.Challenge.rw_pb0262_01.row.prog w) (ktrTop dp un gd cn cs L a ccd cl outer) (call (.ref 294) [.ref r, .str "VALUE VALUES" tk']) Q E s := by
  rcases hat with hat | hat
  · exact one_of_VALUE B F X N T hk S hdr hsub hU hat h0 hdp hun fun h' tk' ti' tv' F' N' => ret h' tk' ti' tv' _ (by decide +kernel) F' N'
  · exact one_of_VALUES B F X N T hk S hdr hsub hU hat h0 hdp hun fun h' tk' ti' tv' F' N' => ret h' tk' ti' tv' _ (by decide +kernel) F' N'
theorem hit_THRU (B : Below A₀ base outer h₀) (F : Fr h₀ L s.heap m) (X : (frag.heap_1 w.params).In h₀) (N : News h₀ L s.heap news) (T : Top (vG pG) (looseW (vG pG) ls) mean mg mb h₀) (hk : cs.kind = .function) (S : RS w rest r dr tl nd n vs toks) (hdr : (dr, RD w t1 t2 t3 tl i ti nd) ∈ news) (hsub : ∀ p ∈ rest, p ∈ news) (hU : ∀ j tj, Upd dr (RD w t1 t2 t3 tl i ti nd) (RD w t1 t2 t3 tl j tj nd) news (nw j tj)) {tk' : Tok} (hat : toks[i.toNat]? = some (PySem.Str.ofString "word", PySem.Str.ofString "THRU") ∨ toks[i.toNat]? = some (PySem.Str.ofString "word", PySem.Str.ofString "THROUGH")) (h0 : 0 ≤ i)
    (hdp : dp + 5 < recursionLimit) (hun : un + 40 < cLine) (ret : ∀ h' tk' ti' tv' x, (x == PySem.Str.ofString "") = false → Fr h₀ L h' m → News h₀ L h' (nw (i + 1) ti') → Q (.str x tv') { s with heap := h', toks := tk' }) :
    wpAny (model PySem.Challenge.rw_pb0262_01.row.prog w) (ktrTop dp un gd cn cs L a ccd cl outer) (call (.ref 294) [.ref r, .str "THRU THROUGH" tk']) Q E s := by
  rcases hat with hat | hat
  · exact one_of_THRU B F X N T hk S hdr hsub hU hat h0 hdp hun fun h' tk' ti' tv' F' N' => ret h' tk' ti' tv' _ (by decide +kernel) F' N'
  · exact one_of_THROUGH B F X N T hk S hdr hsub hU hat h0 hdp hun fun h' tk' ti' tv' F' N' => ret h' tk' ti' tv' _ (by decide +kernel) F' N'
theorem opt_IS (B : Below A₀ base outer h₀) (F : Fr h₀ L s.heap m) (X : (frag.heap_1 w.params).In h₀) (N : News h₀ L s.heap news) (T : Top (vG pG) (looseW (vG pG) ls) mean mg mb h₀) (hk : cs.kind = .function) (S : RS w rest r dr tl nd n vs toks) (hdr : (dr, RD w t1 t2 t3 tl i ti nd) ∈ news) (hsub : ∀ p ∈ rest, p ∈ news) (hU : ∀ j tj, Upd dr (RD w t1 t2 t3 tl i ti nd) (RD w t1 t2 t3 tl j tj nd) news (nw j tj)) {tk' : Tok} {d : Nat} {κ ω : PySem.Str} (hat : toks[i.toNat]? = some (κ, ω)) (hd : (d = 1 ∧ κ = PySem.Str.ofString "word" ∧ (ω = PySem.Str.ofString "IS" ∨ ω = PySem.Str.ofString "ARE")) ∨ (d = 0 ∧ (κ == "word" && ω == "IS") = false ∧ (κ == "word" && ω == "ARE") = false)) (h0 : 0 ≤ i)
    (hdp : dp + 5 < recursionLimit) (hun : un + 40 < cLine) (ret : ∀ h' tk' ti' tv' x, Fr h₀ L h' m → News h₀ L h' (nw (i + (d : Int)) ti') → Q (.str x tv') { s with heap := h', toks := tk' }) :
    wpAny (model PySem.Challenge.rw_pb0262_01.row.prog w) (ktrTop dp un gd cn cs L a ccd cl outer) (call (.ref 294) [.ref r, .str "IS ARE" tk']) Q E s := by
  rcases hd with ⟨rfl, rfl, rfl | rfl⟩ | ⟨rfl, h1, h2⟩
  · exact one_of_IS B F X N T hk S hdr hsub hU hat h0 hdp hun fun h' tk' ti' tv' F' N' => ret h' tk' ti' tv' _ F' N'
  · exact one_of_ARE B F X N T hk S hdr hsub hU hat h0 hdp hun fun h' tk' ti' tv' F' N' => ret h' tk' ti' tv' _ F' N'
  · exact one_of_noIS B F X N T hk S hdr hsub hat h0 h1 h2 hdp hun fun h' tk' tv' F' N' => ret h' tk' ti tv' _ F' (by
      have e : nw (i + ((0 : Nat) : Int)) ti = news := by
        have e0 : i + ((0 : Nat) : Int) = i := by omega
        rw [e0]
        exact Upd.same (hU i ti)
      rw [e]; exact N')
end

/-- a row of the data: the first worth, THRU (0 none, 1 THRU, 2 THROUGH), the last worth -/
abbrev Row := Nat × Nat × Nat
def RX (r : Row) : List (PySem.Str × PySem.Str) := match r.2.1 with
  | 0 => []
  | 1 => ("word", "THRU") :: LT r.2.2
  | _ => ("word", "THROUGH") :: LT r.2.2
def RT (r : Row) : List (PySem.Str × PySem.Str) := LT r.1 ++ RX r
def RDt (r : Row) : Dat := .tuple [LD r.1, match r.2.1 with | 0 => .none | _ => LD r.2.2]
def rtoks (l : List Row) : List (PySem.Str × PySem.Str) := l.flatMap RT
def noThru (p : PySem.Str × PySem.Str) : Prop := (p.1 == "word" && p.2 == "THRU") = false ∧ (p.1 == "word" && p.2 == "THROUGH") = false
def noDot (p : PySem.Str × PySem.Str) : Prop := (p.1 == "sign" && p.2 == ".") = false
theorem lt_head {f : Nat} (hf : f < 8) : ∃ p, (LT f)[0]? = some p ∧ noThru p ∧ noDot p := by
  match f, hf with
  | 0, _ => exact ⟨_, rfl, ⟨by decide +kernel, by decide +kernel⟩, by unfold noDot; decide +kernel⟩
  | 1, _ => exact ⟨_, rfl, ⟨by decide +kernel, by decide +kernel⟩, by unfold noDot; decide +kernel⟩
  | 2, _ => exact ⟨_, rfl, ⟨by decide +kernel, by decide +kernel⟩, by unfold noDot; decide +kernel⟩
  | 3, _ => exact ⟨_, rfl, ⟨by decide +kernel, by decide +kernel⟩, by unfold noDot; decide +kernel⟩
  | 4, _ => exact ⟨_, rfl, ⟨by decide +kernel, by decide +kernel⟩, by unfold noDot; decide +kernel⟩
  | 5, _ => exact ⟨_, rfl, ⟨by decide +kernel, by decide +kernel⟩, by unfold noDot; decide +kernel⟩
  | 6, _ => exact ⟨_, rfl, ⟨by decide +kernel, by decide +kernel⟩, by unfold noDot; decide +kernel⟩
  | 7, _ => exact ⟨_, rfl, ⟨by decide +kernel, by decide +kernel⟩, by unfold noDot; decide +kernel⟩
theorem lt_pos {f : Nat} (hf : f < 8) : 0 < (LT f).length := by
  obtain ⟨p, h, _⟩ := lt_head hf
  exact (List.getElem?_eq_some_iff.mp h).1
theorem app_left {l l' : List (PySem.Str × PySem.Str)} {j : Nat} {p : PySem.Str × PySem.Str} (h : l[j]? = some p) : (l ++ l')[j]? = some p := by
  rw [List.getElem?_append_left (List.getElem?_eq_some_iff.mp h).1]; exact h
theorem app_right {l l' : List (PySem.Str × PySem.Str)} {j : Nat} : (l ++ l')[l.length + j]? = l'[j]? := by
  rw [List.getElem?_append_right (Nat.le_add_right _ _), Nat.add_sub_cancel_left]
/-- what stands at the reader from place e on -/
def FromAt (toks : List (PySem.Str × PySem.Str)) (e : Nat) (l : List (PySem.Str × PySem.Str)) : Prop := ∀ j, toks[e + j]? = l[j]?
theorem FromAt.skip {toks l l' : List (PySem.Str × PySem.Str)} {e : Nat} (h : FromAt toks e (l ++ l')) : FromAt toks (e + l.length) l' := fun j => by
  rw [Nat.add_assoc, h, app_right]
theorem FromAt.left {toks l l' : List (PySem.Str × PySem.Str)} {e j : Nat} {p : PySem.Str × PySem.Str} (h : FromAt toks e (l ++ l')) (hj : l[j]? = some p) : toks[e + j]? = some p := by
  rw [h]; exact app_left hj
theorem rows_head {todo : List Row} {tail : List (PySem.Str × PySem.Str)} (hr : ∀ r ∈ todo, r.1 < 7 ∧ r.2.1 < 3 ∧ r.2.2 < 7) (ht : ∃ p, tail[0]? = some p ∧ noThru p) : ∃ p, (rtoks todo ++ tail)[0]? = some p ∧ noThru p := by
  cases todo with
  | nil => exact ht
  | cons r todo =>
    obtain ⟨p, h, n, _⟩ := lt_head (Nat.lt_succ_of_lt (hr r (List.mem_cons_self ..)).1)
    refine ⟨p, ?_, n⟩
    unfold rtoks
    rw [List.flatMap_cons, RT, List.append_assoc, List.append_assoc]
    exact app_left h
theorem eq_nil {prog : Program} {w : World} {A : Around} {E : Value → Shared → Prop} {s : Shared} {h₀ : Heap} {L a b : Addr} {news : List (Addr × Obj)} {vs : List Value} {n k : Nat} {c : Bool} {Q : Value → Shared → Prop}
    (N : News h₀ L s.heap news) (ha : (a, listOf vs.toArray n) ∈ news) (hb : (b, listOf (#[] : Array Value) k) ∈ news) (hu : A.units + 64 < cLine) (hc : vs.isEmpty = c) (h : Q (.bool c) s) : wpAny (model prog w) A (compareOp .Eq (.ref a) (.ref b)) Q E s := by
  cases vs with
  | nil =>
    subst hc
    exact PySem.SeqAt.eq_listAt (e := fun _ => true) (N.isList ha) (N.isList hb) rfl (by omega) (fun j h1 _ => absurd h1 (by simp)) (by simpa using h)
  | cons v vs =>
    subst hc
    exact PySem.SeqAt.eq_list_lengthsAt (N.isList ha) (N.isList hb) (by simp) (by omega) h
section
variable {w : World} {mean : ExcName → Option Value} {mg mb : PySem.Str → Option Value} {dp un : Nat} {gd : Option (List Code)} {cn : PySem.Str} {cs : Scope} {a : Addr} {ccd : Value} {cl : List (PySem.Str × Addr)} {outer : List Env} {A₀ : Around} {base h₀ : Heap} {L : Addr} {m : PySem.Str → Option Value} {news rest : List (Addr × Obj)} {s : Shared} {Q E : Value → Shared → Prop} {r dr tl nd : Addr} {t1 t2 t3 ti : Tok} {i : Int} {n : Nat} {vs : List Value} {toks : List (PySem.Str × PySem.Str)}
/-- read_literal, the ledger as the rows' list, the reader's dict, the rest -/
theorem lit_nf (B : Below A₀ base outer h₀) (F : Fr h₀ L s.heap m) (X : (frag.heap_1 w.params).In h₀) (N : News h₀ L s.heap news) (T : Top (vG pG) (looseW (vG pG) ls) mean mg mb h₀) (hk : cs.kind = .function) {ra : Addr} {oa : Obj} {extra : List (Addr × Obj)} (S : RS w rest r dr tl nd n vs toks) (hra : (ra, oa) ∈ news) (hdr : (dr, RD w t1 t2 t3 tl i ti nd) ∈ news) (hex : ∀ p ∈ extra, p ∈ news) (hoff : ∀ p ∈ extra, p.1 ≠ dr) (hora : ∀ p ∈ extra, p.1 ≠ ra) (hne : @Ne Nat ra dr) (hsub : ∀ p ∈ rest, p ∈ extra)
    {f : Nat} (hf : f < 8) (hat : ∀ j p, (LT f)[j]? = some p → toks[i.toNat + j]? = some p) (h0 : 0 ≤ i)
    (hdp : dp + 7 < recursionLimit) (hun : un + 56 < cLine) (ret : ∀ h' tk' ti' D ex, Fr h₀ L h' m → News h₀ L h' ((ra, oa) :: (dr, RD w t1 t2 t3 tl (i + ((LT f).length : Nat)) ti' nd) :: ex) → (∀ p ∈ extra, p ∈ ex) → (∀ p ∈ ex, p.1 ≠ dr) → (∀ p ∈ ex, p.1 ≠ ra) → DatIn ex (.ref D) (LD f) → Q (.ref D) { s with heap := h', toks := tk' }) :
    wpAny (model PySem.Challenge.rw_pb0262_01.row.prog w) (ktrTop dp un gd cn cs L a ccd cl outer) (call (.ref 85) [.ref r]) Q E s := by
  have N1 : News h₀ L s.heap ((ra, oa) :: (dr, RD w t1 t2 t3 tl i ti nd) :: extra) := fun p hp => by
    rcases List.mem_cons.mp hp with rfl | hp
    · exact N _ hra
    · rcases List.mem_cons.mp hp with rfl | hp
      · exact N _ hdr
      · exact N _ (hex p hp)
  refine literal_any B F X N1 T hk S (List.mem_cons_of_mem _ (List.mem_cons_self ..)) (fun p hp => List.mem_cons_of_mem _ (List.mem_cons_of_mem _ (hsub p hp))) (nw := fun j tj => (ra, oa) :: (dr, RD w t1 t2 t3 tl j tj nd) :: extra) (fun j tj => Upd.tail hne (Upd.head hoff)) hf hat h0 hdp hun ?_
  intro h' tk' ti' D nn F' N' d l
  have off : ∀ {x : Addr} {o : Obj}, (x, o) ∈ ((ra, oa) :: (dr, RD w t1 t2 t3 tl (i + ((LT f).length : Nat)) ti' nd) :: extra : List (Addr × Obj)) → (∀ p ∈ extra, p.1 ≠ x) → ∀ p ∈ nn ++ extra, p.1 ≠ x := fun hx hy p hp => by
    rcases List.mem_append.mp hp with hp | hp
    · exact Nat.ne_of_gt (l _ hx p hp)
    · exact hy p hp
  refine ret h' tk' ti' D (nn ++ extra) F' (fun p hp => N' p ?_) (fun p hp => List.mem_append_right _ hp) (off (List.mem_cons_of_mem _ (List.mem_cons_self ..)) hoff) (off (List.mem_cons_self ..) hora) (d.mono fun p hp => List.mem_append_left _ hp)
  rcases List.mem_cons.mp hp with rfl | hp
  · exact List.mem_append_right _ (List.mem_cons_self ..)
  · rcases List.mem_cons.mp hp with rfl | hp
    · exact List.mem_append_right _ (List.mem_cons_of_mem _ (List.mem_cons_self ..))
    · rcases List.mem_append.mp hp with hp | hp
      · exact List.mem_append_left _ hp
      · exact List.mem_append_right _ (List.mem_cons_of_mem _ (List.mem_cons_of_mem _ hp))
end

theorem FromAt.first {toks l l' : List (PySem.Str × PySem.Str)} {i : Int} (h : FromAt toks i.toNat (l ++ l')) (h0 : 0 ≤ i) : (∀ j p, l[j]? = some p → toks[i.toNat + j]? = some p) ∧ FromAt toks (i + (l.length : Nat)).toNat l' := by
  refine ⟨fun j p hj => h.left hj, ?_⟩
  have e : (i + (l.length : Nat)).toNat = i.toNat + l.length := by omega
  rw [e]
  exact h.skip
theorem FromAt.head {toks l : List (PySem.Str × PySem.Str)} {i : Int} {p : PySem.Str × PySem.Str} (h : FromAt toks i.toNat l) (hp : l[0]? = some p) : toks[i.toNat]? = some p := by
  rw [← hp]; exact h 0
theorem FromAt.tail {toks l : List (PySem.Str × PySem.Str)} {i : Int} {p : PySem.Str × PySem.Str} (h : FromAt toks i.toNat (p :: l)) (h0 : 0 ≤ i) : FromAt toks (i + 1).toNat l := by
  have := (h.first (l := [p]) (l' := l) h0).2
  exact this
theorem FromAt.row {toks tail : List (PySem.Str × PySem.Str)} {r : Row} {todo : List Row} {i : Int} (h : FromAt toks i.toNat (rtoks (r :: todo) ++ tail)) : FromAt toks i.toNat (LT r.1 ++ (RX r ++ (rtoks todo ++ tail))) := by
  have e : rtoks (r :: todo) ++ tail = LT r.1 ++ (RX r ++ (rtoks todo ++ tail)) := by
    unfold rtoks
    rw [List.flatMap_cons, RT, List.append_assoc, List.append_assoc]
  rw [← e]; exact h
theorem rtoks_snoc (done : List Row) (r : Row) : (rtoks (done ++ [r])).length = (rtoks done).length + ((LT r.1).length + (RX r).length) := by
  unfold rtoks
  rw [List.flatMap_append, List.flatMap_cons, List.flatMap_nil, List.append_nil, List.length_append, RT, List.length_append]
/-- what stands behind the rows -/
inductive TK (rws : List Row) (tail : List (PySem.Str × PySem.Str)) : Option Nat → Prop
  | dot : rws ≠ [] → tail[0]? = some (PySem.Str.ofString "sign", PySem.Str.ofString ".") → TK rws tail none
  | dot0 : rws = [] → tail[0]? = some (PySem.Str.ofString "sign", PySem.Str.ofString ".") → TK rws tail (some 0)
  | name : rws ≠ [] → tail[0]? = some (PySem.Str.ofString "word", PySem.Str.ofString "NAME") → TK rws tail (some 0)
  | z (more : List (PySem.Str × PySem.Str)) : rws ≠ [] → tail = LT 7 ++ (PySem.Str.ofString "word", PySem.Str.ofString "THRU") :: (PySem.Str.ofString "word", PySem.Str.ofString "NAME") :: more → TK rws tail (some 2)
theorem TK.thru {rws : List Row} {tail : List (PySem.Str × PySem.Str)} {bad : Option Nat} (h : TK rws tail bad) : ∃ p, tail[0]? = some p ∧ noThru p := by
  cases h with
  | dot _ h => exact ⟨_, h, by decide +kernel, by decide +kernel⟩
  | dot0 _ h => exact ⟨_, h, by decide +kernel, by decide +kernel⟩
  | name _ h => exact ⟨_, h, by decide +kernel, by decide +kernel⟩
  | z more _ h => rw [h]; exact ⟨_, rfl, by decide +kernel, by decide +kernel⟩
/-- between the turns of the while -/
def JW (w : World) (rest : List (Addr × Obj)) (toks tail : List (PySem.Str × PySem.Str)) (r dr tl nd ra : Addr) (t1 t2 t3 : Tok) (b : Nat) (rws : List Row) (m₀ : PySem.Str → Option Value) (k : Nat) (m₁ : PySem.Str → Option Value) (news₁ : List (Addr × Obj)) : Prop :=
  ∃ done todo i ti rs z ex fo lo, rws = done ++ todo ∧ k = todo.length ∧ 0 ≤ i ∧ i = ((b + (rtoks done).length : Nat) : Int) ∧ FromAt toks i.toNat (rtoks todo ++ tail) ∧
    m₁ = (fun y => if y = PySem.Str.ofString "last" then lo else if y = PySem.Str.ofString "first" then fo else m₀ y) ∧
    news₁ = (ra, listOf rs.toArray z) :: (dr, RD w t1 t2 t3 tl i ti nd) :: ex ∧ DatAll ex rs (done.map RDt) ∧ (∀ p ∈ rest, p ∈ ex) ∧ (∀ p ∈ ex, p.1 ≠ dr) ∧ (∀ p ∈ ex, p.1 ≠ ra)
def WHere (P : Prop) : Prop := P
theorem WHere.intro {P : Prop} (h : WHere P) : P := h
theorem ne_empty {prog : Program} {w : World} {A : Around} {E : Value → Shared → Prop} {s : Shared} {x : PySem.Str} {t u : Tok} {Q : Value → Shared → Prop} (hx : (x == PySem.Str.ofString "") = false) (h : Q (.bool true) s) :
    wpAny (model prog w) A (compareOp .NotEq (.str x t) (.str (PySem.Str.ofString "") u)) Q E s :=
  PyProof.Rows.ne_str (by rw [bne, hx]; exact h)
local macro_rules | `(tactic| walk_at "call ref") => `(tactic| (k_here; (with_reducible show wpAny _ _ (call (Value.ref 294) [_, Value.str (PySem.Str.ofString "VALUE VALUES") _]) _ _ _); k_dflt (apply hit_VALUE; walk_at "U25")))
local macro_rules | `(tactic| walk_at "call ref") => `(tactic| (k_here; (with_reducible show wpAny _ _ (call (Value.ref 294) [_, Value.str (PySem.Str.ofString "THRU THROUGH") _]) _ _ _); k_dflt (apply hit_THRU; walk_at "U25")))
local macro_rules | `(tactic| walk_at "call ref") => `(tactic| (k_here; (with_reducible show wpAny _ _ (call (Value.ref 294) [_, Value.str (PySem.Str.ofString "IS ARE") _]) _ _ _); k_dflt (apply opt_IS; walk_at "U26")))
local macro_rules | `(tactic| k_all) => `(tactic| first | exact hoff | exact hora)
local macro_rules | `(tactic| walk_at "compareOp Eq ref ref") => `(tactic| (k_here; k_dflt (refine' eq_nil ?k1 ?k2 ?k3 ?k4 ?k5 ?_; (case k1 => k_asm); (case k2 => k_mem); (case k3 => k_mem); (case k4 => ktr_units); (case k5 => assumption); k_whole)))
local macro_rules | `(tactic| walk_at "call ref") => `(tactic| (k_here; (show wpAny _ _ (call (Value.ref 85) [_]) _ _ _); k_dflt (refine' lit_nf ?k1 ?k2 ?k3 ?k4 ?k5 ?kk ?kS ?ka ?kd ?kx ?kf ?kg ?ki ?kj ?kl ?kq ?km ?kp ?ku ?_; walk_at "Z1"; (case k4 => k_asm); (case k5 => k_asm); (case kk => first | exact rfl | assumption); (case kS => assumption); (case kf => exact hoff); (case kg => exact hora); (case ka => k_mem); (case kd => k_mem); (case kx => (intro p9 hp9; repeat (first | exact hp9 | refine List.mem_cons_of_mem _ ?_))); (case ki => exact hne); (case kj => exact hsub); (case kq => assumption); (case kl => assumption); (case km => assumption); tb_rel; intro h9 tk9 ti9 D9 ex9 F9 N9 hx9 hoff hora dd7; (have hsub := fun p hp => hx9 p (hsub p hp)); (try (have hrs := DatAll.mono hx9 hrs)); (try (have dd8 := DatIn.mono hx9 dd9)); (have dd9 := dd7); ktr_unf)))
local macro_rules | `(tactic| walk_at "call ref") => `(tactic| (k_here; (show wpAny _ _ (call (Value.ref 85) _) _ _ _); k_dflt (first | (apply literal_dot; walk_at "U24") | (apply literal_name; walk_at "U24"))))
local macro_rules | `(tactic| walk_at "call builtin:list.append") => `(tactic| (k_here; (with_reducible show wpAny _ _ (call (Value.builtin _) [Value.ref _, _]) _ _ _); k_dflt (refine' append_K ?k1 ?k2 ?k3 ?_ ?kz; (case k1 => k_asm); (case k2 => k_asm); (case k3 => k_upd); (case kz => exact hsz); k_whole); intro h' F' N'; (try k_sweep)))
local macro_rules | `(tactic| walk_at "compareOp NotEq str str") => `(tactic| (k_here; k_dflt (refine' ne_empty ?k1 ?_; (case k1 => exact hx9); k_whole)))
local macro_rules | `(tactic| walk_at "exec While BoolOp") => `(tactic| (refine WHere.intro ?_))
theorem m0_ext (v rv : Value) : (fun y => if y = PySem.Str.ofString "rows" then some v else List.lookup y [(PySem.Str.ofString "reader", rv)]) =
    (fun y => if y = PySem.Str.ofString "last" then none else if y = PySem.Str.ofString "first" then none else (fun y => if y = PySem.Str.ofString "rows" then some v else List.lookup y [(PySem.Str.ofString "reader", rv)]) y) := by
  funext y
  by_cases h1 : y = PySem.Str.ofString "last"
  · subst h1; rfl
  · by_cases h2 : y = PySem.Str.ofString "first"
    · subst h2; rfl
    · rw [if_neg h1, if_neg h2]
theorem ext_w0 {m₀ : PySem.Str → Option Value} {lo fo v1 v2 : Option Value} : (fun y => if y = PySem.Str.ofString "first" then v1 else if y = PySem.Str.ofString "last" then v2 else if y = PySem.Str.ofString "last" then lo else if y = PySem.Str.ofString "first" then fo else m₀ y) =
    (fun y => if y = PySem.Str.ofString "last" then v2 else if y = PySem.Str.ofString "first" then v1 else m₀ y) := by
  have ne : PySem.Str.ofString "last" ≠ PySem.Str.ofString "first" := by decide +kernel
  funext y
  by_cases h1 : y = PySem.Str.ofString "last"
  · subst h1; simp [ne]
  · by_cases h2 : y = PySem.Str.ofString "first"
    · subst h2; simp [ne.symm]
    · simp [h1, h2]
theorem ext_w1 {m₀ : PySem.Str → Option Value} {lo fo v1 v2 v3 : Option Value} : (fun y => if y = PySem.Str.ofString "last" then v3 else if y = PySem.Str.ofString "first" then v1 else if y = PySem.Str.ofString "last" then v2 else if y = PySem.Str.ofString "last" then lo else if y = PySem.Str.ofString "first" then fo else m₀ y) =
    (fun y => if y = PySem.Str.ofString "last" then v3 else if y = PySem.Str.ofString "first" then v1 else m₀ y) := by
  have ne : PySem.Str.ofString "last" ≠ PySem.Str.ofString "first" := by decide +kernel
  funext y
  by_cases h1 : y = PySem.Str.ofString "last"
  · subst h1; simp [ne]
  · by_cases h2 : y = PySem.Str.ofString "first"
    · subst h2; simp [ne.symm]
    · simp [h1, h2]
theorem turn_end {w : World} {rest ex big : List (Addr × Obj)} {toks tail : List (PySem.Str × PySem.Str)} {r dr tl nd ra : Addr} {t1 t2 t3 ti' : Tok} {b : Nat} {rws done todo : List Row} {rw9 : Row} {m₀ m' : PySem.Str → Option Value} {k tk z zz : Nat} {g' h' : Heap} {L' : Addr} {s : Shared} {i' : Int} {lo fo : Option Value} {rs : List Value} {D : Addr} {v1 v2 : Value} {d1 d2 : Dat}
    (e1 : rws = done ++ rw9 :: todo) (hk : k = (rw9 :: todo).length) (h0 : 0 ≤ i') (hi : i' = ((b + (rtoks (done ++ [rw9])).length : Nat) : Int)) (hfr : FromAt toks i'.toNat (rtoks todo ++ tail)) (F : Fr g' L' h' m')
    (hm : m' = (fun y => if y = PySem.Str.ofString "last" then lo else if y = PySem.Str.ofString "first" then fo else m₀ y)) (N : News g' L' h' big) (hra : (ra, listOf (rs.toArray.push (.ref D)) (z + 1)) ∈ big) (hdr : (dr, RD w t1 t2 t3 tl i' ti' nd) ∈ big) (hD : (D, tupOf [v1, v2] zz) ∈ big) (hex : ∀ p ∈ ex, p ∈ big)
    (h1 : DatIn ex v1 d1) (h2 : DatIn ex v2 d2) (hdat : RDt rw9 = .tuple [d1, d2]) (hrs : DatAll ex rs (done.map RDt)) (n1 : @Ne Nat D ra) (n2 : @Ne Nat D dr) (hsub : ∀ p ∈ rest, p ∈ ex) (hoff : ∀ p ∈ ex, p.1 ≠ dr) (hora : ∀ p ∈ ex, p.1 ≠ ra) :
    WhileStep g' L' s (JW w rest toks tail r dr tl nd ra t1 t2 t3 b rws m₀) k .next { s with heap := h', toks := tk } := by
  have up : ∀ p ∈ ex, p ∈ (D, tupOf [v1, v2] zz) :: ex := fun p hp => List.mem_cons_of_mem _ hp
  refine WhileStep.intro (n' := todo.length) (m₂ := m') (news₂ := (ra, listOf (rs ++ [Value.ref D]).toArray (z + 1)) :: (dr, RD w t1 t2 t3 tl i' ti' nd) :: (D, tupOf [v1, v2] zz) :: ex) F (fun p hp => ?_) (by rw [hk, List.length_cons]; omega) ?_
  · rcases List.mem_cons.mp hp with rfl | hp
    · have e : (rs ++ [Value.ref D]).toArray = rs.toArray.push (.ref D) := by simp
      rw [e]; exact N _ hra
    · rcases List.mem_cons.mp hp with rfl | hp
      · exact N _ hdr
      · rcases List.mem_cons.mp hp with rfl | hp
        · exact N _ hD
        · exact N _ (hex p hp)
  · refine ⟨done ++ [rw9], todo, i', ti', rs ++ [Value.ref D], z + 1, (D, tupOf [v1, v2] zz) :: ex, fo, lo, by rw [e1, List.append_assoc]; rfl, rfl, h0, hi, hfr, hm, rfl, ?_, fun p hp => up p (hsub p hp), fun p hp => ?_, fun p hp => ?_⟩
    · rw [List.map_append, List.map_cons, List.map_nil, hdat]
      exact (hrs.mono up).append (.one (.tuple (n := zz) (vs := [v1, v2]) (List.mem_cons_self ..) (.cons (h1.mono up) (.cons (h2.mono up) .nil))))
    · rcases List.mem_cons.mp hp with rfl | hp
      · exact n2
      · exact hoff p hp
    · rcases List.mem_cons.mp hp with rfl | hp
      · exact n1
      · exact hora p hp
theorem flown_k {w : World} {base h₀ : Heap} {L e : Addr} {m : PySem.Str → Option Value} {l : List Env} {rest : List (Addr × Obj)} {k k' : Int} {h' : Heap} (h : Flown w base h₀ L m l rest k e h') (e9 : k = k') : Flown w base h₀ L m l rest k' e h' := e9 ▸ h
section
theorem worths {w : World} {mean : ExcName → Option Value} {mg mb : PySem.Str → Option Value} {dp un : Nat} {gd : Option (List Code)} {cn : PySem.Str} {cs : Scope} {a : Addr} {ccd : Value} {cl : List (PySem.Str × Addr)} {outer : List Env} {A₀ : Around} {base h₀ : Heap} {L : Addr} {m : PySem.Str → Option Value} {rest : List (Addr × Obj)} {s : Shared} {Q E : Value → Shared → Prop} {r dr tl nd : Addr} {t1 t2 t3 ti : Tok} {n : Nat} {vs : List Value} {toks : List (PySem.Str × PySem.Str)} {d : Nat}
    (B : Below A₀ base outer h₀) (F : Fr h₀ L s.heap m) (X : (frag.heap_1 w.params).In h₀) (N : News h₀ L s.heap ((dr, RD w t1 t2 t3 tl 0 ti nd) :: rest)) (T : Top (vG pG) (looseW (vG pG) ls) mean mg mb h₀) (hk : cs.kind = .function)
    (S : RS w rest r dr tl nd n vs toks) (hat : toks[(0 : Int).toNat]? = some (PySem.Str.ofString "word", PySem.Str.ofString "VALUE") ∨ toks[(0 : Int).toNat]? = some (PySem.Str.ofString "word", PySem.Str.ofString "VALUES"))
    {κ ω : PySem.Str} (hat1 : toks[(0 + 1 : Int).toNat]? = some (κ, ω)) (hd : (d = 1 ∧ κ = PySem.Str.ofString "word" ∧ (ω = PySem.Str.ofString "IS" ∨ ω = PySem.Str.ofString "ARE")) ∨ (d = 0 ∧ (κ == "word" && ω == "IS") = false ∧ (κ == "word" && ω == "ARE") = false))
    {rws : List Row} {tail : List (PySem.Str × PySem.Str)} {bad : Option Nat} (hfrom : FromAt toks (1 + d) (rtoks rws ++ tail)) (hrw : ∀ r ∈ rws, r.1 < 7 ∧ r.2.1 < 3 ∧ r.2.2 < 7) (htk : TK rws tail bad) (hrl : rws.length ≤ 100)
    (hdp : dp + 9 < recursionLimit) (hun : un + 72 < cLine)
    (ret : bad = none → ∀ h' tk' ti' ra rs z ex, Fr h₀ L h' m → News h₀ L h' ((ra, listOf rs.toArray z) :: (dr, RD w t1 t2 t3 tl ((1 + d + (rtoks rws).length : Nat) : Int) ti' nd) :: ex) → DatAll ex rs (rws.map RDt) → (∀ p ∈ rest, p ∈ ex) → Q (.ref ra) { s with heap := h', toks := tk' })
    (retE : ∀ k, bad = some k → ∀ h' tk' e, Flown w base h₀ L m (envX cn cs L a ccd cl :: outer) rest (((1 + d + (rtoks rws).length + k : Nat) : Int) + 1) e h' → E (.ref e) { s with heap := h', toks := tk' }) :
    wpAny (model PySem.Challenge.rw_pb0262_01.row.prog w) (ktrTop dp un gd cn cs L a ccd cl outer) (call (.ref 92) [.ref r]) Q E s := by
  have h00 : (0 : Int) ≤ 0 := Int.le_refl _
  have hoff := S.off
  have hr0 := S.hr
  have hl0 := S.hl
  have hsub : ∀ p ∈ rest, p ∈ rest := fun _ h => h
  refine wpAny_call ?_
  k_dflt (refine' code_def (binds := [("reader", .ref r)]) ?k1 ?k2 ?k3 ?k4 ?k5 ?kA ?kF ?kK ?k6 ?k7 ?k8 ?k9 ?kB ?_ ?c2 ?c3 ?c4 ?c5; (case kA => exact rfl); (case kF => exact rfl); (case kK => first | assumption | exact rfl); (case k1 => k_asm); (case k2 => k_asm); (case k3 => k_asm); (case k4 => k_asm); (case k5 => k_asm); (case k6 => k_is); (case k7 => k_is); (case k8 => ktr_room); (case k9 => first | exact BindsTo.of_eq rfl | exact binds_K (by k_in) rfl (by k_is) rfl rfl rfl); (case c5 => decide); (case kB => exact locs rfl); (case c2 => exact rfl); (case c3 => exact rfl); (case c4 => exact rfl); k_whole; intro g' L' h' FG' F' N' B' X' T'; (try dsimp only [List.reverse, List.reverseAux] at F'); (try dsimp only); (try k_fold))
  k_steps
  all_goals (
    clear hsub hoff
    have hoff0 := S.off
    rename Fr _ _ _ _ => lF
    rename News _ _ _ _ => lN
    rename_i l9 _ hl9 _
    have hne : @Ne Nat l9 dr := neN (by omega)
    have hora0 : ∀ p ∈ rest, p.1 ≠ l9 := fun p hp => Nat.ne_of_lt (allLt_mem hl9.2 hp)
    unfold WHere
    refine While_inv (JW w rest toks tail r dr tl nd l9 t1 t2 t3 (1 + d) rws (fun y => if y = PySem.Str.ofString "rows" then some (Value.ref l9) else List.lookup y [(PySem.Str.ofString "reader", Value.ref r)])) (n₀ := rws.length) lF lN ?hj ?turn ?hE
    case hj => exact ⟨[], rws, _, _, [], 0, rest, none, none, rfl, rfl, by omega, by simp [rtoks], by rw [show (0 + 1 + (d : Int)).toNat = 1 + d by omega]; exact hfrom, m0_ext _ _, rfl, .nil, fun _ h => h, hoff0, hora0⟩
    case hE => passes_own
    case turn =>
      intro k m₁ news₁ h₁ tk₁ F₁ N₁ hJ
      obtain ⟨done, todo, i, ti', rs, z, ex, fo, lo, e1, e2, h0, hi, hfr, rfl, rfl, hrs, hsub, hoff, hora⟩ := hJ
      clear lF lN hora0 hoff0 hat hat1 hd hfrom
      have hsz : rs.toArray.size ≤ sizeLine := by
        have h1 := hrs.length
        have h2 : rws.length = done.length + todo.length := by rw [e1, List.length_append]
        rw [List.size_toArray, h1, List.length_map, sizeLine_eq]
        omega
      cases todo with
      | nil =>
        obtain rfl : done = rws := by rw [e1, List.append_nil]
        subst hi
        have hfr : FromAt toks ((1 + d + (rtoks done).length : Nat) : Int).toNat tail := hfr
        cases htk with
        | dot hne0 htl =>
          have hk0 := hfr.head htl
          have hb : rs.isEmpty = false := by
            cases rs with
            | nil => have := hrs.length; rw [List.length_map] at this; exact absurd (List.eq_nil_of_length_eq_zero this.symm) hne0
            | cons _ _ => rfl
          k_steps
          all_goals exact ret rfl _ _ _ _ _ _ _ (by k_asm) (by (first | k_asm | (rename News _ _ _ _ => lN9; intro p9 hp9; exact lN9 p9 (by first | exact hp9 | (repeat (first | exact hp9 | refine List.mem_cons_of_mem _ ?_)))))) hrs hsub
        | dot0 hne0 htl =>
          have hk0 := hfr.head htl
          have hb : rs.isEmpty = true := by
            cases rs with
            | nil => rfl
            | cons _ _ => have := hrs.length; rw [hne0] at this; cases this
          k_steps
          all_goals exact retE 0 rfl _ _ _ (flown_k ⟨_, FG', R'⟩ (by omega))
        | name hne0 htl =>
          have hk0 := hfr.head htl
          have hb : rs.isEmpty = false := by
            cases rs with
            | nil => have := hrs.length; rw [List.length_map] at this; exact absurd (List.eq_nil_of_length_eq_zero this.symm) hne0
            | cons _ _ => rfl
          k_steps
          all_goals exact retE 0 rfl _ _ _ (flown_k ⟨_, FG', R'⟩ (by omega))
        | z more hne0 htl =>
          rw [htl] at hfr
          obtain ⟨hatf, hfr1⟩ := hfr.first h0
          have hk0 := hatf 0 _ rfl
          have h01 : 0 ≤ ((1 + d + (rtoks done).length : Nat) : Int) + ((LT 7).length : Nat) := by omega
          have h02 : 0 ≤ ((1 + d + (rtoks done).length : Nat) : Int) + ((LT 7).length : Nat) + 1 := by omega
          have hk1 : toks[(((1 + d + (rtoks done).length : Nat) : Int) + ((LT 7).length : Nat)).toNat]? = some (PySem.Str.ofString "word", PySem.Str.ofString "THRU") ∨ toks[(((1 + d + (rtoks done).length : Nat) : Int) + ((LT 7).length : Nat)).toNat]? = some (PySem.Str.ofString "word", PySem.Str.ofString "THROUGH") := .inl (hfr1.head rfl)
          have hk2 : toks[(((1 + d + (rtoks done).length : Nat) : Int) + ((LT 7).length : Nat) + 1).toNat]? = some (PySem.Str.ofString "word", PySem.Str.ofString "NAME") := (hfr1.tail h01).head rfl
          have hf8 : 7 < 8 := by decide
          have hl7 : (LT 7).length = 1 := rfl
          have hb : rs.isEmpty = false := by
            cases rs with
            | nil => have := hrs.length; rw [List.length_map] at this; exact absurd (List.eq_nil_of_length_eq_zero this.symm) hne0
            | cons _ _ => rfl
          k_steps
          all_goals exact retE 2 rfl _ _ _ (flown_k ⟨_, FG', R'⟩ (by omega))
      | cons rw todo =>
        obtain ⟨f, wv, g⟩ := rw
        obtain ⟨hf7, hw3, hg7⟩ := hrw (f, wv, g) (by rw [e1]; exact List.mem_append_right _ (List.mem_cons_self ..))
        have hf8 : f < 8 := by have : f < 7 := hf7; omega
        have hg8 : g < 8 := by have : g < 7 := hg7; omega
        obtain ⟨hatf, hfr1⟩ := hfr.row.first h0
        obtain ⟨⟨κ0, ω0⟩, hp0, -, hdot⟩ := lt_head hf8
        have hk0 : toks[i.toNat]? = some (κ0, ω0) := hatf 0 _ hp0
        have h01 : 0 ≤ i + ((LT f).length : Nat) := by omega
        have hdot' : (κ0 == PySem.Str.ofString "sign" && ω0 == PySem.Str.ofString ".") = false := hdot
        have hnext := rows_head (todo := todo) (fun r hr => hrw r (by rw [e1]; exact List.mem_append_right _ (List.mem_cons_of_mem _ hr))) htk.thru
        have hlen := rtoks_snoc done (f, wv, g)
        have hw3n : wv < 3 := hw3
        have hwv : wv = 0 ∨ wv = 1 ∨ wv = 2 := by omega
        rcases hwv with hwv | hwv | hwv
        · subst hwv
          obtain ⟨⟨κ1, ω1⟩, hp1, hn1, hn2⟩ := hnext
          have hk1 : toks[(i + ((LT f).length : Nat)).toNat]? = some (κ1, ω1) := hfr1.head hp1
          have hn1' : (κ1 == PySem.Str.ofString "word" && ω1 == PySem.Str.ofString "THRU") = false := hn1
          have hn2' : (κ1 == PySem.Str.ofString "word" && ω1 == PySem.Str.ofString "THROUGH") = false := hn2
          cases hb : rs.isEmpty with
          | true =>
            k_steps
            all_goals exact turn_end (zz := 0) e1 e2 h01 (by rw [hlen, hi]; simp only [RX, List.length_nil]; omega) hfr1 (by k_asm) ext_w0 (by k_asm) (by k_mem) (by k_mem) (by k_mem) (by intro p9 hp9; repeat (first | exact hp9 | refine List.mem_cons_of_mem _ ?_)) dd9 .none rfl hrs (neN (by omega)) (neN (by omega)) hsub hoff hora
          | false =>
            k_steps
            all_goals exact turn_end (zz := 0) e1 e2 h01 (by rw [hlen, hi]; simp only [RX, List.length_nil]; omega) hfr1 (by k_asm) ext_w0 (by k_asm) (by k_mem) (by k_mem) (by k_mem) (by intro p9 hp9; repeat (first | exact hp9 | refine List.mem_cons_of_mem _ ?_)) dd9 .none rfl hrs (neN (by omega)) (neN (by omega)) hsub hoff hora
        · subst hwv
          have hfr1' : FromAt toks (i + ((LT f).length : Nat)).toNat ((PySem.Str.ofString "word", PySem.Str.ofString "THRU") :: (LT g ++ (rtoks todo ++ tail))) := hfr1
          have hk1 : toks[(i + ((LT f).length : Nat)).toNat]? = some (PySem.Str.ofString "word", PySem.Str.ofString "THRU") ∨ toks[(i + ((LT f).length : Nat)).toNat]? = some (PySem.Str.ofString "word", PySem.Str.ofString "THROUGH") := .inl (hfr1'.head rfl)
          have h02 : 0 ≤ i + ((LT f).length : Nat) + 1 := by omega
          obtain ⟨hatg, hfr3⟩ := (hfr1'.tail h01).first h02
          have h03 : 0 ≤ i + ((LT f).length : Nat) + 1 + ((LT g).length : Nat) := by omega
          have hx1 : (RX (f, 1, g)).length = (LT g).length + 1 := rfl
          cases hb : rs.isEmpty with
          | true =>
            k_steps
            all_goals exact turn_end (zz := 0) e1 e2 h03 (by rw [hlen, hi, hx1]; simp only []; omega) hfr3 (by k_asm) ext_w1 (by k_asm) (by k_mem) (by k_mem) (by k_mem) (by intro p9 hp9; repeat (first | exact hp9 | refine List.mem_cons_of_mem _ ?_)) dd8 dd9 rfl hrs (neN (by omega)) (neN (by omega)) hsub hoff hora
          | false =>
            k_steps
            all_goals exact turn_end (zz := 0) e1 e2 h03 (by rw [hlen, hi, hx1]; simp only []; omega) hfr3 (by k_asm) ext_w1 (by k_asm) (by k_mem) (by k_mem) (by k_mem) (by intro p9 hp9; repeat (first | exact hp9 | refine List.mem_cons_of_mem _ ?_)) dd8 dd9 rfl hrs (neN (by omega)) (neN (by omega)) hsub hoff hora
        · subst hwv
          have hfr1' : FromAt toks (i + ((LT f).length : Nat)).toNat ((PySem.Str.ofString "word", PySem.Str.ofString "THROUGH") :: (LT g ++ (rtoks todo ++ tail))) := hfr1
          have hk1 : toks[(i + ((LT f).length : Nat)).toNat]? = some (PySem.Str.ofString "word", PySem.Str.ofString "THRU") ∨ toks[(i + ((LT f).length : Nat)).toNat]? = some (PySem.Str.ofString "word", PySem.Str.ofString "THROUGH") := .inr (hfr1'.head rfl)
          have h02 : 0 ≤ i + ((LT f).length : Nat) + 1 := by omega
          obtain ⟨hatg, hfr3⟩ := (hfr1'.tail h01).first h02
          have h03 : 0 ≤ i + ((LT f).length : Nat) + 1 + ((LT g).length : Nat) := by omega
          have hx1 : (RX (f, 2, g)).length = (LT g).length + 1 := rfl
          cases hb : rs.isEmpty with
          | true =>
            k_steps
            all_goals exact turn_end (zz := 0) e1 e2 h03 (by rw [hlen, hi, hx1]; simp only []; omega) hfr3 (by k_asm) ext_w1 (by k_asm) (by k_mem) (by k_mem) (by k_mem) (by intro p9 hp9; repeat (first | exact hp9 | refine List.mem_cons_of_mem _ ?_)) dd8 dd9 rfl hrs (neN (by omega)) (neN (by omega)) hsub hoff hora
          | false =>
            k_steps
            all_goals exact turn_end (zz := 0) e1 e2 h03 (by rw [hlen, hi, hx1]; simp only []; omega) hfr3 (by k_asm) ext_w1 (by k_asm) (by k_mem) (by k_mem) (by k_mem) (by intro p9 hp9; repeat (first | exact hp9 | refine List.mem_cons_of_mem _ ?_)) dd8 dd9 rfl hrs (neN (by omega)) (neN (by omega)) hsub hoff hora)
end

/-- what read_worths tells of these tokens: the rows and the place behind, or the place of the fault -/
def WSpec (toks : List (PySem.Str × PySem.Str)) (res : (List Row × Nat) ⊕ Nat) : Prop :=
  ∀ {w : World} {mean : ExcName → Option Value} {mg mb : PySem.Str → Option Value} {dp un : Nat} {gd : Option (List Code)} {cn : PySem.Str} {cs : Scope} {a : Addr} {ccd : Value} {cl : List (PySem.Str × Addr)} {outer : List Env} {A₀ : Around} {base h₀ : Heap} {L : Addr} {m : PySem.Str → Option Value} {rest : List (Addr × Obj)} {s : Shared} {Q E : Value → Shared → Prop} {r dr tl nd : Addr} {t1 t2 t3 ti : Tok} {n : Nat} {vs : List Value},
    Below A₀ base outer h₀ → Fr h₀ L s.heap m → (frag.heap_1 w.params).In h₀ → News h₀ L s.heap ((dr, RD w t1 t2 t3 tl 0 ti nd) :: rest) → Top (vG pG) (looseW (vG pG) ls) mean mg mb h₀ → cs.kind = .function → RS w rest r dr tl nd n vs toks → dp + 9 < recursionLimit → un + 72 < cLine →
    (∀ rws e, res = .inl (rws, e) → ∀ h' tk' ti' ra rs z ex, Fr h₀ L h' m → News h₀ L h' ((ra, listOf rs.toArray z) :: (dr, RD w t1 t2 t3 tl ((e : Nat) : Int) ti' nd) :: ex) → DatAll ex rs (rws.map RDt) → (∀ p ∈ rest, p ∈ ex) → Q (.ref ra) { s with heap := h', toks := tk' }) →
    (∀ k, res = .inr k → ∀ h' tk' e, Flown w base h₀ L m (envX cn cs L a ccd cl :: outer) rest (((k : Nat) : Int) + 1) e h' → E (.ref e) { s with heap := h', toks := tk' }) →
    wpAny (model PySem.Challenge.rw_pb0262_01.row.prog w) (ktrTop dp un gd cn cs L a ccd cl outer) (call (.ref 92) [.ref r]) Q E s
theorem worths_spec {toks : List (PySem.Str × PySem.Str)} {d : Nat} (hat : toks[(0 : Int).toNat]? = some (PySem.Str.ofString "word", PySem.Str.ofString "VALUE") ∨ toks[(0 : Int).toNat]? = some (PySem.Str.ofString "word", PySem.Str.ofString "VALUES"))
    {κ ω : PySem.Str} (hat1 : toks[(0 + 1 : Int).toNat]? = some (κ, ω)) (hd : (d = 1 ∧ κ = PySem.Str.ofString "word" ∧ (ω = PySem.Str.ofString "IS" ∨ ω = PySem.Str.ofString "ARE")) ∨ (d = 0 ∧ (κ == "word" && ω == "IS") = false ∧ (κ == "word" && ω == "ARE") = false))
    {rws : List Row} {tail : List (PySem.Str × PySem.Str)} {bad : Option Nat} (hfrom : FromAt toks (1 + d) (rtoks rws ++ tail)) (hrw : ∀ r ∈ rws, r.1 < 7 ∧ r.2.1 < 3 ∧ r.2.2 < 7) (htk : TK rws tail bad) (hrl : rws.length ≤ 100) :
    WSpec toks (match bad with | none => .inl (rws, 1 + d + (rtoks rws).length) | some k => .inr (1 + d + (rtoks rws).length + k)) := by
  intro w mean mg mb dp un gd cn cs a ccd cl outer A₀ base h₀ L m rest s Q E r dr tl nd t1 t2 t3 ti n vs B F X N T hk S hdp hun ret retE
  refine worths B F X N T hk S hat hat1 hd hfrom hrw htk hrl hdp hun (fun hb => ?_) (fun k hb => ?_)
  · subst hb; exact ret _ _ rfl
  · subst hb; exact retE _ rfl
section
theorem worths_no {w : World} {mean : ExcName → Option Value} {mg mb : PySem.Str → Option Value} {dp un : Nat} {gd : Option (List Code)} {cn : PySem.Str} {cs : Scope} {a : Addr} {ccd : Value} {cl : List (PySem.Str × Addr)} {outer : List Env} {A₀ : Around} {base h₀ : Heap} {L : Addr} {m : PySem.Str → Option Value} {rest : List (Addr × Obj)} {s : Shared} {Q E : Value → Shared → Prop} {r dr tl nd : Addr} {t1 t2 t3 ti : Tok} {n : Nat} {vs : List Value} {toks : List (PySem.Str × PySem.Str)}
    (B : Below A₀ base outer h₀) (F : Fr h₀ L s.heap m) (X : (frag.heap_1 w.params).In h₀) (N : News h₀ L s.heap ((dr, RD w t1 t2 t3 tl 0 ti nd) :: rest)) (T : Top (vG pG) (looseW (vG pG) ls) mean mg mb h₀) (hk : cs.kind = .function)
    (S : RS w rest r dr tl nd n vs toks) {κ ω : PySem.Str} (hat : toks[(0 : Int).toNat]? = some (κ, ω)) (hm : (κ == "word" && ω == "VALUE") = false) (hm' : (κ == "word" && ω == "VALUES") = false)
    (hdp : dp + 9 < recursionLimit) (hun : un + 72 < cLine)
    (retE : ∀ h' tk' e, Flown w base h₀ L m (envX cn cs L a ccd cl :: outer) rest (((0 : Nat) : Int) + 1) e h' → E (.ref e) { s with heap := h', toks := tk' }) :
    wpAny (model PySem.Challenge.rw_pb0262_01.row.prog w) (ktrTop dp un gd cn cs L a ccd cl outer) (call (.ref 92) [.ref r]) Q E s := by
  have h00 : (0 : Int) ≤ 0 := Int.le_refl _
  have hoff := S.off
  have hr0 := S.hr
  have hl0 := S.hl
  have hsub : ∀ p ∈ rest, p ∈ (dr, RD w t1 t2 t3 tl 0 ti nd) :: rest := fun _ h => List.mem_cons_of_mem _ h
  refine wpAny_call ?_
  k_dflt (refine' code_def (binds := [("reader", .ref r)]) ?k1 ?k2 ?k3 ?k4 ?k5 ?kA ?kF ?kK ?k6 ?k7 ?k8 ?k9 ?kB ?_ ?c2 ?c3 ?c4 ?c5; (case kA => exact rfl); (case kF => exact rfl); (case kK => first | assumption | exact rfl); (case k1 => k_asm); (case k2 => k_asm); (case k3 => k_asm); (case k4 => k_asm); (case k5 => k_asm); (case k6 => k_is); (case k7 => k_is); (case k8 => ktr_room); (case k9 => first | exact BindsTo.of_eq rfl | exact binds_K (by k_in) rfl (by k_is) rfl rfl rfl); (case c5 => decide); (case kB => exact locs rfl); (case c2 => exact rfl); (case c3 => exact rfl); (case c4 => exact rfl); k_whole; intro g' L' h' FG' F' N' B' X' T'; (try dsimp only [List.reverse, List.reverseAux] at F'); (try dsimp only); (try k_fold))
  k_steps
  all_goals exact retE _ _ _ (flown_k ⟨_, FG', R'⟩ (by omega))
end
theorem no_spec {toks : List (PySem.Str × PySem.Str)} {κ ω : PySem.Str} (hat : toks[(0 : Int).toNat]? = some (κ, ω)) (hm : (κ == "word" && ω == "VALUE") = false) (hm' : (κ == "word" && ω == "VALUES") = false) : WSpec toks (.inr 0) := by
  intro w mean mg mb dp un gd cn cs a ccd cl outer A₀ base h₀ L m rest s Q E r dr tl nd t1 t2 t3 ti n vs B F X N T hk S hdp hun ret retE
  exact worths_no B F X N T hk S hat hm hm' hdp hun (retE 0 rfl)

/-- a pair of texts, in the ledger or in the written part -/
def PairAt (w : World) (news : List (Addr × Obj)) (a : Addr) (κ ω : PySem.Str) : Prop :=
  ∃ u v z, (a, tupOf [.str κ u, .str ω v] z) ∈ news ∨ (frag.heap_1 w.params).lookup a = some (tupOf [.str κ u, .str ω v] z)
theorem PairAt.mono {w : World} {news news' : List (Addr × Obj)} {a : Addr} {κ ω : PySem.Str} (h : PairAt w news a κ ω) (hs : ∀ p ∈ news, p ∈ news') : PairAt w news' a κ ω := by
  obtain ⟨u, v, z, h⟩ := h
  exact ⟨u, v, z, h.imp (hs _) id⟩
theorem PairAt.tup {w : World} {h₀ h : Heap} {L a : Addr} {m : PySem.Str → Option Value} {news : List (Addr × Obj)} {κ ω : PySem.Str} (p : PairAt w news a κ ω) (F : Fr h₀ L h m) (X₀ : (frag.heap_1 w.params).In h₀) (N : News h₀ L h news) : ∃ u v, IsTup h a [Value.str κ u, .str ω v].toArray := by
  obtain ⟨u, v, z, q | q⟩ := p
  · exact ⟨u, v, _, (N _ q).1, rfl, z, rfl⟩
  · exact ⟨u, v, _, (X₀.keeps F.keep) _ _ q, rfl, z, rfl⟩
theorem TokAt.mono {w : World} {news news' : List (Addr × Obj)} {v : Value} {j : Nat} {κ ω : PySem.Str} (h : TokAt w news v j κ ω) (hs : ∀ p ∈ news, p ∈ news') : TokAt w news' v j κ ω := by
  obtain ⟨t, d, p, u1, u2, u3, u4, u5, u6, v1, v2, k, e, a, b, c⟩ := h
  exact ⟨t, d, p, u1, u2, u3, u4, u5, u6, v1, v2, k, e, hs _ a, hs _ b, hs _ c⟩
theorem rg_size (n : Nat) : Builtin.Range.rangeSize 0 (n : Int) 1 = ((n : Nat) : Int) := by
  unfold Builtin.Range.rangeSize
  simp
  omega
theorem rg_small {n : Nat} (h : n < 1000) : Builtin.Range.small 0 (n : Int) 1 = true := by
  have f : Builtin.Range.rangeFitsLong (n : Int) = true := by
    unfold Builtin.Range.rangeFitsLong
    simp
    omega
  unfold Builtin.Range.small
  rw [rg_size, f]
  simp [f]
  decide +kernel
section
open PyProof.Rows.LCg
variable {prog : Program} {w : World} {A : Around} {h₀ : Heap} {L : Addr} {m : PySem.Str → Option Value} {env : Env} {elt : PySem.Expr} {x : PySem.Str} {scope : Scope} {cl : List (PySem.Str × Addr)} {s : Shared} {Fin : List Value → List (Addr × Obj) → Prop} {news : List (Addr × Obj)}
theorem tok_rest {n : Nat} (Inv : Nat → List Value → List (Addr × Obj) → Prop) (hz : Inv 0 [] news)
    (turn : ∀ i t I oI C oC D m₂ ys nw h tk (E' : Value → Shared → Prop), i < n → Inv i ys nw → NsObj oC m₂ → m₂ x = some (.int (0 + (i : Int)) t) → Fr h₀ L h m → News h₀ L h ((I, oI) :: (C, oC) :: (D, lst ys) :: nw) → Off3 I C D nw → ((@Ne Nat I C) ∧ (@Ne Nat I D) ∧ (@Ne Nat C D)) →
      wpAny (model prog w) A (eval elt (compEnvC scope cl C env)) (CompEnd h₀ L m { s with heap := h, toks := tk } I oI C oC D (lst ys) (fun _ => True) (fun y nw' => Inv (i + 1) (ys ++ [y]) nw')) E' { s with heap := h, toks := tk })
    (fin : ∀ ys nw, Inv n ys nw → Fin ys nw) : CompRest prog w A h₀ L m env elt x scope cl s (fun _ => True) (fun i v => ∃ t, v = .int (0 + (i : Int)) t) Fin n 0 [] news := by
  have key : ∀ (j i : Nat) (ys : List Value) (nw : List (Addr × Obj)), i + j = n → Inv i ys nw → CompRest prog w A h₀ L m env elt x scope cl s (fun _ => True) (fun i v => ∃ t, v = .int (0 + (i : Int)) t) Fin j i ys nw := by
    intro j
    induction j with
    | zero =>
      intro i ys nw hi hv
      obtain rfl : i = n := by omega
      exact CompRest.zero (fin ys nw hv)
    | succ j ih =>
      intro i ys nw hi hv
      refine CompRest.succ ?_
      intro v I oI C oC D m₂ h tk E' hv' hC hx F N off ne
      obtain ⟨t, rfl⟩ := hv'
      refine wpAny_mono (turn i t I oI C oC D m₂ ys nw h tk E' (by omega) hv hC hx F N off ne) (fun y s₂ hq => ?_) fun _ _ e => e
      obtain ⟨h', tk', nw', e, F', N', off', hS, hi'⟩ := hq
      exact ⟨h', tk', nw', e, F', N', off', hS, ih (i + 1) _ _ (by omega) hi'⟩
  exact key n 0 [] news (by omega) hz
end
/-- what the list of the tokens is while it grows -/
def TInv (w : World) (toks : List (PySem.Str × PySem.Str)) (bs : List (Addr × Obj)) (i : Nat) (ys : List Value) (nw : List (Addr × Obj)) : Prop :=
  ys.length = i ∧ (∀ p ∈ bs, p ∈ nw) ∧ ∀ j κ ω, j < i → toks[j]? = some (κ, ω) → ∃ v, ys[j]? = some v ∧ TokAt w nw v j κ ω
local macro_rules | `(tactic| walk_at "CompSrc") => `(tactic| (k_here; k_dflt (refine LCg.CompSrc.range (n := pvs.length) (by rfl) (by k_asm) (by k_asm) (by assumption) (rg_small (by omega)) (rg_size _) (by rw [sizeLine_eq]; omega) ?_; intro g9; refine WHere.intro ?_)))
section
variable {prog : Program} {w : World} {A : Around} {E : Value → Shared → Prop} {s : Shared} {h₀ : Heap} {L a : Addr} {m : PySem.Str → Option Value} {news big : List (Addr × Obj)} {κ ω : PySem.Str} {value slice : PySem.Expr} {u : Tok} {Q : Value → Shared → Prop}
theorem item_pair0 (p : PairAt w news a κ ω) (F : Fr h₀ L s.heap m) (X₀ : (frag.heap_1 w.params).In h₀) (N : News h₀ L s.heap big) (hs : ∀ p ∈ news, p ∈ big) (h : ∀ t, Q (.str κ t) s)
    (hk : subscripted slice false (.ref a) (.int 0 u) = operate [.ref a, .int 0 u] (getItem (.ref a) (.int 0 u)) := by with_unfolding_all rfl) : wpAny (model prog w) A (subscriptTail value slice (.ref a) (.int 0 u)) Q E s := by
  obtain ⟨u, v, t⟩ := (p.mono hs).tup F X₀ N
  exact item_tupleT t (by decide) (by decide) rfl rfl (h u) hk
theorem item_pair1 (p : PairAt w news a κ ω) (F : Fr h₀ L s.heap m) (X₀ : (frag.heap_1 w.params).In h₀) (N : News h₀ L s.heap big) (hs : ∀ p ∈ news, p ∈ big) (h : ∀ t, Q (.str ω t) s)
    (hk : subscripted slice false (.ref a) (.int 1 u) = operate [.ref a, .int 1 u] (getItem (.ref a) (.int 1 u)) := by with_unfolding_all rfl) : wpAny (model prog w) A (subscriptTail value slice (.ref a) (.int 1 u)) Q E s := by
  obtain ⟨u, v, t⟩ := (p.mono hs).tup F X₀ N
  exact item_tupleT t (by decide) (by decide) rfl rfl (h v) hk
end
local macro_rules | `(tactic| walk_at "subscriptTail") => `(tactic| (k_here; (with_reducible show wpAny _ _ (subscriptTail _ _ (Value.ref pa) (Value.int 0 _)) _ _ _); k_dflt (refine' item_pair0 hpair' ?k1 ?k2 ?k3 ?k4 ?_ ?k5; walk_at "Z4")))
local macro_rules | `(tactic| walk_at "subscriptTail") => `(tactic| (k_here; (with_reducible show wpAny _ _ (subscriptTail _ _ (Value.ref pa) (Value.int 1 _)) _ _ _); k_dflt (refine' item_pair1 hpair' ?k1 ?k2 ?k3 ?k4 ?_ ?k5; walk_at "Z4")))
local macro_rules | `(tactic| walk_at "call ref") => `(tactic| (k_here; (first | (with_reducible show wpAny _ _ (call (Value.ref 413) _) _ _ _) | (with_reducible show wpAny _ _ (call (Value.ref 383) _) _ _ _)); k_dflt (refine' call_cls ?k1 ?k2 ?k3 ?k4 ?k5 ?k6 ?_; walk_at "Z1"; (case k4 => k_is); (case k5 => k_is); (case k6 => k_is); k_whole; intro x' d' h' F' N' l7 l2; (have l1 := l7); (try k_lt l1); (try k_lt2 l2); (try k_sweep); k_caught0)))
local macro_rules | `(tactic| k_all) => `(tactic| exact fun p9 hp9 => Nat.ne_of_lt (l7 p9 (by repeat (first | exact hp9 | refine List.mem_cons_of_mem _ ?_))))
theorem tok_end {w : World} {toks : List (PySem.Str × PySem.Str)} {bs nw : List (Addr × Obj)} {i tk k : Nat} {ys : List Value} {h₀ h' : Heap} {L I C D x d p : Addr} {oI oC oD : Obj} {m : PySem.Str → Option Value} {s₁ : Shared} {u1 u2 u3 u4 u5 u6 v1 v2 : Tok} {κ ω : PySem.Str}
    (hinv : TInv w toks bs i ys nw) (hp : toks[i]? = some (κ, ω)) (F : Fr h₀ L h' m) (N : News h₀ L h' ((x, instObj 413 d) :: (d, TD w u1 u2 u3 u4 u5 u6 κ ω p) :: (p, tupOf [.int (0 + (i : Int) + 1) v1, .int 12 v2] k) :: (I, oI) :: (C, oC) :: (D, oD) :: nw)) (off : LCg.Off3 I C D nw)
    (l : ∀ q ∈ ((p, tupOf [.int (0 + (i : Int) + 1) v1, .int 12 v2] k) :: (I, oI) :: (C, oC) :: (D, oD) :: nw : List (Addr × Obj)), q.1 < d) (l2 : d < x) (nI : I < p) (nC : C < p) (nD : D < p) :
    LCg.CompEnd h₀ L m s₁ I oI C oC D oD (fun _ => True) (fun y nw' => TInv w toks bs (i + 1) (ys ++ [y]) nw') (.ref x) { s₁ with heap := h', toks := tk } := by
  have e : 0 + (i : Int) + 1 = (i : Int) + 1 := by omega
  rw [e] at N l
  have ld : ∀ {a : Addr}, a < d → a ≠ d ∧ a ≠ x := fun h => ⟨Nat.ne_of_lt h, Nat.ne_of_lt (Nat.lt_trans h l2)⟩
  have lI : I < d := l (I, oI) (by simp)
  have lC : C < d := l (C, oC) (by simp)
  have lD : D < d := l (D, oD) (by simp)
  refine LCg.CompEnd.intro F N ((x, instObj 413 d) :: (d, TD w u1 u2 u3 u4 u5 u6 κ ω p) :: (p, tupOf [.int ((i : Int) + 1) v1, .int 12 v2] k) :: nw) (fun q hq => ?_) ?_ True.intro ?_
  · rcases List.mem_cons.mp hq with rfl | hq
    · simp
    · rcases List.mem_cons.mp hq with rfl | hq
      · simp
      · rcases List.mem_cons.mp hq with rfl | hq
        · simp
        · rcases List.mem_cons.mp hq with rfl | hq
          · exact List.mem_cons_self ..
          · rcases List.mem_cons.mp hq with rfl | hq
            · exact List.mem_cons_of_mem _ (List.mem_cons_self ..)
            · rcases List.mem_cons.mp hq with rfl | hq
              · exact List.mem_cons_of_mem _ (List.mem_cons_of_mem _ (List.mem_cons_self ..))
              · exact List.mem_cons_of_mem _ (List.mem_cons_of_mem _ (List.mem_cons_of_mem _ (List.mem_cons_of_mem _ (List.mem_cons_of_mem _ (List.mem_cons_of_mem _ hq)))))
  · exact ⟨⟨(ld lI).2.symm, (ld lC).2.symm, (ld lD).2.symm⟩, ⟨(ld lI).1.symm, (ld lC).1.symm, (ld lD).1.symm⟩, ⟨Nat.ne_of_gt nI, Nat.ne_of_gt nC, Nat.ne_of_gt nD⟩, off⟩
  · obtain ⟨hyl, hsub, hys⟩ := hinv
    have up : ∀ q ∈ nw, q ∈ ((x, instObj 413 d) :: (d, TD w u1 u2 u3 u4 u5 u6 κ ω p) :: (p, tupOf [.int ((i : Int) + 1) v1, .int 12 v2] k) :: nw : List (Addr × Obj)) := fun q hq => List.mem_cons_of_mem _ (List.mem_cons_of_mem _ (List.mem_cons_of_mem _ hq))
    refine ⟨by rw [List.length_append, hyl]; rfl, fun q hq => up q (hsub q hq), fun j κ' ω' hj hjt => ?_⟩
    by_cases hji : j < i
    · obtain ⟨v, hv, ht⟩ := hys j κ' ω' hji hjt
      exact ⟨v, by rw [List.getElem?_append_left (by omega)]; exact hv, ht.mono up⟩
    · obtain rfl : j = i := by omega
      rw [hp] at hjt
      cases hjt
      refine ⟨.ref x, by rw [← hyl, List.getElem?_append_right (Nat.le_refl _), Nat.sub_self]; rfl, x, d, p, u1, u2, u3, u4, u5, u6, v1, v2, k, rfl, by simp, by simp, by simp⟩
local macro_rules | `(tactic| walk_at "call ref") => `(tactic| (k_here; (show wpAny _ _ (call (Value.ref 92) [_]) _ _ _); refine WHere.intro ?_))
local macro_rules | `(tactic| walk_at "exec Try") => `(tactic| (k_here; (with_reducible show wpAny _ _ (exec (Stmt.Try _ (_ :: _) _ [] _) _) _ _ _); refine wpAny_Try_except ?_))
theorem told_rs {w : World} {h₀ h : Heap} {L nd x d tl : Addr} {od : Obj} {t1 t2 t3 ti : Tok} {ys pvs : List Value} {nw : List (Addr × Obj)} {toks : List (PySem.Str × PySem.Str)}
    (N : News h₀ L h ((nd, od) :: (x, instObj 383 d) :: (d, RD w t1 t2 t3 tl 0 ti nd) :: (tl, LCg.lst ys) :: nw)) (l7 : ∀ p ∈ ((tl, LCg.lst ys) :: nw : List (Addr × Obj)), p.1 < d) (l2 : d < x) (lnd : d < nd) (hyl : ys.length = pvs.length) (hlen : pvs.length = toks.length) (few : toks.length < 1000)
    (hys : ∀ (j : Nat) (κ ω : PySem.Str), j < pvs.length → toks[j]? = some (κ, ω) → ∃ v, ys[j]? = some v ∧ TokAt w nw v j κ ω) :
    ∃ rest, News h₀ L h ((d, RD w t1 t2 t3 tl 0 ti nd) :: rest) ∧ RS w rest x d tl nd ys.length ys toks ∧ ∀ p ∈ nw, p ∈ rest := by
  have up : ∀ p ∈ nw, p ∈ ((nd, od) :: (x, instObj 383 d) :: (tl, LCg.lst ys) :: nw : List (Addr × Obj)) := fun p hp => List.mem_cons_of_mem _ (List.mem_cons_of_mem _ (List.mem_cons_of_mem _ hp))
  refine ⟨(nd, od) :: (x, instObj 383 d) :: (tl, LCg.lst ys) :: nw, fun p hp => N p ?_, ⟨by simp, by simp [LCg.lst], by omega, few, fun j κ ω hj => ?_, fun p hp => ?_⟩, up⟩
  · rcases List.mem_cons.mp hp with rfl | hp
    · simp
    · rcases List.mem_cons.mp hp with rfl | hp
      · simp
      · rcases List.mem_cons.mp hp with rfl | hp
        · simp
        · exact List.mem_cons_of_mem _ (List.mem_cons_of_mem _ (List.mem_cons_of_mem _ hp))
  · obtain ⟨v, hv, ht⟩ := hys j κ ω (by have := (List.getElem?_eq_some_iff.mp hj).1; omega) hj
    exact ⟨v, hv, ht.mono up⟩
  · rcases List.mem_cons.mp hp with rfl | hp
    · exact Nat.ne_of_gt lnd
    · rcases List.mem_cons.mp hp with rfl | hp
      · exact Nat.ne_of_gt l2
      · exact Nat.ne_of_lt (l7 p hp)
local macro_rules | `(tactic| walk_at "getAttr ref") => `(tactic| (k_here; (with_reducible show wpAny _ _ (getAttr (Value.ref e9) _ _) _ _ _); k_dflt (refine' gf_get ?k1 ?k2 ?k3 ?k4 ?k5 ?_; walk_at "Z1"; (case k4 => k_mem); (case k5 => k_mem); k_whole)))
section
variable {M : Model} {A : Around} {E : Value → Shared → Prop} {s : Shared} {name : PySem.Str} {scope : Scope} {L a : Addr} {cd : Value} {cl : List (PySem.Str × Addr)} {h₀ : Heap} {m : PySem.Str → Option Value} {news : List (Addr × Obj)}
theorem nameX_goes {n : PySem.Str} {pos : Pos} {Q : Unit → Shared → Prop} (F : Fr h₀ L s.heap m) (N : News h₀ L s.heap news)
    (h : ∀ h' v, Fr h₀ L h' (fun x => if x = n then v else m x) → News h₀ L h' news → Q () { s with heap := h', toks := s.toks + 1 })
    (hk : scope.kind = .function := by rfl) (hl : (envX name scope L a cd cl).kindOf n = some .local := by rfl) :
    wpAny M A (do bindName (envX name scope L a cd cl) n .none; unbindBehindTheSuite (envX name scope L a cd cl) n pos) Q E s :=
  wpAny_nameGoes_keeps hl F.ns (by show (scope.kind == .class || (scope.kind == .module && L != mainGlobals)) = false; rw [hk]; rfl) fun h' v hn hs => h h' v (F.set hn hs) (N.set hs)
end
def resD : (List Row × Nat) ⊕ Nat → Dat
  | .inl (rws, e) => .tuple [.list (rws.map RDt), .int (e : Int)]
  | .inr k => .tuple [.str "wrong", .int (k : Int)]
theorem told_ext {v : Value} : (fun y => if y = PySem.Str.ofString "pairs" then some v else none) = (fun y => if y = PySem.Str.ofString "pairs" then some v else none) := rfl
local macro_rules | `(tactic| walk_at "eval ListComp") => `(tactic| (k_here; k_dflt (refine LCg.ListComp_U (F₀ := by k_asm) (by with_unfolding_all rfl) (by decide) (by rfl) (by decide) (by rfl) ?_)))
section
theorem told {w : World} {mean : ExcName → Option Value} {mg mb : PySem.Str → Option Value} {dp un : Nat} {gd : Option (List Code)} {cn : PySem.Str} {cs : Scope} {a : Addr} {ccd : Value} {A₀ : Around} {base h₀ : Heap} {L : Addr} {m : PySem.Str → Option Value} {news : List (Addr × Obj)} {s : Shared} {Q E : Value → Shared → Prop} {pl : Addr} {z : Nat} {pvs : List Value} {toks : List (PySem.Str × PySem.Str)} {res : (List Row × Nat) ⊕ Nat}
    (B : Below A₀ base [] h₀) (F : Fr h₀ L s.heap m) (X : (frag.heap_1 w.params).In h₀) (N : News h₀ L s.heap news) (T : Top (vG pG) (looseW (vG pG) ls) mean mg mb h₀) (hk : cs.kind = .function) (XB : (frag.heap_1 w.params).In base) (TB : Top (vG pG) (looseW (vG pG) ls) mean mg mb base)
    (spec : WSpec toks res) (hpl : (pl, listOf pvs.toArray z) ∈ news) (hlen : pvs.length = toks.length) (few : toks.length < 1000)
    (hpv : ∀ (j : Nat) (κ ω : PySem.Str), toks[j]? = some (κ, ω) → ∃ a, pvs[j]? = some (.ref a) ∧ PairAt w news a κ ω)
    (hdp : dp + 12 < recursionLimit) (hun : un + 96 < cLine)
    (ret : ∀ h' tk' D ex, Fr h₀ L h' m → News h₀ L h' ex → (∀ p ∈ news, p ∈ ex) → DatIn ex (.ref D) (resD res) → Q (.ref D) { s with heap := h', toks := tk' }) :
    wpAny (model PySem.Challenge.rw_pb0262_01.row.prog w) (ktrTop dp un gd cn cs L a ccd [] []) (call (.ref 464) [.ref pl]) Q E s := by
  refine wpAny_call ?_
  k_dflt (refine' code_cellS0 (binds := [("pairs", .ref pl)]) ?k1 ?k2 ?k3 ?k4 ?k5 ?kA ?k6 ?k7 ?k8 ?k9 ?kB ?kD ?_ ?kK ?c2 ?c3 ?c4; (case kA => exact rfl); (case kK => assumption); (case k1 => k_asm); (case k2 => k_asm); (case k3 => k_asm); (case k4 => k_asm); (case k5 => k_asm); (case k6 => k_is); (case k7 => k_is); (case k8 => ktr_room); (case k9 => exact BindsTo.of_eq rfl); (case kB => exact rfl); (case kD => decide +kernel); (case c2 => exact rfl); (case c3 => exact rfl); (case c4 => exact rfl); k_whole; intro g' L' h' tk' cells' FG' F' N' Y' B' X' T' DD' l1; k_cells Y'; (try simp only [List.cons_append, List.nil_append] at N'); (try dsimp only); (try k_fold))
  k_steps
  all_goals (
    unfold WHere
    rename_i oc hoc _ _ _ _ _ _ _ _ _ _
    refine tok_rest (TInv w toks ((L' + 1, oc) :: news)) ⟨rfl, fun _ h => h, fun j _ _ h => absurd h (Nat.not_lt_zero _)⟩ ?_ ?_
    · intro i t I oI C oC D m₂ ys nw h8 tk8 E' hi hinv hC hx F8 N8 off ne
      obtain ⟨hyl, hsub, hys⟩ := hinv
      have hcell : (L' + 1, oc) ∈ nw := hsub _ (List.mem_cons_self ..)
      have hpl' : (pl, listOf pvs.toArray z) ∈ nw := hsub _ (List.mem_cons_of_mem _ hpl)
      obtain ⟨⟨κ, ω⟩, hp⟩ : ∃ p, toks[i]? = some p := ⟨_, List.getElem?_eq_getElem (by omega)⟩
      obtain ⟨pa, hpa, hpair⟩ := hpv i κ ω hp
      have hpair' := hpair.mono (news' := nw) fun p q => hsub _ (List.mem_cons_of_mem _ q)
      have hpi : pvs[(0 + (i : Int)).toNat]? = some (.ref pa) := by rw [show (0 + (i : Int)).toNat = i by omega]; exact hpa
      have hlt : 0 + (i : Int) < 1000 := by omega
      k_steps
      all_goals exact tok_end ⟨hyl, hsub, hys⟩ hp (by k_asm) (by k_asm) off l7 l2 (ltN (by omega)) (ltN (by omega)) (ltN (by omega))
    · intro ys nw hinv
      obtain ⟨hyl, hsub, hys⟩ := hinv
      k_steps
      all_goals (
        unfold WHere
        rename News _ _ _ _ => lN
        rename Fr _ _ _ _ => lF
        rename_i lnd _ _ _ _ _ _
        obtain ⟨rest, N2, S, hnr⟩ := told_rs lN l7 l2 lnd.2.1 hyl hlen few hys
        refine spec (by k_asm) lF (by k_asm) N2 (by k_asm) rfl S (by ktr_room) (by ktr_units) ?_ ?_
        · intro rws e hre h9 tk9 ti9 ra rs z9 ex F9 N9 hrs hrex
          have hr9 := hrex _ S.hr
          (try k_fold)
          k_steps
          all_goals (
            refine ret _ _ _ _ (by k_asm) (by k_asm) (fun p hp => ?_) ?_
            · refine List.mem_cons_of_mem _ (List.mem_cons_of_mem _ (List.mem_cons_of_mem _ (hrex p (hnr p (hsub p (List.mem_cons_of_mem _ hp))))))
            · subst hre
              exact .tuple (List.mem_cons_self ..) (.cons (.list (List.mem_cons_of_mem _ (List.mem_cons_self ..)) (hrs.mono fun p hp => List.mem_cons_of_mem _ (List.mem_cons_of_mem _ (List.mem_cons_of_mem _ hp)))) (.cons (.int _ _) .nil)))
        · intro k hre h9 tk9 e9 R9
          obtain ⟨g₂, F₂, D9, what, b1, b2, b3, p9, v1, v2, z9, hp9, R, u9⟩ := R9
          (try k_unfold)
          (try dsimp only)
          refine caught_gfX R F₂ (by k_asm) u9 XB TB DD' (by k_is) ?_
          intro h8 g8 tk8 a0 Te Tn F8 N8 B8 X8 T8 D8
          (try dsimp only)
          (try k_fold)
          k_steps
          all_goals ((first | (change qk _ _; k_unfold) | (dsimp only; k_unfold) | (simp only [qk])); (try dsimp only); refine nameX_goes (by k_asm) (by k_asm) ?_ ; intro h7 v7 F7 N7; (try dsimp only); (try k_fold); k_steps; all_goals (
            rw [show ((k : Int) + 1 - 1) = (k : Int) by omega] at *
            refine ret _ _ _ _ (by k_asm) (by k_asm) (fun p hp => ?_) ?_
            · refine List.mem_cons_of_mem _ (List.mem_cons_of_mem _ (List.mem_cons_of_mem _ (hnr p (hsub p (List.mem_cons_of_mem _ hp)))))
            · subst hre
              exact .tuple (List.mem_cons_self ..) (.cons (.str _ _) (.cons (.int _ _) .nil))))))
end

end Mine
end Parts1
section SEq1
open PySem PySem.W PyProof.Rows PySem.Calls
open PySem.SeqAt
set_option Elab.async false
set_option maxRecDepth 100000
set_option hygiene false
set_option linter.unusedVariables false
set_option maxHeartbeats 8000000
namespace Mine
mutual
/-- the data that stand at a value, whatever tells which object an address holds -/
inductive DX (P : Addr → Obj → Prop) : Value → Dat → Prop
  | none : DX P Value.none Dat.none
  | int (i : Int) (t : Tok) : DX P (Value.int i t) (Dat.int i)
  | str (x : PySem.Str) (t : Tok) : DX P (Value.str x t) (Dat.str x)
  | bytes (b : Array UInt8) (t : Tok) : DX P (Value.bytes b t) (Dat.bytes b)
  | tuple {a : Addr} {vs : List Value} {n : Nat} {ds : List Dat} : P a (tupOf vs n) → DXs P vs ds → DX P (Value.ref a) (Dat.tuple ds)
  | list {a : Addr} {vs : List Value} {n : Nat} {ds : List Dat} : P a (listOf vs.toArray n) → DXs P vs ds → DX P (Value.ref a) (Dat.list ds)
inductive DXs (P : Addr → Obj → Prop) : List Value → List Dat → Prop
  | nil : DXs P [] []
  | cons {v : Value} {vs : List Value} {d : Dat} {ds : List Dat} : DX P v d → DXs P vs ds → DXs P (v :: vs) (d :: ds)
end
theorem DX.mono {P P' : Addr → Obj → Prop} (hs : ∀ a o, P a o → P' a o) {v : Value} {d : Dat} (h : DX P v d) : DX P' v d :=
  DX.rec (motive_1 := fun v d _ => DX P' v d) (motive_2 := fun vs ds _ => DXs P' vs ds) .none .int .str .bytes (fun h _ r => .tuple (hs _ _ h) r) (fun h _ r => .list (hs _ _ h) r) .nil (fun _ _ a b => .cons a b) h
theorem DXs.mono {P P' : Addr → Obj → Prop} (hs : ∀ a o, P a o → P' a o) {vs : List Value} {ds : List Dat} (h : DXs P vs ds) : DXs P' vs ds :=
  DXs.rec (motive_1 := fun v d _ => DX P' v d) (motive_2 := fun vs ds _ => DXs P' vs ds) .none .int .str .bytes (fun h _ r => .tuple (hs _ _ h) r) (fun h _ r => .list (hs _ _ h) r) .nil (fun _ _ a b => .cons a b) h
/-- no bool among the data -/
def noB : Nat → Dat → Bool
  | _, .none => true
  | _, .int _ => true
  | _, .str _ => true
  | _, .bytes _ => true
  | _, .bool _ => false
  | 0, .tuple _ => false
  | 0, .list _ => false
  | n + 1, .tuple ds => ds.all (noB n)
  | n + 1, .list ds => ds.all (noB n)
theorem DX.of_in {news : List (Addr × Obj)} {P : Addr → Obj → Prop} (hP : ∀ p ∈ news, P p.1 p.2) (n : Nat) {v : Value} {d : Dat} (h : DatIn news v d) : noB n d = true → DX P v d :=
  DatIn.rec (motive_1 := fun v d _ => ∀ n, noB n d = true → DX P v d) (motive_2 := fun vs ds _ => ∀ n, (∀ d ∈ ds, noB n d = true) → DXs P vs ds)
    (fun _ _ => .none) (fun b n h => by cases n <;> simp [noB] at h) (fun i t _ _ => .int i t) (fun x t _ _ => .str x t) (fun b t _ _ => .bytes b t)
    (fun m _ ih n h => by
      cases n with
      | zero => simp [noB] at h
      | succ n => exact .tuple (hP _ m) (ih n (by simpa [noB] using h)))
    (fun m _ ih n h => by
      cases n with
      | zero => simp [noB] at h
      | succ n => exact .list (hP _ m) (ih n (by simpa [noB] using h)))
    (fun _ _ => .nil) (fun _ _ a b n h => .cons (a n (h _ (List.mem_cons_self ..))) (b n (fun d hd => h d (List.mem_cons_of_mem _ hd)))) h n
theorem DXs.len {P : Addr → Obj → Prop} {vs : List Value} {ds : List Dat} (h : DXs P vs ds) : vs.length = ds.length := by
  induction vs generalizing ds with
  | nil => cases h; rfl
  | cons v vs ih =>
    cases h with
    | cons _ r => rw [List.length_cons, List.length_cons, ih r]
theorem DXs.append {P : Addr → Obj → Prop} {vs ws : List Value} {ds es : List Dat} (h : DXs P vs ds) (k : DXs P ws es) : DXs P (vs ++ ws) (ds ++ es) := by
  induction vs generalizing ds with
  | nil => cases h; exact k
  | cons v vs ih =>
    cases h with
    | cons h r => exact .cons h (ih r)
theorem DXs.get {P : Addr → Obj → Prop} {vs : List Value} {ds : List Dat} (h : DXs P vs ds) {k : Nat} (hk : k < vs.length) (hd : k < ds.length) : DX P vs[k] ds[k] := by
  induction vs generalizing ds k with
  | nil => exact absurd hk (Nat.not_lt_zero _)
  | cons v vs ih =>
    cases h with
    | cons m r =>
      cases k with
      | zero => exact m
      | succ k => exact ih r (by simpa using hk) (by simpa using hd)
theorem eq_bytes {A : Around} {s : Shared} (b : Array UInt8) (t u : Tok) : EqAt A s (.bytes b t) (.bytes b u) true := fun prog w E Q h => by
  unfold eqBool
  refine wpAny_holding ?_
  refine wpAny_ite_split (fun _ => ?_) (fun _ => ?_)
  · exact wpAny_bind (wpAny_rule (wpAny_pure (by simpa using h)))
  · exact wpAny_bind (richCompare_gives (op := .Eq) (T := "bytes") rfl rfl FB.slot_bytes_eq FB.entry_bytes_eq (FB.args_bytes_eq_2 _ _) (gives_bytes_eq b b t u) (fun x => nomatch x) (wpAny_truthy_bool (by simpa using h)))
theorem all_true (n : Nat) : ((List.range n).all fun _ => true) = true := by simp
theorem dx_eq {s : Shared} (n : Nat) : ∀ {A : Around} {v y : Value} {d : Dat}, noB n d = true → A.units + n < cLine → DX (fun a o => s.heap.get? a = some o) v d → DX (fun a o => s.heap.get? a = some o) y d → EqAt A s v y true := by
  induction n with
  | zero =>
    intro A v y d h hu hv hy
    cases hv with
    | none => cases hy; exact .same _
    | int i t => cases hy with | int _ u => have := EqAt.int_int (A := A) (s := s) i t i u; rwa [beq_self_eq_true] at this
    | str x t => cases hy with | str _ u => have := EqAt.str_str (A := A) (s := s) x t x u; rwa [beq_self_eq_true] at this
    | bytes b t => cases hy with | bytes _ u => exact eq_bytes b t u
    | tuple _ _ => simp [noB] at h
    | list _ _ => simp [noB] at h
  | succ n ih =>
    intro A v y d h hu hv hy
    cases hv with
    | none => cases hy; exact .same _
    | int i t => cases hy with | int _ u => have := EqAt.int_int (A := A) (s := s) i t i u; rwa [beq_self_eq_true] at this
    | str x t => cases hy with | str _ u => have := EqAt.str_str (A := A) (s := s) x t x u; rwa [beq_self_eq_true] at this
    | bytes b t => cases hy with | bytes _ u => exact eq_bytes b t u
    | @tuple a vs k ds m r =>
      cases hy with | @tuple b us k' _ m' r' =>
      by_cases hab : a = b
      · subst hab; exact .same _
      · have l1 := r.len
        have l2 := r'.len
        have h' : ds.all (noB n) = true := h
        have hr := RcAt.tuples (A := A) (s := s) (l := a) (b := b) (items := vs.toArray) (items2 := us.toArray) (e := fun _ => true) ⟨_, m, rfl, _, rfl⟩ ⟨_, m', rfl, _, rfl⟩ (by omega) (fun j h1 h2 => by
          have h1' : j < vs.length := by simpa using h1
          have h2' : j < us.length := by simpa using h2
          have := ih (A := A.in1) (List.all_eq_true.mp h' (ds[j]'(by omega)) (List.getElem_mem _)) (by show A.units + 1 + n < cLine; omega) (r.get h1' (by omega)) (r'.get h2' (by omega))
          simpa using this)
        refine .of_refs hab ?_
        rw [all_true] at hr
        simpa [l1, l2] using hr
    | @list a vs k ds m r =>
      cases hy with | @list b us k' _ m' r' =>
      by_cases hab : a = b
      · subst hab; exact .same _
      · have l1 := r.len
        have l2 := r'.len
        have h' : ds.all (noB n) = true := h
        have hr := RcAt.lists (A := A) (s := s) (l := a) (b := b) (items := vs.toArray) (items2 := us.toArray) (e := fun _ => true) ⟨_, m, rfl, _, rfl⟩ ⟨_, m', rfl, _, rfl⟩ (by simp [l1, l2]) (by omega) (fun j h1 h2 => by
          have h1' : j < vs.length := by simpa using h1
          have h2' : j < us.length := by simpa using h2
          have := ih (A := A.in1) (List.all_eq_true.mp h' (ds[j]'(by omega)) (List.getElem_mem _)) (by show A.units + 1 + n < cLine; omega) (r.get h1' (by omega)) (r'.get h2' (by omega))
          simpa using this)
        refine .of_refs hab ?_
        rw [all_true] at hr
        exact hr
/-- two tuples of the same data: == tells True, != tells False -/
theorem tup_eq {prog : Program} {w : World} {A : Around} {E : Value → Shared → Prop} {s : Shared} {a b : Addr} {ds : List Dat} {Q : Value → Shared → Prop} (h : noB 6 (.tuple ds) = true) (hu : A.units + 6 < cLine)
    (ha : DX (fun a o => s.heap.get? a = some o) (.ref a) (.tuple ds)) (hb : DX (fun a o => s.heap.get? a = some o) (.ref b) (.tuple ds)) (hq : Q (.bool true) s) : wpAny (model prog w) A (compareOp .Eq (.ref a) (.ref b)) Q E s := by
  cases ha with | tuple m r => cases hb with | tuple m' r' =>
  rename_i vs k us k'
  have l1 := r.len
  have l2 := r'.len
  refine eq_tupleAt (items := vs.toArray) (items2 := us.toArray) (e := fun _ => true) ⟨_, m, rfl, _, rfl⟩ ⟨_, m', rfl, _, rfl⟩ (by omega) (fun j h1 h2 => ?_) (by rw [all_true]; simpa [l1, l2] using hq)
  have h1' : j < vs.length := by simpa using h1
  have h2' : j < us.length := by simpa using h2
  have h' : ds.all (noB 5) = true := h
  have := dx_eq 5 (A := A.in1) (List.all_eq_true.mp h' (ds[j]'(by omega)) (List.getElem_mem _)) (by show A.units + 1 + 5 < cLine; omega) (r.get h1' (by omega)) (r'.get h2' (by omega))
  simpa using this
theorem tup_ne {prog : Program} {w : World} {A : Around} {E : Value → Shared → Prop} {s : Shared} {a b : Addr} {ds : List Dat} {Q : Value → Shared → Prop} (h : noB 6 (.tuple ds) = true) (hu : A.units + 6 < cLine)
    (ha : DX (fun a o => s.heap.get? a = some o) (.ref a) (.tuple ds)) (hb : DX (fun a o => s.heap.get? a = some o) (.ref b) (.tuple ds)) (hq : Q (.bool false) s) : wpAny (model prog w) A (compareOp .NotEq (.ref a) (.ref b)) Q E s := by
  cases ha with | tuple m r => cases hb with | tuple m' r' =>
  rename_i vs k us k'
  have l1 := r.len
  have l2 := r'.len
  refine RcNeAt.tuples (items := vs.toArray) (items2 := us.toArray) (e := fun _ => true) ⟨_, m, rfl, _, rfl⟩ ⟨_, m', rfl, _, rfl⟩ (by omega) (fun j h1 h2 => ?_) prog w E Q (by rw [all_true]; simpa [l1, l2] using hq)
  have h1' : j < vs.length := by simpa using h1
  have h2' : j < us.length := by simpa using h2
  have h' : ds.all (noB 5) = true := h
  have := dx_eq 5 (A := A.in1) (List.all_eq_true.mp h' (ds[j]'(by omega)) (List.getElem_mem _)) (by show A.units + 1 + 5 < cLine; omega) (r.get h1' (by omega)) (r'.get h2' (by omega))
  simpa using this
end Mine
end SEq1
section Part19
open PySem PySem.W PyProof.Rows PySem.Calls
set_option Elab.async false
set_option maxRecDepth 100000
set_option hygiene false
set_option linter.unusedVariables false
set_option maxHeartbeats 8000000
set_option compiler.extract_closed false
namespace Mine
local macro_rules | `(tactic| ktr_unf) => `(tactic| ((try k_sweep); (try dsimp only); (try k_fold)))
section
variable {prog : Program} {w : World} {A : Around} {E : Value → Shared → Prop} {s : Shared} {h₀ : Heap} {L D c : Addr} {m : PySem.Str → Option Value} {news news' : List (Addr × Obj)} {i j : Int} {ta tb t : Tok} {z : Nat}
theorem tape_set {Q : Unit → Shared → Prop} (F : Fr h₀ L s.heap m) (N : News h₀ L s.heap news) (U : Upd D (listOf #[.ref c, .int i ta] z) (listOf #[.ref c, .int j tb] z) news news')
    (h : ∀ h', Fr h₀ L h' m → News h₀ L h' news' → Q () { s with heap := h' }) : wpAny (model prog w) A (setItem (.ref D) (.int 1 t) (.int j tb)) Q E s := by
  obtain ⟨pre, post, rfl, rfl, a, b'⟩ := U.split
  have z := N (D, listOf #[.ref c, .int i ta] z) (List.mem_append.mpr (.inr (.head _)))
  refine ki_setAt z.1 (by decide) (by decide) (by show (1 : Int) < 2; decide) (h _ (F.change (Heap.SameBut.update ..) z.2.1 z.2.2) (ki_turn _ N a b' ?_ ?_))
  · rfl
  · simp
end
local macro_rules | `(tactic| k_mem) => `(tactic| exact hc' _)
local macro_rules | `(tactic| walk_at "call builtin:len") => `(tactic| (k_here; (with_reducible show wpAny _ _ (call (Value.builtin "len") [Value.ref _]) _ _ _); k_dflt (refine' len_mem ?k1 ?k2 ?k3 ?_; (case k1 => k_asm); (case k2 => k_mem); (case k3 => omega); k_whole)))
local macro_rules | `(tactic| walk_at "subscriptTail") => `(tactic| (k_here; (with_reducible show wpAny _ _ (subscriptTail _ _ (Value.ref _) (Value.int _ _)) _ _ _); (with_unfolding_all refine' item_mem ?k1 ?k2 ?k3 ?k4 ?k5 ?_ ?k6; (case k1 => k_asm); (case k2 => k_mem); (case k5 => assumption); (case k3 => first | assumption | omega); (case k4 => first | assumption | omega); (case k6 => with_unfolding_all rfl); k_whole)))
local macro_rules | `(tactic| walk_at "setItem ref int") => `(tactic| (k_here; k_dflt (refine' tape_set ?k1 ?k2 ?k3 ?_; (case k1 => k_asm); (case k2 => k_asm); (case k3 => exact hU _); k_whole); intro h9 F9 N9; ktr_unf))
section
variable {w : World} {mean : ExcName → Option Value} {mg mb : PySem.Str → Option Value} {dp un : Nat} {gd : Option (List Code)} {cn : PySem.Str} {cs : Scope} {a : Addr} {ccd : Value} {cl : List (PySem.Str × Addr)} {outer : List Env} {A₀ : Around} {base h₀ : Heap} {L : Addr} {m : PySem.Str → Option Value} {news rest : List (Addr × Obj)} {s : Shared} {Q E : Value → Shared → Prop}
theorem draw (B : Below A₀ base outer h₀) (F : Fr h₀ L s.heap m) (X : (frag.heap_1 w.params).In h₀) (N : News h₀ L s.heap news) (T : Top (vG pG) (looseW (vG pG) ls) mean mg mb h₀) (hk : cs.kind = .function) {tp c : Addr} {jj : Int} {ta tm : Tok} {z zc : Nat} {cv : List Value} {M : Int} {nw : Tok → List (Addr × Obj)}
    (hU : ∀ tj, Upd tp (listOf #[.ref c, .int jj ta] z) (listOf #[.ref c, .int (jj + 1) tj] z) news (nw tj)) (htp : (tp, listOf #[.ref c, .int jj ta] z) ∈ news) (hc : (c, listOf cv.toArray zc) ∈ news) (hcn : @Ne Nat c tp)
    (hci : ∀ k, k < cv.length → ∃ i t, cv[k]? = some (.int i t)) (hpos : 0 < cv.length) (hlen : cv.length < 64) (hj0 : 0 ≤ jj) (hj : jj < 100) (hM : 0 < M) (hM' : M < 100)
    (hdp : dp + 3 < recursionLimit) (hun : un + 24 < cLine) (ret : ∀ h' tk' tj k tv, Fr h₀ L h' m → News h₀ L h' (nw tj) → 0 ≤ k → k < M → Q (.int k tv) { s with heap := h', toks := tk' }) :
    wpAny (model PySem.Challenge.rw_pb0262_01.row.prog w) (ktrTop dp un gd cn cs L a ccd cl outer) (call (.ref 459) [.ref tp, .int M tm]) Q E s := by
  obtain ⟨j, rfl⟩ : ∃ n : Nat, jj = n := ⟨jj.toNat, by omega⟩
  have hc' : ∀ tj, (c, listOf cv.toArray zc) ∈ nw tj := fun tj => Upd.sub (hU tj) hc hcn
  obtain ⟨ci, ct, hci'⟩ := hci (j % cv.length) (Nat.mod_lt _ hpos)
  have hfm : (j : Int).fmod (cv.length : Int) = ((j % cv.length : Nat) : Int) := by rw [Int.fmod_eq_emod_of_nonneg _ (by omega), Int.natCast_emod]
  have hlt : (j % cv.length : Nat) < cv.length := Nat.mod_lt _ hpos
  have hf0 : 0 ≤ (j : Int).fmod (cv.length : Int) := by rw [hfm]; omega
  have hf1 : (j : Int).fmod (cv.length : Int) < 1000 := by rw [hfm]; omega
  have hi9 : cv[((j : Int).fmod (cv.length : Int)).toNat]? = some (.int ci ct) := by rw [hfm, Int.toNat_natCast]; exact hci'
  have hne : (cv.length : Int) ≠ 0 := by omega
  refine wpAny_call ?_
  k_dflt (refine' code_def (binds := [("tape", .ref tp), ("many", .int M tm)]) ?k1 ?k2 ?k3 ?k4 ?k5 ?kA ?kF ?kK ?k6 ?k7 ?k8 ?k9 ?kB ?_ ?c2 ?c3 ?c4 ?c5; (case kA => exact rfl); (case kF => exact rfl); (case kK => first | assumption | exact rfl); (case k1 => k_asm); (case k2 => k_asm); (case k3 => k_asm); (case k4 => k_asm); (case k5 => k_asm); (case k6 => k_is); (case k7 => k_is); (case k8 => ktr_room); (case k9 => first | exact BindsTo.of_eq rfl | exact binds_K (by k_in) rfl (by k_is) rfl rfl rfl); (case c5 => decide); (case kB => exact locs rfl); (case c2 => exact rfl); (case c3 => exact rfl); (case c4 => exact rfl); k_whole; intro g' L' h' FG' F' N' B' X' T'; (try dsimp only [List.reverse, List.reverseAux] at F'); (try dsimp only); (try k_fold))
  k_steps
  all_goals exact ret _ _ _ _ _ (by k_asm) (by k_asm) (Int.fmod_nonneg_of_pos _ hM) (Int.fmod_lt_of_pos _ hM)
end

end Mine
end Part19
section Part20
open PySem PySem.W PyProof.Rows PySem.Calls
set_option Elab.async false
set_option maxRecDepth 100000
set_option hygiene false
set_option linter.unusedVariables false
set_option maxHeartbeats 8000000
set_option compiler.extract_closed false
namespace Mine
def wi : Nat → Addr | 0 => 422 | 1 => 428 | 2 => 432 | 3 => 436 | 4 => 441 | 5 => 445 | _ => 451
def ta : Nat → Addr | 0 => 419 | 1 => 425 | 2 => 430 | 3 => 434 | 4 => 439 | 5 => 443 | _ => 448
def wa : Nat → Addr | 0 => 421 | 1 => 427 | 2 => 431 | 3 => 435 | 4 => 440 | 5 => 444 | _ => 450
theorem seven {p : Nat → Prop} (h0 : p 0) (h1 : p 1) (h2 : p 2) (h3 : p 3) (h4 : p 4) (h5 : p 5) (h6 : p 6) {f : Nat} (hf : f < 7) : p f := by
  obtain rfl | rfl | rfl | rfl | rfl | rfl | rfl | rfl := cases8 (Nat.lt_succ_of_lt hf)
  · exact h0
  · exact h1
  · exact h2
  · exact h3
  · exact h4
  · exact h5
  · exact h6
  · exact absurd hf (by decide)
theorem wl_all (P : Params) : ∃ z, (frag.heap_1 P).lookup 452 = some (tupOf [.ref 422, .ref 428, .ref 432, .ref 436, .ref 441, .ref 445, .ref 451] z) := ⟨_, by k_is⟩
theorem wl_item (P : Params) {f : Nat} (hf : f < 7) : ∃ z, (frag.heap_1 P).lookup (wi f) = some (tupOf [.ref (ta f), .ref (wa f)] z) :=
  seven (p := fun f => ∃ z, (frag.heap_1 P).lookup (wi f) = some (tupOf [.ref (ta f), .ref (wa f)] z)) ⟨_, by k_is⟩ ⟨_, by k_is⟩ ⟨_, by k_is⟩ ⟨_, by k_is⟩ ⟨_, by k_is⟩ ⟨_, by k_is⟩ ⟨_, by k_is⟩ hf
theorem lt_len {f : Nat} (hf : f < 7) : (Mine.LT f).length ≤ 2 := seven (p := fun f : Nat => List.length (Mine.LT f) ≤ 2) (by decide) (by decide) (by decide) (by decide) (by decide) (by decide) (by decide) hf
/-- the references to pairs of texts -/
def PV (w : World) (news : List (Addr × Obj)) (vs : List Value) (toks : List (PySem.Str × PySem.Str)) : Prop :=
  vs.length = toks.length ∧ ∀ (j : Nat) (κ ω : PySem.Str), toks[j]? = some (κ, ω) → ∃ a : Addr, vs[j]? = some (Value.ref a) ∧ PairAt w news a κ ω
theorem PV.nil {w : World} {news : List (Addr × Obj)} : PV w news [] [] := ⟨rfl, fun j κ ω h => by simp at h⟩
theorem PV.mono {w : World} {news news' : List (Addr × Obj)} {vs : List Value} {toks : List (PySem.Str × PySem.Str)} (h : PV w news vs toks) (hs : ∀ p ∈ news, p ∈ news') : PV w news' vs toks :=
  ⟨h.1, fun j κ ω hj => by obtain ⟨a, h1, h2⟩ := h.2 j κ ω hj; exact ⟨a, h1, h2.mono hs⟩⟩
theorem PV.cons {w : World} {news : List (Addr × Obj)} {vs : List Value} {toks : List (PySem.Str × PySem.Str)} {a : Addr} {κ ω : PySem.Str} (p : PairAt w news a κ ω) (h : PV w news vs toks) : PV w news (Value.ref a :: vs) ((κ, ω) :: toks) := by
  refine ⟨by rw [List.length_cons, List.length_cons, h.1], fun j κ' ω' hj => ?_⟩
  cases j with
  | zero => simp at hj; obtain ⟨rfl, rfl⟩ := hj; exact ⟨a, rfl, p⟩
  | succ j => exact h.2 j κ' ω' (by simpa using hj)
theorem PV.append {w : World} {news : List (Addr × Obj)} {vs us : List Value} {toks tks : List (PySem.Str × PySem.Str)} (h : PV w news vs toks) (k : PV w news us tks) : PV w news (vs ++ us) (toks ++ tks) := by
  refine ⟨by rw [List.length_append, List.length_append, h.1, k.1], fun j κ ω hj => ?_⟩
  by_cases hl : j < toks.length
  · rw [List.getElem?_append_left hl] at hj
    obtain ⟨a, h1, h2⟩ := h.2 j κ ω hj
    exact ⟨a, by rw [List.getElem?_append_left (by rw [h.1]; exact hl)]; exact h1, h2⟩
  · rw [List.getElem?_append_right (by omega)] at hj
    obtain ⟨a, h1, h2⟩ := k.2 _ κ ω hj
    exact ⟨a, by rw [List.getElem?_append_right (by rw [h.1]; omega), h.1]; exact h1, h2⟩
theorem PV.drop {w : World} {news : List (Addr × Obj)} {vs : List Value} {toks : List (PySem.Str × PySem.Str)} (h : PV w news vs toks) (n : Nat) : PV w news (vs.drop n) (toks.drop n) := by
  refine ⟨by rw [List.length_drop, List.length_drop, h.1], fun j κ ω hj => ?_⟩
  rw [List.getElem?_drop] at hj ⊢
  exact h.2 _ κ ω hj
theorem PV.take {w : World} {news : List (Addr × Obj)} {vs : List Value} {toks : List (PySem.Str × PySem.Str)} (h : PV w news vs toks) (n : Nat) : PV w news (vs.take n) (toks.take n) := by
  refine ⟨by rw [List.length_take, List.length_take, h.1], fun j κ ω hj => ?_⟩
  by_cases hl : j < n
  · rw [List.getElem?_take_of_lt hl] at hj ⊢
    exact h.2 _ κ ω hj
  · rw [List.getElem?_take_eq_none (by omega)] at hj
    cases hj
theorem pair_lit {w : World} {a : Addr} {κ ω : PySem.Str} {u v : Tok} {z : Nat} (h : (frag.heap_1 w.params).lookup a = some (tupOf [.str κ u, .str ω v] z)) : PairAt w [] a κ ω := ⟨u, v, z, .inr h⟩
theorem wl_toks (w : World) {f : Nat} (hf : f < 7) : ∃ vs z, (frag.heap_1 w.params).lookup (ta f) = some (tupOf vs z) ∧ PV w [] vs (LT f) := by
  refine seven (p := fun f => ∃ vs z, (frag.heap_1 w.params).lookup (ta f) = some (tupOf vs z) ∧ PV w [] vs (LT f)) ?_ ?_ ?_ ?_ ?_ ?_ ?_ hf
  · exact ⟨[.ref 418], _, by k_is, .cons (pair_lit (by k_is)) .nil⟩
  · exact ⟨[.ref 423, .ref 424], _, by k_is, .cons (pair_lit (by k_is)) (.cons (pair_lit (by k_is)) .nil)⟩
  · exact ⟨[.ref 429], _, by k_is, .cons (pair_lit (by k_is)) .nil⟩
  · exact ⟨[.ref 433], _, by k_is, .cons (pair_lit (by k_is)) .nil⟩
  · exact ⟨[.ref 437, .ref 438], _, by k_is, .cons (pair_lit (by k_is)) (.cons (pair_lit (by k_is)) .nil)⟩
  · exact ⟨[.ref 442], _, by k_is, .cons (pair_lit (by k_is)) .nil⟩
  · exact ⟨[.ref 446, .ref 447], _, by k_is, .cons (pair_lit (by k_is)) (.cons (pair_lit (by k_is)) .nil)⟩
theorem wl_worth (w : World) {f : Nat} (hf : f < 7) : DX (fun a o => (frag.heap_1 w.params).lookup a = some o) (.ref (wa f)) (LD f) := by
  refine seven (p := fun f => DX (fun a o => (frag.heap_1 w.params).lookup a = some o) (.ref (wa f)) (LD f)) ?_ ?_ ?_ ?_ ?_ ?_ ?_ hf
  · exact .tuple (vs := [.str _ _, .ref 420]) (by k_is) (.cons (.str _ _) (.cons (.tuple (vs := [.int _ _, .int _ _]) (by k_is) (.cons (.int _ _) (.cons (.int _ _) .nil))) .nil))
  · exact .tuple (vs := [.str _ _, .ref 426]) (by k_is) (.cons (.str _ _) (.cons (.tuple (vs := [.int _ _, .int _ _]) (by k_is) (.cons (.int _ _) (.cons (.int _ _) .nil))) .nil))
  · exact .tuple (vs := [.str _ _, .bytes _ _]) (by k_is) (.cons (.str _ _) (.cons (.bytes _ _) .nil))
  · exact .tuple (vs := [.str _ _, .str _ _]) (by k_is) (.cons (.str _ _) (.cons (.str _ _) .nil))
  · exact .tuple (vs := [.str _ _, .bytes _ _]) (by k_is) (.cons (.str _ _) (.cons (.bytes _ _) .nil))
  · exact .tuple (vs := [.str _ _, .str _ _]) (by k_is) (.cons (.str _ _) (.cons (.str _ _) .nil))
  · exact .tuple (vs := [.str _ _, .ref 449]) (by k_is) (.cons (.str _ _) (.cons (.tuple (vs := [.int _ _, .int _ _]) (by k_is) (.cons (.int _ _) (.cons (.int _ _) .nil))) .nil))
section
variable {prog : Program} {w : World} {A : Around} {E : Value → Shared → Prop} {s : Shared} {h₀ : Heap} {L a b c D : Addr} {m : PySem.Str → Option Value} {news : List (Addr × Obj)} {value slice : PySem.Expr} {Q : Value → Shared → Prop} {k : Int} {u : Tok} {z n1 n2 n3 : Nat} {va vb vc : List Value}
theorem pick2 {x y : PySem.Str} {tx ty : Tok} (N : News h₀ L s.heap news) (hm : (D, tupOf [.str x tx, .str y ty] z) ∈ news) (h0 : 0 ≤ k) (h1 : k < 2) (h : ∀ ω t, ω = x ∨ ω = y → Q (.str ω t) s)
    (hk : subscripted slice false (.ref D) (.int k u) = operate [.ref D, .int k u] (getItem (.ref D) (.int k u)) := by with_unfolding_all rfl) : wpAny (model prog w) A (subscriptTail value slice (.ref D) (.int k u)) Q E s := by
  have t : IsTup s.heap D [Value.str x tx, .str y ty].toArray := ⟨_, (N _ hm).1, rfl, z, rfl⟩
  obtain rfl | rfl : k = 0 ∨ k = 1 := by omega
  · exact item_tupleT t (by decide) (by decide) rfl rfl (h _ _ (.inl rfl)) hk
  · exact item_tupleT t (by decide) (by decide) rfl rfl (h _ _ (.inr rfl)) hk
theorem pickL (N : News h₀ L s.heap news) (hm : (D, listOf #[.ref a, .ref b, .ref c] z) ∈ news) (ha : (a, listOf va.toArray n1) ∈ news) (hb : (b, listOf vb.toArray n2) ∈ news) (hc : (c, listOf vc.toArray n3) ∈ news) (h0 : 0 ≤ k) (h1 : k < 3)
    (h : ∀ v vs n, (v, listOf vs.toArray n) ∈ news → vs = va ∨ vs = vb ∨ vs = vc → Q (.ref v) s)
    (hk : subscripted slice false (.ref D) (.int k u) = operate [.ref D, .int k u] (getItem (.ref D) (.int k u)) := by with_unfolding_all rfl) : wpAny (model prog w) A (subscriptTail value slice (.ref D) (.int k u)) Q E s := by
  have hm' : (D, listOf [Value.ref a, .ref b, .ref c].toArray z) ∈ news := hm
  obtain rfl | rfl | rfl : k = 0 ∨ k = 1 ∨ k = 2 := by omega
  · exact item_mem N hm' (by decide) (by decide) rfl (h _ _ _ ha (.inl rfl)) hk
  · exact item_mem N hm' (by decide) (by decide) rfl (h _ _ _ hb (.inr (.inl rfl))) hk
  · exact item_mem N hm' (by decide) (by decide) rfl (h _ _ _ hc (.inr (.inr rfl))) hk
theorem pick7 (F : Fr h₀ L s.heap m) (X₀ : (frag.heap_1 w.params).In h₀) (h0 : 0 ≤ k) (h1 : k < 7) (h : ∀ f, f < 7 → Q (.ref (wi f)) s)
    (hk : subscripted slice false (.ref 452) (.int k u) = operate [.ref 452, .int k u] (getItem (.ref 452) (.int k u)) := by with_unfolding_all rfl) : wpAny (model prog w) A (subscriptTail value slice (.ref 452) (.int k u)) Q E s := by
  obtain ⟨z, hz⟩ := wl_all w.params
  have t : IsTup s.heap 452 [Value.ref 422, .ref 428, .ref 432, .ref 436, .ref 441, .ref 445, .ref 451].toArray := ⟨_, (X₀.keeps F.keep) _ _ hz, rfl, z, rfl⟩
  obtain rfl | rfl | rfl | rfl | rfl | rfl | rfl : k = 0 ∨ k = 1 ∨ k = 2 ∨ k = 3 ∨ k = 4 ∨ k = 5 ∨ k = 6 := by omega
  · exact item_tupleT t (by decide) (by decide) rfl rfl (h 0 (by decide)) hk
  · exact item_tupleT t (by decide) (by decide) rfl rfl (h 1 (by decide)) hk
  · exact item_tupleT t (by decide) (by decide) rfl rfl (h 2 (by decide)) hk
  · exact item_tupleT t (by decide) (by decide) rfl rfl (h 3 (by decide)) hk
  · exact item_tupleT t (by decide) (by decide) rfl rfl (h 4 (by decide)) hk
  · exact item_tupleT t (by decide) (by decide) rfl rfl (h 5 (by decide)) hk
  · exact item_tupleT t (by decide) (by decide) rfl rfl (h 6 (by decide)) hk
theorem wl_tup {f : Nat} (hf : f < 7) (F : Fr h₀ L s.heap m) (X₀ : (frag.heap_1 w.params).In h₀) : IsTup s.heap (wi f) #[.ref (ta f), .ref (wa f)] := by
  obtain ⟨z, hz⟩ := wl_item w.params hf
  exact ⟨_, (X₀.keeps F.keep) _ _ hz, rfl, z, rfl⟩
theorem addL (F : Fr h₀ L s.heap m) (N : News h₀ L s.heap news) (ha : (a, listOf va.toArray n1) ∈ news) (hb : (b, listOf vb.toArray n2) ∈ news) (hz : va.length + vb.length ≤ 10000)
    (h : ∀ D vs h', vs = va ++ vb → vs.length = va.length + vb.length → Fr h₀ L h' m → News h₀ L h' ((D, listOf (vs : List Value).toArray 0) :: news) → (∀ p ∈ news, p.1 < D) → Q (.ref D) { s with heap := h' }) : wpAny (model prog w) A (binaryOp .Add (.ref a) (.ref b)) Q E s :=
  add_lists F N (N.isList ha) (N.isList hb) (fun h' F' N' => h _ _ h' rfl (List.length_append ..) F' N' fun p hp => Heap.lt_size (N p hp).1) (by rw [sizeLine_eq]; omega)
theorem listT {f : Nat} (hf : f < 7) (F : Fr h₀ L s.heap m) (X₀ : (frag.heap_1 w.params).In h₀) (N : News h₀ L s.heap news)
    (h : ∀ vs D c h', PV w [] vs (LT f) → Fr h₀ L h' m → News h₀ L h' ((D, listOf (vs : List Value).toArray c) :: news) → (∀ p ∈ news, p.1 < D) → Q (.ref D) { s with heap := h' }) : wpAny (model prog w) A (call (.type "list") [.ref (ta f)]) Q E s := by
  obtain ⟨vs, z, hz, pv⟩ := wl_toks w hf
  refine list_copyKT F N (l := ta f) (items := vs.toArray) ⟨_, (X₀.keeps F.keep) _ _ hz, rfl, z, rfl⟩ (fun D c h' F' N' l1 => h vs D c h' pv F' N' l1) ?_
  have h1 := pv.1
  have h2 : ∀ f : Nat, f < 7 → List.length (Mine.LT f) ≤ 2 := fun f hf => seven (p := fun f : Nat => List.length (Mine.LT f) ≤ 2) (by decide) (by decide) (by decide) (by decide) (by decide) (by decide) (by decide) hf
  have h3 := h2 f hf
  rw [sizeLine_eq]; simp; omega
end
section
variable {prog : Program} {w : World} {A : Around} {E : Value → Shared → Prop} {s : Shared} {env : Env} {h₀ : Heap} {x : PySem.Str} {body : List Stmt} {Q : Flow → Shared → Prop} {I : Addr} {a : Int} {n : Nat}
theorem UnrPost.mono {L : Addr} {s₁ : Shared} {it : Obj} {r r' : (PySem.Str → Option Value) → List (Addr × Obj) → Prop} (hr : ∀ m l, r m l → r' m l) {f : Flow} {s₂ : Shared} (h : UnrPost h₀ L s₁ I it r Q f s₂) : UnrPost h₀ L s₁ I it r' Q f s₂ := by
  have key : UnrEnd h₀ L s₁ I it r s₂ → UnrEnd h₀ L s₁ I it r' s₂ := by
    rintro ⟨h', tk, m', news', e, F, N, ho, q⟩
    exact ⟨h', tk, m', news', e, F, N, ho, hr _ _ q⟩
  cases f with
  | ret v => exact h
  | brk => exact h
  | next => exact key h
  | cont => exact key h
theorem rest_inv (Inv : Nat → (PySem.Str → Option Value) → List (Addr × Obj) → Prop)
    (turn : ∀ i m news t h tk, i < n → Inv i m news → Fr h₀ env.locals h (fun y => if y = x then some (.int (a + (i : Int)) t) else m y) → News h₀ env.locals h ((I, itR (a + ((i + 1 : Nat) : Int)) ((n : Int) - ((i + 1 : Nat) : Int))) :: news) →
      wpAny (model prog w) A (execs body env) (UnrPost h₀ env.locals { s with heap := h, toks := tk } I (itR (a + ((i + 1 : Nat) : Int)) ((n : Int) - ((i + 1 : Nat) : Int))) (Inv (i + 1)) Q) E { s with heap := h, toks := tk })
    (fin : ∀ m news h tk, Inv n m news → Fr h₀ env.locals h m → News h₀ env.locals h news → Q .next { s with heap := h, toks := tk }) :
    ∀ k i m news, i + k = n → Inv i m news → RangeRest prog w A E h₀ env x body Q s I a n k i m news := by
  intro k
  induction k with
  | zero =>
    intro i m news hi hv
    obtain rfl : i = n := by omega
    exact RangeRest.zero fun h tk F N => fin m news h tk hv F N
  | succ k ih =>
    intro i m news hi hv
    refine RangeRest.succ fun t h tk F N => ?_
    refine wpAny_mono (turn i m news t h tk (by omega) hv F N) (fun f s₂ p => Mine.UnrPost.mono (fun m' l q => ih (i + 1) m' l (by omega) q) p) fun _ _ e => e
end
def onW (w : World) (news : List (Addr × Obj)) (a : Addr) (o : Obj) : Prop := (a, o) ∈ news ∨ (frag.heap_1 w.params).lookup a = some o
theorem onW.mono {w : World} {news news' : List (Addr × Obj)} (hs : ∀ p ∈ news, p ∈ news') : ∀ a o, onW w news a o → onW w news' a o := fun a o h => h.imp (hs _) id
/-- what holds at the head of each turn of the law's loop -/
def LInv (w : World) (I tp c : Addr) (cv : List Value) (zc : Nat) (pre : List (PySem.Str × PySem.Str)) (beg : Int) (i : Nat) (m : PySem.Str → Option Value) (news : List (Addr × Obj)) : Prop :=
  ∃ (pl : Addr) (pvs : List Value) (zp : Nat) (rl : Addr) (rvs : List Value) (zr : Nat) (at_ : Int) (ta tb : Tok) (rws : List Row) (rest : List (Addr × Obj)) (u : PySem.Str → Option Value),
    m = (fun y => if y = PySem.Str.ofString "tape" then some (.ref tp) else if y = PySem.Str.ofString "pairs" then some (.ref pl) else if y = PySem.Str.ofString "rows" then some (.ref rl) else if y = PySem.Str.ofString "begin" then some (.int beg tb) else u y) ∧
    news = (tp, listOf #[.ref c, .int at_ ta] 0) :: (rl, listOf rvs.toArray zr) :: rest ∧ (c, listOf cv.toArray zc) ∈ rest ∧ (pl, listOf pvs.toArray zp) ∈ rest ∧ @Ne Nat tp rl ∧ @Ne Nat I tp ∧ @Ne Nat I rl ∧
    (∀ p ∈ rest, p.1 ≠ tp ∧ p.1 ≠ rl ∧ p.1 ≠ I) ∧ PV w rest pvs (pre ++ rtoks rws) ∧ DXs (onW w rest) rvs (rws.map RDt) ∧ rws.length = i ∧ (∀ r ∈ rws, r.1 < 7 ∧ r.2.1 < 3 ∧ r.2.2 < 7) ∧ 0 ≤ at_ ∧ at_ ≤ 3 + 3 * (i : Int)
theorem turn_done {w : World} {I tp c pl rl : Addr} {cv : List Value} {zc : Nat} {pre : List (PySem.Str × PySem.Str)} {beg at_ : Int} {i zp zr : Nat} {ta tb : Tok} {rws : List Row} {rest nn all : List (Addr × Obj)} {pvs rvs : List Value} {h₀ h' : Heap} {L : Addr} {m' : PySem.Str → Option Value} {s₁ : Shared} {tk : Nat} {it : Obj} {v : Value} {r : Row}
    (F : Fr h₀ L h' m') (N : News h₀ L h' all) (hI : (I, it) ∈ all) (htp : (tp, listOf #[.ref c, .int at_ ta] 0) ∈ all) (hrl0 : (rl, listOf (rvs.toArray.push v) zr) ∈ all) (hnn : ∀ p ∈ nn, p ∈ all) (hre : ∀ p ∈ rest, p ∈ all)
    (hgt : ∀ p ∈ nn, tp < p.1 ∧ rl < p.1 ∧ I < p.1) (m1 : m' (PySem.Str.ofString "tape") = some (.ref tp)) (m2 : m' (PySem.Str.ofString "pairs") = some (.ref pl)) (m3 : m' (PySem.Str.ofString "rows") = some (.ref rl)) (m4 : m' (PySem.Str.ofString "begin") = some (.int beg tb))
    (hc : (c, listOf cv.toArray zc) ∈ rest) (hpl : (pl, listOf pvs.toArray zp) ∈ nn) (n1 : @Ne Nat tp rl) (n2 : @Ne Nat I tp) (n3 : @Ne Nat I rl) (hoff : ∀ p ∈ rest, p.1 ≠ tp ∧ p.1 ≠ rl ∧ p.1 ≠ I)
    (hpv : PV w (nn ++ rest) pvs (pre ++ (rtoks rws ++ RT r))) (hdx : DXs (onW w rest) rvs (rws.map RDt)) (hv : DX (onW w (nn ++ rest)) v (RDt r)) (hlen : rws.length = i) (hok : ∀ r ∈ rws, r.1 < 7 ∧ r.2.1 < 3 ∧ r.2.2 < 7) (hr : r.1 < 7 ∧ r.2.1 < 3 ∧ r.2.2 < 7) (h0 : 0 ≤ at_) (h1 : at_ ≤ 3 + 3 * ((i + 1 : Nat) : Int)) :
    UnrEnd h₀ L s₁ I it (LInv w I tp c cv zc pre beg (i + 1)) { s₁ with heap := h', toks := tk } := by
  have hrl : (rl, listOf (rvs ++ [v]).toArray zr) ∈ all := by rw [← List.push_toArray]; exact hrl0
  have hoff' : ∀ p ∈ nn ++ rest, p.1 ≠ tp ∧ p.1 ≠ rl ∧ p.1 ≠ I := fun p hp => by
    rcases List.mem_append.mp hp with hp | hp
    · obtain ⟨a1, a2, a3⟩ := hgt p hp
      exact ⟨Nat.ne_of_gt a1, Nat.ne_of_gt a2, Nat.ne_of_gt a3⟩
    · exact hoff p hp
  refine UnrEnd.intro (m' := m') F N ((tp, listOf #[.ref c, .int at_ ta] 0) :: (rl, listOf (rvs ++ [v]).toArray zr) :: (nn ++ rest)) (fun p hp => ?_) (fun p hp => ?_) ?_
  · rcases List.mem_cons.mp hp with rfl | hp
    · exact hI
    · rcases List.mem_cons.mp hp with rfl | hp
      · exact htp
      · rcases List.mem_cons.mp hp with rfl | hp
        · exact hrl
        · rcases List.mem_append.mp hp with hp | hp
          · exact hnn p hp
          · exact hre p hp
  · rcases List.mem_cons.mp hp with rfl | hp
    · exact n2.symm
    · rcases List.mem_cons.mp hp with rfl | hp
      · exact n3.symm
      · exact (hoff' p hp).2.2
  · refine ⟨pl, pvs, zp, rl, rvs ++ [v], zr, at_, ta, tb, rws ++ [r], nn ++ rest, m', ?_, rfl, List.mem_append_right _ hc, List.mem_append_left _ hpl, n1, n2, n3, hoff', ?_, ?_, by rw [List.length_append, hlen]; rfl, ?_, h0, h1⟩
    · funext y
      split
      · rename_i e; rw [e, m1]
      · split
        · rename_i e; rw [e, m2]
        · split
          · rename_i e; rw [e, m3]
          · split
            · rename_i e; rw [e, m4]
            · rfl
    · rw [show rtoks (rws ++ [r]) = rtoks rws ++ RT r by unfold rtoks; rw [List.flatMap_append, List.flatMap_cons, List.flatMap_nil, List.append_nil]]
      exact hpv
    · rw [List.map_append]
      exact (hdx.mono (onW.mono fun p hp => List.mem_append_right _ hp)).append (.cons hv .nil)
    · intro q hq
      rcases List.mem_append.mp hq with hq | hq
      · exact hok q hq
      · rw [List.mem_singleton.mp hq]; exact hr
theorem end_way0 {w : World} {I tp c pl rl D D' D2 : Addr} {cv : List Value} {zc : Nat} {pre : List (PySem.Str × PySem.Str)} {beg at_ : Int} {i zp zr z1 z2 : Nat} {ta tb : Tok} {rws : List Row} {rest all : List (Addr × Obj)} {pvs rvs vs6 vs7 vs5 vs4 : List Value} {h₀ h' : Heap} {L : Addr} {m' : PySem.Str → Option Value} {s₁ : Shared} {tk : Nat} {it : Obj} {f g : Nat}
    (F : Fr h₀ L h' m') (N : News h₀ L h' all) (hD : (D, tupOf [.ref (wa f), .none] z1) ∈ all) (hD' : (D', listOf vs7.toArray z2) ∈ all) (hI : (I, it) ∈ all) (htp : (tp, listOf #[.ref c, .int at_ ta] 0) ∈ all) (hrl : (rl, listOf (rvs.toArray.push (.ref D)) zr) ∈ all) (hre : ∀ p ∈ rest, p ∈ all)
    (pv6 : PV w [] vs6 (LT f)) (hv7 : vs7 = pvs ++ vs6) (hf : f < 7) (g1 : tp < D ∧ rl < D ∧ I < D) (g2 : tp < D' ∧ rl < D' ∧ I < D')
    (m1 : m' (PySem.Str.ofString "tape") = some (.ref tp)) (m2 : m' (PySem.Str.ofString "pairs") = some (.ref D')) (m3 : m' (PySem.Str.ofString "rows") = some (.ref rl)) (m4 : m' (PySem.Str.ofString "begin") = some (.int beg tb))
    (hc : (c, listOf cv.toArray zc) ∈ rest) (n1 : @Ne Nat tp rl) (n2 : @Ne Nat I tp) (n3 : @Ne Nat I rl) (hoff : ∀ p ∈ rest, p.1 ≠ tp ∧ p.1 ≠ rl ∧ p.1 ≠ I)
    (hpv : PV w rest pvs (pre ++ rtoks rws)) (hdx : DXs (onW w rest) rvs (rws.map RDt)) (hlen : rws.length = i) (hok : ∀ r ∈ rws, r.1 < 7 ∧ r.2.1 < 3 ∧ r.2.2 < 7) (h0 : 0 ≤ at_) (h1 : at_ ≤ 3 + 3 * ((i + 1 : Nat) : Int)) :
    UnrEnd h₀ L s₁ I it (LInv w I tp c cv zc pre beg (i + 1)) { s₁ with heap := h', toks := tk } := by
  refine turn_done (nn := [(D, tupOf [.ref (wa f), .none] z1), (D', listOf vs7.toArray z2)]) (r := (f, 0, 0)) F N hI htp hrl (fun p hp => ?_) hre (fun p hp => ?_) m1 m2 m3 m4 hc (List.mem_cons_of_mem _ (List.mem_cons_self ..)) n1 n2 n3 hoff ?_ hdx ?_ hlen hok ⟨hf, (show (0 : Nat) < 3 by decide), (show (0 : Nat) < 7 by decide)⟩ h0 h1
  · rcases List.mem_cons.mp hp with rfl | hp
    · exact hD
    · rw [List.mem_singleton.mp hp]; exact hD'
  · rcases List.mem_cons.mp hp with rfl | hp
    · exact g1
    · rw [List.mem_singleton.mp hp]; exact g2
  · have h := (hpv.mono (news' := [(D, tupOf [.ref (wa f), .none] z1), (D', listOf vs7.toArray z2)] ++ rest) fun p hp => List.mem_append_right _ hp).append (pv6.mono fun p hp => absurd hp List.not_mem_nil)
    rw [← hv7, List.append_assoc] at h
    rw [show RT (f, 0, 0) = LT f from List.append_nil _]
    exact h
  · exact .tuple (vs := [.ref (wa f), .none]) (n := z1) (.inl (List.mem_cons_self ..)) (.cons ((wl_worth w hf).mono fun a o h => .inr h) (.cons .none .nil))
theorem end_way1 {w : World} {I tp c pl rl D D' D2 : Addr} {cv : List Value} {zc : Nat} {pre : List (PySem.Str × PySem.Str)} {beg at_ : Int} {i zp zr z1 z2 : Nat} {ta tb : Tok} {rws : List Row} {rest all : List (Addr × Obj)} {pvs rvs vs6 vs7 vs5 vs4 : List Value} {h₀ h' : Heap} {L : Addr} {m' : PySem.Str → Option Value} {s₁ : Shared} {tk : Nat} {it : Obj} {f g : Nat} {ω : PySem.Str} {t1 t2 : Tok} {z3 : Nat}
    (F : Fr h₀ L h' m') (N : News h₀ L h' all) (hD : (D, tupOf [.ref (wa f), .ref (wa g)] z1) ∈ all) (hD' : (D', listOf vs7.toArray z2) ∈ all) (hD2 : (D2, tupOf [.str (PySem.Str.ofString "word") t1, .str ω t2] z3) ∈ all) (hI : (I, it) ∈ all) (htp : (tp, listOf #[.ref c, .int at_ ta] 0) ∈ all) (hrl : (rl, listOf (rvs.toArray.push (.ref D)) zr) ∈ all) (hre : ∀ p ∈ rest, p ∈ all)
    (hω : ω = PySem.Str.ofString "THRU" ∨ ω = PySem.Str.ofString "THROUGH")
    (pv6 : PV w [] vs6 (LT f)) (pv5 : PV w [] vs5 (LT g)) (hv4 : vs4 = pvs ++ vs6) (hv7 : vs7 = (vs4 ++ [.ref D2]) ++ vs5) (hf : f < 7) (hg : g < 7) (g1 : tp < D ∧ rl < D ∧ I < D) (g2 : tp < D' ∧ rl < D' ∧ I < D') (g3 : tp < D2 ∧ rl < D2 ∧ I < D2)
    (m1 : m' (PySem.Str.ofString "tape") = some (.ref tp)) (m2 : m' (PySem.Str.ofString "pairs") = some (.ref D')) (m3 : m' (PySem.Str.ofString "rows") = some (.ref rl)) (m4 : m' (PySem.Str.ofString "begin") = some (.int beg tb))
    (hc : (c, listOf cv.toArray zc) ∈ rest) (n1 : @Ne Nat tp rl) (n2 : @Ne Nat I tp) (n3 : @Ne Nat I rl) (hoff : ∀ p ∈ rest, p.1 ≠ tp ∧ p.1 ≠ rl ∧ p.1 ≠ I)
    (hpv : PV w rest pvs (pre ++ rtoks rws)) (hdx : DXs (onW w rest) rvs (rws.map RDt)) (hlen : rws.length = i) (hok : ∀ r ∈ rws, r.1 < 7 ∧ r.2.1 < 3 ∧ r.2.2 < 7) (h0 : 0 ≤ at_) (h1 : at_ ≤ 3 + 3 * ((i + 1 : Nat) : Int)) :
    UnrEnd h₀ L s₁ I it (LInv w I tp c cv zc pre beg (i + 1)) { s₁ with heap := h', toks := tk } := by
  obtain ⟨k, hk, hk1, hx⟩ : ∃ k, k < 3 ∧ k ≠ 0 ∧ RX (f, k, g) = (PySem.Str.ofString "word", ω) :: LT g := by
    rcases hω with rfl | rfl
    · exact ⟨1, by decide, by decide, rfl⟩
    · exact ⟨2, by decide, by decide, rfl⟩
  refine turn_done (nn := [(D, tupOf [.ref (wa f), .ref (wa g)] z1), (D', listOf vs7.toArray z2), (D2, tupOf [.str (PySem.Str.ofString "word") t1, .str ω t2] z3)]) (r := (f, k, g)) F N hI htp hrl (fun p hp => ?_) hre (fun p hp => ?_) m1 m2 m3 m4 hc (List.mem_cons_of_mem _ (List.mem_cons_self ..)) n1 n2 n3 hoff ?_ hdx ?_ hlen hok ⟨hf, hk, hg⟩ h0 h1
  · rcases List.mem_cons.mp hp with rfl | hp
    · exact hD
    · rcases List.mem_cons.mp hp with rfl | hp
      · exact hD'
      · rw [List.mem_singleton.mp hp]; exact hD2
  · rcases List.mem_cons.mp hp with rfl | hp
    · exact g1
    · rcases List.mem_cons.mp hp with rfl | hp
      · exact g2
      · rw [List.mem_singleton.mp hp]; exact g3
  · have hp2 : PairAt w ([(D, tupOf [.ref (wa f), .ref (wa g)] z1), (D', listOf vs7.toArray z2), (D2, tupOf [.str (PySem.Str.ofString "word") t1, .str ω t2] z3)] ++ rest) D2 (PySem.Str.ofString "word") ω := ⟨t1, t2, z3, .inl (by simp)⟩
    have h := ((hpv.mono (news' := [(D, tupOf [.ref (wa f), .ref (wa g)] z1), (D', listOf vs7.toArray z2), (D2, tupOf [.str (PySem.Str.ofString "word") t1, .str ω t2] z3)] ++ rest) fun p hp => List.mem_append_right _ hp).append (pv6.mono fun p hp => absurd hp List.not_mem_nil)).append (.cons hp2 (pv5.mono fun p hp => absurd hp List.not_mem_nil))
    have e : vs7 = pvs ++ vs6 ++ Value.ref D2 :: vs5 := by rw [hv7, hv4, List.append_assoc, List.append_assoc, List.append_assoc, List.singleton_append]
    rw [← e] at h
    rw [show RT (f, k, g) = LT f ++ ((PySem.Str.ofString "word", ω) :: LT g) by rw [RT, hx]]
    rw [show pre ++ (rtoks rws ++ (LT f ++ ((PySem.Str.ofString "word", ω) :: LT g))) = pre ++ rtoks rws ++ LT f ++ ((PySem.Str.ofString "word", ω) :: LT g) by simp only [List.append_assoc]]
    exact h
  · have hd : RDt (f, k, g) = .tuple [LD f, LD g] := by
      match k, hk, hk1 with
      | 1, _, _ => rfl
      | 2, _, _ => rfl
    rw [hd]
    exact .tuple (vs := [.ref (wa f), .ref (wa g)]) (n := z1) (.inl (List.mem_cons_self ..)) (.cons ((wl_worth w hf).mono fun a o h => .inr h) (.cons ((wl_worth w hg).mono fun a o h => .inr h) .nil))

end Mine
end Part20
section SSp1
open PySem PySem.W PyProof.Rows PySem.Calls
set_option Elab.async false
set_option maxRecDepth 100000
set_option hygiene false
set_option linter.unusedVariables false
set_option maxHeartbeats 8000000
namespace Mine
/-- no IS, no ARE, no VALUE, no VALUES -/
def noHead (p : PySem.Str × PySem.Str) : Prop := (p.1 == "word" && p.2 == "IS") = false ∧ (p.1 == "word" && p.2 == "ARE") = false ∧ (p.1 == "word" && p.2 == "VALUE") = false ∧ (p.1 == "word" && p.2 == "VALUES") = false
theorem noHead_of {κ ω : PySem.Str} (h1 : (κ == "word" && ω == "IS") = false) (h2 : (κ == "word" && ω == "ARE") = false) (h3 : (κ == "word" && ω == "VALUE") = false) (h4 : (κ == "word" && ω == "VALUES") = false) : noHead (κ, ω) := ⟨h1, h2, h3, h4⟩
theorem lt_no {f : Nat} (hf : f < 8) : ∃ p, (Mine.LT f)[0]? = some p ∧ noHead p := by
  match f, hf with
  | 0, _ => exact ⟨_, rfl, noHead_of (by decide +kernel) (by decide +kernel) (by decide +kernel) (by decide +kernel)⟩
  | 1, _ => exact ⟨_, rfl, noHead_of (by decide +kernel) (by decide +kernel) (by decide +kernel) (by decide +kernel)⟩
  | 2, _ => exact ⟨_, rfl, noHead_of (by decide +kernel) (by decide +kernel) (by decide +kernel) (by decide +kernel)⟩
  | 3, _ => exact ⟨_, rfl, noHead_of (by decide +kernel) (by decide +kernel) (by decide +kernel) (by decide +kernel)⟩
  | 4, _ => exact ⟨_, rfl, noHead_of (by decide +kernel) (by decide +kernel) (by decide +kernel) (by decide +kernel)⟩
  | 5, _ => exact ⟨_, rfl, noHead_of (by decide +kernel) (by decide +kernel) (by decide +kernel) (by decide +kernel)⟩
  | 6, _ => exact ⟨_, rfl, noHead_of (by decide +kernel) (by decide +kernel) (by decide +kernel) (by decide +kernel)⟩
  | 7, _ => exact ⟨_, rfl, noHead_of (by decide +kernel) (by decide +kernel) (by decide +kernel) (by decide +kernel)⟩
theorem rows_no {rws : List Row} {tail : List (PySem.Str × PySem.Str)} (hr : ∀ r ∈ rws, r.1 < 7 ∧ r.2.1 < 3 ∧ r.2.2 < 7) (ht : ∃ p, tail[0]? = some p ∧ noHead p) : ∃ p, (rtoks rws ++ tail)[0]? = some p ∧ noHead p := by
  cases rws with
  | nil => exact ht
  | cons r todo =>
    obtain ⟨p, h, n⟩ := lt_no (Nat.lt_succ_of_lt (hr r (List.mem_cons_self ..)).1)
    refine ⟨p, ?_, n⟩
    unfold rtoks
    rw [List.flatMap_cons, RT, List.append_assoc, List.append_assoc]
    exact app_left h
theorem TK.no {rws : List Row} {tail : List (PySem.Str × PySem.Str)} {bad : Option Nat} (h : TK rws tail bad) : ∃ p, tail[0]? = some p ∧ noHead p := by
  cases h with
  | dot _ h => exact ⟨_, h, noHead_of (by decide +kernel) (by decide +kernel) (by decide +kernel) (by decide +kernel)⟩
  | dot0 _ h => exact ⟨_, h, noHead_of (by decide +kernel) (by decide +kernel) (by decide +kernel) (by decide +kernel)⟩
  | name _ h => exact ⟨_, h, noHead_of (by decide +kernel) (by decide +kernel) (by decide +kernel) (by decide +kernel)⟩
  | z more _ h =>
    obtain ⟨p, hp, n⟩ := lt_no (f := 7) (by decide)
    exact ⟨p, by rw [h]; exact app_left hp, n⟩
/-- VALUE or VALUES, and IS, ARE or neither -/
def PreOk (pre : List (PySem.Str × PySem.Str)) (d : Nat) : Prop :=
  ∃ ω dt, pre = (PySem.Str.ofString "word", ω) :: dt ∧ (ω = PySem.Str.ofString "VALUE" ∨ ω = PySem.Str.ofString "VALUES") ∧ ((d = 0 ∧ dt = []) ∨ (d = 1 ∧ ∃ x, dt = [(PySem.Str.ofString "word", x)] ∧ (x = PySem.Str.ofString "IS" ∨ x = PySem.Str.ofString "ARE")))
theorem PreOk.len {pre : List (PySem.Str × PySem.Str)} {d : Nat} (h : PreOk pre d) : pre.length = 1 + d := by
  obtain ⟨ω, dt, rfl, _, ⟨rfl, rfl⟩ | ⟨rfl, x, rfl, _⟩⟩ := h <;> rfl
def wres (rws : List Row) (n : Nat) : Option Nat → (List Row × Nat) ⊕ Nat
  | none => .inl (rws, n)
  | some k => .inr (n + k)
theorem spec_of {pre : List (PySem.Str × PySem.Str)} {d : Nat} {rws : List Row} {tail : List (PySem.Str × PySem.Str)} {bad : Option Nat} (P : PreOk pre d) (hok : ∀ r ∈ rws, r.1 < 7 ∧ r.2.1 < 3 ∧ r.2.2 < 7) (htk : TK rws tail bad) (hl : rws.length ≤ 100) :
    WSpec (pre ++ rtoks rws ++ tail) (wres rws (1 + d + (rtoks rws).length) bad) := by
  have hfrom : FromAt (pre ++ rtoks rws ++ tail) (1 + d) (rtoks rws ++ tail) := fun j => by
    rw [List.append_assoc, ← P.len, app_right]
  obtain ⟨p, hp, n⟩ := rows_no hok htk.no
  have h0 := hfrom 0
  rw [Nat.add_zero, hp] at h0
  have hres : wres rws (1 + d + (rtoks rws).length) bad = (match bad with | none => .inl (rws, 1 + d + (rtoks rws).length) | some k => .inr (1 + d + (rtoks rws).length + k)) := by cases bad <;> rfl
  rw [hres]
  obtain ⟨ω, dt, e, hω, hd⟩ := P
  have ha : (pre ++ rtoks rws ++ tail)[(0 : Int).toNat]? = some (PySem.Str.ofString "word", ω) := by rw [e]; rfl
  have hat : (pre ++ rtoks rws ++ tail)[(0 : Int).toNat]? = some (PySem.Str.ofString "word", PySem.Str.ofString "VALUE") ∨ (pre ++ rtoks rws ++ tail)[(0 : Int).toNat]? = some (PySem.Str.ofString "word", PySem.Str.ofString "VALUES") := by
    rcases hω with rfl | rfl
    · exact .inl ha
    · exact .inr ha
  rcases hd with ⟨rfl, rfl⟩ | ⟨rfl, x, rfl, hx⟩
  · have := @worths_spec _ 0 hat p.1 p.2 h0 (.inr ⟨rfl, n.1, n.2.1⟩) rws tail bad hfrom hok htk hl
    exact @this
  · have h1 : (pre ++ rtoks rws ++ tail)[(0 + 1 : Int).toNat]? = some (PySem.Str.ofString "word", x) := by rw [e]; rfl
    have := @worths_spec _ 1 hat _ _ h1 (.inl ⟨rfl, rfl, hx⟩) rws tail bad hfrom hok htk hl
    exact @this
theorem spec_drop {pre : List (PySem.Str × PySem.Str)} {d : Nat} {rws : List Row} {tail : List (PySem.Str × PySem.Str)} (P : PreOk pre d) (hok : ∀ r ∈ rws, r.1 < 7 ∧ r.2.1 < 3 ∧ r.2.2 < 7) (ht : ∃ p, tail[0]? = some p ∧ noHead p) : WSpec ((pre ++ rtoks rws).drop 1 ++ tail) (.inr 0) := by
  obtain ⟨ω, dt, rfl, hω, hd⟩ := P
  rw [List.cons_append, List.drop_succ_cons, List.drop_zero]
  rcases hd with ⟨rfl, rfl⟩ | ⟨rfl, x, rfl, hx⟩
  · obtain ⟨p, hp, n⟩ := rows_no hok ht
    exact @no_spec _ p.1 p.2 hp n.2.2.1 n.2.2.2
  · rcases hx with rfl | rfl
    · exact @no_spec _ (PySem.Str.ofString "word") (PySem.Str.ofString "IS") rfl (by decide +kernel) (by decide +kernel)
    · exact @no_spec _ (PySem.Str.ofString "word") (PySem.Str.ofString "ARE") rfl (by decide +kernel) (by decide +kernel)
theorem noB_LD (f : Nat) : noB 2 (LD f) = true := by
  match f with
  | 0 => rfl
  | 1 => rfl
  | 2 => rfl
  | 3 => rfl
  | 4 => rfl
  | 5 => rfl
  | 6 => rfl
  | _ + 7 => rfl
theorem noB_mono {n : Nat} : ∀ {d : Dat}, noB n d = true → noB (n + 1) d = true := by
  induction n with
  | zero => intro d h; cases d <;> simp [noB] at h ⊢
  | succ n ih =>
    intro d h
    cases d with
    | tuple ds =>
      have h' : ds.all (noB n) = true := h
      show ds.all (noB (n + 1)) = true
      exact List.all_eq_true.mpr fun x hx => ih (List.all_eq_true.mp h' x hx)
    | list ds =>
      have h' : ds.all (noB n) = true := h
      show ds.all (noB (n + 1)) = true
      exact List.all_eq_true.mpr fun x hx => ih (List.all_eq_true.mp h' x hx)
    | bool b => simp [noB] at h
    | _ => rfl
theorem noB_RD (r : Row) : noB 3 (RDt r) = true := by
  unfold RDt
  show List.all _ (noB 2) = true
  rw [List.all_cons, noB_LD, List.all_cons, List.all_nil]
  split
  · rfl
  · rw [noB_LD]; rfl
theorem noB_res (res : (List Row × Nat) ⊕ Nat) : noB 6 (resD res) = true := by
  cases res with
  | inl p =>
    obtain ⟨rws, e⟩ := p
    show (noB 5 (.list (rws.map RDt)) && (true && true)) = true
    have : noB 5 (.list (rws.map RDt)) = true := by
      show (rws.map RDt).all (noB 4) = true
      refine List.all_eq_true.mpr fun x hx => ?_
      obtain ⟨r, _, rfl⟩ := List.mem_map.mp hx
      exact noB_mono (noB_RD r)
    rw [this]; rfl
  | inr k => rfl
/-- the heap tells what the ledger and the written part tell -/
theorem on_heap {w : World} {h₀ h : Heap} {L : Addr} {m : PySem.Str → Option Value} {news : List (Addr × Obj)} (F : Fr h₀ L h m) (X₀ : (frag.heap_1 w.params).In h₀) (N : News h₀ L h news) : ∀ a o, onW w news a o → h.get? a = some o := fun a o q => q.elim (fun q => (N _ q).1) fun q => (X₀.keeps F.keep) _ _ q
section
variable {w : World} {prog : Program} {A : Around} {E : Value → Shared → Prop} {s : Shared} {h₀ : Heap} {L D D2 : Addr} {m : PySem.Str → Option Value} {news ex : List (Addr × Obj)} {Q : Value → Shared → Prop} {res : (List Row × Nat) ⊕ Nat} {ds : List Dat}
theorem told_ne (F : Fr h₀ L s.heap m) (X₀ : (frag.heap_1 w.params).In h₀) (N : News h₀ L s.heap news) (hd : DatIn ex (.ref D) (resD res)) (hex : ∀ p ∈ ex, p ∈ news) (h2 : DX (onW w news) (.ref D2) (resD res)) (hu : A.units + 6 < cLine) (h : Q (.bool false) s) :
    wpAny (model prog w) A (compareOp .NotEq (.ref D) (.ref D2)) Q E s := by
  have h1 := DX.of_in (P := fun a o => s.heap.get? a = some o) (news := ex) (fun p hp => (N p (hex p hp)).1) 6 hd (noB_res res)
  have h2' := h2.mono (on_heap F X₀ N)
  cases res with
  | inl p => exact tup_ne (ds := [.list (p.1.map RDt), .int (p.2 : Int)]) (noB_res (.inl p)) hu h1 h2' h
  | inr k => exact tup_ne (ds := [.str "wrong", .int (k : Int)]) (noB_res (.inr k)) hu h1 h2' h
theorem told_eq (F : Fr h₀ L s.heap m) (X₀ : (frag.heap_1 w.params).In h₀) (N : News h₀ L s.heap news) (hd : DatIn ex (.ref D) (resD res)) (hex : ∀ p ∈ ex, p ∈ news) (h2 : DX (onW w news) (.ref D2) (resD res)) (hu : A.units + 6 < cLine) (h : Q (.bool true) s) :
    wpAny (model prog w) A (compareOp .Eq (.ref D) (.ref D2)) Q E s := by
  have h1 := DX.of_in (P := fun a o => s.heap.get? a = some o) (news := ex) (fun p hp => (N p (hex p hp)).1) 6 hd (noB_res res)
  have h2' := h2.mono (on_heap F X₀ N)
  cases res with
  | inl p => exact tup_eq (ds := [.list (p.1.map RDt), .int (p.2 : Int)]) (noB_res (.inl p)) hu h1 h2' h
  | inr k => exact tup_eq (ds := [.str "wrong", .int (k : Int)]) (noB_res (.inr k)) hu h1 h2' h
end
end Mine
end SSp1
section SSp2
open PySem PySem.W PyProof.Rows PySem.Calls
set_option Elab.async false
set_option maxRecDepth 100000
set_option hygiene false
set_option linter.unusedVariables false
set_option maxHeartbeats 8000000
namespace Mine
section
variable {prog : Program} {w : World} {A : Around} {E Q : Value → Shared → Prop} {s : Shared} {h₀ : Heap} {L l : Addr} {m : PySem.Str → Option Value} {news : List (Addr × Obj)} {value slice : PySem.Expr} {vs : List Value} {n z : Nat} {t : Tok}
theorem slice_from (F : Fr h₀ L s.heap m) (N : News h₀ L s.heap news) (hl : (l, listOf vs.toArray z) ∈ news) (hz : vs.length ≤ 10000)
    (h : ∀ D vs' h', vs' = vs.drop 1 → vs'.length = vs.length - 1 → Fr h₀ L h' m → News h₀ L h' ((D, listOf (vs' : List Value).toArray 0) :: news) → (∀ p ∈ news, p.1 < D) → Q (.ref D) { s with heap := h' })
    (hs : subscripted slice false (.ref l) (.ref s.heap.objs.size) = operate [.ref s.heap.objs.size, .ref l] (getItem (.ref l) (.ref s.heap.objs.size))) (ht : ∀ r, letTemporaryGo value (.ref l) r = pure ()) :
    wpAny (model prog w) A (subscriptTail value slice (.ref l) (.ref s.heap.objs.size)) Q E { s with heap := s.heap.push { cls := .type "slice", data := .fields #[.int 1 t, .none, .none] } } :=
  kmk_slice_lit (zs := vs.drop 1) F N (N.isList hl) (.int _ _) .none (by rw [show (1 : Int) = ((1 : Nat) : Int) from rfl, slicePick_from']) (fun D h' F' N' l1 => h D _ h' rfl (List.length_drop ..) F' N' l1) hs ht (by rw [sizeLine_eq, List.size_toArray]; omega)
theorem slice_upto (F : Fr h₀ L s.heap m) (N : News h₀ L s.heap news) (hl : (l, listOf vs.toArray z) ∈ news) (hz : vs.length ≤ 10000) (hn : n ≤ vs.length)
    (h : ∀ D vs' h', vs' = vs.take n → vs'.length = n → Fr h₀ L h' m → News h₀ L h' ((D, listOf (vs' : List Value).toArray 0) :: news) → (∀ p ∈ news, p.1 < D) → Q (.ref D) { s with heap := h' })
    (hs : subscripted slice false (.ref l) (.ref s.heap.objs.size) = operate [.ref s.heap.objs.size, .ref l] (getItem (.ref l) (.ref s.heap.objs.size))) (ht : ∀ r, letTemporaryGo value (.ref l) r = pure ()) :
    wpAny (model prog w) A (subscriptTail value slice (.ref l) (.ref s.heap.objs.size)) Q E { s with heap := s.heap.push { cls := .type "slice", data := .fields #[.none, .int (n : Int) t, .none] } } :=
  kmk_slice_lit (zs := vs.take n) F N (N.isList hl) .none (.int _ _) (by rw [slicePick_upto']) (fun D h' F' N' l1 => h D _ h' rfl (by rw [List.length_take]; omega) F' N' l1) hs ht (by rw [sizeLine_eq, List.size_toArray]; omega)
theorem pick_wrong {D : Addr} {x : PySem.Str} {tx ty u : Tok} {y : Int} (N : News h₀ L s.heap news) (hm : (D, tupOf [.str x tx, .int y ty] z) ∈ news) (h : Q (.str x tx) s)
    (hk : subscripted slice false (.ref D) (.int 0 u) = operate [.ref D, .int 0 u] (getItem (.ref D) (.int 0 u))) : wpAny (model prog w) A (subscriptTail value slice (.ref D) (.int 0 u)) Q E s := by
  have t : IsTup s.heap D [Value.str x tx, .int y ty].toArray := ⟨_, (N _ hm).1, rfl, z, rfl⟩
  exact item_tupleT t (by decide) (by decide) rfl rfl h hk
end
theorem wrong_at {ex : List (Addr × Obj)} {D : Addr} {k : Nat} (h : DatIn ex (.ref D) (resD (.inr k))) : ∃ tx y ty z, (D, tupOf [.str "wrong" tx, .int y ty] z) ∈ ex := by
  have h' : DatIn ex (.ref D) (.tuple [.str "wrong", .int (k : Int)]) := h
  cases h' with
  | tuple m r =>
    cases r with
    | cons a r =>
      cases r with
      | cons b r =>
        cases r
        cases a
        cases b
        exact ⟨_, _, _, _, m⟩
theorem dx_wrong {P : Addr → Obj → Prop} {a : Addr} {k z : Nat} {i : Int} {tx ty : Tok} (h : P a (tupOf [.str (PySem.Str.ofString "wrong") tx, .int i ty] z)) (e : i = (k : Int)) : DX P (.ref a) (resD (.inr k)) := by
  subst e
  exact .tuple (vs := [.str _ _, .int _ _]) h (.cons (.str _ _) (.cons (.int _ _) .nil))
/-- what holds behind the loop, from one if to the next -/
def EndP (h₀ : Heap) (L : Addr) (pl rl : Addr) (pvs rvs : List Value) (zp zr : Nat) (beg : Int) (tb : Tok) (rest : List (Addr × Obj)) (s₁ s' : Shared) : Prop :=
  ∃ (h' : Heap) (tk' : Nat) (u : PySem.Str → Option Value), s' = { s₁ with heap := h', toks := tk' } ∧ Fr h₀ L h' (fun y => if y = PySem.Str.ofString "pairs" then some (.ref pl) else if y = PySem.Str.ofString "rows" then some (.ref rl) else if y = PySem.Str.ofString "begin" then some (.int beg tb) else u y) ∧ News h₀ L h' ((pl, listOf pvs.toArray zp) :: (rl, listOf rvs.toArray zr) :: rest)
theorem end_p {h₀ h' : Heap} {L pl rl : Addr} {pvs rvs : List Value} {zp zr : Nat} {beg : Int} {tb : Tok} {rest all : List (Addr × Obj)} {m : PySem.Str → Option Value} {s₁ : Shared} {tk' : Nat} (F : Fr h₀ L h' m) (N : News h₀ L h' all)
    (m2 : m (PySem.Str.ofString "pairs") = some (.ref pl)) (m3 : m (PySem.Str.ofString "rows") = some (.ref rl)) (m4 : m (PySem.Str.ofString "begin") = some (.int beg tb)) (h1 : (pl, listOf pvs.toArray zp) ∈ all) (h2 : (rl, listOf rvs.toArray zr) ∈ all) (h3 : ∀ p ∈ rest, p ∈ all) :
    EndP h₀ L pl rl pvs rvs zp zr beg tb rest s₁ { s₁ with heap := h', toks := tk' } := by
  refine ⟨h', tk', m, rfl, ?_, fun p hp => ?_⟩
  · have e : (fun y => if y = PySem.Str.ofString "pairs" then some (.ref pl) else if y = PySem.Str.ofString "rows" then some (.ref rl) else if y = PySem.Str.ofString "begin" then some (.int beg tb) else m y) = m := by
      funext y
      split
      · rename_i e; rw [e, m2]
      · split
        · rename_i e; rw [e, m3]
        · split
          · rename_i e; rw [e, m4]
          · rfl
    rw [e]; exact F
  · rcases List.mem_cons.mp hp with rfl | hp
    · exact N _ h1
    · rcases List.mem_cons.mp hp with rfl | hp
      · exact N _ h2
      · exact N _ (h3 _ hp)
end Mine
end SSp2
section Part21
open PySem PySem.W PyProof.Rows PySem.Calls
set_option Elab.async false
set_option maxRecDepth 100000
set_option hygiene false
set_option linter.unusedVariables false
set_option maxHeartbeats 8000000
set_option compiler.extract_closed false
namespace Mine
local macro_rules | `(tactic| ktr_unf) => `(tactic| ((try k_sweep); (try dsimp only); (try k_fold)))
structure WStop : Prop where
theorem cut {M : Model} {A : Around} {st : Stmt} {env : Env} {Q : Flow → Shared → Prop} {E : Value → Shared → Prop} {s : Shared} (P : Shared → Prop) (h1 : wpAny M A (exec st env) (fun f s' => f = .next ∧ P s') E s) (h2 : ∀ s', P s' → Q .next s') : wpAny M A (exec st env) Q E s :=
  wpAny_mono h1 (fun f s' h => by obtain ⟨rfl, hp⟩ := h; exact h2 s' hp) fun _ _ e => e
local macro_rules | `(tactic| walk_at "call ref") => `(tactic| (k_here; (show wpAny _ _ (call (Value.ref 459) [_, _]) _ _ _); k_dflt (refine' draw ?k1 ?k2 ?k3 ?k4 ?k5 ?kk ?qU ?q0 ?q1 ?q2 ?q3 ?q4 ?q5 ?q6 ?q7 ?q8 ?q9 ?kp ?ku ?_; (case k1 => k_asm); (case k2 => k_asm); (case k3 => k_asm); (case k4 => k_asm); (case k5 => k_asm); (case kk => exact rfl); (case qU => (intro tz; k_upd)); (case q0 => k_mem); (case q1 => k_mem); (case q2 => k_ne); (case q3 => assumption); (case q4 => assumption); (case q5 => assumption); (case q6 => first | decide | omega); (case q7 => first | decide | omega); (case q8 => decide); (case q9 => decide); (case kp => exact Nat.le_of_ble_eq_true rfl); (case ku => exact Nat.le_of_ble_eq_true rfl); k_whole); intro h9 tk9 tj9 k9 tv9 F9 N9 l9 l9'; ktr_unf))
local macro_rules | `(tactic| walk_at "call ref") => `(tactic| (k_here; (show wpAny _ _ (call (Value.ref 464) [_]) _ _ _); refine WHere.intro ?_))
local macro_rules | `(tactic| walk_at "exec Assign") => `(tactic| (k_here; (with_reducible show wpAny _ _ (exec (Stmt.Assign [Expr.Name (PySem.Str.ofString "tape") _] _ _) _) _ _ _); (have := (by assumption : WStop)); refine WHere.intro ?_))
local macro_rules | `(tactic| k_mem) => `(tactic| ((repeat (first | with_reducible assumption | refine List.mem_cons_of_mem _ ?_)); done))
local macro_rules | `(tactic| walk_at "subscriptTail") => `(tactic| (k_here; (with_reducible show wpAny _ _ (subscriptTail _ _ (Value.ref _) (Value.int _ _)) _ _ _); k_dflt (refine' pick2 ?k1 ?k2 ?k3 ?k4 ?_ ?k5; (case k5 => with_unfolding_all rfl); (case k1 => k_asm); (case k2 => k_mem); (case k3 => first | assumption | omega); (case k4 => first | assumption | omega); k_whole); intro ω9 tw9 hω9))
local macro_rules | `(tactic| walk_at "subscriptTail") => `(tactic| (k_here; (with_reducible show wpAny _ _ (subscriptTail _ _ (Value.ref _) (Value.int _ _)) _ _ _); k_dflt (refine' pickL ?k1 ?k2 ?ka ?kb ?kc ?k3 ?k4 ?_ ?k5; (case k5 => with_unfolding_all rfl); (case k1 => k_asm); (case k2 => k_mem); (case ka => k_mem); (case kb => k_mem); (case kc => k_mem); (case k3 => first | assumption | omega); (case k4 => first | assumption | omega); k_whole); intro v8 vs8 n8 hm8 hv8; (have hl8 : List.length vs8 ≤ 1 := by (rcases hv8 with rfl | rfl | rfl <;> simp))))
local macro_rules | `(tactic| walk_at "subscriptTail") => `(tactic| (k_here; (with_reducible show wpAny _ _ (subscriptTail _ _ (Value.ref 452) (Value.int _ _)) _ _ _); k_dflt (refine' pick7 ?k1 ?k2 ?k3 ?k4 ?_ ?k5; (case k5 => with_unfolding_all rfl); (case k1 => k_asm); (case k2 => k_asm); (case k3 => first | assumption | omega); (case k4 => first | assumption | omega); k_whole); intro f9 hf9))
local macro_rules | `(tactic| walk_at "binaryOp Add ref ref") => `(tactic| (k_here; k_dflt (refine' addL ?k1 ?k2 ?k3 ?k4 ?k5 ?_; (case k1 => k_asm); (case k2 => k_asm); (case k3 => k_mem); (case k4 => k_mem); (case k5 => (first | omega | (simp only [List.length_append, List.length_cons, List.length_nil]; omega))); k_whole); intro D' vs7 h' hv7 hl7 F' N' l1; (have l7 := l1); (try simp only [List.length_cons, List.length_nil] at hl7); (try k_lt l1); (try k_sweep)))
local macro_rules | `(tactic| walk_at "call builtin:len") => `(tactic| (k_here; (with_reducible show wpAny _ _ (call (Value.builtin "len") [Value.ref _]) _ _ _); k_dflt (refine' len_mem ?k1 ?k2 ?k3 ?_; (case k1 => k_asm); (case k2 => k_mem); (case k3 => omega); k_whole)))
local macro_rules | `(tactic| walk_at "pyIter ref") => `(tactic| (k_here; refine WHere.intro ?_))
local macro_rules | `(tactic| walk_at "call type:range") => `(tactic| (k_here; (rename Fr _ _ _ _ => lF'); (rename News _ _ _ _ => lN'); (with_unfolding_all refine range1_rows lF' lN' ?_); intro h9 tk9 t9 u9 v9 rg9 F9 N9 keep9))
local macro_rules | `(tactic| walk_at "call type:list") => `(tactic| (k_here; (with_reducible show wpAny _ _ (call (Value.type "list") [Value.ref (Mine.ta _)]) _ _ _); k_dflt (refine' listT ?k1 ?k2 ?k3 ?k4 ?_; (case k1 => assumption); (case k2 => k_asm); (case k3 => k_asm); (case k4 => k_asm); k_whole); intro vs6 D' c6 h' pv6 F' N' l1; (have hl6 := pv6.1); (have hL6 := lt_len (by assumption : _ < 7)); (try k_lt l1); (try k_sweep)))
local macro_rules | `(tactic| walk_at "assign Tuple") => `(tactic| (k_here; (with_reducible show wpAny _ _ (assign (Expr.Tuple _ _ _) _ (Value.ref (Mine.wi _))) _ _ _); k_dflt (refine' unpackN_ ?k1 ?k2 ?k3 ?k4 ?k5 ?k6 ?_; (case k1 => k_asm); (case k2 => k_asm); (case k3 => exact wl_tup (by assumption) (by k_asm) (by k_asm)); (case k4 => exact rfl); (case k5 => exact rfl); (case k6 => exact rfl); k_whole); intro h' F' N'; (try k_sweep)))
local macro_rules | `(tactic| walk_at "call builtin:list.append") => `(tactic| (k_here; (with_reducible show wpAny _ _ (call (Value.builtin _) [Value.ref _, _]) _ _ _); k_dflt (refine' append_K ?k1 ?k2 ?k3 ?_ ?kz; (case k1 => k_asm); (case k2 => k_asm); (case k3 => k_upd); (case kz => exact hsz); k_whole); intro h' F' N'; (try k_sweep)))
local macro_rules | `(tactic| k_all) => `(tactic| (intro p9 hp9; first | exact (hoff p9 hp9).1 | exact (hoff p9 hp9).2.1 | (rcases List.mem_cons.mp hp9 with rfl | hp9 <;> first | exact n1.symm | exact n1 | exact (hoff _ hp9).1 | exact (hoff _ hp9).2.1)))
local macro_rules | `(tactic| k_ne) => `(tactic| first | assumption | exact Ne.symm (by assumption))
structure WStop2 : Prop where
local macro_rules | `(tactic| walk_at "exec If") => `(tactic| (k_here; (have := (by assumption : WStop2)); clear this; refine WHere.intro ?_))
local macro_rules | `(tactic| walk_at "subscriptTail Name Slice ref ref") => `(tactic| (k_here; (with_reducible show wpAny _ _ (subscriptTail _ (PySem.Expr.Slice (some _) none none _) (Value.ref _) (Value.ref _)) _ _ _); k_dflt (refine' slice_from ?F ?N ?l ?z ?_ ?s ?t; (case F => k_asm); (case N => k_asm); (case l => k_mem); (case z => omega); (case s => with_unfolding_all rfl); (case t => kmk_pure); k_whole); intro D' vsS h' hvS hlS F' N' l1; (have l7 := l1); (try k_lt l1); (try k_sweep)))
local macro_rules | `(tactic| walk_at "subscriptTail Name Slice ref ref") => `(tactic| (k_here; (with_reducible show wpAny _ _ (subscriptTail _ (PySem.Expr.Slice none (some _) none _) (Value.ref _) (Value.ref _)) _ _ _); k_dflt (refine' slice_upto ?F ?N ?l ?z ?n ?_ ?s ?t; (case F => k_asm); (case N => k_asm); (case l => k_mem); (case z => omega); (case n => omega); (case s => with_unfolding_all rfl); (case t => kmk_pure); k_whole); intro D' vsS h' hvS hlS F' N' l1; (have l7 := l1); (try k_lt l1); (try k_sweep)))
local macro_rules | `(tactic| walk_at "subscriptTail") => `(tactic| (k_here; (with_reducible show wpAny _ _ (subscriptTail _ _ (Value.ref _) (Value.int 0 _)) _ _ _); (have mD9 := memD); k_dflt (refine' pick_wrong ?k1 ?k2 ?_ ?k5; (case k5 => with_unfolding_all rfl); (case k1 => k_asm); (case k2 => k_mem); k_whole)))
local macro_rules | `(tactic| walk_at "compareOp Eq ref ref") => `(tactic| (k_here; refine WHere.intro ?_))
local macro_rules | `(tactic| k_qdec) => `(tactic| decide +kernel)
theorem start_led {h₀ h : Heap} {L tp rl : Addr} {o1 o2 : Obj} {all : List (Addr × Obj)} (N : News h₀ L h all) (h1 : (tp, o1) ∈ all) (h2 : (rl, o2) ∈ all) :
    ∃ rest, News h₀ L h ((tp, o1) :: (rl, o2) :: rest) ∧ (∀ p, p ∈ all → p.1 ≠ tp → p.1 ≠ rl → p ∈ rest) ∧ ∀ p ∈ rest, p ∈ all ∧ p.1 ≠ tp ∧ p.1 ≠ rl := by
  refine ⟨all.filter fun p => decide (p.1 ≠ tp) && decide (p.1 ≠ rl), fun p hp => ?_, fun p hp n1 n2 => List.mem_filter.mpr ⟨hp, by simp [n1, n2]⟩, fun p hp => ?_⟩
  · rcases List.mem_cons.mp hp with rfl | hp
    · exact N _ h1
    · rcases List.mem_cons.mp hp with rfl | hp
      · exact N _ h2
      · exact N _ (List.mem_filter.mp hp).1
  · obtain ⟨a, b⟩ := List.mem_filter.mp hp
    rw [Bool.and_eq_true, decide_eq_true_eq, decide_eq_true_eq] at b
    exact ⟨a, b⟩
theorem start_fr {h₀ h : Heap} {L tp pl rl : Addr} {beg : Int} {tb : Tok} {m : PySem.Str → Option Value} (F : Fr h₀ L h m) (m1 : m (PySem.Str.ofString "tape") = some (.ref tp)) (m2 : m (PySem.Str.ofString "pairs") = some (.ref pl)) (m3 : m (PySem.Str.ofString "rows") = some (.ref rl)) (m4 : m (PySem.Str.ofString "begin") = some (.int beg tb)) :
    Fr h₀ L h (fun y => if y = PySem.Str.ofString "tape" then some (.ref tp) else if y = PySem.Str.ofString "pairs" then some (.ref pl) else if y = PySem.Str.ofString "rows" then some (.ref rl) else if y = PySem.Str.ofString "begin" then some (.int beg tb) else m y) := by
  have e : (fun y => if y = PySem.Str.ofString "tape" then some (.ref tp) else if y = PySem.Str.ofString "pairs" then some (.ref pl) else if y = PySem.Str.ofString "rows" then some (.ref rl) else if y = PySem.Str.ofString "begin" then some (.int beg tb) else m y) = m := by
    funext y
    split
    · rename_i e; rw [e, m1]
    · split
      · rename_i e; rw [e, m2]
      · split
        · rename_i e; rw [e, m3]
        · split
          · rename_i e; rw [e, m4]
          · rfl
  rw [e]; exact F
theorem rtoks_len {rws : List Row} (hok : ∀ r ∈ rws, r.1 < 7 ∧ r.2.1 < 3 ∧ r.2.2 < 7) : (rtoks rws).length ≤ 5 * rws.length := by
  induction rws with
  | nil => exact Nat.le_refl _
  | cons r rws ih =>
    have h := ih fun q hq => hok q (List.mem_cons_of_mem _ hq)
    obtain ⟨a, b, c⟩ := hok r (List.mem_cons_self ..)
    have e : (rtoks (r :: rws)).length = (Mine.LT r.1).length + (RX r).length + (rtoks rws).length := by
      unfold rtoks
      rw [List.flatMap_cons, List.length_append, RT, List.length_append]
    have e2 : (RX r).length ≤ 3 := by
      unfold RX
      split
      · simp
      · rw [List.length_cons]; have := lt_len c; omega
      · rw [List.length_cons]; have := lt_len c; omega
    have := lt_len a
    rw [e, List.length_cons]
    omega
section
theorem told_v {w : World} {mean : ExcName → Option Value} {mg mb : PySem.Str → Option Value} {dp un : Nat} {gd : Option (List Code)} {cn : PySem.Str} {cs : Scope} {a : Addr} {ccd : Value} {A₀ : Around} {base h₀ : Heap} {L : Addr} {m : PySem.Str → Option Value} {news : List (Addr × Obj)} {s : Shared} {Q E : Value → Shared → Prop} {pl : Addr} {z : Nat} {pvs : List Value} {toks : List (PySem.Str × PySem.Str)} {res : (List Row × Nat) ⊕ Nat}
    (B : Below A₀ base [] h₀) (F : Fr h₀ L s.heap m) (X : (frag.heap_1 w.params).In h₀) (N : News h₀ L s.heap news) (T : Top (vG pG) (looseW (vG pG) ls) mean mg mb h₀) (hk : cs.kind = .function) (XB : (frag.heap_1 w.params).In base) (TB : Top (vG pG) (looseW (vG pG) ls) mean mg mb base)
    (spec : WSpec toks res) (hpl : (pl, listOf pvs.toArray z) ∈ news) (hpv : PV w news pvs toks) (few : toks.length < 1000)
    (hdp : dp + 12 < recursionLimit) (hun : un + 96 < cLine)
    (ret : ∀ h' tk' D ex, Fr h₀ L h' m → News h₀ L h' ex → (∀ p ∈ news, p ∈ ex) → DatIn ex (.ref D) (resD res) → Q (.ref D) { s with heap := h', toks := tk' }) :
    wpAny (model PySem.Challenge.rw_pb0262_01.row.prog w) (ktrTop dp un gd cn cs L a ccd [] []) (call (.ref 464) [.ref pl]) Q E s :=
  told B F X N T hk XB TB @spec hpl hpv.1 few hpv.2 hdp hun ret
end
theorem ints_get {vs : List Value} {ns : List Int} (h : IntsAre vs ns) : ∀ k, k < vs.length → ∃ i t, vs[k]? = some (.int i t) := by
  intro k hk
  obtain ⟨n, t, h1, _⟩ := h.at k _ (List.getElem?_eq_getElem hk)
  exact ⟨n, t, by rw [List.getElem?_eq_getElem hk, h1]⟩
def TapeP (h₀ : Heap) (L : Addr) (s₁ s' : Shared) : Prop :=
  ∃ (h' : Heap) (tk' : Nat) (tp c : Addr) (ta : Tok) (z : Nat) (cv : List Value) (u : PySem.Str → Option Value), s' = { s₁ with heap := h', toks := tk' } ∧ Fr h₀ L h' (fun y => if y = "tape" then some (.ref tp) else u y) ∧ News h₀ L h' [(tp, listOf #[.ref c, .int 0 ta] 0), (c, listOf cv.toArray z)] ∧ @LT.lt Nat _ c tp ∧
    (∀ k, k < cv.length → ∃ i t, cv[k]? = some (.int i t)) ∧ 0 < cv.length ∧ cv.length < 64
theorem tape_end {h₀ h' : Heap} {L tp c : Addr} {s₁ : Shared} {tk' : Nat} {ta : Tok} {z : Nat} {cv : List Value} {u : PySem.Str → Option Value} {all : List (Addr × Obj)} (F : Fr h₀ L h' (fun y => if y = "tape" then some (.ref tp) else u y)) (N : News h₀ L h' all) (h1 : (tp, listOf #[.ref c, .int 0 ta] 0) ∈ all) (h2 : (c, listOf cv.toArray z) ∈ all) (lt : @LT.lt Nat _ c tp)
    (hi : ∀ k, k < cv.length → ∃ i t, cv[k]? = some (.int i t)) (hp : 0 < cv.length) (hl : cv.length < 64) : TapeP h₀ L s₁ { s₁ with heap := h', toks := tk' } :=
  ⟨h', tk', tp, c, ta, z, cv, u, rfl, F, fun p hp => by
    rcases List.mem_cons.mp hp with rfl | hp
    · exact N _ h1
    · rw [List.mem_singleton.mp hp]; exact N _ h2, lt, hi, hp, hl⟩
set_option maxHeartbeats 200000000 in
theorem t : PySem.Challenge.rw_pb0262_01.Holds := by
  w_on
  refine holds_law look fun said => ?_
  refine holds_open (q := vG pG) (loose := ls) (Xt := XtG pG) (XP := XL (vG pG) []) (Yf := Hk.obs) (Ya := Hk.val) (YP := Hk.says) (N := 6114) left Hk.of Hk.keeps (fun s e => xl_of s (Bool.and_eq_true_iff.mp e).1) XL.keeps (by rfl) (by rfl) (by rfl) (fun s e => recFacts_of (Bool.and_eq_true_iff.mp e).2) (by rfl) said (by decide +kernel) ⟨rfl, rfl, rfl, rfl, rfl, by decide +kernel⟩ ?hw ?hc
  case hw => w_witness2
  intro w s₀ s₁ mg mb G Y fa o pm cd doc dV kV ho hd hcd hD hmg hg args vals as hpre hlay hrd hwl hlo
  have KX : (frag.heap_1 w.params).In s₁.heap := Y
  w_strict (k_behind G ho hd hcd hD hmg hpre hlay hrd hwl hlo cd)
  have stop : WStop := ⟨⟩
  k_steps
  unfold WHere
  refine cut (TapeP s₁.heap s₁.heap.objs.size s₁) ?_ ?_
  · clear stop this
    k_steps
    all_goals (try exact True.intro)
    · rename_i hI hC _ _ _ _ _ _ hpos _ _ _ _ _ _
      have e9 := hI.length
      refine tape_end (by k_asm) (by k_asm) (by k_mem) (by k_mem) (ltN (by omega)) (ints_get hI) (by omega) (by omega)
    · refine tape_end (by k_asm) (by k_asm) (by k_mem) (by k_mem) (ltN (by omega)) (ints_get (.cons _ _ .nil)) (by simp) (by simp)
  · rintro s' ⟨h', tk', tp, c, ta, z, cv, u, rfl, F, N, lt, hci, hpos, hlen⟩
    k_steps
    unfold WHere
    have hnn : (((1 + k9).toNat : Nat) : Int) = 1 + k9 := Int.toNat_of_nonneg (by omega)
    obtain ⟨rest0, N10, hin, hout⟩ := start_led (tp := tp) (rl := _) (o2 := listOf #[] 0) N9 (by k_mem) (by k_mem)
    have F10 := start_fr F9 (tp := tp) (by ((try dsimp only); repeat (first | refine (if_neg (by decide +kernel)).trans ?_ | exact if_pos rfl))) (by ((try dsimp only); repeat (first | refine (if_neg (by decide +kernel)).trans ?_ | exact if_pos rfl))) (by ((try dsimp only); repeat (first | refine (if_neg (by decide +kernel)).trans ?_ | exact if_pos rfl))) (by ((try dsimp only); repeat (first | refine (if_neg (by decide +kernel)).trans ?_ | exact if_pos rfl)))
    obtain ⟨pre, d, hP, hpv0⟩ : ∃ pre d, PreOk pre d ∧ PV w rest0 vs7 pre := by
      rcases hv8 with rfl | rfl | rfl
      · exact ⟨[(PySem.Str.ofString "word", ω9)], 0, ⟨ω9, [], rfl, hω9, .inl ⟨rfl, rfl⟩⟩, by rw [hv7]; exact .cons ⟨_, _, _, .inl (hin _ (by k_mem) (neN (by omega)) (neN (by omega)))⟩ .nil⟩
      · exact ⟨[(PySem.Str.ofString "word", ω9), (PySem.Str.ofString "word", PySem.Str.ofString "IS")], 1, ⟨ω9, _, rfl, hω9, .inr ⟨rfl, _, rfl, .inl rfl⟩⟩, by rw [hv7]; exact .cons ⟨_, _, _, .inl (hin _ (by k_mem) (neN (by omega)) (neN (by omega)))⟩ (.cons ⟨_, _, _, .inl (hin _ (by k_mem) (neN (by omega)) (neN (by omega)))⟩ .nil)⟩
      · exact ⟨[(PySem.Str.ofString "word", ω9), (PySem.Str.ofString "word", PySem.Str.ofString "ARE")], 1, ⟨ω9, _, rfl, hω9, .inr ⟨rfl, _, rfl, .inr rfl⟩⟩, by rw [hv7]; exact .cons ⟨_, _, _, .inl (hin _ (by k_mem) (neN (by omega)) (neN (by omega)))⟩ (.cons ⟨_, _, _, .inl (hin _ (by k_mem) (neN (by omega)) (neN (by omega)))⟩ .nil)⟩
    refine iter_rangeUnr (n := (1 + k9).toNat) rfl rg9 (by rw [← hnn]; exact rg_small (by omega)) (by rw [← hnn]; exact rg_size _) F10 N10 ?_
    intro I hI
    refine rest_inv (LInv w I tp c cv z pre vs7.length) ?turn ?fin _ 0 _ _ (by omega) ⟨_, vs7, _, _, [], _, _, _, _, [], rest0, _, rfl, rfl, hin _ (by k_mem) (neN (by omega)) (neN (by omega)), hin _ (by k_mem) (neN (by omega)) (neN (by omega)), neN (by omega), Nat.ne_of_gt (hI _ (List.mem_cons_self ..)), Nat.ne_of_gt (hI _ (List.mem_cons_of_mem _ (List.mem_cons_self ..))), fun p hp => ⟨(hout p hp).2.1, (hout p hp).2.2, Nat.ne_of_lt (hI p (List.mem_cons_of_mem _ (List.mem_cons_of_mem _ hp)))⟩, by rw [show rtoks [] = [] from rfl, List.append_nil]; exact hpv0, .nil, rfl, fun r hr => absurd hr List.not_mem_nil, by omega, by omega⟩
    case fin =>
      intro m news h tk hv F N
      obtain ⟨pl, pvs, zp, rl, rvs, zr, at_, ta', tb, rws, rest, u', rfl, rfl, hcr, hpl, n1, n2, n3, hoff, hpv, hdx, hlenr, hok, h0, h1⟩ := hv
      have hpl0 : pvs.length = 1 + d + (rtoks rws).length := by
        have := hpv.1
        have := hP.len
        rw [List.length_append] at *
        omega
      have hd1 : d ≤ 1 := by obtain ⟨_, _, _, _, ⟨h, _⟩ | ⟨h, _⟩⟩ := hP <;> omega
      have hpz : pvs.length < 100 := by
        have := rtoks_len hok
        omega
      have hrn : rws ≠ [] := by
        intro e
        rw [e] at hlenr
        have : (0 : Nat) = (1 + k9).toNat := hlenr
        omega
      have hrl9 : rws.length ≤ 100 := by omega
      have sp1 := @spec_of pre d rws [(PySem.Str.ofString "sign", PySem.Str.ofString "."), (PySem.Str.ofString "word", PySem.Str.ofString "X")] none hP hok (.dot hrn rfl) hrl9
      have sp2 := @spec_of pre d rws [(PySem.Str.ofString "word", PySem.Str.ofString "NAME"), (PySem.Str.ofString "sign", PySem.Str.ofString ".")] (some 0) hP hok (.name hrn rfl) hrl9
      have sp3 := @spec_drop pre d rws [(PySem.Str.ofString "sign", PySem.Str.ofString ".")] hP hok ⟨_, rfl, noHead_of (by decide +kernel) (by decide +kernel) (by decide +kernel) (by decide +kernel)⟩
      have sp4 := @spec_of pre d [] [(PySem.Str.ofString "sign", PySem.Str.ofString ".")] (some 0) hP (fun r hr => absurd hr List.not_mem_nil) (.dot0 rfl rfl) (by decide)
      have sp5 := @spec_of pre d rws [(PySem.Str.ofString "literal", PySem.Str.ofString "z"), (PySem.Str.ofString "word", PySem.Str.ofString "THRU"), (PySem.Str.ofString "word", PySem.Str.ofString "NAME")] (some 2) hP hok (.z [] hrn rfl) hrl9
      simp only [wres, ← hpl0, Nat.add_zero] at sp1 sp2 sp5
      have hbeg : vs7.length = pre.length := hpv0.1
      have hbl : vs7.length ≤ pvs.length := by have := hP.len; omega
      have hpvt : ∀ n', (∀ p ∈ rest, p ∈ n') → PV w n' (pvs.take vs7.length) pre := fun n' hs => by
        have := (hpv.mono hs).take vs7.length
        rwa [show (pre ++ rtoks rws).take vs7.length = pre by rw [hbeg, List.take_left]] at this
      rw [show rtoks [] = [] from rfl, List.append_nil] at sp4
      have stop2 : WStop2 := ⟨⟩
      clear F9 N9 F10 N10
      k_steps
      unfold WHere
      refine cut (EndP s₁.heap s₁.heap.objs.size pl rl pvs rvs zp zr vs7.length tb rest s₁) ?_ ?_
      --[A
      · clear stop2
        k_steps
        unfold WHere
        refine told_v (below_caller _) (by k_asm) (by k_asm) (by k_asm) (by k_asm) rfl (by k_asm) (by k_asm) @sp1 (by k_mem) (by rw [hv7]; exact (hpv.mono fun p hp => by (repeat (first | exact hp | refine List.mem_cons_of_mem _ ?_))).append (.cons ⟨_, _, _, .inl (by k_mem)⟩ (.cons ⟨_, _, _, .inl (by k_mem)⟩ .nil))) (by (have e9 := hpv.1; simp only [List.length_append, List.length_cons, List.length_nil, List.length_drop] at e9 ⊢; omega)) (Nat.le_of_ble_eq_true rfl) (Nat.le_of_ble_eq_true rfl) ?_
        intro hA tkA DA exA FA NA hexA datA
        have hreA : ∀ p ∈ rest, p ∈ exA := fun p hp => hexA _ (by (repeat (first | exact hp | refine List.mem_cons_of_mem _ ?_)))
        have hplA := hreA _ hpl
        have hrlA : (rl, listOf rvs.toArray zr) ∈ exA := hexA _ (by k_mem)
        (try dsimp only)
        (try k_fold)
        k_steps
        refine told_ne (by k_asm) (by k_asm) (by k_asm) datA (fun p hp => by (repeat (first | exact hp | refine List.mem_cons_of_mem _ ?_))) (.tuple (n := 0) (vs := [.ref rl, .int _ _]) (.inl (by k_mem)) (.cons (.list (.inl (by k_mem)) (hdx.mono (onW.mono fun p hp => by (have hp := hreA _ hp; (repeat (first | exact hp | refine List.mem_cons_of_mem _ ?_)))))) (.cons (.int _ _) .nil))) (Nat.le_of_ble_eq_true rfl) ?_
        k_steps
        all_goals (try exact True.intro)
        exact end_p (by k_asm) (by k_asm) (by ((try dsimp only); repeat (first | refine (if_neg (by decide +kernel)).trans ?_ | exact if_pos rfl))) (by ((try dsimp only); repeat (first | refine (if_neg (by decide +kernel)).trans ?_ | exact if_pos rfl))) (by ((try dsimp only); repeat (first | refine (if_neg (by decide +kernel)).trans ?_ | exact if_pos rfl))) (by k_mem) (by k_mem) (fun p hp => by (have hp := hreA _ hp; (repeat (first | exact hp | refine List.mem_cons_of_mem _ ?_))))
      --A]
      · rintro s' ⟨h2, tk2, u2, rfl, F2, N2⟩
        clear F N
        k_steps
        unfold WHere
        refine cut (EndP s₁.heap s₁.heap.objs.size pl rl pvs rvs zp zr vs7.length tb rest s₁) ?_ ?_
        --[B
        · clear stop2
          k_steps
          unfold WHere
          refine told_v (below_caller _) (by k_asm) (by k_asm) (by k_asm) (by k_asm) rfl (by k_asm) (by k_asm) @sp2 (by k_mem) (by rw [hv7]; exact (hpv.mono fun p hp => by (repeat (first | exact hp | refine List.mem_cons_of_mem _ ?_))).append (.cons ⟨_, _, _, .inl (by k_mem)⟩ (.cons ⟨_, _, _, .inl (by k_mem)⟩ .nil))) (by (have e9 := hpv.1; simp only [List.length_append, List.length_cons, List.length_nil, List.length_drop] at e9 ⊢; omega)) (Nat.le_of_ble_eq_true rfl) (Nat.le_of_ble_eq_true rfl) ?_
          intro hB tkB DB exB FB NB hexB datB
          have hreB : ∀ p ∈ rest, p ∈ exB := fun p hp => hexB _ (by (repeat (first | exact hp | refine List.mem_cons_of_mem _ ?_)))
          have hplB := hreB _ hpl
          have hrlB : (rl, listOf rvs.toArray zr) ∈ exB := hexB _ (by k_mem)
          (try dsimp only)
          (try k_fold)
          k_steps
          refine told_ne (by k_asm) (by k_asm) (by k_asm) datB (fun p hp => by (repeat (first | exact hp | refine List.mem_cons_of_mem _ ?_))) (.tuple (n := 0) (vs := [.str _ _, .int _ _]) (.inl (by k_mem)) (.cons (.str _ _) (.cons (.int _ _) .nil))) (Nat.le_of_ble_eq_true rfl) ?_
          k_steps
          all_goals (try exact True.intro)
          exact end_p (by k_asm) (by k_asm) (by ((try dsimp only); repeat (first | refine (if_neg (by decide +kernel)).trans ?_ | exact if_pos rfl))) (by ((try dsimp only); repeat (first | refine (if_neg (by decide +kernel)).trans ?_ | exact if_pos rfl))) (by ((try dsimp only); repeat (first | refine (if_neg (by decide +kernel)).trans ?_ | exact if_pos rfl))) (by k_mem) (by k_mem) (fun p hp => by (have hp := hreB _ hp; (repeat (first | exact hp | refine List.mem_cons_of_mem _ ?_))))
        --B]
        · rintro s' ⟨h3, tk3, u3, rfl, F3, N3⟩
          clear F2 N2
          k_steps
          unfold WHere
          refine cut (EndP s₁.heap s₁.heap.objs.size pl rl pvs rvs zp zr vs7.length tb rest s₁) ?_ ?_
          --[C
          · clear stop2
            k_steps
            unfold WHere
            refine told_v (below_caller _) (by k_asm) (by k_asm) (by k_asm) (by k_asm) rfl (by k_asm) (by k_asm) @sp3 (by k_mem) (by rw [hv7, hvS]; exact ((hpv.mono fun p hp => by (repeat (first | exact hp | refine List.mem_cons_of_mem _ ?_))).drop 1).append (.cons ⟨_, _, _, .inl (by k_mem)⟩ .nil)) (by (have e9 := hpv.1; simp only [List.length_append, List.length_cons, List.length_nil, List.length_drop] at e9 ⊢; omega)) (Nat.le_of_ble_eq_true rfl) (Nat.le_of_ble_eq_true rfl) ?_
            intro hC tkC DC exC FC NC hexC datC
            have hreC : ∀ p ∈ rest, p ∈ exC := fun p hp => hexC _ (by (repeat (first | exact hp | refine List.mem_cons_of_mem _ ?_)))
            have hplC : (pl, listOf pvs.toArray zp) ∈ exC := hexC _ (by k_mem)
            have hrlC : (rl, listOf rvs.toArray zr) ∈ exC := hexC _ (by k_mem)
            (try dsimp only)
            (try k_fold)
            k_steps
            refine told_ne (by k_asm) (by k_asm) (by k_asm) datC (fun p hp => by (repeat (first | exact hp | refine List.mem_cons_of_mem _ ?_))) (.tuple (n := 0) (vs := [.str _ _, .int _ _]) (.inl (by k_mem)) (.cons (.str _ _) (.cons (.int _ _) .nil))) (Nat.le_of_ble_eq_true rfl) ?_
            k_steps
            unfold WHere
            refine told_v (below_caller _) (by k_asm) (by k_asm) (by k_asm) (by k_asm) rfl (by k_asm) (by k_asm) @sp4 (by k_mem) (by rw [hv7, hvS]; exact (hpvt _ fun p hp => by (have hp := hreC _ hp; (repeat (first | exact hp | refine List.mem_cons_of_mem _ ?_)))).append (.cons ⟨_, _, _, .inl (by k_mem)⟩ .nil)) (by (have e9 := hpv.1; simp only [List.length_append, List.length_cons, List.length_nil, List.length_drop] at e9 ⊢; omega)) (Nat.le_of_ble_eq_true rfl) (Nat.le_of_ble_eq_true rfl) ?_
            intro hD tkD DD exD FD ND hexD datD
            have hreD : ∀ p ∈ rest, p ∈ exD := fun p hp => hexD _ (by (have hp := hreC _ hp; (repeat (first | exact hp | refine List.mem_cons_of_mem _ ?_))))
            have hplD : (pl, listOf pvs.toArray zp) ∈ exD := hexD _ (by k_mem)
            have hrlD : (rl, listOf rvs.toArray zr) ∈ exD := hexD _ (by k_mem)
            obtain ⟨txD, yD, tyD, zD, memD⟩ := wrong_at datD
            (try dsimp only)
            (try k_fold)
            k_steps
            all_goals (try exact True.intro)
            exact end_p (by k_asm) (by k_asm) (by ((try dsimp only); repeat (first | refine (if_neg (by decide +kernel)).trans ?_ | exact if_pos rfl))) (by ((try dsimp only); repeat (first | refine (if_neg (by decide +kernel)).trans ?_ | exact if_pos rfl))) (by ((try dsimp only); repeat (first | refine (if_neg (by decide +kernel)).trans ?_ | exact if_pos rfl))) (by k_mem) (by k_mem) (fun p hp => by (have hp := hreD _ hp; (repeat (first | exact hp | refine List.mem_cons_of_mem _ ?_))))
          --C]
          · rintro s' ⟨h4, tk4, u4, rfl, F4, N4⟩
            clear F3 N3
            --[E
            clear stop2
            k_steps
            unfold WHere
            refine told_v (below_caller _) (by k_asm) (by k_asm) (by k_asm) (by k_asm) rfl (by k_asm) (by k_asm) @sp5 (by k_mem) (by rw [hv7]; exact (hpv.mono fun p hp => by (repeat (first | exact hp | refine List.mem_cons_of_mem _ ?_))).append (.cons ⟨_, _, _, .inl (by k_mem)⟩ (.cons ⟨_, _, _, .inl (by k_mem)⟩ (.cons ⟨_, _, _, .inl (by k_mem)⟩ .nil)))) (by (have e9 := hpv.1; simp only [List.length_append, List.length_cons, List.length_nil, List.length_drop] at e9 ⊢; omega)) (Nat.le_of_ble_eq_true rfl) (Nat.le_of_ble_eq_true rfl) ?_
            intro hE tkE DE exE FE NE hexE datE
            have hplE : (pl, listOf pvs.toArray zp) ∈ exE := hexE _ (by k_mem)
            (try dsimp only)
            (try k_fold)
            k_steps
            unfold WHere
            refine told_eq (by k_asm) (by k_asm) (by k_asm) datE (fun p hp => by (repeat (first | exact hp | refine List.mem_cons_of_mem _ ?_))) (dx_wrong (z := 0) (.inl (by k_mem)) (by omega)) (Nat.le_of_ble_eq_true rfl) ?_
            k_steps
            --E]
    case turn =>
      intro i m news t h tk hi hv F N
      obtain ⟨pl, pvs, zp, rl, rvs, zr, at_, ta', tb, rws, rest, u', rfl, rfl, hcr, hpl, n1, n2, n3, hoff, hpv, hdx, hlenr, hok, h0, h1⟩ := hv
      have hsz : rvs.toArray.size ≤ sizeLine := by
        have := hdx.len
        rw [List.length_map] at this
        rw [sizeLine_eq, List.size_toArray]
        omega
      have hpz : pvs.length < 100 := by
        have := hpv.1
        have := rtoks_len hok
        have := hP.len
        rw [List.length_append] at *
        have : d ≤ 1 := by obtain ⟨_, _, _, _, ⟨h, _⟩ | ⟨h, _⟩⟩ := hP <;> omega
        omega
      clear F9 N9
      k_steps
      · exact end_way1 (pl := pl) (zp := zp) (vs7 := vs7) (D' := D') F' N' (by k_mem) (by k_mem) (by k_mem) (by k_mem) (by k_mem) (by k_mem) (fun p hp => by (repeat (first | exact hp | refine List.mem_cons_of_mem _ ?_))) hω9 (by assumption) pv6 (by assumption) (by rw [hv7]; congr 1) (by assumption) hf9 ⟨ltN (by omega), ltN (by omega), ltN (by omega)⟩ ⟨ltN (by omega), ltN (by omega), ltN (by omega)⟩ ⟨ltN (by omega), ltN (by omega), ltN (by omega)⟩ (by ((try dsimp only); repeat (first | refine (if_neg (by decide +kernel)).trans ?_ | exact if_pos rfl))) (by ((try dsimp only); repeat (first | refine (if_neg (by decide +kernel)).trans ?_ | exact if_pos rfl))) (by ((try dsimp only); repeat (first | refine (if_neg (by decide +kernel)).trans ?_ | exact if_pos rfl))) (by ((try dsimp only); repeat (first | refine (if_neg (by decide +kernel)).trans ?_ | exact if_pos rfl))) hcr n1 n2 n3 hoff hpv hdx hlenr hok (by omega) (by omega)
      · exact end_way0 (pl := pl) (zp := zp) (D2 := D') (vs5 := []) (vs4 := []) (g := 0) F' N' (by k_mem) (by k_mem) (by k_mem) (by k_mem) (by k_mem) (fun p hp => by (repeat (first | exact hp | refine List.mem_cons_of_mem _ ?_))) pv6 hv7 hf9 ⟨ltN (by omega), ltN (by omega), ltN (by omega)⟩ ⟨ltN (by omega), ltN (by omega), ltN (by omega)⟩ (by ((try dsimp only); repeat (first | refine (if_neg (by decide +kernel)).trans ?_ | exact if_pos rfl))) (by ((try dsimp only); repeat (first | refine (if_neg (by decide +kernel)).trans ?_ | exact if_pos rfl))) (by ((try dsimp only); repeat (first | refine (if_neg (by decide +kernel)).trans ?_ | exact if_pos rfl))) (by ((try dsimp only); repeat (first | refine (if_neg (by decide +kernel)).trans ?_ | exact if_pos rfl))) hcr n1 n2 n3 hoff hpv hdx hlenr hok (by omega) (by omega)

end Mine
end Part21
theorem PySem.Challenge.cw_pb0262_01_holds : PySem.Challenge.rw_pb0262_01.Holds :=
  Mine.t
